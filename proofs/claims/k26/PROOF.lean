import PyProof.Rows.All
import Wide.All
import OpenK.AllK
import Wide.FinOn
import KE.KStateDown
import Lean
import HandS.ForMost
import HandS.ForExc
import HandS.Walk
import HandS.Deep
import HandS.Style
import HandS.Sort
import HandS.SortRule
import HandS.SortInts
import HandS.SortOrd
import HandS.TupLe
import HandS.TupSets
import HandS.SetFor
import HandS.Strs
import HandS.Conv
import HandS.IsInst
import HandS.CallLocal
import HandS.Wide
import HandS.More
import HandS.Defaults
import HandS.EndBits
import HandS.Lambda
import HandS.Head0
import HandS.Head1
import HandS.Head2
import HandS.HeadEnd
import HandS.HeadHook1
import HandS.HeadHook2
import HandS.TupAny
import KE.SortData
import KE.DataMinMax
import HandS.ExcCtx
import HandS.Zip
import HandS.TryOnly
import KE.KDictZip
import KE.KDictList
import KE.DataFind
import HandS.HotCalls
import HandS.ExcIs
import HandS.CallSlots
import HandS.Nested
import HandS.HeadHook4
import HandS.HeadWalk
import PySem.Challenge.RW_tieweb_k26_bad_anywhere
set_option Elab.async false
set_option linter.all false
set_option maxRecDepth 100000
set_option maxHeartbeats 4000000
namespace TW
open PySem PySem.Spec PyProof.Rows L2
def insC (C : Nat) : Bool := C == 6 || C == 7
def excC (C : Nat) : Bool := decide (C < 12) && !(C == 5 || C == 6 || C == 7)
def obsX (fa : List He.Fa) (fb : List (PySem.W.Frag → Bool)) (fn : List He.DefD) (K : PySem.W.Frag) : He.AlD := ((He.obsD fa fn K).1 && fb.all (fun f => f K), (He.obsD fa fn K).2)
def SaysX (fa : List He.Fa) (fb : List (PySem.W.Frag → Bool)) (fn : List He.DefD) (K : PySem.W.Frag) : Prop := He.SaysD fa fn K ∧ fb.all (fun f => f K) = true
def obsXG (n : Nat) (fa : List He.Fa) (fb : List (PySem.W.Frag → Bool)) (fn : List He.DefD) (g : Addr → Option Obj) : He.AlD := obsX fa fb fn (He.frG g (He.asD g n))
theorem obsX_says {fa : List He.Fa} {fb : List (PySem.W.Frag → Bool)} {fn : List He.DefD} {K : PySem.W.Frag} (e : obsX fa fb fn K = He.valD fn) : SaysX fa fb fn K := by
  have e1 : (obsX fa fb fn K).1 = (He.valD fn).1 := by rw [e]
  have e2 : (obsX fa fb fn K).2 = (He.valD fn).2 := by rw [e]
  have e1 : ((He.obsD fa fn K).1 && fb.all (fun f => f K)) = true := e1
  obtain ⟨h1, h2⟩ := Bool.and_eq_true_iff.mp e1
  exact ⟨Prod.ext h1 e2, h2⟩
def hookX (n : Nat) (fa : List He.Fa) (fb : List (PySem.W.Frag → Bool)) (fn : List He.DefD) : PySem.W.Hook where
  α := He.AlD
  obs := fun s => obsXG n fa fb fn s.heap.get?
  val := fun _ => He.valD fn
  says := fun _ h => ∃ K : PySem.W.Frag, K.In h ∧ SaysX fa fb fn K
  of := fun _ _ e => ⟨_, He.frG_in, obsX_says e⟩
  keeps := fun _ _ _ ⟨K, hK, c⟩ k => ⟨K, PySem.W.Frag.In.keeps hK k, c⟩
def kitB2 (a b : Value) (r : Bool) (K : PySem.W.Frag) : Bool := decide (PySem.W.kitOne K a b = some r)
def allE (p : Nat → Bool) : Bool := [0, 1, 2, 3, 4, 8, 9, 10, 11].all p
def excB (K : PySem.W.Frag) (D : Addr) : Bool := He.eqO (PySem.W.findIn K (.ref D) "__getattribute__") (some (some (.builtin "BaseException.__getattribute__"))) && (He.eqO (PySem.W.findIn K (.ref D) "__getattr__") (some none) &&
  (decide (PySem.W.subIn K (.ref D) (.type "BaseException") = some true) && (PySem.W.hasDictIn K D && (He.eqO (PySem.W.findIn K (.ref D) "__class__") (some (some (.builtin "object.__class__"))) &&
    (He.eqO (PySem.W.specialIn K (.builtin "object.__class__") "__get__") (some (some (.builtin "getset_descriptor.__get__"))) && (decide (PySem.W.takesIn K (.builtin "object.__class__") = some true) && decide (PySem.W.mroIn K D (.type "object") = some true)))))))
def excsB (ca : Nat → Addr) (K : PySem.W.Frag) : Bool := allE fun C => excB K (ca C)
def kxB (ca : Nat → Addr) (u : Value) (cs : List Nat) (K : PySem.W.Frag) : Bool := allE fun C => kitB2 (.ref (ca C)) u (cs.contains C) K
def exmB (ca : Nat → Addr) (u : Value) (K : PySem.W.Frag) : Bool := allE fun C => decide (PySem.W.exmOne K (.ref (ca C)) u = some true)
end TW
namespace k26_bad_anywhere
open PySem PySem.Spec PyProof.Rows L2 TW
def top (i : Nat) : Stmt := PySem.Challenge.pw_tieweb_k26_bad_anywhere.main.body.getD i (.Pass ⟨0, 0, 0, 0⟩)
def d0 : He.DefD := ⟨("is_whole", none), "is_whole", "is_whole", defArgs (top 14), defBody (top 14), defScope (top 14), [], []⟩
def d1 : He.DefD := ⟨("is_below", none), "is_below", "is_below", defArgs (top 15), defBody (top 15), defScope (top 15), [], []⟩
def d2 : He.DefD := ⟨("is_tie", none), "is_tie", "is_tie", defArgs (top 16), defBody (top 16), defScope (top 16), [], []⟩
def d3 : He.DefD := ⟨("is_web", none), "is_web", "is_web", defArgs (top 17), defBody (top 17), defScope (top 17), [], []⟩
def d4 : He.DefD := ⟨("check_web", none), "check_web", "check_web", defArgs (top 18), defBody (top 18), defScope (top 18), [], []⟩
def d5 : He.DefD := ⟨("check_small", none), "check_small", "check_small", defArgs (top 19), defBody (top 19), defScope (top 19), [], []⟩
def d6 : He.DefD := ⟨("check_places", none), "check_places", "check_places", defArgs (top 20), defBody (top 20), defScope (top 20), [], []⟩
def d7 : He.DefD := ⟨("near_of", none), "near_of", "near_of", defArgs (top 21), defBody (top 21), defScope (top 21), [], []⟩
def d8 : He.DefD := ⟨("near", none), "near", "near", defArgs (top 22), defBody (top 22), defScope (top 22), [], []⟩
def d9 : He.DefD := ⟨("pieces_of", none), "pieces_of", "pieces_of", defArgs (top 23), defBody (top 23), defScope (top 23), [], []⟩
def d10 : He.DefD := ⟨("pieces", none), "pieces", "pieces", defArgs (top 24), defBody (top 24), defScope (top 24), [], []⟩
def d11 : He.DefD := ⟨("cut_of", none), "cut_of", "cut_of", defArgs (top 25), defBody (top 25), defScope (top 25), [], []⟩
def d12 : He.DefD := ⟨("are_places", none), "are_places", "are_places", defArgs (top 26), defBody (top 26), defScope (top 26), [], []⟩
def d13 : He.DefD := ⟨("cut_down", none), "cut_down", "cut_down", defArgs (top 27), defBody (top 27), defScope (top 27), [], []⟩
def d14 : He.DefD := ⟨("check_order", none), "check_order", "check_order", defArgs (top 28), defBody (top 28), defScope (top 28), [], []⟩
def d15 : He.DefD := ⟨("renamed_by", none), "renamed_by", "renamed_by", defArgs (top 29), defBody (top 29), defScope (top 29), [], []⟩
def d16 : He.DefD := ⟨("renamed", none), "renamed", "renamed", defArgs (top 30), defBody (top 30), defScope (top 30), [], []⟩
def d17 : He.DefD := ⟨("beside", none), "beside", "beside", defArgs (top 31), defBody (top 31), defScope (top 31), [], []⟩
def d18 : He.DefD := ⟨("is_cover_of", none), "is_cover_of", "is_cover_of", defArgs (top 33), defBody (top 33), defScope (top 33), [], []⟩
def d19 : He.DefD := ⟨("check_cover", none), "check_cover", "check_cover", defArgs (top 35), defBody (top 35), defScope (top 35), [], []⟩
def d20 : He.DefD := ⟨("ends_of", none), "ends_of", "ends_of", defArgs (top 36), defBody (top 36), defScope (top 36), [], []⟩
def d21 : He.DefD := ⟨("root_by", none), "root_by", "root_by", defArgs (top 37), defBody (top 37), defScope (top 37), [], []⟩
def d22 : He.DefD := ⟨("root_of", none), "root_of", "root_of", defArgs (top 38), defBody (top 38), defScope (top 38), [], []⟩
def d23 : He.DefD := ⟨("groups_at", none), "groups_at", "groups_at", defArgs (top 39), defBody (top 39), defScope (top 39), [], []⟩
def d24 : He.DefD := ⟨("check_row", none), "check_row", "check_row", defArgs (top 41), defBody (top 41), defScope (top 41), [], []⟩
def d25 : He.DefD := ⟨("squares", none), "squares", "squares", defArgs (top 42), defBody (top 42), defScope (top 42), [], []⟩
def d26 : He.DefD := ⟨("by_groups", none), "by_groups", "by_groups", defArgs (top 43), defBody (top 43), defScope (top 43), [], []⟩
def d27 : He.DefD := ⟨("tied_many", none), "tied_many", "tied_many", defArgs (top 45), defBody (top 45), defScope (top 45), [], []⟩
def d28 : He.DefD := ⟨("_law_all_tied", none), "_law_all_tied", "_law_all_tied", defArgs (top 48), defBody (top 48), defScope (top 48), [], []⟩
def d29 : He.DefD := ⟨("law", none), "law", "law", defArgs (top 53), defBody (top 53), defScope (top 53), [], []⟩
def d30 : He.DefD := ⟨("_law_webs_right", none), "_law_webs_right", "_law_webs_right", defArgs (top 49), defBody (top 49), defScope (top 49), [], []⟩
def d31 : He.DefD := ⟨("_law_web_doors", none), "_law_web_doors", "_law_web_doors", defArgs (top 50), defBody (top 50), defScope (top 50), [], []⟩
def d32 : He.DefD := ⟨("_law_rows_right", none), "_law_rows_right", "_law_rows_right", defArgs (top 51), defBody (top 51), defScope (top 51), [], []⟩
def d33 : He.DefD := ⟨("_law_groups_right", none), "_law_groups_right", "_law_groups_right", defArgs (top 52), defBody (top 52), defScope (top 52), [], []⟩
def d34 : He.DefD := ⟨("_law_refused", none), "_law_refused", "_law_refused", defArgs (top 47), defBody (top 47), defScope (top 47), [], []⟩
def fn : List He.DefD := [d0, d1, d2, d3, d4, d5, d6, d7, d8, d9, d10, d11, d12, d13, d14, d15, d16, d17, d18, d19, d20, d21, d22, d23, d24, d25, d26, d27, d28, d29, d30, d31, d32, d33, d34]
def mkl : List (He.Defn × Str) := [(("_law_webs_right", none), ((("_law_webs_right" : Str) ++ (".<locals>." : Str)) ++ ("<lambda>" : Str))), (("_law_web_doors", none), ((("_law_web_doors" : Str) ++ (".<locals>." : Str)) ++ ("<lambda>" : Str))), (("_law_rows_right", none), ((("_law_rows_right" : Str) ++ (".<locals>." : Str)) ++ ("<lambda>" : Str))), (("_law_groups_right", none), ((("_law_groups_right" : Str) ++ (".<locals>." : Str)) ++ ("<lambda>" : Str)))]
def cad (K : PySem.W.Frag) (n : Nat) : Addr := He.ga K (["WebError", "BadWeb", "BadPlaces", "BadOrder", "TooMany", "Answer", "Cover", "Barred", "BadGroups", "BadRow", "BadColours", "NoCover"].getD n "")
def fa : List He.Fa := [.glo "is_whole", .glo "is_below", .glo "is_tie", .glo "is_web", .glo "check_web", .glo "check_small", .glo "check_places", .glo "near_of", .glo "near", .glo "pieces_of", .glo "pieces", .glo "cut_of", .glo "are_places", .glo "cut_down", .glo "check_order", .glo "renamed_by", .glo "renamed", .glo "beside", .glo "is_cover_of", .glo "check_cover", .glo "ends_of", .glo "root_by", .glo "root_of", .glo "groups_at", .glo "check_row", .glo "squares", .glo "by_groups", .glo "tied_many", .glo "_law_all_tied", .glo "law", .glo "_law_webs_right", .glo "_law_web_doors", .glo "_law_rows_right", .glo "_law_groups_right", .glo "_law_refused", .free "abs", .free "all", .free "bool", .free "enumerate", .free "int", .free "isinstance", .free "len", .free "list", .free "max", .free "min", .free "range", .free "set", .free "sorted", .free "sum", .free "tuple", .free "zip", .int "MOST_PLACES" 24, .int "MOST_TIES" 66, .int "SMALL" 10, .glo "WebError", .exc "WebError", .glo "BadWeb", .exc "BadWeb", .glo "BadPlaces", .exc "BadPlaces", .glo "BadOrder", .exc "BadOrder", .glo "BadGroups", .exc "BadGroups", .glo "BadRow", .exc "BadRow", .glo "BadColours", .exc "BadColours", .glo "TooMany", .exc "TooMany", .glo "NoCover", .exc "NoCover"]
def fb : List (PySem.W.Frag → Bool) := [(fun K => excsB (cad K) K), (fun K => exmB (cad K) (.ref (cad K 0)) K), (fun K => kxB (cad K) (.ref (cad K 10)) ([10, 99] : List Nat) K), (fun K => kxB (cad K) (.ref (cad K 8)) ([8, 99] : List Nat) K), (fun K => kxB (cad K) (.ref (cad K 3)) ([3, 99] : List Nat) K), (fun K => kxB (cad K) (.ref (cad K 2)) ([2, 99] : List Nat) K), (fun K => kxB (cad K) (.ref (cad K 9)) ([9, 99] : List Nat) K), (fun K => kxB (cad K) (.ref (cad K 1)) ([1, 99] : List Nat) K), (fun K => kxB (cad K) (.ref (cad K 11)) ([11, 99] : List Nat) K), (fun K => kxB (cad K) (.ref (cad K 4)) ([4, 99] : List Nat) K), (fun K => decide ((mkl.map fun m => (He.cT K m.1).2).Nodup))]
abbrev R : PySem.W.OpenRow := PySem.W.OpenLaw.row PySem.Challenge.rw_tieweb_k26_bad_anywhere
def tf : List He.Defn := mkl.map fun m => m.1
abbrev hk : PySem.W.Hook := He.hookX 4 fa fn [] tf (fun K => fb.all fun f => f K)
def ob (s : PySem.W.SharedT) : He.AlX := He.obsX 4 fa fn [] tf (fun K => fb.all fun f => f K) (HandSHeadRun.getT s)
theorem ob_eq (s : PySem.W.SharedT) : ob s = hk.obs s.abs := He.obsX_eq (HandSHeadRun.getT_eq s)
def loose : List PySem.Str := (["is_whole", "is_below", "is_tie", "is_web", "check_web", "check_small", "check_places", "near_of", "near", "pieces_of", "pieces", "cut_of", "are_places", "cut_down", "check_order", "renamed_by", "renamed", "beside", "is_cover_of", "check_cover", "ends_of", "root_by", "root_of", "groups_at", "check_row", "squares", "by_groups", "tied_many", "_law_refused", "_law_all_tied"] : List PySem.Str) ++ (["_law_webs_right", "_law_web_doors", "_law_rows_right", "_law_groups_right", "MOST_PLACES", "MOST_TIES", "SMALL", "WebError", "BadWeb", "BadPlaces", "BadOrder", "BadGroups", "BadRow", "BadColours", "TooMany", "NoCover"] : List PySem.Str)
theorem hrun (w : World) : HandSHeadRun.RunEq R (PySem.W.view R.prog [53]) hk ob 4000 loose w := by
  intro os
  kernel_rfl
end k26_bad_anywhere
set_option Elab.async false
set_option linter.all false
set_option maxRecDepth 100000
set_option maxHeartbeats 4000000
namespace TW
open PySem PySem.Spec PyProof.Rows L2

structure LT where
  params : Arguments
  body : Expr
  scope : Scope
structure CW where
  cells : List (Str × Addr)
  lt : Nat → LT
  q : Str
  gs : List Nat
  us : List Str
  cv : List V
def LamO (a : Addr) (w : CW) (g : Nat) (c : Addr) : HO := .ext fun h => ∃ pm ctv : Value, h.get? a = some (PySem.W.kla_obj "<lambda>" w.q (w.lt g).params (w.lt g).body (w.lt g).scope (cloFrom w.cells (w.lt g).scope.names []) pm c ctv)
theorem lamO_ne {a c : Addr} {w : CW} {g : Nat} (ps : Array Value) : LamO a w g c ≠ .tbl ps := fun z => by
  unfold LamO at z
  cases z
structure Wd where
  K : PySem.W.Frag
  fa : Nat → Addr
  ca : Nat → Addr
  ex : Option (Addr × Nat)
  cl : Option CW
  th : Option Hp

inductive D where
  | non
  | bl (b : Bool)
  | int (i : Int)
  | str (x : Str)
  | fn (x : Nat)
  | tup (ds : List D)
  | lst (ds : List D)
  | scr (ns : List Int)
  | dic (ks : List Int)
  | ins (C : Nat) (f : Str) (d : D)
  | exc (C : Nat)
  | clo (g : Nat) (cap : List D)

inductive Md where
  | sh | fl | dp
  deriving DecidableEq

mutual
def lfree : D → Bool
  | .tup ds => lfrees ds
  | .lst _ => false
  | .dic _ => false
  | .ins _ _ d => lfree d
  | .non => true
  | .bl _ => true
  | .int _ => true
  | .str _ => true
  | .fn _ => true
  | .scr _ => true
  | .exc _ => true
  | .clo _ cap => lfrees cap
def lfrees : List D → Bool
  | [] => true
  | d :: ds => lfree d && lfrees ds
end

class TabT where
  T : List (Addr × Str)
instance (priority := low) noTabs : TabT := ⟨[]⟩
variable [TabT]
def Same (H H' : Hp) : Prop := (∀ b o, H b = some o → (∀ ps, o ≠ .tbl ps) → H' b = some o) ∧ (∀ p ∈ TabT.T, LamX.TabS H p.1 p.2 → LamX.TabS H' p.1 p.2) ∧ ∀ b, H' b = none → H b = none
section
variable {H H' H1 : Hp}
theorem Same.at (s : Same H H') {b : Addr} {o : HO} (h : H b = some o) (n : ∀ ps, o ≠ .tbl ps := by intro ps z; cases z) : H' b = some o := s.1 b o h n
theorem Same.free (s : Same H H') {l : Addr} (h : H' l = none) : H l = none := s.2.2 l h
theorem Same.of (e : L2.Same H H') : Same H H' := ⟨fun b o h _ => e b o h, fun p _ t => t.ext e, fun b h => L2.Same.free e h⟩
theorem Same.refl (H : Hp) : Same H H := Same.of (L2.Same.refl H)
theorem Same.trans (a : Same H H1) (b : Same H1 H') : Same H H' := ⟨fun c o h n => b.1 c o (a.1 c o h n) n, fun p hp t => b.2.1 p hp (a.2.1 p hp t), fun c h => a.2.2 c (b.2.2 c h)⟩
end
def KLst (K : PySem.W.Frag) (a : Addr) (xs : List V) : Prop :=
  ∃ (o : Obj) (its : Array Value) (n : Nat), K.lookup a = some o ∧ o.cls = .type "list" ∧ o.dict = none ∧ o.data = .seq its n ∧ its.size ≤ sizeLine ∧ Vals xs its.toList
def ScrAt (K : PySem.W.Frag) (H : Hp) (a : Addr) (xs : List V) : Prop := (∃ o, H a = some (.frz o (.lst xs))) ∨ KLst K a xs
theorem ScrAt.sq {K : PySem.W.Frag} {H : Hp} {a : Addr} {xs : List V} (h : ScrAt K H a xs) : SqL K H a xs := by
  rcases h with ⟨o, h⟩ | h
  · exact .inl (.inr ⟨o, h⟩)
  · exact .inr h
abbrev dicV (ks : List Int) : List (Key × V) := ks.map fun k => (Sum.inl k, V.bl true)
mutual
def Rp (W : Wd) (H : Hp) (O : Addr → Prop) : D → V → Prop
  | .non, v => v = .non
  | .bl b, v => v = .bl b
  | .int i, v => v = .int i
  | .str x, v => v = .str x
  | .fn x, v => v = .ref (W.fa x)
  | .tup ds, v => ∃ a vs, v = .ref a ∧ H a = some (.tup vs) ∧ vs.length ≤ sizeLine ∧ Rps W H O ds vs
  | .lst ds, v => ∃ a vs, v = .ref a ∧ ¬ O a ∧ H a = some (.lst vs) ∧ vs.length ≤ sizeLine ∧ Rps W H O ds vs
  | .scr ns, v => ∃ a, v = .ref a ∧ ScrAt W.K H a (ns.map V.int) ∧ ns.length ≤ sizeLine
  | .dic ks, v => ∃ a, v = .ref a ∧ ¬ O a ∧ H a = some (.dK (dicV ks)) ∧ ks.length ≤ sizeLine
  | .ins C f d, v => ∃ a dx fv, v = .ref a ∧ H a = some (.ins (W.ca C) dx [(f, fv)]) ∧ Rp W H O d fv
  | .exc C, v => ∃ a, v = .ref a ∧ W.ex = some (a, C)
  | .clo g cap, v => ∃ a c w, v = .ref a ∧ (W.cl = some w ∧ g ∈ w.gs) ∧ H a = some (LamO a w g c) ∧ H c = some (LamX.CodeO c w.q) ∧ Rps W H O cap w.cv
def Rps (W : Wd) (H : Hp) (O : Addr → Prop) : List D → List V → Prop
  | [], vs => vs = []
  | d :: ds, vs => ∃ v r, vs = v :: r ∧ Rp W H O d v ∧ Rps W H O ds r
end
mutual
/-- as Rp, with the list of all its changeable cells -/
def Dq (W : Wd) (H : Hp) : D → V → List Addr → Prop
  | .non, v, F => v = .non ∧ F = []
  | .bl b, v, F => v = .bl b ∧ F = []
  | .int i, v, F => v = .int i ∧ F = []
  | .str x, v, F => v = .str x ∧ F = []
  | .fn x, v, F => v = .ref (W.fa x) ∧ F = []
  | .tup ds, v, F => ∃ a vs, v = .ref a ∧ H a = some (.tup vs) ∧ vs.length ≤ sizeLine ∧ Dqs W H ds vs F
  | .lst ds, v, F => ∃ a vs G, v = .ref a ∧ F = a :: G ∧ H a = some (.lst vs) ∧ vs.length ≤ sizeLine ∧ Dqs W H ds vs G
  | .scr ns, v, F => (∃ a, v = .ref a ∧ ScrAt W.K H a (ns.map V.int) ∧ ns.length ≤ sizeLine) ∧ F = []
  | .dic ks, v, F => ∃ a, v = .ref a ∧ F = [a] ∧ H a = some (.dK (dicV ks)) ∧ ks.length ≤ sizeLine
  | .ins C f d, v, F => ∃ a dx fv, v = .ref a ∧ H a = some (.ins (W.ca C) dx [(f, fv)]) ∧ Dq W H d fv F
  | .exc C, v, F => (∃ a, v = .ref a ∧ W.ex = some (a, C)) ∧ F = []
  | .clo g cap, v, F => ∃ a c w, v = .ref a ∧ (W.cl = some w ∧ g ∈ w.gs) ∧ H a = some (LamO a w g c) ∧ H c = some (LamX.CodeO c w.q) ∧ Dqs W H cap w.cv F
def Dqs (W : Wd) (H : Hp) : List D → List V → List Addr → Prop
  | [], vs, F => vs = [] ∧ F = []
  | d :: ds, vs, F => ∃ v r F1 F2, vs = v :: r ∧ F = F1 ++ F2 ∧ Dq W H d v F1 ∧ Dqs W H ds r F2
end

section
variable {W : Wd} {K : PySem.W.Frag} {H H' : Hp} {O O' : Addr → Prop}
def MutC : HO → Prop
  | .lst _ => True
  | .dK _ => True
  | _ => False
theorem MutC.nt {o : HO} (m : MutC o) : ∀ ps, o ≠ .tbl ps := fun ps e => by
  rw [e] at m
  exact m

theorem tabs_updF {H : Hp} {p : Addr} {o x : HO} (hp : H p = some o) (n1 : ∀ ps, o ≠ .tbl ps) (n2 : ∀ c q, o ≠ LamX.CodeO c q) {P : Addr} {q : Str} (t : LamX.TabS H P q) : LamX.TabS (L2.upd H p x) P q := by
  obtain ⟨ps, h1, h2, h3⟩ := t
  have ne : ∀ {a : Addr} {u : HO}, H a = some u → o ≠ u → a ≠ p := fun {a u} e n z => by
    rw [z, hp] at e
    exact n (Option.some.inj e)
  refine ⟨ps, by rw [upd_ne (ne h1 (n1 _))]; exact h1, h2, fun pos cv hc => ?_⟩
  obtain ⟨c, e1, e2⟩ := h3 pos cv hc
  exact ⟨c, e1, by rw [upd_ne (ne e2 (n2 _ _))]; exact e2⟩
theorem Same.updF {H H1 : Hp} {p : Addr} {o x : HO} (s : Same H H1) (n : H p = none) (h : H1 p = some o) (n1 : ∀ ps, o ≠ .tbl ps) (n2 : ∀ c q, o ≠ LamX.CodeO c q) : Same H (L2.upd H1 p x) := by
  refine ⟨fun b u e k => ?_, fun p hp t => tabs_updF h n1 n2 (s.2.1 p hp t), fun b e => ?_⟩
  · rw [upd_ne (ne_of_none e n)]
    exact s.1 b u e k
  · by_cases z : b = p
    · rw [z]; exact n
    · rw [upd_ne z] at e
      exact s.free e
theorem MutC.nc {o : HO} (m : MutC o) : ∀ c q, o ≠ LamX.CodeO c q := fun c q e => by
  rw [e] at m
  unfold LamX.CodeO at m
  exact m
theorem Same.upd {H H1 : Hp} {p : Addr} {o x : HO} (s : Same H H1) (n : H p = none) (h : H1 p = some o) (m : MutC o) : Same H (L2.upd H1 p x) := s.updF n h m.nt m.nc
mutual
theorem Rp.mono (s : Same H H') (ho : ∀ a, O' a → O a) : ∀ (d : D) (v : V), Rp W H O d v → Rp W H' O' d v
  | .non, v, h => h
  | .bl _, v, h => h
  | .int _, v, h => h
  | .str _, v, h => h
  | .fn _, v, h => h
  | .exc _, v, h => h
  | .clo g cap, v, h => by
    obtain ⟨a, c, w, e, hw, h1, h2, h3⟩ := h
    exact ⟨a, c, w, e, hw, s.at h1 lamO_ne, s.at h2 LamX.codeO_ne, Rps.mono s ho cap _ h3⟩
  | .tup ds, v, h => by
    obtain ⟨a, vs, e, h1, h2, h3⟩ := h
    exact ⟨a, vs, e, s.at h1, h2, Rps.mono s ho ds vs h3⟩
  | .lst ds, v, h => by
    obtain ⟨a, vs, e, h0, h1, h2, h3⟩ := h
    exact ⟨a, vs, e, fun z => h0 (ho a z), s.at h1, h2, Rps.mono s ho ds vs h3⟩
  | .scr ns, v, h => by
    obtain ⟨a, e, h1, h2⟩ := h
    refine ⟨a, e, ?_, h2⟩
    rcases h1 with ⟨o, h1⟩ | h1
    · exact .inl ⟨o, s.at h1⟩
    · exact .inr h1
  | .dic ks, v, h => by
    obtain ⟨a, e, h0, h1, h2⟩ := h
    exact ⟨a, e, fun z => h0 (ho a z), s.at h1, h2⟩
  | .ins C f d, v, h => by
    obtain ⟨a, dx, fv, e, h1, h3⟩ := h
    exact ⟨a, dx, fv, e, s.at h1, Rp.mono s ho d fv h3⟩
theorem Rps.mono (s : Same H H') (ho : ∀ a, O' a → O a) : ∀ (ds : List D) (vs : List V), Rps W H O ds vs → Rps W H' O' ds vs
  | [], vs, h => h
  | d :: ds, vs, h => by
    obtain ⟨v, r, e, h1, h2⟩ := h
    exact ⟨v, r, e, Rp.mono s ho d v h1, Rps.mono s ho ds r h2⟩
end
mutual
theorem Dq.mono (s : Same H H') : ∀ (d : D) (v : V) (F : List Addr), Dq W H d v F → Dq W H' d v F
  | .non, v, F, h => h
  | .bl _, v, F, h => h
  | .int _, v, F, h => h
  | .str _, v, F, h => h
  | .fn _, v, F, h => h
  | .exc _, v, F, h => h
  | .clo g cap, v, F, h => by
    obtain ⟨a, c, w, e, hw, h1, h2, h3⟩ := h
    exact ⟨a, c, w, e, hw, s.at h1 lamO_ne, s.at h2 LamX.codeO_ne, Dqs.mono s cap _ F h3⟩
  | .tup ds, v, F, h => by
    obtain ⟨a, vs, e, h1, h2, h3⟩ := h
    exact ⟨a, vs, e, s.at h1, h2, Dqs.mono s ds vs F h3⟩
  | .lst ds, v, F, h => by
    obtain ⟨a, vs, G, e, eF, h1, h2, h3⟩ := h
    exact ⟨a, vs, G, e, eF, s.at h1, h2, Dqs.mono s ds vs G h3⟩
  | .scr ns, v, F, h => by
    obtain ⟨⟨a, e, h1, h2⟩, eF⟩ := h
    refine ⟨⟨a, e, ?_, h2⟩, eF⟩
    rcases h1 with ⟨o, h1⟩ | h1
    · exact .inl ⟨o, s.at h1⟩
    · exact .inr h1
  | .dic ks, v, F, h => by
    obtain ⟨a, e, eF, h1, h2⟩ := h
    exact ⟨a, e, eF, s.at h1, h2⟩
  | .ins C f d, v, F, h => by
    obtain ⟨a, dx, fv, e, h1, h3⟩ := h
    exact ⟨a, dx, fv, e, s.at h1, Dq.mono s d fv F h3⟩
theorem Dqs.mono (s : Same H H') : ∀ (ds : List D) (vs : List V) (F : List Addr), Dqs W H ds vs F → Dqs W H' ds vs F
  | [], vs, F, h => h
  | d :: ds, vs, F, h => by
    obtain ⟨v, r, F1, F2, e, eF, h1, h2⟩ := h
    exact ⟨v, r, F1, F2, e, eF, Dq.mono s d v F1 h1, Dqs.mono s ds r F2 h2⟩
end
theorem upd_out {p a : Addr} {o u x : HO} (hp : H p = some o) (ha : H a = some u) (m : MutC o) (n : ¬ MutC u) : upd H p x a = some u := by
  have : a ≠ p := fun e => by
    rw [e, hp] at ha
    exact n (Option.some.inj ha ▸ m)
  rw [upd_ne this]
  exact ha
theorem ScrAt.upd {p a : Addr} {o x : HO} {xs : List V} (hp : H p = some o) (m : MutC o) (h : ScrAt K H a xs) : ScrAt K (upd H p x) a xs := by
  rcases h with ⟨ob, h⟩ | h
  · exact .inl ⟨ob, upd_out hp h m (fun z => z)⟩
  · exact .inr h
mutual
theorem Rp.upd {p : Addr} {o x : HO} (hp : H p = some o) (m : MutC o) (op : O p) : ∀ (d : D) (v : V), Rp W H O d v → Rp W (upd H p x) O d v
  | .non, v, h => h
  | .bl _, v, h => h
  | .int _, v, h => h
  | .str _, v, h => h
  | .fn _, v, h => h
  | .exc _, v, h => h
  | .clo g cap, v, h => by
    obtain ⟨a, c, w, e, hw, h1, h2, h3⟩ := h
    exact ⟨a, c, w, e, hw, upd_out hp h1 m (fun z => z), upd_out hp h2 m (fun z => z), Rps.upd hp m op cap _ h3⟩
  | .tup ds, v, h => by
    obtain ⟨a, vs, e, h1, h2, h3⟩ := h
    exact ⟨a, vs, e, upd_out hp h1 m (fun z => z), h2, Rps.upd hp m op ds vs h3⟩
  | .lst ds, v, h => by
    obtain ⟨a, vs, e, h0, h1, h2, h3⟩ := h
    have ne : a ≠ p := fun z => h0 (z ▸ op)
    exact ⟨a, vs, e, h0, by rw [upd_ne ne]; exact h1, h2, Rps.upd hp m op ds vs h3⟩
  | .scr ns, v, h => by
    obtain ⟨a, e, h1, h2⟩ := h
    exact ⟨a, e, h1.upd hp m, h2⟩
  | .dic ks, v, h => by
    obtain ⟨a, e, h0, h1, h2⟩ := h
    have ne : a ≠ p := fun z => h0 (z ▸ op)
    exact ⟨a, e, h0, by rw [upd_ne ne]; exact h1, h2⟩
  | .ins C f d, v, h => by
    obtain ⟨a, dx, fv, e, h1, h3⟩ := h
    exact ⟨a, dx, fv, e, upd_out hp h1 m (fun z => z), Rp.upd hp m op d fv h3⟩
theorem Rps.upd {p : Addr} {o x : HO} (hp : H p = some o) (m : MutC o) (op : O p) : ∀ (ds : List D) (vs : List V), Rps W H O ds vs → Rps W (upd H p x) O ds vs
  | [], vs, h => h
  | d :: ds, vs, h => by
    obtain ⟨v, r, e, h1, h2⟩ := h
    exact ⟨v, r, e, Rp.upd hp m op d v h1, Rps.upd hp m op ds r h2⟩
end
mutual
theorem Dq.upd {p : Addr} {o x : HO} (hp : H p = some o) (m : MutC o) : ∀ (d : D) (v : V) (F : List Addr), p ∉ F → Dq W H d v F → Dq W (upd H p x) d v F
  | .non, v, F, n, h => h
  | .bl _, v, F, n, h => h
  | .int _, v, F, n, h => h
  | .str _, v, F, n, h => h
  | .fn _, v, F, n, h => h
  | .exc _, v, F, n, h => h
  | .clo g cap, v, F, n, h => by
    obtain ⟨a, c, w, e, hw, h1, h2, h3⟩ := h
    exact ⟨a, c, w, e, hw, upd_out hp h1 m (fun z => z), upd_out hp h2 m (fun z => z), Dqs.upd hp m cap _ F n h3⟩
  | .tup ds, v, F, n, h => by
    obtain ⟨a, vs, e, h1, h2, h3⟩ := h
    exact ⟨a, vs, e, upd_out hp h1 m (fun z => z), h2, Dqs.upd hp m ds vs F n h3⟩
  | .lst ds, v, F, n, h => by
    obtain ⟨a, vs, G, e, eF, h1, h2, h3⟩ := h
    have ne : a ≠ p := fun z => n (by rw [eF, z]; exact List.mem_cons_self)
    exact ⟨a, vs, G, e, eF, by rw [upd_ne ne]; exact h1, h2, Dqs.upd hp m ds vs G (fun z => n (by rw [eF]; exact List.mem_cons_of_mem _ z)) h3⟩
  | .scr ns, v, F, n, h => by
    obtain ⟨⟨a, e, h1, h2⟩, eF⟩ := h
    exact ⟨⟨a, e, h1.upd hp m, h2⟩, eF⟩
  | .dic ks, v, F, n, h => by
    obtain ⟨a, e, eF, h1, h2⟩ := h
    have ne : a ≠ p := fun z => n (by rw [eF, z]; exact List.mem_cons_self)
    exact ⟨a, e, eF, by rw [upd_ne ne]; exact h1, h2⟩
  | .ins C f d, v, F, n, h => by
    obtain ⟨a, dx, fv, e, h1, h3⟩ := h
    exact ⟨a, dx, fv, e, upd_out hp h1 m (fun z => z), Dq.upd hp m d fv F n h3⟩
theorem Dqs.upd {p : Addr} {o x : HO} (hp : H p = some o) (m : MutC o) : ∀ (ds : List D) (vs : List V) (F : List Addr), p ∉ F → Dqs W H ds vs F → Dqs W (upd H p x) ds vs F
  | [], vs, F, n, h => h
  | d :: ds, vs, F, n, h => by
    obtain ⟨v, r, F1, F2, e, eF, h1, h2⟩ := h
    exact ⟨v, r, F1, F2, e, eF, Dq.upd hp m d v F1 (fun z => n (by rw [eF]; exact List.mem_append_left _ z)) h1, Dqs.upd hp m ds r F2 (fun z => n (by rw [eF]; exact List.mem_append_right _ z)) h2⟩
end

mutual
theorem Rp.off (ho : ∀ a, O' a → O a ∨ H a = none) : ∀ (d : D) (v : V), Rp W H O d v → Rp W H O' d v
  | .non, v, h => h
  | .bl _, v, h => h
  | .int _, v, h => h
  | .str _, v, h => h
  | .fn _, v, h => h
  | .exc _, v, h => h
  | .clo g cap, v, h => by
    obtain ⟨a, c, w, e, hw, h1, h2, h3⟩ := h
    exact ⟨a, c, w, e, hw, h1, h2, Rps.off ho cap _ h3⟩
  | .tup ds, v, h => by
    obtain ⟨a, vs, e, h1, h2, h3⟩ := h
    exact ⟨a, vs, e, h1, h2, Rps.off ho ds vs h3⟩
  | .lst ds, v, h => by
    obtain ⟨a, vs, e, h0, h1, h2, h3⟩ := h
    exact ⟨a, vs, e, fun z => (ho a z).elim h0 (fun q => by rw [h1] at q; cases q), h1, h2, Rps.off ho ds vs h3⟩
  | .scr ns, v, h => h
  | .dic ks, v, h => by
    obtain ⟨a, e, h0, h1, h2⟩ := h
    exact ⟨a, e, fun z => (ho a z).elim h0 (fun q => by rw [h1] at q; cases q), h1, h2⟩
  | .ins C f d, v, h => by
    obtain ⟨a, dx, fv, e, h1, h3⟩ := h
    exact ⟨a, dx, fv, e, h1, Rp.off ho d fv h3⟩
theorem Rps.off (ho : ∀ a, O' a → O a ∨ H a = none) : ∀ (ds : List D) (vs : List V), Rps W H O ds vs → Rps W H O' ds vs
  | [], vs, h => h
  | d :: ds, vs, h => by
    obtain ⟨v, r, e, h1, h2⟩ := h
    exact ⟨v, r, e, Rp.off ho d v h1, Rps.off ho ds r h2⟩
end
mutual
theorem Dq.rp : ∀ (d : D) (v : V) (F : List Addr), Dq W H d v F → (∀ a ∈ F, ¬ O a) → Rp W H O d v
  | .non, v, F, h, n => h.1
  | .bl _, v, F, h, n => h.1
  | .int _, v, F, h, n => h.1
  | .str _, v, F, h, n => h.1
  | .fn _, v, F, h, n => h.1
  | .exc _, v, F, h, n => h.1
  | .clo g cap, v, F, h, n => by
    obtain ⟨a, c, w, e, hw, h1, h2, h3⟩ := h
    exact ⟨a, c, w, e, hw, h1, h2, Dqs.rp cap _ F h3 n⟩
  | .tup ds, v, F, h, n => by
    obtain ⟨a, vs, e, h1, h2, h3⟩ := h
    exact ⟨a, vs, e, h1, h2, Dqs.rp ds vs F h3 n⟩
  | .lst ds, v, F, h, n => by
    obtain ⟨a, vs, G, e, eF, h1, h2, h3⟩ := h
    exact ⟨a, vs, e, n a (by rw [eF]; exact List.mem_cons_self), h1, h2, Dqs.rp ds vs G h3 fun b hb => n b (by rw [eF]; exact List.mem_cons_of_mem _ hb)⟩
  | .scr ns, v, F, h, n => h.1
  | .dic ks, v, F, h, n => by
    obtain ⟨a, e, eF, h1, h2⟩ := h
    exact ⟨a, e, n a (by rw [eF]; exact List.mem_cons_self), h1, h2⟩
  | .ins C f d, v, F, h, n => by
    obtain ⟨a, dx, fv, e, h1, h3⟩ := h
    exact ⟨a, dx, fv, e, h1, Dq.rp d fv F h3 n⟩
theorem Dqs.rp : ∀ (ds : List D) (vs : List V) (F : List Addr), Dqs W H ds vs F → (∀ a ∈ F, ¬ O a) → Rps W H O ds vs
  | [], vs, F, h, n => h.1
  | d :: ds, vs, F, h, n => by
    obtain ⟨v, r, F1, F2, e, eF, h1, h2⟩ := h
    exact ⟨v, r, e, Dq.rp d v F1 h1 fun b hb => n b (by rw [eF]; exact List.mem_append_left _ hb), Dqs.rp ds r F2 h2 fun b hb => n b (by rw [eF]; exact List.mem_append_right _ hb)⟩
end
mutual
theorem Rp.dq : ∀ (d : D) (v : V), Rp W H O d v → lfree d = true → Dq W H d v []
  | .non, v, h, l => ⟨h, rfl⟩
  | .bl _, v, h, l => ⟨h, rfl⟩
  | .int _, v, h, l => ⟨h, rfl⟩
  | .str _, v, h, l => ⟨h, rfl⟩
  | .fn _, v, h, l => ⟨h, rfl⟩
  | .exc _, v, h, l => ⟨h, rfl⟩
  | .clo g cap, v, h, l => by
    obtain ⟨a, c, w, e, hw, h1, h2, h3⟩ := h
    exact ⟨a, c, w, e, hw, h1, h2, Rps.dq cap _ h3 l⟩
  | .tup ds, v, h, l => by
    obtain ⟨a, vs, e, h1, h2, h3⟩ := h
    exact ⟨a, vs, e, h1, h2, Rps.dq ds vs h3 l⟩
  | .lst ds, v, h, l => by cases (show false = true from l)
  | .scr ns, v, h, l => ⟨h, rfl⟩
  | .dic ks, v, h, l => by cases (show false = true from l)
  | .ins C f d, v, h, l => by
    obtain ⟨a, dx, fv, e, h1, h3⟩ := h
    exact ⟨a, dx, fv, e, h1, Rp.dq d fv h3 l⟩
theorem Rps.dq : ∀ (ds : List D) (vs : List V), Rps W H O ds vs → lfrees ds = true → Dqs W H ds vs []
  | [], vs, h, l => ⟨h, rfl⟩
  | d :: ds, vs, h, l => by
    obtain ⟨v, r, e, h1, h2⟩ := h
    obtain ⟨l1, l2⟩ := Bool.and_eq_true_iff.mp (show (lfree d && lfrees ds) = true from l)
    exact ⟨v, r, [], [], e, rfl, Rp.dq d v h1 l1, Rps.dq ds r h2 l2⟩
end
theorem Rps.length : ∀ (ds : List D) (vs : List V), Rps W H O ds vs → vs.length = ds.length
  | [], vs, h => by
    rw [show vs = [] from h]
    rfl
  | d :: ds, vs, h => by
    obtain ⟨v, r, e, _, h2⟩ := h
    rw [e, List.length_cons, List.length_cons, Rps.length ds r h2]
theorem Dqs.length : ∀ (ds : List D) (vs : List V) (F : List Addr), Dqs W H ds vs F → vs.length = ds.length
  | [], vs, F, h => by
    rw [show vs = [] from h.1]
    rfl
  | d :: ds, vs, F, h => by
    obtain ⟨v, r, F1, F2, e, _, _, h2⟩ := h
    rw [e, List.length_cons, List.length_cons, Dqs.length ds r F2 h2]
end
end TW

set_option Elab.async false
set_option linter.all false
set_option maxRecDepth 100000
set_option maxHeartbeats 4000000
namespace TW
open PySem PySem.Spec PyProof.Rows L2

inductive Bop where
  | add | sub | mul | fdiv | mod | pow | shl | shr | band
inductive Cop where
  | lt | le | gt | ge | eq | ne | isin | notin | is_ | isnot
inductive Ty where
  | int | bool | list | tuple | cls (C : Nat) | str
inductive Bi where
  | len | sum | all | any | max | min | sorted | list | abs | ssort | slen | lrng | lzip | int_ | tuple | rng3
mutual
inductive E where
  | var (i : Nat)
  | lit (d : D)
  | bin (o : Bop) (a b : E)
  | cmp (o : Cop) (a b : E)
  | chn (o p : Cop) (a b c : E)
  | chn3 (o p q : Cop) (a b c d : E)
  | neg (a : E)
  | not (a : E)
  | and (a b : E)
  | or (a b : E)
  | ite (c a b : E)
  | tup (es : List E)
  | lst (es : List E)
  | sub (a i : E)
  | slc (pl ph : Bool) (a lo hi : E)
  | rev (a : E)
  | att (a : E) (f : Str)
  | cal (f : Nat) (es : List E)
  | cav (e : E) (g : Nat) (es : List E)
  | bi (b : Bi) (es : List E)
  | mix (a e : E)
  | isi (e : E) (t : Ty)
  | comp (ts : List Nat) (one : Bool) (s : Sr) (cs : List E) (e : E)
  | dnew
  | mk (C : Nat) (f : Str) (i : Nat) (es : List E)
  | met (e : E) (tb : List (Nat × Nat)) (es : List E)
  | isc (e : E) (cs : List Nat)
  | csel (gs : List Nat) (e : E) (es : List E)
  | orv (a b : E)
  | flt (i x : Nat) (cs : List E)
  | lam (g : Nat)
  | clc (gs : List Nat) (i : Nat) (es : List E)
  | ccl (f : Nat) (gs js : List Nat) (es : List E)
  | calx (f : Nat) (es : List E)
inductive Sr where
  | seq (e : E)
  | rng (a b : E)
  | enu (e : E)
  | zip (a b : E)
end

inductive Ex (α : Type) where
  | ok (a : α)
  | er (C : Nat)
abbrev M (α : Type) := Option (Ex α)
def bnd {α β : Type} (x : M α) (f : α → M β) : M β := match x with
  | none => none
  | some (.er C) => some (.er C)
  | some (.ok a) => f a
abbrev ok {α : Type} (a : α) : M α := some (.ok a)
def lift {α : Type} (x : Option α) : M α := match x with
  | none => none
  | some a => some (.ok a)
abbrev Sl := Option (Md × D)
abbrev Dn := List Sl
abbrev Tb := Nat → List D → M (Md × D)
abbrev SZ : Nat := 1000000

mutual
def toPy : D → PyData
  | .non => .none
  | .bl b => .bool b
  | .int i => .int i
  | .str x => .str x
  | .tup ds => .tuple (toPys ds)
  | .lst ds => .list (toPys ds)
  | .scr ns => .list (ns.map .int)
  | .fn _ => .none
  | .dic _ => .none
  | .ins _ _ _ => .none
  | .exc _ => .none
  | .clo _ _ => .none
def toPys : List D → List PyData
  | [] => []
  | d :: ds => toPy d :: toPys ds
end
mutual
/-- plain data of depth at most n -/
def dat : D → Nat → Bool
  | .non, _ => true
  | .bl _, _ => true
  | .int _, _ => true
  | .str x, _ => PySem.PyData.strOk x
  | .tup ds, n => match n with
    | 0 => false
    | n + 1 => dats ds n
  | .lst ds, n => match n with
    | 0 => false
    | n + 1 => dats ds n
  | .scr _, n => decide (0 < n)
  | .fn _, _ => false
  | .dic _, _ => false
  | .ins _ _ _, _ => false
  | .exc _, _ => false
  | .clo _ _, _ => false
def dats : List D → Nat → Bool
  | [], _ => true
  | d :: ds, n => dat d n && dats ds n
end
abbrev eqD (a b : D) : Bool := PyData.eqv (toPy a) (toPy b)
def flatD : D → Bool
  | .non => true
  | .bl _ => true
  | .int _ => true
  | .str _ => true
  | _ => false

def intD : D → Option Int
  | .int i => some i
  | _ => none
def intsD : List D → Option (List Int)
  | [] => some []
  | .int i :: ds => (intsD ds).map (i :: ·)
  | _ => none
def prD : D → Option (Int × Int)
  | .tup [.int a, .int b] => some (a, b)
  | _ => none
def prsD : List D → Option (List (Int × Int))
  | [] => some []
  | .tup [.int a, .int b] :: ds => (prsD ds).map ((a, b) :: ·)
  | _ => none
def ilD : List D → Option (List (List Int))
  | [] => some []
  | .lst xs :: ds => match intsD xs with
    | some ns => (ilD ds).map (ns :: ·)
    | none => none
  | _ => none
def blsD : List D → Option (List Bool)
  | [] => some []
  | .bl b :: ds => (blsD ds).map (b :: ·)
  | _ => none
abbrev eI (ns : List Int) : List D := ns.map D.int
abbrev eP (p : Int × Int) : D := .tup [.int p.1, .int p.2]
abbrev eIL (g : List Int) : D := .lst (g.map D.int)

def insB {α : Type} (lt : α → α → Bool) (x : α) : List α → List α
  | [] => [x]
  | y :: r => if lt y x then y :: insB lt x r else x :: y :: r
def isortB {α : Type} (lt : α → α → Bool) : List α → List α
  | [] => []
  | x :: r => insB lt x (isortB lt r)
abbrev ltZ (a b : Int) : Bool := decide (a < b)
def ltP2 (a b : Int × Int) : Bool := decide (a.1 < b.1) || (decide (a.1 = b.1) && decide (a.2 < b.2))
def ltL : List Int → List Int → Bool
  | [], [] => false
  | [], _ :: _ => true
  | _ :: _, [] => false
  | a :: r, b :: s => if a = b then ltL r s else decide (a < b)
def sortD (ds : List D) : Option (Md × D) := match intsD ds with
  | some ns => some (.dp, .lst (eI (isortB ltZ ns)))
  | none => match prsD ds with
    | some ps => some (.dp, .lst ((isortB ltP2 ps).map eP))
    | none => match ilD ds with
      | some gs => some (.fl, .lst ((isortB ltL gs).map eIL))
      | none => none
def dedB {α : Type} [DecidableEq α] : List α → List α
  | [] => []
  | x :: r => if x ∈ r then dedB r else x :: dedB r

def cutL {α : Type} (xs : List α) (lo hi : Option Int) : List α := (xs.drop (HT.sIx xs.length 0 lo)).take (HT.sIx xs.length xs.length hi - HT.sIx xs.length 0 lo)
def optI (p : Bool) (d : D) : Option (Option Int) := if p then (intD d).map some else some none
def smallI (i : Int) : Bool := decide (i.natAbs < 1000000000)
def itemsD : D → Option (List D)
  | .lst ds => some ds
  | .tup ds => some ds
  | .scr ns => some (eI ns)
  | _ => none
def listD : D → Option (List D)
  | .lst ds => some ds
  | .scr ns => some (eI ns)
  | _ => none

def binD : Bop → D → D → Option (Md × D)
  | .add, .int i, .int j => some (.dp, .int (i + j))
  | .add, .lst xs, .lst ys => if xs.length + ys.length ≤ SZ then some (.fl, .lst (xs ++ ys)) else none
  | .add, .tup xs, .tup ys => if xs ≠ [] ∧ ys ≠ [] ∧ xs.length + ys.length ≤ SZ then some (.sh, .tup (xs ++ ys)) else none
  | .sub, .int i, .int j => some (.dp, .int (i - j))
  | .mul, .int i, .int j => if i.natAbs.log2 + j.natAbs.log2 < 100000000 then some (.dp, .int (i * j)) else none
  | .mul, .lst xs, .int k => if smallI k && decide (xs.length * k.toNat ≤ SZ) then some (.fl, .lst (List.replicate k.toNat xs).flatten) else none
  | .fdiv, .int i, .int j => if 0 < j ∧ j < 1073741824 then some (.dp, .int (i / j)) else none
  | .mod, .int i, .int j => if 0 < j then some (.dp, .int (i % j)) else none
  | .pow, .int i, .int j => if 0 ≤ j ∧ j ≤ 1000 ∧ i.natAbs < 1000 then some (.dp, .int (i ^ j.toNat)) else none
  | .shl, .int i, .int j => if 0 ≤ j ∧ j ≤ 1000 ∧ i.natAbs < 1000 then some (.dp, .int (i * 2 ^ j.toNat)) else none
  | .shr, .int i, .int j => if 0 ≤ j then some (.dp, .int (i / 2 ^ j.toNat)) else none
  | .band, .int i, .int j => some (.dp, .int (Builtin.bitAnd i j))
  | _, _, _ => none
def inD (x c : D) : Option Bool := match c with
  | .lst ds => if dat x 20 && dats ds 20 then some (ds.any fun z => eqD z x) else none
  | .tup ds => if flatD x && ds.all flatD then some (ds.any fun z => eqD z x) else none
  | .dic ks => match x with
    | .int i => some (ks.contains i)
    | _ => none
  | _ => none
def ltO (a b : D) : Option Bool := match intD a, intD b with
  | some i, some j => some (decide (i < j))
  | _, _ => match prD a, prD b with
    | some p, some q => some (ltP2 p q)
    | _, _ => none
def isNon : D → Bool
  | .non => true
  | _ => false
def cmpD : Cop → D → D → Option Bool
  | .lt, a, b => ltO a b
  | .le, .int i, .int j => some (decide (i ≤ j))
  | .gt, .int i, .int j => some (decide (j < i))
  | .ge, .int i, .int j => some (decide (j ≤ i))
  | .eq, a, b => if dat a 20 && dat b 20 then some (eqD a b) else none
  | .ne, a, b => if dat a 20 && dat b 20 then some (!eqD a b) else none
  | .isin, a, b => inD a b
  | .notin, a, b => (inD a b).map (!·)
  | .is_, a, .non => some (isNon a)
  | .isnot, a, .non => some (!isNon a)
  | .is_, .bl a, .bl b => some (a == b)
  | .isnot, .bl a, .bl b => some (!(a == b))
  | _, _, _ => none
def isiD : D → Ty → Option Bool
  | _, .str => none
  | .non, .cls _ => none
  | .non, _ => some false
  | .bl _, .bool => some true
  | .bl _, .int => some true
  | .bl _, .list => some false
  | .bl _, .tuple => some false
  | .int _, .int => some true
  | .int _, .bool => some false
  | .int _, .list => some false
  | .int _, .tuple => some false
  | .str _, .int => some false
  | .str _, .bool => some false
  | .str _, .list => some false
  | .str _, .tuple => some false
  | .tup _, .tuple => some true
  | .tup _, .list => some false
  | .tup _, .int => some false
  | .tup _, .bool => some false
  | .lst _, .list => some true
  | .lst _, .tuple => some false
  | .lst _, .int => some false
  | .lst _, .bool => some false
  | .dic _, .list => some false
  | .dic _, .tuple => some false
  | .dic _, .int => some false
  | .dic _, .bool => some false
  | _, _ => none
mutual
/-- no handled exception within -/
def exF : D → Bool
  | .tup ds => exFs ds
  | .lst ds => exFs ds
  | .ins _ _ d => exF d
  | .exc _ => false
  | .clo _ cap => exFs cap
  | _ => true
def exFs : List D → Bool
  | [] => true
  | d :: ds => exF d && exFs ds
end
mutual
/-- no lambda within -/
def cloF : D → Bool
  | .tup ds => cloFs ds
  | .lst ds => cloFs ds
  | .ins _ _ d => cloF d
  | .clo _ _ => false
  | _ => true
def cloFs : List D → Bool
  | [] => true
  | d :: ds => cloF d && cloFs ds
end
def iscD : D → List Nat → Option Bool
  | .ins C _ _, cs => if insC C && !cs.contains 99 then some (cs.contains C) else none
  | .exc C, cs => if excC C then some (cs.contains C) else none
  | _, _ => none
def attD (f : Str) : D → Option (Md × D)
  | .ins C g d => if g = f ∧ insC C = true then some (.sh, d) else none
  | _ => none
def subD : D → D → Option D
  | .lst ds, .int i => atI ds i
  | .tup ds, .int i => atI ds i
  | .scr ns, .int i => (atI ns i).map D.int
  | _, _ => none
def slcD (a : D) (l h : Option Int) : Option (Md × D) := match a with
  | .lst ds => some (.fl, .lst (cutL ds l h))
  | .scr ns => some (.dp, .lst (eI (cutL ns l h)))
  | _ => none
def maxL : List Int → Option Int
  | [] => none
  | [x] => some x
  | x :: r => (maxL r).map fun m => if m > x then m else x
def minL : List Int → Option Int
  | [] => none
  | [x] => some x
  | x :: r => (minL r).map fun m => if m < x then m else x
def rngD (a b : Int) : List D := (List.range (b - a).toNat).map fun (i : Nat) => D.int (a + (i : Int))
def rngOk (a b : Int) : Bool := smallI a && smallI b && decide ((b - a).toNat ≤ SZ)
def enuD : Nat → List D → List D
  | _, [] => []
  | n, d :: ds => .tup [.int (n : Int), d] :: enuD (n + 1) ds
def zipD : List D → List D → List D
  | a :: as, b :: bs => .tup [a, b] :: zipD as bs
  | _, _ => []
def maxD (ds : List D) : Option (Md × D) := match ds with
  | [a, b] => (intD a).bind fun i => (intD b).map fun j => (.dp, .int (if j > i then j else i))
  | [.lst ds] => ((intsD ds).bind maxL).map fun m => (.dp, .int m)
  | [.tup [.int i, .int j]] => some (.dp, .int (if j > i then j else i))
  | _ => none
def minD (ds : List D) : Option (Md × D) := match ds with
  | [a, b] => (intD a).bind fun i => (intD b).map fun j => (.dp, .int (if j < i then j else i))
  | [.lst ds] => ((intsD ds).bind minL).map fun m => (.dp, .int m)
  | _ => none
def rng3D (b : Int) : List D := (List.range ((b + 2) / 3).toNat).map fun (k : Nat) => D.int (0 + (k : Int) * 3)
def biD : Bi → List D → Option (Md × D)
  | .len, [.lst ds] => some (.dp, .int ds.length)
  | .len, [.tup ds] => some (.dp, .int ds.length)
  | .len, [.scr ns] => some (.dp, .int ns.length)
  | .sum, [d] => ((listD d).bind intsD).map fun ns => (.dp, .int ns.sum)
  | .all, [.lst ds] => (blsD ds).map fun bs => (.dp, .bl (bs.all id))
  | .any, [.lst ds] => (blsD ds).map fun bs => (.dp, .bl (bs.any id))
  | .max, ds => maxD ds
  | .min, ds => minD ds
  | .sorted, [.lst ds] => sortD ds
  | .list, [.lst ds] => some (.fl, .lst ds)
  | .list, [.tup ds] => some (.fl, .lst ds)
  | .abs, [.int a] => some (.dp, .int (if a < 0 then -a else a))
  | .ssort, [.lst ds] => match intsD ds with
    | some ns => if ns.length < 64 then some (.dp, .lst (eI (isortB ltZ (dedB ns)))) else none
    | none => match prsD ds with
      | some ps => if ps.length < 64 ∧ ps.all (fun p => decide (0 ≤ p.1) && decide (p.1 < 64) && decide (0 ≤ p.2) && decide (p.2 < 64)) = true then some (.dp, .lst ((isortB ltP2 (dedB ps)).map eP)) else none
      | none => none
  | .slen, [.lst ds] => match prsD ds with
    | some ps => if ps.length < 64 then some (.dp, .int (dedB ps).length) else none
    | none => none
  | .lrng, [.int a, .int b] => if rngOk a b then some (.dp, .lst (rngD a b)) else none
  | .lzip, [.lst xs, .lst ys] => some (.fl, .lst (zipD xs ys))
  | .int_, [.bl b] => some (.dp, .int (if b then 1 else 0))
  | .int_, [.int i] => some (.dp, .int i)
  | .tuple, [.lst ds] => some (.sh, .tup ds)
  | .rng3, [.int a, .int b, .int c] => if a = 0 ∧ c = 3 ∧ 0 ≤ b ∧ b ≤ 100000 then some (.dp, .lst (rng3D b)) else none
  | _, _ => none

def scal : D → Bool
  | .non => true
  | .bl _ => true
  | .int _ => true
  | .str _ => true
  | .fn _ => true
  | _ => false
def closed (m : Md) (d : D) : Bool := match m with
  | .dp => true
  | .sh => lfree d
  | .fl => match d with
    | .lst ds => lfrees ds
    | .dic _ => true
    | d => lfree d
def closeds : List (Md × D) → Bool
  | [] => true
  | p :: ps => closed p.1 p.2 && closeds ps
def boxM (ps : List (Md × D)) : Md := if closeds ps then .dp else .fl
def tupM (ps : List (Md × D)) : Md := if closeds ps then .dp else .sh
def keep (m : Md) (d : D) : Md × D := if scal d then (.sh, d) else (m, d)
def bindT (ts : List Nat) (one : Bool) (x : D) (e : Dn) : Option Dn := match one, ts, x with
  | true, [i], x => some (e.set i (some (.sh, x)))
  | false, [i, j], .tup [x, y] => some ((e.set i (some (.sh, x))).set j (some (.sh, y)))
  | false, [i, j], .lst [x, y] => some ((e.set i (some (.sh, x))).set j (some (.sh, y)))
  | false, [i, j, k, l], .tup [x, y, z, w] => some ((((e.set i (some (.sh, x))).set j (some (.sh, y))).set k (some (.sh, z))).set l (some (.sh, w)))
  | _, _, _ => none
def boolD : D → Option Bool
  | .bl b => some b
  | _ => none
def compL (f : D → Option (Option (Md × D))) : List D → Option (List (Md × D))
  | [] => some []
  | x :: xs => match f x with
    | none => none
    | some none => compL f xs
    | some (some p) => (compL f xs).map (p :: ·)
def okOnly {α : Type} (x : M α) : Option α := match x with
  | some (.ok a) => some a
  | _ => none

def noClo (r : M (Md × D)) : M (Md × D) := bnd r fun p => if cloF p.2 = true then ok p else none
def capD : List Nat → Dn → Option (List D)
  | [], _ => some []
  | i :: is, e => match e[i]? with
    | some (some p) => (capD is e).map (p.2 :: ·)
    | _ => none
mutual
def ev (F : Tb) : E → Dn → M (Md × D)
  | .var i, e => match e[i]? with
    | some (some p) => ok (.sh, p.2)
    | _ => none
  | .lit d, _ => if scal d then ok (.dp, d) else none
  | .bin o a b, e => bnd (ev F a e) fun p => bnd (ev F b e) fun q => lift (binD o p.2 q.2)
  | .cmp o a b, e => bnd (ev F a e) fun p => bnd (ev F b e) fun q => lift ((cmpD o p.2 q.2).map fun b => (.dp, .bl b))
  | .chn o o2 a b c, e => bnd (ev F a e) fun p => bnd (ev F b e) fun q => match cmpD o p.2 q.2 with
    | none => none
    | some false => ok (.dp, .bl false)
    | some true => bnd (ev F c e) fun r => lift ((cmpD o2 q.2 r.2).map fun b => (.dp, .bl b))
  | .chn3 o o2 o3 a b c d, e => bnd (ev F a e) fun p => bnd (ev F b e) fun q => match cmpD o p.2 q.2 with
    | none => none
    | some false => ok (.dp, .bl false)
    | some true => bnd (ev F c e) fun r => match cmpD o2 q.2 r.2 with
      | none => none
      | some false => ok (.dp, .bl false)
      | some true => bnd (ev F d e) fun s => lift ((cmpD o3 r.2 s.2).map fun b => (.dp, .bl b))
  | .neg a, e => bnd (ev F a e) fun p => lift ((intD p.2).map fun i => (.dp, .int (-i)))
  | .not a, e => bnd (ev F a e) fun p => lift ((boolD p.2).map fun b => (.dp, .bl (!b)))
  | .and a b, e => bnd (ev F a e) fun p => match boolD p.2 with
    | none => none
    | some false => ok (.dp, .bl false)
    | some true => ev F b e
  | .or a b, e => bnd (ev F a e) fun p => match boolD p.2 with
    | none => none
    | some true => ok (.dp, .bl true)
    | some false => ev F b e
  | .ite c a b, e => bnd (ev F c e) fun p => match boolD p.2 with
    | none => none
    | some true => ev F a e
    | some false => ev F b e
  | .tup es, e => bnd (evs F es e) fun ps => ok (tupM ps, .tup (ps.map Prod.snd))
  | .lst es, e => bnd (evs F es e) fun ps => ok (boxM ps, .lst (ps.map Prod.snd))
  | .sub a i, e => bnd (ev F a e) fun p => bnd (ev F i e) fun q => lift ((subD p.2 q.2).map fun d => (.sh, d))
  | .slc pl ph a lo hi, e => bnd (ev F a e) fun p => bnd (ev F lo e) fun q => match optI pl q.2 with
    | none => none
    | some l => bnd (ev F hi e) fun r => match optI ph r.2 with
      | none => none
      | some h => lift (slcD p.2 l h)
  | .rev a, e => bnd (ev F a e) fun p => match p.2 with
    | .lst ds => ok (.fl, .lst ds.reverse)
    | _ => none
  | .att a f, e => bnd (ev F a e) fun p => lift (attD f p.2)
  | .cal f es, e => bnd (evs F es e) fun ps => bnd (F f (ps.map Prod.snd)) fun r => ok (if r.1 = .sh ∧ closeds ps ∧ closed .fl r.2 then (.fl, r.2) else r)
  | .cav a g es, e => bnd (ev F a e) fun p => match p.2 with
    | .fn f => if f = g then bnd (evs F es e) fun ps => F g (ps.map Prod.snd) else none
    | _ => none
  | .bi b es, e => bnd (evs F es e) fun ps => lift (biD b (ps.map Prod.snd))
  | .mix a b, e => bnd (ev F a e) fun p => match p.2 with
    | .lst ds => bnd (ev F b e) fun q => if dat q.2 20 && dats ds 20 then lift ((ds.findIdx? fun z => eqD z q.2).map fun i => (.dp, .int (i : Nat))) else none
    | _ => none
  | .isi a t, e => bnd (ev F a e) fun p => lift ((isiD p.2 t).map fun b => (.dp, .bl b))
  | .comp ts one s cs a, e => bnd (evS F s e) fun p => match compL (fun x => (bindT ts one x e).bind fun e1 => (okOnly (evC F cs e1)).bind fun b => if b then (okOnly (ev F a e1)).map some else some none) p.2 with
    | none => none
    | some ps => ok (boxM ps, .lst (ps.map Prod.snd))
  | .dnew, _ => ok (.dp, .dic [])
  | .mk C f i es, e => bnd (evs F es e) fun ps => bnd (F i (.non :: ps.map Prod.snd)) fun r => ok (if closed r.1 r.2 then .dp else .sh, .ins C f r.2)
  | .met a tb es, e => bnd (ev F a e) fun p => match p.2 with
    | .ins C f d => if f = "shows" then none else (match tb.lookup C with
      | some g => bnd (evs F es e) fun ps => F g (.ins C f d :: ps.map Prod.snd)
      | none => none)
    | _ => none
  | .isc a cs, e => bnd (ev F a e) fun p => lift ((iscD p.2 cs).map fun b => (.dp, .bl b))
  | .csel gs a es, e => bnd (ev F a e) fun p => match p.2 with
    | .fn f => if gs.contains f = true then bnd (evs F es e) fun ps => F f (ps.map Prod.snd) else none
    | _ => none
  | .orv a b, e => bnd (ev F a e) fun p => match p.2 with
    | .non => ev F b e
    | .lst [] => ev F b e
    | .lst (x :: xs) => ok (p.1, .lst (x :: xs))
    | _ => none
  | .flt _ _ _, _ => none
  | .lam g, _ => ok (.sh, .clo g [])
  | .clc gs i es, e => match e[i]? with
    | some (some (_, .clo g cs)) => if gs.contains g && cloFs cs then bnd (evs F es e) fun ps => if cloFs (ps.map Prod.snd) then noClo (F g (ps.map Prod.snd ++ cs)) else none else none
    | _ => none
  | .ccl f gs js es, e => bnd (evs F es e) fun ps => match ps.map Prod.snd, capD js e with
    | .clo g [] :: ds, some cs => if gs.contains g && cloFs ds && cloFs cs then noClo (F f (.clo g cs :: ds)) else none
    | _, _ => none
  | .calx f es, e => bnd (evs F es e) fun ps => if cloFs (ps.map Prod.snd) then noClo (F f (ps.map Prod.snd)) else none
def evs (F : Tb) : List E → Dn → M (List (Md × D))
  | [], _ => ok []
  | a :: as, e => bnd (ev F a e) fun p => bnd (evs F as e) fun ps => ok (p :: ps)
/-- all tests, from the left -/
def evC (F : Tb) : List E → Dn → M Bool
  | [], _ => ok true
  | a :: as, e => bnd (ev F a e) fun p => match boolD p.2 with
    | none => none
    | some false => ok false
    | some true => evC F as e
/-- what is walked: whether its items may be others', and the items -/
def evS (F : Tb) : Sr → Dn → M (Md × List D)
  | .seq a, e => bnd (ev F a e) fun p => lift ((itemsD p.2).map fun ds => (p.1, ds))
  | .rng a b, e => bnd (ev F a e) fun p => bnd (ev F b e) fun q => match p.2, q.2 with
    | .int i, .int j => if rngOk i j then ok (.dp, rngD i j) else none
    | _, _ => none
  | .enu a, e => bnd (ev F a e) fun p => match p.2 with
    | .lst ds => ok (p.1, enuD 0 ds)
    | _ => none
  | .zip a b, e => bnd (ev F a e) fun p => bnd (ev F b e) fun q => match p.2, q.2 with
    | .lst xs, .lst ys => ok (.sh, zipD xs ys)
    | .lst xs, .tup ys => ok (.sh, zipD xs ys)
    | _, _ => none
end

mutual
def nm : E → List Nat
  | .var i => [i]
  | .lit _ => []
  | .bin _ a b => nm a ++ nm b
  | .cmp _ a b => nm a ++ nm b
  | .chn _ _ a b c => nm a ++ nm b ++ nm c
  | .chn3 _ _ _ a b c d => nm a ++ nm b ++ nm c ++ nm d
  | .neg a => nm a
  | .not a => nm a
  | .and a b => nm a ++ nm b
  | .or a b => nm a ++ nm b
  | .ite c a b => nm c ++ nm a ++ nm b
  | .tup es => nms es
  | .lst es => nms es
  | .sub a i => nm a ++ nm i
  | .slc _ _ a lo hi => nm a ++ nm lo ++ nm hi
  | .rev a => nm a
  | .att a _ => nm a
  | .cal _ es => nms es
  | .cav a _ es => nm a ++ nms es
  | .bi _ es => nms es
  | .mix a b => nm a ++ nm b
  | .isi a _ => nm a
  | .comp _ _ s cs a => nmS s ++ nms cs ++ nm a
  | .dnew => []
  | .mk _ _ _ es => nms es
  | .met a _ es => nm a ++ nms es
  | .isc a _ => nm a
  | .csel _ a es => nm a ++ nms es
  | .orv a b => nm a ++ nm b
  | .flt i _ cs => i :: nms cs
  | .lam _ => []
  | .clc _ i es => i :: nms es
  | .ccl _ _ js es => js ++ nms es
  | .calx _ es => nms es
def nms : List E → List Nat
  | [] => []
  | a :: as => nm a ++ nms as
def nmS : Sr → List Nat
  | .seq a => nm a
  | .rng a b => nm a ++ nm b
  | .enu a => nm a
  | .zip a b => nm a ++ nm b
end

inductive Mo where
  | append | extend | pop | remove | insert | clear | reverse | set | aug
inductive S where
  | pass
  | asg (i : Nat) (e : E)
  | par (is : List Nat) (es : List E)
  | unp (is : List Nat) (e : E)
  | aug (i : Nat) (e : E)
  | mut (i : Nat) (p : List E) (o : Mo) (es : List E)
  | dput (i : Nat) (k v : E)
  | exp (e : E)
  | ife (c : E) (a b : List S)
  | ret (e : E)
  | for_ (ts : List Nat) (one : Bool) (s : Sr) (b : List S)
  | whl (c : E) (b : List S)
  | rai (C : Nat)
  | mutF (i : Nat) (f : Str) (o : Mo) (es : List E)
  | each (i : Nat) (f : Option Str) (x : Nat) (q : List Int) (o : Mo) (es : List E)
  | tryE (a : E) (x : Nat) (cs : List Nat) (h : List S)
  | tryA (a : E) (x : Nat) (cs : List Nat) (h : List S)
  | popA (i x : Nat)
  | mutT (a : E) (o : Mo) (es : List E)
  | forB (x : Nat) (es : List E) (c : E)
def exK : Option (Md × D) → Option (Md × D)
  | some p => if exF p.2 = true then some p else none
  | none => none
inductive Fl where
  | nx (e : Dn)
  | rt (m : Md) (d : D)

def ownS : Sl → Bool
  | some (.sh, _) => false
  | none => false
  | _ => true
def frzS : Sl → Sl
  | some (_, d) => some (.sh, d)
  | none => none
def frz : List Nat → Dn → Dn
  | [], e => e
  | i :: is, e => frz is (match e[i]? with
    | some s => e.set i (frzS s)
    | none => e)
def give (is : List Nat) (m : Md) (d : D) (e : Dn) : Dn :=
  if is.any (fun i => match e[i]? with | some s => ownS s | none => false) then (if closed m d then e else frz is e) else e
def gives (is : List Nat) (ps : List (Md × D)) (e : Dn) : Dn :=
  if is.any (fun i => match e[i]? with | some s => ownS s | none => false) then (if closeds ps then e else frz is e) else e

def setAll : List Nat → List (Md × D) → Dn → Option Dn
  | [], [], e => some e
  | i :: is, p :: ps, e => setAll is ps (e.set i (some (keep p.1 p.2)))
  | _, _, _ => none
def setSh : List Nat → List D → Dn → Option Dn
  | [], [], e => some e
  | i :: is, d :: ds, e => setSh is ds (e.set i (some (.sh, d)))
  | _, _, _ => none

def moL (o : Mo) (xs : List D) (vs : List D) : Option (List D) := match o, vs with
  | .append, [v] => if xs.length < SZ then some (xs ++ [v]) else none
  | .extend, [.lst ys] => if xs.length + ys.length ≤ SZ then some (xs ++ ys) else none
  | .pop, [] => match xs with
    | [] => none
    | _ => some xs.dropLast
  | .pop, [.int i] => if smallI i then (ixN xs.length i).map fun j => xs.eraseIdx j else none
  | .remove, [v] => if dat v 20 && dats xs 20 then (xs.findIdx? fun z => eqD z v).map fun j => xs.eraseIdx j else none
  | .insert, [.int i, v] => if 0 ≤ i ∧ smallI i = true ∧ xs.length < SZ then some (xs.take i.toNat ++ [v] ++ xs.drop i.toNat) else none
  | .clear, [] => some []
  | .reverse, [] => some xs.reverse
  | .set, [.int i, v] => (ixN xs.length i).map fun j => xs.set j v
  | .aug, [.int i, .int k] => (ixN xs.length i).bind fun j => match xs[j]? with
    | some (.int n) => some (xs.set j (.int (n + k)))
    | _ => none
  | _, _ => none
def moP (o : Mo) (vs : List D) : List Int → D → Option D
  | [], .lst xs => (moL o xs vs).map D.lst
  | i :: is, .lst xs => (ixN xs.length i).bind fun j => (xs[j]?).bind fun d => (moP o vs is d).map fun d' => .lst (xs.set j d')
  | i :: is, .tup xs => (ixN xs.length i).bind fun j => (xs[j]?).bind fun d => (moP o vs is d).map fun d' => .tup (xs.set j d')
  | _, _ => none
def moS (o : Mo) (is : List Int) (ps : List (Md × D)) : Md × D → Option (Md × D)
  | (.fl, d) => match is, d with
    | [], .lst xs => (moL o xs (ps.map Prod.snd)).map fun ys => (.fl, .lst ys)
    | _, _ => none
  | (.dp, d) => if closeds ps then (moP o (ps.map Prod.snd) is d).map fun d' => (.dp, d') else match is, d with
    | [], .lst xs => (moL o xs (ps.map Prod.snd)).map fun ys => (.fl, .lst ys)
    | _, _ => none
  | (.sh, _) => none

mutual
def evr (F : Tb) : E → Dn → M (Md × D)
  | .var i, e => match e[i]? with
    | some (some p) => ok p
    | _ => none
  | .ite c a b, e => bnd (ev F c e) fun p => match boolD p.2 with
    | none => none
    | some true => evr F a e
    | some false => evr F b e
  | .tup es, e => bnd (evrs F es e) fun ps => ok (if (mvs es).Nodup then tupM ps else .sh, .tup (ps.map Prod.snd))
  | .lit d, e => ev F (.lit d) e
  | .bin o a b, e => ev F (.bin o a b) e
  | .cmp o a b, e => ev F (.cmp o a b) e
  | .chn o p a b c, e => ev F (.chn o p a b c) e
  | .chn3 o p q a b c d, e => ev F (.chn3 o p q a b c d) e
  | .neg a, e => ev F (.neg a) e
  | .not a, e => ev F (.not a) e
  | .and a b, e => ev F (.and a b) e
  | .or a b, e => ev F (.or a b) e
  | .lst es, e => ev F (.lst es) e
  | .sub a i, e => ev F (.sub a i) e
  | .slc pl ph a lo hi, e => ev F (.slc pl ph a lo hi) e
  | .rev a, e => ev F (.rev a) e
  | .att a f, e => ev F (.att a f) e
  | .cal f es, e => ev F (.cal f es) e
  | .cav a g es, e => ev F (.cav a g es) e
  | .bi b es, e => ev F (.bi b es) e
  | .mix a b, e => ev F (.mix a b) e
  | .isi a t, e => ev F (.isi a t) e
  | .comp ts one s cs a, e => ev F (.comp ts one s cs a) e
  | .dnew, e => ev F .dnew e
  | .mk C f i es, e => ev F (.mk C f i es) e
  | .met a tb es, e => ev F (.met a tb es) e
  | .isc a cs, e => ev F (.isc a cs) e
  | .csel gs a es, e => ev F (.csel gs a es) e
  | .orv a b, e => ev F (.orv a b) e
  | .lam g, e => ev F (.lam g) e
  | .clc gs i es, e => ev F (.clc gs i es) e
  | .ccl f gs js es, e => ev F (.ccl f gs js es) e
  | .calx f es, e => ev F (.calx f es) e
  | .flt i x cs, e => match e[i]? with
    | some (some (.dp, .lst ds)) => if x = i then none else (match compL (fun d => (bindT [x] true d e).bind fun e1 => (okOnly (evC F cs e1)).bind fun b => if b then (okOnly (ev F (.var x) e1)).map some else some none) ds with
      | none => none
      | some ps => match ilD (ps.map Prod.snd) with
        | some gs => ok (.dp, .lst ((isortB ltL gs).map eIL))
        | none => none)
    | _ => none
def evrs (F : Tb) : List E → Dn → M (List (Md × D))
  | [], _ => ok []
  | a :: as, e => bnd (evr F a e) fun p => bnd (evrs F as e) fun ps => ok (p :: ps)
/-- the slots that go with it -/
def mv : E → List Nat
  | .var i => [i]
  | .ite _ a b => mv a ++ mv b
  | .tup es => mvs es
  | .flt i _ _ => [i]
  | _ => []
def mvs : List E → List Nat
  | [] => []
  | a :: as => mv a ++ mvs as
end

def getP : List Int → D → Option D
  | [], d => some d
  | i :: is, .lst xs => (atI xs i).bind (getP is)
  | i :: is, .tup xs => (atI xs i).bind (getP is)
  | _, _ => none
def evP (F : Tb) : List E → Dn → M (List Int)
  | [], _ => ok []
  | a :: as, e => bnd (evP F as e) fun is => match okOnly (ev F a e) with
    | some p => lift ((intD p.2).map (· :: is))
    | none => none
def forL (f : D → Dn → M Fl) : List D → Dn → M Fl
  | [], e => ok (.nx e)
  | x :: xs, e => bnd (f x e) fun r => match r with
    | .nx e1 => forL f xs e1
    | .rt m d => ok (.rt m d)
def whlL (c : Dn → M Bool) (b : Dn → M Fl) : Nat → Dn → M Fl
  | 0, _ => none
  | n + 1, e => bnd (c e) fun t => if t then bnd (b e) fun r => (match r with
      | .nx e1 => whlL c b n e1
      | .rt m d => ok (.rt m d)) else ok (.nx e)
abbrev WF : Nat := 300
mutual
/-- how much a tree holds -/
def szD : D → Nat
  | .tup ds => 1 + szDs ds
  | .lst ds => 1 + szDs ds
  | _ => 1
def szDs : List D → Nat
  | [] => 0
  | d :: ds => szD d + szDs ds
end
def szE : Dn → Nat
  | [] => 0
  | some p :: r => szD p.2 + szE r
  | none :: r => szE r
def forB (f : D → M Bool) (fin : Dn) : List D → M Fl
  | [] => ok (.nx fin)
  | d :: ds => bnd (f d) fun b => if b then ok (.rt .dp (.bl false)) else forB f fin ds
def inF : Option Str → D → Option D
  | none, d => some d
  | some f, .ins C g d => if g = f ∧ insC C = true then some d else none
  | some _, _ => none
def reF : Option Str → D → D → D
  | some _, .ins C g _, d' => .ins C g d'
  | _, _, d' => d'
def extM (o : Mo) (ps : List (Md × D)) : List (Md × D) := match o, ps with
  | .extend, [(_, .lst ys)] => [(.fl, .lst ys)]
  | _, ps => ps
def eachF (F : Tb) (i : Nat) (f : Option Str) (q : List Int) (o : Mo) (es : List E) (j : Nat) (e : Dn) : M Dn := match e[i]? with
  | some (some (.dp, d)) => (match inF f d with
    | some d0 => (match okOnly (evs F es e) with
      | some ps => if closeds ps then lift ((moP o (ps.map Prod.snd) ((j : Int) :: q) d0).map fun d' => e.set i (some (.dp, reF f d d'))) else none
      | none => none)
    | none => none)
  | _ => none
def eachL (f : Nat → Dn → M Dn) : Nat → Nat → Dn → M Dn
  | 0, _, e => ok e
  | n + 1, j, e => bnd (f j e) fun e1 => eachL f n (j + 1) e1
mutual
def ex (F : Tb) : S → Dn → M Fl
  | .pass, e => ok (.nx e)
  | .asg i a, e => bnd (ev F a e) fun p => ok (.nx ((give (nm a) p.1 p.2 e).set i (some (keep p.1 p.2))))
  | .par is as, e => bnd (evs F as e) fun ps => lift ((setAll is ps (gives (nms as) ps e)).map Fl.nx)
  | .unp is a, e => bnd (ev F a e) fun p => match p.2 with
    | .tup ds => lift ((setSh is ds (give (nm a) p.1 p.2 e)).map Fl.nx)
    | _ => none
  | .aug i a, e => match e[i]? with
    | some (some (_, .int n)) => bnd (ev F a e) fun p => lift ((intD p.2).map fun k => Fl.nx (e.set i (some (.sh, .int (n + k)))))
    | _ => none
  | .mut i p o as, e => match e[i]? with
    | some (some q0) => bnd (evP F p e) fun ri => match getP ri.reverse q0.2 with
      | some (.lst _) => bnd (evs F as e) fun ps => match (gives (nms as) ps e)[i]? with
        | some (some q) => lift ((moS o ri.reverse ps q).map fun q' => Fl.nx ((gives (nms as) ps e).set i (some q')))
        | _ => none
      | _ => none
    | _ => none
  | .dput i k _, e => match e[i]? with
    | some (some (.dp, .dic ks)) => bnd (ev F k e) fun p => match p.2 with
      | .int n => if ks.length < SZ then ok (.nx (e.set i (some (.dp, .dic (if ks.contains n then ks else ks ++ [n]))))) else none
      | _ => none
    | _ => none
  | .exp a, e => bnd (ev F a e) fun _ => ok (.nx e)
  | .ife c a b, e => bnd (ev F c e) fun p => match boolD p.2 with
    | none => none
    | some true => exs F a e
    | some false => exs F b e
  | .ret a, e => bnd (evr F a e) fun p => ok (.rt p.1 p.2)
  | .for_ ts one s b, e => bnd (evS F s e) fun p => forL (fun x e1 => match bindT ts one x e1 with
      | none => none
      | some e2 => exs F b e2) p.2 (if p.1 = .dp then e else frz (nmS s) e)
  | .whl c b, e => whlL (fun e1 => bnd (ev F c e1) fun p => lift (boolD p.2)) (fun e1 => exs F b e1) (WF + szE e) e
  | .rai C, _ => some (.er C)
  | .mutF i f o as, e => match e[i]? with
    | some (some (_, .ins C0 g (.lst _))) => if g = f ∧ insC C0 = true then bnd (evs F as e) fun ps => match (gives (nms as) ps e)[i]? with
      | some (some (.dp, .ins C h (.lst xs))) => if closeds ps || closeds (extM o ps) then lift ((moL o xs (ps.map Prod.snd)).map fun ys => Fl.nx ((gives (nms as) ps e).set i (some (.dp, .ins C h (.lst ys))))) else none
      | _ => none else none
    | _ => none
  | .each i f x q o es, e => match e[i]? with
    | some (some (.dp, d)) => (match inF f d with
      | some (.lst ds) => if x = i ∨ e.length ≤ x then none else bnd (eachL (eachF F i f q o es) ds.length 0 (e.set x none)) fun e1 => ok (.nx e1)
      | _ => none)
    | _ => none
  | .tryE a x cs h, e => match ev F a e with
    | none => none
    | some (.ok _) => ok (.nx e)
    | some (.er C) => if cs.contains C = true then (match exs F h (e.set x (some (.sh, .exc C))) with
      | some (.ok (.rt m d)) => if exF d = true then ok (.rt m d) else none
      | _ => none) else none
  | .tryA a x cs h, e => match ev F a e with
    | none => none
    | some (.ok _) => ok (.nx e)
    | some (.er C) => if cs.contains C = true then (match exs F h (e.set x (some (.sh, .exc C))) with
      | some (.ok (.rt m d)) => if exF d = true then ok (.rt m d) else none
      | some (.ok (.nx e2)) => ok (.nx ((e2.map exK).set x none))
      | _ => none) else none
  | .popA i x, e => match e[i]? with
    | some (some (.sh, _)) => none
    | some (some (_, .lst ds)) => if x = i then none else (match ds.getLast? with
      | some d => ok (.nx ((e.set i (some (.fl, .lst ds.dropLast))).set x (some (.sh, d))))
      | none => none)
    | _ => none
  | .mutT a o as, e => bnd (ev F a e) fun p => (match p.2 with
    | .lst xs => if p.1 = .sh then none else bnd (evs F as e) fun ps => (match moL o xs (ps.map Prod.snd) with
      | some _ => ok (.nx e)
      | none => none)
    | _ => none)
  | .forB x es c, e => bnd (evs F es e) fun ps => forB (fun d => bnd (ev F c ((frz (nms es) e).set x (some (.sh, d)))) fun p => lift (boolD p.2)) (e.set x none) (ps.map Prod.snd)
def exs (F : Tb) : List S → Dn → M Fl
  | [], e => ok (.nx e)
  | s :: ss, e => bnd (ex F s e) fun r => match r with
    | .nx e1 => exs F ss e1
    | .rt m d => ok (.rt m d)
end

structure Fun where
  np : Nat
  nv : Nat
  body : List S
def start0 (np nv : Nat) (ds : List D) : Dn := ds.map (fun d => some (.sh, d)) ++ List.replicate (nv - np) none
def callF (F : Tb) (f : Fun) (ds : List D) : M (Md × D) :=
  if ds.length = f.np then bnd (exs F f.body (start0 f.np f.nv ds)) fun r => match r with
    | .nx _ => ok (.dp, .non)
    | .rt m d => ok (m, d)
  else none
def run (P : List Fun) : Nat → Tb
  | 0, _, _ => none
  | k + 1, f, ds => match P[f]? with
    | some F => callF (run P k) F ds
    | none => none
end TW

set_option Elab.async false
set_option linter.all false
set_option maxRecDepth 100000
set_option maxHeartbeats 4000000
namespace TW
open PySem PySem.Spec PyProof.Rows L2
variable [TabT]

def Ow (W : Wd) (H : Hp) (O : Addr → Prop) : Md → D → V → List Addr → Prop
  | .sh, d, v, F => F = [] ∧ Rp W H O d v
  | .dp, d, v, F => Dq W H d v F
  | .fl, .lst ds, v, F => ∃ a vs, v = .ref a ∧ F = [a] ∧ H a = some (.lst vs) ∧ vs.length ≤ sizeLine ∧ Rps W H O ds vs
  | .fl, .dic ks, v, F => Dq W H (.dic ks) v F
  | .fl, d, v, F => F = [] ∧ Rp W H O d v
section
variable {W : Wd} {H H' : Hp} {O O' : Addr → Prop} {m : Md} {d : D} {v : V} {F : List Addr}
def flatTop : D → Bool
  | .lst _ => true
  | .dic _ => true
  | _ => false
theorem Ow.fl_other (h : flatTop d = false) : Ow W H O .fl d v F = (F = [] ∧ Rp W H O d v) := by
  cases d <;> first | rfl | cases h
theorem closed_other (h : flatTop d = false) : closed .fl d = lfree d := by
  cases d <;> first | rfl | cases h
theorem Ow.mono (s : Same H H') (ho : ∀ a, O' a → O a) (h : Ow W H O m d v F) : Ow W H' O' m d v F := by
  cases m with
  | sh => exact ⟨h.1, Rp.mono s ho _ _ h.2⟩
  | dp => exact Dq.mono s _ _ _ h
  | fl =>
    cases e : flatTop d with
    | false =>
      rw [Ow.fl_other e] at h ⊢
      exact ⟨h.1, Rp.mono s ho _ _ h.2⟩
    | true =>
      cases d with
      | lst ds =>
        obtain ⟨a, vs, e1, e2, h1, h2, h3⟩ := h
        exact ⟨a, vs, e1, e2, s.at h1, h2, Rps.mono s ho _ _ h3⟩
      | dic ks => exact Dq.mono (W := W) s (.dic ks) _ _ h
      | _ => cases e
theorem Ow.off (ho : ∀ a, O' a → O a ∨ H a = none) (h : Ow W H O m d v F) : Ow W H O' m d v F := by
  cases m with
  | sh => exact ⟨h.1, Rp.off ho _ _ h.2⟩
  | dp => exact h
  | fl =>
    cases e : flatTop d with
    | false =>
      rw [Ow.fl_other e] at h ⊢
      exact ⟨h.1, Rp.off ho _ _ h.2⟩
    | true =>
      cases d with
      | lst ds =>
        obtain ⟨a, vs, e1, e2, h1, h2, h3⟩ := h
        exact ⟨a, vs, e1, e2, h1, h2, Rps.off ho _ _ h3⟩
      | dic ks => exact h
      | _ => cases e
theorem Ow.upd {p : Addr} {o x : HO} (hp : H p = some o) (mu : MutC o) (op : O p) (np : p ∉ F) (h : Ow W H O m d v F) : Ow W (upd H p x) O m d v F := by
  cases m with
  | sh => exact ⟨h.1, Rp.upd hp mu op _ _ h.2⟩
  | dp => exact Dq.upd hp mu _ _ _ np h
  | fl =>
    cases e : flatTop d with
    | false =>
      rw [Ow.fl_other e] at h ⊢
      exact ⟨h.1, Rp.upd hp mu op _ _ h.2⟩
    | true =>
      cases d with
      | lst ds =>
        obtain ⟨a, vs, e1, e2, h1, h2, h3⟩ := h
        have ne : a ≠ p := fun z => np (by rw [e2, z]; exact List.mem_cons_self)
        exact ⟨a, vs, e1, e2, by rw [upd_ne ne]; exact h1, h2, Rps.upd hp mu op _ _ h3⟩
      | dic ks => exact Dq.upd (W := W) hp mu (.dic ks) _ _ np h
      | _ => cases e
theorem Ow.rp (h : Ow W H O m d v F) (hO : ∀ a, O' a → O a) (hF : ∀ a ∈ F, ¬ O' a) : Rp W H O' d v := by
  cases m with
  | sh => exact Rp.mono (Same.refl H) hO _ _ h.2
  | dp => exact Dq.rp _ _ _ h hF
  | fl =>
    cases e : flatTop d with
    | false =>
      rw [Ow.fl_other e] at h
      exact Rp.mono (Same.refl H) hO _ _ h.2
    | true =>
      cases d with
      | lst ds =>
        obtain ⟨a, vs, e1, e2, h1, h2, h3⟩ := h
        exact ⟨a, vs, e1, hF a (by rw [e2]; exact List.mem_cons_self), h1, h2, Rps.mono (Same.refl H) hO _ _ h3⟩
      | dic ks => exact Dq.rp (W := W) (.dic ks) _ _ h hF
      | _ => cases e
theorem Ow.dq (h : Ow W H O m d v F) (c : closed m d = true) : Dq W H d v F := by
  cases m with
  | sh =>
    rw [h.1]
    exact Rp.dq _ _ h.2 c
  | dp => exact h
  | fl =>
    cases e : flatTop d with
    | false =>
      rw [Ow.fl_other e] at h
      rw [closed_other e] at c
      rw [h.1]
      exact Rp.dq _ _ h.2 c
    | true =>
      cases d with
      | lst ds =>
        obtain ⟨a, vs, e1, e2, h1, h2, h3⟩ := h
        exact ⟨a, vs, [], e1, e2, h1, h2, Rps.dq _ _ h3 c⟩
      | dic ks => exact h
      | _ => cases e
theorem Rp.any (h : Rp W H O d v) (l : lfree d = true) : Rp W H O' d v := Dq.rp _ _ _ (Rp.dq _ _ h l) (fun _ z => by cases z)
theorem Ow.sh_any (h : Rp W H O d v) (l : lfree d = true) : Ow W H O' m d v [] := by
  cases m with
  | sh => exact ⟨rfl, h.any l⟩
  | dp => exact Rp.dq _ _ h l
  | fl =>
    cases e : flatTop d with
    | false =>
      rw [Ow.fl_other e]
      exact ⟨rfl, h.any l⟩
    | true =>
      cases d with
      | lst ds => cases l
      | dic ks => cases l
      | _ => cases e
mutual
theorem Dq.there : ∀ (d : D) (v : V) (F : List Addr), Dq W H d v F → ∀ a ∈ F, ∃ o, H a = some o ∧ MutC o
  | .non, v, F, h, a, ha => by rw [h.2] at ha; cases ha
  | .bl _, v, F, h, a, ha => by rw [h.2] at ha; cases ha
  | .int _, v, F, h, a, ha => by rw [h.2] at ha; cases ha
  | .str _, v, F, h, a, ha => by rw [h.2] at ha; cases ha
  | .fn _, v, F, h, a, ha => by rw [h.2] at ha; cases ha
  | .exc _, v, F, h, a, ha => by rw [h.2] at ha; cases ha
  | .clo g cap, v, F, h, a, ha => by
    obtain ⟨b, c, w, e, hw, h1, h2, h3⟩ := h
    exact Dqs.there cap _ F h3 a ha
  | .tup ds, v, F, h, a, ha => by
    obtain ⟨b, vs, e, h1, h2, h3⟩ := h
    exact Dqs.there ds vs F h3 a ha
  | .lst ds, v, F, h, a, ha => by
    obtain ⟨b, vs, G, e, eF, h1, h2, h3⟩ := h
    rw [eF] at ha
    rcases List.mem_cons.mp ha with rfl | ha
    · exact ⟨_, h1, trivial⟩
    · exact Dqs.there ds vs G h3 a ha
  | .scr ns, v, F, h, a, ha => by rw [h.2] at ha; cases ha
  | .dic ks, v, F, h, a, ha => by
    obtain ⟨b, e, eF, h1, h2⟩ := h
    rw [eF] at ha
    rcases List.mem_cons.mp ha with rfl | ha
    · exact ⟨_, h1, trivial⟩
    · cases ha
  | .ins C f d, v, F, h, a, ha => by
    obtain ⟨b, dx, fv, e, h1, h3⟩ := h
    exact Dq.there d fv F h3 a ha
theorem Dqs.there : ∀ (ds : List D) (vs : List V) (F : List Addr), Dqs W H ds vs F → ∀ a ∈ F, ∃ o, H a = some o ∧ MutC o
  | [], vs, F, h, a, ha => by rw [h.2] at ha; cases ha
  | d :: ds, vs, F, h, a, ha => by
    obtain ⟨v, r, F1, F2, e, eF, h1, h2⟩ := h
    rw [eF] at ha
    rcases List.mem_append.mp ha with ha | ha
    · exact Dq.there d v F1 h1 a ha
    · exact Dqs.there ds r F2 h2 a ha
end
theorem Ow.there (h : Ow W H O m d v F) : ∀ a ∈ F, ∃ o, H a = some o ∧ MutC o := by
  cases m with
  | sh => intro a ha; rw [h.1] at ha; cases ha
  | dp => exact Dq.there _ _ _ h
  | fl =>
    cases e : flatTop d with
    | false =>
      rw [Ow.fl_other e] at h
      intro a ha
      rw [h.1] at ha
      cases ha
    | true =>
      cases d with
      | lst ds =>
        obtain ⟨b, vs, e1, e2, h1, h2, h3⟩ := h
        intro a ha
        rw [e2] at ha
        rcases List.mem_cons.mp ha with rfl | ha
        · exact ⟨_, h1, trivial⟩
        · cases ha
      | dic ks => exact Dq.there (W := W) (.dic ks) _ _ h
      | _ => cases e
end

def Ows (W : Wd) (H : Hp) (O : Addr → Prop) : List (Md × D) → List V → List (List Addr) → Prop
  | [], vs, Fs => vs = [] ∧ Fs = []
  | p :: ps, vs, Fs => ∃ v r F Fr, vs = v :: r ∧ Fs = F :: Fr ∧ Ow W H O p.1 p.2 v F ∧ Ows W H O ps r Fr
section
variable {W : Wd} {H H' : Hp} {O O' : Addr → Prop}
theorem Ows.mono (s : Same H H') (ho : ∀ a, O' a → O a) : ∀ {ps : List (Md × D)} {vs : List V} {Fs : List (List Addr)}, Ows W H O ps vs Fs → Ows W H' O' ps vs Fs
  | [], _, _, h => h
  | p :: ps, _, _, h => by
    obtain ⟨v, r, F, Fr, e1, e2, h1, h2⟩ := h
    exact ⟨v, r, F, Fr, e1, e2, h1.mono s ho, Ows.mono s ho h2⟩
theorem Ows.rps (hO : ∀ a, O' a → O a) : ∀ {ps : List (Md × D)} {vs : List V} {Fs : List (List Addr)}, Ows W H O ps vs Fs → (∀ a ∈ Fs.flatten, ¬ O' a) → Rps W H O' (ps.map Prod.snd) vs
  | [], _, _, h, _ => h.1
  | p :: ps, _, _, h, n => by
    obtain ⟨v, r, F, Fr, e1, e2, h1, h2⟩ := h
    subst e2
    exact ⟨v, r, e1, h1.rp hO (fun a ha => n a (List.mem_append_left _ ha)), Ows.rps hO h2 fun a ha => n a (List.mem_append_right _ ha)⟩
theorem Ows.dqs : ∀ {ps : List (Md × D)} {vs : List V} {Fs : List (List Addr)}, Ows W H O ps vs Fs → closeds ps = true → Dqs W H (ps.map Prod.snd) vs Fs.flatten
  | [], _, _, h, _ => by rw [h.2]; exact ⟨h.1, rfl⟩
  | p :: ps, _, _, h, c => by
    obtain ⟨v, r, F, Fr, e1, e2, h1, h2⟩ := h
    subst e2
    obtain ⟨c1, c2⟩ := Bool.and_eq_true_iff.mp (show (closed p.1 p.2 && closeds ps) = true from c)
    exact ⟨v, r, F, Fr.flatten, e1, rfl, h1.dq c1, Ows.dqs h2 c2⟩
theorem Ows.there : ∀ {ps : List (Md × D)} {vs : List V} {Fs : List (List Addr)}, Ows W H O ps vs Fs → ∀ a ∈ Fs.flatten, ∃ o, H a = some o ∧ MutC o
  | [], _, _, h, a, ha => by rw [h.2] at ha; cases ha
  | p :: ps, _, _, h, a, ha => by
    obtain ⟨v, r, F, Fr, e1, e2, h1, h2⟩ := h
    subst e2
    rcases List.mem_append.mp (show a ∈ F ++ Fr.flatten from ha) with ha | ha
    · exact h1.there a ha
    · exact Ows.there h2 a ha
theorem Ows.length : ∀ {ps : List (Md × D)} {vs : List V} {Fs : List (List Addr)}, Ows W H O ps vs Fs → vs.length = ps.length
  | [], _, _, h => by rw [h.1]; rfl
  | p :: ps, _, _, h => by
    obtain ⟨v, r, F, Fr, e1, e2, h1, h2⟩ := h
    rw [e1, List.length_cons, List.length_cons, Ows.length h2]
end

def HT (W : Wd) (H : Hp) : Prop := LamX.Tabs TabT.T H ∧ ∀ M, W.th = some M → Same M H
theorem HT.mono {W : Wd} {H H' : Hp} (h : HT W H) (s : Same H H') : HT W H' := ⟨fun p hp => s.2.1 p hp (h.1 p hp), fun M e => (h.2 M e).trans s⟩
theorem HT.nil {W : Wd} {H : Hp} (h : TabT.T = [] ∧ W.th = none) : HT W H := ⟨fun p hp => (by rw [h.1] at hp; cases hp), fun M e => (by rw [h.2] at e; cases e)⟩
def HB (W : Wd) (O : Addr → Prop) (H : Hp) : Prop := (∀ a, O a → H a ≠ none) ∧ HT W H
structure SS (W : Wd) (H0 : Hp) (O0 : Addr → Prop) (H : Hp) (σ : L2.St) (δ : Dn) (Fs : List (List Addr)) : Prop where
  same : Same H0 H
  len : δ.length = σ.length
  lenF : Fs.length = σ.length
  slot : ∀ (i : Nat) (p : Md × D), δ[i]? = some (some p) → ∃ v, σ[i]? = some (some v) ∧ Ow W H (fun a => O0 a ∨ a ∈ Fs.flatten) p.1 p.2 v (Fs.getD i [])
  nod : Fs.flatten.Nodup
  new : ∀ a ∈ Fs.flatten, H0 a = none
  offF : ∀ a, O0 a → a ∉ Fs.flatten
  oldT : ∀ a, O0 a → H a ≠ none
  there : ∀ a ∈ Fs.flatten, ∃ o, H a = some o ∧ MutC o
  mt : ∀ (i : Nat), δ[i]? = some none → Fs.getD i [] = []
  tb : HT W H0
def av (O0 : Addr → Prop) (Fs : List (List Addr)) (S : List Nat) : Addr → Prop := fun p => O0 p ∨ ∃ i, i ∉ S ∧ p ∈ Fs.getD i []
theorem mem_flat {Fs : List (List Addr)} {i : Nat} {a : Addr} (h : a ∈ Fs.getD i []) : a ∈ Fs.flatten := by
  rw [List.getD_eq_getElem?_getD] at h
  cases e : Fs[i]? with
  | none => rw [e] at h; cases h
  | some F =>
    rw [e] at h
    exact List.mem_flatten.mpr ⟨F, List.mem_of_getElem? e, h⟩
theorem flat_ix : ∀ {Fs : List (List Addr)} {a : Addr}, a ∈ Fs.flatten → ∃ i, a ∈ Fs.getD i [] := fun {Fs a} h => by
  obtain ⟨F, hF, ha⟩ := List.mem_flatten.mp h
  obtain ⟨i, hi⟩ := List.mem_iff_getElem?.mp hF
  exact ⟨i, by rw [List.getD_eq_getElem?_getD, hi]; exact ha⟩
theorem flat_inj : ∀ {Fs : List (List Addr)} {i j : Nat} {a : Addr}, Fs.flatten.Nodup → a ∈ Fs.getD i [] → a ∈ Fs.getD j [] → i = j
  | [], i, j, a, _, h, _ => by cases i <;> cases h
  | F :: Fs, 0, 0, a, _, _, _ => rfl
  | F :: Fs, 0, j + 1, a, nd, h1, h2 => by
    have nd' : (F ++ Fs.flatten).Nodup := nd
    exact absurd rfl ((List.nodup_append.mp nd').2.2 a h1 a (mem_flat (i := j) h2))
  | F :: Fs, i + 1, 0, a, nd, h1, h2 => by
    have nd' : (F ++ Fs.flatten).Nodup := nd
    exact absurd rfl ((List.nodup_append.mp nd').2.2 a h2 a (mem_flat (i := i) h1))
  | F :: Fs, i + 1, j + 1, a, nd, h1, h2 => by
    have nd' : (F ++ Fs.flatten).Nodup := nd
    rw [flat_inj (Fs := Fs) (i := i) (j := j) (List.nodup_append.mp nd').2.1 h1 h2]
theorem av_mono {O0 : Addr → Prop} {Fs : List (List Addr)} {S T : List Nat} (h : ∀ i ∈ T, i ∈ S) : ∀ a, av O0 Fs S a → av O0 Fs T a := fun a z => by
  rcases z with z | ⟨i, n, z⟩
  · exact .inl z
  · exact .inr ⟨i, fun q => n (h i q), z⟩
section
variable {W : Wd} {H0 H H' : Hp} {O0 : Addr → Prop} {σ : L2.St} {δ : Dn} {Fs : List (List Addr)}
theorem SS.av_there (S : SS W H0 O0 H σ δ Fs) {T : List Nat} : ∀ a, av O0 Fs T a → H a ≠ none := fun a z => by
  rcases z with z | ⟨i, _, z⟩
  · exact S.oldT a z
  · obtain ⟨o, e, _⟩ := S.there a (mem_flat z)
    rw [e]
    simp
theorem SS.tabs (S : SS W H0 O0 H σ δ Fs) : HT W H := S.tb.mono S.same
theorem SS.av_hb (S : SS W H0 O0 H σ δ Fs) {T : List Nat} : HB W (av O0 Fs T) H := ⟨S.av_there, S.tabs⟩
theorem SS.grow (S : SS W H0 O0 H σ δ Fs) (s : Same H H') : SS W H0 O0 H' σ δ Fs :=
  ⟨S.same.trans s, S.len, S.lenF, fun i p e => let ⟨v, h1, h2⟩ := S.slot i p e; ⟨v, h1, h2.mono s fun _ z => z⟩, S.nod, S.new, S.offF, fun a ha z => S.oldT a ha (s.free z), fun a ha => let ⟨o, e, m⟩ := S.there a ha; ⟨o, s.at e m.nt, m⟩, S.mt, S.tb⟩
theorem SS.more (S : SS W H0 O0 H σ δ Fs) (s : Same H H') {F : List Addr} (n : ∀ a ∈ F, H a = none) (t : ∀ a ∈ F, H' a ≠ none) : SS W H0 (fun a => O0 a ∨ a ∈ F) H' σ δ Fs := by
  refine ⟨S.same.trans s, S.len, S.lenF, fun i p e => ?_, S.nod, S.new, fun a z q => ?_, fun a z q => ?_, fun a ha => ?_, S.mt, S.tb⟩
  · obtain ⟨v, h1, h2⟩ := S.slot i p e
    refine ⟨v, h1, (h2.off (fun a z => ?_)).mono s fun _ z => z⟩
    rcases z with (z | z) | z
    · exact .inl (.inl z)
    · exact .inr (n a z)
    · exact .inl (.inr z)
  · rcases z with z | z
    · exact S.offF a z q
    · obtain ⟨o, e, _⟩ := S.there a q
      rw [n a z] at e
      cases e
  · rcases z with z | z
    · exact S.oldT a z (s.free q)
    · exact t a z q
  · obtain ⟨o, e, m⟩ := S.there a ha
    exact ⟨o, s.at e m.nt, m⟩
theorem SS.var (S : SS W H0 O0 H σ δ Fs) {i : Nat} {p : Md × D} (e : δ[i]? = some (some p)) {T : List Nat} (hT : i ∈ T) : ∃ v, σ[i]? = some (some v) ∧ Rp W H (av O0 Fs T) p.2 v := by
  obtain ⟨v, h1, h2⟩ := S.slot i p e
  refine ⟨v, h1, h2.rp (fun a z => ?_) (fun a ha z => ?_)⟩
  · rcases z with z | ⟨j, _, z⟩
    · exact .inl z
    · exact .inr (mem_flat z)
  · rcases z with z | ⟨j, n, z⟩
    · exact S.offF a z (mem_flat ha)
    · exact n (flat_inj S.nod ha z ▸ hT)
end

def Res (W : Wd) (H : Hp) (O : Addr → Prop) (m : Md) (d : D) (Q : VK) : Prop :=
  ∀ v H' F, Same H H' → (∀ a ∈ F, H a = none) → F.Nodup → Ow W H' (fun p => O p ∨ p ∈ F) m d v F → Q v H'
def rq (W : Wd) (E0 : XK) (H : Hp) (O : Addr → Prop) (r : M (Md × D)) (Q : VK) : Prop := match r with
  | none => False
  | some (.er C) => ∀ H', Same H H' → E0 (.ref (W.ca C)) none H'
  | some (.ok p) => Res W H O p.1 p.2 Q
def rqs (W : Wd) (E0 : XK) (H : Hp) (O : Addr → Prop) (r : M (List (Md × D))) (Q : List V → Hp → Prop) : Prop := match r with
  | none => False
  | some (.er C) => ∀ H', Same H H' → E0 (.ref (W.ca C)) none H'
  | some (.ok ps) => ∀ vs H' Fs, Same H H' → (∀ a ∈ Fs.flatten, H a = none) → Fs.flatten.Nodup → Ows W H' (fun p => O p ∨ p ∈ Fs.flatten) ps vs Fs → Q vs H'
def rqb (W : Wd) (E0 : XK) (H : Hp) (r : M Bool) (Q : Bool → Hp → Prop) : Prop := match r with
  | none => False
  | some (.er C) => ∀ H', Same H H' → E0 (.ref (W.ca C)) none H'
  | some (.ok b) => ∀ H', Same H H' → Q b H'
def rdE (W : Wd) (E0 : XK) (T : Tb) (c : E) : TE := fun σ H Q => ∃ H0 O0 δ Fs, SS W H0 O0 H σ δ Fs ∧ rq W E0 H (av O0 Fs (nm c)) (ev T c δ) Q
def rdA (W : Wd) (E0 : XK) (T : Tb) (cs : List E) : TA := fun σ H Q => ∃ H0 O0 δ Fs, SS W H0 O0 H σ δ Fs ∧ rqs W E0 H (av O0 Fs (nms cs)) (evs T cs δ) Q
def evB (T : Tb) (c : E) (δ : Dn) : M Bool := bnd (ev T c δ) fun p => lift (boolD p.2)
def rdT (W : Wd) (E0 : XK) (T : Tb) (c : E) : TT := fun σ H Q => ∃ H0 O0 δ Fs, SS W H0 O0 H σ δ Fs ∧ rqb W E0 H (evB T c δ) Q
section
variable {W : Wd} {E0 : XK} {H H1 : Hp} {O O1 : Addr → Prop} {Q R : VK}
theorem Res.mono {m : Md} {d : D} (h : Res W H O m d Q) (s : Same H H1) : Res W H1 O m d Q := fun v H' F s' n nd ow => h v H' F (s.trans s') (fun a ha => s.free (n a ha)) nd ow
theorem Res.wk {m : Md} {d : D} (h : Res W H O m d Q) (hO : ∀ a, O a → O1 a) : Res W H O1 m d Q := fun v H' F s' n nd ow => h v H' F s' n nd (ow.mono (Same.refl H') fun a z => z.elim (fun q => .inl (hO a q)) .inr)
theorem rq.mono {r : M (Md × D)} (h : rq W E0 H O r Q) (s : Same H H1) : rq W E0 H1 O r Q := by
  match r, h with
  | none, h => exact h
  | some (.er C), h => exact fun H' s' => h H' (s.trans s')
  | some (.ok p), h => exact Res.mono (W := W) h s
theorem rqs.mono {r : M (List (Md × D))} {Q : List V → Hp → Prop} (h : rqs W E0 H O r Q) (s : Same H H1) : rqs W E0 H1 O r Q := by
  match r, h with
  | none, h => exact h
  | some (.er C), h => exact fun H' s' => h H' (s.trans s')
  | some (.ok p), h => exact fun vs H' F s' n nd ow => h vs H' F (s.trans s') (fun a ha => s.free (n a ha)) nd ow
theorem rqb.mono {r : M Bool} {Q : Bool → Hp → Prop} (h : rqb W E0 H r Q) (s : Same H H1) : rqb W E0 H1 r Q := by
  match r, h with
  | none, h => exact h
  | some (.er C), h => exact fun H' s' => h H' (s.trans s')
  | some (.ok p), h => exact fun H' s' => h H' (s.trans s')
theorem rq_bnd' {α : Type} {x : M (Md × D)} {f : Md × D → M α} {G : M α → Prop} (hn : ¬ G none) (he : ∀ C, G (some (.er C)) → ∀ H', Same H H' → E0 (.ref (W.ca C)) none H') (h : G (bnd x f)) (k : ∀ p, G (f p) → Res W H O1 p.1 p.2 R) : rq W E0 H O1 x R := by
  match x, h with
  | none, h => exact hn h
  | some (.er C), h => exact he C h
  | some (.ok p), h => exact k p h
theorem rqs_bnd' {α : Type} {x : M (List (Md × D))} {f : List (Md × D) → M α} {G : M α → Prop} {R : List V → Hp → Prop} (hn : ¬ G none) (he : ∀ C, G (some (.er C)) → ∀ H', Same H H' → E0 (.ref (W.ca C)) none H') (h : G (bnd x f)) (k : ∀ ps, G (f ps) → ∀ vs H' Fs, Same H H' → (∀ a ∈ Fs.flatten, H a = none) → Fs.flatten.Nodup → Ows W H' (fun p => O1 p ∨ p ∈ Fs.flatten) ps vs Fs → R vs H') : rqs W E0 H O1 x R := by
  match x, h with
  | none, h => exact hn h
  | some (.er C), h => exact he C h
  | some (.ok p), h => exact k p h
theorem rqb_bnd' {α : Type} {x : M Bool} {f : Bool → M α} {G : M α → Prop} {R : Bool → Hp → Prop} (hn : ¬ G none) (he : ∀ C, G (some (.er C)) → ∀ H', Same H H' → E0 (.ref (W.ca C)) none H') (h : G (bnd x f)) (k : ∀ b, G (f b) → ∀ H', Same H H' → R b H') : rqb W E0 H x R := by
  match x, h with
  | none, h => exact hn h
  | some (.er C), h => exact he C h
  | some (.ok p), h => exact k p h
theorem rq_none : ¬ rq W E0 H O none Q := fun h => h
theorem rqs_none {R : List V → Hp → Prop} : ¬ rqs W E0 H O none R := fun h => h
theorem rqb_none {R : Bool → Hp → Prop} : ¬ rqb W E0 H none R := fun h => h
theorem Res.val {m : Md} {d : D} {v : V} (h : Res W H O m d Q) (hv : Rp W H O d v) (l : lfree d = true) : Q v H := h v H [] (Same.refl H) (fun _ z => by cases z) List.nodup_nil (Ow.sh_any hv l)
theorem Res.share {d : D} {v : V} {H' : Hp} (h : Res W H O .sh d Q) (s : Same H H') (hv : Rp W H' O d v) : Q v H' := h v H' [] s (fun _ z => by cases z) List.nodup_nil ⟨rfl, Rp.mono (Same.refl _) (fun a z => z.elim id fun q => by cases q) _ _ hv⟩
theorem Res.flat {ds : List D} {vs : List V} {p : Addr} (h : Res W H O .fl (.lst ds) Q) (n : H p = none) (hO : ∀ a, O a → H a ≠ none) (hl : vs.length ≤ sizeLine) (r : Rps W H O ds vs) : Q (.ref p) (L2.upd H p (.lst vs)) := by
  refine h _ _ [p] (Same.of fun b x e => ?_) (fun a ha => ?_) (by simp) ⟨p, vs, rfl, rfl, upd_same, hl, ?_⟩
  · rw [upd_ne (ne_of_none e n)]; exact e
  · rw [List.mem_singleton.mp ha]; exact n
  · have s : Same H (L2.upd H p (.lst vs)) := Same.of fun b x e => by rw [upd_ne (ne_of_none e n)]; exact e
    exact Rps.mono s (fun _ z => z) _ _ (Rps.off (O := O) (fun a z => z.elim .inl fun q => .inr (by rw [List.mem_singleton.mp q]; exact n)) _ _ r)
end
end TW

set_option Elab.async false
set_option linter.all false
set_option maxRecDepth 100000
set_option maxHeartbeats 4000000
namespace TW
open PySem PySem.Spec PyProof.Rows L2
variable [TabT]

theorem _root_.L2.PE.imp {X : Cx} {e : Expr} {t t' : TE} (h : PE X e t) (k : ∀ σ H Q, t' σ H Q → t σ H Q) : PE X e t' := ⟨fun pins s σ H Q I q => h.run pins s σ H Q I (k σ H Q q)⟩
theorem _root_.L2.PT.imp {X : Cx} {e : Expr} {t t' : TT} (h : PT X e t) (k : ∀ σ H Q, t' σ H Q → t σ H Q) : PT X e t' := ⟨fun pins s σ H Q I q => h.run pins s σ H Q I (k σ H Q q)⟩
theorem _root_.L2.PW.imp {X : Cx} {e : Expr} {t t' : TT} (h : PW X e t) (k : ∀ σ H Q, t' σ H Q → t σ H Q) : PW X e t' := ⟨fun wh pins s σ H Q I q => h.run wh pins s σ H Q I (k σ H Q q)⟩
theorem _root_.L2.PA.imp {X : Cx} {e : List Expr} {t t' : TA} (h : PA X e t) (k : ∀ σ H Q, t' σ H Q → t σ H Q) : PA X e t' := ⟨fun pos pins s σ H Q I q => h.run pos pins s σ H Q I (k σ H Q q)⟩
theorem _root_.L2.PS.imp {X : Cx} {e : Stmt} {t t' : TS} (h : PS X e t) (k : ∀ D σ H, t' D σ H → t D σ H) : PS X e t' := ⟨fun pins s σ H D I q => h.run pins s σ H D I (k D σ H q)⟩
theorem _root_.L2.PSs.imp {X : Cx} {e : List Stmt} {t t' : TS} (h : PSs X e t) (k : ∀ D σ H, t' D σ H → t D σ H) : PSs X e t' := ⟨fun pins s σ H D I q => h.run pins s σ H D I (k D σ H q)⟩
theorem _root_.L2.OpR.imp {X : Cx} {f : Value → Value → Sem Value} {r r' : R2} (h : OpR X f r) (k : ∀ x y H Q, r' x y H Q → r x y H Q) : OpR X f r' := fun pins s σ H x y v u Q I rx ry q => h pins s σ H x y v u Q I rx ry (k x y H Q q)
theorem sz_le : SZ ≤ sizeLine := by decide

mutual
theorem dat_py : ∀ (d : D) (n : Nat), dat d n = true → (toPy d).canLay0 = true ∧ (toPy d).depth ≤ n
  | .non, n, h => ⟨by simp [toPy, PyData.canLay0], by simp [toPy, PyData.depth]⟩
  | .bl _, n, h => ⟨by simp [toPy, PyData.canLay0], by simp [toPy, PyData.depth]⟩
  | .int _, n, h => ⟨by simp [toPy, PyData.canLay0], by simp [toPy, PyData.depth]⟩
  | .str x, n, h => by
    refine ⟨?_, by simp [toPy, PyData.depth]⟩
    simp only [toPy, PyData.canLay0]
    exact h
  | .tup ds, 0, h => by cases (show false = true from h)
  | .lst ds, 0, h => by cases (show false = true from h)
  | .tup ds, n + 1, h => by
    obtain ⟨h1, h2⟩ := dats_py ds n h
    refine ⟨?_, ?_⟩
    · simp only [toPy, PyData.canLay0]; exact h1
    · simp only [toPy, PyData.depth]; omega
  | .lst ds, n + 1, h => by
    obtain ⟨h1, h2⟩ := dats_py ds n h
    refine ⟨?_, ?_⟩
    · simp only [toPy, PyData.canLay0]; exact h1
    · simp only [toPy, PyData.depth]; omega
  | .scr ns, n, h => by
    have hn : 0 < n := of_decide_eq_true h
    have : ∀ l : List Int, PyData.canLayAll0 (l.map .int) = true ∧ PyData.depthAll (l.map .int) = 0 := by
      intro l
      induction l with
      | nil => exact ⟨by simp [PyData.canLayAll0], by simp [PyData.depthAll]⟩
      | cons x r ih => exact ⟨by simp [PyData.canLayAll0, PyData.canLay0, ih.1], by simp [PyData.depthAll, PyData.depth, ih.2]⟩
    refine ⟨?_, ?_⟩
    · simp only [toPy, PyData.canLay0]; exact (this ns).1
    · simp only [toPy, PyData.depth, (this ns).2]; omega
  | .fn _, n, h => by cases (show false = true from h)
  | .dic _, n, h => by cases (show false = true from h)
  | .ins _ _ _, n, h => by cases (show false = true from h)
  | .exc _, n, h => by cases (show false = true from h)
  | .clo _ _, n, h => by cases (show false = true from h)
theorem dats_py : ∀ (ds : List D) (n : Nat), dats ds n = true → PyData.canLayAll0 (toPys ds) = true ∧ PyData.depthAll (toPys ds) ≤ n
  | [], n, h => ⟨by simp [toPys, PyData.canLayAll0], by simp [toPys, PyData.depthAll]⟩
  | d :: ds, n, h => by
    obtain ⟨a, b⟩ := Bool.and_eq_true_iff.mp (show (dat d n && dats ds n) = true from h)
    obtain ⟨h1, h2⟩ := dat_py d n a
    obtain ⟨h3, h4⟩ := dats_py ds n b
    refine ⟨?_, ?_⟩
    · simp only [toPys, PyData.canLayAll0, h1, h3, Bool.and_self]
    · simp only [toPys, PyData.depthAll]; omega
end
theorem shaped_of {d : D} {n : Nat} (hn : n ≤ 64) (h : dat d n = true) : SeqAt.shaped (toPy d) = true := by
  obtain ⟨h1, h2⟩ := dat_py d n h
  unfold SeqAt.shaped
  rw [h1, decide_eq_true (Nat.le_trans h2 hn)]
  rfl
section
variable {W : Wd} {H : Hp} {O : Addr → Prop}
theorem dpAll_ints {K : PySem.W.Frag} : ∀ ns : List Int, DpAll K H (ns.map V.int) (ns.map PyData.int)
  | [] => .nil
  | n :: r => .cons (.int n) (dpAll_ints r)
mutual
theorem Rp.dp : ∀ (d : D) (n : Nat) (v : V), dat d n = true → Rp W H O d v → Dp W.K H v (toPy d)
  | .non, n, v, h, r => by rw [show v = .non from r]; simp only [toPy]; exact .non
  | .bl b, n, v, h, r => by rw [show v = .bl b from r]; simp only [toPy]; exact .bl b
  | .int i, n, v, h, r => by rw [show v = .int i from r]; simp only [toPy]; exact .int i
  | .str x, n, v, h, r => by rw [show v = .str x from r]; simp only [toPy]; exact .str x
  | .tup ds, 0, v, h, r => by cases (show false = true from h)
  | .lst ds, 0, v, h, r => by cases (show false = true from h)
  | .tup ds, n + 1, v, h, r => by
    obtain ⟨a, vs, rfl, h1, h2, h3⟩ := r
    simp only [toPy]
    exact .tup (.inl (.inl h1)) (Rps.dp ds n vs h h3)
  | .lst ds, n + 1, v, h, r => by
    obtain ⟨a, vs, rfl, _, h1, h2, h3⟩ := r
    simp only [toPy]
    exact .lst (.inl (.inl h1)) (Rps.dp ds n vs h h3)
  | .scr ns, n, v, h, r => by
    obtain ⟨a, rfl, h1, h2⟩ := r
    simp only [toPy]
    exact .lst h1.sq (dpAll_ints ns)
  | .fn _, n, v, h, r => by cases (show false = true from h)
  | .dic _, n, v, h, r => by cases (show false = true from h)
  | .ins _ _ _, n, v, h, r => by cases (show false = true from h)
  | .exc _, n, v, h, r => by cases (show false = true from h)
  | .clo _ _, n, v, h, r => by cases (show false = true from h)
theorem Rps.dp : ∀ (ds : List D) (n : Nat) (vs : List V), dats ds n = true → Rps W H O ds vs → DpAll W.K H vs (toPys ds)
  | [], n, vs, h, r => by rw [show vs = [] from r]; simp only [toPys]; exact .nil
  | d :: ds, n, vs, h, r => by
    obtain ⟨v, r', rfl, h1, h2⟩ := r
    obtain ⟨a, b⟩ := Bool.and_eq_true_iff.mp (show (dat d n && dats ds n) = true from h)
    simp only [toPys]
    exact .cons (Rp.dp d n v a h1) (Rps.dp ds n r' b h2)
end
theorem toPys_any (f : PyData → Bool) : ∀ ds : List D, (toPys ds).any f = ds.any fun d => f (toPy d)
  | [] => by simp [toPys]
  | d :: ds => by simp only [toPys, List.any_cons, toPys_any f ds]
theorem eqV_py {x y : D} {v w : V} (hx : flatD x = true) (hy : flatD y = true) (rx : Rp W H O x v) (ry : Rp W H O y w) : eqV v w = eqD x y ∧ flatV v = true ∧ flatV w = true := by
  cases x <;> first | (cases hx; done) | skip
  all_goals (cases y <;> first | (cases hy; done) | skip)
  all_goals (
    simp only [Rp] at rx ry
    subst rx
    subst ry
    refine ⟨?_, rfl, rfl⟩
    simp [eqV, eqD, toPy, PyData.eqv])
theorem Rps.flat : ∀ (ds : List D) (vs : List V), ds.all flatD = true → Rps W H O ds vs → vs.all flatV = true
  | [], vs, _, r => by rw [show vs = [] from r]; rfl
  | d :: ds, vs, h, r => by
    obtain ⟨v, r', rfl, h1, h2⟩ := r
    obtain ⟨a, b⟩ := Bool.and_eq_true_iff.mp (show (flatD d && ds.all flatD) = true from h)
    rw [List.all_cons, (eqV_py a a h1 h1).2.1, Rps.flat ds r' b h2]
    rfl
theorem Rps.inV {x : D} {v : V} (hx : flatD x = true) (rx : Rp W H O x v) : ∀ (ds : List D) (vs : List V), ds.all flatD = true → Rps W H O ds vs → inV v vs = ds.any fun z => eqD z x
  | [], vs, _, r => by rw [show vs = [] from r]; rfl
  | d :: ds, vs, h, r => by
    obtain ⟨w, r', rfl, h1, h2⟩ := r
    obtain ⟨a, b⟩ := Bool.and_eq_true_iff.mp (show (flatD d && ds.all flatD) = true from h)
    have ih := Rps.inV hx rx ds r' b h2
    unfold L2.inV at ih ⊢
    rw [List.any_cons, List.any_cons, ih, (eqV_py a hx h1 rx).1]
end
end TW

set_option Elab.async false
set_option linter.all false
set_option maxRecDepth 100000
set_option maxHeartbeats 4000000
namespace TW
open PySem PySem.Spec PyProof.Rows L2
variable [TabT]

def r2 (W : Wd) (g : D → D → Option (Md × D)) : R2 := fun x y H Q => ∃ O d e res, (∀ a, O a → H a ≠ none) ∧ Rp W H O d x ∧ Rp W H O e y ∧ g d e = some res ∧ Res W H O res.1 res.2 Q
def gB (o : Cop) (d e : D) : Option (Md × D) := (cmpD o d e).map fun b => (.dp, .bl b)
section
variable {W : Wd} {X : Cx}
theorem op_case {f : Value → Value → Sem Value} {g : D → D → Option (Md × D)}
    (k : ∀ (d e : D) (res : Md × D), g d e = some res → OpR X f (fun x y H Q => ∃ O, (∀ a, O a → H a ≠ none) ∧ Rp W H O d x ∧ Rp W H O e y ∧ Res W H O res.1 res.2 Q)) : OpR X f (r2 W g) := by
  intro pins s σ H x y v u Q I rx ry ⟨O, d, e, res, hO, hd, he, hg, hq⟩
  exact k d e res hg pins s σ H x y v u Q I rx ry ⟨O, hO, hd, he, hq⟩
theorem op_ints {f : Value → Value → Sem Value} {i j : Int} {m : Md} {r : V} {d : D} {C : Int → Int → Prop} {g : Int → Int → V} (ho : OpR X f (rI C g)) (hc : C i j) (hg : ∀ H O, Rp W H O d (g i j)) (l : lfree d = true) :
    OpR X f (fun x y H Q => ∃ O, (∀ a, O a → H a ≠ none) ∧ Rp W H O (.int i) x ∧ Rp W H O (.int j) y ∧ Res W H O m d Q) := by
  intro pins s σ H x y v u Q I rx ry ⟨O, hO, hd, he, hq⟩
  refine ho pins s σ H x y v u Q I rx ry ⟨i, j, hd, he, hc, hq.val (hg H O) l⟩
theorem op_ints0 {f : Value → Value → Sem Value} {i j : Int} {m : Md} {d : D} {g : Int → Int → V} (ho : OpR X f (rI0 g)) (hg : ∀ H O, Rp W H O d (g i j)) (l : lfree d = true) :
    OpR X f (fun x y H Q => ∃ O, (∀ a, O a → H a ≠ none) ∧ Rp W H O (.int i) x ∧ Rp W H O (.int j) y ∧ Res W H O m d Q) := by
  intro pins s σ H x y v u Q I rx ry ⟨O, hO, hd, he, hq⟩
  refine ho pins s σ H x y v u Q I rx ry ⟨i, j, hd, he, hq.val (hg H O) l⟩
theorem Rps.append {H : Hp} {O : Addr → Prop} : ∀ {ds es : List D} {vs ws : List V}, Rps W H O ds vs → Rps W H O es ws → Rps W H O (ds ++ es) (vs ++ ws)
  | [], es, vs, ws, h, k => by rw [show vs = [] from h]; exact k
  | d :: ds, es, vs, ws, h, k => by
    obtain ⟨v, r, rfl, h1, h2⟩ := h
    exact ⟨v, r ++ ws, rfl, h1, Rps.append h2 k⟩
theorem Rps.rep {H : Hp} {O : Addr → Prop} {ds : List D} {vs : List V} (h : Rps W H O ds vs) : ∀ n : Nat, Rps W H O (List.replicate n ds).flatten (List.replicate n vs).flatten
  | 0 => rfl
  | n + 1 => by
    rw [List.replicate_succ, List.replicate_succ, List.flatten_cons, List.flatten_cons]
    exact h.append (Rps.rep h n)
theorem mulOk {i j : Int} (h : i.natAbs.log2 + j.natAbs.log2 < 100000000) : IntMulOk i j := by
  have b : ∀ x : Int, Builtin.Int.intBits x ≤ x.natAbs.log2 + 1 := fun x => by
    unfold Builtin.Int.intBits
    split <;> omega
  have h1 := b i
  have h2 := b j
  have e : bitsLine = 134217728 := by decide
  unfold IntMulOk
  intro z
  rw [Bool.and_eq_true] at z
  have z2 := z.2
  unfold Builtin.Int.intTooBig at z2
  have z3 := of_decide_eq_true z2
  rw [e] at z3
  omega
theorem op_mulB : OpR X (binaryOp .Mult) (rI (fun i j => i.natAbs.log2 + j.natAbs.log2 < 100000000) fun i j => .int (i * j)) := opI fun _ _ _ _ _ _ _ hc q => mul_int q (mulOk hc)

theorem o_add : OpR X (binaryOp .Add) (r2 W (binD .add)) := op_case fun d e res hg => by
  cases d <;> cases e <;> (try (exact nomatch (show (none : Option (Md × D)) = some res from hg)))
  · cases hg
    exact op_ints0 op_add (fun _ _ => rfl) rfl
  · rename_i xs ys
    have hg : (if xs ≠ [] ∧ ys ≠ [] ∧ xs.length + ys.length ≤ SZ then some (Md.sh, D.tup (xs ++ ys)) else none) = some res := hg
    split at hg <;> first | (cases hg; done) | skip
    rename_i hz
    obtain ⟨n1, n2, hz⟩ := hz
    cases hg
    intro pins s σ H x y v u Q I rx ry ⟨O, hO, hd, he, hq⟩
    obtain ⟨a, vs, rfl, ha, la, ra⟩ := hd
    obtain ⟨b, ws, rfl, hb, lb, rb⟩ := he
    have e1 := Rps.length _ _ ra
    have e2 := Rps.length _ _ rb
    have hl : vs.length + ws.length ≤ sizeLine := by
      have := sz_le
      rw [e1, e2]
      omega
    have m1 : vs ≠ [] := fun z => n1 (List.length_eq_zero_iff.mp (by rw [← e1, z]; rfl))
    have m2 : ws ≠ [] := fun z => n2 (List.length_eq_zero_iff.mp (by rw [← e2, z]; rfl))
    refine op_catA pins s σ H _ _ v u Q I rx ry ⟨a, b, vs, ws, rfl, rfl, .inl (.inl ha), .inl (.inl hb), hl, fun z => absurd z m1, fun _ z => absurd z m2, fun _ _ p np => ?_⟩
    have sm : Same H (L2.upd H p (.tup (vs ++ ws))) := Same.of fun b x e => by rw [upd_ne (ne_of_none e np)]; exact e
    exact hq.share sm ⟨p, vs ++ ws, rfl, upd_same, by rw [List.length_append]; exact hl, Rps.mono sm (fun _ z => z) _ _ (ra.append rb)⟩
  · rename_i xs ys
    have hg : (if xs.length + ys.length ≤ SZ then some (Md.fl, D.lst (xs ++ ys)) else none) = some res := hg
    split at hg <;> first | (cases hg; done) | skip
    rename_i hz
    cases hg
    intro pins s σ H x y v u Q I rx ry ⟨O, hO, hd, he, hq⟩
    obtain ⟨a, vs, rfl, _, ha, la, ra⟩ := hd
    obtain ⟨b, ws, rfl, _, hb, lb, rb⟩ := he
    have e1 := Rps.length _ _ ra
    have e2 := Rps.length _ _ rb
    have hl : vs.length + ws.length ≤ sizeLine := by
      have := sz_le
      rw [e1, e2]
      omega
    exact op_cat pins s σ H _ _ v u Q I rx ry ⟨a, b, vs, ws, rfl, rfl, ha, hb, hl, fun p np => hq.flat np hO (by rw [List.length_append]; exact hl) (ra.append rb)⟩

theorem o_sub : OpR X (binaryOp .Sub) (r2 W (binD .sub)) := op_case fun d e res hg => by
  cases d <;> cases e <;> (try (exact nomatch (show (none : Option (Md × D)) = some res from hg)))
  · cases hg
    exact op_ints0 op_sub (fun _ _ => rfl) rfl

theorem o_mul : OpR X (binaryOp .Mult) (r2 W (binD .mul)) := op_case fun d e res hg => by
  cases d <;> cases e <;> (try (exact nomatch (show (none : Option (Md × D)) = some res from hg)))
  · rename_i i j
    have hg : (if i.natAbs.log2 + j.natAbs.log2 < 100000000 then some (Md.dp, D.int (i * j)) else none) = some res := hg
    split at hg <;> first | (cases hg; done) | skip
    rename_i hz
    cases hg
    exact op_ints (r := .non) op_mulB hz (fun _ _ => rfl) rfl
  · rename_i xs k
    have hg : (if (smallI k && decide (xs.length * k.toNat ≤ SZ)) = true then some (Md.fl, D.lst (List.replicate k.toNat xs).flatten) else none) = some res := hg
    split at hg <;> first | (cases hg; done) | skip
    rename_i hz
    cases hg
    obtain ⟨h1, h2⟩ := Bool.and_eq_true_iff.mp hz
    have h1 : k.natAbs < 1000000000 := of_decide_eq_true h1
    have h2 : xs.length * k.toNat ≤ SZ := of_decide_eq_true h2
    intro pins s σ H x y v u Q I rx ry ⟨O, hO, hd, he, hq⟩
    obtain ⟨a, vs, rfl, _, ha, la, ra⟩ := hd
    have e1 := Rps.length _ _ ra
    have hl : vs.length * k.toNat ≤ sizeLine := by
      rw [e1]
      exact Nat.le_trans h2 sz_le
    refine op_rep pins s σ H _ y v u Q I rx ry ⟨a, k, vs, rfl, he, ha, by omega, by omega, hl, fun p np => hq.flat np hO ?_ (ra.rep _)⟩
    rw [List.length_flatten, List.map_replicate, List.sum_replicate_nat, Nat.mul_comm]
    exact hl

theorem o_fdiv : OpR X (binaryOp .FloorDiv) (r2 W (binD .fdiv)) := op_case fun d e res hg => by
  cases d <;> cases e <;> (try (exact nomatch (show (none : Option (Md × D)) = some res from hg)))
  · rename_i i j
    have hg : (if 0 < j ∧ j < 1073741824 then some (Md.dp, D.int (i / j)) else none) = some res := hg
    split at hg <;> first | (cases hg; done) | skip
    rename_i hz; cases hg; exact op_ints (r := .non) op_fdiv hz (fun _ _ => rfl) rfl

theorem o_mod : OpR X (binaryOp .Mod) (r2 W (binD .mod)) := op_case fun d e res hg => by
  cases d <;> cases e <;> (try (exact nomatch (show (none : Option (Md × D)) = some res from hg)))
  · rename_i i j
    have hg : (if 0 < j then some (Md.dp, D.int (i % j)) else none) = some res := hg
    split at hg <;> first | (cases hg; done) | skip
    rename_i hz; cases hg; exact op_ints (r := .non) op_mod hz (fun _ _ => rfl) rfl

theorem op_caseB {f : Value → Value → Sem Value} {o : Cop}
    (k : ∀ (d e : D) (b : Bool), cmpD o d e = some b → OpR X f (fun x y H Q => ∃ O, (∀ a, O a → H a ≠ none) ∧ Rp W H O d x ∧ Rp W H O e y ∧ Q (.bl b) H)) : OpR X f (r2 W (gB o)) := by
  intro pins s σ H x y v u Q I rx ry ⟨O, d, e, res, hO, hd, he, hg, hq⟩
  unfold gB at hg
  cases hb : cmpD o d e with
  | none => rw [hb] at hg; cases hg
  | some b =>
    rw [hb] at hg
    cases hg
    exact k d e b hb pins s σ H x y v u Q I rx ry ⟨O, hO, hd, he, hq.val rfl rfl⟩
theorem op_intsB {f : Value → Value → Sem Value} {i j : Int} {b : Bool} {g : Int → Int → V} (ho : OpR X f (rI0 g)) (hg : g i j = .bl b) :
    OpR X f (fun x y H Q => ∃ O, (∀ a, O a → H a ≠ none) ∧ Rp W H O (.int i) x ∧ Rp W H O (.int j) y ∧ Q (.bl b) H) := by
  intro pins s σ H x y v u Q I rx ry ⟨O, hO, hd, he, hq⟩
  exact ho pins s σ H x y v u Q I rx ry ⟨i, j, hd, he, by rw [hg]; exact hq⟩
theorem lexLt2 (a b c d : Int) : HT.lexLt [a, b] [c, d] = ltP2 (a, b) (c, d) := by
  unfold ltP2
  simp only [HT.lexLt]
  by_cases h : a = c
  · subst h
    by_cases h2 : b = d
    · subst h2; simp
    · simp [h2]
  · simp [h]
theorem Rp.pair {H : Hp} {O : Addr → Prop} {a b : Int} {v : V} (h : Rp W H O (.tup [.int a, .int b]) v) : ∃ p, v = .ref p ∧ H p = some (.tup [.int a, .int b]) := by
  obtain ⟨p, vs, rfl, h1, h2, v1, r1, rfl, e1, v2, r2, rfl, e2, e3⟩ := h
  have e1 : v1 = .int a := e1
  have e2 : v2 = .int b := e2
  have e3 : r2 = [] := e3
  subst e1 e2 e3
  exact ⟨p, rfl, h1⟩
theorem intD_eq {d : D} {i : Int} (h : intD d = some i) : d = .int i := by
  cases d <;> first | (cases h; rfl) | cases h
theorem prD_eq {d : D} {p : Int × Int} (h : prD d = some p) : d = eP p := by
  unfold prD at h
  split at h
  · cases h; rfl
  · cases h
theorem o_lt (hu : X.A.units < cLine) : OpR X (compareOp .Lt) (r2 W (gB .lt)) := op_caseB fun d e b hb => by
  have hb : ltO d e = some b := by cases d <;> exact hb
  unfold ltO at hb
  split at hb
  · rename_i i j h1 h2
    rw [intD_eq h1, intD_eq h2]
    cases hb
    exact op_intsB op_lt rfl
  · split at hb
    · rename_i p q h1 h2
      rw [prD_eq h1, prD_eq h2]
      cases hb
      intro pins s σ H x y v u Q I rx ry ⟨O, hO, hd, he, hq⟩
      obtain ⟨a, rfl, ha⟩ := hd.pair
      obtain ⟨c, rfl, hc⟩ := he.pair
      exact op_ltT hu pins s σ H _ _ v u Q I rx ry ⟨a, c, [p.1, p.2], [q.1, q.2], rfl, rfl, .inl (.inl ha), .inl (.inl hc), by rw [lexLt2]; exact hq⟩
    · cases hb
theorem o_le : OpR X (compareOp .LtE) (r2 W (gB .le)) := op_caseB fun d e b hb => by
  cases d <;> cases e <;> (try (exact nomatch (show (none : Option Bool) = some b from hb)))
  · cases hb
    exact op_intsB op_le rfl
theorem o_gt : OpR X (compareOp .Gt) (r2 W (gB .gt)) := op_caseB fun d e b hb => by
  cases d <;> cases e <;> (try (exact nomatch (show (none : Option Bool) = some b from hb)))
  · cases hb
    exact op_intsB op_gt rfl
theorem o_eq (hK : X.K = W.K) (hu : X.A.units + 64 < cLine) : OpR X (compareOp .Eq) (r2 W (gB .eq)) := op_caseB fun d e b hb => by
  have hb : (if (dat d 20 && dat e 20) = true then some (eqD d e) else none) = some b := by cases d <;> exact hb
  split at hb <;> first | (cases hb; done) | skip
  rename_i hz
  cases hb
  obtain ⟨z1, z2⟩ := Bool.and_eq_true_iff.mp hz
  intro pins s σ H x y v u Q I rx ry ⟨O, hO, hd, he, hq⟩
  exact op_eqD hu pins s σ H _ _ v u Q I rx ry ⟨_, _, by rw [hK]; exact Rp.dp d 20 x z1 hd, by rw [hK]; exact Rp.dp e 20 y z2 he, shaped_of (by decide) z1, shaped_of (by decide) z2, hq⟩
theorem o_ne (hK : X.K = W.K) (hu : X.A.units + 64 < cLine) : OpR X (compareOp .NotEq) (r2 W (gB .ne)) := op_caseB fun d e b hb => by
  have hb : (if (dat d 20 && dat e 20) = true then some (!eqD d e) else none) = some b := by cases d <;> exact hb
  split at hb <;> first | (cases hb; done) | skip
  rename_i hz
  cases hb
  obtain ⟨z1, z2⟩ := Bool.and_eq_true_iff.mp hz
  intro pins s σ H x y v u Q I rx ry ⟨O, hO, hd, he, hq⟩
  exact op_neD hu pins s σ H _ _ v u Q I rx ry ⟨_, _, by rw [hK]; exact Rp.dp d 20 x z1 hd, by rw [hK]; exact Rp.dp e 20 y z2 he, shaped_of (by decide) z1, shaped_of (by decide) z2, hq⟩
theorem valV_dic (n : Int) : ∀ ks : List Int, (valV (dicV ks) (Sum.inl n)).isSome = ks.contains n
  | [] => rfl
  | k :: ks => by
    show (valV ((Sum.inl k, V.bl true) :: dicV ks) (Sum.inl n)).isSome = _
    have ih := valV_dic n ks
    by_cases e : k = n
    · subst e
      rw [valV_pos rfl]
      simp
    · rw [valV_neg (fun z => e (Sum.inl.inj z)), ih, List.contains_cons]
      have : (n == k) = false := beq_eq_false_iff_ne.mpr fun z => e z.symm
      rw [this, Bool.false_or]
theorem o_in (hK : X.K = W.K) (hu : X.A.units + 65 < cLine) : OpR X (compareOp .In) (r2 W (gB .isin)) := op_caseB fun d e b hb => by
  have hb : inD d e = some b := by cases d <;> exact hb
  intro pins s σ H x y v u Q I rx ry ⟨O, hO, hd, he, hq⟩
  cases e with
  | lst ds =>
    have hb : (if (dat d 20 && dats ds 20) = true then some (ds.any fun z => eqD z d) else none) = some b := hb
    split at hb <;> first | (cases hb; done) | skip
    rename_i hz
    cases hb
    obtain ⟨z1, z2⟩ := Bool.and_eq_true_iff.mp hz
    have p2 : Dp X.K H y (.list (toPys ds)) := by
      rw [hK]
      have := Rp.dp (.lst ds) 21 y z2 he
      simpa only [toPy] using this
    have p3 : SeqAt.shaped (.list (toPys ds)) = true := by
      have := shaped_of (d := .lst ds) (n := 21) (by decide) z2
      simpa only [toPy] using this
    refine op_inD hu pins s σ H _ _ v u Q I rx ry ⟨toPy d, toPys ds, by rw [hK]; exact Rp.dp d 20 x z1 hd, p2, shaped_of (by decide) z1, p3, ?_⟩
    rw [toPys_any]
    exact hq
  | tup ds =>
    have hb : (if (flatD d && ds.all flatD) = true then some (ds.any fun z => eqD z d) else none) = some b := hb
    split at hb <;> first | (cases hb; done) | skip
    rename_i hz
    cases hb
    obtain ⟨z1, z2⟩ := Bool.and_eq_true_iff.mp hz
    obtain ⟨p, vs, rfl, hp, hl, hr⟩ := he
    refine op_in_seq pins s σ H _ _ v u Q I rx ry ⟨p, vs, rfl, .inr (.inl (.inl hp)), (eqV_py z1 z1 hd hd).2.1, Rps.flat _ _ z2 hr, ?_⟩
    rw [if_neg (by decide), Rps.inV z1 hd ds vs z2 hr]
    exact hq
  | dic ks =>
    cases d with
    | int n =>
      have hb : some (ks.contains n) = some b := hb
      cases hb
      obtain ⟨p, rfl, _, hp, hl⟩ := he
      have hd : x = .int n := hd
      subst hd
      obtain rfl : u = Value.ref p := ry
      have g : DGet H p (.int n) (valV (dicV ks) (Sum.inl n)) := DGet.k (k := Sum.inl n) hp
      exact d_in (by omega) I g rx fun s3 I3 => ⟨.bl _, H, I3, rfl, by rw [valV_dic]; exact hq⟩
    | _ => cases hb
  | _ => cases hb
theorem o_notin (hK : X.K = W.K) (hu : X.A.units + 65 < cLine) : OpR X (compareOp .NotIn) (r2 W (gB .notin)) := op_caseB fun d e b hb => by
  have hb : (inD d e).map (!·) = some b := by cases d <;> exact hb
  intro pins s σ H x y v u Q I rx ry ⟨O, hO, hd, he, hq⟩
  cases e with
  | lst ds =>
    have hb : (if (dat d 20 && dats ds 20) = true then some (ds.any fun z => eqD z d) else none).map (!·) = some b := hb
    split at hb <;> first | (cases hb; done) | skip
    rename_i hz
    cases hb
    obtain ⟨z1, z2⟩ := Bool.and_eq_true_iff.mp hz
    have p2 : Dp X.K H y (.list (toPys ds)) := by
      rw [hK]
      have := Rp.dp (.lst ds) 21 y z2 he
      simpa only [toPy] using this
    have p3 : SeqAt.shaped (.list (toPys ds)) = true := by
      have := shaped_of (d := .lst ds) (n := 21) (by decide) z2
      simpa only [toPy] using this
    refine op_notInD hu pins s σ H _ _ v u Q I rx ry ⟨toPy d, toPys ds, by rw [hK]; exact Rp.dp d 20 x z1 hd, p2, shaped_of (by decide) z1, p3, ?_⟩
    rw [toPys_any]
    exact hq
  | tup ds =>
    have hb : (if (flatD d && ds.all flatD) = true then some (ds.any fun z => eqD z d) else none).map (!·) = some b := hb
    split at hb <;> first | (cases hb; done) | skip
    rename_i hz
    cases hb
    obtain ⟨z1, z2⟩ := Bool.and_eq_true_iff.mp hz
    obtain ⟨p, vs, rfl, hp, hl, hr⟩ := he
    refine op_notIn_seq pins s σ H _ _ v u Q I rx ry ⟨p, vs, rfl, .inr (.inl (.inl hp)), (eqV_py z1 z1 hd hd).2.1, Rps.flat _ _ z2 hr, ?_⟩
    rw [if_pos rfl, Rps.inV z1 hd ds vs z2 hr]
    exact hq
  | dic ks =>
    cases d with
    | int n =>
      have hb : some (!ks.contains n) = some b := hb
      cases hb
      obtain ⟨p, rfl, _, hp, hl⟩ := he
      have hd : x = .int n := hd
      subst hd
      obtain rfl : u = Value.ref p := ry
      have g : DGet H p (.int n) (valV (dicV ks) (Sum.inl n)) := DGet.k (k := Sum.inl n) hp
      exact d_notIn (by omega) I g rx fun s3 I3 => ⟨.bl _, H, I3, rfl, by rw [valV_dic]; exact hq⟩
    | _ => cases hb
  | _ => cases hb
end
end TW

set_option Elab.async false
set_option linter.all false
set_option maxRecDepth 100000
set_option maxHeartbeats 4000000
namespace TW
open PySem PySem.Spec PyProof.Rows L2
variable [TabT]

section
variable {W : Wd} {E0 : XK} {H H1 : Hp} {O O1 : Addr → Prop}
theorem rqs_bnd2 {α : Type} {x : M (List (Md × D))} {f : List (Md × D) → M α} {G : M α → Prop} {R : List V → Hp → Prop} (hn : ¬ G none) (he : ∀ C, G (some (.er C)) → ∀ H', Same H H' → E0 (.ref (W.ca C)) none H') (h : G (bnd x f)) (k : ∀ ps, x = some (.ok ps) → G (f ps) → ∀ vs H' Fs, Same H H' → (∀ a ∈ Fs.flatten, H a = none) → Fs.flatten.Nodup → Ows W H' (fun p => O1 p ∨ p ∈ Fs.flatten) ps vs Fs → R vs H') : rqs W E0 H O1 x R := by
  match x, h, k with
  | none, h, k => exact hn h
  | some (.er C), h, k => exact he C h
  | some (.ok p), h, k => exact k p rfl h
theorem Ow.rpv {m : Md} {d : D} {v : V} {F : List Addr} (h : Ow W H1 (fun p => O p ∨ p ∈ F) m d v F) (hO : ∀ a, O1 a → O a) (ht : ∀ a, O1 a → H a ≠ none) (n : ∀ a ∈ F, H a = none) : Rp W H1 O1 d v :=
  h.rp (fun a z => .inl (hO a z)) fun a ha z => ht a z (n a ha)
theorem same_new {p : Addr} {o : HO} (n : H p = none) : Same H (L2.upd H p o) := Same.of fun b x e => by
  rw [upd_ne (ne_of_none e n)]; exact e
theorem Res.tup {Q : VK} {ps : List (Md × D)} {vs : List V} {Fs : List (List Addr)} {p : Addr} (h : Res W H O (tupM ps) (.tup (ps.map Prod.snd)) Q) (s : Same H H1) (ht : ∀ a, O a → H a ≠ none) (n : ∀ a ∈ Fs.flatten, H a = none) (nd : Fs.flatten.Nodup)
    (ow : Ows W H1 (fun p => O1 p ∨ p ∈ Fs.flatten) ps vs Fs) (hO : ∀ a, O a → O1 a) (hl : vs.length ≤ sizeLine) (np : H1 p = none) : Q (.ref p) (L2.upd H1 p (.tup vs)) := by
  have s2 := same_new (o := .tup vs) np
  unfold tupM at h
  split at h
  · rename_i c
    exact h _ _ Fs.flatten (s.trans s2) n nd ⟨p, vs, rfl, upd_same, hl, Dqs.mono s2 _ _ _ (ow.dqs c)⟩
  · refine Res.share h (s.trans s2) ⟨p, vs, rfl, upd_same, hl, ?_⟩
    exact Rps.mono s2 (fun _ z => z) _ _ (ow.rps (fun a z => .inl (hO a z)) fun a ha z => ht a z (n a ha))
theorem Res.box {Q : VK} {ps : List (Md × D)} {vs : List V} {Fs : List (List Addr)} {p : Addr} (h : Res W H O (boxM ps) (.lst (ps.map Prod.snd)) Q) (s : Same H H1) (ht : ∀ a, O a → H a ≠ none) (n : ∀ a ∈ Fs.flatten, H a = none) (nd : Fs.flatten.Nodup)
    (ow : Ows W H1 (fun p => O1 p ∨ p ∈ Fs.flatten) ps vs Fs) (hO : ∀ a, O a → O1 a) (hl : vs.length ≤ sizeLine) (np : H1 p = none) : Q (.ref p) (L2.upd H1 p (.lst vs)) := by
  have s2 := same_new (o := .lst vs) np
  have nH : H p = none := s.free np
  unfold boxM at h
  split at h
  · rename_i c
    refine h _ _ (p :: Fs.flatten) (s.trans s2) (fun a ha => ?_) (List.nodup_cons.mpr ⟨fun z => ?_, nd⟩) ⟨p, vs, Fs.flatten, rfl, rfl, upd_same, hl, Dqs.mono s2 _ _ _ (ow.dqs c)⟩
    · rcases List.mem_cons.mp ha with rfl | ha
      · exact nH
      · exact n a ha
    · obtain ⟨o, e, _⟩ := ow.there p z
      rw [np] at e
      cases e
  · have r : Rps W H1 O (ps.map Prod.snd) vs := ow.rps (fun a z => .inl (hO a z)) fun a ha z => ht a z (n a ha)
    exact Res.flat (h.mono s) np (fun a z e => ht a z (s.free e)) hl r
end

section
variable {W : Wd} {E0 : XK} {T : Tb} {X : Cx}
theorem c_var (i : Nat) {x : Str} {pos : Pos} (hN : X.N[i]? = some x := by rfl) (hv : Vis X.env.scope x := by first | exact Or.inl rfl | exact Or.inr (Or.inl rfl) | exact Or.inr (Or.inr rfl)) (hd : (x == ("__debug__" : Str)) = false := by decide)
    (hcd : (x == ("__classdict__" : Str)) = false := by decide) : PE X (.Name x pos) (rdE W E0 T (.var i)) := (pv i hN hv hd hcd).imp fun σ H Q ⟨H0, O0, δ, Fs, S, q⟩ => by
  simp only [ev] at q
  cases e : δ[i]? with
  | none => rw [e] at q; exact q.elim
  | some o =>
    cases o with
    | none => rw [e] at q; exact q.elim
    | some p =>
      rw [e] at q
      obtain ⟨v, h1, h2⟩ := S.var e (T := nm (.var i)) (by simp [nm])
      exact ⟨v, h1, Res.share q (Same.refl H) h2⟩
theorem rd_lit {d : D} {v : V} {σ : L2.St} {H : Hp} {Q : VK} (hv : ∀ H O, Rp W H O d v) (l : lfree d = true) (h : rdE W E0 T (.lit d) σ H Q) : Q v H := by
  obtain ⟨H0, O0, δ, Fs, S, q⟩ := h
  simp only [ev] at q
  split at q
  · exact Res.val (W := W) (d := d) q (hv _ _) l
  · exact q.elim
theorem c_int {i : Int} {j pos} : PE X (.Constant (.int i) j pos) (rdE W E0 T (.lit (.int i))) := pe_int.imp fun σ H Q h => rd_lit (d := .int i) (v := .int i) (fun _ _ => rfl) rfl h
theorem c_bl {b : Bool} {j pos} : PE X (.Constant (.bool b) j pos) (rdE W E0 T (.lit (.bl b))) := pe_bl.imp fun σ H Q h => rd_lit (d := .bl b) (v := .bl b) (fun _ _ => rfl) rfl h
theorem c_non {j pos} : PE X (.Constant .none j pos) (rdE W E0 T (.lit .non)) := pe_non.imp fun σ H Q h => rd_lit (d := .non) (v := .non) (fun _ _ => rfl) rfl h
theorem c_str {x : Str} {j pos} : PE X (.Constant (.str x) j pos) (rdE W E0 T (.lit (.str x))) := pe_str.imp fun σ H Q h => rd_lit (d := .str x) (v := .str x) (fun _ _ => rfl) rfl h
theorem c_gint {x : Str} {i : Int} {pos : Pos} (hg : Gl X x) (hm : ∃ t, X.mg x = some (.int i t)) (hd : (x == ("__debug__" : Str)) = false := by decide) : PE X (.Name x pos) (rdE W E0 T (.lit (.int i))) := by
  obtain ⟨t, hm⟩ := hm
  exact (pe_glob (v := .int i) hg hm ⟨t, rfl⟩ hd).imp fun σ H Q h => rd_lit (d := .int i) (v := .int i) (fun _ _ => rfl) rfl h
theorem rd1 {a : E} {g : D → Option (Md × D)} {r : V → Hp → VK → Prop} {H0 : Hp} {O0 : Addr → Prop} {δ : Dn} {Fs : List (List Addr)} {σ : L2.St} {H : Hp} {Q : VK} (S : SS W H0 O0 H σ δ Fs)
    (h : rq W E0 H (av O0 Fs (nm a)) (bnd (ev T a δ) fun p => lift (g p.2)) Q)
    (good : ∀ H2 O x d res, (∀ a, O a → H2 a ≠ none) → Rp W H2 O d x → g d = some res → Res W H2 O res.1 res.2 Q → r x H2 Q) :
    rdE W E0 T a σ H (fun x H1 => r x H1 Q) := by
  refine ⟨H0, O0, δ, Fs, S, rq_bnd' (G := fun z => rq W E0 H (av O0 Fs (nm a)) z Q) rq_none (fun C h => h) h fun p h1 => ?_⟩
  intro v1 H1 F1 s1 n1 nd1 ow1
  cases e : g p.2 with
  | none => rw [e] at h1; exact h1.elim
  | some res =>
    rw [e] at h1
    exact good H1 (av O0 Fs (nm a)) v1 p.2 res ((S.grow s1).av_there) (ow1.rpv (fun _ z => z) S.av_there n1) e (Res.mono (W := W) h1 s1)
theorem rd2 {a b : E} {g : D → D → Option (Md × D)} {r : R2} {H0 : Hp} {O0 : Addr → Prop} {δ : Dn} {Fs : List (List Addr)} {σ : L2.St} {H : Hp} {Q : VK} {ns : List Nat} (S : SS W H0 O0 H σ δ Fs) (ha : ∀ i ∈ nm a, i ∈ ns) (hb : ∀ i ∈ nm b, i ∈ ns)
    (h : rq W E0 H (av O0 Fs ns) (bnd (ev T a δ) fun p => bnd (ev T b δ) fun q => lift (g p.2 q.2)) Q)
    (good : ∀ H2 O x y d e res, (∀ a, O a → H2 a ≠ none) → Rp W H2 O d x → Rp W H2 O e y → g d e = some res → Res W H2 O res.1 res.2 Q → r x y H2 Q) :
    rdE W E0 T a σ H (fun x H1 => rdE W E0 T b σ H1 (fun y H2 => r x y H2 Q)) := by
  refine ⟨H0, O0, δ, Fs, S, rq_bnd' (G := fun z => rq W E0 H (av O0 Fs ns) z Q) rq_none (fun C h => h) h fun p h1 => ?_⟩
  intro v1 H1 F1 s1 n1 nd1 ow1
  have S1 := S.grow s1
  refine ⟨H0, O0, δ, Fs, S1, rq_bnd' (G := fun z => rq W E0 H1 (av O0 Fs ns) z Q) rq_none (fun C h => h) (rq.mono h1 s1) fun q h2 => ?_⟩
  intro v2 H2 F2 s2 n2 nd2 ow2
  cases e : g p.2 q.2 with
  | none => rw [e] at h2; exact h2.elim
  | some res =>
    rw [e] at h2
    refine good H2 (av O0 Fs ns) v1 v2 p.2 q.2 res ((S1.grow s2).av_there) ?_ (ow2.rpv (av_mono hb) S1.av_there n2) e (Res.mono (W := W) h2 s2)
    exact Rp.mono s2 (fun _ z => z) _ _ (ow1.rpv (av_mono ha) S.av_there n1)
theorem c_op {a b : Expr} {ca cb : E} {o : Bop} {op : Operator} {pos : Pos} (ho : OpR X (binaryOp op) (r2 W (binD o))) (ha : PE X a (rdE W E0 T ca)) (hb : PE X b (rdE W E0 T cb)) : PE X (.BinOp a op b pos) (rdE W E0 T (.bin o ca cb)) :=
  (pe_op ho ha hb).imp fun σ H Q ⟨H0, O0, δ, Fs, S, q⟩ => by
    simp only [ev, nm] at q
    exact rd2 (r := r2 W (binD o)) S (fun i h => List.mem_append_left _ h) (fun i h => List.mem_append_right _ h) q fun H2 O x y d e res hO hd he hg hq => ⟨O, d, e, res, hO, hd, he, hg, hq⟩
theorem rd_cmp {ca cb : E} {o : Cop} {σ : L2.St} {H : Hp} {Q : VK} (h : rdE W E0 T (.cmp o ca cb) σ H Q) : tOp (r2 W (gB o)) (rdE W E0 T ca) (rdE W E0 T cb) σ H Q := by
  obtain ⟨H0, O0, δ, Fs, S, q⟩ := h
  simp only [ev, nm] at q
  exact rd2 (g := gB o) (r := r2 W (gB o)) S (fun i h => List.mem_append_left _ h) (fun i h => List.mem_append_right _ h) q fun H2 O x y d e res hO hd he hg hq => ⟨O, d, e, res, hO, hd, he, hg, hq⟩
theorem c_cmp {a b : Expr} {ca cb : E} {o : Cop} {op : CmpOp} {pos : Pos} (ho : OpR X (compareOp op) (r2 W (gB o))) (ha : PE X a (rdE W E0 T ca)) (hb : PE X b (rdE W E0 T cb)) (hm : behindInMarks op b = false) : PE X (.Compare a [op] [b] pos) (rdE W E0 T (.cmp o ca cb)) :=
  (pe_cmpR ho ha hb hm).imp fun σ H Q h => rd_cmp h
theorem c_neg {a : Expr} {ca : E} {pos : Pos} (ha : PE X a (rdE W E0 T ca)) : PE X (.UnaryOp .USub a pos) (rdE W E0 T (.neg ca)) :=
  (pe_un un_neg ha).imp fun σ H Q ⟨H0, O0, δ, Fs, S, q⟩ => by
    simp only [ev, nm] at q
    refine rd1 (g := fun d => (intD d).map fun i => (.dp, .int (-i))) S q fun H2 O x d res hO hd hg hq => ?_
    cases e : intD d with
    | none => rw [e] at hg; cases hg
    | some i =>
      rw [e] at hg
      cases hg
      rw [intD_eq e] at hd
      exact ⟨i, hd, hq.val rfl rfl⟩
theorem rd_chn {ca cb cc : E} {o o2 : Cop} {σ : L2.St} {H : Hp} {Q : VK} (h : rdE W E0 T (.chn o o2 ca cb cc) σ H Q) : tChain (r2 W (gB o)) (r2 W (gB o2)) (rdE W E0 T ca) (rdE W E0 T cb) (rdE W E0 T cc) σ H Q := by
    obtain ⟨H0, O0, δ, Fs, S, q⟩ := h
    simp only [ev, nm] at q
    have ia : ∀ i ∈ nm ca, i ∈ nm ca ++ nm cb ++ nm cc := fun i h => by simp [h]
    have ib : ∀ i ∈ nm cb, i ∈ nm ca ++ nm cb ++ nm cc := fun i h => by simp [h]
    have ic : ∀ i ∈ nm cc, i ∈ nm ca ++ nm cb ++ nm cc := fun i h => by simp [h]
    refine ⟨H0, O0, δ, Fs, S, rq_bnd' (G := fun z => rq W E0 H (av O0 Fs (nm ca ++ nm cb ++ nm cc)) z Q) rq_none (fun C h => h) q fun p h1 => ?_⟩
    intro v1 H1 F1 s1 n1 nd1 ow1
    have S1 := S.grow s1
    refine ⟨H0, O0, δ, Fs, S1, rq_bnd' (G := fun z => rq W E0 H1 (av O0 Fs (nm ca ++ nm cb ++ nm cc)) z Q) rq_none (fun C h => h) (rq.mono h1 s1) fun p2 h2 => ?_⟩
    intro v2 H2 F2 s2 n2 nd2 ow2
    have S2 := S1.grow s2
    have r1 := Rp.mono s2 (fun _ z => z) _ _ (ow1.rpv (av_mono ia) S.av_there n1)
    have r2' := ow2.rpv (av_mono ib) S1.av_there n2
    have h2 := rq.mono h2 s2
    cases e : cmpD o p.2 p2.2 with
    | none => rw [e] at h2; exact h2.elim
    | some k =>
      rw [e] at h2
      refine ⟨_, _, _, (.dp, .bl k), S2.av_there, r1, r2', by unfold gB; rw [e]; rfl, fun v3 H3 F3 s3 n3 nd3 ow3 => ?_⟩
      obtain ⟨rfl, _⟩ := (show v3 = .bl k ∧ F3 = [] from ow3)
      refine ⟨k, rfl, ?_⟩
      have h3 := rq.mono h2 s3
      have S3 := S2.grow s3
      cases k with
      | false =>
        rw [if_neg (by decide)]
        exact Res.val (W := W) h3 rfl rfl
      | true =>
        rw [if_pos rfl]
        refine ⟨H0, O0, δ, Fs, S3, rq_bnd' (G := fun z => rq W E0 H3 (av O0 Fs (nm ca ++ nm cb ++ nm cc)) z Q) rq_none (fun C h => h) h3 fun p4 h4 => ?_⟩
        intro v4 H4 F4 s4 n4 nd4 ow4
        cases e4 : cmpD o2 p2.2 p4.2 with
        | none => rw [e4] at h4; exact h4.elim
        | some k2 =>
          rw [e4] at h4
          exact ⟨_, _, _, (.dp, .bl k2), (S3.grow s4).av_there, Rp.mono (s3.trans s4) (fun _ z => z) _ _ r2', ow4.rpv (av_mono ic) S3.av_there n4, by unfold gB; rw [e4]; rfl, Res.mono (W := W) h4 s4⟩
theorem c_chn {a b c : Expr} {ca cb cc : E} {o o2 : Cop} {op op2 : CmpOp} {pos : Pos} (ho : OpR X (compareOp op) (r2 W (gB o))) (ho2 : OpR X (compareOp op2) (r2 W (gB o2))) (ha : PE X a (rdE W E0 T ca)) (hb : PE X b (rdE W E0 T cb)) (hc : PE X c (rdE W E0 T cc))
    (hm : lastMarks [op, op2] [b, c] = false := by with_unfolding_all rfl) : PE X (.Compare a [op, op2] [b, c] pos) (rdE W E0 T (.chn o o2 ca cb cc)) :=
  (pe_chain ho ho2 ha hb hc hm).imp fun σ H Q h => rd_chn h

theorem rdT_E {c : E} {σ : L2.St} {H : Hp} {Q : Bool → Hp → Prop} (h : rdT W E0 T c σ H Q) : rdE W E0 T c σ H (fun x H' => ∃ k, x = .bl k ∧ Q k H') := by
  obtain ⟨H0, O0, δ, Fs, S, q⟩ := h
  refine ⟨H0, O0, δ, Fs, S, rq_bnd' (G := fun z => rqb W E0 H z Q) rqb_none (fun C h => h) q fun p h1 => ?_⟩
  intro v H1 F1 s1 n1 nd1 ow1
  cases e : boolD p.2 with
  | none => rw [e] at h1; exact h1.elim
  | some b =>
    rw [e] at h1
    have hp : p.2 = .bl b := by
      cases hd : p.2 <;> rw [hd] at e <;> first | (cases e; done) | skip
      cases e; rfl
    have r := ow1.rpv (O1 := fun _ => False) (fun _ z => z.elim) (fun _ z => z.elim) n1
    rw [hp] at r
    exact ⟨b, r, h1 H1 s1⟩
theorem t_val {e : Expr} {c : E} (h : PE X e (rdE W E0 T c)) (he : ∀ whole, isTrue e X.env whole = (do let v ← whole; standAt e.pos; holding [v] (truthy v)) := by intro _; rfl) : PT X e (rdT W E0 T c) :=
  (pt_val h he).imp fun σ H Q h => rdT_E h
theorem t_cmp {a b : Expr} {ca cb : E} {o : Cop} {op : CmpOp} {pos : Pos} (ho : OpR X (compareOp op) (r2 W (gB o))) (ha : PE X a (rdE W E0 T ca)) (hb : PE X b (rdE W E0 T cb)) (hm : behindInMarks op b = false) : PT X (.Compare a [op] [b] pos) (rdT W E0 T (.cmp o ca cb)) :=
  (pt_cmpR ho ha hb hm).imp fun σ H Q h => rd_cmp (rdT_E h)
theorem evB_not {c : E} {δ : Dn} : evB T (.not c) δ = bnd (evB T c δ) fun b => ok (!b) := by
  unfold evB
  simp only [ev]
  cases ev T c δ with
  | none => rfl
  | some r =>
    cases r with
    | er C => rfl
    | ok p =>
      show bnd (lift ((boolD p.2).map fun b => (Md.dp, D.bl (!b)))) _ = bnd (lift (boolD p.2)) _
      cases boolD p.2 <;> rfl
theorem evB_and {a b : E} {δ : Dn} : evB T (.and a b) δ = bnd (evB T a δ) fun c => if c then evB T b δ else ok false := by
  unfold evB
  simp only [ev]
  cases ev T a δ with
  | none => rfl
  | some r =>
    cases r with
    | er C => rfl
    | ok p =>
      show bnd (match boolD p.2 with | none => none | some false => ok (.dp, .bl false) | some true => ev T b δ) _ = bnd (lift (boolD p.2)) _
      cases boolD p.2 with
      | none => rfl
      | some k => cases k <;> rfl
theorem evB_or {a b : E} {δ : Dn} : evB T (.or a b) δ = bnd (evB T a δ) fun c => if c then ok true else evB T b δ := by
  unfold evB
  simp only [ev]
  cases ev T a δ with
  | none => rfl
  | some r =>
    cases r with
    | er C => rfl
    | ok p =>
      show bnd (match boolD p.2 with | none => none | some true => ok (.dp, .bl true) | some false => ev T b δ) _ = bnd (lift (boolD p.2)) _
      cases boolD p.2 with
      | none => rfl
      | some k => cases k <;> rfl
theorem t_not {a : Expr} {c : E} {pos : Pos} (h : PT X a (rdT W E0 T c)) : PT X (.UnaryOp .Not a pos) (rdT W E0 T (.not c)) :=
  (pt_not h).imp fun σ H Q ⟨H0, O0, δ, Fs, S, q⟩ => by
    rw [evB_not] at q
    exact ⟨H0, O0, δ, Fs, S, rqb_bnd' (G := fun z => rqb W E0 H z Q) rqb_none (fun C h => h) q fun b h1 H' s => h1 H' s⟩
theorem t_and1 {a : Expr} {c : E} {pos : Pos} (h : PT X a (rdT W E0 T c)) : PW X (.BoolOp .And [a] pos) (rdT W E0 T c) := pw_and1 h
theorem t_or1 {a : Expr} {c : E} {pos : Pos} (h : PT X a (rdT W E0 T c)) : PW X (.BoolOp .Or [a] pos) (rdT W E0 T c) := pw_or1 h
theorem t_and {a b : Expr} {rest : List Expr} {ca cb : E} {pos : Pos} (ha : PT X a (rdT W E0 T ca)) (hb : PW X (.BoolOp .And (b :: rest) pos) (rdT W E0 T cb)) : PW X (.BoolOp .And (a :: b :: rest) pos) (rdT W E0 T (.and ca cb)) :=
  (pw_and ha hb).imp fun σ H Q ⟨H0, O0, δ, Fs, S, q⟩ => by
    rw [evB_and] at q
    refine ⟨H0, O0, δ, Fs, S, rqb_bnd' (G := fun z => rqb W E0 H z Q) rqb_none (fun C h => h) q fun b h1 H' s => ?_⟩
    cases b with
    | true =>
      rw [if_pos rfl]
      exact ⟨H0, O0, δ, Fs, S.grow s, rqb.mono h1 s⟩
    | false =>
      rw [if_neg (by decide)]
      exact h1 H' s
theorem t_or {a b : Expr} {rest : List Expr} {ca cb : E} {pos : Pos} (ha : PT X a (rdT W E0 T ca)) (hb : PW X (.BoolOp .Or (b :: rest) pos) (rdT W E0 T cb)) : PW X (.BoolOp .Or (a :: b :: rest) pos) (rdT W E0 T (.or ca cb)) :=
  (pw_or ha hb).imp fun σ H Q ⟨H0, O0, δ, Fs, S, q⟩ => by
    rw [evB_or] at q
    refine ⟨H0, O0, δ, Fs, S, rqb_bnd' (G := fun z => rqb W E0 H z Q) rqb_none (fun C h => h) q fun b h1 H' s => ?_⟩
    cases b with
    | false =>
      rw [if_neg (by decide)]
      exact ⟨H0, O0, δ, Fs, S.grow s, rqb.mono h1 s⟩
    | true =>
      rw [if_pos rfl]
      exact h1 H' s
theorem Ow.bl {W : Wd} {H : Hp} {O : Addr → Prop} {m : Md} {b : Bool} {v : V} {F : List Addr} (h : Ow W H O m (.bl b) v F) : v = .bl b := by
  cases m with
  | sh => exact h.2
  | dp => exact h.1
  | fl => exact h.2
theorem boolD_eq {d : D} {b : Bool} (h : boolD d = some b) : d = .bl b := by
  cases d <;> first | (cases h; rfl) | cases h
theorem c_one {a : Expr} {c : E} {op : BoolOp} {pos : Pos} (h : PE X a (rdE W E0 T c)) : PE X (.BoolOp op [a] pos) (rdE W E0 T c) := pe_one h
theorem c_and {a b : Expr} {rest : List Expr} {ca cb : E} {pos : Pos} (ha : PE X a (rdE W E0 T ca)) (hb : PE X (.BoolOp .And (b :: rest) pos) (rdE W E0 T cb)) : PE X (.BoolOp .And (a :: b :: rest) pos) (rdE W E0 T (.and ca cb)) :=
  (pe_and ha hb).imp fun σ H Q ⟨H0, O0, δ, Fs, S, q⟩ => by
    simp only [ev, nm] at q
    refine ⟨H0, O0, δ, Fs, S, rq_bnd' (G := fun z => rq W E0 H (av O0 Fs (nm ca ++ nm cb)) z Q) rq_none (fun C h => h) q fun p h1 => ?_⟩
    intro v H1 F1 s1 n1 nd1 ow1
    cases e : boolD p.2 with
    | none => rw [e] at h1; exact h1.elim
    | some k =>
      rw [e] at h1
      rw [boolD_eq e] at ow1
      refine ⟨k, ow1.bl, ?_⟩
      cases k with
      | false =>
        rw [if_neg (by decide)]
        exact Res.val (W := W) (Res.mono (W := W) h1 s1) rfl rfl
      | true =>
        rw [if_pos rfl]
        have h2 := rq.mono h1 s1
        refine ⟨H0, O0, δ, Fs, S.grow s1, ?_⟩
        revert h2
        cases ev T cb δ with
        | none => exact fun h => h
        | some r =>
          cases r with
          | er C => exact fun h => h
          | ok p2 => exact fun h => Res.wk (W := W) h (av_mono fun i hi => List.mem_append_right _ hi)
theorem c_not {a : Expr} {ca : E} {pos : Pos} (ha : PE X a (rdE W E0 T ca)) : PE X (.UnaryOp .Not a pos) (rdE W E0 T (.not ca)) :=
  (pe_not ha).imp fun σ H Q ⟨H0, O0, δ, Fs, S, q⟩ => by
    simp only [ev, nm] at q
    refine rd1 (r := fun x H1 Q => ∃ c, x = .bl c ∧ Q (.bl (!c)) H1) (g := fun d => (boolD d).map fun i => (.dp, .bl (!i))) S q fun H2 O x d res hO hd hg hq => ?_
    cases e : boolD d with
    | none => rw [e] at hg; cases hg
    | some i =>
      rw [e] at hg
      cases hg
      rw [boolD_eq e] at hd
      exact ⟨i, hd, hq.val rfl rfl⟩
theorem a_nil : PA X [] (rdA W E0 T []) := pa_nil.imp fun σ H Q ⟨H0, O0, δ, Fs, S, q⟩ => by
  simp only [evs] at q
  exact q [] H [] (Same.refl H) (fun _ z => by cases z) List.nodup_nil ⟨rfl, rfl⟩
theorem a_cons {e : Expr} {es : List Expr} {c : E} {cs : List E} (he : PE X e (rdE W E0 T c)) (hs : PA X es (rdA W E0 T cs)) (hst : starEach (e :: es) X.env = (false, eval e X.env) :: starEach es X.env := by rfl) : PA X (e :: es) (rdA W E0 T (c :: cs)) :=
  (pa_cons he hs hst).imp fun σ H Q ⟨H0, O0, δ, Fs, S, q⟩ => by
    simp only [evs, nms] at q
    refine ⟨H0, O0, δ, Fs, S, rq_bnd' (G := fun z => rqs W E0 H (av O0 Fs (nm c ++ nms cs)) z Q) rqs_none (fun C h => h) q fun p h1 => ?_⟩
    intro v1 H1 F1 s1 n1 nd1 ow1
    have t1 : ∀ a ∈ F1, H1 a ≠ none := fun a ha z => by
      obtain ⟨o, e, _⟩ := ow1.there a ha
      rw [z] at e
      cases e
    have S1 := S.more s1 n1 t1
    refine ⟨H0, _, δ, Fs, S1, rqs_bnd' (G := fun z => rqs W E0 H (av O0 Fs (nm c ++ nms cs)) z Q) rqs_none (fun C h H' s => h H' (s1.trans s)) h1 fun ps h2 => ?_⟩
    intro vs H2 Fs2 s2 n2 nd2 ow2
    refine h2 (v1 :: vs) H2 (F1 :: Fs2) (s1.trans s2) (fun a ha => ?_) (List.nodup_append.mpr ⟨nd1, nd2, fun a ha b hb e => ?_⟩) ⟨v1, vs, F1, Fs2, rfl, rfl, ?_, ?_⟩
    · rcases List.mem_append.mp (show a ∈ F1 ++ Fs2.flatten from ha) with ha | ha
      · exact n1 a ha
      · exact s1.free (n2 a ha)
    · subst e
      exact t1 a ha (n2 a hb)
    · refine (ow1.off fun a z => ?_).mono s2 fun _ z => z
      rcases z with z | z
      · exact .inl (.inl (av_mono (fun i hi => List.mem_append_left _ hi) a z))
      · rcases List.mem_append.mp (show a ∈ F1 ++ Fs2.flatten from z) with z | z
        · exact .inl (.inr z)
        · exact .inr (n2 a z)
    · refine ow2.mono (Same.refl H2) fun a z => ?_
      rcases z with z | z
      · rcases z with z | ⟨i, n, z⟩
        · exact .inl (.inl (.inl z))
        · exact .inl (.inr ⟨i, fun q => n (List.mem_append_right _ q), z⟩)
      · rcases List.mem_append.mp (show a ∈ F1 ++ Fs2.flatten from z) with z | z
        · exact .inl (.inl (.inr z))
        · exact .inr z
theorem evs_len : ∀ {cs : List E} {δ : Dn} {ps : List (Md × D)}, evs T cs δ = some (.ok ps) → ps.length = cs.length
  | [], δ, ps, h => by
    simp only [evs] at h
    cases h
    rfl
  | c :: cs, δ, ps, h => by
    simp only [evs] at h
    cases e : ev T c δ with
    | none => rw [e] at h; cases h
    | some r =>
      cases r with
      | er C => rw [e] at h; cases h
      | ok p =>
        rw [e] at h
        have h : bnd (evs T cs δ) (fun ps => ok (p :: ps)) = some (.ok ps) := h
        cases e2 : evs T cs δ with
        | none => rw [e2] at h; cases h
        | some r2 =>
          cases r2 with
          | er C => rw [e2] at h; cases h
          | ok qs =>
            rw [e2] at h
            cases h
            rw [List.length_cons, List.length_cons, evs_len e2]
theorem len_ok {n : Nat} (h : Nat.ble n 1000 = true) : n ≤ sizeLine := Nat.le_trans (Nat.le_of_ble_eq_true h) (by decide)
theorem c_tup {es : List Expr} {cs : List E} {x1} {pos : Pos} (h : PA X es (rdA W E0 T cs)) (hl : Nat.ble cs.length 1000 = true := by rfl) : PE X (.Tuple es x1 pos) (rdE W E0 T (.tup cs)) :=
  (pe_tup h).imp fun σ H Q ⟨H0, O0, δ, Fs, S, q⟩ => by
    simp only [ev, nm] at q
    refine ⟨H0, O0, δ, Fs, S, rqs_bnd2 (G := fun z => rq W E0 H (av O0 Fs (nms cs)) z Q) rq_none (fun C h => h) q fun ps e h1 vs H1 Fs1 s1 n1 nd1 ow1 => ?_⟩
    have hl2 : vs.length ≤ sizeLine := by
      rw [ow1.length, evs_len e]
      exact len_ok hl
    exact ⟨hl2, fun p np => Res.tup (W := W) h1 s1 S.av_there n1 nd1 ow1 (fun _ z => z) hl2 np⟩
theorem c_lst {es : List Expr} {cs : List E} {pos : Pos} (h : PA X es (rdA W E0 T cs)) (hl : Nat.ble cs.length 1000 = true := by rfl) : PE X (.List es pos) (rdE W E0 T (.lst cs)) :=
  (pe_lst h).imp fun σ H Q ⟨H0, O0, δ, Fs, S, q⟩ => by
    simp only [ev, nm] at q
    refine ⟨H0, O0, δ, Fs, S, rqs_bnd2 (G := fun z => rq W E0 H (av O0 Fs (nms cs)) z Q) rq_none (fun C h => h) q fun ps e h1 vs H1 Fs1 s1 n1 nd1 ow1 => ?_⟩
    have hl2 : vs.length ≤ sizeLine := by
      rw [ow1.length, evs_len e]
      exact len_ok hl
    exact ⟨hl2, fun p np => Res.box (W := W) h1 s1 S.av_there n1 nd1 ow1 (fun _ z => z) hl2 np⟩
end
end TW

set_option Elab.async false
set_option linter.all false
set_option maxRecDepth 100000
set_option maxHeartbeats 4000000
namespace TW
open PySem PySem.Spec PyProof.Rows L2
variable [TabT]

section
variable {W : Wd} {H : Hp} {O : Addr → Prop}
theorem Rps.get : ∀ {ds : List D} {vs : List V} {j : Nat} {d : D}, Rps W H O ds vs → ds[j]? = some d → ∃ v, vs[j]? = some v ∧ Rp W H O d v
  | [], _, _, _, _, e => by simp at e
  | d :: ds, vs, 0, d', h, e => by
    obtain ⟨v, r, rfl, h1, h2⟩ := h
    simp at e
    subst e
    exact ⟨v, rfl, h1⟩
  | d :: ds, vs, j + 1, d', h, e => by
    obtain ⟨v, r, rfl, h1, h2⟩ := h
    simp at e
    obtain ⟨v', e1, e2⟩ := Rps.get h2 e
    exact ⟨v', by simpa using e1, e2⟩
theorem Rps.at {ds : List D} {vs : List V} {i : Int} {d : D} (h : Rps W H O ds vs) (e : atI ds i = some d) : ∃ v, atI vs i = some v ∧ Rp W H O d v := by
  unfold atI at e ⊢
  rw [Rps.length _ _ h]
  cases q : ixN ds.length i with
  | none => rw [q] at e; cases e
  | some j =>
    rw [q] at e
    obtain ⟨v, h1, h2⟩ := h.get (j := j) e
    exact ⟨v, by simpa using h1, h2⟩
theorem Rps.drop : ∀ {ds : List D} {vs : List V} (n : Nat), Rps W H O ds vs → Rps W H O (ds.drop n) (vs.drop n)
  | _, _, 0, h => h
  | [], vs, n + 1, h => by rw [show vs = [] from h]; rfl
  | d :: ds, vs, n + 1, h => by
    obtain ⟨v, r, rfl, h1, h2⟩ := h
    exact Rps.drop n h2
theorem Rps.take : ∀ {ds : List D} {vs : List V} (n : Nat), Rps W H O ds vs → Rps W H O (ds.take n) (vs.take n)
  | _, _, 0, _ => by simp [Rps]
  | [], vs, n + 1, h => by rw [show vs = [] from h]; rfl
  | d :: ds, vs, n + 1, h => by
    obtain ⟨v, r, rfl, h1, h2⟩ := h
    exact ⟨v, r.take n, rfl, h1, Rps.take n h2⟩
theorem Rps.cut {ds : List D} {vs : List V} (lo hi : Option Int) (h : Rps W H O ds vs) : Rps W H O (cutL ds lo hi) (cutV vs lo hi) := by
  unfold cutL cutV
  rw [Rps.length _ _ h]
  exact (h.drop _).take _
theorem Rps.reverse : ∀ {ds : List D} {vs : List V}, Rps W H O ds vs → Rps W H O ds.reverse vs.reverse
  | [], vs, h => by rw [show vs = [] from h]; rfl
  | d :: ds, vs, h => by
    obtain ⟨v, r, rfl, h1, h2⟩ := h
    rw [List.reverse_cons, List.reverse_cons]
    exact (Rps.reverse h2).append ⟨v, [], rfl, h1, rfl⟩
theorem cutV_len (vs : List V) (lo hi : Option Int) : (cutV vs lo hi).length ≤ vs.length := by
  unfold cutV
  rw [List.length_take, List.length_drop]
  omega
theorem Rps.ints : ∀ ns : List Int, Rps W H O (eI ns) (ns.map V.int)
  | [] => rfl
  | n :: r => ⟨.int n, r.map V.int, rfl, rfl, Rps.ints r⟩
theorem Rps.ints_eq : ∀ {ns : List Int} {vs : List V}, Rps W H O (eI ns) vs → vs = ns.map V.int
  | [], vs, h => h
  | n :: r, vs, h => by
    obtain ⟨v, r', rfl, h1, h2⟩ := h
    rw [show v = .int n from h1, Rps.ints_eq (ns := r) h2]
    rfl
theorem Dqs.ints : ∀ ns : List Int, Dqs W H (eI ns) (ns.map V.int) []
  | [] => ⟨rfl, rfl⟩
  | n :: r => ⟨.int n, r.map V.int, [], [], rfl, rfl, ⟨rfl, rfl⟩, Dqs.ints r⟩
theorem cutV_ints (ns : List Int) (lo hi : Option Int) : cutV (ns.map V.int) lo hi = (cutL ns lo hi).map V.int := by
  unfold cutV cutL
  rw [List.length_map, List.map_take, List.map_drop]
theorem lfrees_ints : ∀ ns : List Int, lfrees (eI ns) = true
  | [] => rfl
  | n :: r => lfrees_ints r
theorem lfrees_prs : ∀ ps : List (Int × Int), lfrees (ps.map eP) = true
  | [] => rfl
  | n :: r => lfrees_prs r
theorem Res.deep {Q : VK} {ds : List D} {vs : List V} {p : Addr} (h : Res W H O .dp (.lst ds) Q) (n : H p = none) (hl : vs.length ≤ sizeLine) (r : Rps W H O ds vs) (l : lfrees ds = true) : Q (.ref p) (L2.upd H p (.lst vs)) := by
  have s := same_new (o := .lst vs) n
  refine h _ _ [p] s (fun a ha => by rw [List.mem_singleton.mp ha]; exact n) (by simp) ⟨p, vs, [], rfl, rfl, upd_same, hl, Dqs.mono s _ _ _ (Rps.dq _ _ r l)⟩
theorem Rp.lst_at {d : D} {ds : List D} {v : V} (e : listD d = some ds) (h : Rp W H O d v) : ∃ a vs, v = .ref a ∧ SqL W.K H a vs ∧ Rps W H O ds vs ∧ vs.length ≤ sizeLine := by
  cases d with
  | lst xs =>
    cases e
    obtain ⟨a, vs, rfl, _, h1, h2, h3⟩ := h
    exact ⟨a, vs, rfl, .inl (.inl h1), h3, h2⟩
  | scr ns =>
    cases e
    obtain ⟨a, rfl, h1, h2⟩ := h
    exact ⟨a, _, rfl, h1.sq, Rps.ints ns, by simpa using h2⟩
  | _ => cases e
theorem intsD_eq : ∀ {ds : List D} {ns : List Int}, intsD ds = some ns → ds = eI ns
  | [], ns, h => by cases h; rfl
  | .int i :: ds, ns, h => by
    simp only [intsD] at h
    cases e : intsD ds with
    | none => rw [e] at h; cases h
    | some r =>
      rw [e] at h
      cases h
      rw [intsD_eq e]
      rfl
  | .non :: ds, ns, h => by cases h
  | .bl _ :: ds, ns, h => by cases h
  | .str _ :: ds, ns, h => by cases h
  | .fn _ :: ds, ns, h => by cases h
  | .tup _ :: ds, ns, h => by cases h
  | .lst _ :: ds, ns, h => by cases h
  | .scr _ :: ds, ns, h => by cases h
  | .dic _ :: ds, ns, h => by cases h
  | .ins _ _ _ :: ds, ns, h => by cases h
  | .exc _ :: ds, ns, h => by cases h
  | .clo _ _ :: ds, ns, h => by cases h
theorem blsD_eq : ∀ {ds : List D} {ns : List Bool}, blsD ds = some ns → ds = ns.map D.bl
  | [], ns, h => by cases h; rfl
  | .bl i :: ds, ns, h => by
    simp only [blsD] at h
    cases e : blsD ds with
    | none => rw [e] at h; cases h
    | some r =>
      rw [e] at h
      cases h
      rw [blsD_eq e]
      rfl
  | .non :: ds, ns, h => by cases h
  | .int _ :: ds, ns, h => by cases h
  | .str _ :: ds, ns, h => by cases h
  | .fn _ :: ds, ns, h => by cases h
  | .tup _ :: ds, ns, h => by cases h
  | .lst _ :: ds, ns, h => by cases h
  | .scr _ :: ds, ns, h => by cases h
  | .dic _ :: ds, ns, h => by cases h
  | .ins _ _ _ :: ds, ns, h => by cases h
  | .exc _ :: ds, ns, h => by cases h
  | .clo _ _ :: ds, ns, h => by cases h
theorem Rps.bls_eq : ∀ {ns : List Bool} {vs : List V}, Rps W H O (ns.map D.bl) vs → vs = ns.map V.bl
  | [], vs, h => h
  | n :: r, vs, h => by
    obtain ⟨v, r', rfl, h1, h2⟩ := h
    rw [show v = .bl n from h1, Rps.bls_eq (ns := r) h2]
    rfl
end

section
variable {W : Wd} {E0 : XK} {T : Tb} {X : Cx}
theorem c_sub {a b : Expr} {ca cb : E} {pos : Pos} (hK : X.K = W.K) (ha : PE X a (rdE W E0 T ca)) (hb : PE X b (rdE W E0 T cb)) (hs : PlainIx b := by exact fun _ _ => rfl) : PE X (.Subscript a b pos) (rdE W E0 T (.sub ca cb)) :=
  (pe_ix ix_seq ha hb hs).imp fun σ H Q ⟨H0, O0, δ, Fs, S, q⟩ => by
    simp only [ev, nm] at q
    refine rd2 (g := fun d e => (subD d e).map fun d => (.sh, d)) (r := rIx X.K) S (fun i h => List.mem_append_left _ h) (fun i h => List.mem_append_right _ h) q fun H2 O x y d e res hO hd he hg hq => ?_
    cases hs : subD d e with
    | none => rw [hs] at hg; cases hg
    | some d' =>
      rw [hs] at hg
      cases hg
      cases e with
      | int i =>
        have he : y = .int i := he
        cases d with
        | lst ds =>
          obtain ⟨p, vs, rfl, _, h1, h2, h3⟩ := hd
          obtain ⟨v, e1, r1⟩ := h3.at (show atI ds i = some d' from hs)
          exact .inl ⟨p, vs, i, v, rfl, he, .inl (.inl h1), e1, hq.share (Same.refl _) r1⟩
        | tup ds =>
          obtain ⟨p, vs, rfl, h1, h2, h3⟩ := hd
          obtain ⟨v, e1, r1⟩ := h3.at (show atI ds i = some d' from hs)
          exact .inr (.inl ⟨p, vs, i, v, rfl, he, .inl (.inl h1), e1, hq.share (Same.refl _) r1⟩)
        | scr ns =>
          obtain ⟨p, rfl, h1, h2⟩ := hd
          have hs : (atI ns i).map D.int = some d' := hs
          cases e2 : atI ns i with
          | none => rw [e2] at hs; cases hs
          | some n =>
            rw [e2] at hs
            cases hs
            refine .inl ⟨p, ns.map V.int, i, .int n, rfl, he, by rw [hK]; exact h1.sq, ?_, hq.share (Same.refl _) rfl⟩
            unfold atI at e2 ⊢
            rw [List.length_map]
            cases q : ixN ns.length i with
            | none => rw [q] at e2; cases e2
            | some j =>
              rw [q] at e2
              show (ns.map V.int)[j]? = _
              rw [List.getElem?_map, show ns[j]? = some n from e2]
              rfl
        | _ => cases hs
      | _ => cases d <;> cases hs
def rdO (W : Wd) (E0 : XK) (T : Tb) (p : Bool) (c : E) : TO := fun σ H Q => ∃ H0 O0 δ Fs, SS W H0 O0 H σ δ Fs ∧ match ev T c δ with
  | none => False
  | some (.er C) => ∀ H', Same H H' → E0 (.ref (W.ca C)) none H'
  | some (.ok q) => match optI p q.2 with
    | none => False
    | some o => ∀ H', Same H H' → Q o H'
theorem _root_.L2.PO.imp {X : Cx} {e : Option Expr} {t t' : TO} (h : PO X e t) (k : ∀ σ H Q, t' σ H Q → t σ H Q) : PO X e t' := ⟨fun pins s σ H Q I q => h.run pins s σ H Q I (k σ H Q q)⟩
theorem o_no : PO X none (rdO W E0 T false (.lit .non)) := po_none.imp fun σ H Q ⟨H0, O0, δ, Fs, S, q⟩ => by
  simp only [ev] at q
  exact q H (Same.refl H)
theorem o_so {e : Expr} {c : E} (h : PE X e (rdE W E0 T c)) : PO X (some e) (rdO W E0 T true c) := (po_some h).imp fun σ H Q ⟨H0, O0, δ, Fs, S, q⟩ => by
  refine ⟨H0, O0, δ, Fs, S, ?_⟩
  revert q
  cases ev T c δ with
  | none => exact fun h => h
  | some r =>
    cases r with
    | er C => exact fun h => h
    | ok p =>
      intro q v H1 F s n nd ow
      have q : (match (intD p.2).map some with | none => False | some o => ∀ H', Same H H' → Q o H') := q
      cases e : intD p.2 with
      | none => rw [e] at q; exact q.elim
      | some i =>
        rw [e] at q
        have r := ow.rpv (O1 := fun _ => False) (fun _ z => z.elim) (fun _ z => z.elim) n
        rw [intD_eq e] at r
        exact ⟨i, r, q H1 s⟩
theorem c_slc {a : Expr} {lo hi : Option Expr} {ca cl ch : E} {pl ph : Bool} {p2 pos : Pos} (hK : X.K = W.K) (ha : PE X a (rdE W E0 T ca)) (hl : PO X lo (rdO W E0 T pl cl)) (hh : PO X hi (rdO W E0 T ph ch)) : PE X (.Subscript a (.Slice lo hi none p2) pos) (rdE W E0 T (.slc pl ph ca cl ch)) :=
  (pe_slice sl_list ha hl hh).imp fun σ H Q ⟨H0, O0, δ, Fs, S, q⟩ => by
    simp only [ev, nm] at q
    have ia : ∀ i ∈ nm ca, i ∈ nm ca ++ nm cl ++ nm ch := fun i h => by simp [h]
    refine ⟨H0, O0, δ, Fs, S, rq_bnd' (G := fun z => rq W E0 H (av O0 Fs (nm ca ++ nm cl ++ nm ch)) z Q) rq_none (fun C h => h) q fun p h1 => ?_⟩
    intro v1 H1 F1 s1 n1 nd1 ow1
    have S1 := S.grow s1
    have h1 := rq.mono h1 s1
    refine ⟨H0, O0, δ, Fs, S1, ?_⟩
    revert h1
    cases ev T cl δ with
    | none => exact fun h => h
    | some r =>
      cases r with
      | er C => exact fun h => h
      | ok q2 =>
        intro h1
        have h1 : rq W E0 H1 _ (match optI pl q2.2 with | none => none | some l => bnd (ev T ch δ) fun r => match optI ph r.2 with | none => none | some h => lift (slcD p.2 l h)) Q := h1
        show match optI pl q2.2 with | none => False | some o => _
        generalize optI pl q2.2 = o1 at h1 ⊢
        cases o1 with
        | none => exact h1
        | some l =>
          intro H2 s2
          have S2 := S1.grow s2
          have h2 := rq.mono h1 s2
          refine ⟨H0, O0, δ, Fs, S2, ?_⟩
          revert h2
          cases ev T ch δ with
          | none => exact fun h => h
          | some r =>
            cases r with
            | er C => exact fun h => h
            | ok q3 =>
              intro h2
              have h2 : rq W E0 H2 _ (match optI ph q3.2 with | none => none | some h => lift (slcD p.2 l h)) Q := h2
              show match optI ph q3.2 with | none => False | some o => _
              generalize optI ph q3.2 = o2 at h2 ⊢
              cases o2 with
              | none => exact h2
              | some h =>
                intro H3 s3
                have h3 := rq.mono h2 s3
                have S3 := S2.grow s3
                have r1 := Rp.mono (s2.trans s3) (fun _ z => z) _ _ (ow1.rpv (av_mono ia) S.av_there n1)
                cases hp : p.2 with
                | lst ds =>
                  rw [hp] at h3 r1
                  obtain ⟨a, vs, rfl, _, g1, g2, g3⟩ := r1
                  exact ⟨a, vs, rfl, .inl (.inl g1), fun p np => Res.flat (W := W) h3 np S3.av_there (Nat.le_trans (cutV_len _ _ _) g2) (g3.cut l h)⟩
                | scr ns =>
                  rw [hp] at h3 r1
                  obtain ⟨a, rfl, g1, g2⟩ := r1
                  refine ⟨a, ns.map V.int, rfl, by rw [hK]; exact g1.sq, fun p np => ?_⟩
                  rw [cutV_ints]
                  refine Res.deep (W := W) h3 np ?_ (Rps.ints _) (lfrees_ints _)
                  have := cutV_len (ns.map V.int) l h
                  rw [cutV_ints, List.length_map, List.length_map] at this
                  rw [List.length_map]
                  omega
                | _ => rw [hp] at h3; exact h3.elim
theorem c_rev {a : Expr} {ca : E} {k : Nat} {p1 p2 p3 pos : Pos} (ha : PE X a (rdE W E0 T ca)) : PE X (.Subscript a (.Slice none none (some (.UnaryOp .USub (.Constant (.int 1) k p1) p2)) p3) pos) (rdE W E0 T (.rev ca)) :=
  (pe_revL ha).imp fun σ H Q ⟨H0, O0, δ, Fs, S, q⟩ => by
    simp only [ev, nm] at q
    refine ⟨H0, O0, δ, Fs, S, rq_bnd' (G := fun z => rq W E0 H (av O0 Fs (nm ca)) z Q) rq_none (fun C h => h) q fun p h1 => ?_⟩
    intro v1 H1 F1 s1 n1 nd1 ow1
    have h1 := rq.mono h1 s1
    have r1 := ow1.rpv (O1 := av O0 Fs (nm ca)) (fun _ z => z) S.av_there n1
    cases hp : p.2 with
    | lst ds =>
      rw [hp] at h1 r1
      obtain ⟨a, vs, rfl, _, g1, g2, g3⟩ := r1
      exact ⟨a, vs, rfl, .inl (.inl g1), fun p np => Res.flat (W := W) h1 np (S.grow s1).av_there (by rw [List.length_reverse]; exact g2) g3.reverse⟩
    | _ => rw [hp] at h1; exact h1.elim

def rB (W : Wd) (g : List D → Option (Md × D)) : List V → Hp → VK → Prop := fun vs H Q => ∃ O ds res, (∀ a, O a → H a ≠ none) ∧ Rps W H O ds vs ∧ g ds = some res ∧ Res W H O res.1 res.2 Q
theorem _root_.L2.CallR.imp {X : Cx} {f : Value} {r r' : List V → Hp → VK → Prop} (h : CallR X f r) (k : ∀ vs H Q, r' vs H Q → r vs H Q) : CallR X f r' := fun pins s σ H xs us Q I rx q => h pins s σ H xs us Q I rx (k xs H Q q)
theorem rdA_B {cs : List E} {g : List D → Option (Md × D)} {σ : L2.St} {H : Hp} {Q : VK} {H0 : Hp} {O0 : Addr → Prop} {δ : Dn} {Fs : List (List Addr)} (S : SS W H0 O0 H σ δ Fs) (q : rq W E0 H (av O0 Fs (nms cs)) (bnd (evs T cs δ) fun ps => lift (g (ps.map Prod.snd))) Q) :
    rdA W E0 T cs σ H (fun vs H1 => rB W g vs H1 Q) := by
  refine ⟨H0, O0, δ, Fs, S, rqs_bnd' (G := fun z => rq W E0 H (av O0 Fs (nms cs)) z Q) rq_none (fun C h => h) q fun ps h1 vs H1 Fs1 s1 n1 nd1 ow1 => ?_⟩
  cases e : g (ps.map Prod.snd) with
  | none => rw [e] at h1; exact h1.elim
  | some res =>
    rw [e] at h1
    exact ⟨av O0 Fs (nms cs), _, res, (S.grow s1).av_there, ow1.rps (fun a z => .inl z) fun a ha z => S.av_there a z (n1 a ha), e, Res.mono (W := W) h1 s1⟩
theorem c_bi {x : Str} {id : String} {p pos : Pos} {e : Expr} {es : List Expr} {cs : List E} {b : Bi} (hc : CallR X (.builtin id) (rB W (biD b))) (hg : Gl X x) (hm : X.mg x = none) (hv : bootBuiltins x = some (.builtin id)) (ha : PA X (e :: es) (rdA W E0 T cs))
    (hn : x ≠ "__name__" := by decide) (hdb : (x == ("__debug__" : Str)) = false := by decide) (he : starEach (e :: es) X.env = (false, eval e X.env) :: starEach es X.env := by rfl) (hpl : (backTo pos (starEach es X.env)).any (·.1) = false := by rfl) :
    PE X (.Call (.Name x p) (e :: es) [] pos) (rdE W E0 T (.bi b cs)) :=
  (pe_callB hc hg hm hv ha hn hdb he hpl).imp fun σ H Q ⟨H0, O0, δ, Fs, S, q⟩ => by
    simp only [ev, nm] at q
    exact rdA_B S q
theorem Rps.one {H : Hp} {O : Addr → Prop} {d : D} {vs : List V} (h : Rps W H O [d] vs) : ∃ v, vs = [v] ∧ Rp W H O d v := by
  obtain ⟨v, r, rfl, h1, h2⟩ := h
  rw [show r = [] from h2]
  exact ⟨v, rfl, h1⟩
theorem Rps.two {H : Hp} {O : Addr → Prop} {d e : D} {vs : List V} (h : Rps W H O [d, e] vs) : ∃ v w, vs = [v, w] ∧ Rp W H O d v ∧ Rp W H O e w := by
  obtain ⟨v, r, rfl, h1, w, r2, rfl, h3, h4⟩ := h
  rw [show r2 = [] from h4]
  exact ⟨v, w, rfl, h1, h3⟩
theorem b_len (hK : X.K = W.K) : CallR X (.builtin "len") (rB W (biD .len)) := call_len.imp fun vs H Q ⟨O, ds, res, hO, hr, hg, hq⟩ => by
  match ds, hg, hr with
  | [.lst xs], hg, hr =>
    cases hg
    obtain ⟨v, rfl, hv⟩ := hr.one
    obtain ⟨a, vs, rfl, _, h1, h2, h3⟩ := hv
    exact ⟨_, _, rfl, .inl ⟨vs, .inl (.inl h1), rfl⟩, by rw [Rps.length _ _ h3]; exact hq.val rfl rfl⟩
  | [.tup xs], hg, hr =>
    cases hg
    obtain ⟨v, rfl, hv⟩ := hr.one
    obtain ⟨a, vs, rfl, h1, h2, h3⟩ := hv
    exact ⟨_, _, rfl, .inr ⟨vs, .inl (.inl h1), rfl⟩, by rw [Rps.length _ _ h3]; exact hq.val rfl rfl⟩
  | [.scr xs], hg, hr =>
    cases hg
    obtain ⟨v, rfl, hv⟩ := hr.one
    obtain ⟨a, rfl, h1, h2⟩ := hv
    exact ⟨_, _, rfl, .inl ⟨_, by rw [hK]; exact h1.sq, rfl⟩, by rw [List.length_map]; exact hq.val rfl rfl⟩
theorem b_sum (hK : X.K = W.K) (hc : X.calm = true) : CallR X (.builtin "sum") (rB W (biD .sum)) := (cr_sum hc).imp fun vs H Q ⟨O, ds, res, hO, hr, hg, hq⟩ => by
  match ds, hg, hr with
  | [d], hg, hr =>
    have hg : ((listD d).bind intsD).map (fun ns => (Md.dp, D.int ns.sum)) = some res := hg
    cases e : listD d with
    | none => rw [e] at hg; cases hg
    | some xs =>
      rw [e] at hg
      have hg : (intsD xs).map (fun ns => (Md.dp, D.int ns.sum)) = some res := hg
      cases e2 : intsD xs with
      | none => rw [e2] at hg; cases hg
      | some ns =>
        rw [e2] at hg
        cases hg
        obtain ⟨v, rfl, hv⟩ := hr.one
        obtain ⟨a, vs, rfl, h1, h2, h3⟩ := hv.lst_at e
        rw [intsD_eq e2] at h2
        rw [Rps.ints_eq h2] at h1
        exact ⟨a, ns, rfl, by rw [hK]; exact h1, hq.val rfl rfl⟩
theorem b_all (hK : X.K = W.K) (hc : X.calm = true) : CallR X (.builtin "all") (rB W (biD .all)) := (cr_all hc).imp fun vs H Q ⟨O, ds, res, hO, hr, hg, hq⟩ => by
  match ds, hg, hr with
  | [.lst xs], hg, hr =>
    have hg : (blsD xs).map (fun bs => (Md.dp, D.bl (bs.all id))) = some res := hg
    cases e2 : blsD xs with
    | none => rw [e2] at hg; cases hg
    | some bs =>
      rw [e2] at hg
      cases hg
      obtain ⟨v, rfl, hv⟩ := hr.one
      obtain ⟨a, vs, rfl, _, h1, h2, h3⟩ := hv
      rw [blsD_eq e2] at h3
      rw [Rps.bls_eq h3] at h1
      exact ⟨a, bs, rfl, .inl (.inl h1), hq.val rfl rfl⟩
theorem b_abs : CallR X (.builtin "abs") (rB W (biD .abs)) := call_abs.imp fun vs H Q ⟨O, ds, res, hO, hr, hg, hq⟩ => by
  match ds, hg, hr with
  | [.int i], hg, hr =>
    cases hg
    obtain ⟨v, rfl, hv⟩ := hr.one
    exact ⟨i, by rw [show v = .int i from hv], hq.val rfl rfl⟩
end
end TW

set_option Elab.async false
set_option linter.all false
set_option maxRecDepth 100000
set_option maxHeartbeats 4000000
namespace TW
open PySem PySem.Spec PyProof.Rows L2
variable [TabT]
abbrev RowAt (K : PySem.W.Frag) (H : Hp) (b : V × List Int) : Prop := ∃ t, b.1 = V.ref t ∧ SqL K H t (b.2.map V.int)
def rSortRows (K : PySem.W.Frag) : List V → Hp → VK → Prop := fun vs H Q => ∃ (a : Addr) (bs : List (V × List Int)), vs = [V.ref a] ∧ SqL K H a (bs.map Prod.fst) ∧ (∀ b ∈ bs, RowAt K H b) ∧
  ∀ (cs : List (V × List Int)) (p : Addr), cs = bs.mergeSort (fun x y => decide (x.2 ≤ y.2)) → H p = none → Q (.ref p) (upd H p (.lst (cs.map Prod.fst)))
theorem reads_ints {h : Heap} : ∀ {ns : List Int} {us : List Value}, Vals (ns.map V.int) us → ∃ as, ReadsAll h us (ns.map PyData.int) as
  | [], us, r => by
    cases r
    exact ⟨[], .nil⟩
  | n :: ns, us, r => by
    cases r with
    | cons r1 r2 =>
      obtain ⟨t, rfl⟩ := r1
      obtain ⟨as, q⟩ := reads_ints (h := h) r2
      exact ⟨[] ++ as, .cons (.int n t) q⟩
theorem each_of {R : Value → (V × List Int) → Prop} : ∀ {bs : List (V × List Int)} {us : List Value}, Vals (bs.map Prod.fst) us → (∀ b u, b ∈ bs → RelV b.1 u → R u b) → PySem.W.EachIs R us bs
  | [], us, r, _ => by
    cases r
    exact .nil
  | b :: bs, us, r, k => by
    cases r with
    | cons r1 r2 => exact .cons (k b _ List.mem_cons_self r1) (each_of r2 fun c u hc => k c u (List.mem_cons_of_mem _ hc))
theorem vals_each : ∀ {cs : List (V × List Int)} {us : List Value}, PySem.W.EachIs (fun u (b : V × List Int) => RelV b.1 u) us cs → Vals (cs.map Prod.fst) us
  | _, _, .nil => .nil
  | _, _, .cons h k => .cons h (vals_each k)
section
variable {X : Cx}
theorem cr_sortRows (hu : X.A.units + 64 < cLine) : CallR X (.builtin "sorted") (rSortRows X.K) := by
  intro pins s σ H vs us Q I r h
  obtain ⟨a, bs, rfl, hs, hb, q⟩ := h
  obtain ⟨its, rv, hl, hz⟩ := I.list hs
  rw [Vals.ref1 r]
  have e : PySem.W.EachIs (fun u (b : V × List Int) => RelV b.1 u) its bs := each_of rv fun b u _ z => z
  have er : PySem.W.EachIs (fun u (b : V × List Int) => ∃ as, Reads s.heap u (PyData.list (b.2.map PyData.int)) as) its bs := each_of rv fun b u hm z => by
    obtain ⟨t, e1, ht⟩ := hb b hm
    rw [e1] at z
    have z : u = Value.ref t := z
    subst z
    obtain ⟨its2, r2, hl2, _⟩ := I.list ht
    obtain ⟨as, q2⟩ := reads_ints (h := s.heap) r2
    obtain ⟨o, ho, hc, n, hd⟩ := hl2.isList
    exact ⟨t :: as, .list ho hc hd (by simpa using q2)⟩
  have hlen : bs.length ≤ sizeLine := by
    have := hz
    rw [List.length_map] at this
    exact this
  refine PySem.W.sorted_data (enc := fun b : V × List Int => PyData.list (b.2.map PyData.int)) hl.isList e er (PySem.W.AllAlike.of fun b b' => ?_) (PySem.W.Sortable.others fun b => ⟨fun z => (by cases z), fun xs z => (by cases z)⟩) hlen (fun b _ => ?_) fun out ol oe => ?_
  · simp [PySem.W.alike, PySem.W.alike_ints]
  · have : PyData.depth (PyData.list (b.2.map PyData.int)) = 1 := by
      rw [PyData.depth, PySem.W.depth_ints]
    rw [this]
    omega
  · rw [PySem.W.dataLe_rows (fun b : V × List Int => b.2)] at oe
    have hn : H (s.heap.objs.size + 1) = none := I.hok.fresh (Nat.le_succ _)
    have hvo := vals_each oe
    obtain ⟨n, hget⟩ := sortedAll_at s.heap its out.toArray
    refine ⟨.ref (s.heap.objs.size + 1), upd H (s.heap.objs.size + 1) (.lst ((bs.mergeSort fun x y => decide (x.2 ≤ y.2)).map Prod.fst)), I.laid (t' := s.toks) (fun b o e => sortedAll_old e) (Nat.le_succ _) ⟨?_, out, n, hvo, hget⟩, rfl, q _ _ rfl hn⟩
    rw [hvo.length, ol]
    exact hlen
end
end TW

set_option Elab.async false
set_option linter.all false
set_option maxRecDepth 100000
set_option maxHeartbeats 4000000
namespace TW
open PySem PySem.Spec PyProof.Rows L2
variable [TabT]

section
variable {α : Type} {lt : α → α → Bool}
structure STO (lt : α → α → Bool) : Prop where
  irr : ∀ x, lt x x = false
  tr : ∀ x y z, lt x y = true → lt y z = true → lt x z = true
  tot : ∀ x y, lt x y = false → lt y x = false → x = y
abbrev Ris (lt : α → α → Bool) (l : List α) : Prop := l.Pairwise fun x y => lt y x = false
theorem STO.asym (o : STO lt) {x y : α} (h : lt x y = true) : lt y x = false := by
  cases e : lt y x with
  | false => rfl
  | true =>
    have := o.tr _ _ _ h e
    rw [o.irr] at this
    cases this
theorem STO.le_tr (o : STO lt) {x y z : α} (h1 : lt y x = false) (h2 : lt z y = false) : lt z x = false := by
  cases e : lt z x with
  | false => rfl
  | true =>
    cases e2 : lt x y with
    | true =>
      have := o.tr _ _ _ e e2
      rw [h2] at this
      cases this
    | false =>
      have := o.tot x y e2 h1
      subst this
      rw [h2] at e
      cases e
theorem insB_perm (x : α) : ∀ l : List α, (insB lt x l).Perm (x :: l)
  | [] => .refl _
  | y :: r => by
    unfold insB
    split
    · exact ((insB_perm x r).cons y).trans (.swap x y r)
    · exact .refl _
theorem isortB_perm : ∀ l : List α, (isortB lt l).Perm l
  | [] => .refl _
  | x :: r => (insB_perm x _).trans ((isortB_perm r).cons x)
theorem insB_ris (o : STO lt) (x : α) : ∀ l : List α, Ris lt l → Ris lt (insB lt x l)
  | [], _ => by simp [insB]
  | y :: r, h => by
    obtain ⟨h1, h2⟩ := List.pairwise_cons.mp h
    unfold insB
    split
    · rename_i e
      refine List.pairwise_cons.mpr ⟨fun z hz => ?_, insB_ris o x r h2⟩
      rcases List.mem_cons.mp ((insB_perm x r).mem_iff.mp hz) with rfl | hz
      · exact o.asym e
      · exact h1 z hz
    · rename_i e
      have e : lt y x = false := by cases q : lt y x <;> simp_all
      refine List.pairwise_cons.mpr ⟨fun z hz => ?_, h⟩
      rcases List.mem_cons.mp hz with rfl | hz
      · exact e
      · exact o.le_tr e (h1 z hz)
theorem isortB_ris (o : STO lt) : ∀ l : List α, Ris lt (isortB lt l)
  | [] => List.Pairwise.nil
  | x :: r => insB_ris o x _ (isortB_ris o r)
theorem ris_uniq (o : STO lt) : ∀ {l m : List α}, l.Perm m → Ris lt l → Ris lt m → l = m
  | [], m, p, _, _ => (List.nil_perm.mp p).symm
  | x :: r, [], p, _, _ => absurd p.symm (by simp)
  | x :: r, y :: s, p, h1, h2 => by
    obtain ⟨a1, a2⟩ := List.pairwise_cons.mp h1
    obtain ⟨b1, b2⟩ := List.pairwise_cons.mp h2
    have e : x = y := by
      rcases List.mem_cons.mp (p.mem_iff.mp List.mem_cons_self) with e | hx
      · exact e
      · rcases List.mem_cons.mp (p.mem_iff.mpr List.mem_cons_self) with e | hy
        · exact e.symm
        · exact o.tot _ _ (b1 x hx) (a1 y hy)
    subst e
    rw [ris_uniq o (List.Perm.cons_inv p) a2 b2]
theorem isort_eq (o : STO lt) {l m : List α} (p : m.Perm l) (h : Ris lt m) : isortB lt l = m := ris_uniq o ((isortB_perm l).trans p.symm) (isortB_ris o l) h
end
theorem sto_Z : STO ltZ := ⟨fun x => decide_eq_false (by omega), fun x y z h1 h2 => decide_eq_true (by have := of_decide_eq_true h1; have := of_decide_eq_true h2; omega), fun x y h1 h2 => by have := of_decide_eq_false h1; have := of_decide_eq_false h2; omega⟩
theorem ltP2_iff {a b : Int × Int} : ltP2 a b = true ↔ a.1 < b.1 ∨ (a.1 = b.1 ∧ a.2 < b.2) := by
  unfold ltP2
  simp
theorem ltP2_not {a b : Int × Int} : ltP2 a b = false ↔ ¬ (a.1 < b.1 ∨ (a.1 = b.1 ∧ a.2 < b.2)) := by
  rw [← ltP2_iff]
  simp
theorem sto_P : STO ltP2 := by
  refine ⟨fun x => ltP2_not.mpr (by omega), fun x y z h1 h2 => ?_, fun x y h1 h2 => ?_⟩
  · rw [ltP2_iff] at *
    omega
  · rw [ltP2_not] at *
    have : x.1 = y.1 ∧ x.2 = y.2 := by omega
    exact Prod.ext this.1 this.2
theorem lexB_eq (a b : Int × Int) : SrtO.lexB a b = ltP2 a b := by
  unfold SrtO.lexB ltP2
  by_cases h : a.1 < b.1 <;> by_cases h2 : a.1 = b.1 <;> simp [h, h2]
theorem maxL_some : ∀ {ns : List Int} {m : Int}, maxL ns = some m → m ∈ ns ∧ ∀ y ∈ ns, y ≤ m
  | [], _, h => by cases h
  | [x], m, h => by
    cases h
    exact ⟨List.mem_singleton.mpr rfl, fun y hy => by rw [List.mem_singleton.mp hy]; omega⟩
  | x :: y :: r, m, h => by
    have h : (maxL (y :: r)).map (fun m => if m > x then m else x) = some m := h
    cases e : maxL (y :: r) with
    | none => rw [e] at h; cases h
    | some k =>
      rw [e] at h
      cases h
      obtain ⟨h1, h2⟩ := maxL_some e
      dsimp only
      by_cases hk : k > x
      · rw [if_pos hk]
        exact ⟨List.mem_cons_of_mem _ h1, fun z hz => by
          rcases List.mem_cons.mp hz with rfl | hz
          · omega
          · exact h2 z hz⟩
      · rw [if_neg hk]
        exact ⟨List.mem_cons_self, fun z hz => by
          rcases List.mem_cons.mp hz with rfl | hz
          · omega
          · have := h2 z hz; omega⟩
theorem minL_some : ∀ {ns : List Int} {m : Int}, minL ns = some m → m ∈ ns ∧ ∀ y ∈ ns, m ≤ y
  | [], _, h => by cases h
  | [x], m, h => by
    cases h
    exact ⟨List.mem_singleton.mpr rfl, fun y hy => by rw [List.mem_singleton.mp hy]; omega⟩
  | x :: y :: r, m, h => by
    have h : (minL (y :: r)).map (fun m => if m < x then m else x) = some m := h
    cases e : minL (y :: r) with
    | none => rw [e] at h; cases h
    | some k =>
      rw [e] at h
      cases h
      obtain ⟨h1, h2⟩ := minL_some e
      dsimp only
      by_cases hk : k < x
      · rw [if_pos hk]
        exact ⟨List.mem_cons_of_mem _ h1, fun z hz => by
          rcases List.mem_cons.mp hz with rfl | hz
          · omega
          · exact h2 z hz⟩
      · rw [if_neg hk]
        exact ⟨List.mem_cons_self, fun z hz => by
          rcases List.mem_cons.mp hz with rfl | hz
          · omega
          · have := h2 z hz; omega⟩

section
variable {W : Wd} {E0 : XK} {T : Tb} {X : Cx}
theorem CallR_or {f : Value} {r r' : List V → Hp → VK → Prop} (h : CallR X f r) (h' : CallR X f r') : CallR X f (fun vs H Q => r vs H Q ∨ r' vs H Q) := by
  intro pins s σ H xs us Q I rx q
  rcases q with q | q
  · exact h pins s σ H xs us Q I rx q
  · exact h' pins s σ H xs us Q I rx q
theorem cr_maxT (hc : X.calm = true) (hu : X.A.units + 64 < cLine) : CallR X (.builtin "max") (fun vs H Q => ∃ a i j, vs = [V.ref a] ∧ H a = some (.tup [.int i, .int j]) ∧ Q (.int (if j > i then j else i)) H) := by
  intro pins s σ H vs us Q I r h
  obtain ⟨a, i, j, rfl, hH, q⟩ := h
  rw [Vals.ref1 r]
  obtain ⟨_, its, rv, o, h1, h2, n, h3⟩ := (show ObjOk X.prog X.w H s.heap a (.tup [.int i, .int j]) from I.hok a _ hH)
  obtain ⟨u1, u2, rfl, r1, r2⟩ := vals2 rv
  obtain ⟨t1, rfl⟩ := (show ∃ t, u1 = Value.int i t from r1)
  obtain ⟨t2, rfl⟩ := (show ∃ t, u2 = Value.int j t from r2)
  refine PySem.W.max_tuple_data (x := .int i) (xs := [.int j]) (as := _) (I.ok.hd hc) ⟨o, h1, h2, n, h3⟩ (.cons (.int i t1) (.cons (.int j t2) .nil)) ⟨?_, ?_⟩ ?_ fun k v h' tk bs hv hr hk => ?_
  · intro x hx y hy
    simp only [List.mem_cons, List.not_mem_nil, or_false] at hx hy
    rcases hx with rfl | rfl <;> rcases hy with rfl | rfl <;> rfl
  · intro x hx
    simp only [List.mem_cons, List.not_mem_nil, or_false] at hx
    rcases hx with rfl | rfl <;> exact fun z => by cases z
  · simp only [PyData.depthAll, PyData.depth]
    omega
  · have em : PySem.W.maxD (.int i) [.int j] = .int (if j > i then j else i) := by
      have := PySem.W.maxD_ints i [j]
      rw [show ([PyData.int j] : List PyData) = [j].map PyData.int from rfl, this]
      show PyData.int (max i j) = _
      congr 1
      split <;> omega
    rw [em] at hr
    obtain ⟨t, rfl, _⟩ := reads_int_inv hr
    exact ⟨.int _, H, I.kept hk, ⟨_, rfl⟩, q⟩
theorem b_max (hK : X.K = W.K) (hc : X.calm = true) (hu : X.A.units + 64 < cLine) : CallR X (.builtin "max") (rB W (biD .max)) := (CallR_or (CallR_or (call_max2 hc) (cr_max hc)) (cr_maxT hc hu)).imp fun vs H Q ⟨O, ds, res, hO, hr, hg, hq⟩ => by
  replace hg : maxD ds = some res := by cases ds <;> exact hg
  unfold maxD at hg
  split at hg
  · rename_i a b
    cases e1 : intD a with
    | none => rw [e1] at hg; cases hg
    | some i =>
      rw [e1] at hg
      have hg : (intD b).map (fun j => (Md.dp, D.int (if j > i then j else i))) = some res := hg
      cases e2 : intD b with
      | none => rw [e2] at hg; cases hg
      | some j =>
        rw [e2] at hg
        cases hg
        rw [intD_eq e1, intD_eq e2] at hr
        obtain ⟨v, w, rfl, h1, h2⟩ := hr.two
        exact .inl (.inl ⟨i, j, by rw [show v = .int i from h1, show w = .int j from h2], hq.val rfl rfl⟩)
  · rename_i xs
    cases e1 : intsD xs with
    | none => rw [e1] at hg; cases hg
    | some ns =>
      rw [e1] at hg
      have hg : (maxL ns).map (fun m => (Md.dp, D.int m)) = some res := hg
      cases e2 : maxL ns with
      | none => rw [e2] at hg; cases hg
      | some m =>
        rw [e2] at hg
        cases hg
        obtain ⟨m1, m2⟩ := maxL_some e2
        obtain ⟨v, rfl, hv⟩ := hr.one
        obtain ⟨a, vs, rfl, _, h1, h2, h3⟩ := hv
        rw [intsD_eq e1] at h3
        rw [Rps.ints_eq h3] at h1
        refine .inl (.inr ⟨a, ns, rfl, .inl (.inl h1), List.length_pos_of_mem m1, fun k hk hle => ?_⟩)
        have : k = m := by have := hle m m1; have := m2 k hk; omega
        rw [this]
        exact hq.val rfl rfl
  · cases hg
    obtain ⟨v, rfl, hv⟩ := hr.one
    obtain ⟨a, rfl, ha⟩ := hv.pair
    exact .inr ⟨a, _, _, rfl, ha, hq.val rfl rfl⟩
  · cases hg
theorem b_min (hK : X.K = W.K) (hc : X.calm = true) : CallR X (.builtin "min") (rB W (biD .min)) := (CallR_or (call_min2 hc) (cr_min hc)).imp fun vs H Q ⟨O, ds, res, hO, hr, hg, hq⟩ => by
  replace hg : minD ds = some res := by cases ds <;> exact hg
  unfold minD at hg
  split at hg
  · rename_i a b
    cases e1 : intD a with
    | none => rw [e1] at hg; cases hg
    | some i =>
      rw [e1] at hg
      have hg : (intD b).map (fun j => (Md.dp, D.int (if j < i then j else i))) = some res := hg
      cases e2 : intD b with
      | none => rw [e2] at hg; cases hg
      | some j =>
        rw [e2] at hg
        cases hg
        rw [intD_eq e1, intD_eq e2] at hr
        obtain ⟨v, w, rfl, h1, h2⟩ := hr.two
        exact .inl ⟨i, j, by rw [show v = .int i from h1, show w = .int j from h2], hq.val rfl rfl⟩
  · rename_i xs
    cases e1 : intsD xs with
    | none => rw [e1] at hg; cases hg
    | some ns =>
      rw [e1] at hg
      have hg : (minL ns).map (fun m => (Md.dp, D.int m)) = some res := hg
      cases e2 : minL ns with
      | none => rw [e2] at hg; cases hg
      | some m =>
        rw [e2] at hg
        cases hg
        obtain ⟨m1, m2⟩ := minL_some e2
        obtain ⟨v, rfl, hv⟩ := hr.one
        obtain ⟨a, vs, rfl, _, h1, h2, h3⟩ := hv
        rw [intsD_eq e1] at h3
        rw [Rps.ints_eq h3] at h1
        refine .inr ⟨a, ns, rfl, .inl (.inl h1), List.length_pos_of_mem m1, fun k hk hle => ?_⟩
        have : k = m := by have := hle m m1; have := m2 k hk; omega
        rw [this]
        exact hq.val rfl rfl
  · cases hg
theorem prsD_eq : ∀ {ds : List D} {ps : List (Int × Int)}, prsD ds = some ps → ds = ps.map eP
  | [], ps, h => by cases h; rfl
  | d :: ds, ps, h => by
    unfold prsD at h
    split at h
    · rename_i hnil; cases hnil
    · rename_i a b ds' e
      cases e
      cases e2 : prsD ds with
      | none => rw [e2] at h; cases h
      | some r =>
        rw [e2] at h
        cases h
        rw [prsD_eq e2]
        rfl
    · cases h
def kOf (H : Hp) (x : V) : Int × Int := match x with
  | .ref t => match H t with
    | some (.tup [.int a, .int b]) => (a, b)
    | _ => (0, 0)
  | _ => (0, 0)
theorem Rps.prs {H : Hp} {O : Addr → Prop} : ∀ {ps : List (Int × Int)} {vs : List V}, Rps W H O (ps.map eP) vs → vs.map (kOf H) = ps ∧ ∀ x ∈ vs, ∃ t, x = V.ref t ∧ H t = some (.tup [.int (kOf H x).1, .int (kOf H x).2])
  | [], vs, h => by
    rw [show vs = [] from h]
    exact ⟨rfl, fun _ z => by cases z⟩
  | p :: ps, vs, h => by
    obtain ⟨v, r, rfl, h1, h2⟩ := h
    obtain ⟨t, rfl, ht⟩ := h1.pair
    obtain ⟨i1, i2⟩ := Rps.prs (ps := ps) h2
    have ek : kOf H (.ref t) = p := by
      show (match H t with | some (.tup [.int a, .int b]) => (a, b) | _ => (0, 0)) = p
      rw [ht]
    refine ⟨by rw [List.map_cons, ek, i1], fun x hx => ?_⟩
    rcases List.mem_cons.mp hx with rfl | hx
    · exact ⟨t, rfl, by rw [ek]; exact ht⟩
    · exact i2 x hx
theorem Rps.of_prs {H : Hp} {O : Addr → Prop} : ∀ {vs : List V}, (∀ x ∈ vs, ∃ t, x = V.ref t ∧ H t = some (.tup [.int (kOf H x).1, .int (kOf H x).2])) → Rps W H O ((vs.map (kOf H)).map eP) vs
  | [], _ => rfl
  | v :: r, h => by
    obtain ⟨t, e, ht⟩ := h v List.mem_cons_self
    refine ⟨v, r, rfl, ⟨t, _, e, ht, (show (2 : Nat) ≤ sizeLine by decide), .int _, _, rfl, rfl, .int _, _, rfl, rfl, rfl⟩, Rps.of_prs fun x hx => h x (List.mem_cons_of_mem _ hx)⟩
theorem ltL_lt : ∀ xs ys : List Int, ltL xs ys = decide (xs < ys)
  | [], [] => by simp [ltL]
  | [], y :: ys => by simp [ltL]
  | x :: xs, [] => by simp [ltL]
  | x :: xs, y :: ys => by
    by_cases h : x = y
    · subst h
      simp [ltL, ltL_lt xs ys, List.cons_lt_cons_iff]
    · simp [ltL, h, List.cons_lt_cons_iff]
theorem sto_L : STO ltL := by
  refine ⟨fun x => ?_, fun x y z h1 h2 => ?_, fun x y h1 h2 => ?_⟩
  · rw [ltL_lt]
    exact decide_eq_false (List.lt_irrefl x)
  · rw [ltL_lt] at h1 h2 ⊢
    exact decide_eq_true (List.lt_trans (of_decide_eq_true h1) (of_decide_eq_true h2))
  · rw [ltL_lt] at h1 h2
    exact List.le_antisymm (List.not_lt.mp (of_decide_eq_false h2)) (List.not_lt.mp (of_decide_eq_false h1))
theorem rows_ris (bs : List (V × List Int)) : (bs.mergeSort fun x y => decide (x.2 ≤ y.2)).Pairwise fun x y => x.2 ≤ y.2 := by
  have h := List.pairwise_mergeSort (le := fun x y : V × List Int => decide (x.2 ≤ y.2)) (fun x y z h1 h2 => decide_eq_true (List.le_trans (of_decide_eq_true h1) (of_decide_eq_true h2))) (fun x y => by
    simp only [Bool.or_eq_true, decide_eq_true_eq]
    exact List.le_total x.2 y.2) bs
  exact h.imp fun {x y} q => of_decide_eq_true q
theorem ilD_eq : ∀ {ds : List D} {gs : List (List Int)}, ilD ds = some gs → ds = gs.map eIL
  | [], gs, h => by cases h; rfl
  | d :: ds, gs, h => by
    unfold ilD at h
    split at h
    · rename_i hnil; cases hnil
    · rename_i xs ds' e
      cases e
      cases e1 : intsD xs with
      | none => rw [e1] at h; cases h
      | some ns =>
        rw [e1] at h
        cases e2 : ilD ds with
        | none => rw [e2] at h; cases h
        | some r =>
          rw [e2] at h
          cases h
          rw [ilD_eq e2, intsD_eq e1]
          rfl
    · cases h
abbrev RowIn (H : Hp) (O : Addr → Prop) (b : V × List Int) : Prop := ∃ t, b.1 = V.ref t ∧ ¬ O t ∧ H t = some (.lst (b.2.map V.int)) ∧ b.2.length ≤ sizeLine
theorem Rps.row_at {H : Hp} {O : Addr → Prop} : ∀ {gs : List (List Int)} {vs : List V}, Rps W H O (gs.map eIL) vs → ∀ b ∈ vs.zip gs, RowIn H O b
  | [], vs, h, b, hb => by simp at hb
  | g :: gs, vs, h, b, hb => by
    obtain ⟨v, r, rfl, h1, h2⟩ := h
    rw [List.zip_cons_cons] at hb
    rcases List.mem_cons.mp hb with rfl | hb
    · obtain ⟨t, ws, e, n, ht, hl, hr⟩ := h1
      rw [Rps.ints_eq hr] at ht hl
      exact ⟨t, e, n, ht, by rw [List.length_map] at hl; exact hl⟩
    · exact Rps.row_at h2 b hb
theorem Rps.of_rows {H : Hp} {O : Addr → Prop} : ∀ (cs : List (V × List Int)), (∀ b ∈ cs, RowIn H O b) → Rps W H O ((cs.map Prod.snd).map eIL) (cs.map Prod.fst)
  | [], _ => rfl
  | c :: cs, h => by
    obtain ⟨t, e, n, ht, hl⟩ := h c List.mem_cons_self
    exact ⟨c.1, cs.map Prod.fst, rfl, ⟨t, _, e, n, ht, by rw [List.length_map]; exact hl, Rps.ints _⟩, Rps.of_rows cs fun b hb => h b (List.mem_cons_of_mem _ hb)⟩
theorem Rps.rows {K : PySem.W.Frag} {H : Hp} {O : Addr → Prop} {gs : List (List Int)} {vs : List V} (h : Rps W H O (gs.map eIL) vs) : (vs.zip gs).map Prod.fst = vs ∧ (∀ b ∈ vs.zip gs, RowAt K H b) ∧ (vs.zip gs).map Prod.snd = gs := by
  have hl : vs.length = gs.length := by
    have := Rps.length _ _ h
    rw [List.length_map] at this
    exact this
  refine ⟨List.map_fst_zip (by omega), fun b hb => ?_, List.map_snd_zip (by omega)⟩
  obtain ⟨t, e, _, ht, _⟩ := h.row_at b hb
  exact ⟨t, e, .inl (.inl ht)⟩
theorem b_sorted (hK : X.K = W.K) (hu : X.A.units + 64 < cLine) : CallR X (.builtin "sorted") (rB W (biD .sorted)) := (CallR_or (CallR_or cr_sortedI cr_sortedPO) (cr_sortRows hu)).imp fun vs H Q ⟨O, ds, res, hO, hr, hg, hq⟩ => by
  match ds, hg, hr with
  | [.lst xs], hg, hr =>
    have hg : sortD xs = some res := hg
    obtain ⟨v, rfl, hv⟩ := hr.one
    obtain ⟨a, vs, rfl, _, h1, h2, h3⟩ := hv
    unfold sortD at hg
    split at hg
    · rename_i ns e
      cases hg
      rw [intsD_eq e] at h3
      rw [Rps.ints_eq h3] at h1 h2
      refine .inl (.inl ⟨a, ns, rfl, .inl (.inl h1), fun ns' p pm pw np => ?_⟩)
      have e2 : isortB ltZ ns = ns' := isort_eq sto_Z pm (pw.imp fun {x y} h => decide_eq_false (by omega))
      rw [e2] at hq
      refine Res.deep (W := W) hq np ?_ (Rps.ints _) (lfrees_ints _)
      rw [List.length_map, pm.length_eq]
      rw [List.length_map] at h2
      exact h2
    · split at hg
      · rename_i ps e
        cases hg
        rw [prsD_eq e] at h3
        obtain ⟨k1, k2⟩ := h3.prs
        refine .inl (.inr ⟨a, vs, kOf H, rfl, .inl (.inl h1), k2, fun ys p sr st np => ?_⟩)
        have pm : (ys.map (kOf H)).Perm ps := by
          rw [← k1]
          exact st.perm.map _
        have e2 : isortB ltP2 ps = ys.map (kOf H) := by
          refine isort_eq sto_P pm ?_
          show List.Pairwise _ _
          rw [List.pairwise_map]
          exact sr.imp fun {x y} h => by
            have h : SrtO.lexB (kOf H y) (kOf H x) = false := h
            rw [lexB_eq] at h
            exact h
        rw [e2] at hq
        refine Res.deep (W := W) hq np ?_ (Rps.of_prs fun x hx => k2 x (st.perm.mem_iff.mp hx)) (lfrees_prs _)
        rw [st.perm.length_eq]
        exact h2
      · split at hg
        · rename_i gs e
          cases hg
          rw [ilD_eq e] at h3
          obtain ⟨k1, k2, k3⟩ := Rps.rows (K := X.K) h3
          refine .inr ⟨a, vs.zip gs, rfl, by rw [k1]; exact .inl (.inl h1), k2, fun cs p hcs np => ?_⟩
          have pm : cs.Perm (vs.zip gs) := by rw [hcs]; exact List.mergeSort_perm _ _
          have e2 : isortB ltL gs = cs.map Prod.snd := by
            refine isort_eq sto_L ?_ ?_
            · rw [← k3]
              exact pm.map _
            · show List.Pairwise _ _
              rw [List.pairwise_map, hcs]
              exact (rows_ris (vs.zip gs)).imp fun {x y} h => by rw [ltL_lt]; exact decide_eq_false (List.not_lt.mpr h)
          rw [e2] at hq
          refine Res.flat (W := W) hq np hO ?_ (Rps.of_rows cs fun b hb => ?_)
          · rw [List.length_map, pm.length_eq, List.length_zip]
            exact Nat.le_trans (Nat.min_le_left _ _) h2
          · exact Rps.row_at h3 b (pm.mem_iff.mp hb)
        · cases hg
theorem rgV_rng (a b : Int) {H : Hp} {O : Addr → Prop} : Rps W H O (rngD a b) (rgV a b) := by
  have e1 : rngD a b = eI ((List.range (b - a).toNat).map fun (i : Nat) => a + (i : Int)) := by
    unfold rngD eI
    rw [List.map_map]
    rfl
  have e2 : rgV a b = ((List.range (b - a).toNat).map fun (i : Nat) => a + (i : Int)).map V.int := by
    unfold rgV
    rw [List.map_map]
    rfl
  rw [e1, e2]
  exact Rps.ints _
theorem lfrees_rng (a b : Int) : lfrees (rngD a b) = true := by
  have e1 : rngD a b = eI ((List.range (b - a).toNat).map fun (i : Nat) => a + (i : Int)) := by
    unfold rngD eI
    rw [List.map_map]
    rfl
  rw [e1]
  exact lfrees_ints _
theorem rngOk_of {a b : Int} (h : rngOk a b = true) : RgOk a b ∧ (b - a).toNat ≤ SZ := by
  unfold rngOk smallI at h
  simp only [Bool.and_eq_true, decide_eq_true_eq] at h
  obtain ⟨⟨h1, h2⟩, h3⟩ := h
  exact ⟨⟨by omega, by omega, by omega, by omega, Nat.le_trans h3 (by decide)⟩, h3⟩
theorem c_lrng1 {a : Expr} {ca : E} {p p' pos pos' : Pos} (hc : X.calm = true) (hg : Gl X "list") (hm : X.mg "list" = none) (hg2 : Gl X "range") (hm2 : X.mg "range" = none) (ha : PE X a (rdE W E0 T ca))
    (na : starEach [a] X.env = (false, eval a X.env) :: starEach [] X.env := by rfl) : PE X (.Call (.Name "list" p) [.Call (.Name "range" p') [a] [] pos'] [] pos) (rdE W E0 T (.bi .lrng [.lit (.int 0), ca])) :=
  (pe_listRg hc hg hm (prg_1 hg2 hm2 ha na)).imp fun σ H Q ⟨H0, O0, δ, Fs, S, q⟩ => by
    simp only [ev, evs, nm, nms] at q
    rw [if_pos (show scal (.int 0) = true from rfl)] at q
    have q : rq W E0 H (av O0 Fs (nm ca)) (bnd (ev T ca δ) fun p => lift (biD .lrng [.int 0, p.2])) Q := by
      simp only [List.nil_append, List.append_nil] at q
      revert q
      cases ev T ca δ with
      | none => exact fun h => h
      | some r => cases r <;> exact fun h => h
    refine rd1 (g := fun d => biD .lrng [.int 0, d]) (r := fun x H1 Q => ∃ n, x = .int n ∧ RgOk 0 n ∧ ∀ q, H1 q = none → Q (.ref q) (L2.upd H1 q (.lst (rgV 0 n)))) S q fun H2 O x d res hO hd hg hq => ?_
    cases d with
    | int n =>
      have hg : (if rngOk 0 n = true then some (Md.dp, D.lst (rngD 0 n)) else none) = some res := hg
      split at hg <;> first | (cases hg; done) | skip
      rename_i hz
      cases hg
      obtain ⟨g1, g2⟩ := rngOk_of hz
      exact ⟨n, hd, g1, fun q nq => Res.deep (W := W) hq nq (by rw [rgV_length]; exact Nat.le_trans g2 sz_le) (rgV_rng 0 n) (lfrees_rng 0 n)⟩
    | _ => cases hg
end
end TW

set_option Elab.async false
set_option linter.all false
set_option maxRecDepth 100000
set_option maxHeartbeats 4000000
namespace TW
open PySem PySem.Spec PyProof.Rows L2
variable [TabT]

theorem toPys_get : ∀ (ds : List D) (j : Nat), (toPys ds)[j]? = (ds[j]?).map toPy
  | [], j => by simp [toPys]
  | d :: ds, 0 => by simp [toPys]
  | d :: ds, j + 1 => by
    simp only [toPys, List.getElem?_cons_succ]
    exact toPys_get ds j
def tyN : Ty → Option String
  | .int => some "int"
  | .bool => some "bool"
  | .list => some "list"
  | .tuple => some "tuple"
  | .cls _ => none
  | .str => none
section
variable {W : Wd} {E0 : XK} {T : Tb} {X : Cx}
theorem c_mix {o e : Expr} {ca cb : E} {apos cpos : Pos} (hK : X.K = W.K) (hu : X.A.units + 65 < cLine) (ho : PE X o (rdE W E0 T ca)) (ha : PA X [e] (rdA W E0 T [cb]))
    (hbase : attributeBase o "index" X.env (eval o X.env) = eval o X.env := by rfl)
    (hfew : ((backTo cpos (starEach [e] X.env)).all (fun x => !x.1) && (backToKw cpos (keywordEach [] X.env)).all (fun x => x.1.isSome)
      && decide ([e].length + ([] : List Keyword).length + (if ([] : List Keyword).isEmpty then 0 else 1) < 30)) = true := by rfl)
    (hline : (apos.endLine == cpos.line) = true := by rfl) (hs : starEach [e] X.env = (false, eval e X.env) :: starEach [] X.env := by rfl) :
    PE X (.Call (.Attribute o "index" apos) [e] [] cpos) (rdE W E0 T (.mix ca cb)) :=
  (pe_bm PySem.F.plainAttrs_list PySem.F.slot_list_index PySem.F.type_list_index (mt_indexD hu) ho ha hbase hfew hline hs).imp fun σ H Q ⟨H0, O0, δ, Fs, S, q⟩ => by
    simp only [ev, nm] at q
    refine ⟨H0, O0, δ, Fs, S, rq_bnd' (G := fun z => rq W E0 H (av O0 Fs (nm ca ++ nm cb)) z Q) rq_none (fun C h => h) q fun p h1 => ?_⟩
    intro v1 H1 F1 s1 n1 nd1 ow1
    have S1 := S.grow s1
    have h1 := rq.mono h1 s1
    have r1 := ow1.rpv (O1 := av O0 Fs (nm ca ++ nm cb)) (av_mono fun i hi => List.mem_append_left _ hi) S.av_there n1
    cases hp : p.2 with
    | lst ds =>
      rw [hp] at h1 r1
      have r0 := r1
      obtain ⟨a, vs, rfl, _, g1, g2, g3⟩ := r0
      refine ⟨.inl ⟨rfl, vs, .inl (.inl g1)⟩, ?_⟩
      have h1 : rq W E0 H1 (av O0 Fs (nm ca ++ nm cb)) (bnd (ev T cb δ) fun q => if (dat q.2 20 && dats ds 20) = true then lift ((ds.findIdx? fun z => eqD z q.2).map fun i => (Md.dp, D.int (i : Nat))) else none) Q := h1
      have e1 : evs T [cb] δ = bnd (ev T cb δ) fun p => ok [p] := by
        simp only [evs]
        rfl
      refine ⟨H0, O0, δ, Fs, S1, ?_⟩
      rw [e1]
      revert h1
      cases ev T cb δ with
      | none => exact fun h => h
      | some r =>
        cases r with
        | er C => exact fun h => h
        | ok p2 =>
          intro h1 vs2 H2 Fs2 s2 n2 nd2 ow2
          obtain ⟨w, r', F, Fr, rfl, rfl, o1, o2⟩ := ow2
          obtain ⟨rfl, rfl⟩ := o2
          have h2 : rq W E0 H2 (av O0 Fs (nm ca ++ nm cb)) (if (dat p2.2 20 && dats ds 20) = true then lift ((ds.findIdx? fun z => eqD z p2.2).map fun i => (Md.dp, D.int (i : Nat))) else none) Q := rq.mono (r := if (dat p2.2 20 && dats ds 20) = true then lift ((ds.findIdx? fun z => eqD z p2.2).map fun i => (Md.dp, D.int (i : Nat))) else none) h1 s2
          split at h2 <;> first | exact h2.elim | skip
          rename_i hz
          obtain ⟨z1, z2⟩ := Bool.and_eq_true_iff.mp hz
          cases ei : ds.findIdx? (fun z => eqD z p2.2) with
          | none => rw [ei] at h2; exact h2.elim
          | some j =>
            rw [ei] at h2
            have rw2 : Rp W H2 (fun _ => False) p2.2 w := o1.rp (fun a z => z.elim) (fun a _ z => z)
            have rl := Rp.mono s2 (fun _ z => z) _ _ r1
            obtain ⟨hj, t1, t2⟩ := List.findIdx?_eq_some_iff_getElem.mp ei
            have dl : Dp X.K H2 (.ref a) (.list (toPys ds)) := by
              rw [hK]
              have := Rp.dp (.lst ds) 21 _ z2 rl
              simpa only [toPy] using this
            have sl : SeqAt.shaped (.list (toPys ds)) = true := by
              have := shaped_of (d := .lst ds) (n := 21) (by decide) z2
              simpa only [toPy] using this
            refine ⟨a, w, toPy p2.2, toPys ds, j, toPy ds[j], rfl, rfl, dl, by rw [hK]; exact Rp.dp p2.2 20 w z1 rw2, sl, shaped_of (by decide) z1, ?_, t1, fun m z' hm hz' => ?_, Res.val (W := W) h2 rfl rfl⟩
            · rw [toPys_get, List.getElem?_eq_getElem hj]
              rfl
            · rw [toPys_get, List.getElem?_eq_getElem (Nat.lt_trans hm hj)] at hz'
              cases hz'
              have := t2 m hm
              simpa using this
    | _ => rw [hp] at h1; exact h1.elim

theorem isi_kit {d : D} {t : Ty} {b : Bool} {n : String} {H : Hp} {O : Addr → Prop} {x : V} (hn : tyN t = some n) (h : isiD d t = some b) (r : Rp W H O d x) : ∃ m : String, TyX W.K H x (.type m) ∧ kitB m n = some b := by
  cases d with
  | non => exact ⟨"NoneType", .base (by rw [show x = .non from r]; exact .non), by cases t <;> cases hn <;> cases h <;> decide +kernel⟩
  | bl k => exact ⟨"bool", .base (by rw [show x = .bl k from r]; exact .bl k), by cases t <;> cases hn <;> cases h <;> decide +kernel⟩
  | int k => exact ⟨"int", .base (by rw [show x = .int k from r]; exact .int k), by cases t <;> cases hn <;> cases h <;> decide +kernel⟩
  | str k => exact ⟨"str", .base (by rw [show x = .str k from r]; exact .str k), by cases t <;> cases hn <;> cases h <;> decide +kernel⟩
  | tup ds =>
    obtain ⟨a, vs, rfl, h1, _⟩ := r
    exact ⟨"tuple", .base (.tup h1), by cases t <;> cases hn <;> cases h <;> decide +kernel⟩
  | lst ds =>
    obtain ⟨a, vs, rfl, _, h1, _⟩ := r
    exact ⟨"list", .base (.lst h1), by cases t <;> cases hn <;> cases h <;> decide +kernel⟩
  | dic ds =>
    obtain ⟨a, rfl, _, h1, _⟩ := r
    exact ⟨"dict", .base (.dK h1), by cases t <;> cases hn <;> cases h <;> decide +kernel⟩
  | fn f => cases t <;> cases h
  | scr ns => cases t <;> cases h
  | ins C f d => cases t <;> first | (cases h; done) | cases hn
  | exc C => cases t <;> first | (cases h; done) | cases hn
  | clo g cap => cases t <;> first | (cases h; done) | cases hn
theorem c_isi {e : Expr} {ca : E} {t : Ty} {n : String} {x : Str} {p p2 pos : Pos} (hK : X.K = W.K) (hn : tyN t = some n) (hg : Gl X "isinstance") (hm : X.mg "isinstance" = none) (hgT : Gl X x) (hmT : X.mg x = none) (hvT : bootBuiltins x = some (.type n)) (he : PE X e (rdE W E0 T ca))
    (hxn : x ≠ "__name__" := by decide) (hd : (x == ("__debug__" : Str)) = false := by decide) (hs : starEach [e, .Name x p2] X.env = (false, eval e X.env) :: starEach [.Name x p2] X.env := by rfl) :
    PE X (.Call (.Name "isinstance" p) [e, .Name x p2] [] pos) (rdE W E0 T (.isi ca t)) :=
  (pe_callB call_isi hg hm boot_isinstance (pa_cons he (pa_cons (pe_bltn (v := .ty n) hgT hmT hvT rfl hxn hd) pa_nil) hs) (by decide) (by decide) hs).imp fun σ H Q ⟨H0, O0, δ, Fs, S, q⟩ => by
    simp only [ev, nm] at q
    refine rd1 (g := fun d => (isiD d t).map fun b => (.dp, .bl b)) (r := fun x H1 Q => rIsi X.K [x, .ty n] H1 Q) S q fun H2 O x d res hO hd hg hq => ?_
    cases e : isiD d t with
    | none => rw [e] at hg; cases hg
    | some b =>
      rw [e] at hg
      cases hg
      obtain ⟨m, k1, k2⟩ := isi_kit hn e hd
      exact ⟨x, .ty n, .type m, .type n, b, rfl, .ty n, by rw [hK]; exact k1, kit_ty k2, hq.val rfl rfl⟩

def spP (W : Wd) (n : Nat) (f : List D → M (Md × D)) : Sp := fun vs H Q E => vs.length = n ∧ ∃ ds O, HB W O H ∧ Rps W H O ds vs ∧ rq W E H O (f ds) Q
structure FnF (P : Program) (w : World) (mg : Str → Option Value) (base : Heap) (W : Wd) (T : Tb) (k : Nat) (x : Str) (f : Nat) (ps : List Str) : Prop where
  ex : ∃ fd, FnOk P w W.K mg base (L2N.CX P w) k (W.fa f) fd ps (spP W ps.length (T f)) ∧ Binds W.K fd ps []
  mg : mg x = some (.ref (W.fa f))
  kp : PySem.W.keepIn W.K (.ref (W.fa f)) = true
theorem Ow.up {H : Hp} {O O' : Addr → Prop} {d : D} {v : V} (h : Rp W H O' d v) (c : closed .fl d = true) : ∃ F, Ow W H O .fl d v F ∧ F.Nodup ∧ ∀ a ∈ F, ¬ O' a := by
  cases e : flatTop d with
  | false =>
    rw [closed_other e] at c
    exact ⟨[], Ow.sh_any h c, List.nodup_nil, fun _ z => by cases z⟩
  | true =>
    cases d with
    | lst ds =>
      obtain ⟨a, vs, rfl, h0, h1, h2, h3⟩ := h
      refine ⟨[a], ⟨a, vs, rfl, rfl, h1, h2, Dqs.rp _ _ _ (Rps.dq _ _ h3 c) (fun _ z => by cases z)⟩, by simp, fun b hb => by rw [List.mem_singleton.mp hb]; exact h0⟩
    | dic ks =>
      obtain ⟨a, rfl, h0, h1, h2⟩ := h
      exact ⟨[a], ⟨a, rfl, rfl, h1, h2⟩, by simp, fun b hb => by rw [List.mem_singleton.mp hb]; exact h0⟩
    | _ => cases e
theorem rdA_call {cs : List E} {n f : Nat} {σ : L2.St} {H : Hp} {Q : VK} {H0 : Hp} {O0 : Addr → Prop} {δ : Dn} {Fs : List (List Addr)} (S : SS W H0 O0 H σ δ Fs) (hn : cs.length = n)
    (q : rq W E0 H (av O0 Fs (nms cs)) (bnd (evs T cs δ) fun ps => bnd (T f (ps.map Prod.snd)) fun r => ok (if r.1 = .sh ∧ closeds ps ∧ closed .fl r.2 then (.fl, r.2) else r)) Q) :
    rdA W E0 T cs σ H (fun vs H1 => spP W n (T f) (vs ++ []) H1 Q E0) := by
  refine ⟨H0, O0, δ, Fs, S, rqs_bnd2 (G := fun z => rq W E0 H (av O0 Fs (nms cs)) z Q) rq_none (fun C h => h) q fun ps e h1 vs H1 Fs1 s1 n1 nd1 ow1 => ?_⟩
  rw [List.append_nil]
  refine ⟨by rw [ow1.length, evs_len e, hn], ?_⟩
  cases c : closeds ps with
  | true =>
    refine ⟨_, fun a => H a ≠ none, ⟨fun a z q => z (s1.free q), (S.grow s1).tabs⟩, Dqs.rp _ _ _ (ow1.dqs c) (fun a ha z => z (n1 a ha)), ?_⟩
    revert h1
    cases T f (ps.map Prod.snd) with
    | none => exact fun h => h
    | some r =>
      cases r with
      | er C => exact fun h H' s' => h H' (s1.trans s')
      | ok p =>
        intro h1 v H2 F s2 n2 nd2 ow2
        have h1 : Res W H (av O0 Fs (nms cs)) (if p.1 = .sh ∧ closeds ps ∧ closed .fl p.2 then (Md.fl, p.2) else p).1 (if p.1 = .sh ∧ closeds ps ∧ closed .fl p.2 then (Md.fl, p.2) else p).2 Q := h1
        split at h1
        · rename_i hc
          obtain ⟨c1, _, c3⟩ := hc
          rw [c1] at ow2
          obtain ⟨rfl, r2⟩ := ow2
          obtain ⟨F', g1, g2, g3⟩ := Ow.up (O := fun q => av O0 Fs (nms cs) q ∨ False) (Rp.mono (Same.refl H2) (O' := fun a => H a ≠ none) (fun a z => .inl z) _ _ r2) c3
          have n3 : ∀ a ∈ F', H a = none := fun a ha => by
            cases hh : H a with
            | none => rfl
            | some o => exact absurd (by rw [hh]; simp) (g3 a ha)
          obtain ⟨F2, k1, k2, k3⟩ := Ow.up (O := fun q => av O0 Fs (nms cs) q ∨ q ∈ F') (Rp.mono (Same.refl H2) (O' := fun a => H a ≠ none) (fun a z => .inl z) _ _ r2) c3
          -- the cells are told by the tree alone
          have e12 : F2 = F' := by
            cases ef : flatTop p.2 with
            | false =>
              rw [Ow.fl_other ef] at g1 k1
              rw [g1.1, k1.1]
            | true =>
              cases hd : p.2 with
              | lst ds =>
                rw [hd] at g1 k1
                obtain ⟨a, vs', e1, e2, _⟩ := g1
                obtain ⟨b, vs'', e3, e4, _⟩ := k1
                rw [e1] at e3
                cases e3
                rw [e2, e4]
              | dic ks =>
                rw [hd] at g1 k1
                obtain ⟨a, e1, e2, _⟩ := g1
                obtain ⟨b, e3, e4, _⟩ := k1
                rw [e1] at e3
                cases e3
                rw [e2, e4]
              | _ => rw [hd] at ef; cases ef
          subst e12
          exact h1 v H2 F2 (s1.trans s2) n3 k2 k1
        · refine h1 v H2 F (s1.trans s2) (fun a ha => s1.free (n2 a ha)) nd2 (ow2.mono (Same.refl H2) fun a z => ?_)
          rcases z with z | z
          · exact .inl (S.av_there a z)
          · exact .inr z
  | false =>
    refine ⟨_, av O0 Fs (nms cs), (S.grow s1).av_hb, ow1.rps (fun a z => .inl z) (fun a ha z => S.av_there a z (n1 a ha)), ?_⟩
    revert h1
    cases T f (ps.map Prod.snd) with
    | none => exact fun h => h
    | some r =>
      cases r with
      | er C => exact fun h H' s' => h H' (s1.trans s')
      | ok p =>
        intro h1
        have h1 : Res W H (av O0 Fs (nms cs)) (if p.1 = .sh ∧ closeds ps ∧ closed .fl p.2 then (Md.fl, p.2) else p).1 (if p.1 = .sh ∧ closeds ps ∧ closed .fl p.2 then (Md.fl, p.2) else p).2 Q := h1
        rw [if_neg (by rw [c]; intro z; exact absurd z.2.1 (by decide))] at h1
        exact Res.mono (W := W) h1 s1
theorem c_cal {k f : Nat} {x : Str} {ps : List Str} {p pos : Pos} {e : Expr} {es : List Expr} {cs : List E} (hK : X.K = W.K) (F : FnF X.prog X.w X.mg X.base W T k x f ps) (hr : Room k X.A) (hg : Gl X x) (hx : Passes (L2N.CX X.prog X.w) X E0)
    (ha : PA X (e :: es) (rdA W E0 T cs)) (hl : cs.length = ps.length := by rfl) (hdb : (x == ("__debug__" : Str)) = false := by decide) (he : starEach (e :: es) X.env = (false, eval e X.env) :: starEach es X.env := by rfl)
    (hpl : (backTo pos (starEach es X.env)).any (·.1) = false := by rfl) : PE X (.Call (.Name x p) (e :: es) [] pos) (rdE W E0 T (.cal f cs)) := by
  obtain ⟨fd, F1, F2⟩ := F.ex
  rw [← hK] at F1 F2
  exact (pe_call F1 hr hg F.mg (by rw [hK]; exact F.kp) F2 .nil hx ha hdb he hpl).imp fun σ H Q ⟨H0, O0, δ, Fs, S, q⟩ => by
    simp only [ev, nm] at q
    exact rdA_call S hl q
end
end TW

set_option Elab.async false
set_option linter.all false
set_option maxRecDepth 100000
set_option maxHeartbeats 4000000
namespace TW
open PySem PySem.Spec PyProof.Rows L2
variable [TabT]

abbrev dat1 (e : Dn) (i : Nat) : Option (Option D) := (e[i]?).map (Option.map Prod.snd)
def Agr (L : List Nat) (e e' : Dn) : Prop := e.length = e'.length ∧ ∀ i ∈ L, dat1 e i = dat1 e' i
theorem Agr.sub {L M : List Nat} {e e' : Dn} (h : Agr L e e') (s : ∀ i ∈ M, i ∈ L) : Agr M e e' := ⟨h.1, fun i hi => h.2 i (s i hi)⟩
theorem Agr.set {L : List Nat} {e e' : Dn} (h : Agr L e e') (i : Nat) (p q : Md × D) (hd : p.2 = q.2) : Agr (i :: L) (e.set i (some p)) (e'.set i (some q)) := by
  refine ⟨by rw [List.length_set, List.length_set]; exact h.1, fun j hj => ?_⟩
  by_cases e1 : i = j
  · subst e1
    by_cases hl : i < e.length
    · have hl' : i < e'.length := by rw [← h.1]; exact hl
      unfold dat1
      rw [List.getElem?_set_self hl, List.getElem?_set_self hl']
      simp [hd]
    · have hl' : ¬ i < e'.length := by rw [← h.1]; exact hl
      unfold dat1
      rw [List.getElem?_eq_none (by rw [List.length_set]; omega), List.getElem?_eq_none (by rw [List.length_set]; omega)]
  · unfold dat1
    rw [List.getElem?_set_ne e1, List.getElem?_set_ne e1]
    rcases List.mem_cons.mp hj with z | z
    · exact absurd z.symm e1
    · exact h.2 j z
theorem Agr.bind {L : List Nat} {e e' : Dn} (h : Agr L e e') (ts : List Nat) (one : Bool) (x : D) : (bindT ts one x e = none ∧ bindT ts one x e' = none) ∨ ∃ f f', bindT ts one x e = some f ∧ bindT ts one x e' = some f' ∧ Agr (ts ++ L) f f' := by
  unfold bindT
  split
  · rename_i i
    exact .inr ⟨_, _, rfl, rfl, h.set i _ _ rfl⟩
  · rename_i i j a b
    refine .inr ⟨_, _, rfl, rfl, ?_⟩
    exact ((h.set i (.sh, a) (.sh, a) rfl).set j (.sh, b) (.sh, b) rfl).sub fun k hk => by
      simp only [List.cons_append, List.nil_append, List.mem_cons] at hk ⊢
      rcases hk with z | z | z
      · exact .inr (.inl z)
      · exact .inl z
      · exact .inr (.inr z)
  · rename_i i j a b
    refine .inr ⟨_, _, rfl, rfl, ?_⟩
    exact ((h.set i (.sh, a) (.sh, a) rfl).set j (.sh, b) (.sh, b) rfl).sub fun k hk => by
      simp only [List.cons_append, List.nil_append, List.mem_cons] at hk ⊢
      rcases hk with z | z | z
      · exact .inr (.inl z)
      · exact .inl z
      · exact .inr (.inr z)
  · rename_i i j k l a b c d
    refine .inr ⟨_, _, rfl, rfl, ?_⟩
    exact ((((h.set i (.sh, a) (.sh, a) rfl).set j (.sh, b) (.sh, b) rfl).set k (.sh, c) (.sh, c) rfl).set l (.sh, d) (.sh, d) rfl).sub fun m hk => by
      simp only [List.cons_append, List.nil_append, List.mem_cons] at hk ⊢
      rcases hk with z | z | z | z | z
      · exact .inr (.inr (.inr (.inl z)))
      · exact .inr (.inr (.inl z))
      · exact .inr (.inl z)
      · exact .inl z
      · exact .inr (.inr (.inr (.inr z)))
  · exact .inl ⟨rfl, rfl⟩
theorem compL_congr {f g : D → Option (Option (Md × D))} (h : ∀ x, f x = g x) (xs : List D) : compL f xs = compL g xs := by
  rw [show f = g from funext h]
theorem capD_congr : ∀ (js : List Nat) (e e' : Dn), Agr js e e' → capD js e = capD js e'
  | [], e, e', h => rfl
  | i :: is, e, e', h => by
    have ih := capD_congr is e e' (h.sub fun i hi => List.mem_cons_of_mem _ hi)
    have h := h.2 i List.mem_cons_self
    unfold dat1 at h
    simp only [capD, ih]
    cases q : e[i]? with
    | none =>
      rw [q] at h
      cases q' : e'[i]? with
      | none => rfl
      | some o => rw [q'] at h; cases h
    | some o =>
      rw [q] at h
      cases q' : e'[i]? with
      | none => rw [q'] at h; cases h
      | some o' =>
        rw [q'] at h
        cases o with
        | none =>
          cases o' with
          | none => rfl
          | some p' => cases h
        | some p =>
          cases o' with
          | none => cases h
          | some p' =>
            have : p.2 = p'.2 := by simpa using h
            simp only [this]
section
variable {T : Tb}
mutual
theorem ev_congr : ∀ (a : E) (e e' : Dn), Agr (nm a) e e' → ev T a e = ev T a e'
  | .var i, e, e', h => by
    have h := h.2 i (by simp [nm])
    simp only [ev]
    unfold dat1 at h
    cases q : e[i]? with
    | none =>
      rw [q] at h
      cases q' : e'[i]? with
      | none => rfl
      | some o => rw [q'] at h; cases h
    | some o =>
      rw [q] at h
      cases q' : e'[i]? with
      | none => rw [q'] at h; cases h
      | some o' =>
        rw [q'] at h
        cases o with
        | none =>
          cases o' with
          | none => rfl
          | some p' => cases h
        | some p =>
          cases o' with
          | none => cases h
          | some p' =>
            have : p.2 = p'.2 := by simpa using h
            simp [this]
  | .lit d, e, e', h => by simp only [ev]
  | .bin o a b, e, e', h => by
    simp only [ev, ev_congr a e e' (h.sub fun i hi => by simp [nm, hi]), ev_congr b e e' (h.sub fun i hi => by simp [nm, hi])]
  | .cmp o a b, e, e', h => by
    simp only [ev, ev_congr a e e' (h.sub fun i hi => by simp [nm, hi]), ev_congr b e e' (h.sub fun i hi => by simp [nm, hi])]
  | .chn o p a b c, e, e', h => by
    simp only [ev, ev_congr a e e' (h.sub fun i hi => by simp [nm, hi]), ev_congr b e e' (h.sub fun i hi => by simp [nm, hi]), ev_congr c e e' (h.sub fun i hi => by simp [nm, hi])]
  | .chn3 o p q a b c d, e, e', h => by
    simp only [ev, ev_congr a e e' (h.sub fun i hi => by simp [nm, hi]), ev_congr b e e' (h.sub fun i hi => by simp [nm, hi]), ev_congr c e e' (h.sub fun i hi => by simp [nm, hi]), ev_congr d e e' (h.sub fun i hi => by simp [nm, hi])]
  | .neg a, e, e', h => by simp only [ev, ev_congr a e e' (h.sub fun i hi => by simp [nm, hi])]
  | .not a, e, e', h => by simp only [ev, ev_congr a e e' (h.sub fun i hi => by simp [nm, hi])]
  | .and a b, e, e', h => by
    simp only [ev, ev_congr a e e' (h.sub fun i hi => by simp [nm, hi]), ev_congr b e e' (h.sub fun i hi => by simp [nm, hi])]
  | .or a b, e, e', h => by
    simp only [ev, ev_congr a e e' (h.sub fun i hi => by simp [nm, hi]), ev_congr b e e' (h.sub fun i hi => by simp [nm, hi])]
  | .ite c a b, e, e', h => by
    simp only [ev, ev_congr a e e' (h.sub fun i hi => by simp [nm, hi]), ev_congr b e e' (h.sub fun i hi => by simp [nm, hi]), ev_congr c e e' (h.sub fun i hi => by simp [nm, hi])]
  | .tup es, e, e', h => by simp only [ev, evs_congr es e e' (h.sub fun i hi => by simp [nm, hi])]
  | .lst es, e, e', h => by simp only [ev, evs_congr es e e' (h.sub fun i hi => by simp [nm, hi])]
  | .sub a b, e, e', h => by
    simp only [ev, ev_congr a e e' (h.sub fun i hi => by simp [nm, hi]), ev_congr b e e' (h.sub fun i hi => by simp [nm, hi])]
  | .slc pl ph a b c, e, e', h => by
    simp only [ev, ev_congr a e e' (h.sub fun i hi => by simp [nm, hi]), ev_congr b e e' (h.sub fun i hi => by simp [nm, hi]), ev_congr c e e' (h.sub fun i hi => by simp [nm, hi])]
  | .rev a, e, e', h => by simp only [ev, ev_congr a e e' (h.sub fun i hi => by simp [nm, hi])]
  | .att a f, e, e', h => by simp only [ev, ev_congr a e e' (h.sub fun i hi => by simp [nm, hi])]
  | .cal f es, e, e', h => by simp only [ev, evs_congr es e e' (h.sub fun i hi => by simp [nm, hi])]
  | .cav a g es, e, e', h => by simp only [ev, ev_congr a e e' (h.sub fun i hi => by simp [nm, hi]), evs_congr es e e' (h.sub fun i hi => by simp [nm, hi])]
  | .bi b es, e, e', h => by simp only [ev, evs_congr es e e' (h.sub fun i hi => by simp [nm, hi])]
  | .mix a b, e, e', h => by
    simp only [ev, ev_congr a e e' (h.sub fun i hi => by simp [nm, hi]), ev_congr b e e' (h.sub fun i hi => by simp [nm, hi])]
  | .isi a t, e, e', h => by simp only [ev, ev_congr a e e' (h.sub fun i hi => by simp [nm, hi])]
  | .comp ts one s cs a, e, e', h => by
    have h1 := evS_congr s e e' (h.sub fun i hi => by simp [nm, hi])
    simp only [ev, h1]
    congr 1
    funext p
    rw [compL_congr (fun x => ?_)]
    rcases h.bind ts one x with ⟨b1, b2⟩ | ⟨f, f', b1, b2, b3⟩
    · rw [b1, b2]
    · rw [b1, b2]
      show (okOnly (evC T cs f)).bind _ = (okOnly (evC T cs f')).bind _
      rw [evC_congr cs f f' (b3.sub fun i hi => List.mem_append_right _ (by simp [nm, hi])), ev_congr a f f' (b3.sub fun i hi => List.mem_append_right _ (by simp [nm, hi]))]
  | .dnew, e, e', h => by simp only [ev]
  | .mk C f i es, e, e', h => by simp only [ev, evs_congr es e e' (h.sub fun i hi => by simp [nm, hi])]
  | .met a tb es, e, e', h => by simp only [ev, ev_congr a e e' (h.sub fun i hi => by simp [nm, hi]), evs_congr es e e' (h.sub fun i hi => by simp [nm, hi])]
  | .isc a cs, e, e', h => by simp only [ev, ev_congr a e e' (h.sub fun i hi => by simp [nm, hi])]
  | .csel gs a es, e, e', h => by simp only [ev, ev_congr a e e' (h.sub fun i hi => by simp [nm, hi]), evs_congr es e e' (h.sub fun i hi => by simp [nm, hi])]
  | .orv a b, e, e', h => by simp only [ev, ev_congr a e e' (h.sub fun i hi => by simp [nm, hi]), ev_congr b e e' (h.sub fun i hi => by simp [nm, hi])]
  | .flt _ _ _, e, e', h => by simp only [ev]
  | .lam g, e, e', h => by simp only [ev]
  | .clc gs i es, e, e', h => by
    have h0 := evs_congr es e e' (h.sub fun i hi => by simp [nm, hi])
    have h := h.2 i (by simp [nm])
    simp only [ev, h0]
    unfold dat1 at h
    cases q : e[i]? with
    | none =>
      rw [q] at h
      cases q' : e'[i]? with
      | none => rfl
      | some o => rw [q'] at h; cases h
    | some o =>
      rw [q] at h
      cases q' : e'[i]? with
      | none => rw [q'] at h; cases h
      | some o' =>
        rw [q'] at h
        cases o with
        | none =>
          cases o' with
          | none => rfl
          | some p' => cases h
        | some p =>
          cases o' with
          | none => cases h
          | some p' =>
            obtain ⟨m, d⟩ := p
            obtain ⟨m', d'⟩ := p'
            have : d = d' := by simpa using h
            subst this
            cases d <;> rfl
  | .ccl f gs js es, e, e', h => by simp only [ev, evs_congr es e e' (h.sub fun i hi => by simp [nm, hi]), capD_congr js e e' (h.sub fun i hi => by simp [nm, hi])]
  | .calx f es, e, e', h => by simp only [ev, evs_congr es e e' (h.sub fun i hi => by simp [nm, hi])]
theorem evs_congr : ∀ (as : List E) (e e' : Dn), Agr (nms as) e e' → evs T as e = evs T as e'
  | [], e, e', h => by simp only [evs]
  | a :: as, e, e', h => by
    simp only [evs, ev_congr a e e' (h.sub fun i hi => by simp [nms, hi]), evs_congr as e e' (h.sub fun i hi => by simp [nms, hi])]
theorem evC_congr : ∀ (as : List E) (e e' : Dn), Agr (nms as) e e' → evC T as e = evC T as e'
  | [], e, e', h => by simp only [evC]
  | a :: as, e, e', h => by
    simp only [evC, ev_congr a e e' (h.sub fun i hi => by simp [nms, hi]), evC_congr as e e' (h.sub fun i hi => by simp [nms, hi])]
theorem evS_congr : ∀ (s : Sr) (e e' : Dn), Agr (nmS s) e e' → evS T s e = evS T s e'
  | .seq a, e, e', h => by simp only [evS, ev_congr a e e' (h.sub fun i hi => by simp [nmS, hi])]
  | .rng a b, e, e', h => by
    simp only [evS, ev_congr a e e' (h.sub fun i hi => by simp [nmS, hi]), ev_congr b e e' (h.sub fun i hi => by simp [nmS, hi])]
  | .enu a, e, e', h => by simp only [evS, ev_congr a e e' (h.sub fun i hi => by simp [nmS, hi])]
  | .zip a b, e, e', h => by
    simp only [evS, ev_congr a e e' (h.sub fun i hi => by simp [nmS, hi]), ev_congr b e e' (h.sub fun i hi => by simp [nmS, hi])]
end
end
end TW

set_option Elab.async false
set_option linter.all false
set_option maxRecDepth 100000
set_option maxHeartbeats 4000000
namespace TW
open PySem PySem.Spec PyProof.Rows L2
variable [TabT]
structure Feed (pr : Program) (wd : World) (it over : Addr) (P : Nat → Heap → Prop) (R : Heap → Prop) (tell : Nat → Option Value) : Prop where
  on : ∀ {i : Nat} {g h : Heap} {b : Addr}, P i g → Heap.ExtBut b g h → it ≠ b → P i h
  ro : ∀ {g h : Heap} {b : Addr}, R g → Heap.ExtBut b g h → over ≠ b → R h
  next : ∀ {A : Around} {i : Nat} {u : Shared} {x : Value} {Q E : Value → Shared → Prop}, P i u.heap → R u.heap → tell i = some x → (∀ g, P (i + 1) g → Heap.SameBut it u.heap g → Q x { u with heap := g }) → wpAny (model pr wd) A (Builtin.SmallTypes.nextOf (.ref it)) Q E u
  over : ∀ {A : Around} {i : Nat} {u : Shared} {Q E : Value → Shared → Prop}, A.handled = none → P i u.heap → R u.heap → tell i = none → (∀ g e, Heap.ExtBut it u.heap g → (∃ o, g.get? e = some o ∧ o.cls = .type "StopIteration") → E (.ref e) { u with heap := g }) → wpAny (model pr wd) A (Builtin.SmallTypes.nextOf (.ref it)) Q E u
theorem feed_list {pr : Program} {wd : World} {it l : Addr} {xs : Array Value} : Feed pr wd it l (fun i h => h.IsListIter it l i) (fun h => h.IsList l xs) (fun i => xs[i]?) :=
  ⟨fun p e n => p.extBut e n, fun r e n => r.extBut e n, fun p r v q => wpAny_nextOf_list_item p r v q, fun hh p r v q => wpAny_nextOf_list_end hh p r v q⟩
theorem feed_tup {pr : Program} {wd : World} {it l : Addr} {xs : Array Value} : Feed pr wd it l (fun i h => h.IsTupleIter it l i) (fun h => h.IsTuple l xs) (fun i => xs[i]?) :=
  ⟨fun p e n => p.extBut e n, fun r e n => r.extBut e n, fun p r v q => RZ.nextOf_tuple_item p r v q, fun hh p r v q => RZ.nextOf_tuple_end hh p r v q⟩
section
variable {pr : Program} {wd : World} {A : Around} {E : Value → Shared → Prop} {u : Shared} {z TI TO j1 j2 l1 l2 : Addr} {P1 P2 : Nat → Heap → Prop} {R1 R2 : Heap → Prop} {t1 t2 : Nat → Option Value}
theorem _root_.PySem.Heap.SameBut.other {g h : Heap} {b c : Addr} {o : Obj} (e : Heap.SameBut b g h) (n : c ≠ b) (k : g.get? c = some o) : h.get? c = some o := e.extBut _ _ n k
theorem feeds_next {i : Nat} {x y a b : Value} {Q : Value → Shared → Prop} (f1 : Feed pr wd j1 l1 P1 R1 t1) (f2 : Feed pr wd j2 l2 P2 R2 t2) (D : ZipApart z TI TO j1 j2 l1 l2) (kz : IsZip u.heap z TI TO .none) (ki : IsPair u.heap TI (.ref j1) (.ref j2)) (ko : IsPair u.heap TO a b)
    (p1 : P1 i u.heap) (p2 : P2 i u.heap) (r1 : R1 u.heap) (r2 : R2 u.heap) (e1 : t1 i = some x) (e2 : t2 i = some y)
    (q : ∀ g, IsZip g z TI TO (rawInt u.heap.objs.size) → IsPair g TO x y → P1 (i + 1) g → P2 (i + 1) g → IsPair g u.heap.objs.size x y → g.objs.size = u.heap.objs.size + 1 → (∀ c o, c ≠ z → c ≠ TO → c ≠ j1 → c ≠ j2 → u.heap.get? c = some o → g.get? c = some o) → Q (.ref u.heap.objs.size) { u with heap := g }) :
    wpAny (model pr wd) A (Builtin.«zip.__next__» ⟨[.ref z], []⟩) (fun fin t => ∃ v, fin = .done (.ret v) ∧ Q v t) E u := by
  show wpAny _ _ (field (.ref z) 2 >>= _) _ _ _
  refine wpAny_bind (wpAny_field kz rfl (x := .bool false) rfl (wpAny_bind (wpAny_field kz rfl (x := .ref TI) rfl (wpAny_bind (wpAny_seqItems ki rfl ?_)))))
  refine wpAny_bind (m := Builtin.SmallTypes.ownedTupleIsFree (.ref z)) ?_
  unfold Builtin.SmallTypes.ownedTupleIsFree
  refine wpAny_bind (wpAny_field kz rfl (x := .none) rfl (wpAny_pure ?_))
  simp only [if_true]
  refine wpAny_bind (wpAny_rule (wpAny_bind (wpAny_field kz rfl (x := .ref TO) rfl (wpAny_bind (wpAny_setField_rec kz (by simp) fun g1 kz1 s1 => ?_)))))
  replace kz1 : IsZip g1 z TI TO .ellipsis := kz1
  have s1' := s1.extBut
  refine wpAny_bind ?_
  simp only [List.forIn_cons, List.forIn_nil, List.zipIdx_cons, List.zipIdx_nil]
  refine wpAny_bind (wpAny_bind (wpAny_onRaise (wpAny_bind (m := Builtin.SmallTypes.nextOf (.ref j1)) (f1.next (f1.on p1 s1' D.i1z) (f1.ro r1 s1' D.l1z) e1 fun g2 n1 (s2 : Heap.SameBut j1 g1 g2) => wpAny_pure ?_))))
  have s2' := s2.extBut
  have ko2 : IsPair g2 TO a b := s2.other D.TOi1 (s1.other D.TOz ko)
  refine wpAny_bind (wpAny_seqItems ko2 rfl (wpAny_bind (wpAny_updateSeq_pair ko2 fun g3 ko3 (s3 : Heap.SameBut TO g2 g3) => wpAny_bind (wpAny_letGo (wpAny_pure ?_)))))
  replace ko3 : IsPair g3 TO x b := ko3
  have s3' := s3.extBut
  refine wpAny_bind (wpAny_bind (wpAny_onRaise (wpAny_bind (m := Builtin.SmallTypes.nextOf (.ref j2)) (f2.next (f2.on (f2.on (f2.on p2 s1' D.i2z) s2' D.i12.symm) s3' D.TOi2.symm) (f2.ro (f2.ro (f2.ro r2 s1' D.l2z) s2' D.l2i1) s3' D.l2TO) e2 fun g4 n2 (s4 : Heap.SameBut j2 g3 g4) => wpAny_pure ?_))))
  have s4' := s4.extBut
  have ko4 : IsPair g4 TO x b := s4.other D.TOi2 ko3
  refine wpAny_bind (wpAny_seqItems ko4 rfl (wpAny_bind (wpAny_updateSeq_pair ko4 fun g5 ko5 (s5 : Heap.SameBut TO g4 g5) => wpAny_bind (wpAny_letGo (wpAny_pure (wpAny_pure ?_))))))
  replace ko5 : IsPair g5 TO x y := ko5
  refine wpAny_bind (wpAny_seqItems ko5 rfl (wpAny_bind (wpAny_newTuple ?_)))
  have sz : g5.objs.size = u.heap.objs.size := (s5.1.trans s4.1).trans ((s3.1.trans s2.1).trans s1.1)
  have kz5 : IsZip g5 z TI TO .ellipsis := s5.other D.TOz.symm (s4.other D.i2z.symm (s3.other D.TOz.symm (s2.other D.i1z.symm kz1)))
  have old : ∀ c o, c ≠ z → c ≠ TO → c ≠ j1 → c ≠ j2 → u.heap.get? c = some o → g5.get? c = some o := fun c o c1 c2 c3 c4 k => s5.other c2 (s4.other c4 (s3.other c2 (s2.other c3 (s1.other c1 k))))
  have m1 : P1 (i + 1) g5 := f1.on (f1.on (f1.on n1 s3' D.TOi1.symm) s4' D.i12) s5.extBut D.TOi1.symm
  have m2 : P2 (i + 1) g5 := f2.on n2 s5.extBut D.TOi2.symm
  have zl : z < g5.objs.size := Heap.lt_size kz5
  refine wpAny_bind (m := Builtin.SmallTypes.ownedTupleHandOut (.ref z) (.ref g5.objs.size)) ?_
  unfold Builtin.SmallTypes.ownedTupleHandOut
  have kz6 : IsZip (g5.push { cls := .type "tuple", data := .seq #[x, y] }) z TI TO .ellipsis := Heap.get?_push_of_some _ kz5
  refine wpAny_bind (wpAny_setField_rec kz6 (by simp) fun g7 kz7 s7 => ?_)
  replace kz7 : IsZip g7 z TI TO (rawInt g5.objs.size) := kz7
  refine wpAny_setField_rec kz7 (by simp) fun g8 kz8 s8 => wpAny_pure ⟨_, rfl, ?_⟩
  replace kz8 : IsZip g8 z TI TO (rawInt g5.objs.size) := kz8
  have up : ∀ c o, c ≠ z → (g5.push { cls := .type "tuple", data := .seq #[x, y] }).get? c = some o → g8.get? c = some o := fun c o n k => s8.other n (s7.other n k)
  have s5z : Heap.ExtBut z g5 g8 := fun c o n k => up c o n (Heap.get?_push_of_some _ k)
  have kT : IsPair g8 g5.objs.size x y := up _ _ (Nat.ne_of_gt zl) (Heap.get?_push_size _ rfl)
  have sz8 : g8.objs.size = g5.objs.size + 1 := by rw [s8.1, s7.1, Heap.size_push]
  rw [sz] at kz8 kT sz8
  show Q (.ref g5.objs.size) _
  rw [sz]
  exact q g8 kz8 (s5z _ _ D.TOz ko5) (f1.on m1 s5z D.i1z) (f2.on m2 s5z D.i2z) kT sz8 fun c o c1 c2 c3 c4 k => s5z c o c1 (old c o c1 c2 c3 c4 k)
theorem feeds_end {i : Nat} {a b : Value} {Q : Fin → Shared → Prop} (f1 : Feed pr wd j1 l1 P1 R1 t1) (f2 : Feed pr wd j2 l2 P2 R2 t2) (hh : A.handled = none) (D : ZipApart z TI TO j1 j2 l1 l2) (kz : IsZip u.heap z TI TO .none) (ki : IsPair u.heap TI (.ref j1) (.ref j2)) (ko : IsPair u.heap TO a b)
    (p1 : P1 i u.heap) (p2 : P2 i u.heap) (r1 : R1 u.heap) (r2 : R2 u.heap) (en : t1 i = none ∨ t2 i = none)
    (q : ∀ g e, (∀ c o, c ≠ z → c ≠ TO → c ≠ j1 → c ≠ j2 → u.heap.get? c = some o → g.get? c = some o) → (∃ o, g.get? e = some o ∧ o.cls = .type "StopIteration") → E (.ref e) { u with heap := g }) :
    wpAny (model pr wd) A (Builtin.«zip.__next__» ⟨[.ref z], []⟩) Q E u := by
  show wpAny _ _ (field (.ref z) 2 >>= _) _ _ _
  refine wpAny_bind (wpAny_field kz rfl (x := .bool false) rfl (wpAny_bind (wpAny_field kz rfl (x := .ref TI) rfl (wpAny_bind (wpAny_seqItems ki rfl ?_)))))
  refine wpAny_bind (m := Builtin.SmallTypes.ownedTupleIsFree (.ref z)) ?_
  unfold Builtin.SmallTypes.ownedTupleIsFree
  refine wpAny_bind (wpAny_field kz rfl (x := .none) rfl (wpAny_pure ?_))
  simp only [if_true]
  refine wpAny_bind (wpAny_rule (wpAny_bind (wpAny_field kz rfl (x := .ref TO) rfl (wpAny_bind (wpAny_setField_rec kz (by simp) fun g1 kz1 s1 => ?_)))))
  replace kz1 : IsZip g1 z TI TO .ellipsis := kz1
  have s1' := s1.extBut
  refine wpAny_bind ?_
  simp only [List.forIn_cons, List.forIn_nil, List.zipIdx_cons, List.zipIdx_nil]
  -- behind the end: the zip's mark is taken away, the exception goes on
  have fin : ∀ {g : Heap} {e : Addr}, IsZip g z TI TO .ellipsis → (∀ c o, c ≠ z → c ≠ TO → c ≠ j1 → c ≠ j2 → u.heap.get? c = some o → g.get? c = some o) → (∃ o, g.get? e = some o ∧ o.cls = .type "StopIteration") → ∀ h, Heap.SameBut z g h → E (.ref e) { u with heap := h } := fun {g e} kg old ⟨o, k1, k2⟩ h sh => by
    have ne : e ≠ z := fun w => by
      rw [w, kg] at k1
      cases k1
      simp at k2
    exact q h e (fun c o' c1 c2 c3 c4 k => sh.other c1 (old c o' c1 c2 c3 c4 k)) ⟨o, sh.other ne k1, k2⟩
  cases e1 : t1 i with
  | none =>
    refine wpAny_bind (wpAny_bind (wpAny_onRaise (wpAny_bind (m := Builtin.SmallTypes.nextOf (.ref j1)) (f1.over hh (f1.on p1 s1' D.i1z) (f1.ro r1 s1' D.l1z) e1 fun g2 e (s2 : Heap.ExtBut j1 g1 g2) he => ?_))))
    have kz2 : IsZip g2 z TI TO .ellipsis := s2 _ _ D.i1z.symm kz1
    exact wpAny_setField_rec kz2 (by simp) fun g3 _ s3 => fin kz2 (fun c o c1 _ c3 _ k => s2 _ _ c3 (s1.other c1 k)) he g3 s3
  | some x =>
    have e2 : t2 i = none := en.resolve_left (by rw [e1]; exact fun w => nomatch w)
    refine wpAny_bind (wpAny_bind (wpAny_onRaise (wpAny_bind (m := Builtin.SmallTypes.nextOf (.ref j1)) (f1.next (f1.on p1 s1' D.i1z) (f1.ro r1 s1' D.l1z) e1 fun g2 n1 (s2 : Heap.SameBut j1 g1 g2) => wpAny_pure ?_))))
    have s2' := s2.extBut
    have ko2 : IsPair g2 TO a b := s2.other D.TOi1 (s1.other D.TOz ko)
    refine wpAny_bind (wpAny_seqItems ko2 rfl (wpAny_bind (wpAny_updateSeq_pair ko2 fun g3 ko3 (s3 : Heap.SameBut TO g2 g3) => wpAny_bind (wpAny_letGo (wpAny_pure ?_)))))
    have s3' := s3.extBut
    refine wpAny_bind (wpAny_bind (wpAny_onRaise (wpAny_bind (m := Builtin.SmallTypes.nextOf (.ref j2)) (f2.over hh (f2.on (f2.on (f2.on p2 s1' D.i2z) s2' D.i12.symm) s3' D.TOi2.symm) (f2.ro (f2.ro (f2.ro r2 s1' D.l2z) s2' D.l2i1) s3' D.l2TO) e2 fun g4 e (s4 : Heap.ExtBut j2 g3 g4) he => ?_))))
    have kz4 : IsZip g4 z TI TO .ellipsis := s4 _ _ D.i2z.symm (s3.other D.TOz.symm (s2.other D.i1z.symm kz1))
    exact wpAny_setField_rec kz4 (by simp) fun g5 _ s5 => fin kz4 (fun c o c1 c2 c3 c4 k => s4 _ _ c4 (s3.other c2 (s2.other c3 (s1.other c1 k)))) he g5 s5
theorem py_next {i : Nat} {x y a b : Value} {Q : Option Value → Shared → Prop} (f1 : Feed pr wd j1 l1 P1 R1 t1) (f2 : Feed pr wd j2 l2 P2 R2 t2) (D : ZipApart z TI TO j1 j2 l1 l2) (kz : IsZip u.heap z TI TO .none) (ki : IsPair u.heap TI (.ref j1) (.ref j2)) (ko : IsPair u.heap TO a b)
    (p1 : P1 i u.heap) (p2 : P2 i u.heap) (r1 : R1 u.heap) (r2 : R2 u.heap) (e1 : t1 i = some x) (e2 : t2 i = some y)
    (q : ∀ g, IsZip g z TI TO (rawInt u.heap.objs.size) → IsPair g TO x y → P1 (i + 1) g → P2 (i + 1) g → IsPair g u.heap.objs.size x y → g.objs.size = u.heap.objs.size + 1 → (∀ c o, c ≠ z → c ≠ TO → c ≠ j1 → c ≠ j2 → u.heap.get? c = some o → g.get? c = some o) → Q (some (.ref u.heap.objs.size)) { u with heap := g }) :
    wpAny (model pr wd) A (pyNext (.ref z)) Q E u := by
  have ty : u.TypeIs (.ref z) "zip" := ⟨_, kz, rfl⟩
  unfold pyNext
  refine wpAny_bind (wpAny_attempt (wpAny_callSpecial?_slot (name := Str.ofString "__next__") ty F.slot_zip_next (wpAny_call_entry F.slot_zip_next ty F.entry_zip_next ?_ (F.args_zip_next_1 _))))
  exact feeds_next f1 f2 D kz ki ko p1 p2 r1 r2 e1 e2 fun g a1 a2 a3 a4 a5 a6 a7 => wpAny_pure (q g a1 a2 a3 a4 a5 a6 a7)
theorem py_end {i : Nat} {a b : Value} {Q : Option Value → Shared → Prop} (f1 : Feed pr wd j1 l1 P1 R1 t1) (f2 : Feed pr wd j2 l2 P2 R2 t2) (hh : A.handled = none) (D : ZipApart z TI TO j1 j2 l1 l2) (kz : IsZip u.heap z TI TO .none) (ki : IsPair u.heap TI (.ref j1) (.ref j2)) (ko : IsPair u.heap TO a b)
    (p1 : P1 i u.heap) (p2 : P2 i u.heap) (r1 : R1 u.heap) (r2 : R2 u.heap) (en : t1 i = none ∨ t2 i = none)
    (q : ∀ g, (∀ c o, c ≠ z → c ≠ TO → c ≠ j1 → c ≠ j2 → u.heap.get? c = some o → g.get? c = some o) → Q none { u with heap := g }) : wpAny (model pr wd) A (pyNext (.ref z)) Q E u := by
  have ty : u.TypeIs (.ref z) "zip" := ⟨_, kz, rfl⟩
  unfold pyNext
  refine wpAny_bind (wpAny_attempt (wpAny_callSpecial?_slot (name := Str.ofString "__next__") ty F.slot_zip_next (wpAny_call_entry F.slot_zip_next ty F.entry_zip_next ?_ (F.args_zip_next_1 _))))
  refine feeds_end f1 f2 hh D kz ki ko p1 p2 r1 r2 en fun g e old he => ?_
  obtain ⟨o, ho, hc⟩ := he
  exact wpAny_bind (wpAny_isInstance (T := "StopIteration") (b := true) ⟨o, ho, hc⟩ isSubtype_stop (wpAny_pure (q g old)))
end
def ItzM (K : PySem.W.Frag) (a b : Addr) : It where
  go := fun i H => ∃ (xs ys : List V) (x y : V), SqL K H a xs ∧ SqT K H b ys ∧ xs[i]? = some x ∧ ys[i]? = some y
  yld := fun i H v G => ∃ T x y, v = .ref T ∧ H T = none ∧ G = L2.upd H T (.tup [x, y]) ∧ (∀ xs, SqL K H a xs → xs[i]? = some x) ∧ ∀ ys, SqT K H b ys → ys[i]? = some y
  stop := fun i H => ∃ xs ys : List V, SqL K H a xs ∧ SqT K H b ys ∧ (xs.length ≤ i ∨ ys.length ≤ i)
theorem five {z TI TO j1 j2 c : Addr} (h : c ∈ [z, TI, TO, j1, j2]) : c = z ∨ c = TI ∨ c = TO ∨ c = j1 ∨ c = j2 := by simpa using h
theorem turn_mix {pr : Program} {wd : World} {K : PySem.W.Frag} {es : List Expr} {kk : Nat} {tp : Pos} {a b z TI TO j1 j2 : Addr} (D : ZipApart z TI TO j1 j2 a b) :
    Turn pr wd K (.Tuple es kk tp) (ItzM K a b) [z, TI, TO, j1, j2] z (fun i h => IsZip h z TI TO .none ∧ IsPair h TI (.ref j1) (.ref j2) ∧ (∃ x y, IsPair h TO x y) ∧ h.IsListIter j1 a i ∧ h.IsTupleIter j2 b i) := by
  have out : ∀ {c : Addr}, c ∉ [z, TI, TO, j1, j2] → c ≠ z ∧ c ≠ TO ∧ c ≠ j1 ∧ c ≠ j2 := fun {c} n => ⟨fun e => n (by simp [e]), fun e => n (by simp [e]), fun e => n (by simp [e]), fun e => n (by simp [e])⟩
  refine ⟨List.mem_cons_self, fun i h st c hc => ?_, fun i h g st k => ?_, ?_, ?_, fun A i s Q E st h => wpAny_pyIter_zip st.1 h⟩
  · obtain ⟨kz, ki, ⟨x, y, ko⟩, ⟨o1, e1, _, d1⟩, ⟨o2, e2, _, d2⟩⟩ := st
    rcases five hc with e | e | e | e | e <;> rw [e]
    · exact ⟨_, kz, fun v q => nomatch q⟩
    · exact ⟨_, ki, fun v q => nomatch q⟩
    · exact ⟨_, ko, fun v q => nomatch q⟩
    · exact ⟨o1, e1, fun v q => by rw [d1] at q; cases q⟩
    · exact ⟨o2, e2, fun v q => by rw [d2] at q; cases q⟩
  · obtain ⟨kz, ki, ⟨x, y, ko⟩, w1, w2⟩ := st
    have k' : ∀ {b : Addr} {o : Obj}, b ∈ [z, TI, TO, j1, j2] → h.get? b = some o → g.get? b = some o := fun {b o} m => k b m o
    exact ⟨k' (by simp) kz, k' (by simp) ki, ⟨x, y, k' (by simp) ko⟩, w1.at fun o => k' (by simp), w2.at fun o => k' (by simp)⟩
  · intro X hP hw hK hc i pins s σ H E I hf st hg
    subst hP hw hK
    obtain ⟨kz, ki, ⟨x0, y0, ko⟩, w1, w2⟩ := st
    obtain ⟨xs, ys, x, y, qx, qy, ex, ey⟩ := hg
    obtain ⟨us, rx, px, _⟩ := I.list qx
    obtain ⟨vs, ry, py, _⟩ := I.tuple qy
    obtain ⟨u, eu, ru⟩ := rx.get ex
    obtain ⟨v, ev, rv⟩ := ry.get ey
    have lz : z < s.heap.objs.size := Heap.lt_size kz
    refine py_next (feed_list (xs := us.toArray)) (feed_tup (xs := vs.toArray)) D kz ki ko w1 w2 px.isList py (x := u) (y := v) (by simpa using eu) (by simpa using ev) fun g kz1 ko1 w3 w4 kT sz old => ⟨_, rfl, wpAny_letOwnedTupleGo_zip (s := { s with heap := g }) kz1 fun g2 kz2 sb => ?_⟩
    have new : ObjOk X.prog X.w (L2.upd H s.heap.objs.size (.tup [x, y])) g2 s.heap.objs.size (.tup [x, y]) :=
      ⟨by show 2 ≤ sizeLine; decide, [u, v], .cons ru (.cons rv .nil), ⟨_, (sb.2 _ (Nat.ne_of_gt lz)).trans kT, rfl, _, rfl⟩⟩
    have I1 : Inv X pins σ (L2.upd H s.heap.objs.size (.tup [x, y])) { s with heap := g2 } :=
      I.turnedNew (t' := s.toks) (ch := [z, TI, TO, j1, j2]) (fun c o n q => (sb.2 c (out n).1).trans (old c o (out n).1 (out n).2.1 (out n).2.2.1 (out n).2.2.2 q)) hf (Nat.le_refl _) new
    refine ⟨.ref s.heap.objs.size, _, I1, rfl, ⟨_, x, y, rfl, I.hok.fresh (Nat.le_refl _), rfl, fun l hl => by rw [I.list_inj hl qx]; exact ex, fun l hl => by rw [I.tuple_inj hl qy]; exact ey⟩, ⟨kz2, (sb.2 _ D.TIz).trans (old _ _ D.TIz D.TITO D.TIi1 D.TIi2 ki), ⟨u, v, (sb.2 _ D.TOz).trans ko1⟩, w3.at fun o q => (sb.2 _ D.i1z).trans q, w4.at fun o q => (sb.2 _ D.i2z).trans q⟩, fun c hcm => ?_⟩
    have lt : c < s.heap.objs.size := by
      obtain ⟨_, a1, _⟩ := w1
      obtain ⟨_, a2, _⟩ := w2
      rcases five hcm with q | q | q | q | q <;> rw [q]
      · exact lz
      · exact Heap.lt_size ki
      · exact Heap.lt_size ko
      · exact Heap.lt_size a1
      · exact Heap.lt_size a2
    rw [upd_ne (Nat.ne_of_lt lt)]
    exact (hf c hcm).1
  · intro X hP hw hK hc i pins s σ H E I hf st hg
    subst hP hw hK
    obtain ⟨kz, ki, ⟨x0, y0, ko⟩, w1, w2⟩ := st
    obtain ⟨xs, ys, qx, qy, en⟩ := hg
    obtain ⟨us, rx, px, _⟩ := I.list qx
    obtain ⟨vs, ry, py, _⟩ := I.tuple qy
    have m1 := rx.length
    have m2 := ry.length
    refine py_end (feed_list (xs := us.toArray)) (feed_tup (xs := vs.toArray)) (I.ok.hd hc) D kz ki ko w1 w2 px.isList py (en.imp (fun q => by simp; omega) (fun q => by simp; omega)) fun g old => ⟨rfl, ?_⟩
    exact I.turnedL (t' := s.toks) (ch := [z, TI, TO, j1, j2]) (fun c o n q => old c o (out n).1 (out n).2.1 (out n).2.2.1 (out n).2.2.2 q) hf
abbrev mixH (h : Heap) (l1 l2 : Addr) : Heap :=
  ((((h.push { cls := .type "list_iterator", data := .fields #[.ref l1, .int 0 0] }).push { cls := .type "tuple_iterator", data := .fields #[.ref l2, .int 0 0] }).push
    { cls := .type "tuple", data := .seq #[.ref h.objs.size, .ref (h.push { cls := .type "list_iterator", data := .fields #[.ref l1, .int 0 0] }).objs.size] }).push { cls := .type "tuple", data := .seq #[.none, .none] }).push
    { cls := .type "zip", data := .fields #[.none, .bool false, .bool false, .ref ((h.push { cls := .type "list_iterator", data := .fields #[.ref l1, .int 0 0] }).push { cls := .type "tuple_iterator", data := .fields #[.ref l2, .int 0 0] }).objs.size,
      .ref (((h.push { cls := .type "list_iterator", data := .fields #[.ref l1, .int 0 0] }).push { cls := .type "tuple_iterator", data := .fields #[.ref l2, .int 0 0] }).push
        { cls := .type "tuple", data := .seq #[.ref h.objs.size, .ref (h.push { cls := .type "list_iterator", data := .fields #[.ref l1, .int 0 0] }).objs.size] }).objs.size] }
theorem meets_mix (l1 l2 : Addr) (xs ys : Array Value) :
    Meets (Builtin.«zip.__new__» ⟨[.type "zip", .ref l1, .ref l2], []⟩) (fun _ R s => s.heap.IsList l1 xs ∧ s.heap.IsTuple l2 ys ∧ R (.ok (.ret (.ref (s.heap.objs.size + 4)))) { s with heap := mixH s.heap l1 l2 }) := by
  refine .of_wp fun pr wd A R s h => ?_
  obtain ⟨hp, g, d, tk, os⟩ := s
  obtain ⟨k1, k2, h⟩ := h
  have sz : hp.objs.size + 4 = ((((hp.push { cls := .type "list_iterator", data := .fields #[.ref l1, .int 0 0] }).push { cls := .type "tuple_iterator", data := .fields #[.ref l2, .int 0 0] }).push
    { cls := .type "tuple", data := .seq #[.ref hp.objs.size, .ref (hp.push { cls := .type "list_iterator", data := .fields #[.ref l1, .int 0 0] }).objs.size] }).push { cls := .type "tuple", data := .seq #[.none, .none] }).objs.size := by
    simp only [Heap.size_push]
  have h : R (.ok (.ret (.ref (hp.objs.size + 4)))) ⟨mixH hp l1 l2, g, d, tk, os⟩ := h
  rw [sz] at h
  have sub := sub_zip
  have q1 : Heap.IsList (Shared.heap ⟨hp, g, d, tk, os⟩) l1 xs := k1
  have q2 : Heap.IsTuple (Shared.heap ⟨hp.push { cls := .type "list_iterator", data := .fields #[.ref l1, .int 0 0] }, g, d, tk, os⟩) l2 ys := Heap.IsTuple.push k2 _
  wp_walk using wpAny_pyIter_list q1, wpAny_pyIter_tuple q2
  exact ⟨_, rfl, h⟩
theorem call_mix {pr : Program} {wd : World} {A : Around} {E : Value → Shared → Prop} {u : Shared} {l1 l2 : Addr} {xs ys : Array Value} {Q : Value → Shared → Prop} (k1 : u.heap.IsList l1 xs) (k2 : u.heap.IsTuple l2 ys)
    (q : ∀ g, IsZip g (u.heap.objs.size + 4) (u.heap.objs.size + 2) (u.heap.objs.size + 3) .none → IsPair g (u.heap.objs.size + 2) (.ref u.heap.objs.size) (.ref (u.heap.objs.size + 1)) → IsPair g (u.heap.objs.size + 3) .none .none → g.IsListIter u.heap.objs.size l1 0 → g.IsTupleIter (u.heap.objs.size + 1) l2 0 →
      (∀ c o, u.heap.get? c = some o → g.get? c = some o) → Q (.ref (u.heap.objs.size + 4)) { u with heap := g }) :
    wpAny (model pr wd) A (call (.type "zip") [.ref l1, .ref l2]) Q E u := by
  refine callType_new F.called_zip (by decide) (F.typeCall_zip_2 _ _) (F.newCall_zip_2 _ _) (fun obj => F.args_object_init_3 obj _ _) F.entry_zip_new (meets_mix l1 l2 xs ys) ⟨k1, k2, ?_⟩
  have at4 : (mixH u.heap l1 l2).get? (u.heap.objs.size + 4) = some { cls := .type "zip", data := .fields #[.none, .bool false, .bool false, .ref (u.heap.objs.size + 2), .ref (u.heap.objs.size + 3)] } := by
    have e := Heap.get?_push_size ((((u.heap.push { cls := .type "list_iterator", data := .fields #[.ref l1, .int 0 0] }).push { cls := .type "tuple_iterator", data := .fields #[.ref l2, .int 0 0] }).push
      { cls := .type "tuple", data := .seq #[.ref u.heap.objs.size, .ref (u.heap.objs.size + 1)] }).push { cls := .type "tuple", data := .seq #[.none, .none] }) (o := { cls := .type "zip", data := .fields #[.none, .bool false, .bool false, .ref (u.heap.objs.size + 2), .ref (u.heap.objs.size + 3)] }) rfl
    simp only [Heap.size_push] at e
    simp only [mixH, Heap.size_push]
    exact e
  have at3 : (mixH u.heap l1 l2).get? (u.heap.objs.size + 3) = some { cls := .type "tuple", data := .seq #[.none, .none] } := by
    have e := Heap.get?_push_size (((u.heap.push { cls := .type "list_iterator", data := .fields #[.ref l1, .int 0 0] }).push { cls := .type "tuple_iterator", data := .fields #[.ref l2, .int 0 0] }).push
      { cls := .type "tuple", data := .seq #[.ref u.heap.objs.size, .ref (u.heap.objs.size + 1)] }) (o := { cls := .type "tuple", data := .seq #[.none, .none] }) rfl
    simp only [Heap.size_push] at e
    simp only [mixH, Heap.size_push]
    exact Heap.get?_push_of_some _ e
  have at2 : (mixH u.heap l1 l2).get? (u.heap.objs.size + 2) = some { cls := .type "tuple", data := .seq #[.ref u.heap.objs.size, .ref (u.heap.objs.size + 1)] } := by
    have e := Heap.get?_push_size ((u.heap.push { cls := .type "list_iterator", data := .fields #[.ref l1, .int 0 0] }).push { cls := .type "tuple_iterator", data := .fields #[.ref l2, .int 0 0] }) (o := { cls := .type "tuple", data := .seq #[.ref u.heap.objs.size, .ref (u.heap.objs.size + 1)] }) rfl
    simp only [Heap.size_push] at e
    simp only [mixH, Heap.size_push]
    exact Heap.get?_push_of_some _ (Heap.get?_push_of_some _ e)
  have at1 : (mixH u.heap l1 l2).get? (u.heap.objs.size + 1) = some { cls := .type "tuple_iterator", data := .fields #[.ref l2, .int 0 0] } := by
    have e := Heap.get?_push_size (u.heap.push { cls := .type "list_iterator", data := .fields #[.ref l1, .int 0 0] }) (o := { cls := .type "tuple_iterator", data := .fields #[.ref l2, .int 0 0] }) rfl
    simp only [Heap.size_push] at e
    simp only [mixH, Heap.size_push]
    exact Heap.get?_push_of_some _ (Heap.get?_push_of_some _ (Heap.get?_push_of_some _ e))
  have at0 : (mixH u.heap l1 l2).get? u.heap.objs.size = some { cls := .type "list_iterator", data := .fields #[.ref l1, .int 0 0] } :=
    Heap.get?_push_of_some _ (Heap.get?_push_of_some _ (Heap.get?_push_of_some _ (Heap.get?_push_of_some _ (Heap.get?_push_size _ rfl))))
  exact ⟨⟨_, at4, rfl⟩, q _ at4 at2 at3 ⟨_, at0, rfl, rfl⟩ ⟨_, at1, rfl, rfl⟩ fun c o x => Heap.get?_push_of_some _ (Heap.get?_push_of_some _ (Heap.get?_push_of_some _ (Heap.get?_push_of_some _ (Heap.get?_push_of_some _ x))))⟩
def iZipM (K : PySem.W.Frag) (ta : TA) : TI := fun σ H R => ta σ H fun vs G => ∃ a b xs ys, vs = [.ref a, .ref b] ∧ SqL K G a xs ∧ SqT K G b ys ∧ R (ItzM K a b) G
theorem pi_mix {X : Cx} {e e2 : Expr} {ta : TA} {p pos tp : Pos} {es : List Expr} {kk : Nat} (hg : Gl X "zip") (hm : X.mg "zip" = none) (ha : PA X [e, e2] ta) (hs : starEach [e, e2] X.env = (false, eval e X.env) :: starEach [e2] X.env := by rfl) (hpl : (backTo pos (starEach [e2] X.env)).any (·.1) = false := by rfl) :
    PI X (.Tuple es kk tp) (.Call (.Name "zip" p) [e, e2] [] pos) (iZipM X.K ta) := by
  refine ⟨fun pn s σ H R I h => Call_ (ld_blt I hg hm PyProof.Rows.boot_zip (PyProof.Rows.callWith_type1 (thn (ha.run pos pn s σ H _ I h) fun us t ⟨vs, G, I1, rs, q⟩ => ?_) hs hpl))⟩
  obtain ⟨a, b, xs, ys, rfl, qx, qy, q⟩ := q
  obtain _ | ⟨r1, _ | ⟨r2, _ | _⟩⟩ := rs
  cases r1
  cases r2
  obtain ⟨us, rx, px, _⟩ := I1.list qx
  obtain ⟨vs, ry, py, _⟩ := I1.tuple qy
  obtain ⟨o2, ho2, _⟩ := id py
  refine call_mix px.isList (show t.heap.IsTuple b vs.toArray from py) fun g kz ki ko w1 w2 old => wpAny_pyIter_zip kz ?_
  refine ⟨t.heap.objs.size + 4, [t.heap.objs.size + 4, t.heap.objs.size + 2, t.heap.objs.size + 3, t.heap.objs.size, t.heap.objs.size + 1], _, _, G, rfl, I1.kept (t' := t.toks) old, turn_mix (PySem.W.ktu_apart t.heap.objs.size a b px.lt (Heap.lt_size ho2)), ⟨kz, ki, ⟨_, _, ko⟩, w1, w2⟩, fun c hc => ?_, q⟩
  have le : t.heap.objs.size ≤ c := by
    rcases five hc with w | w | w | w | w <;> rw [w] <;> omega
  exact I1.fpOk le (I1.hok.fresh le)
theorem walk_mix {K : PySem.W.Frag} {a b : Addr} {xs ys : List V} {n : Nat} (hn : n = min xs.length ys.length) : Walk (ItzM K a b) n (fun H => SqL K H a xs ∧ SqT K H b ys) (YPair (fun i => xs[i]?) (fun i => ys[i]?)) := by
  subst hn
  refine ⟨fun i _ hi q => ?_, fun _ q => ⟨xs, ys, q.1, q.2, ?_⟩, fun i H v G _ q y => ?_⟩
  · have h1 : i < xs.length := Nat.lt_of_lt_of_le hi (Nat.min_le_left _ _)
    have h2 : i < ys.length := Nat.lt_of_lt_of_le hi (Nat.min_le_right _ _)
    exact ⟨xs, ys, xs[i], ys[i], q.1, q.2, List.getElem?_eq_getElem h1, List.getElem?_eq_getElem h2⟩
  · rcases Nat.le_total xs.length ys.length with w | w
    · exact .inl (by rw [Nat.min_eq_left w]; exact Nat.le_refl _)
    · exact .inr (by rw [Nat.min_eq_right w]; exact Nat.le_refl _)
  · obtain ⟨T, x, z, h1, h2, h3, h4, h5⟩ := y
    exact ⟨T, x, z, h1, h2, h3, h4 xs q.1, h5 ys q.2⟩
end TW

set_option Elab.async false
set_option linter.all false
set_option maxRecDepth 100000
set_option maxHeartbeats 4000000
namespace TW
open PySem PySem.Spec PyProof.Rows L2
variable [TabT]

def yields : Sum V (V × V) → Hp → V → Hp → Prop
  | .inl v, H, x, H' => H' = H ∧ x = v
  | .inr p, H, x, H' => ∃ t, x = .ref t ∧ H t = none ∧ H' = L2.upd H t (.tup [p.1, p.2])
def reprI (W : Wd) (H : Hp) (O : Addr → Prop) : Sum V (V × V) → D → Prop
  | .inl v, d => Rp W H O d v
  | .inr p, d => ∃ a b, d = .tup [a, b] ∧ Rp W H O a p.1 ∧ Rp W H O b p.2
structure Src (W : Wd) (H : Hp) (O : Addr → Prop) (ds : List D) (J : It) : Prop where
  ex : ∃ (G : Hp → Prop) (Y : Nat → Hp → V → Hp → Prop) (A : List Addr), Walk J ds.length G Y ∧ ds.length ≤ sizeLine ∧ (∀ a ∈ A, ∃ o, H a = some o ∧ (MutC o → ¬ O a)) ∧ (∀ H', (∀ a ∈ A, ∀ o, H a = some o → (∀ ps, o ≠ .tbl ps) → H' a = some o) → G H') ∧
    ∀ (i : Nat) d, ds[i]? = some d → ∃ z, (∀ H1 x H2, Y i H1 x H2 → yields z H1 x H2) ∧ reprI W H O z d
def rdI (W : Wd) (E0 : XK) (T : Tb) (s : Sr) : TI := fun σ H R => ∃ H0 O0 δ Fs, SS W H0 O0 H σ δ Fs ∧ match evS T s δ with
  | none => False
  | some (.er C) => ∀ H', Same H H' → E0 (.ref (W.ca C)) none H'
  | some (.ok p) => ∀ J H1, Same H H1 → Src W H1 (av O0 Fs (if p.1 = .dp then [] else nmS s)) p.2 J → R J H1
section
variable {W : Wd} {E0 : XK} {T : Tb} {X : Cx}
theorem _root_.L2.PI.imp {X : Cx} {tg iter : Expr} {t t' : TI} (h : PI X tg iter t) (k : ∀ σ H R, t' σ H R → t σ H R) : PI X tg iter t' := ⟨fun pins s σ H R I q => h.run pins s σ H R I (k σ H R q)⟩
theorem PI_or {tg iter : Expr} {t t' : TI} (h : PI X tg iter t) (h' : PI X tg iter t') : PI X tg iter (fun σ H R => t σ H R ∨ t' σ H R) := ⟨fun pins s σ H R I q => q.elim (h.run pins s σ H R I) (h'.run pins s σ H R I)⟩
theorem Ow.seen {H H1 H0 : Hp} {O0 : Addr → Prop} {σ : L2.St} {δ : Dn} {Fs : List (List Addr)} {p : Md × D} {v : V} {F : List Addr} {c : E} {ns : List Nat} (S : SS W H0 O0 H σ δ Fs) (n : ∀ a ∈ F, H a = none) (hn : ∀ i ∈ nm c, i ∈ ns)
    (ow : Ow W H1 (fun q => av O0 Fs (nm c) q ∨ q ∈ F) p.1 p.2 v F) : Rp W H1 (av O0 Fs (if p.1 = .dp then [] else ns)) p.2 v := by
  split
  · rename_i e
    rw [e] at ow
    exact Dq.rp _ _ _ ow fun a ha z => S.av_there a z (n a ha)
  · exact ow.rpv (av_mono hn) S.av_there n
theorem src_list {H : Hp} {O : Addr → Prop} {K : PySem.W.Frag} {a : Addr} {vs : List V} {ds : List D} (A : List Addr) (hA : ∀ b ∈ A, ∃ o, H b = some o ∧ (MutC o → ¬ O b)) (hq : ∀ H', (∀ b ∈ A, ∀ o, H b = some o → (∀ ps, o ≠ .tbl ps) → H' b = some o) → SqL K H' a vs) (hl : vs.length ≤ sizeLine) (r : Rps W H O ds vs) : Src W H O ds (Itl K a) := by
  have e := Rps.length _ _ r
  refine ⟨⟨_, YAt vs, A, e ▸ walk_list (K := K) (a := a) (xs := vs), by rw [← e]; exact hl, hA, hq, fun i d hi => ?_⟩⟩
  obtain ⟨v, h1, h2⟩ := r.get hi
  refine ⟨.inl v, fun H1 x H2 y => ⟨y.1, ?_⟩, h2⟩
  have := y.2
  rw [h1] at this
  exact (Option.some.inj this).symm
theorem src_tup {H : Hp} {O : Addr → Prop} {K : PySem.W.Frag} {a : Addr} {vs : List V} {ds : List D} (A : List Addr) (hA : ∀ b ∈ A, ∃ o, H b = some o ∧ (MutC o → ¬ O b)) (hq : ∀ H', (∀ b ∈ A, ∀ o, H b = some o → (∀ ps, o ≠ .tbl ps) → H' b = some o) → SqT K H' a vs) (hl : vs.length ≤ sizeLine) (r : Rps W H O ds vs) : Src W H O ds (Itt K a) := by
  have e := Rps.length _ _ r
  refine ⟨⟨_, YAt vs, A, e ▸ walk_tup (K := K) (a := a) (xs := vs), by rw [← e]; exact hl, hA, hq, fun i d hi => ?_⟩⟩
  obtain ⟨v, h1, h2⟩ := r.get hi
  refine ⟨.inl v, fun H1 x H2 y => ⟨y.1, ?_⟩, h2⟩
  have := y.2
  rw [h1] at this
  exact (Option.some.inj this).symm
theorem src_of_list {H : Hp} {O : Addr → Prop} {d : D} {ds : List D} {v : V} (hK : X.K = W.K) (e : listD d = some ds) (r : Rp W H O d v) : ∃ a, v = .ref a ∧ (∃ xs, SqL X.K H a xs) ∧ Src W H O ds (Itl X.K a) := by
  cases d with
  | lst xs =>
    cases e
    obtain ⟨a, vs, rfl, h0, h1, h2, h3⟩ := r
    exact ⟨a, rfl, ⟨vs, .inl (.inl h1)⟩, src_list [a] (fun b hb => by rw [List.mem_singleton.mp hb]; exact ⟨_, h1, fun _ => h0⟩) (fun H' k => .inl (.inl (k a (by simp) _ h1 (by intro ps z; cases z)))) h2 h3⟩
  | scr ns =>
    cases e
    obtain ⟨a, rfl, h1, h2⟩ := r
    rcases h1 with ⟨o, h1⟩ | h1
    · exact ⟨a, rfl, ⟨_, .inl (.inr ⟨o, h1⟩)⟩, src_list [a] (fun b hb => by rw [List.mem_singleton.mp hb]; exact ⟨_, h1, fun z => z.elim⟩) (fun H' k => .inl (.inr ⟨o, k a (by simp) _ h1 (by intro ps z; cases z)⟩)) (by simpa using h2) (Rps.ints ns)⟩
    · exact ⟨a, rfl, ⟨_, .inr (by rw [hK]; exact h1)⟩, src_list [] (fun _ z => by cases z) (fun H' k => .inr (by rw [hK]; exact h1)) (by simpa using h2) (Rps.ints ns)⟩
  | _ => cases e
theorem i_seq {tg e : Expr} {c : E} (hK : X.K = W.K) (h : PE X e (rdE W E0 T c)) : PI X tg e (rdI W E0 T (.seq c)) :=
  (PI_or (pi_list h) (pi_tup h)).imp fun σ H R ⟨H0, O0, δ, Fs, S, q⟩ => by
    simp only [evS] at q
    cases e1 : ev T c δ with
    | none => rw [e1] at q; exact q.elim
    | some r =>
      cases r with
      | er C => exact .inl ⟨H0, O0, δ, Fs, S, by rw [e1] at q ⊢; exact q⟩
      | ok p =>
        rw [e1] at q
        cases e2 : itemsD p.2 with
        | none =>
          have q : (match lift ((itemsD p.2).map fun ds => (p.1, ds)) with | none => False | some (.er C) => _ | some (.ok p) => _) := q
          rw [e2] at q
          exact q.elim
        | some ds =>
          have q : (match lift ((itemsD p.2).map fun ds => (p.1, ds)) with | none => False | some (.er C) => ∀ H', Same H H' → E0 (.ref (W.ca C)) none H' | some (.ok p) => ∀ J H1, Same H H1 → Src W H1 (av O0 Fs (if p.1 = .dp then [] else nm c)) p.2 J → R J H1) := q
          rw [e2] at q
          have q : ∀ J H1, Same H H1 → Src W H1 (av O0 Fs (if p.1 = .dp then [] else nm c)) ds J → R J H1 := q
          cases e3 : listD p.2 with
          | some ds' =>
            refine .inl ⟨H0, O0, δ, Fs, S, ?_⟩
            rw [e1]
            intro v H1 F s1 n1 nd1 ow1
            have r := Ow.seen S n1 (ns := nm c) (fun i hi => hi) ow1
            have ed : ds' = ds := by
              cases hp : p.2 <;> rw [hp] at e2 e3 <;> first | (cases e3; done) | (cases e2; cases e3; rfl)
            rw [ed] at e3
            obtain ⟨a, g1, g2, g3⟩ := src_of_list hK e3 r
            exact ⟨a, g1, g2, q _ H1 s1 g3⟩
          | none =>
            refine .inr ⟨H0, O0, δ, Fs, S, ?_⟩
            rw [e1]
            intro v H1 F s1 n1 nd1 ow1
            have r := Ow.seen S n1 (ns := nm c) (fun i hi => hi) ow1
            cases hp : p.2 with
            | tup xs =>
              rw [hp] at e2 r
              cases e2
              obtain ⟨a, vs, rfl, h1, h2, h3⟩ := r
              exact ⟨a, rfl, ⟨vs, .inl (.inl h1)⟩, q _ H1 s1 (src_tup [a] (fun b hb => by rw [List.mem_singleton.mp hb]; exact ⟨_, h1, fun z => z.elim⟩) (fun H' k => .inl (.inl (k a (by simp) _ h1 (by intro ps z; cases z)))) h2 h3)⟩
            | _ => rw [hp] at e2 e3; first | (cases e2; done) | (cases e3; done)
theorem src_rng {H : Hp} {O : Addr → Prop} {i j : Int} (h : rngOk i j = true) : Src W H O (rngD i j) (Itr i (j - i).toNat) := by
  have hl : (rngD i j).length = (j - i).toNat := by unfold rngD; rw [List.length_map, List.length_range]
  have hw : Walk (Itr i (j - i).toNat) (rngD i j).length (fun _ => True) (YFn fun k => .int (i + k)) := by
    rw [hl]
    exact walk_range
  refine ⟨⟨fun _ => True, YFn fun k => .int (i + k), [], hw, ?_, fun _ z => ?_, fun _ _ => trivial, fun k d hd => ⟨.inl (.int (i + k)), fun H1 x H2 y => y, ?_⟩⟩⟩
  · rw [hl]
    exact Nat.le_trans (rngOk_of h).2 sz_le
  · cases z
  · unfold rngD at hd
    rw [List.getElem?_map] at hd
    cases e : (List.range (j - i).toNat)[k]? with
    | none => rw [e] at hd; cases hd
    | some m =>
      rw [e] at hd
      cases hd
      have : m = k := by
        obtain ⟨hm, e2⟩ := List.getElem?_eq_some_iff.mp e
        rw [List.getElem_range] at e2
        exact e2.symm
      subst this
      rfl
theorem i_rng1 {tg a : Expr} {c : E} {p pos : Pos} (hg : Gl X "range") (hm : X.mg "range" = none) (ha : PE X a (rdE W E0 T c)) (hs : starEach [a] X.env = [(false, eval a X.env)] := by rfl) : PI X tg (.Call (.Name "range" p) [a] [] pos) (rdI W E0 T (.rng (.lit (.int 0)) c)) :=
  (pi_range1 (ta := tCons (rdE W E0 T c) tNil) hg hm (pa_cons ha pa_nil hs) hs).imp fun σ H R ⟨H0, O0, δ, Fs, S, q⟩ => by
    simp only [evS, ev] at q
    rw [if_pos (show scal (.int 0) = true from rfl)] at q
    refine ⟨H0, O0, δ, Fs, S, ?_⟩
    revert q
    cases ev T c δ with
    | none => exact fun h => h
    | some r =>
      cases r with
      | er C => exact fun h => h
      | ok p =>
        intro q v H1 F s1 n1 nd1 ow1
        have r := ow1.rpv (O1 := fun _ => False) (fun _ z => z.elim) (fun _ z => z.elim) n1
        have q : (match (match D.int 0, p.2 with | .int i, .int j => if rngOk i j = true then ok (Md.dp, rngD i j) else none | _, _ => none) with | none => False | some (.er C) => ∀ H', Same H H' → E0 (.ref (W.ca C)) none H' | some (.ok p) => ∀ J H1, Same H H1 → Src W H1 (av O0 Fs (if p.1 = .dp then [] else nmS (.rng (.lit (.int 0)) c))) p.2 J → R J H1) := q
        cases hp : p.2 with
        | int j =>
          rw [hp] at r q
          dsimp only at q
          cases hz : rngOk 0 j with
          | false => rw [hz] at q; exact q.elim
          | true =>
            rw [hz] at q
            obtain ⟨g1, g2, g3, g4, g5⟩ := (rngOk_of hz).1
            have e := q (Itr 0 (j - 0).toNat) H1 s1 (src_rng hz)
            rw [Int.sub_zero] at e
            exact ⟨j, by rw [show v = .int j from r], g3, g4, e⟩
        | _ => rw [hp] at q; exact q.elim
theorem i_rng2 {tg a b : Expr} {ca cb : E} {p pos : Pos} (hg : Gl X "range") (hm : X.mg "range" = none) (ha : PE X a (rdE W E0 T ca)) (hb : PE X b (rdE W E0 T cb)) (hs : starEach [a, b] X.env = [(false, eval a X.env), (false, eval b X.env)] := by rfl) (hs2 : starEach [b] X.env = [(false, eval b X.env)] := by rfl) :
    PI X tg (.Call (.Name "range" p) [a, b] [] pos) (rdI W E0 T (.rng ca cb)) :=
  (pi_range2 (ta := tCons (rdE W E0 T ca) (tCons (rdE W E0 T cb) tNil)) hg hm (pa_cons ha (pa_cons hb pa_nil hs2) (by rw [hs, hs2])) hs hs2).imp fun σ H R ⟨H0, O0, δ, Fs, S, q⟩ => by
    simp only [evS] at q
    refine ⟨H0, O0, δ, Fs, S, ?_⟩
    revert q
    cases ev T ca δ with
    | none => exact fun h => h
    | some r =>
      cases r with
      | er C => exact fun h => h
      | ok p =>
        intro q v H1 F s1 n1 nd1 ow1
        have r1 := ow1.rpv (O1 := fun _ => False) (fun _ z => z.elim) (fun _ z => z.elim) n1
        have S1 := S.grow s1
        refine ⟨H0, O0, δ, Fs, S1, ?_⟩
        revert q
        cases ev T cb δ with
        | none => exact fun h => h
        | some r =>
          cases r with
          | er C => exact fun h H' s' => h H' (s1.trans s')
          | ok p2 =>
            intro q v2 H2 F2 s2 n2 nd2 ow2
            have r2 := ow2.rpv (O1 := fun _ => False) (fun _ z => z.elim) (fun _ z => z.elim) n2
            have q : (match (match p.2, p2.2 with | .int i, .int j => if rngOk i j = true then ok (Md.dp, rngD i j) else none | _, _ => none) with | none => False | some (.er C) => ∀ H', Same H H' → E0 (.ref (W.ca C)) none H' | some (.ok p) => ∀ J H1, Same H H1 → Src W H1 (av O0 Fs (if p.1 = .dp then [] else nmS (.rng ca cb))) p.2 J → R J H1) := q
            cases hp : p.2 with
            | int i =>
              cases hp2 : p2.2 with
              | int j =>
                rw [hp] at r1 q
                rw [hp2] at r2 q
                dsimp only at q
                cases hz : rngOk i j with
                | false => rw [hz] at q; exact q.elim
                | true =>
                  rw [hz] at q
                  obtain ⟨g1, g2, g3, g4, g5⟩ := (rngOk_of hz).1
                  exact ⟨i, j, by rw [show v = .int i from r1, show v2 = .int j from r2], ⟨g1, g2, g3, g4⟩, q _ H2 (s1.trans s2) (src_rng hz)⟩
              | _ => rw [hp, hp2] at q; exact q.elim
            | _ => rw [hp] at q; exact q.elim
theorem enuD_get : ∀ (ds : List D) (n i : Nat) (d : D), (enuD n ds)[i]? = some d → ∃ x, ds[i]? = some x ∧ d = .tup [.int ((n + i : Nat) : Int), x]
  | [], n, i, d, h => by simp [enuD] at h
  | x :: r, n, 0, d, h => by
    simp [enuD] at h
    exact ⟨x, rfl, h.symm⟩
  | x :: r, n, i + 1, d, h => by
    simp only [enuD, List.getElem?_cons_succ] at h
    obtain ⟨y, h1, h2⟩ := enuD_get r (n + 1) i d h
    exact ⟨y, by simpa using h1, by rw [h2, show n + 1 + i = n + (i + 1) by omega]⟩
theorem enuD_len : ∀ (ds : List D) (n : Nat), (enuD n ds).length = ds.length
  | [], n => rfl
  | x :: r, n => by simp only [enuD, List.length_cons, enuD_len r]
theorem i_enu {e : Expr} {c : E} {p pos tpos : Pos} {elts : List Expr} {kk : Nat} (hg : Gl X "enumerate") (hm : X.mg "enumerate" = none) (ha : PE X e (rdE W E0 T c)) (hs : starEach [e] X.env = [(false, eval e X.env)] := by rfl) :
    PI X (.Tuple elts kk tpos) (.Call (.Name "enumerate" p) [e] [] pos) (rdI W E0 T (.enu c)) :=
  (pi_enum (ta := tCons (rdE W E0 T c) tNil) hg hm (pa_cons ha pa_nil hs) hs).imp fun σ H R ⟨H0, O0, δ, Fs, S, q⟩ => by
    simp only [evS] at q
    refine ⟨H0, O0, δ, Fs, S, ?_⟩
    revert q
    cases ev T c δ with
    | none => exact fun h => h
    | some r =>
      cases r with
      | er C => exact fun h => h
      | ok p =>
        intro q v H1 F s1 n1 nd1 ow1
        have r := Ow.seen S n1 (ns := nm c) (fun i hi => hi) ow1
        have q : (match (match p.2 with | .lst ds => ok (p.1, enuD 0 ds) | _ => none) with | none => False | some (.er C) => ∀ H', Same H H' → E0 (.ref (W.ca C)) none H' | some (.ok p) => ∀ J H1, Same H H1 → Src W H1 (av O0 Fs (if p.1 = .dp then [] else nm c)) p.2 J → R J H1) := q
        cases hp : p.2 with
        | lst ds =>
          rw [hp] at q r
          obtain ⟨a, vs, rfl, h0, h1, h2, h3⟩ := r
          refine ⟨a, vs, rfl, .inl (.inl h1), q (Ite X.K a) H1 s1 ⟨⟨fun H => SqL X.K H a vs, YPair (fun i => some (.int (i : Nat))) (fun i => vs[i]?), [a], ?_, ?_, fun b hb => ?_, fun H' k => ?_, fun i d hd => ?_⟩⟩⟩
          · have := walk_enum (K := X.K) (a := a) (xs := vs)
            rw [Rps.length _ _ h3] at this
            rw [enuD_len]
            exact this
          · rw [enuD_len, ← Rps.length _ _ h3]
            exact h2
          · rw [List.mem_singleton.mp hb]
            exact ⟨_, h1, fun _ => h0⟩
          · exact .inl (.inl (k a (by simp) _ h1 (by intro ps z; cases z)))
          · obtain ⟨x, e1, e2⟩ := enuD_get ds 0 i d hd
            obtain ⟨w, e3, e4⟩ := h3.get e1
            refine ⟨.inr (.int (i : Nat), w), fun H1 x H2 y => ?_, .int (i : Nat), x, ?_, rfl, e4⟩
            · obtain ⟨t, x1, x2, rfl, y1, y2, y3, y4⟩ := y
              have y4 : vs[i]? = some x2 := y4
              cases y3
              rw [e3] at y4
              cases y4
              exact ⟨t, rfl, y1, y2⟩
            · rw [e2, Nat.zero_add]
        | _ => rw [hp] at q; exact q.elim
theorem zipD_get : ∀ (xs ys : List D) (i : Nat) (d : D), (zipD xs ys)[i]? = some d → ∃ x y, xs[i]? = some x ∧ ys[i]? = some y ∧ d = .tup [x, y]
  | [], ys, i, d, h => by simp [zipD] at h
  | x :: r, [], i, d, h => by simp [zipD] at h
  | x :: r, y :: s, 0, d, h => by
    simp [zipD] at h
    exact ⟨x, y, rfl, rfl, h.symm⟩
  | x :: r, y :: s, i + 1, d, h => by
    simp only [zipD, List.getElem?_cons_succ] at h
    obtain ⟨a, b, h1, h2, h3⟩ := zipD_get r s i d h
    exact ⟨a, b, by simpa using h1, by simpa using h2, h3⟩
theorem zipD_len : ∀ (xs ys : List D), (zipD xs ys).length = min xs.length ys.length
  | [], ys => by simp [zipD]
  | x :: r, [] => by simp [zipD]
  | x :: r, y :: s => by
    simp only [zipD, List.length_cons, zipD_len r s]
    omega
theorem i_zip {a b : Expr} {ca cb : E} {p pos tpos : Pos} {elts : List Expr} {kk : Nat} (hg : Gl X "zip") (hm : X.mg "zip" = none) (ha : PE X a (rdE W E0 T ca)) (hb : PE X b (rdE W E0 T cb))
    (hs : starEach [a, b] X.env = (false, eval a X.env) :: starEach [b] X.env := by rfl) (hs2 : starEach [b] X.env = (false, eval b X.env) :: starEach [] X.env := by rfl) (hpl : (backTo pos (starEach [b] X.env)).any (·.1) = false := by rfl) :
    PI X (.Tuple elts kk tpos) (.Call (.Name "zip" p) [a, b] [] pos) (rdI W E0 T (.zip ca cb)) :=
  (PI_or (pi_zip (ta := tCons (rdE W E0 T ca) (tCons (rdE W E0 T cb) tNil)) hg hm (pa_cons ha (pa_cons hb pa_nil hs2) hs) hs hpl) (pi_mix (ta := tCons (rdE W E0 T ca) (tCons (rdE W E0 T cb) tNil)) hg hm (pa_cons ha (pa_cons hb pa_nil hs2) hs) hs hpl)).imp fun σ H R ⟨H0, O0, δ, Fs, S, q⟩ => by
    simp only [evS] at q
    by_cases ht : ∃ m ys, ev T cb δ = some (.ok (m, .tup ys))
    · refine .inr ⟨H0, O0, δ, Fs, S, ?_⟩
      revert q
      cases ev T ca δ with
      | none => exact fun h => h
      | some r =>
        cases r with
        | er C => exact fun h => h
        | ok p =>
          intro q v H1 F s1 n1 nd1 ow1
          have ia : ∀ i ∈ nm ca, i ∈ nmS (.zip ca cb) := fun i hi => by simp [nmS, hi]
          have ib : ∀ i ∈ nm cb, i ∈ nmS (.zip ca cb) := fun i hi => by simp [nmS, hi]
          have r1 := ow1.rpv (av_mono ia) S.av_there n1
          have S1 := S.grow s1
          refine ⟨H0, O0, δ, Fs, S1, ?_⟩
          revert q
          cases ecb : ev T cb δ with
          | none => exact fun h => h
          | some r =>
            cases r with
            | er C => exact fun h H' s' => h H' (s1.trans s')
            | ok p2 =>
              intro q v2 H2 F2 s2 n2 nd2 ow2
              have r2 := ow2.rpv (av_mono ib) S1.av_there n2
              have r1 := Rp.mono s2 (fun _ z => z) _ _ r1
              have q : (match (match p.2, p2.2 with | .lst xs, .lst ys => ok (Md.sh, zipD xs ys) | .lst xs, .tup ys => ok (Md.sh, zipD xs ys) | _, _ => none) with | none => False | some (.er C) => ∀ H', Same H H' → E0 (.ref (W.ca C)) none H' | some (.ok p) => ∀ J H1, Same H H1 → Src W H1 (av O0 Fs (if p.1 = .dp then [] else nmS (.zip ca cb))) p.2 J → R J H1) := q
              cases hp : p.2 with
              | lst xs =>
                cases hp2 : p2.2 with
                | tup ys =>
                  rw [hp] at r1 q
                  rw [hp2] at r2 q
                  obtain ⟨a, vs, rfl, h0, h1, h2, h3⟩ := r1
                  obtain ⟨b, ws, rfl, g1, g2, g3⟩ := r2
                  refine ⟨a, b, vs, ws, rfl, .inl (.inl h1), .inl (.inl g1), q (ItzM X.K a b) H2 (s1.trans s2) ⟨⟨fun H => SqL X.K H a vs ∧ SqT X.K H b ws, YPair (fun i => vs[i]?) (fun i => ws[i]?), [a, b], ?_, ?_, fun c hc => ?_, fun H' k => ?_, fun i d hd => ?_⟩⟩⟩
                  · refine walk_mix ?_
                    rw [zipD_len, Rps.length _ _ h3, Rps.length _ _ g3]
                  · rw [zipD_len, ← Rps.length _ _ h3]
                    omega
                  · rcases List.mem_cons.mp hc with rfl | hc
                    · exact ⟨_, h1, fun _ => h0⟩
                    · rw [List.mem_singleton.mp hc]
                      exact ⟨_, g1, fun m => m.elim⟩
                  · exact ⟨.inl (.inl (k a (by simp) _ h1 (by intro ps z; cases z))), .inl (.inl (k b (by simp) _ g1 (by intro ps z; cases z)))⟩
                  · obtain ⟨x, y, e1, e2, e3⟩ := zipD_get xs ys i d hd
                    obtain ⟨w1, e4, e5⟩ := h3.get e1
                    obtain ⟨w2, e6, e7⟩ := g3.get e2
                    refine ⟨.inr (w1, w2), fun H1 x H2 z => ?_, x, y, e3, e5, e7⟩
                    obtain ⟨t, x1, x2, rfl, y1, y2, y3, y4⟩ := z
                    have y3 : vs[i]? = some x1 := y3
                    have y4 : ws[i]? = some x2 := y4
                    rw [e4] at y3
                    rw [e6] at y4
                    cases y3
                    cases y4
                    exact ⟨t, rfl, y1, y2⟩
                | lst ys =>
                  obtain ⟨m, zs, ez⟩ := ht
                  rw [ecb] at ez
                  have := congrArg Prod.snd (show p2 = (m, .tup zs) by cases ez; rfl)
                  rw [hp2] at this
                  cases this
                | _ => rw [hp, hp2] at q; exact q.elim
              | _ => rw [hp] at q; exact q.elim
    · refine .inl ⟨H0, O0, δ, Fs, S, ?_⟩
      revert q
      cases ev T ca δ with
      | none => exact fun h => h
      | some r =>
        cases r with
        | er C => exact fun h => h
        | ok p =>
          intro q v H1 F s1 n1 nd1 ow1
          have ia : ∀ i ∈ nm ca, i ∈ nmS (.zip ca cb) := fun i hi => by simp [nmS, hi]
          have ib : ∀ i ∈ nm cb, i ∈ nmS (.zip ca cb) := fun i hi => by simp [nmS, hi]
          have r1 := ow1.rpv (av_mono ia) S.av_there n1
          have S1 := S.grow s1
          refine ⟨H0, O0, δ, Fs, S1, ?_⟩
          revert q
          cases ecb : ev T cb δ with
          | none => exact fun h => h
          | some r =>
            cases r with
            | er C => exact fun h H' s' => h H' (s1.trans s')
            | ok p2 =>
              intro q v2 H2 F2 s2 n2 nd2 ow2
              have r2 := ow2.rpv (av_mono ib) S1.av_there n2
              have r1 := Rp.mono s2 (fun _ z => z) _ _ r1
              have q : (match (match p.2, p2.2 with | .lst xs, .lst ys => ok (Md.sh, zipD xs ys) | .lst xs, .tup ys => ok (Md.sh, zipD xs ys) | _, _ => none) with | none => False | some (.er C) => ∀ H', Same H H' → E0 (.ref (W.ca C)) none H' | some (.ok p) => ∀ J H1, Same H H1 → Src W H1 (av O0 Fs (if p.1 = .dp then [] else nmS (.zip ca cb))) p.2 J → R J H1) := q
              cases hp : p.2 with
              | lst xs =>
                cases hp2 : p2.2 with
                | lst ys =>
                  rw [hp] at r1 q
                  rw [hp2] at r2 q
                  obtain ⟨a, vs, rfl, h0, h1, h2, h3⟩ := r1
                  obtain ⟨b, ws, rfl, g0, g1, g2, g3⟩ := r2
                  refine ⟨a, b, vs, ws, rfl, .inl (.inl h1), .inl (.inl g1), q (Itz X.K a b) H2 (s1.trans s2) ⟨⟨fun H => SqL X.K H a vs ∧ SqL X.K H b ws, YPair (fun i => vs[i]?) (fun i => ws[i]?), [a, b], ?_, ?_, fun c hc => ?_, fun H' k => ?_, fun i d hd => ?_⟩⟩⟩
                  · refine walk_zip ?_
                    rw [zipD_len, Rps.length _ _ h3, Rps.length _ _ g3]
                  · rw [zipD_len, ← Rps.length _ _ h3]
                    omega
                  · rcases List.mem_cons.mp hc with rfl | hc
                    · exact ⟨_, h1, fun _ => h0⟩
                    · rw [List.mem_singleton.mp hc]
                      exact ⟨_, g1, fun _ => g0⟩
                  · exact ⟨.inl (.inl (k a (by simp) _ h1 (by intro ps z; cases z))), .inl (.inl (k b (by simp) _ g1 (by intro ps z; cases z)))⟩
                  · obtain ⟨x, y, e1, e2, e3⟩ := zipD_get xs ys i d hd
                    obtain ⟨w1, e4, e5⟩ := h3.get e1
                    obtain ⟨w2, e6, e7⟩ := g3.get e2
                    refine ⟨.inr (w1, w2), fun H1 x H2 z => ?_, x, y, e3, e5, e7⟩
                    obtain ⟨t, x1, x2, rfl, y1, y2, y3, y4⟩ := z
                    have y3 : vs[i]? = some x1 := y3
                    have y4 : ws[i]? = some x2 := y4
                    rw [e4] at y3
                    rw [e6] at y4
                    cases y3
                    cases y4
                    exact ⟨t, rfl, y1, y2⟩
                | tup ys => exact absurd ⟨p2.1, ys, by rw [ecb, ← hp2]⟩ ht
                | _ => rw [hp, hp2] at q; exact q.elim
              | _ => rw [hp] at q; exact q.elim
end
end TW

set_option Elab.async false
set_option linter.all false
set_option maxRecDepth 100000
set_option maxHeartbeats 4000000
namespace TW
open PySem PySem.Spec PyProof.Rows L2
variable [TabT]

abbrev EF : XK := fun _ _ _ => False
def maskS (L : List Nat) (j : Nat) (s : Sl) : Sl := if j ∈ L then frzS s else none
def maskF (L : List Nat) : Nat → Dn → Dn
  | _, [] => []
  | k, s :: r => maskS L k s :: maskF L (k + 1) r
theorem maskF_get (L : List Nat) : ∀ (k : Nat) (e : Dn) (j : Nat), (maskF L k e)[j]? = (e[j]?).map (maskS L (k + j))
  | k, [], j => by simp [maskF]
  | k, s :: r, 0 => by simp [maskF]
  | k, s :: r, j + 1 => by
    simp only [maskF, List.getElem?_cons_succ, maskF_get L (k + 1) r j]
    rw [show k + 1 + j = k + (j + 1) by omega]
theorem maskF_len (L : List Nat) : ∀ (k : Nat) (e : Dn), (maskF L k e).length = e.length
  | k, [] => rfl
  | k, s :: r => by simp only [maskF, List.length_cons, maskF_len L (k + 1) r]
theorem mask_agr (L : List Nat) (e : Dn) : Agr L (maskF L 0 e) e := by
  refine ⟨maskF_len L 0 e, fun i hi => ?_⟩
  unfold dat1
  rw [maskF_get, Nat.zero_add]
  cases e[i]? with
  | none => rfl
  | some s =>
    simp only [Option.map_some, maskS, if_pos hi]
    cases s with
    | none => rfl
    | some p => rfl
structure SB (W : Wd) (H : Hp) (O : Addr → Prop) (σ : L2.St) (δ : Dn) : Prop where
  len : δ.length = σ.length
  slot : ∀ (j : Nat) (p : Md × D), δ[j]? = some (some p) → p.1 = .sh ∧ ∃ v, σ[j]? = some (some v) ∧ Rp W H O p.2 v
  old : ∀ a, O a → H a ≠ none
  tb : HT W H
theorem flat_rep (n : Nat) : (List.replicate n ([] : List Addr)).flatten = [] := by
  induction n with
  | zero => rfl
  | succ n ih => rw [List.replicate_succ, List.flatten_cons, ih]; rfl
theorem getD_rep (n i : Nat) : (List.replicate n ([] : List Addr)).getD i [] = [] := by
  rw [List.getD_eq_getElem?_getD, List.getElem?_replicate]
  split <;> rfl
section
variable {W : Wd} {H H' : Hp} {O : Addr → Prop} {σ : L2.St} {δ : Dn}
theorem SB.ss (s : SB W H O σ δ) : SS W H O H σ δ (List.replicate σ.length []) := by
  refine ⟨Same.refl H, s.len, by simp, fun i p e => ?_, by rw [flat_rep]; exact List.nodup_nil, fun a ha => ?_, fun a _ ha => ?_, s.old, fun a ha => ?_, fun i _ => getD_rep _ i, s.tb⟩
  · obtain ⟨h1, v, h2, h3⟩ := s.slot i p e
    refine ⟨v, h2, ?_⟩
    rw [h1, getD_rep, flat_rep]
    exact ⟨rfl, Rp.mono (Same.refl H) (fun a z => z.elim id fun q => by cases q) _ _ h3⟩
  · rw [flat_rep] at ha; cases ha
  · rw [flat_rep] at ha; cases ha
  · rw [flat_rep] at ha; cases ha
theorem SB.set (s : SB W H O σ δ) {x : D} {v : V} (i : Nat) (r : Rp W H O x v) : SB W H O (σ.set i (some v)) (δ.set i (some (.sh, x))) := by
  refine ⟨by rw [List.length_set, List.length_set]; exact s.len, fun j p e => ?_, s.old, s.tb⟩
  by_cases h : i = j
  · subst h
    by_cases hl : i < δ.length
    · rw [List.getElem?_set_self hl] at e
      cases e
      exact ⟨rfl, v, List.getElem?_set_self (by rw [← s.len]; exact hl), r⟩
    · rw [List.getElem?_eq_none (by rw [List.length_set]; omega)] at e
      cases e
  · rw [List.getElem?_set_ne h] at e ⊢
    exact s.slot j p e
theorem SB.grow (s : SB W H O σ δ) (h : Same H H') : SB W H' O σ δ :=
  ⟨s.len, fun j p e => let ⟨h1, v, h2, h3⟩ := s.slot j p e; ⟨h1, v, h2, Rp.mono h (fun _ z => z) _ _ h3⟩, fun a z q => s.old a z (h.free q), s.tb.mono h⟩
theorem SB.more {O' : Addr → Prop} (s : SB W H O σ δ) (h : Same H H') (ho : ∀ a, O' a → O a ∨ H a = none) (ht : ∀ a, O' a → H' a ≠ none) : SB W H' O' σ δ :=
  ⟨s.len, fun j p e => let ⟨h1, v, h2, h3⟩ := s.slot j p e; ⟨h1, v, h2, Rp.mono h (fun _ z => z) _ _ (Rp.off ho _ _ h3)⟩, ht, s.tb.mono h⟩
end
theorem SS.mask {W : Wd} {H0 H : Hp} {O0 : Addr → Prop} {σ : L2.St} {δ : Dn} {Fs : List (List Addr)} (S : SS W H0 O0 H σ δ Fs) (L : List Nat) : SB W H (av O0 Fs L) σ (maskF L 0 δ) := by
  refine ⟨by rw [maskF_len]; exact S.len, fun j p e => ?_, S.av_there, S.tabs⟩
  rw [maskF_get, Nat.zero_add] at e
  cases hs : δ[j]? with
  | none => rw [hs] at e; cases e
  | some s =>
    rw [hs] at e
    simp only [Option.map_some, Option.some.injEq] at e
    unfold maskS at e
    split at e
    · rename_i hj
      cases s with
      | none => cases e
      | some q =>
        cases e
        obtain ⟨v, h1, h2⟩ := S.var hs (T := L) hj
        exact ⟨rfl, v, h1, h2⟩
    · cases e
def gT (K : PySem.W.Frag) (ts : List Nat) (one : Bool) : TG := match one, ts with
  | true, [i] => gName i
  | false, [i, j] => fun v σ H Q => gTup K 2 (gCons (gName i) (gCons (gName j) gNil)) v σ H Q ∨ gLst K 2 (gCons (gName i) (gCons (gName j) gNil)) v σ H Q
  | false, [i, j, k, l] => gTup K 4 (gCons (gName i) (gCons (gName j) (gCons (gName k) (gCons (gName l) gNil))))
  | _, _ => fun _ _ _ _ => False
theorem set_set2 (σ : L2.St) (i j : Nat) (a b : Option V) : ((((σ.set j none).set i none).set i a).set j b) = (σ.set i a).set j b := by
  apply List.ext_getElem?
  intro k
  simp only [List.getElem?_set, List.length_set]
  by_cases h1 : j = k <;> by_cases h2 : i = k <;> simp [h1, h2]
theorem set_set4 (σ : L2.St) (i j k l : Nat) (a b c d : Option V) : ((((((((σ.set l none).set k none).set j none).set i none).set i a).set j b).set k c).set l d) = (((σ.set i a).set j b).set k c).set l d := by
  apply List.ext_getElem?
  intro m
  simp only [List.getElem?_set, List.length_set]
  by_cases h1 : l = m <;> by_cases h2 : k = m <;> by_cases h3 : j = m <;> by_cases h4 : i = m <;> simp [h1, h2, h3, h4]
theorem wipe4 (σ : L2.St) (i j k l : Nat) (a b c d : Option V) : ((((((((σ.set i a).set j b).set k c).set l d).set l none).set k none).set j none).set i none) = (((σ.set l none).set k none).set j none).set i none := by
  apply List.ext_getElem?
  intro m
  simp only [List.getElem?_set, List.length_set]
  by_cases h1 : l = m <;> by_cases h2 : k = m <;> by_cases h3 : j = m <;> by_cases h4 : i = m <;> simp [h1, h2, h3, h4]
theorem wipe2 (σ : L2.St) (i j : Nat) (a b : Option V) : ((((σ.set i a).set j b).set j none).set i none) = (σ.set j none).set i none := by
  apply List.ext_getElem?
  intro k
  simp only [List.getElem?_set, List.length_set]
  by_cases h1 : j = k <;> by_cases h2 : i = k <;> simp [h1, h2]
section
variable {W : Wd} {H : Hp} {O : Addr → Prop} {σ : L2.St} {δ : Dn}
theorem SB.bind {K : PySem.W.Frag} (s : SB W H O σ δ) {ts : List Nat} {one : Bool} {d : D} {z : Sum V (V × V)} {x : V} {H1 : Hp} {e1 : Dn} (hb : bindT ts one d δ = some e1) (hy : yields z H x H1) (hr : reprI W H O z d) {Q : L2.St → Hp → Prop}
    (hQ : ∀ σ2, Same H H1 → SB W H1 O σ2 e1 → wipe σ2 ts = wipe σ ts → Q σ2 H1) : gT K ts one x (wipe σ ts) H1 Q := by
  have sm : Same H H1 := by
    cases z with
    | inl v => rw [hy.1]; exact Same.refl H
    | inr p => obtain ⟨t, _, h1, h2⟩ := hy; rw [h2]; exact same_new h1
  unfold bindT at hb
  split at hb
  · rename_i i
    cases hb
    have r : Rp W H1 O d x := by
      cases z with
      | inl v => obtain ⟨e1, e2⟩ := hy; rw [e1, e2]; exact hr
      | inr p =>
        obtain ⟨t, e0, h1, h2⟩ := hy
        obtain ⟨a, b, e3, r1, r2⟩ := hr
        rw [e3, e0, h2]
        exact ⟨t, [p.1, p.2], rfl, upd_same, (show (2 : Nat) ≤ sizeLine by decide), p.1, [p.2], rfl, Rp.mono (same_new h1) (fun _ z => z) _ _ r1, p.2, [], rfl, Rp.mono (same_new h1) (fun _ z => z) _ _ r2, rfl⟩
    show Q ((wipe σ [i]).set i (some x)) H1
    have e : (wipe σ [i]).set i (some x) = σ.set i (some x) := by simp [wipe]
    rw [e]
    refine hQ _ sm ((s.grow sm).set i r) ?_
    simp [wipe]
  · rename_i i j a b
    cases hb
    show gTup K 2 (gCons (gName i) (gCons (gName j) gNil)) x (wipe σ [i, j]) H1 Q ∨ gLst K 2 (gCons (gName i) (gCons (gName j) gNil)) x (wipe σ [i, j]) H1 Q
    refine .inl ?_
    have hx : ∃ t va vb, x = .ref t ∧ H1 t = some (.tup [va, vb]) ∧ Rp W H1 O a va ∧ Rp W H1 O b vb := by
      cases z with
      | inl v =>
        obtain ⟨e1, e2⟩ := hy
        obtain ⟨t, vs, e3, h1, h2, va, r1, rfl, ra, vb, r2, rfl, rb, r3⟩ := hr
        rw [e1, e2]
        have : r2 = [] := r3
        subst this
        exact ⟨t, va, vb, e3, h1, ra, rb⟩
      | inr p =>
        obtain ⟨t, e0, h1, h2⟩ := hy
        obtain ⟨a', b', e3, r1, r2⟩ := hr
        cases e3
        refine ⟨t, p.1, p.2, e0, by rw [h2]; exact upd_same, ?_, ?_⟩
        · rw [h2]; exact Rp.mono (same_new h1) (fun _ z => z) _ _ r1
        · rw [h2]; exact Rp.mono (same_new h1) (fun _ z => z) _ _ r2
    obtain ⟨t, va, vb, e0, ht, ra, rb⟩ := hx
    refine ⟨t, [va, vb], e0, .inl (.inl ht), rfl, va, [vb], rfl, vb, [], rfl, rfl, ?_⟩
    have e : ((wipe σ [i, j]).set i (some va)).set j (some vb) = (σ.set i (some va)).set j (some vb) := by
      simp only [wipe]
      exact set_set2 σ i j _ _
    rw [e]
    refine hQ _ sm (((s.grow sm).set i ra).set j rb) ?_
    simp only [wipe]
    exact wipe2 σ i j _ _
  · rename_i i j a b
    cases hb
    show gTup K 2 (gCons (gName i) (gCons (gName j) gNil)) x (wipe σ [i, j]) H1 Q ∨ gLst K 2 (gCons (gName i) (gCons (gName j) gNil)) x (wipe σ [i, j]) H1 Q
    refine .inr ?_
    cases z with
    | inr p => obtain ⟨a', b', e3, _⟩ := hr; cases e3
    | inl v =>
      obtain ⟨e1, e2⟩ := hy
      obtain ⟨t, vs, e3, _, h1, h2, va, r1, rfl, ra, vb, r2, rfl, rb, r3⟩ := hr
      have : r2 = [] := r3
      subst this
      subst e1
      refine ⟨t, [va, vb], e2.trans e3, .inl (.inl h1), rfl, va, [vb], rfl, vb, [], rfl, rfl, ?_⟩
      have e : ((wipe σ [i, j]).set i (some va)).set j (some vb) = (σ.set i (some va)).set j (some vb) := by
        simp only [wipe]
        exact set_set2 σ i j _ _
      rw [e]
      refine hQ _ sm (((s.grow sm).set i ra).set j rb) ?_
      simp only [wipe]
      exact wipe2 σ i j _ _
  · rename_i i j k l a b c d
    cases hb
    show gTup K 4 (gCons (gName i) (gCons (gName j) (gCons (gName k) (gCons (gName l) gNil)))) x (wipe σ [i, j, k, l]) H1 Q
    cases z with
    | inr p => obtain ⟨a', b', e3, _⟩ := hr; cases e3
    | inl v =>
      obtain ⟨e1, e2⟩ := hy
      obtain ⟨t, vs, e3, h1, h2, va, r1, rfl, ra, vb, r2, rfl, rb, vc, r3, rfl, rc, vd, r4, rfl, rd, r5⟩ := hr
      have : r4 = [] := r5
      subst this
      subst e1
      refine ⟨t, [va, vb, vc, vd], e2.trans e3, .inl (.inl h1), rfl, va, [vb, vc, vd], rfl, vb, [vc, vd], rfl, vc, [vd], rfl, vd, [], rfl, rfl, ?_⟩
      have e : ((((wipe σ [i, j, k, l]).set i (some va)).set j (some vb)).set k (some vc)).set l (some vd) = (((σ.set i (some va)).set j (some vb)).set k (some vc)).set l (some vd) := by
        simp only [wipe]
        exact set_set4 σ i j k l _ _ _ _
      rw [e]
      refine hQ _ sm (((((s.grow sm).set i ra).set j rb).set k rc).set l rd) ?_
      simp only [wipe]
      exact wipe4 σ i j k l _ _ _ _
  · cases hb
end
def rdC (W : Wd) (E0 : XK) (T : Tb) (cs : List E) : TT := fun σ H Q => ∃ H0 O0 δ Fs, SS W H0 O0 H σ δ Fs ∧ rqb W E0 H (evC T cs δ) Q
section
variable {W : Wd} {E0 : XK} {T : Tb} {X : Cx}
theorem _root_.L2.PTs.imp {X : Cx} {e : List Expr} {t t' : TT} (h : PTs X e t) (k : ∀ σ H Q, t' σ H Q → t σ H Q) : PTs X e t' := ⟨fun pins s σ H Q I q => h.run pins s σ H Q I (k σ H Q q)⟩
theorem x_nil : PTs X [] (rdC W E0 T []) := pts_nil.imp fun σ H Q ⟨H0, O0, δ, Fs, S, q⟩ => by
  simp only [evC] at q
  exact q H (Same.refl H)
theorem x_one {c : Expr} {cc : E} (h : PT X c (rdT W E0 T cc)) : PTs X [c] (rdC W E0 T [cc]) := (pts_one h).imp fun σ H Q ⟨H0, O0, δ, Fs, S, q⟩ => by
  refine ⟨H0, O0, δ, Fs, S, ?_⟩
  have e : evC T [cc] δ = evB T cc δ := by
    unfold evB
    simp only [evC]
    cases ev T cc δ with
    | none => rfl
    | some r =>
      cases r with
      | er C => rfl
      | ok p =>
        show (match boolD p.2 with | none => none | some false => ok false | some true => ok true) = lift (boolD p.2)
        cases boolD p.2 with
        | none => rfl
        | some b => cases b <;> rfl
  rw [← e]
  exact q
theorem Ows.snoc {H : Hp} {O : Addr → Prop} : ∀ {ps : List (Md × D)} {vs : List V} {Fs : List (List Addr)} {p : Md × D} {v : V} {F : List Addr}, Ows W H O ps vs Fs → Ow W H O p.1 p.2 v F → Ows W H O (ps ++ [p]) (vs ++ [v]) (Fs ++ [F])
  | [], vs, Fs, p, v, F, h, k => by
    obtain ⟨rfl, rfl⟩ := h
    exact ⟨v, [], F, [], rfl, rfl, k, rfl, rfl⟩
  | q :: ps, vs, Fs, p, v, F, h, k => by
    obtain ⟨w, r, G, Fr, rfl, rfl, h1, h2⟩ := h
    exact ⟨w, r ++ [v], G, Fr ++ [F], rfl, rfl, h1, Ows.snoc h2 k⟩
theorem Ows.off {H : Hp} {O O' : Addr → Prop} (ho : ∀ a, O' a → O a ∨ H a = none) : ∀ {ps : List (Md × D)} {vs : List V} {Fs : List (List Addr)}, Ows W H O ps vs Fs → Ows W H O' ps vs Fs
  | [], _, _, h => h
  | p :: ps, _, _, h => by
    obtain ⟨v, r, F, Fr, e1, e2, h1, h2⟩ := h
    exact ⟨v, r, F, Fr, e1, e2, h1.off ho, Ows.off ho h2⟩
theorem Ows.upd {H : Hp} {O : Addr → Prop} {q : Addr} {o x : HO} (hp : H q = some o) (mu : MutC o) (op : O q) : ∀ {ps : List (Md × D)} {vs : List V} {Fs : List (List Addr)}, q ∉ Fs.flatten → Ows W H O ps vs Fs → Ows W (L2.upd H q x) O ps vs Fs
  | [], _, _, _, h => h
  | p :: ps, _, _, np, h => by
    obtain ⟨v, r, F, Fr, e1, e2, h1, h2⟩ := h
    subst e2
    exact ⟨v, r, F, Fr, e1, rfl, h1.upd hp mu op (fun z => np (List.mem_append_left _ z)), Ows.upd hp mu op (fun z => np (List.mem_append_right _ z)) h2⟩
theorem compL_cons {f : D → Option (Option (Md × D))} {x : D} {xs : List D} {ps tot : List (Md × D)} (h : (compL f (x :: xs)).map (ps ++ ·) = some tot) :
    (f x = some none ∧ (compL f xs).map (ps ++ ·) = some tot) ∨ ∃ p, f x = some (some p) ∧ (compL f xs).map ((ps ++ [p]) ++ ·) = some tot := by
  unfold compL at h
  cases e : f x with
  | none => rw [e] at h; cases h
  | some o =>
    rw [e] at h
    cases o with
    | none => exact .inl ⟨rfl, h⟩
    | some p =>
      refine .inr ⟨p, rfl, ?_⟩
      cases e2 : compL f xs with
      | none => rw [e2] at h; cases h
      | some r =>
        rw [e2] at h
        cases h
        simp
theorem rd_comp {own : List (Str × Nat)} {ts : List Nat} {one : Bool} {s : Sr} {cs : List E} {ce : E} {wi : TI} (hwi : wi = rdI W E0 T s) (hown : own.map (·.2) = ts) :
    ∀ (σ : L2.St) (H : Hp) (Q : VK), rdE W E0 T (.comp ts one s cs ce) σ H Q → tLc wi (gT X.K ts one) (rdC W EF T cs) (rdE W EF T ce) (own.map (·.2)) σ H Q := fun σ H Q ⟨H0, O0, δ, Fs, S, q⟩ => by
  subst hwi
  rw [hown]
  simp only [ev, nm] at q
  refine ⟨H0, O0, δ, Fs, S, ?_⟩
  revert q
  cases evS T s δ with
  | none => exact fun h => h
  | some r =>
    cases r with
    | er C => exact fun h => h
    | ok p =>
      intro q J H1 s1 src dl hD
      generalize hL : nmS s ++ nms cs ++ nm ce = L at q
      obtain ⟨m, ds⟩ := p
      generalize hf : (fun x => (bindT ts one x δ).bind fun e1 => (okOnly (evC T cs e1)).bind fun b => if b = true then (okOnly (ev T ce e1)).map some else some none) = f at q
      have q : rq W E0 H (av O0 Fs L) (match compL f ds with | none => none | some ps => ok (boxM ps, .lst (ps.map Prod.snd))) Q := q
      cases ec : compL f ds with
      | none => rw [ec] at q; exact q.elim
      | some tot =>
        rw [ec] at q
        have q : Res W H (av O0 Fs L) (boxM tot) (.lst (tot.map Prod.snd)) Q := q
        obtain ⟨G, Y, A, wk, hlen, hA, hG, hI⟩ := src.ex
        have iS : ∀ i ∈ nmS s, i ∈ L := fun i hi => by rw [← hL]; simp [hi]
        have iC : ∀ i ∈ nms cs, i ∈ L := fun i hi => by rw [← hL]; simp [hi]
        have iE : ∀ i ∈ nm ce, i ∈ L := fun i hi => by rw [← hL]; simp [hi]
        have SB1 : SB W H1 (av O0 Fs L) σ (maskF L 0 δ) := (S.grow s1).mask L
        refine lc_it wk (Pv := fun i H' => ∃ (ps : List (Md × D)) (acc : List V) (Fs' : List (List Addr)), H' dl = some (.lst acc) ∧ Same H1 H' ∧ Ows W H' (fun a => (av O0 Fs L a ∨ a = dl) ∨ a ∈ Fs'.flatten) ps acc Fs' ∧ Fs'.flatten.Nodup ∧ (∀ a ∈ Fs'.flatten, H1 a = none ∧ a ≠ dl) ∧ acc.length ≤ i ∧ (compL f (ds.drop i)).map (ps ++ ·) = some tot) ?_ ?_ ?_ ?_
        · exact ⟨[], [], [], upd_same, same_new hD, ⟨rfl, rfl⟩, List.nodup_nil, (fun _ z => by cases z), Nat.zero_le _, by simp [ec]⟩
        · rintro i H' hi ⟨ps, acc, Fs', h1, h2, _⟩
          exact hG H' fun a ha o e n => h2.1 a o e n
        · rintro i x H2 H3 hi ⟨ps, acc, Fs', h1, h2, h3, h4, h5, h6, h7⟩ hy
          have ei : ds[i]? = some ds[i] := List.getElem?_eq_getElem hi
          have ed : ds.drop i = ds[i] :: ds.drop (i + 1) := List.drop_eq_getElem_cons hi
          rw [ed] at h7
          obtain ⟨z, z1, z2⟩ := hI i _ ei
          have tD : H2 dl ≠ none := by rw [h1]; simp
          have tF : ∀ a ∈ Fs'.flatten, H2 a ≠ none := fun a ha e => by
            obtain ⟨o, e2, _⟩ := h3.there a ha
            rw [e] at e2
            cases e2
          -- what is kept off at this turn
          have SBt : SB W H2 (fun a => (av O0 Fs L a ∨ a = dl) ∨ a ∈ Fs'.flatten) σ (maskF L 0 δ) := by
            refine SB1.more h2 (fun a za => ?_) (fun a za => ?_)
            · rcases za with (za | za) | za
              · exact .inl za
              · exact .inr (by rw [za]; exact hD)
              · exact .inr (h5 a za).1
            · rcases za with (za | za) | za
              · exact fun e => (S.grow s1).av_there a za (h2.free e)
              · rw [za]; exact tD
              · exact tF a za
          have sub : ∀ a, av O0 Fs L a → av O0 Fs (if m = .dp then [] else nmS s) a := fun a za => by
            split
            · exact av_mono (fun i hi => by cases hi) a za
            · exact av_mono iS a za
          have ro : ∀ (dd : TW.D) (vv : V), Rp W H1 (av O0 Fs (if m = .dp then [] else nmS s)) dd vv → Rp W H2 (fun a => (av O0 Fs L a ∨ a = dl) ∨ a ∈ Fs'.flatten) dd vv := fun dd vv r => by
            refine Rp.mono h2 (fun _ z => z) _ _ (Rp.off (fun a za => ?_) _ _ r)
            rcases za with (za | za) | za
            · exact .inl (sub a za)
            · exact .inr (by rw [za]; exact hD)
            · exact .inr (h5 a za).1
          have z3 : reprI W H2 (fun a => (av O0 Fs L a ∨ a = dl) ∨ a ∈ Fs'.flatten) z ds[i] := by
            cases z with
            | inl v => exact ro _ _ z2
            | inr pr =>
              obtain ⟨a, b, e, r1, r2⟩ := z2
              exact ⟨a, b, e, ro _ _ r1, ro _ _ r2⟩
          have hfx : f ds[i] = (bindT ts one ds[i] δ).bind fun e1 => (okOnly (evC T cs e1)).bind fun b => if b = true then (okOnly (ev T ce e1)).map some else some none := by rw [← hf]
          -- the item is bound
          rcases (mask_agr L δ).bind ts one ds[i] with ⟨b1, b2⟩ | ⟨e1, e1', b1, b2, b3⟩
          · rw [b2] at hfx
            rcases compL_cons h7 with ⟨k, _⟩ | ⟨p, k, _⟩ <;> (rw [hfx] at k; cases k)
          · rw [b2] at hfx
            have hfx : f ds[i] = (okOnly (evC T cs e1')).bind fun b => if b = true then (okOnly (ev T ce e1')).map some else some none := hfx
            refine SBt.bind b1 (z1 _ _ _ hy) z3 fun σ2 s3 SB2 hw => ⟨hw, ?_⟩
            have eC : evC T cs e1 = evC T cs e1' := evC_congr cs e1 e1' (b3.sub fun i hi => List.mem_append_right _ (iC i hi))
            have eE : ev T ce e1 = ev T ce e1' := ev_congr ce e1 e1' (b3.sub fun i hi => List.mem_append_right _ (iE i hi))
            refine ⟨H3, _, e1, _, SB2.ss, ?_⟩
            rw [eC]
            cases ev1 : evC T cs e1' with
            | none =>
              rw [ev1] at hfx
              rcases compL_cons h7 with ⟨k, _⟩ | ⟨p, k, _⟩ <;> (rw [hfx] at k; cases k)
            | some r =>
              cases r with
              | er C =>
                rw [ev1] at hfx
                rcases compL_cons h7 with ⟨k, _⟩ | ⟨p, k, _⟩ <;> (rw [hfx] at k; cases k)
              | ok b =>
                rw [ev1] at hfx
                intro H4 s4
                have s24 : Same H2 H4 := s3.trans s4
                cases b with
                | false =>
                  rw [if_neg (by decide)]
                  have hfx : f ds[i] = some none := hfx
                  rcases compL_cons h7 with ⟨_, k⟩ | ⟨p, k, _⟩
                  · exact ⟨ps, acc, Fs', s24.at h1, h2.trans s24, h3.mono s24 (fun _ z => z), h4, h5, by omega, k⟩
                  · rw [hfx] at k; cases k
                | true =>
                  rw [if_pos rfl]
                  have hfx : f ds[i] = (okOnly (ev T ce e1')).map some := hfx
                  have SB4 := SB2.grow s4
                  refine ⟨H4, _, e1, _, SB4.ss, ?_⟩
                  rw [eE]
                  cases ev2 : ev T ce e1' with
                  | none =>
                    rw [ev2] at hfx
                    rcases compL_cons h7 with ⟨k, _⟩ | ⟨p, k, _⟩ <;> (rw [hfx] at k; cases k)
                  | some r =>
                    cases r with
                    | er C =>
                      rw [ev2] at hfx
                      rcases compL_cons h7 with ⟨k, _⟩ | ⟨p, k, _⟩ <;> (rw [hfx] at k; cases k)
                    | ok pr =>
                      rw [ev2] at hfx
                      have hfx : f ds[i] = some (some pr) := hfx
                      rcases compL_cons h7 with ⟨k, _⟩ | ⟨p', k, k2⟩
                      · rw [hfx] at k; cases k
                      rw [hfx] at k
                      cases k
                      intro y H5 F s5 n5 nd5 ow5
                      have s25 : Same H2 H5 := s24.trans s5
                      have hD5 : H5 dl = some (.lst acc) := s25.at h1
                      have nF5 : ∀ a ∈ F, H2 a = none := fun a ha => s24.free (n5 a ha)
                      have tF5 : ∀ a ∈ F, H5 a ≠ none := fun a ha e => by
                        obtain ⟨o, e2, _⟩ := ow5.there a ha
                        rw [e] at e2
                        cases e2
                      have neF : ∀ a ∈ F, a ≠ dl := fun a ha e => by rw [e] at ha; exact tD (nF5 dl ha)
                      refine ⟨acc, hD5, Nat.lt_of_le_of_lt h6 (Nat.lt_of_lt_of_le hi hlen), ps ++ [pr], acc ++ [y], Fs' ++ [F], upd_same, (h2.trans s25).upd hD hD5 trivial, ?_, ?_, fun a ha => ?_, ?_, k2⟩
                      · have ef : (Fs' ++ [F]).flatten = Fs'.flatten ++ F := by simp
                        rw [ef]
                        refine Ows.upd (O := fun a => (av O0 Fs L a ∨ a = dl) ∨ a ∈ Fs'.flatten ++ F) hD5 trivial (.inl (.inr rfl)) ?_ (Ows.snoc ?_ ?_)
                        · rw [ef]
                          intro z
                          rcases List.mem_append.mp z with z | z
                          · exact (h5 dl z).2 rfl
                          · exact neF dl z rfl
                        · refine (h3.off fun a za => ?_).mono s25 fun _ z => z
                          rcases za with za | za
                          · exact .inl (.inl za)
                          · rcases List.mem_append.mp za with za | za
                            · exact .inl (.inr za)
                            · exact .inr (nF5 a za)
                        · refine ow5.mono (Same.refl H5) fun a za => ?_
                          rcases za with za | za
                          · exact .inl (.inl (.inl za))
                          · rcases List.mem_append.mp za with za | za
                            · exact .inl (.inl (.inr za))
                            · exact .inr za
                      · have ef : (Fs' ++ [F]).flatten = Fs'.flatten ++ F := by simp
                        rw [ef]
                        exact List.nodup_append.mpr ⟨h4, nd5, fun a ha b hb e => by subst e; exact tF a ha (nF5 a hb)⟩
                      · have ef : (Fs' ++ [F]).flatten = Fs'.flatten ++ F := by simp
                        rw [ef] at ha
                        rcases List.mem_append.mp ha with ha | ha
                        · exact h5 a ha
                        · exact ⟨h2.free (nF5 a ha), neF a ha⟩
                      · rw [List.length_append, List.length_singleton]
                        omega
        · rintro H' ⟨ps, acc, Fs', h1, h2, h3, h4, h5, h6, h7⟩
          have e0 : ds.drop ds.length = [] := List.drop_length
          rw [e0] at h7
          have h7 : some (ps ++ []) = some tot := h7
          rw [List.append_nil] at h7
          cases h7
          -- the list stands; its cell is new
          have nH : H dl = none := s1.free hD
          unfold boxM at q
          split at q
          · rename_i c
            refine q _ _ (dl :: Fs'.flatten) (s1.trans h2) (fun a ha => ?_) (List.nodup_cons.mpr ⟨fun z => (h5 dl z).2 rfl, h4⟩) ⟨dl, acc, Fs'.flatten, rfl, rfl, h1, ?_, h3.dqs c⟩
            · rcases List.mem_cons.mp ha with rfl | ha
              · exact nH
              · exact s1.free (h5 a ha).1
            · exact Nat.le_trans h6 hlen
          · refine q _ _ [dl] (s1.trans h2) (fun a ha => by rw [List.mem_singleton.mp ha]; exact nH) (by simp) ⟨dl, acc, rfl, rfl, h1, Nat.le_trans h6 hlen, ?_⟩
            refine h3.rps (fun a za => ?_) (fun a ha za => ?_)
            · rcases za with za | za
              · exact .inl (.inl za)
              · exact .inl (.inr (List.mem_singleton.mp za))
            · rcases za with za | za
              · exact S.av_there a za (s1.free (h5 a ha).1)
              · exact (h5 a ha).2 (List.mem_singleton.mp za)
theorem c_comp {elt tg iter : Expr} {ifs : List Expr} {scope : Scope} {own : List (Str × Nat)} {pos : Pos} {ts : List Nat} {one : Bool} {s : Sr} {cs : List E} {ce : E} (hc : X.calm = true) (hN : X.N.Nodup)
    (hi : PI X tg iter (rdI W E0 T s)) (ok : BlkOk X.N X.env.scope scope own) (hown : own.map (·.2) = ts)
    (hg : ∀ (s : Shared) (H : Hp) (C : Addr) (cl : List (Str × Addr)) (fp : List Addr), PG (X.blk s H scope (compEnvC scope cl C X.env) fp) tg (gT X.K ts one)) (ht : ∀ (s : Shared) (H : Hp) (C : Addr) (cl : List (Str × Addr)) (fp : List Addr), PTs (X.blk s H scope (compEnvC scope cl C X.env) fp) ifs (rdC W EF T cs))
    (he : ∀ (s : Shared) (H : Hp) (C : Addr) (cl : List (Str × Addr)) (fp : List Addr), PE (X.blk s H scope (compEnvC scope cl C X.env) fp) elt (rdE W EF T ce))
    (hs : ∀ x, foldedSetIterable iter X.env x = pure x := by intro _; rfl) : PE X (.ListComp elt [⟨tg, iter, ifs, 0⟩] scope pos) (rdE W E0 T (.comp ts one s cs ce)) :=
  (pe_lc hc hN hi ok hg ht he hs).imp fun σ H Q h => rd_comp rfl hown σ H Q h
end
end TW

set_option Elab.async false
set_option linter.all false
set_option maxRecDepth 100000
set_option maxHeartbeats 4000000
namespace TW
open PySem PySem.Spec PyProof.Rows L2
variable [TabT]

structure Evo (H : Hp) (Fs : List (List Addr)) (H' : Hp) (Fs' : List (List Addr)) : Prop where
  keep : ∀ b o, H b = some o → b ∉ Fs.flatten → (∀ ps, o ≠ .tbl ps) → H' b = some o
  sub : ∀ a ∈ Fs'.flatten, a ∈ Fs.flatten ∨ H a = none
  there : ∀ b, H b ≠ none → H' b ≠ none
section
variable {H H1 H2 : Hp} {Fs Fs1 Fs2 : List (List Addr)}
theorem Evo.refl : Evo H Fs H Fs := ⟨fun _ _ e _ _ => e, fun _ h => .inl h, fun _ h => h⟩
theorem Evo.trans (a : Evo H Fs H1 Fs1) (b : Evo H1 Fs1 H2 Fs2) : Evo H Fs H2 Fs2 := by
  refine ⟨fun c o e n nt => b.keep c o (a.keep c o e n nt) (fun z => ?_) nt, fun c h => ?_, fun c h => b.there c (a.there c h)⟩
  · rcases a.sub c z with z | z
    · exact n z
    · rw [e] at z; cases z
  · rcases b.sub c h with z | z
    · exact a.sub c z
    · cases e : H c with
      | none => exact .inr rfl
      | some o => exact absurd z (a.there c (by rw [e]; simp))
theorem Evo.grow (s : Same H H1) (h : ∀ a ∈ Fs1.flatten, a ∈ Fs.flatten ∨ H a = none) : Evo H Fs H1 Fs1 := ⟨fun b o e _ nt => s.1 b o e nt, h, fun b h z => h (s.free z)⟩
theorem Evo.rp {W : Wd} {O : Addr → Prop} (e : Evo H Fs H1 Fs1) (ht : ∀ a ∈ Fs.flatten, ∃ o, H a = some o ∧ MutC o) {O' : Addr → Prop} (hO : ∀ a, a ∈ Fs.flatten → O a) (hO' : ∀ a, O' a → O a ∨ H a = none) : ∀ (d : D) (v : V), Rp W H O d v → Rp W H1 O' d v := by
  have key : ∀ a u, H a = some u → ¬ MutC u → (∀ ps, u ≠ .tbl ps) → H1 a = some u := fun a u h n nt => e.keep a u h (fun z => by
    obtain ⟨o, h2, m⟩ := ht a z
    rw [h] at h2
    cases h2
    exact n m) nt
  intro d
  induction d using D.rec (motive_2 := fun ds => ∀ vs, Rps W H O ds vs → Rps W H1 O' ds vs) with
  | non => exact fun v h => h
  | bl b => exact fun v h => h
  | int i => exact fun v h => h
  | str x => exact fun v h => h
  | fn x => exact fun v h => h
  | exc C => exact fun v h => h
  | clo g cap ih =>
    intro v h
    obtain ⟨a, c, w, e1, hw, h1, h2, h3⟩ := h
    exact ⟨a, c, w, e1, hw, key a _ h1 (fun z => z) lamO_ne, key c _ h2 (fun z => z) LamX.codeO_ne, ih _ h3⟩
  | tup ds ih =>
    intro v h
    obtain ⟨a, vs, e1, h1, h2, h3⟩ := h
    exact ⟨a, vs, e1, key a _ h1 (fun z => z) (by intro ps z; cases z), h2, ih vs h3⟩
  | lst ds ih =>
    intro v h
    obtain ⟨a, vs, e1, h0, h1, h2, h3⟩ := h
    exact ⟨a, vs, e1, fun z => (hO' a z).elim h0 (fun q => by rw [h1] at q; cases q), e.keep a _ h1 (fun z => h0 (hO a z)) (by intro ps z; cases z), h2, ih vs h3⟩
  | scr ns =>
    intro v h
    obtain ⟨a, e1, h1, h2⟩ := h
    refine ⟨a, e1, ?_, h2⟩
    rcases h1 with ⟨o, h1⟩ | h1
    · exact .inl ⟨o, key a _ h1 (fun z => z) (by intro ps z; cases z)⟩
    · exact .inr h1
  | dic ks =>
    intro v h
    obtain ⟨a, e1, h0, h1, h2⟩ := h
    exact ⟨a, e1, fun z => (hO' a z).elim h0 (fun q => by rw [h1] at q; cases q), e.keep a _ h1 (fun z => h0 (hO a z)) (by intro ps z; cases z), h2⟩
  | ins C f d ih =>
    intro v h
    obtain ⟨a, dx, fv, e1, h1, h3⟩ := h
    exact ⟨a, dx, fv, e1, key a _ h1 (fun z => z) (by intro ps z; cases z), ih fv h3⟩
  | nil => rename_i h; exact h
  | cons d ds ih1 ih2 =>
    rename_i vs h
    obtain ⟨v, r, e1, h1, h2⟩ := h
    exact ⟨v, r, e1, ih1 v h1, ih2 r h2⟩
end

def clr : List Nat → List (List Addr) → List (List Addr)
  | [], Fs => Fs
  | i :: is, Fs => clr is (Fs.set i [])
theorem mem_set_flat {Fs : List (List Addr)} {i : Nat} {F : List Addr} {a : Addr} (h : a ∈ (Fs.set i F).flatten) : a ∈ F ∨ ∃ j, j ≠ i ∧ a ∈ Fs.getD j [] := by
  obtain ⟨j, hj⟩ := flat_ix h
  rw [List.getD_eq_getElem?_getD] at hj
  by_cases e : i = j
  · subst e
    by_cases hl : i < Fs.length
    · rw [List.getElem?_set_self hl] at hj
      exact .inl hj
    · rw [List.getElem?_eq_none (by rw [List.length_set]; omega)] at hj
      cases hj
  · rw [List.getElem?_set_ne e] at hj
    exact .inr ⟨j, fun z => e z.symm, by rw [List.getD_eq_getElem?_getD]; exact hj⟩
theorem getD_set_ne {Fs : List (List Addr)} {i j : Nat} {F : List Addr} (h : i ≠ j) : (Fs.set i F).getD j [] = Fs.getD j [] := by
  rw [List.getD_eq_getElem?_getD, List.getD_eq_getElem?_getD, List.getElem?_set_ne h]
theorem getD_set_self {Fs : List (List Addr)} {i : Nat} {F : List Addr} (h : i < Fs.length) : (Fs.set i F).getD i [] = F := by
  rw [List.getD_eq_getElem?_getD, List.getElem?_set_self h]
  rfl
theorem flat_cons (F : List Addr) (Fs : List (List Addr)) : (F :: Fs).flatten = F ++ Fs.flatten := rfl
theorem nodup_set : ∀ {Fs : List (List Addr)} (i : Nat) {F : List Addr}, Fs.flatten.Nodup → F.Nodup → (∀ a ∈ F, a ∉ Fs.flatten) → (Fs.set i F).flatten.Nodup
  | [], i, F, h, _, _ => by simpa using h
  | G :: Gs, 0, F, h, nF, d => by
    rw [List.set_cons_zero, flat_cons]
    rw [flat_cons] at h d
    obtain ⟨h1, h2, h3⟩ := List.nodup_append.mp h
    exact List.nodup_append.mpr ⟨nF, h2, fun a ha b hb e => d a ha (by rw [e]; exact List.mem_append_right _ hb)⟩
  | G :: Gs, i + 1, F, h, nF, d => by
    rw [List.set_cons_succ, flat_cons]
    rw [flat_cons] at h d
    obtain ⟨h1, h2, h3⟩ := List.nodup_append.mp h
    refine List.nodup_append.mpr ⟨h1, nodup_set i h2 nF fun a ha z => d a ha (List.mem_append_right _ z), fun a ha b hb e => ?_⟩
    subst e
    rcases mem_set_flat hb with z | ⟨j, _, z⟩
    · exact d a z (List.mem_append_left _ ha)
    · exact h3 a ha a (mem_flat z) rfl
section
variable {W : Wd} {H0 H : Hp} {O0 : Addr → Prop} {σ : L2.St} {δ : Dn} {Fs : List (List Addr)}
theorem SS.put {F : List Addr} (S : SS W H0 (fun a => O0 a ∨ a ∈ F) H σ δ Fs) (hO : ∀ a ∈ F, ¬ O0 a) {i : Nat} {m : Md} {d : D} {v : V} (nd : F.Nodup) (n0 : ∀ a ∈ F, H0 a = none) (ow : Ow W H (fun a => (O0 a ∨ a ∈ Fs.flatten) ∨ a ∈ F) m d v F) :
    SS W H0 O0 H (σ.set i (some v)) (δ.set i (some (m, d))) (Fs.set i F) := by
  have sub : ∀ a, (O0 a ∨ a ∈ (Fs.set i F).flatten) → (O0 a ∨ a ∈ F) ∨ a ∈ Fs.flatten := fun a z => by
    rcases z with z | z
    · exact .inl (.inl z)
    · rcases mem_set_flat z with z | ⟨j, _, z⟩
      · exact .inl (.inr z)
      · exact .inr (mem_flat z)
  refine ⟨S.same, by rw [List.length_set, List.length_set]; exact S.len, by rw [List.length_set, List.length_set]; exact S.lenF, fun j p e => ?_, nodup_set i S.nod nd (fun a ha z => S.offF a (.inr ha) z), fun a ha => ?_, fun a za ha => ?_, fun a za => S.oldT a (.inl za), fun a ha => ?_, fun j e => ?_, S.tb⟩
  · by_cases h : i = j
    · subst h
      by_cases hl : i < δ.length
      · rw [List.getElem?_set_self hl] at e
        cases e
        have hl' : i < σ.length := by rw [← S.len]; exact hl
        refine ⟨v, List.getElem?_set_self hl', ?_⟩
        rw [getD_set_self (by rw [S.lenF]; exact hl')]
        refine ow.mono (Same.refl H) fun a z => ?_
        rcases sub a z with (z | z) | z
        · exact .inl (.inl z)
        · exact .inr z
        · exact .inl (.inr z)
      · rw [List.getElem?_eq_none (by rw [List.length_set]; omega)] at e
        cases e
    · rw [List.getElem?_set_ne h] at e ⊢
      obtain ⟨w, h1, h2⟩ := S.slot j p e
      refine ⟨w, h1, ?_⟩
      rw [getD_set_ne h]
      exact h2.mono (Same.refl H) sub
  · rcases mem_set_flat ha with z | ⟨j, _, z⟩
    · exact n0 a z
    · exact S.new a (mem_flat z)
  · rcases mem_set_flat ha with z | ⟨j, _, z⟩
    · exact hO a z za
    · exact S.offF a (.inl za) (mem_flat z)
  · rcases mem_set_flat ha with z | ⟨j, _, z⟩
    · exact ow.there a z
    · exact S.there a (mem_flat z)
  · by_cases h : i = j
    · subst h
      by_cases hl : i < δ.length
      · rw [List.getElem?_set_self hl] at e; cases e
      · rw [List.getElem?_eq_none (by rw [List.length_set]; omega)] at e; cases e
    · rw [List.getElem?_set_ne h] at e
      rw [getD_set_ne h]
      exact S.mt j e
theorem SS.putS (S : SS W H0 O0 H σ δ Fs) {i : Nat} {d : D} {v : V} (r : Rp W H (fun a => O0 a ∨ a ∈ Fs.flatten) d v) : SS W H0 O0 H (σ.set i (some v)) (δ.set i (some (.sh, d))) (Fs.set i []) := by
  refine SS.put (F := []) ⟨S.same, S.len, S.lenF, fun j p e => ?_, S.nod, S.new, fun a z => S.offF a (z.elim id fun q => by cases q), fun a z => S.oldT a (z.elim id fun q => by cases q), S.there, S.mt, S.tb⟩ (fun _ z => by cases z) List.nodup_nil (fun _ z => by cases z) ⟨rfl, Rp.mono (Same.refl H) (fun a z => z.elim id fun q => by cases q) _ _ r⟩
  obtain ⟨w, h1, h2⟩ := S.slot j p e
  exact ⟨w, h1, h2.mono (Same.refl H) fun a z => z.elim (fun z => .inl (z.elim id fun q => by cases q)) .inr⟩
theorem set_sub {i : Nat} : ∀ a ∈ (Fs.set i []).flatten, a ∈ Fs.flatten := fun a ha => by
  rcases mem_set_flat ha with z | ⟨j, _, z⟩
  · cases z
  · exact mem_flat z
theorem SS.frz1 (S : SS W H0 O0 H σ δ Fs) (i : Nat) : SS W H0 O0 H σ (match δ[i]? with | some s => δ.set i (frzS s) | none => δ) (Fs.set i []) := by
  cases e : δ[i]? with
  | none =>
    have : Fs.set i [] = Fs := List.set_eq_of_length_le (by rw [S.lenF, ← S.len]; exact List.getElem?_eq_none_iff.mp e)
    rw [this]
    exact S
  | some s =>
    have hi : i < δ.length := (List.getElem?_eq_some_iff.mp e).1
    have sub : ∀ a, (O0 a ∨ a ∈ (Fs.set i []).flatten) → O0 a ∨ a ∈ Fs.flatten := fun a z => z.elim .inl fun z => .inr (set_sub a z)
    refine ⟨S.same, by rw [List.length_set]; exact S.len, by rw [List.length_set]; exact S.lenF, fun j p ej => ?_, nodup_set i S.nod List.nodup_nil (fun _ z => by cases z), fun a ha => S.new a (set_sub a ha), fun a za ha => S.offF a za (set_sub a ha), S.oldT, fun a ha => S.there a (set_sub a ha), fun j ej => ?_, S.tb⟩
    · by_cases h : i = j
      · subst h
        rw [List.getElem?_set_self hi] at ej
        cases s with
        | none => cases ej
        | some q =>
          cases ej
          obtain ⟨v, h1, h2⟩ := S.slot i q e
          refine ⟨v, h1, ?_⟩
          rw [getD_set_self (by rw [S.lenF, ← S.len]; exact hi)]
          refine ⟨rfl, h2.rp sub fun a ha z => ?_⟩
          rcases z with z | z
          · exact S.offF a z (mem_flat ha)
          · rcases mem_set_flat z with z | ⟨j, hj, z⟩
            · cases z
            · exact hj (flat_inj S.nod z ha)
      · rw [List.getElem?_set_ne h] at ej
        obtain ⟨v, h1, h2⟩ := S.slot j p ej
        refine ⟨v, h1, ?_⟩
        rw [getD_set_ne h]
        exact h2.mono (Same.refl H) sub
    · by_cases h : i = j
      · subst h
        exact getD_set_self (by rw [S.lenF, ← S.len]; exact hi)
      · rw [List.getElem?_set_ne h] at ej
        rw [getD_set_ne h]
        exact S.mt j ej
theorem SS.frz : ∀ (is : List Nat) {δ : Dn} {Fs : List (List Addr)}, SS W H0 O0 H σ δ Fs → SS W H0 O0 H σ (frz is δ) (clr is Fs)
  | [], _, _, S => S
  | i :: is, _, _, S => SS.frz is (S.frz1 i)
theorem clr_mem : ∀ (is : List Nat) {Fs : List (List Addr)} {a : Addr}, a ∈ (clr is Fs).flatten → a ∈ Fs.flatten ∧ ∃ j, j ∉ is ∧ a ∈ Fs.getD j []
  | [], Fs, a, h => ⟨h, let ⟨j, hj⟩ := flat_ix h; ⟨j, by simp, hj⟩⟩
  | i :: is, Fs, a, h => by
    obtain ⟨h1, j, h2, h3⟩ := clr_mem is h
    refine ⟨set_sub a h1, ?_⟩
    by_cases e : i = j
    · subst e
      by_cases hl : i < Fs.length
      · rw [getD_set_self hl] at h3; cases h3
      · rw [List.getD_eq_getElem?_getD, List.getElem?_eq_none (by rw [List.length_set]; omega)] at h3; cases h3
    · rw [getD_set_ne e] at h3
      exact ⟨j, by simp only [List.mem_cons, not_or]; exact ⟨fun z => e z.symm, h2⟩, h3⟩
theorem SS.unowned (S : SS W H0 O0 H σ δ Fs) {i : Nat} (h : (match δ[i]? with | some s => ownS s | none => false) = false) : Fs.getD i [] = [] := by
  cases e : δ[i]? with
  | none =>
    rw [List.getD_eq_getElem?_getD, List.getElem?_eq_none (by rw [S.lenF, ← S.len]; exact List.getElem?_eq_none_iff.mp e)]
    rfl
  | some s =>
    rw [e] at h
    cases s with
    | none => exact S.mt i e
    | some p =>
      obtain ⟨v, h1, h2⟩ := S.slot i p e
      obtain ⟨m, d⟩ := p
      cases m with
      | sh => exact h2.1
      | fl => cases h
      | dp => cases h
end
end TW

set_option Elab.async false
set_option linter.all false
set_option maxRecDepth 100000
set_option maxHeartbeats 4000000
namespace TW
open PySem PySem.Spec PyProof.Rows L2
variable [TabT]

def rqf (W : Wd) (E0 : XK) (H0 : Hp) (O0 : Addr → Prop) (H : Hp) (Fs : List (List Addr)) (r : M Fl) (D : Ends) : Prop := match r with
  | none => False
  | some (.er C) => ∀ H', Same H0 H' → E0 (.ref (W.ca C)) none H'
  | some (.ok (.nx δ')) => ∀ σ' H' Fs', SS W H0 O0 H' σ' δ' Fs' → Evo H Fs H' Fs' → D.nx σ' H'
  | some (.ok (.rt m d)) => ∀ v H' F, Same H0 H' → (∀ a ∈ F, H0 a = none) → F.Nodup → Ow W H' (fun p => O0 p ∨ p ∈ F) m d v F → D.rt v H'
def rdS (W : Wd) (E0 : XK) (T : Tb) (c : S) : TS := fun D σ H => ∃ H0 O0 δ Fs, SS W H0 O0 H σ δ Fs ∧ rqf W E0 H0 O0 H Fs (ex T c δ) D
def rdSs (W : Wd) (E0 : XK) (T : Tb) (cs : List S) : TS := fun D σ H => ∃ H0 O0 δ Fs, SS W H0 O0 H σ δ Fs ∧ rqf W E0 H0 O0 H Fs (exs T cs δ) D
section
variable {W : Wd} {E0 : XK} {H0 H H1 : Hp} {O0 : Addr → Prop} {Fs Fs1 : List (List Addr)} {D : Ends}
theorem rqf_none : ¬ rqf W E0 H0 O0 H Fs none D := fun h => h
theorem rqf_er (s : Same H0 H) {C : Nat} (h : rqf W E0 H0 O0 H Fs (some (.er C)) D) : ∀ H', Same H H' → E0 (.ref (W.ca C)) none H' := fun H' s' => h H' (s.trans s')
theorem rqf.evo {r : M Fl} (h : rqf W E0 H0 O0 H Fs r D) (e : Evo H Fs H1 Fs1) : rqf W E0 H0 O0 H1 Fs1 r D := by
  match r, h with
  | none, h => exact h
  | some (.er C), h => exact h
  | some (.ok (.nx δ')), h => exact fun σ' H' Fs' S' e' => h σ' H' Fs' S' (e.trans e')
  | some (.ok (.rt m d)), h => exact h
end
section
variable {W : Wd} {E0 : XK} {T : Tb} {X : Cx}
theorem s_nil : PSs X [] (rdSs W E0 T []) := pss_nil.imp fun D σ H ⟨H0, O0, δ, Fs, S, q⟩ => by
  simp only [exs] at q
  exact q σ H Fs S Evo.refl
theorem s_cons {st : Stmt} {rest : List Stmt} {c : S} {cs : List S} (h1 : PS X st (rdS W E0 T c)) (h2 : PSs X rest (rdSs W E0 T cs)) : PSs X (st :: rest) (rdSs W E0 T (c :: cs)) :=
  (pss_cons h1 h2).imp fun D σ H ⟨H0, O0, δ, Fs, S, q⟩ => by
    simp only [exs] at q
    refine ⟨H0, O0, δ, Fs, S, ?_⟩
    revert q
    cases ex T c δ with
    | none => exact fun h => h
    | some r =>
      cases r with
      | er C => exact fun h => h
      | ok fl =>
        cases fl with
        | rt m d => exact fun h => h
        | nx δ' => exact fun h σ' H' Fs' S' e' => ⟨H0, O0, δ', Fs', S', rqf.evo h e'⟩
theorem give_ok {H0 H H1 : Hp} {O0 : Addr → Prop} {σ : L2.St} {δ : Dn} {Fs : List (List Addr)} {ns : List Nat} {m : Md} {d : TW.D} {v : V} {F : List Addr} (S : SS W H0 O0 H σ δ Fs) (s1 : Same H H1) (n1 : ∀ a ∈ F, H a = none)
    (ow : Ow W H1 (fun q => av O0 Fs ns q ∨ q ∈ F) m d v F) : ∃ Fs2, SS W H0 (fun a => O0 a ∨ a ∈ F) H1 σ (give ns m d δ) Fs2 ∧ (∀ a ∈ Fs2.flatten, a ∈ Fs.flatten) ∧ Ow W H1 (fun a => (O0 a ∨ a ∈ Fs2.flatten) ∨ a ∈ F) m d v F := by
  have t1 : ∀ a ∈ F, H1 a ≠ none := fun a ha z => by
    obtain ⟨o, e, _⟩ := ow.there a ha
    rw [z] at e
    cases e
  have S1 := S.more s1 n1 t1
  unfold give
  split
  · split
    · rename_i c
      refine ⟨Fs, S1, fun a h => h, ?_⟩
      have := ow.dq c
      cases m with
      | dp => exact this
      | sh =>
        obtain ⟨rfl, r⟩ := ow
        exact Ow.sh_any r c
      | fl =>
        cases e : flatTop d with
        | false =>
          rw [Ow.fl_other e] at ow ⊢
          rw [closed_other e] at c
          exact ⟨ow.1, ow.2.any c⟩
        | true =>
          cases d with
          | lst ds =>
            obtain ⟨a, vs, e1, e2, h1, h2, h3⟩ := ow
            exact ⟨a, vs, e1, e2, h1, h2, Dqs.rp _ _ _ (Rps.dq _ _ h3 c) (fun _ z => by cases z)⟩
          | dic ks => exact this
          | _ => cases e
    · refine ⟨clr ns Fs, SS.frz ns S1, fun a h => (clr_mem ns h).1, ow.mono (Same.refl H1) fun a z => ?_⟩
      rcases z with (z | z) | z
      · exact .inl (.inl z)
      · obtain ⟨_, j, h1, h2⟩ := clr_mem ns z
        exact .inl (.inr ⟨j, h1, h2⟩)
      · exact .inr z
  · rename_i hn
    refine ⟨Fs, S1, fun a h => h, ow.mono (Same.refl H1) fun a z => ?_⟩
    rcases z with (z | z) | z
    · exact .inl (.inl z)
    · obtain ⟨j, hj⟩ := flat_ix z
      refine .inl (.inr ⟨j, fun hm => ?_, hj⟩)
      have hu : (match δ[j]? with | some s => ownS s | none => false) = false := by
        cases q : (match δ[j]? with | some s => ownS s | none => false) with
        | false => rfl
        | true => exact absurd (List.any_eq_true.mpr ⟨j, hm, q⟩) hn
      rw [S.unowned hu] at hj
      cases hj
    · exact .inr z
theorem put_keep {H0 H : Hp} {O0 : Addr → Prop} {σ : L2.St} {δ : Dn} {Fs : List (List Addr)} {F : List Addr} (S : SS W H0 (fun a => O0 a ∨ a ∈ F) H σ δ Fs) (hO : ∀ a ∈ F, ¬ O0 a) {i : Nat} {m : Md} {d : TW.D} {v : V} (nd : F.Nodup) (n0 : ∀ a ∈ F, H0 a = none)
    (ow : Ow W H (fun a => (O0 a ∨ a ∈ Fs.flatten) ∨ a ∈ F) m d v F) : ∃ F', SS W H0 O0 H (σ.set i (some v)) (δ.set i (some (keep m d))) (Fs.set i F') ∧ ∀ a ∈ F', a ∈ F := by
  unfold keep
  split
  · rename_i c
    have l : lfree d = true := by cases d <;> first | rfl | cases c
    have r : Rp W H (fun _ => False) d v := ow.rp (fun a z => z.elim) (fun a _ z => z)
    have hF : F = [] := by
      have q := ow
      cases m with
      | sh => exact q.1
      | dp => cases d <;> first | exact q.2 | cases c
      | fl => cases d <;> first | exact q.1 | cases c
    subst hF
    exact ⟨[], SS.put S (fun _ z => by cases z) List.nodup_nil (fun _ z => by cases z) ⟨rfl, r.any l⟩, fun _ z => z⟩
  · exact ⟨F, SS.put S hO nd n0 ow, fun _ z => z⟩
theorem s_asg {i : Nat} {x : Str} {e : Expr} {c : E} {pos pos' : Pos} (hN : X.N.Nodup) (he : PE X e (rdE W E0 T c)) (hi : X.N[i]? = some x := by rfl) (hx : Loc X.env.scope x := by first | exact Or.inl rfl | exact Or.inr rfl)
    (hs : swapsWith e (some (.Name x pos')) pos.line X.env = pure false := by rfl) (hf : X.fn x = true ∨ X.env.scope.names.lookup x = some .local := by first | exact .inl rfl | exact .inr rfl) :
    PS X (.Assign [.Name x pos'] e pos) (rdS W E0 T (.asg i c)) :=
  (ps_set hN hi hx he hs hf).imp fun D σ H ⟨H0, O0, δ, Fs, S, q⟩ => by
    simp only [ex] at q
    refine ⟨H0, O0, δ, Fs, S, rq_bnd' (G := fun z => rqf W E0 H0 O0 H Fs z D) rqf_none (fun C h => rqf_er S.same h) q fun p h1 => ?_⟩
    intro v H1 F s1 n1 nd1 ow1
    obtain ⟨Fs2, S2, sub, ow2⟩ := give_ok S s1 n1 ow1
    obtain ⟨F', S3, sF⟩ := put_keep (i := i) S2 (fun a ha z => S.oldT a z (n1 a ha)) nd1 (fun a ha => S.same.free (n1 a ha)) ow2
    refine h1 _ H1 _ S3 (Evo.grow s1 fun a ha => ?_)
    rcases mem_set_flat ha with z | ⟨j, _, z⟩
    · exact .inr (n1 a (sF a z))
    · exact .inl (sub a (mem_flat z))
theorem s_asgLc {i : Nat} {y : Str} {py : Pos} {elt tg iter : Expr} {ifs : List Expr} {scope : Scope} {own : List (Str × Nat)} {pos spos : Pos} {ts : List Nat} {one : Bool} {s : Sr} {cs : List E} {ce : E} (hc : X.calm = true) (hN : X.N.Nodup)
    (hi : PI X tg iter (rdI W E0 T s)) (ok : BlkOk X.N X.env.scope scope own) (hown : own.map (·.2) = ts)
    (hg : ∀ (s : Shared) (H : Hp) (C : Addr) (cl : List (Str × Addr)) (fp : List Addr), PG (X.blk s H scope (compEnvC scope cl C X.env) fp) tg (gT X.K ts one)) (ht : ∀ (s : Shared) (H : Hp) (C : Addr) (cl : List (Str × Addr)) (fp : List Addr), PTs (X.blk s H scope (compEnvC scope cl C X.env) fp) ifs (rdC W EF T cs))
    (he : ∀ (s : Shared) (H : Hp) (C : Addr) (cl : List (Str × Addr)) (fp : List Addr), PE (X.blk s H scope (compEnvC scope cl C X.env) fp) elt (rdE W EF T ce))
    (hy : X.N[i]? = some y := by rfl) (hyl : X.env.scope.names.lookup y = some .local := by rfl) (hsw : swapsWith (.ListComp elt [⟨tg, iter, ifs, 0⟩] scope pos) (some (.Name y py)) spos.line X.env = pure true := by exact sw_true rfl rfl rfl (by decide +kernel))
    (hs : ∀ x, foldedSetIterable iter X.env x = pure x := by intro _; rfl) :
    PS X (.Assign [.Name y py] (.ListComp elt [⟨tg, iter, ifs, 0⟩] scope pos) spos) (rdS W E0 T (.asg i (.comp ts one s cs ce))) :=
  (ps_setLc hc hN hy hyl hsw hi ok hg ht he hs).imp fun D σ H ⟨H0, O0, δ, Fs, S, q⟩ => by
    simp only [ex] at q
    refine rd_comp (X := X) (own := own) rfl hown σ H _ ⟨H0, O0, δ, Fs, S, rq_bnd' (G := fun z => rqf W E0 H0 O0 H Fs z D) rqf_none (fun C h => rqf_er S.same h) q fun p h1 => ?_⟩
    intro v H1 F s1 n1 nd1 ow1
    obtain ⟨Fs2, S2, sub, ow2⟩ := give_ok S s1 n1 ow1
    obtain ⟨F', S3, sF⟩ := put_keep (i := i) S2 (fun a ha z => S.oldT a z (n1 a ha)) nd1 (fun a ha => S.same.free (n1 a ha)) ow2
    refine h1 _ H1 _ S3 (Evo.grow s1 fun a ha => ?_)
    rcases mem_set_flat ha with z | ⟨j, _, z⟩
    · exact .inr (n1 a (sF a z))
    · exact .inl (sub a (mem_flat z))
theorem s_exp {e : Expr} {c : E} {pos : Pos} (he : PE X e (rdE W E0 T c)) (hs : swapsWith e none pos.line X.env = pure false := by rfl) : PS X (.Expr e pos) (rdS W E0 T (.exp c)) :=
  (ps_expr he hs).imp fun D σ H ⟨H0, O0, δ, Fs, S, q⟩ => by
    simp only [ex] at q
    refine ⟨H0, O0, δ, Fs, S, rq_bnd' (G := fun z => rqf W E0 H0 O0 H Fs z D) rqf_none (fun C h => rqf_er S.same h) q fun p h1 => ?_⟩
    intro v H1 F s1 n1 nd1 ow1
    exact h1 _ H1 _ (S.grow s1) (Evo.grow s1 fun a ha => .inl ha)
theorem s_if {c : Expr} {a b : List Stmt} {cc : E} {ca cb : List S} {pos : Pos} (hc : PT X c (rdT W E0 T cc)) (ha : PSs X a (rdSs W E0 T ca)) (hb : PSs X b (rdSs W E0 T cb)) : PS X (.If c a b pos) (rdS W E0 T (.ife cc ca cb)) :=
  (ps_if hc ha hb).imp fun D σ H ⟨H0, O0, δ, Fs, S, q⟩ => by
    have e : ex T (.ife cc ca cb) δ = bnd (evB T cc δ) fun k => if k then exs T ca δ else exs T cb δ := by
      unfold evB
      simp only [ex]
      cases ev T cc δ with
      | none => rfl
      | some r =>
        cases r with
        | er C => rfl
        | ok p =>
          show (match boolD p.2 with | none => none | some true => exs T ca δ | some false => exs T cb δ) = bnd (lift (boolD p.2)) _
          cases boolD p.2 with
          | none => rfl
          | some k => cases k <;> rfl
    rw [e] at q
    refine ⟨H0, O0, δ, Fs, S, rqb_bnd' (G := fun z => rqf W E0 H0 O0 H Fs z D) rqf_none (fun C h => rqf_er S.same h) q fun k h1 H' s => ?_⟩
    have ev1 : Evo H Fs H' Fs := Evo.grow s fun a ha => .inl ha
    cases k with
    | true =>
      rw [if_pos rfl]
      exact ⟨H0, O0, δ, Fs, S.grow s, rqf.evo h1 ev1⟩
    | false =>
      rw [if_neg (by decide)]
      exact ⟨H0, O0, δ, Fs, S.grow s, rqf.evo h1 ev1⟩
theorem s_aug {i : Nat} {x : Str} {e : Expr} {c : E} {pos pos' : Pos} (hN : X.N.Nodup) (he : PE X e (rdE W E0 T c)) (hi : X.N[i]? = some x := by rfl) (hx : Loc X.env.scope x := by first | exact Or.inl rfl | exact Or.inr rfl)
    (hf : X.fn x = true ∨ X.env.scope.names.lookup x = some .local := by first | exact .inl rfl | exact .inr rfl) : PS X (.AugAssign (.Name x pos') .Add e pos) (rdS W E0 T (.aug i c)) :=
  (ps_aug hN hi hx he ip_add hf).imp fun D σ H ⟨H0, O0, δ, Fs, S, q⟩ => by
    simp only [ex] at q
    cases ei : δ[i]? with
    | none => rw [ei] at q; exact q.elim
    | some s =>
      rw [ei] at q
      cases s with
      | none => exact q.elim
      | some pr =>
        obtain ⟨m, d⟩ := pr
        cases d with
        | int n =>
          have q : rqf W E0 H0 O0 H Fs (bnd (ev T c δ) fun p => lift ((intD p.2).map fun k => Fl.nx (δ.set i (some (.sh, .int (n + k)))))) D := q
          obtain ⟨v, h1, h2⟩ := S.var (p := (m, .int n)) (i := i) ei (T := [i]) (by simp)
          have h2 : v = .int n := h2
          subst h2
          refine ⟨.int n, h1, H0, O0, δ, Fs, S, rq_bnd' (G := fun z => rqf W E0 H0 O0 H Fs z D) rqf_none (fun C h => rqf_er S.same h) q fun p h1 => ?_⟩
          intro w H1 F s1 n1 nd1 ow1
          cases ek : intD p.2 with
          | none => rw [ek] at h1; exact h1.elim
          | some k =>
            rw [ek] at h1
            have r := ow1.rpv (O1 := fun _ => False) (fun _ z => z.elim) (fun _ z => z.elim) n1
            rw [intD_eq ek] at r
            exact ⟨n, k, rfl, r, h1 _ H1 _ ((S.grow s1).putS (d := .int (n + k)) rfl) (Evo.grow s1 fun a ha => .inl (set_sub a ha))⟩
        | _ => exact q.elim
theorem gives_ok {H0 H H1 : Hp} {O0 : Addr → Prop} {σ : L2.St} {δ : Dn} {Fs : List (List Addr)} {ns : List Nat} {ps : List (Md × TW.D)} {vs : List V} {Gs : List (List Addr)} (S : SS W H0 O0 H σ δ Fs) (s1 : Same H H1) (n1 : ∀ a ∈ Gs.flatten, H a = none)
    (ow : Ows W H1 (fun q => av O0 Fs ns q ∨ q ∈ Gs.flatten) ps vs Gs) : ∃ Fs2, SS W H0 (fun a => O0 a ∨ a ∈ Gs.flatten) H1 σ (gives ns ps δ) Fs2 ∧ (∀ a ∈ Fs2.flatten, a ∈ Fs.flatten) ∧ Ows W H1 (fun a => (O0 a ∨ a ∈ Fs2.flatten) ∨ a ∈ Gs.flatten) ps vs Gs := by
  have t1 : ∀ a ∈ Gs.flatten, H1 a ≠ none := fun a ha z => by
    obtain ⟨o, e, _⟩ := ow.there a ha
    rw [z] at e
    cases e
  have S1 := S.more s1 n1 t1
  unfold gives
  split
  · split
    · rename_i c
      refine ⟨Fs, S1, fun a h => h, ?_⟩
      clear t1 S1 n1
      -- closed values reach no other cells
      have key : ∀ {ps : List (Md × TW.D)} {vs : List V} {Gs : List (List Addr)} {O O' : Addr → Prop}, closeds ps = true → Ows W H1 O ps vs Gs → Ows W H1 O' ps vs Gs := by
        intro ps
        induction ps with
        | nil => exact fun _ h => h
        | cons p ps ih =>
          intro vs Gs O O' c h
          obtain ⟨w, r, G, Fr, rfl, rfl, h1, h2⟩ := h
          obtain ⟨c1, c2⟩ := Bool.and_eq_true_iff.mp (show (closed p.1 p.2 && closeds ps) = true from c)
          refine ⟨w, r, G, Fr, rfl, rfl, ?_, ih c2 h2⟩
          have hd := h1.dq c1
          obtain ⟨m, d⟩ := p
          cases m with
          | dp => exact hd
          | sh =>
            obtain ⟨rfl, r⟩ := h1
            exact Ow.sh_any r c1
          | fl =>
            cases e : flatTop d with
            | false =>
              have h1 : Ow W H1 O .fl d w G := h1
              show Ow W H1 O' .fl d w G
              rw [Ow.fl_other e] at h1 ⊢
              have c1 : closed .fl d = true := c1
              rw [closed_other e] at c1
              exact ⟨h1.1, h1.2.any c1⟩
            | true =>
              cases d with
              | lst ds =>
                obtain ⟨a, vs, e1, e2, g1, g2, g3⟩ := h1
                exact ⟨a, vs, e1, e2, g1, g2, Dqs.rp _ _ _ (Rps.dq _ _ g3 c1) (fun _ z => by cases z)⟩
              | dic ks => exact hd
              | _ => cases e
      exact key c ow
    · refine ⟨clr ns Fs, SS.frz ns S1, fun a h => (clr_mem ns h).1, ow.mono (Same.refl H1) fun a z => ?_⟩
      rcases z with (z | z) | z
      · exact .inl (.inl z)
      · obtain ⟨_, j, h1, h2⟩ := clr_mem ns z
        exact .inl (.inr ⟨j, h1, h2⟩)
      · exact .inr z
  · rename_i hn
    refine ⟨Fs, S1, fun a h => h, ow.mono (Same.refl H1) fun a z => ?_⟩
    rcases z with (z | z) | z
    · exact .inl (.inl z)
    · obtain ⟨j, hj⟩ := flat_ix z
      refine .inl (.inr ⟨j, fun hm => ?_, hj⟩)
      have hu : (match δ[j]? with | some s => ownS s | none => false) = false := by
        cases q : (match δ[j]? with | some s => ownS s | none => false) with
        | false => rfl
        | true => exact absurd (List.any_eq_true.mpr ⟨j, hm, q⟩) hn
      rw [S.unowned hu] at hj
      cases hj
    · exact .inr z
def setV : List Nat → List V → L2.St → L2.St
  | i :: is, v :: vs, σ => setV is vs (σ.set i (some v))
  | _, _, σ => σ
theorem put_all {H0 H : Hp} {O0 : Addr → Prop} : ∀ {is : List Nat} {ps : List (Md × TW.D)} {vs : List V} {Gs : List (List Addr)} {σ : L2.St} {δ δ' : Dn} {Fs : List (List Addr)}, SS W H0 (fun a => O0 a ∨ a ∈ Gs.flatten) H σ δ Fs → (∀ a ∈ Gs.flatten, ¬ O0 a) → Gs.flatten.Nodup → (∀ a ∈ Gs.flatten, H0 a = none) →
    Ows W H (fun a => (O0 a ∨ a ∈ Fs.flatten) ∨ a ∈ Gs.flatten) ps vs Gs → setAll is ps δ = some δ' → ∃ Fs', SS W H0 O0 H (setV is vs σ) δ' Fs' ∧ ∀ a ∈ Fs'.flatten, a ∈ Fs.flatten ∨ a ∈ Gs.flatten
  | [], [], vs, Gs, σ, δ, δ', Fs, S, hO, nd, n0, ow, h => by
    obtain ⟨rfl, rfl⟩ := ow
    cases h
    exact ⟨Fs, ⟨S.same, S.len, S.lenF, fun j p e => let ⟨w, h1, h2⟩ := S.slot j p e; ⟨w, h1, h2.mono (Same.refl H) fun a z => z.elim (fun z => .inl (.inl z)) .inr⟩, S.nod, S.new, fun a z => S.offF a (.inl z), fun a z => S.oldT a (.inl z), S.there, S.mt, S.tb⟩, fun a h => .inl h⟩
  | i :: is, p :: ps, vs, Gs, σ, δ, δ', Fs, S, hO, nd, n0, ow, h => by
    obtain ⟨w, r, G, Fr, rfl, rfl, h1, h2⟩ := ow
    have h : setAll is ps (δ.set i (some (keep p.1 p.2))) = some δ' := h
    rw [flat_cons] at nd
    obtain ⟨nd1, nd2, nd3⟩ := List.nodup_append.mp nd
    have S' : SS W H0 (fun a => (O0 a ∨ a ∈ Fr.flatten) ∨ a ∈ G) H σ δ Fs := by
      refine ⟨S.same, S.len, S.lenF, fun j p e => let ⟨w, h1, h2⟩ := S.slot j p e; ⟨w, h1, h2.mono (Same.refl H) fun a z => ?_⟩, S.nod, S.new, fun a z => S.offF a ?_, fun a z => S.oldT a ?_, S.there, S.mt, S.tb⟩
      · rcases z with ((z | z) | z) | z
        · exact .inl (.inl z)
        · exact .inl (.inr (List.mem_append_right _ z))
        · exact .inl (.inr (List.mem_append_left _ z))
        · exact .inr z
      · rcases z with (z | z) | z
        · exact .inl z
        · exact .inr (List.mem_append_right _ z)
        · exact .inr (List.mem_append_left _ z)
      · rcases z with (z | z) | z
        · exact .inl z
        · exact .inr (List.mem_append_right _ z)
        · exact .inr (List.mem_append_left _ z)
    have k1 : ∀ a ∈ G, ¬ (O0 a ∨ a ∈ Fr.flatten) := fun a ha z => by
      rcases z with z | z
      · exact hO a (List.mem_append_left _ ha) z
      · exact nd3 a ha a z rfl
    have k2 : Ow W H (fun a => ((O0 a ∨ a ∈ Fr.flatten) ∨ a ∈ Fs.flatten) ∨ a ∈ G) p.1 p.2 w G := h1.mono (Same.refl H) fun a z => by
      rcases z with ((z | z) | z) | z
      · exact .inl (.inl z)
      · exact .inr (List.mem_append_right _ z)
      · exact .inl (.inr z)
      · exact .inr (List.mem_append_left _ z)
    obtain ⟨F', S2, sF⟩ := put_keep (O0 := fun a => O0 a ∨ a ∈ Fr.flatten) (i := i) (m := p.1) (d := p.2) (v := w) S' k1 nd1 (fun a ha => n0 a (List.mem_append_left _ ha)) k2
    have hh : ∀ a, a ∈ (Fs.set i F').flatten → a ∈ Fs.flatten ∨ a ∈ G := fun a ha => by
      rcases mem_set_flat ha with z | ⟨j, _, z⟩
      · exact .inr (sF a z)
      · exact .inl (mem_flat z)
    have k3 : Ows W H (fun a => (O0 a ∨ a ∈ (Fs.set i F').flatten) ∨ a ∈ Fr.flatten) ps r Fr := h2.mono (Same.refl H) fun a z => by
      rcases z with (z | z) | z
      · exact .inl (.inl z)
      · rcases hh a z with z | z
        · exact .inl (.inr z)
        · exact .inr (List.mem_append_left _ z)
      · exact .inr (List.mem_append_right _ z)
    obtain ⟨Fs', S3, s3⟩ := put_all (is := is) (ps := ps) S2 (fun a ha => hO a (List.mem_append_right _ ha)) nd2 (fun a ha => n0 a (List.mem_append_right _ ha)) k3 h
    refine ⟨Fs', S3, fun a ha => ?_⟩
    rcases s3 a ha with z | z
    · rcases hh a z with z | z
      · exact .inl z
      · exact .inr (List.mem_append_left _ z)
    · exact .inr (List.mem_append_right _ z)
  | [], p :: ps, vs, Gs, σ, δ, δ', Fs, S, hO, nd, n0, ow, h => by cases h
  | i :: is, [], vs, Gs, σ, δ, δ', Fs, S, hO, nd, n0, ow, h => by cases h
theorem rd_par {cs : List E} {is : List Nat} {D : Ends} {σ : L2.St} {H : Hp} (h : rdS W E0 T (.par is cs) D σ H) : rdA W E0 T cs σ H (fun vs H1 => D.nx (setV is vs σ) H1 ∧ vs.length = cs.length) := by
  obtain ⟨H0, O0, δ, Fs, S, q⟩ := h
  simp only [ex] at q
  refine ⟨H0, O0, δ, Fs, S, rqs_bnd2 (G := fun z => rqf W E0 H0 O0 H Fs z D) rqf_none (fun C h => rqf_er S.same h) q fun ps e h1 vs H1 Gs s1 n1 nd1 ow1 => ⟨?_, by rw [ow1.length, evs_len e]⟩⟩
  obtain ⟨Fs2, S2, sub, ow2⟩ := gives_ok S s1 n1 ow1
  cases ea : setAll is ps (gives (nms cs) ps δ) with
  | none => rw [ea] at h1; exact h1.elim
  | some δ' =>
    rw [ea] at h1
    obtain ⟨Fs3, S3, s3⟩ := put_all S2 (fun a ha z => S.oldT a z (n1 a ha)) nd1 (fun a ha => S.same.free (n1 a ha)) ow2 ea
    refine h1 _ H1 _ S3 (Evo.grow s1 fun a ha => ?_)
    rcases s3 a ha with z | z
    · exact .inl (sub a z)
    · exact .inr (n1 a z)
theorem s_par {i j : Nat} {x y : Str} {a b : Expr} {ca cb : E} {px py pt pos : Pos} {kt k2 pt2} (hc : X.calm = true) (hN : X.N.Nodup) (ha : PA X [a, b] (rdA W E0 T [ca, cb])) (hi : X.N[i]? = some x := by rfl) (hj : X.N[j]? = some y := by rfl) (hij : i ≠ j := by decide)
    (hx : X.env.scope.names.lookup x = some .local := by rfl) (hy : X.env.scope.names.lookup y = some .local := by rfl)
    (hw : swappedStores [.Tuple [.Name x px, .Name y py] kt pt] (.Tuple [a, b] k2 pt2) X.env = pure (some [x, y]) := by rfl) (hs : swapsWithSole [.Tuple [.Name x px, .Name y py] kt pt] (.Tuple [a, b] k2 pt2) pos.line X.env = pure false := by rfl) :
    PS X (.Assign [.Tuple [.Name x px, .Name y py] kt pt] (.Tuple [a, b] k2 pt2) pos) (rdS W E0 T (.par [i, j] [ca, cb])) :=
  (ps_par hc hN hi hj hij hx hy ha hw hs).imp fun D σ H h => by
    have h := rd_par h
    obtain ⟨H0, O0, δ, Fs, S, q⟩ := h
    refine ⟨H0, O0, δ, Fs, S, ?_⟩
    revert q
    cases evs T [ca, cb] δ with
    | none => exact fun h => h
    | some r =>
      cases r with
      | er C => exact fun h => h
      | ok ps =>
        intro q vs H1 Gs s1 n1 nd1 ow1
        obtain ⟨q1, q2⟩ := q vs H1 Gs s1 n1 nd1 ow1
        match vs, q2, q1 with
        | [v, w], _, q1 => exact ⟨v, w, rfl, q1⟩
theorem s_par3 {i j l : Nat} {x y z : Str} {a b c : Expr} {ca cb cc : E} {px py pz pt pos : Pos} {kt k2 pt2} (hc : X.calm = true) (hN : X.N.Nodup) (ha : PA X [a, b, c] (rdA W E0 T [ca, cb, cc])) (hi : X.N[i]? = some x := by rfl) (hj : X.N[j]? = some y := by rfl) (hl : X.N[l]? = some z := by rfl)
    (hij : i ≠ j := by decide) (hil : i ≠ l := by decide) (hjl : j ≠ l := by decide) (hx : X.env.scope.names.lookup x = some .local := by rfl) (hy : X.env.scope.names.lookup y = some .local := by rfl) (hz : X.env.scope.names.lookup z = some .local := by rfl)
    (hw : swappedStores [.Tuple [.Name x px, .Name y py, .Name z pz] kt pt] (.Tuple [a, b, c] k2 pt2) X.env = pure (some [x, y, z]) := by rfl) (hs : swapsWithSole [.Tuple [.Name x px, .Name y py, .Name z pz] kt pt] (.Tuple [a, b, c] k2 pt2) pos.line X.env = pure false := by rfl) :
    PS X (.Assign [.Tuple [.Name x px, .Name y py, .Name z pz] kt pt] (.Tuple [a, b, c] k2 pt2) pos) (rdS W E0 T (.par [i, j, l] [ca, cb, cc])) :=
  (ps_par3 hc hN hi hj hl hij hil hjl hx hy hz ha hw hs).imp fun D σ H h => by
    have h := rd_par h
    obtain ⟨H0, O0, δ, Fs, S, q⟩ := h
    refine ⟨H0, O0, δ, Fs, S, ?_⟩
    revert q
    cases evs T [ca, cb, cc] δ with
    | none => exact fun h => h
    | some r =>
      cases r with
      | er C => exact fun h => h
      | ok ps =>
        intro q vs H1 Gs s1 n1 nd1 ow1
        obtain ⟨q1, q2⟩ := q vs H1 Gs s1 n1 nd1 ow1
        match vs, q2, q1 with
        | [u, v, w], _, q1 => exact ⟨u, v, w, rfl, q1⟩
end
end TW

set_option Elab.async false
set_option linter.all false
set_option maxRecDepth 100000
set_option maxHeartbeats 4000000
namespace TW
open PySem PySem.Spec PyProof.Rows L2
variable [TabT]

section
variable {W : Wd} {E0 : XK} {T : Tb} {X : Cx}
theorem rd_unp {c : E} {i j : Nat} {D : Ends} {σ : L2.St} {H : Hp} (h : rdS W E0 T (.unp [i, j] c) D σ H) : tAsg (rdE W E0 T c) (gTup X.K 2 (gCons (gName i) (gCons (gName j) gNil))) D σ H := by
  obtain ⟨H0, O0, δ, Fs, S, q⟩ := h
  simp only [ex] at q
  refine ⟨H0, O0, δ, Fs, S, rq_bnd' (G := fun z => rqf W E0 H0 O0 H Fs z D) rqf_none (fun C h => rqf_er S.same h) q fun p h1 => ?_⟩
  intro v H1 F s1 n1 nd1 ow1
  obtain ⟨Fs2, S2, sub, ow2⟩ := give_ok S s1 n1 ow1
  have S3 : SS W H0 O0 H1 σ (give (nm c) p.1 p.2 δ) Fs2 := ⟨S2.same, S2.len, S2.lenF, fun j p e => let ⟨w, h1, h2⟩ := S2.slot j p e; ⟨w, h1, h2.mono (Same.refl _) fun a z => z.elim (fun z => .inl (.inl z)) .inr⟩, S2.nod, S2.new, fun a z => S2.offF a (.inl z), fun a z => S2.oldT a (.inl z), S2.there, S2.mt, S2.tb⟩
  have r : Rp W H1 (fun a => O0 a ∨ a ∈ Fs2.flatten) p.2 v := ow2.rp (fun a z => .inl z) fun a ha z => by
    rcases z with z | z
    · exact S.oldT a z (n1 a ha)
    · exact S2.offF a (.inr ha) z
  cases hp : p.2 with
  | tup ds =>
    rw [hp] at r
    have h1 : rqf W E0 H0 O0 H Fs (match p.2 with | .tup ds => lift ((setSh [i, j] ds (give (nm c) p.1 p.2 δ)).map Fl.nx) | _ => none) D := h1
    rw [hp] at h1
    rw [hp] at S3
    have h1 : rqf W E0 H0 O0 H Fs (lift ((setSh [i, j] ds (give (nm c) p.1 (.tup ds) δ)).map Fl.nx)) D := h1
    match ds, h1, r, S3 with
    | [d1, d2], h1, r, S3 =>
      obtain ⟨a, vs, rfl, g1, g2, v1, r1, rfl, ra, v2, r2, rfl, rb, r3⟩ := r
      have r3 : r2 = [] := r3
      subst r3
      refine ⟨a, [v1, v2], rfl, .inl (.inl g1), rfl, v1, [v2], rfl, v2, [], rfl, rfl, ?_⟩
      refine h1 _ H1 _ ((S3.putS (i := i) ra).putS (i := j) (Rp.mono (Same.refl _) (fun a z => z.elim .inl fun z => .inr (set_sub a z)) _ _ rb)) (Evo.grow s1 fun a ha => .inl (sub a (set_sub a (set_sub a ha))))
    | [], h1, _, _ => exact h1.elim
    | [_], h1, _, _ => exact h1.elim
    | _ :: _ :: _ :: _, h1, _, _ => exact h1.elim
  | _ =>
    have h1 : rqf W E0 H0 O0 H Fs (match p.2 with | .tup ds => lift ((setSh [i, j] ds (give (nm c) p.1 p.2 δ)).map Fl.nx) | _ => none) D := h1
    rw [hp] at h1
    exact h1.elim
theorem s_unp {i j : Nat} {x y : Str} {e : Expr} {c : E} {px py pt pos : Pos} {k : Nat} (hc : X.calm = true) (hN : X.N.Nodup) (he : PE X e (rdE W E0 T c)) (hi : X.N[i]? = some x := by rfl) (hj : X.N[j]? = some y := by rfl)
    (hx : Loc X.env.scope x := by first | exact Or.inl rfl | exact Or.inr rfl) (hy : Loc X.env.scope y := by first | exact Or.inl rfl | exact Or.inr rfl)
    (hfx : X.fn x = true ∨ X.env.scope.names.lookup x = some .local := by first | exact .inl rfl | exact .inr rfl) (hfy : X.fn y = true ∨ X.env.scope.names.lookup y = some .local := by first | exact .inl rfl | exact .inr rfl)
    (hs : swapsWithSole [.Tuple [.Name x px, .Name y py] k pt] e pos.line X.env = pure false := by rfl) (hw : swappedStores [.Tuple [.Name x px, .Name y py] k pt] e X.env = pure none := by rfl)
    (h1 : (assignEach [.Tuple [.Name x px, .Name y py] k pt] X.env).map (·.2) = [assign (.Tuple [.Name x px, .Name y py] k pt) X.env] := by rfl) :
    PS X (.Assign [.Tuple [.Name x px, .Name y py] k pt] e pos) (rdS W E0 T (.unp [i, j] c)) :=
  (ps_asg he (pg_tup hc (pgs_cons (pg_name hN hi hx hfx) (pgs_cons (pg_name hN hj hy hfy) pgs_nil))) hs hw h1).imp fun D σ H h => rd_unp h

def rqr (W : Wd) (E0 : XK) (O0 : Addr → Prop) (H : Hp) (Fs : List (List Addr)) (ns : List Nat) (r : M (Md × D)) (Q : VK) : Prop := match r with
  | none => False
  | some (.er C) => ∀ H', Same H H' → E0 (.ref (W.ca C)) none H'
  | some (.ok p) => ∀ v H' F, Same H H' → (∀ a ∈ F, H a = none ∨ ∃ i, i ∈ ns ∧ a ∈ Fs.getD i []) → F.Nodup → Ow W H' (fun q => O0 q ∨ q ∈ F) p.1 p.2 v F → Q v H'
def rdR (W : Wd) (E0 : XK) (T : Tb) (c : E) : TE := fun σ H Q => ∃ H0 O0 δ Fs, SS W H0 O0 H σ δ Fs ∧ rqr W E0 O0 H Fs (mv c) (evr T c δ) Q
def rqrs (W : Wd) (E0 : XK) (O0 : Addr → Prop) (H : Hp) (Fs : List (List Addr)) (ns : List Nat) (r : M (List (Md × D))) (Q : List V → Hp → Prop) : Prop := match r with
  | none => False
  | some (.er C) => ∀ H', Same H H' → E0 (.ref (W.ca C)) none H'
  | some (.ok ps) => ∀ vs H' Gs, Same H H' → (∀ a ∈ Gs.flatten, H a = none ∨ ∃ i, i ∈ ns ∧ a ∈ Fs.getD i []) → (ns.Nodup → Gs.flatten.Nodup) → Ows W H' O0 ps vs Gs → Q vs H'
def rdRA (W : Wd) (E0 : XK) (T : Tb) (cs : List E) : TA := fun σ H Q => ∃ H0 O0 δ Fs, SS W H0 O0 H σ δ Fs ∧ rqrs W E0 O0 H Fs (mvs cs) (evrs T cs δ) Q
theorem rqr.mono {O0 : Addr → Prop} {H H1 : Hp} {Fs : List (List Addr)} {ns ns' : List Nat} {r : M (Md × D)} {Q : VK} (h : rqr W E0 O0 H Fs ns r Q) (s : Same H H1) (hn : ∀ i ∈ ns', i ∈ ns) : rqr W E0 O0 H1 Fs ns' r Q := by
  match r, h with
  | none, h => exact h
  | some (.er C), h => exact fun H' s' => h H' (s.trans s')
  | some (.ok p), h => exact fun v H' F s' n nd ow => h v H' F (s.trans s') (fun a ha => (n a ha).imp s.free fun ⟨i, h1, h2⟩ => ⟨i, hn i h1, h2⟩) nd ow
theorem r_var (i : Nat) {x : Str} {pos : Pos} (hN : X.N[i]? = some x := by rfl) (hv : Vis X.env.scope x := by first | exact Or.inl rfl | exact Or.inr (Or.inl rfl) | exact Or.inr (Or.inr rfl)) (hd : (x == ("__debug__" : Str)) = false := by decide)
    (hcd : (x == ("__classdict__" : Str)) = false := by decide) : PE X (.Name x pos) (rdR W E0 T (.var i)) := (pv i hN hv hd hcd).imp fun σ H Q ⟨H0, O0, δ, Fs, S, q⟩ => by
  simp only [evr] at q
  cases e : δ[i]? with
  | none => rw [e] at q; exact q.elim
  | some o =>
    cases o with
    | none => rw [e] at q; exact q.elim
    | some p =>
      rw [e] at q
      obtain ⟨v, h1, h2⟩ := S.slot i p e
      refine ⟨v, h1, q v H (Fs.getD i []) (Same.refl H) (fun a ha => .inr ⟨i, by simp [mv], ha⟩) ?_ (h2.mono (Same.refl H) fun a z => z.imp_right mem_flat)⟩
      have nd := S.nod
      clear h2 h1 q e
      cases hf : Fs[i]? with
      | none =>
        rw [List.getD_eq_getElem?_getD, hf]
        exact List.nodup_nil
      | some F =>
        rw [List.getD_eq_getElem?_getD, hf]
        exact nd.sublist (List.sublist_flatten_of_mem (List.mem_of_getElem? hf))
theorem r_of {e : Expr} {c : E} (h : PE X e (rdE W E0 T c)) (he : ∀ δ, evr T c δ = ev T c δ := by intro _; rfl) : PE X e (rdR W E0 T c) := h.imp fun σ H Q ⟨H0, O0, δ, Fs, S, q⟩ => by
  refine ⟨H0, O0, δ, Fs, S, ?_⟩
  rw [he] at q
  revert q
  cases ev T c δ with
  | none => exact fun h => h
  | some r =>
    cases r with
    | er C => exact fun h => h
    | ok p => exact fun h v H' F s n nd ow => h v H' F s (fun a ha => .inl (n a ha)) nd (ow.mono (Same.refl _) fun a z => z.imp_left .inl)
theorem ra_nil : PA X [] (rdRA W E0 T []) := pa_nil.imp fun σ H Q ⟨H0, O0, δ, Fs, S, q⟩ => by
  simp only [evrs] at q
  exact q [] H [] (Same.refl H) (fun _ z => by cases z) (fun _ => List.nodup_nil) ⟨rfl, rfl⟩
theorem ra_cons {e : Expr} {es : List Expr} {c : E} {cs : List E} (he : PE X e (rdR W E0 T c)) (hs : PA X es (rdRA W E0 T cs)) (hst : starEach (e :: es) X.env = (false, eval e X.env) :: starEach es X.env := by rfl) : PA X (e :: es) (rdRA W E0 T (c :: cs)) :=
  (pa_cons he hs hst).imp fun σ H Q ⟨H0, O0, δ, Fs, S, q⟩ => by
    simp only [evrs, mvs] at q
    refine ⟨H0, O0, δ, Fs, S, ?_⟩
    revert q
    cases evr T c δ with
    | none => exact fun h => h
    | some r =>
      cases r with
      | er C => exact fun h => h
      | ok p =>
        intro q v1 H1 F1 s1 n1 nd1 ow1
        have q : rqrs W E0 O0 H Fs (mv c ++ mvs cs) (bnd (evrs T cs δ) fun ps => ok (p :: ps)) Q := q
        refine ⟨H0, O0, δ, Fs, S.grow s1, ?_⟩
        revert q
        cases evrs T cs δ with
        | none => exact fun h => h
        | some r =>
          cases r with
          | er C => exact fun h H' s' => h H' (s1.trans s')
          | ok ps =>
            intro q vs H2 Gs s2 n2 nd2 ow2
            have t1 : ∀ a ∈ F1, H1 a ≠ none := fun a ha z => by
              obtain ⟨o, e, _⟩ := ow1.there a ha
              rw [z] at e
              cases e
            refine q (v1 :: vs) H2 (F1 :: Gs) (s1.trans s2) (fun a ha => ?_) (fun nn => ?_) ⟨v1, vs, F1, Gs, rfl, rfl, ow1.mono s2 (fun a z => .inl z), ow2⟩
            · rcases List.mem_append.mp (show a ∈ F1 ++ Gs.flatten from ha) with ha | ha
              · exact (n1 a ha).imp_right fun ⟨i, h1, h2⟩ => ⟨i, List.mem_append_left _ h1, h2⟩
              · exact (n2 a ha).imp s1.free fun ⟨i, h1, h2⟩ => ⟨i, List.mem_append_right _ h1, h2⟩
            · obtain ⟨k1, k2, k3⟩ := List.nodup_append.mp nn
              rw [flat_cons]
              refine List.nodup_append.mpr ⟨nd1, nd2 k2, fun a ha b hb e => ?_⟩
              subst e
              rcases n2 a hb with z | ⟨j, j1, j2⟩
              · exact t1 a ha z
              · rcases n1 a ha with z | ⟨i, i1, i2⟩
                · obtain ⟨o, e, _⟩ := S.there a (mem_flat j2)
                  rw [z] at e
                  cases e
                · exact k3 i i1 j j1 (flat_inj S.nod i2 j2)
theorem evrs_len : ∀ {cs : List E} {δ : Dn} {ps : List (Md × D)}, evrs T cs δ = some (.ok ps) → ps.length = cs.length
  | [], δ, ps, h => by
    simp only [evrs] at h
    cases h
    rfl
  | c :: cs, δ, ps, h => by
    simp only [evrs] at h
    cases e : evr T c δ with
    | none => rw [e] at h; cases h
    | some r =>
      cases r with
      | er C => rw [e] at h; cases h
      | ok p =>
        rw [e] at h
        have h : bnd (evrs T cs δ) (fun ps => ok (p :: ps)) = some (.ok ps) := h
        cases e2 : evrs T cs δ with
        | none => rw [e2] at h; cases h
        | some r2 =>
          cases r2 with
          | er C => rw [e2] at h; cases h
          | ok qs =>
            rw [e2] at h
            cases h
            rw [List.length_cons, List.length_cons, evrs_len e2]
theorem r_tup {es : List Expr} {cs : List E} {x1} {pos : Pos} (h : PA X es (rdRA W E0 T cs)) (hl : Nat.ble cs.length 1000 = true := by rfl) : PE X (.Tuple es x1 pos) (rdR W E0 T (.tup cs)) :=
  (pe_tup h).imp fun σ H Q ⟨H0, O0, δ, Fs, S, q⟩ => by
    simp only [evr, mv] at q
    refine ⟨H0, O0, δ, Fs, S, ?_⟩
    revert q
    cases er : evrs T cs δ with
    | none => exact fun h => h
    | some r =>
      cases r with
      | er C => exact fun h => h
      | ok ps =>
        intro q vs H1 Gs s1 n1 nd1 ow1
        have hl2 : vs.length ≤ sizeLine := by
          rw [ow1.length, evrs_len er]
          exact len_ok hl
        have q : ∀ v H' F, Same H H' → (∀ a ∈ F, H a = none ∨ ∃ i, i ∈ mvs cs ∧ a ∈ Fs.getD i []) → F.Nodup → Ow W H' (fun q => O0 q ∨ q ∈ F) (if (mvs cs).Nodup then tupM ps else .sh) (.tup (ps.map Prod.snd)) v F → Q v H' := q
        refine ⟨hl2, fun p np => ?_⟩
        have s2 := same_new (o := .tup vs) np
        have rr : Rps W H1 O0 (ps.map Prod.snd) vs := ow1.rps (fun a z => z) fun a ha z => by
          rcases n1 a ha with h | ⟨i, _, h⟩
          · exact S.oldT a z h
          · exact S.offF a z (mem_flat h)
        have share : ∀ m, m = Md.sh → Ow W (L2.upd H1 p (.tup vs)) (fun q => O0 q ∨ q ∈ ([] : List Addr)) m (.tup (ps.map Prod.snd)) (.ref p) [] := fun m e => by
          rw [e]
          exact ⟨rfl, p, vs, rfl, upd_same, hl2, Rps.mono s2 (fun a z => z.elim id fun q => by cases q) _ _ rr⟩
        by_cases hn : (mvs cs).Nodup
        · rw [if_pos hn] at q
          unfold tupM at q
          split at q
          · rename_i c
            exact q _ _ Gs.flatten (s1.trans s2) n1 (nd1 hn) ⟨p, vs, rfl, upd_same, hl2, Dqs.mono s2 _ _ _ (ow1.dqs c)⟩
          · exact q _ _ [] (s1.trans s2) (fun _ z => by cases z) List.nodup_nil (share _ rfl)
        · rw [if_neg hn] at q
          exact q _ _ [] (s1.trans s2) (fun _ z => by cases z) List.nodup_nil (share _ rfl)
theorem s_ret {e : Expr} {c : E} {pos : Pos} (he : PE X e (rdR W E0 T c)) : PS X (.Return (some e) pos) (rdS W E0 T (.ret c)) :=
  (ps_ret he).imp fun D σ H ⟨H0, O0, δ, Fs, S, q⟩ => by
    simp only [ex] at q
    refine ⟨H0, O0, δ, Fs, S, ?_⟩
    revert q
    cases evr T c δ with
    | none => exact fun h => h
    | some r =>
      cases r with
      | er C => exact fun h => rqf_er S.same h
      | ok p =>
        intro q v H1 F s1 n1 nd1 ow1
        refine q v H1 F (S.same.trans s1) (fun a ha => ?_) nd1 ow1
        rcases n1 a ha with h | ⟨i, _, h⟩
        · exact S.same.free h
        · exact S.new a (mem_flat h)
theorem s_rai {C : Nat} {x m : Str} {j : Nat} {p p2 pos pos' : Pos} (hK : X.K = W.K) (hc : X.calm = true) (tk : L2N.Takes X (fun cls d _ H => E0 cls d H)) (q : PySem.W.excIn W.K (W.ca C) He.veBase "ValueError.__new__" = true) (gC : X.mg x = some (.ref (W.ca C))) (kC : PySem.W.keepIn W.K (.ref (W.ca C)) = true)
    (bP : PySem.W.subIn W.K (.ref (W.ca C)) (.type "BaseException") = some true) (tP : PySem.W.typeIn W.K (.ref (W.ca C)) = some (.type "type")) (hg : Gl X x) (hdb : (x == ("__debug__" : Str)) = false := by decide) :
    PS X (.Raise (some (.Call (.Name x p) [.Constant (.str m) j p2] [] pos)) none pos') (rdS W E0 T (.rai C)) := by
  rw [← hK] at q kC bP tP
  exact (L2N.ps_raise hc tk (L2N.pmk_own PySem.F.excBase_ValueError q gC kC (raises_own bP tP) hg hdb)).imp fun D σ H ⟨H0, O0, δ, Fs, S, q⟩ => by
    simp only [ex] at q
    exact q H S.same
end
end TW

set_option Elab.async false
set_option linter.all false
set_option maxRecDepth 100000
set_option maxHeartbeats 4000000
namespace TW
open PySem PySem.Spec PyProof.Rows L2
variable [TabT]

section
variable {W : Wd} {E0 : XK} {T : Tb} {X : Cx}
theorem yields_same {z : Sum V (V × V)} {H : Hp} {x : V} {H1 : Hp} (hy : yields z H x H1) : Same H H1 := by
  cases z with
  | inl v => rw [hy.1]; exact Same.refl H
  | inr p => obtain ⟨t, _, h1, h2⟩ := hy; rw [h2]; exact same_new h1
theorem SS.bind {K : PySem.W.Frag} {H0 H H1 : Hp} {O0 : Addr → Prop} {σ : L2.St} {δ e1 : Dn} {Fs : List (List Addr)} (S : SS W H0 O0 H σ δ Fs) {ts : List Nat} {one : Bool} {d : D} {z : Sum V (V × V)} {x : V} (hb : bindT ts one d δ = some e1) (hy : yields z H x H1)
    (hr : reprI W H (fun a => O0 a ∨ a ∈ Fs.flatten) z d) {Q : L2.St → Hp → Prop} (hQ : ∀ σ2 Fs2, SS W H0 O0 H1 σ2 e1 Fs2 → Evo H Fs H1 Fs2 → Q σ2 H1) : gT K ts one x σ H1 Q := by
  have sm := yields_same hy
  have S1 := S.grow sm
  unfold bindT at hb
  split at hb
  · rename_i i
    cases hb
    have r : Rp W H1 (fun a => O0 a ∨ a ∈ Fs.flatten) d x := by
      cases z with
      | inl v => obtain ⟨e1, e2⟩ := hy; rw [e1, e2]; exact hr
      | inr p =>
        obtain ⟨t, e0, h1, h2⟩ := hy
        obtain ⟨a, b, e3, r1, r2⟩ := hr
        rw [e3, e0, h2]
        exact ⟨t, [p.1, p.2], rfl, upd_same, (show (2 : Nat) ≤ sizeLine by decide), p.1, [p.2], rfl, Rp.mono (same_new h1) (fun _ z => z) _ _ r1, p.2, [], rfl, Rp.mono (same_new h1) (fun _ z => z) _ _ r2, rfl⟩
    exact hQ _ _ (S1.putS (i := i) r) (Evo.grow sm fun a ha => .inl (set_sub a ha))
  · rename_i i j a b
    cases hb
    have hx : ∃ t va vb, x = .ref t ∧ H1 t = some (.tup [va, vb]) ∧ Rp W H1 (fun a => O0 a ∨ a ∈ Fs.flatten) a va ∧ Rp W H1 (fun a => O0 a ∨ a ∈ Fs.flatten) b vb := by
      cases z with
      | inl v =>
        obtain ⟨e1, e2⟩ := hy
        obtain ⟨t, vs, e3, h1, h2, va, r1, rfl, ra, vb, r2, rfl, rb, r3⟩ := hr
        rw [e1, e2]
        have : r2 = [] := r3
        subst this
        exact ⟨t, va, vb, e3, h1, ra, rb⟩
      | inr p =>
        obtain ⟨t, e0, h1, h2⟩ := hy
        obtain ⟨a', b', e3, r1, r2⟩ := hr
        cases e3
        refine ⟨t, p.1, p.2, e0, by rw [h2]; exact upd_same, ?_, ?_⟩
        · rw [h2]; exact Rp.mono (same_new h1) (fun _ z => z) _ _ r1
        · rw [h2]; exact Rp.mono (same_new h1) (fun _ z => z) _ _ r2
    obtain ⟨t, va, vb, e0, ht, ra, rb⟩ := hx
    refine .inl ⟨t, [va, vb], e0, .inl (.inl ht), rfl, va, [vb], rfl, vb, [], rfl, rfl, ?_⟩
    exact hQ _ _ ((S1.putS (i := i) ra).putS (i := j) (Rp.mono (Same.refl _) (fun a z => z.imp_right (set_sub a)) _ _ rb)) (Evo.grow sm fun a ha => .inl (set_sub a (set_sub a ha)))
  · rename_i i j a b
    cases hb
    cases z with
    | inr p => obtain ⟨a', b', e3, _⟩ := hr; cases e3
    | inl v =>
      obtain ⟨e1, e2⟩ := hy
      obtain ⟨t, vs, e3, _, h1, h2, va, r1, rfl, ra, vb, r2, rfl, rb, r3⟩ := hr
      have : r2 = [] := r3
      subst this
      subst e1
      refine .inr ⟨t, [va, vb], e2.trans e3, .inl (.inl h1), rfl, va, [vb], rfl, vb, [], rfl, rfl, ?_⟩
      exact hQ _ _ ((S1.putS (i := i) ra).putS (i := j) (Rp.mono (Same.refl _) (fun a z => z.imp_right (set_sub a)) _ _ rb)) (Evo.grow sm fun a ha => .inl (set_sub a (set_sub a ha)))
  · rename_i i j k l a b c d
    cases hb
    cases z with
    | inr p => obtain ⟨a', b', e3, _⟩ := hr; cases e3
    | inl v =>
      obtain ⟨e1, e2⟩ := hy
      obtain ⟨t, vs, e3, h1, h2, va, r1, rfl, ra, vb, r2, rfl, rb, vc, r3, rfl, rc, vd, r4, rfl, rd, r5⟩ := hr
      have : r4 = [] := r5
      subst this
      subst e1
      refine ⟨t, [va, vb, vc, vd], e2.trans e3, .inl (.inl h1), rfl, va, [vb, vc, vd], rfl, vb, [vc, vd], rfl, vc, [vd], rfl, vd, [], rfl, rfl, ?_⟩
      exact hQ _ _ ((((S1.putS (i := i) ra).putS (i := j) (Rp.mono (Same.refl _) (fun a z => z.imp_right (set_sub a)) _ _ rb)).putS (i := k) (Rp.mono (Same.refl _) (fun a z => z.imp_right fun q => set_sub a (set_sub a q)) _ _ rc)).putS (i := l) (Rp.mono (Same.refl _) (fun a z => z.imp_right fun q => set_sub a (set_sub a (set_sub a q))) _ _ rd)) (Evo.grow sm fun a ha => .inl (set_sub a (set_sub a (set_sub a (set_sub a ha)))))
  · cases hb
theorem s_for {tg iter : Expr} {body : List Stmt} {ts : List Nat} {one : Bool} {s : Sr} {b : List S} {pos : Pos} (hp : PassesOwn (model X.prog X.w) X.A X.env X.xe) (hc : X.calm = true) (hi : PI X tg iter (rdI W E0 T s)) (hg : PG X tg (gT X.K ts one)) (hb : PSs X body (rdSs W E0 T b))
    (hs : ∀ x, foldedSetIterable iter X.env x = pure x := by intro _; rfl) : PS X (.For tg iter body [] pos) (rdS W E0 T (.for_ ts one s b)) :=
  (ps_for hp hc hi hg hb hs).imp fun D σ H ⟨H0, O0, δ, Fs, S, q⟩ => by
    simp only [ex] at q
    refine ⟨H0, O0, δ, Fs, S, ?_⟩
    revert q
    cases evS T s δ with
    | none => exact fun h => h
    | some r =>
      cases r with
      | er C => exact fun h => rqf_er S.same h
      | ok p =>
        obtain ⟨m, ds⟩ := p
        intro q J H1 s1 src
        generalize hst : (fun (x : TW.D) (e1 : Dn) => (match bindT ts one x e1 with | none => none | some e2 => exs T b e2 : M Fl)) = step at q
        have q : rqf W E0 H0 O0 H Fs (forL step ds (if m = .dp then δ else frz (nmS s) δ)) D := q
        obtain ⟨G, Y, A, wk, hlen, hA, hG, hI⟩ := src.ex
        -- the state at the loop's start
        have st : ∃ δ1 Fs1, SS W H0 O0 H1 σ δ1 Fs1 ∧ (if m = .dp then δ else frz (nmS s) δ) = δ1 ∧ (∀ a ∈ Fs1.flatten, a ∈ Fs.flatten) ∧ ∀ a ∈ Fs1.flatten, av O0 Fs (if m = .dp then [] else nmS s) a := by
          by_cases hm : m = .dp
          · rw [if_pos hm, if_pos hm]
            exact ⟨δ, Fs, S.grow s1, rfl, fun a h => h, fun a ha => let ⟨j, hj⟩ := flat_ix ha; .inr ⟨j, by simp, hj⟩⟩
          · rw [if_neg hm, if_neg hm]
            exact ⟨_, _, SS.frz (nmS s) (S.grow s1), rfl, fun a h => (clr_mem _ h).1, fun a ha => let ⟨_, j, h1, h2⟩ := clr_mem _ ha; .inr ⟨j, h1, h2⟩⟩
        obtain ⟨δ1, Fs1, S1, e1, sub1, av1⟩ := st
        rw [e1] at q
        generalize hO : av O0 Fs (if m = .dp then [] else nmS s) = O at av1 hA hI
        have hO0 : ∀ a, O0 a → O a := fun a z => by rw [← hO]; exact .inl z
        have ev1 : Evo H Fs H1 Fs1 := Evo.grow s1 fun a ha => .inl (sub1 a ha)
        refine for_it wk (Pv := fun i σ' H' => ∃ δ' Fs', SS W H0 O0 H' σ' δ' Fs' ∧ Evo H1 Fs1 H' Fs' ∧ rqf W E0 H0 O0 H Fs (forL step (ds.drop i) δ') D) ?_ ?_ ?_ ?_
        · exact ⟨δ1, Fs1, S1, Evo.refl, q⟩
        · rintro i σ' H' hi ⟨δ', Fs', S', e', _⟩
          refine hG H' fun a ha o e nt => e'.keep a o e (fun z => ?_) nt
          obtain ⟨o2, e2, m2⟩ := S1.there a z
          obtain ⟨o3, e3, h3⟩ := hA a ha
          rw [e3] at e2
          cases e2
          exact h3 m2 (av1 a z)
        · rintro i x σ' H2 H3 hi ⟨δ', Fs', S', e', q'⟩ hy
          have ei : ds[i]? = some ds[i] := List.getElem?_eq_getElem hi
          have ed : ds.drop i = ds[i] :: ds.drop (i + 1) := List.drop_eq_getElem_cons hi
          rw [ed] at q'
          obtain ⟨z, z1, z2⟩ := hI i _ ei
          have ro : ∀ (dd : TW.D) (vv : V), Rp W H1 O dd vv → Rp W H2 (fun a => O0 a ∨ a ∈ Fs'.flatten) dd vv := Evo.rp e' S1.there av1 (fun a z => by
            rcases z with z | z
            · exact .inl (hO0 a z)
            · exact (e'.sub a z).imp_left (av1 a))
          have z3 : reprI W H2 (fun a => O0 a ∨ a ∈ Fs'.flatten) z ds[i] := by
            cases z with
            | inl v => exact ro _ _ z2
            | inr pr =>
              obtain ⟨a, b, e, r1, r2⟩ := z2
              exact ⟨a, b, e, ro _ _ r1, ro _ _ r2⟩
          have hfx : step ds[i] δ' = (match bindT ts one ds[i] δ' with | none => none | some e2 => exs T b e2) := by rw [← hst]
          have q' : rqf W E0 H0 O0 H Fs (bnd (step ds[i] δ') fun r => match r with | .nx e1 => forL step (ds.drop (i + 1)) e1 | .rt m d => ok (.rt m d)) D := q'
          cases hbd : bindT ts one ds[i] δ' with
          | none =>
            rw [hfx, hbd] at q'
            exact q'.elim
          | some e2 =>
            rw [hfx, hbd] at q'
            refine S'.bind hbd (z1 _ _ _ hy) z3 fun σ2 Fs2 S2 ev2 => ⟨H0, O0, e2, Fs2, S2, ?_⟩
            have q' : rqf W E0 H0 O0 H Fs (bnd (exs T b e2) fun r => match r with | .nx e1 => forL step (ds.drop (i + 1)) e1 | .rt m d => ok (.rt m d)) D := q'
            revert q'
            cases exs T b e2 with
            | none => exact fun h => h
            | some r =>
              cases r with
              | er C => exact fun h => h
              | ok fl =>
                cases fl with
                | rt m d => exact fun h => h
                | nx δ'' => exact fun h σ3 H4 Fs3 S3 ev3 => ⟨δ'', Fs3, S3, e'.trans (ev2.trans ev3), h⟩
        · rintro σ' H' ⟨δ', Fs', S', e', q'⟩
          have e0 : ds.drop ds.length = [] := List.drop_length
          rw [e0] at q'
          exact q' σ' H' Fs' S' (ev1.trans e')
theorem s_whl {c : Expr} {body : List Stmt} {cc : E} {b : List S} {pos : Pos} (hp : PassesOwn (model X.prog X.w) X.A X.env X.xe) (hc : PT X c (rdT W E0 T cc)) (hb : PSs X body (rdSs W E0 T b)) : PS X (.While c body [] pos) (rdS W E0 T (.whl cc b)) :=
  (ps_while hp hc hb).imp fun D σ H ⟨H0, O0, δ, Fs, S, q⟩ => by
    simp only [ex] at q
    refine ⟨fun m σ' H' => ∃ δ' Fs', SS W H0 O0 H' σ' δ' Fs' ∧ Evo H Fs H' Fs' ∧ rqf W E0 H0 O0 H Fs (whlL (fun e1 => bnd (ev T cc e1) fun p => lift (boolD p.2)) (fun e1 => exs T b e1) m δ') D, ⟨WF + szE δ, δ, Fs, S, Evo.refl, q⟩, ?_⟩
    rintro m σ' H' ⟨δ', Fs', S', e', q'⟩
    cases m with
    | zero => exact q'.elim
    | succ n =>
      have q' : rqf W E0 H0 O0 H Fs (bnd (evB T cc δ') fun t => if t = true then bnd (exs T b δ') fun r => (match r with | .nx e1 => whlL (fun e1 => bnd (ev T cc e1) fun p => lift (boolD p.2)) (fun e1 => exs T b e1) n e1 | .rt m d => ok (.rt m d)) else ok (.nx δ')) D := q'
      refine ⟨H0, O0, δ', Fs', S', rqb_bnd' (G := fun z => rqf W E0 H0 O0 H Fs z D) rqf_none (fun C h H2 s2 => h H2 (S'.same.trans s2)) q' fun t h1 H1 s1 => ?_⟩
      have ev1 : Evo H' Fs' H1 Fs' := Evo.grow s1 fun a ha => .inl ha
      cases t with
      | false =>
        rw [if_neg (by decide)]
        exact h1 σ' H1 Fs' (S'.grow s1) (e'.trans ev1)
      | true =>
        rw [if_pos rfl]
        refine ⟨fun σ2 H2 => ∃ δ2 Fs2, SS W H0 O0 H2 σ2 δ2 Fs2 ∧ Evo H Fs H2 Fs2 ∧ rqf W E0 H0 O0 H Fs (whlL (fun e1 => bnd (ev T cc e1) fun p => lift (boolD p.2)) (fun e1 => exs T b e1) n δ2) D, fun σ2 H2 h => ⟨n, Nat.lt_succ_self n, h⟩, H0, O0, δ', Fs', S'.grow s1, ?_⟩
        have h1 : rqf W E0 H0 O0 H Fs (bnd (exs T b δ') fun r => (match r with | .nx e1 => whlL (fun e1 => bnd (ev T cc e1) fun p => lift (boolD p.2)) (fun e1 => exs T b e1) n e1 | .rt m d => ok (.rt m d))) D := h1
        revert h1
        cases exs T b δ' with
        | none => exact fun h => h
        | some r =>
          cases r with
          | er C => exact fun h => h
          | ok fl =>
            cases fl with
            | rt m d => exact fun h => h
            | nx δ'' => exact fun h σ3 H4 Fs3 S3 ev3 => ⟨δ'', Fs3, S3, e'.trans (ev1.trans ev3), h⟩
end
end TW

set_option Elab.async false
set_option linter.all false
set_option maxRecDepth 100000
set_option maxHeartbeats 4000000
namespace TW
open PySem PySem.Spec PyProof.Rows L2
variable [TabT]

def Al3 (Q : D → V → List Addr → Prop) : List D → List V → List (List Addr) → Prop
  | [], vs, Fs => vs = [] ∧ Fs = []
  | d :: ds, vs, Fs => ∃ v r F Fr, vs = v :: r ∧ Fs = F :: Fr ∧ Q d v F ∧ Al3 Q ds r Fr
section
variable {Q Q' : D → V → List Addr → Prop}
theorem Al3.len : ∀ {ds : List D} {vs : List V} {Fs : List (List Addr)}, Al3 Q ds vs Fs → vs.length = ds.length ∧ Fs.length = ds.length
  | [], _, _, h => by rw [h.1, h.2]; exact ⟨rfl, rfl⟩
  | d :: ds, _, _, h => by
    obtain ⟨v, r, F, Fr, rfl, rfl, _, h2⟩ := h
    obtain ⟨a, b⟩ := Al3.len h2
    exact ⟨by simp [a], by simp [b]⟩
theorem Al3.app : ∀ {ds es : List D} {vs ws : List V} {Fs Gs : List (List Addr)}, Al3 Q ds vs Fs → Al3 Q es ws Gs → Al3 Q (ds ++ es) (vs ++ ws) (Fs ++ Gs)
  | [], _, _, _, _, _, h, k => by rw [h.1, h.2]; exact k
  | d :: ds, _, _, _, _, _, h, k => by
    obtain ⟨v, r, F, Fr, rfl, rfl, h1, h2⟩ := h
    exact ⟨v, r ++ _, F, Fr ++ _, rfl, rfl, h1, Al3.app h2 k⟩
theorem Al3.take : ∀ (n : Nat) {ds : List D} {vs : List V} {Fs : List (List Addr)}, Al3 Q ds vs Fs → Al3 Q (ds.take n) (vs.take n) (Fs.take n)
  | 0, _, _, _, _ => ⟨rfl, rfl⟩
  | n + 1, [], _, _, h => by rw [h.1, h.2]; exact ⟨rfl, rfl⟩
  | n + 1, d :: ds, _, _, h => by
    obtain ⟨v, r, F, Fr, rfl, rfl, h1, h2⟩ := h
    exact ⟨v, r.take n, F, Fr.take n, rfl, rfl, h1, Al3.take n h2⟩
theorem Al3.drop : ∀ (n : Nat) {ds : List D} {vs : List V} {Fs : List (List Addr)}, Al3 Q ds vs Fs → Al3 Q (ds.drop n) (vs.drop n) (Fs.drop n)
  | 0, _, _, _, h => h
  | n + 1, [], _, _, h => by rw [h.1, h.2]; exact ⟨rfl, rfl⟩
  | n + 1, d :: ds, _, _, h => by
    obtain ⟨v, r, F, Fr, rfl, rfl, h1, h2⟩ := h
    exact Al3.drop n h2
theorem Al3.get : ∀ {ds : List D} {vs : List V} {Fs : List (List Addr)} {j : Nat} {d : D}, Al3 Q ds vs Fs → ds[j]? = some d → ∃ v F, vs[j]? = some v ∧ Fs[j]? = some F ∧ Q d v F
  | [], _, _, _, _, _, e => by simp at e
  | d :: ds, _, _, 0, d', h, e => by
    obtain ⟨v, r, F, Fr, rfl, rfl, h1, h2⟩ := h
    simp at e
    subst e
    exact ⟨v, F, rfl, rfl, h1⟩
  | d :: ds, _, _, j + 1, d', h, e => by
    obtain ⟨v, r, F, Fr, rfl, rfl, h1, h2⟩ := h
    simp at e
    obtain ⟨w, G, e1, e2, e3⟩ := Al3.get h2 e
    exact ⟨w, G, by simpa using e1, by simpa using e2, e3⟩
theorem Al3.one {d : D} {v : V} {F : List Addr} (h : Q d v F) : Al3 Q [d] [v] [F] := ⟨v, [], F, [], rfl, rfl, h, rfl, rfl⟩
theorem Al3.rev : ∀ {ds : List D} {vs : List V} {Fs : List (List Addr)}, Al3 Q ds vs Fs → Al3 Q ds.reverse vs.reverse Fs.reverse
  | [], _, _, h => by rw [h.1, h.2]; exact ⟨rfl, rfl⟩
  | d :: ds, _, _, h => by
    obtain ⟨v, r, F, Fr, rfl, rfl, h1, h2⟩ := h
    rw [List.reverse_cons, List.reverse_cons, List.reverse_cons]
    exact (Al3.rev h2).app (.one h1)
theorem Al3.set {j : Nat} {d : D} {v : V} {F : List Addr} (hq : Q d v F) : ∀ {k : Nat} {ds : List D} {vs : List V} {Fs : List (List Addr)}, Al3 Q ds vs Fs → Al3 Q (ds.set k d) (vs.set k v) (Fs.set k F)
  | _, [], _, _, h => by rw [h.1, h.2]; exact ⟨rfl, rfl⟩
  | 0, d' :: ds, _, _, h => by
    obtain ⟨w, r, G, Fr, rfl, rfl, h1, h2⟩ := h
    exact ⟨v, r, F, Fr, rfl, rfl, hq, h2⟩
  | k + 1, d' :: ds, _, _, h => by
    obtain ⟨w, r, G, Fr, rfl, rfl, h1, h2⟩ := h
    exact ⟨w, r.set k v, G, Fr.set k F, rfl, rfl, h1, Al3.set (j := j) hq h2⟩
theorem Al3.erase : ∀ {k : Nat} {ds : List D} {vs : List V} {Fs : List (List Addr)}, Al3 Q ds vs Fs → Al3 Q (ds.eraseIdx k) (vs.eraseIdx k) (Fs.eraseIdx k)
  | _, [], _, _, h => by rw [h.1, h.2]; exact ⟨rfl, rfl⟩
  | 0, d' :: ds, _, _, h => by
    obtain ⟨w, r, G, Fr, rfl, rfl, h1, h2⟩ := h
    exact h2
  | k + 1, d' :: ds, _, _, h => by
    obtain ⟨w, r, G, Fr, rfl, rfl, h1, h2⟩ := h
    exact ⟨w, r.eraseIdx k, G, Fr.eraseIdx k, rfl, rfl, h1, Al3.erase h2⟩
theorem Al3.dropLast {ds : List D} {vs : List V} {Fs : List (List Addr)} (h : Al3 Q ds vs Fs) : Al3 Q ds.dropLast vs.dropLast Fs.dropLast := by
  obtain ⟨a, b⟩ := h.len
  rw [List.dropLast_eq_take, List.dropLast_eq_take, List.dropLast_eq_take, a, b]
  exact h.take _
theorem Al3.upd {d : D} {F : List Addr} : ∀ {j : Nat} {ds : List D} {vs : List V} {Fs : List (List Addr)} {v : V}, Al3 Q ds vs Fs → vs[j]? = some v → Q' d v F → (∀ (k : Nat) (d' : D) (v' : V) (F' : List Addr), k ≠ j → Fs[k]? = some F' → Q d' v' F' → Q' d' v' F') → Al3 Q' (ds.set j d) vs (Fs.set j F)
  | j, [], _, _, v, h, e, _, _ => by rw [h.1] at e; simp at e
  | 0, d' :: ds, _, _, v, h, e, hq, ho => by
    obtain ⟨w, r, G, Fr, rfl, rfl, h1, h2⟩ := h
    simp at e
    subst e
    refine ⟨w, r, F, Fr, rfl, rfl, hq, ?_⟩
    have key : ∀ {ds : List D} {vs : List V} {Fs : List (List Addr)} (n : Nat), (∀ (k : Nat) (d' : D) (v' : V) (F' : List Addr), Fs[k]? = some F' → Q d' v' F' → Q' d' v' F') → Al3 Q ds vs Fs → Al3 Q' ds vs Fs := by
      intro ds
      induction ds with
      | nil => exact fun _ _ h => h
      | cons d ds ih =>
        intro vs Fs n hh h
        obtain ⟨w, r, G, Fr, rfl, rfl, h1, h2⟩ := h
        exact ⟨w, r, G, Fr, rfl, rfl, hh 0 _ _ _ rfl h1, ih n (fun k d' v' F' e q => hh (k + 1) d' v' F' (by simpa using e) q) h2⟩
    exact key 0 (fun k d' v' F' e q => ho (k + 1) d' v' F' (by omega) (by simpa using e) q) h2
  | j + 1, d' :: ds, _, _, v, h, e, hq, ho => by
    obtain ⟨w, r, G, Fr, rfl, rfl, h1, h2⟩ := h
    refine ⟨w, r, G, Fr.set j F, rfl, rfl, ho 0 _ _ _ (by omega) rfl h1, ?_⟩
    exact Al3.upd h2 (by simpa using e) hq fun k d' v' F' hk e q => ho (k + 1) d' v' F' (by omega) (by simpa using e) q
end
theorem Dqs.al {W : Wd} {H : Hp} : ∀ {ds : List D} {vs : List V} {F : List Addr}, Dqs W H ds vs F → ∃ Fs, Al3 (Dq W H) ds vs Fs ∧ Fs.flatten = F
  | [], _, _, h => ⟨[], ⟨h.1, rfl⟩, h.2.symm⟩
  | d :: ds, _, _, h => by
    obtain ⟨v, r, F1, F2, rfl, rfl, h1, h2⟩ := h
    obtain ⟨Fs, k1, k2⟩ := Dqs.al h2
    exact ⟨F1 :: Fs, ⟨v, r, F1, Fs, rfl, rfl, h1, k1⟩, by rw [flat_cons, k2]⟩
theorem Al3.dqs {W : Wd} {H : Hp} : ∀ {ds : List D} {vs : List V} {Fs : List (List Addr)}, Al3 (Dq W H) ds vs Fs → Dqs W H ds vs Fs.flatten
  | [], _, _, h => by rw [h.2]; exact ⟨h.1, rfl⟩
  | d :: ds, _, _, h => by
    obtain ⟨v, r, F, Fr, rfl, rfl, h1, h2⟩ := h
    exact ⟨v, r, F, Fr.flatten, rfl, rfl, h1, Al3.dqs h2⟩
abbrev RpQ (W : Wd) (H : Hp) (O : Addr → Prop) : D → V → List Addr → Prop := fun d v F => F = [] ∧ Rp W H O d v
theorem Rps.al {W : Wd} {H : Hp} {O : Addr → Prop} : ∀ {ds : List D} {vs : List V}, Rps W H O ds vs → ∃ Fs, Al3 (RpQ W H O) ds vs Fs
  | [], _, h => ⟨[], h, rfl⟩
  | d :: ds, _, h => by
    obtain ⟨v, r, rfl, h1, h2⟩ := h
    obtain ⟨Fs, k1⟩ := Rps.al h2
    exact ⟨[] :: Fs, v, r, [], Fs, rfl, rfl, ⟨rfl, h1⟩, k1⟩
theorem Al3.rps {W : Wd} {H : Hp} {O : Addr → Prop} : ∀ {ds : List D} {vs : List V} {Fs : List (List Addr)}, Al3 (RpQ W H O) ds vs Fs → Rps W H O ds vs
  | [], _, _, h => h.1
  | d :: ds, _, _, h => by
    obtain ⟨v, r, F, Fr, rfl, rfl, h1, h2⟩ := h
    exact ⟨v, r, rfl, h1.2, Al3.rps h2⟩

def SubF (A B : List Addr) : Prop := (B.Nodup → A.Nodup) ∧ ∀ a ∈ A, a ∈ B
theorem SubF.refl (A : List Addr) : SubF A A := ⟨id, fun _ h => h⟩
theorem SubF.trans {A B C : List Addr} (h : SubF A B) (k : SubF B C) : SubF A C := ⟨fun n => h.1 (k.1 n), fun a ha => k.2 a (h.2 a ha)⟩
theorem SubF.sub {A B : List Addr} (h : A.Sublist B) : SubF A B := ⟨fun n => n.sublist h, fun _ ha => h.subset ha⟩
theorem SubF.perm {A B : List Addr} (h : A.Perm B) : SubF A B := ⟨fun n => h.nodup_iff.mpr n, fun _ ha => h.mem_iff.mp ha⟩
theorem SubF.app {A B C D : List Addr} (h : SubF A B) (k : SubF C D) : SubF (A ++ C) (B ++ D) := by
  refine ⟨fun n => ?_, fun a ha => ?_⟩
  · obtain ⟨n1, n2, n3⟩ := List.nodup_append.mp n
    exact List.nodup_append.mpr ⟨h.1 n1, k.1 n2, fun a ha b hb e => n3 a (h.2 a ha) b (k.2 b hb) e⟩
  · rcases List.mem_append.mp ha with z | z
    · exact List.mem_append_left _ (h.2 a z)
    · exact List.mem_append_right _ (k.2 a z)
theorem flat_sub {A B : List (List Addr)} (h : A.Sublist B) : A.flatten.Sublist B.flatten := by
  induction h with
  | slnil => exact .slnil
  | cons a _ ih => exact ih.trans (List.sublist_append_right _ _)
  | cons_cons a _ ih => exact (List.Sublist.refl a).append ih
theorem flat_perm {A B : List (List Addr)} (h : A.Perm B) : A.flatten.Perm B.flatten := by
  induction h with
  | nil => exact .refl _
  | cons a _ ih => exact (List.Perm.refl a).append ih
  | swap a b l =>
    rw [flat_cons, flat_cons, flat_cons, flat_cons, ← List.append_assoc, ← List.append_assoc]
    exact List.perm_append_comm.append (.refl _)
  | trans _ _ i1 i2 => exact i1.trans i2
theorem flat_app (A B : List (List Addr)) : (A ++ B).flatten = A.flatten ++ B.flatten := List.flatten_append
def MoV (o : Mo) (H : Hp) (vs avs vs' : List V) : Prop := match o with
  | .append => ∃ a, avs = [a] ∧ vs' = vs ++ [a]
  | .extend => ∃ b ws, avs = [.ref b] ∧ H b = some (.lst ws) ∧ vs' = vs ++ ws
  | .pop => (avs = [] ∧ vs' = vs.dropLast) ∨ ∃ i j, avs = [.int i] ∧ ixN vs.length i = some j ∧ vs' = vs.eraseIdx j
  | .remove => ∃ j, vs' = vs.eraseIdx j
  | .insert => ∃ i a, avs = [.int i, a] ∧ vs' = vs.take i.toNat ++ [a] ++ vs.drop i.toNat
  | .clear => vs' = []
  | .reverse => vs' = vs.reverse
  | .set => ∃ i j a, avs = [.int i, a] ∧ ixN vs.length i = some j ∧ vs' = vs.set j a
  | .aug => ∃ i j k n, avs = [.int i, .int k] ∧ ixN vs.length i = some j ∧ vs[j]? = some (.int n) ∧ vs' = vs.set j (.int (n + k))
structure RelQ (H : Hp) (Q : D → V → List Addr → Prop) : Prop where
  int : ∀ i v F, Q (.int i) v F → v = .int i ∧ F = []
  ofI : ∀ i, Q (.int i) (.int i) []
  lst : ∀ ys v F, Q (.lst ys) v F → ∃ b ws Gs, v = .ref b ∧ H b = some (.lst ws) ∧ Al3 Q ys ws Gs ∧ SubF Gs.flatten F
theorem relQ_dq {W : Wd} {H : Hp} : RelQ H (Dq W H) := ⟨fun i v F h => h, fun i => ⟨rfl, rfl⟩, fun ys v F h => by
  obtain ⟨a, vs, G, e, eF, h1, h2, h3⟩ := h
  obtain ⟨Gs, k1, k2⟩ := h3.al
  exact ⟨a, vs, Gs, e, h1, k1, by rw [k2, eF]; exact .sub (List.sublist_cons_self _ _)⟩⟩
theorem relQ_rp {W : Wd} {H : Hp} {O : Addr → Prop} : RelQ H (RpQ W H O) := ⟨fun i v F h => ⟨h.2, h.1⟩, fun i => ⟨rfl, rfl⟩, fun ys v F h => by
  obtain ⟨eF, a, vs, e, h0, h1, h2, h3⟩ := h
  obtain ⟨Gs, k1⟩ := h3.al
  refine ⟨a, vs, Gs, e, h1, k1, ?_⟩
  have : ∀ {ds : List D} {vs : List V} {Fs : List (List Addr)}, Al3 (RpQ W H O) ds vs Fs → Fs.flatten = [] := by
    intro ds
    induction ds with
    | nil => intro vs Fs h; rw [h.2]; rfl
    | cons d ds ih =>
      intro vs Fs h
      obtain ⟨v, r, F, Fr, rfl, rfl, g1, g2⟩ := h
      rw [flat_cons, g1.1, ih g2]
      rfl
  rw [this k1]
  exact ⟨fun _ => List.nodup_nil, fun _ z => by cases z⟩⟩
theorem set_flat {Fs : List (List Addr)} {j : Nat} {F : List Addr} : SubF (Fs.set j F).flatten (Fs.flatten ++ F) := by
  by_cases h : j < Fs.length
  · rw [List.set_eq_take_append_cons_drop, if_pos h, flat_app, flat_cons]
    have e : Fs.flatten = (Fs.take j).flatten ++ (Fs.drop j).flatten := by rw [← flat_app, List.take_append_drop]
    have e2 : (Fs.drop (j + 1)).flatten.Sublist (Fs.drop j).flatten := by
      have : Fs.drop j = Fs[j] :: Fs.drop (j + 1) := List.drop_eq_getElem_cons h
      rw [this, flat_cons]
      exact List.sublist_append_right _ _
    rw [e, List.append_assoc]
    exact (SubF.refl _).app ((SubF.perm List.perm_append_comm).trans ((SubF.sub e2).app (SubF.refl F)))
  · rw [List.set_eq_of_length_le (by omega)]
    exact .sub (List.sublist_append_left _ _)
theorem moL_ok {H : Hp} {Q : D → V → List Addr → Prop} (hQ : RelQ H Q) {o : Mo} {xs as ys : List D} {vs avs vs' : List V} {Fs Gs : List (List Addr)} (h : Al3 Q xs vs Fs) (ha : Al3 Q as avs Gs) (hm : moL o xs as = some ys) (hv : MoV o H vs avs vs')
    (hr : o = .remove → ∃ j, ys = xs.eraseIdx j ∧ vs' = vs.eraseIdx j) : ∃ Fs', Al3 Q ys vs' Fs' ∧ SubF Fs'.flatten (Fs.flatten ++ Gs.flatten) := by
  have el := h.len
  cases o with
  | append =>
    obtain ⟨a, rfl, rfl⟩ := hv
    match as, ha, hm with
    | [d], ha, hm =>
      have hm : (if xs.length < SZ then some (xs ++ [d]) else none) = some ys := hm
      split at hm <;> cases hm
      exact ⟨Fs ++ Gs, h.app ha, by rw [flat_app]; exact SubF.refl _⟩
  | extend =>
    obtain ⟨b, ws, rfl, hb, rfl⟩ := hv
    match as, ha, hm with
    | [.lst zs], ha, hm =>
      have hm : (if xs.length + zs.length ≤ SZ then some (xs ++ zs) else none) = some ys := hm
      split at hm <;> cases hm
      obtain ⟨v, r, F, Fr, e1, rfl, q1, e2, rfl⟩ := ha
      cases e1
      obtain ⟨b', ws', Gs', e3, hb', k1, k2⟩ := hQ.lst _ _ _ q1
      cases e3
      rw [hb] at hb'
      cases hb'
      refine ⟨Fs ++ Gs', h.app k1, ?_⟩
      rw [flat_app, flat_cons]
      exact (SubF.refl _).app (k2.trans (.sub (List.sublist_append_left _ _)))
  | pop =>
    rcases hv with ⟨rfl, rfl⟩ | ⟨i, j, rfl, hj, rfl⟩
    · match as, ha, hm with
      | [], ha, hm =>
        have e : ys = xs.dropLast := by
          revert hm
          cases xs with
          | nil => intro hm; cases hm
          | cons x xs => intro hm; exact (Option.some.inj hm).symm
        subst e
        refine ⟨Fs.dropLast, h.dropLast, ?_⟩
        exact (SubF.sub (flat_sub (List.dropLast_sublist _))).trans (.sub (List.sublist_append_left _ _))
    · match as, ha, hm with
      | [.int k], ha, hm =>
        have hm : (if smallI k = true then (ixN xs.length k).map (fun j => xs.eraseIdx j) else none) = some ys := hm
        obtain ⟨v, r, F, Fr, e1, rfl, q1, e2, rfl⟩ := ha
        cases e1
        cases (hQ.int _ _ _ q1).1
        rw [el.1] at hj
        rw [hj] at hm
        split at hm <;> cases hm
        exact ⟨Fs.eraseIdx j, h.erase, (SubF.sub (flat_sub (List.eraseIdx_sublist _ _))).trans (.sub (List.sublist_append_left _ _))⟩
  | remove =>
    obtain ⟨j, rfl, rfl⟩ := hr rfl
    exact ⟨Fs.eraseIdx j, h.erase, (SubF.sub (flat_sub (List.eraseIdx_sublist _ _))).trans (.sub (List.sublist_append_left _ _))⟩
  | insert =>
    obtain ⟨i, a, rfl, rfl⟩ := hv
    match as, ha, hm with
    | [.int k, d], ha, hm =>
      have hm : (if 0 ≤ k ∧ smallI k = true ∧ xs.length < SZ then some (xs.take k.toNat ++ [d] ++ xs.drop k.toNat) else none) = some ys := hm
      obtain ⟨v, r, F, Fr, e1, rfl, q1, v2, r2, F2, Fr2, e2, rfl, q2, e3, rfl⟩ := ha
      cases e1
      cases e2
      cases (hQ.int _ _ _ q1).1
      split at hm <;> cases hm
      refine ⟨Fs.take i.toNat ++ [F2] ++ Fs.drop i.toNat, ((h.take _).app (.one q2)).app (h.drop _), ?_⟩
      have e : Fs.flatten = (Fs.take i.toNat).flatten ++ (Fs.drop i.toNat).flatten := by rw [← flat_app, List.take_append_drop]
      have e1 : ([F2] : List (List Addr)).flatten = F2 := by rw [flat_cons, List.flatten_nil, List.append_nil]
      have e2 : (F :: F2 :: [] : List (List Addr)).flatten = F ++ F2 := by rw [flat_cons, e1]
      rw [flat_app, flat_app, e, e1, e2, List.append_assoc, List.append_assoc]
      refine (SubF.refl _).app ((SubF.perm List.perm_append_comm).trans ((SubF.refl _).app ?_))
      exact .sub (List.sublist_append_right _ _)
  | clear =>
    have hv : vs' = [] := hv
    subst hv
    match as, ha, hm with
    | [], ha, hm =>
      cases hm
      exact ⟨[], ⟨rfl, rfl⟩, ⟨fun _ => List.nodup_nil, fun _ z => by cases z⟩⟩
  | reverse =>
    have hv : vs' = vs.reverse := hv
    subst hv
    match as, ha, hm with
    | [], ha, hm =>
      cases hm
      exact ⟨Fs.reverse, h.rev, (SubF.perm (flat_perm (List.reverse_perm _))).trans (.sub (List.sublist_append_left _ _))⟩
  | set =>
    obtain ⟨i, j, a, rfl, hj, rfl⟩ := hv
    match as, ha, hm with
    | [.int k, d], ha, hm =>
      have hm : (ixN xs.length k).map (fun j => xs.set j d) = some ys := hm
      obtain ⟨v, r, F, Fr, e1, rfl, q1, v2, r2, F2, Fr2, e2, rfl, q2, e3, rfl⟩ := ha
      cases e1
      cases e2
      cases (hQ.int _ _ _ q1).1
      rw [el.1] at hj
      rw [hj] at hm
      cases hm
      refine ⟨Fs.set j F2, Al3.set (j := j) q2 h, set_flat.trans ((SubF.refl _).app ?_)⟩
      rw [flat_cons, flat_cons]
      exact .sub ((List.sublist_append_left F2 _).trans (List.sublist_append_right F _))
  | aug =>
    obtain ⟨i, j, k, n, rfl, hj, hn, rfl⟩ := hv
    match as, ha, hm with
    | [.int k1, .int k2], ha, hm =>
      have hm : ((ixN xs.length k1).bind fun j => match xs[j]? with | some (.int n) => some (xs.set j (.int (n + k2))) | _ => none) = some ys := hm
      obtain ⟨v, r, F, Fr, e1, rfl, q1, v2, r2, F2, Fr2, e2, rfl, q2, e3, rfl⟩ := ha
      cases e1
      cases e2
      cases (hQ.int _ _ _ q1).1
      cases (hQ.int _ _ _ q2).1
      rw [el.1] at hj
      rw [hj] at hm
      have hm : (match xs[j]? with | some (.int n) => some (xs.set j (.int (n + k))) | _ => none) = some ys := hm
      cases hx : xs[j]? with
      | none => rw [hx] at hm; cases hm
      | some d =>
        rw [hx] at hm
        cases d with
        | int n' =>
          have hm : some (xs.set j (.int (n' + k))) = some ys := hm
          cases hm
          obtain ⟨w, G, g1, g2, g3⟩ := h.get hx
          rw [hn] at g1
          cases g1
          cases (hQ.int _ _ _ g3).1
          refine ⟨Fs.set j [], Al3.set (j := j) (hQ.ofI _) h, set_flat.trans ?_⟩
          rw [List.append_nil]
          exact .sub (List.sublist_append_left _ _)
        | _ => cases hm
end TW

set_option Elab.async false
set_option linter.all false
set_option maxRecDepth 100000
set_option maxHeartbeats 4000000
namespace TW
open PySem PySem.Spec PyProof.Rows L2
variable [TabT]

def VAt (H : Hp) : List Int → V → V → Prop
  | [], v, w => v = w
  | i :: is, v, w => ∃ a ws u, v = .ref a ∧ (H a = some (.lst ws) ∨ H a = some (.tup ws)) ∧ atI ws i = some u ∧ VAt H is u w
theorem VAt.mono {H H' : Hp} (s : Same H H') : ∀ {is : List Int} {v w : V}, VAt H is v w → VAt H' is v w
  | [], _, _, h => h
  | i :: is, _, _, h => by
    obtain ⟨a, ws, u, e, h1, h2, h3⟩ := h
    exact ⟨a, ws, u, e, h1.imp (fun h => s.at h) (fun h => s.at h), h2, h3.mono s⟩
theorem VAt.det {H : Hp} : ∀ {is : List Int} {v w w' : V}, VAt H is v w → VAt H is v w' → w = w'
  | [], _, _, _, h, h' => (show _ = _ from h).symm.trans h'
  | i :: is, _, _, _, h, h' => by
    obtain ⟨a, ws, u, rfl, h1, h2, h3⟩ := h
    obtain ⟨a', ws', u', e', k1, k2, k3⟩ := h'
    cases e'
    have : ws = ws' := by
      rcases h1 with h1 | h1 <;> rcases k1 with k1 | k1 <;> (rw [h1] at k1; cases k1) <;> rfl
    subst this
    rw [h2] at k2
    cases k2
    exact h3.det k3
theorem VAt.snoc {H : Hp} {i : Int} {a : Addr} {ws : List V} {u : V} (h1 : H a = some (.lst ws) ∨ H a = some (.tup ws)) (h2 : atI ws i = some u) : ∀ {is : List Int} {v : V}, VAt H is v (.ref a) → VAt H (is ++ [i]) v u
  | [], _, h => ⟨a, ws, u, h, h1, h2, rfl⟩
  | j :: is, _, h => by
    obtain ⟨b, ws', u', e, k1, k2, k3⟩ := h
    exact ⟨b, ws', u', e, k1, k2, VAt.snoc h1 h2 k3⟩
theorem getP_app : ∀ (is js : List Int) (d : D), getP (is ++ js) d = (getP is d).bind (getP js)
  | [], _, _ => rfl
  | i :: is, js, .lst xs => by
    show (atI xs i).bind (getP (is ++ js)) = ((atI xs i).bind (getP is)).bind (getP js)
    cases atI xs i with
    | none => rfl
    | some d => exact getP_app is js d
  | i :: is, js, .tup xs => by
    show (atI xs i).bind (getP (is ++ js)) = ((atI xs i).bind (getP is)).bind (getP js)
    cases atI xs i with
    | none => rfl
    | some d => exact getP_app is js d
  | i :: is, js, .non => rfl
  | i :: is, js, .bl _ => rfl
  | i :: is, js, .int _ => rfl
  | i :: is, js, .str _ => rfl
  | i :: is, js, .fn _ => rfl
  | i :: is, js, .scr _ => rfl
  | i :: is, js, .dic _ => rfl
  | i :: is, js, .ins _ _ _ => rfl
  | i :: is, js, .exc _ => rfl
  | i :: is, js, .clo _ _ => rfl
theorem set_flat2 {Fs : List (List Addr)} {j : Nat} {F F' G : List Addr} (h : Fs[j]? = some F) (hs : SubF F' (F ++ G)) : SubF (Fs.set j F').flatten (Fs.flatten ++ G) := by
  obtain ⟨hj, hF⟩ := List.getElem?_eq_some_iff.mp h
  rw [List.set_eq_take_append_cons_drop, if_pos hj, flat_app, flat_cons]
  have e : Fs.flatten = (Fs.take j).flatten ++ (F ++ (Fs.drop (j + 1)).flatten) := by
    rw [← flat_cons, ← hF, ← List.drop_eq_getElem_cons hj, ← flat_app, List.take_append_drop]
  rw [e, List.append_assoc, List.append_assoc]
  refine (SubF.refl _).app ((hs.app (SubF.refl _)).trans ?_)
  rw [List.append_assoc]
  exact (SubF.refl F).app (.perm List.perm_append_comm)
theorem getD_of {Fs : List (List Addr)} {j : Nat} {F : List Addr} (h : Fs[j]? = some F) : Fs.getD j [] = F := by
  rw [List.getD_eq_getElem?_getD, h]; rfl
theorem nod_get : ∀ {Fs : List (List Addr)} {j : Nat} {F : List Addr}, Fs.flatten.Nodup → Fs[j]? = some F → F.Nodup
  | [], j, F, _, h => by simp at h
  | G :: Gs, 0, F, n, h => by
    simp at h
    subst h
    exact (List.nodup_append.mp (show (G ++ Gs.flatten).Nodup from n)).1
  | G :: Gs, j + 1, F, n, h => nod_get (List.nodup_append.mp (show (G ++ Gs.flatten).Nodup from n)).2.1 (by simpa using h)
theorem moS_cl {o : Mo} {is : List Int} {ps : List (Md × D)} {d : D} (c : closeds ps = true) : moS o is ps (.dp, d) = (moP o (ps.map Prod.snd) is d).map fun d' => (.dp, d') := by
  simp only [moS, c, if_true]
theorem moS_nc {o : Mo} {is : List Int} {ps : List (Md × D)} {d : D} {q' : Md × D} (c : ¬ closeds ps = true) (h : moS o is ps (.dp, d) = some q') : ∃ xs, is = [] ∧ d = .lst xs ∧ ((moL o xs (ps.map Prod.snd)).map fun ys => (Md.fl, D.lst ys)) = some q' := by
  unfold moS at h
  simp only [c, if_false] at h
  cases is with
  | cons _ _ => cases h
  | nil =>
    cases d with
    | lst xs => exact ⟨xs, rfl, rfl, h⟩
    | _ => cases h
theorem deep_mut {W : Wd} {H : Hp} {o : Mo} {as : List D} : ∀ {is : List Int} {d d' : D} {v : V} {F : List Addr}, Dq W H d v F → moP o as is d = some d' → ∃ p vs xs ys, VAt H is v (.ref p) ∧ p ∈ F ∧ H p = some (.lst vs) ∧ vs.length ≤ sizeLine ∧ Rps W H (fun _ => False) xs vs ∧ moL o xs as = some ys ∧
    ∀ avs vs' Gs, Al3 (Dq W H) as avs Gs → MoV o H vs avs vs' → (o = .remove → ∃ j, ys = xs.eraseIdx j ∧ vs' = vs.eraseIdx j) → vs'.length ≤ sizeLine → (F ++ Gs.flatten).Nodup → ∃ F', Dq W (L2.upd H p (.lst vs')) d' v F' ∧ SubF F' (F ++ Gs.flatten) ∧ p ∈ F'
  | [], d, d', v, F, h, hm => by
    cases d with
    | lst xs =>
      obtain ⟨a, vs, G, rfl, rfl, h1, h2, h3⟩ := h
      have hm : (moL o xs as).map D.lst = some d' := hm
      cases e : moL o xs as with
      | none => rw [e] at hm; cases hm
      | some ys =>
        rw [e] at hm
        cases hm
        refine ⟨a, vs, xs, ys, rfl, List.mem_cons_self, h1, h2, Dqs.rp _ _ _ h3 (fun _ _ z => z), e, fun avs vs' Gs ha hv hr hl nd => ?_⟩
        obtain ⟨Fs, k1, k2⟩ := h3.al
        obtain ⟨Fs', m1, m2⟩ := moL_ok relQ_dq k1 ha e hv hr
        rw [k2] at m2
        have nd : (a :: (G ++ Gs.flatten)).Nodup := nd
        obtain ⟨na, nd'⟩ := List.nodup_cons.mp nd
        have na' : a ∉ Fs'.flatten := fun z => na (m2.2 a z)
        refine ⟨a :: Fs'.flatten, ⟨a, vs', Fs'.flatten, rfl, rfl, upd_same, hl, Dqs.upd h1 trivial _ _ _ na' m1.dqs⟩, ?_, List.mem_cons_self⟩
        exact (SubF.refl [a]).app m2
    | _ => cases hm
  | i :: is, d, d', v, F, h, hm => by
    cases d with
    | lst xs =>
      obtain ⟨a, vs, G, rfl, rfl, h1, h2, h3⟩ := h
      have hm : ((ixN xs.length i).bind fun j => (xs[j]?).bind fun d => (moP o as is d).map fun d' => D.lst (xs.set j d')) = some d' := hm
      cases ej : ixN xs.length i with
      | none => rw [ej] at hm; cases hm
      | some j =>
        rw [ej] at hm
        have hm : ((xs[j]?).bind fun d => (moP o as is d).map fun d' => D.lst (xs.set j d')) = some d' := hm
        cases ex : xs[j]? with
        | none => rw [ex] at hm; cases hm
        | some d1 =>
          rw [ex] at hm
          have hm : ((moP o as is d1).map fun d' => D.lst (xs.set j d')) = some d' := hm
          cases em : moP o as is d1 with
          | none => rw [em] at hm; cases hm
          | some d1' =>
            rw [em] at hm
            cases hm
            obtain ⟨Fs, k1, k2⟩ := h3.al
            obtain ⟨w, F1, g1, g2, g3⟩ := k1.get ex
            obtain ⟨p, us, xs1, ys1, r1, r2, r3, r4, r5, r6, r7⟩ := deep_mut g3 em
            have hp : p ∈ G := by rw [← k2]; exact mem_flat (i := j) (by rw [getD_of g2]; exact r2)
            refine ⟨p, us, xs1, ys1, ⟨a, vs, w, rfl, .inl h1, ?_, r1⟩, List.mem_cons_of_mem _ hp, r3, r4, r5, r6, fun avs vs' Gs ha hv hr hl nd => ?_⟩
            · unfold atI
              rw [k1.len.1, ej]
              exact g1
            · have nd : (a :: (G ++ Gs.flatten)).Nodup := nd
              obtain ⟨na, nd'⟩ := List.nodup_cons.mp nd
              obtain ⟨nd1, nd2, nd3⟩ := List.nodup_append.mp nd'
              have sF1 : ∀ b ∈ F1, b ∈ G := fun b hb => by rw [← k2]; exact mem_flat (i := j) (by rw [getD_of g2]; exact hb)
              have ndF : F1.Nodup := by
                rw [← k2] at nd1
                exact nod_get nd1 g2
              obtain ⟨F1', q1, q2, q3⟩ := r7 avs vs' Gs ha hv hr hl (List.nodup_append.mpr ⟨ndF, nd2, fun b hb c hc e => nd3 b (sF1 b hb) c hc e⟩)
              have ne : a ≠ p := fun z => na (List.mem_append_left _ (z ▸ hp))
              have k3 : Al3 (Dq W (L2.upd H p (.lst vs'))) (xs.set j d1') vs (Fs.set j F1') := k1.upd g1 q1 fun k d2 v2 F2 hk e2 hq => Dq.upd r3 trivial _ _ _ (fun z => hk (flat_inj (by rw [k2]; exact nd1) (by rw [getD_of e2]; exact z) (by rw [getD_of g2]; exact r2))) hq
              refine ⟨a :: (Fs.set j F1').flatten, ⟨a, vs, _, rfl, rfl, by rw [upd_ne ne]; exact h1, h2, k3.dqs⟩, ?_, ?_⟩
              · have := set_flat2 g2 q2
                rw [k2] at this
                exact (SubF.refl [a]).app this
              · refine List.mem_cons_of_mem _ (mem_flat (i := j) ?_)
                rw [getD_set_self (List.getElem?_eq_some_iff.mp g2).1]
                exact q3
    | tup xs =>
      obtain ⟨a, vs, rfl, h1, h2, h3⟩ := h
      have hm : ((ixN xs.length i).bind fun j => (xs[j]?).bind fun d => (moP o as is d).map fun d' => D.tup (xs.set j d')) = some d' := hm
      cases ej : ixN xs.length i with
      | none => rw [ej] at hm; cases hm
      | some j =>
        rw [ej] at hm
        have hm : ((xs[j]?).bind fun d => (moP o as is d).map fun d' => D.tup (xs.set j d')) = some d' := hm
        cases ex : xs[j]? with
        | none => rw [ex] at hm; cases hm
        | some d1 =>
          rw [ex] at hm
          have hm : ((moP o as is d1).map fun d' => D.tup (xs.set j d')) = some d' := hm
          cases em : moP o as is d1 with
          | none => rw [em] at hm; cases hm
          | some d1' =>
            rw [em] at hm
            cases hm
            obtain ⟨Fs, k1, k2⟩ := h3.al
            obtain ⟨w, F1, g1, g2, g3⟩ := k1.get ex
            obtain ⟨p, us, xs1, ys1, r1, r2, r3, r4, r5, r6, r7⟩ := deep_mut g3 em
            have hp : p ∈ F := by rw [← k2]; exact mem_flat (i := j) (by rw [getD_of g2]; exact r2)
            refine ⟨p, us, xs1, ys1, ⟨a, vs, w, rfl, .inr h1, ?_, r1⟩, hp, r3, r4, r5, r6, fun avs vs' Gs ha hv hr hl nd => ?_⟩
            · unfold atI
              rw [k1.len.1, ej]
              exact g1
            · obtain ⟨nd1, nd2, nd3⟩ := List.nodup_append.mp nd
              have sF1 : ∀ b ∈ F1, b ∈ F := fun b hb => by rw [← k2]; exact mem_flat (i := j) (by rw [getD_of g2]; exact hb)
              have ndF : F1.Nodup := by
                rw [← k2] at nd1
                exact nod_get nd1 g2
              obtain ⟨F1', q1, q2, q3⟩ := r7 avs vs' Gs ha hv hr hl (List.nodup_append.mpr ⟨ndF, nd2, fun b hb c hc e => nd3 b (sF1 b hb) c hc e⟩)
              have k3 : Al3 (Dq W (L2.upd H p (.lst vs'))) (xs.set j d1') vs (Fs.set j F1') := k1.upd g1 q1 fun k d2 v2 F2 hk e2 hq => Dq.upd r3 trivial _ _ _ (fun z => hk (flat_inj (by rw [k2]; exact nd1) (by rw [getD_of e2]; exact z) (by rw [getD_of g2]; exact r2))) hq
              refine ⟨(Fs.set j F1').flatten, ⟨a, vs, rfl, upd_out r3 h1 trivial (fun z => z), h2, k3.dqs⟩, ?_, ?_⟩
              · have := set_flat2 g2 q2
                rw [k2] at this
                exact this
              · refine mem_flat (i := j) ?_
                rw [getD_set_self (List.getElem?_eq_some_iff.mp g2).1]
                exact q3
    | _ => cases hm

section
variable {W : Wd} {H0 H : Hp} {O0 : Addr → Prop} {σ : L2.St} {δ : Dn} {Fs : List (List Addr)}
theorem SS.chg {Fa : List Addr} (S : SS W H0 (fun a => O0 a ∨ a ∈ Fa) H σ δ Fs) (hO : ∀ a ∈ Fa, ¬ O0 a) (nd : Fa.Nodup) (n0 : ∀ a ∈ Fa, H0 a = none) (ta : ∀ a ∈ Fa, ∃ o, H a = some o ∧ MutC o) {i : Nat} {q q' : Md × D} (hi : δ[i]? = some (some q)) {v : V} (hv : σ[i]? = some (some v)) {p : Addr} {u x : HO}
    (hp : p ∈ Fs.getD i []) (hH : H p = some u) (mu : MutC u) (mx : MutC x) {F' : List Addr} (sF : SubF F' (Fs.getD i [] ++ Fa)) (ow : Ow W (L2.upd H p x) (fun a => O0 a ∨ a ∈ (Fs.set i F').flatten) q'.1 q'.2 v F') : SS W H0 O0 (L2.upd H p x) σ (δ.set i (some q')) (Fs.set i F') := by
  have hl : i < Fs.length := by rw [S.lenF, ← S.len]; exact (List.getElem?_eq_some_iff.mp hi).1
  have sub : ∀ a, a ∈ (Fs.set i F').flatten → a ∈ Fs.flatten ∨ a ∈ Fa := fun a z => by
    rcases mem_set_flat z with z | ⟨j, _, z⟩
    · rcases List.mem_append.mp (sF.2 a z) with z | z
      · exact .inl (mem_flat z)
      · exact .inr z
    · exact .inl (mem_flat z)
  have hpf := mem_flat hp
  have keep : ∀ a, H a ≠ none → L2.upd H p x a ≠ none := fun a h => by
    by_cases e : a = p
    · rw [e, upd_same]; simp
    · rw [upd_ne e]; exact h
  refine ⟨S.same.upd (S.new p hpf) hH mu, by rw [List.length_set]; exact S.len, by rw [List.length_set]; exact S.lenF, fun j r e => ?_, ?_, fun a ha => ?_, fun a za ha => ?_, fun a za => keep a (S.oldT a (.inl za)), fun a ha => ?_, fun j e => ?_, S.tb⟩
  · by_cases h : i = j
    · subst h
      rw [List.getElem?_set_self (by rw [S.len, ← S.lenF]; exact hl)] at e
      cases e
      refine ⟨v, hv, ?_⟩
      rw [getD_set_self hl]
      exact ow
    · rw [List.getElem?_set_ne h] at e
      obtain ⟨w, h1, h2⟩ := S.slot j r e
      refine ⟨w, h1, ?_⟩
      rw [getD_set_ne h]
      refine (h2.upd hH mu (.inr hpf) fun z => h (flat_inj S.nod hp z)).mono (Same.refl _) fun a z => ?_
      rcases z with z | z
      · exact .inl (.inl z)
      · rcases sub a z with z | z
        · exact .inr z
        · exact .inl (.inr z)
  · have e : Fs[i]? = some (Fs.getD i []) := by rw [List.getD_eq_getElem?_getD, List.getElem?_eq_getElem hl]; rfl
    exact (set_flat2 e sF).1 (List.nodup_append.mpr ⟨S.nod, nd, fun a ha b hb e => S.offF a (.inr (e ▸ hb)) ha⟩)
  · rcases sub a ha with z | z
    · exact S.new a z
    · exact n0 a z
  · rcases sub a ha with z | z
    · exact S.offF a (.inl za) z
    · exact hO a z za
  · by_cases e : a = p
    · exact ⟨x, by rw [e, upd_same], mx⟩
    · rw [upd_ne e]
      rcases sub a ha with z | z
      · exact S.there a z
      · exact ta a z
  · by_cases h : i = j
    · subst h
      rw [List.getElem?_set_self (by rw [S.len, ← S.lenF]; exact hl)] at e
      cases e
    · rw [List.getElem?_set_ne h] at e
      rw [getD_set_ne h]
      exact S.mt j e
theorem SS.mut {ps : List (Md × D)} {avs : List V} {Gs : List (List Addr)} (S : SS W H0 (fun a => O0 a ∨ a ∈ Gs.flatten) H σ δ Fs) (hO : ∀ a ∈ Gs.flatten, ¬ O0 a) (nd : Gs.flatten.Nodup) (n0 : ∀ a ∈ Gs.flatten, H0 a = none)
    (ow : Ows W H (fun a => (O0 a ∨ a ∈ Fs.flatten) ∨ a ∈ Gs.flatten) ps avs Gs) {i : Nat} {q q' : Md × D} (hi : δ[i]? = some (some q)) {o : Mo} {is : List Int} (hm : moS o is ps q = some q') :
    ∃ v p vs xs ys, σ[i]? = some (some v) ∧ VAt H is v (.ref p) ∧ p ∈ Fs.getD i [] ∧ H p = some (.lst vs) ∧ vs.length ≤ sizeLine ∧ Rps W H (fun _ => False) xs vs ∧ moL o xs (ps.map Prod.snd) = some ys ∧
      ∀ vs', MoV o H vs avs vs' → (o = .remove → ∃ j, ys = xs.eraseIdx j ∧ vs' = vs.eraseIdx j) → vs'.length ≤ sizeLine → ∃ F', SS W H0 O0 (L2.upd H p (.lst vs')) σ (δ.set i (some q')) (Fs.set i F') ∧ ∀ a ∈ F', a ∈ Fs.flatten ∨ a ∈ Gs.flatten := by
  obtain ⟨v, hv, how⟩ := S.slot i q hi
  have hl : i < Fs.length := by rw [S.lenF, ← S.len]; exact (List.getElem?_eq_some_iff.mp hi).1
  have eF : Fs[i]? = some (Fs.getD i []) := by rw [List.getD_eq_getElem?_getD, List.getElem?_eq_getElem hl]; rfl
  have ndi : (Fs.getD i []).Nodup := nod_get S.nod eF
  have ndG : (Fs.getD i [] ++ Gs.flatten).Nodup := List.nodup_append.mpr ⟨ndi, nd, fun a ha b hb e => S.offF a (.inr (e ▸ hb)) (mem_flat ha)⟩
  -- a flat change
  have flat : ∀ (a : Addr) (vs : List V) (xs : List D) (ys : List D), v = .ref a → a ∈ Fs.getD i [] → H a = some (.lst vs) → vs.length ≤ sizeLine → Rps W H (fun c => O0 c ∨ c ∈ (Fs.set i [a]).flatten) xs vs → moL o xs (ps.map Prod.snd) = some ys → q' = (.fl, .lst ys) → is = [] →
      ∃ v p vs xs ys, σ[i]? = some (some v) ∧ VAt H is v (.ref p) ∧ p ∈ Fs.getD i [] ∧ H p = some (.lst vs) ∧ vs.length ≤ sizeLine ∧ Rps W H (fun _ => False) xs vs ∧ moL o xs (ps.map Prod.snd) = some ys ∧
      ∀ vs', MoV o H vs avs vs' → (o = .remove → ∃ j, ys = xs.eraseIdx j ∧ vs' = vs.eraseIdx j) → vs'.length ≤ sizeLine → ∃ F', SS W H0 O0 (L2.upd H p (.lst vs')) σ (δ.set i (some q')) (Fs.set i F') ∧ ∀ a ∈ F', a ∈ Fs.flatten ∨ a ∈ Gs.flatten := by
    intro a vs xs ys ev ha h1 h2 h3 em eq ei
    subst ev eq ei
    have op : a ∈ (Fs.set i [a]).flatten := mem_flat (i := i) (by rw [getD_set_self hl]; exact List.mem_cons_self)
    refine ⟨.ref a, a, vs, xs, ys, hv, rfl, ha, h1, h2, Rps.mono (Same.refl H) (fun _ z => z.elim) _ _ h3, em, fun vs' mv hr hl' => ⟨[a], ?_, fun b hb => by rw [List.mem_singleton.mp hb]; exact .inl (mem_flat ha)⟩⟩
    have sA : ∀ c, (O0 c ∨ c ∈ (Fs.set i [a]).flatten) → (O0 c ∨ c ∈ Fs.flatten) := fun c z => by
      rcases z with z | z
      · exact .inl z
      · rcases mem_set_flat z with z | ⟨j, _, z⟩
        · rw [List.mem_singleton.mp z]; exact .inr (mem_flat ha)
        · exact .inr (mem_flat z)
    have ra : Rps W H (fun c => O0 c ∨ c ∈ (Fs.set i [a]).flatten) (ps.map Prod.snd) avs := ow.rps (fun c z => .inl (sA c z)) fun c hc z => by
      rcases sA c z with z | z
      · exact hO c hc z
      · exact S.offF c (.inr hc) z
    obtain ⟨A1, k1⟩ := Rps.al h3
    obtain ⟨A2, k2⟩ := Rps.al ra
    obtain ⟨A3, k3, _⟩ := moL_ok relQ_rp k1 k2 em mv hr
    refine S.chg hO nd n0 (fun b hb => ow.there b hb) hi hv ha h1 trivial (x := .lst vs') trivial (.sub ?_) ⟨a, vs', rfl, rfl, upd_same, hl', Rps.upd h1 trivial (.inr op) _ _ k3.rps⟩
    exact (List.singleton_sublist.mpr ha).trans (List.sublist_append_left _ _)
  obtain ⟨m, d⟩ := q
  cases m with
  | sh => cases hm
  | fl =>
    cases is with
    | cons _ _ => cases hm
    | nil =>
      cases d with
      | lst xs =>
        have hm : ((moL o xs (ps.map Prod.snd)).map fun ys => (Md.fl, D.lst ys)) = some q' := hm
        cases em : moL o xs (ps.map Prod.snd) with
        | none => rw [em] at hm; cases hm
        | some ys =>
          rw [em] at hm
          cases hm
          obtain ⟨a, vs, e1, e2, h1, h2, h3⟩ := how
          refine flat a vs xs ys e1 (by rw [e2]; exact List.mem_cons_self) h1 h2 (Rps.mono (Same.refl H) (fun c z => ?_) _ _ h3) em rfl rfl
          rcases z with z | z
          · exact .inl (.inl z)
          · rcases mem_set_flat z with z | ⟨j, _, z⟩
            · rw [← e2] at z; exact .inr (mem_flat z)
            · exact .inr (mem_flat z)
      | _ => cases hm
  | dp =>
    by_cases c : closeds ps = true
    · rw [moS_cl c] at hm
      cases em : moP o (ps.map Prod.snd) is d with
      | none => rw [em] at hm; cases hm
      | some d' =>
        rw [em] at hm
        cases hm
        obtain ⟨p, vs, xs, ys, r1, r2, r3, r4, r5, r6, r7⟩ := deep_mut how em
        refine ⟨v, p, vs, xs, ys, hv, r1, r2, r3, r4, r5, r6, fun vs' mv hr hl' => ?_⟩
        obtain ⟨Gs', g1, g2⟩ := (ow.dqs c).al
        obtain ⟨F', q1, q2, q3⟩ := r7 avs vs' Gs' g1 mv hr hl' (by rw [g2]; exact ndG)
        rw [g2] at q2
        refine ⟨F', S.chg hO nd n0 (fun b hb => ow.there b hb) hi hv r2 r3 trivial (x := .lst vs') trivial q2 q1, fun b hb => ?_⟩
        rcases List.mem_append.mp (q2.2 b hb) with z | z
        · exact .inl (mem_flat z)
        · exact .inr z
    · obtain ⟨xs, ei, ed, hm2⟩ := moS_nc c hm
      clear hm
      subst ed
      cases em : moL o xs (ps.map Prod.snd) with
      | none => rw [em] at hm2; cases hm2
      | some ys =>
        rw [em] at hm2
        cases hm2
        obtain ⟨a, vs, G, e1, e2, h1, h2, h3⟩ := how
        refine flat a vs xs ys e1 (by rw [e2]; exact List.mem_cons_self) h1 h2 (Dqs.rp _ _ _ h3 fun b hb z => ?_) em rfl ei
        have hb' : b ∈ Fs.getD i [] := by rw [e2]; exact List.mem_cons_of_mem _ hb
        rcases z with z | z
        · exact S.offF b (.inl z) (mem_flat hb')
        · rcases mem_set_flat z with z | ⟨j, hj, z⟩
          · rw [e2] at ndi
            exact (List.nodup_cons.mp ndi).1 (by rw [← List.mem_singleton.mp z]; exact hb)
          · exact hj (flat_inj S.nod z hb')
end
end TW

set_option Elab.async false
set_option linter.all false
set_option maxRecDepth 100000
set_option maxHeartbeats 4000000
namespace TW
open PySem PySem.Spec PyProof.Rows L2
variable [TabT]

def plc (T : Tb) (i : Nat) (p : List E) (δ : Dn) : M (List Int × D) := match δ[i]? with
  | some (some q) => bnd (evP T p δ) fun ri => match getP ri.reverse q.2 with
    | some d => ok (ri, d)
    | none => none
  | _ => none
def rqp (W : Wd) (E0 : XK) (H : Hp) (v : V) (r : M (List Int × D)) (Q : VK) : Prop := match r with
  | none => False
  | some (.er C) => ∀ H', Same H H' → E0 (.ref (W.ca C)) none H'
  | some (.ok z) => ∀ w H', Same H H' → VAt H' z.1.reverse v w → Rp W H' (fun _ => False) z.2 w → Q w H'
def rdP (W : Wd) (E0 : XK) (T : Tb) (i : Nat) (p : List E) : TE := fun σ H Q => ∃ H0 O0 δ Fs v, SS W H0 O0 H σ δ Fs ∧ σ[i]? = some (some v) ∧ rqp W E0 H v (plc T i p δ) Q
theorem rqp_bnd {W : Wd} {E0 : XK} {H : Hp} {v : V} {α : Type} {x : M (List Int × D)} {f : List Int × D → M α} {G : M α → Prop} {R : VK} (hn : ¬ G none) (he : ∀ C, G (some (.er C)) → ∀ H', Same H H' → E0 (.ref (W.ca C)) none H') (h : G (bnd x f))
    (k : ∀ z, x = some (.ok z) → G (f z) → ∀ w H', Same H H' → VAt H' z.1.reverse v w → Rp W H' (fun _ => False) z.2 w → R w H') : rqp W E0 H v x R := by
  match x, h with
  | none, h => exact hn h
  | some (.er C), h => exact he C h
  | some (.ok z), h => exact k z rfl h
section
variable {W : Wd} {E0 : XK} {T : Tb} {X : Cx}
theorem p_nil (i : Nat) {x : Str} {pos : Pos} (hN : X.N[i]? = some x := by rfl) (hv : Vis X.env.scope x := by first | exact Or.inl rfl | exact Or.inr (Or.inl rfl) | exact Or.inr (Or.inr rfl)) (hd : (x == ("__debug__" : Str)) = false := by decide)
    (hcd : (x == ("__classdict__" : Str)) = false := by decide) : PE X (.Name x pos) (rdP W E0 T i []) := (pv i hN hv hd hcd).imp fun σ H Q ⟨H0, O0, δ, Fs, v, S, hv, q⟩ => by
  unfold plc at q
  cases e : δ[i]? with
  | none => rw [e] at q; exact q.elim
  | some o =>
    cases o with
    | none => rw [e] at q; exact q.elim
    | some p =>
      rw [e] at q
      obtain ⟨w, h1, h2⟩ := S.var e (T := [i]) (by simp)
      rw [hv] at h1
      cases h1
      exact ⟨v, hv, q v H (Same.refl H) rfl (Rp.mono (Same.refl H) (fun _ z => z.elim) _ _ h2)⟩
theorem okOnly_some {α : Type} {x : M α} {a : α} (h : okOnly x = some a) : x = some (.ok a) := by
  match x, h with
  | some (.ok b), h => cases h; rfl
theorem plc_cons {i : Nat} {a : E} {p : List E} {δ : Dn} : plc T i (a :: p) δ = bnd (plc T i p δ) fun z => match okOnly (ev T a δ) with
    | none => none
    | some r => (match intD r.2 with
      | some k => (match getP [k] z.2 with
        | some d => ok (k :: z.1, d)
        | none => none)
      | none => none) := by
  unfold plc
  cases δ[i]? with
  | none => rfl
  | some o =>
    cases o with
    | none => rfl
    | some q =>
      show bnd (bnd (evP T p δ) _) _ = bnd (bnd (evP T p δ) _) _
      cases evP T p δ with
      | none => rfl
      | some r =>
        cases r with
        | er C => rfl
        | ok ri =>
          show bnd (match okOnly (ev T a δ) with | some p => lift ((intD p.2).map (· :: ri)) | none => none) _ = bnd (match getP ri.reverse q.2 with | some d => ok (ri, d) | none => none) _
          cases okOnly (ev T a δ) with
          | none => cases getP ri.reverse q.2 <;> rfl
          | some r =>
            cases ek : intD r.2 with
            | none => cases getP ri.reverse q.2 <;> simp [bnd, lift, ek]
            | some k =>
              have e : getP (k :: ri).reverse q.2 = (getP ri.reverse q.2).bind (getP [k]) := by rw [List.reverse_cons, getP_app]
              simp only [ek, Option.map_some, lift, bnd, e]
              cases getP ri.reverse q.2 with
              | none => rfl
              | some d => rfl
theorem p_cons {o b : Expr} {i : Nat} {p : List E} {cb : E} {pos : Pos} (ho : PE X o (rdP W E0 T i p)) (hb : PE X b (rdE W E0 T cb)) (hs : PlainIx b := by exact fun _ _ => rfl) : PE X (.Subscript o b pos) (rdP W E0 T i (cb :: p)) :=
  (pe_ix ix_seq ho hb hs).imp fun σ H Q ⟨H0, O0, δ, Fs, v, S, hv, q⟩ => by
    rw [plc_cons] at q
    refine ⟨H0, O0, δ, Fs, v, S, hv, rqp_bnd (G := fun z => rqp W E0 H v z Q) (fun h => h) (fun C h => h) q fun z ez h1 w H1 s1 va rp => ?_⟩
    cases eo : okOnly (ev T cb δ) with
    | none => rw [eo] at h1; exact h1.elim
    | some r =>
    rw [eo] at h1
    refine ⟨H0, O0, δ, Fs, S.grow s1, ?_⟩
    rw [okOnly_some eo]
    have h2 : rqp W E0 H v (match intD r.2 with | some k => (match getP [k] z.2 with | some d => ok (k :: z.1, d) | none => none) | none => none) Q := h1
    intro u H2 F s2 n2 nd2 ow2
    cases ei : intD r.2 with
    | none => rw [ei] at h2; exact h2.elim
    | some k =>
      rw [ei] at h2
      have ru := ow2.rpv (O1 := fun _ => False) (fun _ z => z.elim) (fun _ z => z.elim) n2
      rw [intD_eq ei] at ru
      have ru : u = .int k := ru
      subst ru
      have rp2 := Rp.mono s2 (fun _ z => z) _ _ rp
      have va2 := va.mono s2
      obtain ⟨ri, d⟩ := z
      have h2 : rqp W E0 H v (match getP [k] d with | some d => ok (k :: ri, d) | none => none) Q := h2
      cases d with
      | lst ds =>
        obtain ⟨a, vs, rfl, _, g1, g2, g3⟩ := rp2
        cases ea : atI ds k with
        | none =>
          have e0 : getP [k] (.lst ds) = none := by show (atI ds k).bind _ = none; rw [ea]; rfl
          rw [e0] at h2
          exact h2.elim
        | some d' =>
          have e0 : getP [k] (.lst ds) = some d' := by show (atI ds k).bind _ = some d'; rw [ea]; rfl
          rw [e0] at h2
          obtain ⟨x, e1, r1⟩ := g3.at ea
          refine .inl ⟨a, vs, k, x, rfl, rfl, .inl (.inl g1), e1, h2 x H2 (s1.trans s2) ?_ r1⟩
          show VAt H2 (k :: ri).reverse v x
          rw [List.reverse_cons]
          exact VAt.snoc (.inl g1) e1 va2
      | tup ds =>
        obtain ⟨a, vs, rfl, g1, g2, g3⟩ := rp2
        cases ea : atI ds k with
        | none =>
          have e0 : getP [k] (.tup ds) = none := by show (atI ds k).bind _ = none; rw [ea]; rfl
          rw [e0] at h2
          exact h2.elim
        | some d' =>
          have e0 : getP [k] (.tup ds) = some d' := by show (atI ds k).bind _ = some d'; rw [ea]; rfl
          rw [e0] at h2
          obtain ⟨x, e1, r1⟩ := g3.at ea
          refine .inr (.inl ⟨a, vs, k, x, rfl, rfl, .inl (.inl g1), e1, h2 x H2 (s1.trans s2) ?_ r1⟩)
          show VAt H2 (k :: ri).reverse v x
          rw [List.reverse_cons]
          exact VAt.snoc (.inr g1) e1 va2
      | _ => exact h2.elim

theorem gives_get {ns : List Nat} {ps : List (Md × D)} {δ : Dn} {i : Nat} {q : Md × D} (h : (gives ns ps δ)[i]? = some (some q)) : ∃ q0, δ[i]? = some (some q0) ∧ q0.2 = q.2 := by
  have fz : ∀ (ns : List Nat) {δ : Dn} {i : Nat} {q : Md × D}, (frz ns δ)[i]? = some (some q) → ∃ q0, δ[i]? = some (some q0) ∧ q0.2 = q.2 := by
    intro ns
    induction ns with
    | nil => exact fun h => ⟨_, h, rfl⟩
    | cons n ns ih =>
      intro δ i q h
      have h : (frz ns (match δ[n]? with | some s => δ.set n (frzS s) | none => δ))[i]? = some (some q) := h
      obtain ⟨q1, h1, e1⟩ := ih h
      cases en : δ[n]? with
      | none => rw [en] at h1; exact ⟨q1, h1, e1⟩
      | some s =>
        rw [en] at h1
        have h1 : (δ.set n (frzS s))[i]? = some (some q1) := h1
        by_cases hh : n = i
        · subst hh
          rw [List.getElem?_set_self (List.getElem?_eq_some_iff.mp en).1] at h1
          cases s with
          | none => cases h1
          | some r =>
            cases h1
            exact ⟨r, en, e1⟩
        · rw [List.getElem?_set_ne hh] at h1
          exact ⟨q1, h1, e1⟩
  unfold gives at h
  split at h
  · split at h
    · exact ⟨q, h, rfl⟩
    · exact fz ns h
  · exact ⟨q, h, rfl⟩
theorem moP_get {o : Mo} {as : List D} : ∀ {is : List Int} {d d' : D}, moP o as is d = some d' → ∃ xs ys, getP is d = some (.lst xs) ∧ moL o xs as = some ys
  | [], d, d', h => by
    cases d with
    | lst xs =>
      have h : (moL o xs as).map D.lst = some d' := h
      cases e : moL o xs as with
      | none => rw [e] at h; cases h
      | some ys => exact ⟨xs, ys, rfl, e⟩
    | _ => cases h
  | i :: is, d, d', h => by
    have key : ∀ (xs : List D) (f : List D → D), ((ixN xs.length i).bind fun j => (xs[j]?).bind fun d => (moP o as is d).map fun d' => f (xs.set j d')) = some d' → ∃ zs ys, (atI xs i).bind (getP is) = some (.lst zs) ∧ moL o zs as = some ys := by
      intro xs f h
      unfold atI
      cases ej : ixN xs.length i with
      | none => rw [ej] at h; cases h
      | some j =>
        rw [ej] at h
        have h : ((xs[j]?).bind fun d => (moP o as is d).map fun d' => f (xs.set j d')) = some d' := h
        show ∃ zs ys, (xs[j]?).bind (getP is) = some (.lst zs) ∧ moL o zs as = some ys
        cases ex : xs[j]? with
        | none => rw [ex] at h; cases h
        | some d1 =>
          rw [ex] at h
          have h : ((moP o as is d1).map fun d' => f (xs.set j d')) = some d' := h
          cases em : moP o as is d1 with
          | none => rw [em] at h; cases h
          | some d2 => exact moP_get em
    cases d with
    | lst xs => exact key xs D.lst h
    | tup xs => exact key xs D.tup h
    | _ => cases h
theorem moS_get {o : Mo} {is : List Int} {ps : List (Md × D)} {q q' : Md × D} (h : moS o is ps q = some q') : ∃ xs ys, getP is q.2 = some (.lst xs) ∧ moL o xs (ps.map Prod.snd) = some ys := by
  obtain ⟨m, d⟩ := q
  have flat : ∀ xs : List D, ((moL o xs (ps.map Prod.snd)).map fun ys => (Md.fl, D.lst ys)) = some q' → ∃ ys, moL o xs (ps.map Prod.snd) = some ys := fun xs h => by
    cases e : moL o xs (ps.map Prod.snd) with
    | none => rw [e] at h; cases h
    | some ys => exact ⟨ys, rfl⟩
  cases m with
  | sh => cases h
  | fl =>
    cases is with
    | cons _ _ => cases h
    | nil =>
      cases d with
      | lst xs => obtain ⟨ys, e⟩ := flat xs h; exact ⟨xs, ys, rfl, e⟩
      | _ => cases h
  | dp =>
    by_cases c : closeds ps = true
    · rw [moS_cl c] at h
      cases em : moP o (ps.map Prod.snd) is d with
      | none => rw [em] at h; cases h
      | some d' => exact moP_get em
    · obtain ⟨xs, rfl, rfl, h2⟩ := moS_nc c h
      obtain ⟨ys, e⟩ := flat xs h2
      exact ⟨xs, ys, rfl, e⟩
def mutK (i : Nat) (o : Mo) (is : List Int) (ns : List Nat) (ps : List (Md × D)) (δ : Dn) : M Fl := match (gives ns ps δ)[i]? with
  | some (some q) => lift ((moS o is ps q).map fun q' => Fl.nx ((gives ns ps δ).set i (some q')))
  | _ => none
def isL : D → Bool
  | .lst _ => true
  | _ => false
theorem ex_mut {i : Nat} {p : List E} {o : Mo} {as : List E} {δ : Dn} : ex T (.mut i p o as) δ = bnd (plc T i p δ) fun z => if isL z.2 then bnd (evs T as δ) fun ps => mutK i o z.1.reverse (nms as) ps δ else none := by
  simp only [ex]
  unfold plc mutK
  cases δ[i]? with
  | none => rfl
  | some s =>
    cases s with
    | none => rfl
    | some q =>
      show bnd (evP T p δ) _ = bnd (bnd (evP T p δ) _) _
      cases evP T p δ with
      | none => rfl
      | some r =>
        cases r with
        | er C => rfl
        | ok ri =>
          simp only [bnd]
          cases getP ri.reverse q.2 with
          | none => rfl
          | some d => cases d <;> rfl
theorem mut_fin {H0 H H3 : Hp} {O0 : Addr → Prop} {σ : L2.St} {δ : Dn} {Fs Gs : List (List Addr)} {ns : List Nat} {ps : List (Md × D)} {avs : List V} {i : Nat} {o : Mo} {is : List Int} {D' : Ends} (S : SS W H0 O0 H σ δ Fs) (s1 : Same H H3) (n1 : ∀ a ∈ Gs.flatten, H a = none) (nd : Gs.flatten.Nodup)
    (ow : Ows W H3 (fun a => av O0 Fs ns a ∨ a ∈ Gs.flatten) ps avs Gs) (h : rqf W E0 H0 O0 H Fs (mutK i o is ns ps δ) D') :
    ∃ v p vs xs ys, σ[i]? = some (some v) ∧ VAt H3 is v (.ref p) ∧ H3 p = some (.lst vs) ∧ vs.length ≤ sizeLine ∧ Rps W H3 (fun _ => False) xs vs ∧ moL o xs (ps.map Prod.snd) = some ys ∧
      ∀ vs', MoV o H3 vs avs vs' → (o = .remove → ∃ j, ys = xs.eraseIdx j ∧ vs' = vs.eraseIdx j) → vs'.length ≤ sizeLine → D'.nx σ (L2.upd H3 p (.lst vs')) := by
  obtain ⟨Fs2, S2, sub, ow2⟩ := gives_ok S s1 n1 ow
  unfold mutK at h
  cases eg : (gives ns ps δ)[i]? with
  | none => rw [eg] at h; exact h.elim
  | some sl =>
    cases sl with
    | none => rw [eg] at h; exact h.elim
    | some q =>
      rw [eg] at h
      cases em : moS o is ps q with
      | none => simp only [em] at h; exact h.elim
      | some q' =>
        simp only [em] at h
        obtain ⟨v, p, vs, xs, ys, g1, g2, g3, g4, g5, g6, g7, g8⟩ := S2.mut (fun a ha z => S.oldT a z (n1 a ha)) nd (fun a ha => S.same.free (n1 a ha)) ow2 eg em
        refine ⟨v, p, vs, xs, ys, g1, g2, g4, g5, g6, g7, fun vs' mv hr hl => ?_⟩
        obtain ⟨F', S3, s3⟩ := g8 vs' mv hr hl
        refine h _ _ _ S3 ⟨fun b u e nb nt => ?_, fun a ha => ?_, fun b hb => ?_⟩
        · have ne : b ≠ p := fun z => nb (sub b (mem_flat (i := i) (by rw [z]; exact g3)))
          rw [upd_ne ne]
          exact s1.1 b u e nt
        · have : a ∈ Fs2.flatten ∨ a ∈ Gs.flatten := by
            rcases mem_set_flat ha with z | ⟨j, _, z⟩
            · exact s3 a z
            · exact .inl (mem_flat z)
          exact this.imp (sub a) (n1 a)
        · by_cases e : b = p
          · rw [e, upd_same]; simp
          · rw [upd_ne e]; exact fun z => hb (s1.free z)
def MoR (o : Mo) (n : Nat) (r : V → List V → Hp → VK → Prop) : Prop := ∀ (W : Wd) (H : Hp) (p : Addr) (vs : List V) (xs : List D) (avs : List V) (ds ys : List D) (Q : VK), ds.length = n → H p = some (.lst vs) → vs.length ≤ sizeLine → Rps W H (fun _ => False) xs vs → Rps W H (fun _ => False) ds avs → moL o xs ds = some ys →
  (∀ ret vs', MoV o H vs avs vs' → (o = .remove → ∃ j, ys = xs.eraseIdx j ∧ vs' = vs.eraseIdx j) → vs'.length ≤ sizeLine → Q ret (L2.upd H p (.lst vs'))) → r (.ref p) avs H Q
theorem s_mut {o : Mo} {n : Nat} {r : V → List V → Hp → VK → Prop} {id : String} {name : Str} {ob e : Expr} {es : List Expr} {i : Nat} {p : List E} {cs : List E} {apos cpos pos : Pos} (slot : Slot "list" name id) (hty : typeOf (.builtin id) = pure (.type "method_descriptor")) (hm : MtR X id r) (hr : MoR o n r) (hn : cs.length = n) (ho : PE X ob (rdP W E0 T i p)) (ha : PA X (e :: es) (rdA W E0 T cs))
    (hbase : attributeBase ob name X.env (eval ob X.env) = eval ob X.env := by rfl)
    (hfew : ((backTo cpos (starEach (e :: es) X.env)).all (fun x => !x.1) && (backToKw cpos (keywordEach [] X.env)).all (fun x => x.1.isSome)
      && decide ((e :: es).length + ([] : List Keyword).length + (if ([] : List Keyword).isEmpty then 0 else 1) < 30)) = true := by rfl)
    (hline : (apos.endLine == cpos.line) = true := by rfl) (hs : starEach (e :: es) X.env = (false, eval e X.env) :: starEach es X.env := by rfl) (hplain : (backTo cpos (starEach es X.env)).any (·.1) = false := by rfl)
    (hsw : swapsWith (.Call (.Attribute ob name apos) (e :: es) [] cpos) none pos.line X.env = pure false := by rfl) :
    PS X (.Expr (.Call (.Attribute ob name apos) (e :: es) [] cpos) pos) (rdS W E0 T (.mut i p o cs)) :=
  (ps_expr (pe_bm PySem.F.plainAttrs_list slot hty hm ho ha hbase hfew hline hs hplain) hsw).imp fun D σ H ⟨H0, O0, δ, Fs, S, q⟩ => by
    rw [ex_mut] at q
    have hv : ∃ v, σ[i]? = some (some v) := by
      unfold plc at q
      cases e : δ[i]? with
      | none => rw [e] at q; exact q.elim
      | some s =>
        cases s with
        | none => rw [e] at q; exact q.elim
        | some pr => exact (S.slot i pr e).imp fun v h => h.1
    obtain ⟨v, hv⟩ := hv
    refine ⟨H0, O0, δ, Fs, v, S, hv, rqp_bnd (G := fun z => rqf W E0 H0 O0 H Fs z D) rqf_none (fun C h => rqf_er S.same h) q fun z ez h1 w H1 s1 va rp => ?_⟩
    obtain ⟨ri, d⟩ := z
    have va : VAt H1 ri.reverse v w := va
    cases d with
    | lst xs0 =>
      have h1 : rqf W E0 H0 O0 H Fs (bnd (evs T cs δ) fun ps => mutK i o ri.reverse (nms cs) ps δ) D := h1
      obtain ⟨a, us, rfl, _, g1, g2, g3⟩ := rp
      refine ⟨.inl ⟨rfl, us, .inl (.inl g1)⟩, H0, O0, δ, Fs, S.grow s1, rqs_bnd2 (G := fun z => rqf W E0 H0 O0 H Fs z D) rqf_none (fun C h H' s' => rqf_er S.same h H' (s1.trans s')) h1 fun ps ep h2 avs H2 Gs s2 n2 nd2 ow2 => ?_⟩
      obtain ⟨v', p', vs, xs, ys, k1, k2, k3, k4, k5, k6, k7⟩ := mut_fin S (s1.trans s2) (fun b hb => s1.free (n2 b hb)) nd2 ow2 h2
      rw [hv] at k1
      cases k1
      have := (va.mono s2).det k2
      cases this
      refine hr W H2 a vs xs avs (ps.map Prod.snd) ys _ (by rw [List.length_map, evs_len ep, hn]) k3 k4 k5 (ow2.rps (fun _ z => z.elim) (fun _ _ z => z)) k6 fun ret vs' mv hrm hl => k7 vs' mv hrm hl
    | _ => exact h1.elim
end

theorem mo_append : MoR .append 1 rAppend := fun W H p vs xs avs ds ys Q hn hp hl hx ha hm k => by
  match ds, hn, hm, ha with
  | [d], _, hm, ha =>
    have hm : (if xs.length < SZ then some (xs ++ [d]) else none) = some ys := hm
    obtain ⟨a, r, rfl, _, rfl⟩ := ha
    split at hm
    · rename_i hlt
      have hlt : vs.length < SZ := by rw [Rps.length _ _ hx]; exact hlt
      have := sz_le
      exact ⟨p, vs, a, rfl, rfl, hp, by omega, k _ _ ⟨a, rfl, rfl⟩ (fun e => by cases e) (by rw [List.length_append, List.length_singleton]; omega)⟩
    · cases hm
theorem mo_extend : MoR .extend 1 rExtend := fun W H p vs xs avs ds ys Q hn hp hl hx ha hm k => by
  match ds, hn, hm, ha with
  | [.lst zs], _, hm, ha =>
    have hm : (if xs.length + zs.length ≤ SZ then some (xs ++ zs) else none) = some ys := hm
    obtain ⟨a, r, rfl, ⟨b, ws, rfl, _, hb, hbl, hz⟩, rfl⟩ := ha
    split at hm
    · rename_i hlt
      rw [← Rps.length _ _ hx, ← Rps.length _ _ hz] at hlt
      have := sz_le
      exact ⟨p, b, vs, ws, rfl, rfl, hp, hb, by omega, k _ _ ⟨b, ws, rfl, hb, rfl⟩ (fun e => by cases e) (by rw [List.length_append]; omega)⟩
    · cases hm
end TW

set_option Elab.async false
set_option linter.all false
set_option maxRecDepth 100000
set_option maxHeartbeats 4000000
namespace TW
open PySem PySem.Spec PyProof.Rows L2
variable [TabT]

def pur : E → Bool
  | .var _ => true
  | .lit _ => true
  | .bin _ a b => pur a && pur b
  | .sub a b => pur a && pur b
  | .neg a => pur a
  | _ => false
theorem bnd_er {α β : Type} {x : M α} {f : α → M β} {C : Nat} (h : bnd x f = some (.er C)) : x = some (.er C) ∨ ∃ a, x = some (.ok a) ∧ f a = some (.er C) := by
  match x, h with
  | some (.er C'), h => cases h; exact .inl rfl
  | some (.ok a), h => exact .inr ⟨a, rfl, h⟩
theorem lift_er {α : Type} {x : Option α} {C : Nat} : lift x ≠ some (.er C) := by cases x <;> simp [lift]
theorem pur_ok {T : Tb} : ∀ (c : E) {δ : Dn} {C : Nat}, pur c = true → ev T c δ ≠ some (.er C)
  | .var i, δ, C, _, h => by
    simp only [ev] at h
    split at h <;> cases h
  | .lit d, δ, C, _, h => by
    simp only [ev] at h
    split at h <;> cases h
  | .bin o a b, δ, C, p, h => by
    obtain ⟨p1, p2⟩ := Bool.and_eq_true_iff.mp (show (pur a && pur b) = true from p)
    simp only [ev] at h
    rcases bnd_er h with h | ⟨x, _, h⟩
    · exact pur_ok a p1 h
    · rcases bnd_er h with h | ⟨y, _, h⟩
      · exact pur_ok b p2 h
      · exact lift_er h
  | .sub a b, δ, C, p, h => by
    obtain ⟨p1, p2⟩ := Bool.and_eq_true_iff.mp (show (pur a && pur b) = true from p)
    simp only [ev] at h
    rcases bnd_er h with h | ⟨x, _, h⟩
    · exact pur_ok a p1 h
    · rcases bnd_er h with h | ⟨y, _, h⟩
      · exact pur_ok b p2 h
      · exact lift_er h
  | .neg a, δ, C, p, h => by
    simp only [ev] at h
    rcases bnd_er h with h | ⟨x, _, h⟩
    · exact pur_ok a p h
    · exact lift_er h
section
variable {W : Wd} {E0 : XK} {T : Tb} {X : Cx}
theorem plc_er {i : Nat} {p : List E} {δ : Dn} {C : Nat} : plc T i p δ ≠ some (.er C) := by
  have key : ∀ (p : List E) {C : Nat}, evP T p δ ≠ some (.er C) := by
    intro p
    induction p with
    | nil => intro C h; cases h
    | cons a p ih =>
      intro C h
      simp only [evP] at h
      rcases bnd_er h with h | ⟨x, _, h⟩
      · exact ih h
      · split at h
        · exact lift_er h
        · cases h
  intro h
  unfold plc at h
  split at h
  · rcases bnd_er h with h | ⟨x, _, h⟩
    · exact key p h
    · split at h <;> cases h
  · cases h
theorem evs2 {a b : E} {δ : Dn} : evs T [a, b] δ = bnd (ev T a δ) fun p => bnd (ev T b δ) fun q => ok [p, q] := by
  simp only [evs]
  congr 1
  funext p
  cases ev T b δ with
  | none => rfl
  | some r => cases r <;> rfl
theorem int_F {H : Hp} {O : Addr → Prop} {m : Md} {k : Int} {v : V} {F : List Addr} (h : Ow W H O m (.int k) v F) : v = .int k ∧ F = [] := by
  cases m with
  | sh => exact ⟨h.2, h.1⟩
  | dp => exact h
  | fl => exact ⟨h.2, h.1⟩
def rGetL : V → V → Hp → VK → Prop := fun o i H Q => ∃ p xs k v, o = .ref p ∧ i = .int k ∧ H p = some (.lst xs) ∧ atI xs k = some v ∧ Q v H
theorem get_list : PGet X rGetL := by
  intro pins s σ H x y v u Q I rx ry h
  obtain ⟨p, xs, i, z, rfl, rfl, hq, he, q⟩ := h
  cases rx
  obtain ⟨t, rfl⟩ := ry
  obtain ⟨its, r, pl, hz⟩ := I.list (.inl (.inl hq))
  obtain ⟨j, h1, h2, h3, h4, h5⟩ := atI_get he
  obtain ⟨w, ew, rw'⟩ := r.get h2
  have hl := r.length
  have hn := line63
  have fin : EP X pins σ Q w s := ⟨z, H, I, rw', q⟩
  by_cases h0 : 0 ≤ i
  · have hj : i.toNat = j := by
      rw [seqIndex_of h0 h5] at h1
      exact Option.some.inj h1
    exact wpAny_getItem_list (Q := EP X pins σ Q) pl.isList h0 (by omega) (by rw [hj]; simpa using ew) fin
  · have hj : (i + (its.toArray.size : Int)).toNat = j := by
      rw [seqIndex_neg (by omega) h4] at h1
      rw [List.size_toArray, ← hl]
      exact Option.some.inj h1
    exact wpAny_getItem_list_neg (Q := EP X pins σ Q) pl.isList (by omega) (by rw [List.size_toArray] <;> omega) (by omega) (by rw [hj]; simpa using ew) fin
theorem s_augS {ob ie e : Expr} {i : Nat} {p : List E} {ci ce : E} {pos tpos : Pos} (ho : PE X ob (rdP W E0 T i p)) (hi : PE X ie (rdE W E0 T ci)) (he : PE X e (rdE W E0 T ce)) (hp : pur ci = true := by rfl) (hp2 : pur ce = true := by rfl)
    (ha : ∀ ov iv new, augStore ie ov iv new = (do holding [new, ov, iv] (setItem ov iv new); release [new, ov, iv] []; pure .next) := by intros; rfl) :
    PS X (.AugAssign (.Subscript ob ie tpos) .Add e pos) (rdS W E0 T (.mut i p .aug [ci, ce])) :=
  (ps_augS ho hi get_list he ip_add set_list ha).imp fun D σ H ⟨H0, O0, δ, Fs, S, q⟩ => by
    rw [ex_mut] at q
    cases ez : plc T i p δ with
    | none => rw [ez] at q; exact q.elim
    | some z =>
      cases z with
      | er C => exact (plc_er ez).elim
      | ok z =>
        rw [ez] at q
        obtain ⟨ri, d⟩ := z
        cases d with
        | lst xs0 =>
          have q : rqf W E0 H0 O0 H Fs (bnd (evs T [ci, ce] δ) fun ps => mutK i .aug ri.reverse (nms [ci, ce]) ps δ) D := q
          rw [evs2] at q
          cases ei : ev T ci δ with
          | none => rw [ei] at q; exact q.elim
          | some r =>
            cases r with
            | er C => exact (pur_ok ci hp ei).elim
            | ok pi =>
              rw [ei] at q
              cases ee : ev T ce δ with
              | none => rw [ee] at q; exact q.elim
              | some r =>
                cases r with
                | er C => exact (pur_ok ce hp2 ee).elim
                | ok pe =>
                  rw [ee] at q
                  have q : rqf W E0 H0 O0 H Fs (mutK i .aug ri.reverse (nms [ci, ce]) [pi, pe] δ) D := q
                  have hv : ∃ v pr, σ[i]? = some (some v) ∧ δ[i]? = some (some pr) ∧ getP ri.reverse pr.2 = some (.lst xs0) := by
                    unfold plc at ez
                    cases e : δ[i]? with
                    | none => rw [e] at ez; cases ez
                    | some s =>
                      cases s with
                      | none => rw [e] at ez; cases ez
                      | some pr =>
                        obtain ⟨v, h1, _⟩ := S.slot i pr e
                        refine ⟨v, pr, h1, rfl, ?_⟩
                        rw [e] at ez
                        have ez : bnd (evP T p δ) (fun ri => match getP ri.reverse pr.2 with | some d => ok (ri, d) | none => none) = some (.ok (ri, .lst xs0)) := ez
                        cases e2 : evP T p δ with
                        | none => rw [e2] at ez; cases ez
                        | some r =>
                          cases r with
                          | er C => rw [e2] at ez; cases ez
                          | ok rj =>
                            rw [e2] at ez
                            have ez : (match getP rj.reverse pr.2 with | some d => ok (rj, d) | none => none) = some (.ok (ri, .lst xs0)) := ez
                            cases e3 : getP rj.reverse pr.2 with
                            | none => rw [e3] at ez; cases ez
                            | some d =>
                              rw [e3] at ez
                              cases ez
                              exact e3
                  obtain ⟨v, pr, hv, hpr, hgp⟩ := hv
                  -- what the change will be
                  have hk : ∃ k n2 j n ys, pi.2 = .int k ∧ pe.2 = .int n2 ∧ ixN xs0.length k = some j ∧ xs0[j]? = some (.int n) ∧ moL .aug xs0 [pi.2, pe.2] = some ys := by
                    unfold mutK at q
                    cases eg : (gives (nms [ci, ce]) [pi, pe] δ)[i]? with
                    | none => rw [eg] at q; exact q.elim
                    | some sl =>
                      cases sl with
                      | none => rw [eg] at q; exact q.elim
                      | some qq =>
                        rw [eg] at q
                        cases em : moS .aug ri.reverse [pi, pe] qq with
                        | none => simp only [em] at q; exact q.elim
                        | some q' =>
                          obtain ⟨xs, ys, k1, k2⟩ := moS_get em
                          obtain ⟨q0, g1, g2⟩ := gives_get eg
                          rw [hpr] at g1
                          cases g1
                          rw [← g2, hgp] at k1
                          cases k1
                          have k2 : moL .aug xs0 [pi.2, pe.2] = some ys := k2
                          have k3 := k2
                          obtain ⟨m, d⟩ := pi
                          obtain ⟨m2, d2⟩ := pe
                          cases d with
                          | int k =>
                            cases d2 with
                            | int n2 =>
                              have k2 : ((ixN xs0.length k).bind fun j => match xs0[j]? with | some (.int n) => some (xs0.set j (.int (n + n2))) | _ => none) = some ys := k2
                              cases ej : ixN xs0.length k with
                              | none => rw [ej] at k2; cases k2
                              | some j =>
                                rw [ej] at k2
                                have k2 : (match xs0[j]? with | some (.int n) => some (xs0.set j (.int (n + n2))) | _ => none) = some ys := k2
                                cases ex : xs0[j]? with
                                | none => rw [ex] at k2; cases k2
                                | some d3 =>
                                  rw [ex] at k2
                                  cases d3 with
                                  | int n => exact ⟨k, n2, j, n, ys, rfl, rfl, ej, ex, k3⟩
                                  | _ => cases k2
                            | _ => cases k2
                          | _ => cases k2
                  obtain ⟨k, n2, j, n, ys0, e1, e2, ej, exj, em0⟩ := hk
                  refine ⟨H0, O0, δ, Fs, v, S, hv, ?_⟩
                  rw [ez]
                  intro w H1 s1 va rp
                  obtain ⟨a, us, rfl, _, g1, g2, g3⟩ := rp
                  refine ⟨H0, O0, δ, Fs, S.grow s1, ?_⟩
                  rw [ei]
                  intro y H2 F2 s2 n2' nd2 ow2
                  have ow2 : Ow W H2 _ pi.1 pi.2 y F2 := ow2
                  rw [e1] at ow2
                  obtain ⟨rfl, rfl⟩ := int_F ow2
                  have g1' := (s2.at g1)
                  have lus : us.length = xs0.length := Rps.length _ _ g3
                  have hat : atI xs0 k = some (.int n) := by unfold atI; rw [ej]; exact exj
                  obtain ⟨u, hu1, hu2⟩ := g3.at hat
                  have hu2 : u = .int n := hu2
                  subst hu2
                  refine ⟨a, us, k, .int n, rfl, rfl, g1', hu1, ?_⟩
                  refine ⟨H0, O0, δ, Fs, S.grow (s1.trans s2), ?_⟩
                  rw [ee]
                  intro x H3 F3 s3 n3 nd3 ow3
                  have ow3 : Ow W H3 _ pe.1 pe.2 x F3 := ow3
                  rw [e2] at ow3
                  obtain ⟨rfl, rfl⟩ := int_F ow3
                  refine ⟨n, n2, rfl, rfl, ?_⟩
                  have ows : Ows W H3 (fun b => av O0 Fs (nms [ci, ce]) b ∨ b ∈ [([] : List Addr), []].flatten) [pi, pe] [.int k, .int n2] [[], []] := by
                    refine ⟨.int k, [.int n2], [], [[]], rfl, rfl, ?_, .int n2, [], [], [], rfl, rfl, ?_, rfl, rfl⟩
                    · rw [e1]
                      exact Ow.sh_any (O := fun _ => False) (d := .int k) rfl rfl
                    · rw [e2]
                      exact Ow.sh_any (O := fun _ => False) (d := .int n2) rfl rfl
                  obtain ⟨v', p', vs, xs, ys, k1, k2, k3, k4, k5, k6, k7⟩ := mut_fin (Gs := [[], []]) S ((s1.trans s2).trans s3) (fun b hb => by cases hb) List.nodup_nil ows q
                  rw [hv] at k1
                  cases k1
                  have := ((va.mono s2).mono s3).det k2
                  cases this
                  rw [(s3.at g1')] at k3
                  cases k3
                  have ejv : ixN us.length k = some j := by rw [lus]; exact ej
                  have huj : us[j]? = some (.int n) := by
                    unfold atI at hu1
                    rw [ejv] at hu1
                    exact hu1
                  exact ⟨a, us, k, j, rfl, rfl, (s3.at g1'), ejv, k7 _ ⟨k, j, n2, n, rfl, ejv, huj, rfl⟩ (fun e => by cases e) (by rw [List.length_set]; exact k4)⟩
        | _ => exact q.elim
end
end TW

set_option Elab.async false
set_option linter.all false
set_option maxRecDepth 100000
set_option maxHeartbeats 4000000
namespace TW
open PySem PySem.Spec PyProof.Rows L2
variable [TabT]

section
variable {W : Wd} {X : Cx}
theorem g_one (i : Nat) {x : Str} {pos : Pos} (hN : X.N.Nodup) (hi : X.N[i]? = some x := by rfl) (hx : Loc X.env.scope x := by first | exact Or.inl rfl | exact Or.inr rfl) (hf : X.fn x = true ∨ X.env.scope.names.lookup x = some .local := by first | exact .inl rfl | exact .inr rfl) : PG X (.Name x pos) (gT X.K [i] true) :=
  pg_name hN hi hx hf
theorem g_two (i j : Nat) {x y : Str} {px py pos : Pos} {k : Nat} (hc : X.calm = true) (hN : X.N.Nodup) (hi : X.N[i]? = some x := by rfl) (hj : X.N[j]? = some y := by rfl) (hx : Loc X.env.scope x := by first | exact Or.inl rfl | exact Or.inr rfl) (hy : Loc X.env.scope y := by first | exact Or.inl rfl | exact Or.inr rfl)
    (hfx : X.fn x = true ∨ X.env.scope.names.lookup x = some .local := by first | exact .inl rfl | exact .inr rfl) (hfy : X.fn y = true ∨ X.env.scope.names.lookup y = some .local := by first | exact .inl rfl | exact .inr rfl) : PG X (.Tuple [.Name x px, .Name y py] k pos) (gT X.K [i, j] false) :=
  ⟨fun pins s σ H v u Q I r h => h.elim (fun h => (pg_tup hc (pgs_cons (pg_name hN hi hx hfx) (pgs_cons (pg_name hN hj hy hfy) pgs_nil))).run pins s σ H v u Q I r h)
    fun h => (pg_lst hc (pgs_cons (pg_name hN hi hx hfx) (pgs_cons (pg_name hN hj hy hfy) pgs_nil))).run pins s σ H v u Q I r h⟩
end

theorem ss_start {W : Wd} {H : Hp} {O : Addr → Prop} {ds : List D} {vs : List V} {N : List Str} {np nv : Nat} (hO : HB W O H) (hr : Rps W H O ds vs) (hnp : ds.length = np) (hnv : N.length = nv) (hle : np ≤ nv) :
    SS W H O H (L2.start N vs) (start0 np nv ds) (List.replicate nv []) := by
  have hl : vs.length = ds.length := Rps.length _ _ hr
  have hfl : (List.replicate nv ([] : List Addr)).flatten = [] := by
    rw [List.flatten_replicate_nil]
  have hg : ∀ i, (List.replicate nv ([] : List Addr)).getD i [] = [] := fun i => by
    rw [List.getD_eq_getElem?_getD, List.getElem?_replicate]
    split <;> rfl
  have noF : ∀ a, a ∉ (List.replicate nv ([] : List Addr)).flatten := fun a ha => by rw [hfl] at ha; cases ha
  refine ⟨Same.refl H, ?_, ?_, fun i p e => ?_, (by rw [hfl]; exact List.nodup_nil), fun a ha => (noF a ha).elim, fun a _ ha => noF a ha, hO.1, fun a ha => (noF a ha).elim, fun i _ => hg i, hO.2⟩
  · unfold L2.start start0
    simp only [List.length_append, List.length_map, List.length_replicate]
    omega
  · unfold L2.start
    simp only [List.length_append, List.length_map, List.length_replicate]
    omega
  · unfold start0 at e
    by_cases hi : i < ds.length
    · rw [List.getElem?_append_left (by rw [List.length_map]; exact hi), List.getElem?_map] at e
      cases ed : ds[i]? with
      | none => rw [ed] at e; cases e
      | some d =>
        rw [ed] at e
        cases e
        obtain ⟨Fs, k1⟩ := Rps.al hr
        obtain ⟨v, F, e1, e2, e3⟩ := k1.get ed
        refine ⟨v, ?_, ?_⟩
        · unfold L2.start
          rw [List.getElem?_append_left (by rw [List.length_map]; omega), List.getElem?_map, e1]
          rfl
        · rw [hg]
          exact ⟨rfl, Rp.mono (Same.refl H) (fun a z => z.elim id fun q => by rw [hfl] at q; cases q) _ _ e3.2⟩
    · rw [List.getElem?_append_right (by rw [List.length_map]; omega), List.getElem?_replicate] at e
      split at e <;> cases e
theorem fn_zero {P : Program} {w : World} {mg : Str → Option Value} {base : Heap} {W : Wd} {PR : List Fun} {i : Nat} {f : Addr} {fd : FuncData} {ps : List Str} : FnOk P w W.K mg base (L2N.CX P w) 0 f fd ps (spP W ps.length (run PR 0 i)) :=
  ⟨fun vs H Q E h => h.1, fun A outer s H args us vs Q E _ _ _ _ h => by
    obtain ⟨_, ds, O, _, _, hq⟩ := h
    exact hq.elim⟩
end TW

set_option Elab.async false
set_option linter.all false
set_option maxRecDepth 100000
set_option maxHeartbeats 4000000
namespace TW
open PySem PySem.Spec PyProof.Rows L2
variable [TabT]
section
variable {W : Wd} {E0 : XK} {T : Tb} {X : Cx}
theorem rdA_on {cs : List E} {σ : L2.St} {H : Hp} {Q : List V → Hp → Prop} (h : rdA W E0 T cs σ H Q) : rdA W E0 T cs σ H (fun vs H1 => ∀ H2, Same H1 H2 → Q vs H2) := by
  obtain ⟨H0, O0, δ, Fs, S, q⟩ := h
  refine ⟨H0, O0, δ, Fs, S, ?_⟩
  revert q
  cases evs T cs δ with
  | none => exact fun h => h
  | some r =>
    cases r with
    | er C => exact fun h => h
    | ok ps => exact fun q vs H1 Gs s1 n1 nd1 ow1 H2 s2 => q vs H2 Gs (s1.trans s2) n1 nd1 (ow1.mono s2 fun _ z => z)
theorem imp_rdA {cs : List E} {σ : L2.St} {H : Hp} {Q R : List V → Hp → Prop} (h : rdA W E0 T cs σ H Q) (k : ∀ vs H1, Q vs H1 → R vs H1) : rdA W E0 T cs σ H R := by
  obtain ⟨H0, O0, δ, Fs, S, q⟩ := h
  refine ⟨H0, O0, δ, Fs, S, ?_⟩
  revert q
  cases evs T cs δ with
  | none => exact fun h => h
  | some r =>
    cases r with
    | er C => exact fun h => h
    | ok ps => exact fun q vs H1 Gs s1 n1 nd1 ow1 => k _ _ (q vs H1 Gs s1 n1 nd1 ow1)
theorem s_parU {i j : Nat} {x y : Str} {a b : Expr} {ca cb : E} {px py pt pos : Pos} {kt k2 pt2} (hc : X.calm = true) (hN : X.N.Nodup) (ha : PA X [a, b] (rdA W E0 T [ca, cb])) (hi : X.N[i]? = some x := by rfl) (hj : X.N[j]? = some y := by rfl)
    (hx : Loc X.env.scope x := by first | exact Or.inl rfl | exact Or.inr rfl) (hy : Loc X.env.scope y := by first | exact Or.inl rfl | exact Or.inr rfl)
    (hfx : X.fn x = true ∨ X.env.scope.names.lookup x = some .local := by first | exact .inl rfl | exact .inr rfl) (hfy : X.fn y = true ∨ X.env.scope.names.lookup y = some .local := by first | exact .inl rfl | exact .inr rfl)
    (hs : swapsWithSole [.Tuple [.Name x px, .Name y py] kt pt] (.Tuple [a, b] k2 pt2) pos.line X.env = pure false := by rfl) (hw : swappedStores [.Tuple [.Name x px, .Name y py] kt pt] (.Tuple [a, b] k2 pt2) X.env = pure none := by rfl)
    (h1 : (assignEach [.Tuple [.Name x px, .Name y py] kt pt] X.env).map (·.2) = [assign (.Tuple [.Name x px, .Name y py] kt pt) X.env] := by rfl) :
    PS X (.Assign [.Tuple [.Name x px, .Name y py] kt pt] (.Tuple [a, b] k2 pt2) pos) (rdS W E0 T (.par [i, j] [ca, cb])) :=
  (ps_asg (pe_tup ha) (pg_tup hc (pgs_cons (pg_name hN hi hx hfx) (pgs_cons (pg_name hN hj hy hfy) pgs_nil))) hs hw h1).imp fun D σ H h => by
    refine imp_rdA (rdA_on (rd_par h)) fun vs H1 k => ?_
    have hl := (k H1 (Same.refl H1)).2
    match vs, hl, k with
    | [v, w], _, k =>
      refine ⟨(by simp [sizeLine]), fun p n => ⟨p, [v, w], rfl, .inl (.inl upd_same), rfl, v, [w], rfl, w, [], rfl, rfl, (k _ (same_new n)).1⟩⟩
theorem s_parU3 {i j l : Nat} {x y z : Str} {a b c : Expr} {ca cb cc : E} {px py pz pt pos : Pos} {kt k2 pt2} (hc : X.calm = true) (hN : X.N.Nodup) (ha : PA X [a, b, c] (rdA W E0 T [ca, cb, cc])) (hi : X.N[i]? = some x := by rfl) (hj : X.N[j]? = some y := by rfl) (hl : X.N[l]? = some z := by rfl)
    (hx : Loc X.env.scope x := by first | exact Or.inl rfl | exact Or.inr rfl) (hy : Loc X.env.scope y := by first | exact Or.inl rfl | exact Or.inr rfl) (hz : Loc X.env.scope z := by first | exact Or.inl rfl | exact Or.inr rfl)
    (hfx : X.fn x = true ∨ X.env.scope.names.lookup x = some .local := by first | exact .inl rfl | exact .inr rfl) (hfy : X.fn y = true ∨ X.env.scope.names.lookup y = some .local := by first | exact .inl rfl | exact .inr rfl) (hfz : X.fn z = true ∨ X.env.scope.names.lookup z = some .local := by first | exact .inl rfl | exact .inr rfl)
    (hs : swapsWithSole [.Tuple [.Name x px, .Name y py, .Name z pz] kt pt] (.Tuple [a, b, c] k2 pt2) pos.line X.env = pure false := by rfl) (hw : swappedStores [.Tuple [.Name x px, .Name y py, .Name z pz] kt pt] (.Tuple [a, b, c] k2 pt2) X.env = pure none := by rfl)
    (h1 : (assignEach [.Tuple [.Name x px, .Name y py, .Name z pz] kt pt] X.env).map (·.2) = [assign (.Tuple [.Name x px, .Name y py, .Name z pz] kt pt) X.env] := by rfl) :
    PS X (.Assign [.Tuple [.Name x px, .Name y py, .Name z pz] kt pt] (.Tuple [a, b, c] k2 pt2) pos) (rdS W E0 T (.par [i, j, l] [ca, cb, cc])) :=
  (ps_asg (pe_tup ha) (pg_tup hc (pgs_cons (pg_name hN hi hx hfx) (pgs_cons (pg_name hN hj hy hfy) (pgs_cons (pg_name hN hl hz hfz) pgs_nil)))) hs hw h1).imp fun D σ H h => by
    refine imp_rdA (rdA_on (rd_par h)) fun vs H1 k => ?_
    have hl := (k H1 (Same.refl H1)).2
    match vs, hl, k with
    | [u, v, w], _, k =>
      refine ⟨(by simp [sizeLine]), fun p n => ⟨p, [u, v, w], rfl, .inl (.inl upd_same), rfl, u, [v, w], rfl, v, [w], rfl, w, [], rfl, rfl, (k _ (same_new n)).1⟩⟩
end
end TW

set_option Elab.async false
set_option linter.all false
set_option maxRecDepth 100000
set_option maxHeartbeats 4000000
namespace TW
open PySem PySem.Spec PyProof.Rows L2
variable [TabT]
abbrev bareSet (w : World) : Obj := { cls := .type "set", dict := none, data := .set #[] 0 (.fresh 0 0 (!w.params.followText "set-order")) }
section
variable {P : Program} {w : World} {A : Around} {E : Value → Shared → Prop} {s : Shared}
set_option maxHeartbeats 8000000 in
theorem set_of_ints {l : Addr} {items : Array Value} (ns : List Int) {Q : Value → Shared → Prop} (quiet : A.handled = none) (isl : s.heap.IsList l items) (are : IntsAre items.toList ns) (few : ns.length + 1 < scanBound)
    (good : ∀ (g : Heap) (tk c : Nat), SetR w g s.heap.objs.size (fun j => decide (j ∈ ns)) c → c ≤ ns.length → (∀ b o, s.heap.get? b = some o → g.get? b = some o) → Q (.ref s.heap.objs.size) { s with heap := g, toks := tk }) :
    wpAny (model P w) A (call (.type "set") [.ref l]) Q E s := by
  have size_eq : items.size = ns.length := by
    have z := IntsAre.length are
    rwa [Array.length_toList] at z
  obtain ⟨mc, mt, mro_⟩ := F.called_set.mro
  have made_ := F.called_set.made
  have sub_ := F.called_set.sub
  refine wpAny_call (codeAny_of_tree ?_)
  show wpAny _ _ (callAny (.type "set") _) _ _ _
  refine wpAny_pure ⟨Code.quiet_builtin _ (by decide +kernel), codeAny_builtin F.entry_type_call ?_⟩
  rw [Around.under_plain (weight_type_call_type "set" [.ref l] []) rfl]
  have nt := F.called_set.notType
  have cc := F.called_set.canCreate
  have tc := F.typeCall_set_1 (.ref l)
  repeat (any_goals (first | assumption | wp_step))
  refine codeAny_mono (code_set_led1 (.ref l) (E := E) (Q₁ := fun ob u => ob = .ref s.heap.objs.size ∧ u = { s with heap := s.heap.push (bareSet w) }) ⟨rfl, rfl⟩) fun r u hr => ?_
  cases r with
  | error e => exact hr
  | ok fl =>
    cases fl with
    | ret ob =>
      obtain ⟨rfl, rfl⟩ := hr
      have at_ : (s.heap.push (bareSet w)).get? s.heap.objs.size = some (bareSet w) := Heap.get?_push_size _ rfl
      have ty_ : Shared.TypeIs { s with heap := s.heap.push (bareSet w) } (.ref s.heap.objs.size) "set" := ⟨_, at_, rfl⟩
      have li_ := F.called_set.init.lookup
      have bi_ := F.called_set.init.bind (.ref s.heap.objs.size)
      repeat (any_goals (first | assumption | wp_step))
      refine codeAny_mono (codeAny_call_builtin (R := wants (fun r u2 => r = .none ∧ ∃ g tk c, u2 = { s with heap := g, toks := tk } ∧ SetR w g s.heap.objs.size (fun j => decide (j ∈ ns)) c ∧ c ≤ ns.length ∧ (∀ b o, s.heap.get? b = some o → g.get? b = some o)) E) F.called_set.init.plain F.entry_set_init (check_set_init_1 ty_ ?_)) fun r2 u2 hr2 => ?_
      · obtain ⟨⟨oc, od, oda, os⟩, hol, hcl, nl, hdl⟩ := isl
        simp only at hcl hdl
        subst hcl; subst hdl
        have hol2 : (s.heap.push (bareSet w)).get? l = some { cls := .type "list", dict := od, data := .seq items nl, slots := os } := Heap.get?_push_of_some _ hol
        have x1 := F.sub_list_set
        have x2 := F.sub_list_frozenset
        have x3 : (Value.type "list" == Value.type "dict") = false := by decide
        have isl2 : (s.heap.push (bareSet w)).IsList l items := ⟨_, hol2, rfl, nl, rfl⟩
        unfold Builtin.«set.__init__» noKeywords Builtin.Frozenset.updateFrom
        generalize gen : pyIter = PI
        wp_walk
        subst gen
        refine wpAny_pyIter_list isl2 ?_
        refine wpAny_bind (wpAny_runValue ?_)
        have below : l < s.heap.objs.size := Heap.lt_size hol
        have quiet3 : A.in1.in1.in1.handled = none := by simp [quiet]
        have lt1 : l < s.heap.objs.size + 1 := Nat.lt_succ_of_lt below
        have other : l ≠ (s.heap.push (bareSet w)).objs.size := by rw [Heap.size_push]; exact Nat.ne_of_lt lt1
        have fresh_ : s.heap.objs.size ∉ [(s.heap.push (bareSet w)).objs.size, l] := by
          rw [Heap.size_push]
          intro z
          rcases List.mem_cons.mp z with z | z
          · exact absurd z (Nat.ne_of_lt (Nat.lt_succ_self _))
          · exact absurd (List.mem_singleton.mp z).symm (Nat.ne_of_lt below)
        have val_ : ∀ (i : Nat) (v : Value), items[i]? = some v → ∃ k t, ns[i]? = some k ∧ v = .int k t := fun i v hv => by
          have lt_ : i < ns.length := by rw [← size_eq]; exact (Array.getElem?_eq_some_iff.mp hv).1
          obtain ⟨t, e⟩ := PyProof.Rows.IntsAre.int_at are i v (by rw [Array.getElem?_toList]; exact hv)
          refine ⟨ns[i], t, List.getElem?_eq_getElem lt_, ?_⟩
          rw [e, List.getD_eq_getElem?_getD, List.getElem?_eq_getElem lt_]
          rfl
        refine set_update_ints ((Walks.list quiet3 _ l other items).toS) s.heap.objs.size fresh_ ns size_eq few val_ (items.size - 0) 0 _ (by omega) (Nat.zero_le _) ⟨⟨_, Heap.get?_push_size _ rfl, rfl, rfl⟩, (isl2.push _)⟩ ⟨0, Nat.le_refl 0, setR_new_at (Heap.get?_push_of_some _ at_)⟩ ?_
        intro u3 c3 mv le_ R_
        obtain ⟨g, g2, d3, tk3, os3⟩ := u3
        obtain rfl : g2 = s.gens := mv.gens
        obtain rfl : d3 = s.drawn := mv.drawn
        obtain rfl : os3 = s.os := mv.os
        show wpAny _ _ _ _ _ _
        refine wpAny_pure ?_
        show wpAny _ _ (ret Value.none) _ _ _
        rw [size_eq] at le_
        refine wpAny_pure ⟨rfl, g, tk3, c3, rfl, R_, le_, fun b o e => ?_⟩
        have lt2 : b < s.heap.objs.size := Heap.lt_size e
        refine mv.heap b o ?_ (Heap.get?_push_of_some _ (Heap.get?_push_of_some _ e))
        intro z
        rcases List.mem_cons.mp z with z | z
        · exact absurd z (Nat.ne_of_lt lt2)
        · have z2 := List.mem_singleton.mp z
          rw [Heap.size_push] at z2
          exact absurd z2 (Nat.ne_of_lt (Nat.lt_succ_of_lt lt2))
      · cases r2 with
        | error e => exact hr2
        | ok fl2 =>
          cases fl2 with
          | ret r =>
            obtain ⟨rfl, g, tk, c, rfl, R_, le_, kp⟩ := hr2
            repeat (any_goals (first | assumption | wp_step))
            exact good _ _ _ R_ le_ kp
          | _ => exact hr2.elim
    | _ => exact hr.elim
end
section
variable {W : Wd} {E0 : XK} {T : Tb} {X : Cx}
def rSetInts (K : PySem.W.Frag) (w : World) : List V → Hp → VK → Prop := fun xs H Q => ∃ (l : Addr) (ns : List Int), xs = [V.ref l] ∧ SqL K H l (ns.map V.int) ∧ ns.length < 64 ∧
  ∀ a c, H a = none → c ≤ ns.length → Q (.ref a) (L2.upd H a (SetO w a (fun j => decide (j ∈ ns)) c))
theorem cr_setInts (hc : X.calm = true) : CallR X (.type "set") (rSetInts X.K X.w) := by
  intro pins s σ H xs us Q I r h
  obtain ⟨l, ns, rfl, hl, hf, q⟩ := h
  rw [Vals.ref1 r]
  obtain ⟨its, rv, pl, hz⟩ := I.list hl
  have hn : H s.heap.objs.size = none := I.hok.fresh (Nat.le_refl _)
  refine set_of_ints (P := X.prog) (w := X.w) ns (I.ok.hd hc) pl.isList (by simpa using rv.ints) (by unfold scanBound; omega) fun g tk c R le_ kp => ?_
  exact ⟨.ref s.heap.objs.size, L2.upd H s.heap.objs.size (SetO X.w s.heap.objs.size (fun j => decide (j ∈ ns)) c), I.laid (t' := tk) kp (Nat.le_refl _) (setO_new R), rfl, q _ c hn le_⟩
end
theorem uniq_lt {α : Type} {lt : α → α → Bool} (o : STO lt) : ∀ {xs ys : List α}, xs.Pairwise (fun a b => lt a b = true) → ys.Pairwise (fun a b => lt a b = true) → (∀ z, z ∈ xs ↔ z ∈ ys) → xs = ys
  | [], [], _, _, _ => rfl
  | [], y :: ys, _, _, h => by have := (h y).mpr List.mem_cons_self; cases this
  | x :: xs, [], _, _, h => by have := (h x).mp List.mem_cons_self; cases this
  | x :: xs, y :: ys, hx, hy, h => by
    obtain ⟨x1, x2⟩ := List.pairwise_cons.mp hx
    obtain ⟨y1, y2⟩ := List.pairwise_cons.mp hy
    have ne : ∀ {a b : α}, lt a b = true → a ≠ b := fun {a b} h e => by rw [e, o.irr] at h; cases h
    have e : x = y := by
      rcases List.mem_cons.mp ((h x).mp List.mem_cons_self) with e | hxy
      · exact e
      · rcases List.mem_cons.mp ((h y).mpr List.mem_cons_self) with e | hyx
        · exact e.symm
        · have := o.asym (x1 y hyx)
          rw [y1 x hxy] at this
          cases this
    subst e
    rw [uniq_lt o x2 y2 fun z => ?_]
    have hz := h z
    constructor
    · intro hm
      rcases List.mem_cons.mp (hz.mp (List.mem_cons_of_mem _ hm)) with e | h'
      · exact absurd e.symm (ne (x1 _ hm))
      · exact h'
    · intro hm
      rcases List.mem_cons.mp (hz.mpr (List.mem_cons_of_mem _ hm)) with e | h'
      · exact absurd e.symm (ne (y1 _ hm))
      · exact h'
theorem dedB_mem {α : Type} [DecidableEq α] : ∀ (xs : List α) (z : α), z ∈ dedB xs ↔ z ∈ xs
  | [], z => by simp [dedB]
  | x :: xs, z => by
    unfold dedB
    split
    · rename_i h
      rw [dedB_mem xs z]
      constructor
      · exact fun q => List.mem_cons_of_mem _ q
      · intro q
        rcases List.mem_cons.mp q with rfl | q
        · exact h
        · exact q
    · rw [List.mem_cons, List.mem_cons, dedB_mem xs z]
theorem dedB_nodup {α : Type} [DecidableEq α] : ∀ xs : List α, (dedB xs).Nodup
  | [] => List.nodup_nil
  | x :: xs => by
    unfold dedB
    split
    · exact dedB_nodup xs
    · rename_i h
      exact List.nodup_cons.mpr ⟨fun q => h ((dedB_mem xs x).mp q), dedB_nodup xs⟩
theorem sort_lt {α : Type} {lt : α → α → Bool} (o : STO lt) {xs : List α} (n : xs.Nodup) : (isortB lt xs).Pairwise (fun a b => lt a b = true) := by
  have h := (isortB_ris o xs).and ((isortB_perm xs).nodup_iff.mpr n)
  refine h.imp fun {a b} ⟨h1, h2⟩ => ?_
  cases e : lt a b with
  | true => rfl
  | false => exact absurd (o.tot a b e h1) h2
theorem ssort_eq {α : Type} [DecidableEq α] {lt : α → α → Bool} (o : STO lt) {xs ys : List α} (h : ys.Pairwise (fun a b => lt a b = true)) (hm : ∀ z, z ∈ ys ↔ z ∈ xs) : isortB lt (dedB xs) = ys :=
  uniq_lt o (sort_lt o (dedB_nodup xs)) h fun z => by rw [(isortB_perm (dedB xs)).mem_iff, dedB_mem, hm]
section
variable {W : Wd} {E0 : XK} {T : Tb} {X : Cx}
def rSetU (K : PySem.W.Frag) (P : Program) (w : World) : List V → Hp → VK → Prop := fun vs H Q => rSetInts K w vs H Q ∨ rSetOfT K P w vs H Q
def rSortedU (K : PySem.W.Frag) (P : Program) (w : World) : List V → Hp → VK → Prop := fun vs H Q => rSortedSet w vs H Q ∨ rSortedT K P w vs H Q
def adV : V → Addr
  | .ref a => a
  | _ => 0
abbrev pI (p : Int × Int) : List Int := [p.1, p.2]
def unp2 : List Int → Int × Int
  | [a, b] => (a, b)
  | _ => (0, 0)
theorem ssort_ok {ds : List D} {vs : List V} {H : Hp} {O : Addr → Prop} {res : Md × D} {Q : VK} (hO : ∀ a, O a → H a ≠ none) (hr : Rps W H O ds vs) (hg : biD .ssort ds = some res) (hq : Res W H O res.1 res.2 Q) : rSetU W.K X.prog X.w vs H (fun x H2 => rSortedU W.K X.prog X.w [x] H2 Q) := by
  match ds, hg, hr with
  | [.lst xs], hg, hr =>
    obtain ⟨v, rfl, hv⟩ := hr.one
    obtain ⟨a, vs, rfl, _, h1, h2, h3⟩ := hv
    have hg : (match intsD xs with
      | some ns => if ns.length < 64 then some (Md.dp, D.lst (eI (isortB ltZ (dedB ns)))) else none
      | none => match prsD xs with
        | some ps => if ps.length < 64 ∧ ps.all (fun p => decide (0 ≤ p.1) && decide (p.1 < 64) && decide (0 ≤ p.2) && decide (p.2 < 64)) = true then some (Md.dp, D.lst ((isortB ltP2 (dedB ps)).map eP)) else none
        | none => none) = some res := hg
    split at hg
    · rename_i ns e
      split at hg
      · rename_i hlt
        cases hg
        rw [intsD_eq e] at h3
        rw [Rps.ints_eq h3] at h1
        refine .inl ⟨a, ns, rfl, .inl (.inl h1), hlt, fun p c np hc => .inl ⟨p, _, c, rfl, upd_same, by omega, fun ns' q pw pm pl nq => ?_⟩⟩
        have e2 : isortB ltZ (dedB ns) = ns' := ssort_eq sto_Z (pw.imp fun {x y} h => decide_eq_true h) fun z => by rw [pm z]; simp
        rw [e2] at hq
        refine Res.deep (W := W) (Res.mono (W := W) hq (same_new np)) nq ?_ (Rps.ints _) (lfrees_ints _)
        rw [List.length_map, pl]
        exact Nat.le_trans (Nat.le_trans hc (Nat.le_of_lt hlt)) (by decide)
      · cases hg
    · split at hg
      · rename_i ps e
        split at hg
        · rename_i hlt
          cases hg
          obtain ⟨hlt, hall⟩ := hlt
          rw [prsD_eq e] at h3
          obtain ⟨k1, k2⟩ := h3.prs
          have hks : (vs.map fun x => (adV x, pI (kOf H x))).map (fun p => V.ref p.1) = vs := by
            rw [List.map_map]
            have : ∀ x ∈ vs, ((fun p : Addr × List Int => V.ref p.1) ∘ fun x => (adV x, pI (kOf H x))) x = x := fun x hx => by
              obtain ⟨t, e1, _⟩ := k2 x hx
              rw [e1]
              rfl
            exact (List.map_congr_left this).trans (List.map_id' vs)
          have hkt : ∀ p ∈ vs.map fun x => (adV x, pI (kOf H x)), ∃ x ∈ vs, p = (adV x, pI (kOf H x)) ∧ H p.1 = some (.tup (p.2.map V.int)) := fun p hp => by
            obtain ⟨x, hx, rfl⟩ := List.mem_map.mp hp
            obtain ⟨t, e1, ht⟩ := k2 x hx
            refine ⟨x, hx, rfl, ?_⟩
            rw [e1] at ht ⊢
            exact ht
          have hps : ∀ z : Int × Int, z ∈ ps ↔ ∃ x ∈ vs, kOf H x = z := fun z => by
            rw [← k1, List.mem_map]
          refine .inr ⟨a, vs.map fun x => (adV x, pI (kOf H x)), rfl, by rw [hks]; exact .inl (.inl h1), fun p hp => ?_, ?_, fun s L ns sub cov => ?_⟩
          · obtain ⟨x, hx, _, ht⟩ := hkt p hp
            exact .inl (.inl ht)
          · rw [List.length_map]
            have := congrArg List.length k1
            rw [List.length_map] at this
            omega
          · have same1 : Same H (L2.upd H s (SetTO X.prog X.w s L)) := same_new ns
            refine .inr ⟨s, L, 2, 64, rfl, upd_same, fun p hp => ?_, by decide, fun p hp => ?_, fun L' q pm nd few pw nq => ?_⟩
            · obtain ⟨x, hx, _, ht⟩ := hkt p (sub p hp)
              exact .inl (.inl (same1.at ht))
            · obtain ⟨x, hx, e1, _⟩ := hkt p (sub p hp)
              rw [e1]
              refine ⟨rfl, fun z hz => ?_⟩
              have hm : kOf H x ∈ ps := (hps _).mpr ⟨x, hx, rfl⟩
              have := List.all_eq_true.mp hall _ hm
              simp only [Bool.and_eq_true, decide_eq_true_eq] at this
              rcases List.mem_cons.mp hz with rfl | hz
              · omega
              · rw [List.mem_singleton.mp hz]
                omega
            · have hL : ∀ p ∈ L', ∃ x ∈ vs, p = (adV x, pI (kOf H x)) ∧ H p.1 = some (.tup (p.2.map V.int)) := fun p hp => hkt p (sub p (pm.mem_iff.mp hp))
              have e2 : isortB ltP2 (dedB ps) = L'.map fun p => unp2 p.2 := by
                refine ssort_eq sto_P ?_ fun z => ?_
                · rw [List.pairwise_map]
                  have hnd : L'.Pairwise fun p r => p.2 ≠ r.2 := List.pairwise_map.mp nd
                  have both := (pw.and hnd)
                  refine (List.Pairwise.imp_of_mem (R := fun p r => TS.code 64 p.2 ≤ TS.code 64 r.2 ∧ p.2 ≠ r.2) (fun {p r} hp hr hh => ?_) both)
                  obtain ⟨x, hx, ex, _⟩ := hL p hp
                  obtain ⟨y, hy, ey, _⟩ := hL r hr
                  have bx := List.all_eq_true.mp hall _ ((hps _).mpr ⟨x, hx, rfl⟩)
                  have by_ := List.all_eq_true.mp hall _ ((hps _).mpr ⟨y, hy, rfl⟩)
                  simp only [Bool.and_eq_true, decide_eq_true_eq] at bx by_
                  rw [ex, ey] at hh
                  rw [ex, ey]
                  have := pair_lt hh.1 hh.2 (by omega) (by omega) (by omega) (by omega)
                  rw [ltP2_iff]
                  exact this
                · rw [List.mem_map, hps]
                  constructor
                  · rintro ⟨p, hp, rfl⟩
                    obtain ⟨x, hx, ex, _⟩ := hL p hp
                    exact ⟨x, hx, by rw [ex]; rfl⟩
                  · rintro ⟨x, hx, rfl⟩
                    obtain ⟨p, hp, ep⟩ := List.mem_map.mp (cov _ (List.mem_map.mpr ⟨x, hx, rfl⟩))
                    refine ⟨p, pm.mem_iff.mpr hp, ?_⟩
                    rw [ep]
                    rfl
              rw [e2] at hq
              have hR : Rps W (L2.upd H s (SetTO X.prog X.w s L)) O ((L'.map fun p => unp2 p.2).map eP) (L'.map fun q => V.ref q.1) := by
                have go : ∀ M : List (Addr × List Int), (∀ p ∈ M, p ∈ L') → Rps W (L2.upd H s (SetTO X.prog X.w s L)) O ((M.map fun p => unp2 p.2).map eP) (M.map fun q => V.ref q.1) := by
                  intro M
                  induction M with
                  | nil => intro _; exact rfl
                  | cons p M ih =>
                    intro hM
                    obtain ⟨x, hx, ex, ht⟩ := hL p (hM p List.mem_cons_self)
                    refine ⟨_, _, rfl, ⟨p.1, _, rfl, same1.at ht, ?_, ?_⟩, ih fun r hr => hM r (List.mem_cons_of_mem _ hr)⟩
                    · rw [ex]
                      show (2 : Nat) ≤ sizeLine
                      decide
                    · rw [ex]
                      exact ⟨_, _, rfl, rfl, _, _, rfl, rfl, rfl⟩
                exact go L' fun _ h => h
              refine Res.deep (W := W) (Res.mono (W := W) hq same1) nq ?_ hR (lfrees_prs _)
              rw [List.length_map]
              exact Nat.le_trans (Nat.le_of_lt few) (by decide)
        · cases hg
      · cases hg
theorem c_ssort {a : Expr} {ca : E} {p p' pos pos' : Pos} (hK : X.K = W.K) (hc : X.calm = true) (hu : X.A.units + 64 < cLine) (hg : Gl X "sorted") (hm : X.mg "sorted" = none) (hg2 : Gl X "set") (hm2 : X.mg "set" = none) (ha : PA X [a] (rdA W E0 T [ca]))
    (he : starEach [a] X.env = (false, eval a X.env) :: starEach [] X.env := by rfl) (he2 : starEach [.Call (.Name "set" p') [a] [] pos'] X.env = (false, eval (.Call (.Name "set" p') [a] [] pos') X.env) :: starEach [] X.env := by rfl) :
    PE X (.Call (.Name "sorted" p) [.Call (.Name "set" p') [a] [] pos'] [] pos) (rdE W E0 T (.bi .ssort [ca])) := by
  have h1 : CallR X (.type "set") (rSetU X.K X.prog X.w) := CallR_or (cr_setInts hc) (cr_setOfT hc hu)
  have h2 : CallR X (.builtin "sorted") (rSortedU X.K X.prog X.w) := CallR_or (cr_sortedSet hc) (cr_sortedT hc)
  refine (pe_callB h2 hg hm (by decide +kernel) (pa_cons (pe_callTy h1 hg2 hm2 (by decide +kernel) ha (he := he)) pa_nil)).imp fun σ H Q ⟨H0, O0, δ, Fs, S, q⟩ => ?_
  simp only [ev, nm] at q
  refine imp_rdA (rdA_B S q) fun vs H1 ⟨O, ds, res, hO, hr, hg, hq⟩ => ?_
  rw [hK]
  exact ssort_ok hO hr hg hq
end
section
variable {W : Wd} {E0 : XK} {T : Tb} {X : Cx}
theorem put_dic (ks : List Int) (n : Int) : putK (dicV ks) (Sum.inl n) (V.bl true) = dicV (if ks.contains n then ks else ks ++ [n]) := by
  have e1 : ((dicV ks).any fun kv => decide (kv.1 = (Sum.inl n : Key))) = ks.contains n := by
    rw [List.any_map, Bool.eq_iff_iff]
    simp
  unfold putK
  rw [e1]
  split
  · unfold dicV
    rw [List.map_map]
    refine List.map_congr_left fun k _ => ?_
    simp only [Function.comp_apply]
    split <;> rfl
  · unfold dicV
    rw [List.map_append]
    rfl
theorem s_dput {x : Str} {ie : Expr} {i : Nat} {ck : E} {px pos pos' pc : Pos} {j} (hu : X.A.units + 64 < cLine) (hi : PE X ie (rdE W E0 T ck)) (hN : X.N[i]? = some x := by rfl) (hv : Vis X.env.scope x := by first | exact Or.inl rfl | exact Or.inr (Or.inl rfl) | exact Or.inr (Or.inr rfl)) (hd : (x == ("__debug__" : Str)) = false := by decide)
    (hcd : (x == ("__classdict__" : Str)) = false := by decide) (hs : swapsWith (.Constant (.bool true) j pc) (some (.Subscript (.Name x px) ie pos')) pos.line X.env = pure false := by rfl) :
    PS X (.Assign [.Subscript (.Name x px) ie pos'] (.Constant (.bool true) j pc) pos) (rdS W E0 T (.dput i ck (.lit (.bl true)))) :=
  (ps_dput (by omega) (pv i hN hv hd hcd) hi pe_bl hs).imp fun D σ H ⟨H0, O0, δ, Fs, S, q⟩ => by
    simp only [ex] at q
    cases ei : δ[i]? with
    | none => rw [ei] at q; exact q.elim
    | some sl =>
      match sl, ei with
      | none, ei => rw [ei] at q; exact q.elim
      | some (.sh, d), ei => rw [ei] at q; exact q.elim
      | some (.fl, d), ei => rw [ei] at q; exact q.elim
      | some (.dp, d), ei =>
        cases d with
        | dic ks =>
          rw [ei] at q
          simp only at q
          obtain ⟨v, hv, ow⟩ := S.slot i _ ei
          obtain ⟨a, rfl, eF, ha, hl⟩ := (show Dq W H (.dic ks) v (Fs.getD i []) from ow)
          refine ⟨_, hv, ⟨H0, O0, δ, Fs, S, rq_bnd' (G := fun z => rqf W E0 H0 O0 H Fs z D) rqf_none (fun C h => rqf_er S.same h) q fun p h1 => ?_⟩⟩
          intro y H1 F1 s1 n1 nd1 ow1
          obtain ⟨m, d⟩ := p
          cases d with
          | int n =>
            simp only at h1
            split at h1
            · rename_i hlt
              have ey := (int_F ow1).1
              subst ey
              have ha1 := (s1.at ha)
              have hlt' : ks.length < sizeLine := Nat.lt_of_lt_of_le hlt sz_le
              refine ⟨a, _, rfl, DPut.k (k := Sum.inl n) ha1 (by rw [List.length_map]; exact hlt'), ?_⟩
              rw [put_dic]
              have hp : a ∈ Fs.getD i [] := by rw [eF]; exact List.mem_singleton.mpr rfl
              have S1 := S.grow s1
              have hl2 : (if ks.contains n then ks else ks ++ [n]).length ≤ sizeLine := by
                split
                · exact hl
                · rw [List.length_append]; exact hlt'
              have S2 := SS.chg (W := W) (Fa := []) (O0 := O0) (by
                refine ⟨S1.same, S1.len, S1.lenF, fun j r e => ?_, S1.nod, S1.new, fun b z => S1.offF b (z.elim id fun q => by cases q), fun b z => S1.oldT b (z.elim id fun q => by cases q), S1.there, S1.mt, S1.tb⟩
                obtain ⟨w, w1, w2⟩ := S1.slot j r e
                exact ⟨w, w1, w2.mono (Same.refl _) fun b z => z.elim (fun z => .inl (z.elim id fun q => by cases q)) .inr⟩) (fun b z => by cases z) List.nodup_nil (fun b z => by cases z) (fun b z => by cases z) ei hv hp ha1 trivial (x := .dK (dicV (if ks.contains n then ks else ks ++ [n]))) trivial (F' := [a]) (q' := (.dp, .dic (if ks.contains n then ks else ks ++ [n]))) (by rw [eF, List.append_nil]; exact SubF.refl _) (show Dq W _ (.dic _) _ _ from ⟨a, rfl, rfl, upd_same, hl2⟩)
              refine h1 _ _ _ S2 ⟨fun b o e nb nt => ?_, fun b hb => ?_, fun b hb => ?_⟩
              · have ne : b ≠ a := fun z => nb (z ▸ mem_flat hp)
                rw [upd_ne ne]
                exact s1.1 _ _ e nt
              · rcases mem_set_flat hb with z | ⟨j, _, z⟩
                · rw [List.mem_singleton.mp z]
                  exact .inl (mem_flat hp)
                · exact .inl (mem_flat z)
              · by_cases e : b = a
                · rw [e, upd_same]; simp
                · rw [upd_ne e]
                  exact fun z => hb (s1.free z)
            · exact h1.elim
          | _ => exact h1.elim
        | _ => rw [ei] at q; exact q.elim
theorem c_dnew {pos : Pos} : PE X (.Dict [] [] pos) (rdE W E0 T .dnew) := pe_dnewK.imp fun σ H Q ⟨H0, O0, δ, Fs, S, q⟩ => by
  simp only [ev] at q
  intro d nd
  have q : Res W H (av O0 Fs (nm .dnew)) .dp (.dic []) Q := q
  exact q _ _ [d] (same_new nd) (fun a ha => by rw [List.mem_singleton.mp ha]; exact nd) (by simp) (show Dq W _ (.dic []) _ _ from ⟨d, rfl, rfl, upd_same, Nat.zero_le _⟩)
end
end TW

set_option Elab.async false
set_option linter.all false
set_option maxRecDepth 100000
set_option maxHeartbeats 4000000
namespace TW
open PySem PySem.Spec PyProof.Rows L2
variable [TabT]
structure ZS (S z TI TO i1 i2 l1 l2 : Addr) (xs ys : Array Value) (i : Nat) (h : Heap) : Prop where
  pr : IsPair h TI (.ref i1) (.ref i2)
  w1 : h.IsListIter i1 l1 i
  w2 : h.IsListIter i2 l2 i
  s1 : h.IsList l1 xs
  s2 : h.IsList l2 ys
  zz : (IsZip h z TI TO .none ∧ ∃ a b, IsPair h TO a b) ∨ ∃ T f oT, IsZipHeld h z TI TO T f ∧ h.get? T = some oT ∧ T ≠ z ∧ T ≠ i1 ∧ T ≠ i2 ∧ T ≠ S
section
variable {P : Program} {w : World} {A : Around} {E : Value → Shared → Prop} {s : Shared} {S z TI TO i1 i2 l1 l2 : Addr} {xs ys : Array Value} {i : Nat}
theorem ZS.frame {h h' : Heap} (off : S ∉ [z, TI, TO, i1, i2, l1, l2]) (st : ZS S z TI TO i1 i2 l1 l2 xs ys i h) (kp : ∀ b o, b ≠ S → h.get? b = some o → h'.get? b = some o) : ZS S z TI TO i1 i2 l1 l2 xs ys i h' := by
  simp only [List.mem_cons, List.not_mem_nil, or_false, not_or] at off
  obtain ⟨oz, oTI, oTO, o1, o2, p1, p2⟩ := off
  refine ⟨kp _ _ (Ne.symm oTI) st.pr, st.w1.at fun o e => kp _ o (Ne.symm o1) e, st.w2.at fun o e => kp _ o (Ne.symm o2) e, st.s1.at fun o e => kp _ o (Ne.symm p1) e, st.s2.at fun o e => kp _ o (Ne.symm p2) e, ?_⟩
  rcases st.zz with ⟨hz, a, b, hT⟩ | ⟨T, f, oT, hz, hT, r1, r2, r3, r4⟩
  · exact .inl ⟨kp _ _ (Ne.symm oz) hz, a, b, kp _ _ (Ne.symm oTO) hT⟩
  · exact .inr ⟨T, f, oT, kp _ _ (Ne.symm oz) hz, kp _ _ r4 hT, r1, r2, r3, r4⟩
theorem ZS.item {x y : Value} {Q : Option Value → Shared → Prop} (D : ZipApart z TI TO i1 i2 l1 l2) (st : ZS S z TI TO i1 i2 l1 l2 xs ys i s.heap) (ex : xs[i]? = some x) (ey : ys[i]? = some y) (hS : S < s.heap.objs.size)
    (hQ : ∀ h', ZS S z TI TO i1 i2 l1 l2 xs ys (i + 1) h' → IsPair h' s.heap.objs.size x y → h'.objs.size = s.heap.objs.size + 1 → (∀ c o, c ∉ [z, TO, i1, i2] → s.heap.get? c = some o → h'.get? c = some o) → Q (some (.ref s.heap.objs.size)) { s with heap := h' }) :
    wpAny (model P w) A (pyNext (.ref z)) Q E s := by
  obtain ⟨hTI, h1, h2, hl1, hl2, hz⟩ := st
  have new : ∀ {c o}, s.heap.get? c = some o → s.heap.objs.size ≠ c := fun e => Nat.ne_of_gt (Heap.lt_size e)
  have n1 : s.heap.objs.size ≠ i1 := let ⟨_, e, _⟩ := h1; new e
  have n2 : s.heap.objs.size ≠ i2 := let ⟨_, e, _⟩ := h2; new e
  rcases hz with ⟨hz, a, b, hTO⟩ | ⟨T, f, oT, hz, hT, r1, r2, r3, r4⟩
  · refine wpAny_pyNext_zip_item D hz hTI hTO h1 h2 hl1 hl2 ex ey fun h' a1 a2 a3 a4 a5 a6 hk => ?_
    exact hQ h' ⟨hk _ _ D.TIz D.TITO D.TIi1 D.TIi2 hTI, a3, a4, hl1.at fun o e => hk _ o D.l1z D.l1TO D.l1i1 D.l1i2 e, hl2.at fun o e => hk _ o D.l2z D.l2TO D.l2i1 D.l2i2 e, .inr ⟨_, false, _, a1, a5, new hz, n1, n2, Nat.ne_of_gt hS⟩⟩ a5 a6
      fun c o hc e => hk c o (fun q => hc (by simp [q])) (fun q => hc (by simp [q])) (fun q => hc (by simp [q])) (fun q => hc (by simp [q])) e
  · refine wpAny_pyNext_zip_item_held D hz hT hTI h1 h2 hl1 hl2 ex ey fun h' a1 a3 a4 a5 a6 hk => ?_
    exact hQ h' ⟨hk _ _ D.TIz D.TIi1 D.TIi2 hTI, a3, a4, hl1.at fun o e => hk _ o D.l1z D.l1i1 D.l1i2 e, hl2.at fun o e => hk _ o D.l2z D.l2i1 D.l2i2 e, .inr ⟨T, true, oT, a1, hk _ _ r1 r2 r3 hT, r1, r2, r3, r4⟩⟩ a5 a6
      fun c o hc e => hk c o (fun q => hc (by simp [q])) (fun q => hc (by simp [q])) (fun q => hc (by simp [q])) e
theorem ZS.done {Q : Option Value → Shared → Prop} (quiet : A.handled = none) (D : ZipApart z TI TO i1 i2 l1 l2) (st : ZS S z TI TO i1 i2 l1 l2 xs ys i s.heap) (en : xs[i]? = none ∨ ys[i]? = none)
    (hQ : ∀ h', (∀ c o, c ∉ [z, TO, i1, i2] → s.heap.get? c = some o → h'.get? c = some o) → Q none { s with heap := h' }) : wpAny (model P w) A (pyNext (.ref z)) Q E s := by
  obtain ⟨hTI, h1, h2, hl1, hl2, hz⟩ := st
  rcases hz with ⟨hz, a, b, hTO⟩ | ⟨T, f, oT, hz, hT, r1, r2, r3, r4⟩
  · exact wpAny_pyNext_zip_end quiet D hz hTI hTO h1 h2 hl1 hl2 en fun h' hk => hQ h' fun c o hc e => hk c o (fun q => hc (by simp [q])) (fun q => hc (by simp [q])) (fun q => hc (by simp [q])) (fun q => hc (by simp [q])) e
  · exact wpAny_pyNext_zip_end_held quiet D hz hT hTI h1 h2 hl1 hl2 en fun h' hk => hQ h' fun c o hc e => hk c o (fun q => hc (by simp [q])) (fun q => hc (by simp [q])) (fun q => hc (by simp [q])) e
structure Told (base : Nat) (xs ys : Array Value) (Ts : List Addr) (h : Heap) : Prop where
  nd : Ts.Nodup
  lo : ∀ T ∈ Ts, base ≤ T
  hi : ∀ T ∈ Ts, T < h.objs.size
  at_ : ∀ (j : Nat) (T : Addr), Ts[j]? = some T → ∃ x y, xs[j]? = some x ∧ ys[j]? = some y ∧ IsPair h T x y
end
section
variable {H : Hp}
end
section
variable {X : Cx} {pins : List (Addr × Obj)} {σ : List (Option V)} {H H' : Hp} {s : Shared} {h' : Heap}
end
section
variable {W : Wd} {E0 : XK} {T : Tb} {X : Cx}
end
end TW

set_option Elab.async false
set_option linter.all false
set_option maxRecDepth 100000
set_option maxHeartbeats 4000000
namespace TW
open PySem PySem.Spec PyProof.Rows L2
variable [TabT]
section
variable {X : Cx}
end
section
variable {W : Wd} {E0 : XK} {T : Tb} {X : Cx}
end
end TW

set_option Elab.async false
set_option linter.all false
set_option maxRecDepth 100000
set_option maxHeartbeats 4000000
namespace TW
open PySem PySem.Spec PyProof.Rows L2
variable [TabT]
structure ClF (K : PySem.W.Frag) (C : Addr) : Prop where
  cl : Cls K C
  ha : PySem.W.findIn K (.ref C) "__class__" = some (some (.builtin "object.__class__"))
  hn : PySem.W.specialIn K (.builtin "object.__class__") "__get__" = some (some (.builtin "getset_descriptor.__get__"))
  ht : PySem.W.takesIn K (.builtin "object.__class__") = some true
  hm : PySem.W.mroIn K C (.type "object") = some true
section
variable {W : Wd} {E0 : XK} {T : Tb} {X : Cx}
structure FnM (P : Program) (w : World) (mg : Str → Option Value) (base : Heap) (W : Wd) (T : Tb) (k : Nat) (m : Str) (C g : Nat) (ps : List Str) : Prop where
  ex : ∃ fd, FnOk P w W.K mg base (L2N.CX P w) k (W.fa g) fd ps (spP W ps.length (T g)) ∧ Binds W.K fd ps []
  cl : Cls W.K (W.ca C)
  me : Meth W.K (W.ca C) m (W.fa g)
end
def spI (W : Wd) (C : Nat) (f : Str) (n : Nat) (g : List D → M (Md × D)) : Sp := fun vs H Q E => ∃ x dx r ds O, vs = .ref x :: r ∧ r.length = n ∧ H x = some (.ins (W.ca C) dx []) ∧ HB W O H ∧ Rps W H O ds r ∧
  rq W E H O (g (.non :: ds)) fun v H2 => Q .non (L2.upd H2 x (.ins (W.ca C) dx [(f, v)]))
structure FnI (P : Program) (w : World) (mg : Str → Option Value) (base : Heap) (W : Wd) (T : Tb) (k : Nat) (x : Str) (C : Nat) (f : Str) (i : Nat) (ps : List Str) : Prop where
  ex : ∃ fd, FnOk P w W.K mg base (L2N.CX P w) k (W.fa i) fd ps (spI W C f (ps.length - 1) (T i)) ∧ Binds W.K fd ps []
  mkr : Mk W.K (W.ca C) (W.fa i)
  mg : mg x = some (.ref (W.ca C))
section
variable {W : Wd} {E0 : XK} {T : Tb} {X : Cx}
end
end TW

set_option Elab.async false
set_option linter.all false
set_option maxRecDepth 100000
set_option maxHeartbeats 4000000
namespace TW
open PySem PySem.Spec PyProof.Rows L2
variable [TabT]
section
variable {W : Wd} {E0 : XK} {T : Tb} {X : Cx}
end
theorem SS.drop {W : Wd} {H0 H : Hp} {O0 : Addr → Prop} {σ : L2.St} {δ : Dn} {Fs : List (List Addr)} (S : SS W H0 O0 H σ δ Fs) (x : Nat) : SS W H0 O0 H σ (δ.set x none) (Fs.set x []) := by
  have sub : ∀ a, a ∈ (Fs.set x []).flatten → a ∈ Fs.flatten := fun a z => by
    rcases mem_set_flat z with z | ⟨j, _, z⟩
    · cases z
    · exact mem_flat z
  refine ⟨S.same, by rw [List.length_set]; exact S.len, by rw [List.length_set]; exact S.lenF, fun j r e => ?_, ?_, fun a ha => S.new a (sub a ha), fun a za ha => S.offF a za (sub a ha), S.oldT, fun a ha => S.there a (sub a ha), fun j e => ?_, S.tb⟩
  · by_cases h : x = j
    · subst h
      rw [List.getElem?_set_self'] at e
      cases hx : δ[x]? with
      | none => rw [hx] at e; cases e
      | some s => rw [hx] at e; cases e
    · rw [List.getElem?_set_ne h] at e
      obtain ⟨w, h1, h2⟩ := S.slot j r e
      refine ⟨w, h1, ?_⟩
      rw [getD_set_ne h]
      exact h2.mono (Same.refl _) fun a z => z.imp_right (sub a)
  · by_cases hl : x < Fs.length
    · have e : Fs[x]? = some (Fs.getD x []) := by rw [List.getD_eq_getElem?_getD, List.getElem?_eq_getElem hl]; rfl
      have := (set_flat2 (G := []) e (F' := []) (.sub (List.nil_sublist _))).1
      exact this (by rw [List.append_nil]; exact S.nod)
    · rw [List.set_eq_of_length_le (by omega)]
      exact S.nod
  · by_cases h : x = j
    · subst h
      rw [List.getD_eq_getElem?_getD, List.getElem?_set_self']
      cases Fs[x]? <;> rfl
    · rw [List.getElem?_set_ne h] at e
      rw [getD_set_ne h]
      exact S.mt j e
theorem SS.putN {W : Wd} {H0 H : Hp} {O0 : Addr → Prop} {σ : L2.St} {δ : Dn} {Fs : List (List Addr)} (S : SS W H0 O0 H σ δ Fs) {x : Nat} (hx : ∀ p, δ[x]? ≠ some (some p)) (v : Option V) : SS W H0 O0 H (σ.set x v) δ Fs := by
  refine ⟨S.same, by rw [List.length_set]; exact S.len, by rw [List.length_set]; exact S.lenF, fun j r e => ?_, S.nod, S.new, S.offF, S.oldT, S.there, S.mt, S.tb⟩
  have h : x ≠ j := fun z => hx r (z ▸ e)
  rw [List.getElem?_set_ne h]
  exact S.slot j r e
section
variable {W : Wd} {E0 : XK} {T : Tb} {X : Cx}
end
end TW

set_option Elab.async false
set_option linter.all false
set_option maxRecDepth 100000
set_option maxHeartbeats 4000000
namespace TW
open PySem PySem.Spec PyProof.Rows L2
variable [TabT]
theorem SaysX.fact {fa : List He.Fa} {fb : List (PySem.W.Frag → Bool)} {fn : List He.DefD} {K : PySem.W.Frag} (c : SaysX fa fb fn K) (i : Nat) {f : He.Fa} (h : fa[i]? = some f := by rfl) : f.ok K = true := c.1.fact i h
theorem SaysX.more {fa : List He.Fa} {fb : List (PySem.W.Frag → Bool)} {fn : List He.DefD} {K : PySem.W.Frag} (c : SaysX fa fb fn K) (i : Nat) {f : PySem.W.Frag → Bool} (h : fb[i]? = some f := by rfl) : f K = true := List.all_eq_true.mp c.2 f (List.mem_of_getElem? h)
theorem SaysX.def_ {fa : List He.Fa} {fb : List (PySem.W.Frag → Bool)} {fn : List He.DefD} {K : PySem.W.Frag} (c : SaysX fa fb fn K) (i : Nat) {d : He.DefD} (h : fn[i]? = some d := by rfl) : ∃ fd, FunD K d.name d.qual d.params d.body d.scope (d.dvs K) (d.kws K) (He.fAd K d.at_) fd := c.1.def_ i h
theorem fn_runR {P : Program} {w : World} {mg : Str → Option Value} {base : Heap} {W : Wd} {PR : List Fun} {k r i : Nat} {x qual : Str} {params : Arguments} {body : List Stmt} {scope : Scope} {kws : List (Str × V)} {f : Addr} {fd : FuncData} {N ps : List Str} {fu : Fun}
    (F : FunD W.K x qual params body scope [] kws f fd) (S : FnScope N ps scope) (hP : PR[i]? = some fu) (hnp : fu.np = ps.length) (hnv : fu.nv = N.length) (hle : ps.length ≤ N.length)
    (hb : ∀ (cdv : Value) (A : Around) (outer : List Env) (s : Shared) (H : Hp) (E : XK), Room r (A.deeper (envOfC qual scope s.heap.objs.size f cdv)) → PSs (cxOf (L2N.CX P w) P w W.K mg base N qual scope f cdv A outer s H E) body (rdSs W E (run PR k) fu.body)) :
    FnOk P w W.K mg base (L2N.CX P w) (r + 1) f fd ps (spP W ps.length (run PR (k + 1) i)) := by
  refine F.ok S (fun vs H Q E h => h.1) fun cdv A outer s H vs Q E hr h => ⟨_, hb cdv A outer s H E hr, ?_⟩
  obtain ⟨hl, ds, O, hO, hrp, hq⟩ := h
  have hld : ds.length = ps.length := by rw [← Rps.length _ _ hrp, hl]
  refine ⟨H, O, start0 fu.np fu.nv ds, List.replicate fu.nv [], ss_start hO hrp (by rw [hld, hnp]) hnv.symm (by rw [hnp, hnv]; exact hle), ?_⟩
  have e : run PR (k + 1) i ds = callF (run PR k) fu ds := by
    show (match PR[i]? with | some F => callF (run PR k) F ds | none => none) = _
    rw [hP]
  rw [e] at hq
  unfold callF at hq
  rw [if_pos (by rw [hld, hnp])] at hq
  revert hq
  cases exs (run PR k) fu.body (start0 fu.np fu.nv ds) with
  | none => exact fun h => h
  | some r =>
    cases r with
    | er C => exact fun h => h
    | ok fl =>
      cases fl with
      | rt m d => exact fun h v H' F s n nd ow => h v H' F s n nd ow
      | nx δ' => exact fun h σ' H' Fs' S' _ => h .non H' [] S'.same (fun _ z => by cases z) List.nodup_nil ⟨rfl, rfl⟩
end TW

set_option Elab.async false
set_option linter.all false
set_option maxRecDepth 100000
set_option maxHeartbeats 4000000
namespace TW
open PySem PySem.Spec PyProof.Rows L2
variable [TabT]
section
variable {W : Wd} {E0 : XK} {T : Tb} {X : Cx}
end
end TW

set_option Elab.async false
set_option linter.all false
set_option maxRecDepth 100000
set_option maxHeartbeats 4000000
namespace TW
open PySem PySem.Spec PyProof.Rows L2
variable [TabT]
section
variable {W : Wd} {E0 : XK} {T : Tb} {X : Cx}
end
end TW

set_option Elab.async false
set_option linter.all false
set_option maxRecDepth 100000
set_option maxHeartbeats 4000000
namespace TW
open PySem PySem.Spec PyProof.Rows L2
variable [TabT]

section
variable {W : Wd} {E0 : XK} {T : Tb} {X : Cx}
theorem Al3.rows {H : Hp} : ∀ {gs : List (List Int)} {vs : List V} {As : List (List Addr)}, Al3 (Dq W H) (gs.map eIL) vs As → ∃ ts : List Addr, vs = ts.map V.ref ∧ As = ts.map (fun t => [t]) ∧ ts.length = gs.length ∧ ∀ b ∈ ts.zip gs, H b.1 = some (.lst (b.2.map V.int)) ∧ b.2.length ≤ sizeLine
  | [], _, _, h => ⟨[], h.1, h.2, rfl, fun b hb => by cases hb⟩
  | g :: gs, _, _, h => by
    obtain ⟨v, r, F, Fr, rfl, rfl, h1, h2⟩ := h
    obtain ⟨ts, e1, e2, e3, e4⟩ := Al3.rows h2
    obtain ⟨a, ws, G, rfl, rfl, k1, k2, k3⟩ := h1
    have hr : Rps W H (fun _ => False) (g.map D.int) ws := Dqs.rp _ _ _ k3 fun _ _ z => z
    have ew := Rps.ints_eq hr
    have eG : G = [] := by
      have : ∀ {g : List Int} {ws : List V} {G : List Addr}, Dqs W H (g.map D.int) ws G → G = [] := by
        intro g
        induction g with
        | nil => exact fun h => h.2
        | cons n g ih =>
          intro ws G h
          obtain ⟨_, _, F1, F2, _, rfl, h1, h2⟩ := h
          rw [ih h2, h1.2]
          rfl
      exact this k3
    subst eG
    refine ⟨a :: ts, by rw [e1]; rfl, by rw [e2]; rfl, by rw [List.length_cons, List.length_cons, e3], fun b hb => ?_⟩
    rw [List.zip_cons_cons] at hb
    rcases List.mem_cons.mp hb with rfl | hb
    · rw [ew] at k1 k2
      rw [List.length_map] at k2
      exact ⟨k1, k2⟩
    · exact e4 b hb
theorem Dqs.of_rows {H : Hp} : ∀ (cs : List (Addr × List Int)), (∀ b ∈ cs, H b.1 = some (.lst (b.2.map V.int)) ∧ b.2.length ≤ sizeLine) → Dqs W H ((cs.map Prod.snd).map eIL) (cs.map fun b => V.ref b.1) (cs.map Prod.fst)
  | [], _ => ⟨rfl, rfl⟩
  | c :: cs, h => by
    obtain ⟨k1, k2⟩ := h c List.mem_cons_self
    refine ⟨.ref c.1, cs.map fun b => V.ref b.1, [c.1], cs.map Prod.fst, rfl, rfl, ⟨c.1, c.2.map V.int, [], rfl, rfl, k1, by rw [List.length_map]; exact k2, ?_⟩, Dqs.of_rows cs fun b hb => h b (List.mem_cons_of_mem _ hb)⟩
    generalize c.2 = g
    induction g with
    | nil => exact ⟨rfl, rfl⟩
    | cons n g ih => exact ⟨.int n, g.map V.int, [], [], rfl, rfl, ⟨rfl, rfl⟩, ih⟩
theorem subl_flat {α : Type} : ∀ {a b : List (List α)}, a.Sublist b → a.flatten.Sublist b.flatten
  | _, _, .slnil => List.Sublist.refl _
  | _, _, .cons x h => (subl_flat h).trans (List.sublist_append_right _ _)
  | _, _, .cons_cons x h => (List.Sublist.refl x).append (subl_flat h)
theorem flat_ones {α : Type} : ∀ (ts : List α), (ts.map fun t => [t]).flatten = ts
  | [] => rfl
  | t :: ts => by rw [List.map_cons, List.flatten_cons, flat_ones ts]; rfl
abbrev adr : V → Addr
  | .ref a => a
  | _ => 0
theorem r_flt {elt tg it : Expr} {ifs : List Expr} {scope : Scope} {own : List (Str × Nat)} {i x : Nat} {cs : List E} {p pos pos' : Pos} (hc : X.calm = true) (hN : X.N.Nodup) (hu : X.A.units + 64 < cLine) (hg0 : Gl X "sorted") (hm : X.mg "sorted" = none)
    (hi : PE X it (tVar i)) (ok : BlkOk X.N X.env.scope scope own) (hown : own.map (·.2) = [x])
    (hg : ∀ (s : Shared) (H : Hp) (C : Addr) (cl : List (Str × Addr)) (fp : List Addr), PG (X.blk s H scope (compEnvC scope cl C X.env) fp) tg (gT X.K [x] true)) (ht : ∀ (s : Shared) (H : Hp) (C : Addr) (cl : List (Str × Addr)) (fp : List Addr), PTs (X.blk s H scope (compEnvC scope cl C X.env) fp) ifs (rdC W EF T cs))
    (he : ∀ (s : Shared) (H : Hp) (C : Addr) (cl : List (Str × Addr)) (fp : List Addr), PE (X.blk s H scope (compEnvC scope cl C X.env) fp) elt (tVar x))
    (hs : ∀ x, foldedSetIterable it X.env x = pure x := by intro _; rfl)
    (hst : starEach [.ListComp elt [⟨tg, it, ifs, 0⟩] scope pos'] X.env = (false, eval (.ListComp elt [⟨tg, it, ifs, 0⟩] scope pos') X.env) :: starEach [] X.env := by rfl) :
    PE X (.Call (.Name "sorted" p) [.ListComp elt [⟨tg, it, ifs, 0⟩] scope pos'] [] pos) (rdR W E0 T (.flt i x cs)) :=
  (pe_callB (cr_sortRows hu) hg0 hm (by decide +kernel) (pa_cons (pe_lc hc hN (pi_list hi) ok hg ht he hs) pa_nil)).imp fun σ H Q ⟨H0, O0, δ, Fs, S, q⟩ => by
    simp only [evr, mv] at q
    show tLc (iList X.K (tVar i)) (gT X.K [x] true) (rdC W EF T cs) (tVar x) (own.map (·.2)) σ H (fun v H1 => rSortRows X.K [v] H1 Q)
    rw [hown]
    cases ei : δ[i]? with
    | none => rw [ei] at q; exact q.elim
    | some sl =>
      cases sl with
      | none => rw [ei] at q; exact q.elim
      | some qq =>
        rw [ei] at q
        obtain ⟨m0, d⟩ := qq
        cases m0 with
        | sh => exact q.elim
        | fl => exact q.elim
        | dp =>
          cases d with
          | lst ds =>
            generalize hf : (fun (d : TW.D) => (bindT [x] true d δ).bind fun e1 => (okOnly (evC T cs e1)).bind fun b => if b = true then (okOnly (ev T (.var x) e1)).map some else some none) = f at q
            have q : rqr W E0 O0 H Fs [i] (if x = i then none else (match compL f ds with
              | none => none
              | some ps => match ilD (ps.map Prod.snd) with
                | some gs => TW.ok (.dp, .lst ((isortB ltL gs).map eIL))
                | none => none)) Q := q
            by_cases hxi : x = i
            · rw [if_pos hxi] at q; exact q.elim
            rw [if_neg hxi] at q
            cases ec : compL f ds with
            | none => rw [ec] at q; exact q.elim
            | some tot =>
              rw [ec] at q
              simp only at q
              cases eg : ilD (tot.map Prod.snd) with
              | none => rw [eg] at q; exact q.elim
              | some gs =>
                rw [eg] at q
                have q : ∀ v H' F, Same H H' → (∀ a ∈ F, H a = none ∨ ∃ j, j ∈ [i] ∧ a ∈ Fs.getD j []) → F.Nodup → Ow W H' (fun q => O0 q ∨ q ∈ F) .dp (.lst ((isortB ltL gs).map eIL)) v F → Q v H' := q
                obtain ⟨v, hv, how⟩ := S.slot i _ ei
                have how : Dq W H (.lst ds) v (Fs.getD i []) := how
                obtain ⟨a, vs, G, rfl, eG, h1, h2, h3⟩ := how
                have hln : vs.length = ds.length := Dqs.length _ _ _ h3
                obtain ⟨As0, al, eA⟩ := h3.al
                have hl : i < Fs.length := by rw [S.lenF, ← S.len]; exact (List.getElem?_eq_some_iff.mp ei).1
                have eF : Fs[i]? = some (Fs.getD i []) := by rw [List.getD_eq_getElem?_getD, List.getElem?_eq_getElem hl]; rfl
                have ndi : (Fs.getD i []).Nodup := nod_get S.nod eF
                rw [eG] at ndi
                refine ⟨.ref a, hv, a, rfl, ⟨vs, .inl (.inl h1)⟩, fun dl hD => ?_⟩
                refine lc_it (walk_list (xs := vs)) (Pv := fun k H' => ∃ (ps : List (Md × TW.D)) (acc : List V) (As : List (List Addr)), H' dl = some (.lst acc) ∧ Same H H' ∧ Al3 (Dq W H) (ps.map Prod.snd) acc As ∧ List.Sublist As (As0.take k) ∧ acc.length ≤ k ∧ (compL f (ds.drop k)).map (ps ++ ·) = some tot) ?_ ?_ ?_ ?_
                · exact ⟨[], [], [], upd_same, same_new hD, ⟨rfl, rfl⟩, List.nil_sublist _, Nat.zero_le _, by simp [ec]⟩
                · rintro k H' hk ⟨ps, acc, As, g1, g2, _⟩
                  exact .inl (.inl (g2.at h1))
                · rintro k y H2 H3 hk ⟨ps, acc, As, g1, g2, g3, g4, g5, g6⟩ ⟨rfl, hy⟩
                  have hkd : k < ds.length := by omega
                  have ed : ds.drop k = ds[k] :: ds.drop (k + 1) := List.drop_eq_getElem_cons hkd
                  rw [ed] at g6
                  obtain ⟨y2, Fk, k1, k2, k3⟩ := al.get (List.getElem?_eq_getElem hkd)
                  rw [hy] at k1
                  cases k1
                  have hkA : k < As0.length := (List.getElem?_eq_some_iff.mp k2).1
                  have subk : ∀ b ∈ Fk, b ∈ G := fun b hb => by rw [← eA]; exact mem_flat (i := k) (by rw [getD_of k2]; exact hb)
                  generalize hL : i :: nms cs = L
                  have iC : ∀ j ∈ nms cs, j ∈ L := fun j hj => by rw [← hL]; exact List.mem_cons_of_mem _ hj
                  have SBt : SB W H3 (av O0 Fs L) σ (maskF L 0 δ) := (S.grow g2).mask L
                  have rk : Rp W H3 (av O0 Fs L) ds[k] y := Rp.mono g2 (fun _ z => z) _ _ (Dq.rp _ _ _ k3 fun b hb z => by
                    have hbi : b ∈ Fs.getD i [] := by rw [eG]; exact List.mem_cons_of_mem _ (subk b hb)
                    rcases z with z | ⟨j, j1, j2⟩
                    · exact S.offF b z (mem_flat hbi)
                    · have := flat_inj S.nod hbi j2
                      rw [← hL] at j1
                      exact j1 (by rw [← this]; exact List.mem_cons_self))
                  have hfx : f ds[k] = (okOnly (evC T cs (δ.set x (some (.sh, ds[k]))))).bind fun b => if b = true then (okOnly (ev T (.var x) (δ.set x (some (.sh, ds[k]))))).map some else some none := by rw [← hf]; rfl
                  have SB2 : SB W H3 (av O0 Fs L) (σ.set x (some y)) ((maskF L 0 δ).set x (some (.sh, ds[k]))) := SBt.set x rk
                  have b3 : Agr ([x] ++ L) ((maskF L 0 δ).set x (some (.sh, ds[k]))) (δ.set x (some (.sh, ds[k]))) := (mask_agr L δ).set x _ _ rfl
                  have eC : evC T cs ((maskF L 0 δ).set x (some (.sh, ds[k]))) = evC T cs (δ.set x (some (.sh, ds[k]))) := evC_congr cs _ _ (b3.sub fun j hj => List.mem_append_right _ (iC j hj))
                  have ew : (wipe σ [x]).set x (some y) = σ.set x (some y) := by simp [wipe]
                  show wipe ((wipe σ [x]).set x (some y)) [x] = wipe σ [x] ∧ _
                  rw [ew]
                  refine ⟨by simp [wipe], H3, _, _, _, SB2.ss, ?_⟩
                  rw [eC]
                  cases ev1 : evC T cs (δ.set x (some (.sh, ds[k]))) with
                  | none =>
                    rw [ev1] at hfx
                    rcases compL_cons g6 with ⟨z, _⟩ | ⟨p, z, _⟩ <;> (rw [hfx] at z; cases z)
                  | some r =>
                    cases r with
                    | er C =>
                      rw [ev1] at hfx
                      rcases compL_cons g6 with ⟨z, _⟩ | ⟨p, z, _⟩ <;> (rw [hfx] at z; cases z)
                    | ok b =>
                      rw [ev1] at hfx
                      intro H4 s4
                      cases b with
                      | false =>
                        rw [if_neg (by decide)]
                        have hfx : f ds[k] = some none := hfx
                        rcases compL_cons g6 with ⟨_, z⟩ | ⟨p, z, _⟩
                        · exact ⟨ps, acc, As, (s4.at g1), g2.trans s4, g3, g4.trans (List.take_sublist_take_left (Nat.le_succ k)), by omega, z⟩
                        · rw [hfx] at z; cases z
                      | true =>
                        rw [if_pos rfl]
                        have hfx : f ds[k] = (okOnly (ev T (.var x) (δ.set x (some (.sh, ds[k]))))).map some := hfx
                        by_cases hxl : x < δ.length
                        · have evx : ev T (.var x) (δ.set x (some (.sh, ds[k]))) = TW.ok (.sh, ds[k]) := by
                            simp only [ev]
                            rw [List.getElem?_set_self hxl]
                          rw [evx] at hfx
                          have hfx : f ds[k] = some (some (.sh, ds[k])) := hfx
                          rcases compL_cons g6 with ⟨z, _⟩ | ⟨p', z, z2⟩
                          · rw [hfx] at z; cases z
                          rw [hfx] at z
                          cases z
                          refine ⟨y, List.getElem?_set_self (by rw [← S.len]; exact hxl), acc, (s4.at g1), Nat.lt_of_le_of_lt g5 (Nat.lt_of_lt_of_le hk h2), ps ++ [(.sh, ds[k])], acc ++ [y], As ++ [Fk], upd_same, (g2.trans s4).upd hD (s4.at g1) trivial, ?_, ?_, ?_, z2⟩
                          · rw [List.map_append]
                            exact g3.app (Al3.one k3)
                          · rw [List.take_succ, k2]
                            exact g4.append (List.Sublist.refl _)
                          · rw [List.length_append, List.length_singleton]
                            omega
                        · have evx : ev T (.var x) (δ.set x (some (.sh, ds[k]))) = none := by
                            simp only [ev]
                            rw [List.getElem?_eq_none (by rw [List.length_set]; omega)]
                          rw [evx] at hfx
                          rcases compL_cons g6 with ⟨z, _⟩ | ⟨p, z, _⟩ <;> (rw [hfx] at z; cases z)
                · rintro H' ⟨ps, acc, As, g1, g2, g3, g4, g5, g6⟩
                  rw [hln, List.drop_length] at g6
                  have g6 : some (ps ++ []) = some tot := g6
                  rw [List.append_nil] at g6
                  cases g6
                  rw [ilD_eq eg] at g3
                  obtain ⟨ts, e1, e2, e3, e4⟩ := Al3.rows g3
                  have mf : ((ts.zip gs).map (fun b => (V.ref b.1, b.2))).map Prod.fst = acc := by
                    rw [List.map_map, e1]
                    show (ts.zip gs).map (V.ref ∘ Prod.fst) = _
                    rw [← List.map_map, List.map_fst_zip (by omega)]
                  have ms : ((ts.zip gs).map (fun b => (V.ref b.1, b.2))).map Prod.snd = gs := by
                    rw [List.map_map]
                    show (ts.zip gs).map Prod.snd = _
                    rw [List.map_snd_zip (by omega)]
                  refine ⟨dl, (ts.zip gs).map (fun b => (V.ref b.1, b.2)), rfl, by rw [mf]; exact .inl (.inl g1), fun b hb => ?_, fun ks p hks np => ?_⟩
                  · obtain ⟨c, hc, rfl⟩ := List.mem_map.mp hb
                    exact ⟨c.1, rfl, .inl (.inl (g2.at (e4 c hc).1))⟩
                  · have pm : ks.Perm ((ts.zip gs).map (fun b => (V.ref b.1, b.2))) := by rw [hks]; exact List.mergeSort_perm _ _
                    have eS : isortB ltL gs = ks.map Prod.snd := by
                      refine isort_eq sto_L ?_ ?_
                      · have := pm.map Prod.snd
                        rw [ms] at this
                        exact this
                      · show List.Pairwise _ _
                        rw [List.pairwise_map, hks]
                        exact (rows_ris _).imp fun {x y} h => by rw [ltL_lt]; exact decide_eq_false (List.not_lt.mpr h)
                    rw [eS] at q
                    -- the cells behind
                    generalize hus : ks.map (fun c => (adr c.1, c.2)) = us
                    have pu : us.Perm (ts.zip gs) := by
                      have := pm.map (fun c : V × List Int => (adr c.1, c.2))
                      rw [hus, List.map_map] at this
                      have e : ((fun c : V × List Int => (adr c.1, c.2)) ∘ fun b : Addr × List Int => (V.ref b.1, b.2)) = id := rfl
                      rw [e, List.map_id] at this
                      exact this
                    have uf : ks.map Prod.fst = us.map fun b => V.ref b.1 := by
                      rw [← hus, List.map_map]
                      refine List.map_congr_left fun c hc => ?_
                      obtain ⟨b, _, rfl⟩ := List.mem_map.mp (pm.mem_iff.mp hc)
                      rfl
                    have usn : ks.map Prod.snd = us.map Prod.snd := by
                      rw [← hus, List.map_map]
                      rfl
                    have s2 := same_new (o := .lst (ks.map Prod.fst)) np
                    have pf : (us.map Prod.fst).Perm ts := by
                      have := pu.map Prod.fst
                      rw [List.map_fst_zip (by omega)] at this
                      exact this
                    have tG : ∀ t ∈ ts, t ∈ G := fun t ht => by
                      rw [← eA]
                      refine (subl_flat (g4.trans (List.take_sublist _ _))).subset ?_
                      rw [e2]
                      exact List.mem_flatten.mpr ⟨[t], List.mem_map.mpr ⟨t, ht, rfl⟩, List.mem_singleton_self t⟩
                    have tn : ts.Nodup := by
                      have hs := subl_flat (g4.trans (List.take_sublist _ _))
                      rw [eA, e2] at hs
                      have ef : (ts.map fun t => [t]).flatten = ts := by
                        exact flat_ones ts
                      rw [ef] at hs
                      exact (List.nodup_cons.mp ndi).2.sublist hs
                    have tH : ∀ t ∈ ts, H t ≠ none := fun t ht z => by
                      have hti : t ∈ Fs.getD i [] := by rw [eG]; exact List.mem_cons_of_mem _ (tG t ht)
                      obtain ⟨o, e, _⟩ := S.there t (mem_flat hti)
                      rw [z] at e
                      cases e
                    have nH : H p = none := g2.free np
                    refine q (.ref p) _ (p :: us.map Prod.fst) (g2.trans s2) (fun b hb => ?_) ?_ ⟨p, ks.map Prod.fst, us.map Prod.fst, rfl, rfl, upd_same, ?_, ?_⟩
                    · rcases List.mem_cons.mp hb with rfl | hb
                      · exact .inl nH
                      · refine .inr ⟨i, List.mem_singleton_self i, ?_⟩
                        rw [eG]
                        exact List.mem_cons_of_mem _ (tG b (pf.mem_iff.mp hb))
                    · refine List.nodup_cons.mpr ⟨fun z => tH p (pf.mem_iff.mp z) nH, pf.nodup_iff.mpr tn⟩
                    · rw [List.length_map, pm.length_eq, List.length_map, List.length_zip]
                      have : ts.length ≤ sizeLine := by
                        have := g5
                        rw [e1, List.length_map] at this
                        exact Nat.le_trans this h2
                      exact Nat.le_trans (Nat.min_le_left _ _) this
                    · have hz : Dqs W (upd H' p (.lst (ks.map Prod.fst))) ((us.map Prod.snd).map eIL) (us.map fun b => V.ref b.1) (us.map Prod.fst) := Dqs.of_rows us fun b hb => by
                        obtain ⟨k1, k2⟩ := e4 b (pu.mem_iff.mp hb)
                        exact ⟨s2.at (g2.at k1), k2⟩
                      rw [← uf, ← usn] at hz
                      exact hz
          | _ => exact q.elim
end
end TW

set_option Elab.async false
set_option linter.all false
set_option maxRecDepth 100000
set_option maxHeartbeats 4000000
namespace TW
open PySem PySem.Spec PyProof.Rows L2
variable [TabT]
section
variable {W : Wd} {E0 : XK} {T : Tb} {X : Cx}
end
end TW

set_option Elab.async false
set_option linter.all false
set_option maxRecDepth 100000
set_option maxHeartbeats 4000000
namespace TW
open PySem PySem.Spec PyProof.Rows L2
variable [TabT]
section
variable {W : Wd} {E0 : XK} {T : Tb} {X : Cx}
end
end TW

set_option Elab.async false
set_option linter.all false
set_option maxRecDepth 100000
set_option maxHeartbeats 4000000
namespace TW
open PySem PySem.Spec PyProof.Rows L2
variable [TabT]
structure TurnX (Pg : Program) (wd : World) (Kf : PySem.W.Frag) (tg : Expr) (J : It) (fp : List Addr) (it : Addr) (tn : Nat → Heap → Prop) : Prop where
  obj : ∀ i h, tn i h → ∀ b ∈ fp, ∃ o, h.get? b = some o ∧ ∀ v, o.data ≠ .cell v
  keep : ∀ i h g, tn i h → (∀ b ∈ fp, ∀ o, h.get? b = some o → g.get? b = some o) → tn i g
  item : ∀ (Y : Cx), Y.prog = Pg → Y.w = wd → Y.K = Kf → ∀ (i : Nat) (pn : List (Addr × Obj)) (s : Shared) (σ : L2.St) (H : Hp) (E : Value → Shared → Prop), (∃ e, HotX.HotAt Y.A e s.heap) → Inv Y pn σ H s → (∀ b ∈ fp, FpOk Y pn H b) → tn i s.heap → J.go i H →
    wpAny (model Pg wd) Y.A (pyNext (.ref it)) (fun r t => ∃ u, r = some u ∧ wpAny (model Pg wd) Y.A (letOwnedTupleGo tg (.ref it) u) (fun _ t2 => ∃ x G, Inv Y pn σ G t2 ∧ RelV x u ∧ J.yld i H x G ∧ tn (i + 1) t2.heap ∧ ∀ b ∈ fp, G b = none) E t) E s
  done : ∀ (Y : Cx), Y.prog = Pg → Y.w = wd → Y.K = Kf → ∀ (i : Nat) (pn : List (Addr × Obj)) (s : Shared) (σ : L2.St) (H : Hp) (E : Value → Shared → Prop), (∃ e, HotX.HotAt Y.A e s.heap) → Inv Y pn σ H s → (∀ b ∈ fp, FpOk Y pn H b) → tn i s.heap → J.stop i H →
    wpAny (model Pg wd) Y.A (pyNext (.ref it)) (fun r t => r = none ∧ Inv Y pn σ H t) E s
  self : ∀ (A : Around) (i : Nat) (s : Shared) (Q E : Value → Shared → Prop), tn i s.heap → Q (.ref it) s → wpAny (model Pg wd) A (pyIter (.ref it)) Q E s
def HasX (X : Cx) (pn : List (Addr × Obj)) (σ : L2.St) (tg : Expr) (R : It → Hp → Prop) (v : Value) (t : Shared) : Prop :=
  ∃ (it : Addr) (fp : List Addr) (tn : Nat → Heap → Prop) (J : It) (G : Hp), v = .ref it ∧ Inv X pn σ G t ∧ TurnX X.prog X.w X.K tg J fp it tn ∧ tn 0 t.heap ∧ (∀ b ∈ fp, FpOk X pn G b) ∧ R J G
structure PIX (X : Cx) (tg iter : Expr) (wi : TI) : Prop where
  run : ∀ (pn : List (Addr × Obj)) (s : Shared) (σ : L2.St) (H : Hp) (R : It → Hp → Prop), Inv X pn σ H s → wi σ H R →
    wpAny (model X.prog X.w) X.A (eval iter X.env) (fun v t => wpAny (model X.prog X.w) X.A (pyIter v) (HasX X pn σ tg R) X.xe t) X.xe s
section
variable {X : Cx} {tg : Expr}
variable {elt iter : Expr} {ifs : List Expr} {scope : Scope} {own : List (Str × Nat)} {pos : Pos} {wi : TI} {g : TG} {tt : TT} {te : TE}
end
theorem call_isX {X : Cx} {a D : Addr} {oe : Obj} (hp : (a, oe) ∈ X.pn) (c : ExcC X.K D) (z : Zc (.ref D) none oe) (f : ∃ vs, oe.data = .fields vs) : CallR X (.builtin "isinstance") (rIsE X.K D a) := by
  intro pn s σ H xs us Q I r h
  obtain ⟨v, u, b, rfl, hv, e, q⟩ := h
  obtain _ | ⟨rx, _ | ⟨rt, _ | _⟩⟩ := r
  cases rx
  obtain rfl := hv _ rt
  have g := (I.pin (a, oe) (List.mem_append_left _ hp)).1
  have J : PySem.W.InstAt s.heap a oe D none := by
    obtain ⟨vs, f⟩ := f
    cases oe with
    | mk oc od oda osl =>
      obtain ⟨z1, z2⟩ := z
      simp only at z1 z2 f
      subst z1 z2 f
      exact ⟨g, rfl, rfl, trivial⟩
  refine PySem.W.kia_one (PySem.W.handS_kitx_exc c.hg c.hk c.hs c.hd c.ha c.hn c.ht c.hm) I.kIn J e (fun z => nomatch z) fun tk => ?_
  exact ⟨.bl b, H, I.kept (t' := tk) fun _ _ z => z, rfl, q⟩
section
variable {X : Cx} {W : Wd} {E0 : XK} {T : Tb}
theorem c_isX {e : Expr} {ca : E} {cs : List Nat} {x : Str} {p p2 pos : Pos} {u : Value} {v : V} {a : Addr} {C0 : Nat} {oe : Obj} (hK : X.K = W.K) (hx : W.ex = some (a, C0)) (hp : (a, oe) ∈ X.pn) (c : ExcC W.K (W.ca C0)) (z : Zc (.ref (W.ca C0)) none oe) (f : ∃ vs, oe.data = .fields vs)
    (hv : ClsV v u) (h99 : cs.contains 99 = true) (he0 : PySem.W.kitOne W.K (.ref (W.ca C0)) u = some (cs.contains C0)) (hg : Gl X "isinstance") (hm : X.mg "isinstance" = none)
    (hc : PE X (.Name x p2) (tC v)) (he : PE X e (rdE W E0 T ca)) (hs : starEach [e, .Name x p2] X.env = (false, eval e X.env) :: starEach [.Name x p2] X.env := by rfl) :
    PE X (.Call (.Name "isinstance" p) [e, .Name x p2] [] pos) (rdE W E0 T (.isc ca cs)) :=
  (pe_callB (r := fun xs H Q => rIsE X.K (W.ca C0) a xs H Q ∨ rIsi X.K xs H Q) (fun pn s σ H xs us Q I r h => h.elim (call_isX hp (hK ▸ c) z f pn s σ H xs us Q I r) (call_isi pn s σ H xs us Q I r)) hg hm boot_isinstance (pa_cons he (pa_cons hc pa_nil) hs) (by decide) (by decide) hs).imp fun σ H Q ⟨H0, O0, δ, Fs, S, q⟩ => by
    simp only [ev, nm] at q
    refine rd1 (g := fun d => (iscD d cs).map fun b => (.dp, .bl b)) (r := fun x H1 Q => rIsE X.K (W.ca C0) a [x, v] H1 Q ∨ rIsi X.K [x, v] H1 Q) S q fun H2 O x d res hO hd hg hq => ?_
    cases d with
    | exc C =>
      have hg : (((if excC C = true then some (cs.contains C) else none) : Option Bool).map fun b => (Md.dp, D.bl b)) = some res := hg
      obtain ⟨b, rfl, h1⟩ := hd
      rw [hx] at h1
      cases h1
      split at hg
      · cases hg
        exact .inl ⟨v, u, _, rfl, fun t h => (by first | exact hv.eq h | exact (hv.eq h).symm), by rw [hK]; exact he0, hq.val rfl rfl⟩
      · cases hg
    | ins C g d =>
      have hg : (((if (insC C && !cs.contains 99) = true then some (cs.contains C) else none) : Option Bool).map fun b => (Md.dp, D.bl b)) = some res := hg
      rw [h99, Bool.not_true, Bool.and_false, if_neg (by decide)] at hg
      cases hg
    | _ => cases hg
theorem PIX.imp {tg iter : Expr} {wi wj : TI} (h : PIX X tg iter wi) (k : ∀ σ H R, wj σ H R → wi σ H R) : PIX X tg iter wj := ⟨fun pn s σ H R I q => h.run pn s σ H R I (k σ H R q)⟩
end
structure FnX (Pg : Program) (wd : World) (K : PySem.W.Frag) (mg : Str → Option Value) (base : Heap) (CX : CXT) (k : Nat) (f : Addr) (fd : FuncData) (ps : List Str) (sp : Sp) (p : Addr × Obj) : Prop where
  len : ∀ vs H Q E, sp vs H Q E → vs.length = ps.length
  run : ∀ (A : Around) (out : List Env) (s : Shared) (H : Hp) (ar : Args) (us : List Value) (vs : List V) (Q : VK) (E : XK), L2H.RoomH k A → L2H.Hot1 A p → L2H.PinOk out H s p → Env0 Pg wd K mg base A out s H → BindsTo s fd ar (ps.zip us) → Vals vs us → sp vs H Q E →
    codeAny (model Pg wd) A (.call (.ref f) ar) (CR CX out Pg wd H s Q E) s
section
variable {X : Cx} {CX : CXT} {k : Nat} {f : Addr} {fd : FuncData} {ps : List Str} {sp : Sp} {E : L2.St → XK} {x : Str} {q pos : Pos} {e : Expr} {es : List Expr} {t : TA} {p : Addr × Obj}
end
section
variable {X : Cx} {W : Wd} {E0 : XK} {T : Tb}
structure FnFX (Pg : Program) (wd : World) (mg : Str → Option Value) (base : Heap) (W : Wd) (T : Tb) (k : Nat) (x : Str) (f : Nat) (ps : List Str) (p : Addr × Obj) : Prop where
  ex : ∃ fd, FnX Pg wd W.K mg base (L2N.CX Pg wd) k (W.fa f) fd ps (spP W ps.length (T f)) p ∧ Binds W.K fd ps []
  mg : mg x = some (.ref (W.fa f))
  kp : PySem.W.keepIn W.K (.ref (W.fa f)) = true
end
end TW

set_option Elab.async false
set_option linter.all false
set_option maxRecDepth 100000
set_option maxHeartbeats 4000000
namespace TW
open PySem PySem.Spec PyProof.Rows L2
variable [TabT]
abbrev Wd.wx (W : Wd) (q : Option (Addr × Nat)) : Wd := { W with ex := q }
section
variable {W : Wd} {H H' : Hp} {O : Addr → Prop} (q : Option (Addr × Nat))
mutual
theorem Rp.wex : ∀ (d : D) (v : V), exF d = true → Rp W H O d v → Rp (W.wx q) H O d v
  | .non, v, _, h => h
  | .bl _, v, _, h => h
  | .int _, v, _, h => h
  | .str _, v, _, h => h
  | .fn _, v, _, h => h
  | .exc _, v, e, _ => by cases (show false = true from e)
  | .clo g cap, v, e, h => by
    obtain ⟨a, c, w, e1, hw, h1, h2, h3⟩ := h
    exact ⟨a, c, w, e1, hw, h1, h2, Rps.wex cap _ e h3⟩
  | .tup ds, v, e, h => by
    obtain ⟨a, vs, e1, h1, h2, h3⟩ := h
    exact ⟨a, vs, e1, h1, h2, Rps.wex ds vs e h3⟩
  | .lst ds, v, e, h => by
    obtain ⟨a, vs, e1, h0, h1, h2, h3⟩ := h
    exact ⟨a, vs, e1, h0, h1, h2, Rps.wex ds vs e h3⟩
  | .scr ns, v, _, h => h
  | .dic ks, v, _, h => h
  | .ins C f d, v, e, h => by
    obtain ⟨a, dx, fv, e1, h1, h3⟩ := h
    exact ⟨a, dx, fv, e1, h1, Rp.wex d fv e h3⟩
theorem Rps.wex : ∀ (ds : List D) (vs : List V), exFs ds = true → Rps W H O ds vs → Rps (W.wx q) H O ds vs
  | [], vs, _, h => h
  | d :: ds, vs, e, h => by
    obtain ⟨v, r, e1, h1, h2⟩ := h
    obtain ⟨x, y⟩ := Bool.and_eq_true_iff.mp (show (exF d && exFs ds) = true from e)
    exact ⟨v, r, e1, Rp.wex d v x h1, Rps.wex ds r y h2⟩
end
mutual
theorem Dq.wex : ∀ (d : D) (v : V) (F : List Addr), exF d = true → Dq W H d v F → Dq (W.wx q) H d v F
  | .non, v, F, _, h => h
  | .bl _, v, F, _, h => h
  | .int _, v, F, _, h => h
  | .str _, v, F, _, h => h
  | .fn _, v, F, _, h => h
  | .exc _, v, F, e, _ => by cases (show false = true from e)
  | .clo g cap, v, F, e, h => by
    obtain ⟨a, c, w, e1, hw, h1, h2, h3⟩ := h
    exact ⟨a, c, w, e1, hw, h1, h2, Dqs.wex cap _ F e h3⟩
  | .tup ds, v, F, e, h => by
    obtain ⟨a, vs, e1, h1, h2, h3⟩ := h
    exact ⟨a, vs, e1, h1, h2, Dqs.wex ds vs F e h3⟩
  | .lst ds, v, F, e, h => by
    obtain ⟨a, vs, G, e1, eF, h1, h2, h3⟩ := h
    exact ⟨a, vs, G, e1, eF, h1, h2, Dqs.wex ds vs G e h3⟩
  | .scr ns, v, F, _, h => h
  | .dic ks, v, F, _, h => h
  | .ins C f d, v, F, e, h => by
    obtain ⟨a, dx, fv, e1, h1, h3⟩ := h
    exact ⟨a, dx, fv, e1, h1, Dq.wex d fv F e h3⟩
theorem Dqs.wex : ∀ (ds : List D) (vs : List V) (F : List Addr), exFs ds = true → Dqs W H ds vs F → Dqs (W.wx q) H ds vs F
  | [], vs, F, _, h => h
  | d :: ds, vs, F, e, h => by
    obtain ⟨v, r, F1, F2, e1, eF, h1, h2⟩ := h
    obtain ⟨x, y⟩ := Bool.and_eq_true_iff.mp (show (exF d && exFs ds) = true from e)
    exact ⟨v, r, F1, F2, e1, eF, Dq.wex d v F1 x h1, Dqs.wex ds r F2 y h2⟩
end
theorem Ow.wex {m : Md} {d : D} {v : V} {F : List Addr} (e : exF d = true) (h : Ow W H O m d v F) : Ow (W.wx q) H O m d v F := by
  cases m with
  | sh => exact ⟨h.1, Rp.wex q d v e h.2⟩
  | dp => exact Dq.wex q d v F e h
  | fl =>
    cases d with
    | lst ds =>
      obtain ⟨a, vs, e1, e2, h1, h2, h3⟩ := h
      exact ⟨a, vs, e1, e2, h1, h2, Rps.wex q ds vs e h3⟩
    | dic ks => exact h
    | _ => exact ⟨h.1, Rp.wex q _ v e h.2⟩
-- where nothing is handled, no tree tells what is handled
mutual
theorem Rp.exFr (hw : W.ex = none) : ∀ (d : D) (v : V), Rp W H O d v → exF d = true
  | .non, v, _ => rfl
  | .bl _, v, _ => rfl
  | .int _, v, _ => rfl
  | .str _, v, _ => rfl
  | .fn _, v, _ => rfl
  | .clo g cap, v, h => by
    obtain ⟨a, c, w, e1, hw1, h1, h2, h3⟩ := h
    exact Rps.exFr hw cap _ h3
  | .exc _, v, h => by
    obtain ⟨a, _, h⟩ := h
    rw [hw] at h
    cases h
  | .tup ds, v, h => by
    obtain ⟨a, vs, e1, h1, h2, h3⟩ := h
    exact Rps.exFr hw ds vs h3
  | .lst ds, v, h => by
    obtain ⟨a, vs, e1, h0, h1, h2, h3⟩ := h
    exact Rps.exFr hw ds vs h3
  | .scr ns, v, _ => rfl
  | .dic ks, v, _ => rfl
  | .ins C f d, v, h => by
    obtain ⟨a, dx, fv, e1, h1, h3⟩ := h
    exact Rp.exFr hw d fv h3
theorem Rps.exFr (hw : W.ex = none) : ∀ (ds : List D) (vs : List V), Rps W H O ds vs → exFs ds = true
  | [], vs, _ => rfl
  | d :: ds, vs, h => by
    obtain ⟨v, r, e1, h1, h2⟩ := h
    exact Bool.and_eq_true_iff.mpr ⟨Rp.exFr hw d v h1, Rps.exFr hw ds r h2⟩
end
mutual
theorem Dq.exFr (hw : W.ex = none) : ∀ (d : D) (v : V) (F : List Addr), Dq W H d v F → exF d = true
  | .non, v, F, _ => rfl
  | .bl _, v, F, _ => rfl
  | .int _, v, F, _ => rfl
  | .str _, v, F, _ => rfl
  | .fn _, v, F, _ => rfl
  | .clo g cap, v, F, h => by
    obtain ⟨a, c, w, e1, hw1, h1, h2, h3⟩ := h
    exact Dqs.exFr hw cap _ F h3
  | .exc _, v, F, h => by
    obtain ⟨⟨a, _, h⟩, _⟩ := h
    rw [hw] at h
    cases h
  | .tup ds, v, F, h => by
    obtain ⟨a, vs, e1, h1, h2, h3⟩ := h
    exact Dqs.exFr hw ds vs F h3
  | .lst ds, v, F, h => by
    obtain ⟨a, vs, G, e1, eF, h1, h2, h3⟩ := h
    exact Dqs.exFr hw ds vs G h3
  | .scr ns, v, F, _ => rfl
  | .dic ks, v, F, _ => rfl
  | .ins C f d, v, F, h => by
    obtain ⟨a, dx, fv, e1, h1, h3⟩ := h
    exact Dq.exFr hw d fv F h3
theorem Dqs.exFr (hw : W.ex = none) : ∀ (ds : List D) (vs : List V) (F : List Addr), Dqs W H ds vs F → exFs ds = true
  | [], vs, F, _ => rfl
  | d :: ds, vs, F, h => by
    obtain ⟨v, r, F1, F2, e1, eF, h1, h2⟩ := h
    exact Bool.and_eq_true_iff.mpr ⟨Dq.exFr hw d v F1 h1, Dqs.exFr hw ds r F2 h2⟩
end
theorem Ow.exFr {m : Md} {d : D} {v : V} {F : List Addr} (hw : W.ex = none) (h : Ow W H O m d v F) : exF d = true := by
  cases m with
  | sh => exact Rp.exFr hw d v h.2
  | dp => exact Dq.exFr hw d v F h
  | fl =>
    cases d with
    | lst ds =>
      obtain ⟨a, vs, e1, e2, h1, h2, h3⟩ := h
      exact Rps.exFr hw ds vs h3
    | dic ks => rfl
    | _ => exact Rp.exFr hw _ v h.2
theorem SS.wex {H0 : Hp} {σ : L2.St} {δ : Dn} {Fs : List (List Addr)} (S : SS W H0 O H σ δ Fs) (e : ∀ (i : Nat) (p : Md × D), δ[i]? = some (some p) → exF p.2 = true) : SS (W.wx q) H0 O H σ δ Fs :=
  ⟨S.same, S.len, S.lenF, fun i p h => by
    obtain ⟨v, h1, h2⟩ := S.slot i p h
    exact ⟨v, h1, Ow.wex q (e i p h) h2⟩, S.nod, S.new, S.offF, S.oldT, S.there, S.mt, S.tb⟩
theorem SS.exFr {H0 : Hp} {σ : L2.St} {δ : Dn} {Fs : List (List Addr)} (hw : W.ex = none) (S : SS W H0 O H σ δ Fs) : ∀ (i : Nat) (p : Md × D), δ[i]? = some (some p) → exF p.2 = true := fun i p h => by
  obtain ⟨v, h1, h2⟩ := S.slot i p h
  exact Ow.exFr hw h2
end
section
variable {X : Cx} {W : Wd} {E0 : XK} {T : Tb}
end
end TW
namespace TW
open PySem PySem.Spec PyProof.Rows L2
theorem allE_ok {p : Nat → Bool} (h : allE p = true) : ∀ C, excC C = true → p C = true := fun C hC => by
  unfold excC at hC
  obtain ⟨h1, h2⟩ := Bool.and_eq_true_iff.mp hC
  have h1 : C < 12 := of_decide_eq_true h1
  have hm : C ∈ [0, 1, 2, 3, 4, 8, 9, 10, 11] := by
    match C, h1, h2 with
    | 0, _, _ => decide
    | 1, _, _ => decide
    | 2, _, _ => decide
    | 3, _, _ => decide
    | 4, _, _ => decide
    | 5, _, z => exact absurd z (by decide)
    | 6, _, z => exact absurd z (by decide)
    | 7, _, z => exact absurd z (by decide)
    | 8, _, _ => decide
    | 9, _, _ => decide
    | 10, _, _ => decide
    | 11, _, _ => decide
  exact List.all_eq_true.mp h C hm
theorem excB_ok {K : PySem.W.Frag} {D : Addr} (h : excB K D = true) : ExcC K D := by
  unfold excB at h
  simp only [Bool.and_eq_true, decide_eq_true_eq] at h
  obtain ⟨h1, h2, h3, h4, h5, h6, h7, h8⟩ := h
  exact ⟨He.eqO_ok h1, He.eqO_ok h2, h3, h4, He.eqO_ok h5, He.eqO_ok h6, h7, h8⟩
theorem excsB_ok {ca : Nat → Addr} {K : PySem.W.Frag} (h : excsB ca K = true) : ∀ C, excC C = true → ExcC K (ca C) := fun C hC => excB_ok (allE_ok h C hC)
theorem kxB_ok {ca : Nat → Addr} {u : Value} {cs : List Nat} {K : PySem.W.Frag} (h : kxB ca u cs K = true) : ∀ C, excC C = true → PySem.W.kitOne K (.ref (ca C)) u = some (cs.contains C) := fun C hC => of_decide_eq_true (allE_ok h C hC)
theorem exmB_ok {ca : Nat → Addr} {u : Value} {K : PySem.W.Frag} (h : exmB ca u K = true) : ∀ C, [0, 1, 2, 3, 4, 8, 9, 10, 11].contains C = true → PySem.W.exmOne K (.ref (ca C)) u = some true := fun C hC => of_decide_eq_true (List.all_eq_true.mp h C (List.contains_iff_mem.mp hC))
theorem passN {X : Cx} : Passes (L2N.CX X.prog X.w) X EF := fun _ _ _ _ _ _ _ h => by
  obtain ⟨_, _, _, _, _, _, _, _, _, _, _, _, z⟩ := h
  exact z.elim
theorem exc_in {C : Nat} (h : [0, 1, 2, 3, 4, 8, 9, 10, 11].contains C = true) : excC C = true := by
  have := List.contains_iff_mem.mp h
  simp only [List.mem_cons, List.not_mem_nil, or_false] at this
  rcases this with rfl | rfl | rfl | rfl | rfl | rfl | rfl | rfl | rfl <;> rfl
end TW

set_option Elab.async false
set_option linter.all false
set_option maxRecDepth 100000
set_option maxHeartbeats 4000000
namespace TW
open PySem PySem.Spec PyProof.Rows L2
variable [TabT]
section
variable {X : Cx} {W : Wd} {E0 : XK} {T : Tb}
end
end TW

set_option Elab.async false
set_option linter.all false
set_option maxRecDepth 100000
set_option maxHeartbeats 4000000
namespace TW
open PySem PySem.Spec PyProof.Rows L2
variable [TabT]
def keepF : Sl → List Addr → List Addr
  | some p, F => if exF p.2 = true then F else []
  | none, F => F
def keepFs : Dn → List (List Addr) → List (List Addr)
  | s :: δ, F :: Fs => keepF s F :: keepFs δ Fs
  | _, Fs => Fs
theorem keepF_sub (s : Sl) (G : List Addr) : (keepF s G).Sublist G := by
  cases s with
  | none => exact List.Sublist.refl G
  | some p =>
    show (if exF p.2 = true then G else []).Sublist G
    by_cases c : exF p.2 = true
    · rw [if_pos c]; exact List.Sublist.refl G
    · rw [if_neg c]; exact List.nil_sublist G
theorem keepFs_sub : ∀ (δ : Dn) (Fs : List (List Addr)), (keepFs δ Fs).flatten.Sublist Fs.flatten
  | [], [] => List.Sublist.refl _
  | [], _ :: _ => List.Sublist.refl _
  | _ :: _, [] => List.Sublist.refl _
  | s :: δ, F :: Fs => (keepF_sub s F).append (keepFs_sub δ Fs)
theorem keepFs_len : ∀ (δ : Dn) (Fs : List (List Addr)), (keepFs δ Fs).length = Fs.length
  | [], [] => rfl
  | [], _ :: _ => rfl
  | _ :: _, [] => rfl
  | s :: δ, F :: Fs => congrArg (· + 1) (keepFs_len δ Fs)
theorem keepFs_at : ∀ (δ : Dn) (Fs : List (List Addr)) (i : Nat) {s : Sl}, δ[i]? = some s → (keepFs δ Fs).getD i [] = keepF s (Fs.getD i [])
  | [], _, _, _, h => by simp at h
  | s :: δ, [], i, t, h => by
    have e : (keepF t ([] : List Addr)) = [] := List.eq_nil_of_sublist_nil (keepF_sub t [])
    show [] = keepF t []
    rw [e]
  | s :: δ, F :: Fs, 0, t, h => by
    have h : s = t := by simpa using h
    subst h
    rfl
  | s :: δ, F :: Fs, i + 1, t, h => keepFs_at δ Fs i (by simpa using h)
section
variable {W : Wd} {H0 H : Hp} {O : Addr → Prop} {σ : L2.St} {δ : Dn} {Fs : List (List Addr)}
theorem SS.exK (S : SS W H0 O H σ δ Fs) : SS W H0 O H σ (δ.map TW.exK) (keepFs δ Fs) := by
  have sub := keepFs_sub δ Fs
  refine ⟨S.same, by rw [List.length_map]; exact S.len, by rw [keepFs_len]; exact S.lenF, fun i p e => ?_, S.nod.sublist sub, fun a ha => S.new a (sub.subset ha), fun a za ha => S.offF a za (sub.subset ha), S.oldT, fun a ha => S.there a (sub.subset ha), fun i e => ?_, S.tb⟩
  · rw [List.getElem?_map] at e
    cases es : δ[i]? with
    | none => rw [es] at e; cases e
    | some s =>
      rw [es] at e
      cases s with
      | none => cases e
      | some q =>
        have e : (if exF q.2 = true then some q else none) = some p := Option.some.inj e
        by_cases c : exF q.2 = true
        · rw [if_pos c] at e
          cases e
          obtain ⟨v, h1, h2⟩ := S.slot i _ es
          refine ⟨v, h1, ?_⟩
          rw [keepFs_at δ Fs i es]
          show Ow _ _ _ _ _ _ (if exF _ = true then _ else _)
          rw [if_pos c]
          exact h2.mono (Same.refl H) fun a z => z.imp_right fun z => sub.subset z
        · rw [if_neg c] at e
          cases e
  · rw [List.getElem?_map] at e
    cases es : δ[i]? with
    | none => rw [es] at e; cases e
    | some s =>
      rw [keepFs_at δ Fs i es]
      cases s with
      | none => exact S.mt i es
      | some q =>
        rw [es] at e
        have e : (if exF q.2 = true then some q else none) = none := Option.some.inj e
        by_cases c : exF q.2 = true
        · rw [if_pos c] at e; cases e
        · exact if_neg c
theorem exK_exF {i : Nat} {p : Md × D} (h : (δ.map TW.exK)[i]? = some (some p)) : exF p.2 = true := by
  rw [List.getElem?_map] at h
  cases es : δ[i]? with
  | none => rw [es] at h; cases h
  | some s =>
    rw [es] at h
    cases s with
    | none => cases h
    | some q =>
      have h : (if exF q.2 = true then some q else none) = some p := Option.some.inj h
      by_cases c : exF q.2 = true
      · rw [if_pos c] at h; cases h; exact c
      · rw [if_neg c] at h; cases h
end
section
variable {X : Cx} {W : Wd} {E0 : XK} {T : Tb}
theorem s_tryA {x n : Str} {c : Value} {i : Nat} {e0 : Expr} {ca : E} {b0 : Stmt} {suite : List Stmt} {h : List S} {Cs : List Nat} {np p1 p2 p3 : Pos} (hK : X.K = W.K) (hw : W.ex = none)
    (hs : X.stack = X.env :: X.outer) (hf : X.env.frame = some X.env.locals) (hN : X.N.Nodup) (hi : X.N[i]? = some n) (hln : X.env.kindOf n = some .local) (hc : Names X x c) (tk : L2N.Takes X (fun cls d _ H => E0 cls d H))
    (hx : ∀ C, Cs.contains C = true → PySem.W.exmOne W.K (.ref (W.ca C)) c = some true)
    (call : ∀ (V : WX) (pn : List (Addr × Obj)) (xe : Value → Shared → Prop), L2N.Takes (X.tr pn xe) V → PE (X.tr pn xe) e0 (fun σ H Q => rdE W (WE V σ) T ca σ H Q))
    (hsu : ∀ (a : Addr) (oe : Obj) (C : Nat) (pn : List (Addr × Obj)), Cs.contains C = true → L2N.Zn (.ref (W.ca C)) none oe → (∃ vs, oe.data = .fields vs) → PSs (X.suite a ((a, oe) :: pn)) (b0 :: suite) (rdSs (W.wx (some (a, C))) EF T h))
    (hsw : swapsWith e0 none p1.line X.env = pure false := by rfl) :
    PS X (.Try [.Expr e0 p1] [.ExceptHandler (some (.Name x np)) (some n) (b0 :: suite) p2] [] [] p3) (rdS W E0 T (.tryA ca i Cs h)) := by
  have body : ∀ (V : WX) (pn : List (Addr × Obj)) (xe : Value → Shared → Prop), L2N.Takes (X.tr pn xe) V → PassesOwn (model X.prog X.w) X.A X.env xe →
      PSs (X.tr pn xe) [.Expr e0 p1] (fun D σ H => rdE W (WE V σ) T ca σ H fun _ G => D.nx σ G) := fun V pn xe tkv _ => pss_one (ps_expr (call V pn xe tkv) hsw)
  refine (L2N.ps_try_as (i := i) (ts := fun a cls d D σ H => ∃ C, cls = .ref (W.ca C) ∧ d = none ∧ Cs.contains C = true ∧ rdSs (W.wx (some (a, C))) EF T h D σ H) (Wout := fun cls d _ H => E0 cls d H) hs hf hN hi hln hc tk body (fun a oe cls d pn z fl => ?_)).imp fun D σ H ⟨H0, O0, δ, Fs, S, q⟩ => ?_
  · refine ⟨fun pn' s σ H D I q => ?_⟩
    obtain ⟨C, rfl, rfl, hC, q⟩ := q
    exact (hsu a oe C pn hC z fl).run pn' s σ H D I q
  · refine ⟨H0, O0, δ, Fs, S, ?_⟩
    simp only [ex] at q
    revert q
    cases ee : ev T ca δ with
    | none => exact fun q => q.elim
    | some r =>
      cases r with
      | ok p =>
        intro q v G F s1 n1 nd1 ow1
        exact q _ G _ (S.grow s1) (Evo.grow s1 fun a ha => .inl ha)
      | er C =>
        intro q H1 s1
        have q : rqf W E0 H0 O0 H Fs (if Cs.contains C = true then (match exs T h (δ.set i (some (.sh, .exc C))) with
          | some (.ok (.rt m d)) => if exF d = true then ok (.rt m d) else none
          | some (.ok (.nx e2)) => ok (.nx ((e2.map TW.exK).set i none))
          | _ => none) else none) D := q
        by_cases hC : Cs.contains C = true
        · rw [if_pos hC] at q
          refine ⟨true, by rw [hK]; exact hx C hC, fun _ a na => ⟨C, rfl, rfl, hC, ?_⟩, fun z => by cases z⟩
          have S1 := S.grow s1
          have S2 := (S1.wex (some (a, C)) (S1.exFr hw)).putS (i := i) (d := .exc C) (v := .ref a) ⟨a, rfl, rfl⟩
          refine ⟨H0, O0, _, _, S2, ?_⟩
          have ev1 : Evo H Fs H1 (Fs.set i []) := Evo.grow s1 fun b hb => .inl (set_sub b hb)
          revert q
          cases eh : exs T h (δ.set i (some (.sh, .exc C))) with
          | none => exact fun q => q.elim
          | some r =>
            cases r with
            | er C2 => exact fun q => q.elim
            | ok fl =>
              cases fl with
              | nx e1 =>
                intro q σ' H2 Fs2 S3 ev2
                have q : rqf W E0 H0 O0 H Fs (ok (.nx ((e1.map TW.exK).set i none))) D := q
                have back : (W.wx (some (a, C))).wx none = W := by
                  cases W
                  simp only at hw
                  subst hw
                  rfl
                have S4 := S3.exK.wex none (fun k p hp => exK_exF hp)
                rw [back] at S4
                have S5 := (S4.drop i).putN (x := i) (fun p hp => by
                  rw [List.getElem?_set] at hp
                  simp only [if_true] at hp
                  split at hp <;> cases hp) none
                refine q _ H2 _ S5 ((ev1.trans ev2).trans (Evo.grow (Same.refl H2) fun b hb => .inl ((keepFs_sub e1 Fs2).subset (set_sub b hb))))
              | rt m d =>
                intro q v H2 F s2 n2 nd2 ow2
                have q : rqf W E0 H0 O0 H Fs (if exF d = true then ok (.rt m d) else none) D := q
                by_cases hz : exF d = true
                · rw [if_pos hz] at q
                  have ow3 := Ow.wex none hz ow2
                  have : (W.wx (some (a, C))).wx none = W := by
                    cases W
                    simp only at hw
                    subst hw
                    rfl
                  rw [this] at ow3
                  exact q v H2 F s2 n2 nd2 ow3
                · rw [if_neg hz] at q
                  exact q.elim
        · rw [if_neg hC] at q
          exact q.elim
end
end TW

set_option Elab.async false
set_option linter.all false
set_option maxRecDepth 100000
set_option maxHeartbeats 4000000
namespace TW
open PySem PySem.Spec PyProof.Rows L2 LamX
variable [TabT]
abbrev Wd.wl (W : Wd) (q : Option CW) : Wd := { W with cl := q }
section
variable {W : Wd} {H H' : Hp} {O : Addr → Prop} (q : Option CW)
mutual
theorem Rp.wcl : ∀ (d : D) (v : V), cloF d = true → Rp W H O d v → Rp (W.wl q) H O d v
  | .non, v, _, h => h
  | .bl _, v, _, h => h
  | .int _, v, _, h => h
  | .str _, v, _, h => h
  | .fn _, v, _, h => h
  | .exc _, v, e, h => h
  | .clo g cap, v, e, _ => by cases (show false = true from e)
  | .tup ds, v, e, h => by
    obtain ⟨a, vs, e1, h1, h2, h3⟩ := h
    exact ⟨a, vs, e1, h1, h2, Rps.wcl ds vs e h3⟩
  | .lst ds, v, e, h => by
    obtain ⟨a, vs, e1, h0, h1, h2, h3⟩ := h
    exact ⟨a, vs, e1, h0, h1, h2, Rps.wcl ds vs e h3⟩
  | .scr ns, v, _, h => h
  | .dic ks, v, _, h => h
  | .ins C f d, v, e, h => by
    obtain ⟨a, dx, fv, e1, h1, h3⟩ := h
    exact ⟨a, dx, fv, e1, h1, Rp.wcl d fv e h3⟩
theorem Rps.wcl : ∀ (ds : List D) (vs : List V), cloFs ds = true → Rps W H O ds vs → Rps (W.wl q) H O ds vs
  | [], vs, _, h => h
  | d :: ds, vs, e, h => by
    obtain ⟨v, r, e1, h1, h2⟩ := h
    obtain ⟨x, y⟩ := Bool.and_eq_true_iff.mp (show (cloF d && cloFs ds) = true from e)
    exact ⟨v, r, e1, Rp.wcl d v x h1, Rps.wcl ds r y h2⟩
end
mutual
theorem Dq.wcl : ∀ (d : D) (v : V) (F : List Addr), cloF d = true → Dq W H d v F → Dq (W.wl q) H d v F
  | .non, v, F, _, h => h
  | .bl _, v, F, _, h => h
  | .int _, v, F, _, h => h
  | .str _, v, F, _, h => h
  | .fn _, v, F, _, h => h
  | .exc _, v, F, e, h => h
  | .clo g cap, v, F, e, _ => by cases (show false = true from e)
  | .tup ds, v, F, e, h => by
    obtain ⟨a, vs, e1, h1, h2, h3⟩ := h
    exact ⟨a, vs, e1, h1, h2, Dqs.wcl ds vs F e h3⟩
  | .lst ds, v, F, e, h => by
    obtain ⟨a, vs, G, e1, eF, h1, h2, h3⟩ := h
    exact ⟨a, vs, G, e1, eF, h1, h2, Dqs.wcl ds vs G e h3⟩
  | .scr ns, v, F, _, h => h
  | .dic ks, v, F, _, h => h
  | .ins C f d, v, F, e, h => by
    obtain ⟨a, dx, fv, e1, h1, h3⟩ := h
    exact ⟨a, dx, fv, e1, h1, Dq.wcl d fv F e h3⟩
theorem Dqs.wcl : ∀ (ds : List D) (vs : List V) (F : List Addr), cloFs ds = true → Dqs W H ds vs F → Dqs (W.wl q) H ds vs F
  | [], vs, F, _, h => h
  | d :: ds, vs, F, e, h => by
    obtain ⟨v, r, F1, F2, e1, eF, h1, h2⟩ := h
    obtain ⟨x, y⟩ := Bool.and_eq_true_iff.mp (show (cloF d && cloFs ds) = true from e)
    exact ⟨v, r, F1, F2, e1, eF, Dq.wcl d v F1 x h1, Dqs.wcl ds r F2 y h2⟩
end
theorem Ow.wcl {m : Md} {d : D} {v : V} {F : List Addr} (e : cloF d = true) (h : Ow W H O m d v F) : Ow (W.wl q) H O m d v F := by
  cases m with
  | sh => exact ⟨h.1, Rp.wcl q d v e h.2⟩
  | dp => exact Dq.wcl q d v F e h
  | fl =>
    cases d with
    | lst ds =>
      obtain ⟨a, vs, e1, e2, h1, h2, h3⟩ := h
      exact ⟨a, vs, e1, e2, h1, h2, Rps.wcl q ds vs e h3⟩
    | dic ks => exact h
    | _ => exact ⟨h.1, Rp.wcl q _ v e h.2⟩
-- where no lambda is known, no tree tells one
mutual
theorem Rp.cloFr (hw : W.cl = none) : ∀ (d : D) (v : V), Rp W H O d v → cloF d = true
  | .non, v, _ => rfl
  | .bl _, v, _ => rfl
  | .int _, v, _ => rfl
  | .str _, v, _ => rfl
  | .fn _, v, _ => rfl
  | .exc _, v, h => rfl
  | .clo g cap, v, h => by
    obtain ⟨a, c, w, _, ⟨h, _⟩, _⟩ := h
    rw [hw] at h
    cases h
  | .tup ds, v, h => by
    obtain ⟨a, vs, e1, h1, h2, h3⟩ := h
    exact Rps.cloFr hw ds vs h3
  | .lst ds, v, h => by
    obtain ⟨a, vs, e1, h0, h1, h2, h3⟩ := h
    exact Rps.cloFr hw ds vs h3
  | .scr ns, v, _ => rfl
  | .dic ks, v, _ => rfl
  | .ins C f d, v, h => by
    obtain ⟨a, dx, fv, e1, h1, h3⟩ := h
    exact Rp.cloFr hw d fv h3
theorem Rps.cloFr (hw : W.cl = none) : ∀ (ds : List D) (vs : List V), Rps W H O ds vs → cloFs ds = true
  | [], vs, _ => rfl
  | d :: ds, vs, h => by
    obtain ⟨v, r, e1, h1, h2⟩ := h
    exact Bool.and_eq_true_iff.mpr ⟨Rp.cloFr hw d v h1, Rps.cloFr hw ds r h2⟩
end
theorem rq_noClo {E : XK} {r : M (Md × D)} {Q : VK} (h : rq W E H O (noClo r) Q) : rq (W.wl q) E H O r Q := by
  unfold noClo at h
  match r, h with
  | none, h => exact h.elim
  | some (.er C), h => exact h
  | some (.ok p), h =>
    have h : rq W E H O (if cloF p.2 = true then ok p else none) Q := h
    by_cases c : cloF p.2 = true
    · rw [if_pos c] at h
      intro v H' F s n nd ow
      exact h v H' F s n nd (Ow.wcl (W := W.wl q) W.cl c ow)
    · rw [if_neg c] at h
      exact h.elim
theorem HT.wl (h : HT W H) : HT (W.wl q) H := h
theorem HB.wl (h : HB W O H) : HB (W.wl q) O H := h
end
structure CAll (cw : CW) (h : Heap) (H : Hp) : Prop where
  all : ∀ y c, cw.cells.lookup y = some c → H c = none ∧ ∃ v, h.IsCell c v
  inj : ∀ x y c, cw.cells.lookup x = some c → cw.cells.lookup y = some c → x = y
  has : ∀ (i : Nat) (y : Str) (c : Addr) (v : V), cw.us[i]? = some y → cw.cells.lookup y = some c → cw.cv[i]? = some v → ∃ u, L2.RelV v u ∧ h.IsCell c (some u)
section
variable {X : Cx} {pins : List (Addr × Obj)} {σ : L2.St} {H : Hp} {s : Shared} {cw : CW}
theorem CAll.later (C : CAll cw X.s_0.heap X.H_0) (hx : X.ex = []) (I : Inv X pins σ H s) : CAll cw s.heap H := by
  have kp : ∀ {c : Addr} {v : Option Value}, X.H_0 c = none → X.s_0.heap.IsCell c v → s.heap.IsCell c v := fun {c v} n ⟨o, ho, hd⟩ => by
    obtain ⟨sl, q⟩ := I.base.any ho n (by rw [hx]; simp)
    exact ⟨_, q, hd⟩
  refine ⟨fun y c e => ?_, C.inj, fun i y c v e1 e2 e3 => ?_⟩
  · obtain ⟨n, v, z⟩ := C.all y c e
    refine ⟨?_, v, kp n z⟩
    obtain ⟨o, ho, _⟩ := z
    exact I.base.free c o ho n (by rw [hx]; simp)
  · obtain ⟨u, r, z⟩ := C.has i y c v e1 e2 e3
    exact ⟨u, r, kp (C.all y c e2).1 z⟩
theorem CAll.here (I : Inv X pins σ H s) (hc : cw.cells = X.env.cells) (hk : ∀ y ∈ cw.us, X.env.scope.names.lookup y = some .cell ∨ X.env.scope.names.lookup y = some .free)
    (hs : ∀ (i : Nat) (y : Str) (v : V), cw.us[i]? = some y → cw.cv[i]? = some v → ∃ j : Nat, X.N[j]? = some y ∧ σ[j]? = some (some v)) : CAll cw s.heap H := by
  refine ⟨fun y c e => ?_, fun x y c e1 e2 => ?_, fun i y c v e1 e2 e3 => ?_⟩
  · rw [hc] at e
    exact ⟨I.freeC y c e, I.cell y c e⟩
  · rw [hc] at e1 e2
    exact I.ok.inj x y c e1 e2
  · rw [hc] at e2
    obtain ⟨j, hj, hv⟩ := hs i y v e1 e3
    have k := hk y (List.mem_of_getElem? e1)
    obtain ⟨m, hn, hl⟩ := I.loc
    obtain ⟨u, r, l⟩ := hl j y v hj hv (k.elim (fun z => .inr (.inl z)) fun z => .inr (.inr z))
    rcases l with ⟨z, _⟩ | ⟨_, a', ha', hcell⟩
    · have z' : X.env.scope.names.lookup y = some .local := z
      rcases k with k | k <;> rw [k] at z' <;> cases z'
    · rw [e2] at ha'
      cases ha'
      exact ⟨u, r, hcell⟩
theorem inv_lam {g : Nat} {c : Addr} {o : Obj} {t' : Nat} {pm ctv : Value} (I : Inv X pins σ H s) (ho : o = PySem.W.kla_obj "<lambda>" cw.q (cw.lt g).params (cw.lt g).body (cw.lt g).scope (cloFrom cw.cells (cw.lt g).scope.names []) pm c ctv) :
    Inv X pins σ (L2.upd H s.heap.objs.size (LamO s.heap.objs.size cw g c)) { s with heap := s.heap.push o, toks := t' } := by
  subst ho
  refine I.laid (a := s.heap.objs.size) (fun b u e => Heap.get?_push_of_some _ e) (Nat.le_refl _) ?_
  have e : (s.heap.push (PySem.W.kla_obj "<lambda>" cw.q (cw.lt g).params (cw.lt g).body (cw.lt g).scope (cloFrom cw.cells (cw.lt g).scope.names []) pm c ctv)).get? s.heap.objs.size = some _ := Heap.get?_push_size _ rfl
  exact ⟨⟨pm, ctv, e⟩, ⟨_, e⟩, fun h1 h2 ⟨p, t, z⟩ st => ⟨p, t, st _ z⟩⟩
theorem lam_make3 {g : Nat} {c P : Addr} {params : Arguments} {body : Expr} {scope : Scope} {pos : Pos} {E : Value → Shared → Prop} {Q : Value → Shared → Prop} (I : Inv X pins σ H s) (TB : TabB X.base X.mg c P) (hcode : X.env.code = .ref c)
    (hm : (P, X.env.qual ++ "<lambda>") ∈ TabT.T) (hu : ∀ p ∈ TabT.T, p.1 = P → p.2 = X.env.qual ++ "<lambda>") (hT : Tabs TabT.T H) (hdef : defaultsOf params X.env = ([], [])) (hfree : ∀ y ∈ scope.names, y.2 = .free → ∃ c, X.env.cells.lookup y.1 = some c)
    (hc0 : cw.cells = X.env.cells) (hq : cw.q = X.env.qual ++ "<lambda>") (hl : cw.lt g = ⟨params, body, scope⟩)
    (h : ∀ (f c' : Addr) (H1 : Hp) (s' : Shared), Inv X pins σ H1 s' → Same H H1 → H1 f = some (LamO f cw g c') → H1 c' = some (CodeO c' cw.q) → Q (.ref f) s') :
    wpAny (model X.prog X.w) X.A (eval (.Lambda params body scope pos) X.env) Q E s := by
  obtain ⟨ps, hP, ht, ha⟩ := hT _ hm
  refine PySem.W.kla_eval hdef ?_
  have bP : s.heap.BuiltinsAt X.mg P := TB.bm.keeps I.bk
  have hP' : s.heap.get? P = some { cls := .none, data := .fields ps } := I.hok P _ hP
  have hob : ∀ (pm ctv : Value) (c' : Addr), PySem.W.kla_obj "<lambda>" (X.env.qual ++ "<lambda>") params body scope (cloFrom X.env.cells scope.names []) pm c' ctv = PySem.W.kla_obj "<lambda>" cw.q (cw.lt g).params (cw.lt g).body (cw.lt g).scope (cloFrom cw.cells (cw.lt g).scope.names []) pm c' ctv := fun pm ctv c' => by rw [hl, hq, hc0]
  cases hc : codeAmong pos ps.toList with
  | none =>
    refine PySem.W.kla_makeFunction (mg := X.mg) (c := c) (P := P) (ps := ps) (closure_ok hfree) I.ok.glob (I.mod.glob.keeps I.bk) hcode (TB.code.keeps I.bk) hP' ht hc TB.gP bP fun c' ctv h' tk hx hge hlt hrec htb => ?_
    obtain ⟨c2, oc, vs, t, e2, hoc, hd, hv⟩ := hrec
    cases e2
    have nC : H c' = none := I.hok.fresh hge
    have I1 := inv_table (t' := tk) (more := #[rawInt pos.line, rawInt pos.col, .ref c']) (h' := h') I hP (fun b o hb e => hx b o hb e) htb hge ⟨oc, vs, t, hoc, hd, hv⟩
    have hE : ExtN H (L2.upd (L2.upd H P (.tbl (ps ++ #[rawInt pos.line, rawInt pos.col, .ref c']))) c' (CodeO c' (X.env.qual ++ "<lambda>"))) := fun b o e n => by
      rw [upd_ne (ne_of_none e nC), upd_ne (fun z => n ps (Option.some.inj (e.symm.trans (by rw [z]; exact hP))))]
      exact e
    have eL : (ps ++ #[rawInt pos.line, rawInt pos.col, .ref c']).toList = ps.toList ++ [rawInt pos.line, rawInt pos.col, .ref c'] := by simp
    have T1 : Tabs TabT.T (L2.upd (L2.upd H P (.tbl (ps ++ #[rawInt pos.line, rawInt pos.col, .ref c']))) c' (CodeO c' (X.env.qual ++ "<lambda>"))) := fun p hp => by
      by_cases hb : p.1 = P
      · rw [hu p hp hb, hb]
        refine ⟨_, by rw [upd_ne (ne_of_none hP nC), upd_same], by rw [eL]; exact PySem.TriplesOk_snoc _ _ _ _ ht, fun p' cv hcv => ?_⟩
        rw [eL] at hcv
        rcases among_app _ ht hcv with z | z
        · obtain ⟨c0, e1, e2⟩ := ha p' cv z
          exact ⟨c0, e1, hE _ _ e2 codeO_ne⟩
        · exact ⟨c', z, upd_same⟩
      · obtain ⟨ps', a1, a2, a3⟩ := hT p hp
        refine ⟨ps', by rw [upd_ne (ne_of_none a1 nC), upd_ne hb]; exact a1, a2, fun p' cv hcv => ?_⟩
        obtain ⟨c0, e1, e2⟩ := a3 p' cv hcv
        exact ⟨c0, e1, hE _ _ e2 codeO_ne⟩
    have nF := I1.hok.fresh (Nat.le_refl _)
    have I2 := inv_lam (cw := cw) (g := g) (c := c') (t' := tk) (pm := (X.mg "__name__").getD .none) (ctv := ctv) I1 (hob _ _ _)
    refine h h'.objs.size c' _ _ I2 ⟨fun b o e n => ?_, fun p hp _ => (T1 p hp).ext fun b o e => ?_, fun b e => NdefX.upd_none (NdefX.upd_none (NdefX.upd_none e))⟩ upd_same ?_
    · have e1 := hE b o e n
      exact (upd_ne (ne_of_none e1 nF)).trans e1
    · exact (upd_ne (ne_of_none e nF)).trans e
    · rw [hq]
      exact (upd_ne (Nat.ne_of_lt hlt)).trans upd_same
  | some cv =>
    obtain ⟨c', e, hco⟩ := ha pos cv hc
    subst e
    refine PySem.W.kla_makeFunctionHit (mg := X.mg) (c := c) (P := P) (ps := ps) (closure_ok hfree) I.ok.glob (I.mod.glob.keeps I.bk) hcode (TB.code.keeps I.bk) hP' ht hc bP fun ctv h' tk hx hsz => ?_
    have I1 : Inv X pins σ H { s with heap := h', toks := tk } := I.kept hx
    have nF : H h'.objs.size = none := I1.hok.fresh (Nat.le_refl _)
    have I2 := inv_lam (cw := cw) (g := g) (c := c') (t' := tk) (pm := (X.mg "__name__").getD .none) (ctv := ctv) I1 (hob _ _ _)
    refine h h'.objs.size c' _ _ I2 ⟨fun b o e n => ?_, fun p hp t => t.ext fun b o e => ?_, fun b e => NdefX.upd_none e⟩ upd_same ?_
    · exact (upd_ne (ne_of_none e nF)).trans e
    · exact (upd_ne (ne_of_none e nF)).trans e
    · rw [hq]
      exact (upd_ne (ne_of_none hco nF)).trans hco
end
def freeB (sc scope : Scope) : Bool := scope.names.all fun y => !decide (y.2 = .free) || decide (sc.names.lookup y.1 = some .cell) || decide (sc.names.lookup y.1 = some .free)
theorem freeB_ok {X : Cx} {scope : Scope} (h : freeB X.env.scope scope = true) (ok : X.Ok) : ∀ y ∈ scope.names, y.2 = .free → ∃ c, X.env.cells.lookup y.1 = some c := fun y hy e => by
  unfold freeB at h
  simp only [Bool.or_eq_true, Bool.not_eq_true', decide_eq_true_eq, decide_eq_false_iff_not, List.all_eq_true] at h
  rcases h y hy with (z | z) | z
  · exact absurd e z
  · exact ok.has _ (.inl z)
  · exact ok.has _ (.inr z)
section
variable {X : Cx} {W : Wd} {E0 : XK} {T : Tb}
theorem c_lam {g : Nat} {c P : Addr} {cw : CW} {params : Arguments} {body : Expr} {scope : Scope} {pos : Pos} (hcl : W.cl = some cw) (hcv : cw.cv = []) (hg : g ∈ cw.gs) (TB : TabB X.base X.mg c P) (hcode : X.env.code = .ref c)
    (hm : (P, X.env.qual ++ "<lambda>") ∈ TabT.T) (hu : ∀ p ∈ TabT.T, p.1 = P → p.2 = X.env.qual ++ "<lambda>") (hc0 : cw.cells = X.env.cells) (hq : cw.q = X.env.qual ++ "<lambda>") (hl : cw.lt g = ⟨params, body, scope⟩) (hdef : defaultsOf params X.env = ([], []) := by rfl) (hfree : freeB X.env.scope scope = true := by decide +kernel) :
    PE X (.Lambda params body scope pos) (rdE W E0 T (.lam g)) := by
  refine ⟨fun pins s σ H Q I ⟨H0, O0, δ, Fs, S, q⟩ => ?_⟩
  simp only [ev, nm] at q
  refine lam_make3 I TB hcode hm hu S.tabs.1 hdef (freeB_ok hfree I.ok) hc0 hq hl fun f c' H1 s' I1 s1 h1 h2 => ?_
  have q : Res W H (av O0 Fs []) .sh (.clo g []) Q := q
  exact ⟨.ref f, H1, I1, rfl, q.share s1 ⟨f, c', cw, rfl, ⟨hcl, hg⟩, h1, h2, by rw [hcv]; exact rfl⟩⟩
end
def lspP (W0 : Wd) (n : Nat) (cv : List V) (f : List D → M (Md × D)) : Sp := fun vs H Q E => vs.length = n ∧ ∃ ds cap O, HB W0 O H ∧ Rps W0 H O ds vs ∧ Rps W0 H O cap cv ∧ rq W0 E H O (f (ds ++ cap)) Q
structure LOk (P : Program) (w : World) (mg : Str → Option Value) (base : Heap) (W0 : Wd) (T : Tb) (k : Nat) (LX : Nat → LT) (U : Nat → List Str) (g n : Nat) : Prop where
  run : ∀ (cw : CW) (a c : Addr) (A : Around) (outer : List Env) (s : Shared) (H : Hp) (us : List Value) (vs : List V) (Q : VK) (E : XK), cw.lt = LX → cw.us = U g → cw.cv.length = (U g).length → Room k A → Env0 P w W0.K mg base A outer s H → H a = some (LamO a cw g c) → H c = some (CodeO c cw.q) →
    CAll cw s.heap H → (∀ y ∈ (LX g).scope.names, y.2 = .free → ∃ c, cw.cells.lookup y.1 = some c) → Vals vs us → lspP W0 n cw.cv (T g) vs H Q E → codeAny (model P w) A (.call (.ref a) ⟨us, []⟩) (CR (L2N.CX P w) outer P w H s Q E) s
structure LScope (N ps us : List Str) (sc : Scope) : Prop where
  kind : sc.kind = .function
  co : sc.isCoroutine = false
  gen : sc.isGenerator = false
  nd : N.Nodup
  pre : N = ps ++ us
  par : ∀ x ∈ ps, sc.names.lookup x = some .local
  own : ∀ y ∈ sc.names, y.2 ≠ .cell
  usf : ∀ x ∈ us, sc.names.lookup x = some .free ∨ sc.names.lookup x = none
def lscB (N ps us : List Str) (sc : Scope) : Bool :=
  decide (sc.kind = .function) && !sc.isCoroutine && !sc.isGenerator && decide N.Nodup && decide (N = ps ++ us) && ps.all (fun x => decide (sc.names.lookup x = some .local)) && sc.names.all (fun y => !decide (y.2 = .cell)) && us.all (fun x => decide (sc.names.lookup x = some .free) || decide (sc.names.lookup x = none))
theorem lscope_by {N ps us : List Str} {sc : Scope} (h : lscB N ps us sc = true) : LScope N ps us sc := by
  unfold lscB at h
  simp only [Bool.and_eq_true, Bool.not_eq_true', decide_eq_true_eq, List.all_eq_true, Bool.or_eq_true, decide_eq_false_iff_not] at h
  obtain ⟨⟨⟨⟨⟨⟨⟨h1, h2⟩, h3⟩, h4⟩, h5⟩, h6⟩, h7⟩, h8⟩ := h
  exact ⟨h1, h2, h3, h4, h5, h6, h7, h8⟩
abbrev lamNF (cw : CW) (g : Nat) (LX : Nat → LT) (c : Addr) : NdefX.NF := ⟨"<lambda>", cw.q, (LX g).params, [], (LX g).scope, cloFrom cw.cells (LX g).scope.names [], c⟩
abbrev lcx (CX : CXT) (P : Program) (w : World) (K : PySem.W.Frag) (mg : Str → Option Value) (base : Heap) (N : List Str) (cw : CW) (g : Nat) (LX : Nat → LT) (c a : Addr) (A : Around) (outer : List Env) (s : Shared) (H : Hp) (E : XK) : Cx := NdefX.ncx CX P w K mg base N (lamNF cw g LX c) a A outer s H E
section
variable {CX : CXT} {P : Program} {w : World} {K : PySem.W.Frag} {mg : Str → Option Value} {base : Heap} {N ps us : List Str} {LX : Nat → LT} {cw : CW} {g : Nat} {a c : Addr} {A : Around} {outer : List Env} {s : Shared} {H : Hp} {E : XK} {xs : List Value} {vs : List V}
theorem inv_startL {h₁ : Heap} {tk : Nat} (S : LScope N ps us (LX g).scope) (hus : cw.us = us) (hcv : cw.cv.length = us.length) (hd : A.handled = none) (e0 : Env0 P w K mg base A outer s H) (hl : vs.length = ps.length) (r : Vals vs xs) (C : CAll cw s.heap H) (hfr : ∀ y ∈ (LX g).scope.names, y.2 = .free → ∃ c, cw.cells.lookup y.1 = some c)
    (hns : h₁.Ns s.heap.objs.size fun y => (ps.zip xs).reverse.lookup y) (kp : ∀ b o, s.heap.get? b = some o → h₁.get? b = some o) : Inv (lcx CX P w K mg base N cw g LX c a A outer s H E) [] (L2.start N (vs ++ cw.cv)) H { s with heap := h₁, toks := tk } := by
  have noA : ∀ b : Addr, b ∉ (lcx CX P w K mg base N cw g LX c a A outer s H E).ex := fun b z => absurd (show b ∈ ([] : List Addr) from z) (by simp)
  have cellK : ∀ {c : Addr} {v : Option Value}, s.heap.IsCell c v → h₁.IsCell c v := fun {c v} ⟨o, ho, hd⟩ => ⟨o, kp _ _ ho, hd⟩
  have cm : ∀ {y c}, (cloFrom cw.cells (LX g).scope.names []).lookup y = some c → cw.cells.lookup y = some c := fun e => NdefX.clo_cm hfr e
  have hNl : N.length = ps.length + us.length := by rw [S.pre, List.length_append]
  have hst : L2.start N (vs ++ cw.cv) = (vs ++ cw.cv).map some := by
    unfold L2.start
    rw [show N.length - (vs ++ cw.cv).length = 0 by rw [List.length_append]; omega]
    simp
  refine ⟨⟨e0.mod, S.kind, rfl, rfl, Nat.le_refl _, fun x y c e1 e2 => C.inj x y c (cm e1) (cm e2), fun y hy => ?_, fun y c z _ => ?_, fun _ => hd, Around.frames_deeper e0.frames, .inr ⟨rfl, rfl⟩, fun b z => absurd z (noA b), e0.bs, e0.bsz, fun b _ _ => noA b,
      fun b z => absurd z (noA b), e0.funs, e0.frf⟩,
    rfl, e0.bare, Un.kept kp, ⟨_, hns, fun i y v e1 e2 e3 => ?_⟩, fun y c e => ?_, e0.hok.fresh (Nat.le_refl _), fun y c e => (C.all y c (cm e)).1, fun q hq => absurd (show q ∈ ([] : List (Addr × Obj)) ++ [] from hq) (by simp), e0.hok.kept kp, ?_⟩
  · have hy : (LX g).scope.names.lookup y = some .cell ∨ (LX g).scope.names.lookup y = some .free := hy
    rcases hy with hy | hy
    · exact absurd rfl (S.own _ (PySem.mem_of_lookup hy))
    · exact mem_lookup (cloFrom_has (cells := cw.cells) (acc := []) (PySem.mem_of_lookup hy))
  · have z : false = true := z
    cases z
  · have e1 : N[i]? = some y := e1
    rw [hst, List.getElem?_map] at e2
    have e3 : Vis (LX g).scope y := e3
    by_cases h1 : i < ps.length
    · have hq : ps[i]? = some y := by
        rw [S.pre, List.getElem?_append_left h1] at e1
        exact e1
      rw [List.getElem?_append_left (by omega)] at e2
      have ha : vs[i]? = some v := by
        cases e : vs[i]? with
        | none => rw [e] at e2; cases e2
        | some a => rw [e] at e2; cases e2; rfl
      obtain ⟨u, hu, rv⟩ := r.get ha
      have ndP : ps.Nodup := by
        have q := S.nd
        rw [S.pre] at q
        exact (List.nodup_append.mp q).1
      exact ⟨u, rv, .inl ⟨S.par y (List.mem_of_getElem? hq), NdefX.zip_look ndP hq hu⟩⟩
    · have hq : us[i - ps.length]? = some y := by
        rw [S.pre, List.getElem?_append_right (by omega)] at e1
        exact e1
      rw [List.getElem?_append_right (by omega), hl] at e2
      have hv : cw.cv[i - ps.length]? = some v := by
        cases e : cw.cv[i - ps.length]? with
        | none => rw [e] at e2; cases e2
        | some a => rw [e] at e2; cases e2; rfl
      have hy : (LX g).scope.names.lookup y = some .free := by
        rcases S.usf y (List.mem_of_getElem? hq) with z | z
        · exact z
        · rcases e3 with k | k | k <;> rw [z] at k <;> cases k
      obtain ⟨c2, h2⟩ := mem_lookup (cloFrom_has (cells := cw.cells) (acc := []) (PySem.mem_of_lookup hy))
      obtain ⟨u, ru, hu⟩ := C.has _ y c2 v (by rw [hus]; exact hq) (cm h2) hv
      exact ⟨u, ru, .inr ⟨.inr hy, c2, h2, cellK hu⟩⟩
  · obtain ⟨v, z⟩ := (C.all y c (cm e)).2
    exact ⟨v, cellK z⟩
  · show _ = N.length
    rw [hst, List.length_map, List.length_append]
    omega
end
theorem lok_of {P : Program} {w : World} {mg : Str → Option Value} {base : Heap} {W0 : Wd} {PR : List Fun} {k r g : Nat} {LX : Nat → LT} {U : Nat → List Str} {N ps : List Str} {ce : E} {params : Arguments} {body : Expr} {scope : Scope}
    (hl : LX g = ⟨params, body, scope⟩) (S : LScope N ps (U g) scope) (hP : PR[g]? = some ⟨N.length, N.length, [.ret ce]⟩) (hev : ∀ (F : Tb) (δ : Dn), evr F ce δ = ev F ce δ)
    (hb : ∀ (q : Str) (cl : List (Str × Addr)) (pm cv ctv : Value) (us : List Value), us.length = ps.length → bindArgs (PySem.W.kla_fn "<lambda>" q params body scope cl pm cv ctv) ⟨us, []⟩ = pure (ps.zip us))
    (hbody : ∀ (cw : CW) (c a : Addr) (A : Around) (outer : List Env) (s : Shared) (H : Hp) (E : XK), Room r (A.deeper (NdefX.envF (lamNF cw g LX c) a s.heap.objs.size)) → PE (lcx (L2N.CX P w) P w W0.K mg base N cw g LX c a A outer s H E) body (rdE W0 E (run PR k) ce)) :
    LOk P w mg base W0 (run PR (k + 1)) (r + 1) LX U g ps.length := by
  refine ⟨fun cw a c A outer s H us vs Q E e1 e2 e3 hr e0 ha hc C hfr rv h => ?_⟩
  obtain ⟨hn, ds, cap, O, hO, hrp, hrc, hq⟩ := h
  have hS : LScope N ps (U g) (LX g).scope := by rw [hl]; exact S
  have lim : s.heap.NoLimit := e0.mod.nolimit.keeps fun b o e => (e0.bs b o e).1
  obtain ⟨⟨pm, ctv, of1⟩, _, _⟩ := e0.hok a _ ha
  obtain ⟨⟨oc, vs', t, hoc, hdc, hvc⟩, _, _⟩ := e0.hok c _ hc
  rw [e1] at of1
  refine PySem.W.kla_callFunE hr.depth of1 rfl hS.co hS.gen rfl ⟨c, oc, vs', t, rfl, hoc, hdc, hvc⟩ ?_
  rw [show bindArgs (PySem.W.kla_fn "<lambda>" cw.q (LX g).params (LX g).body (LX g).scope (cloFrom cw.cells (LX g).scope.names []) pm (.ref c) ctv) ⟨us, []⟩ = pure (ps.zip us) from by rw [hl]; exact hb _ _ _ _ _ us (by rw [← rv.length]; exact hn)]
  refine wpAny_pure (wpAny_newFunctionEnv hS.own (fun ⟨n, _⟩ hy => hS.par n (List.of_mem_zip hy).1) (fun h₁ hns hsb => ⟨lim.fresh _ hsb, ?_⟩) hS.kind)
  show codeAny _ _ (.expr (LX g).body (NdefX.envF (lamNF cw g LX c) a s.heap.objs.size)) _ _
  have kp : ∀ b o, s.heap.get? b = some o → h₁.get? b = some o := fun b o e => hsb.extBut b o (Nat.ne_of_lt (Heap.lt_size e)) (Heap.get?_push_of_some _ e)
  have J : Inv (lcx (L2N.CX P w) P w W0.K mg base N cw g LX c a A outer s H E) [] (L2.start N (vs ++ cw.cv)) H { s with heap := h₁, toks := s.toks + (ps.zip us).length } := inv_startL hS e2 e3 hr.hd e0 hn rv C hfr hns kp
  have hbd := hbody cw c a A outer s H E (hr.deeper _)
  rw [show body = (LX g).body by rw [hl]] at hbd
  have hrs : Rps W0 H O (ds ++ cap) (vs ++ cw.cv) := by
    clear hq
    have : ∀ (ds : List D) (vs : List V), Rps W0 H O ds vs → Rps W0 H O (ds ++ cap) (vs ++ cw.cv) := by
      intro ds
      induction ds with
      | nil => intro vs h; rw [show vs = [] from h]; exact hrc
      | cons d r ih =>
        intro vs h
        obtain ⟨v, r', rfl, h1, h2⟩ := h
        exact ⟨v, r' ++ cw.cv, rfl, h1, ih r' h2⟩
    exact this ds vs hrp
  have hlen : (ds ++ cap).length = N.length := by
    rw [← Rps.length _ _ hrs, List.length_append, hn, e3, S.pre, List.length_append]
  have SS0 := ss_start (N := N) hO hrs (np := N.length) (nv := N.length) hlen rfl (Nat.le_refl _)
  have e : run PR (k + 1) g (ds ++ cap) = callF (run PR k) ⟨N.length, N.length, [.ret ce]⟩ (ds ++ cap) := by
    show (match PR[g]? with | some F => callF (run PR k) F (ds ++ cap) | none => none) = _
    rw [hP]
  rw [e] at hq
  unfold callF at hq
  rw [if_pos hlen] at hq
  simp only [exs, ex, hev] at hq
  refine PySem.W.kla_codeExpr (wpAny_mono (hbd.run [] _ _ H Q J ⟨H, O, _, _, SS0, ?_⟩) (fun v s' hs => ?_) fun e s' hs => hs)
  · have hav : ∀ b, av O (List.replicate N.length []) (nm ce) b → O b := fun b z => by
      rcases z with z | ⟨i, _, z⟩
      · exact z
      · rw [List.getD_eq_getElem?_getD, List.getElem?_replicate] at z
        split at z <;> cases z
    have hav2 : ∀ b, O b → av O (List.replicate N.length []) (nm ce) b := fun b z => .inl z
    revert hq
    cases ev (run PR k) ce (start0 N.length N.length (ds ++ cap)) with
    | none => exact fun z => z.elim
    | some x =>
      cases x with
      | er C => exact fun z => z
      | ok p => exact fun z => Res.wk (W := W0) (show Res W0 H O p.1 p.2 Q from z) hav2
  · obtain ⟨w', H', J', rv', q⟩ := hs
    exact ⟨w', H', J'.os, J'.bare, J'.base, J'.hok, rv', q⟩
end TW

set_option Elab.async false
set_option linter.all false
set_option maxRecDepth 100000
set_option maxHeartbeats 4000000
namespace TW
open PySem PySem.Spec PyProof.Rows L2 LamX
variable [TabT]
structure CtxC (X : Cx) (cw : CW) (LX : Nat → LT) (U : Nat → List Str) : Prop where
  lt : cw.lt = LX
  us : ∀ g ∈ cw.gs, cw.us = U g
  len : cw.cv.length = cw.us.length
  fr : ∀ g ∈ cw.gs, ∀ y ∈ (LX g).scope.names, y.2 = .free → ∃ c, cw.cells.lookup y.1 = some c
  all : CAll cw X.s_0.heap X.H_0
  ex : X.ex = []
theorem CtxC.tr {X : Cx} {cw : CW} {LX : Nat → LT} {U : Nat → List Str} (h : CtxC X cw LX U) (pn : List (Addr × Obj)) (xe : Value → Shared → Prop) : CtxC (X.tr pn xe) cw LX U := ⟨h.lt, h.us, h.len, h.fr, h.all, h.ex⟩
section
variable {X : Cx} {W0 : Wd} {E0 : XK} {T : Tb} {cw : CW} {LX : Nat → LT} {U : Nat → List Str}
theorem clc_run {EE : XK} {k n g : Nat} {pins : List (Addr × Obj)} {σ : L2.St} {H : Hp} {s : Shared} {Q : VK} {a c : Addr} {us : List Value} {vs : List V} (hK : X.K = W0.K) (C : CtxC X cw LX U) (hg : g ∈ cw.gs) (L : LOk X.prog X.w X.mg X.base W0 T k LX U g n) (rm : Room k X.A) (hx : PassesAt (L2N.CX X.prog X.w) X σ EE)
    (I : Inv X pins σ H s) (ha : H a = some (LamO a cw g c)) (hc : H c = some (CodeO c cw.q)) (r : Vals vs us) (q : lspP W0 n cw.cv (T g) vs H Q EE) : wpAny (model X.prog X.w) X.A (call (.ref a) us) (EP X pins σ Q) X.xe s := by
  have e0 := I.env0
  rw [hK] at e0
  refine wpAny_call (codeAny_mono (L.run cw a c X.A X.stack s H us vs Q EE C.lt (C.us g hg) (by rw [← C.us g hg]; exact C.len) rm e0 ha hc (C.all.later C.ex I) (C.fr g hg) r q) fun r s' hq => ?_)
  cases r with
  | error e => exact hx pins H s e s' I hq
  | ok fl =>
    cases fl with
    | ret u => exact I.after hq
    | next => exact False.elim hq
    | brk => exact False.elim hq
    | cont => exact False.elim hq
theorem lam_fnAt {pins : List (Addr × Obj)} {σ : L2.St} {H : Hp} {s : Shared} {a c : Addr} {g : Nat} (I : Inv X pins σ H s) (ha : H a = some (LamO a cw g c)) : PySem.W.FnAt a s.heap := by
  obtain ⟨⟨pm, ctv, z⟩, _, _⟩ := I.hok a _ ha
  exact ⟨_, _, _, _, z⟩
def tClc (W0 : Wd) (cw : CW) (T : Tb) (EE : L2.St → XK) (gs : List Nat) (i n : Nat) (t : TA) : TE := fun σ H Q => ∃ a c g, σ[i]? = some (some (.ref a)) ∧ H a = some (LamO a cw g c) ∧ H c = some (CodeO c cw.q) ∧ g ∈ cw.gs ∧ gs.contains g = true ∧
  t σ H fun vs H1 => H1 a = some (LamO a cw g c) ∧ H1 c = some (CodeO c cw.q) ∧ lspP W0 n cw.cv (T g) vs H1 Q (EE σ)
theorem pe_clc0 {EE : L2.St → XK} {k i : Nat} {gs : List Nat} {x : Str} {p pos : Pos} (hK : X.K = W0.K) (C : CtxC X cw LX U) (L : ∀ g, gs.contains g = true → LOk X.prog X.w X.mg X.base W0 T k LX U g 0) (rm : Room k X.A) (hx : ∀ σ, PassesAt (L2N.CX X.prog X.w) X σ (EE σ))
    (hN : X.N[i]? = some x) (hv : Vis X.env.scope x) (hdb : (x == ("__debug__" : Str)) = false) (hcd : (x == ("__classdict__" : Str)) = false) : PE X (.Call (.Name x p) [] [] pos) (tClc W0 cw T EE gs i 0 tNil) := by
  refine ⟨fun pins s σ H Q I h => ?_⟩
  obtain ⟨a, c, g, hs, ha, hc, hg, hgs, h1, h2, q⟩ := h
  refine wpAny_Call_Name_kw (thn ((pe_var (pos := p) hN hv hdb hcd).run pins s σ H (fun v H1 => v = .ref a ∧ H1 = H) I ⟨.ref a, hs, rfl, rfl⟩) fun u s1 ⟨v, H1, I1, r1, q1⟩ => ?_)
  obtain ⟨ev, eH⟩ := q1
  subst ev
  rw [eH] at I1
  obtain rfl : u = Value.ref a := r1
  refine PySem.W.callWith_F0 (first := []) (lam_fnAt I1 ha) ?_
  show wpAny _ _ (call (.ref a) []) _ _ _
  exact clc_run hK C hg (L g hgs) rm (hx σ) I1 h1 h2 .nil q
theorem clc_imp {EE : L2.St → XK} {gs : List Nat} {i n : Nat} {cs : List E} (hn : cs.length = n) : ∀ σ H Q, rdE (W0.wl (some cw)) (EE σ) T (.clc gs i cs) σ H Q → tClc W0 cw T EE gs i n (fun σ H R => rdA (W0.wl (some cw)) (EE σ) T cs σ H R) σ H Q := by
  intro σ H Q ⟨H0, O0, δ, Fs, S, q⟩
  simp only [ev, nm] at q
  cases ei : δ[i]? with
  | none => rw [ei] at q; exact q.elim
  | some o =>
    cases o with
    | none => rw [ei] at q; exact q.elim
    | some pr =>
      rw [ei] at q
      obtain ⟨m, d⟩ := pr
      obtain ⟨v, hv1, hv2⟩ := S.var (T := i :: nms cs) ei (by simp)
      cases d with
      | clo g cap =>
        obtain ⟨a, c, w, rfl, ⟨hw, hg⟩, h1, h2, h3⟩ := hv2
        cases hw
        have q : rq (W0.wl (some cw)) (EE σ) H (av O0 Fs (i :: nms cs)) (if gs.contains g && cloFs cap then bnd (evs T cs δ) fun ps => if cloFs (ps.map Prod.snd) then noClo (T g (ps.map Prod.snd ++ cap)) else none else none) Q := q
        by_cases hgc : (gs.contains g && cloFs cap) = true
        case neg => rw [if_neg hgc] at q; exact q.elim
        rw [if_pos hgc] at q
        obtain ⟨hgs, hcap⟩ := Bool.and_eq_true_iff.mp hgc
        refine ⟨a, c, g, hv1, h1, h2, hg, hgs, H0, O0, δ, Fs, S, ?_⟩
        refine rqs_bnd2 (G := fun z => rq (W0.wl (some cw)) (EE σ) H (av O0 Fs (i :: nms cs)) z Q) rq_none (fun C h => h) q fun qs e q vs H1 Fs1 s1 n1 nd1 ow1 => ?_
        by_cases hds : cloFs (qs.map Prod.snd) = true
        case neg => rw [if_neg hds] at q; exact q.elim
        rw [if_pos hds] at q
        refine ⟨s1.at h1 lamO_ne, s1.at h2 codeO_ne, by rw [ow1.length, evs_len e, hn], qs.map Prod.snd, cap, av O0 Fs (i :: nms cs), (S.grow s1).av_hb, ?_, ?_, ?_⟩
        · have hr : Rps (W0.wl (some cw)) H1 (av O0 Fs (i :: nms cs)) (qs.map Prod.snd) vs := ow1.rps (fun b z => .inl (av_mono (fun j hj => List.mem_cons_of_mem _ hj) b z)) (fun b hb z => S.av_there b z (n1 b hb))
          exact Rps.wcl (W := W0.wl (some cw)) W0.cl _ _ hds hr
        · exact Rps.wcl (W := W0.wl (some cw)) W0.cl _ _ hcap (Rps.mono s1 (fun _ z => z) _ _ h3)
        · exact rq_noClo (W := W0.wl (some cw)) W0.cl (rq.mono q s1)
      | _ => exact q.elim
theorem c_clcS0 {EE : L2.St → XK} {k i : Nat} {gs : List Nat} {x : Str} {p pos : Pos} (hK : X.K = W0.K) (C : CtxC X cw LX U) (L : ∀ g, gs.contains g = true → LOk X.prog X.w X.mg X.base W0 T k LX U g 0) (rm : Room k X.A) (hx : ∀ σ, PassesAt (L2N.CX X.prog X.w) X σ (EE σ))
    (hN : X.N[i]? = some x) (hv : Vis X.env.scope x) (hdb : (x == ("__debug__" : Str)) = false) (hcd : (x == ("__classdict__" : Str)) = false) :
    PE X (.Call (.Name x p) [] [] pos) (fun σ H Q => rdE (W0.wl (some cw)) (EE σ) T (.clc gs i []) σ H Q) := by
  refine (pe_clc0 (cw := cw) (gs := gs) (EE := EE) (T := T) hK C L rm hx hN hv hdb hcd).imp fun σ H Q h => ?_
  obtain ⟨a, c, g, h1, h2, h3, h4, h5, h6⟩ := clc_imp (cs := []) rfl σ H Q h
  refine ⟨a, c, g, h1, h2, h3, h4, h5, ?_⟩
  obtain ⟨H0, O0, δ, Fs, S, q⟩ := h6
  simp only [evs] at q
  exact q [] H [] (Same.refl H) (fun _ z => by cases z) List.nodup_nil ⟨rfl, rfl⟩
end
structure FnC (P : Program) (w : World) (mg : Str → Option Value) (base : Heap) (W0 : Wd) (T : Tb) (k : Nat) (LX : Nat → LT) (U : Nat → List Str) (x : Str) (f : Nat) (ps : List Str) : Prop where
  ex : ∃ fd, (∀ (cw : CW) (A : Around) (outer : List Env) (s : Shared) (H : Hp) (ar : Args) (us : List Value) (vs : List V) (Q : VK) (E : XK), cw.lt = LX → (∀ g ∈ cw.gs, cw.us = U g) → cw.cv.length = cw.us.length → (∀ g ∈ cw.gs, ∀ y ∈ (LX g).scope.names, y.2 = .free → ∃ c, cw.cells.lookup y.1 = some c) → CAll cw s.heap H →
      Room k A → Env0 P w W0.K mg base A outer s H → BindsTo s fd ar (ps.zip us) → Vals vs us → spP (W0.wl (some cw)) ps.length (T f) vs H Q E → codeAny (model P w) A (.call (.ref (W0.fa f)) ar) (CR (L2N.CX P w) outer P w H s Q E) s) ∧ Binds W0.K fd ps []
  mg : mg x = some (.ref (W0.fa f))
  kp : PySem.W.keepIn W0.K (.ref (W0.fa f)) = true
section
variable {P : Program} {w : World} {mg : Str → Option Value} {base : Heap} {W0 : Wd} {PR : List Fun} {LX : Nat → LT} {U : Nat → List Str}
theorem fnC_run {k r i : Nat} {x qual : Str} {params : Arguments} {body : List Stmt} {scope : Scope} {fd : FuncData} {N ps : List Str} {fu : Fun} {f : Addr} 
    (F : FunD W0.K x qual params body scope [] [] f fd) (S : FnScope N ps scope) (hP : PR[i]? = some fu) (hnp : fu.np = ps.length) (hnv : fu.nv = N.length) (hle : ps.length ≤ N.length)
    (hb : ∀ (cw : CW) (cdv : Value) (A : Around) (outer : List Env) (s : Shared) (H : Hp) (E : XK), CtxC (cxOf (L2N.CX P w) P w W0.K mg base N qual scope f cdv A outer s H E) cw LX U → Room r (A.deeper (envOfC qual scope s.heap.objs.size f cdv)) →
      PSs (cxOf (L2N.CX P w) P w W0.K mg base N qual scope f cdv A outer s H E) body (rdSs (W0.wl (some cw)) E (run PR k) fu.body)) :
    ∀ (cw : CW) (A : Around) (outer : List Env) (s : Shared) (H : Hp) (ar : Args) (us : List Value) (vs : List V) (Q : VK) (E : XK), cw.lt = LX → (∀ g ∈ cw.gs, cw.us = U g) → cw.cv.length = cw.us.length → (∀ g ∈ cw.gs, ∀ y ∈ (LX g).scope.names, y.2 = .free → ∃ c, cw.cells.lookup y.1 = some c) → CAll cw s.heap H →
      Room (r + 1) A → Env0 P w W0.K mg base A outer s H → BindsTo s fd ar (ps.zip us) → Vals vs us → spP (W0.wl (some cw)) ps.length (run PR (k + 1) i) vs H Q E → codeAny (model P w) A (.call (.ref f) ar) (CR (L2N.CX P w) outer P w H s Q E) s := by
  intro cw A outer s H ar us vs Q E e1 e2 e3 e4 C hr e0 bnd rv h
  obtain ⟨oc, od, dV, kV, doc, pm, an, cdv, ct, osl, rfl, lk, hcd, _, _⟩ := F.ex
  obtain ⟨hl, ds, O, hO, hrp, hq⟩ := h
  refine run_ofS (N := N) (ps := ps) lk hcd S hr e0 bnd rv hl fun hr' => ⟨_, hb cw cdv A outer s H E ⟨e1, e2, e3, e4, C, rfl⟩ hr', ?_⟩
  have hld : ds.length = ps.length := by rw [← Rps.length _ _ hrp, hl]
  refine ⟨H, O, start0 fu.np fu.nv ds, List.replicate fu.nv [], ss_start hO hrp (by rw [hld, hnp]) hnv.symm (by rw [hnp, hnv]; exact hle), ?_⟩
  have e : run PR (k + 1) i ds = callF (run PR k) fu ds := by
    show (match PR[i]? with | some F => callF (run PR k) F ds | none => none) = _
    rw [hP]
  rw [e] at hq
  unfold callF at hq
  rw [if_pos (by rw [hld, hnp])] at hq
  revert hq
  cases exs (run PR k) fu.body (start0 fu.np fu.nv ds) with
  | none => exact fun h => h
  | some r =>
    cases r with
    | er C => exact fun h => h
    | ok fl =>
      cases fl with
      | rt m d => exact fun h v H' F s n nd ow => h v H' F s n nd ow
      | nx δ' => exact fun h σ' H' Fs' S' _ => h .non H' [] S'.same (fun _ z => by cases z) List.nodup_nil ⟨rfl, rfl⟩
end
section
variable {X : Cx} {W0 : Wd} {E0 : XK} {T : Tb} {cw : CW} {LX : Nat → LT} {U : Nat → List Str}
theorem cap_vals {W : Wd} {H0 H : Hp} {O0 : Addr → Prop} {σ : L2.St} {δ : Dn} {Fs : List (List Addr)} (S : SS W H0 O0 H σ δ Fs) {L : List Nat} : ∀ (js : List Nat) (cs : List D), (∀ j ∈ js, j ∈ L) → capD js δ = some cs → ∃ ws : List V, ws.length = js.length ∧ Rps W H (av O0 Fs L) cs ws ∧ ∀ (i j : Nat) (v : V), js[i]? = some j → ws[i]? = some v → σ[j]? = some (some v)
  | [], cs, _, h => by
    cases h
    exact ⟨[], rfl, rfl, fun i j v e1 e2 => by simp at e1⟩
  | j :: js, cs, hL, h => by
    simp only [capD] at h
    cases ej : δ[j]? with
    | none => rw [ej] at h; cases h
    | some o =>
      rw [ej] at h
      cases o with
      | none => cases h
      | some p =>
        simp only at h
        cases ec : capD js δ with
        | none => rw [ec] at h; cases h
        | some cs' =>
          rw [ec] at h
          cases h
          obtain ⟨ws, l1, l2, l3⟩ := cap_vals S js cs' (fun j hj => hL j (List.mem_cons_of_mem _ hj)) ec
          obtain ⟨v, h1, h2⟩ := S.var ej (T := L) (hL j List.mem_cons_self)
          refine ⟨v :: ws, by rw [List.length_cons, List.length_cons, l1], ⟨v, ws, rfl, h2, l2⟩, fun i j' v' e1 e2 => ?_⟩
          cases i with
          | zero =>
            simp at e1 e2
            subst e1 e2
            exact h1
          | succ i => exact l3 i j' v' (by simpa using e1) (by simpa using e2)
theorem c_ccl {k f : Nat} {x : Str} {ps us : List Str} {gs js : List Nat} {p pos : Pos} {e : Expr} {es : List Expr} {cs : List E} (hK : X.K = W0.K) (F : FnC X.prog X.w X.mg X.base W0 T k LX U x f ps) (hr : Room k X.A) (hg : Gl X x) (hx : Passes (L2N.CX X.prog X.w) X E0)
    (hlt : cw.lt = LX) (hc0 : cw.cells = X.env.cells) (hU : ∀ g ∈ gs, U g = us) (hfr : ∀ g ∈ gs, freeB X.env.scope (LX g).scope = true) (hjs : js.map (fun j => X.N[j]?) = us.map some) (hk : ∀ y ∈ us, X.env.scope.names.lookup y = some .cell ∨ X.env.scope.names.lookup y = some .free)
    (ha : PA X (e :: es) (rdA (W0.wl (some cw)) E0 T cs)) (hl : cs.length = ps.length := by rfl) (hdb : (x == ("__debug__" : Str)) = false := by decide) (he : starEach (e :: es) X.env = (false, eval e X.env) :: starEach es X.env := by rfl)
    (hpl : (backTo pos (starEach es X.env)).any (·.1) = false := by rfl) : PE X (.Call (.Name x p) (e :: es) [] pos) (rdE (W0.wl (some cw)) E0 T (.ccl f gs js cs)) := by
  obtain ⟨fd, F1, F2⟩ := F.ex
  refine ⟨fun pins s σ H Q I ⟨H0, O0, δ, Fs, S, q⟩ => ?_⟩
  simp only [ev, nm] at q
  have pa : rdA (W0.wl (some cw)) E0 T cs σ H fun vs H1 => ∃ cw1 : CW, cw1.lt = LX ∧ cw1.cells = X.env.cells ∧ cw1.us = us ∧ cw1.gs = gs ∧ (∀ (i : Nat) (y : Str) (v : V), us[i]? = some y → cw1.cv[i]? = some v → ∃ j : Nat, X.N[j]? = some y ∧ σ[j]? = some (some v)) ∧ cw1.cv.length = us.length ∧ spP (W0.wl (some cw1)) ps.length (T f) vs H1 Q E0 := by
    refine ⟨H0, O0, δ, Fs, S, rqs_bnd2 (G := fun z => rq (W0.wl (some cw)) E0 H (av O0 Fs (js ++ nms cs)) z Q) rq_none (fun C h => h) q fun qs eq q vs H1 Fs1 s1 n1 nd1 ow1 => ?_⟩
    have hrs : Rps (W0.wl (some cw)) H1 (av O0 Fs (js ++ nms cs)) (qs.map Prod.snd) vs := ow1.rps (fun b z => .inl (av_mono (fun j hj => List.mem_append_right _ hj) b z)) (fun b hb z => S.av_there b z (n1 b hb))
    have hlen : vs.length = ps.length := by rw [ow1.length, evs_len eq, hl]
    revert q
    cases hd : qs.map Prod.snd with
    | nil => exact fun q => q.elim
    | cons d ds =>
      rw [hd] at hrs
      cases hcd : capD js δ with
      | none =>
        intro q
        exfalso
        revert q
        cases d with
        | clo g cap => cases cap <;> exact fun q => q
        | _ => exact fun q => q
      | some cap1 =>
        obtain ⟨v0, vs', rfl, hv0, hvs⟩ := hrs
        cases d with
        | clo g cap =>
          cases cap with
          | cons _ _ => exact fun q => q.elim
          | nil =>
            intro q
            have q : rq (W0.wl (some cw)) E0 H (av O0 Fs (js ++ nms cs)) (if gs.contains g && cloFs ds && cloFs cap1 then noClo (T f (.clo g cap1 :: ds)) else none) Q := q
            by_cases hgc : (gs.contains g && cloFs ds && cloFs cap1) = true
            case neg => rw [if_neg hgc] at q; exact q.elim
            rw [if_pos hgc] at q
            obtain ⟨hgc1, hcap⟩ := Bool.and_eq_true_iff.mp hgc
            obtain ⟨hgs, hds⟩ := Bool.and_eq_true_iff.mp hgc1
            obtain ⟨ws, l1, l2, l3⟩ := cap_vals S js cap1 (fun j hj => List.mem_append_left (nms cs) hj) hcd
            obtain ⟨a, c, w, rfl, ⟨hw, _⟩, h1, h2, _⟩ := hv0
            cases hw
            have hgm : g ∈ gs := List.contains_iff_mem.mp hgs
            have hju : js.length = us.length := by
              have := congrArg List.length hjs
              simpa using this
            refine ⟨{ cw with gs := gs, us := us, cv := ws }, hlt, hc0, rfl, rfl, fun i y v e1 e2 => ?_, by show ws.length = _; rw [l1, hju], hlen, .clo g cap1 :: ds, av O0 Fs (js ++ nms cs), (S.grow s1).av_hb, ⟨_, vs', rfl, ⟨a, c, { cw with gs := gs, us := us, cv := ws }, rfl, ⟨rfl, hgm⟩, h1, h2, ?_⟩, ?_⟩, ?_⟩
            · have e3 : (js.map fun j => X.N[j]?)[i]? = some (some y) := by
                rw [hjs, List.getElem?_map, e1] <;> rfl
              rw [List.getElem?_map] at e3
              cases ej : js[i]? with
              | none => rw [ej] at e3; cases e3
              | some j =>
                rw [ej] at e3
                exact ⟨j, Option.some.inj (show some (X.N[j]?) = some (some y) from e3), l3 i j v ej e2⟩
            · exact Rps.mono s1 (fun _ z => z) _ _ (Rps.wcl (W := W0.wl (some cw)) _ _ _ hcap l2)
            · exact Rps.wcl (W := W0.wl (some cw)) _ _ _ hds hvs
            · exact rq_noClo (W := W0.wl (some cw)) _ (rq.mono q s1)
        | _ => exact fun q => q.elim
  refine wpAny_Call_Name_kw (ld_glob I hg F.mg ?_ hdb)
  refine PySem.W.callWith_K (h₀ := X.base) I.ok.mod.kin (by rw [hK]; exact F.kp) (thn (ha.run pos pins s σ _ _ I pa) fun vu s2 hu => ?_) he hpl
  obtain ⟨vs, H2, I2, r, cw1, c1, c2, c3, c4, c5, c6, q2⟩ := hu
  refine ⟨I2.kIn, ?_⟩
  have e0 := I2.env0
  rw [hK] at e0
  have kin : W0.K.In s2.heap := by rw [← hK]; exact I2.kIn
  refine wpAny_call (codeAny_mono (F1 cw1 X.A X.stack s2 H2 ⟨vu, []⟩ vu vs Q E0 c1 (fun g hg => by rw [c3]; rw [c4] at hg; exact (hU g hg).symm) (by rw [c6, c3]) (fun g hg y hy e => by rw [c4] at hg; rw [c2]; exact freeB_ok (hfr g hg) I2.ok y hy e)
    (CAll.here I2 c2 (by rw [c3]; exact hk) (by rw [c3]; exact c5)) hr e0 (by have z := F2 s2 vu kin (by rw [List.append_nil, ← r.length]; exact q2.1); rw [List.append_nil] at z; exact z) r q2) fun r s' hq => ?_)
  cases r with
  | error e => exact hx pins σ H2 s2 e s' I2 hq
  | ok fl =>
    cases fl with
    | ret u => exact I2.after hq
    | next => exact False.elim hq
    | brk => exact False.elim hq
    | cont => exact False.elim hq
end
structure FnFK (P : Program) (w : World) (mg : Str → Option Value) (base : Heap) (W : Wd) (T : Tb) (k : Nat) (x : Str) (f : Nat) (ps : List Str) : Prop where
  ex : ∃ fd, FnOk P w W.K mg base (L2N.CX P w) k (W.fa f) fd ps (spP W ps.length fun ds => noClo (T f ds)) ∧ Binds W.K fd ps []
  mg : mg x = some (.ref (W.fa f))
  kp : PySem.W.keepIn W.K (.ref (W.fa f)) = true
theorem rq_noClo0 {W : Wd} {E : XK} {H : Hp} {O : Addr → Prop} {r : M (Md × D)} {Q : VK} (h : rq W E H O (noClo r) Q) : rq W E H O r Q := rq_noClo (W := W) W.cl h
theorem FnF.toK {P : Program} {w : World} {mg : Str → Option Value} {base : Heap} {W : Wd} {T : Tb} {k : Nat} {x : Str} {f : Nat} {ps : List Str} (F : FnF P w mg base W T k x f ps) : FnFK P w mg base W T k x f ps := by
  obtain ⟨⟨fd, F1, F2⟩, F3, F4⟩ := F
  exact ⟨⟨fd, F1.imp fun vs H Q E ⟨h1, ds, O, h2, h3, h4⟩ => ⟨h1, ds, O, h2, h3, rq_noClo0 h4⟩, F2⟩, F3, F4⟩
section
variable {X : Cx} {W0 : Wd} {E0 : XK} {T : Tb}
theorem calx_imp {q0 : Option CW} {f n : Nat} {cs : List E} (hn : cs.length = n) : ∀ σ H Q, rdE (W0.wl q0) E0 T (.calx f cs) σ H Q → rdA (W0.wl q0) E0 T cs σ H (fun vs H1 => spP W0 n (fun ds => noClo (T f ds)) (vs ++ []) H1 Q E0) := by
  intro σ H Q ⟨H0, O0, δ, Fs, S, q⟩
  simp only [ev, nm] at q
  refine ⟨H0, O0, δ, Fs, S, rqs_bnd2 (G := fun z => rq (W0.wl q0) E0 H (av O0 Fs (nms cs)) z Q) rq_none (fun C h => h) q fun qs e q vs H1 Fs1 s1 n1 nd1 ow1 => ?_⟩
  by_cases hds : cloFs (qs.map Prod.snd) = true
  case neg => rw [if_neg hds] at q; exact q.elim
  rw [if_pos hds] at q
  have hr : Rps (W0.wl q0) H1 (av O0 Fs (nms cs)) (qs.map Prod.snd) vs := ow1.rps (fun b z => .inl z) (fun b hb z => S.av_there b z (n1 b hb))
  rw [List.append_nil]
  refine ⟨by rw [ow1.length, evs_len e, hn], qs.map Prod.snd, av O0 Fs (nms cs), (S.grow s1).av_hb, Rps.wcl (W := W0.wl q0) W0.cl _ _ hds hr, ?_⟩
  have q := rq.mono q s1
  show rq W0 E0 H1 (av O0 Fs (nms cs)) (noClo (T f (qs.map Prod.snd))) Q
  revert q
  cases T f (qs.map Prod.snd) with
  | none => exact fun q => q
  | some r =>
    cases r with
    | er C => exact fun q => q
    | ok p =>
      intro q
      have q : rq (W0.wl q0) E0 H1 (av O0 Fs (nms cs)) (if cloF p.2 = true then ok p else none) Q := q
      show rq W0 E0 H1 (av O0 Fs (nms cs)) (if cloF p.2 = true then ok p else none) Q
      by_cases c : cloF p.2 = true
      · rw [if_pos c] at q ⊢
        intro v H' F s n nd ow
        exact q v H' F s n nd (Ow.wcl (W := W0) q0 c ow)
      · rw [if_neg c] at q
        exact q.elim
theorem c_calx {q0 : Option CW} {k f : Nat} {x : Str} {ps : List Str} {p pos : Pos} {e : Expr} {es : List Expr} {cs : List E} (hK : X.K = W0.K) (F : FnFK X.prog X.w X.mg X.base W0 T k x f ps) (hr : Room k X.A) (hg : Gl X x) (hx : Passes (L2N.CX X.prog X.w) X E0)
    (ha : PA X (e :: es) (rdA (W0.wl q0) E0 T cs)) (hl : cs.length = ps.length := by rfl) (hdb : (x == ("__debug__" : Str)) = false := by decide) (he : starEach (e :: es) X.env = (false, eval e X.env) :: starEach es X.env := by rfl)
    (hpl : (backTo pos (starEach es X.env)).any (·.1) = false := by rfl) : PE X (.Call (.Name x p) (e :: es) [] pos) (rdE (W0.wl q0) E0 T (.calx f cs)) := by
  obtain ⟨fd, F1, F2⟩ := F.ex
  rw [← hK] at F1 F2
  exact (pe_call F1 hr hg F.mg (by rw [hK]; exact F.kp) F2 .nil hx ha hdb he hpl).imp (calx_imp hl)
end
section
variable {P : Program} {w : World} {mg : Str → Option Value} {base : Heap} {W0 : Wd} {PR : List Fun}
abbrev cwOf (qual : Str) (scope : Scope) (L f : Addr) (cdv : Value) (LX : Nat → LT) (gs : List Nat) : CW := ⟨(envOfC qual scope L f cdv).cells, LX, (envOfC qual scope L f cdv).qual ++ "<lambda>", gs, [], []⟩
theorem fn_runK {k r i : Nat} {x qual : Str} {params : Arguments} {body : List Stmt} {scope : Scope} {fd : FuncData} {N ps : List Str} {fu : Fun} {f : Addr} {LX : Nat → LT} {gs : List Nat}
    (hcl : W0.cl = none) (F : FunD W0.K x qual params body scope [] [] f fd) (S : FnScope N ps scope) (hP : PR[i]? = some fu) (hnp : fu.np = ps.length) (hnv : fu.nv = N.length) (hle : ps.length ≤ N.length)
    (hb : ∀ (c : Addr) (A : Around) (outer : List Env) (s : Shared) (H : Hp) (E : XK), fd.code = .ref c → Room r (A.deeper (envOfC qual scope s.heap.objs.size f (.ref c))) →
      PSs (cxOf (L2N.CX P w) P w W0.K mg base N qual scope f (.ref c) A outer s H E) body (rdSs (W0.wl (some (cwOf qual scope s.heap.objs.size f (.ref c) LX gs))) E (run PR k) fu.body)) :
    FnOk P w W0.K mg base (L2N.CX P w) (r + 1) f fd ps (spP W0 ps.length fun ds => noClo (run PR (k + 1) i ds)) := by
  obtain ⟨oc, od, dV, kV, doc, pm, an, cdv, ct, osl, rfl, lk, hcd, _, _⟩ := F.ex
  obtain ⟨c, rfl⟩ := He.codeIn_ref hcd
  refine ⟨fun vs H Q E h => h.1, fun A outer s H ar us vs Q E hr e0 bnd rv h => ?_⟩
  obtain ⟨hl, ds, O, hO, hrp, hq⟩ := h
  refine run_ofS (N := N) (ps := ps) lk hcd S hr e0 bnd rv hl fun hr' => ⟨_, hb c A outer s H E rfl hr', ?_⟩
  have hld : ds.length = ps.length := by rw [← Rps.length _ _ hrp, hl]
  have hrp1 := Rps.wcl (some (cwOf qual scope s.heap.objs.size f (.ref c) LX gs)) _ _ (Rps.cloFr hcl _ _ hrp) hrp
  refine ⟨H, O, start0 fu.np fu.nv ds, List.replicate fu.nv [], ss_start (W := W0.wl (some (cwOf qual scope s.heap.objs.size f (.ref c) LX gs))) hO hrp1 (by rw [hld, hnp]) hnv.symm (by rw [hnp, hnv]; exact hle), ?_⟩
  have e : run PR (k + 1) i ds = callF (run PR k) fu ds := by
    show (match PR[i]? with | some F => callF (run PR k) F ds | none => none) = _
    rw [hP]
  have hq : rq (W0.wl (some (cwOf qual scope s.heap.objs.size f (.ref c) LX gs))) E H O (run PR (k + 1) i ds) Q := rq_noClo _ hq
  rw [e] at hq
  unfold callF at hq
  rw [if_pos (by rw [hld, hnp])] at hq
  revert hq
  cases exs (run PR k) fu.body (start0 fu.np fu.nv ds) with
  | none => exact fun h => h
  | some r =>
    cases r with
    | er C => exact fun h => h
    | ok fl =>
      cases fl with
      | rt m d => exact fun h v H' F s n nd ow => h v H' F s n nd ow
      | nx δ' => exact fun h σ' H' Fs' S' _ => h .non H' [] S'.same (fun _ z => by cases z) List.nodup_nil ⟨rfl, rfl⟩
end
end TW

set_option Elab.async false
set_option linter.all false
set_option maxRecDepth 100000
set_option maxHeartbeats 4000000
namespace TW
open PySem PySem.Spec PyProof.Rows L2 LamX
def lamsE : Nat → Expr → List Expr
  | n + 1, .Lambda a b s p => [.Lambda a b s p]
  | n + 1, .Call f as _ _ => lamsE n f ++ (as.map (lamsE n)).flatten
  | n + 1, .UnaryOp _ a _ => lamsE n a
  | n + 1, .BoolOp _ as _ => (as.map (lamsE n)).flatten
  | n + 1, .Compare l _ as _ => lamsE n l ++ (as.map (lamsE n)).flatten
  | n + 1, .BinOp l _ r _ => lamsE n l ++ lamsE n r
  | n + 1, .List as _ => (as.map (lamsE n)).flatten
  | n + 1, .Tuple as _ _ => (as.map (lamsE n)).flatten
  | _, _ => []
def lamsS : Nat → Stmt → List Expr
  | n + 1, .Return (some e) _ => lamsE n e
  | n + 1, .Assign _ e _ => lamsE n e
  | n + 1, .Expr e _ => lamsE n e
  | n + 1, .If t b o _ => lamsE n t ++ ((b.map (lamsS n)).flatten ++ (o.map (lamsS n)).flatten)
  | n + 1, .For _ t b _ _ => lamsE n t ++ (b.map (lamsS n)).flatten
  | n + 1, .FunctionDef _ _ b _ _ _ _ _ _ _ => (b.map (lamsS n)).flatten
  | _, _ => []
def lamAt (s : Stmt) (n : Nat) : LT := match (lamsS 20 s).getD n (.Name "" ⟨0, 0, 0, 0⟩) with
  | .Lambda a b sc _ => ⟨a, b, sc⟩
  | _ => ⟨⟨[], [], none, [], [], none, []⟩, .Name "" ⟨0, 0, 0, 0⟩, defScope s⟩
def lxOf (n0 : Nat) (ls : List LT) (g : Nat) : LT := ls.getD (g - n0) (lamAt (.Pass ⟨0, 0, 0, 0⟩) 0)
def usOf (n0 : Nat) (ls : List (List Str)) (g : Nat) : List Str := ls.getD (g - n0) []
theorem walk_twT {l : PySem.W.OpenLaw} {n k r : Nat} {q : Program} {loose : List Str} {XP : (Str → Option Value) → Heap → Prop} {YP : World → Heap → Prop} {d : DefRec} {x : Str} {PR : List Fun} {i : Nat}
    (hn : l.most = some n) (hn2 : n ≤ sizeLine) (hdf : d.params.defaults = []) (hr : Room r callerA)
    (F : ∀ (w : World) (mg : Str → Option Value) (fa : Addr) (h : Heap), YP w h → h.Ns mainGlobals mg → mg d.name = some (.ref fa) →
      ∃ (W : Wd) (fd : FuncData) (cs : List (Addr × Addr × Str)), W.th = none ∧ W.K.In h ∧ (∀ p ∈ cs, h.get? p.2.1 = some { cls := .none, data := .fields #[] }) ∧ (∀ p ∈ cs, W.K.lookup p.2.1 = none) ∧ (∀ p ∈ cs, PySem.W.CodeHd h p.1 p.2.1) ∧ (∀ (s : Shared) (u : Value), BindsTo s fd ⟨[u], []⟩ [(x, u)]) ∧
        ∀ base : Heap, W.K.In base → base.Ns mainGlobals mg → (∀ p ∈ cs, TabB base mg p.1 p.2.1) → FnOk l.prog w W.K mg base (L2N.CX l.prog w) r fa fd [x] (@spP ⟨cs.map fun p => p.2⟩ W 1 (run PR k i)))
    (hL : ∀ ns : List Int, ns.length ≤ n → (∀ z ∈ ns, Builtin.Int.intBits z ≤ 1048576) → (∃ m, run PR k i [.scr ns] = some (.ok (m, .bl true))) ∧ ∃ m, run PR k i [.lst (eI ns)] = some (.ok (m, .bl true))) :
    PySem.W.WalkO q loose XP YP l.row.toRowW d [] (fun f vs => PySem.call f vs) := by
  refine walk_ofTsE (CX := fun w => L2N.CX l.prog w) (k := r) (x := x) hn hn2 hdf hr (fun w mg fa h Y G hmg => ?_) fun w H s e s' h => ?_
  · obtain ⟨W, fd, cs, hth, KX, h1, h2, h3, hb, hF⟩ := F w mg fa h Y G hmg
    letI ti : TabT := ⟨cs.map fun p => p.2⟩
    have mem : ∀ p ∈ cs.map (fun p => (p.1, p.2.1)), ∃ q ∈ cs, p = (q.1, q.2.1) := fun p hp => by
      obtain ⟨q, hq, e⟩ := List.mem_map.mp hp
      exact ⟨q, hq, e.symm⟩
    refine ⟨W.K, KX, fd, cs.map (fun p => (p.1, p.2.1)), spP W 1 (run PR k i), fun p hp => ?_, fun p hp => ?_, fun p hp => ?_, hb, fun H a ns hlen hbits hT hS => ?_, fun base b1 b2 b3 => hF base b1 b2 fun p hp => b3 (p.1, p.2.1) (List.mem_map.mpr ⟨p, hp, rfl⟩)⟩
    · obtain ⟨q, hq, rfl⟩ := mem p hp
      exact h1 q hq
    · obtain ⟨q, hq, rfl⟩ := mem p hp
      exact h2 q hq
    · obtain ⟨q, hq, rfl⟩ := mem p hp
      exact h3 q hq
    · have hht : HT W H := by
        refine ⟨fun p hp => ?_, fun M e => by rw [hth] at e; cases e⟩
        obtain ⟨q, hq, rfl⟩ := List.mem_map.mp (show p ∈ cs.map (fun p => p.2) from hp)
        exact TabS.nil (hT (q.1, q.2.1) (List.mem_map.mpr ⟨q, hq, rfl⟩))
      obtain ⟨⟨m1, e1⟩, ⟨m2, e2⟩⟩ := hL ns hlen hbits
      have fin : ∀ m, rq W (fun _ _ _ => False) H (fun _ => False) (some (.ok (m, D.bl true))) (fun v _ => v = .bl true) := fun m => by
        intro v H' F' s n' nd ow
        have : Rp W H' (fun _ => False) (.bl true) v := ow.rp (fun _ z => z.elim) (fun _ _ z => z)
        exact this
      rcases hS with (hS | hS) | hS
      · refine ⟨rfl, [.lst (eI ns)], fun _ => False, ⟨fun _ z => z.elim, hht⟩, ⟨.ref a, [], rfl, ⟨a, ns.map V.int, rfl, id, hS, by rw [List.length_map]; exact Nat.le_trans hlen hn2, ?_⟩, rfl⟩, by rw [e2]; exact fin m2⟩
        clear hS e1 e2 hlen hbits
        induction ns with
        | nil => exact rfl
        | cons z r ih => exact ⟨.int z, r.map V.int, rfl, rfl, ih⟩
      · exact ⟨rfl, [.scr ns], fun _ => False, ⟨fun _ z => z.elim, hht⟩, ⟨.ref a, [], rfl, ⟨a, rfl, .inl hS, Nat.le_trans hlen hn2⟩, rfl⟩, by rw [e1]; exact fin m1⟩
      · exact ⟨rfl, [.scr ns], fun _ => False, ⟨fun _ z => z.elim, hht⟩, ⟨.ref a, [], rfl, ⟨a, rfl, .inr hS, Nat.le_trans hlen hn2⟩, rfl⟩, by rw [e1]; exact fin m1⟩
  · obtain ⟨_, _, _, _, _, _, _, _, _, _, _, _, z⟩ := h
    exact z.elim
end TW
namespace TW
open PySem PySem.Spec PyProof.Rows L2 LamX
section
variable [TabT]
theorem c_caly {X : Cx} {W0 : Wd} {E0 : XK} {T : Tb} {k f : Nat} {x : Str} {ps : List Str} {p pos : Pos} {e : Expr} {es : List Expr} {cs : List E} (hK : X.K = W0.K) (F : FnFK X.prog X.w X.mg X.base W0 T k x f ps) (hr : Room k X.A) (hg : Gl X x) (hx : Passes (L2N.CX X.prog X.w) X E0)
    (ha : PA X (e :: es) (rdA W0 E0 T cs)) (hl : cs.length = ps.length := by rfl) (hdb : (x == ("__debug__" : Str)) = false := by decide) (he : starEach (e :: es) X.env = (false, eval e X.env) :: starEach es X.env := by rfl)
    (hpl : (backTo pos (starEach es X.env)).any (·.1) = false := by rfl) : PE X (.Call (.Name x p) (e :: es) [] pos) (rdE W0 E0 T (.calx f cs)) := c_calx (q0 := W0.cl) hK F hr hg hx ha hl hdb he hpl
theorem fnC_zero {P : Program} {w : World} {mg : Str → Option Value} {base : Heap} {W0 : Wd} {PR : List Fun} {k i : Nat} {LX : Nat → LT} {U : Nat → List Str} {x : Str} {ps : List Str} {fd : FuncData} (hb : L2.Binds W0.K fd ps []) (hm : mg x = some (.ref (W0.fa i))) (hk : PySem.W.keepIn W0.K (.ref (W0.fa i)) = true) : FnC P w mg base W0 (run PR 0) k LX U x i ps :=
  ⟨⟨fd, fun _ _ _ _ _ _ _ _ _ _ _ _ _ _ _ _ _ _ _ h => by
    obtain ⟨_, _, _, _, _, hq⟩ := h
    exact hq.elim, hb⟩, hm, hk⟩
theorem lok_zero {P : Program} {w : World} {mg : Str → Option Value} {base : Heap} {W0 : Wd} {PR : List Fun} {k : Nat} {LX : Nat → LT} {U : Nat → List Str} {g n : Nat} : LOk P w mg base W0 (run PR 0) k LX U g n :=
  ⟨fun _ _ _ _ _ _ _ _ _ _ _ _ _ _ _ _ _ _ _ _ _ h => by
    obtain ⟨_, _, _, _, _, _, _, hq⟩ := h
    exact hq.elim⟩
end
theorem code_cT {K : PySem.W.Frag} {x qual : Str} {params : Arguments} {body : List Stmt} {scope : Scope} {p : He.Defn} {fd : FuncData} (F : FunD K x qual params body scope [] [] (He.fAd K p) fd) {c : Addr} (h : fd.code = .ref c) : (He.cT K p).1 = c := by
  obtain ⟨oc, od, dV, kV, doc, pm, an, cdv, ct, osl, e, lk, hcd, _, _⟩ := F.ex
  exact He.codeOf_eq lk h
theorem tbs_of {K : PySem.W.Frag} {mg : Str → Option Value} {base : Heap} : ∀ (mkl : List (He.Defn × Str)), (mkl.map fun m => (He.cT K m.1).2).Nodup → (∀ p ∈ mkl.map (fun m => ((He.cT K m.1).1, (He.cT K m.1).2, m.2)), TabB base mg p.1 p.2.1) →
    ∀ m ∈ mkl, TabB base mg (He.cT K m.1).1 (He.cT K m.1).2 ∧ ((He.cT K m.1).2, m.2) ∈ (mkl.map (fun m => ((He.cT K m.1).1, (He.cT K m.1).2, m.2))).map (fun p => p.2) ∧ ∀ p ∈ (mkl.map (fun m => ((He.cT K m.1).1, (He.cT K m.1).2, m.2))).map (fun p => p.2), p.1 = (He.cT K m.1).2 → p.2 = m.2 := by
  intro mkl nd h m hm
  refine ⟨h _ (List.mem_map.mpr ⟨m, hm, rfl⟩), List.mem_map.mpr ⟨_, List.mem_map.mpr ⟨m, hm, rfl⟩, rfl⟩, fun p hp e => ?_⟩
  obtain ⟨q, hq, rfl⟩ := List.mem_map.mp hp
  obtain ⟨m', hm', rfl⟩ := List.mem_map.mp hq
  clear h hp hq
  have key : ∀ l : List (He.Defn × Str), (l.map fun m => (He.cT K m.1).2).Nodup → ∀ a ∈ l, ∀ b ∈ l, (He.cT K a.1).2 = (He.cT K b.1).2 → a = b := by
    intro l
    induction l with
    | nil => intro _ a ha; cases ha
    | cons x r ih =>
      intro nd a ha b hb e
      rw [List.map_cons] at nd
      obtain ⟨n1, n2⟩ := List.nodup_cons.mp nd
      rcases List.mem_cons.mp ha with ea | ha2
      · rcases List.mem_cons.mp hb with eb | hb2
        · rw [ea, eb]
        · exact absurd (List.mem_map.mpr ⟨b, hb2, by rw [← ea]; exact e.symm⟩) n1
      · rcases List.mem_cons.mp hb with eb | hb2
        · exact absurd (List.mem_map.mpr ⟨a, ha2, by rw [← eb]; exact e⟩) n1
        · exact ih n2 a ha2 b hb2 e
  rw [key mkl nd m' hm' m hm e]
end TW

set_option Elab.async false
set_option linter.all false
set_option maxRecDepth 100000
set_option maxHeartbeats 4000000
namespace TW
open PySem PySem.Spec PyProof.Rows L2
def fu_is_whole : Fun := ⟨1, 1, [.ret (.and (.isi (.var 0) .int) (.not (.isi (.var 0) .bool)))]⟩
def fu_is_below : Fun := ⟨2, 2, [.ret (.and (.cal 0 [.var 0]) (.chn .le .lt (.lit (.int 0)) (.var 0) (.var 1)))]⟩
def fu_is_tie : Fun := ⟨2, 2, [.ife (.or (.not (.isi (.var 0) .tuple)) (.or (.cmp .ne (.bi .len [.var 0]) (.lit (.int 2))) (.not (.cal 1 [.sub (.var 0) (.lit (.int 0)), .var 1])))) [.ret (.lit (.bl false))] [],
    .ret (.and (.cal 1 [.sub (.var 0) (.lit (.int 1)), .var 1]) (.cmp .lt (.sub (.var 0) (.lit (.int 0))) (.sub (.var 0) (.lit (.int 1)))))]⟩
def fu_is_web : Fun := ⟨1, 5, [.ife (.or (.not (.isi (.var 0) .tuple)) (.or (.cmp .ne (.bi .len [.var 0]) (.lit (.int 2))) (.not (.cal 1 [.sub (.var 0) (.lit (.int 0)), .bin .add (.lit (.int 24)) (.lit (.int 1))])))) [.ret (.lit (.bl false))] [],
    .asg 1 (.sub (.var 0) (.lit (.int 1))),
    .ife (.or (.not (.isi (.var 1) .list)) (.or (.cmp .gt (.bi .len [.var 1]) (.lit (.int 66))) (.not (.bi .all [.comp [4] true (.seq (.var 1)) [] (.cal 2 [.var 4, .sub (.var 0) (.lit (.int 0))])])))) [.ret (.lit (.bl false))] [],
    .ret (.bi .all [.comp [2, 3] false (.zip (.var 1) (.slc true false (.var 1) (.lit (.int 1)) (.lit .non))) [] (.cmp .lt (.var 2) (.var 3))])]⟩
def fu_check_web : Fun := ⟨1, 1, [.ife (.not (.cal 3 [.var 0])) [.rai 1] []]⟩
def fu_near_of_b0 : List S := [.mut 1 [.var 2] .append [.var 3],
    .mut 1 [.var 3] .append [.var 2]]
def fu_near_of : Fun := ⟨1, 6, [.asg 1 (.comp [4] true (.rng (.lit (.int 0)) (.sub (.var 0) (.lit (.int 0)))) [] (.lst [])),
    .for_ [2, 3] false (.seq (.sub (.var 0) (.lit (.int 1)))) fu_near_of_b0,
    .ret (.comp [5] true (.seq (.var 1)) [] (.bi .sorted [.var 5]))]⟩
def fu_near : Fun := ⟨1, 1, [.exp (.cal 4 [.var 0]),
    .ret (.cal 5 [.var 0])]⟩
def fu_pieces_of_b0 : List S := [.dput 3 (.var 8) (.lit (.bl true))]
def fu_pieces_of_b1 : List S := [.asg 7 (.comp [8] true (.seq (.sub (.var 2) (.sub (.var 5) (.var 6)))) [.cmp .notin (.var 8) (.var 3)] (.var 8)),
    .for_ [8] true (.seq (.var 7)) fu_pieces_of_b0,
    .par [5, 6] [.bin .add (.var 5) (.var 7), .bin .add (.var 6) (.lit (.int 1))]]
def fu_pieces_of_b2 : List S := [.ife (.cmp .notin (.var 1) (.var 3)) [.dput 3 (.var 1) (.lit (.bl true)),
    .par [5, 6] [.lst [.var 1], .lit (.int 0)],
    .whl (.cmp .lt (.var 6) (.bi .len [.var 5])) fu_pieces_of_b1,
    .mut 4 [] .append [.bi .sorted [.var 5]]] []]
def fu_pieces_of : Fun := ⟨1, 9, [.par [2, 3, 4] [.cal 5 [.var 0], .dnew, .lst []],
    .for_ [1] true (.rng (.lit (.int 0)) (.sub (.var 0) (.lit (.int 0)))) fu_pieces_of_b2,
    .ret (.var 4)]⟩
def fu_pieces : Fun := ⟨1, 1, [.exp (.cal 4 [.var 0]),
    .ret (.cal 7 [.var 0])]⟩
def fu_cut_of : Fun := ⟨2, 5, [.asg 2 (.comp [3, 4] false (.seq (.sub (.var 0) (.lit (.int 1)))) [.and (.cmp .isin (.var 3) (.var 1)) (.cmp .isin (.var 4) (.var 1))] (.tup [.mix (.var 1) (.var 3), .mix (.var 1) (.var 4)])),
    .ret (.tup [.bi .len [.var 1], .var 2])]⟩
def fu_are_places : Fun := ⟨2, 5, [.ife (.or (.not (.isi (.var 1) .list)) (.not (.bi .all [.comp [4] true (.seq (.var 1)) [] (.cal 1 [.var 4, .sub (.var 0) (.lit (.int 0))])]))) [.ret (.lit (.bl false))] [],
    .ret (.bi .all [.comp [2, 3] false (.zip (.var 1) (.slc true false (.var 1) (.lit (.int 1)) (.lit .non))) [] (.cmp .lt (.var 2) (.var 3))])]⟩
def fu_cut_down : Fun := ⟨2, 2, [.exp (.cal 4 [.var 0]),
    .ife (.not (.cal 17 [.var 0, .var 1])) [.rai 2] [],
    .ret (.cal 16 [.var 0, .var 1])]⟩
def fu_check_order : Fun := ⟨2, 3, [.ife (.or (.not (.isi (.var 0) .list)) (.not (.bi .all [.comp [2] true (.seq (.var 0)) [] (.cal 0 [.var 2])]))) [.rai 3] [],
    .ife (.cmp .ne (.bi .sorted [.var 0]) (.bi .lrng [.lit (.int 0), .var 1])) [.rai 3] []]⟩
def fu_renamed_by_b0 : List S := [.mut 2 [] .append [.tup [.bi .min [.mix (.var 1) (.var 3), .mix (.var 1) (.var 4)], .bi .max [.mix (.var 1) (.var 3), .mix (.var 1) (.var 4)]]]]
def fu_renamed_by : Fun := ⟨2, 5, [.asg 2 (.lst []),
    .for_ [3, 4] false (.seq (.sub (.var 0) (.lit (.int 1)))) fu_renamed_by_b0,
    .ret (.tup [.sub (.var 0) (.lit (.int 0)), .bi .sorted [.var 2]])]⟩
def fu_renamed : Fun := ⟨2, 2, [.exp (.cal 4 [.var 0]),
    .exp (.cal 19 [.var 1, .sub (.var 0) (.lit (.int 0))]),
    .ret (.cal 20 [.var 0, .var 1])]⟩
def fu_beside : Fun := ⟨2, 4, [.exp (.cal 4 [.var 0]),
    .exp (.cal 4 [.var 1]),
    .ife (.or (.cmp .gt (.bin .add (.sub (.var 0) (.lit (.int 0))) (.sub (.var 1) (.lit (.int 0)))) (.lit (.int 24))) (.cmp .gt (.bin .add (.bi .len [.sub (.var 0) (.lit (.int 1))]) (.bi .len [.sub (.var 1) (.lit (.int 1))])) (.lit (.int 66)))) [.rai 4] [],
    .ret (.tup [.bin .add (.sub (.var 0) (.lit (.int 0))) (.sub (.var 1) (.lit (.int 0))), .bin .add (.sub (.var 0) (.lit (.int 1))) (.comp [2, 3] false (.seq (.sub (.var 1) (.lit (.int 1)))) [] (.tup [.bin .add (.var 2) (.sub (.var 0) (.lit (.int 0))), .bin .add (.var 3) (.sub (.var 0) (.lit (.int 0)))]))])]⟩
def fu_check_few_ties : Fun := ⟨2, 2, [.ife (.or (.not (.cal 3 [.var 0])) (.cmp .gt (.bi .len [.sub (.var 0) (.lit (.int 1))]) (.var 1))) [.rai 1] []]⟩
def fu_tied_many_b0 : List S := [.mut 1 [] .aug [.var 2, .lit (.int 1)],
    .mut 1 [] .aug [.var 3, .lit (.int 1)]]
def fu_tied_many : Fun := ⟨1, 5, [.exp (.cal 4 [.var 0]),
    .asg 1 (.bin .mul (.lst [.lit (.int 0)]) (.sub (.var 0) (.lit (.int 0)))),
    .for_ [2, 3] false (.seq (.sub (.var 0) (.lit (.int 1)))) fu_tied_many_b0,
    .ret (.bi .sum [.comp [4] true (.seq (.var 1)) [] (.bin .fdiv (.bin .mul (.var 4) (.bin .sub (.var 4) (.lit (.int 1)))) (.lit (.int 2)))])]⟩
def fu_check_small : Fun := ⟨1, 1, [.exp (.cal 38 [.var 0, .lit (.int 10)])]⟩
def fu_check_places : Fun := ⟨2, 2, [.ife (.or (.not (.cal 3 [.var 0])) (.cmp .gt (.sub (.var 0) (.lit (.int 0))) (.var 1))) [.rai 1] []]⟩
def fu_is_cover_of_b0 : List S := [.mut 4 [] .aug [.var 6, .lit (.int 1)],
    .mut 3 [] .extend [.comp [8] true (.seq (.slc false true (.var 2) (.lit .non) (.var 5))) [] (.tup [.var 8, .var 6])]]
def fu_is_cover_of_b1 : List S := [.ife (.or (.cmp .lt (.bi .len [.var 2]) (.lit (.int 2))) (.not (.bi .all [.comp [6] true (.seq (.var 2)) [] (.cal 1 [.var 6, .sub (.var 0) (.lit (.int 0))])]))) [.ret (.lit (.bl false))] [],
    .for_ [5, 6] false (.enu (.var 2)) fu_is_cover_of_b0]
def fu_is_cover_of : Fun := ⟨2, 9, [.par [3, 4] [.lst [], .bin .mul (.lst [.lit (.int 0)]) (.sub (.var 0) (.lit (.int 0)))],
    .for_ [2] true (.seq (.var 1)) fu_is_cover_of_b1,
    .ret (.and (.cmp .eq (.bi .sorted [.var 3]) (.sub (.var 0) (.lit (.int 1)))) (.and (.bi .all [.comp [7] true (.seq (.var 4)) [] (.cmp .lt (.var 7) (.lit (.int 3)))]) (.cmp .eq (.var 1) (.bi .sorted [.var 1]))))]⟩
def fu_groups_at : Fun := ⟨1, 6, [.exp (.cal 4 [.var 0]),
    .asg 1 (.comp [2] true (.rng (.lit (.int 0)) (.sub (.var 0) (.lit (.int 0)))) [] (.comp [4, 5] false (.enu (.sub (.var 0) (.lit (.int 1)))) [.cmp .isin (.var 2) (.var 5)] (.var 4))),
    .ret (.flt 1 3 [.cmp .gt (.bi .len [.var 3]) (.lit (.int 1))])]⟩
def fu_check_cover : Fun := ⟨2, 4, [.ife (.or (.not (.isi (.var 1) .list)) (.not (.bi .all [.comp [2] true (.seq (.var 1)) [] (.isi (.var 2) .list)]))) [.rai 8] [],
    .ife (.or (.not (.bi .all [.comp [2] true (.seq (.var 1)) [] (.bi .all [.comp [3] true (.seq (.var 2)) [] (.cal 0 [.var 3])])])) (.not (.cal 39 [.var 0, .var 1]))) [.rai 8] []]⟩
def fu_ends_of_b0 : List S := [.mut 5 [] .append [.var 4],
    .aug 4 (.lit (.int 1))]
def fu_ends_of_b1 : List S := [.asg 5 (.comp [6, 7] false (.enu (.var 1)) [.cmp .isin (.var 2) (.var 7)] (.var 6)),
    .whl (.cmp .lt (.bi .len [.var 5]) (.lit (.int 2))) fu_ends_of_b0,
    .mut 3 [] .append [.tup [.sub (.var 5) (.lit (.int 0)), .sub (.var 5) (.lit (.int 1))]]]
def fu_ends_of : Fun := ⟨2, 8, [.par [3, 4] [.lst [], .bi .len [.var 1]],
    .for_ [2] true (.rng (.lit (.int 0)) (.sub (.var 0) (.lit (.int 0)))) fu_ends_of_b1,
    .ret (.tup [.var 3, .var 4])]⟩
def fu_root_by : Fun := ⟨2, 6, [.unp [3, 4] (.cal 62 [.var 0, .var 1]),
    .asg 2 (.bi .sorted [.var 3]),
    .ret (.tup [.tup [.var 4, .var 2], .comp [5] true (.seq (.var 3)) [] (.mix (.var 2) (.var 5))])]⟩
def fu_root_of : Fun := ⟨2, 2, [.exp (.cal 37 [.var 0]),
    .exp (.cal 61 [.var 0, .var 1]),
    .ret (.cal 63 [.var 0, .var 1])]⟩
def fu_check_row : Fun := ⟨2, 3, [.ife (.or (.not (.isi (.var 1) .list)) (.or (.cmp .ne (.bi .len [.var 1]) (.sub (.var 0) (.lit (.int 0)))) (.not (.bi .all [.comp [2] true (.seq (.var 1)) [] (.cal 0 [.var 2])])))) [.rai 9] []]⟩
def fu_squares : Fun := ⟨2, 4, [.exp (.cal 4 [.var 0]),
    .exp (.cal 110 [.var 0, .var 1]),
    .ret (.bin .add (.bin .mul (.lit (.int 2)) (.bi .sum [.comp [2] true (.seq (.var 1)) [] (.bin .mul (.var 2) (.var 2))])) (.bin .mul (.lit (.int 2)) (.bi .sum [.comp [2, 3] false (.seq (.sub (.var 0) (.lit (.int 1)))) [] (.bin .mul (.sub (.var 1) (.var 2)) (.sub (.var 1) (.var 3)))])))]⟩
def fu_by_groups_b0 : List S := [.asg 5 (.bi .sum [.comp [6] true (.seq (.var 4)) [] (.sub (.var 2) (.var 6))]),
    .aug 3 (.bin .mul (.var 5) (.var 5))]
def fu_by_groups_b1 : List S := [.aug 3 (.bin .mul (.bin .mul (.bin .sub (.lit (.int 2)) (.bi .len [.comp [4] true (.seq (.var 1)) [.cmp .isin (.var 6) (.var 4)] (.var 4)])) (.var 7)) (.var 7))]
def fu_by_groups : Fun := ⟨3, 8, [.exp (.cal 37 [.var 0]),
    .exp (.cal 61 [.var 0, .var 1]),
    .exp (.cal 110 [.var 0, .var 2]),
    .asg 3 (.lit (.int 0)),
    .for_ [4] true (.seq (.var 1)) fu_by_groups_b0,
    .for_ [6, 7] false (.enu (.var 2)) fu_by_groups_b1,
    .ret (.var 3)]⟩
def fu_law_refused_3 : Fun := ⟨2, 5, [.asg 2 (.lst []),
    .tryA (.clc [230, 231, 232, 233, 234, 235, 236, 237, 238, 239, 240, 241, 242, 243] 0 []) 3 [0, 1, 2, 3, 4, 8, 9, 10, 11] [.asg 2 (.lst [.isc (.var 3) [1, 99], .isc (.var 3) [2, 99], .isc (.var 3) [3, 99]]),
    .asg 2 (.bin .add (.var 2) (.lst [.isc (.var 3) [8, 99], .isc (.var 3) [9, 99], .isc (.var 3) [10, 99]])),
    .asg 2 (.bin .add (.var 2) (.lst [.isc (.var 3) [4, 99], .isc (.var 3) [11, 99]]))],
    .ret (.cmp .eq (.var 2) (.comp [4] true (.rng (.lit (.int 0)) (.lit (.int 8))) [] (.cmp .eq (.var 4) (.var 1))))]⟩
def fu_law_all_tied_3_b0 : List S := [.mut 1 [] .extend [.comp [3] true (.rng (.bin .add (.var 2) (.lit (.int 1))) (.var 0)) [] (.tup [.var 2, .var 3])]]
def fu_law_all_tied_3 : Fun := ⟨1, 4, [.asg 1 (.lst []),
    .for_ [2] true (.rng (.lit (.int 0)) (.var 0)) fu_law_all_tied_3_b0,
    .ret (.var 1)]⟩
def fu_law_webs_right_2_b0 : List S := [.asg 6 (.tup [.lit (.int 24), .bin .add (.bin .add (.slc false true (.var 0) (.lit .non) (.var 1)) (.lst [.var 3])) (.slc true false (.var 0) (.bin .add (.var 1) (.lit (.int 1))) (.lit .non))]),
    .ife (.or (.not (.ccl 183 [230] [6] [.lam 230, .lit (.int 0)])) (.not (.calx 186 [.var 6]))) [.ret (.lit (.bl false))] []]
def fu_law_webs_right_2 : Fun := ⟨2, 7, [.unp [4, 5] (.sub (.var 0) (.var 1)),
    .asg 2 (.lst [.tup [.var 5, .var 4], .tup [.var 4, .var 4], .sub (.var 0) (.bin .sub (.var 1) (.lit (.int 1))), .tup [.var 4, .lit (.int 24)], .tup [.neg (.lit (.int 1)), .var 5], .tup [.var 4, .lit .non]]),
    .for_ [3] true (.seq (.bin .add (.var 2) (.lst [.tup [.lit (.bl true), .var 5], .lst [.var 4, .var 5], .lit .non]))) fu_law_webs_right_2_b0,
    .ret (.lit (.bl true))]⟩
def fu_law_web_doors_b0 : List S := [.ife (.not (.ccl 183 [231, 232, 233, 234, 235] [0] [.var 2, .lit (.int 0)])) [.ret (.lit (.bl false))] []]
def fu_law_web_doors : Fun := ⟨1, 3, [.asg 1 (.lst [.lam 231]),
    .mut 1 [] .append [.lam 232],
    .mut 1 [] .append [.lam 233],
    .mut 1 [] .append [.lam 234],
    .mut 1 [] .append [.lam 235],
    .for_ [2] true (.seq (.var 1)) fu_law_web_doors_b0,
    .ret (.lit (.bl true))]⟩
def fu_law_rows_right_b0 : List S := [.ife (.not (.ccl 183 [237] [0, 2, 3, 1] [.lam 237, .lit (.int 2)])) [.ret (.lit (.bl false))] []]
def fu_law_rows_right_b1 : List S := [.ife (.not (.ccl 183 [238] [0, 1, 3] [.lam 238, .lit (.int 4)])) [.ret (.lit (.bl false))] []]
def fu_law_rows_right_b2 : List S := [.ife (.not (.ccl 183 [239] [0, 4, 3, 1] [.lam 239, .lit (.int 1)])) [.ret (.lit (.bl false))] []]
def fu_law_rows_right : Fun := ⟨2, 5, [.asg 2 (.rev (.bi .lrng [.lit (.int 0), .lit (.int 24)])),
    .ife (.or (.cmp .ne (.calx 18 [.var 0, .bi .lrng [.lit (.int 0), .lit (.int 24)]]) (.var 0)) (.cmp .ne (.bi .len [.sub (.calx 21 [.var 0, .var 2]) (.lit (.int 1))]) (.bi .len [.sub (.var 0) (.lit (.int 1))]))) [.ret (.lit (.bl false))] [],
    .ife (.not (.ccl 183 [236] [0, 2] [.lam 236, .lit (.int 2)])) [.ret (.lit (.bl false))] [],
    .for_ [3] true (.seq (.tup [.sub (.var 2) (.bin .sub (.var 1) (.lit (.int 1))), .lit (.int 24), .neg (.lit (.int 1)), .lit .non, .lit (.str "1"), .lst [.var 1]])) fu_law_rows_right_b0,
    .for_ [3] true (.seq (.tup [.lit .non, .lit (.bl true), .lit (.str "1"), .tup [.lit (.int 1)], .lst [.lit (.int 1)]])) fu_law_rows_right_b1,
    .asg 4 (.bi .lrng [.lit (.int 0), .lit (.int 24)]),
    .for_ [3] true (.seq (.tup [.bin .sub (.var 1) (.lit (.int 1)), .lit (.int 24), .neg (.lit (.int 1)), .lit .non, .lit (.str "1")])) fu_law_rows_right_b2,
    .ret (.ccl 183 [240] [0, 4] [.lam 240, .lit (.int 1)])]⟩
def fu_law_groups_right_2_b0 : List S := [.asg 5 (.bin .add (.bin .add (.slc false true (.var 2) (.lit .non) (.var 0)) (.lst [.var 4])) (.slc true false (.var 2) (.bin .add (.var 0) (.lit (.int 1))) (.lit .non))),
    .ife (.not (.ccl 183 [241] [1, 5] [.lam 241, .lit (.int 3)])) [.ret (.lit (.bl false))] [],
    .ife (.not (.ccl 183 [242] [1, 5] [.lam 242, .lit (.int 3)])) [.ret (.lit (.bl false))] []]
def fu_law_groups_right_2_b1 : List S := [.ife (.not (.ccl 183 [243] [1, 5] [.lam 243, .lit (.int 3)])) [.ret (.lit (.bl false))] []]
def fu_law_groups_right_2 : Fun := ⟨1, 7, [.asg 1 (.tup [.lit (.int 10), .comp [6] true (.rng (.lit (.int 0)) (.lit (.int 9))) [] (.tup [.var 6, .bin .add (.var 6) (.lit (.int 1))])]),
    .asg 2 (.comp [6] true (.rng (.lit (.int 0)) (.lit (.int 9))) [] (.lst [.var 6, .bin .add (.var 6) (.lit (.int 1))])),
    .asg 3 (.lst [.lst [.var 0], .lst [.bin .add (.var 0) (.lit (.int 1)), .var 0], .lst [.var 0, .bin .mod (.bin .add (.var 0) (.lit (.int 2))) (.lit (.int 10))], .lst [], .lit .non, .tup [.var 0, .bin .add (.var 0) (.lit (.int 1))], .lst [.var 0, .var 0, .bin .add (.var 0) (.lit (.int 1))]]),
    .for_ [4] true (.seq (.bin .add (.var 3) (.lst [.lst [.var 0, .lit .non], .lst [.var 0, .lit (.int 10)]]))) fu_law_groups_right_2_b0,
    .for_ [5] true (.seq (.tup [.bin .add (.slc false true (.var 2) (.lit .non) (.var 0)) (.slc true false (.var 2) (.bin .add (.var 0) (.lit (.int 1))) (.lit .non)), .bin .add (.slc false true (.var 2) (.lit .non) (.bin .add (.var 0) (.lit (.int 1)))) (.slc true false (.var 2) (.var 0) (.lit .non)), .rev (.var 2)])) fu_law_groups_right_2_b1,
    .ret (.and (.cmp .eq (.calx 112 [.var 1, .var 2, .bin .mul (.lst [.lit (.int 1)]) (.lit (.int 10))]) (.lit (.int 38))) (.cmp .eq (.bi .len [.sub (.calx 64 [.var 1, .var 2]) (.lit (.int 1))]) (.lit (.int 10))))]⟩
def fu_law_26_b0 : List S := [.ife (.not (.calx 185 [.var 3, .var 1])) [.ret (.lit (.bl false))] []]
def fu_law_26_b1 : List S := [.ife (.not (.calx 187 [.tup [.lit (.int 24), .var 3], .var 1])) [.ret (.lit (.bl false))] []]
def fu_law_26_b2 : List S := [.ife (.not (.calx 188 [.var 1])) [.ret (.lit (.bl false))] []]
def fu_law_26 : Fun := ⟨1, 4, [.par [2, 3] [.bi .abs [.bi .sum [.slc false true (.var 0) (.lit .non) (.lit (.int 63))]], .cal 184 [.lit (.int 12)]],
    .for_ [1] true (.seq (.bi .ssort [.lst [.bin .add (.lit (.int 1)) (.bin .mod (.var 2) (.lit (.int 65))), .lit (.int 65)]])) fu_law_26_b0,
    .for_ [1] true (.seq (.bi .ssort [.lst [.bin .add (.lit (.int 1)) (.bin .mod (.bin .fdiv (.var 2) (.lit (.int 65))) (.lit (.int 23))), .lit (.int 23)]])) fu_law_26_b1,
    .for_ [1] true (.seq (.bi .ssort [.lst [.bin .mod (.bin .fdiv (.var 2) (.lit (.int 1495))) (.lit (.int 9)), .lit (.int 8)]])) fu_law_26_b2,
    .ret (.and (.cmp .eq (.cal 34 [.tup [.lit (.int 24), .var 3]]) (.lit (.int 660))) (.cmp .eq (.cal 111 [.tup [.lit (.int 24), .var 3], .bin .mul (.lst [.lit (.int 1)]) (.lit (.int 24))]) (.lit (.int 180))))]⟩
abbrev fl_k26_0_e : E := .cal 6 [.var 0]
def fl_k26_0 : Fun := ⟨1, 1, [.ret fl_k26_0_e]⟩
abbrev fl_k26_1_e : E := .cal 8 [.var 0]
def fl_k26_1 : Fun := ⟨1, 1, [.ret fl_k26_1_e]⟩
abbrev fl_k26_2_e : E := .cal 34 [.var 0]
def fl_k26_2 : Fun := ⟨1, 1, [.ret fl_k26_2_e]⟩
abbrev fl_k26_3_e : E := .cal 59 [.var 0]
def fl_k26_3 : Fun := ⟨1, 1, [.ret fl_k26_3_e]⟩
abbrev fl_k26_4_e : E := .cal 111 [.var 0, .lit .non]
def fl_k26_4 : Fun := ⟨1, 1, [.ret fl_k26_4_e]⟩
abbrev fl_k26_5_e : E := .cal 22 [.tup [.lit (.int 0), .lst []], .var 0]
def fl_k26_5 : Fun := ⟨1, 1, [.ret fl_k26_5_e]⟩
abbrev fl_k26_6_e : E := .cal 21 [.var 0, .bin .add (.slc false true (.var 1) (.lit .non) (.lit (.int 22))) (.lst [.lit (.bl true), .lit (.int 0)])]
def fl_k26_6 : Fun := ⟨2, 2, [.ret fl_k26_6_e]⟩
abbrev fl_k26_7_e : E := .cal 21 [.var 0, .bin .add (.bin .add (.slc false true (.var 1) (.lit .non) (.var 3)) (.lst [.var 2])) (.slc true false (.var 1) (.bin .add (.var 3) (.lit (.int 1))) (.lit .non))]
def fl_k26_7 : Fun := ⟨4, 4, [.ret fl_k26_7_e]⟩
abbrev fl_k26_8_e : E := .cal 111 [.var 0, .bin .add (.bin .add (.bin .mul (.lst [.lit (.int 7)]) (.var 1)) (.lst [.var 2])) (.bin .mul (.lst [.lit (.int 7)]) (.bin .sub (.lit (.int 23)) (.var 1)))]
def fl_k26_8 : Fun := ⟨3, 3, [.ret fl_k26_8_e]⟩
abbrev fl_k26_9_e : E := .cal 18 [.var 0, .bin .add (.bin .add (.slc false true (.var 1) (.lit .non) (.var 3)) (.lst [.var 2])) (.slc true false (.var 1) (.bin .add (.var 3) (.lit (.int 1))) (.lit .non))]
def fl_k26_9 : Fun := ⟨4, 4, [.ret fl_k26_9_e]⟩
abbrev fl_k26_10_e : E := .cal 18 [.var 0, .bin .add (.lst [.lit (.int 0), .lit (.bl true)]) (.slc true false (.var 1) (.lit (.int 2)) (.lit .non))]
def fl_k26_10 : Fun := ⟨2, 2, [.ret fl_k26_10_e]⟩
abbrev fl_k26_11_e : E := .cal 64 [.var 0, .var 1]
def fl_k26_11 : Fun := ⟨2, 2, [.ret fl_k26_11_e]⟩
abbrev fl_k26_12_e : E := .cal 112 [.var 0, .var 1, .lit .non]
def fl_k26_12 : Fun := ⟨2, 2, [.ret fl_k26_12_e]⟩
abbrev fl_k26_13_e : E := .cal 64 [.var 0, .var 1]
def fl_k26_13 : Fun := ⟨2, 2, [.ret fl_k26_13_e]⟩
def GP : List Fun := [fu_is_whole, fu_is_below, fu_is_tie, fu_is_web, fu_check_web, fu_near_of, fu_near, fu_pieces_of, fu_pieces, ⟨0, 0, []⟩, ⟨0, 0, []⟩, ⟨0, 0, []⟩, ⟨0, 0, []⟩, ⟨0, 0, []⟩, ⟨0, 0, []⟩, ⟨0, 0, []⟩, fu_cut_of, fu_are_places, fu_cut_down, fu_check_order, fu_renamed_by, fu_renamed, fu_beside, ⟨0, 0, []⟩, ⟨0, 0, []⟩, ⟨0, 0, []⟩, ⟨0, 0, []⟩, ⟨0, 0, []⟩, ⟨0, 0, []⟩, ⟨0, 0, []⟩, ⟨0, 0, []⟩, fu_check_few_ties, ⟨0, 0, []⟩, ⟨0, 0, []⟩, fu_tied_many, ⟨0, 0, []⟩, ⟨0, 0, []⟩, fu_check_small, fu_check_places, fu_is_cover_of, ⟨0, 0, []⟩, ⟨0, 0, []⟩, ⟨0, 0, []⟩, ⟨0, 0, []⟩, ⟨0, 0, []⟩, ⟨0, 0, []⟩, ⟨0, 0, []⟩, ⟨0, 0, []⟩, ⟨0, 0, []⟩, ⟨0, 0, []⟩, ⟨0, 0, []⟩, ⟨0, 0, []⟩, ⟨0, 0, []⟩, ⟨0, 0, []⟩, ⟨0, 0, []⟩, ⟨0, 0, []⟩, ⟨0, 0, []⟩, ⟨0, 0, []⟩, ⟨0, 0, []⟩, fu_groups_at, ⟨0, 0, []⟩, fu_check_cover, fu_ends_of, fu_root_by, fu_root_of, ⟨0, 0, []⟩, ⟨0, 0, []⟩, ⟨0, 0, []⟩, ⟨0, 0, []⟩, ⟨0, 0, []⟩, ⟨0, 0, []⟩, ⟨0, 0, []⟩, ⟨0, 0, []⟩, ⟨0, 0, []⟩, ⟨0, 0, []⟩, ⟨0, 0, []⟩, ⟨0, 0, []⟩, ⟨0, 0, []⟩, ⟨0, 0, []⟩, ⟨0, 0, []⟩, ⟨0, 0, []⟩, ⟨0, 0, []⟩, ⟨0, 0, []⟩, ⟨0, 0, []⟩, ⟨0, 0, []⟩, ⟨0, 0, []⟩, ⟨0, 0, []⟩, ⟨0, 0, []⟩, ⟨0, 0, []⟩, ⟨0, 0, []⟩, ⟨0, 0, []⟩, ⟨0, 0, []⟩, ⟨0, 0, []⟩, ⟨0, 0, []⟩, ⟨0, 0, []⟩, ⟨0, 0, []⟩, ⟨0, 0, []⟩, ⟨0, 0, []⟩, ⟨0, 0, []⟩, ⟨0, 0, []⟩, ⟨0, 0, []⟩, ⟨0, 0, []⟩, ⟨0, 0, []⟩, ⟨0, 0, []⟩, ⟨0, 0, []⟩, ⟨0, 0, []⟩, ⟨0, 0, []⟩, ⟨0, 0, []⟩, ⟨0, 0, []⟩, ⟨0, 0, []⟩, fu_check_row, fu_squares, fu_by_groups, ⟨0, 0, []⟩, ⟨0, 0, []⟩, ⟨0, 0, []⟩, ⟨0, 0, []⟩, ⟨0, 0, []⟩, ⟨0, 0, []⟩, ⟨0, 0, []⟩, ⟨0, 0, []⟩, ⟨0, 0, []⟩, ⟨0, 0, []⟩, ⟨0, 0, []⟩, ⟨0, 0, []⟩, ⟨0, 0, []⟩, ⟨0, 0, []⟩, ⟨0, 0, []⟩, ⟨0, 0, []⟩, ⟨0, 0, []⟩, ⟨0, 0, []⟩, ⟨0, 0, []⟩, ⟨0, 0, []⟩, ⟨0, 0, []⟩, ⟨0, 0, []⟩, ⟨0, 0, []⟩, ⟨0, 0, []⟩, ⟨0, 0, []⟩, ⟨0, 0, []⟩, ⟨0, 0, []⟩, ⟨0, 0, []⟩, ⟨0, 0, []⟩, ⟨0, 0, []⟩, ⟨0, 0, []⟩, ⟨0, 0, []⟩, ⟨0, 0, []⟩, ⟨0, 0, []⟩, ⟨0, 0, []⟩, ⟨0, 0, []⟩, ⟨0, 0, []⟩, ⟨0, 0, []⟩, ⟨0, 0, []⟩, ⟨0, 0, []⟩, ⟨0, 0, []⟩, ⟨0, 0, []⟩, ⟨0, 0, []⟩, ⟨0, 0, []⟩, ⟨0, 0, []⟩, ⟨0, 0, []⟩, ⟨0, 0, []⟩, ⟨0, 0, []⟩, ⟨0, 0, []⟩, ⟨0, 0, []⟩, ⟨0, 0, []⟩, ⟨0, 0, []⟩, ⟨0, 0, []⟩, ⟨0, 0, []⟩, ⟨0, 0, []⟩, ⟨0, 0, []⟩, ⟨0, 0, []⟩, ⟨0, 0, []⟩, ⟨0, 0, []⟩, ⟨0, 0, []⟩, ⟨0, 0, []⟩, ⟨0, 0, []⟩, ⟨0, 0, []⟩, ⟨0, 0, []⟩, ⟨0, 0, []⟩, ⟨0, 0, []⟩, ⟨0, 0, []⟩, ⟨0, 0, []⟩, ⟨0, 0, []⟩, ⟨0, 0, []⟩, fu_law_refused_3, fu_law_all_tied_3, fu_law_webs_right_2, fu_law_web_doors, fu_law_rows_right, fu_law_groups_right_2, fu_law_26, ⟨0, 0, []⟩, ⟨0, 0, []⟩, ⟨0, 0, []⟩, ⟨0, 0, []⟩, ⟨0, 0, []⟩, ⟨0, 0, []⟩, ⟨0, 0, []⟩, ⟨0, 0, []⟩, ⟨0, 0, []⟩, ⟨0, 0, []⟩, ⟨0, 0, []⟩, ⟨0, 0, []⟩, ⟨0, 0, []⟩, ⟨0, 0, []⟩, ⟨0, 0, []⟩, ⟨0, 0, []⟩, ⟨0, 0, []⟩, ⟨0, 0, []⟩, ⟨0, 0, []⟩, ⟨0, 0, []⟩, ⟨0, 0, []⟩, ⟨0, 0, []⟩, ⟨0, 0, []⟩, ⟨0, 0, []⟩, ⟨0, 0, []⟩, ⟨0, 0, []⟩, ⟨0, 0, []⟩, ⟨0, 0, []⟩, ⟨0, 0, []⟩, ⟨0, 0, []⟩, ⟨0, 0, []⟩, ⟨0, 0, []⟩, ⟨0, 0, []⟩, ⟨0, 0, []⟩, ⟨0, 0, []⟩, ⟨0, 0, []⟩, ⟨0, 0, []⟩, ⟨0, 0, []⟩, ⟨0, 0, []⟩, ⟨0, 0, []⟩, fl_k26_0, fl_k26_1, fl_k26_2, fl_k26_3, fl_k26_4, fl_k26_5, fl_k26_6, fl_k26_7, fl_k26_8, fl_k26_9, fl_k26_10, fl_k26_11, fl_k26_12, fl_k26_13, ⟨0, 0, []⟩, ⟨0, 0, []⟩, ⟨0, 0, []⟩, ⟨0, 0, []⟩, ⟨0, 0, []⟩, ⟨0, 0, []⟩, ⟨0, 0, []⟩, ⟨0, 0, []⟩, ⟨0, 0, []⟩, ⟨0, 0, []⟩, ⟨0, 0, []⟩, ⟨0, 0, []⟩, ⟨0, 0, []⟩, ⟨0, 0, []⟩, ⟨0, 0, []⟩, ⟨0, 0, []⟩, ⟨0, 0, []⟩, ⟨0, 0, []⟩, ⟨0, 0, []⟩, ⟨0, 0, []⟩, ⟨0, 0, []⟩, ⟨0, 0, []⟩, ⟨0, 0, []⟩, ⟨0, 0, []⟩, ⟨0, 0, []⟩, ⟨0, 0, []⟩, ⟨0, 0, []⟩, ⟨0, 0, []⟩, ⟨0, 0, []⟩, ⟨0, 0, []⟩]
def gat : List (PySem.Str × Option PySem.Str) := ([("is_whole", none), ("is_below", none), ("is_tie", none), ("is_web", none), ("check_web", none), ("near_of", none), ("near", none), ("pieces_of", none), ("pieces", none), ("_law_number", none), ("_law_web", none), ("_law_near", none), ("_law_copied", none), ("_law_pieces", none), ("_law_right", none), ("law", none), ("cut_of", none), ("are_places", none), ("cut_down", none), ("check_order", none), ("renamed_by", none), ("renamed", none), ("beside", none), ("_law_number", none), ("_law_web", none), ("_law_whole", none), ("_law_is_web", none), ("_law_cut", none), ("_law_order", none), ("_law_renamed", none)] : List (PySem.Str × Option PySem.Str)) ++ ([("law", none), ("check_few_ties", none), ("tie_web_of", none), ("tie_web", none), ("tied_many", none), ("_law_tie_web", none), ("law", none), ("check_small", none), ("check_places", none), ("is_cover_of", none), ("all_tied", none), ("groups_with", none), ("fits", none), ("grown", none), ("cover_of", none), ("covered", none), ("_law_is_cover", none), ("_law_has_cover", none), ("_law_laid", none), ("_law_says", none), ("_law_due", none), ("_law_right", none), ("_law_less", none), ("law", none), ("_law_groups_right", none), ("_law_places_right", none), ("_law_bent", none), ("law", none), ("_wall", none), ("groups_at", none)] : List (PySem.Str × Option PySem.Str)) ++ ([("law", none), ("check_cover", none), ("ends_of", none), ("root_by", none), ("root_of", none), ("root", none), ("_law_root", none), ("_law_is_root", none), ("_law_alone", none), ("_law_refused", none), ("_law_ask", none), ("_law_right", none), ("law", none), ("can_go", none), ("led_on", none), ("led", none), ("_law_led", none), ("_law_led_on", none), ("_law_orders", none), ("_law_right", none), ("law", none), ("_law_tidy", none), ("_law_threes", none), ("law", none), ("meets_all", none), ("chosen", none), ("gone_round", none), ("places_of", none), ("ties_of", none), ("round_from", none)] : List (PySem.Str × Option PySem.Str)) ++ ([("trail_of", none), ("trail", none), ("_law_meets", none), ("_law_is_trail", none), ("_law_tried", none), ("_law_goes", none), ("_law_right", none), ("law", none), ("ring_by", none), ("ring", none), ("is_ring", none), ("_law_is_ring", none), ("_law_has_ring", none), ("_law_rings_on", none), ("_law_right", none), ("law", none), ("_law_is_ring", none), ("_law_says", none), ("_law_round", none), ("law", none), ("check_row", none), ("squares", none), ("by_groups", none), ("_law_rows", none), ("_law_squares", none), ("law", none), ("added", none), ("apart_of", none), ("places_apart", none), ("ties_apart", none)] : List (PySem.Str × Option PySem.Str)) ++ ([("_law_apart", none), ("law", none), ("ways_from", none), ("check_colours", none), ("colours", none), ("tie_colours", none), ("_law_ways", none), ("_law_made_one", none), ("law", none), ("_law_round_of", none), ("law", none), ("law", none), ("_law_times", none), ("law", none), ("_law_covers", none), ("_law_covers_on", none), ("_law_all_tied", none), ("_law_has_two", none), ("_law_right", none), ("law", none), ("law", none), ("_law_number", none), ("_law_web", none), ("_law_at", none), ("law", none), ("_law_refused", none), ("_law_all_refused", none), ("_law_no_webs", none), ("_law_all_tied", none), ("_law_with_one", none)] : List (PySem.Str × Option PySem.Str)) ++ ([("_law_with_two", none), ("_law_with_second", none), ("_law_great_places", none), ("_law_eleven", none), ("_law_few_places", none), ("_law_nine", none), ("_law_great_ties", none), ("_law_many_ties", none), ("_law_few_ties", none), ("_law_nine_ties", none), ("law", none), ("_law_with_places", none), ("_law_no_places", none), ("_law_with_order", none), ("_law_no_orders", none), ("_law_with_groups", none), ("_law_no_groups", none), ("_law_with_row", none), ("_law_no_rows", none), ("_law_with_colours", none), ("_law_no_colours", none), ("_law_with_many", none), ("_law_too_many", none), ("_law_with_root", none), ("_law_no_cover", none), ("law", none), ("_law_counts_right", none), ("_law_way_right", none), ("_law_barred_right", none), ("law", none)] : List (PySem.Str × Option PySem.Str)) ++ ([("_law_webs_right", none), ("_law_one_twice", none), ("law", none), ("_law_refused", none), ("_law_all_tied", none), ("_law_webs_right", none), ("_law_web_doors", none), ("_law_rows_right", none), ("_law_groups_right", none), ("law", none), ("_law_order", none), ("_law_led_on", none), ("_law_five_right", none), ("_law_barred_right", none), ("_law_greatest_right", none), ("_law_rings_right", none), ("law", none), ("_law_sound", none), ("law", none), ("_law_refused", none), ("_law_bad_right", none), ("law", none), ("_law_list_right", none), ("_law_door_right", none), ("_law_webs_right", none), ("_law_covers_right", none), ("_law_line_right", none), ("_law_within_right", none), ("law", none), ("_law_word", none)] : List (PySem.Str × Option PySem.Str)) ++ ([("_law_star", none), ("_law_three", none), ("_law_none_right", none), ("_law_covers_right", none), ("_law_is_trail", none), ("_law_rings_right", none), ("_law_counts_right", none), ("_law_beside_right", none), ("law", none), ("Cover", some "__init__"), ("Cover", some "shows"), ("Barred", some "__init__"), ("Barred", some "shows"), ("_law_right", none), ("_law_right", none), ("_law_refused", none), ("_law_all_refused", none), ("_law_refused", none), ("_law_all_refused", none), ("_law_refused", none), ("<lambda>", none), ("<lambda>", none), ("<lambda>", none), ("<lambda>", none), ("<lambda>", none), ("<lambda>", none), ("<lambda>", none), ("<lambda>", none), ("<lambda>", none), ("<lambda>", none)] : List (PySem.Str × Option PySem.Str)) ++ ([("<lambda>", none), ("<lambda>", none), ("<lambda>", none), ("<lambda>", none), ("<lambda>", none), ("<lambda>", none), ("<lambda>", none), ("<lambda>", none), ("<lambda>", none), ("<lambda>", none), ("<lambda>", none), ("<lambda>", none), ("<lambda>", none), ("<lambda>", none), ("<lambda>", none), ("<lambda>", none), ("<lambda>", none), ("<lambda>", none), ("<lambda>", none), ("<lambda>", none), ("<lambda>", none), ("<lambda>", none), ("<lambda>", none), ("<lambda>", none), ("<lambda>", none), ("<lambda>", none), ("<lambda>", none), ("<lambda>", none), ("<lambda>", none), ("<lambda>", none)] : List (PySem.Str × Option PySem.Str)) ++ ([("<lambda>", none), ("<lambda>", none), ("<lambda>", none), ("<lambda>", none)] : List (PySem.Str × Option PySem.Str))
end TW

set_option Elab.async false
set_option linter.all false
set_option maxRecDepth 100000
set_option maxHeartbeats 4000000
namespace TW
open PySem PySem.Spec PyProof.Rows L2
def OLe {α : Type} (x y : Option α) : Prop := x = none ∨ x = y
def TLeW (F G : Tb) : Prop := ∀ f ds, OLe (F f ds) (G f ds)
section
variable {α β : Type}
theorem OLe.refl (x : Option α) : OLe x x := .inr rfl
theorem OLe.non (y : Option α) : OLe none y := .inl rfl
theorem OLe.trans {x y z : Option α} (a : OLe x y) (b : OLe y z) : OLe x z := by
  rcases a with a | a
  · exact .inl a
  · rw [a]; exact b
theorem OLe.get {x y : Option α} (h : OLe x y) {r : α} (e : x = some r) : y = some r := by
  rcases h with h | h
  · rw [h] at e; cases e
  · rw [← h]; exact e
theorem bnd_mn {x y : M α} {f g : α → M β} (h : OLe x y) (k : ∀ a, OLe (f a) (g a)) : OLe (bnd x f) (bnd y g) := by
  rcases h with h | h
  · rw [h]; exact .inl rfl
  · rw [h]
    cases y with
    | none => exact .inl rfl
    | some r =>
      cases r with
      | ok a => exact k a
      | er C => exact .inr rfl
theorem bind_mn {x y : Option α} {f g : α → Option β} (h : OLe x y) (k : ∀ a, OLe (f a) (g a)) : OLe (x.bind f) (y.bind g) := by
  rcases h with h | h
  · rw [h]; exact .inl rfl
  · rw [h]
    cases y with
    | none => exact .inl rfl
    | some r => exact k r
theorem map_mn {x y : Option α} {f : α → β} (h : OLe x y) : OLe (x.map f) (y.map f) := by
  rcases h with h | h
  · rw [h]; exact .inl rfl
  · rw [h]; exact .inr rfl
theorem okOnly_mn {x y : M α} (h : OLe x y) : OLe (okOnly x) (okOnly y) := by
  rcases h with h | h
  · rw [h]; exact .inl rfl
  · rw [h]; exact .inr rfl
end
theorem compL_mn {f g : D → Option (Option (Md × D))} (h : ∀ x, OLe (f x) (g x)) : ∀ xs, OLe (compL f xs) (compL g xs)
  | [] => .refl _
  | x :: xs => by
    simp only [compL]
    rcases h x with z | z
    · rw [z]; exact .non _
    · rw [z]
      cases g x with
      | none => exact .non _
      | some o =>
        cases o with
        | none => exact compL_mn h xs
        | some p => exact map_mn (compL_mn h xs)
theorem noClo_mn {x y : M (Md × D)} (h : OLe x y) : OLe (noClo x) (noClo y) := bnd_mn h fun _ => .refl _
mutual
theorem ev_mn {F G : Tb} (h : TLeW F G) : ∀ (a : E) (e : Dn), OLe (ev F a e) (ev G a e)
  | .var i, e => by simp only [ev]; exact .refl _
  | .lit d, e => by simp only [ev]; exact .refl _
  | .bin o a b, e => by simp only [ev]; exact bnd_mn (ev_mn h a e) fun p => bnd_mn (ev_mn h b e) fun q => .refl _
  | .cmp o a b, e => by simp only [ev]; exact bnd_mn (ev_mn h a e) fun p => bnd_mn (ev_mn h b e) fun q => .refl _
  | .chn o o2 a b c, e => by
    simp only [ev]
    refine bnd_mn (ev_mn h a e) fun p => bnd_mn (ev_mn h b e) fun q => ?_
    generalize cmpD o p.2 q.2 = z
    match z with
    | none => exact .non _
    | some false => exact .refl _
    | some true => exact bnd_mn (ev_mn h c e) fun r => .refl _
  | .chn3 o o2 o3 a b c d, e => by
    simp only [ev]
    refine bnd_mn (ev_mn h a e) fun p => bnd_mn (ev_mn h b e) fun q => ?_
    generalize cmpD o p.2 q.2 = z
    match z with
    | none => exact .non _
    | some false => exact .refl _
    | some true =>
      refine bnd_mn (ev_mn h c e) fun r => ?_
      generalize cmpD o2 q.2 r.2 = z
      match z with
      | none => exact .non _
      | some false => exact .refl _
      | some true => exact bnd_mn (ev_mn h d e) fun r => .refl _
  | .neg a, e => by simp only [ev]; exact bnd_mn (ev_mn h a e) fun p => .refl _
  | .not a, e => by simp only [ev]; exact bnd_mn (ev_mn h a e) fun p => .refl _
  | .and a b, e => by
    simp only [ev]
    refine bnd_mn (ev_mn h a e) fun p => ?_
    generalize boolD p.2 = z
    match z with
    | none => exact .non _
    | some false => exact .refl _
    | some true => exact ev_mn h b e
  | .or a b, e => by
    simp only [ev]
    refine bnd_mn (ev_mn h a e) fun p => ?_
    generalize boolD p.2 = z
    match z with
    | none => exact .non _
    | some true => exact .refl _
    | some false => exact ev_mn h b e
  | .ite c a b, e => by
    simp only [ev]
    refine bnd_mn (ev_mn h c e) fun p => ?_
    generalize boolD p.2 = z
    match z with
    | none => exact .non _
    | some true => exact ev_mn h a e
    | some false => exact ev_mn h b e
  | .tup es, e => by simp only [ev]; exact bnd_mn (evs_mn h es e) fun p => .refl _
  | .lst es, e => by simp only [ev]; exact bnd_mn (evs_mn h es e) fun p => .refl _
  | .sub a i, e => by simp only [ev]; exact bnd_mn (ev_mn h a e) fun p => bnd_mn (ev_mn h i e) fun q => .refl _
  | .slc pl ph a lo hi, e => by
    simp only [ev]
    refine bnd_mn (ev_mn h a e) fun p => bnd_mn (ev_mn h lo e) fun q => ?_
    generalize optI pl q.2 = z
    match z with
    | none => exact .non _
    | some l => exact bnd_mn (ev_mn h hi e) fun r => .refl _
  | .rev a, e => by simp only [ev]; exact bnd_mn (ev_mn h a e) fun p => .refl _
  | .att a f, e => by simp only [ev]; exact bnd_mn (ev_mn h a e) fun p => .refl _
  | .cal f es, e => by simp only [ev]; exact bnd_mn (evs_mn h es e) fun ps => bnd_mn (h f _) fun r => .refl _
  | .cav a g es, e => by
    simp only [ev]
    refine bnd_mn (ev_mn h a e) fun p => ?_
    obtain ⟨m, d⟩ := p
    cases d with
    | fn f =>
      show OLe (if f = g then _ else none) (if f = g then _ else none)
      by_cases c : f = g
      · rw [if_pos c, if_pos c]; exact bnd_mn (evs_mn h es e) fun ps => h g _
      · rw [if_neg c]; exact .non _
    | _ => exact .non _
  | .bi b es, e => by simp only [ev]; exact bnd_mn (evs_mn h es e) fun p => .refl _
  | .mix a b, e => by
    simp only [ev]
    refine bnd_mn (ev_mn h a e) fun p => ?_
    obtain ⟨m, d⟩ := p
    cases d with
    | lst ds => exact bnd_mn (ev_mn h b e) fun q => .refl _
    | _ => exact .non _
  | .isi a t, e => by simp only [ev]; exact bnd_mn (ev_mn h a e) fun p => .refl _
  | .comp ts one s cs a, e => by
    simp only [ev]
    refine bnd_mn (evS_mn h s e) fun p => ?_
    have q : OLe (compL (fun x => (bindT ts one x e).bind fun e1 => (okOnly (evC F cs e1)).bind fun b => if b then (okOnly (ev F a e1)).map some else some none) p.2) (compL (fun x => (bindT ts one x e).bind fun e1 => (okOnly (evC G cs e1)).bind fun b => if b then (okOnly (ev G a e1)).map some else some none) p.2) := by
      refine compL_mn (fun x => bind_mn (.refl _) fun e1 => bind_mn (okOnly_mn (evC_mn h cs e1)) fun b => ?_) _
      cases b with
      | false => exact .refl _
      | true => exact map_mn (okOnly_mn (ev_mn h a e1))
    rcases q with q | q
    · rw [q]; exact .non _
    · rw [q]; exact .refl _
  | .dnew, e => by simp only [ev]; exact .refl _
  | .mk C f i es, e => by simp only [ev]; exact bnd_mn (evs_mn h es e) fun ps => bnd_mn (h i _) fun r => .refl _
  | .met a tb es, e => by
    simp only [ev]
    refine bnd_mn (ev_mn h a e) fun p => ?_
    obtain ⟨m, d⟩ := p
    cases d with
    | ins C f d =>
      show OLe (if f = "shows" then none else (match tb.lookup C with | some g => bnd (evs F es e) fun ps => F g (.ins C f d :: ps.map Prod.snd) | none => none)) (if f = "shows" then none else (match tb.lookup C with | some g => bnd (evs G es e) fun ps => G g (.ins C f d :: ps.map Prod.snd) | none => none))
      by_cases c : f = "shows"
      · rw [if_pos c]; exact .non _
      · rw [if_neg c, if_neg c]
        generalize tb.lookup C = z
        match z with
        | none => exact .non _
        | some g => exact bnd_mn (evs_mn h es e) fun ps => h g _
    | _ => exact .non _
  | .isc a cs, e => by simp only [ev]; exact bnd_mn (ev_mn h a e) fun p => .refl _
  | .csel gs a es, e => by
    simp only [ev]
    refine bnd_mn (ev_mn h a e) fun p => ?_
    obtain ⟨m, d⟩ := p
    cases d with
    | fn f =>
      show OLe (if gs.contains f = true then _ else none) (if gs.contains f = true then _ else none)
      by_cases c : gs.contains f = true
      · rw [if_pos c, if_pos c]; exact bnd_mn (evs_mn h es e) fun ps => h f _
      · rw [if_neg c]; exact .non _
    | _ => exact .non _
  | .orv a b, e => by
    simp only [ev]
    refine bnd_mn (ev_mn h a e) fun p => ?_
    obtain ⟨m, d⟩ := p
    match d with
    | .non => exact ev_mn h b e
    | .lst [] => exact ev_mn h b e
    | .lst (x :: xs) => exact .refl _
    | .bl _ => exact .refl _
    | .int _ => exact .refl _
    | .str _ => exact .refl _
    | .fn _ => exact .refl _
    | .tup _ => exact .refl _
    | .scr _ => exact .refl _
    | .dic _ => exact .refl _
    | .ins _ _ _ => exact .refl _
    | .exc _ => exact .refl _
    | .clo _ _ => exact .refl _
  | .flt _ _ _, e => by simp only [ev]; exact .refl _
  | .lam g, e => by simp only [ev]; exact .refl _
  | .clc gs i es, e => by
    simp only [ev]
    generalize e[i]? = z
    match z with
    | none => exact .non _
    | some none => exact .non _
    | some (some (m, d)) =>
      cases d with
      | clo g cs =>
        show OLe (if gs.contains g && cloFs cs then _ else none) (if gs.contains g && cloFs cs then _ else none)
        by_cases c : (gs.contains g && cloFs cs) = true
        · rw [if_pos c, if_pos c]
          refine bnd_mn (evs_mn h es e) fun ps => ?_
          by_cases c : cloFs (ps.map Prod.snd) = true
          · rw [if_pos c, if_pos c]; exact noClo_mn (h g _)
          · rw [if_neg c]; exact .non _
        · rw [if_neg c]; exact .non _
      | _ => exact .non _
  | .ccl f gs js es, e => by
    simp only [ev]
    refine bnd_mn (evs_mn h es e) fun ps => ?_
    generalize ps.map Prod.snd = ds
    generalize capD js e = cc
    match ds, cc with
    | [], _ => exact .refl _
    | d :: ds, none => cases d <;> first | exact .refl _ | (rename_i c; cases c <;> exact .refl _)
    | d :: ds, some cs =>
      cases d with
      | clo g cap =>
        cases cap with
        | cons _ _ => exact .refl _
        | nil =>
          show OLe (if gs.contains g && cloFs ds && cloFs cs then _ else none) (if gs.contains g && cloFs ds && cloFs cs then _ else none)
          by_cases c : (gs.contains g && cloFs ds && cloFs cs) = true
          · rw [if_pos c, if_pos c]; exact noClo_mn (h f _)
          · rw [if_neg c]; exact .non _
      | _ => exact .refl _
  | .calx f es, e => by
    simp only [ev]
    refine bnd_mn (evs_mn h es e) fun ps => ?_
    by_cases c : cloFs (ps.map Prod.snd) = true
    · rw [if_pos c, if_pos c]; exact noClo_mn (h f _)
    · rw [if_neg c]; exact .non _
theorem evs_mn {F G : Tb} (h : TLeW F G) : ∀ (es : List E) (e : Dn), OLe (evs F es e) (evs G es e)
  | [], e => by simp only [evs]; exact .refl _
  | a :: as, e => by simp only [evs]; exact bnd_mn (ev_mn h a e) fun p => bnd_mn (evs_mn h as e) fun ps => .refl _
theorem evC_mn {F G : Tb} (h : TLeW F G) : ∀ (es : List E) (e : Dn), OLe (evC F es e) (evC G es e)
  | [], e => by simp only [evC]; exact .refl _
  | a :: as, e => by
    simp only [evC]
    refine bnd_mn (ev_mn h a e) fun p => ?_
    generalize boolD p.2 = z
    match z with
    | none => exact .non _
    | some false => exact .refl _
    | some true => exact evC_mn h as e
theorem evS_mn {F G : Tb} (h : TLeW F G) : ∀ (s : Sr) (e : Dn), OLe (evS F s e) (evS G s e)
  | .seq a, e => by simp only [evS]; exact bnd_mn (ev_mn h a e) fun p => .refl _
  | .rng a b, e => by simp only [evS]; exact bnd_mn (ev_mn h a e) fun p => bnd_mn (ev_mn h b e) fun q => .refl _
  | .enu a, e => by simp only [evS]; exact bnd_mn (ev_mn h a e) fun p => .refl _
  | .zip a b, e => by simp only [evS]; exact bnd_mn (ev_mn h a e) fun p => bnd_mn (ev_mn h b e) fun q => .refl _
end
mutual
theorem evr_mn {F G : Tb} (h : TLeW F G) : ∀ (a : E) (e : Dn), OLe (evr F a e) (evr G a e)
  | .var i, e => by simp only [evr]; exact .refl _
  | .ite c a b, e => by
    simp only [evr]
    refine bnd_mn (ev_mn h c e) fun p => ?_
    generalize boolD p.2 = z
    match z with
    | none => exact .non _
    | some true => exact evr_mn h a e
    | some false => exact evr_mn h b e
  | .tup es, e => by simp only [evr]; exact bnd_mn (evrs_mn h es e) fun p => .refl _
  | .lit d, e => by simp only [evr]; exact ev_mn h _ e
  | .bin o a b, e => by simp only [evr]; exact ev_mn h _ e
  | .cmp o a b, e => by simp only [evr]; exact ev_mn h _ e
  | .chn o p a b c, e => by simp only [evr]; exact ev_mn h _ e
  | .chn3 o p q a b c d, e => by simp only [evr]; exact ev_mn h _ e
  | .neg a, e => by simp only [evr]; exact ev_mn h _ e
  | .not a, e => by simp only [evr]; exact ev_mn h _ e
  | .and a b, e => by simp only [evr]; exact ev_mn h _ e
  | .or a b, e => by simp only [evr]; exact ev_mn h _ e
  | .lst es, e => by simp only [evr]; exact ev_mn h _ e
  | .sub a i, e => by simp only [evr]; exact ev_mn h _ e
  | .slc pl ph a lo hi, e => by simp only [evr]; exact ev_mn h _ e
  | .rev a, e => by simp only [evr]; exact ev_mn h _ e
  | .att a f, e => by simp only [evr]; exact ev_mn h _ e
  | .cal f es, e => by simp only [evr]; exact ev_mn h _ e
  | .cav a g es, e => by simp only [evr]; exact ev_mn h _ e
  | .bi b es, e => by simp only [evr]; exact ev_mn h _ e
  | .mix a b, e => by simp only [evr]; exact ev_mn h _ e
  | .isi a t, e => by simp only [evr]; exact ev_mn h _ e
  | .comp ts one s cs a, e => by simp only [evr]; exact ev_mn h _ e
  | .dnew, e => by simp only [evr]; exact ev_mn h _ e
  | .mk C f i es, e => by simp only [evr]; exact ev_mn h _ e
  | .met a tb es, e => by simp only [evr]; exact ev_mn h _ e
  | .isc a cs, e => by simp only [evr]; exact ev_mn h _ e
  | .csel gs a es, e => by simp only [evr]; exact ev_mn h _ e
  | .orv a b, e => by simp only [evr]; exact ev_mn h _ e
  | .lam g, e => by simp only [evr]; exact ev_mn h _ e
  | .clc gs i es, e => by simp only [evr]; exact ev_mn h _ e
  | .ccl f gs js es, e => by simp only [evr]; exact ev_mn h _ e
  | .calx f es, e => by simp only [evr]; exact ev_mn h _ e
  | .flt i x cs, e => by
    simp only [evr]
    generalize e[i]? = z
    match z with
    | none => exact .non _
    | some none => exact .non _
    | some (some (m, d)) =>
      cases m with
      | sh => exact .non _
      | fl => exact .non _
      | dp =>
        cases d with
        | lst ds =>
          show OLe (if x = i then none else _) (if x = i then none else _)
          by_cases c : x = i
          · rw [if_pos c]; exact .non _
          · rw [if_neg c, if_neg c]
            have q : OLe (compL (fun d => (bindT [x] true d e).bind fun e1 => (okOnly (evC F cs e1)).bind fun b => if b then (okOnly (ev F (.var x) e1)).map some else some none) ds) (compL (fun d => (bindT [x] true d e).bind fun e1 => (okOnly (evC G cs e1)).bind fun b => if b then (okOnly (ev G (.var x) e1)).map some else some none) ds) := by
              refine compL_mn (fun x => bind_mn (.refl _) fun e1 => bind_mn (okOnly_mn (evC_mn h cs e1)) fun b => ?_) _
              cases b with
              | false => exact .refl _
              | true => exact map_mn (okOnly_mn (ev_mn h _ e1))
            rcases q with q | q
            · rw [q]; exact .non _
            · rw [q]; exact .refl _
        | _ => exact .non _
theorem evrs_mn {F G : Tb} (h : TLeW F G) : ∀ (es : List E) (e : Dn), OLe (evrs F es e) (evrs G es e)
  | [], e => by simp only [evrs]; exact .refl _
  | a :: as, e => by simp only [evrs]; exact bnd_mn (evr_mn h a e) fun p => bnd_mn (evrs_mn h as e) fun ps => .refl _
end
theorem evP_mn {F G : Tb} (h : TLeW F G) : ∀ (es : List E) (e : Dn), OLe (evP F es e) (evP G es e)
  | [], e => by simp only [evP]; exact .refl _
  | a :: as, e => by
    simp only [evP]
    refine bnd_mn (evP_mn h as e) fun is => ?_
    rcases okOnly_mn (ev_mn h a e) with q | q
    · rw [q]; exact .non _
    · rw [q]; exact .refl _
theorem forL_mn {f g : D → Dn → M Fl} (h : ∀ x e, OLe (f x e) (g x e)) : ∀ (xs : List D) (e : Dn), OLe (forL f xs e) (forL g xs e)
  | [], e => .refl _
  | x :: xs, e => by
    simp only [forL]
    refine bnd_mn (h x e) fun r => ?_
    cases r with
    | nx e1 => exact forL_mn h xs e1
    | rt m d => exact .refl _
theorem whlL_mn {c c' : Dn → M Bool} {b b' : Dn → M Fl} (hc : ∀ e, OLe (c e) (c' e)) (hb : ∀ e, OLe (b e) (b' e)) : ∀ (n : Nat) (e : Dn), OLe (whlL c b n e) (whlL c' b' n e)
  | 0, e => .refl _
  | n + 1, e => by
    simp only [whlL]
    refine bnd_mn (hc e) fun t => ?_
    cases t with
    | false => exact .refl _
    | true =>
      refine bnd_mn (hb e) fun r => ?_
      cases r with
      | nx e1 => exact whlL_mn hc hb n e1
      | rt m d => exact .refl _
theorem forB_mn {f g : D → M Bool} (h : ∀ x, OLe (f x) (g x)) (e : Dn) : ∀ (xs : List D), OLe (forB f e xs) (forB g e xs)
  | [] => .refl _
  | x :: xs => by
    simp only [forB]
    refine bnd_mn (h x) fun r => ?_
    cases r with
    | false => exact forB_mn h e xs
    | true => exact .refl _
theorem eachF_mn {F G : Tb} (h : TLeW F G) (i : Nat) (f : Option Str) (q : List Int) (o : Mo) (es : List E) (j : Nat) (e : Dn) : OLe (eachF F i f q o es j e) (eachF G i f q o es j e) := by
  unfold eachF
  rcases okOnly_mn (evs_mn h es e) with z | z
  · rw [z]
    left
    generalize e[i]? = u
    match u with
    | none => rfl
    | some none => rfl
    | some (some (m, d)) =>
      cases m with
      | sh => rfl
      | fl => rfl
      | dp =>
        show (match inF f d with | some d0 => none | none => none) = none
        cases inF f d <;> rfl
  · rw [z]; exact .refl _
theorem eachL_mn {f g : Nat → Dn → M Dn} (h : ∀ j e, OLe (f j e) (g j e)) : ∀ (n j : Nat) (e : Dn), OLe (eachL f n j e) (eachL g n j e)
  | 0, j, e => .refl _
  | n + 1, j, e => by
    simp only [eachL]
    exact bnd_mn (h j e) fun e1 => eachL_mn h n (j + 1) e1
mutual
theorem ex_mn {F G : Tb} (h : TLeW F G) : ∀ (s : S) (e : Dn), OLe (ex F s e) (ex G s e)
  | .pass, e => by simp only [ex]; exact .refl _
  | .asg i a, e => by simp only [ex]; exact bnd_mn (ev_mn h a e) fun p => .refl _
  | .par is as, e => by simp only [ex]; exact bnd_mn (evs_mn h as e) fun p => .refl _
  | .unp is a, e => by simp only [ex]; exact bnd_mn (ev_mn h a e) fun p => .refl _
  | .aug i a, e => by
    simp only [ex]
    generalize e[i]? = z
    match z with
    | none => exact .refl _
    | some none => exact .refl _
    | some (some (m, d)) =>
      cases d with
      | int n => exact bnd_mn (ev_mn h a e) fun p => .refl _
      | _ => exact .refl _
  | .mut i p o as, e => by
    simp only [ex]
    generalize e[i]? = z
    match z with
    | none => exact .refl _
    | some none => exact .refl _
    | some (some q0) =>
      refine bnd_mn (evP_mn h p e) fun ri => ?_
      generalize getP ri.reverse q0.2 = u
      match u with
      | none => exact .refl _
      | some d =>
        cases d with
        | lst _ => exact bnd_mn (evs_mn h as e) fun ps => .refl _
        | _ => exact .refl _
  | .dput i k v, e => by
    simp only [ex]
    generalize e[i]? = z
    match z with
    | none => exact .refl _
    | some none => exact .refl _
    | some (some (m, d)) =>
      cases m with
      | sh => exact .refl _
      | fl => exact .refl _
      | dp =>
        cases d with
        | dic ks => exact bnd_mn (ev_mn h k e) fun p => .refl _
        | _ => exact .refl _
  | .exp a, e => by simp only [ex]; exact bnd_mn (ev_mn h a e) fun p => .refl _
  | .ife c a b, e => by
    simp only [ex]
    refine bnd_mn (ev_mn h c e) fun p => ?_
    generalize boolD p.2 = z
    match z with
    | none => exact .non _
    | some true => exact exs_mn h a e
    | some false => exact exs_mn h b e
  | .ret a, e => by simp only [ex]; exact bnd_mn (evr_mn h a e) fun p => .refl _
  | .for_ ts one s b, e => by
    simp only [ex]
    refine bnd_mn (evS_mn h s e) fun p => forL_mn (fun x e1 => ?_) _ _
    generalize bindT ts one x e1 = z
    match z with
    | none => exact .refl _
    | some e2 => exact exs_mn h b e2
  | .whl c b, e => by simp only [ex]; exact whlL_mn (fun e1 => bnd_mn (ev_mn h c e1) fun p => .refl _) (fun e1 => exs_mn h b e1) _ _
  | .rai C, e => by simp only [ex]; exact .refl _
  | .mutF i f o as, e => by
    simp only [ex]
    generalize hz : e[i]? = z
    match z with
    | none => exact .refl _
    | some none => exact .refl _
    | some (some (m, d)) =>
      cases d with
      | ins C g d =>
        cases d with
        | lst xs =>
          show OLe (if g = f ∧ insC C = true then _ else none) (if g = f ∧ insC C = true then _ else none)
          by_cases c : g = f ∧ insC C = true
          · rw [if_pos c, if_pos c]; exact bnd_mn (evs_mn h as e) fun ps => .refl _
          · rw [if_neg c]; exact .non _
        | _ => exact .refl _
      | _ => exact .refl _
  | .each i f x q o es, e => by
    simp only [ex]
    generalize e[i]? = z
    match z with
    | none => exact .refl _
    | some none => exact .refl _
    | some (some (m, d)) =>
      cases m with
      | sh => exact .refl _
      | fl => exact .refl _
      | dp =>
        show OLe (match inF f d with | some (.lst ds) => _ | _ => none) (match inF f d with | some (.lst ds) => _ | _ => none)
        generalize inF f d = u
        match u with
        | none => exact .refl _
        | some d =>
          cases d with
          | lst ds =>
            show OLe (if x = i ∨ e.length ≤ x then none else _) (if x = i ∨ e.length ≤ x then none else _)
            by_cases c : x = i ∨ e.length ≤ x
            · rw [if_pos c]; exact .non _
            · rw [if_neg c, if_neg c]; exact bnd_mn (eachL_mn (fun j e => eachF_mn h i f q o es j e) _ _ _) fun e1 => .refl _
          | _ => exact .refl _
  | .tryE a x cs hs, e => by
    simp only [ex]
    rcases ev_mn h a e with z | z
    · rw [z]; exact .non _
    · rw [z]
      generalize ev G a e = u
      match u with
      | none => exact .non _
      | some (.ok _) => exact .refl _
      | some (.er C) =>
        show OLe (if cs.contains C = true then _ else none) (if cs.contains C = true then _ else none)
        by_cases c : cs.contains C = true
        · rw [if_pos c, if_pos c]
          rcases exs_mn h hs (e.set x (some (.sh, .exc C))) with z | z
          · rw [z]; exact .non _
          · rw [z]; exact .refl _
        · rw [if_neg c]; exact .non _
  | .tryA a x cs hs, e => by
    simp only [ex]
    rcases ev_mn h a e with z | z
    · rw [z]; exact .non _
    · rw [z]
      generalize ev G a e = u
      match u with
      | none => exact .non _
      | some (.ok _) => exact .refl _
      | some (.er C) =>
        show OLe (if cs.contains C = true then _ else none) (if cs.contains C = true then _ else none)
        by_cases c : cs.contains C = true
        · rw [if_pos c, if_pos c]
          rcases exs_mn h hs (e.set x (some (.sh, .exc C))) with z | z
          · rw [z]; exact .non _
          · rw [z]; exact .refl _
        · rw [if_neg c]; exact .non _
  | .popA i x, e => by simp only [ex]; exact .refl _
  | .mutT a o as, e => by
    simp only [ex]
    refine bnd_mn (ev_mn h a e) fun p => ?_
    obtain ⟨m, d⟩ := p
    cases d with
    | lst xs =>
      show OLe (if m = .sh then none else _) (if m = .sh then none else _)
      by_cases c : m = .sh
      · rw [if_pos c]; exact .non _
      · rw [if_neg c, if_neg c]; exact bnd_mn (evs_mn h as e) fun ps => .refl _
    | _ => exact .refl _
  | .forB x es c, e => by
    simp only [ex]
    refine bnd_mn (evs_mn h es e) fun ps => forB_mn (fun d => bnd_mn (ev_mn h c _) fun p => .refl _) _ _
theorem exs_mn {F G : Tb} (h : TLeW F G) : ∀ (ss : List S) (e : Dn), OLe (exs F ss e) (exs G ss e)
  | [], e => by simp only [exs]; exact .refl _
  | s :: ss, e => by
    simp only [exs]
    refine bnd_mn (ex_mn h s e) fun r => ?_
    cases r with
    | nx e1 => exact exs_mn h ss e1
    | rt m d => exact .refl _
end
theorem callF_mn {F G : Tb} (h : TLeW F G) (Fu : Fun) (ds : List D) : OLe (callF F Fu ds) (callF G Fu ds) := by
  unfold callF
  by_cases c : ds.length = Fu.np
  · rw [if_pos c, if_pos c]; exact bnd_mn (exs_mn h _ _) fun r => .refl _
  · rw [if_neg c]; exact .non _
theorem run_succ {P : List Fun} : ∀ k : Nat, TLeW (run P k) (run P (k + 1))
  | 0 => fun f ds => .inl rfl
  | k + 1 => fun f ds => by
    show OLe (match P[f]? with | some F => callF (run P k) F ds | none => none) (match P[f]? with | some F => callF (run P (k + 1)) F ds | none => none)
    cases P[f]? with
    | none => exact .non _
    | some F => exact callF_mn (run_succ k) F ds
theorem run_mn {P : List Fun} (j : Nat) : ∀ k : Nat, TLeW (run P j) (run P (k + j))
  | 0 => fun f ds => by rw [Nat.zero_add]; exact .refl _
  | k + 1 => fun f ds => by
    rw [show k + 1 + j = (k + j) + 1 by omega]
    exact (run_mn j k f ds).trans (run_succ (k + j) f ds)
theorem run_get {P : List Fun} {j k f : Nat} {ds : List D} {r : Ex (Md × D)} (h : run P j f ds = some r) (hk : j ≤ k) : run P k f ds = some r := by
  have := run_mn (P := P) j (k - j) f ds
  rw [show k - j + j = k by omega] at this
  exact this.get h
def runS (sp : Tb) (P : List Fun) : Nat → Tb
  | 0, f, ds => sp f ds
  | k + 1, f, ds => match sp f ds with
    | some r => some r
    | none => match P[f]? with
      | some Fu => callF (runS sp P k) Fu ds
      | none => none
theorem runS_mn {sp : Tb} {P : List Fun} {K0 : Nat} (h : TLeW sp (run P K0)) : ∀ k : Nat, TLeW (runS sp P k) (run P (k + K0))
  | 0 => fun f ds => by rw [Nat.zero_add]; exact h f ds
  | k + 1 => fun f ds => by
    show OLe (match sp f ds with | some r => some r | none => match P[f]? with | some Fu => callF (runS sp P k) Fu ds | none => none) _
    cases e : sp f ds with
    | some r => exact .inr ((run_mn K0 (k + 1) f ds).get ((h f ds).get e)).symm
    | none =>
      rw [show k + 1 + K0 = (k + K0) + 1 by omega]
      show OLe (match P[f]? with | some Fu => callF (runS sp P k) Fu ds | none => none) (match P[f]? with | some Fu => callF (run P (k + K0)) Fu ds | none => none)
      cases P[f]? with
      | none => exact .non _
      | some F => exact callF_mn (runS_mn h k) F ds
end TW

set_option Elab.async false
set_option linter.all false
set_option maxRecDepth 100000
set_option maxHeartbeats 4000000
namespace TW
open PySem PySem.Spec PyProof.Rows L2
def isNx : M Fl → Bool
  | some (.ok (.nx _)) => true
  | _ => false
def getNx : M Fl → Dn
  | some (.ok (.nx e)) => e
  | _ => []
theorem nx_of {x : M Fl} (h : isNx x = true) : x = some (.ok (.nx (getNx x))) := by
  match x, h with
  | some (.ok (.nx e)), _ => rfl
def is1 : M (Md × D) → Bool
  | some (.ok (.dp, .bl true)) => true
  | _ => false
theorem is1_of {x : M (Md × D)} (h : is1 x = true) : x = some (.ok (.dp, .bl true)) := by
  match x, h with
  | some (.ok (.dp, .bl true)), _ => rfl
def is1F : M Fl → Bool
  | some (.ok (.rt .dp (.bl true))) => true
  | _ => false
theorem is1F_of {x : M Fl} (h : is1F x = true) : x = some (.ok (.rt .dp (.bl true))) := by
  match x, h with
  | some (.ok (.rt .dp (.bl true))), _ => rfl
abbrev thenS (F : Tb) (ss : List S) (x : M Fl) : M Fl := bnd x fun r => match r with
  | .nx e1 => exs F ss e1
  | .rt m d => ok (.rt m d)
section
variable {F : Tb} {Γ : Dn} {ss : List S}
theorem exs_appW : ∀ (a b : List S) (Γ : Dn), exs F (a ++ b) Γ = thenS F b (exs F a Γ)
  | [], b, Γ => by simp only [List.nil_append, exs]; rfl
  | s :: a, b, Γ => by
    simp only [List.cons_append, exs]
    cases ex F s Γ with
    | none => rfl
    | some r =>
      cases r with
      | er C => rfl
      | ok fl =>
        cases fl with
        | nx e => exact exs_appW a b e
        | rt m d => rfl
theorem go (n : Nat) (h : isNx (exs F (ss.take n) Γ) = true) : exs F ss Γ = exs F (ss.drop n) (getNx (exs F (ss.take n) Γ)) := by
  have := exs_appW (F := F) (ss.take n) (ss.drop n) Γ
  rw [List.take_append_drop] at this
  rw [this, nx_of h]
  rfl
theorem go_asg {i : Nat} {a : E} {m : Md} {d : D} (h : ev F a Γ = some (.ok (m, d))) : exs F (.asg i a :: ss) Γ = exs F ss ((give (nm a) m d Γ).set i (some (keep m d))) := by
  simp only [exs, ex, h] <;> rfl
theorem go_for {ts : List Nat} {one : Bool} {s : Sr} {b : List S} {q : M (Md × List D)} (h : evS F s Γ = q) : exs F (.for_ ts one s b :: ss) Γ = thenS F ss (bnd q fun p => forL (fun x e1 => match bindT ts one x e1 with
      | none => none
      | some e2 => exs F b e2) p.2 (if p.1 = .dp then Γ else frz (nmS s) Γ)) := by
  simp only [exs, ex, h] <;> rfl
theorem callF_of {Fu : Fun} {ds : List D} (hn : ds.length = Fu.np) (h : exs F Fu.body (start0 Fu.np Fu.nv ds) = some (.ok (.rt .dp (.bl true)))) : callF F Fu ds = some (.ok (.dp, .bl true)) := by
  unfold callF
  rw [if_pos hn, h]
  rfl
end
theorem run_of {P : List Fun} {k f : Nat} {Fu : Fun} {ds : List D} (hf : P[f]? = some Fu) (hn : ds.length = Fu.np) (h : exs (run P k) Fu.body (start0 Fu.np Fu.nv ds) = some (.ok (.rt .dp (.bl true)))) : run P (k + 1) f ds = some (.ok (.dp, .bl true)) := by
  show (match P[f]? with | some F => callF (run P k) F ds | none => none) = _
  rw [hf]
  exact callF_of hn h
mutual
def sameD : D → D → Bool
  | .non, .non => true
  | .bl a, .bl b => a == b
  | .int a, .int b => decide (a = b)
  | .tup a, .tup b => sameDs a b
  | .lst a, .lst b => sameDs a b
  | _, _ => false
def sameDs : List D → List D → Bool
  | [], [] => true
  | a :: r, b :: s => sameD a b && sameDs r s
  | _, _ => false
end
mutual
theorem sameD_eq : ∀ (a b : D), sameD a b = true → a = b
  | .non, .non, _ => rfl
  | .bl a, .bl b, h => by rw [eq_of_beq (show (a == b) = true from h)]
  | .int a, .int b, h => by rw [of_decide_eq_true (show decide (a = b) = true from h)]
  | .tup a, .tup b, h => by rw [sameDs_eq a b h]
  | .lst a, .lst b, h => by rw [sameDs_eq a b h]
theorem sameDs_eq : ∀ (a b : List D), sameDs a b = true → a = b
  | [], [], _ => rfl
  | a :: r, b :: s, h => by
    obtain ⟨h1, h2⟩ := Bool.and_eq_true_iff.mp (show (sameD a b && sameDs r s) = true from h)
    rw [sameD_eq a b h1, sameDs_eq r s h2]
end
theorem OLe.of {α : Type} {x y : Option α} (h : ∀ r, x = some r → y = some r) : OLe x y := by
  cases x with
  | none => exact .inl rfl
  | some r => exact .inr (h r rfl).symm
theorem ev_bi1 {F : Tb} {b : Bi} {a : E} {e : Dn} : ev F (.bi b [a]) e = bnd (ev F a e) fun p => lift (biD b [p.2]) := by
  simp only [ev, evs]
  cases ev F a e with
  | none => rfl
  | some r => cases r <;> rfl
theorem sum63W {F : Tb} {d : D} {r : List Sl} (h : (∃ ns : List Int, d = .scr ns) ∨ ∃ ns : List Int, d = .lst (eI ns)) : ∃ M : Int, ev F (.bi .abs [.bi .sum [.slc false true (.var 0) (.lit .non) (.lit (.int 63))]]) (some (.sh, d) :: r) = some (.ok (.dp, .int M)) := by
  have key : ∀ xs : List Int, intsD (eI xs) = some xs := fun xs => by
    induction xs with
    | nil => rfl
    | cons x r ih =>
      show (intsD (eI r)).map (x :: ·) = _
      rw [ih]
      rfl
  have fin : ∀ (xs : List Int), bnd (lift (biD .sum [D.lst (eI xs)]) : M (Md × D)) (fun p => lift (biD .abs [p.2])) = some (.ok (.dp, .int (if xs.sum < 0 then -xs.sum else xs.sum))) := fun xs => by
    show bnd (lift (((listD (D.lst (eI xs))).bind intsD).map fun ns => (Md.dp, D.int ns.sum))) _ = _
    rw [show (listD (D.lst (eI xs))).bind intsD = some xs from key xs]
    rfl
  have go : ∀ (m : Md) (xs : List Int), ev F (.slc false true (.var 0) (.lit .non) (.lit (.int 63))) (some (.sh, d) :: r) = some (.ok (m, .lst (eI xs))) → ∃ M : Int, ev F (.bi .abs [.bi .sum [.slc false true (.var 0) (.lit .non) (.lit (.int 63))]]) (some (.sh, d) :: r) = some (.ok (.dp, .int M)) := fun m xs e => by
    rw [ev_bi1, ev_bi1, e]
    exact ⟨_, fin xs⟩
  rcases h with ⟨ns, rfl⟩ | ⟨ns, rfl⟩
  · exact go .dp (cutL ns none (some 63)) rfl
  · refine go .fl (cutL ns none (some 63)) ?_
    show some (Ex.ok (Md.fl, D.lst (cutL (eI ns) none (some 63)))) = _
    unfold cutL
    simp only [List.length_map, List.map_take, List.map_drop]
end TW

set_option Elab.async false
set_option linter.all false
set_option maxRecDepth 100000
set_option maxHeartbeats 4000000
namespace TW
open PySem PySem.Spec PyProof.Rows L2

@[simp] theorem bnd_ok {α β : Type} (a : α) (f : α → M β) : bnd (some (.ok a)) f = f a := rfl
@[simp] theorem bnd_err {α β : Type} (C : Nat) (f : α → M β) : bnd (some (.er C)) f = some (.er C) := rfl
@[simp] theorem lift_some {α : Type} (a : α) : lift (some a) = some (.ok a) := rfl
@[simp] theorem boolD_bl (b : Bool) : boolD (.bl b) = some b := rfl
@[simp] theorem intD_int (i : Int) : intD (.int i) = some i := rfl
@[simp] theorem isi_int_int (i : Int) : isiD (.int i) .int = some true := rfl
@[simp] theorem isi_int_bool (i : Int) : isiD (.int i) .bool = some false := rfl
@[simp] theorem isi_tup_tup (ds : List D) : isiD (.tup ds) .tuple = some true := rfl
@[simp] theorem isi_lst_lst (ds : List D) : isiD (.lst ds) .list = some true := rfl
@[simp] theorem scal_int (i : Int) : scal (.int i) = true := rfl
@[simp] theorem scal_bl (i : Bool) : scal (.bl i) = true := rfl
@[simp] theorem scal_non : scal .non = true := rfl
@[simp] theorem scal_lst (ds : List D) : scal (.lst ds) = false := rfl
@[simp] theorem scal_tup (ds : List D) : scal (.tup ds) = false := rfl
@[simp] theorem cmp_le (i j : Int) : cmpD .le (.int i) (.int j) = some (decide (i ≤ j)) := rfl
@[simp] theorem cmp_lt (i j : Int) : cmpD .lt (.int i) (.int j) = some (decide (i < j)) := rfl
@[simp] theorem cmp_gt (i j : Int) : cmpD .gt (.int i) (.int j) = some (decide (j < i)) := rfl
@[simp] theorem cmp_ge (i j : Int) : cmpD .ge (.int i) (.int j) = some (decide (j ≤ i)) := rfl
@[simp] theorem cmp_ltP (p q : Int × Int) : cmpD .lt (eP p) (eP q) = some (ltP2 p q) := rfl
@[simp] theorem cmp_eqI (i j : Int) : cmpD .eq (.int i) (.int j) = some (decide (i = j)) := rfl
@[simp] theorem cmp_neI (i j : Int) : cmpD .ne (.int i) (.int j) = some (!decide (i = j)) := rfl
@[simp] theorem bin_add (i j : Int) : binD .add (.int i) (.int j) = some (.dp, .int (i + j)) := rfl
@[simp] theorem bin_sub (i j : Int) : binD .sub (.int i) (.int j) = some (.dp, .int (i - j)) := rfl
@[simp] theorem bi_lenT (ds : List D) : biD .len [.tup ds] = some (.dp, .int ds.length) := rfl
@[simp] theorem bi_lenL (ds : List D) : biD .len [.lst ds] = some (.dp, .int ds.length) := rfl
@[simp] theorem sub_t0 (a : D) (r : List D) : subD (.tup (a :: r)) (.int 0) = some a := by
  show atI (a :: r) 0 = some a
  exact atI_nat (j := 0) rfl
@[simp] theorem sub_t1 (a b : D) (r : List D) : subD (.tup (a :: b :: r)) (.int 1) = some b := by
  show atI (a :: b :: r) 1 = some b
  exact atI_nat (j := 1) rfl
theorem blsD_map {α : Type} (g : α → Bool) : ∀ xs : List α, blsD (xs.map fun x => .bl (g x)) = some (xs.map g)
  | [] => rfl
  | x :: xs => by simp [blsD, blsD_map g xs]
theorem bi_all {α : Type} (g : α → Bool) (xs : List α) : biD .all [.lst (xs.map fun x => .bl (g x))] = some (.dp, .bl (xs.all g)) := by
  show (blsD (xs.map fun x => .bl (g x))).map _ = _
  rw [blsD_map]
  simp [List.all_map]
theorem zipD_map {α β : Type} (f : α → D) (g : β → D) : ∀ (xs : List α) (ys : List β), zipD (xs.map f) (ys.map g) = (xs.zip ys).map fun p => .tup [f p.1, g p.2]
  | [], ys => by cases ys <;> rfl
  | x :: xs, [] => rfl
  | x :: xs, y :: ys => by simp [zipD, zipD_map f g xs ys]
abbrev webD (n : Int) (ts : List (Int × Int)) : D := .tup [.int n, .lst (ts.map eP)]
structure Web (n : Int) (ts : List (Int × Int)) : Prop where
  lo : 0 ≤ n
  hi : n ≤ 24
  len : ts.length ≤ 66
  ok : ∀ p ∈ ts, 0 ≤ p.1 ∧ p.1 < p.2 ∧ p.2 < n
  ris : ts.Pairwise (fun a b => ltP2 a b = true)
end TW

set_option Elab.async false
set_option linter.all false
set_option maxRecDepth 100000
set_option maxHeartbeats 4000000
namespace TW
open PySem PySem.Spec PyProof.Rows L2

def Bd (b : Nat) (i : Int) : Prop := i.natAbs < 2 ^ b
theorem Bd.up {b c : Nat} {i : Int} (h : Bd b i) (hc : b ≤ c) : Bd c i := Nat.lt_of_lt_of_le h (Nat.pow_le_pow_right (by decide) hc)
theorem Bd.add {b : Nat} {i j : Int} (h : Bd b i) (k : Bd b j) : Bd (b + 1) (i + j) := by
  have h1 : i.natAbs < 2 ^ b := h
  have h2 : j.natAbs < 2 ^ b := k
  have h3 := Int.natAbs_add_le i j
  show (i + j).natAbs < 2 ^ (b + 1)
  rw [Nat.pow_succ]
  omega
theorem Bd.mul {b c : Nat} {i j : Int} (h : Bd b i) (k : Bd c j) : Bd (b + c) (i * j) := by
  show (i * j).natAbs < 2 ^ (b + c)
  rw [Int.natAbs_mul, Nat.pow_add]
  exact Nat.mul_lt_mul'' h k
theorem Bd.log2 {b : Nat} {i : Int} (h : Bd b i) : i.natAbs.log2 ≤ b := by
  by_cases e : i.natAbs = 0
  · rw [e]; simp
  · exact Nat.le_of_lt ((Nat.log2_lt e).mpr h)
theorem Bd.of {b : Nat} {i : Int} (h : i.natAbs < 2 ^ b) : Bd b i := h
@[simp] theorem intsD_eI : ∀ ns : List Int, intsD (ns.map D.int) = some ns
  | [] => rfl
  | n :: ns => by simp [intsD, intsD_eI ns]
@[simp] theorem prsD_eP : ∀ ps : List (Int × Int), prsD (ps.map eP) = some ps
  | [] => rfl
  | p :: ps => by
    show (prsD (ps.map eP)).map _ = _
    rw [prsD_eP ps]
    rfl
end TW

set_option Elab.async false
set_option linter.all false
set_option maxRecDepth 100000
set_option maxHeartbeats 4000000
namespace TW
open PySem PySem.Spec PyProof.Rows L2

@[simp] theorem sub_t2 (a b c : D) (r : List D) : subD (.tup (a :: b :: c :: r)) (.int 2) = some c := by
  show atI (a :: b :: c :: r) 2 = some c
  exact atI_nat (j := 2) rfl
@[simp] theorem sub_t3 (a b c d : D) (r : List D) : subD (.tup (a :: b :: c :: d :: r)) (.int 3) = some d := by
  show atI (a :: b :: c :: d :: r) 3 = some d
  exact atI_nat (j := 3) rfl
@[simp] theorem sub_t4 (a b c d e : D) (r : List D) : subD (.tup (a :: b :: c :: d :: e :: r)) (.int 4) = some e := by
  show atI (a :: b :: c :: d :: e :: r) 4 = some e
  exact atI_nat (j := 4) rfl
@[simp] theorem ite_snd {α β : Type} {c : Prop} [Decidable c] (a b : α) (d : β) : (if c then (a, d) else (b, d)).2 = d := by split <;> rfl
@[simp] theorem closed_dp (d : D) : closed .dp d = true := rfl
@[simp] theorem closed_int (m : Md) (i : Int) : closed m (.int i) = true := by cases m <;> rfl
@[simp] theorem closed_bl (m : Md) (i : Bool) : closed m (.bl i) = true := by cases m <;> rfl
@[simp] theorem closed_non (m : Md) : closed m .non = true := by cases m <;> rfl
@[simp] theorem closed_P (m : Md) (p : Int × Int) : closed m (eP p) = true := by cases m <;> rfl
structure Fnd (n : Int) (fs : List (Int × Int)) : Prop where
  ok : ∀ p ∈ fs, 0 ≤ p.1 ∧ p.1 < p.2 ∧ p.2 < n
  nd : fs.Nodup
end TW

set_option Elab.async false
set_option linter.all false
set_option maxRecDepth 100000
set_option maxHeartbeats 4000000
namespace TW
open PySem PySem.Spec PyProof.Rows L2

end TW

set_option Elab.async false
set_option linter.all false
set_option maxRecDepth 100000
set_option maxHeartbeats 4000000
namespace TW
open PySem PySem.Spec PyProof.Rows L2

abbrev rowD (N : Nat) (f : Nat → List Int) : D := .lst ((List.range N).map fun p => eIL (f p))
def nb (ts : List (Int × Int)) (p : Int) : List Int := ts.flatMap fun t => if t.1 = p then [t.2] else if t.2 = p then [t.1] else []
abbrev nearD (n : Int) (ts : List (Int × Int)) : D := rowD n.toNat fun p => isortB ltZ (nb ts p)
end TW

set_option Elab.async false
set_option linter.all false
set_option maxRecDepth 100000
set_option maxHeartbeats 4000000
namespace TW
open PySem PySem.Spec PyProof.Rows L2

def shr (a b : Int × Int) : Bool := (decide (b.1 = a.1) || decide (b.2 = a.1)) || (decide (b.1 = a.2) || decide (b.2 = a.2))
end TW

set_option Elab.async false
set_option linter.all false
set_option maxRecDepth 100000
set_option maxHeartbeats 4000000
namespace TW
open PySem PySem.Spec PyProof.Rows L2

abbrev two (d : Int) : Int := d * (d - 1) / 2
end TW

set_option Elab.async false
set_option linter.all false
set_option maxRecDepth 100000
set_option maxHeartbeats 4000000
namespace TW
open PySem PySem.Spec PyProof.Rows L2

end TW

set_option Elab.async false
set_option linter.all false
set_option maxRecDepth 100000
set_option maxHeartbeats 4000000
namespace TW
open PySem PySem.Spec PyProof.Rows L2

end TW

set_option Elab.async false
set_option linter.all false
set_option maxRecDepth 100000
set_option maxHeartbeats 4000000
namespace TW
open PySem PySem.Spec PyProof.Rows L2

section
variable (F : Tb) (e : Dn)
end
theorem give_eq (is : List Nat) (m : Md) (d : D) (e : Dn) : give is m d e = if closed m d = true then e else if is.any (fun i => match e[i]? with | some s => ownS s | none => false) = true then frz is e else e := by
  unfold give
  cases closed m d
  · rfl
  · show (if _ then e else e) = e
    split <;> rfl
theorem gives_eq (is : List Nat) (ps : List (Md × D)) (e : Dn) : gives is ps e = if closeds ps = true then e else if is.any (fun i => match e[i]? with | some s => ownS s | none => false) = true then frz is e else e := by
  unfold gives
  cases closeds ps
  · rfl
  · show (if _ then e else e) = e
    split <;> rfl

theorem compL_gen {α : Type} {enc : α → D} {f : D → Option (Option (Md × D))} {p : α → Bool} {g : α → Md × D} : ∀ {xs : List α}, (∀ x ∈ xs, f (enc x) = some (if p x = true then some (g x) else none)) → compL f (xs.map enc) = some ((xs.filter p).map g)
  | [], _ => rfl
  | x :: xs, h => by
    have h1 := h x List.mem_cons_self
    have ih := compL_gen (xs := xs) fun y hy => h y (List.mem_cons_of_mem _ hy)
    rw [List.map_cons, compL, h1, List.filter_cons]
    by_cases hp : p x = true
    · simp only [hp, if_true, ih]
      rfl
    · simp only [hp, if_false, ih]
      simp
theorem ev_comp {F : Tb} {ts : List Nat} {one : Bool} {s : Sr} {cs : List E} {a : E} {e : Dn} {α : Type} {m : Md} (enc : α → D) (xs : List α) (p : α → Bool) (g : α → Md × D)
    (hs : evS F s e = some (.ok (m, xs.map enc)))
    (hb : ∀ x ∈ xs, ∃ e1, bindT ts one (enc x) e = some e1 ∧ evC F cs e1 = some (.ok (p x)) ∧ (p x = true → ev F a e1 = some (.ok (g x)))) :
    ev F (.comp ts one s cs a) e = some (.ok (boxM ((xs.filter p).map g), .lst ((xs.filter p).map fun x => (g x).2))) := by
  simp only [ev, hs, bnd_ok]
  rw [compL_gen (p := p) (g := g) (fun x hx => by
    obtain ⟨e1, h1, h2, h3⟩ := hb x hx
    rw [h1]
    simp only [Option.bind_some, h2, okOnly]
    by_cases hp : p x = true
    · simp [hp, h3 hp, okOnly]
    · simp [hp])]
  simp [List.map_map, Function.comp_def]
theorem closeds_all {ps : List (Md × D)} (h : ∀ p ∈ ps, closed p.1 p.2 = true) : closeds ps = true := by
  induction ps with
  | nil => rfl
  | cons p ps ih => simp [closeds, h p List.mem_cons_self, ih fun q hq => h q (List.mem_cons_of_mem _ hq)]
end TW

set_option linter.all false
namespace TW
end TW

set_option Elab.async false
set_option linter.all false
set_option maxRecDepth 100000
set_option maxHeartbeats 4000000
namespace TW
open PySem PySem.Spec PyProof.Rows L2

theorem dats_I : ∀ (xs : List Int) (n : Nat), dats (xs.map D.int) n = true
  | [], _ => rfl
  | x :: xs, n => by
    show (true && dats (xs.map D.int) n) = true
    rw [dats_I xs]
    rfl
theorem in_I (x : Int) (xs : List Int) : inD (.int x) (.lst (xs.map D.int)) = some (decide (x ∈ xs)) := by
  have h1 : dat (.int x) 20 = true := rfl
  show (if dat (.int x) 20 && dats (xs.map D.int) 20 then some ((xs.map D.int).any fun z => eqD z (.int x)) else none) = _
  rw [h1, dats_I]
  simp only [Bool.and_self, if_true, List.any_map]
  congr 1
  rw [Bool.eq_iff_iff]
  simp only [List.any_eq_true, Function.comp_apply, decide_eq_true_eq]
  have e : ∀ a b : Int, eqD (.int a) (.int b) = true ↔ a = b := fun a b => by
    show (a == b) = true ↔ _
    simp
  constructor
  · rintro ⟨y, hy, h⟩
    rw [← (e _ _).mp h]
    exact hy
  · intro h
    exact ⟨x, h, (e _ _).mpr rfl⟩
@[simp] theorem isin_I (x : Int) (xs : List Int) : cmpD .isin (.int x) (.lst (xs.map D.int)) = some (decide (x ∈ xs)) := in_I x xs
@[simp] theorem notin_I (x : Int) (xs : List Int) : cmpD .notin (.int x) (.lst (xs.map D.int)) = some (!decide (x ∈ xs)) := by
  show (inD (.int x) (.lst (xs.map D.int))).map _ = _
  rw [in_I]
  rfl
@[simp] theorem sub_l0 (a : D) (r : List D) : subD (.lst (a :: r)) (.int 0) = some a := by
  show atI (a :: r) 0 = some a
  exact atI_nat (j := 0) rfl
theorem lfrees_I : ∀ xs : List Int, lfrees (xs.map D.int) = true
  | [] => rfl
  | x :: xs => by
    show (true && lfrees (xs.map D.int)) = true
    rw [lfrees_I xs]
    rfl
theorem lfrees_P : ∀ xs : List (Int × Int), lfrees (xs.map eP) = true
  | [] => rfl
  | x :: xs => by
    show (true && lfrees (xs.map eP)) = true
    rw [lfrees_P xs]
    rfl
@[simp] theorem closed_flI (xs : List Int) : closed .fl (.lst (xs.map D.int)) = true := lfrees_I xs
@[simp] theorem closed_flP (xs : List (Int × Int)) : closed .fl (.lst (xs.map eP)) = true := lfrees_P xs
@[simp] theorem closed_flP' (xs : List (Int × Int)) : closed .fl (.lst (xs.map fun p => D.tup [.int p.1, .int p.2])) = true := lfrees_P xs
@[simp] theorem closed_shL (ds : List D) : closed .sh (.lst ds) = false := rfl
end TW

set_option Elab.async false
set_option linter.all false
set_option maxRecDepth 100000
set_option maxHeartbeats 4000000
namespace TW
open PySem PySem.Spec PyProof.Rows L2

def Md.le : Md → Md → Bool
  | .sh, _ => true
  | .fl, .sh => false
  | .fl, _ => true
  | .dp, .dp => true
  | .dp, _ => false
theorem Md.le_refl (m : Md) : Md.le m m = true := by cases m <;> rfl
theorem Md.le_trans {a b c : Md} (h : Md.le a b = true) (k : Md.le b c = true) : Md.le a c = true := by revert h k; cases a <;> cases b <;> cases c <;> decide
theorem Md.dp_le {m : Md} (h : Md.le .dp m = true) : m = .dp := by cases m <;> first | rfl | cases h
def PLe (p q : Md × D) : Prop := p.2 = q.2 ∧ Md.le p.1 q.1 = true
theorem PLe.refl (p : Md × D) : PLe p p := ⟨rfl, Md.le_refl _⟩
theorem PLe.trans {p q r : Md × D} (h : PLe p q) (k : PLe q r) : PLe p r := ⟨h.1.trans k.1, Md.le_trans h.2 k.2⟩
def SLe : Sl → Sl → Prop
  | none, _ => True
  | some p, some q => PLe p q
  | some _, none => False
theorem SLe.refl : ∀ s : Sl, SLe s s
  | none => trivial
  | some p => PLe.refl p
theorem SLe.trans : ∀ {a b c : Sl}, SLe a b → SLe b c → SLe a c
  | none, _, _, _, _ => trivial
  | some p, some q, some r, h, k => PLe.trans h k
  | some p, some q, none, h, k => k.elim
  | some p, none, _, h, _ => h.elim
def ELe : Dn → Dn → Prop
  | [], [] => True
  | g :: Γ, s :: e => SLe g s ∧ ELe Γ e
  | [], _ :: _ => False
  | _ :: _, [] => False
theorem ELe.refl : ∀ e : Dn, ELe e e
  | [] => trivial
  | s :: e => ⟨SLe.refl s, ELe.refl e⟩
theorem ELe.trans : ∀ {a b c : Dn}, ELe a b → ELe b c → ELe a c
  | [], [], [], _, _ => trivial
  | _ :: _, _ :: _, _ :: _, h, k => ⟨h.1.trans k.1, ELe.trans h.2 k.2⟩
  | [], _ :: _, _, h, _ => h.elim
  | _ :: _, [], _, h, _ => h.elim
  | [], [], _ :: _, _, k => k.elim
  | _ :: _, _ :: _, [], _, k => k.elim
theorem ELe.get : ∀ {Γ e : Dn}, ELe Γ e → ∀ (i : Nat) (p : Md × D), Γ[i]? = some (some p) → ∃ q, e[i]? = some (some q) ∧ PLe p q
  | [], [], _, i, p, hp => by simp at hp
  | g :: Γ, s :: e, h, 0, p, hp => by
    simp at hp
    subst hp
    match s, h.1 with
    | some q, hq => exact ⟨q, rfl, hq⟩
    | none, hq => exact hq.elim
  | g :: Γ, s :: e, h, i + 1, p, hp => by
    have := ELe.get h.2 i p (by simpa using hp)
    simpa using this
  | [], _ :: _, h, _, _, _ => h.elim
  | _ :: _, [], h, _, _, _ => h.elim
theorem ELe.set : ∀ {Γ e : Dn}, ELe Γ e → ∀ (i : Nat) {s t : Sl}, SLe s t → ELe (Γ.set i s) (e.set i t)
  | [], [], _, i, s, t, h => trivial
  | g :: Γ, u :: e, h, 0, s, t, k => ⟨k, h.2⟩
  | g :: Γ, u :: e, h, i + 1, s, t, k => ⟨h.1, ELe.set h.2 i k⟩
  | [], _ :: _, h, _, _, _, _ => h.elim
  | _ :: _, [], h, _, _, _, _ => h.elim
theorem ELe.len : ∀ {Γ e : Dn}, ELe Γ e → Γ.length = e.length
  | [], [], _ => rfl
  | g :: Γ, u :: e, h => by rw [List.length_cons, List.length_cons, ELe.len h.2]
  | [], _ :: _, h => h.elim
  | _ :: _, [], h => h.elim
theorem ELe.nth : ∀ {Γ e : Dn}, ELe Γ e → ∀ (i : Nat), (Γ[i]? = none ∧ e[i]? = none) ∨ ∃ s t, Γ[i]? = some s ∧ e[i]? = some t ∧ SLe s t
  | [], [], _, i => .inl ⟨by simp, by simp⟩
  | g :: Γ, u :: e, h, 0 => .inr ⟨g, u, rfl, rfl, h.1⟩
  | g :: Γ, u :: e, h, i + 1 => by
    have := ELe.nth h.2 i
    simpa using this
  | [], _ :: _, h, _ => h.elim
  | _ :: _, [], h, _ => h.elim
def MLe {α β : Type} (R : α → β → Prop) : M α → M β → Prop
  | none, _ => True
  | some (.er C), r => r = some (.er C)
  | some (.ok a), r => ∃ b, r = some (.ok b) ∧ R a b
section
variable {α β γ δ : Type}
theorem MLe.bnd {R : α → β → Prop} {S : γ → δ → Prop} {x : M α} {y : M β} {f : α → M γ} {g : β → M δ} (h : MLe R x y) (k : ∀ a b, R a b → MLe S (f a) (g b)) : MLe S (TW.bnd x f) (TW.bnd y g) := by
  match x, h with
  | none, _ => exact trivial
  | some (.er C), h =>
    have h : y = some (.er C) := h
    subst h
    exact rfl
  | some (.ok a), h =>
    obtain ⟨b, rfl, hb⟩ := h
    exact k a b hb
theorem MLe.lift_ {R : α → β → Prop} {x : Option α} {y : Option β} (h : ∀ a, x = some a → ∃ b, y = some b ∧ R a b) : MLe R (lift x) (lift y) := by
  cases x with
  | none => exact trivial
  | some a =>
    obtain ⟨b, rfl, hb⟩ := h a rfl
    exact ⟨b, rfl, hb⟩
theorem MLe.lift_refl {R : α → α → Prop} (hr : ∀ a, R a a) (x : Option α) : MLe R (lift x) (lift x) := MLe.lift_ fun a h => ⟨a, h, hr a⟩
end
def PsLe : List (Md × D) → List (Md × D) → Prop
  | [], [] => True
  | p :: ps, q :: qs => PLe p q ∧ PsLe ps qs
  | [], _ :: _ => False
  | _ :: _, [] => False
theorem PsLe.snd : ∀ {ps qs : List (Md × D)}, PsLe ps qs → ps.map Prod.snd = qs.map Prod.snd
  | [], [], _ => rfl
  | p :: ps, q :: qs, h => by rw [List.map_cons, List.map_cons, h.1.1, PsLe.snd h.2]
  | [], _ :: _, h => h.elim
  | _ :: _, [], h => h.elim
theorem closed_le {d : D} {m n : Md} (h : Md.le m n = true) (c : closed m d = true) : closed n d = true := by
  cases m <;> cases n <;> first | exact c | rfl | cases h | skip
  have c : lfree d = true := c
  cases d <;> first | exact c | rfl | (simp [lfree] at c)
theorem closed_PLe {p q : Md × D} (h : PLe p q) (c : closed p.1 p.2 = true) : closed q.1 q.2 = true := by
  rw [← h.1]
  exact closed_le h.2 c
theorem closeds_le : ∀ {ps qs : List (Md × D)}, PsLe ps qs → closeds ps = true → closeds qs = true
  | [], [], _, _ => rfl
  | p :: ps, q :: qs, h, c => by
    simp only [closeds, Bool.and_eq_true] at c ⊢
    exact ⟨closed_PLe h.1 c.1, closeds_le h.2 c.2⟩
  | [], _ :: _, h, _ => h.elim
  | _ :: _, [], h, _ => h.elim
theorem boxM_le {ps qs : List (Md × D)} (h : PsLe ps qs) : Md.le (boxM ps) (boxM qs) = true := by
  unfold boxM
  cases e : closeds ps with
  | true => rw [closeds_le h e]; rfl
  | false => cases closeds qs <;> rfl
theorem tupM_le {ps qs : List (Md × D)} (h : PsLe ps qs) : Md.le (tupM ps) (tupM qs) = true := by
  unfold tupM
  cases e : closeds ps with
  | true => rw [closeds_le h e]; rfl
  | false => cases closeds qs <;> rfl
theorem keep_le {p q : Md × D} (h : PLe p q) : PLe (keep p.1 p.2) (keep q.1 q.2) := by
  unfold keep
  rw [← h.1]
  cases scal p.2
  · exact ⟨rfl, h.2⟩
  · exact ⟨rfl, rfl⟩
theorem bindT_le {ts : List Nat} {one : Bool} {x : D} {Γ e : Dn} (h : ELe Γ e) : ∀ Γ1, bindT ts one x Γ = some Γ1 → ∃ e1, bindT ts one x e = some e1 ∧ ELe Γ1 e1 := by
  intro Γ1 hb
  unfold bindT at hb ⊢
  split at hb
  · cases hb
    exact ⟨_, rfl, h.set _ (SLe.refl _)⟩
  · cases hb
    exact ⟨_, rfl, (h.set _ (SLe.refl _)).set _ (SLe.refl _)⟩
  · cases hb
    exact ⟨_, rfl, (h.set _ (SLe.refl _)).set _ (SLe.refl _)⟩
  · cases hb
    exact ⟨_, rfl, (((h.set _ (SLe.refl _)).set _ (SLe.refl _)).set _ (SLe.refl _)).set _ (SLe.refl _)⟩
  · cases hb
def OOLe : Option (Option (Md × D)) → Option (Option (Md × D)) → Prop
  | none, _ => True
  | some none, r => r = some none
  | some (some p), r => ∃ q, r = some (some q) ∧ PLe p q
theorem compL_le {f g : D → Option (Option (Md × D))} (h : ∀ x, OOLe (f x) (g x)) : ∀ (xs : List D) (ps : List (Md × D)), compL f xs = some ps → ∃ qs, compL g xs = some qs ∧ PsLe ps qs
  | [], ps, hp => by
    cases hp
    exact ⟨[], rfl, trivial⟩
  | x :: xs, ps, hp => by
    have hx := h x
    unfold compL at hp ⊢
    match e : f x, hp, hx with
    | none, hp, _ => cases hp
    | some none, hp, hx =>
      have hx : g x = some none := hx
      rw [hx]
      exact compL_le h xs ps hp
    | some (some p), hp, hx =>
      obtain ⟨q, hq, hl⟩ := hx
      rw [hq]
      cases e2 : compL f xs with
      | none => rw [e2] at hp; cases hp
      | some r =>
        rw [e2] at hp
        cases hp
        obtain ⟨qs, h1, h2⟩ := compL_le h xs r e2
        refine ⟨q :: qs, ?_, hl, h2⟩
        simp only [h1]
        rfl
theorem okOnly_le {α β : Type} {R : α → β → Prop} {x : M α} {y : M β} (h : MLe R x y) {a : α} (ha : okOnly x = some a) : ∃ b, okOnly y = some b ∧ R a b := by
  match x, h, ha with
  | none, _, ha => cases ha
  | some (.er C), _, ha => cases ha
  | some (.ok a'), h, ha =>
    cases ha
    obtain ⟨b, rfl, hb⟩ := h
    exact ⟨b, rfl, hb⟩
def SrLe (p q : Md × List D) : Prop := p.2 = q.2 ∧ Md.le p.1 q.1 = true
section
variable (F : Tb)
theorem mle_refl (x : M (Md × D)) : MLe PLe x x := by
  match x with
  | none => exact trivial
  | some (.er C) => exact rfl
  | some (.ok p) => exact ⟨p, rfl, PLe.refl _⟩
theorem capD_le : ∀ (js : List Nat) {Γ e : Dn}, ELe Γ e → capD js Γ = none ∨ ∃ cs, capD js Γ = some cs ∧ capD js e = some cs
  | [], Γ, e, h => .inr ⟨[], rfl, rfl⟩
  | i :: is, Γ, e, h => by
    rcases h.nth i with ⟨e1, e2⟩ | ⟨s, t, e1, e2, hst⟩
    · exact .inl (by simp only [capD, e1])
    · match s, t, hst with
      | none, _, _ => exact .inl (by simp only [capD, e1])
      | some (m, d), some (n, d'), hst =>
        have ed : d = d' := hst.1
        subst ed
        rcases capD_le is h with z | ⟨cs, z1, z2⟩
        · exact .inl (by simp only [capD, e1, z, Option.map_none])
        · exact .inr ⟨d :: cs, by simp only [capD, e1, z1, Option.map_some], by simp only [capD, e2, z2, Option.map_some]⟩
mutual
theorem ev_le : ∀ (a : E) {Γ e : Dn}, ELe Γ e → MLe PLe (ev F a Γ) (ev F a e)
  | .var i, Γ, e, h => by
    simp only [ev]
    rcases h.nth i with ⟨h1, h2⟩ | ⟨s, t, h1, h2, h3⟩
    · rw [h1]; exact trivial
    · rw [h1, h2]
      match s, t, h3 with
      | none, _, _ => exact trivial
      | some p, some q, h3 => exact ⟨_, rfl, h3.1, rfl⟩
      | some p, none, h3 => exact h3.elim
  | .lit d, Γ, e, h => by
    simp only [ev]
    split
    · exact ⟨_, rfl, PLe.refl _⟩
    · exact trivial
  | .bin o a b, Γ, e, h => by
    simp only [ev]
    refine (ev_le a h).bnd fun p q h1 => (ev_le b h).bnd fun p2 q2 h2 => ?_
    rw [h1.1, h2.1]
    exact MLe.lift_refl PLe.refl _
  | .cmp o a b, Γ, e, h => by
    simp only [ev]
    refine (ev_le a h).bnd fun p q h1 => (ev_le b h).bnd fun p2 q2 h2 => ?_
    rw [h1.1, h2.1]
    exact MLe.lift_refl PLe.refl _
  | .chn o o2 a b c, Γ, e, h => by
    simp only [ev]
    refine (ev_le a h).bnd fun p q h1 => (ev_le b h).bnd fun p2 q2 h2 => ?_
    rw [h1.1, h2.1]
    split
    · exact trivial
    · exact ⟨_, rfl, PLe.refl _⟩
    · refine (ev_le c h).bnd fun p3 q3 h3 => ?_
      rw [h3.1]
      exact MLe.lift_refl PLe.refl _
  | .chn3 o o2 o3 a b c d, Γ, e, h => by
    simp only [ev]
    refine (ev_le a h).bnd fun p q h1 => (ev_le b h).bnd fun p2 q2 h2 => ?_
    rw [h1.1, h2.1]
    split
    · exact trivial
    · exact ⟨_, rfl, PLe.refl _⟩
    · refine (ev_le c h).bnd fun p3 q3 h3 => ?_
      rw [h3.1]
      split
      · exact trivial
      · exact ⟨_, rfl, PLe.refl _⟩
      · refine (ev_le d h).bnd fun p4 q4 h4 => ?_
        rw [h4.1]
        exact MLe.lift_refl PLe.refl _
  | .neg a, Γ, e, h => by
    simp only [ev]
    refine (ev_le a h).bnd fun p q h1 => ?_
    rw [h1.1]
    exact MLe.lift_refl PLe.refl _
  | .not a, Γ, e, h => by
    simp only [ev]
    refine (ev_le a h).bnd fun p q h1 => ?_
    rw [h1.1]
    exact MLe.lift_refl PLe.refl _
  | .and a b, Γ, e, h => by
    simp only [ev]
    refine (ev_le a h).bnd fun p q h1 => ?_
    rw [h1.1]
    split
    · exact trivial
    · exact ⟨_, rfl, PLe.refl _⟩
    · exact ev_le b h
  | .or a b, Γ, e, h => by
    simp only [ev]
    refine (ev_le a h).bnd fun p q h1 => ?_
    rw [h1.1]
    split
    · exact trivial
    · exact ⟨_, rfl, PLe.refl _⟩
    · exact ev_le b h
  | .ite c a b, Γ, e, h => by
    simp only [ev]
    refine (ev_le c h).bnd fun p q h1 => ?_
    rw [h1.1]
    split
    · exact trivial
    · exact ev_le a h
    · exact ev_le b h
  | .tup es, Γ, e, h => by
    simp only [ev]
    refine (evs_le es h).bnd fun ps qs h1 => ?_
    rw [h1.snd]
    exact ⟨_, rfl, rfl, tupM_le h1⟩
  | .lst es, Γ, e, h => by
    simp only [ev]
    refine (evs_le es h).bnd fun ps qs h1 => ?_
    rw [h1.snd]
    exact ⟨_, rfl, rfl, boxM_le h1⟩
  | .sub a i, Γ, e, h => by
    simp only [ev]
    refine (ev_le a h).bnd fun p q h1 => (ev_le i h).bnd fun p2 q2 h2 => ?_
    rw [h1.1, h2.1]
    exact MLe.lift_refl PLe.refl _
  | .slc pl ph a lo hi, Γ, e, h => by
    simp only [ev]
    refine (ev_le a h).bnd fun p q h1 => (ev_le lo h).bnd fun p2 q2 h2 => ?_
    rw [h1.1, h2.1]
    split
    · exact trivial
    · refine (ev_le hi h).bnd fun p3 q3 h3 => ?_
      rw [h3.1]
      split
      · exact trivial
      · exact MLe.lift_refl PLe.refl _
  | .rev a, Γ, e, h => by
    simp only [ev]
    refine (ev_le a h).bnd fun p q h1 => ?_
    rw [h1.1]
    split
    · exact ⟨_, rfl, PLe.refl _⟩
    · exact trivial
  | .att a f, Γ, e, h => by
    simp only [ev]
    refine (ev_le a h).bnd fun p q h1 => ?_
    rw [h1.1]
    exact MLe.lift_refl PLe.refl _
  | .cal f es, Γ, e, h => by
    simp only [ev]
    refine (evs_le es h).bnd fun ps qs h1 => ?_
    rw [h1.snd]
    refine MLe.bnd (R := Eq) ?_ fun a b hab => ?_
    · match F f (qs.map Prod.snd) with
      | none => exact trivial
      | some (.er C) => exact rfl
      | some (.ok p) => exact ⟨p, rfl, rfl⟩
    · subst hab
      refine ⟨_, rfl, ?_⟩
      by_cases h2 : a.1 = .sh ∧ closeds ps = true ∧ closed .fl a.2 = true
      · have h3 : a.1 = .sh ∧ closeds qs = true ∧ closed .fl a.2 = true := ⟨h2.1, closeds_le h1 h2.2.1, h2.2.2⟩
        rw [if_pos h2, if_pos h3]
        exact PLe.refl _
      · rw [if_neg h2]
        split
        · rename_i h3
          exact ⟨rfl, by rw [h3.1]; rfl⟩
        · exact PLe.refl _
  | .cav a g es, Γ, e, h => by
    simp only [ev]
    refine (ev_le a h).bnd fun p q h0 => ?_
    rw [h0.1]
    split
    · split
      case isFalse => exact trivial
      refine (evs_le es h).bnd fun ps qs h1 => ?_
      rw [h1.snd]
      match F _ (qs.map Prod.snd) with
      | none => exact trivial
      | some (.er C) => exact rfl
      | some (.ok p) => exact ⟨p, rfl, PLe.refl _⟩
    · exact trivial
  | .bi b es, Γ, e, h => by
    simp only [ev]
    refine (evs_le es h).bnd fun ps qs h1 => ?_
    rw [h1.snd]
    exact MLe.lift_refl PLe.refl _
  | .mix a b, Γ, e, h => by
    simp only [ev]
    refine (ev_le a h).bnd fun p q h1 => ?_
    rw [h1.1]
    split
    · refine (ev_le b h).bnd fun p2 q2 h2 => ?_
      rw [h2.1]
      split
      · exact MLe.lift_refl PLe.refl _
      · exact trivial
    · exact trivial
  | .isi a t, Γ, e, h => by
    simp only [ev]
    refine (ev_le a h).bnd fun p q h1 => ?_
    rw [h1.1]
    exact MLe.lift_refl PLe.refl _
  | .comp ts one s cs a, Γ, e, h => by
    simp only [ev]
    refine (evS_le s h).bnd fun p q h1 => ?_
    rw [h1.1]
    split
    · exact trivial
    · rename_i ps hps
      obtain ⟨qs, h2, h3⟩ := compL_le (g := fun x => (bindT ts one x e).bind fun e1 => (okOnly (evC F cs e1)).bind fun b => if b then (okOnly (ev F a e1)).map some else some none) (fun x => by
        cases hb : bindT ts one x Γ with
        | none => exact trivial
        | some Γ1 =>
          obtain ⟨e1, g1, g2⟩ := bindT_le h Γ1 hb
          rw [g1]
          simp only [Option.bind_some]
          cases hc : okOnly (evC F cs Γ1) with
          | none => exact trivial
          | some b =>
            obtain ⟨b', g3, g4⟩ := okOnly_le (evC_le cs g2) hc
            subst g4
            rw [g3]
            simp only [Option.bind_some]
            cases b with
            | false => exact rfl
            | true =>
              simp only [if_true]
              cases ha : okOnly (ev F a Γ1) with
              | none => exact trivial
              | some p =>
                obtain ⟨q, g5, g6⟩ := okOnly_le (ev_le a g2) ha
                rw [g5]
                exact ⟨q, rfl, g6⟩) _ ps hps
      rw [h2]
      refine ⟨_, rfl, ?_, boxM_le h3⟩
      show D.lst _ = D.lst _
      rw [h3.snd]
  | .dnew, Γ, e, h => by
    simp only [ev]
    exact ⟨_, rfl, PLe.refl _⟩
  | .mk C f i es, Γ, e, h => by
    simp only [ev]
    refine (evs_le es h).bnd fun ps qs h1 => ?_
    rw [h1.snd]
    refine MLe.bnd (R := Eq) ?_ fun a b hab => ?_
    · match F i (.non :: qs.map Prod.snd) with
      | none => exact trivial
      | some (.er C) => exact rfl
      | some (.ok p) => exact ⟨p, rfl, rfl⟩
    · subst hab
      exact ⟨_, rfl, PLe.refl _⟩
  | .met a tb es, Γ, e, h => by
    simp only [ev]
    refine (ev_le a h).bnd fun p q h0 => ?_
    rw [h0.1]
    split
    · split
      case isTrue => exact trivial
      split
      · refine (evs_le es h).bnd fun ps qs h1 => ?_
        rw [h1.snd]
        match F _ (_ :: qs.map Prod.snd) with
        | none => exact trivial
        | some (.er C) => exact rfl
        | some (.ok p) => exact ⟨p, rfl, PLe.refl _⟩
      · exact trivial
    · exact trivial
  | .isc a cs, Γ, e, h => by
    simp only [ev]
    refine (ev_le a h).bnd fun p q h1 => ?_
    rw [h1.1]
    exact MLe.lift_refl PLe.refl _
  | .csel gs a es, Γ, e, h => by
    simp only [ev]
    refine (ev_le a h).bnd fun p q h0 => ?_
    rw [h0.1]
    split
    · split
      · refine (evs_le es h).bnd fun ps qs h1 => ?_
        rw [h1.snd]
        match F _ (qs.map Prod.snd) with
        | none => exact trivial
        | some (.er C) => exact rfl
        | some (.ok p) => exact ⟨p, rfl, PLe.refl _⟩
      · exact trivial
    · exact trivial
  | .orv a b, Γ, e, h => by
    simp only [ev]
    refine (ev_le a h).bnd fun p q h0 => ?_
    obtain ⟨m, d⟩ := p
    obtain ⟨n, d'⟩ := q
    obtain ⟨rfl, h2⟩ := h0
    simp only
    split
    · exact ev_le b h
    · exact ev_le b h
    · exact ⟨_, rfl, rfl, h2⟩
    · exact trivial
  | .flt _ _ _, Γ, e, h => by simp only [ev]; exact trivial
  | .lam g, Γ, e, h => by simp only [ev]; exact ⟨_, rfl, PLe.refl _⟩
  | .clc gs i es, Γ, e, h => by
    simp only [ev]
    rcases h.nth i with ⟨e1, e2⟩ | ⟨s, t, e1, e2, hst⟩
    · rw [e1]; exact trivial
    · rw [e1, e2]
      match s, t, hst with
      | none, _, _ => exact trivial
      | some (m, d), some (n, d'), hst =>
        have ed : d = d' := hst.1
        subst ed
        cases d with
        | clo g cs =>
          simp only
          split
          · refine (evs_le es h).bnd fun ps qs h1 => ?_
            rw [h1.snd]
            exact mle_refl _
          · exact trivial
        | _ => exact trivial
  | .ccl f gs js es, Γ, e, h => by
    simp only [ev]
    refine (evs_le es h).bnd fun ps qs h1 => ?_
    rw [h1.snd]
    rcases capD_le js h with hc | ⟨cs, hc1, hc2⟩
    · rw [hc]
      split
      · rename_i z; cases z
      · exact trivial
    · rw [hc1, hc2]
      exact mle_refl _
  | .calx f es, Γ, e, h => by
    simp only [ev]
    refine (evs_le es h).bnd fun ps qs h1 => ?_
    rw [h1.snd]
    exact mle_refl _
theorem evs_le : ∀ (as : List E) {Γ e : Dn}, ELe Γ e → MLe PsLe (evs F as Γ) (evs F as e)
  | [], Γ, e, h => by
    simp only [evs]
    exact ⟨_, rfl, trivial⟩
  | a :: as, Γ, e, h => by
    simp only [evs]
    exact (ev_le a h).bnd fun p q h1 => (evs_le as h).bnd fun ps qs h2 => ⟨_, rfl, h1, h2⟩
theorem evC_le : ∀ (as : List E) {Γ e : Dn}, ELe Γ e → MLe Eq (evC F as Γ) (evC F as e)
  | [], Γ, e, h => by
    simp only [evC]
    exact ⟨_, rfl, rfl⟩
  | a :: as, Γ, e, h => by
    simp only [evC]
    refine (ev_le a h).bnd fun p q h1 => ?_
    rw [h1.1]
    split
    · exact trivial
    · exact ⟨_, rfl, rfl⟩
    · exact evC_le as h
theorem evS_le : ∀ (s : Sr) {Γ e : Dn}, ELe Γ e → MLe SrLe (evS F s Γ) (evS F s e)
  | .seq a, Γ, e, h => by
    simp only [evS]
    refine (ev_le a h).bnd fun p q h1 => ?_
    rw [h1.1]
    refine MLe.lift_ fun x hx => ?_
    cases hi : itemsD q.2 with
    | none => rw [hi] at hx; cases hx
    | some ds =>
      rw [hi] at hx
      cases hx
      exact ⟨_, rfl, rfl, h1.2⟩
  | .rng a b, Γ, e, h => by
    simp only [evS]
    refine (ev_le a h).bnd fun p q h1 => (ev_le b h).bnd fun p2 q2 h2 => ?_
    rw [h1.1, h2.1]
    split
    · split
      · exact ⟨_, rfl, rfl, rfl⟩
      · exact trivial
    · exact trivial
  | .enu a, Γ, e, h => by
    simp only [evS]
    refine (ev_le a h).bnd fun p q h1 => ?_
    rw [h1.1]
    split
    · exact ⟨_, rfl, rfl, h1.2⟩
    · exact trivial
  | .zip a b, Γ, e, h => by
    simp only [evS]
    refine (ev_le a h).bnd fun p q h1 => (ev_le b h).bnd fun p2 q2 h2 => ?_
    rw [h1.1, h2.1]
    split
    · exact ⟨_, rfl, rfl, rfl⟩
    · exact ⟨_, rfl, rfl, rfl⟩
    · exact trivial
end
end
end TW

set_option Elab.async false
set_option linter.all false
set_option maxRecDepth 100000
set_option maxHeartbeats 4000000
namespace TW
open PySem PySem.Spec PyProof.Rows L2
theorem frzS_le : ∀ s : Sl, SLe (frzS s) s
  | none => trivial
  | some (m, d) => ⟨rfl, rfl⟩
theorem frzS_mono : ∀ {s t : Sl}, SLe s t → SLe (frzS s) (frzS t)
  | none, _, _ => trivial
  | some p, some q, h => ⟨h.1, rfl⟩
  | some p, none, h => h.elim
theorem frz_mono : ∀ (is : List Nat) {Γ e : Dn}, ELe Γ e → ELe (frz is Γ) (frz is e)
  | [], Γ, e, h => h
  | i :: is, Γ, e, h => by
    unfold frz
    refine frz_mono is ?_
    rcases h.nth i with ⟨h1, h2⟩ | ⟨s, t, h1, h2, h3⟩
    · rw [h1, h2]; exact h
    · rw [h1, h2]
      exact h.set i (frzS_mono h3)
theorem set_self : ∀ (e : Dn) (i : Nat) (s : Sl), e[i]? = some s → e.set i s = e
  | [], i, s, h => rfl
  | u :: e, 0, s, h => by
    simp at h
    subst h
    rfl
  | u :: e, i + 1, s, h => by
    have := set_self e i s (by simpa using h)
    simp [this]
theorem frz_le : ∀ (is : List Nat) (e : Dn), ELe (frz is e) e
  | [], e => ELe.refl e
  | i :: is, e => by
    unfold frz
    refine (frz_le is _).trans ?_
    cases h : e[i]? with
    | none => exact ELe.refl e
    | some s =>
      have := (ELe.refl e).set i (frzS_le s)
      rw [set_self e i s h] at this
      exact this
theorem le_frz : ∀ (is : List Nat) {Γ e : Dn}, ELe Γ e → (is.any (fun i => match Γ[i]? with | some s => ownS s | none => false)) = false → ELe Γ (frz is e)
  | [], Γ, e, h, _ => h
  | i :: is, Γ, e, h, n => by
    simp only [List.any_cons, Bool.or_eq_false_iff] at n
    unfold frz
    refine le_frz is ?_ n.2
    rcases h.nth i with ⟨h1, h2⟩ | ⟨s, t, h1, h2, h3⟩
    · rw [h2]; exact h
    · rw [h2]
      have n1 := n.1
      rw [h1] at n1
      have : SLe s (frzS t) := by
        match s, t, h3 with
        | none, _, _ => exact trivial
        | some (.sh, d), some q, h3 => exact ⟨h3.1, rfl⟩
        | some (.fl, d), some q, h3 => cases n1
        | some (.dp, d), some q, h3 => cases n1
        | some p, none, h3 => exact h3.elim
      have z := h.set i this
      rw [set_self Γ i s h1] at z
      exact z
theorem give_le {is : List Nat} {m n : Md} {d : D} {Γ e : Dn} (h : ELe Γ e) (hm : Md.le m n = true) : ELe (give is m d Γ) (give is n d e) := by
  rw [give_eq, give_eq]
  by_cases c : closed m d = true
  · rw [if_pos c, if_pos (closed_le hm c)]
    exact h
  · rw [if_neg c]
    by_cases c2 : closed n d = true
    · rw [if_pos c2]
      split
      · exact (frz_le is Γ).trans h
      · exact h
    · rw [if_neg c2]
      split
      · split
        · exact frz_mono is h
        · exact (frz_le is Γ).trans h
      · rename_i n1
        split
        · exact le_frz is h (by cases hz : (is.any fun i => match Γ[i]? with | some s => ownS s | none => false) with
            | false => rfl
            | true => exact absurd hz n1)
        · exact h
theorem gives_le {is : List Nat} {ps qs : List (Md × D)} {Γ e : Dn} (h : ELe Γ e) (hm : PsLe ps qs) : ELe (gives is ps Γ) (gives is qs e) := by
  rw [gives_eq, gives_eq]
  by_cases c : closeds ps = true
  · rw [if_pos c, if_pos (closeds_le hm c)]
    exact h
  · rw [if_neg c]
    by_cases c2 : closeds qs = true
    · rw [if_pos c2]
      split
      · exact (frz_le is Γ).trans h
      · exact h
    · rw [if_neg c2]
      split
      · split
        · exact frz_mono is h
        · exact (frz_le is Γ).trans h
      · rename_i n1
        split
        · exact le_frz is h (by cases hz : (is.any fun i => match Γ[i]? with | some s => ownS s | none => false) with
            | false => rfl
            | true => exact absurd hz n1)
        · exact h
theorem setAll_le : ∀ (is : List Nat) {ps qs : List (Md × D)} {Γ e : Dn}, ELe Γ e → PsLe ps qs → ∀ Γ1, setAll is ps Γ = some Γ1 → ∃ e1, setAll is qs e = some e1 ∧ ELe Γ1 e1
  | [], [], [], Γ, e, h, _, Γ1, hs => by
    cases hs
    exact ⟨e, rfl, h⟩
  | i :: is, p :: ps, q :: qs, Γ, e, h, hp, Γ1, hs => setAll_le is (ps := ps) (qs := qs) (h.set i (show SLe (some (keep p.1 p.2)) (some (keep q.1 q.2)) from keep_le hp.1)) hp.2 Γ1 hs
  | [], p :: ps, _, Γ, e, h, hp, Γ1, hs => by cases hs
  | i :: is, [], _, Γ, e, h, hp, Γ1, hs => by cases hs
  | [], [], q :: qs, Γ, e, h, hp, Γ1, hs => hp.elim
  | i :: is, p :: ps, [], Γ, e, h, hp, Γ1, hs => hp.elim
theorem setSh_le : ∀ (is : List Nat) {ds : List D} {Γ e : Dn}, ELe Γ e → ∀ Γ1, setSh is ds Γ = some Γ1 → ∃ e1, setSh is ds e = some e1 ∧ ELe Γ1 e1
  | [], [], Γ, e, h, Γ1, hs => by
    cases hs
    exact ⟨e, rfl, h⟩
  | i :: is, d :: ds, Γ, e, h, Γ1, hs => setSh_le is (ds := ds) (h.set i (SLe.refl _)) Γ1 hs
  | [], d :: ds, Γ, e, h, Γ1, hs => by cases hs
  | i :: is, [], Γ, e, h, Γ1, hs => by cases hs
def moF (o : Mo) (is : List Int) (vs : List D) (d : D) : Option (Md × D) := match is, d with
  | [], .lst xs => (moL o xs vs).map fun ys => (.fl, .lst ys)
  | _, _ => none
theorem moS_fl (o : Mo) (is : List Int) (ps : List (Md × D)) (d : D) : moS o is ps (.fl, d) = moF o is (ps.map Prod.snd) d := by
  cases is <;> cases d <;> rfl
theorem moS_dp (o : Mo) (is : List Int) (ps : List (Md × D)) (d : D) : moS o is ps (.dp, d) = if closeds ps = true then (moP o (ps.map Prod.snd) is d).map (fun d' => (.dp, d')) else moF o is (ps.map Prod.snd) d := by
  cases is <;> cases d <;> rfl
theorem moF_some {o : Mo} {is : List Int} {vs : List D} {d : D} {r : Md × D} (h : moF o is vs d = some r) : ∃ xs ys, is = [] ∧ d = .lst xs ∧ moL o xs vs = some ys ∧ r = (.fl, .lst ys) := by
  unfold moF at h
  split at h
  · rename_i xs
    cases e : moL o xs vs with
    | none => rw [e] at h; cases h
    | some ys =>
      rw [e] at h
      cases h
      exact ⟨xs, ys, rfl, rfl, e, rfl⟩
  · cases h
theorem moS_le {o : Mo} {is : List Int} {ps qs : List (Md × D)} {p q : Md × D} (h : PsLe ps qs) (hp : PLe p q) : ∀ r, moS o is ps p = some r → ∃ r', moS o is qs q = some r' ∧ PLe r r' := by
  intro r hr
  obtain ⟨m, d⟩ := p
  obtain ⟨n, d'⟩ := q
  obtain ⟨rfl, hm⟩ := hp
  have hm : Md.le m n = true := hm
  have key : ∀ {n : Md} {r : Md × D}, n ≠ .sh → moF o is (ps.map Prod.snd) d = some r → ∃ r', moS o is qs (n, d) = some r' ∧ PLe r r' := by
    intro n r hn hr
    rw [h.snd] at hr
    cases n with
    | sh => exact absurd rfl hn
    | fl => exact ⟨r, by rw [moS_fl]; exact hr, PLe.refl _⟩
    | dp =>
      rw [moS_dp]
      cases hq : closeds qs with
      | false => exact ⟨r, hr, PLe.refl _⟩
      | true =>
        obtain ⟨xs, ys, rfl, rfl, e, rfl⟩ := moF_some hr
        refine ⟨(.dp, .lst ys), ?_, rfl, rfl⟩
        rw [if_pos rfl]
        simp only [moP, e]
        rfl
  cases m with
  | sh => cases hr
  | fl =>
    rw [moS_fl] at hr
    exact key (fun z => by subst z; cases hm) hr
  | dp =>
    have hn := Md.dp_le hm
    subst hn
    rw [moS_dp] at hr
    cases hc : closeds ps with
    | true =>
      rw [hc, if_pos rfl, h.snd] at hr
      refine ⟨r, ?_, PLe.refl _⟩
      rw [moS_dp, closeds_le h hc, if_pos rfl]
      exact hr
    | false =>
      rw [hc] at hr
      exact key (fun z => by cases z) hr
def FlLe : Fl → Fl → Prop
  | .nx Γ, .nx e => ELe Γ e
  | .rt m d, .rt n d' => PLe (m, d) (n, d')
  | _, _ => False
section
variable (F : Tb)
mutual
theorem evr_le : ∀ (a : E) {Γ e : Dn}, ELe Γ e → MLe PLe (evr F a Γ) (evr F a e)
  | .var i, Γ, e, h => by
    simp only [evr]
    rcases h.nth i with ⟨h1, h2⟩ | ⟨s, t, h1, h2, h3⟩
    · rw [h1]; exact trivial
    · rw [h1, h2]
      match s, t, h3 with
      | none, _, _ => exact trivial
      | some p, some q, h3 => exact ⟨_, rfl, h3⟩
      | some p, none, h3 => exact h3.elim
  | .ite c a b, Γ, e, h => by
    simp only [evr]
    refine (ev_le F c h).bnd fun p q h1 => ?_
    rw [h1.1]
    split
    · exact trivial
    · exact evr_le a h
    · exact evr_le b h
  | .tup es, Γ, e, h => by
    simp only [evr]
    refine (evrs_le es h).bnd fun ps qs h1 => ?_
    rw [h1.snd]
    refine ⟨_, rfl, rfl, ?_⟩
    show Md.le (if (mvs es).Nodup then tupM ps else .sh) (if (mvs es).Nodup then tupM qs else .sh) = true
    split
    · exact tupM_le h1
    · rfl
  | .lit d, Γ, e, h => by simp only [evr]; exact ev_le F _ h
  | .bin o a b, Γ, e, h => by simp only [evr]; exact ev_le F _ h
  | .cmp o a b, Γ, e, h => by simp only [evr]; exact ev_le F _ h
  | .chn o p a b c, Γ, e, h => by simp only [evr]; exact ev_le F _ h
  | .chn3 o p q a b c d, Γ, e, h => by simp only [evr]; exact ev_le F _ h
  | .neg a, Γ, e, h => by simp only [evr]; exact ev_le F _ h
  | .not a, Γ, e, h => by simp only [evr]; exact ev_le F _ h
  | .and a b, Γ, e, h => by simp only [evr]; exact ev_le F _ h
  | .or a b, Γ, e, h => by simp only [evr]; exact ev_le F _ h
  | .lst es, Γ, e, h => by simp only [evr]; exact ev_le F _ h
  | .sub a i, Γ, e, h => by simp only [evr]; exact ev_le F _ h
  | .slc pl ph a lo hi, Γ, e, h => by simp only [evr]; exact ev_le F _ h
  | .rev a, Γ, e, h => by simp only [evr]; exact ev_le F _ h
  | .att a f, Γ, e, h => by simp only [evr]; exact ev_le F _ h
  | .cal f es, Γ, e, h => by simp only [evr]; exact ev_le F _ h
  | .cav a g es, Γ, e, h => by simp only [evr]; exact ev_le F _ h
  | .bi b es, Γ, e, h => by simp only [evr]; exact ev_le F _ h
  | .mix a b, Γ, e, h => by simp only [evr]; exact ev_le F _ h
  | .isi a t, Γ, e, h => by simp only [evr]; exact ev_le F _ h
  | .comp ts one s cs a, Γ, e, h => by simp only [evr]; exact ev_le F _ h
  | .dnew, Γ, e, h => by simp only [evr]; exact ev_le F _ h
  | .mk C f i es, Γ, e, h => by simp only [evr]; exact ev_le F _ h
  | .met a tb es, Γ, e, h => by simp only [evr]; exact ev_le F _ h
  | .isc a cs, Γ, e, h => by simp only [evr]; exact ev_le F _ h
  | .csel gs a es, Γ, e, h => by simp only [evr]; exact ev_le F _ h
  | .orv a b, Γ, e, h => by simp only [evr]; exact ev_le F _ h
  | .lam g, Γ, e, h => by simp only [evr]; exact ev_le F _ h
  | .clc gs i es, Γ, e, h => by simp only [evr]; exact ev_le F _ h
  | .ccl f gs js es, Γ, e, h => by simp only [evr]; exact ev_le F _ h
  | .calx f es, Γ, e, h => by simp only [evr]; exact ev_le F _ h
  | .flt i x cs, Γ, e, h => by
    simp only [evr]
    split
    · rename_i ds hg
      obtain ⟨q', g1, g2⟩ := h.get i _ hg
      obtain ⟨m', d'⟩ := q'
      obtain ⟨g3, g4⟩ := g2
      simp only at g3 g4
      subst g3
      have := Md.dp_le g4
      subst this
      rw [g1]
      simp only
      split
      · exact trivial
      · split
        · exact trivial
        · rename_i ps hps
          obtain ⟨qs, h2, h3⟩ := compL_le (g := fun d => (bindT [x] true d e).bind fun e1 => (okOnly (evC F cs e1)).bind fun b => if b then (okOnly (ev F (.var x) e1)).map some else some none) (fun d => by
            cases hb : bindT [x] true d Γ with
            | none => exact trivial
            | some Γ1 =>
              obtain ⟨e1, g1, g2⟩ := bindT_le h Γ1 hb
              rw [g1]
              simp only [Option.bind_some]
              cases hc : okOnly (evC F cs Γ1) with
              | none => exact trivial
              | some b =>
                obtain ⟨b', g3, g4⟩ := okOnly_le (evC_le F cs g2) hc
                subst g4
                rw [g3]
                simp only [Option.bind_some]
                cases b with
                | false => exact rfl
                | true =>
                  simp only [if_true]
                  cases ha : okOnly (ev F (.var x) Γ1) with
                  | none => exact trivial
                  | some p =>
                    obtain ⟨q, g5, g6⟩ := okOnly_le (ev_le F (.var x) g2) ha
                    rw [g5]
                    exact ⟨q, rfl, g6⟩) _ ps hps
          rw [h2]
          simp only
          rw [h3.snd]
          split
          · exact ⟨_, rfl, PLe.refl _⟩
          · exact trivial
    · exact trivial
theorem evrs_le : ∀ (as : List E) {Γ e : Dn}, ELe Γ e → MLe PsLe (evrs F as Γ) (evrs F as e)
  | [], Γ, e, h => by
    simp only [evrs]
    exact ⟨_, rfl, trivial⟩
  | a :: as, Γ, e, h => by
    simp only [evrs]
    exact (evr_le a h).bnd fun p q h1 => (evrs_le as h).bnd fun ps qs h2 => ⟨_, rfl, h1, h2⟩
end
theorem evP_le : ∀ (as : List E) {Γ e : Dn}, ELe Γ e → MLe Eq (evP F as Γ) (evP F as e)
  | [], Γ, e, h => by
    simp only [evP]
    exact ⟨_, rfl, rfl⟩
  | a :: as, Γ, e, h => by
    simp only [evP]
    refine (evP_le as h).bnd fun is js h1 => ?_
    subst h1
    cases ha : okOnly (ev F a Γ) with
    | none => exact trivial
    | some p =>
      obtain ⟨q, g5, g6⟩ := okOnly_le (ev_le F a h) ha
      rw [g5]
      simp only
      rw [g6.1]
      exact MLe.lift_refl (fun _ => rfl) _
theorem forL_le {f g : D → Dn → M Fl} (h : ∀ x Γ e, ELe Γ e → MLe FlLe (f x Γ) (g x e)) : ∀ (xs : List D) {Γ e : Dn}, ELe Γ e → MLe FlLe (forL f xs Γ) (forL g xs e)
  | [], Γ, e, k => ⟨_, rfl, k⟩
  | x :: xs, Γ, e, k => by
    unfold forL
    refine (h x Γ e k).bnd fun a b hab => ?_
    match a, b, hab with
    | .nx Γ1, .nx e1, hab => exact forL_le h xs hab
    | .rt m d, .rt n d', hab => exact ⟨_, rfl, hab⟩
    | .nx _, .rt _ _, hab => exact hab.elim
    | .rt _ _, .nx _, hab => exact hab.elim
theorem whlL_more {c : Dn → M Bool} {b : Dn → M Fl} : ∀ {n m : Nat} {e : Dn} {r : Ex Fl}, whlL c b n e = some r → n ≤ m → whlL c b m e = some r
  | 0, m, e, r, h, _ => by cases h
  | n + 1, 0, e, r, h, hm => by omega
  | n + 1, m + 1, e, r, h, hm => by
    unfold whlL at h ⊢
    cases hc : c e with
    | none => rw [hc] at h; cases h
    | some x =>
      rw [hc] at h
      cases x with
      | er C => exact h
      | ok t =>
        simp only [bnd] at h ⊢
        cases t with
        | false => exact h
        | true =>
          simp only [if_true] at h ⊢
          cases hb : b e with
          | none => rw [hb] at h; cases h
          | some y =>
            rw [hb] at h
            cases y with
            | er C => exact h
            | ok f =>
              cases f with
              | nx e1 => exact whlL_more (n := n) (m := m) h (by omega)
              | rt q d => exact h
theorem szE_le : ∀ {Γ e : Dn}, ELe Γ e → szE Γ ≤ szE e
  | [], [], _ => Nat.le_refl _
  | s :: Γ, t :: e, h => by
    have ih := szE_le h.2
    match s, t, h.1 with
    | none, none, _ => exact ih
    | none, some q, _ =>
      show szE Γ ≤ szD q.2 + szE e
      omega
    | some p, some q, k =>
      show szD p.2 + szE Γ ≤ szD q.2 + szE e
      rw [show p.2 = q.2 from k.1]
      omega
    | some p, none, k => exact k.elim
  | [], _ :: _, h => h.elim
  | _ :: _, [], h => h.elim
theorem MLe.more {α β : Type} {R : α → β → Prop} {x : M α} {y z : M β} (h : MLe R x y) (k : ∀ r, y = some r → z = some r) : MLe R x z := by
  match x, h with
  | none, h => exact trivial
  | some (.er C), h => exact k _ h
  | some (.ok a), h =>
    obtain ⟨b, h1, h2⟩ := h
    exact ⟨b, k _ h1, h2⟩
theorem whlL_le {c c' : Dn → M Bool} {b b' : Dn → M Fl} (hc : ∀ Γ e, ELe Γ e → MLe Eq (c Γ) (c' e)) (hb : ∀ Γ e, ELe Γ e → MLe FlLe (b Γ) (b' e)) : ∀ (n : Nat) {Γ e : Dn}, ELe Γ e → MLe FlLe (whlL c b n Γ) (whlL c' b' n e)
  | 0, Γ, e, k => trivial
  | n + 1, Γ, e, k => by
    unfold whlL
    refine (hc Γ e k).bnd fun t t' ht => ?_
    subst ht
    cases t with
    | false => exact ⟨_, rfl, k⟩
    | true =>
      simp only [if_true]
      refine (hb Γ e k).bnd fun a b hab => ?_
      match a, b, hab with
      | .nx Γ1, .nx e1, hab => exact whlL_le hc hb n hab
      | .rt m d, .rt n d', hab => exact ⟨_, rfl, hab⟩
      | .nx _, .rt _ _, hab => exact hab.elim
      | .rt _ _, .nx _, hab => exact hab.elim
theorem extM_le {o : Mo} {ps qs : List (Md × D)} (h : PsLe ps qs) (c : closeds (extM o ps) = true) : closeds (extM o qs) = true := by
  unfold extM at c ⊢
  split at c
  · rename_i m ys
    match qs, h with
    | [(n, d)], h =>
      obtain ⟨⟨e1, _⟩, _⟩ := h
      have e1 : D.lst ys = d := e1
      subst e1
      exact c
  · rename_i x1 x2 hne
    split
    · rename_i m ys
      match ps, h with
      | [(n, d)], h =>
        obtain ⟨⟨e1, _⟩, _⟩ := h
        have e1 : d = D.lst ys := e1
        subst e1
        exact absurd rfl (hne n ys rfl)
    · exact closeds_le h c
theorem eachF_le {i : Nat} {f : Option Str} {q : List Int} {o : Mo} {es : List E} {j : Nat} {Γ e : Dn} (h : ELe Γ e) : MLe ELe (eachF F i f q o es j Γ) (eachF F i f q o es j e) := by
  unfold eachF
  split
  · rename_i d hg
    obtain ⟨q', g1, g2⟩ := h.get i _ hg
    obtain ⟨m', d'⟩ := q'
    obtain ⟨g3, g4⟩ := g2
    simp only at g3 g4
    subst g3
    have := Md.dp_le g4
    subst this
    rw [g1]
    simp only
    split
    · rename_i d0 _
      cases hok : okOnly (evs F es Γ) with
      | none => exact trivial
      | some ps =>
      obtain ⟨qs, hoq, h1⟩ := okOnly_le (evs_le F es h) hok
      rw [hoq]
      simp only
      by_cases c : closeds ps = true
      · rw [if_pos c, if_pos (closeds_le h1 c), h1.snd]
        refine MLe.lift_ fun x hx => ?_
        cases hm : moP o (qs.map Prod.snd) ((j : Int) :: q) d0 with
        | none => rw [hm] at hx; cases hx
        | some r =>
          rw [hm] at hx
          cases hx
          exact ⟨_, rfl, h.set i (SLe.refl _)⟩
      · rw [if_neg c]; exact trivial
    · exact trivial
  · exact trivial
theorem forB_le {f g : D → M Bool} (h : ∀ x, MLe Eq (f x) (g x)) {Γ e : Dn} (he : ELe Γ e) : ∀ (xs : List D), MLe FlLe (forB f Γ xs) (forB g e xs)
  | [] => ⟨_, rfl, he⟩
  | x :: xs => by
    unfold forB
    refine (h x).bnd fun a b hab => ?_
    subst hab
    cases a with
    | true => exact ⟨_, rfl, rfl, rfl⟩
    | false => exact forB_le h he xs
theorem eachL_le {f g : Nat → Dn → M Dn} (h : ∀ j Γ e, ELe Γ e → MLe ELe (f j Γ) (g j e)) : ∀ (n j : Nat) {Γ e : Dn}, ELe Γ e → MLe ELe (eachL f n j Γ) (eachL g n j e)
  | 0, j, Γ, e, k => ⟨_, rfl, k⟩
  | n + 1, j, Γ, e, k => by
    unfold eachL
    exact (h j Γ e k).bnd fun a b hab => eachL_le h n (j + 1) hab
theorem _root_.TW.exK_le : ∀ {s t : Sl}, SLe s t → SLe (exK s) (exK t)
  | none, _, _ => trivial
  | some p, some q, h => by
    have e : p.2 = q.2 := h.1
    show SLe (if exF p.2 = true then some p else none) (if exF q.2 = true then some q else none)
    rw [e]
    split
    · exact h
    · exact trivial
theorem ELe.exK : ∀ {Γ e : Dn}, ELe Γ e → ELe (Γ.map TW.exK) (e.map TW.exK)
  | [], [], _ => trivial
  | g :: Γ, s :: e, h => ⟨TW.exK_le h.1, ELe.exK h.2⟩
mutual
theorem ex_le : ∀ (s : S) {Γ e : Dn}, ELe Γ e → MLe FlLe (ex F s Γ) (ex F s e)
  | .pass, Γ, e, h => by
    simp only [ex]
    exact ⟨_, rfl, h⟩
  | .asg i a, Γ, e, h => by
    simp only [ex]
    refine (ev_le F a h).bnd fun p q h1 => ⟨_, rfl, ?_⟩
    have g := give_le (is := nm a) (d := p.2) h h1.2
    have k := keep_le h1
    rw [h1.1] at g
    show ELe ((give (nm a) p.1 p.2 Γ).set i _) ((give (nm a) q.1 q.2 e).set i _)
    rw [h1.1]
    rw [h1.1] at k
    exact g.set i k
  | .par is as, Γ, e, h => by
    simp only [ex]
    refine (evs_le F as h).bnd fun ps qs h1 => MLe.lift_ fun x hx => ?_
    cases hs : setAll is ps (gives (nms as) ps Γ) with
    | none => rw [hs] at hx; cases hx
    | some Γ1 =>
      rw [hs] at hx
      cases hx
      obtain ⟨e1, g1, g2⟩ := setAll_le is (gives_le h h1) h1 Γ1 hs
      exact ⟨.nx e1, by rw [g1]; rfl, g2⟩
  | .unp is a, Γ, e, h => by
    simp only [ex]
    refine (ev_le F a h).bnd fun p q h1 => ?_
    have g := give_le (is := nm a) (d := p.2) h h1.2
    obtain ⟨m, d⟩ := p
    obtain ⟨n, d'⟩ := q
    obtain ⟨rfl, h2⟩ := h1
    simp only at g ⊢
    split
    · rename_i ds
      refine MLe.lift_ fun x hx => ?_
      cases hs : setSh is ds (give (nm a) m (.tup ds) Γ) with
      | none => rw [hs] at hx; cases hx
      | some Γ1 =>
        rw [hs] at hx
        cases hx
        obtain ⟨e1, g1, g2⟩ := setSh_le is g Γ1 hs
        exact ⟨.nx e1, by rw [g1]; rfl, g2⟩
    · exact trivial
  | .aug i a, Γ, e, h => by
    simp only [ex]
    rcases h.nth i with ⟨h1, h2⟩ | ⟨s, t, h1, h2, h3⟩
    · rw [h1]; exact trivial
    · rw [h1, h2]
      match s, t, h3 with
      | none, _, _ => exact trivial
      | some p, none, h3 => exact h3.elim
      | some (m, d), some (n, d'), h3 =>
        obtain ⟨rfl, h4⟩ := h3
        cases d with
        | int k =>
          simp only
          refine (ev_le F a h).bnd fun p q h1 => ?_
          rw [h1.1]
          refine MLe.lift_ fun x hx => ?_
          cases hi : intD q.2 with
          | none => rw [hi] at hx; cases hx
          | some j =>
            rw [hi] at hx
            cases hx
            exact ⟨_, rfl, h.set i (SLe.refl _)⟩
        | _ => exact trivial
  | .mut i p o as, Γ, e, h => by
    simp only [ex]
    rcases h.nth i with ⟨h1, h2⟩ | ⟨s, t, h1, h2, h3⟩
    · rw [h1]; exact trivial
    · rw [h1, h2]
      match s, t, h3 with
      | none, _, _ => exact trivial
      | some p, none, h3 => exact h3.elim
      | some q0, some q1, h3 =>
        simp only
        refine (evP_le F p h).bnd fun ri rj hr => ?_
        subst hr
        rw [h3.1]
        split
        · refine (evs_le F as h).bnd fun ps qs h4 => ?_
          have g := gives_le (is := nms as) h h4
          rcases g.nth i with ⟨g1, g2⟩ | ⟨s, t, g1, g2, g3⟩
          · rw [g1]; exact trivial
          · rw [g1, g2]
            match s, t, g3 with
            | none, _, _ => exact trivial
            | some p, none, g3 => exact g3.elim
            | some u0, some u1, g3 =>
              simp only
              refine MLe.lift_ fun x hx => ?_
              cases hm : moS o ri.reverse ps u0 with
              | none => rw [hm] at hx; cases hx
              | some r =>
                rw [hm] at hx
                cases hx
                obtain ⟨r', k1, k2⟩ := moS_le h4 g3 r hm
                exact ⟨.nx ((gives (nms as) qs e).set i (some r')), by rw [k1]; rfl, g.set i (s := some r) (t := some r') k2⟩
        · exact trivial
  | .dput i k v, Γ, e, h => by
    simp only [ex]
    split
    · rename_i ks hg
      obtain ⟨q', g1, g2⟩ := h.get i _ hg
      obtain ⟨m', d'⟩ := q'
      obtain ⟨g3, g4⟩ := g2
      simp only at g3 g4
      subst g3
      have := Md.dp_le g4
      subst this
      rw [g1]
      simp only
      refine (ev_le F k h).bnd fun p q h1 => ?_
      rw [h1.1]
      split
      · split
        · exact ⟨_, rfl, h.set i (SLe.refl _)⟩
        · exact trivial
      · exact trivial
    · exact trivial
  | .exp a, Γ, e, h => by
    simp only [ex]
    exact (ev_le F a h).bnd fun p q h1 => ⟨_, rfl, h⟩
  | .ife c a b, Γ, e, h => by
    simp only [ex]
    refine (ev_le F c h).bnd fun p q h1 => ?_
    rw [h1.1]
    split
    · exact trivial
    · exact exs_le a h
    · exact exs_le b h
  | .ret a, Γ, e, h => by
    simp only [ex]
    exact (evr_le F a h).bnd fun p q h1 => ⟨_, rfl, h1⟩
  | .for_ ts one s b, Γ, e, h => by
    simp only [ex]
    refine (evS_le F s h).bnd fun p q h1 => ?_
    rw [h1.1]
    refine forL_le (fun x Γ e k => ?_) _ ?_
    · cases hb : bindT ts one x Γ with
      | none => exact trivial
      | some Γ1 =>
        obtain ⟨e1, g1, g2⟩ := bindT_le k Γ1 hb
        rw [g1]
        exact exs_le b g2
    · by_cases c : p.1 = .dp
      · have c2 : q.1 = .dp := Md.dp_le (by rw [← c]; exact h1.2)
        rw [if_pos c, if_pos c2]
        exact h
      · rw [if_neg c]
        split
        · exact (frz_le _ Γ).trans h
        · exact frz_mono _ h
  | .whl c b, Γ, e, h => by
    simp only [ex]
    refine MLe.more (whlL_le (fun Γ e k => ?_) (fun Γ e k => exs_le b k) _ h) (fun r hr => whlL_more hr (Nat.add_le_add_left (szE_le h) WF))
    refine (ev_le F c k).bnd fun p q h1 => ?_
    rw [h1.1]
    exact MLe.lift_refl (fun _ => rfl) _
  | .rai C, Γ, e, h => by
    simp only [ex]
    exact rfl
  | .mutF i f o as, Γ, e, h => by
    simp only [ex]
    rcases h.nth i with ⟨h1, h2⟩ | ⟨s, t, h1, h2, h3⟩
    · rw [h1]; exact trivial
    · rw [h1, h2]
      match s, t, h3 with
      | none, _, _ => exact trivial
      | some p, none, h3 => exact h3.elim
      | some (m, d), some (n, d'), h3 =>
        obtain ⟨rfl, h4⟩ := h3
        cases d with
        | ins C0 g0 d0 =>
          cases d0 with
          | lst xs0 =>
            simp only
            by_cases hgf : g0 = f ∧ insC C0 = true
            · rw [if_pos hgf, if_pos hgf]
              refine MLe.bnd (S := FlLe) (evs_le F as h) fun ps qs h4 => ?_
              have g := gives_le (is := nms as) h h4
              split
              · rename_i C2 h2 xs hg
                obtain ⟨q', g1, g2⟩ := g.get i _ hg
                obtain ⟨m', d'⟩ := q'
                obtain ⟨g3, g4⟩ := g2
                simp only at g3 g4
                subst g3
                have := Md.dp_le g4
                subst this
                rw [g1]
                simp only
                by_cases c : (closeds ps || closeds (extM o ps)) = true
                · have c2 : (closeds qs || closeds (extM o qs)) = true := by
                    rw [Bool.or_eq_true] at c ⊢
                    exact c.imp (closeds_le h4) (extM_le h4)
                  rw [if_pos c, if_pos c2, h4.snd]
                  refine MLe.lift_ fun x hx => ?_
                  cases hm : moL o xs (qs.map Prod.snd) with
                  | none => rw [hm] at hx; cases hx
                  | some r =>
                    rw [hm] at hx
                    cases hx
                    exact ⟨_, rfl, g.set i (SLe.refl _)⟩
                · rw [if_neg c]; exact trivial
              · exact trivial
            · rw [if_neg hgf]; exact trivial
          | _ => exact trivial
        | _ => exact trivial
  | .each i f x q o es, Γ, e, h => by
    simp only [ex]
    split
    · rename_i d hg
      obtain ⟨q', g1, g2⟩ := h.get i _ hg
      obtain ⟨m', d'⟩ := q'
      obtain ⟨g3, g4⟩ := g2
      simp only at g3 g4
      subst g3
      have := Md.dp_le g4
      subst this
      rw [g1]
      simp only
      split
      · have hle : Γ.length = e.length := h.len
        rw [hle]
        split
        case isTrue => exact trivial
        refine MLe.bnd (S := FlLe) (eachL_le (f := eachF F i f q o es) (g := eachF F i f q o es) (fun j Γ e k => eachF_le F k) _ 0 (h.set x (SLe.refl none))) fun a b hab => ?_
        exact ⟨_, rfl, hab⟩
      · exact trivial
    · exact trivial
  | .tryA a x cs hs, Γ, e, h => by
    simp only [ex]
    have h1 := ev_le F a h
    match hx : ev F a Γ, hy : ev F a e, h1 with
    | none, _, _ => exact trivial
    | some (.ok p), some (.ok q), _ => exact ⟨_, rfl, h⟩
    | some (.er C), some (.er C'), h1 =>
      have : C = C' := by
        have h1 : some (Ex.er C') = some (Ex.er C) := h1
        cases h1; rfl
      subst this
      simp only
      split
      · have h2 := exs_le hs (h.set x (SLe.refl (some (.sh, .exc C))))
        match hu : exs F hs (Γ.set x (some (.sh, .exc C))), hv : exs F hs (e.set x (some (.sh, .exc C))), h2 with
        | none, _, _ => exact trivial
        | some (.er _), _, _ => exact trivial
        | some (.ok (.nx g)), some (.ok (.nx g')), h2 =>
          have hab : ELe g g' := by
            obtain ⟨b, e1, e2⟩ := h2
            cases e1
            exact e2
          exact ⟨_, rfl, hab.exK.set x (SLe.refl none)⟩
        | some (.ok (.nx g)), some (.ok (.rt n d')), h2 =>
          obtain ⟨b, e1, e2⟩ := h2
          cases e1
          exact e2.elim
        | some (.ok (.nx g)), some (.er _), h2 =>
          obtain ⟨b, e1, e2⟩ := h2
          cases e1
        | some (.ok (.nx g)), none, h2 =>
          obtain ⟨b, e1, e2⟩ := h2
          cases e1
        | some (.ok (.rt m d)), some (.ok (.rt n d')), h2 =>
          have hab : PLe (m, d) (n, d') := by
            obtain ⟨b, e1, e2⟩ := h2
            cases e1
            exact e2
          have ed : d = d' := hab.1
          subst ed
          show MLe FlLe (if exF d = true then ok (.rt m d) else none) (if exF d = true then ok (.rt n d) else none)
          split
          · exact ⟨_, rfl, hab⟩
          · exact trivial
        | some (.ok (.rt m d)), some (.ok (.nx _)), h2 =>
          obtain ⟨b, e1, e2⟩ := h2
          cases e1
          exact e2.elim
        | some (.ok (.rt m d)), some (.er _), h2 =>
          obtain ⟨b, e1, e2⟩ := h2
          cases e1
        | some (.ok (.rt m d)), none, h2 =>
          obtain ⟨b, e1, e2⟩ := h2
          cases e1
      · exact trivial
    | some (.ok p), none, h1 => obtain ⟨_, z, _⟩ := h1; cases z
    | some (.ok p), some (.er C), h1 => obtain ⟨_, z, _⟩ := h1; cases z
    | some (.er C), none, h1 => cases h1
    | some (.er C), some (.ok q), h1 => cases h1
  | .tryE a x cs hs, Γ, e, h => by
    simp only [ex]
    have h1 := ev_le F a h
    match hx : ev F a Γ, hy : ev F a e, h1 with
    | none, _, _ => exact trivial
    | some (.ok p), some (.ok q), _ => exact ⟨_, rfl, h⟩
    | some (.er C), some (.er C'), h1 =>
      have : C = C' := by
        have h1 : some (Ex.er C') = some (Ex.er C) := h1
        cases h1; rfl
      subst this
      simp only
      split
      · have h2 := exs_le hs (h.set x (SLe.refl (some (.sh, .exc C))))
        match hu : exs F hs (Γ.set x (some (.sh, .exc C))), hv : exs F hs (e.set x (some (.sh, .exc C))), h2 with
        | none, _, _ => exact trivial
        | some (.er _), _, _ => exact trivial
        | some (.ok (.nx _)), _, _ => exact trivial
        | some (.ok (.rt m d)), some (.ok (.rt n d')), h2 =>
          have hab : PLe (m, d) (n, d') := by
            obtain ⟨b, e1, e2⟩ := h2
            cases e1
            exact e2
          have ed : d = d' := hab.1
          subst ed
          show MLe FlLe (if exF d = true then ok (.rt m d) else none) (if exF d = true then ok (.rt n d) else none)
          split
          · exact ⟨_, rfl, hab⟩
          · exact trivial
        | some (.ok (.rt m d)), some (.ok (.nx _)), h2 =>
          obtain ⟨b, e1, e2⟩ := h2
          cases e1
          exact e2.elim
        | some (.ok (.rt m d)), some (.er _), h2 =>
          obtain ⟨b, e1, e2⟩ := h2
          cases e1
        | some (.ok (.rt m d)), none, h2 =>
          obtain ⟨b, e1, e2⟩ := h2
          cases e1
      · exact trivial
    | some (.ok p), none, h1 => obtain ⟨_, z, _⟩ := h1; cases z
    | some (.ok p), some (.er C), h1 => obtain ⟨_, z, _⟩ := h1; cases z
    | some (.er C), none, h1 => cases h1
    | some (.er C), some (.ok q), h1 => cases h1
  | .popA i x, Γ, e, h => by
    simp only [ex]
    rcases h.nth i with ⟨h1, h2⟩ | ⟨s, t, h1, h2, h3⟩
    · rw [h1]; exact trivial
    · rw [h1, h2]
      match s, t, h3 with
      | none, _, _ => exact trivial
      | some p, none, h3 => exact h3.elim
      | some (m, d), some (n, d'), h3 =>
        obtain ⟨rfl, h4⟩ := h3
        have h4 : Md.le m n = true := h4
        have go : ∀ ds, d = .lst ds → MLe FlLe (if x = i then none else (match ds.getLast? with
          | some d => ok (.nx ((Γ.set i (some (.fl, .lst ds.dropLast))).set x (some (.sh, d))))
          | none => none)) (if x = i then none else (match ds.getLast? with
          | some d => ok (.nx ((e.set i (some (.fl, .lst ds.dropLast))).set x (some (.sh, d))))
          | none => none)) := fun ds _ => by
          split
          · exact trivial
          · split
            · exact ⟨_, rfl, (h.set i (SLe.refl _)).set x (SLe.refl _)⟩
            · exact trivial
        cases m with
        | sh => exact trivial
        | fl =>
          cases n with
          | sh => cases h4
          | fl =>
            cases d with
            | lst ds => exact go ds rfl
            | _ => exact trivial
          | dp =>
            cases d with
            | lst ds => exact go ds rfl
            | _ => exact trivial
        | dp =>
          cases n with
          | sh => cases h4
          | fl => cases h4
          | dp =>
            cases d with
            | lst ds => exact go ds rfl
            | _ => exact trivial
  | .mutT a o as, Γ, e, h => by
    simp only [ex]
    refine (ev_le F a h).bnd fun p q h1 => ?_
    obtain ⟨m, d⟩ := p
    obtain ⟨n, d'⟩ := q
    obtain ⟨rfl, hm⟩ := h1
    have hm : Md.le m n = true := hm
    cases d with
    | lst xs =>
      simp only
      by_cases k : m = .sh
      · rw [if_pos k]; exact trivial
      · have k2 : n ≠ .sh := fun z => by
          subst z
          cases m with
          | sh => exact k rfl
          | fl => cases hm
          | dp => cases hm
        rw [if_neg k, if_neg k2]
        refine (evs_le F as h).bnd fun ps qs h2 => ?_
        rw [h2.snd]
        cases moL o xs (qs.map Prod.snd) with
        | none => exact trivial
        | some ys => exact ⟨_, rfl, h⟩
    | _ => exact trivial
  | .forB x es c, Γ, e, h => by
    simp only [ex]
    refine (evs_le F es h).bnd fun ps qs h1 => ?_
    rw [h1.snd]
    refine forB_le (fun d => ?_) (h.set x (SLe.refl none)) _
    refine (ev_le F c ((frz_mono _ h).set x (SLe.refl _))).bnd fun p q h1 => ?_
    rw [h1.1]
    exact MLe.lift_refl (fun _ => rfl) _
theorem exs_le : ∀ (ss : List S) {Γ e : Dn}, ELe Γ e → MLe FlLe (exs F ss Γ) (exs F ss e)
  | [], Γ, e, h => by
    simp only [exs]
    exact ⟨_, rfl, h⟩
  | s :: ss, Γ, e, h => by
    simp only [exs]
    refine (ex_le s h).bnd fun a b hab => ?_
    match a, b, hab with
    | .nx Γ1, .nx e1, hab => exact exs_le ss hab
    | .rt m d, .rt n d', hab => exact ⟨_, rfl, hab⟩
    | .nx _, .rt _ _, hab => exact hab.elim
    | .rt _ _, .nx _, hab => exact hab.elim
end
end
end TW

set_option Elab.async false
set_option linter.all false
set_option maxRecDepth 100000
set_option maxHeartbeats 4000000
namespace TY
open TW PySem PySem.Spec PyProof.Rows L2

abbrev eL {α : Type} (e : α → D) (xs : List α) : D := .lst (xs.map e)
abbrev e2 {α β : Type} (e : α → D) (f : β → D) (p : α × β) : D := .tup [e p.1, f p.2]
abbrev e3 {α β γ : Type} (e : α → D) (f : β → D) (g : γ → D) (p : α × β × γ) : D := .tup [e p.1, f p.2.1, g p.2.2]
abbrev h2 {α β : Type} (e : α → D) (f : β → D) (p : α × β) : D := .lst [e p.1, f p.2]
abbrev h3 {α β γ : Type} (e : α → D) (f : β → D) (g : γ → D) (p : α × β × γ) : D := .lst [e p.1, f p.2.1, g p.2.2]
abbrev eW : Int × List (Int × Int) → D := e2 D.int (eL (e2 D.int D.int))
structure Dt {α : Type} [DecidableEq α] (n : Nat) (e : α → D) : Prop where
  dat : ∀ a m, n ≤ m → dat (e a) m = true
  eq : ∀ a b, eqD (e a) (e b) = decide (a = b)
theorem dt_int : Dt 0 D.int := ⟨fun _ _ _ => rfl, fun a b => by show (a == b) = _; rw [Bool.eq_iff_iff]; simp⟩
def Lf {α : Type} (e : α → D) : Prop := ∀ a, lfree (e a) = true
theorem lf_bl : Lf D.bl := fun _ => rfl
abbrev Cl (m : Md) (d : D) : Prop := closed m d = true
theorem cl_dp {d : D} : Cl .dp d := rfl
theorem cl_lf {α : Type} {e : α → D} (h : Lf e) {m : Md} {a : α} : Cl m (e a) := closed_le (m := .sh) (by cases m <;> rfl) (h a)
def Ev (F : Tb) (a : E) (Γ : Dn) (m : Md) (d : D) : Prop := ∃ n, ev F a Γ = some (.ok (n, d)) ∧ Md.le m n = true
def Evr (F : Tb) (a : E) (Γ : Dn) (m : Md) (d : D) : Prop := ∃ n, evr F a Γ = some (.ok (n, d)) ∧ Md.le m n = true
def Evs (F : Tb) (as : List E) (Γ : Dn) (ps : List (Md × D)) : Prop := ∃ qs, evs F as Γ = some (.ok qs) ∧ PsLe ps qs
def EvS (F : Tb) (s : Sr) (Γ : Dn) (m : Md) (ds : List D) : Prop := ∃ n, evS F s Γ = some (.ok (n, ds)) ∧ Md.le m n = true
section
variable {F : Tb} {Γ : Dn} {m n : Md} {a b c : E} {α β γ : Type}
theorem ev_var {i : Nat} {d : D} (h : Γ[i]? = some (some (m, d))) : Ev F (.var i) Γ .sh d := ⟨.sh, by simp only [ev, h], rfl⟩
theorem ev_int (i : Int) : Ev F (.lit (.int i)) Γ .dp (.int i) := ⟨.dp, by simp only [ev]; rfl, rfl⟩
theorem ev_bl (i : Bool) : Ev F (.lit (.bl i)) Γ .dp (.bl i) := ⟨.dp, by simp only [ev]; rfl, rfl⟩
theorem ev_non : Ev F (.lit .non) Γ .dp .non := ⟨.dp, by simp only [ev]; rfl, rfl⟩
theorem ev_bin {o : Bop} {x y d : D} {m1 m2 : Md} (ha : Ev F a Γ m1 x) (hb : Ev F b Γ m2 y) (h : binD o x y = some (m, d)) : Ev F (.bin o a b) Γ m d := by
  obtain ⟨n1, h1, _⟩ := ha
  obtain ⟨n2, h2, _⟩ := hb
  exact ⟨m, by simp only [ev, h1, h2, bnd_ok, h]; rfl, Md.le_refl m⟩
theorem ev_add {x y : Int} {m1 m2 : Md} (ha : Ev F a Γ m1 (.int x)) (hb : Ev F b Γ m2 (.int y)) : Ev F (.bin .add a b) Γ .dp (.int (x + y)) := ev_bin ha hb rfl
abbrev CatOk {α : Type} (xs ys : List α) : Prop := xs.length + ys.length ≤ 1000000
abbrev Cm (o : Cop) (x y : D) (c : Bool) : Prop := cmpD o x y = some c
theorem cm_lt (x y : Int) : Cm .lt (.int x) (.int y) (decide (x < y)) := rfl
theorem cm_le (x y : Int) : Cm .le (.int x) (.int y) (decide (x ≤ y)) := rfl
theorem cm_gt (x y : Int) : Cm .gt (.int x) (.int y) (decide (y < x)) := rfl
theorem cm_ltP (p q : Int × Int) : Cm .lt (e2 D.int D.int p) (e2 D.int D.int q) (ltP2 p q) := rfl
theorem cm_ne [DecidableEq α] {k : Nat} {e : α → D} (h : Dt k e) (hk : k ≤ 20 := by decide) (x y : α) {inst : Decidable (x = y)} : Cm .ne (e x) (e y) (!@decide (x = y) inst) := by
  show (if TW.dat (e x) 20 && TW.dat (e y) 20 then some (!eqD (e x) (e y)) else none) = _
  rw [h.dat _ _ hk, h.dat _ _ hk, h.eq]
  exact congrArg (fun b => some (!b)) (by congr)
theorem ev_cmp {o : Cop} {x y : D} {t : Bool} {m1 m2 : Md} (ha : Ev F a Γ m1 x) (hb : Ev F b Γ m2 y) (h : Cm o x y t) : Ev F (.cmp o a b) Γ .dp (.bl t) := by
  obtain ⟨n1, h1, _⟩ := ha
  obtain ⟨n2, h2, _⟩ := hb
  have h : cmpD o x y = some t := h
  exact ⟨.dp, by simp only [ev, h1, h2, bnd_ok, h]; rfl, rfl⟩
theorem ev_chn {o o2 : Cop} {x y z : D} {t u : Bool} {m1 m2 m3 : Md} (ha : Ev F a Γ m1 x) (hb : Ev F b Γ m2 y) (hc : Ev F c Γ m3 z) (h : Cm o x y t) (h' : Cm o2 y z u) : Ev F (.chn o o2 a b c) Γ .dp (.bl (t && u)) := by
  obtain ⟨n1, h1, _⟩ := ha
  obtain ⟨n2, h2, _⟩ := hb
  obtain ⟨n3, h3, _⟩ := hc
  have h : cmpD o x y = some t := h
  have h' : cmpD o2 y z = some u := h'
  refine ⟨.dp, ?_, rfl⟩
  simp only [ev, h1, h2, bnd_ok, h]
  cases t with
  | false => rfl
  | true =>
    simp only [h3, bnd_ok, h']
    rfl
theorem ev_not {t : Bool} {m1 : Md} (ha : Ev F a Γ m1 (.bl t)) : Ev F (.not a) Γ .dp (.bl (!t)) := by
  obtain ⟨n1, h1, _⟩ := ha
  exact ⟨.dp, by simp only [ev, h1, bnd_ok]; rfl, rfl⟩
theorem ev_and {t u : Bool} {m1 m2 : Md} (ha : Ev F a Γ m1 (.bl t)) (hb : t = true → Ev F b Γ m2 (.bl u)) : Ev F (.and a b) Γ .sh (.bl (t && u)) := by
  obtain ⟨n1, h1, _⟩ := ha
  cases t with
  | false => exact ⟨.dp, by simp only [ev, h1, bnd_ok, boolD_bl]; rfl, rfl⟩
  | true =>
    obtain ⟨n2, h2, _⟩ := hb rfl
    exact ⟨n2, by simp only [ev, h1, bnd_ok, boolD_bl, h2]; rfl, rfl⟩
theorem ev_or {t u : Bool} {m1 m2 : Md} (ha : Ev F a Γ m1 (.bl t)) (hb : t = false → Ev F b Γ m2 (.bl u)) : Ev F (.or a b) Γ .sh (.bl (t || u)) := by
  obtain ⟨n1, h1, _⟩ := ha
  cases t with
  | true => exact ⟨.dp, by simp only [ev, h1, bnd_ok, boolD_bl]; rfl, rfl⟩
  | false =>
    obtain ⟨n2, h2, _⟩ := hb rfl
    exact ⟨n2, by simp only [ev, h1, bnd_ok, boolD_bl, h2]; rfl, rfl⟩
theorem evs_nil : Evs F [] Γ [] := ⟨[], by simp only [evs], trivial⟩
theorem evs_cons {d : D} {as : List E} {ps : List (Md × D)} (ha : Ev F a Γ m d) (h : Evs F as Γ ps) : Evs F (a :: as) Γ ((m, d) :: ps) := by
  obtain ⟨n1, h1, h2⟩ := ha
  obtain ⟨qs, h3, h4⟩ := h
  exact ⟨(n1, d) :: qs, by simp only [evs, h1, h3, bnd_ok], ⟨rfl, h2⟩, h4⟩
abbrev Cls (ps : List (Md × D)) : Prop := closeds ps = true
def gI {α : Type} [Inhabited α] (xs : List α) (i : Int) : α := (atI xs i).getD default
theorem ev_tat {ds : List D} {i : Int} {d : D} {m1 : Md} (ha : Ev F a Γ m1 (.tup ds)) (h : atI ds i = some d) : Ev F (.sub a (.lit (.int i))) Γ .sh d := by
  obtain ⟨n1, h1, _⟩ := ha
  refine ⟨.sh, ?_, rfl⟩
  simp only [ev, h1, bnd_ok]
  show lift ((atI ds i).map _) = _
  rw [h]
  rfl
theorem cutL_map {α β : Type} (f : α → β) (xs : List α) (l h : Option Int) : cutL (xs.map f) l h = (cutL xs l h).map f := by
  unfold cutL
  rw [List.length_map, ← List.map_drop, ← List.map_take]
theorem ev_slc {pl ph : Bool} {e : α → D} {xs : List α} {u v : D} {l h : Option Int} {m1 m2 m3 : Md} {lo hi : E} (ha : Ev F a Γ m1 (eL e xs)) (hl : Ev F lo Γ m2 u) (hh : Ev F hi Γ m3 v) (el : optI pl u = some l) (eh : optI ph v = some h) : Ev F (.slc pl ph a lo hi) Γ .fl (eL e (cutL xs l h)) := by
  obtain ⟨n1, h1, _⟩ := ha
  obtain ⟨n2, h2, _⟩ := hl
  obtain ⟨n3, h3, _⟩ := hh
  refine ⟨.fl, ?_, rfl⟩
  simp only [ev, h1, h2, h3, bnd_ok, el, eh]
  show some (Ex.ok (Md.fl, D.lst (cutL (xs.map e) l h))) = _
  rw [cutL_map]
def Fn (F : Tb) (f : Nat) (ds : List D) (m : Md) (d : D) : Prop := ∃ n, F f ds = some (.ok (n, d)) ∧ Md.le m n = true
theorem ev_cal {f : Nat} {as : List E} {ps : List (Md × D)} {d : D} (h : Evs F as Γ ps) (k : Fn F f (ps.map Prod.snd) m d) : Ev F (.cal f as) Γ m d := by
  obtain ⟨qs, h1, h2⟩ := h
  obtain ⟨n, h3, h4⟩ := k
  rw [h2.snd] at h3
  by_cases c : n = .sh ∧ closeds qs = true ∧ closed .fl d = true
  · refine ⟨.fl, by simp only [ev, h1, h3, bnd_ok, if_pos c], ?_⟩
    rw [c.1] at h4
    exact Md.le_trans h4 rfl
  · exact ⟨n, by simp only [ev, h1, h3, bnd_ok, if_neg c], h4⟩
theorem ev_bi {f : Bi} {as : List E} {ps : List (Md × D)} {d : D} (h : Evs F as Γ ps) (k : biD f (ps.map Prod.snd) = some (m, d)) : Ev F (.bi f as) Γ m d := by
  obtain ⟨qs, h1, h2⟩ := h
  rw [h2.snd] at k
  exact ⟨m, by simp only [ev, h1, bnd_ok, k]; rfl, Md.le_refl m⟩
theorem evs1 {d : D} (ha : Ev F a Γ m d) : Evs F [a] Γ [(m, d)] := evs_cons ha evs_nil
theorem evs2 {d d' : D} {m' : Md} (ha : Ev F a Γ m d) (hb : Ev F b Γ m' d') : Evs F [a, b] Γ [(m, d), (m', d')] := evs_cons ha (evs_cons hb evs_nil)
theorem ev_len {e : α → D} {xs : List α} {m1 : Md} (ha : Ev F a Γ m1 (eL e xs)) : Ev F (.bi .len [a]) Γ .dp (.int (xs.length : Int)) := ev_bi (evs1 ha) (by show some (Md.dp, D.int ((xs.map e).length : Int)) = _; rw [List.length_map])
theorem ev_lenT {ds : List D} {m1 : Md} (ha : Ev F a Γ m1 (.tup ds)) : Ev F (.bi .len [a]) Γ .dp (.int (ds.length : Int)) := ev_bi (evs1 ha) rfl
theorem ev_all {xs : List Bool} {m1 : Md} (ha : Ev F a Γ m1 (eL D.bl xs)) : Ev F (.bi .all [a]) Γ .dp (.bl (xs.all id)) := ev_bi (evs1 ha) (bi_all id xs)
def rg (a b : Int) : List Int := (List.range (b - a).toNat).map fun (i : Nat) => a + (i : Int)
theorem ev_isi {d : D} {t : Ty} {u : Bool} {m1 : Md} (ha : Ev F a Γ m1 d) (h : isiD d t = some u) : Ev F (.isi a t) Γ .dp (.bl u) := by
  obtain ⟨n1, h1, _⟩ := ha
  exact ⟨.dp, by simp only [ev, h1, bnd_ok, h]; rfl, rfl⟩
theorem es_list {e : α → D} {xs : List α} (ha : Ev F a Γ m (eL e xs)) : EvS F (.seq a) Γ m (xs.map e) := by
  obtain ⟨n1, h1, h2⟩ := ha
  exact ⟨n1, by simp only [evS, h1, bnd_ok]; rfl, h2⟩
def en {α : Type} (xs : List α) : List (Int × α) := xs.zipIdx.map fun p => ((p.2 : Int), p.1)
theorem es_zip {e : α → D} {f : β → D} {xs : List α} {ys : List β} {m1 m2 : Md} (ha : Ev F a Γ m1 (eL e xs)) (hb : Ev F b Γ m2 (eL f ys)) : EvS F (.zip a b) Γ .sh ((xs.zip ys).map (e2 e f)) := by
  obtain ⟨n1, h1, _⟩ := ha
  obtain ⟨n2, h2, _⟩ := hb
  refine ⟨.sh, ?_, rfl⟩
  simp only [evS, h1, h2, bnd_ok]
  rw [zipD_map]
def EvC (F : Tb) (cs : List E) (Γ : Dn) (t : Bool) : Prop := evC F cs Γ = some (.ok t)
theorem ev_compG {ts : List Nat} {one : Bool} {s : Sr} {cs : List E} {m1 m2 : Md} (ei : α → D) (eo : β → D) (xs : List α) (p : α → Bool) (g : α → β)
    (hs : EvS F s Γ m1 (xs.map ei))
    (hb : ∀ x ∈ xs, ∃ Γ1, bindT ts one (ei x) Γ = some Γ1 ∧ EvC F cs Γ1 (p x) ∧ (p x = true → Ev F a Γ1 m2 (eo (g x)))) :
    ∃ ps, ev F (.comp ts one s cs a) Γ = some (.ok (boxM ps, eL eo ((xs.filter p).map g))) ∧ ((∀ x, Cl m2 (eo x)) → Cls ps) := by
  obtain ⟨n1, h1, _⟩ := hs
  classical
  have hm : ∃ md : α → Md, ∀ x ∈ xs, ∃ e1, bindT ts one (ei x) Γ = some e1 ∧ evC F cs e1 = some (.ok (p x)) ∧ (p x = true → ev F a e1 = some (.ok (md x, eo (g x))) ∧ Md.le m2 (md x) = true) := by
    refine ⟨fun x => if h : x ∈ xs ∧ p x = true then Classical.choose ((Classical.choose_spec (hb x h.1)).2.2 h.2) else .dp, fun x hx => ?_⟩
    refine ⟨Classical.choose (hb x hx), (Classical.choose_spec (hb x hx)).1, (Classical.choose_spec (hb x hx)).2.1, fun hp => ?_⟩
    have h : x ∈ xs ∧ p x = true := ⟨hx, hp⟩
    simp only
    rw [dif_pos h]
    exact Classical.choose_spec ((Classical.choose_spec (hb x h.1)).2.2 h.2)
  obtain ⟨md, hm⟩ := hm
  refine ⟨(xs.filter p).map fun x => (md x, eo (g x)), ?_, fun hc => closeds_all fun q hq => ?_⟩
  · rw [ev_comp ei xs p (fun x => (md x, eo (g x))) h1 (fun x hx => by
      obtain ⟨e1, h1, h2, h3⟩ := hm x hx
      exact ⟨e1, h1, h2, fun hp => (h3 hp).1⟩), eL, List.map_map]
    rfl
  · obtain ⟨x, hx, rfl⟩ := List.mem_map.mp hq
    obtain ⟨hx, hp⟩ := List.mem_filter.mp hx
    obtain ⟨e1, g1, g2, g3⟩ := hm x hx
    exact closed_le (g3 hp).2 (hc (g x))
theorem ev_compC {ts : List Nat} {one : Bool} {s : Sr} {cs : List E} {m1 m2 : Md} (ei : α → D) (eo : β → D) (xs : List α) (p : α → Bool) (g : α → β) (hc : ∀ x, Cl m2 (eo x))
    (hs : EvS F s Γ m1 (xs.map ei))
    (hb : ∀ x ∈ xs, ∃ Γ1, bindT ts one (ei x) Γ = some Γ1 ∧ EvC F cs Γ1 (p x) ∧ (p x = true → Ev F a Γ1 m2 (eo (g x)))) :
    Ev F (.comp ts one s cs a) Γ .dp (eL eo ((xs.filter p).map g)) := by
  obtain ⟨ps, h1, h2⟩ := ev_compG ei eo xs p g hs hb
  refine ⟨_, h1, ?_⟩
  unfold boxM
  rw [h2 hc]
  rfl
theorem ev_compF {ts : List Nat} {one : Bool} {s : Sr} {cs : List E} {m1 m2 : Md} (ei : α → D) (eo : β → D) (xs : List α) (p : α → Bool) (g : α → β)
    (hs : EvS F s Γ m1 (xs.map ei))
    (hb : ∀ x ∈ xs, ∃ Γ1, bindT ts one (ei x) Γ = some Γ1 ∧ EvC F cs Γ1 (p x) ∧ (p x = true → Ev F a Γ1 m2 (eo (g x)))) :
    Ev F (.comp ts one s cs a) Γ .fl (eL eo ((xs.filter p).map g)) := by
  obtain ⟨ps, h1, h2⟩ := ev_compG ei eo xs p g hs hb
  refine ⟨_, h1, ?_⟩
  unfold boxM
  split <;> rfl
theorem ev_compC0 {ts : List Nat} {one : Bool} {s : Sr} {m1 m2 : Md} (ei : α → D) (eo : β → D) (xs : List α) (g : α → β) (hc : ∀ x, Cl m2 (eo x))
    (hs : EvS F s Γ m1 (xs.map ei))
    (hb : ∀ x ∈ xs, ∃ Γ1, bindT ts one (ei x) Γ = some Γ1 ∧ Ev F a Γ1 m2 (eo (g x))) :
    Ev F (.comp ts one s [] a) Γ .dp (eL eo (xs.map g)) := by
  have := ev_compC (cs := []) ei eo xs (fun _ => true) g hc hs (fun x hx => by
    obtain ⟨Γ1, h1, h2⟩ := hb x hx
    exact ⟨Γ1, h1, by unfold EvC; simp only [evC], fun _ => h2⟩)
  rwa [List.filter_eq_self.mpr fun _ _ => rfl] at this
theorem ev_compF0 {ts : List Nat} {one : Bool} {s : Sr} {m1 m2 : Md} (ei : α → D) (eo : β → D) (xs : List α) (g : α → β)
    (hs : EvS F s Γ m1 (xs.map ei))
    (hb : ∀ x ∈ xs, ∃ Γ1, bindT ts one (ei x) Γ = some Γ1 ∧ Ev F a Γ1 m2 (eo (g x))) :
    Ev F (.comp ts one s [] a) Γ .fl (eL eo (xs.map g)) := by
  have := ev_compF (cs := []) ei eo xs (fun _ => true) g hs (fun x hx => by
    obtain ⟨Γ1, h1, h2⟩ := hb x hx
    exact ⟨Γ1, h1, by unfold EvC; simp only [evC], fun _ => h2⟩)
  rwa [List.filter_eq_self.mpr fun _ _ => rfl] at this
end
end TY

set_option Elab.async false
set_option linter.all false
set_option maxRecDepth 100000
set_option maxHeartbeats 4000000
namespace TY
open TW PySem PySem.Spec PyProof.Rows L2

def lett {α : Type} {β : Sort u} (a : α) (f : α → β) : β := f a
def lett2 {α β : Type} {γ : Sort u} (a : α) (b : β) (f : α → β → γ) : γ := f a b
def Blk (F : Tb) (ss : List S) (Γ : Dn) (o : Fl) : Prop := ∃ b, exs F ss Γ = some (.ok b) ∧ FlLe o b
section
variable {F : Tb} {Γ Γ1 : Dn} {ss : List S} {o : Fl} {m n : Md} {a b c : E} {α β σ τ ρ : Type}
theorem FlLe.trans : ∀ {a b c : Fl}, FlLe a b → FlLe b c → FlLe a c
  | .nx _, .nx _, .nx _, h, k => ELe.trans h k
  | .rt _ _, .rt _ _, .rt _ _, h, k => PLe.trans h k
  | .nx _, .rt _ _, _, h, _ => h.elim
  | .rt _ _, .nx _, _, h, _ => h.elim
  | .nx _, .nx _, .rt _ _, _, k => k.elim
  | .rt _ _, .rt _ _, .nx _, _, k => k.elim
theorem Blk.env {Γ' : Dn} (h : Blk F ss Γ o) (k : ELe Γ Γ') : Blk F ss Γ' o := by
  obtain ⟨b, h1, h2⟩ := h
  have := exs_le F ss k
  rw [h1] at this
  obtain ⟨b', h3, h4⟩ := this
  exact ⟨b', h3, FlLe.trans h2 h4⟩
theorem Blk.step {s : S} {Γ' : Dn} (h : ex F s Γ = some (.ok (.nx Γ'))) (k : ELe Γ1 Γ') (r : Blk F ss Γ1 o) : Blk F (s :: ss) Γ o := by
  obtain ⟨b, h1, h2⟩ := r.env k
  exact ⟨b, by simp only [exs, h, bnd_ok, h1], h2⟩
theorem evr_of {d : D} (h : Ev F a Γ m d) (k : evr F a Γ = ev F a Γ := by simp only [evr]) : Evr F a Γ m d := by
  obtain ⟨n, h1, h2⟩ := h
  exact ⟨n, k.trans h1, h2⟩
theorem Evr.le {d : D} (h : Evr F a Γ m d) (k : Md.le n m = true) : Evr F a Γ n d := by
  obtain ⟨q, h1, h2⟩ := h
  exact ⟨q, h1, Md.le_trans k h2⟩
theorem frz_give {is : List Nat} {d : D} : ELe (frz is Γ) (give is m d Γ) := by
  rw [give_eq]
  split
  · exact frz_le _ _
  · split
    · exact ELe.refl _
    · exact frz_le _ _
theorem keep_sh {d : D} : PLe (.sh, d) (keep n d) := by
  unfold keep
  split
  · exact PLe.refl _
  · exact ⟨rfl, rfl⟩
theorem blk_asgF {i : Nat} {e : α → D} {v : α} {O : τ → Fl} {K : α → τ} {OK : α → Prop} {Γ1 : α → Dn} (ha : Ev F a Γ m (e v)) (hΓ : ∀ x, ELe (Γ1 x) ((frz (nm a) Γ).set i (some (keep m (e x))))) (hr : ∀ x, OK x → Blk F ss (Γ1 x) (O (K x))) (hok : lett v OK) : Blk F (.asg i a :: ss) Γ (O (lett v K)) := by
  obtain ⟨n, h1, h2⟩ := ha
  refine Blk.step (Γ1 := Γ1 v) (Γ' := (give (nm a) n (e v) Γ).set i (some (keep n (e v)))) (by simp only [ex, h1, bnd_ok]) ?_ (hr v hok)
  refine (hΓ v).trans ?_
  exact frz_give.set i (s := some (keep m (e v))) (t := some (keep n (e v))) (keep_le (p := (m, e v)) (q := (n, e v)) ⟨rfl, h2⟩)
section
variable {O : τ → Fl}
end
theorem exs_app (A : List S) : ∀ Γ, exs F (A ++ ss) Γ = bnd (exs F A Γ) fun r => match r with | .nx e1 => exs F ss e1 | .rt m d => ok (.rt m d) := by
  induction A with
  | nil => intro Γ; simp only [List.nil_append, exs]; rfl
  | cons s A ih =>
    intro Γ
    simp only [List.cons_append, exs]
    match ex F s Γ with
    | none => rfl
    | some (.er C) => rfl
    | some (.ok (.nx e)) => simp only [bnd_ok]; exact ih e
    | some (.ok (.rt m d)) => rfl
theorem blk_if {O : τ → Fl} {r1 r2 : τ} {A B : List S} {t : Bool} {m1 : Md} (h : Ev F c Γ m1 (.bl t)) (h1 : t = true → Blk F (A ++ ss) Γ (O r1)) (h2 : t = false → Blk F (B ++ ss) Γ (O r2)) : Blk F (.ife c A B :: ss) Γ (O (if t = true then r1 else r2)) := by
  obtain ⟨n, g1, _⟩ := h
  cases t with
  | true =>
    obtain ⟨b, k1, k2⟩ := h1 rfl
    rw [exs_app] at k1
    exact ⟨b, by simp only [exs, ex, g1, bnd_ok, boolD_bl]; exact k1, k2⟩
  | false =>
    obtain ⟨b, k1, k2⟩ := h2 rfl
    rw [exs_app] at k1
    exact ⟨b, by simp only [exs, ex, g1, bnd_ok, boolD_bl]; exact k1, k2⟩
def okFold {α σ : Type} (ok : σ → α → Prop) (st : σ → α → σ) : List α → σ → Prop
  | [], _ => True
  | x :: xs, s => ok s x ∧ okFold ok st xs (st s x)
theorem mo_append {e : α → D} {xs : List α} {v : α} (h : xs.length < 1000000) : moL .append (xs.map e) [e v] = some ((xs ++ [v]).map e) := by
  show (if (xs.map e).length < SZ then some (xs.map e ++ [e v]) else none) = _
  rw [List.length_map, if_pos h, List.map_append]
  rfl
theorem mo_extend {e : α → D} {xs ys : List α} (h : CatOk xs ys) : moL .extend (xs.map e) [eL e ys] = some ((xs ++ ys).map e) := by
  show (if (xs.map e).length + (ys.map e).length ≤ SZ then some (xs.map e ++ ys.map e) else none) = _
  rw [List.length_map, List.length_map, if_pos h, List.map_append]
end
end TY

set_option Elab.async false
set_option linter.all false
set_option maxRecDepth 100000
set_option maxHeartbeats 4000000
namespace TY
open TW PySem PySem.Spec PyProof.Rows L2
abbrev e4 {α β γ δ : Type} (e : α → D) (f : β → D) (g : γ → D) (i : δ → D) (p : α × β × γ × δ) : D := .tup [e p.1, f p.2.1, g p.2.2.1, i p.2.2.2]
abbrev h4 {α β γ δ : Type} (e : α → D) (f : β → D) (g : γ → D) (i : δ → D) (p : α × β × γ × δ) : D := .lst [e p.1, f p.2.1, g p.2.2.1, i p.2.2.2]
section
variable {F : Tb} {Γ Γ1 : Dn} {ss : List S} {o : Fl} {m n : Md} {a b c : E} {α β σ τ ρ : Type}
def rtF {ρ : Type} (m : Md) (e : ρ → D) (v : ρ) : Fl := .rt m (e v)
theorem blk_retR {e : ρ → D} {v : ρ} (h : Evr F a Γ m (e v)) : Blk F (.ret a :: ss) Γ (rtF m e v) := by
  obtain ⟨n, h1, h2⟩ := h
  exact ⟨.rt n (e v), by simp only [exs, ex, h1, bnd_ok], rfl, h2⟩
theorem fn_retR {P : List Fun} {k f : Nat} {Fu : Fun} {ds : List D} {e : ρ → D} {v : ρ} (hf : P[f]? = some Fu) (hn : ds.length = Fu.np) (h : Blk (run P k) Fu.body (start0 Fu.np Fu.nv ds) (rtF m e v)) : Fn (run P (k + 1)) f ds m (e v) := by
  obtain ⟨b, h1, h2⟩ := h
  match b, h2 with
  | .nx _, h2 => exact h2.elim
  | .rt m' d', h2 =>
    obtain ⟨h4, h3⟩ := h2
    have h4 : e v = d' := h4
    subst h4
    refine ⟨m', ?_, h3⟩
    show (match P[f]? with | some F => callF (run P k) F ds | none => none) = _
    rw [hf]
    show callF (run P k) Fu ds = _
    unfold callF
    rw [if_pos hn, h1]
    rfl
end
end TY

set_option Elab.async false
set_option linter.all false
set_option maxRecDepth 100000
set_option maxHeartbeats 4000000
namespace TY
open TW PySem PySem.Spec PyProof.Rows L2
abbrev eX (d : D) : D := d
end TY

set_option Elab.async false
set_option linter.all false
set_option maxRecDepth 100000
set_option maxHeartbeats 4000000
namespace TY
open TW PySem PySem.Spec PyProof.Rows L2
variable {α τ : Type} {F : Tb} {Γ : Dn} {m : Md} {a : E} {ss : List S}
theorem blk_ifT {c : E} {o : Fl} {A B : List S} {t : Bool} {m1 : Md} (h : Ev F c Γ m1 (.bl t)) (h1 : t = true) (h2 : Blk F (A ++ ss) Γ o) : Blk F (.ife c A B :: ss) Γ o := by
  subst h1
  exact blk_if (O := fun z => z) (r1 := o) (r2 := o) h (fun _ => h2) (fun z => by cases z)
end TY

set_option Elab.async false
set_option linter.all false
set_option maxRecDepth 100000
set_option maxHeartbeats 4000000
namespace TY
open TW PySem PySem.Spec PyProof.Rows L2
abbrev eCv (g : List (List Int)) : D := .ins 6 "groups" (eL (eL D.int) g)
abbrev eBr (p : List Int) : D := .ins 7 "places" (eL D.int p)
abbrev Ans := List (List Int) ⊕ List Int
def eA : Ans → D
  | .inl g => eCv g
  | .inr p => eBr p
section
variable {α σ τ ρ : Type} {F : Tb} {Γ : Dn} {m m1 : Md} {a : E} {ss : List S} {as : List E} {ps : List (Md × D)}
end
theorem Fn.le {F : Tb} {f : Nat} {ds : List D} {m n : Md} {d : D} (h : Fn F f ds m d) (k : Md.le n m = true) : Fn F f ds n d := by
  obtain ⟨a, h1, h2⟩ := h
  exact ⟨a, h1, by cases n <;> cases m <;> cases a <;> first | rfl | exact h2 | exact k⟩
instance : Inhabited (List (List Int) ⊕ List Int) := ⟨.inl []⟩
end TY

set_option Elab.async false
set_option linter.all false
set_option maxRecDepth 100000
set_option maxHeartbeats 4000000
namespace TY
open TW PySem PySem.Spec PyProof.Rows L2
instance : Inhabited D := ⟨.non⟩
variable {F : Tb} {Γ : Dn} {a b : E}
end TY

set_option Elab.async false
set_option linter.all false
set_option maxRecDepth 100000
set_option maxHeartbeats 4000000
namespace TW
open PySem PySem.Spec PyProof.Rows L2
def TLe (F G : Tb) : Prop := ∀ f ds r, F f ds = some r → G f ds = some r
abbrev QLe {α : Type} (x y : M α) : Prop := ∀ r, x = some r → y = some r
theorem QLe.refl {α : Type} (x : M α) : QLe x x := fun _ h => h
theorem QLe.bnd {α β : Type} {x y : M α} {f g : α → M β} (h : QLe x y) (k : ∀ a, QLe (f a) (g a)) : QLe (TW.bnd x f) (TW.bnd y g) := by
  intro r hr
  match x, h, hr with
  | none, _, hr => cases hr
  | some (.er C), h, hr => rw [h _ rfl]; exact hr
  | some (.ok a), h, hr => rw [h _ rfl]; exact k a r hr
section
variable {F G : Tb} (hFG : TLe F G)
include hFG
end
end TW

set_option Elab.async false
set_option linter.all false
set_option maxRecDepth 100000
set_option maxHeartbeats 4000000
namespace TY
open TW PySem PySem.Spec PyProof.Rows L2
def v_is_whole (thing_ : Int) : Bool := (true && (!false))
theorem r_is_whole (k : Nat) (hk : 1 ≤ k) (thing_ : Int) : Fn (run GP k) 0 [D.int thing_] .sh (D.bl (v_is_whole thing_)) := by
  obtain ⟨k, rfl⟩ : ∃ j, k = j + 1 := ⟨k - 1, by omega⟩
  exact fn_retR (Fu := fu_is_whole) (e := D.bl) (v := v_is_whole thing_) rfl rfl (show Blk _ _ [some (.sh, D.int thing_)] (rtF _ _ ((true && (!false)))) from (blk_retR (evr_of (ev_and (ev_isi (ev_var rfl) rfl) (fun hq3 => (ev_not (ev_isi (ev_var rfl) rfl)))))))
end TY

set_option Elab.async false
set_option linter.all false
set_option maxRecDepth 100000
set_option maxHeartbeats 4000000
namespace TY
open TW PySem PySem.Spec PyProof.Rows L2
def v_is_below (thing_ : Int) (many_ : Int) : Bool := ((v_is_whole thing_) && ((decide ((0 : Int) ≤ thing_)) && (decide (thing_ < many_))))
theorem r_is_below (k : Nat) (hk : 2 ≤ k) (thing_ : Int) (many_ : Int) : Fn (run GP k) 1 [D.int thing_, D.int many_] .sh (D.bl (v_is_below thing_ many_)) := by
  obtain ⟨k, rfl⟩ : ∃ j, k = j + 1 := ⟨k - 1, by omega⟩
  exact fn_retR (Fu := fu_is_below) (e := D.bl) (v := v_is_below thing_ many_) rfl rfl (show Blk _ _ [some (.sh, D.int thing_), some (.sh, D.int many_)] (rtF _ _ (((v_is_whole thing_) && ((decide ((0 : Int) ≤ thing_)) && (decide (thing_ < many_)))))) from (blk_retR (evr_of (ev_and (ev_cal (evs_cons (ev_var rfl) evs_nil) (r_is_whole k (by omega) thing_)) (fun hq3 => (ev_chn (ev_int _) (ev_var rfl) (ev_var rfl) (cm_le _ _) (cm_lt _ _)))))))
end TY

set_option Elab.async false
set_option linter.all false
set_option maxRecDepth 100000
set_option maxHeartbeats 4000000
namespace TY
open TW PySem PySem.Spec PyProof.Rows L2
def v_is_tie (thing_ : Int × Int) (many_ : Int) : Bool := (if ((!true) || ((!decide ((2 : Int) = (2 : Int))) || (!(v_is_below thing_.1 many_)))) = true then false else ((v_is_below thing_.2 many_) && (decide (thing_.1 < thing_.2))))
theorem r_is_tie (k : Nat) (hk : 3 ≤ k) (thing_ : Int × Int) (many_ : Int) : Fn (run GP k) 2 [(e2 D.int D.int) thing_, D.int many_] .sh (D.bl (v_is_tie thing_ many_)) := by
  obtain ⟨k, rfl⟩ : ∃ j, k = j + 1 := ⟨k - 1, by omega⟩
  exact fn_retR (Fu := fu_is_tie) (e := D.bl) (v := v_is_tie thing_ many_) rfl rfl (show Blk _ _ [some (.sh, (e2 D.int D.int) thing_), some (.sh, D.int many_)] (rtF _ _ ((if ((!true) || ((!decide ((2 : Int) = (2 : Int))) || (!(v_is_below thing_.1 many_)))) = true then false else ((v_is_below thing_.2 many_) && (decide (thing_.1 < thing_.2)))))) from (blk_if (ev_or (ev_not (ev_isi (ev_var rfl) rfl)) (fun hq10 => (ev_or (ev_cmp (ev_lenT (ev_var rfl)) (ev_int _) (cm_ne (e := D.int) dt_int (by decide) (2 : Int) (2 : Int))) (fun hq9 => (ev_not (ev_cal (evs_cons (ev_tat (ev_var rfl) rfl) (evs_cons (ev_var rfl) evs_nil)) (r_is_below k (by omega) thing_.1 many_))))))) (fun hq11 => (blk_retR (Evr.le (evr_of (ev_bl _)) rfl))) (fun hq11 => (blk_retR (evr_of (ev_and (ev_cal (evs_cons (ev_tat (ev_var rfl) rfl) (evs_cons (ev_var rfl) evs_nil)) (r_is_below k (by omega) thing_.2 many_)) (fun hq12 => (ev_cmp (ev_tat (ev_var rfl) rfl) (ev_tat (ev_var rfl) rfl) (cm_lt _ _)))))))))
end TY

set_option Elab.async false
set_option linter.all false
set_option maxRecDepth 100000
set_option maxHeartbeats 4000000
namespace TY
open TW PySem PySem.Spec PyProof.Rows L2
def v_is_web (thing_ : Int × (List (Int × Int))) : Bool := (if ((!true) || ((!decide ((2 : Int) = (2 : Int))) || (!(v_is_below thing_.1 ((24 : Int) + (1 : Int)))))) = true then false else lett thing_.2 fun (ties4 : List (Int × Int)) => (if ((!true) || ((decide ((66 : Int) < (ties4.length : Int))) || (!((ties4.map fun (tie5 : Int × Int) => (v_is_tie tie5 thing_.1)).all id)))) = true then false else (((ties4.zip (cutL ties4 (some (1 : Int)) none)).map fun (it6 : (Int × Int) × (Int × Int)) => (ltP2 it6.1 it6.2)).all id)))
theorem r_is_web (k : Nat) (hk : 4 ≤ k) (thing_ : Int × (List (Int × Int))) : Fn (run GP k) 3 [eW thing_] .dp (D.bl (v_is_web thing_)) := by
  obtain ⟨k, rfl⟩ : ∃ j, k = j + 1 := ⟨k - 1, by omega⟩
  exact fn_retR (Fu := fu_is_web) (e := D.bl) (v := v_is_web thing_) rfl rfl (show Blk _ _ [some (.sh, eW thing_), none, none, none, none] (rtF _ _ ((if ((!true) || ((!decide ((2 : Int) = (2 : Int))) || (!(v_is_below thing_.1 ((24 : Int) + (1 : Int)))))) = true then false else lett thing_.2 fun (ties4 : List (Int × Int)) => (if ((!true) || ((decide ((66 : Int) < (ties4.length : Int))) || (!((ties4.map fun (tie5 : Int × Int) => (v_is_tie tie5 thing_.1)).all id)))) = true then false else (((ties4.zip (cutL ties4 (some (1 : Int)) none)).map fun (it6 : (Int × Int) × (Int × Int)) => (ltP2 it6.1 it6.2)).all id))))) from (blk_if (ev_or (ev_not (ev_isi (ev_var rfl) rfl)) (fun hq14 => (ev_or (ev_cmp (ev_lenT (ev_var rfl)) (ev_int _) (cm_ne (e := D.int) dt_int (by decide) (2 : Int) (2 : Int))) (fun hq13 => (ev_not (ev_cal (evs_cons (ev_tat (ev_var rfl) rfl) (evs_cons (ev_add (ev_int _) (ev_int _)) evs_nil)) (r_is_below k (by omega) thing_.1 ((24 : Int) + (1 : Int))))))))) (fun hq15 => (blk_retR (evr_of (ev_bl _)))) (fun hq15 => (blk_asgF (e := (eL (e2 D.int D.int))) (OK := fun _ => True) (ev_tat (ev_var rfl) rfl) (Γ1 := fun ties4 => [some (.sh, eW thing_), some (.sh, (eL (e2 D.int D.int)) ties4), none, none, none]) (fun ties4 => ⟨⟨rfl, rfl⟩, ⟨rfl, rfl⟩, trivial, trivial, trivial, trivial⟩) (fun ties4 h => (blk_if (ev_or (ev_not (ev_isi (ev_var rfl) rfl)) (fun hq20 => (ev_or (ev_cmp (ev_len (ev_var rfl)) (ev_int _) (cm_gt _ _)) (fun hq19 => (ev_not (ev_all (ev_compC0 (e2 D.int D.int) D.bl ties4 (fun (tie5 : Int × Int) => (v_is_tie tie5 thing_.1)) (fun _ => (cl_lf lf_bl)) (es_list (ev_var rfl)) (fun tie5 hq16 => ⟨_, rfl, (ev_cal (evs_cons (ev_var rfl) (evs_cons (ev_tat (ev_var rfl) rfl) evs_nil)) (r_is_tie k (by omega) tie5 thing_.1))⟩)))))))) (fun hq21 => (blk_retR (evr_of (ev_bl _)))) (fun hq21 => (blk_retR (evr_of (ev_all (ev_compC0 (e2 (e2 D.int D.int) (e2 D.int D.int)) D.bl (ties4.zip (cutL ties4 (some (1 : Int)) none)) (fun (it6 : (Int × Int) × (Int × Int)) => (ltP2 it6.1 it6.2)) (fun _ => cl_dp) (es_zip (ev_var rfl) (ev_slc (ev_var rfl) (ev_int _) ev_non rfl rfl)) (fun it6 hq22 => ⟨_, rfl, (ev_cmp (ev_var rfl) (ev_var rfl) (cm_ltP _ _))⟩)))))))) trivial))))
end TY

set_option Elab.async false
set_option linter.all false
set_option maxRecDepth 100000
set_option maxHeartbeats 4000000
namespace TY
open TW PySem PySem.Spec PyProof.Rows L2
mutual
/-- plain data -/
def plA : D → Bool
  | .tup ds => plAs ds
  | .lst ds => plAs ds
  | .ins _ _ _ => false
  | .exc _ => false
  | .fn _ => false
  | .scr _ => false
  | .clo _ _ => false
  | _ => true
def plAs : List D → Bool
  | [] => true
  | d :: ds => plA d && plAs ds
end
theorem plAs_mem : ∀ {ds : List D}, plAs ds = true → ∀ d ∈ ds, plA d = true
  | [], _, d, h => by cases h
  | x :: ds, h, d, hd => by
    obtain ⟨h1, h2⟩ := Bool.and_eq_true_iff.mp (show (plA x && plAs ds) = true from h)
    rcases List.mem_cons.mp hd with rfl | hd
    · exact h1
    · exact plAs_mem h2 d hd
def wholeR : D → Bool
  | .int _ => true
  | _ => false
def belowR (d : D) (n : Int) : Bool := match d with
  | .int i => decide (0 ≤ i) && decide (i < n)
  | _ => false
def ltR : D → D → Bool
  | .int a, .int b => decide (a < b)
  | _, _ => false
def tieR (t : D) (n : Int) : Bool := match t with
  | .tup [a, b] => belowR a n && (belowR b n && ltR a b)
  | _ => false
theorem r_wholeR (k : Nat) (d : D) (h : plA d = true) : Fn (run GP (k + 1)) 0 [d] .sh (.bl (wholeR d)) := by
  cases d with
  | ins _ _ _ => cases h
  | exc _ => cases h
  | fn _ => cases h
  | scr _ => cases h
  | clo _ _ => cases h
  | _ => exact ⟨_, rfl, rfl⟩
theorem r_belowR (k : Nat) (d : D) (n : Int) (h : plA d = true) : Fn (run GP (k + 2)) 1 [d, .int n] .sh (.bl (belowR d n)) := by
  have w := r_wholeR k d h
  have key : ∀ b : Bool, (wholeR d = true → ∃ i, d = .int i ∧ b = (decide (0 ≤ i) && decide (i < n))) → (wholeR d = false → b = false) → Fn (run GP (k + 2)) 1 [d, .int n] .sh (.bl b) := fun b h1 h2 => by
    refine fn_retR (Fu := fu_is_below) (e := D.bl) (v := b) rfl rfl (show Blk _ _ [some (.sh, d), some (.sh, .int n)] (rtF .sh D.bl b) from blk_retR (evr_of ?_))
    cases hw : wholeR d with
    | false =>
      rw [h2 hw]
      rw [hw] at w
      exact ev_and (u := false) (m2 := .sh) (ev_cal (evs_cons (ev_var rfl) evs_nil) w) (fun z => by cases z)
    | true =>
      obtain ⟨i, rfl, rfl⟩ := h1 hw
      exact ev_and (t := true) (ev_cal (evs_cons (ev_var rfl) evs_nil) w) (fun _ => (ev_chn (ev_int 0) (ev_var rfl) (ev_var rfl) (cm_le _ _) (cm_lt _ _)))
  refine key _ (fun hw => ?_) (fun hw => ?_)
  · cases d with
    | int i => exact ⟨i, rfl, rfl⟩
    | _ => cases hw
  · cases d with
    | int i => cases hw
    | _ => rfl
theorem belowR_int {d : D} {n : Int} (h : belowR d n = true) : ∃ i, d = .int i ∧ 0 ≤ i ∧ i < n := by
  cases d with
  | int i =>
    obtain ⟨h1, h2⟩ := Bool.and_eq_true_iff.mp (show (decide (0 ≤ i) && decide (i < n)) = true from h)
    exact ⟨i, rfl, of_decide_eq_true h1, of_decide_eq_true h2⟩
  | _ => cases h
theorem ev_lenNe {F : Tb} {Γ : Dn} {i : Nat} {m : Md} {ds : List D} (b : Bool) (hv : Γ[i]? = some (some (m, .tup ds))) (hb : b = !decide ((ds.length : Int) = 2)) : Ev F (.cmp .ne (.bi .len [.var i]) (.lit (.int 2))) Γ .dp (.bl b) := by
  rw [hb]
  exact ev_cmp (ev_lenT (ev_var hv)) (ev_int 2) (cm_ne (e := D.int) dt_int (by decide) (ds.length : Int) 2)
theorem r_tieR2 (k : Nat) (a b : D) (n : Int) (ha : plA a = true) (hb : plA b = true) : Fn (run GP (k + 3)) 2 [.tup [a, b], .int n] .sh (.bl (tieR (.tup [a, b]) n)) := by
  have wa := r_belowR k a n ha
  have wb := r_belowR k b n hb
  refine fn_retR (Fu := fu_is_tie) (e := D.bl) (v := tieR (.tup [a, b]) n) rfl rfl ?_
  have hc : Ev (run GP (k + 2)) (.or (.not (.isi (.var 0) .tuple)) (.or (.cmp .ne (.bi .len [.var 0]) (.lit (.int 2))) (.not (.cal 1 [.sub (.var 0) (.lit (.int 0)), .var 1])))) [some (.sh, .tup [a, b]), some (.sh, .int n)] .sh (.bl (false || (false || !(belowR a n)))) :=
    ev_or (ev_not (t := true) (ev_isi (ev_var rfl) rfl)) fun _ => ev_or (ev_lenNe false rfl rfl) fun _ => ev_not (ev_cal (evs_cons (ev_tat (ev_var rfl) rfl) (evs_cons (ev_var rfl) evs_nil)) wa)
  show Blk _ [.ife _ [.ret (.lit (.bl false))] [], .ret (.and (.cal 1 [.sub (.var 0) (.lit (.int 1)), .var 1]) (.cmp .lt (.sub (.var 0) (.lit (.int 0))) (.sub (.var 0) (.lit (.int 1)))))] [some (.sh, .tup [a, b]), some (.sh, .int n)] _
  cases h1 : belowR a n with
  | false =>
    rw [h1] at hc
    have e : tieR (.tup [a, b]) n = false := by show (belowR a n && _) = false; rw [h1]; rfl
    rw [e]
    exact blk_ifT hc rfl (blk_retR ((evr_of (ev_bl false)).le rfl))
  | true =>
    rw [h1] at hc
    refine blk_if (O := fun z => z) (r1 := rtF .sh D.bl (tieR (.tup [a, b]) n)) (r2 := rtF .sh D.bl (tieR (.tup [a, b]) n)) hc (fun z => by cases z) (fun _ => blk_retR (evr_of ?_))
    have e : tieR (.tup [a, b]) n = (belowR b n && ltR a b) := by show (belowR a n && _) = _; rw [h1]; rfl
    rw [e]
    refine ev_and (m2 := .dp) (ev_cal (evs_cons (ev_tat (ev_var rfl) rfl) (evs_cons (ev_var rfl) evs_nil)) wb) fun h2 => ?_
    obtain ⟨i, rfl, _, _⟩ := belowR_int h1
    obtain ⟨j, rfl, _, _⟩ := belowR_int h2
    exact ev_cmp (ev_tat (ev_var rfl) rfl) (ev_tat (ev_var rfl) rfl) (cm_lt i j)
theorem r_tieRL (k : Nat) (ds : List D) (n : Int) (h : ds.length ≠ 2) : Fn (run GP (k + 1)) 2 [.tup ds, .int n] .sh (.bl false) := by
  refine fn_retR (Fu := fu_is_tie) (e := D.bl) (v := false) rfl rfl ?_
  have hd : (!decide ((ds.length : Int) = 2)) = true := by
    rw [decide_eq_false (fun z => h (by omega))]; rfl
  have hc : Ev (run GP k) (.or (.not (.isi (.var 0) .tuple)) (.or (.cmp .ne (.bi .len [.var 0]) (.lit (.int 2))) (.not (.cal 1 [.sub (.var 0) (.lit (.int 0)), .var 1])))) [some (.sh, .tup ds), some (.sh, .int n)] .sh (.bl (false || (true || true))) :=
    ev_or (ev_not (t := true) (ev_isi (ev_var rfl) rfl)) fun _ => ev_or (m2 := .sh) (ev_lenNe true rfl hd.symm) fun z => by cases z
  exact blk_ifT (A := [.ret (.lit (.bl false))]) hc rfl (blk_retR ((evr_of (ev_bl false)).le rfl))
theorem r_tieR (k : Nat) (t : D) (n : Int) (h : plA t = true) : Fn (run GP (k + 3)) 2 [t, .int n] .sh (.bl (tieR t n)) := by
  cases t with
  | ins _ _ _ => cases h
  | exc _ => cases h
  | fn _ => cases h
  | scr _ => cases h
  | clo _ _ => cases h
  | tup ds =>
    match ds, h with
    | [], h => exact r_tieRL (k + 2) [] n (by decide)
    | [a], h => exact r_tieRL (k + 2) [a] n (by simp)
    | [a, b], h => exact r_tieR2 k a b n (plAs_mem h a (by simp)) (plAs_mem h b (by simp))
    | a :: b :: c :: r, h => exact r_tieRL (k + 2) (a :: b :: c :: r) n (by simp)
  | _ => exact ⟨_, rfl, rfl⟩
theorem blk_asgS {F : Tb} {Γ Γ1 : Dn} {ss : List S} {m : Md} {a : E} {i : Nat} {d : D} {o : Fl} (ha : Ev F a Γ m d) (hΓ : ELe Γ1 ((frz (nm a) Γ).set i (some (keep m d)))) (hr : Blk F ss Γ1 o) : Blk F (.asg i a :: ss) Γ o := by
  obtain ⟨n, h1, h2⟩ := ha
  refine Blk.step (Γ1 := Γ1) (Γ' := (give (nm a) n d Γ).set i (some (keep n d))) (by simp only [ex, h1, bnd_ok]) ?_ hr
  exact hΓ.trans (frz_give.set i (s := some (keep m d)) (t := some (keep n d)) (keep_le (p := (m, d)) (q := (n, d)) ⟨rfl, h2⟩))
def ntR (i : Int) : D → Bool
  | .lst ts => decide (66 < ts.length) || ts.any (fun x => !(tieR x i))
  | _ => true
def iR : D → Int
  | .int i => i
  | _ => 0
def nwR : D → Bool
  | .tup [a, b] => !(belowR a 25) || ntR (iR a) b
  | _ => true
theorem eLX (ts : List D) : eL eX ts = .lst ts := by
  show D.lst (ts.map fun d => d) = _
  rw [List.map_id']
theorem r_nwL (k : Nat) (ds : List D) (h : ds.length ≠ 2) : Fn (run GP (k + 1)) 3 [.tup ds] .sh (.bl false) := by
  refine fn_retR (Fu := fu_is_web) (e := D.bl) (v := false) rfl rfl ?_
  have hd : (!decide ((ds.length : Int) = 2)) = true := by
    rw [decide_eq_false (fun z => h (by omega))]; rfl
  have hc : Ev (run GP k) (.or (.not (.isi (.var 0) .tuple)) (.or (.cmp .ne (.bi .len [.var 0]) (.lit (.int 2))) (.not (.cal 1 [.sub (.var 0) (.lit (.int 0)), .bin .add (.lit (.int 24)) (.lit (.int 1))])))) [some (.sh, .tup ds), none, none, none, none] .sh (.bl (false || (true || true))) :=
    ev_or (ev_not (t := true) (ev_isi (ev_var rfl) rfl)) fun _ => ev_or (m2 := .sh) (ev_lenNe true rfl hd.symm) fun z => by cases z
  exact blk_ifT (A := [.ret (.lit (.bl false))]) hc rfl (blk_retR ((evr_of (ev_bl false)).le rfl))
theorem r_nw2 (k : Nat) (a b : D) (ha : plA a = true) (hb : plA b = true) (h : nwR (.tup [a, b]) = true) : Fn (run GP (k + 4)) 3 [.tup [a, b]] .sh (.bl false) := by
  have wa := r_belowR (k + 1) a 25 ha
  refine fn_retR (Fu := fu_is_web) (e := D.bl) (v := false) rfl rfl ?_
  have hc : Ev (run GP (k + 3)) (.or (.not (.isi (.var 0) .tuple)) (.or (.cmp .ne (.bi .len [.var 0]) (.lit (.int 2))) (.not (.cal 1 [.sub (.var 0) (.lit (.int 0)), .bin .add (.lit (.int 24)) (.lit (.int 1))])))) [some (.sh, .tup [a, b]), none, none, none, none] .sh (.bl (false || (false || !(belowR a 25)))) :=
    ev_or (ev_not (t := true) (ev_isi (ev_var rfl) rfl)) fun _ => ev_or (ev_lenNe false rfl rfl) fun _ => ev_not (ev_cal (evs_cons (ev_tat (ev_var rfl) rfl) (evs_cons (ev_add (ev_int 24) (ev_int 1)) evs_nil)) wa)
  have ret : ∀ {Γ : Dn} {ss : List S}, Blk (run GP (k + 3)) (.ret (.lit (.bl false)) :: ss) Γ (rtF .sh D.bl false) := blk_retR ((evr_of (ev_bl false)).le rfl)
  cases h1 : belowR a 25 with
  | false =>
    rw [h1] at hc
    exact blk_ifT (A := [.ret (.lit (.bl false))]) hc rfl ret
  | true =>
    rw [h1] at hc
    obtain ⟨i, rfl, _, _⟩ := belowR_int h1
    refine blk_if (A := [.ret (.lit (.bl false))]) (B := []) (O := fun z => z) (r1 := rtF .sh D.bl false) (r2 := rtF .sh D.bl false) hc (fun z => by cases z) (fun _ => ?_)
    refine blk_asgS (d := b) (ev_tat (ev_var rfl) rfl) (Γ1 := [some (.sh, .tup [.int i, b]), some (.sh, b), none, none, none]) ?_ ?_
    · exact ⟨⟨rfl, rfl⟩, keep_sh, trivial, trivial, trivial, trivial⟩
    · have h2 : ntR i b = true := by
        have : (!(belowR (.int i) 25) || ntR i b) = true := h
        rw [h1] at this
        exact this
      cases b with
      | ins _ _ _ => cases hb
      | exc _ => cases hb
      | fn _ => cases hb
      | scr _ => cases hb
      | clo _ _ => cases hb
      | lst ts =>
        have h2 : (decide (66 < ts.length) || ts.any (fun x => !(tieR x i))) = true := h2
        have hcm : Ev (run GP (k + 3)) (.bi .all [.comp [4] true (.seq (.var 1)) [] (.cal 2 [.var 4, .sub (.var 0) (.lit (.int 0))])]) [some (.sh, .tup [.int i, .lst ts]), some (.sh, .lst ts), none, none, none] .dp (.bl ((ts.map fun x => tieR x i).all id)) := by
          refine ev_all (m1 := .fl) (ev_compF0 eX D.bl ts (fun x => tieR x i) (es_list (m := .sh) (e := eX) (xs := ts) (by rw [eLX]; exact ev_var rfl)) fun x hx => ⟨_, rfl, ev_cal (evs_cons (ev_var rfl) (evs_cons (ev_tat (ev_var rfl) rfl) evs_nil)) (r_tieR k x i (plAs_mem hb x hx))⟩)
        have hl : Ev (run GP (k + 3)) (.bi .len [.var 1]) [some (.sh, .tup [.int i, .lst ts]), some (.sh, .lst ts), none, none, none] .dp (.int ts.length) := by
          exact ev_len (m1 := .sh) (e := eX) (xs := ts) (by rw [eLX]; exact ev_var rfl)
        have hall := ev_or (ev_not (t := true) (ev_isi (F := run GP (k + 3)) (t := .list) (ev_var (i := 1) (Γ := [some (.sh, .tup [.int i, .lst ts]), some (.sh, .lst ts), none, none, none]) rfl) rfl)) fun _ => ev_or (ev_cmp hl (ev_int 66) (cm_gt _ _)) fun _ => ev_not hcm
        have hv : (!true || (decide ((66 : Int) < (ts.length : Int)) || !((ts.map fun x => tieR x i).all id))) = true := by
          rcases Bool.or_eq_true_iff.mp h2 with z | z
          · rw [decide_eq_true (show (66 : Int) < (ts.length : Int) by have := of_decide_eq_true z; omega)]; rfl
          · obtain ⟨x, hx, hz⟩ := List.any_eq_true.mp z
            have : ((ts.map fun x => tieR x i).all id) = false := by
              rw [List.all_eq_false]
              exact ⟨tieR x i, List.mem_map.mpr ⟨x, hx, rfl⟩, by simpa using hz⟩
            rw [this]
            simp
        rw [hv] at hall
        exact blk_ifT (A := [.ret (.lit (.bl false))]) hall rfl ret
      | _ =>
        exact blk_ifT (t := true) (m1 := .sh) (A := [.ret (.lit (.bl false))]) (ev_or (t := true) (u := true) (m2 := .sh) (ev_not (t := false) (ev_isi (ev_var rfl) rfl)) fun z => by cases z) rfl ret
theorem r_nw (k : Nat) (t : D) (hp : plA t = true) (h : nwR t = true) : Fn (run GP (k + 4)) 3 [t] .sh (.bl false) := by
  cases t with
  | ins _ _ _ => cases hp
  | exc _ => cases hp
  | fn _ => cases hp
  | scr _ => cases hp
  | clo _ _ => cases hp
  | tup ds =>
    match ds, hp, h with
    | [], hp, h => exact r_nwL (k + 3) [] (by decide)
    | [a], hp, h => exact r_nwL (k + 3) [a] (by simp)
    | [a, b], hp, h => exact r_nw2 k a b (plAs_mem hp a (by simp)) (plAs_mem hp b (by simp)) h
    | a :: b :: c :: r, hp, h => exact r_nwL (k + 3) (a :: b :: c :: r) (by simp)
  | _ => exact ⟨_, rfl, rfl⟩
end TY

set_option Elab.async false
set_option linter.all false
set_option maxRecDepth 100000
set_option maxHeartbeats 4000000
namespace TY
open TW PySem PySem.Spec PyProof.Rows L2
end TY

set_option Elab.async false
set_option linter.all false
set_option maxRecDepth 100000
set_option maxHeartbeats 4000000
namespace TY
open TW PySem PySem.Spec PyProof.Rows L2
end TY

set_option Elab.async false
set_option linter.all false
set_option maxRecDepth 100000
set_option maxHeartbeats 4000000
namespace TY
open TW PySem PySem.Spec PyProof.Rows L2
end TY

set_option Elab.async false
set_option linter.all false
set_option maxRecDepth 100000
set_option maxHeartbeats 4000000
namespace TY
open TW PySem PySem.Spec PyProof.Rows L2
end TY

set_option Elab.async false
set_option linter.all false
set_option maxRecDepth 100000
set_option maxHeartbeats 4000000
namespace TY
open TW PySem PySem.Spec PyProof.Rows L2
end TY

set_option Elab.async false
set_option linter.all false
set_option maxRecDepth 100000
set_option maxHeartbeats 4000000
namespace TY
open TW PySem PySem.Spec PyProof.Rows L2
end TY

set_option Elab.async false
set_option linter.all false
set_option maxRecDepth 100000
set_option maxHeartbeats 4000000
namespace TY
open TW PySem PySem.Spec PyProof.Rows L2
section
variable {α σ ρ : Type}
end
section
variable {α : Type}
end
end TY

set_option Elab.async false
set_option linter.all false
set_option maxRecDepth 100000
set_option maxHeartbeats 4000000
namespace TW
open PySem PySem.Spec PyProof.Rows L2

def ltRow (ts : List (Int × Int)) (p : (Int × Int) × Nat) : List (Int × Int) := ((List.range p.2).filter fun j => shr (ts.getD j (0, 0)) p.1).map fun (j : Nat) => ((j : Int), (p.2 : Int))
structure LtS where
  m : Md
  fs : List (Int × Int)
  x2 : Sl
  x3 : Sl
def LtS.env (n : Int) (ts : List (Int × Int)) (s : LtS) : Dn := [some (.sh, webD n ts), some (s.m, .lst (s.fs.map eP)), s.x2, s.x3, none]
def LtS.step (ts : List (Int × Int)) (s : LtS) (p : (Int × Int) × Nat) : LtS := ⟨.fl, s.fs ++ ltRow ts p, some (.sh, .int (p.2 : Int)), some (.sh, eP p.1)⟩
end TW

set_option Elab.async false
set_option linter.all false
set_option maxRecDepth 100000
set_option maxHeartbeats 4000000
namespace TW
open PySem PySem.Spec PyProof.Rows L2

structure ApS where
  m3 : Md
  m4 : Md
  ls : List (List Int)
  x1 : Sl
def ApS.env (n : Int) (ts : List (Int × Int)) (s : ApS) : Dn := [some (.sh, webD n ts), s.x1, none, some (s.m3, nearD n ts), some (s.m4, .lst (s.ls.map eIL)), none, none, none]
def ApS.step (na : Int → Int → Bool) (s : ApS) (j : Nat) : ApS := ⟨.sh, .fl, s.ls ++ (s.ls.filter fun u => u.all fun x => na (j : Int) x).map fun u => u ++ [(j : Int)], some (.sh, .int (j : Int))⟩
end TW

set_option Elab.async false
set_option linter.all false
set_option maxRecDepth 100000
set_option maxHeartbeats 4000000
namespace TY
open TW PySem PySem.Spec PyProof.Rows L2
end TY

set_option Elab.async false
set_option linter.all false
set_option maxRecDepth 100000
set_option maxHeartbeats 4000000
namespace TY
open TW PySem PySem.Spec PyProof.Rows L2
end TY

set_option Elab.async false
set_option linter.all false
set_option maxRecDepth 100000
set_option maxHeartbeats 4000000
namespace TY
open TW PySem PySem.Spec PyProof.Rows L2
end TY

set_option Elab.async false
set_option linter.all false
set_option maxRecDepth 100000
set_option maxHeartbeats 4000000
namespace TY
open TW PySem PySem.Spec PyProof.Rows L2
def Adj (ts : List (Int × Int)) (a b : Int) : Prop := (a, b) ∈ ts ∨ (b, a) ∈ ts
inductive Cn (ts : List (Int × Int)) : Int → Int → Prop
  | refl (a : Int) : Cn ts a a
  | step {a b c : Int} : Cn ts a b → Adj ts b c → Cn ts a c
section
variable {ts us : List (Int × Int)} {a b c : Int}
end
abbrev InR (n x : Int) : Prop := 0 ≤ x ∧ x < n
open Classical in
noncomputable def cls (n : Int) (ts : List (Int × Int)) (p : Int) : List Int := (rg 0 n).filter fun q => decide (Cn ts p q)
def Mk (n : Int) (ts : List (Int × Int)) (m : List Int) : Prop := (m.length : Int) = n ∧ ∀ p, InR n p → InR n (gI m p) ∧ Cn ts p (gI m p) ∧ ∀ q, InR n q → Cn ts p q → gI m p ≤ q
end TY

set_option Elab.async false
set_option linter.all false
set_option maxRecDepth 100000
set_option maxHeartbeats 4000000
namespace TY
open TW PySem PySem.Spec PyProof.Rows L2
section
variable {F : Tb} {Γ Γ1 : Dn} {a b c : E} {C : Nat} {ss r : List S}
theorem er_cal {g : Nat} {as : List E} {ps : List (Md × D)} (h : Evs F as Γ ps) (k : F g (ps.map Prod.snd) = some (.er C)) : ev F (.cal g as) Γ = some (.er C) := by
  obtain ⟨qs, h1, h2⟩ := h
  rw [h2.snd] at k
  simp only [ev, h1, bnd_ok, k]
  rfl
theorem er_exp (h : ev F a Γ = some (.er C)) : exs F (.exp a :: ss) Γ = some (.er C) := by simp only [exs, ex, h]; rfl
theorem er_exp2 {m : Md} {d : D} (h : Ev F a Γ m d) (k : exs F ss Γ = some (.er C)) : exs F (.exp a :: ss) Γ = some (.er C) := by
  obtain ⟨n, h1, _⟩ := h
  simp only [exs, ex, h1, bnd_ok, k]
theorem er_retCal {g : Nat} {as : List E} (h : ev F (.cal g as) Γ = some (.er C)) : exs F (.ret (.cal g as) :: ss) Γ = some (.er C) := by simp only [exs, ex, evr, h]; rfl
theorem er_if1 {A B : List S} {m : Md} (h : Ev F c Γ m (.bl true)) (k : exs F A Γ = some (.er C)) : exs F (.ife c A B :: ss) Γ = some (.er C) := by
  obtain ⟨n, h1, _⟩ := h
  simp only [exs, ex, h1, bnd_ok, boolD_bl, k]
  rfl
theorem er_rai : exs F (.rai C :: ss) Γ = some (.er C) := by simp only [exs, ex]; rfl
theorem er_fn {P : List Fun} {k f : Nat} {Fu : Fun} {ds : List D} (hf : P[f]? = some Fu) (hn : ds.length = Fu.np) (h : exs (run P k) Fu.body (start0 Fu.np Fu.nv ds) = some (.er C)) : run P (k + 1) f ds = some (.er C) := by
  show (match P[f]? with | some F => callF (run P k) F ds | none => none) = _
  rw [hf]
  show callF (run P k) Fu ds = _
  unfold callF
  rw [if_pos hn, h]
  rfl
end
def Nw (k : Nat) (t : D) : Prop := Fn (run GP k) 3 [t] .sh (.bl false)
theorem nw_of (k : Nat) {t : D} (hp : plA t = true) (h : nwR t = true) : Nw (k + 4) t := r_nw k t hp h
theorem er_web {k : Nat} {t : D} (h : Nw k t) : run GP (k + 1) 4 [t] = some (.er 1) :=
  er_fn (Fu := fu_check_web) rfl rfl (er_if1 (A := [.rai 1]) (ev_not (t := false) (ev_cal (evs_cons (ev_var rfl) evs_nil) h)) er_rai)
theorem er_places {k : Nat} {t : D} {n : Int} (h : Nw k t) : run GP (k + 1) 38 [t, .int n] = some (.er 1) :=
  er_fn (Fu := fu_check_places) rfl rfl (er_if1 (A := [.rai 1]) (ev_or (t := true) (u := true) (m2 := .sh) (ev_not (t := false) (ev_cal (evs_cons (ev_var rfl) evs_nil) h)) fun z => by cases z) er_rai)
theorem er_ties {k : Nat} {t : D} {n : Int} (h : Nw k t) : run GP (k + 1) 31 [t, .int n] = some (.er 1) :=
  er_fn (Fu := fu_check_few_ties) rfl rfl (er_if1 (A := [.rai 1]) (ev_or (t := true) (u := true) (m2 := .sh) (ev_not (t := false) (ev_cal (evs_cons (ev_var rfl) evs_nil) h)) fun z => by cases z) er_rai)
theorem er_small {k : Nat} {t : D} (h : run GP k 38 [t, .int 10] = some (.er 1)) : run GP (k + 1) 37 [t] = some (.er 1) :=
  er_fn (Fu := fu_check_small) rfl rfl (er_exp (er_cal (evs_cons (ev_var rfl) (evs_cons (ev_int 10) evs_nil)) h))

end TY

set_option Elab.async false
set_option linter.all false
set_option maxRecDepth 100000
set_option maxHeartbeats 4000000
namespace TY
open TW PySem PySem.Spec PyProof.Rows L2
end TY

set_option Elab.async false
set_option linter.all false
set_option maxRecDepth 100000
set_option maxHeartbeats 4000000
namespace TY
open TW PySem PySem.Spec PyProof.Rows L2
end TY

set_option Elab.async false
set_option linter.all false
set_option maxRecDepth 100000
set_option maxHeartbeats 4000000
namespace TY
open TW PySem PySem.Spec PyProof.Rows L2
end TY

set_option Elab.async false
set_option linter.all false
set_option maxRecDepth 100000
set_option maxHeartbeats 4000000
namespace TY
open TW PySem PySem.Spec PyProof.Rows L2
end TY

set_option Elab.async false
set_option linter.all false
set_option maxRecDepth 100000
set_option maxHeartbeats 4000000
namespace TY
open TW PySem PySem.Spec PyProof.Rows L2
end TY

set_option Elab.async false
set_option linter.all false
set_option maxRecDepth 100000
set_option maxHeartbeats 4000000
namespace TY
open TW PySem PySem.Spec PyProof.Rows L2
end TY

set_option Elab.async false
set_option linter.all false
set_option maxRecDepth 100000
set_option maxHeartbeats 4000000
namespace TY
open TW PySem PySem.Spec PyProof.Rows L2
instance decLett {α : Type} {a : α} {f : α → Prop} [h : Decidable (f a)] : Decidable (lett a f) := h
instance decLett2 {α β : Type} {a : α} {b : β} {f : α → β → Prop} [h : Decidable (f a b)] : Decidable (lett2 a b f) := h
def decOkFold {σ α : Type} {ok : σ → α → Prop} {st : σ → α → σ} (d : ∀ s x, Decidable (ok s x)) : ∀ (xs : List α) (s : σ), Decidable (okFold ok st xs s)
  | [], _ => Decidable.isTrue trivial
  | x :: xs, s => match d s x, decOkFold d xs (st s x) with
    | Decidable.isTrue a, Decidable.isTrue b => Decidable.isTrue ⟨a, b⟩
    | Decidable.isFalse a, _ => Decidable.isFalse fun h => a h.1
    | _, Decidable.isFalse b => Decidable.isFalse fun h => b h.2
instance {σ α : Type} {ok : σ → α → Prop} {st : σ → α → σ} {xs : List α} {s : σ} [d : ∀ s x, Decidable (ok s x)] : Decidable (okFold ok st xs s) := decOkFold d xs s
structure Bw (k : Nat) (t : D) : Prop where
  c4 : run GP k 4 [t] = some (.er 1)
  c31 : ∀ n : Int, run GP k 31 [t, .int n] = some (.er 1)
  c37 : run GP k 37 [t] = some (.er 1)
  c38 : ∀ n : Int, run GP k 38 [t, .int n] = some (.er 1)
theorem bw_of {k : Nat} {t : D} (h : ∀ j, 8 ≤ j → Nw j t) (hk : 10 ≤ k) : Bw k t := by
  obtain ⟨k, rfl⟩ : ∃ j, k = j + 1 + 1 := ⟨k - 2, by omega⟩
  exact ⟨er_web (h _ (by omega)), fun n => er_ties (h _ (by omega)), er_small (er_places (h _ (by omega))), fun n => er_places (h _ (by omega))⟩
section
variable {k : Nat} {t : D} {ds : List D}

theorem d_near (h : run GP k 4 [t] = some (.er 1)) : run GP (k + 1) 6 [t] = some (.er 1) := er_fn (Fu := fu_near) rfl rfl (er_exp (er_cal (evs_cons (ev_var rfl) evs_nil) h))
theorem d_pieces (h : run GP k 4 [t] = some (.er 1)) : run GP (k + 1) 8 [t] = some (.er 1) := er_fn (Fu := fu_pieces) rfl rfl (er_exp (er_cal (evs_cons (ev_var rfl) evs_nil) h))
theorem d_tied_many (h : run GP k 4 [t] = some (.er 1)) : run GP (k + 1) 34 [t] = some (.er 1) := er_fn (Fu := fu_tied_many) rfl rfl (er_exp (er_cal (evs_cons (ev_var rfl) evs_nil) h))
theorem d_groups_at (h : run GP k 4 [t] = some (.er 1)) : run GP (k + 1) 59 [t] = some (.er 1) := er_fn (Fu := fu_groups_at) rfl rfl (er_exp (er_cal (evs_cons (ev_var rfl) evs_nil) h))
theorem d_squares {u : D} (h : run GP k 4 [t] = some (.er 1)) : run GP (k + 1) 111 [t, u] = some (.er 1) := er_fn (Fu := fu_squares) rfl rfl (er_exp (er_cal (evs_cons (ev_var rfl) evs_nil) h))
theorem d_beside2 {u : D} {m : Md} {d : D} (h0 : Fn (run GP k) 4 [u] m d) (h : run GP k 4 [t] = some (.er 1)) : run GP (k + 1) 22 [u, t] = some (.er 1) := er_fn (Fu := fu_beside) rfl rfl (er_exp2 (ev_cal (evs_cons (ev_var rfl) evs_nil) h0) (er_exp (er_cal (evs_cons (ev_var rfl) evs_nil) h)))
end
end TY

set_option Elab.async false
set_option linter.all false
set_option maxRecDepth 100000
set_option maxHeartbeats 4000000
namespace TW
open PySem PySem.Spec PyProof.Rows L2
def badW (t : D) : Bool := match t with
  | .tup [.int n, .lst ts] => (plAs ts && TY.nwR (.tup [.int n, .lst ts])) || (match prsD ts with
    | some ps => !(TY.v_is_web (n, ps))
    | none => false)
  | _ => false
where plAs (ts : List D) : Bool := TY.plAs ts
theorem badW_nw {t : D} (h : badW t = true) (j : Nat) (hj : 8 ≤ j) : TY.Nw j t := by
  unfold badW at h
  split at h
  · rename_i n ts
    rcases Bool.or_eq_true_iff.mp h with h | h
    · obtain ⟨h1, h2⟩ := Bool.and_eq_true_iff.mp h
      obtain ⟨j, rfl⟩ : ∃ i, j = i + 4 := ⟨j - 4, by omega⟩
      refine TY.nw_of j ?_ h2
      show (TY.plA (.int n) && (TY.plA (.lst ts) && true)) = true
      rw [Bool.and_true]
      exact h1
    · split at h
      · rename_i ps e
        rw [prsD_eq e]
        have r := TY.r_is_web j (by omega) (n, ps)
        have hv : TY.v_is_web (n, ps) = false := by simpa using h
        rw [hv] at r
        exact r.le rfl
      · cases h
  · cases h
theorem bw26 {t : D} (h : badW t = true) : TY.Bw 12 t := TY.bw_of (badW_nw h) (by decide)
theorem ref183 {k g C : Nat} {cap : List D} {due : Int} (hg : ([230, 231, 232, 233, 234, 235, 236, 237, 238, 239, 240, 241, 242, 243] : List Nat).contains g = true) (hc : cloFs cap = true) (hC : ([0, 1, 2, 3, 4, 8, 9, 10, 11] : List Nat).contains C = true) (h : run GP k g cap = some (.er C))
    (he : ∀ F : Tb, is1F (thenS F (fu_law_refused_3.body.drop 2) (match exs F [.asg 2 (.lst [.isc (.var 3) [1, 99], .isc (.var 3) [2, 99], .isc (.var 3) [3, 99]]), .asg 2 (.bin .add (.var 2) (.lst [.isc (.var 3) [8, 99], .isc (.var 3) [9, 99], .isc (.var 3) [10, 99]])), .asg 2 (.bin .add (.var 2) (.lst [.isc (.var 3) [4, 99], .isc (.var 3) [11, 99]]))] [some (.sh, .clo g cap), some (.sh, .int due), some (.dp, .lst []), some (.sh, .exc C), none] with
      | some (.ok (.rt m d)) => if exF d = true then ok (.rt m d) else none
      | some (.ok (.nx e2)) => ok (.nx ((e2.map exK).set 3 none))
      | _ => none)) = true) : run GP (k + 1) 183 [.clo g cap, .int due] = some (.ok (.dp, .bl true)) := by
  refine run_of (Fu := fu_law_refused_3) rfl rfl ?_
  show exs (run GP k) (.asg 2 (.lst []) :: fu_law_refused_3.body.drop 1) [some (.sh, .clo g cap), some (.sh, .int due), none, none, none] = _
  rw [go_asg (m := .dp) (d := .lst []) rfl]
  show exs (run GP k) (.tryA _ _ _ _ :: fu_law_refused_3.body.drop 2) [some (.sh, .clo g cap), some (.sh, .int due), some (.dp, .lst []), none, none] = _
  have hev : ev (run GP k) (.clc [230, 231, 232, 233, 234, 235, 236, 237, 238, 239, 240, 241, 242, 243] 0 []) [some (.sh, .clo g cap), some (.sh, .int due), some (.dp, .lst []), none, none] = some (.er C) := by
    simp only [ev, evs]
    show (if ([230, 231, 232, 233, 234, 235, 236, 237, 238, 239, 240, 241, 242, 243] : List Nat).contains g && cloFs cap then (if cloFs [] = true then noClo (run GP k g ([] ++ cap)) else none) else none) = _
    rw [hg, hc, List.nil_append, h]
    rfl
  simp only [exs, ex, hev, if_pos hC]
  exact is1F_of (he (run GP k))
section
variable {t : D}
theorem l230 (h : TY.Bw 12 t) : run GP 14 230 [t] = some (.er 1) := TY.er_fn (Fu := fl_k26_0) rfl rfl (TY.er_retCal (TY.er_cal (TY.evs_cons (TY.ev_var rfl) TY.evs_nil) (TY.d_near h.c4)))
theorem l231 (h : TY.Bw 12 t) : run GP 14 231 [t] = some (.er 1) := TY.er_fn (Fu := fl_k26_1) rfl rfl (TY.er_retCal (TY.er_cal (TY.evs_cons (TY.ev_var rfl) TY.evs_nil) (TY.d_pieces h.c4)))
theorem l232 (h : TY.Bw 12 t) : run GP 14 232 [t] = some (.er 1) := TY.er_fn (Fu := fl_k26_2) rfl rfl (TY.er_retCal (TY.er_cal (TY.evs_cons (TY.ev_var rfl) TY.evs_nil) (TY.d_tied_many h.c4)))
theorem l233 (h : TY.Bw 12 t) : run GP 14 233 [t] = some (.er 1) := TY.er_fn (Fu := fl_k26_3) rfl rfl (TY.er_retCal (TY.er_cal (TY.evs_cons (TY.ev_var rfl) TY.evs_nil) (TY.d_groups_at h.c4)))
theorem l234 (h : TY.Bw 12 t) : run GP 14 234 [t] = some (.er 1) := TY.er_fn (Fu := fl_k26_4) rfl rfl (TY.er_retCal (TY.er_cal (TY.evs_cons (TY.ev_var rfl) (TY.evs_cons TY.ev_non TY.evs_nil)) (TY.d_squares h.c4)))
theorem l235 (h : TY.Bw 12 t) : run GP 14 235 [t] = some (.er 1) := TY.er_fn (Fu := fl_k26_5) rfl rfl (TY.er_retCal (TY.er_cal (TY.evs_cons (m := .dp) (d := .tup [.int 0, .lst []]) ⟨_, rfl, rfl⟩ (TY.evs_cons (TY.ev_var rfl) TY.evs_nil)) (TY.d_beside2 (m := .dp) (d := .non) ⟨_, rfl, rfl⟩ h.c4)))
end
def all26 : D := .lst ((List.range 12).flatMap fun (i : Nat) => ((List.range 12).filter fun (j : Nat) => i < j).map fun (j : Nat) => D.tup [.int i, .int j])
def web26 : D := .tup [.int 24, all26]
def sp26a (ds : List D) : M (Md × D) := match ds with
  | [.clo g [t], .int z] => if decide (z = 0) && (([230, 231, 232, 233, 234, 235] : List Nat).contains g && (cloF t && badW t)) then ok (.dp, .bl true) else none
  | _ => none
def sp26b (ds : List D) : M (Md × D) := match ds with
  | [t] => if sameD t web26 then ok (.dp, .non) else none
  | _ => none
def rng24 : D := .lst ((List.range 24).map fun (i : Nat) => D.int i)
def rev24 : D := .lst ((List.range 24).map fun (i : Nat) => D.int (23 - i))
def all26b : D := .lst ((List.range 12).flatMap fun (i : Nat) => ((List.range 12).filter fun (j : Nat) => i < j).map fun (j : Nat) => D.tup [.int (12 + i), .int (12 + j)])
def sp26c (ds : List D) : M (Md × D) := match ds with
  | [t, u] => if sameD t web26 && sameD u rng24 then ok (.dp, web26) else none
  | _ => none
def sp26d (ds : List D) : M (Md × D) := match ds with
  | [t, u] => if sameD t web26 && sameD u rev24 then ok (.dp, .tup [.int 24, all26b]) else none
  | _ => none
def sp26 : Tb := fun f ds => if f = 183 then sp26a ds else if f = 4 then sp26b ds else if f = 18 then sp26c ds else if f = 21 then sp26d ds else none
def eqM (x : M (Md × D)) (d : D) : Bool := match x with
  | some (.ok (.dp, e)) => sameD e d
  | _ => false
theorem eqM_of {x : M (Md × D)} {d : D} (h : eqM x d = true) : x = some (.ok (.dp, d)) := by
  unfold eqM at h
  split at h
  · rw [sameD_eq _ _ h]
  · cases h
theorem cut26 : run GP 15 18 [web26, rng24] = some (.ok (.dp, web26)) := eqM_of (by kernel_rfl)
theorem ren26 : run GP 15 21 [web26, rev24] = some (.ok (.dp, .tup [.int 24, all26b])) := eqM_of (by kernel_rfl)
theorem good26 : run GP 15 4 [web26] = some (.ok (.dp, .non)) := by kernel_rfl
theorem sp26_le : TLeW sp26 (run GP 15) := fun f ds => OLe.of fun r h => by
  unfold sp26 at h
  split at h
  · rename_i c
    subst c
    unfold sp26a at h
    split at h
    · rename_i g t z
      split at h
      · rename_i k
        obtain ⟨k1, k2⟩ := Bool.and_eq_true_iff.mp k
        obtain ⟨k2, k3⟩ := Bool.and_eq_true_iff.mp k2
        obtain ⟨k3, k4⟩ := Bool.and_eq_true_iff.mp k3
        have k1 : z = 0 := of_decide_eq_true k1
        subst k1
        cases h
        have hb := bw26 k4
        have hc : cloFs [t] = true := by show (cloF t && true) = true; rw [k3]; rfl
        have he : run GP 14 g [t] = some (.er 1) ∧ ([230, 231, 232, 233, 234, 235, 236, 237, 238, 239, 240, 241, 242, 243] : List Nat).contains g = true := by
          have hm := List.contains_iff_mem.mp k2
          simp only [List.mem_cons, List.not_mem_nil, or_false] at hm
          rcases hm with rfl | rfl | rfl | rfl | rfl | rfl
          · exact ⟨l230 hb, rfl⟩
          · exact ⟨l231 hb, rfl⟩
          · exact ⟨l232 hb, rfl⟩
          · exact ⟨l233 hb, rfl⟩
          · exact ⟨l234 hb, rfl⟩
          · exact ⟨l235 hb, rfl⟩
        exact ref183 he.2 hc rfl he.1 fun F => by kernel_rfl
      · cases h
    · cases h
  · split at h
    · rename_i c
      subst c
      unfold sp26b at h
      split at h
      · rename_i t
        split at h
        · rename_i k
          cases h
          rw [sameD_eq _ _ k]
          exact good26
        · cases h
      · cases h
    · split at h
      · rename_i c
        subst c
        unfold sp26c at h
        split at h
        · split at h
          · rename_i k
            obtain ⟨k1, k2⟩ := Bool.and_eq_true_iff.mp k
            cases h
            rw [sameD_eq _ _ k1, sameD_eq _ _ k2]
            exact cut26
          · cases h
        · cases h
      · split at h
        · rename_i c
          subst c
          unfold sp26d at h
          split at h
          · split at h
            · rename_i k
              obtain ⟨k1, k2⟩ := Bool.and_eq_true_iff.mp k
              cases h
              rw [sameD_eq _ _ k1, sameD_eq _ _ k2]
              exact ren26
            · cases h
          · cases h
        · cases h
abbrev F26 : Tb := runS sp26 GP 20
end TW

set_option Elab.async false
set_option linter.all false
set_option maxRecDepth 100000
set_option maxHeartbeats 4000000
namespace TW
open PySem PySem.Spec PyProof.Rows L2
theorem webs26 : ((List.range 65).all fun (r : Nat) => is1 (F26 185 [all26, .int (1 + (r : Int))])) = true := by kernel_rfl
theorem rows26 : ((List.range 23).all fun (r : Nat) => is1 (F26 187 [web26, .int (1 + (r : Int))])) = true := by kernel_rfl
theorem groups26 : ((List.range 9).all fun (r : Nat) => is1 (F26 188 [.int (r : Int)])) = true := by kernel_rfl
end TW

set_option Elab.async false
set_option linter.all false
set_option maxRecDepth 100000
set_option maxHeartbeats 4000000
namespace TW
open PySem PySem.Spec PyProof.Rows L2
theorem all_range {n : Nat} {f : Nat → Bool} (h : ((List.range n).all f) = true) {z : Int} (h0 : 0 ≤ z) (h1 : z < n) : f z.toNat = true := List.all_eq_true.mp h _ (List.mem_range.mpr (by omega))
def sp26e (ds : List D) : M (Md × D) := match ds with
  | [t, .int z] => if sameD t all26 && (decide (1 ≤ z) && decide (z ≤ 65)) then ok (.dp, .bl true) else none
  | _ => none
def sp26f (ds : List D) : M (Md × D) := match ds with
  | [t, .int z] => if sameD t web26 && (decide (1 ≤ z) && decide (z ≤ 23)) then ok (.dp, .bl true) else none
  | _ => none
def sp26g (ds : List D) : M (Md × D) := match ds with
  | [.int z] => if decide (0 ≤ z) && decide (z ≤ 8) then ok (.dp, .bl true) else none
  | _ => none
def spL26 : Tb := fun f ds => if f = 185 then sp26e ds else if f = 187 then sp26f ds else if f = 188 then sp26g ds else none
theorem spL26_le : TLeW spL26 (run GP 35) := fun f ds => OLe.of fun r h => by
  have hF : TLeW F26 (run GP 35) := runS_mn sp26_le 20
  unfold spL26 at h
  split at h
  · rename_i c
    subst c
    unfold sp26e at h
    split at h
    · rename_i t z
      split at h
      · rename_i k
        obtain ⟨k1, k2⟩ := Bool.and_eq_true_iff.mp k
        obtain ⟨k2, k3⟩ := Bool.and_eq_true_iff.mp k2
        have k2 : 1 ≤ z := of_decide_eq_true k2
        have k3 : z ≤ 65 := of_decide_eq_true k3
        cases h
        rw [sameD_eq _ _ k1]
        have := all_range webs26 (z := z - 1) (by omega) (by omega)
        rw [show (1 : Int) + ((z - 1).toNat : Int) = z by omega] at this
        exact (hF _ _).get (is1_of this)
      · cases h
    · cases h
  · split at h
    · rename_i c
      subst c
      unfold sp26f at h
      split at h
      · rename_i t z
        split at h
        · rename_i k
          obtain ⟨k1, k2⟩ := Bool.and_eq_true_iff.mp k
          obtain ⟨k2, k3⟩ := Bool.and_eq_true_iff.mp k2
          have k2 : 1 ≤ z := of_decide_eq_true k2
          have k3 : z ≤ 23 := of_decide_eq_true k3
          cases h
          rw [sameD_eq _ _ k1]
          have := all_range rows26 (z := z - 1) (by omega) (by omega)
          rw [show (1 : Int) + ((z - 1).toNat : Int) = z by omega] at this
          exact (hF _ _).get (is1_of this)
        · cases h
      · cases h
    · split at h
      · rename_i c
        subst c
        unfold sp26g at h
        split at h
        · rename_i z
          split at h
          · rename_i k
            obtain ⟨k2, k3⟩ := Bool.and_eq_true_iff.mp k
            have k2 : 0 ≤ z := of_decide_eq_true k2
            have k3 : z ≤ 8 := of_decide_eq_true k3
            cases h
            have := all_range groups26 (z := z) (by omega) (by omega)
            rw [show (z.toNat : Int) = z by omega] at this
            exact (hF _ _).get (is1_of this)
          · cases h
        · cases h
      · cases h
abbrev L26 : Tb := runS spL26 GP 15
def spots2 (a b : Int) : M (Md × List D) := bnd (lift (biD .ssort [.lst [.int a, .int b]])) fun p => lift ((itemsD p.2).map fun ds => (p.1, ds))
abbrev loop26 (b : List S) (q : M (Md × List D)) (Γ : Dn) (sr : Sr) : M Fl := bnd q fun p => forL (fun x e1 => match bindT [1] true x e1 with
      | none => none
      | some e2 => exs L26 b e2) p.2 (if p.1 = .dp then Γ else frz (nmS sr) Γ)
abbrev sr1 : Sr := .seq (.bi .ssort [.lst [.bin .add (.lit (.int 1)) (.bin .mod (.var 2) (.lit (.int 65))), .lit (.int 65)]])
abbrev sr2 : Sr := .seq (.bi .ssort [.lst [.bin .add (.lit (.int 1)) (.bin .mod (.bin .fdiv (.var 2) (.lit (.int 65))) (.lit (.int 23))), .lit (.int 23)]])
abbrev sr3 : Sr := .seq (.bi .ssort [.lst [.bin .mod (.bin .fdiv (.var 2) (.lit (.int 1495))) (.lit (.int 9)), .lit (.int 8)]])
def S26 (d : D) (M : Int) (v : Option Int) : Dn := [some (.sh, d), v.map fun z => (.sh, .int z), some (.sh, .int M), some (.dp, all26)]
theorem spots2_eq {a b : Int} (h : a ≤ b) : spots2 a b = some (.ok (.dp, if a = b then [.int b] else [.int a, .int b])) := by
  have hd : dedB [a, b] = if a = b then [b] else [a, b] := by
    show (if a ∈ [b] then dedB [b] else a :: dedB [b]) = _
    by_cases c : a = b
    · rw [if_pos c, if_pos (by rw [c]; exact List.mem_cons_self)]; rfl
    · rw [if_neg c, if_neg (by simpa using c)]; rfl
  have hs : isortB ltZ (if a = b then [b] else [a, b]) = if a = b then [b] else [a, b] := by
    by_cases c : a = b
    · rw [if_pos c]; rfl
    · rw [if_neg c]
      show (if decide (b < a) = true then _ else _) = _
      rw [if_neg (by simp; omega)]
  show bnd (lift (some (Md.dp, D.lst (eI (isortB ltZ (dedB [a, b])))))) _ = _
  rw [hd, hs]
  by_cases c : a = b
  · rw [if_pos c, if_pos c]; rfl
  · rw [if_neg c, if_neg c]; rfl
theorem bnd_sok {α β : Type} {a : α} {f : α → M β} : bnd (some (.ok a)) f = f a := rfl
theorem loop_of {b : List S} {d : D} {M x n : Int} {v : Option Int} {sr : Sr} (h0 : x ≤ n) (hb : ∀ z, x ≤ z → z ≤ n → exs L26 b (S26 d M (some z)) = some (.ok (.nx (S26 d M (some z))))) : loop26 b (spots2 x n) (S26 d M v) sr = some (.ok (.nx (S26 d M (some n)))) := by
  have hl := hb x (Int.le_refl _) h0
  have hr := hb n h0 (Int.le_refl _)
  unfold loop26
  rw [spots2_eq h0]
  have bt : ∀ (z : Int) (v : Option Int), bindT [1] true (.int z) (S26 d M v) = some (S26 d M (some z)) := fun z v => rfl
  by_cases c : x = n
  · rw [if_pos c]
    rw [bnd_sok, if_pos rfl]
    simp only [forL, bt, hr]
    rfl
  · rw [if_neg c]
    rw [bnd_sok, if_pos rfl]
    simp only [forL, bt, hl, bnd_sok, hr]
theorem step_of {b : List S} {g : Nat} {a : E} {d : D} {M z : Int} (hb : b = [.ife (.not a) [.ret (.lit (.bl false))] []]) (he : ev L26 a (S26 d M (some z)) = some (.ok (.dp, .bl true))) : exs L26 b (S26 d M (some z)) = some (.ok (.nx (S26 d M (some z)))) := by
  rw [hb]
  simp only [exs, ex, ev, he]
  rfl
theorem spe {z : Int} (h1 : 1 ≤ z) (h2 : z ≤ 65) : L26 185 [all26, .int z] = some (.ok (.dp, .bl true)) := by
  have e : spL26 185 [all26, .int z] = some (.ok (.dp, .bl true)) := by
    show (if sameD all26 all26 && (decide (1 ≤ z) && decide (z ≤ 65)) then ok (Md.dp, D.bl true) else none) = _
    rw [decide_eq_true h1, decide_eq_true h2]
    rfl
  show (match spL26 185 [all26, .int z] with | some r => some r | none => _) = _
  rw [e]
theorem spf {z : Int} (h1 : 1 ≤ z) (h2 : z ≤ 23) : L26 187 [web26, .int z] = some (.ok (.dp, .bl true)) := by
  have e : spL26 187 [web26, .int z] = some (.ok (.dp, .bl true)) := by
    show (if sameD web26 web26 && (decide (1 ≤ z) && decide (z ≤ 23)) then ok (Md.dp, D.bl true) else none) = _
    rw [decide_eq_true h1, decide_eq_true h2]
    rfl
  show (match spL26 187 [web26, .int z] with | some r => some r | none => _) = _
  rw [e]
theorem spg {z : Int} (h1 : 0 ≤ z) (h2 : z ≤ 8) : L26 188 [.int z] = some (.ok (.dp, .bl true)) := by
  have e : spL26 188 [.int z] = some (.ok (.dp, .bl true)) := by
    show (if decide (0 ≤ z) && decide (z ≤ 8) then ok (Md.dp, D.bl true) else none) = _
    rw [decide_eq_true h1, decide_eq_true h2]
    rfl
  show (match spL26 188 [.int z] with | some r => some r | none => _) = _
  rw [e]
theorem run26 (d : D) (M a b c : Int) (ha : M % 65 = a) (hb : M / 65 % 23 = b) (hc : M / 1495 % 9 = c)
    (h1 : loop26 fu_law_26_b0 (spots2 (1 + a) 65) (S26 d M none) sr1 = some (.ok (.nx (S26 d M (some 65)))))
    (h2 : loop26 fu_law_26_b1 (spots2 (1 + b) 23) (S26 d M (some 65)) sr2 = some (.ok (.nx (S26 d M (some 23)))))
    (h3 : loop26 fu_law_26_b2 (spots2 c 8) (S26 d M (some 23)) sr3 = some (.ok (.nx (S26 d M (some 8)))))
    (h4 : is1F (exs L26 (fu_law_26.body.drop 4) (S26 d M (some 8))) = true) : exs L26 (fu_law_26.body.drop 1) (S26 d M none) = some (.ok (.rt .dp (.bl true))) := by
  show exs L26 (.for_ [1] true sr1 fu_law_26_b0 :: fu_law_26.body.drop 2) _ = _
  rw [go_for (q := spots2 (1 + M % 65) 65) rfl, ha]
  refine Eq.trans (congrArg (thenS L26 (fu_law_26.body.drop 2)) h1) ?_
  show exs L26 (.for_ [1] true sr2 fu_law_26_b1 :: fu_law_26.body.drop 3) _ = _
  rw [go_for (q := spots2 (1 + M / 65 % 23) 23) rfl, hb]
  refine Eq.trans (congrArg (thenS L26 (fu_law_26.body.drop 3)) h2) ?_
  show exs L26 (.for_ [1] true sr3 fu_law_26_b2 :: fu_law_26.body.drop 4) _ = _
  rw [go_for (q := spots2 (M / 1495 % 9) 8) rfl, hc]
  refine Eq.trans (congrArg (thenS L26 (fu_law_26.body.drop 4)) h3) ?_
  exact is1F_of h4
theorem last26 (d : D) (M : Int) : is1F (exs L26 (fu_law_26.body.drop 4) (S26 d M (some 8))) = true := by kernel_rfl
theorem tied26 : eqM (L26 184 [.int 12]) all26 = true := by kernel_rfl
theorem k26_run {d : D} (h : (∃ ns : List Int, d = .scr ns) ∨ ∃ ns : List Int, d = .lst (eI ns)) : run GP 60 189 [d] = some (.ok (.dp, .bl true)) := by
  have hF : TLeW L26 (run GP 50) := runS_mn spL26_le 15
  refine run_get (j := 51) ?_ (by decide)
  refine run_of (Fu := fu_law_26) rfl rfl ?_
  show exs (run GP 50) fu_law_26.body [some (.sh, d), none, none, none] = _
  refine OLe.get (exs_mn hF _ _) ?_
  obtain ⟨M, hM⟩ := sum63W (F := L26) (r := [none, none, none]) h
  have hp : ex L26 (.par [2, 3] [.bi .abs [.bi .sum [.slc false true (.var 0) (.lit .non) (.lit (.int 63))]], .cal 184 [.lit (.int 12)]]) [some (.sh, d), none, none, none] = some (.ok (.nx (S26 d M none))) := by
    have hc : ev L26 (.cal 184 [.lit (.int 12)]) [some (.sh, d), none, none, none] = some (.ok (.dp, all26)) := by
      have e := eqM_of tied26
      simp only [ev]
      rw [show evs L26 [.lit (.int 12)] [some (.sh, d), none, none, none] = some (.ok [(.dp, .int 12)]) from rfl]
      rw [bnd_sok]
      simp only [List.map_cons, List.map_nil]
      rw [e]
      rfl
    simp only [ex, evs, hM, hc]
    rfl
  show exs L26 (.par [2, 3] [.bi .abs [.bi .sum [.slc false true (.var 0) (.lit .non) (.lit (.int 63))]], .cal 184 [.lit (.int 12)]] :: fu_law_26.body.drop 1) [some (.sh, d), none, none, none] = _
  have e0 : ∀ ss, exs L26 (.par [2, 3] [.bi .abs [.bi .sum [.slc false true (.var 0) (.lit .non) (.lit (.int 63))]], .cal 184 [.lit (.int 12)]] :: ss) [some (.sh, d), none, none, none] = exs L26 ss (S26 d M none) := fun ss => by
    simp only [exs, hp]
    rfl
  rw [e0]
  have a0 : 0 ≤ M % 65 := Int.emod_nonneg _ (by decide)
  have a1 : M % 65 < 65 := Int.emod_lt_of_pos _ (by decide)
  have b0 : 0 ≤ M / 65 % 23 := Int.emod_nonneg _ (by decide)
  have b1 : M / 65 % 23 < 23 := Int.emod_lt_of_pos _ (by decide)
  have c0 : 0 ≤ M / 1495 % 9 := Int.emod_nonneg _ (by decide)
  have c1 : M / 1495 % 9 < 9 := Int.emod_lt_of_pos _ (by decide)
  refine run26 d M _ _ _ rfl rfl rfl (loop_of (by omega) fun z z0 z1 => step_of (g := 0) rfl ?_) (loop_of (by omega) fun z z0 z1 => step_of (g := 0) rfl ?_) (loop_of (by omega) fun z z0 z1 => step_of (g := 0) rfl ?_) (last26 d M)
  · simp only [ev, evs]
    show (if cloFs [all26, .int z] = true then noClo (L26 185 [all26, .int z]) else none) = _
    rw [spe (by omega) z1]
    rfl
  · simp only [ev, evs]
    show (if cloFs [web26, .int z] = true then noClo (L26 187 [web26, .int z]) else none) = _
    rw [spf (by omega) z1]
    rfl
  · simp only [ev, evs]
    show (if cloFs [.int z] = true then noClo (L26 188 [.int z]) else none) = _
    rw [spg (by omega) z1]
    rfl
theorem k26_true : ∀ ns : List Int, ns.length ≤ 63 → (∀ z ∈ ns, Builtin.Int.intBits z ≤ 1048576) → (∃ m, run GP 60 189 [.scr ns] = some (.ok (m, .bl true))) ∧ ∃ m, run GP 60 189 [.lst (eI ns)] = some (.ok (m, .bl true)) :=
  fun ns _ _ => ⟨⟨_, k26_run (.inl ⟨ns, rfl⟩)⟩, ⟨_, k26_run (.inr ⟨ns, rfl⟩)⟩⟩
end TW
namespace TY
open TW PySem PySem.Spec PyProof.Rows L2
theorem k26_true : ∀ ns : List Int, ns.length ≤ 63 → (∀ z ∈ ns, Builtin.Int.intBits z ≤ 1048576) → (∃ m, run GP 60 189 [.scr ns] = some (.ok (m, .bl true))) ∧ ∃ m, run GP 60 189 [.lst (eI ns)] = some (.ok (m, .bl true)) := TW.k26_true
end TY

set_option Elab.async false
set_option linter.all false
set_option maxRecDepth 100000
set_option maxHeartbeats 0
namespace k26_bad_anywhere
open PySem PySem.Spec PyProof.Rows L2 TW LamX
def LX : Nat → LT := lxOf 230 [lamAt (top 49) 0, lamAt (top 50) 0, lamAt (top 50) 1, lamAt (top 50) 2, lamAt (top 50) 3, lamAt (top 50) 4, lamAt (top 51) 0, lamAt (top 51) 1, lamAt (top 51) 2, lamAt (top 51) 3, lamAt (top 51) 4, lamAt (top 52) 0, lamAt (top 52) 1, lamAt (top 52) 2]
def U : Nat → List Str := usOf 230 [["_law_web"], ["_law_web"], ["_law_web"], ["_law_web"], ["_law_web"], ["_law_web"], ["_law_web", "_law_order"], ["_law_web", "_law_order", "_law_bad", "_law_at"], ["_law_web", "_law_at", "_law_bad"], ["_law_web", "_law_places", "_law_bad", "_law_at"], ["_law_web", "_law_places"], ["_law_web", "_law_some"], ["_law_web", "_law_some"], ["_law_web", "_law_some"]]
def fad (K : PySem.W.Frag) (n : Nat) : Addr := He.fAd K (gat.getD n ("", none))
abbrev Wof (K : PySem.W.Frag) : Wd := ⟨K, fad K, cad K, none, none, none⟩
structure Fx (K : PySem.W.Frag) (mg : Str → Option Value) : Prop where
  g_0 : mg "is_whole" = some (.ref ((Wof K).fa 0))
  g_1 : mg "is_below" = some (.ref ((Wof K).fa 1))
  g_2 : mg "is_tie" = some (.ref ((Wof K).fa 2))
  g_3 : mg "is_web" = some (.ref ((Wof K).fa 3))
  g_4 : mg "check_web" = some (.ref ((Wof K).fa 4))
  g_5 : mg "check_small" = some (.ref ((Wof K).fa 37))
  g_6 : mg "check_places" = some (.ref ((Wof K).fa 38))
  g_7 : mg "near_of" = some (.ref ((Wof K).fa 5))
  g_8 : mg "near" = some (.ref ((Wof K).fa 6))
  g_9 : mg "pieces_of" = some (.ref ((Wof K).fa 7))
  g_10 : mg "pieces" = some (.ref ((Wof K).fa 8))
  g_11 : mg "cut_of" = some (.ref ((Wof K).fa 16))
  g_12 : mg "are_places" = some (.ref ((Wof K).fa 17))
  g_13 : mg "cut_down" = some (.ref ((Wof K).fa 18))
  g_14 : mg "check_order" = some (.ref ((Wof K).fa 19))
  g_15 : mg "renamed_by" = some (.ref ((Wof K).fa 20))
  g_16 : mg "renamed" = some (.ref ((Wof K).fa 21))
  g_17 : mg "beside" = some (.ref ((Wof K).fa 22))
  g_18 : mg "is_cover_of" = some (.ref ((Wof K).fa 39))
  g_19 : mg "check_cover" = some (.ref ((Wof K).fa 61))
  g_20 : mg "ends_of" = some (.ref ((Wof K).fa 62))
  g_21 : mg "root_by" = some (.ref ((Wof K).fa 63))
  g_22 : mg "root_of" = some (.ref ((Wof K).fa 64))
  g_23 : mg "groups_at" = some (.ref ((Wof K).fa 59))
  g_24 : mg "check_row" = some (.ref ((Wof K).fa 110))
  g_25 : mg "squares" = some (.ref ((Wof K).fa 111))
  g_26 : mg "by_groups" = some (.ref ((Wof K).fa 112))
  g_27 : mg "tied_many" = some (.ref ((Wof K).fa 34))
  g_28 : mg "_law_all_tied" = some (.ref ((Wof K).fa 184))
  g_29 : mg "law" = some (.ref ((Wof K).fa 189))
  g_30 : mg "_law_webs_right" = some (.ref ((Wof K).fa 185))
  g_31 : mg "_law_web_doors" = some (.ref ((Wof K).fa 186))
  g_32 : mg "_law_rows_right" = some (.ref ((Wof K).fa 187))
  g_33 : mg "_law_groups_right" = some (.ref ((Wof K).fa 188))
  g_34 : mg "_law_refused" = some (.ref ((Wof K).fa 183))
  m_abs : mg "abs" = none
  m_all : mg "all" = none
  m_bool : mg "bool" = none
  m_enumerate : mg "enumerate" = none
  m_int : mg "int" = none
  m_isinstance : mg "isinstance" = none
  m_len : mg "len" = none
  m_list : mg "list" = none
  m_max : mg "max" = none
  m_min : mg "min" = none
  m_range : mg "range" = none
  m_set : mg "set" = none
  m_sorted : mg "sorted" = none
  m_sum : mg "sum" = none
  m_tuple : mg "tuple" = none
  m_zip : mg "zip" = none
  i_MOST_PLACES : ∃ t, mg "MOST_PLACES" = some (.int 24 t)
  i_MOST_TIES : ∃ t, mg "MOST_TIES" = some (.int 66 t)
  i_SMALL : ∃ t, mg "SMALL" = some (.int 10 t)
  c_0 : mg "WebError" = some (.ref ((Wof K).ca 0))
  e0_1 : PySem.W.excIn K ((Wof K).ca 0) He.veBase "ValueError.__new__" = true
  e0_2 : PySem.W.keepIn K (.ref ((Wof K).ca 0)) = true
  e0_3 : PySem.W.subIn K (.ref ((Wof K).ca 0)) (.type "BaseException") = some true
  e0_4 : PySem.W.typeIn K (.ref ((Wof K).ca 0)) = some (.type "type")
  c_1 : mg "BadWeb" = some (.ref ((Wof K).ca 1))
  e1_1 : PySem.W.excIn K ((Wof K).ca 1) He.veBase "ValueError.__new__" = true
  e1_2 : PySem.W.keepIn K (.ref ((Wof K).ca 1)) = true
  e1_3 : PySem.W.subIn K (.ref ((Wof K).ca 1)) (.type "BaseException") = some true
  e1_4 : PySem.W.typeIn K (.ref ((Wof K).ca 1)) = some (.type "type")
  c_2 : mg "BadPlaces" = some (.ref ((Wof K).ca 2))
  e2_1 : PySem.W.excIn K ((Wof K).ca 2) He.veBase "ValueError.__new__" = true
  e2_2 : PySem.W.keepIn K (.ref ((Wof K).ca 2)) = true
  e2_3 : PySem.W.subIn K (.ref ((Wof K).ca 2)) (.type "BaseException") = some true
  e2_4 : PySem.W.typeIn K (.ref ((Wof K).ca 2)) = some (.type "type")
  c_3 : mg "BadOrder" = some (.ref ((Wof K).ca 3))
  e3_1 : PySem.W.excIn K ((Wof K).ca 3) He.veBase "ValueError.__new__" = true
  e3_2 : PySem.W.keepIn K (.ref ((Wof K).ca 3)) = true
  e3_3 : PySem.W.subIn K (.ref ((Wof K).ca 3)) (.type "BaseException") = some true
  e3_4 : PySem.W.typeIn K (.ref ((Wof K).ca 3)) = some (.type "type")
  c_8 : mg "BadGroups" = some (.ref ((Wof K).ca 8))
  e8_1 : PySem.W.excIn K ((Wof K).ca 8) He.veBase "ValueError.__new__" = true
  e8_2 : PySem.W.keepIn K (.ref ((Wof K).ca 8)) = true
  e8_3 : PySem.W.subIn K (.ref ((Wof K).ca 8)) (.type "BaseException") = some true
  e8_4 : PySem.W.typeIn K (.ref ((Wof K).ca 8)) = some (.type "type")
  c_9 : mg "BadRow" = some (.ref ((Wof K).ca 9))
  e9_1 : PySem.W.excIn K ((Wof K).ca 9) He.veBase "ValueError.__new__" = true
  e9_2 : PySem.W.keepIn K (.ref ((Wof K).ca 9)) = true
  e9_3 : PySem.W.subIn K (.ref ((Wof K).ca 9)) (.type "BaseException") = some true
  e9_4 : PySem.W.typeIn K (.ref ((Wof K).ca 9)) = some (.type "type")
  c_10 : mg "BadColours" = some (.ref ((Wof K).ca 10))
  e10_1 : PySem.W.excIn K ((Wof K).ca 10) He.veBase "ValueError.__new__" = true
  e10_2 : PySem.W.keepIn K (.ref ((Wof K).ca 10)) = true
  e10_3 : PySem.W.subIn K (.ref ((Wof K).ca 10)) (.type "BaseException") = some true
  e10_4 : PySem.W.typeIn K (.ref ((Wof K).ca 10)) = some (.type "type")
  c_4 : mg "TooMany" = some (.ref ((Wof K).ca 4))
  e4_1 : PySem.W.excIn K ((Wof K).ca 4) He.veBase "ValueError.__new__" = true
  e4_2 : PySem.W.keepIn K (.ref ((Wof K).ca 4)) = true
  e4_3 : PySem.W.subIn K (.ref ((Wof K).ca 4)) (.type "BaseException") = some true
  e4_4 : PySem.W.typeIn K (.ref ((Wof K).ca 4)) = some (.type "type")
  c_11 : mg "NoCover" = some (.ref ((Wof K).ca 11))
  e11_1 : PySem.W.excIn K ((Wof K).ca 11) He.veBase "ValueError.__new__" = true
  e11_2 : PySem.W.keepIn K (.ref ((Wof K).ca 11)) = true
  e11_3 : PySem.W.subIn K (.ref ((Wof K).ca 11)) (.type "BaseException") = some true
  e11_4 : PySem.W.typeIn K (.ref ((Wof K).ca 11)) = some (.type "type")
  exc : ∀ C, excC C = true → ExcC K ((Wof K).ca C)
  exm : ∀ C, [0, 1, 2, 3, 4, 8, 9, 10, 11].contains C = true → PySem.W.exmOne K (.ref ((Wof K).ca C)) (.ref ((Wof K).ca 0)) = some true
  kx_BadColours : ∀ C, excC C = true → PySem.W.kitOne K (.ref ((Wof K).ca C)) (.ref (cad K 10)) = some (([10, 99] : List Nat).contains C)
  kx_BadGroups : ∀ C, excC C = true → PySem.W.kitOne K (.ref ((Wof K).ca C)) (.ref (cad K 8)) = some (([8, 99] : List Nat).contains C)
  kx_BadOrder : ∀ C, excC C = true → PySem.W.kitOne K (.ref ((Wof K).ca C)) (.ref (cad K 3)) = some (([3, 99] : List Nat).contains C)
  kx_BadPlaces : ∀ C, excC C = true → PySem.W.kitOne K (.ref ((Wof K).ca C)) (.ref (cad K 2)) = some (([2, 99] : List Nat).contains C)
  kx_BadRow : ∀ C, excC C = true → PySem.W.kitOne K (.ref ((Wof K).ca C)) (.ref (cad K 9)) = some (([9, 99] : List Nat).contains C)
  kx_BadWeb : ∀ C, excC C = true → PySem.W.kitOne K (.ref ((Wof K).ca C)) (.ref (cad K 1)) = some (([1, 99] : List Nat).contains C)
  kx_NoCover : ∀ C, excC C = true → PySem.W.kitOne K (.ref ((Wof K).ca C)) (.ref (cad K 11)) = some (([11, 99] : List Nat).contains C)
  kx_TooMany : ∀ C, excC C = true → PySem.W.kitOne K (.ref ((Wof K).ca C)) (.ref (cad K 4)) = some (([4, 99] : List Nat).contains C)
  tabs : (mkl.map fun m => (He.cT K m.1).2).Nodup
theorem fx_of {K : PySem.W.Frag} {h : Heap} {mg : Str → Option Value} (X : K.In h) (G : h.Ns mainGlobals mg) (c : SaysX fa fb fn K) : Fx K mg := ⟨He.glo_ok X G (c.fact 0 (f := .glo "is_whole") rfl),
  He.glo_ok X G (c.fact 1 (f := .glo "is_below") rfl),
  He.glo_ok X G (c.fact 2 (f := .glo "is_tie") rfl),
  He.glo_ok X G (c.fact 3 (f := .glo "is_web") rfl),
  He.glo_ok X G (c.fact 4 (f := .glo "check_web") rfl),
  He.glo_ok X G (c.fact 5 (f := .glo "check_small") rfl),
  He.glo_ok X G (c.fact 6 (f := .glo "check_places") rfl),
  He.glo_ok X G (c.fact 7 (f := .glo "near_of") rfl),
  He.glo_ok X G (c.fact 8 (f := .glo "near") rfl),
  He.glo_ok X G (c.fact 9 (f := .glo "pieces_of") rfl),
  He.glo_ok X G (c.fact 10 (f := .glo "pieces") rfl),
  He.glo_ok X G (c.fact 11 (f := .glo "cut_of") rfl),
  He.glo_ok X G (c.fact 12 (f := .glo "are_places") rfl),
  He.glo_ok X G (c.fact 13 (f := .glo "cut_down") rfl),
  He.glo_ok X G (c.fact 14 (f := .glo "check_order") rfl),
  He.glo_ok X G (c.fact 15 (f := .glo "renamed_by") rfl),
  He.glo_ok X G (c.fact 16 (f := .glo "renamed") rfl),
  He.glo_ok X G (c.fact 17 (f := .glo "beside") rfl),
  He.glo_ok X G (c.fact 18 (f := .glo "is_cover_of") rfl),
  He.glo_ok X G (c.fact 19 (f := .glo "check_cover") rfl),
  He.glo_ok X G (c.fact 20 (f := .glo "ends_of") rfl),
  He.glo_ok X G (c.fact 21 (f := .glo "root_by") rfl),
  He.glo_ok X G (c.fact 22 (f := .glo "root_of") rfl),
  He.glo_ok X G (c.fact 23 (f := .glo "groups_at") rfl),
  He.glo_ok X G (c.fact 24 (f := .glo "check_row") rfl),
  He.glo_ok X G (c.fact 25 (f := .glo "squares") rfl),
  He.glo_ok X G (c.fact 26 (f := .glo "by_groups") rfl),
  He.glo_ok X G (c.fact 27 (f := .glo "tied_many") rfl),
  He.glo_ok X G (c.fact 28 (f := .glo "_law_all_tied") rfl),
  He.glo_ok X G (c.fact 29 (f := .glo "law") rfl),
  He.glo_ok X G (c.fact 30 (f := .glo "_law_webs_right") rfl),
  He.glo_ok X G (c.fact 31 (f := .glo "_law_web_doors") rfl),
  He.glo_ok X G (c.fact 32 (f := .glo "_law_rows_right") rfl),
  He.glo_ok X G (c.fact 33 (f := .glo "_law_groups_right") rfl),
  He.glo_ok X G (c.fact 34 (f := .glo "_law_refused") rfl),
  He.free_ok X G (c.fact 35 (f := .free "abs") rfl),
  He.free_ok X G (c.fact 36 (f := .free "all") rfl),
  He.free_ok X G (c.fact 37 (f := .free "bool") rfl),
  He.free_ok X G (c.fact 38 (f := .free "enumerate") rfl),
  He.free_ok X G (c.fact 39 (f := .free "int") rfl),
  He.free_ok X G (c.fact 40 (f := .free "isinstance") rfl),
  He.free_ok X G (c.fact 41 (f := .free "len") rfl),
  He.free_ok X G (c.fact 42 (f := .free "list") rfl),
  He.free_ok X G (c.fact 43 (f := .free "max") rfl),
  He.free_ok X G (c.fact 44 (f := .free "min") rfl),
  He.free_ok X G (c.fact 45 (f := .free "range") rfl),
  He.free_ok X G (c.fact 46 (f := .free "set") rfl),
  He.free_ok X G (c.fact 47 (f := .free "sorted") rfl),
  He.free_ok X G (c.fact 48 (f := .free "sum") rfl),
  He.free_ok X G (c.fact 49 (f := .free "tuple") rfl),
  He.free_ok X G (c.fact 50 (f := .free "zip") rfl),
  He.int_ok X G (c.fact 51 (f := .int "MOST_PLACES" 24) rfl),
  He.int_ok X G (c.fact 52 (f := .int "MOST_TIES" 66) rfl),
  He.int_ok X G (c.fact 53 (f := .int "SMALL" 10) rfl),
  He.glo_ok X G (c.fact 54 (f := .glo "WebError") rfl),
  (He.exc_ok (c.fact 55 (f := .exc "WebError") rfl)).1,
  (He.exc_ok (c.fact 55 (f := .exc "WebError") rfl)).2.1,
  (He.exc_ok (c.fact 55 (f := .exc "WebError") rfl)).2.2.1,
  (He.exc_ok (c.fact 55 (f := .exc "WebError") rfl)).2.2.2,
  He.glo_ok X G (c.fact 56 (f := .glo "BadWeb") rfl),
  (He.exc_ok (c.fact 57 (f := .exc "BadWeb") rfl)).1,
  (He.exc_ok (c.fact 57 (f := .exc "BadWeb") rfl)).2.1,
  (He.exc_ok (c.fact 57 (f := .exc "BadWeb") rfl)).2.2.1,
  (He.exc_ok (c.fact 57 (f := .exc "BadWeb") rfl)).2.2.2,
  He.glo_ok X G (c.fact 58 (f := .glo "BadPlaces") rfl),
  (He.exc_ok (c.fact 59 (f := .exc "BadPlaces") rfl)).1,
  (He.exc_ok (c.fact 59 (f := .exc "BadPlaces") rfl)).2.1,
  (He.exc_ok (c.fact 59 (f := .exc "BadPlaces") rfl)).2.2.1,
  (He.exc_ok (c.fact 59 (f := .exc "BadPlaces") rfl)).2.2.2,
  He.glo_ok X G (c.fact 60 (f := .glo "BadOrder") rfl),
  (He.exc_ok (c.fact 61 (f := .exc "BadOrder") rfl)).1,
  (He.exc_ok (c.fact 61 (f := .exc "BadOrder") rfl)).2.1,
  (He.exc_ok (c.fact 61 (f := .exc "BadOrder") rfl)).2.2.1,
  (He.exc_ok (c.fact 61 (f := .exc "BadOrder") rfl)).2.2.2,
  He.glo_ok X G (c.fact 62 (f := .glo "BadGroups") rfl),
  (He.exc_ok (c.fact 63 (f := .exc "BadGroups") rfl)).1,
  (He.exc_ok (c.fact 63 (f := .exc "BadGroups") rfl)).2.1,
  (He.exc_ok (c.fact 63 (f := .exc "BadGroups") rfl)).2.2.1,
  (He.exc_ok (c.fact 63 (f := .exc "BadGroups") rfl)).2.2.2,
  He.glo_ok X G (c.fact 64 (f := .glo "BadRow") rfl),
  (He.exc_ok (c.fact 65 (f := .exc "BadRow") rfl)).1,
  (He.exc_ok (c.fact 65 (f := .exc "BadRow") rfl)).2.1,
  (He.exc_ok (c.fact 65 (f := .exc "BadRow") rfl)).2.2.1,
  (He.exc_ok (c.fact 65 (f := .exc "BadRow") rfl)).2.2.2,
  He.glo_ok X G (c.fact 66 (f := .glo "BadColours") rfl),
  (He.exc_ok (c.fact 67 (f := .exc "BadColours") rfl)).1,
  (He.exc_ok (c.fact 67 (f := .exc "BadColours") rfl)).2.1,
  (He.exc_ok (c.fact 67 (f := .exc "BadColours") rfl)).2.2.1,
  (He.exc_ok (c.fact 67 (f := .exc "BadColours") rfl)).2.2.2,
  He.glo_ok X G (c.fact 68 (f := .glo "TooMany") rfl),
  (He.exc_ok (c.fact 69 (f := .exc "TooMany") rfl)).1,
  (He.exc_ok (c.fact 69 (f := .exc "TooMany") rfl)).2.1,
  (He.exc_ok (c.fact 69 (f := .exc "TooMany") rfl)).2.2.1,
  (He.exc_ok (c.fact 69 (f := .exc "TooMany") rfl)).2.2.2,
  He.glo_ok X G (c.fact 70 (f := .glo "NoCover") rfl),
  (He.exc_ok (c.fact 71 (f := .exc "NoCover") rfl)).1,
  (He.exc_ok (c.fact 71 (f := .exc "NoCover") rfl)).2.1,
  (He.exc_ok (c.fact 71 (f := .exc "NoCover") rfl)).2.2.1,
  (He.exc_ok (c.fact 71 (f := .exc "NoCover") rfl)).2.2.2,
  excsB_ok (ca := cad K) (c.more 0 (f := (fun K => excsB (cad K) K)) rfl),
  exmB_ok (ca := cad K) (c.more 1 (f := (fun K => exmB (cad K) (.ref (cad K 0)) K)) rfl),
  kxB_ok (ca := cad K) (c.more 2 (f := (fun K => kxB (cad K) (.ref (cad K 10)) ([10, 99] : List Nat) K)) rfl),
  kxB_ok (ca := cad K) (c.more 3 (f := (fun K => kxB (cad K) (.ref (cad K 8)) ([8, 99] : List Nat) K)) rfl),
  kxB_ok (ca := cad K) (c.more 4 (f := (fun K => kxB (cad K) (.ref (cad K 3)) ([3, 99] : List Nat) K)) rfl),
  kxB_ok (ca := cad K) (c.more 5 (f := (fun K => kxB (cad K) (.ref (cad K 2)) ([2, 99] : List Nat) K)) rfl),
  kxB_ok (ca := cad K) (c.more 6 (f := (fun K => kxB (cad K) (.ref (cad K 9)) ([9, 99] : List Nat) K)) rfl),
  kxB_ok (ca := cad K) (c.more 7 (f := (fun K => kxB (cad K) (.ref (cad K 1)) ([1, 99] : List Nat) K)) rfl),
  kxB_ok (ca := cad K) (c.more 8 (f := (fun K => kxB (cad K) (.ref (cad K 11)) ([11, 99] : List Nat) K)) rfl),
  kxB_ok (ca := cad K) (c.more 9 (f := (fun K => kxB (cad K) (.ref (cad K 4)) ([4, 99] : List Nat) K)) rfl),
  (of_decide_eq_true (c.more 10 (f := (fun K => decide ((mkl.map fun m => (He.cT K m.1).2).Nodup))) rfl))⟩
def sig : List (Nat × Str × List Str) := [((0, "is_whole", ["thing"]) : Nat × Str × List Str), ((1, "is_below", ["thing", "many"]) : Nat × Str × List Str), ((2, "is_tie", ["thing", "many"]) : Nat × Str × List Str), ((3, "is_web", ["thing"]) : Nat × Str × List Str), ((4, "check_web", ["web"]) : Nat × Str × List Str), ((37, "check_small", ["web"]) : Nat × Str × List Str), ((38, "check_places", ["web", "most"]) : Nat × Str × List Str), ((5, "near_of", ["web"]) : Nat × Str × List Str), ((6, "near", ["web"]) : Nat × Str × List Str), ((7, "pieces_of", ["web"]) : Nat × Str × List Str), ((8, "pieces", ["web"]) : Nat × Str × List Str), ((16, "cut_of", ["web", "some"]) : Nat × Str × List Str), ((17, "are_places", ["web", "thing"]) : Nat × Str × List Str), ((18, "cut_down", ["web", "some"]) : Nat × Str × List Str), ((19, "check_order", ["order", "many"]) : Nat × Str × List Str), ((20, "renamed_by", ["web", "order"]) : Nat × Str × List Str), ((21, "renamed", ["web", "order"]) : Nat × Str × List Str), ((22, "beside", ["one", "other"]) : Nat × Str × List Str), ((39, "is_cover_of", ["web", "groups"]) : Nat × Str × List Str), ((61, "check_cover", ["web", "groups"]) : Nat × Str × List Str), ((62, "ends_of", ["web", "groups"]) : Nat × Str × List Str), ((63, "root_by", ["web", "groups"]) : Nat × Str × List Str), ((64, "root_of", ["web", "groups"]) : Nat × Str × List Str), ((59, "groups_at", ["web"]) : Nat × Str × List Str), ((110, "check_row", ["web", "row"]) : Nat × Str × List Str), ((111, "squares", ["web", "row"]) : Nat × Str × List Str), ((112, "by_groups", ["web", "groups", "row"]) : Nat × Str × List Str), ((34, "tied_many", ["web"]) : Nat × Str × List Str), ((184, "_law_all_tied", ["_law_many"]) : Nat × Str × List Str), ((189, "law", ["_law_script"]) : Nat × Str × List Str)]
def sigM : List (Nat × Nat × List Str) := []
def sigI : List (Nat × Nat × Str × Str × List Str) := []
section
variable [TabT]
variable {P : Program} {w : World} {K : PySem.W.Frag} {mg : Str → Option Value} {base : Heap} {T : Tb} {k : Nat}
def AllF (P : Program) (w : World) (K : PySem.W.Frag) (mg : Str → Option Value) (base : Heap) (T : Tb) (k : Nat) : Prop := ∀ (p j : Nat) (x : Str) (ps : List Str), sig[p]? = some (j, x, ps) → FnF P w mg base (Wof K) T k x j ps
def AllM (P : Program) (w : World) (K : PySem.W.Frag) (mg : Str → Option Value) (base : Heap) (T : Tb) (k : Nat) : Prop := ∀ (p j C : Nat) (ps : List Str), sigM[p]? = some (j, C, ps) → FnM P w mg base (Wof K) T k "shows" C j ps
def AllI (P : Program) (w : World) (K : PySem.W.Frag) (mg : Str → Option Value) (base : Heap) (T : Tb) : Prop := ∀ (p j C : Nat) (f x : Str) (ps : List Str), sigI[p]? = some (j, C, f, x, ps) → FnI P w mg base (Wof K) T 1 x C f j ps
def sigK : List (Nat × Str × List Str) := [(185, "_law_webs_right", ["_law_ties", "_law_at"]), (186, "_law_web_doors", ["_law_web"]), (187, "_law_rows_right", ["_law_web", "_law_at"]), (188, "_law_groups_right", ["_law_at"])]
def sigC : List (Nat × Str × List Str) := [(183, "_law_refused", ["_law_ask", "_law_due"])]
def AllK (P : Program) (w : World) (K : PySem.W.Frag) (mg : Str → Option Value) (base : Heap) (T : Tb) (k : Nat) : Prop := ∀ (p j : Nat) (x : Str) (ps : List Str), sigK[p]? = some (j, x, ps) → FnFK P w mg base (Wof K) T k x j ps
def AllC (P : Program) (w : World) (K : PySem.W.Frag) (mg : Str → Option Value) (base : Heap) (T : Tb) (k : Nat) : Prop := ∀ (p j : Nat) (x : Str) (ps : List Str), sigC[p]? = some (j, x, ps) → FnC P w mg base (Wof K) T k LX U x j ps
def AllL (P : Program) (w : World) (K : PySem.W.Frag) (mg : Str → Option Value) (base : Heap) (T : Tb) (k : Nat) : Prop := ∀ g, ([230, 231, 232, 233, 234, 235, 236, 237, 238, 239, 240, 241, 242, 243] : List Nat).contains g = true → LOk P w mg base (Wof K) T k LX U g 0
def TBs (K : PySem.W.Frag) (mg : Str → Option Value) (base : Heap) : Prop := ∀ m ∈ mkl, TabB base mg (He.cT K m.1).1 (He.cT K m.1).2 ∧ ((He.cT K m.1).2, m.2) ∈ TabT.T ∧ ∀ p ∈ TabT.T, p.1 = (He.cT K m.1).2 → p.2 = m.2
theorem sc0 : FnScope ["thing"] ["thing"] (defScope (top 14)) := ⟨rfl, rfl, rfl, by decide +kernel, rfl, by decide +kernel, by decide +kernel⟩
theorem b0 (FX : Fx K mg) (hF : AllF P w K mg base T k) (hM : AllM P w K mg base T k) (hI : AllI P w K mg base T) (hK : AllK P w K mg base T k) (hk2 : 2 ≤ k) {f : Addr} (cdv : Value) (A : Around) (outer : List Env) (s : Shared) (H : Hp) (E : XK) (hr : Room k (A.deeper (envOfC "is_whole" (defScope (top 14)) s.heap.objs.size f cdv))) :
    PSs (cxOf (L2N.CX P w) P w K mg base ["thing"] "is_whole" (defScope (top 14)) f cdv A outer s H E) (defBody (top 14)) (rdSs (Wof K) E T fu_is_whole.body) := by
  have hN : (["thing"] : List Str).Nodup := sc0.nd
  have hu0 : (A.deeper (envOfC "is_whole" (defScope (top 14)) s.heap.objs.size f cdv)).units < cLine := by have := hr.un; omega
  have hu4 : (A.deeper (envOfC "is_whole" (defScope (top 14)) s.heap.objs.size f cdv)).units + 64 < cLine := by have := hr.un; omega
  have hu5 : (A.deeper (envOfC "is_whole" (defScope (top 14)) s.heap.objs.size f cdv)).units + 65 < cLine := by have := hr.un; omega
  have tk : L2N.Takes (cxOf (L2N.CX P w) P w K mg base ["thing"] "is_whole" (defScope (top 14)) f cdv A outer s H E) (fun cls d _ H => E cls d H) := L2N.takes_of rfl rfl rfl rfl
  have px : Passes (L2N.CX P w) (cxOf (L2N.CX P w) P w K mg base ["thing"] "is_whole" (defScope (top 14)) f cdv A outer s H E) E := L2N.passes_call tk fun _ _ _ _ h => h
  have po : PassesOwn (model P w) (cxOf (L2N.CX P w) P w K mg base ["thing"] "is_whole" (defScope (top 14)) f cdv A outer s H E).A (cxOf (L2N.CX P w) P w K mg base ["thing"] "is_whole" (defScope (top 14)) f cdv A outer s H E).env (cxOf (L2N.CX P w) P w K mg base ["thing"] "is_whole" (defScope (top 14)) f cdv A outer s H E).xe := passes_of rfl
  refine s_cons (s_ret (r_of (c_and (c_isi rfl rfl rfl FX.m_isinstance rfl FX.m_int rfl (c_var 0)) (c_one (c_not (c_isi rfl rfl rfl FX.m_isinstance rfl FX.m_bool rfl (c_var 0))))))) ?_
  exact s_nil
theorem sc1 : FnScope ["thing", "many"] ["thing", "many"] (defScope (top 15)) := ⟨rfl, rfl, rfl, by decide +kernel, rfl, by decide +kernel, by decide +kernel⟩
theorem b1 (FX : Fx K mg) (hF : AllF P w K mg base T k) (hM : AllM P w K mg base T k) (hI : AllI P w K mg base T) (hK : AllK P w K mg base T k) (hk2 : 2 ≤ k) {f : Addr} (cdv : Value) (A : Around) (outer : List Env) (s : Shared) (H : Hp) (E : XK) (hr : Room k (A.deeper (envOfC "is_below" (defScope (top 15)) s.heap.objs.size f cdv))) :
    PSs (cxOf (L2N.CX P w) P w K mg base ["thing", "many"] "is_below" (defScope (top 15)) f cdv A outer s H E) (defBody (top 15)) (rdSs (Wof K) E T fu_is_below.body) := by
  have hN : (["thing", "many"] : List Str).Nodup := sc1.nd
  have hu0 : (A.deeper (envOfC "is_below" (defScope (top 15)) s.heap.objs.size f cdv)).units < cLine := by have := hr.un; omega
  have hu4 : (A.deeper (envOfC "is_below" (defScope (top 15)) s.heap.objs.size f cdv)).units + 64 < cLine := by have := hr.un; omega
  have hu5 : (A.deeper (envOfC "is_below" (defScope (top 15)) s.heap.objs.size f cdv)).units + 65 < cLine := by have := hr.un; omega
  have tk : L2N.Takes (cxOf (L2N.CX P w) P w K mg base ["thing", "many"] "is_below" (defScope (top 15)) f cdv A outer s H E) (fun cls d _ H => E cls d H) := L2N.takes_of rfl rfl rfl rfl
  have px : Passes (L2N.CX P w) (cxOf (L2N.CX P w) P w K mg base ["thing", "many"] "is_below" (defScope (top 15)) f cdv A outer s H E) E := L2N.passes_call tk fun _ _ _ _ h => h
  have po : PassesOwn (model P w) (cxOf (L2N.CX P w) P w K mg base ["thing", "many"] "is_below" (defScope (top 15)) f cdv A outer s H E).A (cxOf (L2N.CX P w) P w K mg base ["thing", "many"] "is_below" (defScope (top 15)) f cdv A outer s H E).env (cxOf (L2N.CX P w) P w K mg base ["thing", "many"] "is_below" (defScope (top 15)) f cdv A outer s H E).xe := passes_of rfl
  refine s_cons (s_ret (r_of (c_and (c_cal rfl (hF 0 _ _ _ rfl) hr rfl px (a_cons (c_var 0) a_nil)) (c_one (c_chn o_le (o_lt hu0) c_int (c_var 0) (c_var 1)))))) ?_
  exact s_nil
theorem sc2 : FnScope ["thing", "many"] ["thing", "many"] (defScope (top 16)) := ⟨rfl, rfl, rfl, by decide +kernel, rfl, by decide +kernel, by decide +kernel⟩
theorem b2 (FX : Fx K mg) (hF : AllF P w K mg base T k) (hM : AllM P w K mg base T k) (hI : AllI P w K mg base T) (hK : AllK P w K mg base T k) (hk2 : 2 ≤ k) {f : Addr} (cdv : Value) (A : Around) (outer : List Env) (s : Shared) (H : Hp) (E : XK) (hr : Room k (A.deeper (envOfC "is_tie" (defScope (top 16)) s.heap.objs.size f cdv))) :
    PSs (cxOf (L2N.CX P w) P w K mg base ["thing", "many"] "is_tie" (defScope (top 16)) f cdv A outer s H E) (defBody (top 16)) (rdSs (Wof K) E T fu_is_tie.body) := by
  have hN : (["thing", "many"] : List Str).Nodup := sc2.nd
  have hu0 : (A.deeper (envOfC "is_tie" (defScope (top 16)) s.heap.objs.size f cdv)).units < cLine := by have := hr.un; omega
  have hu4 : (A.deeper (envOfC "is_tie" (defScope (top 16)) s.heap.objs.size f cdv)).units + 64 < cLine := by have := hr.un; omega
  have hu5 : (A.deeper (envOfC "is_tie" (defScope (top 16)) s.heap.objs.size f cdv)).units + 65 < cLine := by have := hr.un; omega
  have tk : L2N.Takes (cxOf (L2N.CX P w) P w K mg base ["thing", "many"] "is_tie" (defScope (top 16)) f cdv A outer s H E) (fun cls d _ H => E cls d H) := L2N.takes_of rfl rfl rfl rfl
  have px : Passes (L2N.CX P w) (cxOf (L2N.CX P w) P w K mg base ["thing", "many"] "is_tie" (defScope (top 16)) f cdv A outer s H E) E := L2N.passes_call tk fun _ _ _ _ h => h
  have po : PassesOwn (model P w) (cxOf (L2N.CX P w) P w K mg base ["thing", "many"] "is_tie" (defScope (top 16)) f cdv A outer s H E).A (cxOf (L2N.CX P w) P w K mg base ["thing", "many"] "is_tie" (defScope (top 16)) f cdv A outer s H E).env (cxOf (L2N.CX P w) P w K mg base ["thing", "many"] "is_tie" (defScope (top 16)) f cdv A outer s H E).xe := passes_of rfl
  refine s_cons (s_if (L2.PW.pt (t_or (t_not (t_val (c_isi rfl rfl rfl FX.m_isinstance rfl FX.m_tuple rfl (c_var 0)))) (t_or (t_cmp (o_ne rfl hu4) (c_bi (b_len rfl) rfl FX.m_len rfl (a_cons (c_var 0) a_nil)) c_int (by with_unfolding_all rfl)) (t_or1 (t_not (t_val (c_cal rfl (hF 1 _ _ _ rfl) hr rfl px (a_cons (c_sub rfl (c_var 0) c_int) (a_cons (c_var 1) a_nil))))))))) (s_cons (s_ret (r_of c_bl))
      s_nil) s_nil) ?_
  refine s_cons (s_ret (r_of (c_and (c_cal rfl (hF 1 _ _ _ rfl) hr rfl px (a_cons (c_sub rfl (c_var 0) c_int) (a_cons (c_var 1) a_nil))) (c_one (c_cmp (o_lt hu0) (c_sub rfl (c_var 0) c_int) (c_sub rfl (c_var 0) c_int) (by with_unfolding_all rfl)))))) ?_
  exact s_nil
theorem sc3 : FnScope ["thing", "ties", "one", "other", "tie"] ["thing"] (defScope (top 17)) := ⟨rfl, rfl, rfl, by decide +kernel, rfl, by decide +kernel, by decide +kernel⟩
theorem b3 (FX : Fx K mg) (hF : AllF P w K mg base T k) (hM : AllM P w K mg base T k) (hI : AllI P w K mg base T) (hK : AllK P w K mg base T k) (hk2 : 2 ≤ k) {f : Addr} (cdv : Value) (A : Around) (outer : List Env) (s : Shared) (H : Hp) (E : XK) (hr : Room k (A.deeper (envOfC "is_web" (defScope (top 17)) s.heap.objs.size f cdv))) :
    PSs (cxOf (L2N.CX P w) P w K mg base ["thing", "ties", "one", "other", "tie"] "is_web" (defScope (top 17)) f cdv A outer s H E) (defBody (top 17)) (rdSs (Wof K) E T fu_is_web.body) := by
  have hN : (["thing", "ties", "one", "other", "tie"] : List Str).Nodup := sc3.nd
  have hu0 : (A.deeper (envOfC "is_web" (defScope (top 17)) s.heap.objs.size f cdv)).units < cLine := by have := hr.un; omega
  have hu4 : (A.deeper (envOfC "is_web" (defScope (top 17)) s.heap.objs.size f cdv)).units + 64 < cLine := by have := hr.un; omega
  have hu5 : (A.deeper (envOfC "is_web" (defScope (top 17)) s.heap.objs.size f cdv)).units + 65 < cLine := by have := hr.un; omega
  have tk : L2N.Takes (cxOf (L2N.CX P w) P w K mg base ["thing", "ties", "one", "other", "tie"] "is_web" (defScope (top 17)) f cdv A outer s H E) (fun cls d _ H => E cls d H) := L2N.takes_of rfl rfl rfl rfl
  have px : Passes (L2N.CX P w) (cxOf (L2N.CX P w) P w K mg base ["thing", "ties", "one", "other", "tie"] "is_web" (defScope (top 17)) f cdv A outer s H E) E := L2N.passes_call tk fun _ _ _ _ h => h
  have po : PassesOwn (model P w) (cxOf (L2N.CX P w) P w K mg base ["thing", "ties", "one", "other", "tie"] "is_web" (defScope (top 17)) f cdv A outer s H E).A (cxOf (L2N.CX P w) P w K mg base ["thing", "ties", "one", "other", "tie"] "is_web" (defScope (top 17)) f cdv A outer s H E).env (cxOf (L2N.CX P w) P w K mg base ["thing", "ties", "one", "other", "tie"] "is_web" (defScope (top 17)) f cdv A outer s H E).xe := passes_of rfl
  refine s_cons (s_if (L2.PW.pt (t_or (t_not (t_val (c_isi rfl rfl rfl FX.m_isinstance rfl FX.m_tuple rfl (c_var 0)))) (t_or (t_cmp (o_ne rfl hu4) (c_bi (b_len rfl) rfl FX.m_len rfl (a_cons (c_var 0) a_nil)) c_int (by with_unfolding_all rfl)) (t_or1 (t_not (t_val (c_cal rfl (hF 1 _ _ _ rfl) hr rfl px (a_cons (c_sub rfl (c_var 0) c_int) (a_cons (c_op o_add (c_gint rfl FX.i_MOST_PLACES) c_int) a_nil))))))))) (s_cons (s_ret (r_of c_bl))
      s_nil) s_nil) ?_
  refine s_cons (s_asg hN (c_sub rfl (c_var 0) c_int)) ?_
  refine s_cons (s_if (L2.PW.pt (t_or (t_not (t_val (c_isi rfl rfl rfl FX.m_isinstance rfl FX.m_list rfl (c_var 1)))) (t_or (t_cmp o_gt (c_bi (b_len rfl) rfl FX.m_len rfl (a_cons (c_var 1) a_nil)) (c_gint rfl FX.i_MOST_TIES) (by with_unfolding_all rfl)) (t_or1 (t_not (t_val (c_bi (b_all rfl rfl) rfl FX.m_all rfl (a_cons (c_comp (own := [("tie", 4)]) rfl hN (i_seq rfl (c_var 1)) (show BlkOk ["thing", "ties", "one", "other", "tie"] (defScope (top 17)) _ _ from blkOk_by (by decide +kernel)) rfl (fun _ _ _ _ _ => (g_one 4 hN)) (fun _ _ _ _ _ => x_nil) (fun _ _ _ _ _ => (c_cal rfl (hF 2 _ _ _ rfl) hr rfl passN (a_cons (c_var 4) (a_cons (c_sub rfl (c_var 0) c_int) a_nil))))) a_nil)))))))) (s_cons (s_ret (r_of c_bl))
      s_nil) s_nil) ?_
  refine s_cons (s_ret (r_of (c_bi (b_all rfl rfl) rfl FX.m_all rfl (a_cons (c_comp (own := [("one", 2), ("other", 3)]) rfl hN (i_zip rfl FX.m_zip (c_var 1) (c_slc rfl (c_var 1) (o_so c_int) o_no)) (show BlkOk ["thing", "ties", "one", "other", "tie"] (defScope (top 17)) _ _ from blkOk_by (by decide +kernel)) rfl (fun _ _ _ _ _ => (g_two 2 3 rfl hN)) (fun _ _ _ _ _ => x_nil) (fun _ _ _ _ _ => (c_cmp (o_lt hu0) (c_var 2) (c_var 3) (by with_unfolding_all rfl)))) a_nil)))) ?_
  exact s_nil
theorem sc4 : FnScope ["web"] ["web"] (defScope (top 18)) := ⟨rfl, rfl, rfl, by decide +kernel, rfl, by decide +kernel, by decide +kernel⟩
theorem b4 (FX : Fx K mg) (hF : AllF P w K mg base T k) (hM : AllM P w K mg base T k) (hI : AllI P w K mg base T) (hK : AllK P w K mg base T k) (hk2 : 2 ≤ k) {f : Addr} (cdv : Value) (A : Around) (outer : List Env) (s : Shared) (H : Hp) (E : XK) (hr : Room k (A.deeper (envOfC "check_web" (defScope (top 18)) s.heap.objs.size f cdv))) :
    PSs (cxOf (L2N.CX P w) P w K mg base ["web"] "check_web" (defScope (top 18)) f cdv A outer s H E) (defBody (top 18)) (rdSs (Wof K) E T fu_check_web.body) := by
  have hN : (["web"] : List Str).Nodup := sc4.nd
  have hu0 : (A.deeper (envOfC "check_web" (defScope (top 18)) s.heap.objs.size f cdv)).units < cLine := by have := hr.un; omega
  have hu4 : (A.deeper (envOfC "check_web" (defScope (top 18)) s.heap.objs.size f cdv)).units + 64 < cLine := by have := hr.un; omega
  have hu5 : (A.deeper (envOfC "check_web" (defScope (top 18)) s.heap.objs.size f cdv)).units + 65 < cLine := by have := hr.un; omega
  have tk : L2N.Takes (cxOf (L2N.CX P w) P w K mg base ["web"] "check_web" (defScope (top 18)) f cdv A outer s H E) (fun cls d _ H => E cls d H) := L2N.takes_of rfl rfl rfl rfl
  have px : Passes (L2N.CX P w) (cxOf (L2N.CX P w) P w K mg base ["web"] "check_web" (defScope (top 18)) f cdv A outer s H E) E := L2N.passes_call tk fun _ _ _ _ h => h
  have po : PassesOwn (model P w) (cxOf (L2N.CX P w) P w K mg base ["web"] "check_web" (defScope (top 18)) f cdv A outer s H E).A (cxOf (L2N.CX P w) P w K mg base ["web"] "check_web" (defScope (top 18)) f cdv A outer s H E).env (cxOf (L2N.CX P w) P w K mg base ["web"] "check_web" (defScope (top 18)) f cdv A outer s H E).xe := passes_of rfl
  refine s_cons (s_if (t_not (t_val (c_cal rfl (hF 3 _ _ _ rfl) hr rfl px (a_cons (c_var 0) a_nil)))) (s_cons (s_rai rfl rfl tk FX.e1_1 FX.c_1 FX.e1_2 FX.e1_3 FX.e1_4 rfl)
      s_nil) s_nil) ?_
  exact s_nil
theorem sc5 : FnScope ["web"] ["web"] (defScope (top 19)) := ⟨rfl, rfl, rfl, by decide +kernel, rfl, by decide +kernel, by decide +kernel⟩
theorem b5 (FX : Fx K mg) (hF : AllF P w K mg base T k) (hM : AllM P w K mg base T k) (hI : AllI P w K mg base T) (hK : AllK P w K mg base T k) (hk2 : 2 ≤ k) {f : Addr} (cdv : Value) (A : Around) (outer : List Env) (s : Shared) (H : Hp) (E : XK) (hr : Room k (A.deeper (envOfC "check_small" (defScope (top 19)) s.heap.objs.size f cdv))) :
    PSs (cxOf (L2N.CX P w) P w K mg base ["web"] "check_small" (defScope (top 19)) f cdv A outer s H E) (defBody (top 19)) (rdSs (Wof K) E T fu_check_small.body) := by
  have hN : (["web"] : List Str).Nodup := sc5.nd
  have hu0 : (A.deeper (envOfC "check_small" (defScope (top 19)) s.heap.objs.size f cdv)).units < cLine := by have := hr.un; omega
  have hu4 : (A.deeper (envOfC "check_small" (defScope (top 19)) s.heap.objs.size f cdv)).units + 64 < cLine := by have := hr.un; omega
  have hu5 : (A.deeper (envOfC "check_small" (defScope (top 19)) s.heap.objs.size f cdv)).units + 65 < cLine := by have := hr.un; omega
  have tk : L2N.Takes (cxOf (L2N.CX P w) P w K mg base ["web"] "check_small" (defScope (top 19)) f cdv A outer s H E) (fun cls d _ H => E cls d H) := L2N.takes_of rfl rfl rfl rfl
  have px : Passes (L2N.CX P w) (cxOf (L2N.CX P w) P w K mg base ["web"] "check_small" (defScope (top 19)) f cdv A outer s H E) E := L2N.passes_call tk fun _ _ _ _ h => h
  have po : PassesOwn (model P w) (cxOf (L2N.CX P w) P w K mg base ["web"] "check_small" (defScope (top 19)) f cdv A outer s H E).A (cxOf (L2N.CX P w) P w K mg base ["web"] "check_small" (defScope (top 19)) f cdv A outer s H E).env (cxOf (L2N.CX P w) P w K mg base ["web"] "check_small" (defScope (top 19)) f cdv A outer s H E).xe := passes_of rfl
  refine s_cons (s_exp (c_cal rfl (hF 6 _ _ _ rfl) hr rfl px (a_cons (c_var 0) (a_cons (c_gint rfl FX.i_SMALL) a_nil)))) ?_
  exact s_nil
theorem sc6 : FnScope ["web", "most"] ["web", "most"] (defScope (top 20)) := ⟨rfl, rfl, rfl, by decide +kernel, rfl, by decide +kernel, by decide +kernel⟩
theorem b6 (FX : Fx K mg) (hF : AllF P w K mg base T k) (hM : AllM P w K mg base T k) (hI : AllI P w K mg base T) (hK : AllK P w K mg base T k) (hk2 : 2 ≤ k) {f : Addr} (cdv : Value) (A : Around) (outer : List Env) (s : Shared) (H : Hp) (E : XK) (hr : Room k (A.deeper (envOfC "check_places" (defScope (top 20)) s.heap.objs.size f cdv))) :
    PSs (cxOf (L2N.CX P w) P w K mg base ["web", "most"] "check_places" (defScope (top 20)) f cdv A outer s H E) (defBody (top 20)) (rdSs (Wof K) E T fu_check_places.body) := by
  have hN : (["web", "most"] : List Str).Nodup := sc6.nd
  have hu0 : (A.deeper (envOfC "check_places" (defScope (top 20)) s.heap.objs.size f cdv)).units < cLine := by have := hr.un; omega
  have hu4 : (A.deeper (envOfC "check_places" (defScope (top 20)) s.heap.objs.size f cdv)).units + 64 < cLine := by have := hr.un; omega
  have hu5 : (A.deeper (envOfC "check_places" (defScope (top 20)) s.heap.objs.size f cdv)).units + 65 < cLine := by have := hr.un; omega
  have tk : L2N.Takes (cxOf (L2N.CX P w) P w K mg base ["web", "most"] "check_places" (defScope (top 20)) f cdv A outer s H E) (fun cls d _ H => E cls d H) := L2N.takes_of rfl rfl rfl rfl
  have px : Passes (L2N.CX P w) (cxOf (L2N.CX P w) P w K mg base ["web", "most"] "check_places" (defScope (top 20)) f cdv A outer s H E) E := L2N.passes_call tk fun _ _ _ _ h => h
  have po : PassesOwn (model P w) (cxOf (L2N.CX P w) P w K mg base ["web", "most"] "check_places" (defScope (top 20)) f cdv A outer s H E).A (cxOf (L2N.CX P w) P w K mg base ["web", "most"] "check_places" (defScope (top 20)) f cdv A outer s H E).env (cxOf (L2N.CX P w) P w K mg base ["web", "most"] "check_places" (defScope (top 20)) f cdv A outer s H E).xe := passes_of rfl
  refine s_cons (s_if (L2.PW.pt (t_or (t_not (t_val (c_cal rfl (hF 3 _ _ _ rfl) hr rfl px (a_cons (c_var 0) a_nil)))) (t_or1 (t_cmp o_gt (c_sub rfl (c_var 0) c_int) (c_var 1) (by with_unfolding_all rfl))))) (s_cons (s_rai rfl rfl tk FX.e1_1 FX.c_1 FX.e1_2 FX.e1_3 FX.e1_4 rfl)
      s_nil) s_nil) ?_
  exact s_nil
theorem sc7 : FnScope ["web", "found", "one", "other", "place", "some"] ["web"] (defScope (top 21)) := ⟨rfl, rfl, rfl, by decide +kernel, rfl, by decide +kernel, by decide +kernel⟩
theorem b7 (FX : Fx K mg) (hF : AllF P w K mg base T k) (hM : AllM P w K mg base T k) (hI : AllI P w K mg base T) (hK : AllK P w K mg base T k) (hk2 : 2 ≤ k) {f : Addr} (cdv : Value) (A : Around) (outer : List Env) (s : Shared) (H : Hp) (E : XK) (hr : Room k (A.deeper (envOfC "near_of" (defScope (top 21)) s.heap.objs.size f cdv))) :
    PSs (cxOf (L2N.CX P w) P w K mg base ["web", "found", "one", "other", "place", "some"] "near_of" (defScope (top 21)) f cdv A outer s H E) (defBody (top 21)) (rdSs (Wof K) E T fu_near_of.body) := by
  have hN : (["web", "found", "one", "other", "place", "some"] : List Str).Nodup := sc7.nd
  have hu0 : (A.deeper (envOfC "near_of" (defScope (top 21)) s.heap.objs.size f cdv)).units < cLine := by have := hr.un; omega
  have hu4 : (A.deeper (envOfC "near_of" (defScope (top 21)) s.heap.objs.size f cdv)).units + 64 < cLine := by have := hr.un; omega
  have hu5 : (A.deeper (envOfC "near_of" (defScope (top 21)) s.heap.objs.size f cdv)).units + 65 < cLine := by have := hr.un; omega
  have tk : L2N.Takes (cxOf (L2N.CX P w) P w K mg base ["web", "found", "one", "other", "place", "some"] "near_of" (defScope (top 21)) f cdv A outer s H E) (fun cls d _ H => E cls d H) := L2N.takes_of rfl rfl rfl rfl
  have px : Passes (L2N.CX P w) (cxOf (L2N.CX P w) P w K mg base ["web", "found", "one", "other", "place", "some"] "near_of" (defScope (top 21)) f cdv A outer s H E) E := L2N.passes_call tk fun _ _ _ _ h => h
  have po : PassesOwn (model P w) (cxOf (L2N.CX P w) P w K mg base ["web", "found", "one", "other", "place", "some"] "near_of" (defScope (top 21)) f cdv A outer s H E).A (cxOf (L2N.CX P w) P w K mg base ["web", "found", "one", "other", "place", "some"] "near_of" (defScope (top 21)) f cdv A outer s H E).env (cxOf (L2N.CX P w) P w K mg base ["web", "found", "one", "other", "place", "some"] "near_of" (defScope (top 21)) f cdv A outer s H E).xe := passes_of rfl
  refine s_cons (by first | exact s_asg hN (c_comp (own := [("place", 4)]) rfl hN (i_rng1 rfl FX.m_range (c_sub rfl (c_var 0) c_int)) (show BlkOk ["web", "found", "one", "other", "place", "some"] (defScope (top 21)) _ _ from blkOk_by (by decide +kernel)) rfl (fun _ _ _ _ _ => (g_one 4 hN)) (fun _ _ _ _ _ => x_nil) (fun _ _ _ _ _ => (c_lst a_nil))) | exact s_asgLc (own := [("place", 4)]) rfl hN (i_rng1 rfl FX.m_range (c_sub rfl (c_var 0) c_int)) (show BlkOk ["web", "found", "one", "other", "place", "some"] (defScope (top 21)) _ _ from blkOk_by (by decide +kernel)) rfl (fun _ _ _ _ _ => (g_one 4 hN)) (fun _ _ _ _ _ => x_nil) (fun _ _ _ _ _ => (c_lst a_nil))) ?_
  refine s_cons (s_for po rfl (i_seq rfl (c_sub rfl (c_var 0) c_int)) (g_two 2 3 rfl hN) (s_cons (s_mut PySem.F.slot_list_append PySem.F.type_list_append mt_append mo_append rfl (p_cons (p_nil 1) (c_var 2)) (a_cons (c_var 3) a_nil))
      (s_cons (s_mut PySem.F.slot_list_append PySem.F.type_list_append mt_append mo_append rfl (p_cons (p_nil 1) (c_var 3)) (a_cons (c_var 2) a_nil))
      s_nil))) ?_
  refine s_cons (s_ret (r_of (c_comp (own := [("some", 5)]) rfl hN (i_seq rfl (c_var 1)) (show BlkOk ["web", "found", "one", "other", "place", "some"] (defScope (top 21)) _ _ from blkOk_by (by decide +kernel)) rfl (fun _ _ _ _ _ => (g_one 5 hN)) (fun _ _ _ _ _ => x_nil) (fun _ _ _ _ _ => (c_bi (b_sorted rfl hu4) rfl FX.m_sorted rfl (a_cons (c_var 5) a_nil)))))) ?_
  exact s_nil
theorem sc8 : FnScope ["web"] ["web"] (defScope (top 22)) := ⟨rfl, rfl, rfl, by decide +kernel, rfl, by decide +kernel, by decide +kernel⟩
theorem b8 (FX : Fx K mg) (hF : AllF P w K mg base T k) (hM : AllM P w K mg base T k) (hI : AllI P w K mg base T) (hK : AllK P w K mg base T k) (hk2 : 2 ≤ k) {f : Addr} (cdv : Value) (A : Around) (outer : List Env) (s : Shared) (H : Hp) (E : XK) (hr : Room k (A.deeper (envOfC "near" (defScope (top 22)) s.heap.objs.size f cdv))) :
    PSs (cxOf (L2N.CX P w) P w K mg base ["web"] "near" (defScope (top 22)) f cdv A outer s H E) (defBody (top 22)) (rdSs (Wof K) E T fu_near.body) := by
  have hN : (["web"] : List Str).Nodup := sc8.nd
  have hu0 : (A.deeper (envOfC "near" (defScope (top 22)) s.heap.objs.size f cdv)).units < cLine := by have := hr.un; omega
  have hu4 : (A.deeper (envOfC "near" (defScope (top 22)) s.heap.objs.size f cdv)).units + 64 < cLine := by have := hr.un; omega
  have hu5 : (A.deeper (envOfC "near" (defScope (top 22)) s.heap.objs.size f cdv)).units + 65 < cLine := by have := hr.un; omega
  have tk : L2N.Takes (cxOf (L2N.CX P w) P w K mg base ["web"] "near" (defScope (top 22)) f cdv A outer s H E) (fun cls d _ H => E cls d H) := L2N.takes_of rfl rfl rfl rfl
  have px : Passes (L2N.CX P w) (cxOf (L2N.CX P w) P w K mg base ["web"] "near" (defScope (top 22)) f cdv A outer s H E) E := L2N.passes_call tk fun _ _ _ _ h => h
  have po : PassesOwn (model P w) (cxOf (L2N.CX P w) P w K mg base ["web"] "near" (defScope (top 22)) f cdv A outer s H E).A (cxOf (L2N.CX P w) P w K mg base ["web"] "near" (defScope (top 22)) f cdv A outer s H E).env (cxOf (L2N.CX P w) P w K mg base ["web"] "near" (defScope (top 22)) f cdv A outer s H E).xe := passes_of rfl
  refine s_cons (s_exp (c_cal rfl (hF 4 _ _ _ rfl) hr rfl px (a_cons (c_var 0) a_nil))) ?_
  refine s_cons (s_ret (r_of (c_cal rfl (hF 7 _ _ _ rfl) hr rfl px (a_cons (c_var 0) a_nil)))) ?_
  exact s_nil
theorem sc9 : FnScope ["web", "place", "beside_of", "met", "found", "some", "at", "more", "other"] ["web"] (defScope (top 23)) := ⟨rfl, rfl, rfl, by decide +kernel, rfl, by decide +kernel, by decide +kernel⟩
theorem b9 (FX : Fx K mg) (hF : AllF P w K mg base T k) (hM : AllM P w K mg base T k) (hI : AllI P w K mg base T) (hK : AllK P w K mg base T k) (hk2 : 2 ≤ k) {f : Addr} (cdv : Value) (A : Around) (outer : List Env) (s : Shared) (H : Hp) (E : XK) (hr : Room k (A.deeper (envOfC "pieces_of" (defScope (top 23)) s.heap.objs.size f cdv))) :
    PSs (cxOf (L2N.CX P w) P w K mg base ["web", "place", "beside_of", "met", "found", "some", "at", "more", "other"] "pieces_of" (defScope (top 23)) f cdv A outer s H E) (defBody (top 23)) (rdSs (Wof K) E T fu_pieces_of.body) := by
  have hN : (["web", "place", "beside_of", "met", "found", "some", "at", "more", "other"] : List Str).Nodup := sc9.nd
  have hu0 : (A.deeper (envOfC "pieces_of" (defScope (top 23)) s.heap.objs.size f cdv)).units < cLine := by have := hr.un; omega
  have hu4 : (A.deeper (envOfC "pieces_of" (defScope (top 23)) s.heap.objs.size f cdv)).units + 64 < cLine := by have := hr.un; omega
  have hu5 : (A.deeper (envOfC "pieces_of" (defScope (top 23)) s.heap.objs.size f cdv)).units + 65 < cLine := by have := hr.un; omega
  have tk : L2N.Takes (cxOf (L2N.CX P w) P w K mg base ["web", "place", "beside_of", "met", "found", "some", "at", "more", "other"] "pieces_of" (defScope (top 23)) f cdv A outer s H E) (fun cls d _ H => E cls d H) := L2N.takes_of rfl rfl rfl rfl
  have px : Passes (L2N.CX P w) (cxOf (L2N.CX P w) P w K mg base ["web", "place", "beside_of", "met", "found", "some", "at", "more", "other"] "pieces_of" (defScope (top 23)) f cdv A outer s H E) E := L2N.passes_call tk fun _ _ _ _ h => h
  have po : PassesOwn (model P w) (cxOf (L2N.CX P w) P w K mg base ["web", "place", "beside_of", "met", "found", "some", "at", "more", "other"] "pieces_of" (defScope (top 23)) f cdv A outer s H E).A (cxOf (L2N.CX P w) P w K mg base ["web", "place", "beside_of", "met", "found", "some", "at", "more", "other"] "pieces_of" (defScope (top 23)) f cdv A outer s H E).env (cxOf (L2N.CX P w) P w K mg base ["web", "place", "beside_of", "met", "found", "some", "at", "more", "other"] "pieces_of" (defScope (top 23)) f cdv A outer s H E).xe := passes_of rfl
  refine s_cons (by first | exact s_par3 rfl hN (a_cons (c_cal rfl (hF 7 _ _ _ rfl) hr rfl px (a_cons (c_var 0) a_nil)) (a_cons c_dnew (a_cons (c_lst a_nil) a_nil))) | exact s_parU3 rfl hN (a_cons (c_cal rfl (hF 7 _ _ _ rfl) hr rfl px (a_cons (c_var 0) a_nil)) (a_cons c_dnew (a_cons (c_lst a_nil) a_nil)))) ?_
  refine s_cons (s_for po rfl (i_rng1 rfl FX.m_range (c_sub rfl (c_var 0) c_int)) (g_one 1 hN) (s_cons (s_if (t_cmp (o_notin rfl hu5) (c_var 1) (c_var 3) (by with_unfolding_all rfl)) (s_cons (s_dput hu4 (c_var 1))
      (s_cons (by first | exact s_par rfl hN (a_cons (c_lst (a_cons (c_var 1) a_nil)) (a_cons c_int a_nil)) | exact s_parU rfl hN (a_cons (c_lst (a_cons (c_var 1) a_nil)) (a_cons c_int a_nil)))
      (s_cons (s_whl po (t_cmp (o_lt hu0) (c_var 6) (c_bi (b_len rfl) rfl FX.m_len rfl (a_cons (c_var 5) a_nil)) (by with_unfolding_all rfl)) (s_cons (by first | exact s_asg hN (c_comp (own := [("other", 8)]) rfl hN (i_seq rfl (c_sub rfl (c_var 2) (c_sub rfl (c_var 5) (c_var 6)))) (show BlkOk ["web", "place", "beside_of", "met", "found", "some", "at", "more", "other"] (defScope (top 23)) _ _ from blkOk_by (by decide +kernel)) rfl (fun _ _ _ _ _ => (g_one 8 hN)) (fun _ _ _ _ _ => (x_one (t_cmp (o_notin rfl hu5) (c_var 8) (c_var 3) (by with_unfolding_all rfl)))) (fun _ _ _ _ _ => (c_var 8))) | exact s_asgLc (own := [("other", 8)]) rfl hN (i_seq rfl (c_sub rfl (c_var 2) (c_sub rfl (c_var 5) (c_var 6)))) (show BlkOk ["web", "place", "beside_of", "met", "found", "some", "at", "more", "other"] (defScope (top 23)) _ _ from blkOk_by (by decide +kernel)) rfl (fun _ _ _ _ _ => (g_one 8 hN)) (fun _ _ _ _ _ => (x_one (t_cmp (o_notin rfl hu5) (c_var 8) (c_var 3) (by with_unfolding_all rfl)))) (fun _ _ _ _ _ => (c_var 8)))
      (s_cons (s_for po rfl (i_seq rfl (c_var 7)) (g_one 8 hN) (s_cons (s_dput hu4 (c_var 8))
      s_nil))
      (s_cons (by first | exact s_par rfl hN (a_cons (c_op o_add (c_var 5) (c_var 7)) (a_cons (c_op o_add (c_var 6) c_int) a_nil)) | exact s_parU rfl hN (a_cons (c_op o_add (c_var 5) (c_var 7)) (a_cons (c_op o_add (c_var 6) c_int) a_nil)))
      s_nil))))
      (s_cons (s_mut PySem.F.slot_list_append PySem.F.type_list_append mt_append mo_append rfl (p_nil 4) (a_cons (c_bi (b_sorted rfl hu4) rfl FX.m_sorted rfl (a_cons (c_var 5) a_nil)) a_nil))
      s_nil)))) s_nil)
      s_nil)) ?_
  refine s_cons (s_ret (r_var 4)) ?_
  exact s_nil
theorem sc10 : FnScope ["web"] ["web"] (defScope (top 24)) := ⟨rfl, rfl, rfl, by decide +kernel, rfl, by decide +kernel, by decide +kernel⟩
theorem b10 (FX : Fx K mg) (hF : AllF P w K mg base T k) (hM : AllM P w K mg base T k) (hI : AllI P w K mg base T) (hK : AllK P w K mg base T k) (hk2 : 2 ≤ k) {f : Addr} (cdv : Value) (A : Around) (outer : List Env) (s : Shared) (H : Hp) (E : XK) (hr : Room k (A.deeper (envOfC "pieces" (defScope (top 24)) s.heap.objs.size f cdv))) :
    PSs (cxOf (L2N.CX P w) P w K mg base ["web"] "pieces" (defScope (top 24)) f cdv A outer s H E) (defBody (top 24)) (rdSs (Wof K) E T fu_pieces.body) := by
  have hN : (["web"] : List Str).Nodup := sc10.nd
  have hu0 : (A.deeper (envOfC "pieces" (defScope (top 24)) s.heap.objs.size f cdv)).units < cLine := by have := hr.un; omega
  have hu4 : (A.deeper (envOfC "pieces" (defScope (top 24)) s.heap.objs.size f cdv)).units + 64 < cLine := by have := hr.un; omega
  have hu5 : (A.deeper (envOfC "pieces" (defScope (top 24)) s.heap.objs.size f cdv)).units + 65 < cLine := by have := hr.un; omega
  have tk : L2N.Takes (cxOf (L2N.CX P w) P w K mg base ["web"] "pieces" (defScope (top 24)) f cdv A outer s H E) (fun cls d _ H => E cls d H) := L2N.takes_of rfl rfl rfl rfl
  have px : Passes (L2N.CX P w) (cxOf (L2N.CX P w) P w K mg base ["web"] "pieces" (defScope (top 24)) f cdv A outer s H E) E := L2N.passes_call tk fun _ _ _ _ h => h
  have po : PassesOwn (model P w) (cxOf (L2N.CX P w) P w K mg base ["web"] "pieces" (defScope (top 24)) f cdv A outer s H E).A (cxOf (L2N.CX P w) P w K mg base ["web"] "pieces" (defScope (top 24)) f cdv A outer s H E).env (cxOf (L2N.CX P w) P w K mg base ["web"] "pieces" (defScope (top 24)) f cdv A outer s H E).xe := passes_of rfl
  refine s_cons (s_exp (c_cal rfl (hF 4 _ _ _ rfl) hr rfl px (a_cons (c_var 0) a_nil))) ?_
  refine s_cons (s_ret (r_of (c_cal rfl (hF 9 _ _ _ rfl) hr rfl px (a_cons (c_var 0) a_nil)))) ?_
  exact s_nil
theorem sc11 : FnScope ["web", "some", "ties", "one", "other"] ["web", "some"] (defScope (top 25)) := ⟨rfl, rfl, rfl, by decide +kernel, rfl, by decide +kernel, by decide +kernel⟩
theorem b11 (FX : Fx K mg) (hF : AllF P w K mg base T k) (hM : AllM P w K mg base T k) (hI : AllI P w K mg base T) (hK : AllK P w K mg base T k) (hk2 : 2 ≤ k) {f : Addr} (cdv : Value) (A : Around) (outer : List Env) (s : Shared) (H : Hp) (E : XK) (hr : Room k (A.deeper (envOfC "cut_of" (defScope (top 25)) s.heap.objs.size f cdv))) :
    PSs (cxOf (L2N.CX P w) P w K mg base ["web", "some", "ties", "one", "other"] "cut_of" (defScope (top 25)) f cdv A outer s H E) (defBody (top 25)) (rdSs (Wof K) E T fu_cut_of.body) := by
  have hN : (["web", "some", "ties", "one", "other"] : List Str).Nodup := sc11.nd
  have hu0 : (A.deeper (envOfC "cut_of" (defScope (top 25)) s.heap.objs.size f cdv)).units < cLine := by have := hr.un; omega
  have hu4 : (A.deeper (envOfC "cut_of" (defScope (top 25)) s.heap.objs.size f cdv)).units + 64 < cLine := by have := hr.un; omega
  have hu5 : (A.deeper (envOfC "cut_of" (defScope (top 25)) s.heap.objs.size f cdv)).units + 65 < cLine := by have := hr.un; omega
  have tk : L2N.Takes (cxOf (L2N.CX P w) P w K mg base ["web", "some", "ties", "one", "other"] "cut_of" (defScope (top 25)) f cdv A outer s H E) (fun cls d _ H => E cls d H) := L2N.takes_of rfl rfl rfl rfl
  have px : Passes (L2N.CX P w) (cxOf (L2N.CX P w) P w K mg base ["web", "some", "ties", "one", "other"] "cut_of" (defScope (top 25)) f cdv A outer s H E) E := L2N.passes_call tk fun _ _ _ _ h => h
  have po : PassesOwn (model P w) (cxOf (L2N.CX P w) P w K mg base ["web", "some", "ties", "one", "other"] "cut_of" (defScope (top 25)) f cdv A outer s H E).A (cxOf (L2N.CX P w) P w K mg base ["web", "some", "ties", "one", "other"] "cut_of" (defScope (top 25)) f cdv A outer s H E).env (cxOf (L2N.CX P w) P w K mg base ["web", "some", "ties", "one", "other"] "cut_of" (defScope (top 25)) f cdv A outer s H E).xe := passes_of rfl
  refine s_cons (by first | exact s_asg hN (c_comp (own := [("one", 3), ("other", 4)]) rfl hN (i_seq rfl (c_sub rfl (c_var 0) c_int)) (show BlkOk ["web", "some", "ties", "one", "other"] (defScope (top 25)) _ _ from blkOk_by (by decide +kernel)) rfl (fun _ _ _ _ _ => (g_two 3 4 rfl hN)) (fun _ _ _ _ _ => (x_one (L2.PW.pt (t_and (t_cmp (o_in rfl hu5) (c_var 3) (c_var 1) (by with_unfolding_all rfl)) (t_and1 (t_cmp (o_in rfl hu5) (c_var 4) (c_var 1) (by with_unfolding_all rfl))))))) (fun _ _ _ _ _ => (c_tup (a_cons (c_mix rfl hu5 (c_var 1) (a_cons (c_var 3) a_nil)) (a_cons (c_mix rfl hu5 (c_var 1) (a_cons (c_var 4) a_nil)) a_nil))))) | exact s_asgLc (own := [("one", 3), ("other", 4)]) rfl hN (i_seq rfl (c_sub rfl (c_var 0) c_int)) (show BlkOk ["web", "some", "ties", "one", "other"] (defScope (top 25)) _ _ from blkOk_by (by decide +kernel)) rfl (fun _ _ _ _ _ => (g_two 3 4 rfl hN)) (fun _ _ _ _ _ => (x_one (L2.PW.pt (t_and (t_cmp (o_in rfl hu5) (c_var 3) (c_var 1) (by with_unfolding_all rfl)) (t_and1 (t_cmp (o_in rfl hu5) (c_var 4) (c_var 1) (by with_unfolding_all rfl))))))) (fun _ _ _ _ _ => (c_tup (a_cons (c_mix rfl hu5 (c_var 1) (a_cons (c_var 3) a_nil)) (a_cons (c_mix rfl hu5 (c_var 1) (a_cons (c_var 4) a_nil)) a_nil))))) ?_
  refine s_cons (s_ret (r_tup (ra_cons (r_of (c_bi (b_len rfl) rfl FX.m_len rfl (a_cons (c_var 1) a_nil))) (ra_cons (r_var 2) ra_nil)))) ?_
  exact s_nil
theorem sc12 : FnScope ["web", "thing", "one", "other", "place"] ["web", "thing"] (defScope (top 26)) := ⟨rfl, rfl, rfl, by decide +kernel, rfl, by decide +kernel, by decide +kernel⟩
theorem b12 (FX : Fx K mg) (hF : AllF P w K mg base T k) (hM : AllM P w K mg base T k) (hI : AllI P w K mg base T) (hK : AllK P w K mg base T k) (hk2 : 2 ≤ k) {f : Addr} (cdv : Value) (A : Around) (outer : List Env) (s : Shared) (H : Hp) (E : XK) (hr : Room k (A.deeper (envOfC "are_places" (defScope (top 26)) s.heap.objs.size f cdv))) :
    PSs (cxOf (L2N.CX P w) P w K mg base ["web", "thing", "one", "other", "place"] "are_places" (defScope (top 26)) f cdv A outer s H E) (defBody (top 26)) (rdSs (Wof K) E T fu_are_places.body) := by
  have hN : (["web", "thing", "one", "other", "place"] : List Str).Nodup := sc12.nd
  have hu0 : (A.deeper (envOfC "are_places" (defScope (top 26)) s.heap.objs.size f cdv)).units < cLine := by have := hr.un; omega
  have hu4 : (A.deeper (envOfC "are_places" (defScope (top 26)) s.heap.objs.size f cdv)).units + 64 < cLine := by have := hr.un; omega
  have hu5 : (A.deeper (envOfC "are_places" (defScope (top 26)) s.heap.objs.size f cdv)).units + 65 < cLine := by have := hr.un; omega
  have tk : L2N.Takes (cxOf (L2N.CX P w) P w K mg base ["web", "thing", "one", "other", "place"] "are_places" (defScope (top 26)) f cdv A outer s H E) (fun cls d _ H => E cls d H) := L2N.takes_of rfl rfl rfl rfl
  have px : Passes (L2N.CX P w) (cxOf (L2N.CX P w) P w K mg base ["web", "thing", "one", "other", "place"] "are_places" (defScope (top 26)) f cdv A outer s H E) E := L2N.passes_call tk fun _ _ _ _ h => h
  have po : PassesOwn (model P w) (cxOf (L2N.CX P w) P w K mg base ["web", "thing", "one", "other", "place"] "are_places" (defScope (top 26)) f cdv A outer s H E).A (cxOf (L2N.CX P w) P w K mg base ["web", "thing", "one", "other", "place"] "are_places" (defScope (top 26)) f cdv A outer s H E).env (cxOf (L2N.CX P w) P w K mg base ["web", "thing", "one", "other", "place"] "are_places" (defScope (top 26)) f cdv A outer s H E).xe := passes_of rfl
  refine s_cons (s_if (L2.PW.pt (t_or (t_not (t_val (c_isi rfl rfl rfl FX.m_isinstance rfl FX.m_list rfl (c_var 1)))) (t_or1 (t_not (t_val (c_bi (b_all rfl rfl) rfl FX.m_all rfl (a_cons (c_comp (own := [("place", 4)]) rfl hN (i_seq rfl (c_var 1)) (show BlkOk ["web", "thing", "one", "other", "place"] (defScope (top 26)) _ _ from blkOk_by (by decide +kernel)) rfl (fun _ _ _ _ _ => (g_one 4 hN)) (fun _ _ _ _ _ => x_nil) (fun _ _ _ _ _ => (c_cal rfl (hF 1 _ _ _ rfl) hr rfl passN (a_cons (c_var 4) (a_cons (c_sub rfl (c_var 0) c_int) a_nil))))) a_nil))))))) (s_cons (s_ret (r_of c_bl))
      s_nil) s_nil) ?_
  refine s_cons (s_ret (r_of (c_bi (b_all rfl rfl) rfl FX.m_all rfl (a_cons (c_comp (own := [("one", 2), ("other", 3)]) rfl hN (i_zip rfl FX.m_zip (c_var 1) (c_slc rfl (c_var 1) (o_so c_int) o_no)) (show BlkOk ["web", "thing", "one", "other", "place"] (defScope (top 26)) _ _ from blkOk_by (by decide +kernel)) rfl (fun _ _ _ _ _ => (g_two 2 3 rfl hN)) (fun _ _ _ _ _ => x_nil) (fun _ _ _ _ _ => (c_cmp (o_lt hu0) (c_var 2) (c_var 3) (by with_unfolding_all rfl)))) a_nil)))) ?_
  exact s_nil
theorem sc13 : FnScope ["web", "some"] ["web", "some"] (defScope (top 27)) := ⟨rfl, rfl, rfl, by decide +kernel, rfl, by decide +kernel, by decide +kernel⟩
theorem b13 (FX : Fx K mg) (hF : AllF P w K mg base T k) (hM : AllM P w K mg base T k) (hI : AllI P w K mg base T) (hK : AllK P w K mg base T k) (hk2 : 2 ≤ k) {f : Addr} (cdv : Value) (A : Around) (outer : List Env) (s : Shared) (H : Hp) (E : XK) (hr : Room k (A.deeper (envOfC "cut_down" (defScope (top 27)) s.heap.objs.size f cdv))) :
    PSs (cxOf (L2N.CX P w) P w K mg base ["web", "some"] "cut_down" (defScope (top 27)) f cdv A outer s H E) (defBody (top 27)) (rdSs (Wof K) E T fu_cut_down.body) := by
  have hN : (["web", "some"] : List Str).Nodup := sc13.nd
  have hu0 : (A.deeper (envOfC "cut_down" (defScope (top 27)) s.heap.objs.size f cdv)).units < cLine := by have := hr.un; omega
  have hu4 : (A.deeper (envOfC "cut_down" (defScope (top 27)) s.heap.objs.size f cdv)).units + 64 < cLine := by have := hr.un; omega
  have hu5 : (A.deeper (envOfC "cut_down" (defScope (top 27)) s.heap.objs.size f cdv)).units + 65 < cLine := by have := hr.un; omega
  have tk : L2N.Takes (cxOf (L2N.CX P w) P w K mg base ["web", "some"] "cut_down" (defScope (top 27)) f cdv A outer s H E) (fun cls d _ H => E cls d H) := L2N.takes_of rfl rfl rfl rfl
  have px : Passes (L2N.CX P w) (cxOf (L2N.CX P w) P w K mg base ["web", "some"] "cut_down" (defScope (top 27)) f cdv A outer s H E) E := L2N.passes_call tk fun _ _ _ _ h => h
  have po : PassesOwn (model P w) (cxOf (L2N.CX P w) P w K mg base ["web", "some"] "cut_down" (defScope (top 27)) f cdv A outer s H E).A (cxOf (L2N.CX P w) P w K mg base ["web", "some"] "cut_down" (defScope (top 27)) f cdv A outer s H E).env (cxOf (L2N.CX P w) P w K mg base ["web", "some"] "cut_down" (defScope (top 27)) f cdv A outer s H E).xe := passes_of rfl
  refine s_cons (s_exp (c_cal rfl (hF 4 _ _ _ rfl) hr rfl px (a_cons (c_var 0) a_nil))) ?_
  refine s_cons (s_if (t_not (t_val (c_cal rfl (hF 12 _ _ _ rfl) hr rfl px (a_cons (c_var 0) (a_cons (c_var 1) a_nil))))) (s_cons (s_rai rfl rfl tk FX.e2_1 FX.c_2 FX.e2_2 FX.e2_3 FX.e2_4 rfl)
      s_nil) s_nil) ?_
  refine s_cons (s_ret (r_of (c_cal rfl (hF 11 _ _ _ rfl) hr rfl px (a_cons (c_var 0) (a_cons (c_var 1) a_nil))))) ?_
  exact s_nil
theorem sc14 : FnScope ["order", "many", "one"] ["order", "many"] (defScope (top 28)) := ⟨rfl, rfl, rfl, by decide +kernel, rfl, by decide +kernel, by decide +kernel⟩
theorem b14 (FX : Fx K mg) (hF : AllF P w K mg base T k) (hM : AllM P w K mg base T k) (hI : AllI P w K mg base T) (hK : AllK P w K mg base T k) (hk2 : 2 ≤ k) {f : Addr} (cdv : Value) (A : Around) (outer : List Env) (s : Shared) (H : Hp) (E : XK) (hr : Room k (A.deeper (envOfC "check_order" (defScope (top 28)) s.heap.objs.size f cdv))) :
    PSs (cxOf (L2N.CX P w) P w K mg base ["order", "many", "one"] "check_order" (defScope (top 28)) f cdv A outer s H E) (defBody (top 28)) (rdSs (Wof K) E T fu_check_order.body) := by
  have hN : (["order", "many", "one"] : List Str).Nodup := sc14.nd
  have hu0 : (A.deeper (envOfC "check_order" (defScope (top 28)) s.heap.objs.size f cdv)).units < cLine := by have := hr.un; omega
  have hu4 : (A.deeper (envOfC "check_order" (defScope (top 28)) s.heap.objs.size f cdv)).units + 64 < cLine := by have := hr.un; omega
  have hu5 : (A.deeper (envOfC "check_order" (defScope (top 28)) s.heap.objs.size f cdv)).units + 65 < cLine := by have := hr.un; omega
  have tk : L2N.Takes (cxOf (L2N.CX P w) P w K mg base ["order", "many", "one"] "check_order" (defScope (top 28)) f cdv A outer s H E) (fun cls d _ H => E cls d H) := L2N.takes_of rfl rfl rfl rfl
  have px : Passes (L2N.CX P w) (cxOf (L2N.CX P w) P w K mg base ["order", "many", "one"] "check_order" (defScope (top 28)) f cdv A outer s H E) E := L2N.passes_call tk fun _ _ _ _ h => h
  have po : PassesOwn (model P w) (cxOf (L2N.CX P w) P w K mg base ["order", "many", "one"] "check_order" (defScope (top 28)) f cdv A outer s H E).A (cxOf (L2N.CX P w) P w K mg base ["order", "many", "one"] "check_order" (defScope (top 28)) f cdv A outer s H E).env (cxOf (L2N.CX P w) P w K mg base ["order", "many", "one"] "check_order" (defScope (top 28)) f cdv A outer s H E).xe := passes_of rfl
  refine s_cons (s_if (L2.PW.pt (t_or (t_not (t_val (c_isi rfl rfl rfl FX.m_isinstance rfl FX.m_list rfl (c_var 0)))) (t_or1 (t_not (t_val (c_bi (b_all rfl rfl) rfl FX.m_all rfl (a_cons (c_comp (own := [("one", 2)]) rfl hN (i_seq rfl (c_var 0)) (show BlkOk ["order", "many", "one"] (defScope (top 28)) _ _ from blkOk_by (by decide +kernel)) rfl (fun _ _ _ _ _ => (g_one 2 hN)) (fun _ _ _ _ _ => x_nil) (fun _ _ _ _ _ => (c_cal rfl (hF 0 _ _ _ rfl) hr rfl passN (a_cons (c_var 2) a_nil)))) a_nil))))))) (s_cons (s_rai rfl rfl tk FX.e3_1 FX.c_3 FX.e3_2 FX.e3_3 FX.e3_4 rfl)
      s_nil) s_nil) ?_
  refine s_cons (s_if (t_cmp (o_ne rfl hu4) (c_bi (b_sorted rfl hu4) rfl FX.m_sorted rfl (a_cons (c_var 0) a_nil)) (c_lrng1 rfl rfl FX.m_list rfl FX.m_range (c_var 1)) (by with_unfolding_all rfl)) (s_cons (s_rai rfl rfl tk FX.e3_1 FX.c_3 FX.e3_2 FX.e3_3 FX.e3_4 rfl)
      s_nil) s_nil) ?_
  exact s_nil
theorem sc15 : FnScope ["web", "order", "ties", "one", "other"] ["web", "order"] (defScope (top 29)) := ⟨rfl, rfl, rfl, by decide +kernel, rfl, by decide +kernel, by decide +kernel⟩
theorem b15 (FX : Fx K mg) (hF : AllF P w K mg base T k) (hM : AllM P w K mg base T k) (hI : AllI P w K mg base T) (hK : AllK P w K mg base T k) (hk2 : 2 ≤ k) {f : Addr} (cdv : Value) (A : Around) (outer : List Env) (s : Shared) (H : Hp) (E : XK) (hr : Room k (A.deeper (envOfC "renamed_by" (defScope (top 29)) s.heap.objs.size f cdv))) :
    PSs (cxOf (L2N.CX P w) P w K mg base ["web", "order", "ties", "one", "other"] "renamed_by" (defScope (top 29)) f cdv A outer s H E) (defBody (top 29)) (rdSs (Wof K) E T fu_renamed_by.body) := by
  have hN : (["web", "order", "ties", "one", "other"] : List Str).Nodup := sc15.nd
  have hu0 : (A.deeper (envOfC "renamed_by" (defScope (top 29)) s.heap.objs.size f cdv)).units < cLine := by have := hr.un; omega
  have hu4 : (A.deeper (envOfC "renamed_by" (defScope (top 29)) s.heap.objs.size f cdv)).units + 64 < cLine := by have := hr.un; omega
  have hu5 : (A.deeper (envOfC "renamed_by" (defScope (top 29)) s.heap.objs.size f cdv)).units + 65 < cLine := by have := hr.un; omega
  have tk : L2N.Takes (cxOf (L2N.CX P w) P w K mg base ["web", "order", "ties", "one", "other"] "renamed_by" (defScope (top 29)) f cdv A outer s H E) (fun cls d _ H => E cls d H) := L2N.takes_of rfl rfl rfl rfl
  have px : Passes (L2N.CX P w) (cxOf (L2N.CX P w) P w K mg base ["web", "order", "ties", "one", "other"] "renamed_by" (defScope (top 29)) f cdv A outer s H E) E := L2N.passes_call tk fun _ _ _ _ h => h
  have po : PassesOwn (model P w) (cxOf (L2N.CX P w) P w K mg base ["web", "order", "ties", "one", "other"] "renamed_by" (defScope (top 29)) f cdv A outer s H E).A (cxOf (L2N.CX P w) P w K mg base ["web", "order", "ties", "one", "other"] "renamed_by" (defScope (top 29)) f cdv A outer s H E).env (cxOf (L2N.CX P w) P w K mg base ["web", "order", "ties", "one", "other"] "renamed_by" (defScope (top 29)) f cdv A outer s H E).xe := passes_of rfl
  refine s_cons (s_asg hN (c_lst a_nil)) ?_
  refine s_cons (s_for po rfl (i_seq rfl (c_sub rfl (c_var 0) c_int)) (g_two 3 4 rfl hN) (s_cons (s_mut PySem.F.slot_list_append PySem.F.type_list_append mt_append mo_append rfl (p_nil 2) (a_cons (c_tup (a_cons (c_bi (b_min rfl rfl) rfl FX.m_min rfl (a_cons (c_mix rfl hu5 (c_var 1) (a_cons (c_var 3) a_nil)) (a_cons (c_mix rfl hu5 (c_var 1) (a_cons (c_var 4) a_nil)) a_nil))) (a_cons (c_bi (b_max rfl rfl hu4) rfl FX.m_max rfl (a_cons (c_mix rfl hu5 (c_var 1) (a_cons (c_var 3) a_nil)) (a_cons (c_mix rfl hu5 (c_var 1) (a_cons (c_var 4) a_nil)) a_nil))) a_nil))) a_nil))
      s_nil)) ?_
  refine s_cons (s_ret (r_tup (ra_cons (r_of (c_sub rfl (c_var 0) c_int)) (ra_cons (r_of (c_bi (b_sorted rfl hu4) rfl FX.m_sorted rfl (a_cons (c_var 2) a_nil))) ra_nil)))) ?_
  exact s_nil
theorem sc16 : FnScope ["web", "order"] ["web", "order"] (defScope (top 30)) := ⟨rfl, rfl, rfl, by decide +kernel, rfl, by decide +kernel, by decide +kernel⟩
theorem b16 (FX : Fx K mg) (hF : AllF P w K mg base T k) (hM : AllM P w K mg base T k) (hI : AllI P w K mg base T) (hK : AllK P w K mg base T k) (hk2 : 2 ≤ k) {f : Addr} (cdv : Value) (A : Around) (outer : List Env) (s : Shared) (H : Hp) (E : XK) (hr : Room k (A.deeper (envOfC "renamed" (defScope (top 30)) s.heap.objs.size f cdv))) :
    PSs (cxOf (L2N.CX P w) P w K mg base ["web", "order"] "renamed" (defScope (top 30)) f cdv A outer s H E) (defBody (top 30)) (rdSs (Wof K) E T fu_renamed.body) := by
  have hN : (["web", "order"] : List Str).Nodup := sc16.nd
  have hu0 : (A.deeper (envOfC "renamed" (defScope (top 30)) s.heap.objs.size f cdv)).units < cLine := by have := hr.un; omega
  have hu4 : (A.deeper (envOfC "renamed" (defScope (top 30)) s.heap.objs.size f cdv)).units + 64 < cLine := by have := hr.un; omega
  have hu5 : (A.deeper (envOfC "renamed" (defScope (top 30)) s.heap.objs.size f cdv)).units + 65 < cLine := by have := hr.un; omega
  have tk : L2N.Takes (cxOf (L2N.CX P w) P w K mg base ["web", "order"] "renamed" (defScope (top 30)) f cdv A outer s H E) (fun cls d _ H => E cls d H) := L2N.takes_of rfl rfl rfl rfl
  have px : Passes (L2N.CX P w) (cxOf (L2N.CX P w) P w K mg base ["web", "order"] "renamed" (defScope (top 30)) f cdv A outer s H E) E := L2N.passes_call tk fun _ _ _ _ h => h
  have po : PassesOwn (model P w) (cxOf (L2N.CX P w) P w K mg base ["web", "order"] "renamed" (defScope (top 30)) f cdv A outer s H E).A (cxOf (L2N.CX P w) P w K mg base ["web", "order"] "renamed" (defScope (top 30)) f cdv A outer s H E).env (cxOf (L2N.CX P w) P w K mg base ["web", "order"] "renamed" (defScope (top 30)) f cdv A outer s H E).xe := passes_of rfl
  refine s_cons (s_exp (c_cal rfl (hF 4 _ _ _ rfl) hr rfl px (a_cons (c_var 0) a_nil))) ?_
  refine s_cons (s_exp (c_cal rfl (hF 14 _ _ _ rfl) hr rfl px (a_cons (c_var 1) (a_cons (c_sub rfl (c_var 0) c_int) a_nil)))) ?_
  refine s_cons (s_ret (r_of (c_cal rfl (hF 15 _ _ _ rfl) hr rfl px (a_cons (c_var 0) (a_cons (c_var 1) a_nil))))) ?_
  exact s_nil
theorem sc17 : FnScope ["one", "other", "first", "second"] ["one", "other"] (defScope (top 31)) := ⟨rfl, rfl, rfl, by decide +kernel, rfl, by decide +kernel, by decide +kernel⟩
theorem b17 (FX : Fx K mg) (hF : AllF P w K mg base T k) (hM : AllM P w K mg base T k) (hI : AllI P w K mg base T) (hK : AllK P w K mg base T k) (hk2 : 2 ≤ k) {f : Addr} (cdv : Value) (A : Around) (outer : List Env) (s : Shared) (H : Hp) (E : XK) (hr : Room k (A.deeper (envOfC "beside" (defScope (top 31)) s.heap.objs.size f cdv))) :
    PSs (cxOf (L2N.CX P w) P w K mg base ["one", "other", "first", "second"] "beside" (defScope (top 31)) f cdv A outer s H E) (defBody (top 31)) (rdSs (Wof K) E T fu_beside.body) := by
  have hN : (["one", "other", "first", "second"] : List Str).Nodup := sc17.nd
  have hu0 : (A.deeper (envOfC "beside" (defScope (top 31)) s.heap.objs.size f cdv)).units < cLine := by have := hr.un; omega
  have hu4 : (A.deeper (envOfC "beside" (defScope (top 31)) s.heap.objs.size f cdv)).units + 64 < cLine := by have := hr.un; omega
  have hu5 : (A.deeper (envOfC "beside" (defScope (top 31)) s.heap.objs.size f cdv)).units + 65 < cLine := by have := hr.un; omega
  have tk : L2N.Takes (cxOf (L2N.CX P w) P w K mg base ["one", "other", "first", "second"] "beside" (defScope (top 31)) f cdv A outer s H E) (fun cls d _ H => E cls d H) := L2N.takes_of rfl rfl rfl rfl
  have px : Passes (L2N.CX P w) (cxOf (L2N.CX P w) P w K mg base ["one", "other", "first", "second"] "beside" (defScope (top 31)) f cdv A outer s H E) E := L2N.passes_call tk fun _ _ _ _ h => h
  have po : PassesOwn (model P w) (cxOf (L2N.CX P w) P w K mg base ["one", "other", "first", "second"] "beside" (defScope (top 31)) f cdv A outer s H E).A (cxOf (L2N.CX P w) P w K mg base ["one", "other", "first", "second"] "beside" (defScope (top 31)) f cdv A outer s H E).env (cxOf (L2N.CX P w) P w K mg base ["one", "other", "first", "second"] "beside" (defScope (top 31)) f cdv A outer s H E).xe := passes_of rfl
  refine s_cons (s_exp (c_cal rfl (hF 4 _ _ _ rfl) hr rfl px (a_cons (c_var 0) a_nil))) ?_
  refine s_cons (s_exp (c_cal rfl (hF 4 _ _ _ rfl) hr rfl px (a_cons (c_var 1) a_nil))) ?_
  refine s_cons (s_if (L2.PW.pt (t_or (t_cmp o_gt (c_op o_add (c_sub rfl (c_var 0) c_int) (c_sub rfl (c_var 1) c_int)) (c_gint rfl FX.i_MOST_PLACES) (by with_unfolding_all rfl)) (t_or1 (t_cmp o_gt (c_op o_add (c_bi (b_len rfl) rfl FX.m_len rfl (a_cons (c_sub rfl (c_var 0) c_int) a_nil)) (c_bi (b_len rfl) rfl FX.m_len rfl (a_cons (c_sub rfl (c_var 1) c_int) a_nil))) (c_gint rfl FX.i_MOST_TIES) (by with_unfolding_all rfl))))) (s_cons (s_rai rfl rfl tk FX.e4_1 FX.c_4 FX.e4_2 FX.e4_3 FX.e4_4 rfl)
      s_nil) s_nil) ?_
  refine s_cons (s_ret (r_tup (ra_cons (r_of (c_op o_add (c_sub rfl (c_var 0) c_int) (c_sub rfl (c_var 1) c_int))) (ra_cons (r_of (c_op o_add (c_sub rfl (c_var 0) c_int) (c_comp (own := [("first", 2), ("second", 3)]) rfl hN (i_seq rfl (c_sub rfl (c_var 1) c_int)) (show BlkOk ["one", "other", "first", "second"] (defScope (top 31)) _ _ from blkOk_by (by decide +kernel)) rfl (fun _ _ _ _ _ => (g_two 2 3 rfl hN)) (fun _ _ _ _ _ => x_nil) (fun _ _ _ _ _ => (c_tup (a_cons (c_op o_add (c_var 2) (c_sub rfl (c_var 0) c_int)) (a_cons (c_op o_add (c_var 3) (c_sub rfl (c_var 0) c_int)) a_nil))))))) ra_nil)))) ?_
  exact s_nil
theorem sc18 : FnScope ["web", "groups", "group", "ties", "counts", "at", "place", "many", "other"] ["web", "groups"] (defScope (top 33)) := ⟨rfl, rfl, rfl, by decide +kernel, rfl, by decide +kernel, by decide +kernel⟩
theorem b18 (FX : Fx K mg) (hF : AllF P w K mg base T k) (hM : AllM P w K mg base T k) (hI : AllI P w K mg base T) (hK : AllK P w K mg base T k) (hk2 : 2 ≤ k) {f : Addr} (cdv : Value) (A : Around) (outer : List Env) (s : Shared) (H : Hp) (E : XK) (hr : Room k (A.deeper (envOfC "is_cover_of" (defScope (top 33)) s.heap.objs.size f cdv))) :
    PSs (cxOf (L2N.CX P w) P w K mg base ["web", "groups", "group", "ties", "counts", "at", "place", "many", "other"] "is_cover_of" (defScope (top 33)) f cdv A outer s H E) (defBody (top 33)) (rdSs (Wof K) E T fu_is_cover_of.body) := by
  have hN : (["web", "groups", "group", "ties", "counts", "at", "place", "many", "other"] : List Str).Nodup := sc18.nd
  have hu0 : (A.deeper (envOfC "is_cover_of" (defScope (top 33)) s.heap.objs.size f cdv)).units < cLine := by have := hr.un; omega
  have hu4 : (A.deeper (envOfC "is_cover_of" (defScope (top 33)) s.heap.objs.size f cdv)).units + 64 < cLine := by have := hr.un; omega
  have hu5 : (A.deeper (envOfC "is_cover_of" (defScope (top 33)) s.heap.objs.size f cdv)).units + 65 < cLine := by have := hr.un; omega
  have tk : L2N.Takes (cxOf (L2N.CX P w) P w K mg base ["web", "groups", "group", "ties", "counts", "at", "place", "many", "other"] "is_cover_of" (defScope (top 33)) f cdv A outer s H E) (fun cls d _ H => E cls d H) := L2N.takes_of rfl rfl rfl rfl
  have px : Passes (L2N.CX P w) (cxOf (L2N.CX P w) P w K mg base ["web", "groups", "group", "ties", "counts", "at", "place", "many", "other"] "is_cover_of" (defScope (top 33)) f cdv A outer s H E) E := L2N.passes_call tk fun _ _ _ _ h => h
  have po : PassesOwn (model P w) (cxOf (L2N.CX P w) P w K mg base ["web", "groups", "group", "ties", "counts", "at", "place", "many", "other"] "is_cover_of" (defScope (top 33)) f cdv A outer s H E).A (cxOf (L2N.CX P w) P w K mg base ["web", "groups", "group", "ties", "counts", "at", "place", "many", "other"] "is_cover_of" (defScope (top 33)) f cdv A outer s H E).env (cxOf (L2N.CX P w) P w K mg base ["web", "groups", "group", "ties", "counts", "at", "place", "many", "other"] "is_cover_of" (defScope (top 33)) f cdv A outer s H E).xe := passes_of rfl
  refine s_cons (by first | exact s_par rfl hN (a_cons (c_lst a_nil) (a_cons (c_op o_mul (c_lst (a_cons c_int a_nil)) (c_sub rfl (c_var 0) c_int)) a_nil)) | exact s_parU rfl hN (a_cons (c_lst a_nil) (a_cons (c_op o_mul (c_lst (a_cons c_int a_nil)) (c_sub rfl (c_var 0) c_int)) a_nil))) ?_
  refine s_cons (s_for po rfl (i_seq rfl (c_var 1)) (g_one 2 hN) (s_cons (s_if (L2.PW.pt (t_or (t_cmp (o_lt hu0) (c_bi (b_len rfl) rfl FX.m_len rfl (a_cons (c_var 2) a_nil)) c_int (by with_unfolding_all rfl)) (t_or1 (t_not (t_val (c_bi (b_all rfl rfl) rfl FX.m_all rfl (a_cons (c_comp (own := [("place", 6)]) rfl hN (i_seq rfl (c_var 2)) (show BlkOk ["web", "groups", "group", "ties", "counts", "at", "place", "many", "other"] (defScope (top 33)) _ _ from blkOk_by (by decide +kernel)) rfl (fun _ _ _ _ _ => (g_one 6 hN)) (fun _ _ _ _ _ => x_nil) (fun _ _ _ _ _ => (c_cal rfl (hF 1 _ _ _ rfl) hr rfl passN (a_cons (c_var 6) (a_cons (c_sub rfl (c_var 0) c_int) a_nil))))) a_nil))))))) (s_cons (s_ret (r_of c_bl))
      s_nil) s_nil)
      (s_cons (s_for po rfl (i_enu rfl FX.m_enumerate (c_var 2)) (g_two 5 6 rfl hN) (s_cons (s_augS (p_nil 4) (c_var 6) c_int)
      (s_cons (s_mut PySem.F.slot_list_extend PySem.F.type_list_extend mt_extend mo_extend rfl (p_nil 3) (a_cons (c_comp (own := [("other", 8)]) rfl hN (i_seq rfl (c_slc rfl (c_var 2) o_no (o_so (c_var 5)))) (show BlkOk ["web", "groups", "group", "ties", "counts", "at", "place", "many", "other"] (defScope (top 33)) _ _ from blkOk_by (by decide +kernel)) rfl (fun _ _ _ _ _ => (g_one 8 hN)) (fun _ _ _ _ _ => x_nil) (fun _ _ _ _ _ => (c_tup (a_cons (c_var 8) (a_cons (c_var 6) a_nil))))) a_nil))
      s_nil)))
      s_nil))) ?_
  refine s_cons (s_ret (r_of (c_and (c_cmp (o_eq rfl hu4) (c_bi (b_sorted rfl hu4) rfl FX.m_sorted rfl (a_cons (c_var 3) a_nil)) (c_sub rfl (c_var 0) c_int) (by with_unfolding_all rfl)) (c_and (c_bi (b_all rfl rfl) rfl FX.m_all rfl (a_cons (c_comp (own := [("many", 7)]) rfl hN (i_seq rfl (c_var 4)) (show BlkOk ["web", "groups", "group", "ties", "counts", "at", "place", "many", "other"] (defScope (top 33)) _ _ from blkOk_by (by decide +kernel)) rfl (fun _ _ _ _ _ => (g_one 7 hN)) (fun _ _ _ _ _ => x_nil) (fun _ _ _ _ _ => (c_cmp (o_lt hu0) (c_var 7) c_int (by with_unfolding_all rfl)))) a_nil)) (c_one (c_cmp (o_eq rfl hu4) (c_var 1) (c_bi (b_sorted rfl hu4) rfl FX.m_sorted rfl (a_cons (c_var 1) a_nil)) (by with_unfolding_all rfl))))))) ?_
  exact s_nil
theorem sc19 : FnScope ["web", "groups", "group", "place"] ["web", "groups"] (defScope (top 35)) := ⟨rfl, rfl, rfl, by decide +kernel, rfl, by decide +kernel, by decide +kernel⟩
theorem b19 (FX : Fx K mg) (hF : AllF P w K mg base T k) (hM : AllM P w K mg base T k) (hI : AllI P w K mg base T) (hK : AllK P w K mg base T k) (hk2 : 2 ≤ k) {f : Addr} (cdv : Value) (A : Around) (outer : List Env) (s : Shared) (H : Hp) (E : XK) (hr : Room k (A.deeper (envOfC "check_cover" (defScope (top 35)) s.heap.objs.size f cdv))) :
    PSs (cxOf (L2N.CX P w) P w K mg base ["web", "groups", "group", "place"] "check_cover" (defScope (top 35)) f cdv A outer s H E) (defBody (top 35)) (rdSs (Wof K) E T fu_check_cover.body) := by
  have hN : (["web", "groups", "group", "place"] : List Str).Nodup := sc19.nd
  have hu0 : (A.deeper (envOfC "check_cover" (defScope (top 35)) s.heap.objs.size f cdv)).units < cLine := by have := hr.un; omega
  have hu4 : (A.deeper (envOfC "check_cover" (defScope (top 35)) s.heap.objs.size f cdv)).units + 64 < cLine := by have := hr.un; omega
  have hu5 : (A.deeper (envOfC "check_cover" (defScope (top 35)) s.heap.objs.size f cdv)).units + 65 < cLine := by have := hr.un; omega
  have tk : L2N.Takes (cxOf (L2N.CX P w) P w K mg base ["web", "groups", "group", "place"] "check_cover" (defScope (top 35)) f cdv A outer s H E) (fun cls d _ H => E cls d H) := L2N.takes_of rfl rfl rfl rfl
  have px : Passes (L2N.CX P w) (cxOf (L2N.CX P w) P w K mg base ["web", "groups", "group", "place"] "check_cover" (defScope (top 35)) f cdv A outer s H E) E := L2N.passes_call tk fun _ _ _ _ h => h
  have po : PassesOwn (model P w) (cxOf (L2N.CX P w) P w K mg base ["web", "groups", "group", "place"] "check_cover" (defScope (top 35)) f cdv A outer s H E).A (cxOf (L2N.CX P w) P w K mg base ["web", "groups", "group", "place"] "check_cover" (defScope (top 35)) f cdv A outer s H E).env (cxOf (L2N.CX P w) P w K mg base ["web", "groups", "group", "place"] "check_cover" (defScope (top 35)) f cdv A outer s H E).xe := passes_of rfl
  refine s_cons (s_if (L2.PW.pt (t_or (t_not (t_val (c_isi rfl rfl rfl FX.m_isinstance rfl FX.m_list rfl (c_var 1)))) (t_or1 (t_not (t_val (c_bi (b_all rfl rfl) rfl FX.m_all rfl (a_cons (c_comp (own := [("group", 2)]) rfl hN (i_seq rfl (c_var 1)) (show BlkOk ["web", "groups", "group", "place"] (defScope (top 35)) _ _ from blkOk_by (by decide +kernel)) rfl (fun _ _ _ _ _ => (g_one 2 hN)) (fun _ _ _ _ _ => x_nil) (fun _ _ _ _ _ => (c_isi rfl rfl rfl FX.m_isinstance rfl FX.m_list rfl (c_var 2)))) a_nil))))))) (s_cons (s_rai rfl rfl tk FX.e8_1 FX.c_8 FX.e8_2 FX.e8_3 FX.e8_4 rfl)
      s_nil) s_nil) ?_
  refine s_cons (s_if (L2.PW.pt (t_or (t_not (t_val (c_bi (b_all rfl rfl) rfl FX.m_all rfl (a_cons (c_comp (own := [("group", 2)]) rfl hN (i_seq rfl (c_var 1)) (show BlkOk ["web", "groups", "group", "place"] (defScope (top 35)) _ _ from blkOk_by (by decide +kernel)) rfl (fun _ _ _ _ _ => (g_one 2 hN)) (fun _ _ _ _ _ => x_nil) (fun _ _ _ _ _ => (c_bi (b_all rfl rfl) rfl FX.m_all rfl (a_cons (c_comp (own := [("place", 3)]) rfl hN (i_seq rfl (c_var 2)) (blkOk_by (by rfl)) rfl (fun _ _ _ _ _ => (g_one 3 hN)) (fun _ _ _ _ _ => x_nil) (fun _ _ _ _ _ => (c_cal rfl (hF 0 _ _ _ rfl) hr rfl passN (a_cons (c_var 3) a_nil)))) a_nil)))) a_nil)))) (t_or1 (t_not (t_val (c_cal rfl (hF 18 _ _ _ rfl) hr rfl px (a_cons (c_var 0) (a_cons (c_var 1) a_nil)))))))) (s_cons (s_rai rfl rfl tk FX.e8_1 FX.c_8 FX.e8_2 FX.e8_3 FX.e8_4 rfl)
      s_nil) s_nil) ?_
  exact s_nil
theorem sc20 : FnScope ["web", "groups", "place", "found", "many", "ends", "at", "group"] ["web", "groups"] (defScope (top 36)) := ⟨rfl, rfl, rfl, by decide +kernel, rfl, by decide +kernel, by decide +kernel⟩
theorem b20 (FX : Fx K mg) (hF : AllF P w K mg base T k) (hM : AllM P w K mg base T k) (hI : AllI P w K mg base T) (hK : AllK P w K mg base T k) (hk2 : 2 ≤ k) {f : Addr} (cdv : Value) (A : Around) (outer : List Env) (s : Shared) (H : Hp) (E : XK) (hr : Room k (A.deeper (envOfC "ends_of" (defScope (top 36)) s.heap.objs.size f cdv))) :
    PSs (cxOf (L2N.CX P w) P w K mg base ["web", "groups", "place", "found", "many", "ends", "at", "group"] "ends_of" (defScope (top 36)) f cdv A outer s H E) (defBody (top 36)) (rdSs (Wof K) E T fu_ends_of.body) := by
  have hN : (["web", "groups", "place", "found", "many", "ends", "at", "group"] : List Str).Nodup := sc20.nd
  have hu0 : (A.deeper (envOfC "ends_of" (defScope (top 36)) s.heap.objs.size f cdv)).units < cLine := by have := hr.un; omega
  have hu4 : (A.deeper (envOfC "ends_of" (defScope (top 36)) s.heap.objs.size f cdv)).units + 64 < cLine := by have := hr.un; omega
  have hu5 : (A.deeper (envOfC "ends_of" (defScope (top 36)) s.heap.objs.size f cdv)).units + 65 < cLine := by have := hr.un; omega
  have tk : L2N.Takes (cxOf (L2N.CX P w) P w K mg base ["web", "groups", "place", "found", "many", "ends", "at", "group"] "ends_of" (defScope (top 36)) f cdv A outer s H E) (fun cls d _ H => E cls d H) := L2N.takes_of rfl rfl rfl rfl
  have px : Passes (L2N.CX P w) (cxOf (L2N.CX P w) P w K mg base ["web", "groups", "place", "found", "many", "ends", "at", "group"] "ends_of" (defScope (top 36)) f cdv A outer s H E) E := L2N.passes_call tk fun _ _ _ _ h => h
  have po : PassesOwn (model P w) (cxOf (L2N.CX P w) P w K mg base ["web", "groups", "place", "found", "many", "ends", "at", "group"] "ends_of" (defScope (top 36)) f cdv A outer s H E).A (cxOf (L2N.CX P w) P w K mg base ["web", "groups", "place", "found", "many", "ends", "at", "group"] "ends_of" (defScope (top 36)) f cdv A outer s H E).env (cxOf (L2N.CX P w) P w K mg base ["web", "groups", "place", "found", "many", "ends", "at", "group"] "ends_of" (defScope (top 36)) f cdv A outer s H E).xe := passes_of rfl
  refine s_cons (by first | exact s_par rfl hN (a_cons (c_lst a_nil) (a_cons (c_bi (b_len rfl) rfl FX.m_len rfl (a_cons (c_var 1) a_nil)) a_nil)) | exact s_parU rfl hN (a_cons (c_lst a_nil) (a_cons (c_bi (b_len rfl) rfl FX.m_len rfl (a_cons (c_var 1) a_nil)) a_nil))) ?_
  refine s_cons (s_for po rfl (i_rng1 rfl FX.m_range (c_sub rfl (c_var 0) c_int)) (g_one 2 hN) (s_cons (by first | exact s_asg hN (c_comp (own := [("at", 6), ("group", 7)]) rfl hN (i_enu rfl FX.m_enumerate (c_var 1)) (show BlkOk ["web", "groups", "place", "found", "many", "ends", "at", "group"] (defScope (top 36)) _ _ from blkOk_by (by decide +kernel)) rfl (fun _ _ _ _ _ => (g_two 6 7 rfl hN)) (fun _ _ _ _ _ => (x_one (t_cmp (o_in rfl hu5) (c_var 2) (c_var 7) (by with_unfolding_all rfl)))) (fun _ _ _ _ _ => (c_var 6))) | exact s_asgLc (own := [("at", 6), ("group", 7)]) rfl hN (i_enu rfl FX.m_enumerate (c_var 1)) (show BlkOk ["web", "groups", "place", "found", "many", "ends", "at", "group"] (defScope (top 36)) _ _ from blkOk_by (by decide +kernel)) rfl (fun _ _ _ _ _ => (g_two 6 7 rfl hN)) (fun _ _ _ _ _ => (x_one (t_cmp (o_in rfl hu5) (c_var 2) (c_var 7) (by with_unfolding_all rfl)))) (fun _ _ _ _ _ => (c_var 6)))
      (s_cons (s_whl po (t_cmp (o_lt hu0) (c_bi (b_len rfl) rfl FX.m_len rfl (a_cons (c_var 5) a_nil)) c_int (by with_unfolding_all rfl)) (s_cons (s_mut PySem.F.slot_list_append PySem.F.type_list_append mt_append mo_append rfl (p_nil 5) (a_cons (c_var 4) a_nil))
      (s_cons (s_aug hN c_int)
      s_nil)))
      (s_cons (s_mut PySem.F.slot_list_append PySem.F.type_list_append mt_append mo_append rfl (p_nil 3) (a_cons (c_tup (a_cons (c_sub rfl (c_var 5) c_int) (a_cons (c_sub rfl (c_var 5) c_int) a_nil))) a_nil))
      s_nil)))) ?_
  refine s_cons (s_ret (r_tup (ra_cons (r_var 3) (ra_cons (r_var 4) ra_nil)))) ?_
  exact s_nil
theorem sc21 : FnScope ["web", "groups", "ties", "ends", "many", "tie"] ["web", "groups"] (defScope (top 37)) := ⟨rfl, rfl, rfl, by decide +kernel, rfl, by decide +kernel, by decide +kernel⟩
theorem b21 (FX : Fx K mg) (hF : AllF P w K mg base T k) (hM : AllM P w K mg base T k) (hI : AllI P w K mg base T) (hK : AllK P w K mg base T k) (hk2 : 2 ≤ k) {f : Addr} (cdv : Value) (A : Around) (outer : List Env) (s : Shared) (H : Hp) (E : XK) (hr : Room k (A.deeper (envOfC "root_by" (defScope (top 37)) s.heap.objs.size f cdv))) :
    PSs (cxOf (L2N.CX P w) P w K mg base ["web", "groups", "ties", "ends", "many", "tie"] "root_by" (defScope (top 37)) f cdv A outer s H E) (defBody (top 37)) (rdSs (Wof K) E T fu_root_by.body) := by
  have hN : (["web", "groups", "ties", "ends", "many", "tie"] : List Str).Nodup := sc21.nd
  have hu0 : (A.deeper (envOfC "root_by" (defScope (top 37)) s.heap.objs.size f cdv)).units < cLine := by have := hr.un; omega
  have hu4 : (A.deeper (envOfC "root_by" (defScope (top 37)) s.heap.objs.size f cdv)).units + 64 < cLine := by have := hr.un; omega
  have hu5 : (A.deeper (envOfC "root_by" (defScope (top 37)) s.heap.objs.size f cdv)).units + 65 < cLine := by have := hr.un; omega
  have tk : L2N.Takes (cxOf (L2N.CX P w) P w K mg base ["web", "groups", "ties", "ends", "many", "tie"] "root_by" (defScope (top 37)) f cdv A outer s H E) (fun cls d _ H => E cls d H) := L2N.takes_of rfl rfl rfl rfl
  have px : Passes (L2N.CX P w) (cxOf (L2N.CX P w) P w K mg base ["web", "groups", "ties", "ends", "many", "tie"] "root_by" (defScope (top 37)) f cdv A outer s H E) E := L2N.passes_call tk fun _ _ _ _ h => h
  have po : PassesOwn (model P w) (cxOf (L2N.CX P w) P w K mg base ["web", "groups", "ties", "ends", "many", "tie"] "root_by" (defScope (top 37)) f cdv A outer s H E).A (cxOf (L2N.CX P w) P w K mg base ["web", "groups", "ties", "ends", "many", "tie"] "root_by" (defScope (top 37)) f cdv A outer s H E).env (cxOf (L2N.CX P w) P w K mg base ["web", "groups", "ties", "ends", "many", "tie"] "root_by" (defScope (top 37)) f cdv A outer s H E).xe := passes_of rfl
  refine s_cons (s_unp rfl hN (c_cal rfl (hF 20 _ _ _ rfl) hr rfl px (a_cons (c_var 0) (a_cons (c_var 1) a_nil)))) ?_
  refine s_cons (s_asg hN (c_bi (b_sorted rfl hu4) rfl FX.m_sorted rfl (a_cons (c_var 3) a_nil))) ?_
  refine s_cons (s_ret (r_tup (ra_cons (r_tup (ra_cons (r_var 4) (ra_cons (r_var 2) ra_nil))) (ra_cons (r_of (c_comp (own := [("tie", 5)]) rfl hN (i_seq rfl (c_var 3)) (show BlkOk ["web", "groups", "ties", "ends", "many", "tie"] (defScope (top 37)) _ _ from blkOk_by (by decide +kernel)) rfl (fun _ _ _ _ _ => (g_one 5 hN)) (fun _ _ _ _ _ => x_nil) (fun _ _ _ _ _ => (c_mix rfl hu5 (c_var 2) (a_cons (c_var 5) a_nil))))) ra_nil)))) ?_
  exact s_nil
theorem sc22 : FnScope ["web", "groups"] ["web", "groups"] (defScope (top 38)) := ⟨rfl, rfl, rfl, by decide +kernel, rfl, by decide +kernel, by decide +kernel⟩
theorem b22 (FX : Fx K mg) (hF : AllF P w K mg base T k) (hM : AllM P w K mg base T k) (hI : AllI P w K mg base T) (hK : AllK P w K mg base T k) (hk2 : 2 ≤ k) {f : Addr} (cdv : Value) (A : Around) (outer : List Env) (s : Shared) (H : Hp) (E : XK) (hr : Room k (A.deeper (envOfC "root_of" (defScope (top 38)) s.heap.objs.size f cdv))) :
    PSs (cxOf (L2N.CX P w) P w K mg base ["web", "groups"] "root_of" (defScope (top 38)) f cdv A outer s H E) (defBody (top 38)) (rdSs (Wof K) E T fu_root_of.body) := by
  have hN : (["web", "groups"] : List Str).Nodup := sc22.nd
  have hu0 : (A.deeper (envOfC "root_of" (defScope (top 38)) s.heap.objs.size f cdv)).units < cLine := by have := hr.un; omega
  have hu4 : (A.deeper (envOfC "root_of" (defScope (top 38)) s.heap.objs.size f cdv)).units + 64 < cLine := by have := hr.un; omega
  have hu5 : (A.deeper (envOfC "root_of" (defScope (top 38)) s.heap.objs.size f cdv)).units + 65 < cLine := by have := hr.un; omega
  have tk : L2N.Takes (cxOf (L2N.CX P w) P w K mg base ["web", "groups"] "root_of" (defScope (top 38)) f cdv A outer s H E) (fun cls d _ H => E cls d H) := L2N.takes_of rfl rfl rfl rfl
  have px : Passes (L2N.CX P w) (cxOf (L2N.CX P w) P w K mg base ["web", "groups"] "root_of" (defScope (top 38)) f cdv A outer s H E) E := L2N.passes_call tk fun _ _ _ _ h => h
  have po : PassesOwn (model P w) (cxOf (L2N.CX P w) P w K mg base ["web", "groups"] "root_of" (defScope (top 38)) f cdv A outer s H E).A (cxOf (L2N.CX P w) P w K mg base ["web", "groups"] "root_of" (defScope (top 38)) f cdv A outer s H E).env (cxOf (L2N.CX P w) P w K mg base ["web", "groups"] "root_of" (defScope (top 38)) f cdv A outer s H E).xe := passes_of rfl
  refine s_cons (s_exp (c_cal rfl (hF 5 _ _ _ rfl) hr rfl px (a_cons (c_var 0) a_nil))) ?_
  refine s_cons (s_exp (c_cal rfl (hF 19 _ _ _ rfl) hr rfl px (a_cons (c_var 0) (a_cons (c_var 1) a_nil)))) ?_
  refine s_cons (s_ret (r_of (c_cal rfl (hF 21 _ _ _ rfl) hr rfl px (a_cons (c_var 0) (a_cons (c_var 1) a_nil))))) ?_
  exact s_nil
theorem sc23 : FnScope ["web", "found", "place", "group", "at", "tie"] ["web"] (defScope (top 39)) := ⟨rfl, rfl, rfl, by decide +kernel, rfl, by decide +kernel, by decide +kernel⟩
theorem b23 (FX : Fx K mg) (hF : AllF P w K mg base T k) (hM : AllM P w K mg base T k) (hI : AllI P w K mg base T) (hK : AllK P w K mg base T k) (hk2 : 2 ≤ k) {f : Addr} (cdv : Value) (A : Around) (outer : List Env) (s : Shared) (H : Hp) (E : XK) (hr : Room k (A.deeper (envOfC "groups_at" (defScope (top 39)) s.heap.objs.size f cdv))) :
    PSs (cxOf (L2N.CX P w) P w K mg base ["web", "found", "place", "group", "at", "tie"] "groups_at" (defScope (top 39)) f cdv A outer s H E) (defBody (top 39)) (rdSs (Wof K) E T fu_groups_at.body) := by
  have hN : (["web", "found", "place", "group", "at", "tie"] : List Str).Nodup := sc23.nd
  have hu0 : (A.deeper (envOfC "groups_at" (defScope (top 39)) s.heap.objs.size f cdv)).units < cLine := by have := hr.un; omega
  have hu4 : (A.deeper (envOfC "groups_at" (defScope (top 39)) s.heap.objs.size f cdv)).units + 64 < cLine := by have := hr.un; omega
  have hu5 : (A.deeper (envOfC "groups_at" (defScope (top 39)) s.heap.objs.size f cdv)).units + 65 < cLine := by have := hr.un; omega
  have tk : L2N.Takes (cxOf (L2N.CX P w) P w K mg base ["web", "found", "place", "group", "at", "tie"] "groups_at" (defScope (top 39)) f cdv A outer s H E) (fun cls d _ H => E cls d H) := L2N.takes_of rfl rfl rfl rfl
  have px : Passes (L2N.CX P w) (cxOf (L2N.CX P w) P w K mg base ["web", "found", "place", "group", "at", "tie"] "groups_at" (defScope (top 39)) f cdv A outer s H E) E := L2N.passes_call tk fun _ _ _ _ h => h
  have po : PassesOwn (model P w) (cxOf (L2N.CX P w) P w K mg base ["web", "found", "place", "group", "at", "tie"] "groups_at" (defScope (top 39)) f cdv A outer s H E).A (cxOf (L2N.CX P w) P w K mg base ["web", "found", "place", "group", "at", "tie"] "groups_at" (defScope (top 39)) f cdv A outer s H E).env (cxOf (L2N.CX P w) P w K mg base ["web", "found", "place", "group", "at", "tie"] "groups_at" (defScope (top 39)) f cdv A outer s H E).xe := passes_of rfl
  refine s_cons (s_exp (c_cal rfl (hF 4 _ _ _ rfl) hr rfl px (a_cons (c_var 0) a_nil))) ?_
  refine s_cons (by first | exact s_asg hN (c_comp (own := [("place", 2)]) rfl hN (i_rng1 rfl FX.m_range (c_sub rfl (c_var 0) c_int)) (show BlkOk ["web", "found", "place", "group", "at", "tie"] (defScope (top 39)) _ _ from blkOk_by (by decide +kernel)) rfl (fun _ _ _ _ _ => (g_one 2 hN)) (fun _ _ _ _ _ => x_nil) (fun _ _ _ _ _ => (c_comp (own := [("at", 4), ("tie", 5)]) rfl hN (i_enu rfl FX.m_enumerate (c_sub rfl (c_var 0) c_int)) (blkOk_by (by rfl)) rfl (fun _ _ _ _ _ => (g_two 4 5 rfl hN)) (fun _ _ _ _ _ => (x_one (t_cmp (o_in rfl hu5) (c_var 2) (c_var 5) (by with_unfolding_all rfl)))) (fun _ _ _ _ _ => (c_var 4))))) | exact s_asgLc (own := [("place", 2)]) rfl hN (i_rng1 rfl FX.m_range (c_sub rfl (c_var 0) c_int)) (show BlkOk ["web", "found", "place", "group", "at", "tie"] (defScope (top 39)) _ _ from blkOk_by (by decide +kernel)) rfl (fun _ _ _ _ _ => (g_one 2 hN)) (fun _ _ _ _ _ => x_nil) (fun _ _ _ _ _ => (c_comp (own := [("at", 4), ("tie", 5)]) rfl hN (i_enu rfl FX.m_enumerate (c_sub rfl (c_var 0) c_int)) (blkOk_by (by rfl)) rfl (fun _ _ _ _ _ => (g_two 4 5 rfl hN)) (fun _ _ _ _ _ => (x_one (t_cmp (o_in rfl hu5) (c_var 2) (c_var 5) (by with_unfolding_all rfl)))) (fun _ _ _ _ _ => (c_var 4))))) ?_
  refine s_cons (s_ret (r_flt (own := [("group", 3)]) rfl hN hu4 rfl FX.m_sorted (pv 1) (show BlkOk ["web", "found", "place", "group", "at", "tie"] (defScope (top 39)) _ _ from blkOk_by (by decide +kernel)) rfl (fun _ _ _ _ _ => (g_one 3 hN)) (fun _ _ _ _ _ => (x_one (t_cmp o_gt (c_bi (b_len rfl) rfl FX.m_len rfl (a_cons (c_var 3) a_nil)) c_int (by with_unfolding_all rfl)))) (fun _ _ _ _ _ => (pv 3)))) ?_
  exact s_nil
theorem sc24 : FnScope ["web", "row", "one"] ["web", "row"] (defScope (top 41)) := ⟨rfl, rfl, rfl, by decide +kernel, rfl, by decide +kernel, by decide +kernel⟩
theorem b24 (FX : Fx K mg) (hF : AllF P w K mg base T k) (hM : AllM P w K mg base T k) (hI : AllI P w K mg base T) (hK : AllK P w K mg base T k) (hk2 : 2 ≤ k) {f : Addr} (cdv : Value) (A : Around) (outer : List Env) (s : Shared) (H : Hp) (E : XK) (hr : Room k (A.deeper (envOfC "check_row" (defScope (top 41)) s.heap.objs.size f cdv))) :
    PSs (cxOf (L2N.CX P w) P w K mg base ["web", "row", "one"] "check_row" (defScope (top 41)) f cdv A outer s H E) (defBody (top 41)) (rdSs (Wof K) E T fu_check_row.body) := by
  have hN : (["web", "row", "one"] : List Str).Nodup := sc24.nd
  have hu0 : (A.deeper (envOfC "check_row" (defScope (top 41)) s.heap.objs.size f cdv)).units < cLine := by have := hr.un; omega
  have hu4 : (A.deeper (envOfC "check_row" (defScope (top 41)) s.heap.objs.size f cdv)).units + 64 < cLine := by have := hr.un; omega
  have hu5 : (A.deeper (envOfC "check_row" (defScope (top 41)) s.heap.objs.size f cdv)).units + 65 < cLine := by have := hr.un; omega
  have tk : L2N.Takes (cxOf (L2N.CX P w) P w K mg base ["web", "row", "one"] "check_row" (defScope (top 41)) f cdv A outer s H E) (fun cls d _ H => E cls d H) := L2N.takes_of rfl rfl rfl rfl
  have px : Passes (L2N.CX P w) (cxOf (L2N.CX P w) P w K mg base ["web", "row", "one"] "check_row" (defScope (top 41)) f cdv A outer s H E) E := L2N.passes_call tk fun _ _ _ _ h => h
  have po : PassesOwn (model P w) (cxOf (L2N.CX P w) P w K mg base ["web", "row", "one"] "check_row" (defScope (top 41)) f cdv A outer s H E).A (cxOf (L2N.CX P w) P w K mg base ["web", "row", "one"] "check_row" (defScope (top 41)) f cdv A outer s H E).env (cxOf (L2N.CX P w) P w K mg base ["web", "row", "one"] "check_row" (defScope (top 41)) f cdv A outer s H E).xe := passes_of rfl
  refine s_cons (s_if (L2.PW.pt (t_or (t_not (t_val (c_isi rfl rfl rfl FX.m_isinstance rfl FX.m_list rfl (c_var 1)))) (t_or (t_cmp (o_ne rfl hu4) (c_bi (b_len rfl) rfl FX.m_len rfl (a_cons (c_var 1) a_nil)) (c_sub rfl (c_var 0) c_int) (by with_unfolding_all rfl)) (t_or1 (t_not (t_val (c_bi (b_all rfl rfl) rfl FX.m_all rfl (a_cons (c_comp (own := [("one", 2)]) rfl hN (i_seq rfl (c_var 1)) (show BlkOk ["web", "row", "one"] (defScope (top 41)) _ _ from blkOk_by (by decide +kernel)) rfl (fun _ _ _ _ _ => (g_one 2 hN)) (fun _ _ _ _ _ => x_nil) (fun _ _ _ _ _ => (c_cal rfl (hF 0 _ _ _ rfl) hr rfl passN (a_cons (c_var 2) a_nil)))) a_nil)))))))) (s_cons (s_rai rfl rfl tk FX.e9_1 FX.c_9 FX.e9_2 FX.e9_3 FX.e9_4 rfl)
      s_nil) s_nil) ?_
  exact s_nil
theorem sc25 : FnScope ["web", "row", "one", "other"] ["web", "row"] (defScope (top 42)) := ⟨rfl, rfl, rfl, by decide +kernel, rfl, by decide +kernel, by decide +kernel⟩
theorem b25 (FX : Fx K mg) (hF : AllF P w K mg base T k) (hM : AllM P w K mg base T k) (hI : AllI P w K mg base T) (hK : AllK P w K mg base T k) (hk2 : 2 ≤ k) {f : Addr} (cdv : Value) (A : Around) (outer : List Env) (s : Shared) (H : Hp) (E : XK) (hr : Room k (A.deeper (envOfC "squares" (defScope (top 42)) s.heap.objs.size f cdv))) :
    PSs (cxOf (L2N.CX P w) P w K mg base ["web", "row", "one", "other"] "squares" (defScope (top 42)) f cdv A outer s H E) (defBody (top 42)) (rdSs (Wof K) E T fu_squares.body) := by
  have hN : (["web", "row", "one", "other"] : List Str).Nodup := sc25.nd
  have hu0 : (A.deeper (envOfC "squares" (defScope (top 42)) s.heap.objs.size f cdv)).units < cLine := by have := hr.un; omega
  have hu4 : (A.deeper (envOfC "squares" (defScope (top 42)) s.heap.objs.size f cdv)).units + 64 < cLine := by have := hr.un; omega
  have hu5 : (A.deeper (envOfC "squares" (defScope (top 42)) s.heap.objs.size f cdv)).units + 65 < cLine := by have := hr.un; omega
  have tk : L2N.Takes (cxOf (L2N.CX P w) P w K mg base ["web", "row", "one", "other"] "squares" (defScope (top 42)) f cdv A outer s H E) (fun cls d _ H => E cls d H) := L2N.takes_of rfl rfl rfl rfl
  have px : Passes (L2N.CX P w) (cxOf (L2N.CX P w) P w K mg base ["web", "row", "one", "other"] "squares" (defScope (top 42)) f cdv A outer s H E) E := L2N.passes_call tk fun _ _ _ _ h => h
  have po : PassesOwn (model P w) (cxOf (L2N.CX P w) P w K mg base ["web", "row", "one", "other"] "squares" (defScope (top 42)) f cdv A outer s H E).A (cxOf (L2N.CX P w) P w K mg base ["web", "row", "one", "other"] "squares" (defScope (top 42)) f cdv A outer s H E).env (cxOf (L2N.CX P w) P w K mg base ["web", "row", "one", "other"] "squares" (defScope (top 42)) f cdv A outer s H E).xe := passes_of rfl
  refine s_cons (s_exp (c_cal rfl (hF 4 _ _ _ rfl) hr rfl px (a_cons (c_var 0) a_nil))) ?_
  refine s_cons (s_exp (c_cal rfl (hF 24 _ _ _ rfl) hr rfl px (a_cons (c_var 0) (a_cons (c_var 1) a_nil)))) ?_
  refine s_cons (s_ret (r_of (c_op o_add (c_op o_mul c_int (c_bi (b_sum rfl rfl) rfl FX.m_sum rfl (a_cons (c_comp (own := [("one", 2)]) rfl hN (i_seq rfl (c_var 1)) (show BlkOk ["web", "row", "one", "other"] (defScope (top 42)) _ _ from blkOk_by (by decide +kernel)) rfl (fun _ _ _ _ _ => (g_one 2 hN)) (fun _ _ _ _ _ => x_nil) (fun _ _ _ _ _ => (c_op o_mul (c_var 2) (c_var 2)))) a_nil))) (c_op o_mul c_int (c_bi (b_sum rfl rfl) rfl FX.m_sum rfl (a_cons (c_comp (own := [("one", 2), ("other", 3)]) rfl hN (i_seq rfl (c_sub rfl (c_var 0) c_int)) (show BlkOk ["web", "row", "one", "other"] (defScope (top 42)) _ _ from blkOk_by (by decide +kernel)) rfl (fun _ _ _ _ _ => (g_two 2 3 rfl hN)) (fun _ _ _ _ _ => x_nil) (fun _ _ _ _ _ => (c_op o_mul (c_sub rfl (c_var 1) (c_var 2)) (c_sub rfl (c_var 1) (c_var 3))))) a_nil)))))) ?_
  exact s_nil
theorem sc26 : FnScope ["web", "groups", "row", "found", "group", "total", "place", "one"] ["web", "groups", "row"] (defScope (top 43)) := ⟨rfl, rfl, rfl, by decide +kernel, rfl, by decide +kernel, by decide +kernel⟩
theorem b26 (FX : Fx K mg) (hF : AllF P w K mg base T k) (hM : AllM P w K mg base T k) (hI : AllI P w K mg base T) (hK : AllK P w K mg base T k) (hk2 : 2 ≤ k) {f : Addr} (cdv : Value) (A : Around) (outer : List Env) (s : Shared) (H : Hp) (E : XK) (hr : Room k (A.deeper (envOfC "by_groups" (defScope (top 43)) s.heap.objs.size f cdv))) :
    PSs (cxOf (L2N.CX P w) P w K mg base ["web", "groups", "row", "found", "group", "total", "place", "one"] "by_groups" (defScope (top 43)) f cdv A outer s H E) (defBody (top 43)) (rdSs (Wof K) E T fu_by_groups.body) := by
  have hN : (["web", "groups", "row", "found", "group", "total", "place", "one"] : List Str).Nodup := sc26.nd
  have hu0 : (A.deeper (envOfC "by_groups" (defScope (top 43)) s.heap.objs.size f cdv)).units < cLine := by have := hr.un; omega
  have hu4 : (A.deeper (envOfC "by_groups" (defScope (top 43)) s.heap.objs.size f cdv)).units + 64 < cLine := by have := hr.un; omega
  have hu5 : (A.deeper (envOfC "by_groups" (defScope (top 43)) s.heap.objs.size f cdv)).units + 65 < cLine := by have := hr.un; omega
  have tk : L2N.Takes (cxOf (L2N.CX P w) P w K mg base ["web", "groups", "row", "found", "group", "total", "place", "one"] "by_groups" (defScope (top 43)) f cdv A outer s H E) (fun cls d _ H => E cls d H) := L2N.takes_of rfl rfl rfl rfl
  have px : Passes (L2N.CX P w) (cxOf (L2N.CX P w) P w K mg base ["web", "groups", "row", "found", "group", "total", "place", "one"] "by_groups" (defScope (top 43)) f cdv A outer s H E) E := L2N.passes_call tk fun _ _ _ _ h => h
  have po : PassesOwn (model P w) (cxOf (L2N.CX P w) P w K mg base ["web", "groups", "row", "found", "group", "total", "place", "one"] "by_groups" (defScope (top 43)) f cdv A outer s H E).A (cxOf (L2N.CX P w) P w K mg base ["web", "groups", "row", "found", "group", "total", "place", "one"] "by_groups" (defScope (top 43)) f cdv A outer s H E).env (cxOf (L2N.CX P w) P w K mg base ["web", "groups", "row", "found", "group", "total", "place", "one"] "by_groups" (defScope (top 43)) f cdv A outer s H E).xe := passes_of rfl
  refine s_cons (s_exp (c_cal rfl (hF 5 _ _ _ rfl) hr rfl px (a_cons (c_var 0) a_nil))) ?_
  refine s_cons (s_exp (c_cal rfl (hF 19 _ _ _ rfl) hr rfl px (a_cons (c_var 0) (a_cons (c_var 1) a_nil)))) ?_
  refine s_cons (s_exp (c_cal rfl (hF 24 _ _ _ rfl) hr rfl px (a_cons (c_var 0) (a_cons (c_var 2) a_nil)))) ?_
  refine s_cons (s_asg hN c_int) ?_
  refine s_cons (s_for po rfl (i_seq rfl (c_var 1)) (g_one 4 hN) (s_cons (s_asg hN (c_bi (b_sum rfl rfl) rfl FX.m_sum rfl (a_cons (c_comp (own := [("place", 6)]) rfl hN (i_seq rfl (c_var 4)) (show BlkOk ["web", "groups", "row", "found", "group", "total", "place", "one"] (defScope (top 43)) _ _ from blkOk_by (by decide +kernel)) rfl (fun _ _ _ _ _ => (g_one 6 hN)) (fun _ _ _ _ _ => x_nil) (fun _ _ _ _ _ => (c_sub rfl (c_var 2) (c_var 6)))) a_nil)))
      (s_cons (s_aug hN (c_op o_mul (c_var 5) (c_var 5)))
      s_nil))) ?_
  refine s_cons (s_for po rfl (i_enu rfl FX.m_enumerate (c_var 2)) (g_two 6 7 rfl hN) (s_cons (s_aug hN (c_op o_mul (c_op o_mul (c_op o_sub c_int (c_bi (b_len rfl) rfl FX.m_len rfl (a_cons (c_comp (own := [("group", 4)]) rfl hN (i_seq rfl (c_var 1)) (show BlkOk ["web", "groups", "row", "found", "group", "total", "place", "one"] (defScope (top 43)) _ _ from blkOk_by (by decide +kernel)) rfl (fun _ _ _ _ _ => (g_one 4 hN)) (fun _ _ _ _ _ => (x_one (t_cmp (o_in rfl hu5) (c_var 6) (c_var 4) (by with_unfolding_all rfl)))) (fun _ _ _ _ _ => (c_var 4))) a_nil))) (c_var 7)) (c_var 7)))
      s_nil)) ?_
  refine s_cons (s_ret (r_var 3)) ?_
  exact s_nil
theorem sc27 : FnScope ["web", "counts", "one", "other", "many"] ["web"] (defScope (top 45)) := ⟨rfl, rfl, rfl, by decide +kernel, rfl, by decide +kernel, by decide +kernel⟩
theorem b27 (FX : Fx K mg) (hF : AllF P w K mg base T k) (hM : AllM P w K mg base T k) (hI : AllI P w K mg base T) (hK : AllK P w K mg base T k) (hk2 : 2 ≤ k) {f : Addr} (cdv : Value) (A : Around) (outer : List Env) (s : Shared) (H : Hp) (E : XK) (hr : Room k (A.deeper (envOfC "tied_many" (defScope (top 45)) s.heap.objs.size f cdv))) :
    PSs (cxOf (L2N.CX P w) P w K mg base ["web", "counts", "one", "other", "many"] "tied_many" (defScope (top 45)) f cdv A outer s H E) (defBody (top 45)) (rdSs (Wof K) E T fu_tied_many.body) := by
  have hN : (["web", "counts", "one", "other", "many"] : List Str).Nodup := sc27.nd
  have hu0 : (A.deeper (envOfC "tied_many" (defScope (top 45)) s.heap.objs.size f cdv)).units < cLine := by have := hr.un; omega
  have hu4 : (A.deeper (envOfC "tied_many" (defScope (top 45)) s.heap.objs.size f cdv)).units + 64 < cLine := by have := hr.un; omega
  have hu5 : (A.deeper (envOfC "tied_many" (defScope (top 45)) s.heap.objs.size f cdv)).units + 65 < cLine := by have := hr.un; omega
  have tk : L2N.Takes (cxOf (L2N.CX P w) P w K mg base ["web", "counts", "one", "other", "many"] "tied_many" (defScope (top 45)) f cdv A outer s H E) (fun cls d _ H => E cls d H) := L2N.takes_of rfl rfl rfl rfl
  have px : Passes (L2N.CX P w) (cxOf (L2N.CX P w) P w K mg base ["web", "counts", "one", "other", "many"] "tied_many" (defScope (top 45)) f cdv A outer s H E) E := L2N.passes_call tk fun _ _ _ _ h => h
  have po : PassesOwn (model P w) (cxOf (L2N.CX P w) P w K mg base ["web", "counts", "one", "other", "many"] "tied_many" (defScope (top 45)) f cdv A outer s H E).A (cxOf (L2N.CX P w) P w K mg base ["web", "counts", "one", "other", "many"] "tied_many" (defScope (top 45)) f cdv A outer s H E).env (cxOf (L2N.CX P w) P w K mg base ["web", "counts", "one", "other", "many"] "tied_many" (defScope (top 45)) f cdv A outer s H E).xe := passes_of rfl
  refine s_cons (s_exp (c_cal rfl (hF 4 _ _ _ rfl) hr rfl px (a_cons (c_var 0) a_nil))) ?_
  refine s_cons (s_asg hN (c_op o_mul (c_lst (a_cons c_int a_nil)) (c_sub rfl (c_var 0) c_int))) ?_
  refine s_cons (s_for po rfl (i_seq rfl (c_sub rfl (c_var 0) c_int)) (g_two 2 3 rfl hN) (s_cons (s_augS (p_nil 1) (c_var 2) c_int)
      (s_cons (s_augS (p_nil 1) (c_var 3) c_int)
      s_nil))) ?_
  refine s_cons (s_ret (r_of (c_bi (b_sum rfl rfl) rfl FX.m_sum rfl (a_cons (c_comp (own := [("many", 4)]) rfl hN (i_seq rfl (c_var 1)) (show BlkOk ["web", "counts", "one", "other", "many"] (defScope (top 45)) _ _ from blkOk_by (by decide +kernel)) rfl (fun _ _ _ _ _ => (g_one 4 hN)) (fun _ _ _ _ _ => x_nil) (fun _ _ _ _ _ => (c_op o_fdiv (c_op o_mul (c_var 4) (c_op o_sub (c_var 4) c_int)) c_int))) a_nil)))) ?_
  exact s_nil
theorem sc28 : FnScope ["_law_many", "_law_found", "_law_one", "_law_other"] ["_law_many"] (defScope (top 48)) := ⟨rfl, rfl, rfl, by decide +kernel, rfl, by decide +kernel, by decide +kernel⟩
theorem b28 (FX : Fx K mg) (hF : AllF P w K mg base T k) (hM : AllM P w K mg base T k) (hI : AllI P w K mg base T) (hK : AllK P w K mg base T k) (hk2 : 2 ≤ k) {f : Addr} (cdv : Value) (A : Around) (outer : List Env) (s : Shared) (H : Hp) (E : XK) (hr : Room k (A.deeper (envOfC "_law_all_tied" (defScope (top 48)) s.heap.objs.size f cdv))) :
    PSs (cxOf (L2N.CX P w) P w K mg base ["_law_many", "_law_found", "_law_one", "_law_other"] "_law_all_tied" (defScope (top 48)) f cdv A outer s H E) (defBody (top 48)) (rdSs (Wof K) E T fu_law_all_tied_3.body) := by
  have hN : (["_law_many", "_law_found", "_law_one", "_law_other"] : List Str).Nodup := sc28.nd
  have hu0 : (A.deeper (envOfC "_law_all_tied" (defScope (top 48)) s.heap.objs.size f cdv)).units < cLine := by have := hr.un; omega
  have hu4 : (A.deeper (envOfC "_law_all_tied" (defScope (top 48)) s.heap.objs.size f cdv)).units + 64 < cLine := by have := hr.un; omega
  have hu5 : (A.deeper (envOfC "_law_all_tied" (defScope (top 48)) s.heap.objs.size f cdv)).units + 65 < cLine := by have := hr.un; omega
  have tk : L2N.Takes (cxOf (L2N.CX P w) P w K mg base ["_law_many", "_law_found", "_law_one", "_law_other"] "_law_all_tied" (defScope (top 48)) f cdv A outer s H E) (fun cls d _ H => E cls d H) := L2N.takes_of rfl rfl rfl rfl
  have px : Passes (L2N.CX P w) (cxOf (L2N.CX P w) P w K mg base ["_law_many", "_law_found", "_law_one", "_law_other"] "_law_all_tied" (defScope (top 48)) f cdv A outer s H E) E := L2N.passes_call tk fun _ _ _ _ h => h
  have po : PassesOwn (model P w) (cxOf (L2N.CX P w) P w K mg base ["_law_many", "_law_found", "_law_one", "_law_other"] "_law_all_tied" (defScope (top 48)) f cdv A outer s H E).A (cxOf (L2N.CX P w) P w K mg base ["_law_many", "_law_found", "_law_one", "_law_other"] "_law_all_tied" (defScope (top 48)) f cdv A outer s H E).env (cxOf (L2N.CX P w) P w K mg base ["_law_many", "_law_found", "_law_one", "_law_other"] "_law_all_tied" (defScope (top 48)) f cdv A outer s H E).xe := passes_of rfl
  refine s_cons (s_asg hN (c_lst a_nil)) ?_
  refine s_cons (s_for po rfl (i_rng1 rfl FX.m_range (c_var 0)) (g_one 2 hN) (s_cons (s_mut PySem.F.slot_list_extend PySem.F.type_list_extend mt_extend mo_extend rfl (p_nil 1) (a_cons (c_comp (own := [("_law_other", 3)]) rfl hN (i_rng2 rfl FX.m_range (c_op o_add (c_var 2) c_int) (c_var 0)) (show BlkOk ["_law_many", "_law_found", "_law_one", "_law_other"] (defScope (top 48)) _ _ from blkOk_by (by decide +kernel)) rfl (fun _ _ _ _ _ => (g_one 3 hN)) (fun _ _ _ _ _ => x_nil) (fun _ _ _ _ _ => (c_tup (a_cons (c_var 2) (a_cons (c_var 3) a_nil))))) a_nil))
      s_nil)) ?_
  refine s_cons (s_ret (r_var 1)) ?_
  exact s_nil
theorem sc29 : FnScope ["_law_script", "_law_at", "_law_whole", "_law_ties"] ["_law_script"] (defScope (top 53)) := ⟨rfl, rfl, rfl, by decide +kernel, rfl, by decide +kernel, by decide +kernel⟩
theorem b29 (FX : Fx K mg) (hF : AllF P w K mg base T k) (hM : AllM P w K mg base T k) (hI : AllI P w K mg base T) (hK : AllK P w K mg base T k) (hk2 : 2 ≤ k) {f : Addr} (cdv : Value) (A : Around) (outer : List Env) (s : Shared) (H : Hp) (E : XK) (hr : Room k (A.deeper (envOfC "law" (defScope (top 53)) s.heap.objs.size f cdv))) :
    PSs (cxOf (L2N.CX P w) P w K mg base ["_law_script", "_law_at", "_law_whole", "_law_ties"] "law" (defScope (top 53)) f cdv A outer s H E) (defBody (top 53)) (rdSs (Wof K) E T fu_law_26.body) := by
  have hN : (["_law_script", "_law_at", "_law_whole", "_law_ties"] : List Str).Nodup := sc29.nd
  have hu0 : (A.deeper (envOfC "law" (defScope (top 53)) s.heap.objs.size f cdv)).units < cLine := by have := hr.un; omega
  have hu4 : (A.deeper (envOfC "law" (defScope (top 53)) s.heap.objs.size f cdv)).units + 64 < cLine := by have := hr.un; omega
  have hu5 : (A.deeper (envOfC "law" (defScope (top 53)) s.heap.objs.size f cdv)).units + 65 < cLine := by have := hr.un; omega
  have tk : L2N.Takes (cxOf (L2N.CX P w) P w K mg base ["_law_script", "_law_at", "_law_whole", "_law_ties"] "law" (defScope (top 53)) f cdv A outer s H E) (fun cls d _ H => E cls d H) := L2N.takes_of rfl rfl rfl rfl
  have px : Passes (L2N.CX P w) (cxOf (L2N.CX P w) P w K mg base ["_law_script", "_law_at", "_law_whole", "_law_ties"] "law" (defScope (top 53)) f cdv A outer s H E) E := L2N.passes_call tk fun _ _ _ _ h => h
  have po : PassesOwn (model P w) (cxOf (L2N.CX P w) P w K mg base ["_law_script", "_law_at", "_law_whole", "_law_ties"] "law" (defScope (top 53)) f cdv A outer s H E).A (cxOf (L2N.CX P w) P w K mg base ["_law_script", "_law_at", "_law_whole", "_law_ties"] "law" (defScope (top 53)) f cdv A outer s H E).env (cxOf (L2N.CX P w) P w K mg base ["_law_script", "_law_at", "_law_whole", "_law_ties"] "law" (defScope (top 53)) f cdv A outer s H E).xe := passes_of rfl
  refine s_cons (by first | exact s_par rfl hN (a_cons (c_bi b_abs rfl FX.m_abs rfl (a_cons (c_bi (b_sum rfl rfl) rfl FX.m_sum rfl (a_cons (c_slc rfl (c_var 0) o_no (o_so c_int)) a_nil)) a_nil)) (a_cons (c_cal rfl (hF 28 _ _ _ rfl) hr rfl px (a_cons c_int a_nil)) a_nil)) | exact s_parU rfl hN (a_cons (c_bi b_abs rfl FX.m_abs rfl (a_cons (c_bi (b_sum rfl rfl) rfl FX.m_sum rfl (a_cons (c_slc rfl (c_var 0) o_no (o_so c_int)) a_nil)) a_nil)) (a_cons (c_cal rfl (hF 28 _ _ _ rfl) hr rfl px (a_cons c_int a_nil)) a_nil))) ?_
  refine s_cons (s_for po rfl (i_seq rfl (c_ssort rfl rfl hu4 rfl FX.m_sorted rfl FX.m_set (a_cons (c_lst (a_cons (c_op o_add c_int (c_op o_mod (c_var 2) c_int)) (a_cons c_int a_nil))) a_nil))) (g_one 1 hN) (s_cons (s_if (t_not (t_val (c_caly rfl (hK 0 _ _ _ rfl) hr rfl px (a_cons (c_var 3) (a_cons (c_var 1) a_nil))))) (s_cons (s_ret (r_of c_bl))
      s_nil) s_nil)
      s_nil)) ?_
  refine s_cons (s_for po rfl (i_seq rfl (c_ssort rfl rfl hu4 rfl FX.m_sorted rfl FX.m_set (a_cons (c_lst (a_cons (c_op o_add c_int (c_op o_mod (c_op o_fdiv (c_var 2) c_int) c_int)) (a_cons c_int a_nil))) a_nil))) (g_one 1 hN) (s_cons (s_if (t_not (t_val (c_caly rfl (hK 2 _ _ _ rfl) hr rfl px (a_cons (c_tup (a_cons c_int (a_cons (c_var 3) a_nil))) (a_cons (c_var 1) a_nil))))) (s_cons (s_ret (r_of c_bl))
      s_nil) s_nil)
      s_nil)) ?_
  refine s_cons (s_for po rfl (i_seq rfl (c_ssort rfl rfl hu4 rfl FX.m_sorted rfl FX.m_set (a_cons (c_lst (a_cons (c_op o_mod (c_op o_fdiv (c_var 2) c_int) c_int) (a_cons c_int a_nil))) a_nil))) (g_one 1 hN) (s_cons (s_if (t_not (t_val (c_caly rfl (hK 3 _ _ _ rfl) hr rfl px (a_cons (c_var 1) a_nil)))) (s_cons (s_ret (r_of c_bl))
      s_nil) s_nil)
      s_nil)) ?_
  refine s_cons (s_ret (r_of (c_and (c_cmp (o_eq rfl hu4) (c_cal rfl (hF 27 _ _ _ rfl) hr rfl px (a_cons (c_tup (a_cons c_int (a_cons (c_var 3) a_nil))) a_nil)) c_int (by with_unfolding_all rfl)) (c_one (c_cmp (o_eq rfl hu4) (c_cal rfl (hF 25 _ _ _ rfl) hr rfl px (a_cons (c_tup (a_cons c_int (a_cons (c_var 3) a_nil))) (a_cons (c_op o_mul (c_lst (a_cons c_int a_nil)) c_int) a_nil))) c_int (by with_unfolding_all rfl)))))) ?_
  exact s_nil
theorem sc30 : FnScope ["_law_ties", "_law_at", "_law_some", "_law_bad", "_law_one", "_law_other", "_law_web"] ["_law_ties", "_law_at"] (defScope (top 49)) := ⟨rfl, rfl, rfl, by decide +kernel, rfl, by decide +kernel, by decide +kernel⟩
theorem b30 (FX : Fx K mg) (hF : AllF P w K mg base T k) (hM : AllM P w K mg base T k) (hI : AllI P w K mg base T) (hK : AllK P w K mg base T k) (hCb : AllC P w K mg base T k) (hk2 : 2 ≤ k) {f c Pt : Addr} (tb : TabB base mg c Pt) (hmT : (Pt, ((("_law_webs_right" : Str) ++ (".<locals>." : Str)) ++ ("<lambda>" : Str))) ∈ TabT.T) (huT : ∀ p ∈ TabT.T, p.1 = Pt → p.2 = ((("_law_webs_right" : Str) ++ (".<locals>." : Str)) ++ ("<lambda>" : Str))) (A : Around) (outer : List Env) (s : Shared) (H : Hp) (E : XK) (hr : Room k (A.deeper (envOfC "_law_webs_right" (defScope (top 49)) s.heap.objs.size f (.ref c)))) :
    PSs (cxOf (L2N.CX P w) P w K mg base ["_law_ties", "_law_at", "_law_some", "_law_bad", "_law_one", "_law_other", "_law_web"] "_law_webs_right" (defScope (top 49)) f (.ref c) A outer s H E) (defBody (top 49)) (rdSs ((Wof K).wl (some (cwOf "_law_webs_right" (defScope (top 49)) s.heap.objs.size f (.ref c) LX [230]))) E T fu_law_webs_right_2.body) := by
  have hN : (["_law_ties", "_law_at", "_law_some", "_law_bad", "_law_one", "_law_other", "_law_web"] : List Str).Nodup := sc30.nd
  have hu0 : (A.deeper (envOfC "_law_webs_right" (defScope (top 49)) s.heap.objs.size f (.ref c))).units < cLine := by have := hr.un; omega
  have hu4 : (A.deeper (envOfC "_law_webs_right" (defScope (top 49)) s.heap.objs.size f (.ref c))).units + 64 < cLine := by have := hr.un; omega
  have hu5 : (A.deeper (envOfC "_law_webs_right" (defScope (top 49)) s.heap.objs.size f (.ref c))).units + 65 < cLine := by have := hr.un; omega
  have tk : L2N.Takes (cxOf (L2N.CX P w) P w K mg base ["_law_ties", "_law_at", "_law_some", "_law_bad", "_law_one", "_law_other", "_law_web"] "_law_webs_right" (defScope (top 49)) f (.ref c) A outer s H E) (fun cls d _ H => E cls d H) := L2N.takes_of rfl rfl rfl rfl
  have px : Passes (L2N.CX P w) (cxOf (L2N.CX P w) P w K mg base ["_law_ties", "_law_at", "_law_some", "_law_bad", "_law_one", "_law_other", "_law_web"] "_law_webs_right" (defScope (top 49)) f (.ref c) A outer s H E) E := L2N.passes_call tk fun _ _ _ _ h => h
  have po : PassesOwn (model P w) (cxOf (L2N.CX P w) P w K mg base ["_law_ties", "_law_at", "_law_some", "_law_bad", "_law_one", "_law_other", "_law_web"] "_law_webs_right" (defScope (top 49)) f (.ref c) A outer s H E).A (cxOf (L2N.CX P w) P w K mg base ["_law_ties", "_law_at", "_law_some", "_law_bad", "_law_one", "_law_other", "_law_web"] "_law_webs_right" (defScope (top 49)) f (.ref c) A outer s H E).env (cxOf (L2N.CX P w) P w K mg base ["_law_ties", "_law_at", "_law_some", "_law_bad", "_law_one", "_law_other", "_law_web"] "_law_webs_right" (defScope (top 49)) f (.ref c) A outer s H E).xe := passes_of rfl
  refine s_cons (s_unp rfl hN (c_sub rfl (c_var 0) (c_var 1))) ?_
  refine s_cons (s_asg hN (c_lst (a_cons (c_tup (a_cons (c_var 5) (a_cons (c_var 4) a_nil))) (a_cons (c_tup (a_cons (c_var 4) (a_cons (c_var 4) a_nil))) (a_cons (c_sub rfl (c_var 0) (c_op o_sub (c_var 1) c_int)) (a_cons (c_tup (a_cons (c_var 4) (a_cons c_int a_nil))) (a_cons (c_tup (a_cons (c_neg c_int) (a_cons (c_var 5) a_nil))) (a_cons (c_tup (a_cons (c_var 4) (a_cons c_non a_nil))) a_nil)))))))) ?_
  refine s_cons (s_for po rfl (i_seq rfl (c_op o_add (c_var 2) (c_lst (a_cons (c_tup (a_cons c_bl (a_cons (c_var 5) a_nil))) (a_cons (c_lst (a_cons (c_var 4) (a_cons (c_var 5) a_nil))) (a_cons c_non a_nil)))))) (g_one 3 hN) (s_cons (s_asg hN (c_tup (a_cons c_int (a_cons (c_op o_add (c_op o_add (c_slc rfl (c_var 0) o_no (o_so (c_var 1))) (c_lst (a_cons (c_var 3) a_nil))) (c_slc rfl (c_var 0) (o_so (c_op o_add (c_var 1) c_int)) o_no)) a_nil))))
      (s_cons (s_if (L2.PW.pt (t_or (t_not (t_val (c_ccl (gs := [230]) (us := ["_law_web"]) rfl (hCb 0 _ _ _ rfl) hr rfl px rfl rfl (by decide) (show ∀ g ∈ ([230] : List Nat), freeB (defScope (top 49)) (LX g).scope = true from by decide +kernel) rfl (show ∀ y ∈ (["_law_web"] : List Str), (defScope (top 49)).names.lookup y = some .cell ∨ (defScope (top 49)).names.lookup y = some .free from by decide +kernel) (a_cons (c_lam (g := 230) rfl rfl (show 230 ∈ ([230] : List Nat) from by decide) tb rfl hmT huT rfl rfl rfl (hfree := (show freeB (defScope (top 49)) (LX 230).scope = true from by decide +kernel))) (a_cons c_int a_nil))))) (t_or1 (t_not (t_val (c_calx rfl (hK 1 _ _ _ rfl) hr rfl px (a_cons (c_var 6) a_nil))))))) (s_cons (s_ret (r_of c_bl))
      s_nil) s_nil)
      s_nil))) ?_
  refine s_cons (s_ret (r_of c_bl)) ?_
  exact s_nil
theorem sc31 : FnScope ["_law_web", "_law_asks", "_law_ask"] ["_law_web"] (defScope (top 50)) := ⟨rfl, rfl, rfl, by decide +kernel, rfl, by decide +kernel, by decide +kernel⟩
theorem b31 (FX : Fx K mg) (hF : AllF P w K mg base T k) (hM : AllM P w K mg base T k) (hI : AllI P w K mg base T) (hK : AllK P w K mg base T k) (hCb : AllC P w K mg base T k) (hk2 : 2 ≤ k) {f c Pt : Addr} (tb : TabB base mg c Pt) (hmT : (Pt, ((("_law_web_doors" : Str) ++ (".<locals>." : Str)) ++ ("<lambda>" : Str))) ∈ TabT.T) (huT : ∀ p ∈ TabT.T, p.1 = Pt → p.2 = ((("_law_web_doors" : Str) ++ (".<locals>." : Str)) ++ ("<lambda>" : Str))) (A : Around) (outer : List Env) (s : Shared) (H : Hp) (E : XK) (hr : Room k (A.deeper (envOfC "_law_web_doors" (defScope (top 50)) s.heap.objs.size f (.ref c)))) :
    PSs (cxOf (L2N.CX P w) P w K mg base ["_law_web", "_law_asks", "_law_ask"] "_law_web_doors" (defScope (top 50)) f (.ref c) A outer s H E) (defBody (top 50)) (rdSs ((Wof K).wl (some (cwOf "_law_web_doors" (defScope (top 50)) s.heap.objs.size f (.ref c) LX [231, 232, 233, 234, 235]))) E T fu_law_web_doors.body) := by
  have hN : (["_law_web", "_law_asks", "_law_ask"] : List Str).Nodup := sc31.nd
  have hu0 : (A.deeper (envOfC "_law_web_doors" (defScope (top 50)) s.heap.objs.size f (.ref c))).units < cLine := by have := hr.un; omega
  have hu4 : (A.deeper (envOfC "_law_web_doors" (defScope (top 50)) s.heap.objs.size f (.ref c))).units + 64 < cLine := by have := hr.un; omega
  have hu5 : (A.deeper (envOfC "_law_web_doors" (defScope (top 50)) s.heap.objs.size f (.ref c))).units + 65 < cLine := by have := hr.un; omega
  have tk : L2N.Takes (cxOf (L2N.CX P w) P w K mg base ["_law_web", "_law_asks", "_law_ask"] "_law_web_doors" (defScope (top 50)) f (.ref c) A outer s H E) (fun cls d _ H => E cls d H) := L2N.takes_of rfl rfl rfl rfl
  have px : Passes (L2N.CX P w) (cxOf (L2N.CX P w) P w K mg base ["_law_web", "_law_asks", "_law_ask"] "_law_web_doors" (defScope (top 50)) f (.ref c) A outer s H E) E := L2N.passes_call tk fun _ _ _ _ h => h
  have po : PassesOwn (model P w) (cxOf (L2N.CX P w) P w K mg base ["_law_web", "_law_asks", "_law_ask"] "_law_web_doors" (defScope (top 50)) f (.ref c) A outer s H E).A (cxOf (L2N.CX P w) P w K mg base ["_law_web", "_law_asks", "_law_ask"] "_law_web_doors" (defScope (top 50)) f (.ref c) A outer s H E).env (cxOf (L2N.CX P w) P w K mg base ["_law_web", "_law_asks", "_law_ask"] "_law_web_doors" (defScope (top 50)) f (.ref c) A outer s H E).xe := passes_of rfl
  refine s_cons (s_asg hN (c_lst (a_cons (c_lam (g := 231) rfl rfl (show 231 ∈ ([231, 232, 233, 234, 235] : List Nat) from by decide) tb rfl hmT huT rfl rfl rfl (hfree := (show freeB (defScope (top 50)) (LX 231).scope = true from by decide +kernel))) a_nil))) ?_
  refine s_cons (s_mut PySem.F.slot_list_append PySem.F.type_list_append mt_append mo_append rfl (p_nil 1) (a_cons (c_lam (g := 232) rfl rfl (show 232 ∈ ([231, 232, 233, 234, 235] : List Nat) from by decide) tb rfl hmT huT rfl rfl rfl (hfree := (show freeB (defScope (top 50)) (LX 232).scope = true from by decide +kernel))) a_nil)) ?_
  refine s_cons (s_mut PySem.F.slot_list_append PySem.F.type_list_append mt_append mo_append rfl (p_nil 1) (a_cons (c_lam (g := 233) rfl rfl (show 233 ∈ ([231, 232, 233, 234, 235] : List Nat) from by decide) tb rfl hmT huT rfl rfl rfl (hfree := (show freeB (defScope (top 50)) (LX 233).scope = true from by decide +kernel))) a_nil)) ?_
  refine s_cons (s_mut PySem.F.slot_list_append PySem.F.type_list_append mt_append mo_append rfl (p_nil 1) (a_cons (c_lam (g := 234) rfl rfl (show 234 ∈ ([231, 232, 233, 234, 235] : List Nat) from by decide) tb rfl hmT huT rfl rfl rfl (hfree := (show freeB (defScope (top 50)) (LX 234).scope = true from by decide +kernel))) a_nil)) ?_
  refine s_cons (s_mut PySem.F.slot_list_append PySem.F.type_list_append mt_append mo_append rfl (p_nil 1) (a_cons (c_lam (g := 235) rfl rfl (show 235 ∈ ([231, 232, 233, 234, 235] : List Nat) from by decide) tb rfl hmT huT rfl rfl rfl (hfree := (show freeB (defScope (top 50)) (LX 235).scope = true from by decide +kernel))) a_nil)) ?_
  refine s_cons (s_for po rfl (i_seq rfl (c_var 1)) (g_one 2 hN) (s_cons (s_if (t_not (t_val (c_ccl (gs := [231, 232, 233, 234, 235]) (us := ["_law_web"]) rfl (hCb 0 _ _ _ rfl) hr rfl px rfl rfl (by decide) (show ∀ g ∈ ([231, 232, 233, 234, 235] : List Nat), freeB (defScope (top 50)) (LX g).scope = true from by decide +kernel) rfl (show ∀ y ∈ (["_law_web"] : List Str), (defScope (top 50)).names.lookup y = some .cell ∨ (defScope (top 50)).names.lookup y = some .free from by decide +kernel) (a_cons (c_var 2) (a_cons c_int a_nil))))) (s_cons (s_ret (r_of c_bl))
      s_nil) s_nil)
      s_nil)) ?_
  refine s_cons (s_ret (r_of c_bl)) ?_
  exact s_nil
theorem sc32 : FnScope ["_law_web", "_law_at", "_law_order", "_law_bad", "_law_places"] ["_law_web", "_law_at"] (defScope (top 51)) := ⟨rfl, rfl, rfl, by decide +kernel, rfl, by decide +kernel, by decide +kernel⟩
theorem b32 (FX : Fx K mg) (hF : AllF P w K mg base T k) (hM : AllM P w K mg base T k) (hI : AllI P w K mg base T) (hK : AllK P w K mg base T k) (hCb : AllC P w K mg base T k) (hk2 : 2 ≤ k) {f c Pt : Addr} (tb : TabB base mg c Pt) (hmT : (Pt, ((("_law_rows_right" : Str) ++ (".<locals>." : Str)) ++ ("<lambda>" : Str))) ∈ TabT.T) (huT : ∀ p ∈ TabT.T, p.1 = Pt → p.2 = ((("_law_rows_right" : Str) ++ (".<locals>." : Str)) ++ ("<lambda>" : Str))) (A : Around) (outer : List Env) (s : Shared) (H : Hp) (E : XK) (hr : Room k (A.deeper (envOfC "_law_rows_right" (defScope (top 51)) s.heap.objs.size f (.ref c)))) :
    PSs (cxOf (L2N.CX P w) P w K mg base ["_law_web", "_law_at", "_law_order", "_law_bad", "_law_places"] "_law_rows_right" (defScope (top 51)) f (.ref c) A outer s H E) (defBody (top 51)) (rdSs ((Wof K).wl (some (cwOf "_law_rows_right" (defScope (top 51)) s.heap.objs.size f (.ref c) LX [236, 237, 238, 239, 240]))) E T fu_law_rows_right.body) := by
  have hN : (["_law_web", "_law_at", "_law_order", "_law_bad", "_law_places"] : List Str).Nodup := sc32.nd
  have hu0 : (A.deeper (envOfC "_law_rows_right" (defScope (top 51)) s.heap.objs.size f (.ref c))).units < cLine := by have := hr.un; omega
  have hu4 : (A.deeper (envOfC "_law_rows_right" (defScope (top 51)) s.heap.objs.size f (.ref c))).units + 64 < cLine := by have := hr.un; omega
  have hu5 : (A.deeper (envOfC "_law_rows_right" (defScope (top 51)) s.heap.objs.size f (.ref c))).units + 65 < cLine := by have := hr.un; omega
  have tk : L2N.Takes (cxOf (L2N.CX P w) P w K mg base ["_law_web", "_law_at", "_law_order", "_law_bad", "_law_places"] "_law_rows_right" (defScope (top 51)) f (.ref c) A outer s H E) (fun cls d _ H => E cls d H) := L2N.takes_of rfl rfl rfl rfl
  have px : Passes (L2N.CX P w) (cxOf (L2N.CX P w) P w K mg base ["_law_web", "_law_at", "_law_order", "_law_bad", "_law_places"] "_law_rows_right" (defScope (top 51)) f (.ref c) A outer s H E) E := L2N.passes_call tk fun _ _ _ _ h => h
  have po : PassesOwn (model P w) (cxOf (L2N.CX P w) P w K mg base ["_law_web", "_law_at", "_law_order", "_law_bad", "_law_places"] "_law_rows_right" (defScope (top 51)) f (.ref c) A outer s H E).A (cxOf (L2N.CX P w) P w K mg base ["_law_web", "_law_at", "_law_order", "_law_bad", "_law_places"] "_law_rows_right" (defScope (top 51)) f (.ref c) A outer s H E).env (cxOf (L2N.CX P w) P w K mg base ["_law_web", "_law_at", "_law_order", "_law_bad", "_law_places"] "_law_rows_right" (defScope (top 51)) f (.ref c) A outer s H E).xe := passes_of rfl
  refine s_cons (s_asg hN (c_rev (c_lrng1 rfl rfl FX.m_list rfl FX.m_range c_int))) ?_
  refine s_cons (s_if (L2.PW.pt (t_or (t_cmp (o_ne rfl hu4) (c_calx rfl (FnF.toK (hF 13 _ _ _ rfl)) hr rfl px (a_cons (c_var 0) (a_cons (c_lrng1 rfl rfl FX.m_list rfl FX.m_range c_int) a_nil))) (c_var 0) (by with_unfolding_all rfl)) (t_or1 (t_cmp (o_ne rfl hu4) (c_bi (b_len rfl) rfl FX.m_len rfl (a_cons (c_sub rfl (c_calx rfl (FnF.toK (hF 16 _ _ _ rfl)) hr rfl px (a_cons (c_var 0) (a_cons (c_var 2) a_nil))) c_int) a_nil)) (c_bi (b_len rfl) rfl FX.m_len rfl (a_cons (c_sub rfl (c_var 0) c_int) a_nil)) (by with_unfolding_all rfl))))) (s_cons (s_ret (r_of c_bl))
      s_nil) s_nil) ?_
  refine s_cons (s_if (t_not (t_val (c_ccl (gs := [236]) (us := ["_law_web", "_law_order"]) rfl (hCb 0 _ _ _ rfl) hr rfl px rfl rfl (by decide) (show ∀ g ∈ ([236] : List Nat), freeB (defScope (top 51)) (LX g).scope = true from by decide +kernel) rfl (show ∀ y ∈ (["_law_web", "_law_order"] : List Str), (defScope (top 51)).names.lookup y = some .cell ∨ (defScope (top 51)).names.lookup y = some .free from by decide +kernel) (a_cons (c_lam (g := 236) rfl rfl (show 236 ∈ ([236, 237, 238, 239, 240] : List Nat) from by decide) tb rfl hmT huT rfl rfl rfl (hfree := (show freeB (defScope (top 51)) (LX 236).scope = true from by decide +kernel))) (a_cons c_int a_nil))))) (s_cons (s_ret (r_of c_bl))
      s_nil) s_nil) ?_
  refine s_cons (s_for po rfl (i_seq rfl (c_tup (a_cons (c_sub rfl (c_var 2) (c_op o_sub (c_var 1) c_int)) (a_cons c_int (a_cons (c_neg c_int) (a_cons c_non (a_cons c_str (a_cons (c_lst (a_cons (c_var 1) a_nil)) a_nil)))))))) (g_one 3 hN) (s_cons (s_if (t_not (t_val (c_ccl (gs := [237]) (us := ["_law_web", "_law_order", "_law_bad", "_law_at"]) rfl (hCb 0 _ _ _ rfl) hr rfl px rfl rfl (by decide) (show ∀ g ∈ ([237] : List Nat), freeB (defScope (top 51)) (LX g).scope = true from by decide +kernel) rfl (show ∀ y ∈ (["_law_web", "_law_order", "_law_bad", "_law_at"] : List Str), (defScope (top 51)).names.lookup y = some .cell ∨ (defScope (top 51)).names.lookup y = some .free from by decide +kernel) (a_cons (c_lam (g := 237) rfl rfl (show 237 ∈ ([236, 237, 238, 239, 240] : List Nat) from by decide) tb rfl hmT huT rfl rfl rfl (hfree := (show freeB (defScope (top 51)) (LX 237).scope = true from by decide +kernel))) (a_cons c_int a_nil))))) (s_cons (s_ret (r_of c_bl))
      s_nil) s_nil)
      s_nil)) ?_
  refine s_cons (s_for po rfl (i_seq rfl (c_tup (a_cons c_non (a_cons c_bl (a_cons c_str (a_cons (c_tup (a_cons c_int a_nil)) (a_cons (c_lst (a_cons c_int a_nil)) a_nil))))))) (g_one 3 hN) (s_cons (s_if (t_not (t_val (c_ccl (gs := [238]) (us := ["_law_web", "_law_at", "_law_bad"]) rfl (hCb 0 _ _ _ rfl) hr rfl px rfl rfl (by decide) (show ∀ g ∈ ([238] : List Nat), freeB (defScope (top 51)) (LX g).scope = true from by decide +kernel) rfl (show ∀ y ∈ (["_law_web", "_law_at", "_law_bad"] : List Str), (defScope (top 51)).names.lookup y = some .cell ∨ (defScope (top 51)).names.lookup y = some .free from by decide +kernel) (a_cons (c_lam (g := 238) rfl rfl (show 238 ∈ ([236, 237, 238, 239, 240] : List Nat) from by decide) tb rfl hmT huT rfl rfl rfl (hfree := (show freeB (defScope (top 51)) (LX 238).scope = true from by decide +kernel))) (a_cons c_int a_nil))))) (s_cons (s_ret (r_of c_bl))
      s_nil) s_nil)
      s_nil)) ?_
  refine s_cons (s_asg hN (c_lrng1 rfl rfl FX.m_list rfl FX.m_range c_int)) ?_
  refine s_cons (s_for po rfl (i_seq rfl (c_tup (a_cons (c_op o_sub (c_var 1) c_int) (a_cons c_int (a_cons (c_neg c_int) (a_cons c_non (a_cons c_str a_nil))))))) (g_one 3 hN) (s_cons (s_if (t_not (t_val (c_ccl (gs := [239]) (us := ["_law_web", "_law_places", "_law_bad", "_law_at"]) rfl (hCb 0 _ _ _ rfl) hr rfl px rfl rfl (by decide) (show ∀ g ∈ ([239] : List Nat), freeB (defScope (top 51)) (LX g).scope = true from by decide +kernel) rfl (show ∀ y ∈ (["_law_web", "_law_places", "_law_bad", "_law_at"] : List Str), (defScope (top 51)).names.lookup y = some .cell ∨ (defScope (top 51)).names.lookup y = some .free from by decide +kernel) (a_cons (c_lam (g := 239) rfl rfl (show 239 ∈ ([236, 237, 238, 239, 240] : List Nat) from by decide) tb rfl hmT huT rfl rfl rfl (hfree := (show freeB (defScope (top 51)) (LX 239).scope = true from by decide +kernel))) (a_cons c_int a_nil))))) (s_cons (s_ret (r_of c_bl))
      s_nil) s_nil)
      s_nil)) ?_
  refine s_cons (s_ret (r_of (c_ccl (gs := [240]) (us := ["_law_web", "_law_places"]) rfl (hCb 0 _ _ _ rfl) hr rfl px rfl rfl (by decide) (show ∀ g ∈ ([240] : List Nat), freeB (defScope (top 51)) (LX g).scope = true from by decide +kernel) rfl (show ∀ y ∈ (["_law_web", "_law_places"] : List Str), (defScope (top 51)).names.lookup y = some .cell ∨ (defScope (top 51)).names.lookup y = some .free from by decide +kernel) (a_cons (c_lam (g := 240) rfl rfl (show 240 ∈ ([236, 237, 238, 239, 240] : List Nat) from by decide) tb rfl hmT huT rfl rfl rfl (hfree := (show freeB (defScope (top 51)) (LX 240).scope = true from by decide +kernel))) (a_cons c_int a_nil))))) ?_
  exact s_nil
theorem sc33 : FnScope ["_law_at", "_law_web", "_law_groups", "_law_lots", "_law_bad", "_law_some", "_law_place"] ["_law_at"] (defScope (top 52)) := ⟨rfl, rfl, rfl, by decide +kernel, rfl, by decide +kernel, by decide +kernel⟩
theorem b33 (FX : Fx K mg) (hF : AllF P w K mg base T k) (hM : AllM P w K mg base T k) (hI : AllI P w K mg base T) (hK : AllK P w K mg base T k) (hCb : AllC P w K mg base T k) (hk2 : 2 ≤ k) {f c Pt : Addr} (tb : TabB base mg c Pt) (hmT : (Pt, ((("_law_groups_right" : Str) ++ (".<locals>." : Str)) ++ ("<lambda>" : Str))) ∈ TabT.T) (huT : ∀ p ∈ TabT.T, p.1 = Pt → p.2 = ((("_law_groups_right" : Str) ++ (".<locals>." : Str)) ++ ("<lambda>" : Str))) (A : Around) (outer : List Env) (s : Shared) (H : Hp) (E : XK) (hr : Room k (A.deeper (envOfC "_law_groups_right" (defScope (top 52)) s.heap.objs.size f (.ref c)))) :
    PSs (cxOf (L2N.CX P w) P w K mg base ["_law_at", "_law_web", "_law_groups", "_law_lots", "_law_bad", "_law_some", "_law_place"] "_law_groups_right" (defScope (top 52)) f (.ref c) A outer s H E) (defBody (top 52)) (rdSs ((Wof K).wl (some (cwOf "_law_groups_right" (defScope (top 52)) s.heap.objs.size f (.ref c) LX [241, 242, 243]))) E T fu_law_groups_right_2.body) := by
  have hN : (["_law_at", "_law_web", "_law_groups", "_law_lots", "_law_bad", "_law_some", "_law_place"] : List Str).Nodup := sc33.nd
  have hu0 : (A.deeper (envOfC "_law_groups_right" (defScope (top 52)) s.heap.objs.size f (.ref c))).units < cLine := by have := hr.un; omega
  have hu4 : (A.deeper (envOfC "_law_groups_right" (defScope (top 52)) s.heap.objs.size f (.ref c))).units + 64 < cLine := by have := hr.un; omega
  have hu5 : (A.deeper (envOfC "_law_groups_right" (defScope (top 52)) s.heap.objs.size f (.ref c))).units + 65 < cLine := by have := hr.un; omega
  have tk : L2N.Takes (cxOf (L2N.CX P w) P w K mg base ["_law_at", "_law_web", "_law_groups", "_law_lots", "_law_bad", "_law_some", "_law_place"] "_law_groups_right" (defScope (top 52)) f (.ref c) A outer s H E) (fun cls d _ H => E cls d H) := L2N.takes_of rfl rfl rfl rfl
  have px : Passes (L2N.CX P w) (cxOf (L2N.CX P w) P w K mg base ["_law_at", "_law_web", "_law_groups", "_law_lots", "_law_bad", "_law_some", "_law_place"] "_law_groups_right" (defScope (top 52)) f (.ref c) A outer s H E) E := L2N.passes_call tk fun _ _ _ _ h => h
  have po : PassesOwn (model P w) (cxOf (L2N.CX P w) P w K mg base ["_law_at", "_law_web", "_law_groups", "_law_lots", "_law_bad", "_law_some", "_law_place"] "_law_groups_right" (defScope (top 52)) f (.ref c) A outer s H E).A (cxOf (L2N.CX P w) P w K mg base ["_law_at", "_law_web", "_law_groups", "_law_lots", "_law_bad", "_law_some", "_law_place"] "_law_groups_right" (defScope (top 52)) f (.ref c) A outer s H E).env (cxOf (L2N.CX P w) P w K mg base ["_law_at", "_law_web", "_law_groups", "_law_lots", "_law_bad", "_law_some", "_law_place"] "_law_groups_right" (defScope (top 52)) f (.ref c) A outer s H E).xe := passes_of rfl
  refine s_cons (s_asg hN (c_tup (a_cons c_int (a_cons (c_comp (own := [("_law_place", 6)]) rfl hN (i_rng1 rfl FX.m_range c_int) (show BlkOk ["_law_at", "_law_web", "_law_groups", "_law_lots", "_law_bad", "_law_some", "_law_place"] (defScope (top 52)) _ _ from blkOk_by (by decide +kernel)) rfl (fun _ _ _ _ _ => (g_one 6 hN)) (fun _ _ _ _ _ => x_nil) (fun _ _ _ _ _ => (c_tup (a_cons (c_var 6) (a_cons (c_op o_add (c_var 6) c_int) a_nil))))) a_nil)))) ?_
  refine s_cons (by first | exact s_asg hN (c_comp (own := [("_law_place", 6)]) rfl hN (i_rng1 rfl FX.m_range c_int) (show BlkOk ["_law_at", "_law_web", "_law_groups", "_law_lots", "_law_bad", "_law_some", "_law_place"] (defScope (top 52)) _ _ from blkOk_by (by decide +kernel)) rfl (fun _ _ _ _ _ => (g_one 6 hN)) (fun _ _ _ _ _ => x_nil) (fun _ _ _ _ _ => (c_lst (a_cons (c_var 6) (a_cons (c_op o_add (c_var 6) c_int) a_nil))))) | exact s_asgLc (own := [("_law_place", 6)]) rfl hN (i_rng1 rfl FX.m_range c_int) (show BlkOk ["_law_at", "_law_web", "_law_groups", "_law_lots", "_law_bad", "_law_some", "_law_place"] (defScope (top 52)) _ _ from blkOk_by (by decide +kernel)) rfl (fun _ _ _ _ _ => (g_one 6 hN)) (fun _ _ _ _ _ => x_nil) (fun _ _ _ _ _ => (c_lst (a_cons (c_var 6) (a_cons (c_op o_add (c_var 6) c_int) a_nil))))) ?_
  refine s_cons (s_asg hN (c_lst (a_cons (c_lst (a_cons (c_var 0) a_nil)) (a_cons (c_lst (a_cons (c_op o_add (c_var 0) c_int) (a_cons (c_var 0) a_nil))) (a_cons (c_lst (a_cons (c_var 0) (a_cons (c_op o_mod (c_op o_add (c_var 0) c_int) c_int) a_nil))) (a_cons (c_lst a_nil) (a_cons c_non (a_cons (c_tup (a_cons (c_var 0) (a_cons (c_op o_add (c_var 0) c_int) a_nil))) (a_cons (c_lst (a_cons (c_var 0) (a_cons (c_var 0) (a_cons (c_op o_add (c_var 0) c_int) a_nil)))) a_nil))))))))) ?_
  refine s_cons (s_for po rfl (i_seq rfl (c_op o_add (c_var 3) (c_lst (a_cons (c_lst (a_cons (c_var 0) (a_cons c_non a_nil))) (a_cons (c_lst (a_cons (c_var 0) (a_cons c_int a_nil))) a_nil))))) (g_one 4 hN) (s_cons (s_asg hN (c_op o_add (c_op o_add (c_slc rfl (c_var 2) o_no (o_so (c_var 0))) (c_lst (a_cons (c_var 4) a_nil))) (c_slc rfl (c_var 2) (o_so (c_op o_add (c_var 0) c_int)) o_no)))
      (s_cons (s_if (t_not (t_val (c_ccl (gs := [241]) (us := ["_law_web", "_law_some"]) rfl (hCb 0 _ _ _ rfl) hr rfl px rfl rfl (by decide) (show ∀ g ∈ ([241] : List Nat), freeB (defScope (top 52)) (LX g).scope = true from by decide +kernel) rfl (show ∀ y ∈ (["_law_web", "_law_some"] : List Str), (defScope (top 52)).names.lookup y = some .cell ∨ (defScope (top 52)).names.lookup y = some .free from by decide +kernel) (a_cons (c_lam (g := 241) rfl rfl (show 241 ∈ ([241, 242, 243] : List Nat) from by decide) tb rfl hmT huT rfl rfl rfl (hfree := (show freeB (defScope (top 52)) (LX 241).scope = true from by decide +kernel))) (a_cons c_int a_nil))))) (s_cons (s_ret (r_of c_bl))
      s_nil) s_nil)
      (s_cons (s_if (t_not (t_val (c_ccl (gs := [242]) (us := ["_law_web", "_law_some"]) rfl (hCb 0 _ _ _ rfl) hr rfl px rfl rfl (by decide) (show ∀ g ∈ ([242] : List Nat), freeB (defScope (top 52)) (LX g).scope = true from by decide +kernel) rfl (show ∀ y ∈ (["_law_web", "_law_some"] : List Str), (defScope (top 52)).names.lookup y = some .cell ∨ (defScope (top 52)).names.lookup y = some .free from by decide +kernel) (a_cons (c_lam (g := 242) rfl rfl (show 242 ∈ ([241, 242, 243] : List Nat) from by decide) tb rfl hmT huT rfl rfl rfl (hfree := (show freeB (defScope (top 52)) (LX 242).scope = true from by decide +kernel))) (a_cons c_int a_nil))))) (s_cons (s_ret (r_of c_bl))
      s_nil) s_nil)
      s_nil)))) ?_
  refine s_cons (s_for po rfl (i_seq rfl (c_tup (a_cons (c_op o_add (c_slc rfl (c_var 2) o_no (o_so (c_var 0))) (c_slc rfl (c_var 2) (o_so (c_op o_add (c_var 0) c_int)) o_no)) (a_cons (c_op o_add (c_slc rfl (c_var 2) o_no (o_so (c_op o_add (c_var 0) c_int))) (c_slc rfl (c_var 2) (o_so (c_var 0)) o_no)) (a_cons (c_rev (c_var 2)) a_nil))))) (g_one 5 hN) (s_cons (s_if (t_not (t_val (c_ccl (gs := [243]) (us := ["_law_web", "_law_some"]) rfl (hCb 0 _ _ _ rfl) hr rfl px rfl rfl (by decide) (show ∀ g ∈ ([243] : List Nat), freeB (defScope (top 52)) (LX g).scope = true from by decide +kernel) rfl (show ∀ y ∈ (["_law_web", "_law_some"] : List Str), (defScope (top 52)).names.lookup y = some .cell ∨ (defScope (top 52)).names.lookup y = some .free from by decide +kernel) (a_cons (c_lam (g := 243) rfl rfl (show 243 ∈ ([241, 242, 243] : List Nat) from by decide) tb rfl hmT huT rfl rfl rfl (hfree := (show freeB (defScope (top 52)) (LX 243).scope = true from by decide +kernel))) (a_cons c_int a_nil))))) (s_cons (s_ret (r_of c_bl))
      s_nil) s_nil)
      s_nil)) ?_
  refine s_cons (s_ret (r_of (c_and (c_cmp (o_eq rfl hu4) (c_calx rfl (FnF.toK (hF 26 _ _ _ rfl)) hr rfl px (a_cons (c_var 1) (a_cons (c_var 2) (a_cons (c_op o_mul (c_lst (a_cons c_int a_nil)) c_int) a_nil)))) c_int (by with_unfolding_all rfl)) (c_one (c_cmp (o_eq rfl hu4) (c_bi (b_len rfl) rfl FX.m_len rfl (a_cons (c_sub rfl (c_calx rfl (FnF.toK (hF 22 _ _ _ rfl)) hr rfl px (a_cons (c_var 1) (a_cons (c_var 2) a_nil))) c_int) a_nil)) c_int (by with_unfolding_all rfl)))))) ?_
  exact s_nil
theorem sc34 : FnScope ["_law_ask", "_law_due", "_law_found", "error", "_law_one"] ["_law_ask", "_law_due"] (defScope (top 47)) := ⟨rfl, rfl, rfl, by decide +kernel, rfl, by decide +kernel, by decide +kernel⟩
theorem b34 (FX : Fx K mg) (hF : AllF P w K mg base T k) (hM : AllM P w K mg base T k) (hI : AllI P w K mg base T) (hL : AllL P w K mg base T k) (hk2 : 2 ≤ k) {f : Addr} {cw : CW} (cdv : Value) (A : Around) (outer : List Env) (s : Shared) (H : Hp) (E : XK) (hC : CtxC (cxOf (L2N.CX P w) P w K mg base ["_law_ask", "_law_due", "_law_found", "error", "_law_one"] "_law_refused" (defScope (top 47)) f cdv A outer s H E) cw LX U) (hr : Room k (A.deeper (envOfC "_law_refused" (defScope (top 47)) s.heap.objs.size f cdv))) :
    PSs (cxOf (L2N.CX P w) P w K mg base ["_law_ask", "_law_due", "_law_found", "error", "_law_one"] "_law_refused" (defScope (top 47)) f cdv A outer s H E) (defBody (top 47)) (rdSs ((Wof K).wl (some cw)) E T fu_law_refused_3.body) := by
  have hN : (["_law_ask", "_law_due", "_law_found", "error", "_law_one"] : List Str).Nodup := sc34.nd
  have hu0 : (A.deeper (envOfC "_law_refused" (defScope (top 47)) s.heap.objs.size f cdv)).units < cLine := by have := hr.un; omega
  have hu4 : (A.deeper (envOfC "_law_refused" (defScope (top 47)) s.heap.objs.size f cdv)).units + 64 < cLine := by have := hr.un; omega
  have hu5 : (A.deeper (envOfC "_law_refused" (defScope (top 47)) s.heap.objs.size f cdv)).units + 65 < cLine := by have := hr.un; omega
  have tk : L2N.Takes (cxOf (L2N.CX P w) P w K mg base ["_law_ask", "_law_due", "_law_found", "error", "_law_one"] "_law_refused" (defScope (top 47)) f cdv A outer s H E) (fun cls d _ H => E cls d H) := L2N.takes_of rfl rfl rfl rfl
  have px : Passes (L2N.CX P w) (cxOf (L2N.CX P w) P w K mg base ["_law_ask", "_law_due", "_law_found", "error", "_law_one"] "_law_refused" (defScope (top 47)) f cdv A outer s H E) E := L2N.passes_call tk fun _ _ _ _ h => h
  have po : PassesOwn (model P w) (cxOf (L2N.CX P w) P w K mg base ["_law_ask", "_law_due", "_law_found", "error", "_law_one"] "_law_refused" (defScope (top 47)) f cdv A outer s H E).A (cxOf (L2N.CX P w) P w K mg base ["_law_ask", "_law_due", "_law_found", "error", "_law_one"] "_law_refused" (defScope (top 47)) f cdv A outer s H E).env (cxOf (L2N.CX P w) P w K mg base ["_law_ask", "_law_due", "_law_found", "error", "_law_one"] "_law_refused" (defScope (top 47)) f cdv A outer s H E).xe := passes_of rfl
  refine s_cons (s_asg hN (c_lst a_nil)) ?_
  refine s_cons (s_tryA (i := 3) rfl rfl rfl rfl hN rfl rfl ⟨rfl, rfl, .inl FX.c_0⟩ tk FX.exm (fun V pn xe tkv => c_clcS0 rfl (hC.tr pn xe) hL hr (L2N.passAt tkv) rfl (.inl rfl) rfl rfl) (fun a oe C pn hC1 z fl => (s_cons (s_asg hN (c_lst (a_cons (c_isX rfl rfl List.mem_cons_self (FX.exc _ (exc_in hC1)) z.zc fl (.own _) rfl (FX.kx_BadWeb _ (exc_in hC1)) rfl FX.m_isinstance (pe_glob rfl FX.c_1 rfl) (c_var 3)) (a_cons (c_isX rfl rfl List.mem_cons_self (FX.exc _ (exc_in hC1)) z.zc fl (.own _) rfl (FX.kx_BadPlaces _ (exc_in hC1)) rfl FX.m_isinstance (pe_glob rfl FX.c_2 rfl) (c_var 3)) (a_cons (c_isX rfl rfl List.mem_cons_self (FX.exc _ (exc_in hC1)) z.zc fl (.own _) rfl (FX.kx_BadOrder _ (exc_in hC1)) rfl FX.m_isinstance (pe_glob rfl FX.c_3 rfl) (c_var 3)) a_nil)))))
      (s_cons (s_asg hN (c_op o_add (c_var 2) (c_lst (a_cons (c_isX rfl rfl List.mem_cons_self (FX.exc _ (exc_in hC1)) z.zc fl (.own _) rfl (FX.kx_BadGroups _ (exc_in hC1)) rfl FX.m_isinstance (pe_glob rfl FX.c_8 rfl) (c_var 3)) (a_cons (c_isX rfl rfl List.mem_cons_self (FX.exc _ (exc_in hC1)) z.zc fl (.own _) rfl (FX.kx_BadRow _ (exc_in hC1)) rfl FX.m_isinstance (pe_glob rfl FX.c_9 rfl) (c_var 3)) (a_cons (c_isX rfl rfl List.mem_cons_self (FX.exc _ (exc_in hC1)) z.zc fl (.own _) rfl (FX.kx_BadColours _ (exc_in hC1)) rfl FX.m_isinstance (pe_glob rfl FX.c_10 rfl) (c_var 3)) a_nil))))))
      (s_cons (s_asg hN (c_op o_add (c_var 2) (c_lst (a_cons (c_isX rfl rfl List.mem_cons_self (FX.exc _ (exc_in hC1)) z.zc fl (.own _) rfl (FX.kx_TooMany _ (exc_in hC1)) rfl FX.m_isinstance (pe_glob rfl FX.c_4 rfl) (c_var 3)) (a_cons (c_isX rfl rfl List.mem_cons_self (FX.exc _ (exc_in hC1)) z.zc fl (.own _) rfl (FX.kx_NoCover _ (exc_in hC1)) rfl FX.m_isinstance (pe_glob rfl FX.c_11 rfl) (c_var 3)) a_nil)))))
      s_nil))))) ?_
  refine s_cons (s_ret (r_of (c_cmp (o_eq rfl hu4) (c_var 2) (c_comp (own := [("_law_one", 4)]) rfl hN (i_rng1 rfl FX.m_range c_int) (show BlkOk ["_law_ask", "_law_due", "_law_found", "error", "_law_one"] (defScope (top 47)) _ _ from blkOk_by (by decide +kernel)) rfl (fun _ _ _ _ _ => (g_one 4 hN)) (fun _ _ _ _ _ => x_nil) (fun _ _ _ _ _ => (c_cmp (o_eq rfl hu4) (c_var 4) (c_var 1) (by with_unfolding_all rfl)))) (by with_unfolding_all rfl)))) ?_
  exact s_nil
theorem ls230 : LScope ["_law_web"] [] (U 230) (LX 230).scope := lscope_by (by decide +kernel)
theorem bl230 (FX : Fx K mg) (hF : AllF P w K mg base T k) (hM : AllM P w K mg base T k) (hI : AllI P w K mg base T) (cw : CW) (c a : Addr) (A : Around) (outer : List Env) (s : Shared) (H : Hp) (E : XK) (hr : Room k (A.deeper (NdefX.envF (lamNF cw 230 LX c) a s.heap.objs.size))) :
    PE (lcx (L2N.CX P w) P w K mg base ["_law_web"] cw 230 LX c a A outer s H E) (LX 230).body (rdE (Wof K) E T fl_k26_0_e) := by
  have hN : (["_law_web"] : List Str).Nodup := ls230.nd
  have hu0 : (A.deeper (NdefX.envF (lamNF cw 230 LX c) a s.heap.objs.size)).units < cLine := by have := hr.un; omega
  have hu4 : (A.deeper (NdefX.envF (lamNF cw 230 LX c) a s.heap.objs.size)).units + 64 < cLine := by have := hr.un; omega
  have hu5 : (A.deeper (NdefX.envF (lamNF cw 230 LX c) a s.heap.objs.size)).units + 65 < cLine := by have := hr.un; omega
  have tk : L2N.Takes (lcx (L2N.CX P w) P w K mg base ["_law_web"] cw 230 LX c a A outer s H E) (fun cls d _ H => E cls d H) := L2N.takes_of rfl rfl rfl rfl
  have px : Passes (L2N.CX P w) (lcx (L2N.CX P w) P w K mg base ["_law_web"] cw 230 LX c a A outer s H E) E := L2N.passes_call tk fun _ _ _ _ h => h
  exact (c_cal rfl (hF 8 _ _ _ rfl) hr rfl px (a_cons (c_var 0) a_nil))
theorem ls231 : LScope ["_law_web"] [] (U 231) (LX 231).scope := lscope_by (by decide +kernel)
theorem bl231 (FX : Fx K mg) (hF : AllF P w K mg base T k) (hM : AllM P w K mg base T k) (hI : AllI P w K mg base T) (cw : CW) (c a : Addr) (A : Around) (outer : List Env) (s : Shared) (H : Hp) (E : XK) (hr : Room k (A.deeper (NdefX.envF (lamNF cw 231 LX c) a s.heap.objs.size))) :
    PE (lcx (L2N.CX P w) P w K mg base ["_law_web"] cw 231 LX c a A outer s H E) (LX 231).body (rdE (Wof K) E T fl_k26_1_e) := by
  have hN : (["_law_web"] : List Str).Nodup := ls231.nd
  have hu0 : (A.deeper (NdefX.envF (lamNF cw 231 LX c) a s.heap.objs.size)).units < cLine := by have := hr.un; omega
  have hu4 : (A.deeper (NdefX.envF (lamNF cw 231 LX c) a s.heap.objs.size)).units + 64 < cLine := by have := hr.un; omega
  have hu5 : (A.deeper (NdefX.envF (lamNF cw 231 LX c) a s.heap.objs.size)).units + 65 < cLine := by have := hr.un; omega
  have tk : L2N.Takes (lcx (L2N.CX P w) P w K mg base ["_law_web"] cw 231 LX c a A outer s H E) (fun cls d _ H => E cls d H) := L2N.takes_of rfl rfl rfl rfl
  have px : Passes (L2N.CX P w) (lcx (L2N.CX P w) P w K mg base ["_law_web"] cw 231 LX c a A outer s H E) E := L2N.passes_call tk fun _ _ _ _ h => h
  exact (c_cal rfl (hF 10 _ _ _ rfl) hr rfl px (a_cons (c_var 0) a_nil))
theorem ls232 : LScope ["_law_web"] [] (U 232) (LX 232).scope := lscope_by (by decide +kernel)
theorem bl232 (FX : Fx K mg) (hF : AllF P w K mg base T k) (hM : AllM P w K mg base T k) (hI : AllI P w K mg base T) (cw : CW) (c a : Addr) (A : Around) (outer : List Env) (s : Shared) (H : Hp) (E : XK) (hr : Room k (A.deeper (NdefX.envF (lamNF cw 232 LX c) a s.heap.objs.size))) :
    PE (lcx (L2N.CX P w) P w K mg base ["_law_web"] cw 232 LX c a A outer s H E) (LX 232).body (rdE (Wof K) E T fl_k26_2_e) := by
  have hN : (["_law_web"] : List Str).Nodup := ls232.nd
  have hu0 : (A.deeper (NdefX.envF (lamNF cw 232 LX c) a s.heap.objs.size)).units < cLine := by have := hr.un; omega
  have hu4 : (A.deeper (NdefX.envF (lamNF cw 232 LX c) a s.heap.objs.size)).units + 64 < cLine := by have := hr.un; omega
  have hu5 : (A.deeper (NdefX.envF (lamNF cw 232 LX c) a s.heap.objs.size)).units + 65 < cLine := by have := hr.un; omega
  have tk : L2N.Takes (lcx (L2N.CX P w) P w K mg base ["_law_web"] cw 232 LX c a A outer s H E) (fun cls d _ H => E cls d H) := L2N.takes_of rfl rfl rfl rfl
  have px : Passes (L2N.CX P w) (lcx (L2N.CX P w) P w K mg base ["_law_web"] cw 232 LX c a A outer s H E) E := L2N.passes_call tk fun _ _ _ _ h => h
  exact (c_cal rfl (hF 27 _ _ _ rfl) hr rfl px (a_cons (c_var 0) a_nil))
theorem ls233 : LScope ["_law_web"] [] (U 233) (LX 233).scope := lscope_by (by decide +kernel)
theorem bl233 (FX : Fx K mg) (hF : AllF P w K mg base T k) (hM : AllM P w K mg base T k) (hI : AllI P w K mg base T) (cw : CW) (c a : Addr) (A : Around) (outer : List Env) (s : Shared) (H : Hp) (E : XK) (hr : Room k (A.deeper (NdefX.envF (lamNF cw 233 LX c) a s.heap.objs.size))) :
    PE (lcx (L2N.CX P w) P w K mg base ["_law_web"] cw 233 LX c a A outer s H E) (LX 233).body (rdE (Wof K) E T fl_k26_3_e) := by
  have hN : (["_law_web"] : List Str).Nodup := ls233.nd
  have hu0 : (A.deeper (NdefX.envF (lamNF cw 233 LX c) a s.heap.objs.size)).units < cLine := by have := hr.un; omega
  have hu4 : (A.deeper (NdefX.envF (lamNF cw 233 LX c) a s.heap.objs.size)).units + 64 < cLine := by have := hr.un; omega
  have hu5 : (A.deeper (NdefX.envF (lamNF cw 233 LX c) a s.heap.objs.size)).units + 65 < cLine := by have := hr.un; omega
  have tk : L2N.Takes (lcx (L2N.CX P w) P w K mg base ["_law_web"] cw 233 LX c a A outer s H E) (fun cls d _ H => E cls d H) := L2N.takes_of rfl rfl rfl rfl
  have px : Passes (L2N.CX P w) (lcx (L2N.CX P w) P w K mg base ["_law_web"] cw 233 LX c a A outer s H E) E := L2N.passes_call tk fun _ _ _ _ h => h
  exact (c_cal rfl (hF 23 _ _ _ rfl) hr rfl px (a_cons (c_var 0) a_nil))
theorem ls234 : LScope ["_law_web"] [] (U 234) (LX 234).scope := lscope_by (by decide +kernel)
theorem bl234 (FX : Fx K mg) (hF : AllF P w K mg base T k) (hM : AllM P w K mg base T k) (hI : AllI P w K mg base T) (cw : CW) (c a : Addr) (A : Around) (outer : List Env) (s : Shared) (H : Hp) (E : XK) (hr : Room k (A.deeper (NdefX.envF (lamNF cw 234 LX c) a s.heap.objs.size))) :
    PE (lcx (L2N.CX P w) P w K mg base ["_law_web"] cw 234 LX c a A outer s H E) (LX 234).body (rdE (Wof K) E T fl_k26_4_e) := by
  have hN : (["_law_web"] : List Str).Nodup := ls234.nd
  have hu0 : (A.deeper (NdefX.envF (lamNF cw 234 LX c) a s.heap.objs.size)).units < cLine := by have := hr.un; omega
  have hu4 : (A.deeper (NdefX.envF (lamNF cw 234 LX c) a s.heap.objs.size)).units + 64 < cLine := by have := hr.un; omega
  have hu5 : (A.deeper (NdefX.envF (lamNF cw 234 LX c) a s.heap.objs.size)).units + 65 < cLine := by have := hr.un; omega
  have tk : L2N.Takes (lcx (L2N.CX P w) P w K mg base ["_law_web"] cw 234 LX c a A outer s H E) (fun cls d _ H => E cls d H) := L2N.takes_of rfl rfl rfl rfl
  have px : Passes (L2N.CX P w) (lcx (L2N.CX P w) P w K mg base ["_law_web"] cw 234 LX c a A outer s H E) E := L2N.passes_call tk fun _ _ _ _ h => h
  exact (c_cal rfl (hF 25 _ _ _ rfl) hr rfl px (a_cons (c_var 0) (a_cons c_non a_nil)))
theorem ls235 : LScope ["_law_web"] [] (U 235) (LX 235).scope := lscope_by (by decide +kernel)
theorem bl235 (FX : Fx K mg) (hF : AllF P w K mg base T k) (hM : AllM P w K mg base T k) (hI : AllI P w K mg base T) (cw : CW) (c a : Addr) (A : Around) (outer : List Env) (s : Shared) (H : Hp) (E : XK) (hr : Room k (A.deeper (NdefX.envF (lamNF cw 235 LX c) a s.heap.objs.size))) :
    PE (lcx (L2N.CX P w) P w K mg base ["_law_web"] cw 235 LX c a A outer s H E) (LX 235).body (rdE (Wof K) E T fl_k26_5_e) := by
  have hN : (["_law_web"] : List Str).Nodup := ls235.nd
  have hu0 : (A.deeper (NdefX.envF (lamNF cw 235 LX c) a s.heap.objs.size)).units < cLine := by have := hr.un; omega
  have hu4 : (A.deeper (NdefX.envF (lamNF cw 235 LX c) a s.heap.objs.size)).units + 64 < cLine := by have := hr.un; omega
  have hu5 : (A.deeper (NdefX.envF (lamNF cw 235 LX c) a s.heap.objs.size)).units + 65 < cLine := by have := hr.un; omega
  have tk : L2N.Takes (lcx (L2N.CX P w) P w K mg base ["_law_web"] cw 235 LX c a A outer s H E) (fun cls d _ H => E cls d H) := L2N.takes_of rfl rfl rfl rfl
  have px : Passes (L2N.CX P w) (lcx (L2N.CX P w) P w K mg base ["_law_web"] cw 235 LX c a A outer s H E) E := L2N.passes_call tk fun _ _ _ _ h => h
  exact (c_cal rfl (hF 17 _ _ _ rfl) hr rfl px (a_cons (c_tup (a_cons c_int (a_cons (c_lst a_nil) a_nil))) (a_cons (c_var 0) a_nil)))
theorem ls236 : LScope ["_law_web", "_law_order"] [] (U 236) (LX 236).scope := lscope_by (by decide +kernel)
theorem bl236 (FX : Fx K mg) (hF : AllF P w K mg base T k) (hM : AllM P w K mg base T k) (hI : AllI P w K mg base T) (cw : CW) (c a : Addr) (A : Around) (outer : List Env) (s : Shared) (H : Hp) (E : XK) (hr : Room k (A.deeper (NdefX.envF (lamNF cw 236 LX c) a s.heap.objs.size))) :
    PE (lcx (L2N.CX P w) P w K mg base ["_law_web", "_law_order"] cw 236 LX c a A outer s H E) (LX 236).body (rdE (Wof K) E T fl_k26_6_e) := by
  have hN : (["_law_web", "_law_order"] : List Str).Nodup := ls236.nd
  have hu0 : (A.deeper (NdefX.envF (lamNF cw 236 LX c) a s.heap.objs.size)).units < cLine := by have := hr.un; omega
  have hu4 : (A.deeper (NdefX.envF (lamNF cw 236 LX c) a s.heap.objs.size)).units + 64 < cLine := by have := hr.un; omega
  have hu5 : (A.deeper (NdefX.envF (lamNF cw 236 LX c) a s.heap.objs.size)).units + 65 < cLine := by have := hr.un; omega
  have tk : L2N.Takes (lcx (L2N.CX P w) P w K mg base ["_law_web", "_law_order"] cw 236 LX c a A outer s H E) (fun cls d _ H => E cls d H) := L2N.takes_of rfl rfl rfl rfl
  have px : Passes (L2N.CX P w) (lcx (L2N.CX P w) P w K mg base ["_law_web", "_law_order"] cw 236 LX c a A outer s H E) E := L2N.passes_call tk fun _ _ _ _ h => h
  exact (c_cal rfl (hF 16 _ _ _ rfl) hr rfl px (a_cons (c_var 0) (a_cons (c_op o_add (c_slc rfl (c_var 1) o_no (o_so c_int)) (c_lst (a_cons c_bl (a_cons c_int a_nil)))) a_nil)))
theorem ls237 : LScope ["_law_web", "_law_order", "_law_bad", "_law_at"] [] (U 237) (LX 237).scope := lscope_by (by decide +kernel)
theorem bl237 (FX : Fx K mg) (hF : AllF P w K mg base T k) (hM : AllM P w K mg base T k) (hI : AllI P w K mg base T) (cw : CW) (c a : Addr) (A : Around) (outer : List Env) (s : Shared) (H : Hp) (E : XK) (hr : Room k (A.deeper (NdefX.envF (lamNF cw 237 LX c) a s.heap.objs.size))) :
    PE (lcx (L2N.CX P w) P w K mg base ["_law_web", "_law_order", "_law_bad", "_law_at"] cw 237 LX c a A outer s H E) (LX 237).body (rdE (Wof K) E T fl_k26_7_e) := by
  have hN : (["_law_web", "_law_order", "_law_bad", "_law_at"] : List Str).Nodup := ls237.nd
  have hu0 : (A.deeper (NdefX.envF (lamNF cw 237 LX c) a s.heap.objs.size)).units < cLine := by have := hr.un; omega
  have hu4 : (A.deeper (NdefX.envF (lamNF cw 237 LX c) a s.heap.objs.size)).units + 64 < cLine := by have := hr.un; omega
  have hu5 : (A.deeper (NdefX.envF (lamNF cw 237 LX c) a s.heap.objs.size)).units + 65 < cLine := by have := hr.un; omega
  have tk : L2N.Takes (lcx (L2N.CX P w) P w K mg base ["_law_web", "_law_order", "_law_bad", "_law_at"] cw 237 LX c a A outer s H E) (fun cls d _ H => E cls d H) := L2N.takes_of rfl rfl rfl rfl
  have px : Passes (L2N.CX P w) (lcx (L2N.CX P w) P w K mg base ["_law_web", "_law_order", "_law_bad", "_law_at"] cw 237 LX c a A outer s H E) E := L2N.passes_call tk fun _ _ _ _ h => h
  exact (c_cal rfl (hF 16 _ _ _ rfl) hr rfl px (a_cons (c_var 0) (a_cons (c_op o_add (c_op o_add (c_slc rfl (c_var 1) o_no (o_so (c_var 3))) (c_lst (a_cons (c_var 2) a_nil))) (c_slc rfl (c_var 1) (o_so (c_op o_add (c_var 3) c_int)) o_no)) a_nil)))
theorem ls238 : LScope ["_law_web", "_law_at", "_law_bad"] [] (U 238) (LX 238).scope := lscope_by (by decide +kernel)
theorem bl238 (FX : Fx K mg) (hF : AllF P w K mg base T k) (hM : AllM P w K mg base T k) (hI : AllI P w K mg base T) (cw : CW) (c a : Addr) (A : Around) (outer : List Env) (s : Shared) (H : Hp) (E : XK) (hr : Room k (A.deeper (NdefX.envF (lamNF cw 238 LX c) a s.heap.objs.size))) :
    PE (lcx (L2N.CX P w) P w K mg base ["_law_web", "_law_at", "_law_bad"] cw 238 LX c a A outer s H E) (LX 238).body (rdE (Wof K) E T fl_k26_8_e) := by
  have hN : (["_law_web", "_law_at", "_law_bad"] : List Str).Nodup := ls238.nd
  have hu0 : (A.deeper (NdefX.envF (lamNF cw 238 LX c) a s.heap.objs.size)).units < cLine := by have := hr.un; omega
  have hu4 : (A.deeper (NdefX.envF (lamNF cw 238 LX c) a s.heap.objs.size)).units + 64 < cLine := by have := hr.un; omega
  have hu5 : (A.deeper (NdefX.envF (lamNF cw 238 LX c) a s.heap.objs.size)).units + 65 < cLine := by have := hr.un; omega
  have tk : L2N.Takes (lcx (L2N.CX P w) P w K mg base ["_law_web", "_law_at", "_law_bad"] cw 238 LX c a A outer s H E) (fun cls d _ H => E cls d H) := L2N.takes_of rfl rfl rfl rfl
  have px : Passes (L2N.CX P w) (lcx (L2N.CX P w) P w K mg base ["_law_web", "_law_at", "_law_bad"] cw 238 LX c a A outer s H E) E := L2N.passes_call tk fun _ _ _ _ h => h
  exact (c_cal rfl (hF 25 _ _ _ rfl) hr rfl px (a_cons (c_var 0) (a_cons (c_op o_add (c_op o_add (c_op o_mul (c_lst (a_cons c_int a_nil)) (c_var 1)) (c_lst (a_cons (c_var 2) a_nil))) (c_op o_mul (c_lst (a_cons c_int a_nil)) (c_op o_sub c_int (c_var 1)))) a_nil)))
theorem ls239 : LScope ["_law_web", "_law_places", "_law_bad", "_law_at"] [] (U 239) (LX 239).scope := lscope_by (by decide +kernel)
theorem bl239 (FX : Fx K mg) (hF : AllF P w K mg base T k) (hM : AllM P w K mg base T k) (hI : AllI P w K mg base T) (cw : CW) (c a : Addr) (A : Around) (outer : List Env) (s : Shared) (H : Hp) (E : XK) (hr : Room k (A.deeper (NdefX.envF (lamNF cw 239 LX c) a s.heap.objs.size))) :
    PE (lcx (L2N.CX P w) P w K mg base ["_law_web", "_law_places", "_law_bad", "_law_at"] cw 239 LX c a A outer s H E) (LX 239).body (rdE (Wof K) E T fl_k26_9_e) := by
  have hN : (["_law_web", "_law_places", "_law_bad", "_law_at"] : List Str).Nodup := ls239.nd
  have hu0 : (A.deeper (NdefX.envF (lamNF cw 239 LX c) a s.heap.objs.size)).units < cLine := by have := hr.un; omega
  have hu4 : (A.deeper (NdefX.envF (lamNF cw 239 LX c) a s.heap.objs.size)).units + 64 < cLine := by have := hr.un; omega
  have hu5 : (A.deeper (NdefX.envF (lamNF cw 239 LX c) a s.heap.objs.size)).units + 65 < cLine := by have := hr.un; omega
  have tk : L2N.Takes (lcx (L2N.CX P w) P w K mg base ["_law_web", "_law_places", "_law_bad", "_law_at"] cw 239 LX c a A outer s H E) (fun cls d _ H => E cls d H) := L2N.takes_of rfl rfl rfl rfl
  have px : Passes (L2N.CX P w) (lcx (L2N.CX P w) P w K mg base ["_law_web", "_law_places", "_law_bad", "_law_at"] cw 239 LX c a A outer s H E) E := L2N.passes_call tk fun _ _ _ _ h => h
  exact (c_cal rfl (hF 13 _ _ _ rfl) hr rfl px (a_cons (c_var 0) (a_cons (c_op o_add (c_op o_add (c_slc rfl (c_var 1) o_no (o_so (c_var 3))) (c_lst (a_cons (c_var 2) a_nil))) (c_slc rfl (c_var 1) (o_so (c_op o_add (c_var 3) c_int)) o_no)) a_nil)))
theorem ls240 : LScope ["_law_web", "_law_places"] [] (U 240) (LX 240).scope := lscope_by (by decide +kernel)
theorem bl240 (FX : Fx K mg) (hF : AllF P w K mg base T k) (hM : AllM P w K mg base T k) (hI : AllI P w K mg base T) (cw : CW) (c a : Addr) (A : Around) (outer : List Env) (s : Shared) (H : Hp) (E : XK) (hr : Room k (A.deeper (NdefX.envF (lamNF cw 240 LX c) a s.heap.objs.size))) :
    PE (lcx (L2N.CX P w) P w K mg base ["_law_web", "_law_places"] cw 240 LX c a A outer s H E) (LX 240).body (rdE (Wof K) E T fl_k26_10_e) := by
  have hN : (["_law_web", "_law_places"] : List Str).Nodup := ls240.nd
  have hu0 : (A.deeper (NdefX.envF (lamNF cw 240 LX c) a s.heap.objs.size)).units < cLine := by have := hr.un; omega
  have hu4 : (A.deeper (NdefX.envF (lamNF cw 240 LX c) a s.heap.objs.size)).units + 64 < cLine := by have := hr.un; omega
  have hu5 : (A.deeper (NdefX.envF (lamNF cw 240 LX c) a s.heap.objs.size)).units + 65 < cLine := by have := hr.un; omega
  have tk : L2N.Takes (lcx (L2N.CX P w) P w K mg base ["_law_web", "_law_places"] cw 240 LX c a A outer s H E) (fun cls d _ H => E cls d H) := L2N.takes_of rfl rfl rfl rfl
  have px : Passes (L2N.CX P w) (lcx (L2N.CX P w) P w K mg base ["_law_web", "_law_places"] cw 240 LX c a A outer s H E) E := L2N.passes_call tk fun _ _ _ _ h => h
  exact (c_cal rfl (hF 13 _ _ _ rfl) hr rfl px (a_cons (c_var 0) (a_cons (c_op o_add (c_lst (a_cons c_int (a_cons c_bl a_nil))) (c_slc rfl (c_var 1) (o_so c_int) o_no)) a_nil)))
theorem ls241 : LScope ["_law_web", "_law_some"] [] (U 241) (LX 241).scope := lscope_by (by decide +kernel)
theorem bl241 (FX : Fx K mg) (hF : AllF P w K mg base T k) (hM : AllM P w K mg base T k) (hI : AllI P w K mg base T) (cw : CW) (c a : Addr) (A : Around) (outer : List Env) (s : Shared) (H : Hp) (E : XK) (hr : Room k (A.deeper (NdefX.envF (lamNF cw 241 LX c) a s.heap.objs.size))) :
    PE (lcx (L2N.CX P w) P w K mg base ["_law_web", "_law_some"] cw 241 LX c a A outer s H E) (LX 241).body (rdE (Wof K) E T fl_k26_11_e) := by
  have hN : (["_law_web", "_law_some"] : List Str).Nodup := ls241.nd
  have hu0 : (A.deeper (NdefX.envF (lamNF cw 241 LX c) a s.heap.objs.size)).units < cLine := by have := hr.un; omega
  have hu4 : (A.deeper (NdefX.envF (lamNF cw 241 LX c) a s.heap.objs.size)).units + 64 < cLine := by have := hr.un; omega
  have hu5 : (A.deeper (NdefX.envF (lamNF cw 241 LX c) a s.heap.objs.size)).units + 65 < cLine := by have := hr.un; omega
  have tk : L2N.Takes (lcx (L2N.CX P w) P w K mg base ["_law_web", "_law_some"] cw 241 LX c a A outer s H E) (fun cls d _ H => E cls d H) := L2N.takes_of rfl rfl rfl rfl
  have px : Passes (L2N.CX P w) (lcx (L2N.CX P w) P w K mg base ["_law_web", "_law_some"] cw 241 LX c a A outer s H E) E := L2N.passes_call tk fun _ _ _ _ h => h
  exact (c_cal rfl (hF 22 _ _ _ rfl) hr rfl px (a_cons (c_var 0) (a_cons (c_var 1) a_nil)))
theorem ls242 : LScope ["_law_web", "_law_some"] [] (U 242) (LX 242).scope := lscope_by (by decide +kernel)
theorem bl242 (FX : Fx K mg) (hF : AllF P w K mg base T k) (hM : AllM P w K mg base T k) (hI : AllI P w K mg base T) (cw : CW) (c a : Addr) (A : Around) (outer : List Env) (s : Shared) (H : Hp) (E : XK) (hr : Room k (A.deeper (NdefX.envF (lamNF cw 242 LX c) a s.heap.objs.size))) :
    PE (lcx (L2N.CX P w) P w K mg base ["_law_web", "_law_some"] cw 242 LX c a A outer s H E) (LX 242).body (rdE (Wof K) E T fl_k26_12_e) := by
  have hN : (["_law_web", "_law_some"] : List Str).Nodup := ls242.nd
  have hu0 : (A.deeper (NdefX.envF (lamNF cw 242 LX c) a s.heap.objs.size)).units < cLine := by have := hr.un; omega
  have hu4 : (A.deeper (NdefX.envF (lamNF cw 242 LX c) a s.heap.objs.size)).units + 64 < cLine := by have := hr.un; omega
  have hu5 : (A.deeper (NdefX.envF (lamNF cw 242 LX c) a s.heap.objs.size)).units + 65 < cLine := by have := hr.un; omega
  have tk : L2N.Takes (lcx (L2N.CX P w) P w K mg base ["_law_web", "_law_some"] cw 242 LX c a A outer s H E) (fun cls d _ H => E cls d H) := L2N.takes_of rfl rfl rfl rfl
  have px : Passes (L2N.CX P w) (lcx (L2N.CX P w) P w K mg base ["_law_web", "_law_some"] cw 242 LX c a A outer s H E) E := L2N.passes_call tk fun _ _ _ _ h => h
  exact (c_cal rfl (hF 26 _ _ _ rfl) hr rfl px (a_cons (c_var 0) (a_cons (c_var 1) (a_cons c_non a_nil))))
theorem ls243 : LScope ["_law_web", "_law_some"] [] (U 243) (LX 243).scope := lscope_by (by decide +kernel)
theorem bl243 (FX : Fx K mg) (hF : AllF P w K mg base T k) (hM : AllM P w K mg base T k) (hI : AllI P w K mg base T) (cw : CW) (c a : Addr) (A : Around) (outer : List Env) (s : Shared) (H : Hp) (E : XK) (hr : Room k (A.deeper (NdefX.envF (lamNF cw 243 LX c) a s.heap.objs.size))) :
    PE (lcx (L2N.CX P w) P w K mg base ["_law_web", "_law_some"] cw 243 LX c a A outer s H E) (LX 243).body (rdE (Wof K) E T fl_k26_13_e) := by
  have hN : (["_law_web", "_law_some"] : List Str).Nodup := ls243.nd
  have hu0 : (A.deeper (NdefX.envF (lamNF cw 243 LX c) a s.heap.objs.size)).units < cLine := by have := hr.un; omega
  have hu4 : (A.deeper (NdefX.envF (lamNF cw 243 LX c) a s.heap.objs.size)).units + 64 < cLine := by have := hr.un; omega
  have hu5 : (A.deeper (NdefX.envF (lamNF cw 243 LX c) a s.heap.objs.size)).units + 65 < cLine := by have := hr.un; omega
  have tk : L2N.Takes (lcx (L2N.CX P w) P w K mg base ["_law_web", "_law_some"] cw 243 LX c a A outer s H E) (fun cls d _ H => E cls d H) := L2N.takes_of rfl rfl rfl rfl
  have px : Passes (L2N.CX P w) (lcx (L2N.CX P w) P w K mg base ["_law_web", "_law_some"] cw 243 LX c a A outer s H E) E := L2N.passes_call tk fun _ _ _ _ h => h
  exact (c_cal rfl (hF 22 _ _ _ rfl) hr rfl px (a_cons (c_var 0) (a_cons (c_var 1) a_nil)))
end
theorem all_ok [TabT] {P : Program} {w : World} {K : PySem.W.Frag} {mg : Str → Option Value} {base : Heap} (FX : Fx K mg) (c : SaysX fa fb fn K) (tbs : TBs K mg base) : ∀ k, AllF P w K mg base (run GP k) (k + 2) ∧ AllM P w K mg base (run GP k) (k + 2) ∧ AllI P w K mg base (run GP k) ∧ AllK P w K mg base (run GP k) (k + 2) ∧ AllC P w K mg base (run GP k) (k + 2) ∧ AllL P w K mg base (run GP k) (k + 2)
  | 0 => by
    refine ⟨fun p j x ps h => ?_, fun p j C ps h => ?_, fun p j C f x ps h => ?_, fun p j x ps h => ?_, fun p j x ps h => ?_, fun g hg => ?_⟩
    · match p, h with
      | 0, h => cases h; obtain ⟨fd, F⟩ := c.def_ 0 (d := d0) rfl; exact ⟨⟨fd, fn_zero.mono (Nat.zero_le _), FunD.bindsN F fun _ _ _ _ _ _ us hl => match us, hl with | [_], _ => rfl⟩, FX.g_0, F.kp⟩
      | 1, h => cases h; obtain ⟨fd, F⟩ := c.def_ 1 (d := d1) rfl; exact ⟨⟨fd, fn_zero.mono (Nat.zero_le _), FunD.bindsN F fun _ _ _ _ _ _ us hl => match us, hl with | [_, _], _ => rfl⟩, FX.g_1, F.kp⟩
      | 2, h => cases h; obtain ⟨fd, F⟩ := c.def_ 2 (d := d2) rfl; exact ⟨⟨fd, fn_zero.mono (Nat.zero_le _), FunD.bindsN F fun _ _ _ _ _ _ us hl => match us, hl with | [_, _], _ => rfl⟩, FX.g_2, F.kp⟩
      | 3, h => cases h; obtain ⟨fd, F⟩ := c.def_ 3 (d := d3) rfl; exact ⟨⟨fd, fn_zero.mono (Nat.zero_le _), FunD.bindsN F fun _ _ _ _ _ _ us hl => match us, hl with | [_], _ => rfl⟩, FX.g_3, F.kp⟩
      | 4, h => cases h; obtain ⟨fd, F⟩ := c.def_ 4 (d := d4) rfl; exact ⟨⟨fd, fn_zero.mono (Nat.zero_le _), FunD.bindsN F fun _ _ _ _ _ _ us hl => match us, hl with | [_], _ => rfl⟩, FX.g_4, F.kp⟩
      | 5, h => cases h; obtain ⟨fd, F⟩ := c.def_ 5 (d := d5) rfl; exact ⟨⟨fd, fn_zero.mono (Nat.zero_le _), FunD.bindsN F fun _ _ _ _ _ _ us hl => match us, hl with | [_], _ => rfl⟩, FX.g_5, F.kp⟩
      | 6, h => cases h; obtain ⟨fd, F⟩ := c.def_ 6 (d := d6) rfl; exact ⟨⟨fd, fn_zero.mono (Nat.zero_le _), FunD.bindsN F fun _ _ _ _ _ _ us hl => match us, hl with | [_, _], _ => rfl⟩, FX.g_6, F.kp⟩
      | 7, h => cases h; obtain ⟨fd, F⟩ := c.def_ 7 (d := d7) rfl; exact ⟨⟨fd, fn_zero.mono (Nat.zero_le _), FunD.bindsN F fun _ _ _ _ _ _ us hl => match us, hl with | [_], _ => rfl⟩, FX.g_7, F.kp⟩
      | 8, h => cases h; obtain ⟨fd, F⟩ := c.def_ 8 (d := d8) rfl; exact ⟨⟨fd, fn_zero.mono (Nat.zero_le _), FunD.bindsN F fun _ _ _ _ _ _ us hl => match us, hl with | [_], _ => rfl⟩, FX.g_8, F.kp⟩
      | 9, h => cases h; obtain ⟨fd, F⟩ := c.def_ 9 (d := d9) rfl; exact ⟨⟨fd, fn_zero.mono (Nat.zero_le _), FunD.bindsN F fun _ _ _ _ _ _ us hl => match us, hl with | [_], _ => rfl⟩, FX.g_9, F.kp⟩
      | 10, h => cases h; obtain ⟨fd, F⟩ := c.def_ 10 (d := d10) rfl; exact ⟨⟨fd, fn_zero.mono (Nat.zero_le _), FunD.bindsN F fun _ _ _ _ _ _ us hl => match us, hl with | [_], _ => rfl⟩, FX.g_10, F.kp⟩
      | 11, h => cases h; obtain ⟨fd, F⟩ := c.def_ 11 (d := d11) rfl; exact ⟨⟨fd, fn_zero.mono (Nat.zero_le _), FunD.bindsN F fun _ _ _ _ _ _ us hl => match us, hl with | [_, _], _ => rfl⟩, FX.g_11, F.kp⟩
      | 12, h => cases h; obtain ⟨fd, F⟩ := c.def_ 12 (d := d12) rfl; exact ⟨⟨fd, fn_zero.mono (Nat.zero_le _), FunD.bindsN F fun _ _ _ _ _ _ us hl => match us, hl with | [_, _], _ => rfl⟩, FX.g_12, F.kp⟩
      | 13, h => cases h; obtain ⟨fd, F⟩ := c.def_ 13 (d := d13) rfl; exact ⟨⟨fd, fn_zero.mono (Nat.zero_le _), FunD.bindsN F fun _ _ _ _ _ _ us hl => match us, hl with | [_, _], _ => rfl⟩, FX.g_13, F.kp⟩
      | 14, h => cases h; obtain ⟨fd, F⟩ := c.def_ 14 (d := d14) rfl; exact ⟨⟨fd, fn_zero.mono (Nat.zero_le _), FunD.bindsN F fun _ _ _ _ _ _ us hl => match us, hl with | [_, _], _ => rfl⟩, FX.g_14, F.kp⟩
      | 15, h => cases h; obtain ⟨fd, F⟩ := c.def_ 15 (d := d15) rfl; exact ⟨⟨fd, fn_zero.mono (Nat.zero_le _), FunD.bindsN F fun _ _ _ _ _ _ us hl => match us, hl with | [_, _], _ => rfl⟩, FX.g_15, F.kp⟩
      | 16, h => cases h; obtain ⟨fd, F⟩ := c.def_ 16 (d := d16) rfl; exact ⟨⟨fd, fn_zero.mono (Nat.zero_le _), FunD.bindsN F fun _ _ _ _ _ _ us hl => match us, hl with | [_, _], _ => rfl⟩, FX.g_16, F.kp⟩
      | 17, h => cases h; obtain ⟨fd, F⟩ := c.def_ 17 (d := d17) rfl; exact ⟨⟨fd, fn_zero.mono (Nat.zero_le _), FunD.bindsN F fun _ _ _ _ _ _ us hl => match us, hl with | [_, _], _ => rfl⟩, FX.g_17, F.kp⟩
      | 18, h => cases h; obtain ⟨fd, F⟩ := c.def_ 18 (d := d18) rfl; exact ⟨⟨fd, fn_zero.mono (Nat.zero_le _), FunD.bindsN F fun _ _ _ _ _ _ us hl => match us, hl with | [_, _], _ => rfl⟩, FX.g_18, F.kp⟩
      | 19, h => cases h; obtain ⟨fd, F⟩ := c.def_ 19 (d := d19) rfl; exact ⟨⟨fd, fn_zero.mono (Nat.zero_le _), FunD.bindsN F fun _ _ _ _ _ _ us hl => match us, hl with | [_, _], _ => rfl⟩, FX.g_19, F.kp⟩
      | 20, h => cases h; obtain ⟨fd, F⟩ := c.def_ 20 (d := d20) rfl; exact ⟨⟨fd, fn_zero.mono (Nat.zero_le _), FunD.bindsN F fun _ _ _ _ _ _ us hl => match us, hl with | [_, _], _ => rfl⟩, FX.g_20, F.kp⟩
      | 21, h => cases h; obtain ⟨fd, F⟩ := c.def_ 21 (d := d21) rfl; exact ⟨⟨fd, fn_zero.mono (Nat.zero_le _), FunD.bindsN F fun _ _ _ _ _ _ us hl => match us, hl with | [_, _], _ => rfl⟩, FX.g_21, F.kp⟩
      | 22, h => cases h; obtain ⟨fd, F⟩ := c.def_ 22 (d := d22) rfl; exact ⟨⟨fd, fn_zero.mono (Nat.zero_le _), FunD.bindsN F fun _ _ _ _ _ _ us hl => match us, hl with | [_, _], _ => rfl⟩, FX.g_22, F.kp⟩
      | 23, h => cases h; obtain ⟨fd, F⟩ := c.def_ 23 (d := d23) rfl; exact ⟨⟨fd, fn_zero.mono (Nat.zero_le _), FunD.bindsN F fun _ _ _ _ _ _ us hl => match us, hl with | [_], _ => rfl⟩, FX.g_23, F.kp⟩
      | 24, h => cases h; obtain ⟨fd, F⟩ := c.def_ 24 (d := d24) rfl; exact ⟨⟨fd, fn_zero.mono (Nat.zero_le _), FunD.bindsN F fun _ _ _ _ _ _ us hl => match us, hl with | [_, _], _ => rfl⟩, FX.g_24, F.kp⟩
      | 25, h => cases h; obtain ⟨fd, F⟩ := c.def_ 25 (d := d25) rfl; exact ⟨⟨fd, fn_zero.mono (Nat.zero_le _), FunD.bindsN F fun _ _ _ _ _ _ us hl => match us, hl with | [_, _], _ => rfl⟩, FX.g_25, F.kp⟩
      | 26, h => cases h; obtain ⟨fd, F⟩ := c.def_ 26 (d := d26) rfl; exact ⟨⟨fd, fn_zero.mono (Nat.zero_le _), FunD.bindsN F fun _ _ _ _ _ _ us hl => match us, hl with | [_, _, _], _ => rfl⟩, FX.g_26, F.kp⟩
      | 27, h => cases h; obtain ⟨fd, F⟩ := c.def_ 27 (d := d27) rfl; exact ⟨⟨fd, fn_zero.mono (Nat.zero_le _), FunD.bindsN F fun _ _ _ _ _ _ us hl => match us, hl with | [_], _ => rfl⟩, FX.g_27, F.kp⟩
      | 28, h => cases h; obtain ⟨fd, F⟩ := c.def_ 28 (d := d28) rfl; exact ⟨⟨fd, fn_zero.mono (Nat.zero_le _), FunD.bindsN F fun _ _ _ _ _ _ us hl => match us, hl with | [_], _ => rfl⟩, FX.g_28, F.kp⟩
      | 29, h => cases h; obtain ⟨fd, F⟩ := c.def_ 29 (d := d29) rfl; exact ⟨⟨fd, fn_zero.mono (Nat.zero_le _), FunD.bindsN F fun _ _ _ _ _ _ us hl => match us, hl with | [_], _ => rfl⟩, FX.g_29, F.kp⟩
      | j + 30, h => cases h
    · match p, h with
      | j + 0, h => cases h
    · match p, h with
      | j + 0, h => cases h
    · match p, h with
      | 0, h => cases h; obtain ⟨fd, F⟩ := c.def_ 30 (d := d30) rfl; exact FnF.toK ⟨⟨fd, fn_zero.mono (Nat.zero_le _), FunD.bindsN F fun _ _ _ _ _ _ us hl => match us, hl with | [_, _], _ => rfl⟩, FX.g_30, F.kp⟩
      | 1, h => cases h; obtain ⟨fd, F⟩ := c.def_ 31 (d := d31) rfl; exact FnF.toK ⟨⟨fd, fn_zero.mono (Nat.zero_le _), FunD.bindsN F fun _ _ _ _ _ _ us hl => match us, hl with | [_], _ => rfl⟩, FX.g_31, F.kp⟩
      | 2, h => cases h; obtain ⟨fd, F⟩ := c.def_ 32 (d := d32) rfl; exact FnF.toK ⟨⟨fd, fn_zero.mono (Nat.zero_le _), FunD.bindsN F fun _ _ _ _ _ _ us hl => match us, hl with | [_, _], _ => rfl⟩, FX.g_32, F.kp⟩
      | 3, h => cases h; obtain ⟨fd, F⟩ := c.def_ 33 (d := d33) rfl; exact FnF.toK ⟨⟨fd, fn_zero.mono (Nat.zero_le _), FunD.bindsN F fun _ _ _ _ _ _ us hl => match us, hl with | [_], _ => rfl⟩, FX.g_33, F.kp⟩
      | j + 4, h => cases h
    · match p, h with
      | 0, h => cases h; obtain ⟨fd, F⟩ := c.def_ 34 (d := d34) rfl; exact fnC_zero (FunD.bindsN F fun _ _ _ _ _ _ us hl => match us, hl with | [_, _], _ => rfl) FX.g_34 F.kp
      | j + 1, h => cases h
    · exact lok_zero
  | k + 1 => by
    obtain ⟨iF, iM, iI, iK, iC, iL⟩ := all_ok FX c tbs k (P := P) (w := w) (base := base)
    have hk2 : 2 ≤ k + 2 := Nat.le_add_left 2 k
    refine ⟨fun p j x ps h => ?_, fun p j C ps h => ?_, fun p j C f x ps h => ?_, fun p j x ps h => ?_, fun p j x ps h => ?_, fun g hg => ?_⟩
    · match p, h with
      | 0, h => cases h; obtain ⟨fd, F⟩ := c.def_ 0 (d := d0) rfl; exact ⟨⟨fd, fn_runR (W := Wof K) (r := k + 2) F sc0 rfl rfl rfl (by decide) fun cdv A outer s H E hr => b0 FX iF iM iI iK hk2 cdv A outer s H E hr, FunD.bindsN F fun _ _ _ _ _ _ us hl => match us, hl with | [_], _ => rfl⟩, FX.g_0, F.kp⟩
      | 1, h => cases h; obtain ⟨fd, F⟩ := c.def_ 1 (d := d1) rfl; exact ⟨⟨fd, fn_runR (W := Wof K) (r := k + 2) F sc1 rfl rfl rfl (by decide) fun cdv A outer s H E hr => b1 FX iF iM iI iK hk2 cdv A outer s H E hr, FunD.bindsN F fun _ _ _ _ _ _ us hl => match us, hl with | [_, _], _ => rfl⟩, FX.g_1, F.kp⟩
      | 2, h => cases h; obtain ⟨fd, F⟩ := c.def_ 2 (d := d2) rfl; exact ⟨⟨fd, fn_runR (W := Wof K) (r := k + 2) F sc2 rfl rfl rfl (by decide) fun cdv A outer s H E hr => b2 FX iF iM iI iK hk2 cdv A outer s H E hr, FunD.bindsN F fun _ _ _ _ _ _ us hl => match us, hl with | [_, _], _ => rfl⟩, FX.g_2, F.kp⟩
      | 3, h => cases h; obtain ⟨fd, F⟩ := c.def_ 3 (d := d3) rfl; exact ⟨⟨fd, fn_runR (W := Wof K) (r := k + 2) F sc3 rfl rfl rfl (by decide) fun cdv A outer s H E hr => b3 FX iF iM iI iK hk2 cdv A outer s H E hr, FunD.bindsN F fun _ _ _ _ _ _ us hl => match us, hl with | [_], _ => rfl⟩, FX.g_3, F.kp⟩
      | 4, h => cases h; obtain ⟨fd, F⟩ := c.def_ 4 (d := d4) rfl; exact ⟨⟨fd, fn_runR (W := Wof K) (r := k + 2) F sc4 rfl rfl rfl (by decide) fun cdv A outer s H E hr => b4 FX iF iM iI iK hk2 cdv A outer s H E hr, FunD.bindsN F fun _ _ _ _ _ _ us hl => match us, hl with | [_], _ => rfl⟩, FX.g_4, F.kp⟩
      | 5, h => cases h; obtain ⟨fd, F⟩ := c.def_ 5 (d := d5) rfl; exact ⟨⟨fd, fn_runR (W := Wof K) (r := k + 2) F sc5 rfl rfl rfl (by decide) fun cdv A outer s H E hr => b5 FX iF iM iI iK hk2 cdv A outer s H E hr, FunD.bindsN F fun _ _ _ _ _ _ us hl => match us, hl with | [_], _ => rfl⟩, FX.g_5, F.kp⟩
      | 6, h => cases h; obtain ⟨fd, F⟩ := c.def_ 6 (d := d6) rfl; exact ⟨⟨fd, fn_runR (W := Wof K) (r := k + 2) F sc6 rfl rfl rfl (by decide) fun cdv A outer s H E hr => b6 FX iF iM iI iK hk2 cdv A outer s H E hr, FunD.bindsN F fun _ _ _ _ _ _ us hl => match us, hl with | [_, _], _ => rfl⟩, FX.g_6, F.kp⟩
      | 7, h => cases h; obtain ⟨fd, F⟩ := c.def_ 7 (d := d7) rfl; exact ⟨⟨fd, fn_runR (W := Wof K) (r := k + 2) F sc7 rfl rfl rfl (by decide) fun cdv A outer s H E hr => b7 FX iF iM iI iK hk2 cdv A outer s H E hr, FunD.bindsN F fun _ _ _ _ _ _ us hl => match us, hl with | [_], _ => rfl⟩, FX.g_7, F.kp⟩
      | 8, h => cases h; obtain ⟨fd, F⟩ := c.def_ 8 (d := d8) rfl; exact ⟨⟨fd, fn_runR (W := Wof K) (r := k + 2) F sc8 rfl rfl rfl (by decide) fun cdv A outer s H E hr => b8 FX iF iM iI iK hk2 cdv A outer s H E hr, FunD.bindsN F fun _ _ _ _ _ _ us hl => match us, hl with | [_], _ => rfl⟩, FX.g_8, F.kp⟩
      | 9, h => cases h; obtain ⟨fd, F⟩ := c.def_ 9 (d := d9) rfl; exact ⟨⟨fd, fn_runR (W := Wof K) (r := k + 2) F sc9 rfl rfl rfl (by decide) fun cdv A outer s H E hr => b9 FX iF iM iI iK hk2 cdv A outer s H E hr, FunD.bindsN F fun _ _ _ _ _ _ us hl => match us, hl with | [_], _ => rfl⟩, FX.g_9, F.kp⟩
      | 10, h => cases h; obtain ⟨fd, F⟩ := c.def_ 10 (d := d10) rfl; exact ⟨⟨fd, fn_runR (W := Wof K) (r := k + 2) F sc10 rfl rfl rfl (by decide) fun cdv A outer s H E hr => b10 FX iF iM iI iK hk2 cdv A outer s H E hr, FunD.bindsN F fun _ _ _ _ _ _ us hl => match us, hl with | [_], _ => rfl⟩, FX.g_10, F.kp⟩
      | 11, h => cases h; obtain ⟨fd, F⟩ := c.def_ 11 (d := d11) rfl; exact ⟨⟨fd, fn_runR (W := Wof K) (r := k + 2) F sc11 rfl rfl rfl (by decide) fun cdv A outer s H E hr => b11 FX iF iM iI iK hk2 cdv A outer s H E hr, FunD.bindsN F fun _ _ _ _ _ _ us hl => match us, hl with | [_, _], _ => rfl⟩, FX.g_11, F.kp⟩
      | 12, h => cases h; obtain ⟨fd, F⟩ := c.def_ 12 (d := d12) rfl; exact ⟨⟨fd, fn_runR (W := Wof K) (r := k + 2) F sc12 rfl rfl rfl (by decide) fun cdv A outer s H E hr => b12 FX iF iM iI iK hk2 cdv A outer s H E hr, FunD.bindsN F fun _ _ _ _ _ _ us hl => match us, hl with | [_, _], _ => rfl⟩, FX.g_12, F.kp⟩
      | 13, h => cases h; obtain ⟨fd, F⟩ := c.def_ 13 (d := d13) rfl; exact ⟨⟨fd, fn_runR (W := Wof K) (r := k + 2) F sc13 rfl rfl rfl (by decide) fun cdv A outer s H E hr => b13 FX iF iM iI iK hk2 cdv A outer s H E hr, FunD.bindsN F fun _ _ _ _ _ _ us hl => match us, hl with | [_, _], _ => rfl⟩, FX.g_13, F.kp⟩
      | 14, h => cases h; obtain ⟨fd, F⟩ := c.def_ 14 (d := d14) rfl; exact ⟨⟨fd, fn_runR (W := Wof K) (r := k + 2) F sc14 rfl rfl rfl (by decide) fun cdv A outer s H E hr => b14 FX iF iM iI iK hk2 cdv A outer s H E hr, FunD.bindsN F fun _ _ _ _ _ _ us hl => match us, hl with | [_, _], _ => rfl⟩, FX.g_14, F.kp⟩
      | 15, h => cases h; obtain ⟨fd, F⟩ := c.def_ 15 (d := d15) rfl; exact ⟨⟨fd, fn_runR (W := Wof K) (r := k + 2) F sc15 rfl rfl rfl (by decide) fun cdv A outer s H E hr => b15 FX iF iM iI iK hk2 cdv A outer s H E hr, FunD.bindsN F fun _ _ _ _ _ _ us hl => match us, hl with | [_, _], _ => rfl⟩, FX.g_15, F.kp⟩
      | 16, h => cases h; obtain ⟨fd, F⟩ := c.def_ 16 (d := d16) rfl; exact ⟨⟨fd, fn_runR (W := Wof K) (r := k + 2) F sc16 rfl rfl rfl (by decide) fun cdv A outer s H E hr => b16 FX iF iM iI iK hk2 cdv A outer s H E hr, FunD.bindsN F fun _ _ _ _ _ _ us hl => match us, hl with | [_, _], _ => rfl⟩, FX.g_16, F.kp⟩
      | 17, h => cases h; obtain ⟨fd, F⟩ := c.def_ 17 (d := d17) rfl; exact ⟨⟨fd, fn_runR (W := Wof K) (r := k + 2) F sc17 rfl rfl rfl (by decide) fun cdv A outer s H E hr => b17 FX iF iM iI iK hk2 cdv A outer s H E hr, FunD.bindsN F fun _ _ _ _ _ _ us hl => match us, hl with | [_, _], _ => rfl⟩, FX.g_17, F.kp⟩
      | 18, h => cases h; obtain ⟨fd, F⟩ := c.def_ 18 (d := d18) rfl; exact ⟨⟨fd, fn_runR (W := Wof K) (r := k + 2) F sc18 rfl rfl rfl (by decide) fun cdv A outer s H E hr => b18 FX iF iM iI iK hk2 cdv A outer s H E hr, FunD.bindsN F fun _ _ _ _ _ _ us hl => match us, hl with | [_, _], _ => rfl⟩, FX.g_18, F.kp⟩
      | 19, h => cases h; obtain ⟨fd, F⟩ := c.def_ 19 (d := d19) rfl; exact ⟨⟨fd, fn_runR (W := Wof K) (r := k + 2) F sc19 rfl rfl rfl (by decide) fun cdv A outer s H E hr => b19 FX iF iM iI iK hk2 cdv A outer s H E hr, FunD.bindsN F fun _ _ _ _ _ _ us hl => match us, hl with | [_, _], _ => rfl⟩, FX.g_19, F.kp⟩
      | 20, h => cases h; obtain ⟨fd, F⟩ := c.def_ 20 (d := d20) rfl; exact ⟨⟨fd, fn_runR (W := Wof K) (r := k + 2) F sc20 rfl rfl rfl (by decide) fun cdv A outer s H E hr => b20 FX iF iM iI iK hk2 cdv A outer s H E hr, FunD.bindsN F fun _ _ _ _ _ _ us hl => match us, hl with | [_, _], _ => rfl⟩, FX.g_20, F.kp⟩
      | 21, h => cases h; obtain ⟨fd, F⟩ := c.def_ 21 (d := d21) rfl; exact ⟨⟨fd, fn_runR (W := Wof K) (r := k + 2) F sc21 rfl rfl rfl (by decide) fun cdv A outer s H E hr => b21 FX iF iM iI iK hk2 cdv A outer s H E hr, FunD.bindsN F fun _ _ _ _ _ _ us hl => match us, hl with | [_, _], _ => rfl⟩, FX.g_21, F.kp⟩
      | 22, h => cases h; obtain ⟨fd, F⟩ := c.def_ 22 (d := d22) rfl; exact ⟨⟨fd, fn_runR (W := Wof K) (r := k + 2) F sc22 rfl rfl rfl (by decide) fun cdv A outer s H E hr => b22 FX iF iM iI iK hk2 cdv A outer s H E hr, FunD.bindsN F fun _ _ _ _ _ _ us hl => match us, hl with | [_, _], _ => rfl⟩, FX.g_22, F.kp⟩
      | 23, h => cases h; obtain ⟨fd, F⟩ := c.def_ 23 (d := d23) rfl; exact ⟨⟨fd, fn_runR (W := Wof K) (r := k + 2) F sc23 rfl rfl rfl (by decide) fun cdv A outer s H E hr => b23 FX iF iM iI iK hk2 cdv A outer s H E hr, FunD.bindsN F fun _ _ _ _ _ _ us hl => match us, hl with | [_], _ => rfl⟩, FX.g_23, F.kp⟩
      | 24, h => cases h; obtain ⟨fd, F⟩ := c.def_ 24 (d := d24) rfl; exact ⟨⟨fd, fn_runR (W := Wof K) (r := k + 2) F sc24 rfl rfl rfl (by decide) fun cdv A outer s H E hr => b24 FX iF iM iI iK hk2 cdv A outer s H E hr, FunD.bindsN F fun _ _ _ _ _ _ us hl => match us, hl with | [_, _], _ => rfl⟩, FX.g_24, F.kp⟩
      | 25, h => cases h; obtain ⟨fd, F⟩ := c.def_ 25 (d := d25) rfl; exact ⟨⟨fd, fn_runR (W := Wof K) (r := k + 2) F sc25 rfl rfl rfl (by decide) fun cdv A outer s H E hr => b25 FX iF iM iI iK hk2 cdv A outer s H E hr, FunD.bindsN F fun _ _ _ _ _ _ us hl => match us, hl with | [_, _], _ => rfl⟩, FX.g_25, F.kp⟩
      | 26, h => cases h; obtain ⟨fd, F⟩ := c.def_ 26 (d := d26) rfl; exact ⟨⟨fd, fn_runR (W := Wof K) (r := k + 2) F sc26 rfl rfl rfl (by decide) fun cdv A outer s H E hr => b26 FX iF iM iI iK hk2 cdv A outer s H E hr, FunD.bindsN F fun _ _ _ _ _ _ us hl => match us, hl with | [_, _, _], _ => rfl⟩, FX.g_26, F.kp⟩
      | 27, h => cases h; obtain ⟨fd, F⟩ := c.def_ 27 (d := d27) rfl; exact ⟨⟨fd, fn_runR (W := Wof K) (r := k + 2) F sc27 rfl rfl rfl (by decide) fun cdv A outer s H E hr => b27 FX iF iM iI iK hk2 cdv A outer s H E hr, FunD.bindsN F fun _ _ _ _ _ _ us hl => match us, hl with | [_], _ => rfl⟩, FX.g_27, F.kp⟩
      | 28, h => cases h; obtain ⟨fd, F⟩ := c.def_ 28 (d := d28) rfl; exact ⟨⟨fd, fn_runR (W := Wof K) (r := k + 2) F sc28 rfl rfl rfl (by decide) fun cdv A outer s H E hr => b28 FX iF iM iI iK hk2 cdv A outer s H E hr, FunD.bindsN F fun _ _ _ _ _ _ us hl => match us, hl with | [_], _ => rfl⟩, FX.g_28, F.kp⟩
      | 29, h => cases h; obtain ⟨fd, F⟩ := c.def_ 29 (d := d29) rfl; exact ⟨⟨fd, fn_runR (W := Wof K) (r := k + 2) F sc29 rfl rfl rfl (by decide) fun cdv A outer s H E hr => b29 FX iF iM iI iK hk2 cdv A outer s H E hr, FunD.bindsN F fun _ _ _ _ _ _ us hl => match us, hl with | [_], _ => rfl⟩, FX.g_29, F.kp⟩
      | j + 30, h => cases h
    · match p, h with
      | j + 0, h => cases h
    · match p, h with
      | j + 0, h => cases h
    · match p, h with
      | 0, h => cases h; obtain ⟨fd, F⟩ := c.def_ 30 (d := d30) rfl; exact ⟨⟨fd, fn_runK (W0 := Wof K) (r := k + 2) (LX := LX) (gs := [230]) rfl F sc30 rfl rfl rfl (by decide) fun cA A outer s H E hcd hr => by have e := code_cT F hcd; have t := tbs (mkl.getD 0 (("", none), "")) (by decide); exact b30 FX iF iM iI iK iC hk2 (e ▸ t.1) t.2.1 t.2.2 A outer s H E hr, FunD.bindsN F fun _ _ _ _ _ _ us hl => match us, hl with | [_, _], _ => rfl⟩, FX.g_30, F.kp⟩
      | 1, h => cases h; obtain ⟨fd, F⟩ := c.def_ 31 (d := d31) rfl; exact ⟨⟨fd, fn_runK (W0 := Wof K) (r := k + 2) (LX := LX) (gs := [231, 232, 233, 234, 235]) rfl F sc31 rfl rfl rfl (by decide) fun cA A outer s H E hcd hr => by have e := code_cT F hcd; have t := tbs (mkl.getD 1 (("", none), "")) (by decide); exact b31 FX iF iM iI iK iC hk2 (e ▸ t.1) t.2.1 t.2.2 A outer s H E hr, FunD.bindsN F fun _ _ _ _ _ _ us hl => match us, hl with | [_], _ => rfl⟩, FX.g_31, F.kp⟩
      | 2, h => cases h; obtain ⟨fd, F⟩ := c.def_ 32 (d := d32) rfl; exact ⟨⟨fd, fn_runK (W0 := Wof K) (r := k + 2) (LX := LX) (gs := [236, 237, 238, 239, 240]) rfl F sc32 rfl rfl rfl (by decide) fun cA A outer s H E hcd hr => by have e := code_cT F hcd; have t := tbs (mkl.getD 2 (("", none), "")) (by decide); exact b32 FX iF iM iI iK iC hk2 (e ▸ t.1) t.2.1 t.2.2 A outer s H E hr, FunD.bindsN F fun _ _ _ _ _ _ us hl => match us, hl with | [_, _], _ => rfl⟩, FX.g_32, F.kp⟩
      | 3, h => cases h; obtain ⟨fd, F⟩ := c.def_ 33 (d := d33) rfl; exact ⟨⟨fd, fn_runK (W0 := Wof K) (r := k + 2) (LX := LX) (gs := [241, 242, 243]) rfl F sc33 rfl rfl rfl (by decide) fun cA A outer s H E hcd hr => by have e := code_cT F hcd; have t := tbs (mkl.getD 3 (("", none), "")) (by decide); exact b33 FX iF iM iI iK iC hk2 (e ▸ t.1) t.2.1 t.2.2 A outer s H E hr, FunD.bindsN F fun _ _ _ _ _ _ us hl => match us, hl with | [_], _ => rfl⟩, FX.g_33, F.kp⟩
      | j + 4, h => cases h
    · match p, h with
      | 0, h => cases h; obtain ⟨fd, F⟩ := c.def_ 34 (d := d34) rfl; exact ⟨⟨fd, fnC_run (W0 := Wof K) (r := k + 2) F sc34 rfl rfl rfl (by decide) fun cw cdv A outer s H E hC hr => b34 FX iF iM iI iL hk2 cdv A outer s H E hC hr, FunD.bindsN F fun _ _ _ _ _ _ us hl => match us, hl with | [_, _], _ => rfl⟩, FX.g_34, F.kp⟩
      | j + 1, h => cases h
    · have hg := List.contains_iff_mem.mp hg
      simp only [List.mem_cons, List.not_mem_nil, or_false] at hg
      rcases hg with rfl | rfl | rfl | rfl | rfl | rfl | rfl | rfl | rfl | rfl | rfl | rfl | rfl | rfl
      · exact lok_of (W0 := Wof K) (r := k + 2) rfl ls230 rfl (fun F δ => by simp only [fl_k26_0_e, evr]) (fun q cl pm cv ctv us hl => match us, hl with | [], _ => rfl) fun cw c a A outer s H E hr => bl230 FX iF iM iI cw c a A outer s H E hr
      · exact lok_of (W0 := Wof K) (r := k + 2) rfl ls231 rfl (fun F δ => by simp only [fl_k26_1_e, evr]) (fun q cl pm cv ctv us hl => match us, hl with | [], _ => rfl) fun cw c a A outer s H E hr => bl231 FX iF iM iI cw c a A outer s H E hr
      · exact lok_of (W0 := Wof K) (r := k + 2) rfl ls232 rfl (fun F δ => by simp only [fl_k26_2_e, evr]) (fun q cl pm cv ctv us hl => match us, hl with | [], _ => rfl) fun cw c a A outer s H E hr => bl232 FX iF iM iI cw c a A outer s H E hr
      · exact lok_of (W0 := Wof K) (r := k + 2) rfl ls233 rfl (fun F δ => by simp only [fl_k26_3_e, evr]) (fun q cl pm cv ctv us hl => match us, hl with | [], _ => rfl) fun cw c a A outer s H E hr => bl233 FX iF iM iI cw c a A outer s H E hr
      · exact lok_of (W0 := Wof K) (r := k + 2) rfl ls234 rfl (fun F δ => by simp only [fl_k26_4_e, evr]) (fun q cl pm cv ctv us hl => match us, hl with | [], _ => rfl) fun cw c a A outer s H E hr => bl234 FX iF iM iI cw c a A outer s H E hr
      · exact lok_of (W0 := Wof K) (r := k + 2) rfl ls235 rfl (fun F δ => by simp only [fl_k26_5_e, evr]) (fun q cl pm cv ctv us hl => match us, hl with | [], _ => rfl) fun cw c a A outer s H E hr => bl235 FX iF iM iI cw c a A outer s H E hr
      · exact lok_of (W0 := Wof K) (r := k + 2) rfl ls236 rfl (fun F δ => by simp only [fl_k26_6_e, evr]) (fun q cl pm cv ctv us hl => match us, hl with | [], _ => rfl) fun cw c a A outer s H E hr => bl236 FX iF iM iI cw c a A outer s H E hr
      · exact lok_of (W0 := Wof K) (r := k + 2) rfl ls237 rfl (fun F δ => by simp only [fl_k26_7_e, evr]) (fun q cl pm cv ctv us hl => match us, hl with | [], _ => rfl) fun cw c a A outer s H E hr => bl237 FX iF iM iI cw c a A outer s H E hr
      · exact lok_of (W0 := Wof K) (r := k + 2) rfl ls238 rfl (fun F δ => by simp only [fl_k26_8_e, evr]) (fun q cl pm cv ctv us hl => match us, hl with | [], _ => rfl) fun cw c a A outer s H E hr => bl238 FX iF iM iI cw c a A outer s H E hr
      · exact lok_of (W0 := Wof K) (r := k + 2) rfl ls239 rfl (fun F δ => by simp only [fl_k26_9_e, evr]) (fun q cl pm cv ctv us hl => match us, hl with | [], _ => rfl) fun cw c a A outer s H E hr => bl239 FX iF iM iI cw c a A outer s H E hr
      · exact lok_of (W0 := Wof K) (r := k + 2) rfl ls240 rfl (fun F δ => by simp only [fl_k26_10_e, evr]) (fun q cl pm cv ctv us hl => match us, hl with | [], _ => rfl) fun cw c a A outer s H E hr => bl240 FX iF iM iI cw c a A outer s H E hr
      · exact lok_of (W0 := Wof K) (r := k + 2) rfl ls241 rfl (fun F δ => by simp only [fl_k26_11_e, evr]) (fun q cl pm cv ctv us hl => match us, hl with | [], _ => rfl) fun cw c a A outer s H E hr => bl241 FX iF iM iI cw c a A outer s H E hr
      · exact lok_of (W0 := Wof K) (r := k + 2) rfl ls242 rfl (fun F δ => by simp only [fl_k26_12_e, evr]) (fun q cl pm cv ctv us hl => match us, hl with | [], _ => rfl) fun cw c a A outer s H E hr => bl242 FX iF iM iI cw c a A outer s H E hr
      · exact lok_of (W0 := Wof K) (r := k + 2) rfl ls243 rfl (fun F δ => by simp only [fl_k26_13_e, evr]) (fun q cl pm cv ctv us hl => match us, hl with | [], _ => rfl) fun cw c a A outer s H E hr => bl243 FX iF iM iI cw c a A outer s H E hr
end k26_bad_anywhere
open PySem PySem.W PySem.Calls PyProof.Rows
theorem PySem.Challenge.cw_tieweb_k26_bad_anywhere_holds : PySem.Challenge.rw_tieweb_k26_bad_anywhere.Holds := by
  w_on; o_law
  refine HandSHeadRun.head_any (r := OpenLaw.row PySem.Challenge.rw_tieweb_k26_bad_anywhere) (q := view (OpenLaw.row PySem.Challenge.rw_tieweb_k26_bad_anywhere).prog [53]) (H := k26_bad_anywhere.hk) (ob := k26_bad_anywhere.ob) (M := 4000) (loose := k26_bad_anywhere.loose) (d := HandSHeadRun.topDef (OpenLaw.row PySem.Challenge.rw_tieweb_k26_bad_anywhere).prog 53) (kwd := []) k26_bad_anywhere.ob_eq
    (by kernel_rfl) (fun s => by kernel_rfl) k26_bad_anywhere.hrun (by kernel_rfl) (by kernel_rfl) (by kernel_rfl) (by rfl) (by first | assumption | decide +kernel) (by decide +kernel) ⟨rfl, rfl, rfl, rfl, rfl, by decide +kernel⟩ ?hw ?hc
  case hw => w_witness2
  case hc =>
    refine TW.walk_twT (l := PySem.Challenge.rw_tieweb_k26_bad_anywhere) (n := 63) (k := 60) (r := 62) (x := "_law_script") (PR := TW.GP) (i := 189) rfl (by decide) (by kernel_rfl) ⟨rfl, by decide, by decide⟩ ?F TY.k26_true
    intro w mg fa h Y G hmg0
    obtain ⟨K, KX, c0⟩ := Y
    have c : TW.SaysX k26_bad_anywhere.fa k26_bad_anywhere.fb k26_bad_anywhere.fn K := ⟨congrArg Prod.fst c0.t, c0.more⟩
    have hmg : mg ("law" : PySem.Str) = some (.ref fa) := by
      have e : (HandSHeadRun.topDef (OpenLaw.row PySem.Challenge.rw_tieweb_k26_bad_anywhere).prog 53).name = ("law" : PySem.Str) := by kernel_rfl
      rw [← e]
      exact hmg0
    have FX := k26_bad_anywhere.fx_of KX G c
    have e := hmg.symm.trans FX.g_29
    cases e
    obtain ⟨fd, F⟩ := c.def_ 29 (d := k26_bad_anywhere.d29) rfl
    have b := L2.FunD.bindsA (ps := ["_law_script"]) F fun _ _ _ _ _ _ us hl => match us, hl with | [_], _ => rfl
    have mt : ∀ p ∈ k26_bad_anywhere.mkl.map (fun m => ((He.cT K m.1).1, (He.cT K m.1).2, m.2)), ∃ t ∈ k26_bad_anywhere.tf, p.1 = (He.cT K t).1 ∧ p.2.1 = (He.cT K t).2 := fun p hp => by
      obtain ⟨m, hm, rfl⟩ := List.mem_map.mp hp
      exact ⟨m.1, List.mem_map.mpr ⟨m, hm, rfl⟩, rfl, rfl⟩
    refine ⟨k26_bad_anywhere.Wof K, fd, k26_bad_anywhere.mkl.map (fun m => ((He.cT K m.1).1, (He.cT K m.1).2, m.2)), rfl, KX, fun p hp => ?_, fun p hp => ?_, fun p hp => ?_, fun s v => b s [v] rfl, fun base _ _ hTB => ?_⟩
    · obtain ⟨t, ht, e1, e2⟩ := mt p hp
      rw [e2]; exact c0.empty t ht
    · obtain ⟨t, ht, e1, e2⟩ := mt p hp
      rw [e2]; exact c0.out t ht
    · obtain ⟨t, ht, e1, e2⟩ := mt p hp
      rw [e1, e2]; exact PySem.W.codeHd_of_K KX (c0.hd t ht)
    letI ti : TW.TabT := ⟨(k26_bad_anywhere.mkl.map (fun m => ((He.cT K m.1).1, (He.cT K m.1).2, m.2))).map fun p => p.2⟩
    have tbs : k26_bad_anywhere.TBs K mg base := TW.tbs_of k26_bad_anywhere.mkl FX.tabs hTB
    obtain ⟨iF, iM, iI, iK, iC, iL⟩ := k26_bad_anywhere.all_ok FX c tbs (P := PySem.W.OpenLaw.prog PySem.Challenge.rw_tieweb_k26_bad_anywhere) (w := w) (base := base) 59
    exact L2.FnOk.imp (TW.fn_runR (W := k26_bad_anywhere.Wof K) (PR := TW.GP) (i := 189) (r := 59 + 2) F k26_bad_anywhere.sc29 rfl rfl rfl (by decide) fun cdv A outer s H E hr => k26_bad_anywhere.b29 FX iF iM iI iK (by decide) cdv A outer s H E hr) fun vs H Q E h => h
