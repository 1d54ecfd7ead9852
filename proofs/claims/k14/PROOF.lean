import PyProof.Rows.All
import Wide.All
import OpenK.AllK
import Wide.FinOn
import KE.KStateDown
import Lean
import HandS.ForMost
import HandS.ForExc
import HandS.Walk
import HandS.Deep
import HandS.Style
import HandS.Sort
import HandS.SortRule
import HandS.SortInts
import HandS.SortOrd
import HandS.TupLe
import HandS.TupSets
import HandS.SetFor
import HandS.Strs
import HandS.Conv
import HandS.IsInst
import HandS.CallLocal
import HandS.Wide
import HandS.More
import HandS.Defaults
import HandS.EndBits
import HandS.Head0
import HandS.Head1
import HandS.Head2
import HandS.HeadEnd
import HandS.HeadHook1
import HandS.HeadHook2
import PySem.Challenge.RW_tieweb_k14_whole_apart
set_option Elab.async false
set_option linter.all false
set_option maxRecDepth 100000
set_option maxHeartbeats 4000000
namespace TW
open PySem PySem.Spec PyProof.Rows L2

/-! ### data trees -/
/-- what the top has written: its part of the heap, the addresses of its defs and classes, by their numbers -/
structure Wd where
  K : PySem.W.Frag
  fa : Nat → Addr
  ca : Nat → Addr

inductive D where
  | non
  | bl (b : Bool)
  | int (i : Int)
  | str (x : Str)
  | fn (x : Nat)
  | tup (ds : List D)
  | lst (ds : List D)
  | scr (ns : List Int)
  | dic (ks : List Int)
  | ins (C : Nat) (f : Str) (d : D)

/-- ownership: shared; the top cell alone is owned; every cell is owned -/
inductive Md where
  | sh | fl | dp
  deriving DecidableEq

mutual
def lfree : D → Bool
  | .tup ds => lfrees ds
  | .lst _ => false
  | .dic _ => false
  | .ins _ _ d => lfree d
  | .non => true
  | .bl _ => true
  | .int _ => true
  | .str _ => true
  | .fn _ => true
  | .scr _ => true
def lfrees : List D → Bool
  | [] => true
  | d :: ds => lfree d && lfrees ds
end

/-! ### what a tree is in the abstract heap -/
def KLst (K : PySem.W.Frag) (a : Addr) (xs : List V) : Prop :=
  ∃ (o : Obj) (its : Array Value) (n : Nat), K.lookup a = some o ∧ o.cls = .type "list" ∧ o.dict = none ∧ o.data = .seq its n ∧ its.size ≤ sizeLine ∧ Vals xs its.toList
def ScrAt (K : PySem.W.Frag) (H : Hp) (a : Addr) (xs : List V) : Prop := (∃ o, H a = some (.frz o (.lst xs))) ∨ KLst K a xs
theorem ScrAt.sq {K : PySem.W.Frag} {H : Hp} {a : Addr} {xs : List V} (h : ScrAt K H a xs) : SqL K H a xs := by
  rcases h with ⟨o, h⟩ | h
  · exact .inl (.inr ⟨o, h⟩)
  · exact .inr h
abbrev dicV (ks : List Int) : List (Key × V) := ks.map fun k => (Sum.inl k, V.bl true)
mutual
def Rp (W : Wd) (H : Hp) (O : Addr → Prop) : D → V → Prop
  | .non, v => v = .non
  | .bl b, v => v = .bl b
  | .int i, v => v = .int i
  | .str x, v => v = .str x
  | .fn x, v => v = .ref (W.fa x)
  | .tup ds, v => ∃ a vs, v = .ref a ∧ H a = some (.tup vs) ∧ vs.length ≤ sizeLine ∧ Rps W H O ds vs
  | .lst ds, v => ∃ a vs, v = .ref a ∧ ¬ O a ∧ H a = some (.lst vs) ∧ vs.length ≤ sizeLine ∧ Rps W H O ds vs
  | .scr ns, v => ∃ a, v = .ref a ∧ ScrAt W.K H a (ns.map V.int) ∧ ns.length ≤ sizeLine
  | .dic ks, v => ∃ a, v = .ref a ∧ ¬ O a ∧ H a = some (.dK (dicV ks)) ∧ ks.length ≤ sizeLine
  | .ins C f d, v => ∃ a dx fv, v = .ref a ∧ H a = some (.ins (W.ca C) dx [(f, fv)]) ∧ Rp W H O d fv
def Rps (W : Wd) (H : Hp) (O : Addr → Prop) : List D → List V → Prop
  | [], vs => vs = []
  | d :: ds, vs => ∃ v r, vs = v :: r ∧ Rp W H O d v ∧ Rps W H O ds r
end
mutual
/-- as Rp, with the list of all its changeable cells -/
def Dq (W : Wd) (H : Hp) : D → V → List Addr → Prop
  | .non, v, F => v = .non ∧ F = []
  | .bl b, v, F => v = .bl b ∧ F = []
  | .int i, v, F => v = .int i ∧ F = []
  | .str x, v, F => v = .str x ∧ F = []
  | .fn x, v, F => v = .ref (W.fa x) ∧ F = []
  | .tup ds, v, F => ∃ a vs, v = .ref a ∧ H a = some (.tup vs) ∧ vs.length ≤ sizeLine ∧ Dqs W H ds vs F
  | .lst ds, v, F => ∃ a vs G, v = .ref a ∧ F = a :: G ∧ H a = some (.lst vs) ∧ vs.length ≤ sizeLine ∧ Dqs W H ds vs G
  | .scr ns, v, F => (∃ a, v = .ref a ∧ ScrAt W.K H a (ns.map V.int) ∧ ns.length ≤ sizeLine) ∧ F = []
  | .dic ks, v, F => ∃ a, v = .ref a ∧ F = [a] ∧ H a = some (.dK (dicV ks)) ∧ ks.length ≤ sizeLine
  | .ins C f d, v, F => ∃ a dx fv, v = .ref a ∧ H a = some (.ins (W.ca C) dx [(f, fv)]) ∧ Dq W H d fv F
def Dqs (W : Wd) (H : Hp) : List D → List V → List Addr → Prop
  | [], vs, F => vs = [] ∧ F = []
  | d :: ds, vs, F => ∃ v r F1 F2, vs = v :: r ∧ F = F1 ++ F2 ∧ Dq W H d v F1 ∧ Dqs W H ds r F2
end

section
variable {W : Wd} {K : PySem.W.Frag} {H H' : Hp} {O O' : Addr → Prop}
/-- a cell that may be changed by us -/
def MutC : HO → Prop
  | .lst _ => True
  | .dK _ => True
  | _ => False

mutual
theorem Rp.mono (s : Same H H') (ho : ∀ a, O' a → O a) : ∀ (d : D) (v : V), Rp W H O d v → Rp W H' O' d v
  | .non, v, h => h
  | .bl _, v, h => h
  | .int _, v, h => h
  | .str _, v, h => h
  | .fn _, v, h => h
  | .tup ds, v, h => by
    obtain ⟨a, vs, e, h1, h2, h3⟩ := h
    exact ⟨a, vs, e, s _ _ h1, h2, Rps.mono s ho ds vs h3⟩
  | .lst ds, v, h => by
    obtain ⟨a, vs, e, h0, h1, h2, h3⟩ := h
    exact ⟨a, vs, e, fun z => h0 (ho a z), s _ _ h1, h2, Rps.mono s ho ds vs h3⟩
  | .scr ns, v, h => by
    obtain ⟨a, e, h1, h2⟩ := h
    refine ⟨a, e, ?_, h2⟩
    rcases h1 with ⟨o, h1⟩ | h1
    · exact .inl ⟨o, s _ _ h1⟩
    · exact .inr h1
  | .dic ks, v, h => by
    obtain ⟨a, e, h0, h1, h2⟩ := h
    exact ⟨a, e, fun z => h0 (ho a z), s _ _ h1, h2⟩
  | .ins C f d, v, h => by
    obtain ⟨a, dx, fv, e, h1, h3⟩ := h
    exact ⟨a, dx, fv, e, s _ _ h1, Rp.mono s ho d fv h3⟩
theorem Rps.mono (s : Same H H') (ho : ∀ a, O' a → O a) : ∀ (ds : List D) (vs : List V), Rps W H O ds vs → Rps W H' O' ds vs
  | [], vs, h => h
  | d :: ds, vs, h => by
    obtain ⟨v, r, e, h1, h2⟩ := h
    exact ⟨v, r, e, Rp.mono s ho d v h1, Rps.mono s ho ds r h2⟩
end
mutual
theorem Dq.mono (s : Same H H') : ∀ (d : D) (v : V) (F : List Addr), Dq W H d v F → Dq W H' d v F
  | .non, v, F, h => h
  | .bl _, v, F, h => h
  | .int _, v, F, h => h
  | .str _, v, F, h => h
  | .fn _, v, F, h => h
  | .tup ds, v, F, h => by
    obtain ⟨a, vs, e, h1, h2, h3⟩ := h
    exact ⟨a, vs, e, s _ _ h1, h2, Dqs.mono s ds vs F h3⟩
  | .lst ds, v, F, h => by
    obtain ⟨a, vs, G, e, eF, h1, h2, h3⟩ := h
    exact ⟨a, vs, G, e, eF, s _ _ h1, h2, Dqs.mono s ds vs G h3⟩
  | .scr ns, v, F, h => by
    obtain ⟨⟨a, e, h1, h2⟩, eF⟩ := h
    refine ⟨⟨a, e, ?_, h2⟩, eF⟩
    rcases h1 with ⟨o, h1⟩ | h1
    · exact .inl ⟨o, s _ _ h1⟩
    · exact .inr h1
  | .dic ks, v, F, h => by
    obtain ⟨a, e, eF, h1, h2⟩ := h
    exact ⟨a, e, eF, s _ _ h1, h2⟩
  | .ins C f d, v, F, h => by
    obtain ⟨a, dx, fv, e, h1, h3⟩ := h
    exact ⟨a, dx, fv, e, s _ _ h1, Dq.mono s d fv F h3⟩
theorem Dqs.mono (s : Same H H') : ∀ (ds : List D) (vs : List V) (F : List Addr), Dqs W H ds vs F → Dqs W H' ds vs F
  | [], vs, F, h => h
  | d :: ds, vs, F, h => by
    obtain ⟨v, r, F1, F2, e, eF, h1, h2⟩ := h
    exact ⟨v, r, F1, F2, e, eF, Dq.mono s d v F1 h1, Dqs.mono s ds r F2 h2⟩
end
/-! what is shared stays when an owned cell is changed -/
theorem upd_out {p a : Addr} {o u x : HO} (hp : H p = some o) (ha : H a = some u) (m : MutC o) (n : ¬ MutC u) : upd H p x a = some u := by
  have : a ≠ p := fun e => by
    rw [e, hp] at ha
    exact n (Option.some.inj ha ▸ m)
  rw [upd_ne this]
  exact ha
theorem ScrAt.upd {p a : Addr} {o x : HO} {xs : List V} (hp : H p = some o) (m : MutC o) (h : ScrAt K H a xs) : ScrAt K (upd H p x) a xs := by
  rcases h with ⟨ob, h⟩ | h
  · exact .inl ⟨ob, upd_out hp h m (fun z => z)⟩
  · exact .inr h
mutual
theorem Rp.upd {p : Addr} {o x : HO} (hp : H p = some o) (m : MutC o) (op : O p) : ∀ (d : D) (v : V), Rp W H O d v → Rp W (upd H p x) O d v
  | .non, v, h => h
  | .bl _, v, h => h
  | .int _, v, h => h
  | .str _, v, h => h
  | .fn _, v, h => h
  | .tup ds, v, h => by
    obtain ⟨a, vs, e, h1, h2, h3⟩ := h
    exact ⟨a, vs, e, upd_out hp h1 m (fun z => z), h2, Rps.upd hp m op ds vs h3⟩
  | .lst ds, v, h => by
    obtain ⟨a, vs, e, h0, h1, h2, h3⟩ := h
    have ne : a ≠ p := fun z => h0 (z ▸ op)
    exact ⟨a, vs, e, h0, by rw [upd_ne ne]; exact h1, h2, Rps.upd hp m op ds vs h3⟩
  | .scr ns, v, h => by
    obtain ⟨a, e, h1, h2⟩ := h
    exact ⟨a, e, h1.upd hp m, h2⟩
  | .dic ks, v, h => by
    obtain ⟨a, e, h0, h1, h2⟩ := h
    have ne : a ≠ p := fun z => h0 (z ▸ op)
    exact ⟨a, e, h0, by rw [upd_ne ne]; exact h1, h2⟩
  | .ins C f d, v, h => by
    obtain ⟨a, dx, fv, e, h1, h3⟩ := h
    exact ⟨a, dx, fv, e, upd_out hp h1 m (fun z => z), Rp.upd hp m op d fv h3⟩
theorem Rps.upd {p : Addr} {o x : HO} (hp : H p = some o) (m : MutC o) (op : O p) : ∀ (ds : List D) (vs : List V), Rps W H O ds vs → Rps W (upd H p x) O ds vs
  | [], vs, h => h
  | d :: ds, vs, h => by
    obtain ⟨v, r, e, h1, h2⟩ := h
    exact ⟨v, r, e, Rp.upd hp m op d v h1, Rps.upd hp m op ds r h2⟩
end
mutual
theorem Dq.upd {p : Addr} {o x : HO} (hp : H p = some o) (m : MutC o) : ∀ (d : D) (v : V) (F : List Addr), p ∉ F → Dq W H d v F → Dq W (upd H p x) d v F
  | .non, v, F, n, h => h
  | .bl _, v, F, n, h => h
  | .int _, v, F, n, h => h
  | .str _, v, F, n, h => h
  | .fn _, v, F, n, h => h
  | .tup ds, v, F, n, h => by
    obtain ⟨a, vs, e, h1, h2, h3⟩ := h
    exact ⟨a, vs, e, upd_out hp h1 m (fun z => z), h2, Dqs.upd hp m ds vs F n h3⟩
  | .lst ds, v, F, n, h => by
    obtain ⟨a, vs, G, e, eF, h1, h2, h3⟩ := h
    have ne : a ≠ p := fun z => n (by rw [eF, z]; exact List.mem_cons_self)
    exact ⟨a, vs, G, e, eF, by rw [upd_ne ne]; exact h1, h2, Dqs.upd hp m ds vs G (fun z => n (by rw [eF]; exact List.mem_cons_of_mem _ z)) h3⟩
  | .scr ns, v, F, n, h => by
    obtain ⟨⟨a, e, h1, h2⟩, eF⟩ := h
    exact ⟨⟨a, e, h1.upd hp m, h2⟩, eF⟩
  | .dic ks, v, F, n, h => by
    obtain ⟨a, e, eF, h1, h2⟩ := h
    have ne : a ≠ p := fun z => n (by rw [eF, z]; exact List.mem_cons_self)
    exact ⟨a, e, eF, by rw [upd_ne ne]; exact h1, h2⟩
  | .ins C f d, v, F, n, h => by
    obtain ⟨a, dx, fv, e, h1, h3⟩ := h
    exact ⟨a, dx, fv, e, upd_out hp h1 m (fun z => z), Dq.upd hp m d fv F n h3⟩
theorem Dqs.upd {p : Addr} {o x : HO} (hp : H p = some o) (m : MutC o) : ∀ (ds : List D) (vs : List V) (F : List Addr), p ∉ F → Dqs W H ds vs F → Dqs W (upd H p x) ds vs F
  | [], vs, F, n, h => h
  | d :: ds, vs, F, n, h => by
    obtain ⟨v, r, F1, F2, e, eF, h1, h2⟩ := h
    exact ⟨v, r, F1, F2, e, eF, Dq.upd hp m d v F1 (fun z => n (by rw [eF]; exact List.mem_append_left _ z)) h1, Dqs.upd hp m ds r F2 (fun z => n (by rw [eF]; exact List.mem_append_right _ z)) h2⟩
end

/-! what stands keeps off what does not stand -/
mutual
theorem Rp.off (ho : ∀ a, O' a → O a ∨ H a = none) : ∀ (d : D) (v : V), Rp W H O d v → Rp W H O' d v
  | .non, v, h => h
  | .bl _, v, h => h
  | .int _, v, h => h
  | .str _, v, h => h
  | .fn _, v, h => h
  | .tup ds, v, h => by
    obtain ⟨a, vs, e, h1, h2, h3⟩ := h
    exact ⟨a, vs, e, h1, h2, Rps.off ho ds vs h3⟩
  | .lst ds, v, h => by
    obtain ⟨a, vs, e, h0, h1, h2, h3⟩ := h
    exact ⟨a, vs, e, fun z => (ho a z).elim h0 (fun q => by rw [h1] at q; cases q), h1, h2, Rps.off ho ds vs h3⟩
  | .scr ns, v, h => h
  | .dic ks, v, h => by
    obtain ⟨a, e, h0, h1, h2⟩ := h
    exact ⟨a, e, fun z => (ho a z).elim h0 (fun q => by rw [h1] at q; cases q), h1, h2⟩
  | .ins C f d, v, h => by
    obtain ⟨a, dx, fv, e, h1, h3⟩ := h
    exact ⟨a, dx, fv, e, h1, Rp.off ho d fv h3⟩
theorem Rps.off (ho : ∀ a, O' a → O a ∨ H a = none) : ∀ (ds : List D) (vs : List V), Rps W H O ds vs → Rps W H O' ds vs
  | [], vs, h => h
  | d :: ds, vs, h => by
    obtain ⟨v, r, e, h1, h2⟩ := h
    exact ⟨v, r, e, Rp.off ho d v h1, Rps.off ho ds r h2⟩
end
/-! an owned tree given up -/
mutual
theorem Dq.rp : ∀ (d : D) (v : V) (F : List Addr), Dq W H d v F → (∀ a ∈ F, ¬ O a) → Rp W H O d v
  | .non, v, F, h, n => h.1
  | .bl _, v, F, h, n => h.1
  | .int _, v, F, h, n => h.1
  | .str _, v, F, h, n => h.1
  | .fn _, v, F, h, n => h.1
  | .tup ds, v, F, h, n => by
    obtain ⟨a, vs, e, h1, h2, h3⟩ := h
    exact ⟨a, vs, e, h1, h2, Dqs.rp ds vs F h3 n⟩
  | .lst ds, v, F, h, n => by
    obtain ⟨a, vs, G, e, eF, h1, h2, h3⟩ := h
    exact ⟨a, vs, e, n a (by rw [eF]; exact List.mem_cons_self), h1, h2, Dqs.rp ds vs G h3 fun b hb => n b (by rw [eF]; exact List.mem_cons_of_mem _ hb)⟩
  | .scr ns, v, F, h, n => h.1
  | .dic ks, v, F, h, n => by
    obtain ⟨a, e, eF, h1, h2⟩ := h
    exact ⟨a, e, n a (by rw [eF]; exact List.mem_cons_self), h1, h2⟩
  | .ins C f d, v, F, h, n => by
    obtain ⟨a, dx, fv, e, h1, h3⟩ := h
    exact ⟨a, dx, fv, e, h1, Dq.rp d fv F h3 n⟩
theorem Dqs.rp : ∀ (ds : List D) (vs : List V) (F : List Addr), Dqs W H ds vs F → (∀ a ∈ F, ¬ O a) → Rps W H O ds vs
  | [], vs, F, h, n => h.1
  | d :: ds, vs, F, h, n => by
    obtain ⟨v, r, F1, F2, e, eF, h1, h2⟩ := h
    exact ⟨v, r, e, Dq.rp d v F1 h1 fun b hb => n b (by rw [eF]; exact List.mem_append_left _ hb), Dqs.rp ds r F2 h2 fun b hb => n b (by rw [eF]; exact List.mem_append_right _ hb)⟩
end
/-! a tree without changeable cells is owned by nobody -/
mutual
theorem Rp.dq : ∀ (d : D) (v : V), Rp W H O d v → lfree d = true → Dq W H d v []
  | .non, v, h, l => ⟨h, rfl⟩
  | .bl _, v, h, l => ⟨h, rfl⟩
  | .int _, v, h, l => ⟨h, rfl⟩
  | .str _, v, h, l => ⟨h, rfl⟩
  | .fn _, v, h, l => ⟨h, rfl⟩
  | .tup ds, v, h, l => by
    obtain ⟨a, vs, e, h1, h2, h3⟩ := h
    exact ⟨a, vs, e, h1, h2, Rps.dq ds vs h3 l⟩
  | .lst ds, v, h, l => by cases (show false = true from l)
  | .scr ns, v, h, l => ⟨h, rfl⟩
  | .dic ks, v, h, l => by cases (show false = true from l)
  | .ins C f d, v, h, l => by
    obtain ⟨a, dx, fv, e, h1, h3⟩ := h
    exact ⟨a, dx, fv, e, h1, Rp.dq d fv h3 l⟩
theorem Rps.dq : ∀ (ds : List D) (vs : List V), Rps W H O ds vs → lfrees ds = true → Dqs W H ds vs []
  | [], vs, h, l => ⟨h, rfl⟩
  | d :: ds, vs, h, l => by
    obtain ⟨v, r, e, h1, h2⟩ := h
    obtain ⟨l1, l2⟩ := Bool.and_eq_true_iff.mp (show (lfree d && lfrees ds) = true from l)
    exact ⟨v, r, [], [], e, rfl, Rp.dq d v h1 l1, Rps.dq ds r h2 l2⟩
end
theorem Rps.length : ∀ (ds : List D) (vs : List V), Rps W H O ds vs → vs.length = ds.length
  | [], vs, h => by
    rw [show vs = [] from h]
    rfl
  | d :: ds, vs, h => by
    obtain ⟨v, r, e, _, h2⟩ := h
    rw [e, List.length_cons, List.length_cons, Rps.length ds r h2]
theorem Dqs.length : ∀ (ds : List D) (vs : List V) (F : List Addr), Dqs W H ds vs F → vs.length = ds.length
  | [], vs, F, h => by
    rw [show vs = [] from h.1]
    rfl
  | d :: ds, vs, F, h => by
    obtain ⟨v, r, F1, F2, e, _, _, h2⟩ := h
    rw [e, List.length_cons, List.length_cons, Dqs.length ds r F2 h2]
end
end TW

set_option Elab.async false
set_option linter.all false
set_option maxRecDepth 100000
set_option maxHeartbeats 4000000
namespace TW
open PySem PySem.Spec PyProof.Rows L2

/-! ### the core language -/
inductive Bop where
  | add | sub | mul | fdiv | mod | pow | shl | shr | band
inductive Cop where
  | lt | le | gt | ge | eq | ne | isin | notin | is_ | isnot
inductive Ty where
  | int | bool | list | tuple | cls (C : Nat)
inductive Bi where
  | len | sum | all | any | max | min | sorted | list | abs | ssort | slen | lrng | lzip
mutual
inductive E where
  | var (i : Nat)
  | lit (d : D)
  | bin (o : Bop) (a b : E)
  | cmp (o : Cop) (a b : E)
  | chn (o p : Cop) (a b c : E)
  | chn3 (o p q : Cop) (a b c d : E)
  | neg (a : E)
  | not (a : E)
  | and (a b : E)
  | or (a b : E)
  | ite (c a b : E)
  | tup (es : List E)
  | lst (es : List E)
  | sub (a i : E)
  | slc (pl ph : Bool) (a lo hi : E)
  | rev (a : E)
  | att (a : E) (f : Str)
  | cal (f : Nat) (es : List E)
  | cav (e : E) (es : List E)
  | bi (b : Bi) (es : List E)
  | mix (a e : E)
  | isi (e : E) (t : Ty)
  | comp (ts : List Nat) (one : Bool) (s : Sr) (cs : List E) (e : E)
  | dnew
inductive Sr where
  | seq (e : E)
  | rng (a b : E)
  | enu (e : E)
  | zip (a b : E)
end

/-! ### what an evaluation gives: nothing known, a value, a refusal -/
inductive Ex (α : Type) where
  | ok (a : α)
  | er (C : Nat)
abbrev M (α : Type) := Option (Ex α)
def bnd {α β : Type} (x : M α) (f : α → M β) : M β := match x with
  | none => none
  | some (.er C) => some (.er C)
  | some (.ok a) => f a
abbrev ok {α : Type} (a : α) : M α := some (.ok a)
def lift {α : Type} (x : Option α) : M α := match x with
  | none => none
  | some a => some (.ok a)
abbrev Sl := Option (Md × D)
abbrev Dn := List Sl
abbrev Tb := Nat → List D → M (Md × D)
abbrev SZ : Nat := 1000000

/-! ### equality, order -/
mutual
def toPy : D → PyData
  | .non => .none
  | .bl b => .bool b
  | .int i => .int i
  | .str x => .str x
  | .tup ds => .tuple (toPys ds)
  | .lst ds => .list (toPys ds)
  | .scr ns => .list (ns.map .int)
  | .fn _ => .none
  | .dic _ => .none
  | .ins _ _ _ => .none
def toPys : List D → List PyData
  | [] => []
  | d :: ds => toPy d :: toPys ds
end
mutual
/-- plain data of depth at most n -/
def dat : D → Nat → Bool
  | .non, _ => true
  | .bl _, _ => true
  | .int _, _ => true
  | .str x, _ => PySem.PyData.strOk x
  | .tup ds, n => match n with
    | 0 => false
    | n + 1 => dats ds n
  | .lst ds, n => match n with
    | 0 => false
    | n + 1 => dats ds n
  | .scr _, n => decide (0 < n)
  | .fn _, _ => false
  | .dic _, _ => false
  | .ins _ _ _, _ => false
def dats : List D → Nat → Bool
  | [], _ => true
  | d :: ds, n => dat d n && dats ds n
end
abbrev eqD (a b : D) : Bool := PyData.eqv (toPy a) (toPy b)
def flatD : D → Bool
  | .non => true
  | .bl _ => true
  | .int _ => true
  | .str _ => true
  | _ => false

def intD : D → Option Int
  | .int i => some i
  | _ => none
def intsD : List D → Option (List Int)
  | [] => some []
  | .int i :: ds => (intsD ds).map (i :: ·)
  | _ => none
def prD : D → Option (Int × Int)
  | .tup [.int a, .int b] => some (a, b)
  | _ => none
def prsD : List D → Option (List (Int × Int))
  | [] => some []
  | .tup [.int a, .int b] :: ds => (prsD ds).map ((a, b) :: ·)
  | _ => none
def ilD : List D → Option (List (List Int))
  | [] => some []
  | .lst xs :: ds => match intsD xs with
    | some ns => (ilD ds).map (ns :: ·)
    | none => none
  | _ => none
def blsD : List D → Option (List Bool)
  | [] => some []
  | .bl b :: ds => (blsD ds).map (b :: ·)
  | _ => none
/-- encodings -/
abbrev eI (ns : List Int) : List D := ns.map D.int
abbrev eP (p : Int × Int) : D := .tup [.int p.1, .int p.2]
abbrev eIL (g : List Int) : D := .lst (g.map D.int)

def insB {α : Type} (lt : α → α → Bool) (x : α) : List α → List α
  | [] => [x]
  | y :: r => if lt y x then y :: insB lt x r else x :: y :: r
def isortB {α : Type} (lt : α → α → Bool) : List α → List α
  | [] => []
  | x :: r => insB lt x (isortB lt r)
abbrev ltZ (a b : Int) : Bool := decide (a < b)
def ltP2 (a b : Int × Int) : Bool := decide (a.1 < b.1) || (decide (a.1 = b.1) && decide (a.2 < b.2))
def ltL : List Int → List Int → Bool
  | [], [] => false
  | [], _ :: _ => true
  | _ :: _, [] => false
  | a :: r, b :: s => if a = b then ltL r s else decide (a < b)
def sortD (ds : List D) : Option (Md × D) := match intsD ds with
  | some ns => some (.dp, .lst (eI (isortB ltZ ns)))
  | none => match prsD ds with
    | some ps => some (.dp, .lst ((isortB ltP2 ps).map eP))
    | none => none
/-- rising, none twice -/
def dedB {α : Type} [DecidableEq α] : List α → List α
  | [] => []
  | x :: r => if x ∈ r then dedB r else x :: dedB r

def cutL {α : Type} (xs : List α) (lo hi : Option Int) : List α := (xs.drop (HT.sIx xs.length 0 lo)).take (HT.sIx xs.length xs.length hi - HT.sIx xs.length 0 lo)
/-- a slice's end: written or not -/
def optI (p : Bool) (d : D) : Option (Option Int) := if p then (intD d).map some else some none
def smallI (i : Int) : Bool := decide (i.natAbs < 1000000000)
def itemsD : D → Option (List D)
  | .lst ds => some ds
  | .tup ds => some ds
  | .scr ns => some (eI ns)
  | _ => none
def listD : D → Option (List D)
  | .lst ds => some ds
  | .scr ns => some (eI ns)
  | _ => none

def binD : Bop → D → D → Option (Md × D)
  | .add, .int i, .int j => some (.dp, .int (i + j))
  | .add, .lst xs, .lst ys => if xs.length + ys.length ≤ SZ then some (.fl, .lst (xs ++ ys)) else none
  | .sub, .int i, .int j => some (.dp, .int (i - j))
  | .mul, .int i, .int j => if i.natAbs.log2 + j.natAbs.log2 < 100000000 then some (.dp, .int (i * j)) else none
  | .mul, .lst xs, .int k => if smallI k && decide (xs.length * k.toNat ≤ SZ) then some (.fl, .lst (List.replicate k.toNat xs).flatten) else none
  | .fdiv, .int i, .int j => if 0 < j ∧ j < 1073741824 then some (.dp, .int (i / j)) else none
  | .mod, .int i, .int j => if 0 < j then some (.dp, .int (i % j)) else none
  | .pow, .int i, .int j => if 0 ≤ j ∧ j ≤ 1000 ∧ i.natAbs < 1000 then some (.dp, .int (i ^ j.toNat)) else none
  | .shl, .int i, .int j => if 0 ≤ j ∧ j ≤ 1000 ∧ i.natAbs < 1000 then some (.dp, .int (i * 2 ^ j.toNat)) else none
  | .shr, .int i, .int j => if 0 ≤ j then some (.dp, .int (i / 2 ^ j.toNat)) else none
  | .band, .int i, .int j => some (.dp, .int (Builtin.bitAnd i j))
  | _, _, _ => none
def inD (x c : D) : Option Bool := match c with
  | .lst ds => if dat x 20 && dats ds 20 then some (ds.any fun z => eqD z x) else none
  | .tup ds => if flatD x && ds.all flatD then some (ds.any fun z => eqD z x) else none
  | .dic ks => match x with
    | .int i => some (ks.contains i)
    | _ => none
  | _ => none
def ltO (a b : D) : Option Bool := match intD a, intD b with
  | some i, some j => some (decide (i < j))
  | _, _ => match prD a, prD b with
    | some p, some q => some (ltP2 p q)
    | _, _ => none
def isNon : D → Bool
  | .non => true
  | _ => false
def cmpD : Cop → D → D → Option Bool
  | .lt, a, b => ltO a b
  | .le, .int i, .int j => some (decide (i ≤ j))
  | .gt, .int i, .int j => some (decide (j < i))
  | .ge, .int i, .int j => some (decide (j ≤ i))
  | .eq, a, b => if dat a 20 && dat b 20 then some (eqD a b) else none
  | .ne, a, b => if dat a 20 && dat b 20 then some (!eqD a b) else none
  | .isin, a, b => inD a b
  | .notin, a, b => (inD a b).map (!·)
  | .is_, a, .non => some (isNon a)
  | .isnot, a, .non => some (!isNon a)
  | .is_, .bl a, .bl b => some (a == b)
  | .isnot, .bl a, .bl b => some (!(a == b))
  | _, _, _ => none
def isiD : D → Ty → Option Bool
  | .non, .cls _ => none
  | .non, _ => some false
  | .bl _, .bool => some true
  | .bl _, .int => some true
  | .bl _, .list => some false
  | .bl _, .tuple => some false
  | .int _, .int => some true
  | .int _, .bool => some false
  | .int _, .list => some false
  | .int _, .tuple => some false
  | .str _, .int => some false
  | .str _, .bool => some false
  | .str _, .list => some false
  | .str _, .tuple => some false
  | .tup _, .tuple => some true
  | .tup _, .list => some false
  | .tup _, .int => some false
  | .tup _, .bool => some false
  | .lst _, .list => some true
  | .lst _, .tuple => some false
  | .lst _, .int => some false
  | .lst _, .bool => some false
  | .dic _, .list => some false
  | .dic _, .tuple => some false
  | .dic _, .int => some false
  | .dic _, .bool => some false
  | _, _ => none
def subD : D → D → Option D
  | .lst ds, .int i => atI ds i
  | .tup ds, .int i => atI ds i
  | .scr ns, .int i => (atI ns i).map D.int
  | _, _ => none
def slcD (a : D) (l h : Option Int) : Option (Md × D) := match a with
  | .lst ds => some (.fl, .lst (cutL ds l h))
  | .scr ns => some (.dp, .lst (eI (cutL ns l h)))
  | _ => none
def maxL : List Int → Option Int
  | [] => none
  | [x] => some x
  | x :: r => (maxL r).map fun m => if m > x then m else x
def minL : List Int → Option Int
  | [] => none
  | [x] => some x
  | x :: r => (minL r).map fun m => if m < x then m else x
def rngD (a b : Int) : List D := (List.range (b - a).toNat).map fun (i : Nat) => D.int (a + (i : Int))
def rngOk (a b : Int) : Bool := smallI a && smallI b && decide ((b - a).toNat ≤ SZ)
def enuD : Nat → List D → List D
  | _, [] => []
  | n, d :: ds => .tup [.int (n : Int), d] :: enuD (n + 1) ds
def zipD : List D → List D → List D
  | a :: as, b :: bs => .tup [a, b] :: zipD as bs
  | _, _ => []
def maxD (ds : List D) : Option (Md × D) := match ds with
  | [a, b] => (intD a).bind fun i => (intD b).map fun j => (.dp, .int (if j > i then j else i))
  | [.lst ds] => ((intsD ds).bind maxL).map fun m => (.dp, .int m)
  | _ => none
def minD (ds : List D) : Option (Md × D) := match ds with
  | [a, b] => (intD a).bind fun i => (intD b).map fun j => (.dp, .int (if j < i then j else i))
  | [.lst ds] => ((intsD ds).bind minL).map fun m => (.dp, .int m)
  | _ => none
def biD : Bi → List D → Option (Md × D)
  | .len, [.lst ds] => some (.dp, .int ds.length)
  | .len, [.tup ds] => some (.dp, .int ds.length)
  | .len, [.scr ns] => some (.dp, .int ns.length)
  | .sum, [d] => ((listD d).bind intsD).map fun ns => (.dp, .int ns.sum)
  | .all, [.lst ds] => (blsD ds).map fun bs => (.dp, .bl (bs.all id))
  | .any, [.lst ds] => (blsD ds).map fun bs => (.dp, .bl (bs.any id))
  | .max, ds => maxD ds
  | .min, ds => minD ds
  | .sorted, [.lst ds] => sortD ds
  | .list, [.lst ds] => some (.fl, .lst ds)
  | .list, [.tup ds] => some (.fl, .lst ds)
  | .abs, [.int a] => some (.dp, .int (if a < 0 then -a else a))
  | .ssort, [.lst ds] => match intsD ds with
    | some ns => some (.dp, .lst (eI (isortB ltZ (dedB ns))))
    | none => match prsD ds with
      | some ps => some (.dp, .lst ((isortB ltP2 (dedB ps)).map eP))
      | none => none
  | .slen, [.lst ds] => match prsD ds with
    | some ps => some (.dp, .int (dedB ps).length)
    | none => none
  | .lrng, [.int a, .int b] => if rngOk a b then some (.dp, .lst (rngD a b)) else none
  | .lzip, [.lst xs, .lst ys] => some (.fl, .lst (zipD xs ys))
  | _, _ => none

/-! ### ownership of what is made -/
def scal : D → Bool
  | .non => true
  | .bl _ => true
  | .int _ => true
  | .str _ => true
  | .fn _ => true
  | _ => false
/-- all its changeable cells are its own -/
def closed (m : Md) (d : D) : Bool := match m with
  | .dp => true
  | .sh => lfree d
  | .fl => match d with
    | .lst ds => lfrees ds
    | .dic _ => true
    | d => lfree d
def closeds : List (Md × D) → Bool
  | [] => true
  | p :: ps => closed p.1 p.2 && closeds ps
def boxM (ps : List (Md × D)) : Md := if closeds ps then .dp else .fl
def tupM (ps : List (Md × D)) : Md := if closeds ps then .dp else .sh
/-- how a value is kept in a slot -/
def keep (m : Md) (d : D) : Md × D := if scal d then (.sh, d) else (m, d)
def bindT (ts : List Nat) (one : Bool) (x : D) (e : Dn) : Option Dn := match one, ts, x with
  | true, [i], x => some (e.set i (some (.sh, x)))
  | false, [i, j], .tup [x, y] => some ((e.set i (some (.sh, x))).set j (some (.sh, y)))
  | _, _, _ => none
def boolD : D → Option Bool
  | .bl b => some b
  | _ => none
/-- the turns of a comprehension: nothing may be refused within -/
def compL (f : D → Option (Option (Md × D))) : List D → Option (List (Md × D))
  | [] => some []
  | x :: xs => match f x with
    | none => none
    | some none => compL f xs
    | some (some p) => (compL f xs).map (p :: ·)
def okOnly {α : Type} (x : M α) : Option α := match x with
  | some (.ok a) => some a
  | _ => none

mutual
def ev (F : Tb) : E → Dn → M (Md × D)
  | .var i, e => match e[i]? with
    | some (some p) => ok (.sh, p.2)
    | _ => none
  | .lit d, _ => if scal d then ok (.dp, d) else none
  | .bin o a b, e => bnd (ev F a e) fun p => bnd (ev F b e) fun q => lift (binD o p.2 q.2)
  | .cmp o a b, e => bnd (ev F a e) fun p => bnd (ev F b e) fun q => lift ((cmpD o p.2 q.2).map fun b => (.dp, .bl b))
  | .chn o o2 a b c, e => bnd (ev F a e) fun p => bnd (ev F b e) fun q => match cmpD o p.2 q.2 with
    | none => none
    | some false => ok (.dp, .bl false)
    | some true => bnd (ev F c e) fun r => lift ((cmpD o2 q.2 r.2).map fun b => (.dp, .bl b))
  | .chn3 o o2 o3 a b c d, e => bnd (ev F a e) fun p => bnd (ev F b e) fun q => match cmpD o p.2 q.2 with
    | none => none
    | some false => ok (.dp, .bl false)
    | some true => bnd (ev F c e) fun r => match cmpD o2 q.2 r.2 with
      | none => none
      | some false => ok (.dp, .bl false)
      | some true => bnd (ev F d e) fun s => lift ((cmpD o3 r.2 s.2).map fun b => (.dp, .bl b))
  | .neg a, e => bnd (ev F a e) fun p => lift ((intD p.2).map fun i => (.dp, .int (-i)))
  | .not a, e => bnd (ev F a e) fun p => lift ((boolD p.2).map fun b => (.dp, .bl (!b)))
  | .and a b, e => bnd (ev F a e) fun p => match boolD p.2 with
    | none => none
    | some false => ok (.dp, .bl false)
    | some true => ev F b e
  | .or a b, e => bnd (ev F a e) fun p => match boolD p.2 with
    | none => none
    | some true => ok (.dp, .bl true)
    | some false => ev F b e
  | .ite c a b, e => bnd (ev F c e) fun p => match boolD p.2 with
    | none => none
    | some true => ev F a e
    | some false => ev F b e
  | .tup es, e => bnd (evs F es e) fun ps => ok (tupM ps, .tup (ps.map Prod.snd))
  | .lst es, e => bnd (evs F es e) fun ps => ok (boxM ps, .lst (ps.map Prod.snd))
  | .sub a i, e => bnd (ev F a e) fun p => bnd (ev F i e) fun q => lift ((subD p.2 q.2).map fun d => (.sh, d))
  | .slc pl ph a lo hi, e => bnd (ev F a e) fun p => bnd (ev F lo e) fun q => match optI pl q.2 with
    | none => none
    | some l => bnd (ev F hi e) fun r => match optI ph r.2 with
      | none => none
      | some h => lift (slcD p.2 l h)
  | .rev a, e => bnd (ev F a e) fun p => match p.2 with
    | .lst ds => ok (.fl, .lst ds.reverse)
    | _ => none
  | .att a f, e => bnd (ev F a e) fun p => match p.2 with
    | .ins _ g d => if g = f then ok (.sh, d) else none
    | _ => none
  | .cal f es, e => bnd (evs F es e) fun ps => bnd (F f (ps.map Prod.snd)) fun r => ok (if r.1 = .sh ∧ closeds ps ∧ closed .fl r.2 then (.fl, r.2) else r)
  | .cav a es, e => bnd (ev F a e) fun p => match p.2 with
    | .fn f => bnd (evs F es e) fun ps => F f (ps.map Prod.snd)
    | _ => none
  | .bi b es, e => bnd (evs F es e) fun ps => lift (biD b (ps.map Prod.snd))
  | .mix a b, e => bnd (ev F a e) fun p => match p.2 with
    | .lst ds => bnd (ev F b e) fun q => if dat q.2 20 && dats ds 20 then lift ((ds.findIdx? fun z => eqD z q.2).map fun i => (.dp, .int (i : Nat))) else none
    | _ => none
  | .isi a t, e => bnd (ev F a e) fun p => lift ((isiD p.2 t).map fun b => (.dp, .bl b))
  | .comp ts one s cs a, e => bnd (evS F s e) fun p => match compL (fun x => (bindT ts one x e).bind fun e1 => (okOnly (evC F cs e1)).bind fun b => if b then (okOnly (ev F a e1)).map some else some none) p.2 with
    | none => none
    | some ps => ok (boxM ps, .lst (ps.map Prod.snd))
  | .dnew, _ => ok (.dp, .dic [])
def evs (F : Tb) : List E → Dn → M (List (Md × D))
  | [], _ => ok []
  | a :: as, e => bnd (ev F a e) fun p => bnd (evs F as e) fun ps => ok (p :: ps)
/-- all tests, from the left -/
def evC (F : Tb) : List E → Dn → M Bool
  | [], _ => ok true
  | a :: as, e => bnd (ev F a e) fun p => match boolD p.2 with
    | none => none
    | some false => ok false
    | some true => evC F as e
/-- what is walked: whether its items may be others', and the items -/
def evS (F : Tb) : Sr → Dn → M (Md × List D)
  | .seq a, e => bnd (ev F a e) fun p => lift ((itemsD p.2).map fun ds => (p.1, ds))
  | .rng a b, e => bnd (ev F a e) fun p => bnd (ev F b e) fun q => match p.2, q.2 with
    | .int i, .int j => if rngOk i j then ok (.dp, rngD i j) else none
    | _, _ => none
  | .enu a, e => bnd (ev F a e) fun p => match p.2 with
    | .lst ds => ok (p.1, enuD 0 ds)
    | _ => none
  | .zip a b, e => bnd (ev F a e) fun p => bnd (ev F b e) fun q => match p.2, q.2 with
    | .lst xs, .lst ys => ok (.sh, zipD xs ys)
    | _, _ => none
end

/-! the slots that an expression names -/
mutual
def nm : E → List Nat
  | .var i => [i]
  | .lit _ => []
  | .bin _ a b => nm a ++ nm b
  | .cmp _ a b => nm a ++ nm b
  | .chn _ _ a b c => nm a ++ nm b ++ nm c
  | .chn3 _ _ _ a b c d => nm a ++ nm b ++ nm c ++ nm d
  | .neg a => nm a
  | .not a => nm a
  | .and a b => nm a ++ nm b
  | .or a b => nm a ++ nm b
  | .ite c a b => nm c ++ nm a ++ nm b
  | .tup es => nms es
  | .lst es => nms es
  | .sub a i => nm a ++ nm i
  | .slc _ _ a lo hi => nm a ++ nm lo ++ nm hi
  | .rev a => nm a
  | .att a _ => nm a
  | .cal _ es => nms es
  | .cav a es => nm a ++ nms es
  | .bi _ es => nms es
  | .mix a b => nm a ++ nm b
  | .isi a _ => nm a
  | .comp _ _ s cs a => nmS s ++ nms cs ++ nm a
  | .dnew => []
def nms : List E → List Nat
  | [] => []
  | a :: as => nm a ++ nms as
def nmS : Sr → List Nat
  | .seq a => nm a
  | .rng a b => nm a ++ nm b
  | .enu a => nm a
  | .zip a b => nm a ++ nm b
end

/-! ### statements -/
inductive Mo where
  | append | extend | pop | remove | insert | clear | reverse | set | aug
inductive S where
  | pass
  | asg (i : Nat) (e : E)
  | par (is : List Nat) (es : List E)
  | unp (is : List Nat) (e : E)
  | aug (i : Nat) (e : E)
  | mut (i : Nat) (p : List E) (o : Mo) (es : List E)
  | dput (i : Nat) (k v : E)
  | exp (e : E)
  | ife (c : E) (a b : List S)
  | ret (e : E)
  | for_ (ts : List Nat) (one : Bool) (s : Sr) (b : List S)
  | whl (c : E) (b : List S)
  | rai (C : Nat)
inductive Fl where
  | nx (e : Dn)
  | rt (m : Md) (d : D)

def ownS : Sl → Bool
  | some (.sh, _) => false
  | none => false
  | _ => true
def frzS : Sl → Sl
  | some (_, d) => some (.sh, d)
  | none => none
def frz : List Nat → Dn → Dn
  | [], e => e
  | i :: is, e => frz is (match e[i]? with
    | some s => e.set i (frzS s)
    | none => e)
/-- the slots that a value kept may reach are given up, unless all its cells are its own -/
def give (is : List Nat) (m : Md) (d : D) (e : Dn) : Dn :=
  if is.any (fun i => match e[i]? with | some s => ownS s | none => false) then (if closed m d then e else frz is e) else e
def gives (is : List Nat) (ps : List (Md × D)) (e : Dn) : Dn :=
  if is.any (fun i => match e[i]? with | some s => ownS s | none => false) then (if closeds ps then e else frz is e) else e

def setAll : List Nat → List (Md × D) → Dn → Option Dn
  | [], [], e => some e
  | i :: is, p :: ps, e => setAll is ps (e.set i (some (keep p.1 p.2)))
  | _, _, _ => none
def setSh : List Nat → List D → Dn → Option Dn
  | [], [], e => some e
  | i :: is, d :: ds, e => setSh is ds (e.set i (some (.sh, d)))
  | _, _, _ => none

/-- what a change of a list makes of its items; the values put in -/
def moL (o : Mo) (xs : List D) (vs : List D) : Option (List D) := match o, vs with
  | .append, [v] => if xs.length < SZ then some (xs ++ [v]) else none
  | .extend, [.lst ys] => if xs.length + ys.length ≤ SZ then some (xs ++ ys) else none
  | .pop, [] => match xs with
    | [] => none
    | _ => some xs.dropLast
  | .pop, [.int i] => if smallI i then (ixN xs.length i).map fun j => xs.eraseIdx j else none
  | .remove, [v] => if dat v 20 && dats xs 20 then (xs.findIdx? fun z => eqD z v).map fun j => xs.eraseIdx j else none
  | .insert, [.int i, v] => if 0 ≤ i ∧ smallI i = true ∧ xs.length < SZ then some (xs.take i.toNat ++ [v] ++ xs.drop i.toNat) else none
  | .clear, [] => some []
  | .reverse, [] => some xs.reverse
  | .set, [.int i, v] => (ixN xs.length i).map fun j => xs.set j v
  | .aug, [.int i, .int k] => (ixN xs.length i).bind fun j => match xs[j]? with
    | some (.int n) => some (xs.set j (.int (n + k)))
    | _ => none
  | _, _ => none
/-- the change at a place within a tree -/
def moP (o : Mo) (vs : List D) : List Int → D → Option D
  | [], .lst xs => (moL o xs vs).map D.lst
  | i :: is, .lst xs => (ixN xs.length i).bind fun j => (xs[j]?).bind fun d => (moP o vs is d).map fun d' => .lst (xs.set j d')
  | i :: is, .tup xs => (ixN xs.length i).bind fun j => (xs[j]?).bind fun d => (moP o vs is d).map fun d' => .tup (xs.set j d')
  | _, _ => none
def moS (o : Mo) (is : List Int) (ps : List (Md × D)) : Md × D → Option (Md × D)
  | (.fl, d) => match is, d with
    | [], .lst xs => (moL o xs (ps.map Prod.snd)).map fun ys => (.fl, .lst ys)
    | _, _ => none
  | (.dp, d) => if closeds ps then (moP o (ps.map Prod.snd) is d).map fun d' => (.dp, d') else match is, d with
    | [], .lst xs => (moL o xs (ps.map Prod.snd)).map fun ys => (.fl, .lst ys)
    | _, _ => none
  | (.sh, _) => none

/-! a value handed back: the own cells of a name go with it -/
mutual
def evr (F : Tb) : E → Dn → M (Md × D)
  | .var i, e => match e[i]? with
    | some (some p) => ok p
    | _ => none
  | .ite c a b, e => bnd (ev F c e) fun p => match boolD p.2 with
    | none => none
    | some true => evr F a e
    | some false => evr F b e
  | .tup es, e => bnd (evrs F es e) fun ps => ok (if (mvs es).Nodup then tupM ps else .sh, .tup (ps.map Prod.snd))
  | .lit d, e => ev F (.lit d) e
  | .bin o a b, e => ev F (.bin o a b) e
  | .cmp o a b, e => ev F (.cmp o a b) e
  | .chn o p a b c, e => ev F (.chn o p a b c) e
  | .chn3 o p q a b c d, e => ev F (.chn3 o p q a b c d) e
  | .neg a, e => ev F (.neg a) e
  | .not a, e => ev F (.not a) e
  | .and a b, e => ev F (.and a b) e
  | .or a b, e => ev F (.or a b) e
  | .lst es, e => ev F (.lst es) e
  | .sub a i, e => ev F (.sub a i) e
  | .slc pl ph a lo hi, e => ev F (.slc pl ph a lo hi) e
  | .rev a, e => ev F (.rev a) e
  | .att a f, e => ev F (.att a f) e
  | .cal f es, e => ev F (.cal f es) e
  | .cav a es, e => ev F (.cav a es) e
  | .bi b es, e => ev F (.bi b es) e
  | .mix a b, e => ev F (.mix a b) e
  | .isi a t, e => ev F (.isi a t) e
  | .comp ts one s cs a, e => ev F (.comp ts one s cs a) e
  | .dnew, e => ev F .dnew e
def evrs (F : Tb) : List E → Dn → M (List (Md × D))
  | [], _ => ok []
  | a :: as, e => bnd (evr F a e) fun p => bnd (evrs F as e) fun ps => ok (p :: ps)
/-- the slots that go with it -/
def mv : E → List Nat
  | .var i => [i]
  | .ite _ a b => mv a ++ mv b
  | .tup es => mvs es
  | _ => []
def mvs : List E → List Nat
  | [] => []
  | a :: as => mv a ++ mvs as
end

/-- the tree at a place -/
def getP : List Int → D → Option D
  | [], d => some d
  | i :: is, .lst xs => (atI xs i).bind (getP is)
  | i :: is, .tup xs => (atI xs i).bind (getP is)
  | _, _ => none
/-- a place, from behind -/
def evP (F : Tb) : List E → Dn → M (List Int)
  | [], _ => ok []
  | a :: as, e => bnd (evP F as e) fun is => match okOnly (ev F a e) with
    | some p => lift ((intD p.2).map (· :: is))
    | none => none
def forL (f : D → Dn → M Fl) : List D → Dn → M Fl
  | [], e => ok (.nx e)
  | x :: xs, e => bnd (f x e) fun r => match r with
    | .nx e1 => forL f xs e1
    | .rt m d => ok (.rt m d)
def whlL (c : Dn → M Bool) (b : Dn → M Fl) : Nat → Dn → M Fl
  | 0, _ => none
  | n + 1, e => bnd (c e) fun t => if t then bnd (b e) fun r => (match r with
      | .nx e1 => whlL c b n e1
      | .rt m d => ok (.rt m d)) else ok (.nx e)
abbrev WF : Nat := 300
def intsOnly : List (Md × D) → Option (List Int)
  | [] => some []
  | (_, .int i) :: r => (intsOnly r).map (i :: ·)
  | _ => none

mutual
def ex (F : Tb) : S → Dn → M Fl
  | .pass, e => ok (.nx e)
  | .asg i a, e => bnd (ev F a e) fun p => ok (.nx ((give (nm a) p.1 p.2 e).set i (some (keep p.1 p.2))))
  | .par is as, e => bnd (evs F as e) fun ps => lift ((setAll is ps (gives (nms as) ps e)).map Fl.nx)
  | .unp is a, e => bnd (ev F a e) fun p => match p.2 with
    | .tup ds => lift ((setSh is ds (give (nm a) p.1 p.2 e)).map Fl.nx)
    | _ => none
  | .aug i a, e => match e[i]? with
    | some (some (_, .int n)) => bnd (ev F a e) fun p => lift ((intD p.2).map fun k => Fl.nx (e.set i (some (.sh, .int (n + k)))))
    | _ => none
  | .mut i p o as, e => match e[i]? with
    | some (some q0) => bnd (evP F p e) fun ri => match getP ri.reverse q0.2 with
      | some (.lst _) => bnd (evs F as e) fun ps => match (gives (nms as) ps e)[i]? with
        | some (some q) => lift ((moS o ri.reverse ps q).map fun q' => Fl.nx ((gives (nms as) ps e).set i (some q')))
        | _ => none
      | _ => none
    | _ => none
  | .dput i k v, e => bnd (ev F k e) fun p => bnd (ev F v e) fun q => match e[i]?, p.2, q.2 with
    | some (some (.dp, .dic ks)), .int n, .bl true => if ks.length < SZ then ok (.nx (e.set i (some (.dp, .dic (if ks.contains n then ks else ks ++ [n]))))) else none
    | _, _, _ => none
  | .exp a, e => bnd (ev F a e) fun _ => ok (.nx e)
  | .ife c a b, e => bnd (ev F c e) fun p => match boolD p.2 with
    | none => none
    | some true => exs F a e
    | some false => exs F b e
  | .ret a, e => bnd (evr F a e) fun p => ok (.rt p.1 p.2)
  | .for_ ts one s b, e => bnd (evS F s e) fun p => forL (fun x e1 => match bindT ts one x e1 with
      | none => none
      | some e2 => exs F b e2) p.2 (if p.1 = .dp then e else frz (nmS s) e)
  | .whl c b, e => whlL (fun e1 => bnd (ev F c e1) fun p => lift (boolD p.2)) (fun e1 => exs F b e1) WF e
  | .rai C, _ => some (.er C)
def exs (F : Tb) : List S → Dn → M Fl
  | [], e => ok (.nx e)
  | s :: ss, e => bnd (ex F s e) fun r => match r with
    | .nx e1 => exs F ss e1
    | .rt m d => ok (.rt m d)
end

structure Fun where
  np : Nat
  nv : Nat
  body : List S
def start0 (np nv : Nat) (ds : List D) : Dn := ds.map (fun d => some (.sh, d)) ++ List.replicate (nv - np) none
def callF (F : Tb) (f : Fun) (ds : List D) : M (Md × D) :=
  if ds.length = f.np then bnd (exs F f.body (start0 f.np f.nv ds)) fun r => match r with
    | .nx _ => ok (.dp, .non)
    | .rt m d => ok (m, d)
  else none
def run (P : List Fun) : Nat → Tb
  | 0, _, _ => none
  | k + 1, f, ds => match P[f]? with
    | some F => callF (run P k) F ds
    | none => none
end TW

set_option Elab.async false
set_option linter.all false
set_option maxRecDepth 100000
set_option maxHeartbeats 4000000
namespace TW
open PySem PySem.Spec PyProof.Rows L2

/-! ### owned values -/
def Ow (W : Wd) (H : Hp) (O : Addr → Prop) : Md → D → V → List Addr → Prop
  | .sh, d, v, F => F = [] ∧ Rp W H O d v
  | .dp, d, v, F => Dq W H d v F
  | .fl, .lst ds, v, F => ∃ a vs, v = .ref a ∧ F = [a] ∧ H a = some (.lst vs) ∧ vs.length ≤ sizeLine ∧ Rps W H O ds vs
  | .fl, .dic ks, v, F => Dq W H (.dic ks) v F
  | .fl, d, v, F => F = [] ∧ Rp W H O d v
section
variable {W : Wd} {H H' : Hp} {O O' : Addr → Prop} {m : Md} {d : D} {v : V} {F : List Addr}
/-- a tree that is changeable at its top in a flat way -/
def flatTop : D → Bool
  | .lst _ => true
  | .dic _ => true
  | _ => false
theorem Ow.fl_other (h : flatTop d = false) : Ow W H O .fl d v F = (F = [] ∧ Rp W H O d v) := by
  cases d <;> first | rfl | cases h
theorem closed_other (h : flatTop d = false) : closed .fl d = lfree d := by
  cases d <;> first | rfl | cases h
theorem Ow.mono (s : Same H H') (ho : ∀ a, O' a → O a) (h : Ow W H O m d v F) : Ow W H' O' m d v F := by
  cases m with
  | sh => exact ⟨h.1, Rp.mono s ho _ _ h.2⟩
  | dp => exact Dq.mono s _ _ _ h
  | fl =>
    cases e : flatTop d with
    | false =>
      rw [Ow.fl_other e] at h ⊢
      exact ⟨h.1, Rp.mono s ho _ _ h.2⟩
    | true =>
      cases d with
      | lst ds =>
        obtain ⟨a, vs, e1, e2, h1, h2, h3⟩ := h
        exact ⟨a, vs, e1, e2, s _ _ h1, h2, Rps.mono s ho _ _ h3⟩
      | dic ks => exact Dq.mono (W := W) s (.dic ks) _ _ h
      | _ => cases e
theorem Ow.off (ho : ∀ a, O' a → O a ∨ H a = none) (h : Ow W H O m d v F) : Ow W H O' m d v F := by
  cases m with
  | sh => exact ⟨h.1, Rp.off ho _ _ h.2⟩
  | dp => exact h
  | fl =>
    cases e : flatTop d with
    | false =>
      rw [Ow.fl_other e] at h ⊢
      exact ⟨h.1, Rp.off ho _ _ h.2⟩
    | true =>
      cases d with
      | lst ds =>
        obtain ⟨a, vs, e1, e2, h1, h2, h3⟩ := h
        exact ⟨a, vs, e1, e2, h1, h2, Rps.off ho _ _ h3⟩
      | dic ks => exact h
      | _ => cases e
theorem Ow.upd {p : Addr} {o x : HO} (hp : H p = some o) (mu : MutC o) (op : O p) (np : p ∉ F) (h : Ow W H O m d v F) : Ow W (upd H p x) O m d v F := by
  cases m with
  | sh => exact ⟨h.1, Rp.upd hp mu op _ _ h.2⟩
  | dp => exact Dq.upd hp mu _ _ _ np h
  | fl =>
    cases e : flatTop d with
    | false =>
      rw [Ow.fl_other e] at h ⊢
      exact ⟨h.1, Rp.upd hp mu op _ _ h.2⟩
    | true =>
      cases d with
      | lst ds =>
        obtain ⟨a, vs, e1, e2, h1, h2, h3⟩ := h
        have ne : a ≠ p := fun z => np (by rw [e2, z]; exact List.mem_cons_self)
        exact ⟨a, vs, e1, e2, by rw [upd_ne ne]; exact h1, h2, Rps.upd hp mu op _ _ h3⟩
      | dic ks => exact Dq.upd (W := W) hp mu (.dic ks) _ _ np h
      | _ => cases e
/-- owned cells given up -/
theorem Ow.rp (h : Ow W H O m d v F) (hO : ∀ a, O' a → O a) (hF : ∀ a ∈ F, ¬ O' a) : Rp W H O' d v := by
  cases m with
  | sh => exact Rp.mono (Same.refl H) hO _ _ h.2
  | dp => exact Dq.rp _ _ _ h hF
  | fl =>
    cases e : flatTop d with
    | false =>
      rw [Ow.fl_other e] at h
      exact Rp.mono (Same.refl H) hO _ _ h.2
    | true =>
      cases d with
      | lst ds =>
        obtain ⟨a, vs, e1, e2, h1, h2, h3⟩ := h
        exact ⟨a, vs, e1, hF a (by rw [e2]; exact List.mem_cons_self), h1, h2, Rps.mono (Same.refl H) hO _ _ h3⟩
      | dic ks => exact Dq.rp (W := W) (.dic ks) _ _ h hF
      | _ => cases e
theorem Ow.dq (h : Ow W H O m d v F) (c : closed m d = true) : Dq W H d v F := by
  cases m with
  | sh =>
    rw [h.1]
    exact Rp.dq _ _ h.2 c
  | dp => exact h
  | fl =>
    cases e : flatTop d with
    | false =>
      rw [Ow.fl_other e] at h
      rw [closed_other e] at c
      rw [h.1]
      exact Rp.dq _ _ h.2 c
    | true =>
      cases d with
      | lst ds =>
        obtain ⟨a, vs, e1, e2, h1, h2, h3⟩ := h
        exact ⟨a, vs, [], e1, e2, h1, h2, Rps.dq _ _ h3 c⟩
      | dic ks => exact h
      | _ => cases e
theorem Rp.any (h : Rp W H O d v) (l : lfree d = true) : Rp W H O' d v := Dq.rp _ _ _ (Rp.dq _ _ h l) (fun _ z => by cases z)
theorem Ow.sh_any (h : Rp W H O d v) (l : lfree d = true) : Ow W H O' m d v [] := by
  cases m with
  | sh => exact ⟨rfl, h.any l⟩
  | dp => exact Rp.dq _ _ h l
  | fl =>
    cases e : flatTop d with
    | false =>
      rw [Ow.fl_other e]
      exact ⟨rfl, h.any l⟩
    | true =>
      cases d with
      | lst ds => cases l
      | dic ks => cases l
      | _ => cases e
mutual
theorem Dq.there : ∀ (d : D) (v : V) (F : List Addr), Dq W H d v F → ∀ a ∈ F, ∃ o, H a = some o ∧ MutC o
  | .non, v, F, h, a, ha => by rw [h.2] at ha; cases ha
  | .bl _, v, F, h, a, ha => by rw [h.2] at ha; cases ha
  | .int _, v, F, h, a, ha => by rw [h.2] at ha; cases ha
  | .str _, v, F, h, a, ha => by rw [h.2] at ha; cases ha
  | .fn _, v, F, h, a, ha => by rw [h.2] at ha; cases ha
  | .tup ds, v, F, h, a, ha => by
    obtain ⟨b, vs, e, h1, h2, h3⟩ := h
    exact Dqs.there ds vs F h3 a ha
  | .lst ds, v, F, h, a, ha => by
    obtain ⟨b, vs, G, e, eF, h1, h2, h3⟩ := h
    rw [eF] at ha
    rcases List.mem_cons.mp ha with rfl | ha
    · exact ⟨_, h1, trivial⟩
    · exact Dqs.there ds vs G h3 a ha
  | .scr ns, v, F, h, a, ha => by rw [h.2] at ha; cases ha
  | .dic ks, v, F, h, a, ha => by
    obtain ⟨b, e, eF, h1, h2⟩ := h
    rw [eF] at ha
    rcases List.mem_cons.mp ha with rfl | ha
    · exact ⟨_, h1, trivial⟩
    · cases ha
  | .ins C f d, v, F, h, a, ha => by
    obtain ⟨b, dx, fv, e, h1, h3⟩ := h
    exact Dq.there d fv F h3 a ha
theorem Dqs.there : ∀ (ds : List D) (vs : List V) (F : List Addr), Dqs W H ds vs F → ∀ a ∈ F, ∃ o, H a = some o ∧ MutC o
  | [], vs, F, h, a, ha => by rw [h.2] at ha; cases ha
  | d :: ds, vs, F, h, a, ha => by
    obtain ⟨v, r, F1, F2, e, eF, h1, h2⟩ := h
    rw [eF] at ha
    rcases List.mem_append.mp ha with ha | ha
    · exact Dq.there d v F1 h1 a ha
    · exact Dqs.there ds r F2 h2 a ha
end
theorem Ow.there (h : Ow W H O m d v F) : ∀ a ∈ F, ∃ o, H a = some o ∧ MutC o := by
  cases m with
  | sh => intro a ha; rw [h.1] at ha; cases ha
  | dp => exact Dq.there _ _ _ h
  | fl =>
    cases e : flatTop d with
    | false =>
      rw [Ow.fl_other e] at h
      intro a ha
      rw [h.1] at ha
      cases ha
    | true =>
      cases d with
      | lst ds =>
        obtain ⟨b, vs, e1, e2, h1, h2, h3⟩ := h
        intro a ha
        rw [e2] at ha
        rcases List.mem_cons.mp ha with rfl | ha
        · exact ⟨_, h1, trivial⟩
        · cases ha
      | dic ks => exact Dq.there (W := W) (.dic ks) _ _ h
      | _ => cases e
end

/-! ### several values -/
def Ows (W : Wd) (H : Hp) (O : Addr → Prop) : List (Md × D) → List V → List (List Addr) → Prop
  | [], vs, Fs => vs = [] ∧ Fs = []
  | p :: ps, vs, Fs => ∃ v r F Fr, vs = v :: r ∧ Fs = F :: Fr ∧ Ow W H O p.1 p.2 v F ∧ Ows W H O ps r Fr
section
variable {W : Wd} {H H' : Hp} {O O' : Addr → Prop}
theorem Ows.mono (s : Same H H') (ho : ∀ a, O' a → O a) : ∀ {ps : List (Md × D)} {vs : List V} {Fs : List (List Addr)}, Ows W H O ps vs Fs → Ows W H' O' ps vs Fs
  | [], _, _, h => h
  | p :: ps, _, _, h => by
    obtain ⟨v, r, F, Fr, e1, e2, h1, h2⟩ := h
    exact ⟨v, r, F, Fr, e1, e2, h1.mono s ho, Ows.mono s ho h2⟩
theorem Ows.rps (hO : ∀ a, O' a → O a) : ∀ {ps : List (Md × D)} {vs : List V} {Fs : List (List Addr)}, Ows W H O ps vs Fs → (∀ a ∈ Fs.flatten, ¬ O' a) → Rps W H O' (ps.map Prod.snd) vs
  | [], _, _, h, _ => h.1
  | p :: ps, _, _, h, n => by
    obtain ⟨v, r, F, Fr, e1, e2, h1, h2⟩ := h
    subst e2
    exact ⟨v, r, e1, h1.rp hO (fun a ha => n a (List.mem_append_left _ ha)), Ows.rps hO h2 fun a ha => n a (List.mem_append_right _ ha)⟩
theorem Ows.dqs : ∀ {ps : List (Md × D)} {vs : List V} {Fs : List (List Addr)}, Ows W H O ps vs Fs → closeds ps = true → Dqs W H (ps.map Prod.snd) vs Fs.flatten
  | [], _, _, h, _ => by rw [h.2]; exact ⟨h.1, rfl⟩
  | p :: ps, _, _, h, c => by
    obtain ⟨v, r, F, Fr, e1, e2, h1, h2⟩ := h
    subst e2
    obtain ⟨c1, c2⟩ := Bool.and_eq_true_iff.mp (show (closed p.1 p.2 && closeds ps) = true from c)
    exact ⟨v, r, F, Fr.flatten, e1, rfl, h1.dq c1, Ows.dqs h2 c2⟩
theorem Ows.there : ∀ {ps : List (Md × D)} {vs : List V} {Fs : List (List Addr)}, Ows W H O ps vs Fs → ∀ a ∈ Fs.flatten, ∃ o, H a = some o ∧ MutC o
  | [], _, _, h, a, ha => by rw [h.2] at ha; cases ha
  | p :: ps, _, _, h, a, ha => by
    obtain ⟨v, r, F, Fr, e1, e2, h1, h2⟩ := h
    subst e2
    rcases List.mem_append.mp (show a ∈ F ++ Fr.flatten from ha) with ha | ha
    · exact h1.there a ha
    · exact Ows.there h2 a ha
theorem Ows.length : ∀ {ps : List (Md × D)} {vs : List V} {Fs : List (List Addr)}, Ows W H O ps vs Fs → vs.length = ps.length
  | [], _, _, h => by rw [h.1]; rfl
  | p :: ps, _, _, h => by
    obtain ⟨v, r, F, Fr, e1, e2, h1, h2⟩ := h
    rw [e1, List.length_cons, List.length_cons, Ows.length h2]
end

/-! ### the state of a body -/
structure SS (W : Wd) (H0 : Hp) (O0 : Addr → Prop) (H : Hp) (σ : L2.St) (δ : Dn) (Fs : List (List Addr)) : Prop where
  same : Same H0 H
  len : δ.length = σ.length
  lenF : Fs.length = σ.length
  slot : ∀ (i : Nat) (p : Md × D), δ[i]? = some (some p) → ∃ v, σ[i]? = some (some v) ∧ Ow W H (fun a => O0 a ∨ a ∈ Fs.flatten) p.1 p.2 v (Fs.getD i [])
  nod : Fs.flatten.Nodup
  new : ∀ a ∈ Fs.flatten, H0 a = none
  offF : ∀ a, O0 a → a ∉ Fs.flatten
  oldT : ∀ a, O0 a → H a ≠ none
  there : ∀ a ∈ Fs.flatten, ∃ o, H a = some o ∧ MutC o
  mt : ∀ (i : Nat), δ[i]? = some none → Fs.getD i [] = []
/-- what a value of an expression that names the slots S keeps off: the caller's cells, and those of the other slots -/
def av (O0 : Addr → Prop) (Fs : List (List Addr)) (S : List Nat) : Addr → Prop := fun p => O0 p ∨ ∃ i, i ∉ S ∧ p ∈ Fs.getD i []
theorem mem_flat {Fs : List (List Addr)} {i : Nat} {a : Addr} (h : a ∈ Fs.getD i []) : a ∈ Fs.flatten := by
  rw [List.getD_eq_getElem?_getD] at h
  cases e : Fs[i]? with
  | none => rw [e] at h; cases h
  | some F =>
    rw [e] at h
    exact List.mem_flatten.mpr ⟨F, List.mem_of_getElem? e, h⟩
theorem flat_ix : ∀ {Fs : List (List Addr)} {a : Addr}, a ∈ Fs.flatten → ∃ i, a ∈ Fs.getD i [] := fun {Fs a} h => by
  obtain ⟨F, hF, ha⟩ := List.mem_flatten.mp h
  obtain ⟨i, hi⟩ := List.mem_iff_getElem?.mp hF
  exact ⟨i, by rw [List.getD_eq_getElem?_getD, hi]; exact ha⟩
theorem flat_inj : ∀ {Fs : List (List Addr)} {i j : Nat} {a : Addr}, Fs.flatten.Nodup → a ∈ Fs.getD i [] → a ∈ Fs.getD j [] → i = j
  | [], i, j, a, _, h, _ => by cases i <;> cases h
  | F :: Fs, 0, 0, a, _, _, _ => rfl
  | F :: Fs, 0, j + 1, a, nd, h1, h2 => by
    have nd' : (F ++ Fs.flatten).Nodup := nd
    exact absurd rfl ((List.nodup_append.mp nd').2.2 a h1 a (mem_flat (i := j) h2))
  | F :: Fs, i + 1, 0, a, nd, h1, h2 => by
    have nd' : (F ++ Fs.flatten).Nodup := nd
    exact absurd rfl ((List.nodup_append.mp nd').2.2 a h2 a (mem_flat (i := i) h1))
  | F :: Fs, i + 1, j + 1, a, nd, h1, h2 => by
    have nd' : (F ++ Fs.flatten).Nodup := nd
    rw [flat_inj (Fs := Fs) (i := i) (j := j) (List.nodup_append.mp nd').2.1 h1 h2]
theorem av_mono {O0 : Addr → Prop} {Fs : List (List Addr)} {S T : List Nat} (h : ∀ i ∈ T, i ∈ S) : ∀ a, av O0 Fs S a → av O0 Fs T a := fun a z => by
  rcases z with z | ⟨i, n, z⟩
  · exact .inl z
  · exact .inr ⟨i, fun q => n (h i q), z⟩
section
variable {W : Wd} {H0 H H' : Hp} {O0 : Addr → Prop} {σ : L2.St} {δ : Dn} {Fs : List (List Addr)}
theorem SS.av_there (S : SS W H0 O0 H σ δ Fs) {T : List Nat} : ∀ a, av O0 Fs T a → H a ≠ none := fun a z => by
  rcases z with z | ⟨i, _, z⟩
  · exact S.oldT a z
  · obtain ⟨o, e, _⟩ := S.there a (mem_flat z)
    rw [e]
    simp
theorem SS.grow (S : SS W H0 O0 H σ δ Fs) (s : Same H H') : SS W H0 O0 H' σ δ Fs :=
  ⟨S.same.trans s, S.len, S.lenF, fun i p e => let ⟨v, h1, h2⟩ := S.slot i p e; ⟨v, h1, h2.mono s fun _ z => z⟩, S.nod, S.new, S.offF, fun a ha z => S.oldT a ha (s.free z), fun a ha => let ⟨o, e, m⟩ := S.there a ha; ⟨o, s a o e, m⟩, S.mt⟩
/-- new cells that no slot reaches are kept off, too -/
theorem SS.more (S : SS W H0 O0 H σ δ Fs) (s : Same H H') {F : List Addr} (n : ∀ a ∈ F, H a = none) (t : ∀ a ∈ F, H' a ≠ none) : SS W H0 (fun a => O0 a ∨ a ∈ F) H' σ δ Fs := by
  refine ⟨S.same.trans s, S.len, S.lenF, fun i p e => ?_, S.nod, S.new, fun a z q => ?_, fun a z q => ?_, fun a ha => ?_, S.mt⟩
  · obtain ⟨v, h1, h2⟩ := S.slot i p e
    refine ⟨v, h1, (h2.off (fun a z => ?_)).mono s fun _ z => z⟩
    rcases z with (z | z) | z
    · exact .inl (.inl z)
    · exact .inr (n a z)
    · exact .inl (.inr z)
  · rcases z with z | z
    · exact S.offF a z q
    · obtain ⟨o, e, _⟩ := S.there a q
      rw [n a z] at e
      cases e
  · rcases z with z | z
    · exact S.oldT a z (s.free q)
    · exact t a z q
  · obtain ⟨o, e, m⟩ := S.there a ha
    exact ⟨o, s a o e, m⟩
theorem SS.var (S : SS W H0 O0 H σ δ Fs) {i : Nat} {p : Md × D} (e : δ[i]? = some (some p)) {T : List Nat} (hT : i ∈ T) : ∃ v, σ[i]? = some (some v) ∧ Rp W H (av O0 Fs T) p.2 v := by
  obtain ⟨v, h1, h2⟩ := S.slot i p e
  refine ⟨v, h1, h2.rp (fun a z => ?_) (fun a ha z => ?_)⟩
  · rcases z with z | ⟨j, _, z⟩
    · exact .inl z
    · exact .inr (mem_flat z)
  · rcases z with z | ⟨j, n, z⟩
    · exact S.offF a z (mem_flat ha)
    · exact n (flat_inj S.nod ha z ▸ hT)
end

/-! ### what is wanted of a value -/
def Res (W : Wd) (H : Hp) (O : Addr → Prop) (m : Md) (d : D) (Q : VK) : Prop :=
  ∀ v H' F, Same H H' → (∀ a ∈ F, H a = none) → F.Nodup → Ow W H' (fun p => O p ∨ p ∈ F) m d v F → Q v H'
def rq (W : Wd) (E0 : XK) (H : Hp) (O : Addr → Prop) (r : M (Md × D)) (Q : VK) : Prop := match r with
  | none => False
  | some (.er C) => ∀ H', Same H H' → E0 (.ref (W.ca C)) none H'
  | some (.ok p) => Res W H O p.1 p.2 Q
def rqs (W : Wd) (E0 : XK) (H : Hp) (O : Addr → Prop) (r : M (List (Md × D))) (Q : List V → Hp → Prop) : Prop := match r with
  | none => False
  | some (.er C) => ∀ H', Same H H' → E0 (.ref (W.ca C)) none H'
  | some (.ok ps) => ∀ vs H' Fs, Same H H' → (∀ a ∈ Fs.flatten, H a = none) → Fs.flatten.Nodup → Ows W H' (fun p => O p ∨ p ∈ Fs.flatten) ps vs Fs → Q vs H'
def rqb (W : Wd) (E0 : XK) (H : Hp) (r : M Bool) (Q : Bool → Hp → Prop) : Prop := match r with
  | none => False
  | some (.er C) => ∀ H', Same H H' → E0 (.ref (W.ca C)) none H'
  | some (.ok b) => ∀ H', Same H H' → Q b H'
def rdE (W : Wd) (E0 : XK) (T : Tb) (c : E) : TE := fun σ H Q => ∃ H0 O0 δ Fs, SS W H0 O0 H σ δ Fs ∧ rq W E0 H (av O0 Fs (nm c)) (ev T c δ) Q
def rdA (W : Wd) (E0 : XK) (T : Tb) (cs : List E) : TA := fun σ H Q => ∃ H0 O0 δ Fs, SS W H0 O0 H σ δ Fs ∧ rqs W E0 H (av O0 Fs (nms cs)) (evs T cs δ) Q
/-- as a test -/
def evB (T : Tb) (c : E) (δ : Dn) : M Bool := bnd (ev T c δ) fun p => lift (boolD p.2)
def rdT (W : Wd) (E0 : XK) (T : Tb) (c : E) : TT := fun σ H Q => ∃ H0 O0 δ Fs, SS W H0 O0 H σ δ Fs ∧ rqb W E0 H (evB T c δ) Q
section
variable {W : Wd} {E0 : XK} {H H1 : Hp} {O O1 : Addr → Prop} {Q R : VK}
theorem Res.mono {m : Md} {d : D} (h : Res W H O m d Q) (s : Same H H1) : Res W H1 O m d Q := fun v H' F s' n nd ow => h v H' F (s.trans s') (fun a ha => s.free (n a ha)) nd ow
theorem Res.wk {m : Md} {d : D} (h : Res W H O m d Q) (hO : ∀ a, O a → O1 a) : Res W H O1 m d Q := fun v H' F s' n nd ow => h v H' F s' n nd (ow.mono (Same.refl H') fun a z => z.elim (fun q => .inl (hO a q)) .inr)
theorem rq.mono {r : M (Md × D)} (h : rq W E0 H O r Q) (s : Same H H1) : rq W E0 H1 O r Q := by
  match r, h with
  | none, h => exact h
  | some (.er C), h => exact fun H' s' => h H' (s.trans s')
  | some (.ok p), h => exact Res.mono (W := W) h s
theorem rqs.mono {r : M (List (Md × D))} {Q : List V → Hp → Prop} (h : rqs W E0 H O r Q) (s : Same H H1) : rqs W E0 H1 O r Q := by
  match r, h with
  | none, h => exact h
  | some (.er C), h => exact fun H' s' => h H' (s.trans s')
  | some (.ok p), h => exact fun vs H' F s' n nd ow => h vs H' F (s.trans s') (fun a ha => s.free (n a ha)) nd ow
theorem rqb.mono {r : M Bool} {Q : Bool → Hp → Prop} (h : rqb W E0 H r Q) (s : Same H H1) : rqb W E0 H1 r Q := by
  match r, h with
  | none, h => exact h
  | some (.er C), h => exact fun H' s' => h H' (s.trans s')
  | some (.ok p), h => exact fun H' s' => h H' (s.trans s')
theorem rq_bnd {x : M (Md × D)} {f : Md × D → M (Md × D)} (h : rq W E0 H O (bnd x f) Q) (k : ∀ p, rq W E0 H O (f p) Q → Res W H O1 p.1 p.2 R) : rq W E0 H O1 x R := by
  match x, h with
  | none, h => exact h
  | some (.er C), h => exact h
  | some (.ok p), h => exact k p h
/-- any kind of what is wanted, over any kind of result: the refusals are the same -/
theorem rq_bnd' {α : Type} {x : M (Md × D)} {f : Md × D → M α} {G : M α → Prop} (hn : ¬ G none) (he : ∀ C, G (some (.er C)) → ∀ H', Same H H' → E0 (.ref (W.ca C)) none H') (h : G (bnd x f)) (k : ∀ p, G (f p) → Res W H O1 p.1 p.2 R) : rq W E0 H O1 x R := by
  match x, h with
  | none, h => exact hn h
  | some (.er C), h => exact he C h
  | some (.ok p), h => exact k p h
theorem rqs_bnd' {α : Type} {x : M (List (Md × D))} {f : List (Md × D) → M α} {G : M α → Prop} {R : List V → Hp → Prop} (hn : ¬ G none) (he : ∀ C, G (some (.er C)) → ∀ H', Same H H' → E0 (.ref (W.ca C)) none H') (h : G (bnd x f)) (k : ∀ ps, G (f ps) → ∀ vs H' Fs, Same H H' → (∀ a ∈ Fs.flatten, H a = none) → Fs.flatten.Nodup → Ows W H' (fun p => O1 p ∨ p ∈ Fs.flatten) ps vs Fs → R vs H') : rqs W E0 H O1 x R := by
  match x, h with
  | none, h => exact hn h
  | some (.er C), h => exact he C h
  | some (.ok p), h => exact k p h
theorem rqb_bnd' {α : Type} {x : M Bool} {f : Bool → M α} {G : M α → Prop} {R : Bool → Hp → Prop} (hn : ¬ G none) (he : ∀ C, G (some (.er C)) → ∀ H', Same H H' → E0 (.ref (W.ca C)) none H') (h : G (bnd x f)) (k : ∀ b, G (f b) → ∀ H', Same H H' → R b H') : rqb W E0 H x R := by
  match x, h with
  | none, h => exact hn h
  | some (.er C), h => exact he C h
  | some (.ok p), h => exact k p h
theorem rq_none : ¬ rq W E0 H O none Q := fun h => h
theorem rq_er {C : Nat} (h : rq W E0 H O (some (.er C)) Q) : ∀ H', Same H H' → E0 (.ref (W.ca C)) none H' := h
theorem rqs_none {R : List V → Hp → Prop} : ¬ rqs W E0 H O none R := fun h => h
theorem rqb_none {R : Bool → Hp → Prop} : ¬ rqb W E0 H none R := fun h => h
/-- a value that is no cell -/
theorem Res.val {m : Md} {d : D} {v : V} (h : Res W H O m d Q) (hv : Rp W H O d v) (l : lfree d = true) : Q v H := h v H [] (Same.refl H) (fun _ z => by cases z) List.nodup_nil (Ow.sh_any hv l)
theorem Res.share {d : D} {v : V} {H' : Hp} (h : Res W H O .sh d Q) (s : Same H H') (hv : Rp W H' O d v) : Q v H' := h v H' [] s (fun _ z => by cases z) List.nodup_nil ⟨rfl, Rp.mono (Same.refl _) (fun a z => z.elim id fun q => by cases q) _ _ hv⟩
/-- a new list of shared things -/
theorem Res.flat {ds : List D} {vs : List V} {p : Addr} (h : Res W H O .fl (.lst ds) Q) (n : H p = none) (hO : ∀ a, O a → H a ≠ none) (hl : vs.length ≤ sizeLine) (r : Rps W H O ds vs) : Q (.ref p) (L2.upd H p (.lst vs)) := by
  refine h _ _ [p] (fun b x e => ?_) (fun a ha => ?_) (by simp) ⟨p, vs, rfl, rfl, upd_same, hl, ?_⟩
  · rw [upd_ne (ne_of_none e n)]; exact e
  · rw [List.mem_singleton.mp ha]; exact n
  · have s : Same H (L2.upd H p (.lst vs)) := fun b x e => by rw [upd_ne (ne_of_none e n)]; exact e
    exact Rps.mono s (fun _ z => z) _ _ (Rps.off (O := O) (fun a z => z.elim .inl fun q => .inr (by rw [List.mem_singleton.mp q]; exact n)) _ _ r)
end
end TW

set_option Elab.async false
set_option linter.all false
set_option maxRecDepth 100000
set_option maxHeartbeats 4000000
namespace TW
open PySem PySem.Spec PyProof.Rows L2

theorem _root_.L2.PE.imp {X : Cx} {e : Expr} {t t' : TE} (h : PE X e t) (k : ∀ σ H Q, t' σ H Q → t σ H Q) : PE X e t' := ⟨fun pins s σ H Q I q => h.run pins s σ H Q I (k σ H Q q)⟩
theorem _root_.L2.PT.imp {X : Cx} {e : Expr} {t t' : TT} (h : PT X e t) (k : ∀ σ H Q, t' σ H Q → t σ H Q) : PT X e t' := ⟨fun pins s σ H Q I q => h.run pins s σ H Q I (k σ H Q q)⟩
theorem _root_.L2.PW.imp {X : Cx} {e : Expr} {t t' : TT} (h : PW X e t) (k : ∀ σ H Q, t' σ H Q → t σ H Q) : PW X e t' := ⟨fun wh pins s σ H Q I q => h.run wh pins s σ H Q I (k σ H Q q)⟩
theorem _root_.L2.PA.imp {X : Cx} {e : List Expr} {t t' : TA} (h : PA X e t) (k : ∀ σ H Q, t' σ H Q → t σ H Q) : PA X e t' := ⟨fun pos pins s σ H Q I q => h.run pos pins s σ H Q I (k σ H Q q)⟩
theorem _root_.L2.PS.imp {X : Cx} {e : Stmt} {t t' : TS} (h : PS X e t) (k : ∀ D σ H, t' D σ H → t D σ H) : PS X e t' := ⟨fun pins s σ H D I q => h.run pins s σ H D I (k D σ H q)⟩
theorem _root_.L2.PSs.imp {X : Cx} {e : List Stmt} {t t' : TS} (h : PSs X e t) (k : ∀ D σ H, t' D σ H → t D σ H) : PSs X e t' := ⟨fun pins s σ H D I q => h.run pins s σ H D I (k D σ H q)⟩
theorem _root_.L2.OpR.imp {X : Cx} {f : Value → Value → Sem Value} {r r' : R2} (h : OpR X f r) (k : ∀ x y H Q, r' x y H Q → r x y H Q) : OpR X f r' := fun pins s σ H x y v u Q I rx ry q => h pins s σ H x y v u Q I rx ry (k x y H Q q)
theorem sz_le : SZ ≤ sizeLine := by decide

/-! ### plain data -/
mutual
theorem dat_py : ∀ (d : D) (n : Nat), dat d n = true → (toPy d).canLay0 = true ∧ (toPy d).depth ≤ n
  | .non, n, h => ⟨by simp [toPy, PyData.canLay0], by simp [toPy, PyData.depth]⟩
  | .bl _, n, h => ⟨by simp [toPy, PyData.canLay0], by simp [toPy, PyData.depth]⟩
  | .int _, n, h => ⟨by simp [toPy, PyData.canLay0], by simp [toPy, PyData.depth]⟩
  | .str x, n, h => by
    refine ⟨?_, by simp [toPy, PyData.depth]⟩
    simp only [toPy, PyData.canLay0]
    exact h
  | .tup ds, 0, h => by cases (show false = true from h)
  | .lst ds, 0, h => by cases (show false = true from h)
  | .tup ds, n + 1, h => by
    obtain ⟨h1, h2⟩ := dats_py ds n h
    refine ⟨?_, ?_⟩
    · simp only [toPy, PyData.canLay0]; exact h1
    · simp only [toPy, PyData.depth]; omega
  | .lst ds, n + 1, h => by
    obtain ⟨h1, h2⟩ := dats_py ds n h
    refine ⟨?_, ?_⟩
    · simp only [toPy, PyData.canLay0]; exact h1
    · simp only [toPy, PyData.depth]; omega
  | .scr ns, n, h => by
    have hn : 0 < n := of_decide_eq_true h
    have : ∀ l : List Int, PyData.canLayAll0 (l.map .int) = true ∧ PyData.depthAll (l.map .int) = 0 := by
      intro l
      induction l with
      | nil => exact ⟨by simp [PyData.canLayAll0], by simp [PyData.depthAll]⟩
      | cons x r ih => exact ⟨by simp [PyData.canLayAll0, PyData.canLay0, ih.1], by simp [PyData.depthAll, PyData.depth, ih.2]⟩
    refine ⟨?_, ?_⟩
    · simp only [toPy, PyData.canLay0]; exact (this ns).1
    · simp only [toPy, PyData.depth, (this ns).2]; omega
  | .fn _, n, h => by cases (show false = true from h)
  | .dic _, n, h => by cases (show false = true from h)
  | .ins _ _ _, n, h => by cases (show false = true from h)
theorem dats_py : ∀ (ds : List D) (n : Nat), dats ds n = true → PyData.canLayAll0 (toPys ds) = true ∧ PyData.depthAll (toPys ds) ≤ n
  | [], n, h => ⟨by simp [toPys, PyData.canLayAll0], by simp [toPys, PyData.depthAll]⟩
  | d :: ds, n, h => by
    obtain ⟨a, b⟩ := Bool.and_eq_true_iff.mp (show (dat d n && dats ds n) = true from h)
    obtain ⟨h1, h2⟩ := dat_py d n a
    obtain ⟨h3, h4⟩ := dats_py ds n b
    refine ⟨?_, ?_⟩
    · simp only [toPys, PyData.canLayAll0, h1, h3, Bool.and_self]
    · simp only [toPys, PyData.depthAll]; omega
end
theorem shaped_of {d : D} {n : Nat} (hn : n ≤ 64) (h : dat d n = true) : SeqAt.shaped (toPy d) = true := by
  obtain ⟨h1, h2⟩ := dat_py d n h
  unfold SeqAt.shaped
  rw [h1, decide_eq_true (Nat.le_trans h2 hn)]
  rfl
section
variable {W : Wd} {H : Hp} {O : Addr → Prop}
theorem dpAll_ints {K : PySem.W.Frag} : ∀ ns : List Int, DpAll K H (ns.map V.int) (ns.map PyData.int)
  | [] => .nil
  | n :: r => .cons (.int n) (dpAll_ints r)
mutual
theorem Rp.dp : ∀ (d : D) (n : Nat) (v : V), dat d n = true → Rp W H O d v → Dp W.K H v (toPy d)
  | .non, n, v, h, r => by rw [show v = .non from r]; simp only [toPy]; exact .non
  | .bl b, n, v, h, r => by rw [show v = .bl b from r]; simp only [toPy]; exact .bl b
  | .int i, n, v, h, r => by rw [show v = .int i from r]; simp only [toPy]; exact .int i
  | .str x, n, v, h, r => by rw [show v = .str x from r]; simp only [toPy]; exact .str x
  | .tup ds, 0, v, h, r => by cases (show false = true from h)
  | .lst ds, 0, v, h, r => by cases (show false = true from h)
  | .tup ds, n + 1, v, h, r => by
    obtain ⟨a, vs, rfl, h1, h2, h3⟩ := r
    simp only [toPy]
    exact .tup (.inl (.inl h1)) (Rps.dp ds n vs h h3)
  | .lst ds, n + 1, v, h, r => by
    obtain ⟨a, vs, rfl, _, h1, h2, h3⟩ := r
    simp only [toPy]
    exact .lst (.inl (.inl h1)) (Rps.dp ds n vs h h3)
  | .scr ns, n, v, h, r => by
    obtain ⟨a, rfl, h1, h2⟩ := r
    simp only [toPy]
    exact .lst h1.sq (dpAll_ints ns)
  | .fn _, n, v, h, r => by cases (show false = true from h)
  | .dic _, n, v, h, r => by cases (show false = true from h)
  | .ins _ _ _, n, v, h, r => by cases (show false = true from h)
theorem Rps.dp : ∀ (ds : List D) (n : Nat) (vs : List V), dats ds n = true → Rps W H O ds vs → DpAll W.K H vs (toPys ds)
  | [], n, vs, h, r => by rw [show vs = [] from r]; simp only [toPys]; exact .nil
  | d :: ds, n, vs, h, r => by
    obtain ⟨v, r', rfl, h1, h2⟩ := r
    obtain ⟨a, b⟩ := Bool.and_eq_true_iff.mp (show (dat d n && dats ds n) = true from h)
    simp only [toPys]
    exact .cons (Rp.dp d n v a h1) (Rps.dp ds n r' b h2)
end
theorem toPys_any (f : PyData → Bool) : ∀ ds : List D, (toPys ds).any f = ds.any fun d => f (toPy d)
  | [] => by simp [toPys]
  | d :: ds => by simp only [toPys, List.any_cons, toPys_any f ds]
theorem eqV_py {x y : D} {v w : V} (hx : flatD x = true) (hy : flatD y = true) (rx : Rp W H O x v) (ry : Rp W H O y w) : eqV v w = eqD x y ∧ flatV v = true ∧ flatV w = true := by
  cases x <;> first | (cases hx; done) | skip
  all_goals (cases y <;> first | (cases hy; done) | skip)
  all_goals (
    simp only [Rp] at rx ry
    subst rx
    subst ry
    refine ⟨?_, rfl, rfl⟩
    simp [eqV, eqD, toPy, PyData.eqv])
theorem Rps.flat : ∀ (ds : List D) (vs : List V), ds.all flatD = true → Rps W H O ds vs → vs.all flatV = true
  | [], vs, _, r => by rw [show vs = [] from r]; rfl
  | d :: ds, vs, h, r => by
    obtain ⟨v, r', rfl, h1, h2⟩ := r
    obtain ⟨a, b⟩ := Bool.and_eq_true_iff.mp (show (flatD d && ds.all flatD) = true from h)
    rw [List.all_cons, (eqV_py a a h1 h1).2.1, Rps.flat ds r' b h2]
    rfl
theorem Rps.inV {x : D} {v : V} (hx : flatD x = true) (rx : Rp W H O x v) : ∀ (ds : List D) (vs : List V), ds.all flatD = true → Rps W H O ds vs → inV v vs = ds.any fun z => eqD z x
  | [], vs, _, r => by rw [show vs = [] from r]; rfl
  | d :: ds, vs, h, r => by
    obtain ⟨w, r', rfl, h1, h2⟩ := r
    obtain ⟨a, b⟩ := Bool.and_eq_true_iff.mp (show (flatD d && ds.all flatD) = true from h)
    have ih := Rps.inV hx rx ds r' b h2
    unfold L2.inV at ih ⊢
    rw [List.any_cons, List.any_cons, ih, (eqV_py a hx h1 rx).1]
end
end TW

set_option Elab.async false
set_option linter.all false
set_option maxRecDepth 100000
set_option maxHeartbeats 4000000
namespace TW
open PySem PySem.Spec PyProof.Rows L2

/-- a two-place operation by trees -/
def r2 (W : Wd) (g : D → D → Option (Md × D)) : R2 := fun x y H Q => ∃ O d e res, (∀ a, O a → H a ≠ none) ∧ Rp W H O d x ∧ Rp W H O e y ∧ g d e = some res ∧ Res W H O res.1 res.2 Q
def gB (o : Cop) (d e : D) : Option (Md × D) := (cmpD o d e).map fun b => (.dp, .bl b)
section
variable {W : Wd} {X : Cx}
/-- by cases of g -/
theorem op_case {f : Value → Value → Sem Value} {g : D → D → Option (Md × D)}
    (k : ∀ (d e : D) (res : Md × D), g d e = some res → OpR X f (fun x y H Q => ∃ O, (∀ a, O a → H a ≠ none) ∧ Rp W H O d x ∧ Rp W H O e y ∧ Res W H O res.1 res.2 Q)) : OpR X f (r2 W g) := by
  intro pins s σ H x y v u Q I rx ry ⟨O, d, e, res, hO, hd, he, hg, hq⟩
  exact k d e res hg pins s σ H x y v u Q I rx ry ⟨O, hO, hd, he, hq⟩
theorem op_ints {f : Value → Value → Sem Value} {i j : Int} {m : Md} {r : V} {d : D} {C : Int → Int → Prop} {g : Int → Int → V} (ho : OpR X f (rI C g)) (hc : C i j) (hg : ∀ H O, Rp W H O d (g i j)) (l : lfree d = true) :
    OpR X f (fun x y H Q => ∃ O, (∀ a, O a → H a ≠ none) ∧ Rp W H O (.int i) x ∧ Rp W H O (.int j) y ∧ Res W H O m d Q) := by
  intro pins s σ H x y v u Q I rx ry ⟨O, hO, hd, he, hq⟩
  refine ho pins s σ H x y v u Q I rx ry ⟨i, j, hd, he, hc, hq.val (hg H O) l⟩
theorem op_ints0 {f : Value → Value → Sem Value} {i j : Int} {m : Md} {d : D} {g : Int → Int → V} (ho : OpR X f (rI0 g)) (hg : ∀ H O, Rp W H O d (g i j)) (l : lfree d = true) :
    OpR X f (fun x y H Q => ∃ O, (∀ a, O a → H a ≠ none) ∧ Rp W H O (.int i) x ∧ Rp W H O (.int j) y ∧ Res W H O m d Q) := by
  intro pins s σ H x y v u Q I rx ry ⟨O, hO, hd, he, hq⟩
  refine ho pins s σ H x y v u Q I rx ry ⟨i, j, hd, he, hq.val (hg H O) l⟩
theorem Rps.append {H : Hp} {O : Addr → Prop} : ∀ {ds es : List D} {vs ws : List V}, Rps W H O ds vs → Rps W H O es ws → Rps W H O (ds ++ es) (vs ++ ws)
  | [], es, vs, ws, h, k => by rw [show vs = [] from h]; exact k
  | d :: ds, es, vs, ws, h, k => by
    obtain ⟨v, r, rfl, h1, h2⟩ := h
    exact ⟨v, r ++ ws, rfl, h1, Rps.append h2 k⟩
theorem Rps.rep {H : Hp} {O : Addr → Prop} {ds : List D} {vs : List V} (h : Rps W H O ds vs) : ∀ n : Nat, Rps W H O (List.replicate n ds).flatten (List.replicate n vs).flatten
  | 0 => rfl
  | n + 1 => by
    rw [List.replicate_succ, List.replicate_succ, List.flatten_cons, List.flatten_cons]
    exact h.append (Rps.rep h n)
theorem mulOk {i j : Int} (h : i.natAbs.log2 + j.natAbs.log2 < 100000000) : IntMulOk i j := by
  have b : ∀ x : Int, Builtin.Int.intBits x ≤ x.natAbs.log2 + 1 := fun x => by
    unfold Builtin.Int.intBits
    split <;> omega
  have h1 := b i
  have h2 := b j
  have e : bitsLine = 134217728 := by decide
  unfold IntMulOk
  intro z
  rw [Bool.and_eq_true] at z
  have z2 := z.2
  unfold Builtin.Int.intTooBig at z2
  have z3 := of_decide_eq_true z2
  rw [e] at z3
  omega
theorem op_mulB : OpR X (binaryOp .Mult) (rI (fun i j => i.natAbs.log2 + j.natAbs.log2 < 100000000) fun i j => .int (i * j)) := opI fun _ _ _ _ _ _ _ hc q => mul_int q (mulOk hc)

theorem o_add : OpR X (binaryOp .Add) (r2 W (binD .add)) := op_case fun d e res hg => by
  cases d <;> cases e <;> (try (exact nomatch (show (none : Option (Md × D)) = some res from hg)))
  · cases hg
    exact op_ints0 op_add (fun _ _ => rfl) rfl
  · rename_i xs ys
    have hg : (if xs.length + ys.length ≤ SZ then some (Md.fl, D.lst (xs ++ ys)) else none) = some res := hg
    split at hg <;> first | (cases hg; done) | skip
    rename_i hz
    cases hg
    intro pins s σ H x y v u Q I rx ry ⟨O, hO, hd, he, hq⟩
    obtain ⟨a, vs, rfl, _, ha, la, ra⟩ := hd
    obtain ⟨b, ws, rfl, _, hb, lb, rb⟩ := he
    have e1 := Rps.length _ _ ra
    have e2 := Rps.length _ _ rb
    have hl : vs.length + ws.length ≤ sizeLine := by
      have := sz_le
      rw [e1, e2]
      omega
    exact op_cat pins s σ H _ _ v u Q I rx ry ⟨a, b, vs, ws, rfl, rfl, ha, hb, hl, fun p np => hq.flat np hO (by rw [List.length_append]; exact hl) (ra.append rb)⟩

theorem o_sub : OpR X (binaryOp .Sub) (r2 W (binD .sub)) := op_case fun d e res hg => by
  cases d <;> cases e <;> (try (exact nomatch (show (none : Option (Md × D)) = some res from hg)))
  · cases hg
    exact op_ints0 op_sub (fun _ _ => rfl) rfl

theorem o_mul : OpR X (binaryOp .Mult) (r2 W (binD .mul)) := op_case fun d e res hg => by
  cases d <;> cases e <;> (try (exact nomatch (show (none : Option (Md × D)) = some res from hg)))
  · rename_i i j
    have hg : (if i.natAbs.log2 + j.natAbs.log2 < 100000000 then some (Md.dp, D.int (i * j)) else none) = some res := hg
    split at hg <;> first | (cases hg; done) | skip
    rename_i hz
    cases hg
    exact op_ints (r := .non) op_mulB hz (fun _ _ => rfl) rfl
  · rename_i xs k
    have hg : (if (smallI k && decide (xs.length * k.toNat ≤ SZ)) = true then some (Md.fl, D.lst (List.replicate k.toNat xs).flatten) else none) = some res := hg
    split at hg <;> first | (cases hg; done) | skip
    rename_i hz
    cases hg
    obtain ⟨h1, h2⟩ := Bool.and_eq_true_iff.mp hz
    have h1 : k.natAbs < 1000000000 := of_decide_eq_true h1
    have h2 : xs.length * k.toNat ≤ SZ := of_decide_eq_true h2
    intro pins s σ H x y v u Q I rx ry ⟨O, hO, hd, he, hq⟩
    obtain ⟨a, vs, rfl, _, ha, la, ra⟩ := hd
    have e1 := Rps.length _ _ ra
    have hl : vs.length * k.toNat ≤ sizeLine := by
      rw [e1]
      exact Nat.le_trans h2 sz_le
    refine op_rep pins s σ H _ y v u Q I rx ry ⟨a, k, vs, rfl, he, ha, by omega, by omega, hl, fun p np => hq.flat np hO ?_ (ra.rep _)⟩
    rw [List.length_flatten, List.map_replicate, List.sum_replicate_nat, Nat.mul_comm]
    exact hl

theorem o_fdiv : OpR X (binaryOp .FloorDiv) (r2 W (binD .fdiv)) := op_case fun d e res hg => by
  cases d <;> cases e <;> (try (exact nomatch (show (none : Option (Md × D)) = some res from hg)))
  · rename_i i j
    have hg : (if 0 < j ∧ j < 1073741824 then some (Md.dp, D.int (i / j)) else none) = some res := hg
    split at hg <;> first | (cases hg; done) | skip
    rename_i hz; cases hg; exact op_ints (r := .non) op_fdiv hz (fun _ _ => rfl) rfl

theorem o_mod : OpR X (binaryOp .Mod) (r2 W (binD .mod)) := op_case fun d e res hg => by
  cases d <;> cases e <;> (try (exact nomatch (show (none : Option (Md × D)) = some res from hg)))
  · rename_i i j
    have hg : (if 0 < j then some (Md.dp, D.int (i % j)) else none) = some res := hg
    split at hg <;> first | (cases hg; done) | skip
    rename_i hz; cases hg; exact op_ints (r := .non) op_mod hz (fun _ _ => rfl) rfl

theorem o_pow : OpR X (binaryOp .Pow) (r2 W (binD .pow)) := op_case fun d e res hg => by
  cases d <;> cases e <;> (try (exact nomatch (show (none : Option (Md × D)) = some res from hg)))
  · rename_i i j
    have hg : (if 0 ≤ j ∧ j ≤ 1000 ∧ i.natAbs < 1000 then some (Md.dp, D.int (i ^ j.toNat)) else none) = some res := hg
    split at hg <;> first | (cases hg; done) | skip
    rename_i hz; cases hg; exact op_ints (r := .non) op_pow (⟨hz.1, by omega, by have := hz.2.2; exact Nat.lt_trans this (by decide)⟩ : CPow _ _) (fun _ _ => rfl) rfl

theorem o_shl : OpR X (binaryOp .LShift) (r2 W (binD .shl)) := op_case fun d e res hg => by
  cases d <;> cases e <;> (try (exact nomatch (show (none : Option (Md × D)) = some res from hg)))
  · rename_i i j
    have hg : (if 0 ≤ j ∧ j ≤ 1000 ∧ i.natAbs < 1000 then some (Md.dp, D.int (i * 2 ^ j.toNat)) else none) = some res := hg
    split at hg <;> first | (cases hg; done) | skip
    rename_i hz; cases hg; exact op_ints (r := .non) op_shl (⟨hz.1, by omega, by have := hz.2.2; exact Nat.lt_trans this (by decide)⟩ : CPow _ _) (fun _ _ => rfl) rfl

theorem o_shr : OpR X (binaryOp .RShift) (r2 W (binD .shr)) := op_case fun d e res hg => by
  cases d <;> cases e <;> (try (exact nomatch (show (none : Option (Md × D)) = some res from hg)))
  · rename_i i j
    have hg : (if 0 ≤ j then some (Md.dp, D.int (i / 2 ^ j.toNat)) else none) = some res := hg
    split at hg <;> first | (cases hg; done) | skip
    rename_i hz; cases hg; exact op_ints (r := .non) op_shr hz (fun _ _ => rfl) rfl

theorem o_band : OpR X (binaryOp .BitAnd) (r2 W (binD .band)) := op_case fun d e res hg => by
  cases d <;> cases e <;> (try (exact nomatch (show (none : Option (Md × D)) = some res from hg)))
  · cases hg
    exact op_ints0 op_and (fun _ _ => rfl) rfl

/-! ### comparisons -/
theorem op_caseB {f : Value → Value → Sem Value} {o : Cop}
    (k : ∀ (d e : D) (b : Bool), cmpD o d e = some b → OpR X f (fun x y H Q => ∃ O, (∀ a, O a → H a ≠ none) ∧ Rp W H O d x ∧ Rp W H O e y ∧ Q (.bl b) H)) : OpR X f (r2 W (gB o)) := by
  intro pins s σ H x y v u Q I rx ry ⟨O, d, e, res, hO, hd, he, hg, hq⟩
  unfold gB at hg
  cases hb : cmpD o d e with
  | none => rw [hb] at hg; cases hg
  | some b =>
    rw [hb] at hg
    cases hg
    exact k d e b hb pins s σ H x y v u Q I rx ry ⟨O, hO, hd, he, hq.val rfl rfl⟩
theorem op_intsB {f : Value → Value → Sem Value} {i j : Int} {b : Bool} {g : Int → Int → V} (ho : OpR X f (rI0 g)) (hg : g i j = .bl b) :
    OpR X f (fun x y H Q => ∃ O, (∀ a, O a → H a ≠ none) ∧ Rp W H O (.int i) x ∧ Rp W H O (.int j) y ∧ Q (.bl b) H) := by
  intro pins s σ H x y v u Q I rx ry ⟨O, hO, hd, he, hq⟩
  exact ho pins s σ H x y v u Q I rx ry ⟨i, j, hd, he, by rw [hg]; exact hq⟩
theorem lexLt2 (a b c d : Int) : HT.lexLt [a, b] [c, d] = ltP2 (a, b) (c, d) := by
  unfold ltP2
  simp only [HT.lexLt]
  by_cases h : a = c
  · subst h
    by_cases h2 : b = d
    · subst h2; simp
    · simp [h2]
  · simp [h]
theorem Rp.pair {H : Hp} {O : Addr → Prop} {a b : Int} {v : V} (h : Rp W H O (.tup [.int a, .int b]) v) : ∃ p, v = .ref p ∧ H p = some (.tup [.int a, .int b]) := by
  obtain ⟨p, vs, rfl, h1, h2, v1, r1, rfl, e1, v2, r2, rfl, e2, e3⟩ := h
  have e1 : v1 = .int a := e1
  have e2 : v2 = .int b := e2
  have e3 : r2 = [] := e3
  subst e1 e2 e3
  exact ⟨p, rfl, h1⟩
theorem intD_eq {d : D} {i : Int} (h : intD d = some i) : d = .int i := by
  cases d <;> first | (cases h; rfl) | cases h
theorem prD_eq {d : D} {p : Int × Int} (h : prD d = some p) : d = eP p := by
  unfold prD at h
  split at h
  · cases h; rfl
  · cases h
theorem o_lt (hu : X.A.units < cLine) : OpR X (compareOp .Lt) (r2 W (gB .lt)) := op_caseB fun d e b hb => by
  have hb : ltO d e = some b := by cases d <;> exact hb
  unfold ltO at hb
  split at hb
  · rename_i i j h1 h2
    rw [intD_eq h1, intD_eq h2]
    cases hb
    exact op_intsB op_lt rfl
  · split at hb
    · rename_i p q h1 h2
      rw [prD_eq h1, prD_eq h2]
      cases hb
      intro pins s σ H x y v u Q I rx ry ⟨O, hO, hd, he, hq⟩
      obtain ⟨a, rfl, ha⟩ := hd.pair
      obtain ⟨c, rfl, hc⟩ := he.pair
      exact op_ltT hu pins s σ H _ _ v u Q I rx ry ⟨a, c, [p.1, p.2], [q.1, q.2], rfl, rfl, .inl (.inl ha), .inl (.inl hc), by rw [lexLt2]; exact hq⟩
    · cases hb
theorem o_le : OpR X (compareOp .LtE) (r2 W (gB .le)) := op_caseB fun d e b hb => by
  cases d <;> cases e <;> (try (exact nomatch (show (none : Option Bool) = some b from hb)))
  · cases hb
    exact op_intsB op_le rfl
theorem o_gt : OpR X (compareOp .Gt) (r2 W (gB .gt)) := op_caseB fun d e b hb => by
  cases d <;> cases e <;> (try (exact nomatch (show (none : Option Bool) = some b from hb)))
  · cases hb
    exact op_intsB op_gt rfl
theorem o_ge : OpR X (compareOp .GtE) (r2 W (gB .ge)) := op_caseB fun d e b hb => by
  cases d <;> cases e <;> (try (exact nomatch (show (none : Option Bool) = some b from hb)))
  · cases hb
    exact op_intsB op_ge rfl
theorem o_eq (hK : X.K = W.K) (hu : X.A.units + 64 < cLine) : OpR X (compareOp .Eq) (r2 W (gB .eq)) := op_caseB fun d e b hb => by
  have hb : (if (dat d 20 && dat e 20) = true then some (eqD d e) else none) = some b := by cases d <;> exact hb
  split at hb <;> first | (cases hb; done) | skip
  rename_i hz
  cases hb
  obtain ⟨z1, z2⟩ := Bool.and_eq_true_iff.mp hz
  intro pins s σ H x y v u Q I rx ry ⟨O, hO, hd, he, hq⟩
  exact op_eqD hu pins s σ H _ _ v u Q I rx ry ⟨_, _, by rw [hK]; exact Rp.dp d 20 x z1 hd, by rw [hK]; exact Rp.dp e 20 y z2 he, shaped_of (by decide) z1, shaped_of (by decide) z2, hq⟩
theorem o_ne (hK : X.K = W.K) (hu : X.A.units + 64 < cLine) : OpR X (compareOp .NotEq) (r2 W (gB .ne)) := op_caseB fun d e b hb => by
  have hb : (if (dat d 20 && dat e 20) = true then some (!eqD d e) else none) = some b := by cases d <;> exact hb
  split at hb <;> first | (cases hb; done) | skip
  rename_i hz
  cases hb
  obtain ⟨z1, z2⟩ := Bool.and_eq_true_iff.mp hz
  intro pins s σ H x y v u Q I rx ry ⟨O, hO, hd, he, hq⟩
  exact op_neD hu pins s σ H _ _ v u Q I rx ry ⟨_, _, by rw [hK]; exact Rp.dp d 20 x z1 hd, by rw [hK]; exact Rp.dp e 20 y z2 he, shaped_of (by decide) z1, shaped_of (by decide) z2, hq⟩
theorem dats_lst {ds : List D} (h : dats ds 20 = true) : dat (.lst ds) 21 = true := h
theorem valV_dic (n : Int) : ∀ ks : List Int, (valV (dicV ks) (Sum.inl n)).isSome = ks.contains n
  | [] => rfl
  | k :: ks => by
    show (valV ((Sum.inl k, V.bl true) :: dicV ks) (Sum.inl n)).isSome = _
    have ih := valV_dic n ks
    by_cases e : k = n
    · subst e
      rw [valV_pos rfl]
      simp
    · rw [valV_neg (fun z => e (Sum.inl.inj z)), ih, List.contains_cons]
      have : (n == k) = false := beq_eq_false_iff_ne.mpr fun z => e z.symm
      rw [this, Bool.false_or]
theorem o_in (hK : X.K = W.K) (hu : X.A.units + 65 < cLine) : OpR X (compareOp .In) (r2 W (gB .isin)) := op_caseB fun d e b hb => by
  have hb : inD d e = some b := by cases d <;> exact hb
  intro pins s σ H x y v u Q I rx ry ⟨O, hO, hd, he, hq⟩
  cases e with
  | lst ds =>
    have hb : (if (dat d 20 && dats ds 20) = true then some (ds.any fun z => eqD z d) else none) = some b := hb
    split at hb <;> first | (cases hb; done) | skip
    rename_i hz
    cases hb
    obtain ⟨z1, z2⟩ := Bool.and_eq_true_iff.mp hz
    have p2 : Dp X.K H y (.list (toPys ds)) := by
      rw [hK]
      have := Rp.dp (.lst ds) 21 y z2 he
      simpa only [toPy] using this
    have p3 : SeqAt.shaped (.list (toPys ds)) = true := by
      have := shaped_of (d := .lst ds) (n := 21) (by decide) z2
      simpa only [toPy] using this
    refine op_inD hu pins s σ H _ _ v u Q I rx ry ⟨toPy d, toPys ds, by rw [hK]; exact Rp.dp d 20 x z1 hd, p2, shaped_of (by decide) z1, p3, ?_⟩
    rw [toPys_any]
    exact hq
  | tup ds =>
    have hb : (if (flatD d && ds.all flatD) = true then some (ds.any fun z => eqD z d) else none) = some b := hb
    split at hb <;> first | (cases hb; done) | skip
    rename_i hz
    cases hb
    obtain ⟨z1, z2⟩ := Bool.and_eq_true_iff.mp hz
    obtain ⟨p, vs, rfl, hp, hl, hr⟩ := he
    refine op_in_seq pins s σ H _ _ v u Q I rx ry ⟨p, vs, rfl, .inr (.inl (.inl hp)), (eqV_py z1 z1 hd hd).2.1, Rps.flat _ _ z2 hr, ?_⟩
    rw [if_neg (by decide), Rps.inV z1 hd ds vs z2 hr]
    exact hq
  | dic ks =>
    cases d with
    | int n =>
      have hb : some (ks.contains n) = some b := hb
      cases hb
      obtain ⟨p, rfl, _, hp, hl⟩ := he
      have hd : x = .int n := hd
      subst hd
      obtain rfl : u = Value.ref p := ry
      have g : DGet H p (.int n) (valV (dicV ks) (Sum.inl n)) := DGet.k (k := Sum.inl n) hp
      exact d_in (by omega) I g rx fun s3 I3 => ⟨.bl _, H, I3, rfl, by rw [valV_dic]; exact hq⟩
    | _ => cases hb
  | _ => cases hb
theorem o_notin (hK : X.K = W.K) (hu : X.A.units + 65 < cLine) : OpR X (compareOp .NotIn) (r2 W (gB .notin)) := op_caseB fun d e b hb => by
  have hb : (inD d e).map (!·) = some b := by cases d <;> exact hb
  intro pins s σ H x y v u Q I rx ry ⟨O, hO, hd, he, hq⟩
  cases e with
  | lst ds =>
    have hb : (if (dat d 20 && dats ds 20) = true then some (ds.any fun z => eqD z d) else none).map (!·) = some b := hb
    split at hb <;> first | (cases hb; done) | skip
    rename_i hz
    cases hb
    obtain ⟨z1, z2⟩ := Bool.and_eq_true_iff.mp hz
    have p2 : Dp X.K H y (.list (toPys ds)) := by
      rw [hK]
      have := Rp.dp (.lst ds) 21 y z2 he
      simpa only [toPy] using this
    have p3 : SeqAt.shaped (.list (toPys ds)) = true := by
      have := shaped_of (d := .lst ds) (n := 21) (by decide) z2
      simpa only [toPy] using this
    refine op_notInD hu pins s σ H _ _ v u Q I rx ry ⟨toPy d, toPys ds, by rw [hK]; exact Rp.dp d 20 x z1 hd, p2, shaped_of (by decide) z1, p3, ?_⟩
    rw [toPys_any]
    exact hq
  | tup ds =>
    have hb : (if (flatD d && ds.all flatD) = true then some (ds.any fun z => eqD z d) else none).map (!·) = some b := hb
    split at hb <;> first | (cases hb; done) | skip
    rename_i hz
    cases hb
    obtain ⟨z1, z2⟩ := Bool.and_eq_true_iff.mp hz
    obtain ⟨p, vs, rfl, hp, hl, hr⟩ := he
    refine op_notIn_seq pins s σ H _ _ v u Q I rx ry ⟨p, vs, rfl, .inr (.inl (.inl hp)), (eqV_py z1 z1 hd hd).2.1, Rps.flat _ _ z2 hr, ?_⟩
    rw [if_pos rfl, Rps.inV z1 hd ds vs z2 hr]
    exact hq
  | dic ks =>
    cases d with
    | int n =>
      have hb : some (!ks.contains n) = some b := hb
      cases hb
      obtain ⟨p, rfl, _, hp, hl⟩ := he
      have hd : x = .int n := hd
      subst hd
      obtain rfl : u = Value.ref p := ry
      have g : DGet H p (.int n) (valV (dicV ks) (Sum.inl n)) := DGet.k (k := Sum.inl n) hp
      exact d_notIn (by omega) I g rx fun s3 I3 => ⟨.bl _, H, I3, rfl, by rw [valV_dic]; exact hq⟩
    | _ => cases hb
  | _ => cases hb
theorem Rp.non_iff {H : Hp} {O : Addr → Prop} {d : D} {x : V} (h : Rp W H O d x) : decide (x = .non) = isNon d := by
  cases d with
  | non => rw [show x = .non from h]; rfl
  | bl b => rw [show x = .bl b from h]; rfl
  | int b => rw [show x = .int b from h]; rfl
  | str b => rw [show x = .str b from h]; rfl
  | fn b => rw [show x = .ref _ from h]; rfl
  | tup ds => obtain ⟨a, vs, rfl, _⟩ := h; rfl
  | lst ds => obtain ⟨a, vs, rfl, _⟩ := h; rfl
  | scr ds => obtain ⟨a, rfl, _⟩ := h; rfl
  | dic ds => obtain ⟨a, rfl, _⟩ := h; rfl
  | ins C f d => obtain ⟨a, dx, fv, rfl, _⟩ := h; rfl
theorem o_is : OpR X (compareOp .Is) (r2 W (gB .is_)) := op_caseB fun d e b hb => by
  intro pins s σ H x y v u Q I rx ry ⟨O, hO, hd, he, hq⟩
  cases e with
  | non =>
    have hb : some (isNon d) = some b := by cases d <;> exact hb
    cases hb
    exact op_isN pins s σ H x y v u Q I rx ry ⟨he, by rw [hd.non_iff]; exact hq⟩
  | bl c =>
    cases d with
    | bl a =>
      have hb : some (a == c) = some b := hb
      cases hb
      exact op_isBl pins s σ H x y v u Q I rx ry ⟨a, c, hd, he, by rw [show decide (a = c) = (a == c) by cases a <;> cases c <;> rfl]; exact hq⟩
    | _ => cases hb
  | _ => cases d <;> cases hb
theorem o_isnot : OpR X (compareOp .IsNot) (r2 W (gB .isnot)) := op_caseB fun d e b hb => by
  intro pins s σ H x y v u Q I rx ry ⟨O, hO, hd, he, hq⟩
  cases e with
  | non =>
    have hb : some (!isNon d) = some b := by cases d <;> exact hb
    cases hb
    exact op_notN pins s σ H x y v u Q I rx ry ⟨he, by rw [hd.non_iff]; exact hq⟩
  | bl c =>
    cases d with
    | bl a =>
      have hb : some (!(a == c)) = some b := hb
      cases hb
      exact op_notBl pins s σ H x y v u Q I rx ry ⟨a, c, hd, he, by rw [show decide (a = c) = (a == c) by cases a <;> cases c <;> rfl]; exact hq⟩
    | _ => cases hb
  | _ => cases d <;> cases hb
end
end TW

set_option Elab.async false
set_option linter.all false
set_option maxRecDepth 100000
set_option maxHeartbeats 4000000
namespace TW
open PySem PySem.Spec PyProof.Rows L2

section
variable {W : Wd} {E0 : XK} {H H1 : Hp} {O O1 : Addr → Prop}
theorem rqs_bnd2 {α : Type} {x : M (List (Md × D))} {f : List (Md × D) → M α} {G : M α → Prop} {R : List V → Hp → Prop} (hn : ¬ G none) (he : ∀ C, G (some (.er C)) → ∀ H', Same H H' → E0 (.ref (W.ca C)) none H') (h : G (bnd x f)) (k : ∀ ps, x = some (.ok ps) → G (f ps) → ∀ vs H' Fs, Same H H' → (∀ a ∈ Fs.flatten, H a = none) → Fs.flatten.Nodup → Ows W H' (fun p => O1 p ∨ p ∈ Fs.flatten) ps vs Fs → R vs H') : rqs W E0 H O1 x R := by
  match x, h, k with
  | none, h, k => exact hn h
  | some (.er C), h, k => exact he C h
  | some (.ok p), h, k => exact k p rfl h
theorem Ow.rpv {m : Md} {d : D} {v : V} {F : List Addr} (h : Ow W H1 (fun p => O p ∨ p ∈ F) m d v F) (hO : ∀ a, O1 a → O a) (ht : ∀ a, O1 a → H a ≠ none) (n : ∀ a ∈ F, H a = none) : Rp W H1 O1 d v :=
  h.rp (fun a z => .inl (hO a z)) fun a ha z => ht a z (n a ha)
theorem same_new {p : Addr} {o : HO} (n : H p = none) : Same H (L2.upd H p o) := fun b x e => by
  rw [upd_ne (ne_of_none e n)]; exact e
theorem Res.tup {Q : VK} {ps : List (Md × D)} {vs : List V} {Fs : List (List Addr)} {p : Addr} (h : Res W H O (tupM ps) (.tup (ps.map Prod.snd)) Q) (s : Same H H1) (ht : ∀ a, O a → H a ≠ none) (n : ∀ a ∈ Fs.flatten, H a = none) (nd : Fs.flatten.Nodup)
    (ow : Ows W H1 (fun p => O1 p ∨ p ∈ Fs.flatten) ps vs Fs) (hO : ∀ a, O a → O1 a) (hl : vs.length ≤ sizeLine) (np : H1 p = none) : Q (.ref p) (L2.upd H1 p (.tup vs)) := by
  have s2 := same_new (o := .tup vs) np
  unfold tupM at h
  split at h
  · rename_i c
    exact h _ _ Fs.flatten (s.trans s2) n nd ⟨p, vs, rfl, upd_same, hl, Dqs.mono s2 _ _ _ (ow.dqs c)⟩
  · refine Res.share h (s.trans s2) ⟨p, vs, rfl, upd_same, hl, ?_⟩
    exact Rps.mono s2 (fun _ z => z) _ _ (ow.rps (fun a z => .inl (hO a z)) fun a ha z => ht a z (n a ha))
theorem Res.box {Q : VK} {ps : List (Md × D)} {vs : List V} {Fs : List (List Addr)} {p : Addr} (h : Res W H O (boxM ps) (.lst (ps.map Prod.snd)) Q) (s : Same H H1) (ht : ∀ a, O a → H a ≠ none) (n : ∀ a ∈ Fs.flatten, H a = none) (nd : Fs.flatten.Nodup)
    (ow : Ows W H1 (fun p => O1 p ∨ p ∈ Fs.flatten) ps vs Fs) (hO : ∀ a, O a → O1 a) (hl : vs.length ≤ sizeLine) (np : H1 p = none) : Q (.ref p) (L2.upd H1 p (.lst vs)) := by
  have s2 := same_new (o := .lst vs) np
  have nH : H p = none := s.free np
  unfold boxM at h
  split at h
  · rename_i c
    refine h _ _ (p :: Fs.flatten) (s.trans s2) (fun a ha => ?_) (List.nodup_cons.mpr ⟨fun z => ?_, nd⟩) ⟨p, vs, Fs.flatten, rfl, rfl, upd_same, hl, Dqs.mono s2 _ _ _ (ow.dqs c)⟩
    · rcases List.mem_cons.mp ha with rfl | ha
      · exact nH
      · exact n a ha
    · obtain ⟨o, e, _⟩ := ow.there p z
      rw [np] at e
      cases e
  · have r : Rps W H1 O (ps.map Prod.snd) vs := ow.rps (fun a z => .inl (hO a z)) fun a ha z => ht a z (n a ha)
    exact Res.flat (h.mono s) np (fun a z e => ht a z (s.free e)) hl r
end

section
variable {W : Wd} {E0 : XK} {T : Tb} {X : Cx}
/-! ### names, constants -/
theorem c_var (i : Nat) {x : Str} {pos : Pos} (hN : X.N[i]? = some x := by rfl) (hv : Vis X.env.scope x := by first | exact Or.inl rfl | exact Or.inr (Or.inl rfl) | exact Or.inr (Or.inr rfl)) (hd : (x == ("__debug__" : Str)) = false := by decide)
    (hcd : (x == ("__classdict__" : Str)) = false := by decide) : PE X (.Name x pos) (rdE W E0 T (.var i)) := (pv i hN hv hd hcd).imp fun σ H Q ⟨H0, O0, δ, Fs, S, q⟩ => by
  simp only [ev] at q
  cases e : δ[i]? with
  | none => rw [e] at q; exact q.elim
  | some o =>
    cases o with
    | none => rw [e] at q; exact q.elim
    | some p =>
      rw [e] at q
      obtain ⟨v, h1, h2⟩ := S.var e (T := nm (.var i)) (by simp [nm])
      exact ⟨v, h1, Res.share q (Same.refl H) h2⟩
theorem rd_lit {d : D} {v : V} {σ : L2.St} {H : Hp} {Q : VK} (hv : ∀ H O, Rp W H O d v) (l : lfree d = true) (h : rdE W E0 T (.lit d) σ H Q) : Q v H := by
  obtain ⟨H0, O0, δ, Fs, S, q⟩ := h
  simp only [ev] at q
  split at q
  · exact Res.val (W := W) (d := d) q (hv _ _) l
  · exact q.elim
theorem c_int {i : Int} {j pos} : PE X (.Constant (.int i) j pos) (rdE W E0 T (.lit (.int i))) := pe_int.imp fun σ H Q h => rd_lit (d := .int i) (v := .int i) (fun _ _ => rfl) rfl h
theorem c_bl {b : Bool} {j pos} : PE X (.Constant (.bool b) j pos) (rdE W E0 T (.lit (.bl b))) := pe_bl.imp fun σ H Q h => rd_lit (d := .bl b) (v := .bl b) (fun _ _ => rfl) rfl h
theorem c_non {j pos} : PE X (.Constant .none j pos) (rdE W E0 T (.lit .non)) := pe_non.imp fun σ H Q h => rd_lit (d := .non) (v := .non) (fun _ _ => rfl) rfl h
theorem c_str {x : Str} {j pos} : PE X (.Constant (.str x) j pos) (rdE W E0 T (.lit (.str x))) := pe_str.imp fun σ H Q h => rd_lit (d := .str x) (v := .str x) (fun _ _ => rfl) rfl h
/-- a constant of the module -/
theorem c_gint {x : Str} {i : Int} {pos : Pos} (hg : Gl X x) (hm : ∃ t, X.mg x = some (.int i t)) (hd : (x == ("__debug__" : Str)) = false := by decide) : PE X (.Name x pos) (rdE W E0 T (.lit (.int i))) := by
  obtain ⟨t, hm⟩ := hm
  exact (pe_glob (v := .int i) hg hm ⟨t, rfl⟩ hd).imp fun σ H Q h => rd_lit (d := .int i) (v := .int i) (fun _ _ => rfl) rfl h
/-- a def as a value -/
theorem c_fn {x : Str} {f : Nat} {pos : Pos} (hg : Gl X x) (hm : X.mg x = some (.ref (W.fa f))) (hd : (x == ("__debug__" : Str)) = false := by decide) : PE X (.Name x pos) (rdE W E0 T (.lit (.fn f))) :=
  (pe_glob (v := .ref (W.fa f)) hg hm rfl hd).imp fun σ H Q h => rd_lit (d := .fn f) (v := .ref (W.fa f)) (fun _ _ => rfl) rfl h

/-! ### one, two parts -/
theorem rd1 {a : E} {g : D → Option (Md × D)} {r : V → Hp → VK → Prop} {H0 : Hp} {O0 : Addr → Prop} {δ : Dn} {Fs : List (List Addr)} {σ : L2.St} {H : Hp} {Q : VK} (S : SS W H0 O0 H σ δ Fs)
    (h : rq W E0 H (av O0 Fs (nm a)) (bnd (ev T a δ) fun p => lift (g p.2)) Q)
    (good : ∀ H2 O x d res, (∀ a, O a → H2 a ≠ none) → Rp W H2 O d x → g d = some res → Res W H2 O res.1 res.2 Q → r x H2 Q) :
    rdE W E0 T a σ H (fun x H1 => r x H1 Q) := by
  refine ⟨H0, O0, δ, Fs, S, rq_bnd' (G := fun z => rq W E0 H (av O0 Fs (nm a)) z Q) rq_none (fun C h => h) h fun p h1 => ?_⟩
  intro v1 H1 F1 s1 n1 nd1 ow1
  cases e : g p.2 with
  | none => rw [e] at h1; exact h1.elim
  | some res =>
    rw [e] at h1
    exact good H1 (av O0 Fs (nm a)) v1 p.2 res ((S.grow s1).av_there) (ow1.rpv (fun _ z => z) S.av_there n1) e (Res.mono (W := W) h1 s1)
theorem rd2 {a b : E} {g : D → D → Option (Md × D)} {r : R2} {H0 : Hp} {O0 : Addr → Prop} {δ : Dn} {Fs : List (List Addr)} {σ : L2.St} {H : Hp} {Q : VK} {ns : List Nat} (S : SS W H0 O0 H σ δ Fs) (ha : ∀ i ∈ nm a, i ∈ ns) (hb : ∀ i ∈ nm b, i ∈ ns)
    (h : rq W E0 H (av O0 Fs ns) (bnd (ev T a δ) fun p => bnd (ev T b δ) fun q => lift (g p.2 q.2)) Q)
    (good : ∀ H2 O x y d e res, (∀ a, O a → H2 a ≠ none) → Rp W H2 O d x → Rp W H2 O e y → g d e = some res → Res W H2 O res.1 res.2 Q → r x y H2 Q) :
    rdE W E0 T a σ H (fun x H1 => rdE W E0 T b σ H1 (fun y H2 => r x y H2 Q)) := by
  refine ⟨H0, O0, δ, Fs, S, rq_bnd' (G := fun z => rq W E0 H (av O0 Fs ns) z Q) rq_none (fun C h => h) h fun p h1 => ?_⟩
  intro v1 H1 F1 s1 n1 nd1 ow1
  have S1 := S.grow s1
  refine ⟨H0, O0, δ, Fs, S1, rq_bnd' (G := fun z => rq W E0 H1 (av O0 Fs ns) z Q) rq_none (fun C h => h) (rq.mono h1 s1) fun q h2 => ?_⟩
  intro v2 H2 F2 s2 n2 nd2 ow2
  cases e : g p.2 q.2 with
  | none => rw [e] at h2; exact h2.elim
  | some res =>
    rw [e] at h2
    refine good H2 (av O0 Fs ns) v1 v2 p.2 q.2 res ((S1.grow s2).av_there) ?_ (ow2.rpv (av_mono hb) S1.av_there n2) e (Res.mono (W := W) h2 s2)
    exact Rp.mono s2 (fun _ z => z) _ _ (ow1.rpv (av_mono ha) S.av_there n1)
theorem c_op {a b : Expr} {ca cb : E} {o : Bop} {op : Operator} {pos : Pos} (ho : OpR X (binaryOp op) (r2 W (binD o))) (ha : PE X a (rdE W E0 T ca)) (hb : PE X b (rdE W E0 T cb)) : PE X (.BinOp a op b pos) (rdE W E0 T (.bin o ca cb)) :=
  (pe_op ho ha hb).imp fun σ H Q ⟨H0, O0, δ, Fs, S, q⟩ => by
    simp only [ev, nm] at q
    exact rd2 (r := r2 W (binD o)) S (fun i h => List.mem_append_left _ h) (fun i h => List.mem_append_right _ h) q fun H2 O x y d e res hO hd he hg hq => ⟨O, d, e, res, hO, hd, he, hg, hq⟩
theorem rd_cmp {ca cb : E} {o : Cop} {σ : L2.St} {H : Hp} {Q : VK} (h : rdE W E0 T (.cmp o ca cb) σ H Q) : tOp (r2 W (gB o)) (rdE W E0 T ca) (rdE W E0 T cb) σ H Q := by
  obtain ⟨H0, O0, δ, Fs, S, q⟩ := h
  simp only [ev, nm] at q
  exact rd2 (g := gB o) (r := r2 W (gB o)) S (fun i h => List.mem_append_left _ h) (fun i h => List.mem_append_right _ h) q fun H2 O x y d e res hO hd he hg hq => ⟨O, d, e, res, hO, hd, he, hg, hq⟩
theorem c_cmp {a b : Expr} {ca cb : E} {o : Cop} {op : CmpOp} {pos : Pos} (ho : OpR X (compareOp op) (r2 W (gB o))) (ha : PE X a (rdE W E0 T ca)) (hb : PE X b (rdE W E0 T cb)) (hm : behindInMarks op b = false) : PE X (.Compare a [op] [b] pos) (rdE W E0 T (.cmp o ca cb)) :=
  (pe_cmpR ho ha hb hm).imp fun σ H Q h => rd_cmp h
theorem c_neg {a : Expr} {ca : E} {pos : Pos} (ha : PE X a (rdE W E0 T ca)) : PE X (.UnaryOp .USub a pos) (rdE W E0 T (.neg ca)) :=
  (pe_un un_neg ha).imp fun σ H Q ⟨H0, O0, δ, Fs, S, q⟩ => by
    simp only [ev, nm] at q
    refine rd1 (g := fun d => (intD d).map fun i => (.dp, .int (-i))) S q fun H2 O x d res hO hd hg hq => ?_
    cases e : intD d with
    | none => rw [e] at hg; cases hg
    | some i =>
      rw [e] at hg
      cases hg
      rw [intD_eq e] at hd
      exact ⟨i, hd, hq.val rfl rfl⟩
/-! ### a chain -/
theorem rd_chn {ca cb cc : E} {o o2 : Cop} {σ : L2.St} {H : Hp} {Q : VK} (h : rdE W E0 T (.chn o o2 ca cb cc) σ H Q) : tChain (r2 W (gB o)) (r2 W (gB o2)) (rdE W E0 T ca) (rdE W E0 T cb) (rdE W E0 T cc) σ H Q := by
    obtain ⟨H0, O0, δ, Fs, S, q⟩ := h
    simp only [ev, nm] at q
    have ia : ∀ i ∈ nm ca, i ∈ nm ca ++ nm cb ++ nm cc := fun i h => by simp [h]
    have ib : ∀ i ∈ nm cb, i ∈ nm ca ++ nm cb ++ nm cc := fun i h => by simp [h]
    have ic : ∀ i ∈ nm cc, i ∈ nm ca ++ nm cb ++ nm cc := fun i h => by simp [h]
    refine ⟨H0, O0, δ, Fs, S, rq_bnd' (G := fun z => rq W E0 H (av O0 Fs (nm ca ++ nm cb ++ nm cc)) z Q) rq_none (fun C h => h) q fun p h1 => ?_⟩
    intro v1 H1 F1 s1 n1 nd1 ow1
    have S1 := S.grow s1
    refine ⟨H0, O0, δ, Fs, S1, rq_bnd' (G := fun z => rq W E0 H1 (av O0 Fs (nm ca ++ nm cb ++ nm cc)) z Q) rq_none (fun C h => h) (rq.mono h1 s1) fun p2 h2 => ?_⟩
    intro v2 H2 F2 s2 n2 nd2 ow2
    have S2 := S1.grow s2
    have r1 := Rp.mono s2 (fun _ z => z) _ _ (ow1.rpv (av_mono ia) S.av_there n1)
    have r2' := ow2.rpv (av_mono ib) S1.av_there n2
    have h2 := rq.mono h2 s2
    cases e : cmpD o p.2 p2.2 with
    | none => rw [e] at h2; exact h2.elim
    | some k =>
      rw [e] at h2
      refine ⟨_, _, _, (.dp, .bl k), S2.av_there, r1, r2', by unfold gB; rw [e]; rfl, fun v3 H3 F3 s3 n3 nd3 ow3 => ?_⟩
      obtain ⟨rfl, _⟩ := (show v3 = .bl k ∧ F3 = [] from ow3)
      refine ⟨k, rfl, ?_⟩
      have h3 := rq.mono h2 s3
      have S3 := S2.grow s3
      cases k with
      | false =>
        rw [if_neg (by decide)]
        exact Res.val (W := W) h3 rfl rfl
      | true =>
        rw [if_pos rfl]
        refine ⟨H0, O0, δ, Fs, S3, rq_bnd' (G := fun z => rq W E0 H3 (av O0 Fs (nm ca ++ nm cb ++ nm cc)) z Q) rq_none (fun C h => h) h3 fun p4 h4 => ?_⟩
        intro v4 H4 F4 s4 n4 nd4 ow4
        cases e4 : cmpD o2 p2.2 p4.2 with
        | none => rw [e4] at h4; exact h4.elim
        | some k2 =>
          rw [e4] at h4
          exact ⟨_, _, _, (.dp, .bl k2), (S3.grow s4).av_there, Rp.mono (s3.trans s4) (fun _ z => z) _ _ r2', ow4.rpv (av_mono ic) S3.av_there n4, by unfold gB; rw [e4]; rfl, Res.mono (W := W) h4 s4⟩
theorem c_chn {a b c : Expr} {ca cb cc : E} {o o2 : Cop} {op op2 : CmpOp} {pos : Pos} (ho : OpR X (compareOp op) (r2 W (gB o))) (ho2 : OpR X (compareOp op2) (r2 W (gB o2))) (ha : PE X a (rdE W E0 T ca)) (hb : PE X b (rdE W E0 T cb)) (hc : PE X c (rdE W E0 T cc))
    (hm : lastMarks [op, op2] [b, c] = false := by with_unfolding_all rfl) : PE X (.Compare a [op, op2] [b, c] pos) (rdE W E0 T (.chn o o2 ca cb cc)) :=
  (pe_chain ho ho2 ha hb hc hm).imp fun σ H Q h => rd_chn h

/-! ### tests -/
theorem rdT_E {c : E} {σ : L2.St} {H : Hp} {Q : Bool → Hp → Prop} (h : rdT W E0 T c σ H Q) : rdE W E0 T c σ H (fun x H' => ∃ k, x = .bl k ∧ Q k H') := by
  obtain ⟨H0, O0, δ, Fs, S, q⟩ := h
  refine ⟨H0, O0, δ, Fs, S, rq_bnd' (G := fun z => rqb W E0 H z Q) rqb_none (fun C h => h) q fun p h1 => ?_⟩
  intro v H1 F1 s1 n1 nd1 ow1
  cases e : boolD p.2 with
  | none => rw [e] at h1; exact h1.elim
  | some b =>
    rw [e] at h1
    have hp : p.2 = .bl b := by
      cases hd : p.2 <;> rw [hd] at e <;> first | (cases e; done) | skip
      cases e; rfl
    have r := ow1.rpv (O1 := fun _ => False) (fun _ z => z.elim) (fun _ z => z.elim) n1
    rw [hp] at r
    exact ⟨b, r, h1 H1 s1⟩
theorem t_val {e : Expr} {c : E} (h : PE X e (rdE W E0 T c)) (he : ∀ whole, isTrue e X.env whole = (do let v ← whole; standAt e.pos; holding [v] (truthy v)) := by intro _; rfl) : PT X e (rdT W E0 T c) :=
  (pt_val h he).imp fun σ H Q h => rdT_E h
theorem t_cmp {a b : Expr} {ca cb : E} {o : Cop} {op : CmpOp} {pos : Pos} (ho : OpR X (compareOp op) (r2 W (gB o))) (ha : PE X a (rdE W E0 T ca)) (hb : PE X b (rdE W E0 T cb)) (hm : behindInMarks op b = false) : PT X (.Compare a [op] [b] pos) (rdT W E0 T (.cmp o ca cb)) :=
  (pt_cmpR ho ha hb hm).imp fun σ H Q h => rd_cmp (rdT_E h)
theorem t_chn {a b c : Expr} {ca cb cc : E} {o o2 : Cop} {op op2 : CmpOp} {pos : Pos} (ho : OpR X (compareOp op) (r2 W (gB o))) (ho2 : OpR X (compareOp op2) (r2 W (gB o2))) (ha : PE X a (rdE W E0 T ca)) (hb : PE X b (rdE W E0 T cb)) (hc : PE X c (rdE W E0 T cc))
    (hm : lastMarks [op, op2] [b, c] = false := by with_unfolding_all rfl) : PT X (.Compare a [op, op2] [b, c] pos) (rdT W E0 T (.chn o o2 ca cb cc)) :=
  (pt_chain ho ho2 ha hb hc hm).imp fun σ H Q h => rd_chn (rdT_E h)
theorem evB_not {c : E} {δ : Dn} : evB T (.not c) δ = bnd (evB T c δ) fun b => ok (!b) := by
  unfold evB
  simp only [ev]
  cases ev T c δ with
  | none => rfl
  | some r =>
    cases r with
    | er C => rfl
    | ok p =>
      show bnd (lift ((boolD p.2).map fun b => (Md.dp, D.bl (!b)))) _ = bnd (lift (boolD p.2)) _
      cases boolD p.2 <;> rfl
theorem evB_and {a b : E} {δ : Dn} : evB T (.and a b) δ = bnd (evB T a δ) fun c => if c then evB T b δ else ok false := by
  unfold evB
  simp only [ev]
  cases ev T a δ with
  | none => rfl
  | some r =>
    cases r with
    | er C => rfl
    | ok p =>
      show bnd (match boolD p.2 with | none => none | some false => ok (.dp, .bl false) | some true => ev T b δ) _ = bnd (lift (boolD p.2)) _
      cases boolD p.2 with
      | none => rfl
      | some k => cases k <;> rfl
theorem evB_or {a b : E} {δ : Dn} : evB T (.or a b) δ = bnd (evB T a δ) fun c => if c then ok true else evB T b δ := by
  unfold evB
  simp only [ev]
  cases ev T a δ with
  | none => rfl
  | some r =>
    cases r with
    | er C => rfl
    | ok p =>
      show bnd (match boolD p.2 with | none => none | some true => ok (.dp, .bl true) | some false => ev T b δ) _ = bnd (lift (boolD p.2)) _
      cases boolD p.2 with
      | none => rfl
      | some k => cases k <;> rfl
theorem ev_ite {c a b : E} {δ : Dn} : ev T (.ite c a b) δ = bnd (evB T c δ) fun k => if k then ev T a δ else ev T b δ := by
  unfold evB
  simp only [ev]
  cases ev T c δ with
  | none => rfl
  | some r =>
    cases r with
    | er C => rfl
    | ok p =>
      show (match boolD p.2 with | none => none | some true => ev T a δ | some false => ev T b δ) = bnd (lift (boolD p.2)) _
      cases boolD p.2 with
      | none => rfl
      | some k => cases k <;> rfl
theorem t_not {a : Expr} {c : E} {pos : Pos} (h : PT X a (rdT W E0 T c)) : PT X (.UnaryOp .Not a pos) (rdT W E0 T (.not c)) :=
  (pt_not h).imp fun σ H Q ⟨H0, O0, δ, Fs, S, q⟩ => by
    rw [evB_not] at q
    exact ⟨H0, O0, δ, Fs, S, rqb_bnd' (G := fun z => rqb W E0 H z Q) rqb_none (fun C h => h) q fun b h1 H' s => h1 H' s⟩
theorem t_and1 {a : Expr} {c : E} {pos : Pos} (h : PT X a (rdT W E0 T c)) : PW X (.BoolOp .And [a] pos) (rdT W E0 T c) := pw_and1 h
theorem t_or1 {a : Expr} {c : E} {pos : Pos} (h : PT X a (rdT W E0 T c)) : PW X (.BoolOp .Or [a] pos) (rdT W E0 T c) := pw_or1 h
theorem t_and {a b : Expr} {rest : List Expr} {ca cb : E} {pos : Pos} (ha : PT X a (rdT W E0 T ca)) (hb : PW X (.BoolOp .And (b :: rest) pos) (rdT W E0 T cb)) : PW X (.BoolOp .And (a :: b :: rest) pos) (rdT W E0 T (.and ca cb)) :=
  (pw_and ha hb).imp fun σ H Q ⟨H0, O0, δ, Fs, S, q⟩ => by
    rw [evB_and] at q
    refine ⟨H0, O0, δ, Fs, S, rqb_bnd' (G := fun z => rqb W E0 H z Q) rqb_none (fun C h => h) q fun b h1 H' s => ?_⟩
    cases b with
    | true =>
      rw [if_pos rfl]
      exact ⟨H0, O0, δ, Fs, S.grow s, rqb.mono h1 s⟩
    | false =>
      rw [if_neg (by decide)]
      exact h1 H' s
theorem t_or {a b : Expr} {rest : List Expr} {ca cb : E} {pos : Pos} (ha : PT X a (rdT W E0 T ca)) (hb : PW X (.BoolOp .Or (b :: rest) pos) (rdT W E0 T cb)) : PW X (.BoolOp .Or (a :: b :: rest) pos) (rdT W E0 T (.or ca cb)) :=
  (pw_or ha hb).imp fun σ H Q ⟨H0, O0, δ, Fs, S, q⟩ => by
    rw [evB_or] at q
    refine ⟨H0, O0, δ, Fs, S, rqb_bnd' (G := fun z => rqb W E0 H z Q) rqb_none (fun C h => h) q fun b h1 H' s => ?_⟩
    cases b with
    | false =>
      rw [if_neg (by decide)]
      exact ⟨H0, O0, δ, Fs, S.grow s, rqb.mono h1 s⟩
    | true =>
      rw [if_pos rfl]
      exact h1 H' s
/-! ### and, or, not, if as values -/
theorem Ow.bl {W : Wd} {H : Hp} {O : Addr → Prop} {m : Md} {b : Bool} {v : V} {F : List Addr} (h : Ow W H O m (.bl b) v F) : v = .bl b := by
  cases m with
  | sh => exact h.2
  | dp => exact h.1
  | fl => exact h.2
theorem boolD_eq {d : D} {b : Bool} (h : boolD d = some b) : d = .bl b := by
  cases d <;> first | (cases h; rfl) | cases h
theorem c_one {a : Expr} {c : E} {op : BoolOp} {pos : Pos} (h : PE X a (rdE W E0 T c)) : PE X (.BoolOp op [a] pos) (rdE W E0 T c) := pe_one h
theorem c_and {a b : Expr} {rest : List Expr} {ca cb : E} {pos : Pos} (ha : PE X a (rdE W E0 T ca)) (hb : PE X (.BoolOp .And (b :: rest) pos) (rdE W E0 T cb)) : PE X (.BoolOp .And (a :: b :: rest) pos) (rdE W E0 T (.and ca cb)) :=
  (pe_and ha hb).imp fun σ H Q ⟨H0, O0, δ, Fs, S, q⟩ => by
    simp only [ev, nm] at q
    refine ⟨H0, O0, δ, Fs, S, rq_bnd' (G := fun z => rq W E0 H (av O0 Fs (nm ca ++ nm cb)) z Q) rq_none (fun C h => h) q fun p h1 => ?_⟩
    intro v H1 F1 s1 n1 nd1 ow1
    cases e : boolD p.2 with
    | none => rw [e] at h1; exact h1.elim
    | some k =>
      rw [e] at h1
      rw [boolD_eq e] at ow1
      refine ⟨k, ow1.bl, ?_⟩
      cases k with
      | false =>
        rw [if_neg (by decide)]
        exact Res.val (W := W) (Res.mono (W := W) h1 s1) rfl rfl
      | true =>
        rw [if_pos rfl]
        have h2 := rq.mono h1 s1
        refine ⟨H0, O0, δ, Fs, S.grow s1, ?_⟩
        revert h2
        cases ev T cb δ with
        | none => exact fun h => h
        | some r =>
          cases r with
          | er C => exact fun h => h
          | ok p2 => exact fun h => Res.wk (W := W) h (av_mono fun i hi => List.mem_append_right _ hi)
theorem c_or {a b : Expr} {rest : List Expr} {ca cb : E} {pos : Pos} (ha : PE X a (rdE W E0 T ca)) (hb : PE X (.BoolOp .Or (b :: rest) pos) (rdE W E0 T cb)) : PE X (.BoolOp .Or (a :: b :: rest) pos) (rdE W E0 T (.or ca cb)) :=
  (pe_or ha hb).imp fun σ H Q ⟨H0, O0, δ, Fs, S, q⟩ => by
    simp only [ev, nm] at q
    refine ⟨H0, O0, δ, Fs, S, rq_bnd' (G := fun z => rq W E0 H (av O0 Fs (nm ca ++ nm cb)) z Q) rq_none (fun C h => h) q fun p h1 => ?_⟩
    intro v H1 F1 s1 n1 nd1 ow1
    cases e : boolD p.2 with
    | none => rw [e] at h1; exact h1.elim
    | some k =>
      rw [e] at h1
      rw [boolD_eq e] at ow1
      refine ⟨k, ow1.bl, ?_⟩
      cases k with
      | true =>
        rw [if_pos rfl]
        exact Res.val (W := W) (Res.mono (W := W) h1 s1) rfl rfl
      | false =>
        rw [if_neg (by decide)]
        have h2 := rq.mono h1 s1
        refine ⟨H0, O0, δ, Fs, S.grow s1, ?_⟩
        revert h2
        cases ev T cb δ with
        | none => exact fun h => h
        | some r =>
          cases r with
          | er C => exact fun h => h
          | ok p2 => exact fun h => Res.wk (W := W) h (av_mono fun i hi => List.mem_append_right _ hi)
theorem c_not {a : Expr} {ca : E} {pos : Pos} (ha : PE X a (rdE W E0 T ca)) : PE X (.UnaryOp .Not a pos) (rdE W E0 T (.not ca)) :=
  (pe_not ha).imp fun σ H Q ⟨H0, O0, δ, Fs, S, q⟩ => by
    simp only [ev, nm] at q
    refine rd1 (r := fun x H1 Q => ∃ c, x = .bl c ∧ Q (.bl (!c)) H1) (g := fun d => (boolD d).map fun i => (.dp, .bl (!i))) S q fun H2 O x d res hO hd hg hq => ?_
    cases e : boolD d with
    | none => rw [e] at hg; cases hg
    | some i =>
      rw [e] at hg
      cases hg
      rw [boolD_eq e] at hd
      exact ⟨i, hd, hq.val rfl rfl⟩
theorem c_ite {c a b : Expr} {cc ca cb : E} {pos : Pos} (hc : PT X c (rdT W E0 T cc)) (ha : PE X a (rdE W E0 T ca)) (hb : PE X b (rdE W E0 T cb)) : PE X (.IfExp c a b pos) (rdE W E0 T (.ite cc ca cb)) :=
  (pe_ifExp hc ha hb).imp fun σ H Q ⟨H0, O0, δ, Fs, S, q⟩ => by
    rw [ev_ite] at q
    simp only [nm] at q
    refine ⟨H0, O0, δ, Fs, S, rqb_bnd' (G := fun z => rq W E0 H (av O0 Fs (nm cc ++ nm ca ++ nm cb)) z Q) rq_none (fun C h => h) q fun k h1 H' s => ?_⟩
    have h2 := rq.mono h1 s
    cases k with
    | true =>
      rw [if_pos rfl]
      refine ⟨H0, O0, δ, Fs, S.grow s, ?_⟩
      rw [if_pos rfl] at h2
      revert h2
      cases ev T ca δ with
      | none => exact fun h => h
      | some r =>
        cases r with
        | er C => exact fun h => h
        | ok p2 => exact fun h => Res.wk (W := W) h (av_mono fun i hi => by simp [hi])
    | false =>
      rw [if_neg (by decide)]
      refine ⟨H0, O0, δ, Fs, S.grow s, ?_⟩
      rw [if_neg (by decide)] at h2
      revert h2
      cases ev T cb δ with
      | none => exact fun h => h
      | some r =>
        cases r with
        | er C => exact fun h => h
        | ok p2 => exact fun h => Res.wk (W := W) h (av_mono fun i hi => by simp [hi])

/-! ### several parts, displays -/
theorem a_nil : PA X [] (rdA W E0 T []) := pa_nil.imp fun σ H Q ⟨H0, O0, δ, Fs, S, q⟩ => by
  simp only [evs] at q
  exact q [] H [] (Same.refl H) (fun _ z => by cases z) List.nodup_nil ⟨rfl, rfl⟩
theorem a_cons {e : Expr} {es : List Expr} {c : E} {cs : List E} (he : PE X e (rdE W E0 T c)) (hs : PA X es (rdA W E0 T cs)) (hst : starEach (e :: es) X.env = (false, eval e X.env) :: starEach es X.env := by rfl) : PA X (e :: es) (rdA W E0 T (c :: cs)) :=
  (pa_cons he hs hst).imp fun σ H Q ⟨H0, O0, δ, Fs, S, q⟩ => by
    simp only [evs, nms] at q
    refine ⟨H0, O0, δ, Fs, S, rq_bnd' (G := fun z => rqs W E0 H (av O0 Fs (nm c ++ nms cs)) z Q) rqs_none (fun C h => h) q fun p h1 => ?_⟩
    intro v1 H1 F1 s1 n1 nd1 ow1
    have t1 : ∀ a ∈ F1, H1 a ≠ none := fun a ha z => by
      obtain ⟨o, e, _⟩ := ow1.there a ha
      rw [z] at e
      cases e
    have S1 := S.more s1 n1 t1
    refine ⟨H0, _, δ, Fs, S1, rqs_bnd' (G := fun z => rqs W E0 H (av O0 Fs (nm c ++ nms cs)) z Q) rqs_none (fun C h H' s => h H' (s1.trans s)) h1 fun ps h2 => ?_⟩
    intro vs H2 Fs2 s2 n2 nd2 ow2
    refine h2 (v1 :: vs) H2 (F1 :: Fs2) (s1.trans s2) (fun a ha => ?_) (List.nodup_append.mpr ⟨nd1, nd2, fun a ha b hb e => ?_⟩) ⟨v1, vs, F1, Fs2, rfl, rfl, ?_, ?_⟩
    · rcases List.mem_append.mp (show a ∈ F1 ++ Fs2.flatten from ha) with ha | ha
      · exact n1 a ha
      · exact s1.free (n2 a ha)
    · subst e
      exact t1 a ha (n2 a hb)
    · refine (ow1.off fun a z => ?_).mono s2 fun _ z => z
      rcases z with z | z
      · exact .inl (.inl (av_mono (fun i hi => List.mem_append_left _ hi) a z))
      · rcases List.mem_append.mp (show a ∈ F1 ++ Fs2.flatten from z) with z | z
        · exact .inl (.inr z)
        · exact .inr (n2 a z)
    · refine ow2.mono (Same.refl H2) fun a z => ?_
      rcases z with z | z
      · rcases z with z | ⟨i, n, z⟩
        · exact .inl (.inl (.inl z))
        · exact .inl (.inr ⟨i, fun q => n (List.mem_append_right _ q), z⟩)
      · rcases List.mem_append.mp (show a ∈ F1 ++ Fs2.flatten from z) with z | z
        · exact .inl (.inl (.inr z))
        · exact .inr z
theorem evs_len : ∀ {cs : List E} {δ : Dn} {ps : List (Md × D)}, evs T cs δ = some (.ok ps) → ps.length = cs.length
  | [], δ, ps, h => by
    simp only [evs] at h
    cases h
    rfl
  | c :: cs, δ, ps, h => by
    simp only [evs] at h
    cases e : ev T c δ with
    | none => rw [e] at h; cases h
    | some r =>
      cases r with
      | er C => rw [e] at h; cases h
      | ok p =>
        rw [e] at h
        have h : bnd (evs T cs δ) (fun ps => ok (p :: ps)) = some (.ok ps) := h
        cases e2 : evs T cs δ with
        | none => rw [e2] at h; cases h
        | some r2 =>
          cases r2 with
          | er C => rw [e2] at h; cases h
          | ok qs =>
            rw [e2] at h
            cases h
            rw [List.length_cons, List.length_cons, evs_len e2]
theorem len_ok {n : Nat} (h : Nat.ble n 1000 = true) : n ≤ sizeLine := Nat.le_trans (Nat.le_of_ble_eq_true h) (by decide)
theorem c_tup {es : List Expr} {cs : List E} {x1} {pos : Pos} (h : PA X es (rdA W E0 T cs)) (hl : Nat.ble cs.length 1000 = true := by rfl) : PE X (.Tuple es x1 pos) (rdE W E0 T (.tup cs)) :=
  (pe_tup h).imp fun σ H Q ⟨H0, O0, δ, Fs, S, q⟩ => by
    simp only [ev, nm] at q
    refine ⟨H0, O0, δ, Fs, S, rqs_bnd2 (G := fun z => rq W E0 H (av O0 Fs (nms cs)) z Q) rq_none (fun C h => h) q fun ps e h1 vs H1 Fs1 s1 n1 nd1 ow1 => ?_⟩
    have hl2 : vs.length ≤ sizeLine := by
      rw [ow1.length, evs_len e]
      exact len_ok hl
    exact ⟨hl2, fun p np => Res.tup (W := W) h1 s1 S.av_there n1 nd1 ow1 (fun _ z => z) hl2 np⟩
theorem c_lst {es : List Expr} {cs : List E} {pos : Pos} (h : PA X es (rdA W E0 T cs)) (hl : Nat.ble cs.length 1000 = true := by rfl) : PE X (.List es pos) (rdE W E0 T (.lst cs)) :=
  (pe_lst h).imp fun σ H Q ⟨H0, O0, δ, Fs, S, q⟩ => by
    simp only [ev, nm] at q
    refine ⟨H0, O0, δ, Fs, S, rqs_bnd2 (G := fun z => rq W E0 H (av O0 Fs (nms cs)) z Q) rq_none (fun C h => h) q fun ps e h1 vs H1 Fs1 s1 n1 nd1 ow1 => ?_⟩
    have hl2 : vs.length ≤ sizeLine := by
      rw [ow1.length, evs_len e]
      exact len_ok hl
    exact ⟨hl2, fun p np => Res.box (W := W) h1 s1 S.av_there n1 nd1 ow1 (fun _ z => z) hl2 np⟩
end
end TW

set_option Elab.async false
set_option linter.all false
set_option maxRecDepth 100000
set_option maxHeartbeats 4000000
namespace TW
open PySem PySem.Spec PyProof.Rows L2

section
variable {W : Wd} {H : Hp} {O : Addr → Prop}
theorem Rps.get : ∀ {ds : List D} {vs : List V} {j : Nat} {d : D}, Rps W H O ds vs → ds[j]? = some d → ∃ v, vs[j]? = some v ∧ Rp W H O d v
  | [], _, _, _, _, e => by simp at e
  | d :: ds, vs, 0, d', h, e => by
    obtain ⟨v, r, rfl, h1, h2⟩ := h
    simp at e
    subst e
    exact ⟨v, rfl, h1⟩
  | d :: ds, vs, j + 1, d', h, e => by
    obtain ⟨v, r, rfl, h1, h2⟩ := h
    simp at e
    obtain ⟨v', e1, e2⟩ := Rps.get h2 e
    exact ⟨v', by simpa using e1, e2⟩
theorem Rps.at {ds : List D} {vs : List V} {i : Int} {d : D} (h : Rps W H O ds vs) (e : atI ds i = some d) : ∃ v, atI vs i = some v ∧ Rp W H O d v := by
  unfold atI at e ⊢
  rw [Rps.length _ _ h]
  cases q : ixN ds.length i with
  | none => rw [q] at e; cases e
  | some j =>
    rw [q] at e
    obtain ⟨v, h1, h2⟩ := h.get (j := j) e
    exact ⟨v, by simpa using h1, h2⟩
theorem Rps.drop : ∀ {ds : List D} {vs : List V} (n : Nat), Rps W H O ds vs → Rps W H O (ds.drop n) (vs.drop n)
  | _, _, 0, h => h
  | [], vs, n + 1, h => by rw [show vs = [] from h]; rfl
  | d :: ds, vs, n + 1, h => by
    obtain ⟨v, r, rfl, h1, h2⟩ := h
    exact Rps.drop n h2
theorem Rps.take : ∀ {ds : List D} {vs : List V} (n : Nat), Rps W H O ds vs → Rps W H O (ds.take n) (vs.take n)
  | _, _, 0, _ => by simp [Rps]
  | [], vs, n + 1, h => by rw [show vs = [] from h]; rfl
  | d :: ds, vs, n + 1, h => by
    obtain ⟨v, r, rfl, h1, h2⟩ := h
    exact ⟨v, r.take n, rfl, h1, Rps.take n h2⟩
theorem Rps.cut {ds : List D} {vs : List V} (lo hi : Option Int) (h : Rps W H O ds vs) : Rps W H O (cutL ds lo hi) (cutV vs lo hi) := by
  unfold cutL cutV
  rw [Rps.length _ _ h]
  exact (h.drop _).take _
theorem Rps.reverse : ∀ {ds : List D} {vs : List V}, Rps W H O ds vs → Rps W H O ds.reverse vs.reverse
  | [], vs, h => by rw [show vs = [] from h]; rfl
  | d :: ds, vs, h => by
    obtain ⟨v, r, rfl, h1, h2⟩ := h
    rw [List.reverse_cons, List.reverse_cons]
    exact (Rps.reverse h2).append ⟨v, [], rfl, h1, rfl⟩
theorem cutV_len (vs : List V) (lo hi : Option Int) : (cutV vs lo hi).length ≤ vs.length := by
  unfold cutV
  rw [List.length_take, List.length_drop]
  omega
theorem Rps.ints : ∀ ns : List Int, Rps W H O (eI ns) (ns.map V.int)
  | [] => rfl
  | n :: r => ⟨.int n, r.map V.int, rfl, rfl, Rps.ints r⟩
theorem Rps.ints_eq : ∀ {ns : List Int} {vs : List V}, Rps W H O (eI ns) vs → vs = ns.map V.int
  | [], vs, h => h
  | n :: r, vs, h => by
    obtain ⟨v, r', rfl, h1, h2⟩ := h
    rw [show v = .int n from h1, Rps.ints_eq (ns := r) h2]
    rfl
theorem Dqs.ints : ∀ ns : List Int, Dqs W H (eI ns) (ns.map V.int) []
  | [] => ⟨rfl, rfl⟩
  | n :: r => ⟨.int n, r.map V.int, [], [], rfl, rfl, ⟨rfl, rfl⟩, Dqs.ints r⟩
theorem cutV_ints (ns : List Int) (lo hi : Option Int) : cutV (ns.map V.int) lo hi = (cutL ns lo hi).map V.int := by
  unfold cutV cutL
  rw [List.length_map, List.map_take, List.map_drop]
theorem lfrees_ints : ∀ ns : List Int, lfrees (eI ns) = true
  | [] => rfl
  | n :: r => lfrees_ints r
theorem lfrees_prs : ∀ ps : List (Int × Int), lfrees (ps.map eP) = true
  | [] => rfl
  | n :: r => lfrees_prs r
/-- a new list of cells that nobody changes -/
theorem Res.deep {Q : VK} {ds : List D} {vs : List V} {p : Addr} (h : Res W H O .dp (.lst ds) Q) (n : H p = none) (hl : vs.length ≤ sizeLine) (r : Rps W H O ds vs) (l : lfrees ds = true) : Q (.ref p) (L2.upd H p (.lst vs)) := by
  have s := same_new (o := .lst vs) n
  refine h _ _ [p] s (fun a ha => by rw [List.mem_singleton.mp ha]; exact n) (by simp) ⟨p, vs, [], rfl, rfl, upd_same, hl, Dqs.mono s _ _ _ (Rps.dq _ _ r l)⟩
theorem Rp.lst_at {d : D} {ds : List D} {v : V} (e : listD d = some ds) (h : Rp W H O d v) : ∃ a vs, v = .ref a ∧ SqL W.K H a vs ∧ Rps W H O ds vs ∧ vs.length ≤ sizeLine := by
  cases d with
  | lst xs =>
    cases e
    obtain ⟨a, vs, rfl, _, h1, h2, h3⟩ := h
    exact ⟨a, vs, rfl, .inl (.inl h1), h3, h2⟩
  | scr ns =>
    cases e
    obtain ⟨a, rfl, h1, h2⟩ := h
    exact ⟨a, _, rfl, h1.sq, Rps.ints ns, by simpa using h2⟩
  | _ => cases e
theorem intsD_eq : ∀ {ds : List D} {ns : List Int}, intsD ds = some ns → ds = eI ns
  | [], ns, h => by cases h; rfl
  | .int i :: ds, ns, h => by
    simp only [intsD] at h
    cases e : intsD ds with
    | none => rw [e] at h; cases h
    | some r =>
      rw [e] at h
      cases h
      rw [intsD_eq e]
      rfl
  | .non :: ds, ns, h => by cases h
  | .bl _ :: ds, ns, h => by cases h
  | .str _ :: ds, ns, h => by cases h
  | .fn _ :: ds, ns, h => by cases h
  | .tup _ :: ds, ns, h => by cases h
  | .lst _ :: ds, ns, h => by cases h
  | .scr _ :: ds, ns, h => by cases h
  | .dic _ :: ds, ns, h => by cases h
  | .ins _ _ _ :: ds, ns, h => by cases h
theorem blsD_eq : ∀ {ds : List D} {ns : List Bool}, blsD ds = some ns → ds = ns.map D.bl
  | [], ns, h => by cases h; rfl
  | .bl i :: ds, ns, h => by
    simp only [blsD] at h
    cases e : blsD ds with
    | none => rw [e] at h; cases h
    | some r =>
      rw [e] at h
      cases h
      rw [blsD_eq e]
      rfl
  | .non :: ds, ns, h => by cases h
  | .int _ :: ds, ns, h => by cases h
  | .str _ :: ds, ns, h => by cases h
  | .fn _ :: ds, ns, h => by cases h
  | .tup _ :: ds, ns, h => by cases h
  | .lst _ :: ds, ns, h => by cases h
  | .scr _ :: ds, ns, h => by cases h
  | .dic _ :: ds, ns, h => by cases h
  | .ins _ _ _ :: ds, ns, h => by cases h
theorem Rps.bls_eq : ∀ {ns : List Bool} {vs : List V}, Rps W H O (ns.map D.bl) vs → vs = ns.map V.bl
  | [], vs, h => h
  | n :: r, vs, h => by
    obtain ⟨v, r', rfl, h1, h2⟩ := h
    rw [show v = .bl n from h1, Rps.bls_eq (ns := r) h2]
    rfl
end

section
variable {W : Wd} {E0 : XK} {T : Tb} {X : Cx}
/-! ### subscripts, slices -/
theorem c_sub {a b : Expr} {ca cb : E} {pos : Pos} (hK : X.K = W.K) (ha : PE X a (rdE W E0 T ca)) (hb : PE X b (rdE W E0 T cb)) (hs : PlainIx b := by exact fun _ _ => rfl) : PE X (.Subscript a b pos) (rdE W E0 T (.sub ca cb)) :=
  (pe_ix ix_seq ha hb hs).imp fun σ H Q ⟨H0, O0, δ, Fs, S, q⟩ => by
    simp only [ev, nm] at q
    refine rd2 (g := fun d e => (subD d e).map fun d => (.sh, d)) (r := rIx X.K) S (fun i h => List.mem_append_left _ h) (fun i h => List.mem_append_right _ h) q fun H2 O x y d e res hO hd he hg hq => ?_
    cases hs : subD d e with
    | none => rw [hs] at hg; cases hg
    | some d' =>
      rw [hs] at hg
      cases hg
      cases e with
      | int i =>
        have he : y = .int i := he
        cases d with
        | lst ds =>
          obtain ⟨p, vs, rfl, _, h1, h2, h3⟩ := hd
          obtain ⟨v, e1, r1⟩ := h3.at (show atI ds i = some d' from hs)
          exact .inl ⟨p, vs, i, v, rfl, he, .inl (.inl h1), e1, hq.share (Same.refl _) r1⟩
        | tup ds =>
          obtain ⟨p, vs, rfl, h1, h2, h3⟩ := hd
          obtain ⟨v, e1, r1⟩ := h3.at (show atI ds i = some d' from hs)
          exact .inr (.inl ⟨p, vs, i, v, rfl, he, .inl (.inl h1), e1, hq.share (Same.refl _) r1⟩)
        | scr ns =>
          obtain ⟨p, rfl, h1, h2⟩ := hd
          have hs : (atI ns i).map D.int = some d' := hs
          cases e2 : atI ns i with
          | none => rw [e2] at hs; cases hs
          | some n =>
            rw [e2] at hs
            cases hs
            refine .inl ⟨p, ns.map V.int, i, .int n, rfl, he, by rw [hK]; exact h1.sq, ?_, hq.share (Same.refl _) rfl⟩
            unfold atI at e2 ⊢
            rw [List.length_map]
            cases q : ixN ns.length i with
            | none => rw [q] at e2; cases e2
            | some j =>
              rw [q] at e2
              show (ns.map V.int)[j]? = _
              rw [List.getElem?_map, show ns[j]? = some n from e2]
              rfl
        | _ => cases hs
      | _ => cases d <;> cases hs
def rdO (W : Wd) (E0 : XK) (T : Tb) (p : Bool) (c : E) : TO := fun σ H Q => ∃ H0 O0 δ Fs, SS W H0 O0 H σ δ Fs ∧ match ev T c δ with
  | none => False
  | some (.er C) => ∀ H', Same H H' → E0 (.ref (W.ca C)) none H'
  | some (.ok q) => match optI p q.2 with
    | none => False
    | some o => ∀ H', Same H H' → Q o H'
theorem _root_.L2.PO.imp {X : Cx} {e : Option Expr} {t t' : TO} (h : PO X e t) (k : ∀ σ H Q, t' σ H Q → t σ H Q) : PO X e t' := ⟨fun pins s σ H Q I q => h.run pins s σ H Q I (k σ H Q q)⟩
theorem o_no : PO X none (rdO W E0 T false (.lit .non)) := po_none.imp fun σ H Q ⟨H0, O0, δ, Fs, S, q⟩ => by
  simp only [ev] at q
  exact q H (Same.refl H)
theorem o_so {e : Expr} {c : E} (h : PE X e (rdE W E0 T c)) : PO X (some e) (rdO W E0 T true c) := (po_some h).imp fun σ H Q ⟨H0, O0, δ, Fs, S, q⟩ => by
  refine ⟨H0, O0, δ, Fs, S, ?_⟩
  revert q
  cases ev T c δ with
  | none => exact fun h => h
  | some r =>
    cases r with
    | er C => exact fun h => h
    | ok p =>
      intro q v H1 F s n nd ow
      have q : (match (intD p.2).map some with | none => False | some o => ∀ H', Same H H' → Q o H') := q
      cases e : intD p.2 with
      | none => rw [e] at q; exact q.elim
      | some i =>
        rw [e] at q
        have r := ow.rpv (O1 := fun _ => False) (fun _ z => z.elim) (fun _ z => z.elim) n
        rw [intD_eq e] at r
        exact ⟨i, r, q H1 s⟩
theorem c_slc {a : Expr} {lo hi : Option Expr} {ca cl ch : E} {pl ph : Bool} {p2 pos : Pos} (hK : X.K = W.K) (ha : PE X a (rdE W E0 T ca)) (hl : PO X lo (rdO W E0 T pl cl)) (hh : PO X hi (rdO W E0 T ph ch)) : PE X (.Subscript a (.Slice lo hi none p2) pos) (rdE W E0 T (.slc pl ph ca cl ch)) :=
  (pe_slice sl_list ha hl hh).imp fun σ H Q ⟨H0, O0, δ, Fs, S, q⟩ => by
    simp only [ev, nm] at q
    have ia : ∀ i ∈ nm ca, i ∈ nm ca ++ nm cl ++ nm ch := fun i h => by simp [h]
    refine ⟨H0, O0, δ, Fs, S, rq_bnd' (G := fun z => rq W E0 H (av O0 Fs (nm ca ++ nm cl ++ nm ch)) z Q) rq_none (fun C h => h) q fun p h1 => ?_⟩
    intro v1 H1 F1 s1 n1 nd1 ow1
    have S1 := S.grow s1
    have h1 := rq.mono h1 s1
    refine ⟨H0, O0, δ, Fs, S1, ?_⟩
    revert h1
    cases ev T cl δ with
    | none => exact fun h => h
    | some r =>
      cases r with
      | er C => exact fun h => h
      | ok q2 =>
        intro h1
        have h1 : rq W E0 H1 _ (match optI pl q2.2 with | none => none | some l => bnd (ev T ch δ) fun r => match optI ph r.2 with | none => none | some h => lift (slcD p.2 l h)) Q := h1
        show match optI pl q2.2 with | none => False | some o => _
        generalize optI pl q2.2 = o1 at h1 ⊢
        cases o1 with
        | none => exact h1
        | some l =>
          intro H2 s2
          have S2 := S1.grow s2
          have h2 := rq.mono h1 s2
          refine ⟨H0, O0, δ, Fs, S2, ?_⟩
          revert h2
          cases ev T ch δ with
          | none => exact fun h => h
          | some r =>
            cases r with
            | er C => exact fun h => h
            | ok q3 =>
              intro h2
              have h2 : rq W E0 H2 _ (match optI ph q3.2 with | none => none | some h => lift (slcD p.2 l h)) Q := h2
              show match optI ph q3.2 with | none => False | some o => _
              generalize optI ph q3.2 = o2 at h2 ⊢
              cases o2 with
              | none => exact h2
              | some h =>
                intro H3 s3
                have h3 := rq.mono h2 s3
                have S3 := S2.grow s3
                have r1 := Rp.mono (s2.trans s3) (fun _ z => z) _ _ (ow1.rpv (av_mono ia) S.av_there n1)
                cases hp : p.2 with
                | lst ds =>
                  rw [hp] at h3 r1
                  obtain ⟨a, vs, rfl, _, g1, g2, g3⟩ := r1
                  exact ⟨a, vs, rfl, .inl (.inl g1), fun p np => Res.flat (W := W) h3 np S3.av_there (Nat.le_trans (cutV_len _ _ _) g2) (g3.cut l h)⟩
                | scr ns =>
                  rw [hp] at h3 r1
                  obtain ⟨a, rfl, g1, g2⟩ := r1
                  refine ⟨a, ns.map V.int, rfl, by rw [hK]; exact g1.sq, fun p np => ?_⟩
                  rw [cutV_ints]
                  refine Res.deep (W := W) h3 np ?_ (Rps.ints _) (lfrees_ints _)
                  have := cutV_len (ns.map V.int) l h
                  rw [cutV_ints, List.length_map, List.length_map] at this
                  rw [List.length_map]
                  omega
                | _ => rw [hp] at h3; exact h3.elim
theorem c_rev {a : Expr} {ca : E} {k : Nat} {p1 p2 p3 pos : Pos} (ha : PE X a (rdE W E0 T ca)) : PE X (.Subscript a (.Slice none none (some (.UnaryOp .USub (.Constant (.int 1) k p1) p2)) p3) pos) (rdE W E0 T (.rev ca)) :=
  (pe_revL ha).imp fun σ H Q ⟨H0, O0, δ, Fs, S, q⟩ => by
    simp only [ev, nm] at q
    refine ⟨H0, O0, δ, Fs, S, rq_bnd' (G := fun z => rq W E0 H (av O0 Fs (nm ca)) z Q) rq_none (fun C h => h) q fun p h1 => ?_⟩
    intro v1 H1 F1 s1 n1 nd1 ow1
    have h1 := rq.mono h1 s1
    have r1 := ow1.rpv (O1 := av O0 Fs (nm ca)) (fun _ z => z) S.av_there n1
    cases hp : p.2 with
    | lst ds =>
      rw [hp] at h1 r1
      obtain ⟨a, vs, rfl, _, g1, g2, g3⟩ := r1
      exact ⟨a, vs, rfl, .inl (.inl g1), fun p np => Res.flat (W := W) h1 np (S.grow s1).av_there (by rw [List.length_reverse]; exact g2) g3.reverse⟩
    | _ => rw [hp] at h1; exact h1.elim

/-! ### built-ins -/
def rB (W : Wd) (g : List D → Option (Md × D)) : List V → Hp → VK → Prop := fun vs H Q => ∃ O ds res, (∀ a, O a → H a ≠ none) ∧ Rps W H O ds vs ∧ g ds = some res ∧ Res W H O res.1 res.2 Q
theorem _root_.L2.CallR.imp {X : Cx} {f : Value} {r r' : List V → Hp → VK → Prop} (h : CallR X f r) (k : ∀ vs H Q, r' vs H Q → r vs H Q) : CallR X f r' := fun pins s σ H xs us Q I rx q => h pins s σ H xs us Q I rx (k xs H Q q)
theorem rdA_B {cs : List E} {g : List D → Option (Md × D)} {σ : L2.St} {H : Hp} {Q : VK} {H0 : Hp} {O0 : Addr → Prop} {δ : Dn} {Fs : List (List Addr)} (S : SS W H0 O0 H σ δ Fs) (q : rq W E0 H (av O0 Fs (nms cs)) (bnd (evs T cs δ) fun ps => lift (g (ps.map Prod.snd))) Q) :
    rdA W E0 T cs σ H (fun vs H1 => rB W g vs H1 Q) := by
  refine ⟨H0, O0, δ, Fs, S, rqs_bnd' (G := fun z => rq W E0 H (av O0 Fs (nms cs)) z Q) rq_none (fun C h => h) q fun ps h1 vs H1 Fs1 s1 n1 nd1 ow1 => ?_⟩
  cases e : g (ps.map Prod.snd) with
  | none => rw [e] at h1; exact h1.elim
  | some res =>
    rw [e] at h1
    exact ⟨av O0 Fs (nms cs), _, res, (S.grow s1).av_there, ow1.rps (fun a z => .inl z) fun a ha z => S.av_there a z (n1 a ha), e, Res.mono (W := W) h1 s1⟩
theorem c_bi {x : Str} {id : String} {p pos : Pos} {e : Expr} {es : List Expr} {cs : List E} {b : Bi} (hc : CallR X (.builtin id) (rB W (biD b))) (hg : Gl X x) (hm : X.mg x = none) (hv : bootBuiltins x = some (.builtin id)) (ha : PA X (e :: es) (rdA W E0 T cs))
    (hn : x ≠ "__name__" := by decide) (hdb : (x == ("__debug__" : Str)) = false := by decide) (he : starEach (e :: es) X.env = (false, eval e X.env) :: starEach es X.env := by rfl) (hpl : (backTo pos (starEach es X.env)).any (·.1) = false := by rfl) :
    PE X (.Call (.Name x p) (e :: es) [] pos) (rdE W E0 T (.bi b cs)) :=
  (pe_callB hc hg hm hv ha hn hdb he hpl).imp fun σ H Q ⟨H0, O0, δ, Fs, S, q⟩ => by
    simp only [ev, nm] at q
    exact rdA_B S q
theorem c_biT {x : Str} {T' : String} {p pos : Pos} {e : Expr} {es : List Expr} {cs : List E} {b : Bi} (hc : CallR X (.type T') (rB W (biD b))) (hg : Gl X x) (hm : X.mg x = none) (hv : bootBuiltins x = some (.type T')) (ha : PA X (e :: es) (rdA W E0 T cs))
    (hn : x ≠ "__name__" := by decide) (hdb : (x == ("__debug__" : Str)) = false := by decide) (he : starEach (e :: es) X.env = (false, eval e X.env) :: starEach es X.env := by rfl) (hpl : (backTo pos (starEach es X.env)).any (·.1) = false := by rfl) :
    PE X (.Call (.Name x p) (e :: es) [] pos) (rdE W E0 T (.bi b cs)) :=
  (pe_callTy hc hg hm hv ha hn hdb he hpl).imp fun σ H Q ⟨H0, O0, δ, Fs, S, q⟩ => by
    simp only [ev, nm] at q
    exact rdA_B S q
theorem Rps.one {H : Hp} {O : Addr → Prop} {d : D} {vs : List V} (h : Rps W H O [d] vs) : ∃ v, vs = [v] ∧ Rp W H O d v := by
  obtain ⟨v, r, rfl, h1, h2⟩ := h
  rw [show r = [] from h2]
  exact ⟨v, rfl, h1⟩
theorem Rps.two {H : Hp} {O : Addr → Prop} {d e : D} {vs : List V} (h : Rps W H O [d, e] vs) : ∃ v w, vs = [v, w] ∧ Rp W H O d v ∧ Rp W H O e w := by
  obtain ⟨v, r, rfl, h1, w, r2, rfl, h3, h4⟩ := h
  rw [show r2 = [] from h4]
  exact ⟨v, w, rfl, h1, h3⟩
theorem b_len (hK : X.K = W.K) : CallR X (.builtin "len") (rB W (biD .len)) := call_len.imp fun vs H Q ⟨O, ds, res, hO, hr, hg, hq⟩ => by
  match ds, hg, hr with
  | [.lst xs], hg, hr =>
    cases hg
    obtain ⟨v, rfl, hv⟩ := hr.one
    obtain ⟨a, vs, rfl, _, h1, h2, h3⟩ := hv
    exact ⟨_, _, rfl, .inl ⟨vs, .inl (.inl h1), rfl⟩, by rw [Rps.length _ _ h3]; exact hq.val rfl rfl⟩
  | [.tup xs], hg, hr =>
    cases hg
    obtain ⟨v, rfl, hv⟩ := hr.one
    obtain ⟨a, vs, rfl, h1, h2, h3⟩ := hv
    exact ⟨_, _, rfl, .inr ⟨vs, .inl (.inl h1), rfl⟩, by rw [Rps.length _ _ h3]; exact hq.val rfl rfl⟩
  | [.scr xs], hg, hr =>
    cases hg
    obtain ⟨v, rfl, hv⟩ := hr.one
    obtain ⟨a, rfl, h1, h2⟩ := hv
    exact ⟨_, _, rfl, .inl ⟨_, by rw [hK]; exact h1.sq, rfl⟩, by rw [List.length_map]; exact hq.val rfl rfl⟩
theorem b_sum (hK : X.K = W.K) (hc : X.calm = true) : CallR X (.builtin "sum") (rB W (biD .sum)) := (cr_sum hc).imp fun vs H Q ⟨O, ds, res, hO, hr, hg, hq⟩ => by
  match ds, hg, hr with
  | [d], hg, hr =>
    have hg : ((listD d).bind intsD).map (fun ns => (Md.dp, D.int ns.sum)) = some res := hg
    cases e : listD d with
    | none => rw [e] at hg; cases hg
    | some xs =>
      rw [e] at hg
      have hg : (intsD xs).map (fun ns => (Md.dp, D.int ns.sum)) = some res := hg
      cases e2 : intsD xs with
      | none => rw [e2] at hg; cases hg
      | some ns =>
        rw [e2] at hg
        cases hg
        obtain ⟨v, rfl, hv⟩ := hr.one
        obtain ⟨a, vs, rfl, h1, h2, h3⟩ := hv.lst_at e
        rw [intsD_eq e2] at h2
        rw [Rps.ints_eq h2] at h1
        exact ⟨a, ns, rfl, by rw [hK]; exact h1, hq.val rfl rfl⟩
theorem b_all (hK : X.K = W.K) (hc : X.calm = true) : CallR X (.builtin "all") (rB W (biD .all)) := (cr_all hc).imp fun vs H Q ⟨O, ds, res, hO, hr, hg, hq⟩ => by
  match ds, hg, hr with
  | [.lst xs], hg, hr =>
    have hg : (blsD xs).map (fun bs => (Md.dp, D.bl (bs.all id))) = some res := hg
    cases e2 : blsD xs with
    | none => rw [e2] at hg; cases hg
    | some bs =>
      rw [e2] at hg
      cases hg
      obtain ⟨v, rfl, hv⟩ := hr.one
      obtain ⟨a, vs, rfl, _, h1, h2, h3⟩ := hv
      rw [blsD_eq e2] at h3
      rw [Rps.bls_eq h3] at h1
      exact ⟨a, bs, rfl, .inl (.inl h1), hq.val rfl rfl⟩
theorem b_any (hK : X.K = W.K) (hc : X.calm = true) : CallR X (.builtin "any") (rB W (biD .any)) := (cr_any hc).imp fun vs H Q ⟨O, ds, res, hO, hr, hg, hq⟩ => by
  match ds, hg, hr with
  | [.lst xs], hg, hr =>
    have hg : (blsD xs).map (fun bs => (Md.dp, D.bl (bs.any id))) = some res := hg
    cases e2 : blsD xs with
    | none => rw [e2] at hg; cases hg
    | some bs =>
      rw [e2] at hg
      cases hg
      obtain ⟨v, rfl, hv⟩ := hr.one
      obtain ⟨a, vs, rfl, _, h1, h2, h3⟩ := hv
      rw [blsD_eq e2] at h3
      rw [Rps.bls_eq h3] at h1
      exact ⟨a, bs, rfl, .inl (.inl h1), hq.val rfl rfl⟩
theorem b_list : CallR X (.type "list") (rB W (biD .list)) := call_list_of.imp fun vs H Q ⟨O, ds, res, hO, hr, hg, hq⟩ => by
  match ds, hg, hr with
  | [.lst xs], hg, hr =>
    cases hg
    obtain ⟨v, rfl, hv⟩ := hr.one
    obtain ⟨a, vs, rfl, _, h1, h2, h3⟩ := hv
    exact ⟨a, vs, rfl, .inl (.inl (.inl h1)), fun l nl => hq.flat nl hO h2 h3⟩
  | [.tup xs], hg, hr =>
    cases hg
    obtain ⟨v, rfl, hv⟩ := hr.one
    obtain ⟨a, vs, rfl, h1, h2, h3⟩ := hv
    exact ⟨a, vs, rfl, .inr (.inl (.inl h1)), fun l nl => hq.flat nl hO h2 h3⟩
theorem b_abs : CallR X (.builtin "abs") (rB W (biD .abs)) := call_abs.imp fun vs H Q ⟨O, ds, res, hO, hr, hg, hq⟩ => by
  match ds, hg, hr with
  | [.int i], hg, hr =>
    cases hg
    obtain ⟨v, rfl, hv⟩ := hr.one
    exact ⟨i, by rw [show v = .int i from hv], hq.val rfl rfl⟩
end
end TW

set_option Elab.async false
set_option linter.all false
set_option maxRecDepth 100000
set_option maxHeartbeats 4000000
namespace TW
open PySem PySem.Spec PyProof.Rows L2

/-! ### sorting, in plain words -/
section
variable {α : Type} {lt : α → α → Bool}
/-- a strict total order -/
structure STO (lt : α → α → Bool) : Prop where
  irr : ∀ x, lt x x = false
  tr : ∀ x y z, lt x y = true → lt y z = true → lt x z = true
  tot : ∀ x y, lt x y = false → lt y x = false → x = y
abbrev Ris (lt : α → α → Bool) (l : List α) : Prop := l.Pairwise fun x y => lt y x = false
theorem STO.asym (o : STO lt) {x y : α} (h : lt x y = true) : lt y x = false := by
  cases e : lt y x with
  | false => rfl
  | true =>
    have := o.tr _ _ _ h e
    rw [o.irr] at this
    cases this
theorem STO.le_tr (o : STO lt) {x y z : α} (h1 : lt y x = false) (h2 : lt z y = false) : lt z x = false := by
  cases e : lt z x with
  | false => rfl
  | true =>
    cases e2 : lt x y with
    | true =>
      have := o.tr _ _ _ e e2
      rw [h2] at this
      cases this
    | false =>
      have := o.tot x y e2 h1
      subst this
      rw [h2] at e
      cases e
theorem insB_perm (x : α) : ∀ l : List α, (insB lt x l).Perm (x :: l)
  | [] => .refl _
  | y :: r => by
    unfold insB
    split
    · exact ((insB_perm x r).cons y).trans (.swap x y r)
    · exact .refl _
theorem isortB_perm : ∀ l : List α, (isortB lt l).Perm l
  | [] => .refl _
  | x :: r => (insB_perm x _).trans ((isortB_perm r).cons x)
theorem insB_ris (o : STO lt) (x : α) : ∀ l : List α, Ris lt l → Ris lt (insB lt x l)
  | [], _ => by simp [insB]
  | y :: r, h => by
    obtain ⟨h1, h2⟩ := List.pairwise_cons.mp h
    unfold insB
    split
    · rename_i e
      refine List.pairwise_cons.mpr ⟨fun z hz => ?_, insB_ris o x r h2⟩
      rcases List.mem_cons.mp ((insB_perm x r).mem_iff.mp hz) with rfl | hz
      · exact o.asym e
      · exact h1 z hz
    · rename_i e
      have e : lt y x = false := by cases q : lt y x <;> simp_all
      refine List.pairwise_cons.mpr ⟨fun z hz => ?_, h⟩
      rcases List.mem_cons.mp hz with rfl | hz
      · exact e
      · exact o.le_tr e (h1 z hz)
theorem isortB_ris (o : STO lt) : ∀ l : List α, Ris lt (isortB lt l)
  | [] => List.Pairwise.nil
  | x :: r => insB_ris o x _ (isortB_ris o r)
theorem ris_uniq (o : STO lt) : ∀ {l m : List α}, l.Perm m → Ris lt l → Ris lt m → l = m
  | [], m, p, _, _ => (List.nil_perm.mp p).symm
  | x :: r, [], p, _, _ => absurd p.symm (by simp)
  | x :: r, y :: s, p, h1, h2 => by
    obtain ⟨a1, a2⟩ := List.pairwise_cons.mp h1
    obtain ⟨b1, b2⟩ := List.pairwise_cons.mp h2
    have e : x = y := by
      rcases List.mem_cons.mp (p.mem_iff.mp List.mem_cons_self) with e | hx
      · exact e
      · rcases List.mem_cons.mp (p.mem_iff.mpr List.mem_cons_self) with e | hy
        · exact e.symm
        · exact o.tot _ _ (b1 x hx) (a1 y hy)
    subst e
    rw [ris_uniq o (List.Perm.cons_inv p) a2 b2]
theorem isort_eq (o : STO lt) {l m : List α} (p : m.Perm l) (h : Ris lt m) : isortB lt l = m := ris_uniq o ((isortB_perm l).trans p.symm) (isortB_ris o l) h
end
theorem sto_Z : STO ltZ := ⟨fun x => decide_eq_false (by omega), fun x y z h1 h2 => decide_eq_true (by have := of_decide_eq_true h1; have := of_decide_eq_true h2; omega), fun x y h1 h2 => by have := of_decide_eq_false h1; have := of_decide_eq_false h2; omega⟩
theorem ltP2_iff {a b : Int × Int} : ltP2 a b = true ↔ a.1 < b.1 ∨ (a.1 = b.1 ∧ a.2 < b.2) := by
  unfold ltP2
  simp
theorem ltP2_not {a b : Int × Int} : ltP2 a b = false ↔ ¬ (a.1 < b.1 ∨ (a.1 = b.1 ∧ a.2 < b.2)) := by
  rw [← ltP2_iff]
  simp
theorem sto_P : STO ltP2 := by
  refine ⟨fun x => ltP2_not.mpr (by omega), fun x y z h1 h2 => ?_, fun x y h1 h2 => ?_⟩
  · rw [ltP2_iff] at *
    omega
  · rw [ltP2_not] at *
    have : x.1 = y.1 ∧ x.2 = y.2 := by omega
    exact Prod.ext this.1 this.2
theorem lexB_eq (a b : Int × Int) : SrtO.lexB a b = ltP2 a b := by
  unfold SrtO.lexB ltP2
  by_cases h : a.1 < b.1 <;> by_cases h2 : a.1 = b.1 <;> simp [h, h2]
theorem maxL_some : ∀ {ns : List Int} {m : Int}, maxL ns = some m → m ∈ ns ∧ ∀ y ∈ ns, y ≤ m
  | [], _, h => by cases h
  | [x], m, h => by
    cases h
    exact ⟨List.mem_singleton.mpr rfl, fun y hy => by rw [List.mem_singleton.mp hy]; omega⟩
  | x :: y :: r, m, h => by
    have h : (maxL (y :: r)).map (fun m => if m > x then m else x) = some m := h
    cases e : maxL (y :: r) with
    | none => rw [e] at h; cases h
    | some k =>
      rw [e] at h
      cases h
      obtain ⟨h1, h2⟩ := maxL_some e
      dsimp only
      by_cases hk : k > x
      · rw [if_pos hk]
        exact ⟨List.mem_cons_of_mem _ h1, fun z hz => by
          rcases List.mem_cons.mp hz with rfl | hz
          · omega
          · exact h2 z hz⟩
      · rw [if_neg hk]
        exact ⟨List.mem_cons_self, fun z hz => by
          rcases List.mem_cons.mp hz with rfl | hz
          · omega
          · have := h2 z hz; omega⟩
theorem minL_some : ∀ {ns : List Int} {m : Int}, minL ns = some m → m ∈ ns ∧ ∀ y ∈ ns, m ≤ y
  | [], _, h => by cases h
  | [x], m, h => by
    cases h
    exact ⟨List.mem_singleton.mpr rfl, fun y hy => by rw [List.mem_singleton.mp hy]; omega⟩
  | x :: y :: r, m, h => by
    have h : (minL (y :: r)).map (fun m => if m < x then m else x) = some m := h
    cases e : minL (y :: r) with
    | none => rw [e] at h; cases h
    | some k =>
      rw [e] at h
      cases h
      obtain ⟨h1, h2⟩ := minL_some e
      dsimp only
      by_cases hk : k < x
      · rw [if_pos hk]
        exact ⟨List.mem_cons_of_mem _ h1, fun z hz => by
          rcases List.mem_cons.mp hz with rfl | hz
          · omega
          · exact h2 z hz⟩
      · rw [if_neg hk]
        exact ⟨List.mem_cons_self, fun z hz => by
          rcases List.mem_cons.mp hz with rfl | hz
          · omega
          · have := h2 z hz; omega⟩

section
variable {W : Wd} {E0 : XK} {T : Tb} {X : Cx}
theorem CallR_or {f : Value} {r r' : List V → Hp → VK → Prop} (h : CallR X f r) (h' : CallR X f r') : CallR X f (fun vs H Q => r vs H Q ∨ r' vs H Q) := by
  intro pins s σ H xs us Q I rx q
  rcases q with q | q
  · exact h pins s σ H xs us Q I rx q
  · exact h' pins s σ H xs us Q I rx q
theorem b_max (hK : X.K = W.K) (hc : X.calm = true) : CallR X (.builtin "max") (rB W (biD .max)) := (CallR_or (call_max2 hc) (cr_max hc)).imp fun vs H Q ⟨O, ds, res, hO, hr, hg, hq⟩ => by
  replace hg : maxD ds = some res := by cases ds <;> exact hg
  unfold maxD at hg
  split at hg
  · rename_i a b
    cases e1 : intD a with
    | none => rw [e1] at hg; cases hg
    | some i =>
      rw [e1] at hg
      have hg : (intD b).map (fun j => (Md.dp, D.int (if j > i then j else i))) = some res := hg
      cases e2 : intD b with
      | none => rw [e2] at hg; cases hg
      | some j =>
        rw [e2] at hg
        cases hg
        rw [intD_eq e1, intD_eq e2] at hr
        obtain ⟨v, w, rfl, h1, h2⟩ := hr.two
        exact .inl ⟨i, j, by rw [show v = .int i from h1, show w = .int j from h2], hq.val rfl rfl⟩
  · rename_i xs
    cases e1 : intsD xs with
    | none => rw [e1] at hg; cases hg
    | some ns =>
      rw [e1] at hg
      have hg : (maxL ns).map (fun m => (Md.dp, D.int m)) = some res := hg
      cases e2 : maxL ns with
      | none => rw [e2] at hg; cases hg
      | some m =>
        rw [e2] at hg
        cases hg
        obtain ⟨m1, m2⟩ := maxL_some e2
        obtain ⟨v, rfl, hv⟩ := hr.one
        obtain ⟨a, vs, rfl, _, h1, h2, h3⟩ := hv
        rw [intsD_eq e1] at h3
        rw [Rps.ints_eq h3] at h1
        refine .inr ⟨a, ns, rfl, .inl (.inl h1), List.length_pos_of_mem m1, fun k hk hle => ?_⟩
        have : k = m := by have := hle m m1; have := m2 k hk; omega
        rw [this]
        exact hq.val rfl rfl
  · cases hg
theorem b_min (hK : X.K = W.K) (hc : X.calm = true) : CallR X (.builtin "min") (rB W (biD .min)) := (CallR_or (call_min2 hc) (cr_min hc)).imp fun vs H Q ⟨O, ds, res, hO, hr, hg, hq⟩ => by
  replace hg : minD ds = some res := by cases ds <;> exact hg
  unfold minD at hg
  split at hg
  · rename_i a b
    cases e1 : intD a with
    | none => rw [e1] at hg; cases hg
    | some i =>
      rw [e1] at hg
      have hg : (intD b).map (fun j => (Md.dp, D.int (if j < i then j else i))) = some res := hg
      cases e2 : intD b with
      | none => rw [e2] at hg; cases hg
      | some j =>
        rw [e2] at hg
        cases hg
        rw [intD_eq e1, intD_eq e2] at hr
        obtain ⟨v, w, rfl, h1, h2⟩ := hr.two
        exact .inl ⟨i, j, by rw [show v = .int i from h1, show w = .int j from h2], hq.val rfl rfl⟩
  · rename_i xs
    cases e1 : intsD xs with
    | none => rw [e1] at hg; cases hg
    | some ns =>
      rw [e1] at hg
      have hg : (minL ns).map (fun m => (Md.dp, D.int m)) = some res := hg
      cases e2 : minL ns with
      | none => rw [e2] at hg; cases hg
      | some m =>
        rw [e2] at hg
        cases hg
        obtain ⟨m1, m2⟩ := minL_some e2
        obtain ⟨v, rfl, hv⟩ := hr.one
        obtain ⟨a, vs, rfl, _, h1, h2, h3⟩ := hv
        rw [intsD_eq e1] at h3
        rw [Rps.ints_eq h3] at h1
        refine .inr ⟨a, ns, rfl, .inl (.inl h1), List.length_pos_of_mem m1, fun k hk hle => ?_⟩
        have : k = m := by have := hle m m1; have := m2 k hk; omega
        rw [this]
        exact hq.val rfl rfl
  · cases hg
/-! ### sorted -/
theorem prsD_eq : ∀ {ds : List D} {ps : List (Int × Int)}, prsD ds = some ps → ds = ps.map eP
  | [], ps, h => by cases h; rfl
  | d :: ds, ps, h => by
    unfold prsD at h
    split at h
    · rename_i hnil; cases hnil
    · rename_i a b ds' e
      cases e
      cases e2 : prsD ds with
      | none => rw [e2] at h; cases h
      | some r =>
        rw [e2] at h
        cases h
        rw [prsD_eq e2]
        rfl
    · cases h
/-- the two numbers of a pair in the heap -/
def kOf (H : Hp) (x : V) : Int × Int := match x with
  | .ref t => match H t with
    | some (.tup [.int a, .int b]) => (a, b)
    | _ => (0, 0)
  | _ => (0, 0)
theorem Rps.prs {H : Hp} {O : Addr → Prop} : ∀ {ps : List (Int × Int)} {vs : List V}, Rps W H O (ps.map eP) vs → vs.map (kOf H) = ps ∧ ∀ x ∈ vs, ∃ t, x = V.ref t ∧ H t = some (.tup [.int (kOf H x).1, .int (kOf H x).2])
  | [], vs, h => by
    rw [show vs = [] from h]
    exact ⟨rfl, fun _ z => by cases z⟩
  | p :: ps, vs, h => by
    obtain ⟨v, r, rfl, h1, h2⟩ := h
    obtain ⟨t, rfl, ht⟩ := h1.pair
    obtain ⟨i1, i2⟩ := Rps.prs (ps := ps) h2
    have ek : kOf H (.ref t) = p := by
      show (match H t with | some (.tup [.int a, .int b]) => (a, b) | _ => (0, 0)) = p
      rw [ht]
    refine ⟨by rw [List.map_cons, ek, i1], fun x hx => ?_⟩
    rcases List.mem_cons.mp hx with rfl | hx
    · exact ⟨t, rfl, by rw [ek]; exact ht⟩
    · exact i2 x hx
theorem Rps.of_prs {H : Hp} {O : Addr → Prop} : ∀ {vs : List V}, (∀ x ∈ vs, ∃ t, x = V.ref t ∧ H t = some (.tup [.int (kOf H x).1, .int (kOf H x).2])) → Rps W H O ((vs.map (kOf H)).map eP) vs
  | [], _ => rfl
  | v :: r, h => by
    obtain ⟨t, e, ht⟩ := h v List.mem_cons_self
    refine ⟨v, r, rfl, ⟨t, _, e, ht, (show (2 : Nat) ≤ sizeLine by decide), .int _, _, rfl, rfl, .int _, _, rfl, rfl, rfl⟩, Rps.of_prs fun x hx => h x (List.mem_cons_of_mem _ hx)⟩
theorem b_sorted (hK : X.K = W.K) : CallR X (.builtin "sorted") (rB W (biD .sorted)) := (CallR_or cr_sortedI cr_sortedPO).imp fun vs H Q ⟨O, ds, res, hO, hr, hg, hq⟩ => by
  match ds, hg, hr with
  | [.lst xs], hg, hr =>
    have hg : sortD xs = some res := hg
    obtain ⟨v, rfl, hv⟩ := hr.one
    obtain ⟨a, vs, rfl, _, h1, h2, h3⟩ := hv
    unfold sortD at hg
    split at hg
    · rename_i ns e
      cases hg
      rw [intsD_eq e] at h3
      rw [Rps.ints_eq h3] at h1 h2
      refine .inl ⟨a, ns, rfl, .inl (.inl h1), fun ns' p pm pw np => ?_⟩
      have e2 : isortB ltZ ns = ns' := isort_eq sto_Z pm (pw.imp fun {x y} h => decide_eq_false (by omega))
      rw [e2] at hq
      refine Res.deep (W := W) hq np ?_ (Rps.ints _) (lfrees_ints _)
      rw [List.length_map, pm.length_eq]
      rw [List.length_map] at h2
      exact h2
    · split at hg
      · rename_i ps e
        cases hg
        rw [prsD_eq e] at h3
        obtain ⟨k1, k2⟩ := h3.prs
        refine .inr ⟨a, vs, kOf H, rfl, .inl (.inl h1), k2, fun ys p sr st np => ?_⟩
        have pm : (ys.map (kOf H)).Perm ps := by
          rw [← k1]
          exact st.perm.map _
        have e2 : isortB ltP2 ps = ys.map (kOf H) := by
          refine isort_eq sto_P pm ?_
          show List.Pairwise _ _
          rw [List.pairwise_map]
          exact sr.imp fun {x y} h => by
            have h : SrtO.lexB (kOf H y) (kOf H x) = false := h
            rw [lexB_eq] at h
            exact h
        rw [e2] at hq
        refine Res.deep (W := W) hq np ?_ (Rps.of_prs fun x hx => k2 x (st.perm.mem_iff.mp hx)) (lfrees_prs _)
        rw [st.perm.length_eq]
        exact h2
      · cases hg
/-! ### list(range(..)) -/
theorem rgV_rng (a b : Int) {H : Hp} {O : Addr → Prop} : Rps W H O (rngD a b) (rgV a b) := by
  have e1 : rngD a b = eI ((List.range (b - a).toNat).map fun (i : Nat) => a + (i : Int)) := by
    unfold rngD eI
    rw [List.map_map]
    rfl
  have e2 : rgV a b = ((List.range (b - a).toNat).map fun (i : Nat) => a + (i : Int)).map V.int := by
    unfold rgV
    rw [List.map_map]
    rfl
  rw [e1, e2]
  exact Rps.ints _
theorem lfrees_rng (a b : Int) : lfrees (rngD a b) = true := by
  have e1 : rngD a b = eI ((List.range (b - a).toNat).map fun (i : Nat) => a + (i : Int)) := by
    unfold rngD eI
    rw [List.map_map]
    rfl
  rw [e1]
  exact lfrees_ints _
theorem rngOk_of {a b : Int} (h : rngOk a b = true) : RgOk a b ∧ (b - a).toNat ≤ SZ := by
  unfold rngOk smallI at h
  simp only [Bool.and_eq_true, decide_eq_true_eq] at h
  obtain ⟨⟨h1, h2⟩, h3⟩ := h
  exact ⟨⟨by omega, by omega, by omega, by omega, Nat.le_trans h3 (by decide)⟩, h3⟩
theorem c_lrng1 {a : Expr} {ca : E} {p p' pos pos' : Pos} (hc : X.calm = true) (hg : Gl X "list") (hm : X.mg "list" = none) (hg2 : Gl X "range") (hm2 : X.mg "range" = none) (ha : PE X a (rdE W E0 T ca))
    (na : starEach [a] X.env = (false, eval a X.env) :: starEach [] X.env := by rfl) : PE X (.Call (.Name "list" p) [.Call (.Name "range" p') [a] [] pos'] [] pos) (rdE W E0 T (.bi .lrng [.lit (.int 0), ca])) :=
  (pe_listRg hc hg hm (prg_1 hg2 hm2 ha na)).imp fun σ H Q ⟨H0, O0, δ, Fs, S, q⟩ => by
    simp only [ev, evs, nm, nms] at q
    rw [if_pos (show scal (.int 0) = true from rfl)] at q
    have q : rq W E0 H (av O0 Fs (nm ca)) (bnd (ev T ca δ) fun p => lift (biD .lrng [.int 0, p.2])) Q := by
      simp only [List.nil_append, List.append_nil] at q
      revert q
      cases ev T ca δ with
      | none => exact fun h => h
      | some r => cases r <;> exact fun h => h
    refine rd1 (g := fun d => biD .lrng [.int 0, d]) (r := fun x H1 Q => ∃ n, x = .int n ∧ RgOk 0 n ∧ ∀ q, H1 q = none → Q (.ref q) (L2.upd H1 q (.lst (rgV 0 n)))) S q fun H2 O x d res hO hd hg hq => ?_
    cases d with
    | int n =>
      have hg : (if rngOk 0 n = true then some (Md.dp, D.lst (rngD 0 n)) else none) = some res := hg
      split at hg <;> first | (cases hg; done) | skip
      rename_i hz
      cases hg
      obtain ⟨g1, g2⟩ := rngOk_of hz
      exact ⟨n, hd, g1, fun q nq => Res.deep (W := W) hq nq (by rw [rgV_length]; exact Nat.le_trans g2 sz_le) (rgV_rng 0 n) (lfrees_rng 0 n)⟩
    | _ => cases hg
theorem c_lrng2 {a b : Expr} {ca cb : E} {p p' pos pos' : Pos} (hc : X.calm = true) (hg : Gl X "list") (hm : X.mg "list" = none) (hg2 : Gl X "range") (hm2 : X.mg "range" = none) (ha : PE X a (rdE W E0 T ca)) (hb : PE X b (rdE W E0 T cb))
    (na : starEach [a, b] X.env = (false, eval a X.env) :: starEach [b] X.env := by rfl) (nb : starEach [b] X.env = (false, eval b X.env) :: starEach [] X.env := by rfl) (hp : (backTo pos' (starEach [b] X.env)).any (·.1) = false := by rfl) :
    PE X (.Call (.Name "list" p) [.Call (.Name "range" p') [a, b] [] pos'] [] pos) (rdE W E0 T (.bi .lrng [ca, cb])) :=
  (pe_listRg hc hg hm (prg_2 hg2 hm2 ha hb na nb hp)).imp fun σ H Q ⟨H0, O0, δ, Fs, S, q⟩ => by
    simp only [ev, evs, nm, nms] at q
    have q : rq W E0 H (av O0 Fs (nm ca ++ nm cb)) (bnd (ev T ca δ) fun p => bnd (ev T cb δ) fun p2 => lift (biD .lrng [p.2, p2.2])) Q := by
      simp only [List.append_nil] at q
      revert q
      cases ev T ca δ with
      | none => exact fun h => h
      | some r =>
        cases r with
        | er C => exact fun h => h
        | ok p =>
          cases ev T cb δ with
          | none => exact fun h => h
          | some r => cases r <;> exact fun h => h
    refine rd2 (g := fun d e => biD .lrng [d, e]) (r := fun x y H1 Q => ∃ i j, x = .int i ∧ y = .int j ∧ RgOk i j ∧ ∀ q, H1 q = none → Q (.ref q) (L2.upd H1 q (.lst (rgV i j)))) S (fun i h => List.mem_append_left _ h) (fun i h => List.mem_append_right _ h) q fun H2 O x y d e res hO hd he hg hq => ?_
    cases d with
    | int i =>
      cases e with
      | int j =>
        have hg : (if rngOk i j = true then some (Md.dp, D.lst (rngD i j)) else none) = some res := hg
        split at hg <;> first | (cases hg; done) | skip
        rename_i hz
        cases hg
        obtain ⟨g1, g2⟩ := rngOk_of hz
        exact ⟨i, j, hd, he, g1, fun q nq => Res.deep (W := W) hq nq (by rw [rgV_length]; exact Nat.le_trans g2 sz_le) (rgV_rng i j) (lfrees_rng i j)⟩
      | _ => cases hg
    | _ => cases hg
end
end TW

set_option Elab.async false
set_option linter.all false
set_option maxRecDepth 100000
set_option maxHeartbeats 4000000
namespace TW
open PySem PySem.Spec PyProof.Rows L2

theorem toPys_get : ∀ (ds : List D) (j : Nat), (toPys ds)[j]? = (ds[j]?).map toPy
  | [], j => by simp [toPys]
  | d :: ds, 0 => by simp [toPys]
  | d :: ds, j + 1 => by
    simp only [toPys, List.getElem?_cons_succ]
    exact toPys_get ds j
def tyN : Ty → Option String
  | .int => some "int"
  | .bool => some "bool"
  | .list => some "list"
  | .tuple => some "tuple"
  | .cls _ => none
section
variable {W : Wd} {E0 : XK} {T : Tb} {X : Cx}
/-! ### xs.index(y) -/
theorem c_mix {o e : Expr} {ca cb : E} {apos cpos : Pos} (hK : X.K = W.K) (hu : X.A.units + 65 < cLine) (ho : PE X o (rdE W E0 T ca)) (ha : PA X [e] (rdA W E0 T [cb]))
    (hbase : attributeBase o "index" X.env (eval o X.env) = eval o X.env := by rfl)
    (hfew : ((backTo cpos (starEach [e] X.env)).all (fun x => !x.1) && (backToKw cpos (keywordEach [] X.env)).all (fun x => x.1.isSome)
      && decide ([e].length + ([] : List Keyword).length + (if ([] : List Keyword).isEmpty then 0 else 1) < 30)) = true := by rfl)
    (hline : (apos.endLine == cpos.line) = true := by rfl) (hs : starEach [e] X.env = (false, eval e X.env) :: starEach [] X.env := by rfl) :
    PE X (.Call (.Attribute o "index" apos) [e] [] cpos) (rdE W E0 T (.mix ca cb)) :=
  (pe_bm PySem.F.plainAttrs_list PySem.F.slot_list_index PySem.F.type_list_index (mt_indexD hu) ho ha hbase hfew hline hs).imp fun σ H Q ⟨H0, O0, δ, Fs, S, q⟩ => by
    simp only [ev, nm] at q
    refine ⟨H0, O0, δ, Fs, S, rq_bnd' (G := fun z => rq W E0 H (av O0 Fs (nm ca ++ nm cb)) z Q) rq_none (fun C h => h) q fun p h1 => ?_⟩
    intro v1 H1 F1 s1 n1 nd1 ow1
    have S1 := S.grow s1
    have h1 := rq.mono h1 s1
    have r1 := ow1.rpv (O1 := av O0 Fs (nm ca ++ nm cb)) (av_mono fun i hi => List.mem_append_left _ hi) S.av_there n1
    cases hp : p.2 with
    | lst ds =>
      rw [hp] at h1 r1
      have r0 := r1
      obtain ⟨a, vs, rfl, _, g1, g2, g3⟩ := r0
      refine ⟨.inl ⟨rfl, vs, .inl (.inl g1)⟩, ?_⟩
      have h1 : rq W E0 H1 (av O0 Fs (nm ca ++ nm cb)) (bnd (ev T cb δ) fun q => if (dat q.2 20 && dats ds 20) = true then lift ((ds.findIdx? fun z => eqD z q.2).map fun i => (Md.dp, D.int (i : Nat))) else none) Q := h1
      have e1 : evs T [cb] δ = bnd (ev T cb δ) fun p => ok [p] := by
        simp only [evs]
        rfl
      refine ⟨H0, O0, δ, Fs, S1, ?_⟩
      rw [e1]
      revert h1
      cases ev T cb δ with
      | none => exact fun h => h
      | some r =>
        cases r with
        | er C => exact fun h => h
        | ok p2 =>
          intro h1 vs2 H2 Fs2 s2 n2 nd2 ow2
          obtain ⟨w, r', F, Fr, rfl, rfl, o1, o2⟩ := ow2
          obtain ⟨rfl, rfl⟩ := o2
          have h2 : rq W E0 H2 (av O0 Fs (nm ca ++ nm cb)) (if (dat p2.2 20 && dats ds 20) = true then lift ((ds.findIdx? fun z => eqD z p2.2).map fun i => (Md.dp, D.int (i : Nat))) else none) Q := rq.mono (r := if (dat p2.2 20 && dats ds 20) = true then lift ((ds.findIdx? fun z => eqD z p2.2).map fun i => (Md.dp, D.int (i : Nat))) else none) h1 s2
          split at h2 <;> first | exact h2.elim | skip
          rename_i hz
          obtain ⟨z1, z2⟩ := Bool.and_eq_true_iff.mp hz
          cases ei : ds.findIdx? (fun z => eqD z p2.2) with
          | none => rw [ei] at h2; exact h2.elim
          | some j =>
            rw [ei] at h2
            have rw2 : Rp W H2 (fun _ => False) p2.2 w := o1.rp (fun a z => z.elim) (fun a _ z => z)
            have rl := Rp.mono s2 (fun _ z => z) _ _ r1
            obtain ⟨hj, t1, t2⟩ := List.findIdx?_eq_some_iff_getElem.mp ei
            have dl : Dp X.K H2 (.ref a) (.list (toPys ds)) := by
              rw [hK]
              have := Rp.dp (.lst ds) 21 _ z2 rl
              simpa only [toPy] using this
            have sl : SeqAt.shaped (.list (toPys ds)) = true := by
              have := shaped_of (d := .lst ds) (n := 21) (by decide) z2
              simpa only [toPy] using this
            refine ⟨a, w, toPy p2.2, toPys ds, j, toPy ds[j], rfl, rfl, dl, by rw [hK]; exact Rp.dp p2.2 20 w z1 rw2, sl, shaped_of (by decide) z1, ?_, t1, fun m z' hm hz' => ?_, Res.val (W := W) h2 rfl rfl⟩
            · rw [toPys_get, List.getElem?_eq_getElem hj]
              rfl
            · rw [toPys_get, List.getElem?_eq_getElem (Nat.lt_trans hm hj)] at hz'
              cases hz'
              have := t2 m hm
              simpa using this
    | _ => rw [hp] at h1; exact h1.elim

/-! ### isinstance, of a built-in class -/
theorem isi_kit {d : D} {t : Ty} {b : Bool} {n : String} {H : Hp} {O : Addr → Prop} {x : V} (hn : tyN t = some n) (h : isiD d t = some b) (r : Rp W H O d x) : ∃ m : String, TyX W.K H x (.type m) ∧ kitB m n = some b := by
  cases d with
  | non => exact ⟨"NoneType", .base (by rw [show x = .non from r]; exact .non), by cases t <;> cases hn <;> cases h <;> decide +kernel⟩
  | bl k => exact ⟨"bool", .base (by rw [show x = .bl k from r]; exact .bl k), by cases t <;> cases hn <;> cases h <;> decide +kernel⟩
  | int k => exact ⟨"int", .base (by rw [show x = .int k from r]; exact .int k), by cases t <;> cases hn <;> cases h <;> decide +kernel⟩
  | str k => exact ⟨"str", .base (by rw [show x = .str k from r]; exact .str k), by cases t <;> cases hn <;> cases h <;> decide +kernel⟩
  | tup ds =>
    obtain ⟨a, vs, rfl, h1, _⟩ := r
    exact ⟨"tuple", .base (.tup h1), by cases t <;> cases hn <;> cases h <;> decide +kernel⟩
  | lst ds =>
    obtain ⟨a, vs, rfl, _, h1, _⟩ := r
    exact ⟨"list", .base (.lst h1), by cases t <;> cases hn <;> cases h <;> decide +kernel⟩
  | dic ds =>
    obtain ⟨a, rfl, _, h1, _⟩ := r
    exact ⟨"dict", .base (.dK h1), by cases t <;> cases hn <;> cases h <;> decide +kernel⟩
  | fn f => cases t <;> cases h
  | scr ns => cases t <;> cases h
  | ins C f d => cases t <;> first | (cases h; done) | cases hn
theorem c_isi {e : Expr} {ca : E} {t : Ty} {n : String} {x : Str} {p p2 pos : Pos} (hK : X.K = W.K) (hn : tyN t = some n) (hg : Gl X "isinstance") (hm : X.mg "isinstance" = none) (hgT : Gl X x) (hmT : X.mg x = none) (hvT : bootBuiltins x = some (.type n)) (he : PE X e (rdE W E0 T ca))
    (hxn : x ≠ "__name__" := by decide) (hd : (x == ("__debug__" : Str)) = false := by decide) (hs : starEach [e, .Name x p2] X.env = (false, eval e X.env) :: starEach [.Name x p2] X.env := by rfl) :
    PE X (.Call (.Name "isinstance" p) [e, .Name x p2] [] pos) (rdE W E0 T (.isi ca t)) :=
  (pe_callB call_isi hg hm boot_isinstance (pa_cons he (pa_cons (pe_bltn (v := .ty n) hgT hmT hvT rfl hxn hd) pa_nil) hs) (by decide) (by decide) hs).imp fun σ H Q ⟨H0, O0, δ, Fs, S, q⟩ => by
    simp only [ev, nm] at q
    refine rd1 (g := fun d => (isiD d t).map fun b => (.dp, .bl b)) (r := fun x H1 Q => rIsi X.K [x, .ty n] H1 Q) S q fun H2 O x d res hO hd hg hq => ?_
    cases e : isiD d t with
    | none => rw [e] at hg; cases hg
    | some b =>
      rw [e] at hg
      cases hg
      obtain ⟨m, k1, k2⟩ := isi_kit hn e hd
      exact ⟨x, .ty n, .type m, .type n, b, rfl, .ty n, by rw [hK]; exact k1, kit_ty k2, hq.val rfl rfl⟩

/-! ### calls of the text's defs -/
def spP (W : Wd) (n : Nat) (f : List D → M (Md × D)) : Sp := fun vs H Q E => vs.length = n ∧ ∃ ds O, (∀ a, O a → H a ≠ none) ∧ Rps W H O ds vs ∧ rq W E H O (f ds) Q
structure FnF (P : Program) (w : World) (mg : Str → Option Value) (base : Heap) (W : Wd) (T : Tb) (k : Nat) (x : Str) (f : Nat) (ps : List Str) : Prop where
  ex : ∃ fd, FnOk P w W.K mg base (L2.CX P w) k (W.fa f) fd ps (spP W ps.length (T f)) ∧ Binds W.K fd ps []
  mg : mg x = some (.ref (W.fa f))
  kp : PySem.W.keepIn W.K (.ref (W.fa f)) = true
theorem Ow.up {H : Hp} {O O' : Addr → Prop} {d : D} {v : V} (h : Rp W H O' d v) (c : closed .fl d = true) : ∃ F, Ow W H O .fl d v F ∧ F.Nodup ∧ ∀ a ∈ F, ¬ O' a := by
  cases e : flatTop d with
  | false =>
    rw [closed_other e] at c
    exact ⟨[], Ow.sh_any h c, List.nodup_nil, fun _ z => by cases z⟩
  | true =>
    cases d with
    | lst ds =>
      obtain ⟨a, vs, rfl, h0, h1, h2, h3⟩ := h
      refine ⟨[a], ⟨a, vs, rfl, rfl, h1, h2, Dqs.rp _ _ _ (Rps.dq _ _ h3 c) (fun _ z => by cases z)⟩, by simp, fun b hb => by rw [List.mem_singleton.mp hb]; exact h0⟩
    | dic ks =>
      obtain ⟨a, rfl, h0, h1, h2⟩ := h
      exact ⟨[a], ⟨a, rfl, rfl, h1, h2⟩, by simp, fun b hb => by rw [List.mem_singleton.mp hb]; exact h0⟩
    | _ => cases e
theorem rdA_call {cs : List E} {n f : Nat} {σ : L2.St} {H : Hp} {Q : VK} {H0 : Hp} {O0 : Addr → Prop} {δ : Dn} {Fs : List (List Addr)} (S : SS W H0 O0 H σ δ Fs) (hn : cs.length = n)
    (q : rq W E0 H (av O0 Fs (nms cs)) (bnd (evs T cs δ) fun ps => bnd (T f (ps.map Prod.snd)) fun r => ok (if r.1 = .sh ∧ closeds ps ∧ closed .fl r.2 then (.fl, r.2) else r)) Q) :
    rdA W E0 T cs σ H (fun vs H1 => spP W n (T f) (vs ++ []) H1 Q E0) := by
  refine ⟨H0, O0, δ, Fs, S, rqs_bnd2 (G := fun z => rq W E0 H (av O0 Fs (nms cs)) z Q) rq_none (fun C h => h) q fun ps e h1 vs H1 Fs1 s1 n1 nd1 ow1 => ?_⟩
  rw [List.append_nil]
  refine ⟨by rw [ow1.length, evs_len e, hn], ?_⟩
  cases c : closeds ps with
  | true =>
    refine ⟨_, fun a => H a ≠ none, fun a z q => z (s1.free q), Dqs.rp _ _ _ (ow1.dqs c) (fun a ha z => z (n1 a ha)), ?_⟩
    revert h1
    cases T f (ps.map Prod.snd) with
    | none => exact fun h => h
    | some r =>
      cases r with
      | er C => exact fun h H' s' => h H' (s1.trans s')
      | ok p =>
        intro h1 v H2 F s2 n2 nd2 ow2
        have h1 : Res W H (av O0 Fs (nms cs)) (if p.1 = .sh ∧ closeds ps ∧ closed .fl p.2 then (Md.fl, p.2) else p).1 (if p.1 = .sh ∧ closeds ps ∧ closed .fl p.2 then (Md.fl, p.2) else p).2 Q := h1
        split at h1
        · rename_i hc
          obtain ⟨c1, _, c3⟩ := hc
          rw [c1] at ow2
          obtain ⟨rfl, r2⟩ := ow2
          obtain ⟨F', g1, g2, g3⟩ := Ow.up (O := fun q => av O0 Fs (nms cs) q ∨ False) (Rp.mono (Same.refl H2) (O' := fun a => H a ≠ none) (fun a z => .inl z) _ _ r2) c3
          have n3 : ∀ a ∈ F', H a = none := fun a ha => by
            cases hh : H a with
            | none => rfl
            | some o => exact absurd (by rw [hh]; simp) (g3 a ha)
          obtain ⟨F2, k1, k2, k3⟩ := Ow.up (O := fun q => av O0 Fs (nms cs) q ∨ q ∈ F') (Rp.mono (Same.refl H2) (O' := fun a => H a ≠ none) (fun a z => .inl z) _ _ r2) c3
          -- the cells are told by the tree alone
          have e12 : F2 = F' := by
            cases ef : flatTop p.2 with
            | false =>
              rw [Ow.fl_other ef] at g1 k1
              rw [g1.1, k1.1]
            | true =>
              cases hd : p.2 with
              | lst ds =>
                rw [hd] at g1 k1
                obtain ⟨a, vs', e1, e2, _⟩ := g1
                obtain ⟨b, vs'', e3, e4, _⟩ := k1
                rw [e1] at e3
                cases e3
                rw [e2, e4]
              | dic ks =>
                rw [hd] at g1 k1
                obtain ⟨a, e1, e2, _⟩ := g1
                obtain ⟨b, e3, e4, _⟩ := k1
                rw [e1] at e3
                cases e3
                rw [e2, e4]
              | _ => rw [hd] at ef; cases ef
          subst e12
          exact h1 v H2 F2 (s1.trans s2) n3 k2 k1
        · refine h1 v H2 F (s1.trans s2) (fun a ha => s1.free (n2 a ha)) nd2 (ow2.mono (Same.refl H2) fun a z => ?_)
          rcases z with z | z
          · exact .inl (S.av_there a z)
          · exact .inr z
  | false =>
    refine ⟨_, av O0 Fs (nms cs), (S.grow s1).av_there, ow1.rps (fun a z => .inl z) (fun a ha z => S.av_there a z (n1 a ha)), ?_⟩
    revert h1
    cases T f (ps.map Prod.snd) with
    | none => exact fun h => h
    | some r =>
      cases r with
      | er C => exact fun h H' s' => h H' (s1.trans s')
      | ok p =>
        intro h1
        have h1 : Res W H (av O0 Fs (nms cs)) (if p.1 = .sh ∧ closeds ps ∧ closed .fl p.2 then (Md.fl, p.2) else p).1 (if p.1 = .sh ∧ closeds ps ∧ closed .fl p.2 then (Md.fl, p.2) else p).2 Q := h1
        rw [if_neg (by rw [c]; intro z; exact absurd z.2.1 (by decide))] at h1
        exact Res.mono (W := W) h1 s1
theorem c_cal {k f : Nat} {x : Str} {ps : List Str} {p pos : Pos} {e : Expr} {es : List Expr} {cs : List E} (hK : X.K = W.K) (F : FnF X.prog X.w X.mg X.base W T k x f ps) (hr : Room k X.A) (hg : Gl X x) (hx : Passes (L2.CX X.prog X.w) X E0)
    (ha : PA X (e :: es) (rdA W E0 T cs)) (hl : cs.length = ps.length := by rfl) (hdb : (x == ("__debug__" : Str)) = false := by decide) (he : starEach (e :: es) X.env = (false, eval e X.env) :: starEach es X.env := by rfl)
    (hpl : (backTo pos (starEach es X.env)).any (·.1) = false := by rfl) : PE X (.Call (.Name x p) (e :: es) [] pos) (rdE W E0 T (.cal f cs)) := by
  obtain ⟨fd, F1, F2⟩ := F.ex
  rw [← hK] at F1 F2
  exact (pe_call F1 hr hg F.mg (by rw [hK]; exact F.kp) F2 .nil hx ha hdb he hpl).imp fun σ H Q ⟨H0, O0, δ, Fs, S, q⟩ => by
    simp only [ev, nm] at q
    exact rdA_call S hl q
theorem c_cal0 {k f : Nat} {x : Str} {p pos : Pos} (hK : X.K = W.K) (F : FnF X.prog X.w X.mg X.base W T k x f []) (hr : Room k X.A) (hg : Gl X x) (hx : Passes (L2.CX X.prog X.w) X E0)
    (hdb : (x == ("__debug__" : Str)) = false := by decide) : PE X (.Call (.Name x p) [] [] pos) (rdE W E0 T (.cal f [])) := by
  obtain ⟨fd, F1, F2⟩ := F.ex
  rw [← hK] at F1 F2
  exact (pe_call0 F1 hr hg F.mg (by rw [hK]; exact F.kp) F2 .nil hx hdb).imp fun σ H Q ⟨H0, O0, δ, Fs, S, q⟩ => by
    simp only [ev, nm] at q
    obtain ⟨H0, O0, δ, Fs, S, q⟩ := rdA_call (n := 0) S rfl q
    simp only [evs] at q
    exact q [] H [] (Same.refl H) (fun _ z => by cases z) List.nodup_nil ⟨rfl, rfl⟩
/-- a local name that holds a def -/
theorem c_cav {k i : Nat} {x : Str} {p pos : Pos} {e : Expr} {es : List Expr} {cs : List E} (hK : X.K = W.K)
    (F : ∀ f, ∃ fd ps, FnOk X.prog X.w W.K X.mg X.base (L2.CX X.prog X.w) k (W.fa f) fd ps (spP W ps.length (T f)) ∧ Binds W.K fd ps [] ∧ PySem.W.keepIn W.K (.ref (W.fa f)) = true ∧ ∀ ds, ds.length ≠ ps.length → T f ds = none)
    (hr : Room k X.A) (hx : Passes (L2.CX X.prog X.w) X E0)
    (ha : PA X (e :: es) (rdA W E0 T cs)) (hN : X.N[i]? = some x := by rfl) (hv : Vis X.env.scope x := by first | exact Or.inl rfl | exact Or.inr (Or.inl rfl) | exact Or.inr (Or.inr rfl)) (hdb : (x == ("__debug__" : Str)) = false := by decide) (hcd : (x == ("__classdict__" : Str)) = false := by decide)
    (he : starEach (e :: es) X.env = (false, eval e X.env) :: starEach es X.env := by rfl) (hpl : (backTo pos (starEach es X.env)).any (·.1) = false := by rfl) : PE X (.Call (.Name x p) (e :: es) [] pos) (rdE W E0 T (.cav (.var i) cs)) := by
  refine ⟨fun pins s σ H Q I h => ?_⟩
  obtain ⟨H0, O0, δ, Fs, S, q⟩ := h
  simp only [ev, nm] at q
  cases ei : δ[i]? with
  | none => rw [ei] at q; exact q.elim
  | some o =>
    cases o with
    | none => rw [ei] at q; exact q.elim
    | some pr =>
      rw [ei] at q
      obtain ⟨m, d⟩ := pr
      obtain ⟨v, hv1, hv2⟩ := S.var (T := [i]) ei (by simp)
      cases d with
      | fn f =>
        have hv2 : v = .ref (W.fa f) := hv2
        subst hv2
        have q : rq W E0 H (av O0 Fs ([i] ++ nms cs)) (bnd (evs T cs δ) fun ps => T f (ps.map Prod.snd)) Q := q
        obtain ⟨fd, ps, F1, F2, F3, F4⟩ := F f
        rw [← hK] at F1 F2 F3
        refine (pe_callL (i := i) (f := W.fa f) (dvs := []) (E := E0) F1 hr hN hv F3 F2 .nil hx ha hdb hcd he hpl).run pins s σ H Q I ⟨hv1, H0, O0, δ, Fs, S, ?_⟩
        refine rqs_bnd2 (G := fun z => rq W E0 H (av O0 Fs ([i] ++ nms cs)) z Q) rq_none (fun C h => h) q fun qs e h1 vs H1 Fs1 s1 n1 nd1 ow1 => ?_
        by_cases hl : (qs.map Prod.snd).length = ps.length
        · rw [List.append_nil]
          refine ⟨by rw [ow1.length, ← hl, List.length_map], _, av O0 Fs ([i] ++ nms cs), (S.grow s1).av_there, ow1.rps (fun a z => .inl (av_mono (fun j hj => List.mem_append_right _ hj) a z)) (fun a ha z => S.av_there a z (n1 a ha)), rq.mono h1 s1⟩
        · rw [F4 _ hl] at h1
          exact h1.elim
      | _ => exact q.elim
end
end TW

set_option Elab.async false
set_option linter.all false
set_option maxRecDepth 100000
set_option maxHeartbeats 4000000
namespace TW
open PySem PySem.Spec PyProof.Rows L2

/-! ### an evaluation looks at the trees of the slots that it names -/
abbrev dat1 (e : Dn) (i : Nat) : Option (Option D) := (e[i]?).map (Option.map Prod.snd)
def Agr (L : List Nat) (e e' : Dn) : Prop := e.length = e'.length ∧ ∀ i ∈ L, dat1 e i = dat1 e' i
theorem Agr.sub {L M : List Nat} {e e' : Dn} (h : Agr L e e') (s : ∀ i ∈ M, i ∈ L) : Agr M e e' := ⟨h.1, fun i hi => h.2 i (s i hi)⟩
theorem Agr.set {L : List Nat} {e e' : Dn} (h : Agr L e e') (i : Nat) (p q : Md × D) (hd : p.2 = q.2) : Agr (i :: L) (e.set i (some p)) (e'.set i (some q)) := by
  refine ⟨by rw [List.length_set, List.length_set]; exact h.1, fun j hj => ?_⟩
  by_cases e1 : i = j
  · subst e1
    by_cases hl : i < e.length
    · have hl' : i < e'.length := by rw [← h.1]; exact hl
      unfold dat1
      rw [List.getElem?_set_self hl, List.getElem?_set_self hl']
      simp [hd]
    · have hl' : ¬ i < e'.length := by rw [← h.1]; exact hl
      unfold dat1
      rw [List.getElem?_eq_none (by rw [List.length_set]; omega), List.getElem?_eq_none (by rw [List.length_set]; omega)]
  · unfold dat1
    rw [List.getElem?_set_ne e1, List.getElem?_set_ne e1]
    rcases List.mem_cons.mp hj with z | z
    · exact absurd z.symm e1
    · exact h.2 j z
theorem Agr.bind {L : List Nat} {e e' : Dn} (h : Agr L e e') (ts : List Nat) (one : Bool) (x : D) : (bindT ts one x e = none ∧ bindT ts one x e' = none) ∨ ∃ f f', bindT ts one x e = some f ∧ bindT ts one x e' = some f' ∧ Agr (ts ++ L) f f' := by
  unfold bindT
  split
  · rename_i i
    exact .inr ⟨_, _, rfl, rfl, h.set i _ _ rfl⟩
  · rename_i i j a b
    refine .inr ⟨_, _, rfl, rfl, ?_⟩
    exact ((h.set i (.sh, a) (.sh, a) rfl).set j (.sh, b) (.sh, b) rfl).sub fun k hk => by
      simp only [List.cons_append, List.nil_append, List.mem_cons] at hk ⊢
      rcases hk with z | z | z
      · exact .inr (.inl z)
      · exact .inl z
      · exact .inr (.inr z)
  · exact .inl ⟨rfl, rfl⟩
theorem compL_congr {f g : D → Option (Option (Md × D))} (h : ∀ x, f x = g x) (xs : List D) : compL f xs = compL g xs := by
  rw [show f = g from funext h]
section
variable {T : Tb}
mutual
theorem ev_congr : ∀ (a : E) (e e' : Dn), Agr (nm a) e e' → ev T a e = ev T a e'
  | .var i, e, e', h => by
    have h := h.2 i (by simp [nm])
    simp only [ev]
    unfold dat1 at h
    cases q : e[i]? with
    | none =>
      rw [q] at h
      cases q' : e'[i]? with
      | none => rfl
      | some o => rw [q'] at h; cases h
    | some o =>
      rw [q] at h
      cases q' : e'[i]? with
      | none => rw [q'] at h; cases h
      | some o' =>
        rw [q'] at h
        cases o with
        | none =>
          cases o' with
          | none => rfl
          | some p' => cases h
        | some p =>
          cases o' with
          | none => cases h
          | some p' =>
            have : p.2 = p'.2 := by simpa using h
            simp [this]
  | .lit d, e, e', h => by simp only [ev]
  | .bin o a b, e, e', h => by
    simp only [ev, ev_congr a e e' (h.sub fun i hi => by simp [nm, hi]), ev_congr b e e' (h.sub fun i hi => by simp [nm, hi])]
  | .cmp o a b, e, e', h => by
    simp only [ev, ev_congr a e e' (h.sub fun i hi => by simp [nm, hi]), ev_congr b e e' (h.sub fun i hi => by simp [nm, hi])]
  | .chn o p a b c, e, e', h => by
    simp only [ev, ev_congr a e e' (h.sub fun i hi => by simp [nm, hi]), ev_congr b e e' (h.sub fun i hi => by simp [nm, hi]), ev_congr c e e' (h.sub fun i hi => by simp [nm, hi])]
  | .chn3 o p q a b c d, e, e', h => by
    simp only [ev, ev_congr a e e' (h.sub fun i hi => by simp [nm, hi]), ev_congr b e e' (h.sub fun i hi => by simp [nm, hi]), ev_congr c e e' (h.sub fun i hi => by simp [nm, hi]), ev_congr d e e' (h.sub fun i hi => by simp [nm, hi])]
  | .neg a, e, e', h => by simp only [ev, ev_congr a e e' (h.sub fun i hi => by simp [nm, hi])]
  | .not a, e, e', h => by simp only [ev, ev_congr a e e' (h.sub fun i hi => by simp [nm, hi])]
  | .and a b, e, e', h => by
    simp only [ev, ev_congr a e e' (h.sub fun i hi => by simp [nm, hi]), ev_congr b e e' (h.sub fun i hi => by simp [nm, hi])]
  | .or a b, e, e', h => by
    simp only [ev, ev_congr a e e' (h.sub fun i hi => by simp [nm, hi]), ev_congr b e e' (h.sub fun i hi => by simp [nm, hi])]
  | .ite c a b, e, e', h => by
    simp only [ev, ev_congr a e e' (h.sub fun i hi => by simp [nm, hi]), ev_congr b e e' (h.sub fun i hi => by simp [nm, hi]), ev_congr c e e' (h.sub fun i hi => by simp [nm, hi])]
  | .tup es, e, e', h => by simp only [ev, evs_congr es e e' (h.sub fun i hi => by simp [nm, hi])]
  | .lst es, e, e', h => by simp only [ev, evs_congr es e e' (h.sub fun i hi => by simp [nm, hi])]
  | .sub a b, e, e', h => by
    simp only [ev, ev_congr a e e' (h.sub fun i hi => by simp [nm, hi]), ev_congr b e e' (h.sub fun i hi => by simp [nm, hi])]
  | .slc pl ph a b c, e, e', h => by
    simp only [ev, ev_congr a e e' (h.sub fun i hi => by simp [nm, hi]), ev_congr b e e' (h.sub fun i hi => by simp [nm, hi]), ev_congr c e e' (h.sub fun i hi => by simp [nm, hi])]
  | .rev a, e, e', h => by simp only [ev, ev_congr a e e' (h.sub fun i hi => by simp [nm, hi])]
  | .att a f, e, e', h => by simp only [ev, ev_congr a e e' (h.sub fun i hi => by simp [nm, hi])]
  | .cal f es, e, e', h => by simp only [ev, evs_congr es e e' (h.sub fun i hi => by simp [nm, hi])]
  | .cav a es, e, e', h => by simp only [ev, ev_congr a e e' (h.sub fun i hi => by simp [nm, hi]), evs_congr es e e' (h.sub fun i hi => by simp [nm, hi])]
  | .bi b es, e, e', h => by simp only [ev, evs_congr es e e' (h.sub fun i hi => by simp [nm, hi])]
  | .mix a b, e, e', h => by
    simp only [ev, ev_congr a e e' (h.sub fun i hi => by simp [nm, hi]), ev_congr b e e' (h.sub fun i hi => by simp [nm, hi])]
  | .isi a t, e, e', h => by simp only [ev, ev_congr a e e' (h.sub fun i hi => by simp [nm, hi])]
  | .comp ts one s cs a, e, e', h => by
    have h1 := evS_congr s e e' (h.sub fun i hi => by simp [nm, hi])
    simp only [ev, h1]
    congr 1
    funext p
    rw [compL_congr (fun x => ?_)]
    rcases h.bind ts one x with ⟨b1, b2⟩ | ⟨f, f', b1, b2, b3⟩
    · rw [b1, b2]
    · rw [b1, b2]
      show (okOnly (evC T cs f)).bind _ = (okOnly (evC T cs f')).bind _
      rw [evC_congr cs f f' (b3.sub fun i hi => List.mem_append_right _ (by simp [nm, hi])), ev_congr a f f' (b3.sub fun i hi => List.mem_append_right _ (by simp [nm, hi]))]
  | .dnew, e, e', h => by simp only [ev]
theorem evs_congr : ∀ (as : List E) (e e' : Dn), Agr (nms as) e e' → evs T as e = evs T as e'
  | [], e, e', h => by simp only [evs]
  | a :: as, e, e', h => by
    simp only [evs, ev_congr a e e' (h.sub fun i hi => by simp [nms, hi]), evs_congr as e e' (h.sub fun i hi => by simp [nms, hi])]
theorem evC_congr : ∀ (as : List E) (e e' : Dn), Agr (nms as) e e' → evC T as e = evC T as e'
  | [], e, e', h => by simp only [evC]
  | a :: as, e, e', h => by
    simp only [evC, ev_congr a e e' (h.sub fun i hi => by simp [nms, hi]), evC_congr as e e' (h.sub fun i hi => by simp [nms, hi])]
theorem evS_congr : ∀ (s : Sr) (e e' : Dn), Agr (nmS s) e e' → evS T s e = evS T s e'
  | .seq a, e, e', h => by simp only [evS, ev_congr a e e' (h.sub fun i hi => by simp [nmS, hi])]
  | .rng a b, e, e', h => by
    simp only [evS, ev_congr a e e' (h.sub fun i hi => by simp [nmS, hi]), ev_congr b e e' (h.sub fun i hi => by simp [nmS, hi])]
  | .enu a, e, e', h => by simp only [evS, ev_congr a e e' (h.sub fun i hi => by simp [nmS, hi])]
  | .zip a b, e, e', h => by
    simp only [evS, ev_congr a e e' (h.sub fun i hi => by simp [nmS, hi]), ev_congr b e e' (h.sub fun i hi => by simp [nmS, hi])]
end
end
end TW

set_option Elab.async false
set_option linter.all false
set_option maxRecDepth 100000
set_option maxHeartbeats 4000000
namespace TW
open PySem PySem.Spec PyProof.Rows L2

/-! ### what is walked -/
/-- what a turn brings: a value that stands, or a new pair -/
def yields : Sum V (V × V) → Hp → V → Hp → Prop
  | .inl v, H, x, H' => H' = H ∧ x = v
  | .inr p, H, x, H' => ∃ t, x = .ref t ∧ H t = none ∧ H' = L2.upd H t (.tup [p.1, p.2])
def reprI (W : Wd) (H : Hp) (O : Addr → Prop) : Sum V (V × V) → D → Prop
  | .inl v, d => Rp W H O d v
  | .inr p, d => ∃ a b, d = .tup [a, b] ∧ Rp W H O a p.1 ∧ Rp W H O b p.2
structure Src (W : Wd) (H : Hp) (O : Addr → Prop) (ds : List D) (J : It) : Prop where
  ex : ∃ (G : Hp → Prop) (Y : Nat → Hp → V → Hp → Prop) (A : List Addr), Walk J ds.length G Y ∧ ds.length ≤ sizeLine ∧ (∀ a ∈ A, ∃ o, H a = some o ∧ (MutC o → ¬ O a)) ∧ (∀ H', (∀ a ∈ A, ∀ o, H a = some o → H' a = some o) → G H') ∧
    ∀ (i : Nat) d, ds[i]? = some d → ∃ z, (∀ H1 x H2, Y i H1 x H2 → yields z H1 x H2) ∧ reprI W H O z d
def rdI (W : Wd) (E0 : XK) (T : Tb) (s : Sr) : TI := fun σ H R => ∃ H0 O0 δ Fs, SS W H0 O0 H σ δ Fs ∧ match evS T s δ with
  | none => False
  | some (.er C) => ∀ H', Same H H' → E0 (.ref (W.ca C)) none H'
  | some (.ok p) => ∀ J H1, Same H H1 → Src W H1 (av O0 Fs (if p.1 = .dp then [] else nmS s)) p.2 J → R J H1
section
variable {W : Wd} {E0 : XK} {T : Tb} {X : Cx}
theorem _root_.L2.PI.imp {X : Cx} {tg iter : Expr} {t t' : TI} (h : PI X tg iter t) (k : ∀ σ H R, t' σ H R → t σ H R) : PI X tg iter t' := ⟨fun pins s σ H R I q => h.run pins s σ H R I (k σ H R q)⟩
theorem PI_or {tg iter : Expr} {t t' : TI} (h : PI X tg iter t) (h' : PI X tg iter t') : PI X tg iter (fun σ H R => t σ H R ∨ t' σ H R) := ⟨fun pins s σ H R I q => q.elim (h.run pins s σ H R I) (h'.run pins s σ H R I)⟩
/-- a value of an expression, seen as others' -/
theorem Ow.seen {H H1 H0 : Hp} {O0 : Addr → Prop} {σ : L2.St} {δ : Dn} {Fs : List (List Addr)} {p : Md × D} {v : V} {F : List Addr} {c : E} {ns : List Nat} (S : SS W H0 O0 H σ δ Fs) (n : ∀ a ∈ F, H a = none) (hn : ∀ i ∈ nm c, i ∈ ns)
    (ow : Ow W H1 (fun q => av O0 Fs (nm c) q ∨ q ∈ F) p.1 p.2 v F) : Rp W H1 (av O0 Fs (if p.1 = .dp then [] else ns)) p.2 v := by
  split
  · rename_i e
    rw [e] at ow
    exact Dq.rp _ _ _ ow fun a ha z => S.av_there a z (n a ha)
  · exact ow.rpv (av_mono hn) S.av_there n
theorem src_list {H : Hp} {O : Addr → Prop} {K : PySem.W.Frag} {a : Addr} {vs : List V} {ds : List D} (A : List Addr) (hA : ∀ b ∈ A, ∃ o, H b = some o ∧ (MutC o → ¬ O b)) (hq : ∀ H', (∀ b ∈ A, ∀ o, H b = some o → H' b = some o) → SqL K H' a vs) (hl : vs.length ≤ sizeLine) (r : Rps W H O ds vs) : Src W H O ds (Itl K a) := by
  have e := Rps.length _ _ r
  refine ⟨⟨_, YAt vs, A, e ▸ walk_list (K := K) (a := a) (xs := vs), by rw [← e]; exact hl, hA, hq, fun i d hi => ?_⟩⟩
  obtain ⟨v, h1, h2⟩ := r.get hi
  refine ⟨.inl v, fun H1 x H2 y => ⟨y.1, ?_⟩, h2⟩
  have := y.2
  rw [h1] at this
  exact (Option.some.inj this).symm
theorem src_tup {H : Hp} {O : Addr → Prop} {K : PySem.W.Frag} {a : Addr} {vs : List V} {ds : List D} (A : List Addr) (hA : ∀ b ∈ A, ∃ o, H b = some o ∧ (MutC o → ¬ O b)) (hq : ∀ H', (∀ b ∈ A, ∀ o, H b = some o → H' b = some o) → SqT K H' a vs) (hl : vs.length ≤ sizeLine) (r : Rps W H O ds vs) : Src W H O ds (Itt K a) := by
  have e := Rps.length _ _ r
  refine ⟨⟨_, YAt vs, A, e ▸ walk_tup (K := K) (a := a) (xs := vs), by rw [← e]; exact hl, hA, hq, fun i d hi => ?_⟩⟩
  obtain ⟨v, h1, h2⟩ := r.get hi
  refine ⟨.inl v, fun H1 x H2 y => ⟨y.1, ?_⟩, h2⟩
  have := y.2
  rw [h1] at this
  exact (Option.some.inj this).symm
theorem src_of_list {H : Hp} {O : Addr → Prop} {d : D} {ds : List D} {v : V} (hK : X.K = W.K) (e : listD d = some ds) (r : Rp W H O d v) : ∃ a, v = .ref a ∧ (∃ xs, SqL X.K H a xs) ∧ Src W H O ds (Itl X.K a) := by
  cases d with
  | lst xs =>
    cases e
    obtain ⟨a, vs, rfl, h0, h1, h2, h3⟩ := r
    exact ⟨a, rfl, ⟨vs, .inl (.inl h1)⟩, src_list [a] (fun b hb => by rw [List.mem_singleton.mp hb]; exact ⟨_, h1, fun _ => h0⟩) (fun H' k => .inl (.inl (k a (by simp) _ h1))) h2 h3⟩
  | scr ns =>
    cases e
    obtain ⟨a, rfl, h1, h2⟩ := r
    rcases h1 with ⟨o, h1⟩ | h1
    · exact ⟨a, rfl, ⟨_, .inl (.inr ⟨o, h1⟩)⟩, src_list [a] (fun b hb => by rw [List.mem_singleton.mp hb]; exact ⟨_, h1, fun z => z.elim⟩) (fun H' k => .inl (.inr ⟨o, k a (by simp) _ h1⟩)) (by simpa using h2) (Rps.ints ns)⟩
    · exact ⟨a, rfl, ⟨_, .inr (by rw [hK]; exact h1)⟩, src_list [] (fun _ z => by cases z) (fun H' k => .inr (by rw [hK]; exact h1)) (by simpa using h2) (Rps.ints ns)⟩
  | _ => cases e
theorem i_seq {tg e : Expr} {c : E} (hK : X.K = W.K) (h : PE X e (rdE W E0 T c)) : PI X tg e (rdI W E0 T (.seq c)) :=
  (PI_or (pi_list h) (pi_tup h)).imp fun σ H R ⟨H0, O0, δ, Fs, S, q⟩ => by
    simp only [evS] at q
    cases e1 : ev T c δ with
    | none => rw [e1] at q; exact q.elim
    | some r =>
      cases r with
      | er C => exact .inl ⟨H0, O0, δ, Fs, S, by rw [e1] at q ⊢; exact q⟩
      | ok p =>
        rw [e1] at q
        cases e2 : itemsD p.2 with
        | none =>
          have q : (match lift ((itemsD p.2).map fun ds => (p.1, ds)) with | none => False | some (.er C) => _ | some (.ok p) => _) := q
          rw [e2] at q
          exact q.elim
        | some ds =>
          have q : (match lift ((itemsD p.2).map fun ds => (p.1, ds)) with | none => False | some (.er C) => ∀ H', Same H H' → E0 (.ref (W.ca C)) none H' | some (.ok p) => ∀ J H1, Same H H1 → Src W H1 (av O0 Fs (if p.1 = .dp then [] else nm c)) p.2 J → R J H1) := q
          rw [e2] at q
          have q : ∀ J H1, Same H H1 → Src W H1 (av O0 Fs (if p.1 = .dp then [] else nm c)) ds J → R J H1 := q
          cases e3 : listD p.2 with
          | some ds' =>
            refine .inl ⟨H0, O0, δ, Fs, S, ?_⟩
            rw [e1]
            intro v H1 F s1 n1 nd1 ow1
            have r := Ow.seen S n1 (ns := nm c) (fun i hi => hi) ow1
            have ed : ds' = ds := by
              cases hp : p.2 <;> rw [hp] at e2 e3 <;> first | (cases e3; done) | (cases e2; cases e3; rfl)
            rw [ed] at e3
            obtain ⟨a, g1, g2, g3⟩ := src_of_list hK e3 r
            exact ⟨a, g1, g2, q _ H1 s1 g3⟩
          | none =>
            refine .inr ⟨H0, O0, δ, Fs, S, ?_⟩
            rw [e1]
            intro v H1 F s1 n1 nd1 ow1
            have r := Ow.seen S n1 (ns := nm c) (fun i hi => hi) ow1
            cases hp : p.2 with
            | tup xs =>
              rw [hp] at e2 r
              cases e2
              obtain ⟨a, vs, rfl, h1, h2, h3⟩ := r
              exact ⟨a, rfl, ⟨vs, .inl (.inl h1)⟩, q _ H1 s1 (src_tup [a] (fun b hb => by rw [List.mem_singleton.mp hb]; exact ⟨_, h1, fun z => z.elim⟩) (fun H' k => .inl (.inl (k a (by simp) _ h1))) h2 h3)⟩
            | _ => rw [hp] at e2 e3; first | (cases e2; done) | (cases e3; done)
theorem src_rng {H : Hp} {O : Addr → Prop} {i j : Int} (h : rngOk i j = true) : Src W H O (rngD i j) (Itr i (j - i).toNat) := by
  have hl : (rngD i j).length = (j - i).toNat := by unfold rngD; rw [List.length_map, List.length_range]
  have hw : Walk (Itr i (j - i).toNat) (rngD i j).length (fun _ => True) (YFn fun k => .int (i + k)) := by
    rw [hl]
    exact walk_range
  refine ⟨⟨fun _ => True, YFn fun k => .int (i + k), [], hw, ?_, fun _ z => ?_, fun _ _ => trivial, fun k d hd => ⟨.inl (.int (i + k)), fun H1 x H2 y => y, ?_⟩⟩⟩
  · rw [hl]
    exact Nat.le_trans (rngOk_of h).2 sz_le
  · cases z
  · unfold rngD at hd
    rw [List.getElem?_map] at hd
    cases e : (List.range (j - i).toNat)[k]? with
    | none => rw [e] at hd; cases hd
    | some m =>
      rw [e] at hd
      cases hd
      have : m = k := by
        obtain ⟨hm, e2⟩ := List.getElem?_eq_some_iff.mp e
        rw [List.getElem_range] at e2
        exact e2.symm
      subst this
      rfl
theorem i_rng1 {tg a : Expr} {c : E} {p pos : Pos} (hg : Gl X "range") (hm : X.mg "range" = none) (ha : PE X a (rdE W E0 T c)) (hs : starEach [a] X.env = [(false, eval a X.env)] := by rfl) : PI X tg (.Call (.Name "range" p) [a] [] pos) (rdI W E0 T (.rng (.lit (.int 0)) c)) :=
  (pi_range1 (ta := tCons (rdE W E0 T c) tNil) hg hm (pa_cons ha pa_nil hs) hs).imp fun σ H R ⟨H0, O0, δ, Fs, S, q⟩ => by
    simp only [evS, ev] at q
    rw [if_pos (show scal (.int 0) = true from rfl)] at q
    refine ⟨H0, O0, δ, Fs, S, ?_⟩
    revert q
    cases ev T c δ with
    | none => exact fun h => h
    | some r =>
      cases r with
      | er C => exact fun h => h
      | ok p =>
        intro q v H1 F s1 n1 nd1 ow1
        have r := ow1.rpv (O1 := fun _ => False) (fun _ z => z.elim) (fun _ z => z.elim) n1
        have q : (match (match D.int 0, p.2 with | .int i, .int j => if rngOk i j = true then ok (Md.dp, rngD i j) else none | _, _ => none) with | none => False | some (.er C) => ∀ H', Same H H' → E0 (.ref (W.ca C)) none H' | some (.ok p) => ∀ J H1, Same H H1 → Src W H1 (av O0 Fs (if p.1 = .dp then [] else nmS (.rng (.lit (.int 0)) c))) p.2 J → R J H1) := q
        cases hp : p.2 with
        | int j =>
          rw [hp] at r q
          dsimp only at q
          cases hz : rngOk 0 j with
          | false => rw [hz] at q; exact q.elim
          | true =>
            rw [hz] at q
            obtain ⟨g1, g2, g3, g4, g5⟩ := (rngOk_of hz).1
            have e := q (Itr 0 (j - 0).toNat) H1 s1 (src_rng hz)
            rw [Int.sub_zero] at e
            exact ⟨j, by rw [show v = .int j from r], g3, g4, e⟩
        | _ => rw [hp] at q; exact q.elim
theorem i_rng2 {tg a b : Expr} {ca cb : E} {p pos : Pos} (hg : Gl X "range") (hm : X.mg "range" = none) (ha : PE X a (rdE W E0 T ca)) (hb : PE X b (rdE W E0 T cb)) (hs : starEach [a, b] X.env = [(false, eval a X.env), (false, eval b X.env)] := by rfl) (hs2 : starEach [b] X.env = [(false, eval b X.env)] := by rfl) :
    PI X tg (.Call (.Name "range" p) [a, b] [] pos) (rdI W E0 T (.rng ca cb)) :=
  (pi_range2 (ta := tCons (rdE W E0 T ca) (tCons (rdE W E0 T cb) tNil)) hg hm (pa_cons ha (pa_cons hb pa_nil hs2) (by rw [hs, hs2])) hs hs2).imp fun σ H R ⟨H0, O0, δ, Fs, S, q⟩ => by
    simp only [evS] at q
    refine ⟨H0, O0, δ, Fs, S, ?_⟩
    revert q
    cases ev T ca δ with
    | none => exact fun h => h
    | some r =>
      cases r with
      | er C => exact fun h => h
      | ok p =>
        intro q v H1 F s1 n1 nd1 ow1
        have r1 := ow1.rpv (O1 := fun _ => False) (fun _ z => z.elim) (fun _ z => z.elim) n1
        have S1 := S.grow s1
        refine ⟨H0, O0, δ, Fs, S1, ?_⟩
        revert q
        cases ev T cb δ with
        | none => exact fun h => h
        | some r =>
          cases r with
          | er C => exact fun h H' s' => h H' (s1.trans s')
          | ok p2 =>
            intro q v2 H2 F2 s2 n2 nd2 ow2
            have r2 := ow2.rpv (O1 := fun _ => False) (fun _ z => z.elim) (fun _ z => z.elim) n2
            have q : (match (match p.2, p2.2 with | .int i, .int j => if rngOk i j = true then ok (Md.dp, rngD i j) else none | _, _ => none) with | none => False | some (.er C) => ∀ H', Same H H' → E0 (.ref (W.ca C)) none H' | some (.ok p) => ∀ J H1, Same H H1 → Src W H1 (av O0 Fs (if p.1 = .dp then [] else nmS (.rng ca cb))) p.2 J → R J H1) := q
            cases hp : p.2 with
            | int i =>
              cases hp2 : p2.2 with
              | int j =>
                rw [hp] at r1 q
                rw [hp2] at r2 q
                dsimp only at q
                cases hz : rngOk i j with
                | false => rw [hz] at q; exact q.elim
                | true =>
                  rw [hz] at q
                  obtain ⟨g1, g2, g3, g4, g5⟩ := (rngOk_of hz).1
                  exact ⟨i, j, by rw [show v = .int i from r1, show v2 = .int j from r2], ⟨g1, g2, g3, g4⟩, q _ H2 (s1.trans s2) (src_rng hz)⟩
              | _ => rw [hp, hp2] at q; exact q.elim
            | _ => rw [hp] at q; exact q.elim
theorem enuD_get : ∀ (ds : List D) (n i : Nat) (d : D), (enuD n ds)[i]? = some d → ∃ x, ds[i]? = some x ∧ d = .tup [.int ((n + i : Nat) : Int), x]
  | [], n, i, d, h => by simp [enuD] at h
  | x :: r, n, 0, d, h => by
    simp [enuD] at h
    exact ⟨x, rfl, h.symm⟩
  | x :: r, n, i + 1, d, h => by
    simp only [enuD, List.getElem?_cons_succ] at h
    obtain ⟨y, h1, h2⟩ := enuD_get r (n + 1) i d h
    exact ⟨y, by simpa using h1, by rw [h2, show n + 1 + i = n + (i + 1) by omega]⟩
theorem enuD_len : ∀ (ds : List D) (n : Nat), (enuD n ds).length = ds.length
  | [], n => rfl
  | x :: r, n => by simp only [enuD, List.length_cons, enuD_len r]
theorem i_enu {e : Expr} {c : E} {p pos tpos : Pos} {elts : List Expr} {kk : Nat} (hg : Gl X "enumerate") (hm : X.mg "enumerate" = none) (ha : PE X e (rdE W E0 T c)) (hs : starEach [e] X.env = [(false, eval e X.env)] := by rfl) :
    PI X (.Tuple elts kk tpos) (.Call (.Name "enumerate" p) [e] [] pos) (rdI W E0 T (.enu c)) :=
  (pi_enum (ta := tCons (rdE W E0 T c) tNil) hg hm (pa_cons ha pa_nil hs) hs).imp fun σ H R ⟨H0, O0, δ, Fs, S, q⟩ => by
    simp only [evS] at q
    refine ⟨H0, O0, δ, Fs, S, ?_⟩
    revert q
    cases ev T c δ with
    | none => exact fun h => h
    | some r =>
      cases r with
      | er C => exact fun h => h
      | ok p =>
        intro q v H1 F s1 n1 nd1 ow1
        have r := Ow.seen S n1 (ns := nm c) (fun i hi => hi) ow1
        have q : (match (match p.2 with | .lst ds => ok (p.1, enuD 0 ds) | _ => none) with | none => False | some (.er C) => ∀ H', Same H H' → E0 (.ref (W.ca C)) none H' | some (.ok p) => ∀ J H1, Same H H1 → Src W H1 (av O0 Fs (if p.1 = .dp then [] else nm c)) p.2 J → R J H1) := q
        cases hp : p.2 with
        | lst ds =>
          rw [hp] at q r
          obtain ⟨a, vs, rfl, h0, h1, h2, h3⟩ := r
          refine ⟨a, vs, rfl, .inl (.inl h1), q (Ite X.K a) H1 s1 ⟨⟨fun H => SqL X.K H a vs, YPair (fun i => some (.int (i : Nat))) (fun i => vs[i]?), [a], ?_, ?_, fun b hb => ?_, fun H' k => ?_, fun i d hd => ?_⟩⟩⟩
          · have := walk_enum (K := X.K) (a := a) (xs := vs)
            rw [Rps.length _ _ h3] at this
            rw [enuD_len]
            exact this
          · rw [enuD_len, ← Rps.length _ _ h3]
            exact h2
          · rw [List.mem_singleton.mp hb]
            exact ⟨_, h1, fun _ => h0⟩
          · exact .inl (.inl (k a (by simp) _ h1))
          · obtain ⟨x, e1, e2⟩ := enuD_get ds 0 i d hd
            obtain ⟨w, e3, e4⟩ := h3.get e1
            refine ⟨.inr (.int (i : Nat), w), fun H1 x H2 y => ?_, .int (i : Nat), x, ?_, rfl, e4⟩
            · obtain ⟨t, x1, x2, rfl, y1, y2, y3, y4⟩ := y
              have y4 : vs[i]? = some x2 := y4
              cases y3
              rw [e3] at y4
              cases y4
              exact ⟨t, rfl, y1, y2⟩
            · rw [e2, Nat.zero_add]
        | _ => rw [hp] at q; exact q.elim
theorem zipD_get : ∀ (xs ys : List D) (i : Nat) (d : D), (zipD xs ys)[i]? = some d → ∃ x y, xs[i]? = some x ∧ ys[i]? = some y ∧ d = .tup [x, y]
  | [], ys, i, d, h => by simp [zipD] at h
  | x :: r, [], i, d, h => by simp [zipD] at h
  | x :: r, y :: s, 0, d, h => by
    simp [zipD] at h
    exact ⟨x, y, rfl, rfl, h.symm⟩
  | x :: r, y :: s, i + 1, d, h => by
    simp only [zipD, List.getElem?_cons_succ] at h
    obtain ⟨a, b, h1, h2, h3⟩ := zipD_get r s i d h
    exact ⟨a, b, by simpa using h1, by simpa using h2, h3⟩
theorem zipD_len : ∀ (xs ys : List D), (zipD xs ys).length = min xs.length ys.length
  | [], ys => by simp [zipD]
  | x :: r, [] => by simp [zipD]
  | x :: r, y :: s => by
    simp only [zipD, List.length_cons, zipD_len r s]
    omega
theorem i_zip {a b : Expr} {ca cb : E} {p pos tpos : Pos} {elts : List Expr} {kk : Nat} (hg : Gl X "zip") (hm : X.mg "zip" = none) (ha : PE X a (rdE W E0 T ca)) (hb : PE X b (rdE W E0 T cb))
    (hs : starEach [a, b] X.env = (false, eval a X.env) :: starEach [b] X.env := by rfl) (hs2 : starEach [b] X.env = (false, eval b X.env) :: starEach [] X.env := by rfl) (hpl : (backTo pos (starEach [b] X.env)).any (·.1) = false := by rfl) :
    PI X (.Tuple elts kk tpos) (.Call (.Name "zip" p) [a, b] [] pos) (rdI W E0 T (.zip ca cb)) :=
  (pi_zip (ta := tCons (rdE W E0 T ca) (tCons (rdE W E0 T cb) tNil)) hg hm (pa_cons ha (pa_cons hb pa_nil hs2) hs) hs hpl).imp fun σ H R ⟨H0, O0, δ, Fs, S, q⟩ => by
    simp only [evS] at q
    refine ⟨H0, O0, δ, Fs, S, ?_⟩
    revert q
    cases ev T ca δ with
    | none => exact fun h => h
    | some r =>
      cases r with
      | er C => exact fun h => h
      | ok p =>
        intro q v H1 F s1 n1 nd1 ow1
        have ia : ∀ i ∈ nm ca, i ∈ nmS (.zip ca cb) := fun i hi => by simp [nmS, hi]
        have ib : ∀ i ∈ nm cb, i ∈ nmS (.zip ca cb) := fun i hi => by simp [nmS, hi]
        have r1 := ow1.rpv (av_mono ia) S.av_there n1
        have S1 := S.grow s1
        refine ⟨H0, O0, δ, Fs, S1, ?_⟩
        revert q
        cases ev T cb δ with
        | none => exact fun h => h
        | some r =>
          cases r with
          | er C => exact fun h H' s' => h H' (s1.trans s')
          | ok p2 =>
            intro q v2 H2 F2 s2 n2 nd2 ow2
            have r2 := ow2.rpv (av_mono ib) S1.av_there n2
            have r1 := Rp.mono s2 (fun _ z => z) _ _ r1
            have q : (match (match p.2, p2.2 with | .lst xs, .lst ys => ok (Md.sh, zipD xs ys) | _, _ => none) with | none => False | some (.er C) => ∀ H', Same H H' → E0 (.ref (W.ca C)) none H' | some (.ok p) => ∀ J H1, Same H H1 → Src W H1 (av O0 Fs (if p.1 = .dp then [] else nmS (.zip ca cb))) p.2 J → R J H1) := q
            cases hp : p.2 with
            | lst xs =>
              cases hp2 : p2.2 with
              | lst ys =>
                rw [hp] at r1 q
                rw [hp2] at r2 q
                obtain ⟨a, vs, rfl, h0, h1, h2, h3⟩ := r1
                obtain ⟨b, ws, rfl, g0, g1, g2, g3⟩ := r2
                refine ⟨a, b, vs, ws, rfl, .inl (.inl h1), .inl (.inl g1), q (Itz X.K a b) H2 (s1.trans s2) ⟨⟨fun H => SqL X.K H a vs ∧ SqL X.K H b ws, YPair (fun i => vs[i]?) (fun i => ws[i]?), [a, b], ?_, ?_, fun c hc => ?_, fun H' k => ?_, fun i d hd => ?_⟩⟩⟩
                · refine walk_zip ?_
                  rw [zipD_len, Rps.length _ _ h3, Rps.length _ _ g3]
                · rw [zipD_len, ← Rps.length _ _ h3]
                  omega
                · rcases List.mem_cons.mp hc with rfl | hc
                  · exact ⟨_, h1, fun _ => h0⟩
                  · rw [List.mem_singleton.mp hc]
                    exact ⟨_, g1, fun _ => g0⟩
                · exact ⟨.inl (.inl (k a (by simp) _ h1)), .inl (.inl (k b (by simp) _ g1))⟩
                · obtain ⟨x, y, e1, e2, e3⟩ := zipD_get xs ys i d hd
                  obtain ⟨w1, e4, e5⟩ := h3.get e1
                  obtain ⟨w2, e6, e7⟩ := g3.get e2
                  refine ⟨.inr (w1, w2), fun H1 x H2 z => ?_, x, y, e3, e5, e7⟩
                  obtain ⟨t, x1, x2, rfl, y1, y2, y3, y4⟩ := z
                  have y3 : vs[i]? = some x1 := y3
                  have y4 : ws[i]? = some x2 := y4
                  rw [e4] at y3
                  rw [e6] at y4
                  cases y3
                  cases y4
                  exact ⟨t, rfl, y1, y2⟩
              | _ => rw [hp, hp2] at q; exact q.elim
            | _ => rw [hp] at q; exact q.elim
end
end TW

set_option Elab.async false
set_option linter.all false
set_option maxRecDepth 100000
set_option maxHeartbeats 4000000
namespace TW
open PySem PySem.Spec PyProof.Rows L2

abbrev EF : XK := fun _ _ _ => False
/-! ### the slots that a block names, as others' -/
def maskS (L : List Nat) (j : Nat) (s : Sl) : Sl := if j ∈ L then frzS s else none
def maskF (L : List Nat) : Nat → Dn → Dn
  | _, [] => []
  | k, s :: r => maskS L k s :: maskF L (k + 1) r
theorem maskF_get (L : List Nat) : ∀ (k : Nat) (e : Dn) (j : Nat), (maskF L k e)[j]? = (e[j]?).map (maskS L (k + j))
  | k, [], j => by simp [maskF]
  | k, s :: r, 0 => by simp [maskF]
  | k, s :: r, j + 1 => by
    simp only [maskF, List.getElem?_cons_succ, maskF_get L (k + 1) r j]
    rw [show k + 1 + j = k + (j + 1) by omega]
theorem maskF_len (L : List Nat) : ∀ (k : Nat) (e : Dn), (maskF L k e).length = e.length
  | k, [] => rfl
  | k, s :: r => by simp only [maskF, List.length_cons, maskF_len L (k + 1) r]
theorem mask_agr (L : List Nat) (e : Dn) : Agr L (maskF L 0 e) e := by
  refine ⟨maskF_len L 0 e, fun i hi => ?_⟩
  unfold dat1
  rw [maskF_get, Nat.zero_add]
  cases e[i]? with
  | none => rfl
  | some s =>
    simp only [Option.map_some, maskS, if_pos hi]
    cases s with
    | none => rfl
    | some p => rfl
/-- a state in which nothing is owned -/
structure SB (W : Wd) (H : Hp) (O : Addr → Prop) (σ : L2.St) (δ : Dn) : Prop where
  len : δ.length = σ.length
  slot : ∀ (j : Nat) (p : Md × D), δ[j]? = some (some p) → p.1 = .sh ∧ ∃ v, σ[j]? = some (some v) ∧ Rp W H O p.2 v
  old : ∀ a, O a → H a ≠ none
theorem flat_rep (n : Nat) : (List.replicate n ([] : List Addr)).flatten = [] := by
  induction n with
  | zero => rfl
  | succ n ih => rw [List.replicate_succ, List.flatten_cons, ih]; rfl
theorem getD_rep (n i : Nat) : (List.replicate n ([] : List Addr)).getD i [] = [] := by
  rw [List.getD_eq_getElem?_getD, List.getElem?_replicate]
  split <;> rfl
section
variable {W : Wd} {H H' : Hp} {O : Addr → Prop} {σ : L2.St} {δ : Dn}
theorem SB.ss (s : SB W H O σ δ) : SS W H O H σ δ (List.replicate σ.length []) := by
  refine ⟨Same.refl H, s.len, by simp, fun i p e => ?_, by rw [flat_rep]; exact List.nodup_nil, fun a ha => ?_, fun a _ ha => ?_, s.old, fun a ha => ?_, fun i _ => getD_rep _ i⟩
  · obtain ⟨h1, v, h2, h3⟩ := s.slot i p e
    refine ⟨v, h2, ?_⟩
    rw [h1, getD_rep, flat_rep]
    exact ⟨rfl, Rp.mono (Same.refl H) (fun a z => z.elim id fun q => by cases q) _ _ h3⟩
  · rw [flat_rep] at ha; cases ha
  · rw [flat_rep] at ha; cases ha
  · rw [flat_rep] at ha; cases ha
theorem av_rep {n : Nat} {S : List Nat} : ∀ a, O a → av O (List.replicate n []) S a := fun a z => .inl z
theorem av_rep' {n : Nat} {S : List Nat} : ∀ a, av O (List.replicate n []) S a → O a := fun a z => z.elim id fun ⟨i, _, q⟩ => by
  rw [getD_rep] at q
  cases q
theorem SB.set (s : SB W H O σ δ) {x : D} {v : V} (i : Nat) (r : Rp W H O x v) : SB W H O (σ.set i (some v)) (δ.set i (some (.sh, x))) := by
  refine ⟨by rw [List.length_set, List.length_set]; exact s.len, fun j p e => ?_, s.old⟩
  by_cases h : i = j
  · subst h
    by_cases hl : i < δ.length
    · rw [List.getElem?_set_self hl] at e
      cases e
      exact ⟨rfl, v, List.getElem?_set_self (by rw [← s.len]; exact hl), r⟩
    · rw [List.getElem?_eq_none (by rw [List.length_set]; omega)] at e
      cases e
  · rw [List.getElem?_set_ne h] at e ⊢
    exact s.slot j p e
theorem SB.grow (s : SB W H O σ δ) (h : Same H H') : SB W H' O σ δ :=
  ⟨s.len, fun j p e => let ⟨h1, v, h2, h3⟩ := s.slot j p e; ⟨h1, v, h2, Rp.mono h (fun _ z => z) _ _ h3⟩, fun a z q => s.old a z (h.free q)⟩
/-- more is kept off: what is new -/
theorem SB.more {O' : Addr → Prop} (s : SB W H O σ δ) (h : Same H H') (ho : ∀ a, O' a → O a ∨ H a = none) (ht : ∀ a, O' a → H' a ≠ none) : SB W H' O' σ δ :=
  ⟨s.len, fun j p e => let ⟨h1, v, h2, h3⟩ := s.slot j p e; ⟨h1, v, h2, Rp.mono h (fun _ z => z) _ _ (Rp.off ho _ _ h3)⟩, ht⟩
end
theorem SS.mask {W : Wd} {H0 H : Hp} {O0 : Addr → Prop} {σ : L2.St} {δ : Dn} {Fs : List (List Addr)} (S : SS W H0 O0 H σ δ Fs) (L : List Nat) : SB W H (av O0 Fs L) σ (maskF L 0 δ) := by
  refine ⟨by rw [maskF_len]; exact S.len, fun j p e => ?_, S.av_there⟩
  rw [maskF_get, Nat.zero_add] at e
  cases hs : δ[j]? with
  | none => rw [hs] at e; cases e
  | some s =>
    rw [hs] at e
    simp only [Option.map_some, Option.some.injEq] at e
    unfold maskS at e
    split at e
    · rename_i hj
      cases s with
      | none => cases e
      | some q =>
        cases e
        obtain ⟨v, h1, h2⟩ := S.var hs (T := L) hj
        exact ⟨rfl, v, h1, h2⟩
    · cases e
/-! ### targets -/
def gT (K : PySem.W.Frag) (ts : List Nat) (one : Bool) : TG := match one, ts with
  | true, [i] => gName i
  | false, [i, j] => gTup K 2 (gCons (gName i) (gCons (gName j) gNil))
  | _, _ => fun _ _ _ _ => False
theorem set_set2 (σ : L2.St) (i j : Nat) (a b : Option V) : ((((σ.set j none).set i none).set i a).set j b) = (σ.set i a).set j b := by
  apply List.ext_getElem?
  intro k
  simp only [List.getElem?_set, List.length_set]
  by_cases h1 : j = k <;> by_cases h2 : i = k <;> simp [h1, h2]
theorem wipe2 (σ : L2.St) (i j : Nat) (a b : Option V) : ((((σ.set i a).set j b).set j none).set i none) = (σ.set j none).set i none := by
  apply List.ext_getElem?
  intro k
  simp only [List.getElem?_set, List.length_set]
  by_cases h1 : j = k <;> by_cases h2 : i = k <;> simp [h1, h2]
section
variable {W : Wd} {H : Hp} {O : Addr → Prop} {σ : L2.St} {δ : Dn}
/-- a turn's item goes to its names (within a block) -/
theorem SB.bind {K : PySem.W.Frag} (s : SB W H O σ δ) {ts : List Nat} {one : Bool} {d : D} {z : Sum V (V × V)} {x : V} {H1 : Hp} {e1 : Dn} (hb : bindT ts one d δ = some e1) (hy : yields z H x H1) (hr : reprI W H O z d) {Q : L2.St → Hp → Prop}
    (hQ : ∀ σ2, Same H H1 → SB W H1 O σ2 e1 → wipe σ2 ts = wipe σ ts → Q σ2 H1) : gT K ts one x (wipe σ ts) H1 Q := by
  have sm : Same H H1 := by
    cases z with
    | inl v => rw [hy.1]; exact Same.refl H
    | inr p => obtain ⟨t, _, h1, h2⟩ := hy; rw [h2]; exact same_new h1
  unfold bindT at hb
  split at hb
  · rename_i i
    cases hb
    have r : Rp W H1 O d x := by
      cases z with
      | inl v => obtain ⟨e1, e2⟩ := hy; rw [e1, e2]; exact hr
      | inr p =>
        obtain ⟨t, e0, h1, h2⟩ := hy
        obtain ⟨a, b, e3, r1, r2⟩ := hr
        rw [e3, e0, h2]
        exact ⟨t, [p.1, p.2], rfl, upd_same, (show (2 : Nat) ≤ sizeLine by decide), p.1, [p.2], rfl, Rp.mono (same_new h1) (fun _ z => z) _ _ r1, p.2, [], rfl, Rp.mono (same_new h1) (fun _ z => z) _ _ r2, rfl⟩
    show Q ((wipe σ [i]).set i (some x)) H1
    have e : (wipe σ [i]).set i (some x) = σ.set i (some x) := by simp [wipe]
    rw [e]
    refine hQ _ sm ((s.grow sm).set i r) ?_
    simp [wipe]
  · rename_i i j a b
    cases hb
    show gTup K 2 (gCons (gName i) (gCons (gName j) gNil)) x (wipe σ [i, j]) H1 Q
    have hx : ∃ t va vb, x = .ref t ∧ H1 t = some (.tup [va, vb]) ∧ Rp W H1 O a va ∧ Rp W H1 O b vb := by
      cases z with
      | inl v =>
        obtain ⟨e1, e2⟩ := hy
        obtain ⟨t, vs, e3, h1, h2, va, r1, rfl, ra, vb, r2, rfl, rb, r3⟩ := hr
        rw [e1, e2]
        have : r2 = [] := r3
        subst this
        exact ⟨t, va, vb, e3, h1, ra, rb⟩
      | inr p =>
        obtain ⟨t, e0, h1, h2⟩ := hy
        obtain ⟨a', b', e3, r1, r2⟩ := hr
        cases e3
        refine ⟨t, p.1, p.2, e0, by rw [h2]; exact upd_same, ?_, ?_⟩
        · rw [h2]; exact Rp.mono (same_new h1) (fun _ z => z) _ _ r1
        · rw [h2]; exact Rp.mono (same_new h1) (fun _ z => z) _ _ r2
    obtain ⟨t, va, vb, e0, ht, ra, rb⟩ := hx
    refine ⟨t, [va, vb], e0, .inl (.inl ht), rfl, va, [vb], rfl, vb, [], rfl, rfl, ?_⟩
    have e : ((wipe σ [i, j]).set i (some va)).set j (some vb) = (σ.set i (some va)).set j (some vb) := by
      simp only [wipe]
      exact set_set2 σ i j _ _
    rw [e]
    refine hQ _ sm (((s.grow sm).set i ra).set j rb) ?_
    simp only [wipe]
    exact wipe2 σ i j _ _
  · cases hb
end
/-! ### tests of a comprehension -/
def rdC (W : Wd) (E0 : XK) (T : Tb) (cs : List E) : TT := fun σ H Q => ∃ H0 O0 δ Fs, SS W H0 O0 H σ δ Fs ∧ rqb W E0 H (evC T cs δ) Q
section
variable {W : Wd} {E0 : XK} {T : Tb} {X : Cx}
theorem _root_.L2.PTs.imp {X : Cx} {e : List Expr} {t t' : TT} (h : PTs X e t) (k : ∀ σ H Q, t' σ H Q → t σ H Q) : PTs X e t' := ⟨fun pins s σ H Q I q => h.run pins s σ H Q I (k σ H Q q)⟩
theorem x_nil : PTs X [] (rdC W E0 T []) := pts_nil.imp fun σ H Q ⟨H0, O0, δ, Fs, S, q⟩ => by
  simp only [evC] at q
  exact q H (Same.refl H)
theorem x_one {c : Expr} {cc : E} (h : PT X c (rdT W E0 T cc)) : PTs X [c] (rdC W E0 T [cc]) := (pts_one h).imp fun σ H Q ⟨H0, O0, δ, Fs, S, q⟩ => by
  refine ⟨H0, O0, δ, Fs, S, ?_⟩
  have e : evC T [cc] δ = evB T cc δ := by
    unfold evB
    simp only [evC]
    cases ev T cc δ with
    | none => rfl
    | some r =>
      cases r with
      | er C => rfl
      | ok p =>
        show (match boolD p.2 with | none => none | some false => ok false | some true => ok true) = lift (boolD p.2)
        cases boolD p.2 with
        | none => rfl
        | some b => cases b <;> rfl
  rw [← e]
  exact q
theorem Ows.snoc {H : Hp} {O : Addr → Prop} : ∀ {ps : List (Md × D)} {vs : List V} {Fs : List (List Addr)} {p : Md × D} {v : V} {F : List Addr}, Ows W H O ps vs Fs → Ow W H O p.1 p.2 v F → Ows W H O (ps ++ [p]) (vs ++ [v]) (Fs ++ [F])
  | [], vs, Fs, p, v, F, h, k => by
    obtain ⟨rfl, rfl⟩ := h
    exact ⟨v, [], F, [], rfl, rfl, k, rfl, rfl⟩
  | q :: ps, vs, Fs, p, v, F, h, k => by
    obtain ⟨w, r, G, Fr, rfl, rfl, h1, h2⟩ := h
    exact ⟨w, r ++ [v], G, Fr ++ [F], rfl, rfl, h1, Ows.snoc h2 k⟩
theorem Ows.off {H : Hp} {O O' : Addr → Prop} (ho : ∀ a, O' a → O a ∨ H a = none) : ∀ {ps : List (Md × D)} {vs : List V} {Fs : List (List Addr)}, Ows W H O ps vs Fs → Ows W H O' ps vs Fs
  | [], _, _, h => h
  | p :: ps, _, _, h => by
    obtain ⟨v, r, F, Fr, e1, e2, h1, h2⟩ := h
    exact ⟨v, r, F, Fr, e1, e2, h1.off ho, Ows.off ho h2⟩
theorem Ows.upd {H : Hp} {O : Addr → Prop} {q : Addr} {o x : HO} (hp : H q = some o) (mu : MutC o) (op : O q) : ∀ {ps : List (Md × D)} {vs : List V} {Fs : List (List Addr)}, q ∉ Fs.flatten → Ows W H O ps vs Fs → Ows W (L2.upd H q x) O ps vs Fs
  | [], _, _, _, h => h
  | p :: ps, _, _, np, h => by
    obtain ⟨v, r, F, Fr, e1, e2, h1, h2⟩ := h
    subst e2
    exact ⟨v, r, F, Fr, e1, rfl, h1.upd hp mu op (fun z => np (List.mem_append_left _ z)), Ows.upd hp mu op (fun z => np (List.mem_append_right _ z)) h2⟩
theorem compL_cons {f : D → Option (Option (Md × D))} {x : D} {xs : List D} {ps tot : List (Md × D)} (h : (compL f (x :: xs)).map (ps ++ ·) = some tot) :
    (f x = some none ∧ (compL f xs).map (ps ++ ·) = some tot) ∨ ∃ p, f x = some (some p) ∧ (compL f xs).map ((ps ++ [p]) ++ ·) = some tot := by
  unfold compL at h
  cases e : f x with
  | none => rw [e] at h; cases h
  | some o =>
    rw [e] at h
    cases o with
    | none => exact .inl ⟨rfl, h⟩
    | some p =>
      refine .inr ⟨p, rfl, ?_⟩
      cases e2 : compL f xs with
      | none => rw [e2] at h; cases h
      | some r =>
        rw [e2] at h
        cases h
        simp
/-- a list comprehension of one clause -/
theorem rd_comp {own : List (Str × Nat)} {ts : List Nat} {one : Bool} {s : Sr} {cs : List E} {ce : E} {wi : TI} (hwi : wi = rdI W E0 T s) (hown : own.map (·.2) = ts) :
    ∀ (σ : L2.St) (H : Hp) (Q : VK), rdE W E0 T (.comp ts one s cs ce) σ H Q → tLc wi (gT X.K ts one) (rdC W EF T cs) (rdE W EF T ce) (own.map (·.2)) σ H Q := fun σ H Q ⟨H0, O0, δ, Fs, S, q⟩ => by
  subst hwi
  rw [hown]
  simp only [ev, nm] at q
  refine ⟨H0, O0, δ, Fs, S, ?_⟩
  revert q
  cases evS T s δ with
  | none => exact fun h => h
  | some r =>
    cases r with
    | er C => exact fun h => h
    | ok p =>
      intro q J H1 s1 src dl hD
      generalize hL : nmS s ++ nms cs ++ nm ce = L at q
      obtain ⟨m, ds⟩ := p
      generalize hf : (fun x => (bindT ts one x δ).bind fun e1 => (okOnly (evC T cs e1)).bind fun b => if b = true then (okOnly (ev T ce e1)).map some else some none) = f at q
      have q : rq W E0 H (av O0 Fs L) (match compL f ds with | none => none | some ps => ok (boxM ps, .lst (ps.map Prod.snd))) Q := q
      cases ec : compL f ds with
      | none => rw [ec] at q; exact q.elim
      | some tot =>
        rw [ec] at q
        have q : Res W H (av O0 Fs L) (boxM tot) (.lst (tot.map Prod.snd)) Q := q
        obtain ⟨G, Y, A, wk, hlen, hA, hG, hI⟩ := src.ex
        have iS : ∀ i ∈ nmS s, i ∈ L := fun i hi => by rw [← hL]; simp [hi]
        have iC : ∀ i ∈ nms cs, i ∈ L := fun i hi => by rw [← hL]; simp [hi]
        have iE : ∀ i ∈ nm ce, i ∈ L := fun i hi => by rw [← hL]; simp [hi]
        have SB1 : SB W H1 (av O0 Fs L) σ (maskF L 0 δ) := (S.grow s1).mask L
        refine lc_it wk (Pv := fun i H' => ∃ (ps : List (Md × D)) (acc : List V) (Fs' : List (List Addr)), H' dl = some (.lst acc) ∧ Same H1 H' ∧ Ows W H' (fun a => (av O0 Fs L a ∨ a = dl) ∨ a ∈ Fs'.flatten) ps acc Fs' ∧ Fs'.flatten.Nodup ∧ (∀ a ∈ Fs'.flatten, H1 a = none ∧ a ≠ dl) ∧ acc.length ≤ i ∧ (compL f (ds.drop i)).map (ps ++ ·) = some tot) ?_ ?_ ?_ ?_
        · exact ⟨[], [], [], upd_same, same_new hD, ⟨rfl, rfl⟩, List.nodup_nil, (fun _ z => by cases z), Nat.zero_le _, by simp [ec]⟩
        · rintro i H' hi ⟨ps, acc, Fs', h1, h2, _⟩
          exact hG H' fun a ha o e => h2 a o e
        · rintro i x H2 H3 hi ⟨ps, acc, Fs', h1, h2, h3, h4, h5, h6, h7⟩ hy
          have ei : ds[i]? = some ds[i] := List.getElem?_eq_getElem hi
          have ed : ds.drop i = ds[i] :: ds.drop (i + 1) := List.drop_eq_getElem_cons hi
          rw [ed] at h7
          obtain ⟨z, z1, z2⟩ := hI i _ ei
          have tD : H2 dl ≠ none := by rw [h1]; simp
          have tF : ∀ a ∈ Fs'.flatten, H2 a ≠ none := fun a ha e => by
            obtain ⟨o, e2, _⟩ := h3.there a ha
            rw [e] at e2
            cases e2
          -- what is kept off at this turn
          have SBt : SB W H2 (fun a => (av O0 Fs L a ∨ a = dl) ∨ a ∈ Fs'.flatten) σ (maskF L 0 δ) := by
            refine SB1.more h2 (fun a za => ?_) (fun a za => ?_)
            · rcases za with (za | za) | za
              · exact .inl za
              · exact .inr (by rw [za]; exact hD)
              · exact .inr (h5 a za).1
            · rcases za with (za | za) | za
              · exact fun e => (S.grow s1).av_there a za (h2.free e)
              · rw [za]; exact tD
              · exact tF a za
          have sub : ∀ a, av O0 Fs L a → av O0 Fs (if m = .dp then [] else nmS s) a := fun a za => by
            split
            · exact av_mono (fun i hi => by cases hi) a za
            · exact av_mono iS a za
          have ro : ∀ (dd : TW.D) (vv : V), Rp W H1 (av O0 Fs (if m = .dp then [] else nmS s)) dd vv → Rp W H2 (fun a => (av O0 Fs L a ∨ a = dl) ∨ a ∈ Fs'.flatten) dd vv := fun dd vv r => by
            refine Rp.mono h2 (fun _ z => z) _ _ (Rp.off (fun a za => ?_) _ _ r)
            rcases za with (za | za) | za
            · exact .inl (sub a za)
            · exact .inr (by rw [za]; exact hD)
            · exact .inr (h5 a za).1
          have z3 : reprI W H2 (fun a => (av O0 Fs L a ∨ a = dl) ∨ a ∈ Fs'.flatten) z ds[i] := by
            cases z with
            | inl v => exact ro _ _ z2
            | inr pr =>
              obtain ⟨a, b, e, r1, r2⟩ := z2
              exact ⟨a, b, e, ro _ _ r1, ro _ _ r2⟩
          have hfx : f ds[i] = (bindT ts one ds[i] δ).bind fun e1 => (okOnly (evC T cs e1)).bind fun b => if b = true then (okOnly (ev T ce e1)).map some else some none := by rw [← hf]
          -- the item is bound
          rcases (mask_agr L δ).bind ts one ds[i] with ⟨b1, b2⟩ | ⟨e1, e1', b1, b2, b3⟩
          · rw [b2] at hfx
            rcases compL_cons h7 with ⟨k, _⟩ | ⟨p, k, _⟩ <;> (rw [hfx] at k; cases k)
          · rw [b2] at hfx
            have hfx : f ds[i] = (okOnly (evC T cs e1')).bind fun b => if b = true then (okOnly (ev T ce e1')).map some else some none := hfx
            refine SBt.bind b1 (z1 _ _ _ hy) z3 fun σ2 s3 SB2 hw => ⟨hw, ?_⟩
            have eC : evC T cs e1 = evC T cs e1' := evC_congr cs e1 e1' (b3.sub fun i hi => List.mem_append_right _ (iC i hi))
            have eE : ev T ce e1 = ev T ce e1' := ev_congr ce e1 e1' (b3.sub fun i hi => List.mem_append_right _ (iE i hi))
            refine ⟨H3, _, e1, _, SB2.ss, ?_⟩
            rw [eC]
            cases ev1 : evC T cs e1' with
            | none =>
              rw [ev1] at hfx
              rcases compL_cons h7 with ⟨k, _⟩ | ⟨p, k, _⟩ <;> (rw [hfx] at k; cases k)
            | some r =>
              cases r with
              | er C =>
                rw [ev1] at hfx
                rcases compL_cons h7 with ⟨k, _⟩ | ⟨p, k, _⟩ <;> (rw [hfx] at k; cases k)
              | ok b =>
                rw [ev1] at hfx
                intro H4 s4
                have s24 : Same H2 H4 := s3.trans s4
                cases b with
                | false =>
                  rw [if_neg (by decide)]
                  have hfx : f ds[i] = some none := hfx
                  rcases compL_cons h7 with ⟨_, k⟩ | ⟨p, k, _⟩
                  · exact ⟨ps, acc, Fs', s24 _ _ h1, h2.trans s24, h3.mono s24 (fun _ z => z), h4, h5, by omega, k⟩
                  · rw [hfx] at k; cases k
                | true =>
                  rw [if_pos rfl]
                  have hfx : f ds[i] = (okOnly (ev T ce e1')).map some := hfx
                  have SB4 := SB2.grow s4
                  refine ⟨H4, _, e1, _, SB4.ss, ?_⟩
                  rw [eE]
                  cases ev2 : ev T ce e1' with
                  | none =>
                    rw [ev2] at hfx
                    rcases compL_cons h7 with ⟨k, _⟩ | ⟨p, k, _⟩ <;> (rw [hfx] at k; cases k)
                  | some r =>
                    cases r with
                    | er C =>
                      rw [ev2] at hfx
                      rcases compL_cons h7 with ⟨k, _⟩ | ⟨p, k, _⟩ <;> (rw [hfx] at k; cases k)
                    | ok pr =>
                      rw [ev2] at hfx
                      have hfx : f ds[i] = some (some pr) := hfx
                      rcases compL_cons h7 with ⟨k, _⟩ | ⟨p', k, k2⟩
                      · rw [hfx] at k; cases k
                      rw [hfx] at k
                      cases k
                      intro y H5 F s5 n5 nd5 ow5
                      have s25 : Same H2 H5 := s24.trans s5
                      have hD5 : H5 dl = some (.lst acc) := s25 _ _ h1
                      have nF5 : ∀ a ∈ F, H2 a = none := fun a ha => s24.free (n5 a ha)
                      have tF5 : ∀ a ∈ F, H5 a ≠ none := fun a ha e => by
                        obtain ⟨o, e2, _⟩ := ow5.there a ha
                        rw [e] at e2
                        cases e2
                      have neF : ∀ a ∈ F, a ≠ dl := fun a ha e => by rw [e] at ha; exact tD (nF5 dl ha)
                      refine ⟨acc, hD5, Nat.lt_of_le_of_lt h6 (Nat.lt_of_lt_of_le hi hlen), ps ++ [pr], acc ++ [y], Fs' ++ [F], upd_same, fun b o e => ?_, ?_, ?_, fun a ha => ?_, ?_, k2⟩
                      · rw [upd_ne (ne_of_none e hD)]
                        exact s25 _ _ (h2 _ _ e)
                      · have ef : (Fs' ++ [F]).flatten = Fs'.flatten ++ F := by simp
                        rw [ef]
                        refine Ows.upd (O := fun a => (av O0 Fs L a ∨ a = dl) ∨ a ∈ Fs'.flatten ++ F) hD5 trivial (.inl (.inr rfl)) ?_ (Ows.snoc ?_ ?_)
                        · rw [ef]
                          intro z
                          rcases List.mem_append.mp z with z | z
                          · exact (h5 dl z).2 rfl
                          · exact neF dl z rfl
                        · refine (h3.off fun a za => ?_).mono s25 fun _ z => z
                          rcases za with za | za
                          · exact .inl (.inl za)
                          · rcases List.mem_append.mp za with za | za
                            · exact .inl (.inr za)
                            · exact .inr (nF5 a za)
                        · refine ow5.mono (Same.refl H5) fun a za => ?_
                          rcases za with za | za
                          · exact .inl (.inl (.inl za))
                          · rcases List.mem_append.mp za with za | za
                            · exact .inl (.inl (.inr za))
                            · exact .inr za
                      · have ef : (Fs' ++ [F]).flatten = Fs'.flatten ++ F := by simp
                        rw [ef]
                        exact List.nodup_append.mpr ⟨h4, nd5, fun a ha b hb e => by subst e; exact tF a ha (nF5 a hb)⟩
                      · have ef : (Fs' ++ [F]).flatten = Fs'.flatten ++ F := by simp
                        rw [ef] at ha
                        rcases List.mem_append.mp ha with ha | ha
                        · exact h5 a ha
                        · exact ⟨h2.free (nF5 a ha), neF a ha⟩
                      · rw [List.length_append, List.length_singleton]
                        omega
        · rintro H' ⟨ps, acc, Fs', h1, h2, h3, h4, h5, h6, h7⟩
          have e0 : ds.drop ds.length = [] := List.drop_length
          rw [e0] at h7
          have h7 : some (ps ++ []) = some tot := h7
          rw [List.append_nil] at h7
          cases h7
          -- the list stands; its cell is new
          have nH : H dl = none := s1.free hD
          unfold boxM at q
          split at q
          · rename_i c
            refine q _ _ (dl :: Fs'.flatten) (s1.trans h2) (fun a ha => ?_) (List.nodup_cons.mpr ⟨fun z => (h5 dl z).2 rfl, h4⟩) ⟨dl, acc, Fs'.flatten, rfl, rfl, h1, ?_, h3.dqs c⟩
            · rcases List.mem_cons.mp ha with rfl | ha
              · exact nH
              · exact s1.free (h5 a ha).1
            · exact Nat.le_trans h6 hlen
          · refine q _ _ [dl] (s1.trans h2) (fun a ha => by rw [List.mem_singleton.mp ha]; exact nH) (by simp) ⟨dl, acc, rfl, rfl, h1, Nat.le_trans h6 hlen, ?_⟩
            refine h3.rps (fun a za => ?_) (fun a ha za => ?_)
            · rcases za with za | za
              · exact .inl (.inl za)
              · exact .inl (.inr (List.mem_singleton.mp za))
            · rcases za with za | za
              · exact S.av_there a za (s1.free (h5 a ha).1)
              · exact (h5 a ha).2 (List.mem_singleton.mp za)
theorem c_comp {elt tg iter : Expr} {ifs : List Expr} {scope : Scope} {own : List (Str × Nat)} {pos : Pos} {ts : List Nat} {one : Bool} {s : Sr} {cs : List E} {ce : E} (hc : X.calm = true) (hN : X.N.Nodup)
    (hi : PI X tg iter (rdI W E0 T s)) (ok : BlkOk X.N X.env.scope scope own) (hown : own.map (·.2) = ts)
    (hg : ∀ (s : Shared) (H : Hp) (C : Addr) (cl : List (Str × Addr)) (fp : List Addr), PG (X.blk s H scope (compEnvC scope cl C X.env) fp) tg (gT X.K ts one)) (ht : ∀ (s : Shared) (H : Hp) (C : Addr) (cl : List (Str × Addr)) (fp : List Addr), PTs (X.blk s H scope (compEnvC scope cl C X.env) fp) ifs (rdC W EF T cs))
    (he : ∀ (s : Shared) (H : Hp) (C : Addr) (cl : List (Str × Addr)) (fp : List Addr), PE (X.blk s H scope (compEnvC scope cl C X.env) fp) elt (rdE W EF T ce))
    (hs : ∀ x, foldedSetIterable iter X.env x = pure x := by intro _; rfl) : PE X (.ListComp elt [⟨tg, iter, ifs, 0⟩] scope pos) (rdE W E0 T (.comp ts one s cs ce)) :=
  (pe_lc hc hN hi ok hg ht he hs).imp fun σ H Q h => rd_comp rfl hown σ H Q h
end
end TW

set_option Elab.async false
set_option linter.all false
set_option maxRecDepth 100000
set_option maxHeartbeats 4000000
namespace TW
open PySem PySem.Spec PyProof.Rows L2

/-! ### how a body's statements change the heap: its own cells, and new ones -/
structure Evo (H : Hp) (Fs : List (List Addr)) (H' : Hp) (Fs' : List (List Addr)) : Prop where
  keep : ∀ b o, H b = some o → b ∉ Fs.flatten → H' b = some o
  sub : ∀ a ∈ Fs'.flatten, a ∈ Fs.flatten ∨ H a = none
  there : ∀ b, H b ≠ none → H' b ≠ none
section
variable {H H1 H2 : Hp} {Fs Fs1 Fs2 : List (List Addr)}
theorem Evo.refl : Evo H Fs H Fs := ⟨fun _ _ e _ => e, fun _ h => .inl h, fun _ h => h⟩
theorem Evo.trans (a : Evo H Fs H1 Fs1) (b : Evo H1 Fs1 H2 Fs2) : Evo H Fs H2 Fs2 := by
  refine ⟨fun c o e n => b.keep c o (a.keep c o e n) fun z => ?_, fun c h => ?_, fun c h => b.there c (a.there c h)⟩
  · rcases a.sub c z with z | z
    · exact n z
    · rw [e] at z; cases z
  · rcases b.sub c h with z | z
    · exact a.sub c z
    · cases e : H c with
      | none => exact .inr rfl
      | some o => exact absurd z (a.there c (by rw [e]; simp))
theorem Evo.grow (s : Same H H1) (h : ∀ a ∈ Fs1.flatten, a ∈ Fs.flatten ∨ H a = none) : Evo H Fs H1 Fs1 := ⟨fun b o e _ => s b o e, h, fun b h z => h (s.free z)⟩
/-- what is kept off the owned cells stays -/
theorem Evo.rp {W : Wd} {O : Addr → Prop} (e : Evo H Fs H1 Fs1) (ht : ∀ a ∈ Fs.flatten, ∃ o, H a = some o ∧ MutC o) {O' : Addr → Prop} (hO : ∀ a, a ∈ Fs.flatten → O a) (hO' : ∀ a, O' a → O a ∨ H a = none) : ∀ (d : D) (v : V), Rp W H O d v → Rp W H1 O' d v := by
  have key : ∀ a u, H a = some u → ¬ MutC u → H1 a = some u := fun a u h n => e.keep a u h fun z => by
    obtain ⟨o, h2, m⟩ := ht a z
    rw [h] at h2
    cases h2
    exact n m
  intro d
  induction d using D.rec (motive_2 := fun ds => ∀ vs, Rps W H O ds vs → Rps W H1 O' ds vs) with
  | non => exact fun v h => h
  | bl b => exact fun v h => h
  | int i => exact fun v h => h
  | str x => exact fun v h => h
  | fn x => exact fun v h => h
  | tup ds ih =>
    intro v h
    obtain ⟨a, vs, e1, h1, h2, h3⟩ := h
    exact ⟨a, vs, e1, key a _ h1 (fun z => z), h2, ih vs h3⟩
  | lst ds ih =>
    intro v h
    obtain ⟨a, vs, e1, h0, h1, h2, h3⟩ := h
    exact ⟨a, vs, e1, fun z => (hO' a z).elim h0 (fun q => by rw [h1] at q; cases q), e.keep a _ h1 (fun z => h0 (hO a z)), h2, ih vs h3⟩
  | scr ns =>
    intro v h
    obtain ⟨a, e1, h1, h2⟩ := h
    refine ⟨a, e1, ?_, h2⟩
    rcases h1 with ⟨o, h1⟩ | h1
    · exact .inl ⟨o, key a _ h1 (fun z => z)⟩
    · exact .inr h1
  | dic ks =>
    intro v h
    obtain ⟨a, e1, h0, h1, h2⟩ := h
    exact ⟨a, e1, fun z => (hO' a z).elim h0 (fun q => by rw [h1] at q; cases q), e.keep a _ h1 (fun z => h0 (hO a z)), h2⟩
  | ins C f d ih =>
    intro v h
    obtain ⟨a, dx, fv, e1, h1, h3⟩ := h
    exact ⟨a, dx, fv, e1, key a _ h1 (fun z => z), ih fv h3⟩
  | nil => rename_i h; exact h
  | cons d ds ih1 ih2 =>
    rename_i vs h
    obtain ⟨v, r, e1, h1, h2⟩ := h
    exact ⟨v, r, e1, ih1 v h1, ih2 r h2⟩
end

/-! ### slots given up, slots filled -/
def clr : List Nat → List (List Addr) → List (List Addr)
  | [], Fs => Fs
  | i :: is, Fs => clr is (Fs.set i [])
theorem mem_set_flat {Fs : List (List Addr)} {i : Nat} {F : List Addr} {a : Addr} (h : a ∈ (Fs.set i F).flatten) : a ∈ F ∨ ∃ j, j ≠ i ∧ a ∈ Fs.getD j [] := by
  obtain ⟨j, hj⟩ := flat_ix h
  rw [List.getD_eq_getElem?_getD] at hj
  by_cases e : i = j
  · subst e
    by_cases hl : i < Fs.length
    · rw [List.getElem?_set_self hl] at hj
      exact .inl hj
    · rw [List.getElem?_eq_none (by rw [List.length_set]; omega)] at hj
      cases hj
  · rw [List.getElem?_set_ne e] at hj
    exact .inr ⟨j, fun z => e z.symm, by rw [List.getD_eq_getElem?_getD]; exact hj⟩
theorem getD_set_ne {Fs : List (List Addr)} {i j : Nat} {F : List Addr} (h : i ≠ j) : (Fs.set i F).getD j [] = Fs.getD j [] := by
  rw [List.getD_eq_getElem?_getD, List.getD_eq_getElem?_getD, List.getElem?_set_ne h]
theorem getD_set_self {Fs : List (List Addr)} {i : Nat} {F : List Addr} (h : i < Fs.length) : (Fs.set i F).getD i [] = F := by
  rw [List.getD_eq_getElem?_getD, List.getElem?_set_self h]
  rfl
theorem flat_cons (F : List Addr) (Fs : List (List Addr)) : (F :: Fs).flatten = F ++ Fs.flatten := rfl
theorem nodup_set : ∀ {Fs : List (List Addr)} (i : Nat) {F : List Addr}, Fs.flatten.Nodup → F.Nodup → (∀ a ∈ F, a ∉ Fs.flatten) → (Fs.set i F).flatten.Nodup
  | [], i, F, h, _, _ => by simpa using h
  | G :: Gs, 0, F, h, nF, d => by
    rw [List.set_cons_zero, flat_cons]
    rw [flat_cons] at h d
    obtain ⟨h1, h2, h3⟩ := List.nodup_append.mp h
    exact List.nodup_append.mpr ⟨nF, h2, fun a ha b hb e => d a ha (by rw [e]; exact List.mem_append_right _ hb)⟩
  | G :: Gs, i + 1, F, h, nF, d => by
    rw [List.set_cons_succ, flat_cons]
    rw [flat_cons] at h d
    obtain ⟨h1, h2, h3⟩ := List.nodup_append.mp h
    refine List.nodup_append.mpr ⟨h1, nodup_set i h2 nF fun a ha z => d a ha (List.mem_append_right _ z), fun a ha b hb e => ?_⟩
    subst e
    rcases mem_set_flat hb with z | ⟨j, _, z⟩
    · exact d a z (List.mem_append_left _ ha)
    · exact h3 a ha a (mem_flat z) rfl
section
variable {W : Wd} {H0 H : Hp} {O0 : Addr → Prop} {σ : L2.St} {δ : Dn} {Fs : List (List Addr)}
/-- a slot is filled; F: its own cells, which no other slot reaches -/
theorem SS.put {F : List Addr} (S : SS W H0 (fun a => O0 a ∨ a ∈ F) H σ δ Fs) (hO : ∀ a ∈ F, ¬ O0 a) {i : Nat} {m : Md} {d : D} {v : V} (nd : F.Nodup) (n0 : ∀ a ∈ F, H0 a = none) (ow : Ow W H (fun a => (O0 a ∨ a ∈ Fs.flatten) ∨ a ∈ F) m d v F) :
    SS W H0 O0 H (σ.set i (some v)) (δ.set i (some (m, d))) (Fs.set i F) := by
  have sub : ∀ a, (O0 a ∨ a ∈ (Fs.set i F).flatten) → (O0 a ∨ a ∈ F) ∨ a ∈ Fs.flatten := fun a z => by
    rcases z with z | z
    · exact .inl (.inl z)
    · rcases mem_set_flat z with z | ⟨j, _, z⟩
      · exact .inl (.inr z)
      · exact .inr (mem_flat z)
  refine ⟨S.same, by rw [List.length_set, List.length_set]; exact S.len, by rw [List.length_set, List.length_set]; exact S.lenF, fun j p e => ?_, nodup_set i S.nod nd (fun a ha z => S.offF a (.inr ha) z), fun a ha => ?_, fun a za ha => ?_, fun a za => S.oldT a (.inl za), fun a ha => ?_, fun j e => ?_⟩
  · by_cases h : i = j
    · subst h
      by_cases hl : i < δ.length
      · rw [List.getElem?_set_self hl] at e
        cases e
        have hl' : i < σ.length := by rw [← S.len]; exact hl
        refine ⟨v, List.getElem?_set_self hl', ?_⟩
        rw [getD_set_self (by rw [S.lenF]; exact hl')]
        refine ow.mono (Same.refl H) fun a z => ?_
        rcases sub a z with (z | z) | z
        · exact .inl (.inl z)
        · exact .inr z
        · exact .inl (.inr z)
      · rw [List.getElem?_eq_none (by rw [List.length_set]; omega)] at e
        cases e
    · rw [List.getElem?_set_ne h] at e ⊢
      obtain ⟨w, h1, h2⟩ := S.slot j p e
      refine ⟨w, h1, ?_⟩
      rw [getD_set_ne h]
      exact h2.mono (Same.refl H) sub
  · rcases mem_set_flat ha with z | ⟨j, _, z⟩
    · exact n0 a z
    · exact S.new a (mem_flat z)
  · rcases mem_set_flat ha with z | ⟨j, _, z⟩
    · exact hO a z za
    · exact S.offF a (.inl za) (mem_flat z)
  · rcases mem_set_flat ha with z | ⟨j, _, z⟩
    · exact ow.there a z
    · exact S.there a (mem_flat z)
  · by_cases h : i = j
    · subst h
      by_cases hl : i < δ.length
      · rw [List.getElem?_set_self hl] at e; cases e
      · rw [List.getElem?_eq_none (by rw [List.length_set]; omega)] at e; cases e
    · rw [List.getElem?_set_ne h] at e
      rw [getD_set_ne h]
      exact S.mt j e
/-- a slot filled with what is shared -/
theorem SS.putS (S : SS W H0 O0 H σ δ Fs) {i : Nat} {d : D} {v : V} (r : Rp W H (fun a => O0 a ∨ a ∈ Fs.flatten) d v) : SS W H0 O0 H (σ.set i (some v)) (δ.set i (some (.sh, d))) (Fs.set i []) := by
  refine SS.put (F := []) ⟨S.same, S.len, S.lenF, fun j p e => ?_, S.nod, S.new, fun a z => S.offF a (z.elim id fun q => by cases q), fun a z => S.oldT a (z.elim id fun q => by cases q), S.there, S.mt⟩ (fun _ z => by cases z) List.nodup_nil (fun _ z => by cases z) ⟨rfl, Rp.mono (Same.refl H) (fun a z => z.elim id fun q => by cases q) _ _ r⟩
  obtain ⟨w, h1, h2⟩ := S.slot j p e
  exact ⟨w, h1, h2.mono (Same.refl H) fun a z => z.elim (fun z => .inl (z.elim id fun q => by cases q)) .inr⟩
theorem set_sub {i : Nat} : ∀ a ∈ (Fs.set i []).flatten, a ∈ Fs.flatten := fun a ha => by
  rcases mem_set_flat ha with z | ⟨j, _, z⟩
  · cases z
  · exact mem_flat z
theorem SS.frz1 (S : SS W H0 O0 H σ δ Fs) (i : Nat) : SS W H0 O0 H σ (match δ[i]? with | some s => δ.set i (frzS s) | none => δ) (Fs.set i []) := by
  cases e : δ[i]? with
  | none =>
    have : Fs.set i [] = Fs := List.set_eq_of_length_le (by rw [S.lenF, ← S.len]; exact List.getElem?_eq_none_iff.mp e)
    rw [this]
    exact S
  | some s =>
    have hi : i < δ.length := (List.getElem?_eq_some_iff.mp e).1
    have sub : ∀ a, (O0 a ∨ a ∈ (Fs.set i []).flatten) → O0 a ∨ a ∈ Fs.flatten := fun a z => z.elim .inl fun z => .inr (set_sub a z)
    refine ⟨S.same, by rw [List.length_set]; exact S.len, by rw [List.length_set]; exact S.lenF, fun j p ej => ?_, nodup_set i S.nod List.nodup_nil (fun _ z => by cases z), fun a ha => S.new a (set_sub a ha), fun a za ha => S.offF a za (set_sub a ha), S.oldT, fun a ha => S.there a (set_sub a ha), fun j ej => ?_⟩
    · by_cases h : i = j
      · subst h
        rw [List.getElem?_set_self hi] at ej
        cases s with
        | none => cases ej
        | some q =>
          cases ej
          obtain ⟨v, h1, h2⟩ := S.slot i q e
          refine ⟨v, h1, ?_⟩
          rw [getD_set_self (by rw [S.lenF, ← S.len]; exact hi)]
          refine ⟨rfl, h2.rp sub fun a ha z => ?_⟩
          rcases z with z | z
          · exact S.offF a z (mem_flat ha)
          · rcases mem_set_flat z with z | ⟨j, hj, z⟩
            · cases z
            · exact hj (flat_inj S.nod z ha)
      · rw [List.getElem?_set_ne h] at ej
        obtain ⟨v, h1, h2⟩ := S.slot j p ej
        refine ⟨v, h1, ?_⟩
        rw [getD_set_ne h]
        exact h2.mono (Same.refl H) sub
    · by_cases h : i = j
      · subst h
        exact getD_set_self (by rw [S.lenF, ← S.len]; exact hi)
      · rw [List.getElem?_set_ne h] at ej
        rw [getD_set_ne h]
        exact S.mt j ej
theorem SS.frz : ∀ (is : List Nat) {δ : Dn} {Fs : List (List Addr)}, SS W H0 O0 H σ δ Fs → SS W H0 O0 H σ (frz is δ) (clr is Fs)
  | [], _, _, S => S
  | i :: is, _, _, S => SS.frz is (S.frz1 i)
theorem clr_mem : ∀ (is : List Nat) {Fs : List (List Addr)} {a : Addr}, a ∈ (clr is Fs).flatten → a ∈ Fs.flatten ∧ ∃ j, j ∉ is ∧ a ∈ Fs.getD j []
  | [], Fs, a, h => ⟨h, let ⟨j, hj⟩ := flat_ix h; ⟨j, by simp, hj⟩⟩
  | i :: is, Fs, a, h => by
    obtain ⟨h1, j, h2, h3⟩ := clr_mem is h
    refine ⟨set_sub a h1, ?_⟩
    by_cases e : i = j
    · subst e
      by_cases hl : i < Fs.length
      · rw [getD_set_self hl] at h3; cases h3
      · rw [List.getD_eq_getElem?_getD, List.getElem?_eq_none (by rw [List.length_set]; omega)] at h3; cases h3
    · rw [getD_set_ne e] at h3
      exact ⟨j, by simp only [List.mem_cons, not_or]; exact ⟨fun z => e z.symm, h2⟩, h3⟩
/-- a slot that is not owned has no cells -/
theorem SS.unowned (S : SS W H0 O0 H σ δ Fs) {i : Nat} (h : (match δ[i]? with | some s => ownS s | none => false) = false) : Fs.getD i [] = [] := by
  cases e : δ[i]? with
  | none =>
    rw [List.getD_eq_getElem?_getD, List.getElem?_eq_none (by rw [S.lenF, ← S.len]; exact List.getElem?_eq_none_iff.mp e)]
    rfl
  | some s =>
    rw [e] at h
    cases s with
    | none => exact S.mt i e
    | some p =>
      obtain ⟨v, h1, h2⟩ := S.slot i p e
      obtain ⟨m, d⟩ := p
      cases m with
      | sh => exact h2.1
      | fl => cases h
      | dp => cases h
end
end TW

set_option Elab.async false
set_option linter.all false
set_option maxRecDepth 100000
set_option maxHeartbeats 4000000
namespace TW
open PySem PySem.Spec PyProof.Rows L2

/-! ### what is wanted behind a statement -/
def rqf (W : Wd) (E0 : XK) (H0 : Hp) (O0 : Addr → Prop) (H : Hp) (Fs : List (List Addr)) (r : M Fl) (D : Ends) : Prop := match r with
  | none => False
  | some (.er C) => ∀ H', Same H0 H' → E0 (.ref (W.ca C)) none H'
  | some (.ok (.nx δ')) => ∀ σ' H' Fs', SS W H0 O0 H' σ' δ' Fs' → Evo H Fs H' Fs' → D.nx σ' H'
  | some (.ok (.rt m d)) => ∀ v H' F, Same H0 H' → (∀ a ∈ F, H0 a = none) → F.Nodup → Ow W H' (fun p => O0 p ∨ p ∈ F) m d v F → D.rt v H'
def rdS (W : Wd) (E0 : XK) (T : Tb) (c : S) : TS := fun D σ H => ∃ H0 O0 δ Fs, SS W H0 O0 H σ δ Fs ∧ rqf W E0 H0 O0 H Fs (ex T c δ) D
def rdSs (W : Wd) (E0 : XK) (T : Tb) (cs : List S) : TS := fun D σ H => ∃ H0 O0 δ Fs, SS W H0 O0 H σ δ Fs ∧ rqf W E0 H0 O0 H Fs (exs T cs δ) D
section
variable {W : Wd} {E0 : XK} {H0 H H1 : Hp} {O0 : Addr → Prop} {Fs Fs1 : List (List Addr)} {D : Ends}
theorem rqf_none : ¬ rqf W E0 H0 O0 H Fs none D := fun h => h
theorem rqf_er (s : Same H0 H) {C : Nat} (h : rqf W E0 H0 O0 H Fs (some (.er C)) D) : ∀ H', Same H H' → E0 (.ref (W.ca C)) none H' := fun H' s' => h H' (s.trans s')
theorem rqf.evo {r : M Fl} (h : rqf W E0 H0 O0 H Fs r D) (e : Evo H Fs H1 Fs1) : rqf W E0 H0 O0 H1 Fs1 r D := by
  match r, h with
  | none, h => exact h
  | some (.er C), h => exact h
  | some (.ok (.nx δ')), h => exact fun σ' H' Fs' S' e' => h σ' H' Fs' S' (e.trans e')
  | some (.ok (.rt m d)), h => exact h
end
section
variable {W : Wd} {E0 : XK} {T : Tb} {X : Cx}
/-! ### blocks -/
theorem s_nil : PSs X [] (rdSs W E0 T []) := pss_nil.imp fun D σ H ⟨H0, O0, δ, Fs, S, q⟩ => by
  simp only [exs] at q
  exact q σ H Fs S Evo.refl
theorem s_cons {st : Stmt} {rest : List Stmt} {c : S} {cs : List S} (h1 : PS X st (rdS W E0 T c)) (h2 : PSs X rest (rdSs W E0 T cs)) : PSs X (st :: rest) (rdSs W E0 T (c :: cs)) :=
  (pss_cons h1 h2).imp fun D σ H ⟨H0, O0, δ, Fs, S, q⟩ => by
    simp only [exs] at q
    refine ⟨H0, O0, δ, Fs, S, ?_⟩
    revert q
    cases ex T c δ with
    | none => exact fun h => h
    | some r =>
      cases r with
      | er C => exact fun h => h
      | ok fl =>
        cases fl with
        | rt m d => exact fun h => h
        | nx δ' => exact fun h σ' H' Fs' S' e' => ⟨H0, O0, δ', Fs', S', rqf.evo h e'⟩
theorem s_pass {pos : Pos} : PS X (.Pass pos) (rdS W E0 T .pass) := ps_pass.imp fun D σ H ⟨H0, O0, δ, Fs, S, q⟩ => by
  simp only [ex] at q
  exact q σ H Fs S Evo.refl
/-! ### assignments -/
/-- a value that is kept: the slots that it may reach are given up -/
theorem give_ok {H0 H H1 : Hp} {O0 : Addr → Prop} {σ : L2.St} {δ : Dn} {Fs : List (List Addr)} {ns : List Nat} {m : Md} {d : TW.D} {v : V} {F : List Addr} (S : SS W H0 O0 H σ δ Fs) (s1 : Same H H1) (n1 : ∀ a ∈ F, H a = none)
    (ow : Ow W H1 (fun q => av O0 Fs ns q ∨ q ∈ F) m d v F) : ∃ Fs2, SS W H0 (fun a => O0 a ∨ a ∈ F) H1 σ (give ns m d δ) Fs2 ∧ (∀ a ∈ Fs2.flatten, a ∈ Fs.flatten) ∧ Ow W H1 (fun a => (O0 a ∨ a ∈ Fs2.flatten) ∨ a ∈ F) m d v F := by
  have t1 : ∀ a ∈ F, H1 a ≠ none := fun a ha z => by
    obtain ⟨o, e, _⟩ := ow.there a ha
    rw [z] at e
    cases e
  have S1 := S.more s1 n1 t1
  unfold give
  split
  · split
    · rename_i c
      refine ⟨Fs, S1, fun a h => h, ?_⟩
      have := ow.dq c
      cases m with
      | dp => exact this
      | sh =>
        obtain ⟨rfl, r⟩ := ow
        exact Ow.sh_any r c
      | fl =>
        cases e : flatTop d with
        | false =>
          rw [Ow.fl_other e] at ow ⊢
          rw [closed_other e] at c
          exact ⟨ow.1, ow.2.any c⟩
        | true =>
          cases d with
          | lst ds =>
            obtain ⟨a, vs, e1, e2, h1, h2, h3⟩ := ow
            exact ⟨a, vs, e1, e2, h1, h2, Dqs.rp _ _ _ (Rps.dq _ _ h3 c) (fun _ z => by cases z)⟩
          | dic ks => exact this
          | _ => cases e
    · refine ⟨clr ns Fs, SS.frz ns S1, fun a h => (clr_mem ns h).1, ow.mono (Same.refl H1) fun a z => ?_⟩
      rcases z with (z | z) | z
      · exact .inl (.inl z)
      · obtain ⟨_, j, h1, h2⟩ := clr_mem ns z
        exact .inl (.inr ⟨j, h1, h2⟩)
      · exact .inr z
  · rename_i hn
    refine ⟨Fs, S1, fun a h => h, ow.mono (Same.refl H1) fun a z => ?_⟩
    rcases z with (z | z) | z
    · exact .inl (.inl z)
    · obtain ⟨j, hj⟩ := flat_ix z
      refine .inl (.inr ⟨j, fun hm => ?_, hj⟩)
      have hu : (match δ[j]? with | some s => ownS s | none => false) = false := by
        cases q : (match δ[j]? with | some s => ownS s | none => false) with
        | false => rfl
        | true => exact absurd (List.any_eq_true.mpr ⟨j, hm, q⟩) hn
      rw [S.unowned hu] at hj
      cases hj
    · exact .inr z
/-- the slot that is stored -/
theorem put_keep {H0 H : Hp} {O0 : Addr → Prop} {σ : L2.St} {δ : Dn} {Fs : List (List Addr)} {F : List Addr} (S : SS W H0 (fun a => O0 a ∨ a ∈ F) H σ δ Fs) (hO : ∀ a ∈ F, ¬ O0 a) {i : Nat} {m : Md} {d : TW.D} {v : V} (nd : F.Nodup) (n0 : ∀ a ∈ F, H0 a = none)
    (ow : Ow W H (fun a => (O0 a ∨ a ∈ Fs.flatten) ∨ a ∈ F) m d v F) : ∃ F', SS W H0 O0 H (σ.set i (some v)) (δ.set i (some (keep m d))) (Fs.set i F') ∧ ∀ a ∈ F', a ∈ F := by
  unfold keep
  split
  · rename_i c
    have l : lfree d = true := by cases d <;> first | rfl | cases c
    have r : Rp W H (fun _ => False) d v := ow.rp (fun a z => z.elim) (fun a _ z => z)
    have hF : F = [] := by
      have q := ow
      cases m with
      | sh => exact q.1
      | dp => cases d <;> first | exact q.2 | cases c
      | fl => cases d <;> first | exact q.1 | cases c
    subst hF
    exact ⟨[], SS.put S (fun _ z => by cases z) List.nodup_nil (fun _ z => by cases z) ⟨rfl, r.any l⟩, fun _ z => z⟩
  · exact ⟨F, SS.put S hO nd n0 ow, fun _ z => z⟩
theorem s_asg {i : Nat} {x : Str} {e : Expr} {c : E} {pos pos' : Pos} (hN : X.N.Nodup) (he : PE X e (rdE W E0 T c)) (hi : X.N[i]? = some x := by rfl) (hx : Loc X.env.scope x := by first | exact Or.inl rfl | exact Or.inr rfl)
    (hs : swapsWith e (some (.Name x pos')) pos.line X.env = pure false := by rfl) (hf : X.fn x = true ∨ X.env.scope.names.lookup x = some .local := by first | exact .inl rfl | exact .inr rfl) :
    PS X (.Assign [.Name x pos'] e pos) (rdS W E0 T (.asg i c)) :=
  (ps_set hN hi hx he hs hf).imp fun D σ H ⟨H0, O0, δ, Fs, S, q⟩ => by
    simp only [ex] at q
    refine ⟨H0, O0, δ, Fs, S, rq_bnd' (G := fun z => rqf W E0 H0 O0 H Fs z D) rqf_none (fun C h => rqf_er S.same h) q fun p h1 => ?_⟩
    intro v H1 F s1 n1 nd1 ow1
    obtain ⟨Fs2, S2, sub, ow2⟩ := give_ok S s1 n1 ow1
    obtain ⟨F', S3, sF⟩ := put_keep (i := i) S2 (fun a ha z => S.oldT a z (n1 a ha)) nd1 (fun a ha => S.same.free (n1 a ha)) ow2
    refine h1 _ H1 _ S3 (Evo.grow s1 fun a ha => ?_)
    rcases mem_set_flat ha with z | ⟨j, _, z⟩
    · exact .inr (n1 a (sF a z))
    · exact .inl (sub a (mem_flat z))
/-- y = [.. for ..], where the target is stored within the block -/
theorem s_asgLc {i : Nat} {y : Str} {py : Pos} {elt tg iter : Expr} {ifs : List Expr} {scope : Scope} {own : List (Str × Nat)} {pos spos : Pos} {ts : List Nat} {one : Bool} {s : Sr} {cs : List E} {ce : E} (hc : X.calm = true) (hN : X.N.Nodup)
    (hi : PI X tg iter (rdI W E0 T s)) (ok : BlkOk X.N X.env.scope scope own) (hown : own.map (·.2) = ts)
    (hg : ∀ (s : Shared) (H : Hp) (C : Addr) (cl : List (Str × Addr)) (fp : List Addr), PG (X.blk s H scope (compEnvC scope cl C X.env) fp) tg (gT X.K ts one)) (ht : ∀ (s : Shared) (H : Hp) (C : Addr) (cl : List (Str × Addr)) (fp : List Addr), PTs (X.blk s H scope (compEnvC scope cl C X.env) fp) ifs (rdC W EF T cs))
    (he : ∀ (s : Shared) (H : Hp) (C : Addr) (cl : List (Str × Addr)) (fp : List Addr), PE (X.blk s H scope (compEnvC scope cl C X.env) fp) elt (rdE W EF T ce))
    (hy : X.N[i]? = some y := by rfl) (hyl : X.env.scope.names.lookup y = some .local := by rfl) (hsw : swapsWith (.ListComp elt [⟨tg, iter, ifs, 0⟩] scope pos) (some (.Name y py)) spos.line X.env = pure true := by exact sw_true rfl rfl rfl (by decide +kernel))
    (hs : ∀ x, foldedSetIterable iter X.env x = pure x := by intro _; rfl) :
    PS X (.Assign [.Name y py] (.ListComp elt [⟨tg, iter, ifs, 0⟩] scope pos) spos) (rdS W E0 T (.asg i (.comp ts one s cs ce))) :=
  (ps_setLc hc hN hy hyl hsw hi ok hg ht he hs).imp fun D σ H ⟨H0, O0, δ, Fs, S, q⟩ => by
    simp only [ex] at q
    refine rd_comp (X := X) (own := own) rfl hown σ H _ ⟨H0, O0, δ, Fs, S, rq_bnd' (G := fun z => rqf W E0 H0 O0 H Fs z D) rqf_none (fun C h => rqf_er S.same h) q fun p h1 => ?_⟩
    intro v H1 F s1 n1 nd1 ow1
    obtain ⟨Fs2, S2, sub, ow2⟩ := give_ok S s1 n1 ow1
    obtain ⟨F', S3, sF⟩ := put_keep (i := i) S2 (fun a ha z => S.oldT a z (n1 a ha)) nd1 (fun a ha => S.same.free (n1 a ha)) ow2
    refine h1 _ H1 _ S3 (Evo.grow s1 fun a ha => ?_)
    rcases mem_set_flat ha with z | ⟨j, _, z⟩
    · exact .inr (n1 a (sF a z))
    · exact .inl (sub a (mem_flat z))
theorem s_exp {e : Expr} {c : E} {pos : Pos} (he : PE X e (rdE W E0 T c)) (hs : swapsWith e none pos.line X.env = pure false := by rfl) : PS X (.Expr e pos) (rdS W E0 T (.exp c)) :=
  (ps_expr he hs).imp fun D σ H ⟨H0, O0, δ, Fs, S, q⟩ => by
    simp only [ex] at q
    refine ⟨H0, O0, δ, Fs, S, rq_bnd' (G := fun z => rqf W E0 H0 O0 H Fs z D) rqf_none (fun C h => rqf_er S.same h) q fun p h1 => ?_⟩
    intro v H1 F s1 n1 nd1 ow1
    exact h1 _ H1 _ (S.grow s1) (Evo.grow s1 fun a ha => .inl ha)
theorem s_if {c : Expr} {a b : List Stmt} {cc : E} {ca cb : List S} {pos : Pos} (hc : PT X c (rdT W E0 T cc)) (ha : PSs X a (rdSs W E0 T ca)) (hb : PSs X b (rdSs W E0 T cb)) : PS X (.If c a b pos) (rdS W E0 T (.ife cc ca cb)) :=
  (ps_if hc ha hb).imp fun D σ H ⟨H0, O0, δ, Fs, S, q⟩ => by
    have e : ex T (.ife cc ca cb) δ = bnd (evB T cc δ) fun k => if k then exs T ca δ else exs T cb δ := by
      unfold evB
      simp only [ex]
      cases ev T cc δ with
      | none => rfl
      | some r =>
        cases r with
        | er C => rfl
        | ok p =>
          show (match boolD p.2 with | none => none | some true => exs T ca δ | some false => exs T cb δ) = bnd (lift (boolD p.2)) _
          cases boolD p.2 with
          | none => rfl
          | some k => cases k <;> rfl
    rw [e] at q
    refine ⟨H0, O0, δ, Fs, S, rqb_bnd' (G := fun z => rqf W E0 H0 O0 H Fs z D) rqf_none (fun C h => rqf_er S.same h) q fun k h1 H' s => ?_⟩
    have ev1 : Evo H Fs H' Fs := Evo.grow s fun a ha => .inl ha
    cases k with
    | true =>
      rw [if_pos rfl]
      exact ⟨H0, O0, δ, Fs, S.grow s, rqf.evo h1 ev1⟩
    | false =>
      rw [if_neg (by decide)]
      exact ⟨H0, O0, δ, Fs, S.grow s, rqf.evo h1 ev1⟩
theorem s_aug {i : Nat} {x : Str} {e : Expr} {c : E} {pos pos' : Pos} (hN : X.N.Nodup) (he : PE X e (rdE W E0 T c)) (hi : X.N[i]? = some x := by rfl) (hx : Loc X.env.scope x := by first | exact Or.inl rfl | exact Or.inr rfl)
    (hf : X.fn x = true ∨ X.env.scope.names.lookup x = some .local := by first | exact .inl rfl | exact .inr rfl) : PS X (.AugAssign (.Name x pos') .Add e pos) (rdS W E0 T (.aug i c)) :=
  (ps_aug hN hi hx he ip_add hf).imp fun D σ H ⟨H0, O0, δ, Fs, S, q⟩ => by
    simp only [ex] at q
    cases ei : δ[i]? with
    | none => rw [ei] at q; exact q.elim
    | some s =>
      rw [ei] at q
      cases s with
      | none => exact q.elim
      | some pr =>
        obtain ⟨m, d⟩ := pr
        cases d with
        | int n =>
          have q : rqf W E0 H0 O0 H Fs (bnd (ev T c δ) fun p => lift ((intD p.2).map fun k => Fl.nx (δ.set i (some (.sh, .int (n + k)))))) D := q
          obtain ⟨v, h1, h2⟩ := S.var (p := (m, .int n)) (i := i) ei (T := [i]) (by simp)
          have h2 : v = .int n := h2
          subst h2
          refine ⟨.int n, h1, H0, O0, δ, Fs, S, rq_bnd' (G := fun z => rqf W E0 H0 O0 H Fs z D) rqf_none (fun C h => rqf_er S.same h) q fun p h1 => ?_⟩
          intro w H1 F s1 n1 nd1 ow1
          cases ek : intD p.2 with
          | none => rw [ek] at h1; exact h1.elim
          | some k =>
            rw [ek] at h1
            have r := ow1.rpv (O1 := fun _ => False) (fun _ z => z.elim) (fun _ z => z.elim) n1
            rw [intD_eq ek] at r
            exact ⟨n, k, rfl, r, h1 _ H1 _ ((S.grow s1).putS (d := .int (n + k)) rfl) (Evo.grow s1 fun a ha => .inl (set_sub a ha))⟩
        | _ => exact q.elim
/-! ### two, three names at once -/
theorem gives_ok {H0 H H1 : Hp} {O0 : Addr → Prop} {σ : L2.St} {δ : Dn} {Fs : List (List Addr)} {ns : List Nat} {ps : List (Md × TW.D)} {vs : List V} {Gs : List (List Addr)} (S : SS W H0 O0 H σ δ Fs) (s1 : Same H H1) (n1 : ∀ a ∈ Gs.flatten, H a = none)
    (ow : Ows W H1 (fun q => av O0 Fs ns q ∨ q ∈ Gs.flatten) ps vs Gs) : ∃ Fs2, SS W H0 (fun a => O0 a ∨ a ∈ Gs.flatten) H1 σ (gives ns ps δ) Fs2 ∧ (∀ a ∈ Fs2.flatten, a ∈ Fs.flatten) ∧ Ows W H1 (fun a => (O0 a ∨ a ∈ Fs2.flatten) ∨ a ∈ Gs.flatten) ps vs Gs := by
  have t1 : ∀ a ∈ Gs.flatten, H1 a ≠ none := fun a ha z => by
    obtain ⟨o, e, _⟩ := ow.there a ha
    rw [z] at e
    cases e
  have S1 := S.more s1 n1 t1
  unfold gives
  split
  · split
    · rename_i c
      refine ⟨Fs, S1, fun a h => h, ?_⟩
      clear t1 S1 n1
      -- closed values reach no other cells
      have key : ∀ {ps : List (Md × TW.D)} {vs : List V} {Gs : List (List Addr)} {O O' : Addr → Prop}, closeds ps = true → Ows W H1 O ps vs Gs → Ows W H1 O' ps vs Gs := by
        intro ps
        induction ps with
        | nil => exact fun _ h => h
        | cons p ps ih =>
          intro vs Gs O O' c h
          obtain ⟨w, r, G, Fr, rfl, rfl, h1, h2⟩ := h
          obtain ⟨c1, c2⟩ := Bool.and_eq_true_iff.mp (show (closed p.1 p.2 && closeds ps) = true from c)
          refine ⟨w, r, G, Fr, rfl, rfl, ?_, ih c2 h2⟩
          have hd := h1.dq c1
          obtain ⟨m, d⟩ := p
          cases m with
          | dp => exact hd
          | sh =>
            obtain ⟨rfl, r⟩ := h1
            exact Ow.sh_any r c1
          | fl =>
            cases e : flatTop d with
            | false =>
              have h1 : Ow W H1 O .fl d w G := h1
              show Ow W H1 O' .fl d w G
              rw [Ow.fl_other e] at h1 ⊢
              have c1 : closed .fl d = true := c1
              rw [closed_other e] at c1
              exact ⟨h1.1, h1.2.any c1⟩
            | true =>
              cases d with
              | lst ds =>
                obtain ⟨a, vs, e1, e2, g1, g2, g3⟩ := h1
                exact ⟨a, vs, e1, e2, g1, g2, Dqs.rp _ _ _ (Rps.dq _ _ g3 c1) (fun _ z => by cases z)⟩
              | dic ks => exact hd
              | _ => cases e
      exact key c ow
    · refine ⟨clr ns Fs, SS.frz ns S1, fun a h => (clr_mem ns h).1, ow.mono (Same.refl H1) fun a z => ?_⟩
      rcases z with (z | z) | z
      · exact .inl (.inl z)
      · obtain ⟨_, j, h1, h2⟩ := clr_mem ns z
        exact .inl (.inr ⟨j, h1, h2⟩)
      · exact .inr z
  · rename_i hn
    refine ⟨Fs, S1, fun a h => h, ow.mono (Same.refl H1) fun a z => ?_⟩
    rcases z with (z | z) | z
    · exact .inl (.inl z)
    · obtain ⟨j, hj⟩ := flat_ix z
      refine .inl (.inr ⟨j, fun hm => ?_, hj⟩)
      have hu : (match δ[j]? with | some s => ownS s | none => false) = false := by
        cases q : (match δ[j]? with | some s => ownS s | none => false) with
        | false => rfl
        | true => exact absurd (List.any_eq_true.mpr ⟨j, hm, q⟩) hn
      rw [S.unowned hu] at hj
      cases hj
    · exact .inr z
/-- several slots are stored, one after another -/
def setV : List Nat → List V → L2.St → L2.St
  | i :: is, v :: vs, σ => setV is vs (σ.set i (some v))
  | _, _, σ => σ
theorem put_all {H0 H : Hp} {O0 : Addr → Prop} : ∀ {is : List Nat} {ps : List (Md × TW.D)} {vs : List V} {Gs : List (List Addr)} {σ : L2.St} {δ δ' : Dn} {Fs : List (List Addr)}, SS W H0 (fun a => O0 a ∨ a ∈ Gs.flatten) H σ δ Fs → (∀ a ∈ Gs.flatten, ¬ O0 a) → Gs.flatten.Nodup → (∀ a ∈ Gs.flatten, H0 a = none) →
    Ows W H (fun a => (O0 a ∨ a ∈ Fs.flatten) ∨ a ∈ Gs.flatten) ps vs Gs → setAll is ps δ = some δ' → ∃ Fs', SS W H0 O0 H (setV is vs σ) δ' Fs' ∧ ∀ a ∈ Fs'.flatten, a ∈ Fs.flatten ∨ a ∈ Gs.flatten
  | [], [], vs, Gs, σ, δ, δ', Fs, S, hO, nd, n0, ow, h => by
    obtain ⟨rfl, rfl⟩ := ow
    cases h
    exact ⟨Fs, ⟨S.same, S.len, S.lenF, fun j p e => let ⟨w, h1, h2⟩ := S.slot j p e; ⟨w, h1, h2.mono (Same.refl H) fun a z => z.elim (fun z => .inl (.inl z)) .inr⟩, S.nod, S.new, fun a z => S.offF a (.inl z), fun a z => S.oldT a (.inl z), S.there, S.mt⟩, fun a h => .inl h⟩
  | i :: is, p :: ps, vs, Gs, σ, δ, δ', Fs, S, hO, nd, n0, ow, h => by
    obtain ⟨w, r, G, Fr, rfl, rfl, h1, h2⟩ := ow
    have h : setAll is ps (δ.set i (some (keep p.1 p.2))) = some δ' := h
    rw [flat_cons] at nd
    obtain ⟨nd1, nd2, nd3⟩ := List.nodup_append.mp nd
    have S' : SS W H0 (fun a => (O0 a ∨ a ∈ Fr.flatten) ∨ a ∈ G) H σ δ Fs := by
      refine ⟨S.same, S.len, S.lenF, fun j p e => let ⟨w, h1, h2⟩ := S.slot j p e; ⟨w, h1, h2.mono (Same.refl H) fun a z => ?_⟩, S.nod, S.new, fun a z => S.offF a ?_, fun a z => S.oldT a ?_, S.there, S.mt⟩
      · rcases z with ((z | z) | z) | z
        · exact .inl (.inl z)
        · exact .inl (.inr (List.mem_append_right _ z))
        · exact .inl (.inr (List.mem_append_left _ z))
        · exact .inr z
      · rcases z with (z | z) | z
        · exact .inl z
        · exact .inr (List.mem_append_right _ z)
        · exact .inr (List.mem_append_left _ z)
      · rcases z with (z | z) | z
        · exact .inl z
        · exact .inr (List.mem_append_right _ z)
        · exact .inr (List.mem_append_left _ z)
    have k1 : ∀ a ∈ G, ¬ (O0 a ∨ a ∈ Fr.flatten) := fun a ha z => by
      rcases z with z | z
      · exact hO a (List.mem_append_left _ ha) z
      · exact nd3 a ha a z rfl
    have k2 : Ow W H (fun a => ((O0 a ∨ a ∈ Fr.flatten) ∨ a ∈ Fs.flatten) ∨ a ∈ G) p.1 p.2 w G := h1.mono (Same.refl H) fun a z => by
      rcases z with ((z | z) | z) | z
      · exact .inl (.inl z)
      · exact .inr (List.mem_append_right _ z)
      · exact .inl (.inr z)
      · exact .inr (List.mem_append_left _ z)
    obtain ⟨F', S2, sF⟩ := put_keep (O0 := fun a => O0 a ∨ a ∈ Fr.flatten) (i := i) (m := p.1) (d := p.2) (v := w) S' k1 nd1 (fun a ha => n0 a (List.mem_append_left _ ha)) k2
    have hh : ∀ a, a ∈ (Fs.set i F').flatten → a ∈ Fs.flatten ∨ a ∈ G := fun a ha => by
      rcases mem_set_flat ha with z | ⟨j, _, z⟩
      · exact .inr (sF a z)
      · exact .inl (mem_flat z)
    have k3 : Ows W H (fun a => (O0 a ∨ a ∈ (Fs.set i F').flatten) ∨ a ∈ Fr.flatten) ps r Fr := h2.mono (Same.refl H) fun a z => by
      rcases z with (z | z) | z
      · exact .inl (.inl z)
      · rcases hh a z with z | z
        · exact .inl (.inr z)
        · exact .inr (List.mem_append_left _ z)
      · exact .inr (List.mem_append_right _ z)
    obtain ⟨Fs', S3, s3⟩ := put_all (is := is) (ps := ps) S2 (fun a ha => hO a (List.mem_append_right _ ha)) nd2 (fun a ha => n0 a (List.mem_append_right _ ha)) k3 h
    refine ⟨Fs', S3, fun a ha => ?_⟩
    rcases s3 a ha with z | z
    · rcases hh a z with z | z
      · exact .inl z
      · exact .inr (List.mem_append_left _ z)
    · exact .inr (List.mem_append_right _ z)
  | [], p :: ps, vs, Gs, σ, δ, δ', Fs, S, hO, nd, n0, ow, h => by cases h
  | i :: is, [], vs, Gs, σ, δ, δ', Fs, S, hO, nd, n0, ow, h => by cases h
theorem rd_par {cs : List E} {is : List Nat} {D : Ends} {σ : L2.St} {H : Hp} (h : rdS W E0 T (.par is cs) D σ H) : rdA W E0 T cs σ H (fun vs H1 => D.nx (setV is vs σ) H1 ∧ vs.length = cs.length) := by
  obtain ⟨H0, O0, δ, Fs, S, q⟩ := h
  simp only [ex] at q
  refine ⟨H0, O0, δ, Fs, S, rqs_bnd2 (G := fun z => rqf W E0 H0 O0 H Fs z D) rqf_none (fun C h => rqf_er S.same h) q fun ps e h1 vs H1 Gs s1 n1 nd1 ow1 => ⟨?_, by rw [ow1.length, evs_len e]⟩⟩
  obtain ⟨Fs2, S2, sub, ow2⟩ := gives_ok S s1 n1 ow1
  cases ea : setAll is ps (gives (nms cs) ps δ) with
  | none => rw [ea] at h1; exact h1.elim
  | some δ' =>
    rw [ea] at h1
    obtain ⟨Fs3, S3, s3⟩ := put_all S2 (fun a ha z => S.oldT a z (n1 a ha)) nd1 (fun a ha => S.same.free (n1 a ha)) ow2 ea
    refine h1 _ H1 _ S3 (Evo.grow s1 fun a ha => ?_)
    rcases s3 a ha with z | z
    · exact .inl (sub a z)
    · exact .inr (n1 a z)
theorem s_par {i j : Nat} {x y : Str} {a b : Expr} {ca cb : E} {px py pt pos : Pos} {kt k2 pt2} (hc : X.calm = true) (hN : X.N.Nodup) (ha : PA X [a, b] (rdA W E0 T [ca, cb])) (hi : X.N[i]? = some x := by rfl) (hj : X.N[j]? = some y := by rfl) (hij : i ≠ j := by decide)
    (hx : X.env.scope.names.lookup x = some .local := by rfl) (hy : X.env.scope.names.lookup y = some .local := by rfl)
    (hw : swappedStores [.Tuple [.Name x px, .Name y py] kt pt] (.Tuple [a, b] k2 pt2) X.env = pure (some [x, y]) := by rfl) (hs : swapsWithSole [.Tuple [.Name x px, .Name y py] kt pt] (.Tuple [a, b] k2 pt2) pos.line X.env = pure false := by rfl) :
    PS X (.Assign [.Tuple [.Name x px, .Name y py] kt pt] (.Tuple [a, b] k2 pt2) pos) (rdS W E0 T (.par [i, j] [ca, cb])) :=
  (ps_par hc hN hi hj hij hx hy ha hw hs).imp fun D σ H h => by
    have h := rd_par h
    obtain ⟨H0, O0, δ, Fs, S, q⟩ := h
    refine ⟨H0, O0, δ, Fs, S, ?_⟩
    revert q
    cases evs T [ca, cb] δ with
    | none => exact fun h => h
    | some r =>
      cases r with
      | er C => exact fun h => h
      | ok ps =>
        intro q vs H1 Gs s1 n1 nd1 ow1
        obtain ⟨q1, q2⟩ := q vs H1 Gs s1 n1 nd1 ow1
        match vs, q2, q1 with
        | [v, w], _, q1 => exact ⟨v, w, rfl, q1⟩
theorem s_par3 {i j l : Nat} {x y z : Str} {a b c : Expr} {ca cb cc : E} {px py pz pt pos : Pos} {kt k2 pt2} (hc : X.calm = true) (hN : X.N.Nodup) (ha : PA X [a, b, c] (rdA W E0 T [ca, cb, cc])) (hi : X.N[i]? = some x := by rfl) (hj : X.N[j]? = some y := by rfl) (hl : X.N[l]? = some z := by rfl)
    (hij : i ≠ j := by decide) (hil : i ≠ l := by decide) (hjl : j ≠ l := by decide) (hx : X.env.scope.names.lookup x = some .local := by rfl) (hy : X.env.scope.names.lookup y = some .local := by rfl) (hz : X.env.scope.names.lookup z = some .local := by rfl)
    (hw : swappedStores [.Tuple [.Name x px, .Name y py, .Name z pz] kt pt] (.Tuple [a, b, c] k2 pt2) X.env = pure (some [x, y, z]) := by rfl) (hs : swapsWithSole [.Tuple [.Name x px, .Name y py, .Name z pz] kt pt] (.Tuple [a, b, c] k2 pt2) pos.line X.env = pure false := by rfl) :
    PS X (.Assign [.Tuple [.Name x px, .Name y py, .Name z pz] kt pt] (.Tuple [a, b, c] k2 pt2) pos) (rdS W E0 T (.par [i, j, l] [ca, cb, cc])) :=
  (ps_par3 hc hN hi hj hl hij hil hjl hx hy hz ha hw hs).imp fun D σ H h => by
    have h := rd_par h
    obtain ⟨H0, O0, δ, Fs, S, q⟩ := h
    refine ⟨H0, O0, δ, Fs, S, ?_⟩
    revert q
    cases evs T [ca, cb, cc] δ with
    | none => exact fun h => h
    | some r =>
      cases r with
      | er C => exact fun h => h
      | ok ps =>
        intro q vs H1 Gs s1 n1 nd1 ow1
        obtain ⟨q1, q2⟩ := q vs H1 Gs s1 n1 nd1 ow1
        match vs, q2, q1 with
        | [u, v, w], _, q1 => exact ⟨u, v, w, rfl, q1⟩
end
end TW

set_option Elab.async false
set_option linter.all false
set_option maxRecDepth 100000
set_option maxHeartbeats 4000000
namespace TW
open PySem PySem.Spec PyProof.Rows L2

section
variable {W : Wd} {E0 : XK} {T : Tb} {X : Cx}
/-! ### a, b = e -/
theorem rd_unp {c : E} {i j : Nat} {D : Ends} {σ : L2.St} {H : Hp} (h : rdS W E0 T (.unp [i, j] c) D σ H) : tAsg (rdE W E0 T c) (gTup X.K 2 (gCons (gName i) (gCons (gName j) gNil))) D σ H := by
  obtain ⟨H0, O0, δ, Fs, S, q⟩ := h
  simp only [ex] at q
  refine ⟨H0, O0, δ, Fs, S, rq_bnd' (G := fun z => rqf W E0 H0 O0 H Fs z D) rqf_none (fun C h => rqf_er S.same h) q fun p h1 => ?_⟩
  intro v H1 F s1 n1 nd1 ow1
  obtain ⟨Fs2, S2, sub, ow2⟩ := give_ok S s1 n1 ow1
  have S3 : SS W H0 O0 H1 σ (give (nm c) p.1 p.2 δ) Fs2 := ⟨S2.same, S2.len, S2.lenF, fun j p e => let ⟨w, h1, h2⟩ := S2.slot j p e; ⟨w, h1, h2.mono (Same.refl _) fun a z => z.elim (fun z => .inl (.inl z)) .inr⟩, S2.nod, S2.new, fun a z => S2.offF a (.inl z), fun a z => S2.oldT a (.inl z), S2.there, S2.mt⟩
  have r : Rp W H1 (fun a => O0 a ∨ a ∈ Fs2.flatten) p.2 v := ow2.rp (fun a z => .inl z) fun a ha z => by
    rcases z with z | z
    · exact S.oldT a z (n1 a ha)
    · exact S2.offF a (.inr ha) z
  cases hp : p.2 with
  | tup ds =>
    rw [hp] at r
    have h1 : rqf W E0 H0 O0 H Fs (match p.2 with | .tup ds => lift ((setSh [i, j] ds (give (nm c) p.1 p.2 δ)).map Fl.nx) | _ => none) D := h1
    rw [hp] at h1
    rw [hp] at S3
    have h1 : rqf W E0 H0 O0 H Fs (lift ((setSh [i, j] ds (give (nm c) p.1 (.tup ds) δ)).map Fl.nx)) D := h1
    match ds, h1, r, S3 with
    | [d1, d2], h1, r, S3 =>
      obtain ⟨a, vs, rfl, g1, g2, v1, r1, rfl, ra, v2, r2, rfl, rb, r3⟩ := r
      have r3 : r2 = [] := r3
      subst r3
      refine ⟨a, [v1, v2], rfl, .inl (.inl g1), rfl, v1, [v2], rfl, v2, [], rfl, rfl, ?_⟩
      refine h1 _ H1 _ ((S3.putS (i := i) ra).putS (i := j) (Rp.mono (Same.refl _) (fun a z => z.elim .inl fun z => .inr (set_sub a z)) _ _ rb)) (Evo.grow s1 fun a ha => .inl (sub a (set_sub a (set_sub a ha))))
    | [], h1, _, _ => exact h1.elim
    | [_], h1, _, _ => exact h1.elim
    | _ :: _ :: _ :: _, h1, _, _ => exact h1.elim
  | _ =>
    have h1 : rqf W E0 H0 O0 H Fs (match p.2 with | .tup ds => lift ((setSh [i, j] ds (give (nm c) p.1 p.2 δ)).map Fl.nx) | _ => none) D := h1
    rw [hp] at h1
    exact h1.elim
theorem s_unp {i j : Nat} {x y : Str} {e : Expr} {c : E} {px py pt pos : Pos} {k : Nat} (hc : X.calm = true) (hN : X.N.Nodup) (he : PE X e (rdE W E0 T c)) (hi : X.N[i]? = some x := by rfl) (hj : X.N[j]? = some y := by rfl)
    (hx : Loc X.env.scope x := by first | exact Or.inl rfl | exact Or.inr rfl) (hy : Loc X.env.scope y := by first | exact Or.inl rfl | exact Or.inr rfl)
    (hfx : X.fn x = true ∨ X.env.scope.names.lookup x = some .local := by first | exact .inl rfl | exact .inr rfl) (hfy : X.fn y = true ∨ X.env.scope.names.lookup y = some .local := by first | exact .inl rfl | exact .inr rfl)
    (hs : swapsWithSole [.Tuple [.Name x px, .Name y py] k pt] e pos.line X.env = pure false := by rfl) (hw : swappedStores [.Tuple [.Name x px, .Name y py] k pt] e X.env = pure none := by rfl)
    (h1 : (assignEach [.Tuple [.Name x px, .Name y py] k pt] X.env).map (·.2) = [assign (.Tuple [.Name x px, .Name y py] k pt) X.env] := by rfl) :
    PS X (.Assign [.Tuple [.Name x px, .Name y py] k pt] e pos) (rdS W E0 T (.unp [i, j] c)) :=
  (ps_asg he (pg_tup hc (pgs_cons (pg_name hN hi hx hfx) (pgs_cons (pg_name hN hj hy hfy) pgs_nil))) hs hw h1).imp fun D σ H h => rd_unp h

/-! ### return -/
def rqr (W : Wd) (E0 : XK) (O0 : Addr → Prop) (H : Hp) (Fs : List (List Addr)) (ns : List Nat) (r : M (Md × D)) (Q : VK) : Prop := match r with
  | none => False
  | some (.er C) => ∀ H', Same H H' → E0 (.ref (W.ca C)) none H'
  | some (.ok p) => ∀ v H' F, Same H H' → (∀ a ∈ F, H a = none ∨ ∃ i, i ∈ ns ∧ a ∈ Fs.getD i []) → F.Nodup → Ow W H' (fun q => O0 q ∨ q ∈ F) p.1 p.2 v F → Q v H'
def rdR (W : Wd) (E0 : XK) (T : Tb) (c : E) : TE := fun σ H Q => ∃ H0 O0 δ Fs, SS W H0 O0 H σ δ Fs ∧ rqr W E0 O0 H Fs (mv c) (evr T c δ) Q
def rqrs (W : Wd) (E0 : XK) (O0 : Addr → Prop) (H : Hp) (Fs : List (List Addr)) (ns : List Nat) (r : M (List (Md × D))) (Q : List V → Hp → Prop) : Prop := match r with
  | none => False
  | some (.er C) => ∀ H', Same H H' → E0 (.ref (W.ca C)) none H'
  | some (.ok ps) => ∀ vs H' Gs, Same H H' → (∀ a ∈ Gs.flatten, H a = none ∨ ∃ i, i ∈ ns ∧ a ∈ Fs.getD i []) → (ns.Nodup → Gs.flatten.Nodup) → Ows W H' O0 ps vs Gs → Q vs H'
def rdRA (W : Wd) (E0 : XK) (T : Tb) (cs : List E) : TA := fun σ H Q => ∃ H0 O0 δ Fs, SS W H0 O0 H σ δ Fs ∧ rqrs W E0 O0 H Fs (mvs cs) (evrs T cs δ) Q
theorem rqr.mono {O0 : Addr → Prop} {H H1 : Hp} {Fs : List (List Addr)} {ns ns' : List Nat} {r : M (Md × D)} {Q : VK} (h : rqr W E0 O0 H Fs ns r Q) (s : Same H H1) (hn : ∀ i ∈ ns', i ∈ ns) : rqr W E0 O0 H1 Fs ns' r Q := by
  match r, h with
  | none, h => exact h
  | some (.er C), h => exact fun H' s' => h H' (s.trans s')
  | some (.ok p), h => exact fun v H' F s' n nd ow => h v H' F (s.trans s') (fun a ha => (n a ha).imp s.free fun ⟨i, h1, h2⟩ => ⟨i, hn i h1, h2⟩) nd ow
theorem r_var (i : Nat) {x : Str} {pos : Pos} (hN : X.N[i]? = some x := by rfl) (hv : Vis X.env.scope x := by first | exact Or.inl rfl | exact Or.inr (Or.inl rfl) | exact Or.inr (Or.inr rfl)) (hd : (x == ("__debug__" : Str)) = false := by decide)
    (hcd : (x == ("__classdict__" : Str)) = false := by decide) : PE X (.Name x pos) (rdR W E0 T (.var i)) := (pv i hN hv hd hcd).imp fun σ H Q ⟨H0, O0, δ, Fs, S, q⟩ => by
  simp only [evr] at q
  cases e : δ[i]? with
  | none => rw [e] at q; exact q.elim
  | some o =>
    cases o with
    | none => rw [e] at q; exact q.elim
    | some p =>
      rw [e] at q
      obtain ⟨v, h1, h2⟩ := S.slot i p e
      refine ⟨v, h1, q v H (Fs.getD i []) (Same.refl H) (fun a ha => .inr ⟨i, by simp [mv], ha⟩) ?_ (h2.mono (Same.refl H) fun a z => z.imp_right mem_flat)⟩
      have nd := S.nod
      clear h2 h1 q e
      cases hf : Fs[i]? with
      | none =>
        rw [List.getD_eq_getElem?_getD, hf]
        exact List.nodup_nil
      | some F =>
        rw [List.getD_eq_getElem?_getD, hf]
        exact nd.sublist (List.sublist_flatten_of_mem (List.mem_of_getElem? hf))
theorem r_of {e : Expr} {c : E} (h : PE X e (rdE W E0 T c)) (he : ∀ δ, evr T c δ = ev T c δ := by intro _; rfl) : PE X e (rdR W E0 T c) := h.imp fun σ H Q ⟨H0, O0, δ, Fs, S, q⟩ => by
  refine ⟨H0, O0, δ, Fs, S, ?_⟩
  rw [he] at q
  revert q
  cases ev T c δ with
  | none => exact fun h => h
  | some r =>
    cases r with
    | er C => exact fun h => h
    | ok p => exact fun h v H' F s n nd ow => h v H' F s (fun a ha => .inl (n a ha)) nd (ow.mono (Same.refl _) fun a z => z.imp_left .inl)
theorem evr_ite {c a b : E} {δ : Dn} : evr T (.ite c a b) δ = bnd (evB T c δ) fun k => if k then evr T a δ else evr T b δ := by
  unfold evB
  simp only [evr]
  cases ev T c δ with
  | none => rfl
  | some r =>
    cases r with
    | er C => rfl
    | ok p =>
      show (match boolD p.2 with | none => none | some true => evr T a δ | some false => evr T b δ) = bnd (lift (boolD p.2)) _
      cases boolD p.2 with
      | none => rfl
      | some k => cases k <;> rfl
theorem r_ite {c a b : Expr} {cc ca cb : E} {pos : Pos} (hc : PT X c (rdT W E0 T cc)) (ha : PE X a (rdR W E0 T ca)) (hb : PE X b (rdR W E0 T cb)) : PE X (.IfExp c a b pos) (rdR W E0 T (.ite cc ca cb)) :=
  (pe_ifExp hc ha hb).imp fun σ H Q ⟨H0, O0, δ, Fs, S, q⟩ => by
    rw [evr_ite] at q
    simp only [mv] at q
    refine ⟨H0, O0, δ, Fs, S, rqb_bnd' (G := fun z => rqr W E0 O0 H Fs (mv ca ++ mv cb) z Q) (fun h => h) (fun C h => h) q fun k h1 H' s => ?_⟩
    cases k with
    | true =>
      rw [if_pos rfl]
      exact ⟨H0, O0, δ, Fs, S.grow s, rqr.mono h1 s fun i hi => List.mem_append_left _ hi⟩
    | false =>
      rw [if_neg (by decide)]
      exact ⟨H0, O0, δ, Fs, S.grow s, rqr.mono h1 s fun i hi => List.mem_append_right _ hi⟩
theorem ra_nil : PA X [] (rdRA W E0 T []) := pa_nil.imp fun σ H Q ⟨H0, O0, δ, Fs, S, q⟩ => by
  simp only [evrs] at q
  exact q [] H [] (Same.refl H) (fun _ z => by cases z) (fun _ => List.nodup_nil) ⟨rfl, rfl⟩
theorem ra_cons {e : Expr} {es : List Expr} {c : E} {cs : List E} (he : PE X e (rdR W E0 T c)) (hs : PA X es (rdRA W E0 T cs)) (hst : starEach (e :: es) X.env = (false, eval e X.env) :: starEach es X.env := by rfl) : PA X (e :: es) (rdRA W E0 T (c :: cs)) :=
  (pa_cons he hs hst).imp fun σ H Q ⟨H0, O0, δ, Fs, S, q⟩ => by
    simp only [evrs, mvs] at q
    refine ⟨H0, O0, δ, Fs, S, ?_⟩
    revert q
    cases evr T c δ with
    | none => exact fun h => h
    | some r =>
      cases r with
      | er C => exact fun h => h
      | ok p =>
        intro q v1 H1 F1 s1 n1 nd1 ow1
        have q : rqrs W E0 O0 H Fs (mv c ++ mvs cs) (bnd (evrs T cs δ) fun ps => ok (p :: ps)) Q := q
        refine ⟨H0, O0, δ, Fs, S.grow s1, ?_⟩
        revert q
        cases evrs T cs δ with
        | none => exact fun h => h
        | some r =>
          cases r with
          | er C => exact fun h H' s' => h H' (s1.trans s')
          | ok ps =>
            intro q vs H2 Gs s2 n2 nd2 ow2
            have t1 : ∀ a ∈ F1, H1 a ≠ none := fun a ha z => by
              obtain ⟨o, e, _⟩ := ow1.there a ha
              rw [z] at e
              cases e
            refine q (v1 :: vs) H2 (F1 :: Gs) (s1.trans s2) (fun a ha => ?_) (fun nn => ?_) ⟨v1, vs, F1, Gs, rfl, rfl, ow1.mono s2 (fun a z => .inl z), ow2⟩
            · rcases List.mem_append.mp (show a ∈ F1 ++ Gs.flatten from ha) with ha | ha
              · exact (n1 a ha).imp_right fun ⟨i, h1, h2⟩ => ⟨i, List.mem_append_left _ h1, h2⟩
              · exact (n2 a ha).imp s1.free fun ⟨i, h1, h2⟩ => ⟨i, List.mem_append_right _ h1, h2⟩
            · obtain ⟨k1, k2, k3⟩ := List.nodup_append.mp nn
              rw [flat_cons]
              refine List.nodup_append.mpr ⟨nd1, nd2 k2, fun a ha b hb e => ?_⟩
              subst e
              rcases n2 a hb with z | ⟨j, j1, j2⟩
              · exact t1 a ha z
              · rcases n1 a ha with z | ⟨i, i1, i2⟩
                · obtain ⟨o, e, _⟩ := S.there a (mem_flat j2)
                  rw [z] at e
                  cases e
                · exact k3 i i1 j j1 (flat_inj S.nod i2 j2)
theorem evrs_len : ∀ {cs : List E} {δ : Dn} {ps : List (Md × D)}, evrs T cs δ = some (.ok ps) → ps.length = cs.length
  | [], δ, ps, h => by
    simp only [evrs] at h
    cases h
    rfl
  | c :: cs, δ, ps, h => by
    simp only [evrs] at h
    cases e : evr T c δ with
    | none => rw [e] at h; cases h
    | some r =>
      cases r with
      | er C => rw [e] at h; cases h
      | ok p =>
        rw [e] at h
        have h : bnd (evrs T cs δ) (fun ps => ok (p :: ps)) = some (.ok ps) := h
        cases e2 : evrs T cs δ with
        | none => rw [e2] at h; cases h
        | some r2 =>
          cases r2 with
          | er C => rw [e2] at h; cases h
          | ok qs =>
            rw [e2] at h
            cases h
            rw [List.length_cons, List.length_cons, evrs_len e2]
theorem r_tup {es : List Expr} {cs : List E} {x1} {pos : Pos} (h : PA X es (rdRA W E0 T cs)) (hl : Nat.ble cs.length 1000 = true := by rfl) : PE X (.Tuple es x1 pos) (rdR W E0 T (.tup cs)) :=
  (pe_tup h).imp fun σ H Q ⟨H0, O0, δ, Fs, S, q⟩ => by
    simp only [evr, mv] at q
    refine ⟨H0, O0, δ, Fs, S, ?_⟩
    revert q
    cases er : evrs T cs δ with
    | none => exact fun h => h
    | some r =>
      cases r with
      | er C => exact fun h => h
      | ok ps =>
        intro q vs H1 Gs s1 n1 nd1 ow1
        have hl2 : vs.length ≤ sizeLine := by
          rw [ow1.length, evrs_len er]
          exact len_ok hl
        have q : ∀ v H' F, Same H H' → (∀ a ∈ F, H a = none ∨ ∃ i, i ∈ mvs cs ∧ a ∈ Fs.getD i []) → F.Nodup → Ow W H' (fun q => O0 q ∨ q ∈ F) (if (mvs cs).Nodup then tupM ps else .sh) (.tup (ps.map Prod.snd)) v F → Q v H' := q
        refine ⟨hl2, fun p np => ?_⟩
        have s2 := same_new (o := .tup vs) np
        have rr : Rps W H1 O0 (ps.map Prod.snd) vs := ow1.rps (fun a z => z) fun a ha z => by
          rcases n1 a ha with h | ⟨i, _, h⟩
          · exact S.oldT a z h
          · exact S.offF a z (mem_flat h)
        have share : ∀ m, m = Md.sh → Ow W (L2.upd H1 p (.tup vs)) (fun q => O0 q ∨ q ∈ ([] : List Addr)) m (.tup (ps.map Prod.snd)) (.ref p) [] := fun m e => by
          rw [e]
          exact ⟨rfl, p, vs, rfl, upd_same, hl2, Rps.mono s2 (fun a z => z.elim id fun q => by cases q) _ _ rr⟩
        by_cases hn : (mvs cs).Nodup
        · rw [if_pos hn] at q
          unfold tupM at q
          split at q
          · rename_i c
            exact q _ _ Gs.flatten (s1.trans s2) n1 (nd1 hn) ⟨p, vs, rfl, upd_same, hl2, Dqs.mono s2 _ _ _ (ow1.dqs c)⟩
          · exact q _ _ [] (s1.trans s2) (fun _ z => by cases z) List.nodup_nil (share _ rfl)
        · rw [if_neg hn] at q
          exact q _ _ [] (s1.trans s2) (fun _ z => by cases z) List.nodup_nil (share _ rfl)
theorem s_ret {e : Expr} {c : E} {pos : Pos} (he : PE X e (rdR W E0 T c)) : PS X (.Return (some e) pos) (rdS W E0 T (.ret c)) :=
  (ps_ret he).imp fun D σ H ⟨H0, O0, δ, Fs, S, q⟩ => by
    simp only [ex] at q
    refine ⟨H0, O0, δ, Fs, S, ?_⟩
    revert q
    cases evr T c δ with
    | none => exact fun h => h
    | some r =>
      cases r with
      | er C => exact fun h => rqf_er S.same h
      | ok p =>
        intro q v H1 F s1 n1 nd1 ow1
        refine q v H1 F (S.same.trans s1) (fun a ha => ?_) nd1 ow1
        rcases n1 a ha with h | ⟨i, _, h⟩
        · exact S.same.free h
        · exact S.new a (mem_flat h)
/-! ### raise -/
theorem s_rai {C : Nat} {x m : Str} {j : Nat} {p p2 pos pos' : Pos} (hK : X.K = W.K) (hc : X.calm = true) (tk : Takes X (fun cls d _ H => E0 cls d H)) (q : PySem.W.excIn W.K (W.ca C) He.veBase "ValueError.__new__" = true) (gC : X.mg x = some (.ref (W.ca C))) (kC : PySem.W.keepIn W.K (.ref (W.ca C)) = true)
    (bP : PySem.W.subIn W.K (.ref (W.ca C)) (.type "BaseException") = some true) (tP : PySem.W.typeIn W.K (.ref (W.ca C)) = some (.type "type")) (hg : Gl X x) (hdb : (x == ("__debug__" : Str)) = false := by decide) :
    PS X (.Raise (some (.Call (.Name x p) [.Constant (.str m) j p2] [] pos)) none pos') (rdS W E0 T (.rai C)) := by
  rw [← hK] at q kC bP tP
  exact (ps_raise hc tk (pmk_own PySem.F.excBase_ValueError q gC kC (raises_own bP tP) hg hdb)).imp fun D σ H ⟨H0, O0, δ, Fs, S, q⟩ => by
    simp only [ex] at q
    exact q H S.same
end
end TW

set_option Elab.async false
set_option linter.all false
set_option maxRecDepth 100000
set_option maxHeartbeats 4000000
namespace TW
open PySem PySem.Spec PyProof.Rows L2

section
variable {W : Wd} {E0 : XK} {T : Tb} {X : Cx}
theorem yields_same {z : Sum V (V × V)} {H : Hp} {x : V} {H1 : Hp} (hy : yields z H x H1) : Same H H1 := by
  cases z with
  | inl v => rw [hy.1]; exact Same.refl H
  | inr p => obtain ⟨t, _, h1, h2⟩ := hy; rw [h2]; exact same_new h1
/-- a turn's item goes to its names (in a body) -/
theorem SS.bind {K : PySem.W.Frag} {H0 H H1 : Hp} {O0 : Addr → Prop} {σ : L2.St} {δ e1 : Dn} {Fs : List (List Addr)} (S : SS W H0 O0 H σ δ Fs) {ts : List Nat} {one : Bool} {d : D} {z : Sum V (V × V)} {x : V} (hb : bindT ts one d δ = some e1) (hy : yields z H x H1)
    (hr : reprI W H (fun a => O0 a ∨ a ∈ Fs.flatten) z d) {Q : L2.St → Hp → Prop} (hQ : ∀ σ2 Fs2, SS W H0 O0 H1 σ2 e1 Fs2 → Evo H Fs H1 Fs2 → Q σ2 H1) : gT K ts one x σ H1 Q := by
  have sm := yields_same hy
  have S1 := S.grow sm
  unfold bindT at hb
  split at hb
  · rename_i i
    cases hb
    have r : Rp W H1 (fun a => O0 a ∨ a ∈ Fs.flatten) d x := by
      cases z with
      | inl v => obtain ⟨e1, e2⟩ := hy; rw [e1, e2]; exact hr
      | inr p =>
        obtain ⟨t, e0, h1, h2⟩ := hy
        obtain ⟨a, b, e3, r1, r2⟩ := hr
        rw [e3, e0, h2]
        exact ⟨t, [p.1, p.2], rfl, upd_same, (show (2 : Nat) ≤ sizeLine by decide), p.1, [p.2], rfl, Rp.mono (same_new h1) (fun _ z => z) _ _ r1, p.2, [], rfl, Rp.mono (same_new h1) (fun _ z => z) _ _ r2, rfl⟩
    exact hQ _ _ (S1.putS (i := i) r) (Evo.grow sm fun a ha => .inl (set_sub a ha))
  · rename_i i j a b
    cases hb
    have hx : ∃ t va vb, x = .ref t ∧ H1 t = some (.tup [va, vb]) ∧ Rp W H1 (fun a => O0 a ∨ a ∈ Fs.flatten) a va ∧ Rp W H1 (fun a => O0 a ∨ a ∈ Fs.flatten) b vb := by
      cases z with
      | inl v =>
        obtain ⟨e1, e2⟩ := hy
        obtain ⟨t, vs, e3, h1, h2, va, r1, rfl, ra, vb, r2, rfl, rb, r3⟩ := hr
        rw [e1, e2]
        have : r2 = [] := r3
        subst this
        exact ⟨t, va, vb, e3, h1, ra, rb⟩
      | inr p =>
        obtain ⟨t, e0, h1, h2⟩ := hy
        obtain ⟨a', b', e3, r1, r2⟩ := hr
        cases e3
        refine ⟨t, p.1, p.2, e0, by rw [h2]; exact upd_same, ?_, ?_⟩
        · rw [h2]; exact Rp.mono (same_new h1) (fun _ z => z) _ _ r1
        · rw [h2]; exact Rp.mono (same_new h1) (fun _ z => z) _ _ r2
    obtain ⟨t, va, vb, e0, ht, ra, rb⟩ := hx
    refine ⟨t, [va, vb], e0, .inl (.inl ht), rfl, va, [vb], rfl, vb, [], rfl, rfl, ?_⟩
    exact hQ _ _ ((S1.putS (i := i) ra).putS (i := j) (Rp.mono (Same.refl _) (fun a z => z.imp_right (set_sub a)) _ _ rb)) (Evo.grow sm fun a ha => .inl (set_sub a (set_sub a ha)))
  · cases hb
theorem s_for {tg iter : Expr} {body : List Stmt} {ts : List Nat} {one : Bool} {s : Sr} {b : List S} {pos : Pos} (hp : PassesOwn (model X.prog X.w) X.A X.env X.xe) (hc : X.calm = true) (hi : PI X tg iter (rdI W E0 T s)) (hg : PG X tg (gT X.K ts one)) (hb : PSs X body (rdSs W E0 T b))
    (hs : ∀ x, foldedSetIterable iter X.env x = pure x := by intro _; rfl) : PS X (.For tg iter body [] pos) (rdS W E0 T (.for_ ts one s b)) :=
  (ps_for hp hc hi hg hb hs).imp fun D σ H ⟨H0, O0, δ, Fs, S, q⟩ => by
    simp only [ex] at q
    refine ⟨H0, O0, δ, Fs, S, ?_⟩
    revert q
    cases evS T s δ with
    | none => exact fun h => h
    | some r =>
      cases r with
      | er C => exact fun h => rqf_er S.same h
      | ok p =>
        obtain ⟨m, ds⟩ := p
        intro q J H1 s1 src
        generalize hst : (fun (x : TW.D) (e1 : Dn) => (match bindT ts one x e1 with | none => none | some e2 => exs T b e2 : M Fl)) = step at q
        have q : rqf W E0 H0 O0 H Fs (forL step ds (if m = .dp then δ else frz (nmS s) δ)) D := q
        obtain ⟨G, Y, A, wk, hlen, hA, hG, hI⟩ := src.ex
        -- the state at the loop's start
        have st : ∃ δ1 Fs1, SS W H0 O0 H1 σ δ1 Fs1 ∧ (if m = .dp then δ else frz (nmS s) δ) = δ1 ∧ (∀ a ∈ Fs1.flatten, a ∈ Fs.flatten) ∧ ∀ a ∈ Fs1.flatten, av O0 Fs (if m = .dp then [] else nmS s) a := by
          by_cases hm : m = .dp
          · rw [if_pos hm, if_pos hm]
            exact ⟨δ, Fs, S.grow s1, rfl, fun a h => h, fun a ha => let ⟨j, hj⟩ := flat_ix ha; .inr ⟨j, by simp, hj⟩⟩
          · rw [if_neg hm, if_neg hm]
            exact ⟨_, _, SS.frz (nmS s) (S.grow s1), rfl, fun a h => (clr_mem _ h).1, fun a ha => let ⟨_, j, h1, h2⟩ := clr_mem _ ha; .inr ⟨j, h1, h2⟩⟩
        obtain ⟨δ1, Fs1, S1, e1, sub1, av1⟩ := st
        rw [e1] at q
        generalize hO : av O0 Fs (if m = .dp then [] else nmS s) = O at av1 hA hI
        have hO0 : ∀ a, O0 a → O a := fun a z => by rw [← hO]; exact .inl z
        have ev1 : Evo H Fs H1 Fs1 := Evo.grow s1 fun a ha => .inl (sub1 a ha)
        refine for_it wk (Pv := fun i σ' H' => ∃ δ' Fs', SS W H0 O0 H' σ' δ' Fs' ∧ Evo H1 Fs1 H' Fs' ∧ rqf W E0 H0 O0 H Fs (forL step (ds.drop i) δ') D) ?_ ?_ ?_ ?_
        · exact ⟨δ1, Fs1, S1, Evo.refl, q⟩
        · rintro i σ' H' hi ⟨δ', Fs', S', e', _⟩
          refine hG H' fun a ha o e => e'.keep a o e fun z => ?_
          obtain ⟨o2, e2, m2⟩ := S1.there a z
          obtain ⟨o3, e3, h3⟩ := hA a ha
          rw [e3] at e2
          cases e2
          exact h3 m2 (av1 a z)
        · rintro i x σ' H2 H3 hi ⟨δ', Fs', S', e', q'⟩ hy
          have ei : ds[i]? = some ds[i] := List.getElem?_eq_getElem hi
          have ed : ds.drop i = ds[i] :: ds.drop (i + 1) := List.drop_eq_getElem_cons hi
          rw [ed] at q'
          obtain ⟨z, z1, z2⟩ := hI i _ ei
          have ro : ∀ (dd : TW.D) (vv : V), Rp W H1 O dd vv → Rp W H2 (fun a => O0 a ∨ a ∈ Fs'.flatten) dd vv := Evo.rp e' S1.there av1 (fun a z => by
            rcases z with z | z
            · exact .inl (hO0 a z)
            · exact (e'.sub a z).imp_left (av1 a))
          have z3 : reprI W H2 (fun a => O0 a ∨ a ∈ Fs'.flatten) z ds[i] := by
            cases z with
            | inl v => exact ro _ _ z2
            | inr pr =>
              obtain ⟨a, b, e, r1, r2⟩ := z2
              exact ⟨a, b, e, ro _ _ r1, ro _ _ r2⟩
          have hfx : step ds[i] δ' = (match bindT ts one ds[i] δ' with | none => none | some e2 => exs T b e2) := by rw [← hst]
          have q' : rqf W E0 H0 O0 H Fs (bnd (step ds[i] δ') fun r => match r with | .nx e1 => forL step (ds.drop (i + 1)) e1 | .rt m d => ok (.rt m d)) D := q'
          cases hbd : bindT ts one ds[i] δ' with
          | none =>
            rw [hfx, hbd] at q'
            exact q'.elim
          | some e2 =>
            rw [hfx, hbd] at q'
            refine S'.bind hbd (z1 _ _ _ hy) z3 fun σ2 Fs2 S2 ev2 => ⟨H0, O0, e2, Fs2, S2, ?_⟩
            have q' : rqf W E0 H0 O0 H Fs (bnd (exs T b e2) fun r => match r with | .nx e1 => forL step (ds.drop (i + 1)) e1 | .rt m d => ok (.rt m d)) D := q'
            revert q'
            cases exs T b e2 with
            | none => exact fun h => h
            | some r =>
              cases r with
              | er C => exact fun h => h
              | ok fl =>
                cases fl with
                | rt m d => exact fun h => h
                | nx δ'' => exact fun h σ3 H4 Fs3 S3 ev3 => ⟨δ'', Fs3, S3, e'.trans (ev2.trans ev3), h⟩
        · rintro σ' H' ⟨δ', Fs', S', e', q'⟩
          have e0 : ds.drop ds.length = [] := List.drop_length
          rw [e0] at q'
          exact q' σ' H' Fs' S' (ev1.trans e')
theorem s_whl {c : Expr} {body : List Stmt} {cc : E} {b : List S} {pos : Pos} (hp : PassesOwn (model X.prog X.w) X.A X.env X.xe) (hc : PT X c (rdT W E0 T cc)) (hb : PSs X body (rdSs W E0 T b)) : PS X (.While c body [] pos) (rdS W E0 T (.whl cc b)) :=
  (ps_while hp hc hb).imp fun D σ H ⟨H0, O0, δ, Fs, S, q⟩ => by
    simp only [ex] at q
    refine ⟨fun m σ' H' => ∃ δ' Fs', SS W H0 O0 H' σ' δ' Fs' ∧ Evo H Fs H' Fs' ∧ rqf W E0 H0 O0 H Fs (whlL (fun e1 => bnd (ev T cc e1) fun p => lift (boolD p.2)) (fun e1 => exs T b e1) m δ') D, ⟨WF, δ, Fs, S, Evo.refl, q⟩, ?_⟩
    rintro m σ' H' ⟨δ', Fs', S', e', q'⟩
    cases m with
    | zero => exact q'.elim
    | succ n =>
      have q' : rqf W E0 H0 O0 H Fs (bnd (evB T cc δ') fun t => if t = true then bnd (exs T b δ') fun r => (match r with | .nx e1 => whlL (fun e1 => bnd (ev T cc e1) fun p => lift (boolD p.2)) (fun e1 => exs T b e1) n e1 | .rt m d => ok (.rt m d)) else ok (.nx δ')) D := q'
      refine ⟨H0, O0, δ', Fs', S', rqb_bnd' (G := fun z => rqf W E0 H0 O0 H Fs z D) rqf_none (fun C h H2 s2 => h H2 (S'.same.trans s2)) q' fun t h1 H1 s1 => ?_⟩
      have ev1 : Evo H' Fs' H1 Fs' := Evo.grow s1 fun a ha => .inl ha
      cases t with
      | false =>
        rw [if_neg (by decide)]
        exact h1 σ' H1 Fs' (S'.grow s1) (e'.trans ev1)
      | true =>
        rw [if_pos rfl]
        refine ⟨fun σ2 H2 => ∃ δ2 Fs2, SS W H0 O0 H2 σ2 δ2 Fs2 ∧ Evo H Fs H2 Fs2 ∧ rqf W E0 H0 O0 H Fs (whlL (fun e1 => bnd (ev T cc e1) fun p => lift (boolD p.2)) (fun e1 => exs T b e1) n δ2) D, fun σ2 H2 h => ⟨n, Nat.lt_succ_self n, h⟩, H0, O0, δ', Fs', S'.grow s1, ?_⟩
        have h1 : rqf W E0 H0 O0 H Fs (bnd (exs T b δ') fun r => (match r with | .nx e1 => whlL (fun e1 => bnd (ev T cc e1) fun p => lift (boolD p.2)) (fun e1 => exs T b e1) n e1 | .rt m d => ok (.rt m d))) D := h1
        revert h1
        cases exs T b δ' with
        | none => exact fun h => h
        | some r =>
          cases r with
          | er C => exact fun h => h
          | ok fl =>
            cases fl with
            | rt m d => exact fun h => h
            | nx δ'' => exact fun h σ3 H4 Fs3 S3 ev3 => ⟨δ'', Fs3, S3, e'.trans (ev1.trans ev3), h⟩
end
end TW

set_option Elab.async false
set_option linter.all false
set_option maxRecDepth 100000
set_option maxHeartbeats 4000000
namespace TW
open PySem PySem.Spec PyProof.Rows L2

/-! ### three lists in step -/
def Al3 (Q : D → V → List Addr → Prop) : List D → List V → List (List Addr) → Prop
  | [], vs, Fs => vs = [] ∧ Fs = []
  | d :: ds, vs, Fs => ∃ v r F Fr, vs = v :: r ∧ Fs = F :: Fr ∧ Q d v F ∧ Al3 Q ds r Fr
section
variable {Q Q' : D → V → List Addr → Prop}
theorem Al3.len : ∀ {ds : List D} {vs : List V} {Fs : List (List Addr)}, Al3 Q ds vs Fs → vs.length = ds.length ∧ Fs.length = ds.length
  | [], _, _, h => by rw [h.1, h.2]; exact ⟨rfl, rfl⟩
  | d :: ds, _, _, h => by
    obtain ⟨v, r, F, Fr, rfl, rfl, _, h2⟩ := h
    obtain ⟨a, b⟩ := Al3.len h2
    exact ⟨by simp [a], by simp [b]⟩
theorem Al3.app : ∀ {ds es : List D} {vs ws : List V} {Fs Gs : List (List Addr)}, Al3 Q ds vs Fs → Al3 Q es ws Gs → Al3 Q (ds ++ es) (vs ++ ws) (Fs ++ Gs)
  | [], _, _, _, _, _, h, k => by rw [h.1, h.2]; exact k
  | d :: ds, _, _, _, _, _, h, k => by
    obtain ⟨v, r, F, Fr, rfl, rfl, h1, h2⟩ := h
    exact ⟨v, r ++ _, F, Fr ++ _, rfl, rfl, h1, Al3.app h2 k⟩
theorem Al3.take : ∀ (n : Nat) {ds : List D} {vs : List V} {Fs : List (List Addr)}, Al3 Q ds vs Fs → Al3 Q (ds.take n) (vs.take n) (Fs.take n)
  | 0, _, _, _, _ => ⟨rfl, rfl⟩
  | n + 1, [], _, _, h => by rw [h.1, h.2]; exact ⟨rfl, rfl⟩
  | n + 1, d :: ds, _, _, h => by
    obtain ⟨v, r, F, Fr, rfl, rfl, h1, h2⟩ := h
    exact ⟨v, r.take n, F, Fr.take n, rfl, rfl, h1, Al3.take n h2⟩
theorem Al3.drop : ∀ (n : Nat) {ds : List D} {vs : List V} {Fs : List (List Addr)}, Al3 Q ds vs Fs → Al3 Q (ds.drop n) (vs.drop n) (Fs.drop n)
  | 0, _, _, _, h => h
  | n + 1, [], _, _, h => by rw [h.1, h.2]; exact ⟨rfl, rfl⟩
  | n + 1, d :: ds, _, _, h => by
    obtain ⟨v, r, F, Fr, rfl, rfl, h1, h2⟩ := h
    exact Al3.drop n h2
theorem Al3.get : ∀ {ds : List D} {vs : List V} {Fs : List (List Addr)} {j : Nat} {d : D}, Al3 Q ds vs Fs → ds[j]? = some d → ∃ v F, vs[j]? = some v ∧ Fs[j]? = some F ∧ Q d v F
  | [], _, _, _, _, _, e => by simp at e
  | d :: ds, _, _, 0, d', h, e => by
    obtain ⟨v, r, F, Fr, rfl, rfl, h1, h2⟩ := h
    simp at e
    subst e
    exact ⟨v, F, rfl, rfl, h1⟩
  | d :: ds, _, _, j + 1, d', h, e => by
    obtain ⟨v, r, F, Fr, rfl, rfl, h1, h2⟩ := h
    simp at e
    obtain ⟨w, G, e1, e2, e3⟩ := Al3.get h2 e
    exact ⟨w, G, by simpa using e1, by simpa using e2, e3⟩
theorem Al3.one {d : D} {v : V} {F : List Addr} (h : Q d v F) : Al3 Q [d] [v] [F] := ⟨v, [], F, [], rfl, rfl, h, rfl, rfl⟩
theorem Al3.rev : ∀ {ds : List D} {vs : List V} {Fs : List (List Addr)}, Al3 Q ds vs Fs → Al3 Q ds.reverse vs.reverse Fs.reverse
  | [], _, _, h => by rw [h.1, h.2]; exact ⟨rfl, rfl⟩
  | d :: ds, _, _, h => by
    obtain ⟨v, r, F, Fr, rfl, rfl, h1, h2⟩ := h
    rw [List.reverse_cons, List.reverse_cons, List.reverse_cons]
    exact (Al3.rev h2).app (.one h1)
theorem Al3.set {j : Nat} {d : D} {v : V} {F : List Addr} (hq : Q d v F) : ∀ {k : Nat} {ds : List D} {vs : List V} {Fs : List (List Addr)}, Al3 Q ds vs Fs → Al3 Q (ds.set k d) (vs.set k v) (Fs.set k F)
  | _, [], _, _, h => by rw [h.1, h.2]; exact ⟨rfl, rfl⟩
  | 0, d' :: ds, _, _, h => by
    obtain ⟨w, r, G, Fr, rfl, rfl, h1, h2⟩ := h
    exact ⟨v, r, F, Fr, rfl, rfl, hq, h2⟩
  | k + 1, d' :: ds, _, _, h => by
    obtain ⟨w, r, G, Fr, rfl, rfl, h1, h2⟩ := h
    exact ⟨w, r.set k v, G, Fr.set k F, rfl, rfl, h1, Al3.set (j := j) hq h2⟩
theorem Al3.erase : ∀ {k : Nat} {ds : List D} {vs : List V} {Fs : List (List Addr)}, Al3 Q ds vs Fs → Al3 Q (ds.eraseIdx k) (vs.eraseIdx k) (Fs.eraseIdx k)
  | _, [], _, _, h => by rw [h.1, h.2]; exact ⟨rfl, rfl⟩
  | 0, d' :: ds, _, _, h => by
    obtain ⟨w, r, G, Fr, rfl, rfl, h1, h2⟩ := h
    exact h2
  | k + 1, d' :: ds, _, _, h => by
    obtain ⟨w, r, G, Fr, rfl, rfl, h1, h2⟩ := h
    exact ⟨w, r.eraseIdx k, G, Fr.eraseIdx k, rfl, rfl, h1, Al3.erase h2⟩
theorem Al3.dropLast {ds : List D} {vs : List V} {Fs : List (List Addr)} (h : Al3 Q ds vs Fs) : Al3 Q ds.dropLast vs.dropLast Fs.dropLast := by
  obtain ⟨a, b⟩ := h.len
  rw [List.dropLast_eq_take, List.dropLast_eq_take, List.dropLast_eq_take, a, b]
  exact h.take _
/-- the j-th changed, another relation of all -/
theorem Al3.upd {d : D} {F : List Addr} : ∀ {j : Nat} {ds : List D} {vs : List V} {Fs : List (List Addr)} {v : V}, Al3 Q ds vs Fs → vs[j]? = some v → Q' d v F → (∀ (k : Nat) (d' : D) (v' : V) (F' : List Addr), k ≠ j → Fs[k]? = some F' → Q d' v' F' → Q' d' v' F') → Al3 Q' (ds.set j d) vs (Fs.set j F)
  | j, [], _, _, v, h, e, _, _ => by rw [h.1] at e; simp at e
  | 0, d' :: ds, _, _, v, h, e, hq, ho => by
    obtain ⟨w, r, G, Fr, rfl, rfl, h1, h2⟩ := h
    simp at e
    subst e
    refine ⟨w, r, F, Fr, rfl, rfl, hq, ?_⟩
    have key : ∀ {ds : List D} {vs : List V} {Fs : List (List Addr)} (n : Nat), (∀ (k : Nat) (d' : D) (v' : V) (F' : List Addr), Fs[k]? = some F' → Q d' v' F' → Q' d' v' F') → Al3 Q ds vs Fs → Al3 Q' ds vs Fs := by
      intro ds
      induction ds with
      | nil => exact fun _ _ h => h
      | cons d ds ih =>
        intro vs Fs n hh h
        obtain ⟨w, r, G, Fr, rfl, rfl, h1, h2⟩ := h
        exact ⟨w, r, G, Fr, rfl, rfl, hh 0 _ _ _ rfl h1, ih n (fun k d' v' F' e q => hh (k + 1) d' v' F' (by simpa using e) q) h2⟩
    exact key 0 (fun k d' v' F' e q => ho (k + 1) d' v' F' (by omega) (by simpa using e) q) h2
  | j + 1, d' :: ds, _, _, v, h, e, hq, ho => by
    obtain ⟨w, r, G, Fr, rfl, rfl, h1, h2⟩ := h
    refine ⟨w, r, G, Fr.set j F, rfl, rfl, ho 0 _ _ _ (by omega) rfl h1, ?_⟩
    exact Al3.upd h2 (by simpa using e) hq fun k d' v' F' hk e q => ho (k + 1) d' v' F' (by omega) (by simpa using e) q
end
theorem Dqs.al {W : Wd} {H : Hp} : ∀ {ds : List D} {vs : List V} {F : List Addr}, Dqs W H ds vs F → ∃ Fs, Al3 (Dq W H) ds vs Fs ∧ Fs.flatten = F
  | [], _, _, h => ⟨[], ⟨h.1, rfl⟩, h.2.symm⟩
  | d :: ds, _, _, h => by
    obtain ⟨v, r, F1, F2, rfl, rfl, h1, h2⟩ := h
    obtain ⟨Fs, k1, k2⟩ := Dqs.al h2
    exact ⟨F1 :: Fs, ⟨v, r, F1, Fs, rfl, rfl, h1, k1⟩, by rw [flat_cons, k2]⟩
theorem Al3.dqs {W : Wd} {H : Hp} : ∀ {ds : List D} {vs : List V} {Fs : List (List Addr)}, Al3 (Dq W H) ds vs Fs → Dqs W H ds vs Fs.flatten
  | [], _, _, h => by rw [h.2]; exact ⟨h.1, rfl⟩
  | d :: ds, _, _, h => by
    obtain ⟨v, r, F, Fr, rfl, rfl, h1, h2⟩ := h
    exact ⟨v, r, F, Fr.flatten, rfl, rfl, h1, Al3.dqs h2⟩
/-- shared things have no cells of their own -/
abbrev RpQ (W : Wd) (H : Hp) (O : Addr → Prop) : D → V → List Addr → Prop := fun d v F => F = [] ∧ Rp W H O d v
theorem Rps.al {W : Wd} {H : Hp} {O : Addr → Prop} : ∀ {ds : List D} {vs : List V}, Rps W H O ds vs → ∃ Fs, Al3 (RpQ W H O) ds vs Fs
  | [], _, h => ⟨[], h, rfl⟩
  | d :: ds, _, h => by
    obtain ⟨v, r, rfl, h1, h2⟩ := h
    obtain ⟨Fs, k1⟩ := Rps.al h2
    exact ⟨[] :: Fs, v, r, [], Fs, rfl, rfl, ⟨rfl, h1⟩, k1⟩
theorem Al3.rps {W : Wd} {H : Hp} {O : Addr → Prop} : ∀ {ds : List D} {vs : List V} {Fs : List (List Addr)}, Al3 (RpQ W H O) ds vs Fs → Rps W H O ds vs
  | [], _, _, h => h.1
  | d :: ds, _, _, h => by
    obtain ⟨v, r, F, Fr, rfl, rfl, h1, h2⟩ := h
    exact ⟨v, r, rfl, h1.2, Al3.rps h2⟩

/-! ### cells taken over -/
def SubF (A B : List Addr) : Prop := (B.Nodup → A.Nodup) ∧ ∀ a ∈ A, a ∈ B
theorem SubF.refl (A : List Addr) : SubF A A := ⟨id, fun _ h => h⟩
theorem SubF.trans {A B C : List Addr} (h : SubF A B) (k : SubF B C) : SubF A C := ⟨fun n => h.1 (k.1 n), fun a ha => k.2 a (h.2 a ha)⟩
theorem SubF.sub {A B : List Addr} (h : A.Sublist B) : SubF A B := ⟨fun n => n.sublist h, fun _ ha => h.subset ha⟩
theorem SubF.perm {A B : List Addr} (h : A.Perm B) : SubF A B := ⟨fun n => h.nodup_iff.mpr n, fun _ ha => h.mem_iff.mp ha⟩
theorem SubF.app {A B C D : List Addr} (h : SubF A B) (k : SubF C D) : SubF (A ++ C) (B ++ D) := by
  refine ⟨fun n => ?_, fun a ha => ?_⟩
  · obtain ⟨n1, n2, n3⟩ := List.nodup_append.mp n
    exact List.nodup_append.mpr ⟨h.1 n1, k.1 n2, fun a ha b hb e => n3 a (h.2 a ha) b (k.2 b hb) e⟩
  · rcases List.mem_append.mp ha with z | z
    · exact List.mem_append_left _ (h.2 a z)
    · exact List.mem_append_right _ (k.2 a z)
theorem flat_sub {A B : List (List Addr)} (h : A.Sublist B) : A.flatten.Sublist B.flatten := by
  induction h with
  | slnil => exact .slnil
  | cons a _ ih => exact ih.trans (List.sublist_append_right _ _)
  | cons_cons a _ ih => exact (List.Sublist.refl a).append ih
theorem flat_perm {A B : List (List Addr)} (h : A.Perm B) : A.flatten.Perm B.flatten := by
  induction h with
  | nil => exact .refl _
  | cons a _ ih => exact (List.Perm.refl a).append ih
  | swap a b l =>
    rw [flat_cons, flat_cons, flat_cons, flat_cons, ← List.append_assoc, ← List.append_assoc]
    exact List.perm_append_comm.append (.refl _)
  | trans _ _ i1 i2 => exact i1.trans i2
theorem flat_app (A B : List (List Addr)) : (A ++ B).flatten = A.flatten ++ B.flatten := List.flatten_append
/-- what a change does to the values -/
def MoV (o : Mo) (H : Hp) (vs avs vs' : List V) : Prop := match o with
  | .append => ∃ a, avs = [a] ∧ vs' = vs ++ [a]
  | .extend => ∃ b ws, avs = [.ref b] ∧ H b = some (.lst ws) ∧ vs' = vs ++ ws
  | .pop => (avs = [] ∧ vs' = vs.dropLast) ∨ ∃ i j, avs = [.int i] ∧ ixN vs.length i = some j ∧ vs' = vs.eraseIdx j
  | .remove => ∃ j, vs' = vs.eraseIdx j
  | .insert => ∃ i a, avs = [.int i, a] ∧ vs' = vs.take i.toNat ++ [a] ++ vs.drop i.toNat
  | .clear => vs' = []
  | .reverse => vs' = vs.reverse
  | .set => ∃ i j a, avs = [.int i, a] ∧ ixN vs.length i = some j ∧ vs' = vs.set j a
  | .aug => ∃ i j k n, avs = [.int i, .int k] ∧ ixN vs.length i = some j ∧ vs[j]? = some (.int n) ∧ vs' = vs.set j (.int (n + k))
/-- a relation of trees and values as Rp, Dq have it -/
structure RelQ (H : Hp) (Q : D → V → List Addr → Prop) : Prop where
  int : ∀ i v F, Q (.int i) v F → v = .int i ∧ F = []
  ofI : ∀ i, Q (.int i) (.int i) []
  lst : ∀ ys v F, Q (.lst ys) v F → ∃ b ws Gs, v = .ref b ∧ H b = some (.lst ws) ∧ Al3 Q ys ws Gs ∧ SubF Gs.flatten F
theorem relQ_dq {W : Wd} {H : Hp} : RelQ H (Dq W H) := ⟨fun i v F h => h, fun i => ⟨rfl, rfl⟩, fun ys v F h => by
  obtain ⟨a, vs, G, e, eF, h1, h2, h3⟩ := h
  obtain ⟨Gs, k1, k2⟩ := h3.al
  exact ⟨a, vs, Gs, e, h1, k1, by rw [k2, eF]; exact .sub (List.sublist_cons_self _ _)⟩⟩
theorem relQ_rp {W : Wd} {H : Hp} {O : Addr → Prop} : RelQ H (RpQ W H O) := ⟨fun i v F h => ⟨h.2, h.1⟩, fun i => ⟨rfl, rfl⟩, fun ys v F h => by
  obtain ⟨eF, a, vs, e, h0, h1, h2, h3⟩ := h
  obtain ⟨Gs, k1⟩ := h3.al
  refine ⟨a, vs, Gs, e, h1, k1, ?_⟩
  have : ∀ {ds : List D} {vs : List V} {Fs : List (List Addr)}, Al3 (RpQ W H O) ds vs Fs → Fs.flatten = [] := by
    intro ds
    induction ds with
    | nil => intro vs Fs h; rw [h.2]; rfl
    | cons d ds ih =>
      intro vs Fs h
      obtain ⟨v, r, F, Fr, rfl, rfl, g1, g2⟩ := h
      rw [flat_cons, g1.1, ih g2]
      rfl
  rw [this k1]
  exact ⟨fun _ => List.nodup_nil, fun _ z => by cases z⟩⟩
theorem set_flat {Fs : List (List Addr)} {j : Nat} {F : List Addr} : SubF (Fs.set j F).flatten (Fs.flatten ++ F) := by
  by_cases h : j < Fs.length
  · rw [List.set_eq_take_append_cons_drop, if_pos h, flat_app, flat_cons]
    have e : Fs.flatten = (Fs.take j).flatten ++ (Fs.drop j).flatten := by rw [← flat_app, List.take_append_drop]
    have e2 : (Fs.drop (j + 1)).flatten.Sublist (Fs.drop j).flatten := by
      have : Fs.drop j = Fs[j] :: Fs.drop (j + 1) := List.drop_eq_getElem_cons h
      rw [this, flat_cons]
      exact List.sublist_append_right _ _
    rw [e, List.append_assoc]
    exact (SubF.refl _).app ((SubF.perm List.perm_append_comm).trans ((SubF.sub e2).app (SubF.refl F)))
  · rw [List.set_eq_of_length_le (by omega)]
    exact .sub (List.sublist_append_left _ _)
theorem moL_ok {H : Hp} {Q : D → V → List Addr → Prop} (hQ : RelQ H Q) {o : Mo} {xs as ys : List D} {vs avs vs' : List V} {Fs Gs : List (List Addr)} (h : Al3 Q xs vs Fs) (ha : Al3 Q as avs Gs) (hm : moL o xs as = some ys) (hv : MoV o H vs avs vs')
    (hr : o = .remove → ∃ j, ys = xs.eraseIdx j ∧ vs' = vs.eraseIdx j) : ∃ Fs', Al3 Q ys vs' Fs' ∧ SubF Fs'.flatten (Fs.flatten ++ Gs.flatten) := by
  have el := h.len
  cases o with
  | append =>
    obtain ⟨a, rfl, rfl⟩ := hv
    match as, ha, hm with
    | [d], ha, hm =>
      have hm : (if xs.length < SZ then some (xs ++ [d]) else none) = some ys := hm
      split at hm <;> cases hm
      exact ⟨Fs ++ Gs, h.app ha, by rw [flat_app]; exact SubF.refl _⟩
  | extend =>
    obtain ⟨b, ws, rfl, hb, rfl⟩ := hv
    match as, ha, hm with
    | [.lst zs], ha, hm =>
      have hm : (if xs.length + zs.length ≤ SZ then some (xs ++ zs) else none) = some ys := hm
      split at hm <;> cases hm
      obtain ⟨v, r, F, Fr, e1, rfl, q1, e2, rfl⟩ := ha
      cases e1
      obtain ⟨b', ws', Gs', e3, hb', k1, k2⟩ := hQ.lst _ _ _ q1
      cases e3
      rw [hb] at hb'
      cases hb'
      refine ⟨Fs ++ Gs', h.app k1, ?_⟩
      rw [flat_app, flat_cons]
      exact (SubF.refl _).app (k2.trans (.sub (List.sublist_append_left _ _)))
  | pop =>
    rcases hv with ⟨rfl, rfl⟩ | ⟨i, j, rfl, hj, rfl⟩
    · match as, ha, hm with
      | [], ha, hm =>
        have e : ys = xs.dropLast := by
          revert hm
          cases xs with
          | nil => intro hm; cases hm
          | cons x xs => intro hm; exact (Option.some.inj hm).symm
        subst e
        refine ⟨Fs.dropLast, h.dropLast, ?_⟩
        exact (SubF.sub (flat_sub (List.dropLast_sublist _))).trans (.sub (List.sublist_append_left _ _))
    · match as, ha, hm with
      | [.int k], ha, hm =>
        have hm : (if smallI k = true then (ixN xs.length k).map (fun j => xs.eraseIdx j) else none) = some ys := hm
        obtain ⟨v, r, F, Fr, e1, rfl, q1, e2, rfl⟩ := ha
        cases e1
        cases (hQ.int _ _ _ q1).1
        rw [el.1] at hj
        rw [hj] at hm
        split at hm <;> cases hm
        exact ⟨Fs.eraseIdx j, h.erase, (SubF.sub (flat_sub (List.eraseIdx_sublist _ _))).trans (.sub (List.sublist_append_left _ _))⟩
  | remove =>
    obtain ⟨j, rfl, rfl⟩ := hr rfl
    exact ⟨Fs.eraseIdx j, h.erase, (SubF.sub (flat_sub (List.eraseIdx_sublist _ _))).trans (.sub (List.sublist_append_left _ _))⟩
  | insert =>
    obtain ⟨i, a, rfl, rfl⟩ := hv
    match as, ha, hm with
    | [.int k, d], ha, hm =>
      have hm : (if 0 ≤ k ∧ smallI k = true ∧ xs.length < SZ then some (xs.take k.toNat ++ [d] ++ xs.drop k.toNat) else none) = some ys := hm
      obtain ⟨v, r, F, Fr, e1, rfl, q1, v2, r2, F2, Fr2, e2, rfl, q2, e3, rfl⟩ := ha
      cases e1
      cases e2
      cases (hQ.int _ _ _ q1).1
      split at hm <;> cases hm
      refine ⟨Fs.take i.toNat ++ [F2] ++ Fs.drop i.toNat, ((h.take _).app (.one q2)).app (h.drop _), ?_⟩
      have e : Fs.flatten = (Fs.take i.toNat).flatten ++ (Fs.drop i.toNat).flatten := by rw [← flat_app, List.take_append_drop]
      have e1 : ([F2] : List (List Addr)).flatten = F2 := by rw [flat_cons, List.flatten_nil, List.append_nil]
      have e2 : (F :: F2 :: [] : List (List Addr)).flatten = F ++ F2 := by rw [flat_cons, e1]
      rw [flat_app, flat_app, e, e1, e2, List.append_assoc, List.append_assoc]
      refine (SubF.refl _).app ((SubF.perm List.perm_append_comm).trans ((SubF.refl _).app ?_))
      exact .sub (List.sublist_append_right _ _)
  | clear =>
    have hv : vs' = [] := hv
    subst hv
    match as, ha, hm with
    | [], ha, hm =>
      cases hm
      exact ⟨[], ⟨rfl, rfl⟩, ⟨fun _ => List.nodup_nil, fun _ z => by cases z⟩⟩
  | reverse =>
    have hv : vs' = vs.reverse := hv
    subst hv
    match as, ha, hm with
    | [], ha, hm =>
      cases hm
      exact ⟨Fs.reverse, h.rev, (SubF.perm (flat_perm (List.reverse_perm _))).trans (.sub (List.sublist_append_left _ _))⟩
  | set =>
    obtain ⟨i, j, a, rfl, hj, rfl⟩ := hv
    match as, ha, hm with
    | [.int k, d], ha, hm =>
      have hm : (ixN xs.length k).map (fun j => xs.set j d) = some ys := hm
      obtain ⟨v, r, F, Fr, e1, rfl, q1, v2, r2, F2, Fr2, e2, rfl, q2, e3, rfl⟩ := ha
      cases e1
      cases e2
      cases (hQ.int _ _ _ q1).1
      rw [el.1] at hj
      rw [hj] at hm
      cases hm
      refine ⟨Fs.set j F2, Al3.set (j := j) q2 h, set_flat.trans ((SubF.refl _).app ?_)⟩
      rw [flat_cons, flat_cons]
      exact .sub ((List.sublist_append_left F2 _).trans (List.sublist_append_right F _))
  | aug =>
    obtain ⟨i, j, k, n, rfl, hj, hn, rfl⟩ := hv
    match as, ha, hm with
    | [.int k1, .int k2], ha, hm =>
      have hm : ((ixN xs.length k1).bind fun j => match xs[j]? with | some (.int n) => some (xs.set j (.int (n + k2))) | _ => none) = some ys := hm
      obtain ⟨v, r, F, Fr, e1, rfl, q1, v2, r2, F2, Fr2, e2, rfl, q2, e3, rfl⟩ := ha
      cases e1
      cases e2
      cases (hQ.int _ _ _ q1).1
      cases (hQ.int _ _ _ q2).1
      rw [el.1] at hj
      rw [hj] at hm
      have hm : (match xs[j]? with | some (.int n) => some (xs.set j (.int (n + k))) | _ => none) = some ys := hm
      cases hx : xs[j]? with
      | none => rw [hx] at hm; cases hm
      | some d =>
        rw [hx] at hm
        cases d with
        | int n' =>
          have hm : some (xs.set j (.int (n' + k))) = some ys := hm
          cases hm
          obtain ⟨w, G, g1, g2, g3⟩ := h.get hx
          rw [hn] at g1
          cases g1
          cases (hQ.int _ _ _ g3).1
          refine ⟨Fs.set j [], Al3.set (j := j) (hQ.ofI _) h, set_flat.trans ?_⟩
          rw [List.append_nil]
          exact .sub (List.sublist_append_left _ _)
        | _ => cases hm
end TW

set_option Elab.async false
set_option linter.all false
set_option maxRecDepth 100000
set_option maxHeartbeats 4000000
namespace TW
open PySem PySem.Spec PyProof.Rows L2

/-! ### a place within a tree, in the heap -/
def VAt (H : Hp) : List Int → V → V → Prop
  | [], v, w => v = w
  | i :: is, v, w => ∃ a ws u, v = .ref a ∧ (H a = some (.lst ws) ∨ H a = some (.tup ws)) ∧ atI ws i = some u ∧ VAt H is u w
theorem VAt.mono {H H' : Hp} (s : Same H H') : ∀ {is : List Int} {v w : V}, VAt H is v w → VAt H' is v w
  | [], _, _, h => h
  | i :: is, _, _, h => by
    obtain ⟨a, ws, u, e, h1, h2, h3⟩ := h
    exact ⟨a, ws, u, e, h1.imp (s _ _) (s _ _), h2, h3.mono s⟩
theorem VAt.det {H : Hp} : ∀ {is : List Int} {v w w' : V}, VAt H is v w → VAt H is v w' → w = w'
  | [], _, _, _, h, h' => (show _ = _ from h).symm.trans h'
  | i :: is, _, _, _, h, h' => by
    obtain ⟨a, ws, u, rfl, h1, h2, h3⟩ := h
    obtain ⟨a', ws', u', e', k1, k2, k3⟩ := h'
    cases e'
    have : ws = ws' := by
      rcases h1 with h1 | h1 <;> rcases k1 with k1 | k1 <;> (rw [h1] at k1; cases k1) <;> rfl
    subst this
    rw [h2] at k2
    cases k2
    exact h3.det k3
theorem VAt.snoc {H : Hp} {i : Int} {a : Addr} {ws : List V} {u : V} (h1 : H a = some (.lst ws) ∨ H a = some (.tup ws)) (h2 : atI ws i = some u) : ∀ {is : List Int} {v : V}, VAt H is v (.ref a) → VAt H (is ++ [i]) v u
  | [], _, h => ⟨a, ws, u, h, h1, h2, rfl⟩
  | j :: is, _, h => by
    obtain ⟨b, ws', u', e, k1, k2, k3⟩ := h
    exact ⟨b, ws', u', e, k1, k2, VAt.snoc h1 h2 k3⟩
theorem getP_app : ∀ (is js : List Int) (d : D), getP (is ++ js) d = (getP is d).bind (getP js)
  | [], _, _ => rfl
  | i :: is, js, .lst xs => by
    show (atI xs i).bind (getP (is ++ js)) = ((atI xs i).bind (getP is)).bind (getP js)
    cases atI xs i with
    | none => rfl
    | some d => exact getP_app is js d
  | i :: is, js, .tup xs => by
    show (atI xs i).bind (getP (is ++ js)) = ((atI xs i).bind (getP is)).bind (getP js)
    cases atI xs i with
    | none => rfl
    | some d => exact getP_app is js d
  | i :: is, js, .non => rfl
  | i :: is, js, .bl _ => rfl
  | i :: is, js, .int _ => rfl
  | i :: is, js, .str _ => rfl
  | i :: is, js, .fn _ => rfl
  | i :: is, js, .scr _ => rfl
  | i :: is, js, .dic _ => rfl
  | i :: is, js, .ins _ _ _ => rfl
theorem set_flat2 {Fs : List (List Addr)} {j : Nat} {F F' G : List Addr} (h : Fs[j]? = some F) (hs : SubF F' (F ++ G)) : SubF (Fs.set j F').flatten (Fs.flatten ++ G) := by
  obtain ⟨hj, hF⟩ := List.getElem?_eq_some_iff.mp h
  rw [List.set_eq_take_append_cons_drop, if_pos hj, flat_app, flat_cons]
  have e : Fs.flatten = (Fs.take j).flatten ++ (F ++ (Fs.drop (j + 1)).flatten) := by
    rw [← flat_cons, ← hF, ← List.drop_eq_getElem_cons hj, ← flat_app, List.take_append_drop]
  rw [e, List.append_assoc, List.append_assoc]
  refine (SubF.refl _).app ((hs.app (SubF.refl _)).trans ?_)
  rw [List.append_assoc]
  exact (SubF.refl F).app (.perm List.perm_append_comm)
theorem getD_of {Fs : List (List Addr)} {j : Nat} {F : List Addr} (h : Fs[j]? = some F) : Fs.getD j [] = F := by
  rw [List.getD_eq_getElem?_getD, h]; rfl
theorem nod_get : ∀ {Fs : List (List Addr)} {j : Nat} {F : List Addr}, Fs.flatten.Nodup → Fs[j]? = some F → F.Nodup
  | [], j, F, _, h => by simp at h
  | G :: Gs, 0, F, n, h => by
    simp at h
    subst h
    exact (List.nodup_append.mp (show (G ++ Gs.flatten).Nodup from n)).1
  | G :: Gs, j + 1, F, n, h => nod_get (List.nodup_append.mp (show (G ++ Gs.flatten).Nodup from n)).2.1 (by simpa using h)
theorem moS_cl {o : Mo} {is : List Int} {ps : List (Md × D)} {d : D} (c : closeds ps = true) : moS o is ps (.dp, d) = (moP o (ps.map Prod.snd) is d).map fun d' => (.dp, d') := by
  simp only [moS, c, if_true]
theorem moS_nc {o : Mo} {is : List Int} {ps : List (Md × D)} {d : D} {q' : Md × D} (c : ¬ closeds ps = true) (h : moS o is ps (.dp, d) = some q') : ∃ xs, is = [] ∧ d = .lst xs ∧ ((moL o xs (ps.map Prod.snd)).map fun ys => (Md.fl, D.lst ys)) = some q' := by
  unfold moS at h
  simp only [c, if_false] at h
  cases is with
  | cons _ _ => cases h
  | nil =>
    cases d with
    | lst xs => exact ⟨xs, rfl, rfl, h⟩
    | _ => cases h
/-- a change deep within an owned tree -/
theorem deep_mut {W : Wd} {H : Hp} {o : Mo} {as : List D} : ∀ {is : List Int} {d d' : D} {v : V} {F : List Addr}, Dq W H d v F → moP o as is d = some d' → ∃ p vs xs ys, VAt H is v (.ref p) ∧ p ∈ F ∧ H p = some (.lst vs) ∧ vs.length ≤ sizeLine ∧ Rps W H (fun _ => False) xs vs ∧ moL o xs as = some ys ∧
    ∀ avs vs' Gs, Al3 (Dq W H) as avs Gs → MoV o H vs avs vs' → (o = .remove → ∃ j, ys = xs.eraseIdx j ∧ vs' = vs.eraseIdx j) → vs'.length ≤ sizeLine → (F ++ Gs.flatten).Nodup → ∃ F', Dq W (L2.upd H p (.lst vs')) d' v F' ∧ SubF F' (F ++ Gs.flatten) ∧ p ∈ F'
  | [], d, d', v, F, h, hm => by
    cases d with
    | lst xs =>
      obtain ⟨a, vs, G, rfl, rfl, h1, h2, h3⟩ := h
      have hm : (moL o xs as).map D.lst = some d' := hm
      cases e : moL o xs as with
      | none => rw [e] at hm; cases hm
      | some ys =>
        rw [e] at hm
        cases hm
        refine ⟨a, vs, xs, ys, rfl, List.mem_cons_self, h1, h2, Dqs.rp _ _ _ h3 (fun _ _ z => z), e, fun avs vs' Gs ha hv hr hl nd => ?_⟩
        obtain ⟨Fs, k1, k2⟩ := h3.al
        obtain ⟨Fs', m1, m2⟩ := moL_ok relQ_dq k1 ha e hv hr
        rw [k2] at m2
        have nd : (a :: (G ++ Gs.flatten)).Nodup := nd
        obtain ⟨na, nd'⟩ := List.nodup_cons.mp nd
        have na' : a ∉ Fs'.flatten := fun z => na (m2.2 a z)
        refine ⟨a :: Fs'.flatten, ⟨a, vs', Fs'.flatten, rfl, rfl, upd_same, hl, Dqs.upd h1 trivial _ _ _ na' m1.dqs⟩, ?_, List.mem_cons_self⟩
        exact (SubF.refl [a]).app m2
    | _ => cases hm
  | i :: is, d, d', v, F, h, hm => by
    cases d with
    | lst xs =>
      obtain ⟨a, vs, G, rfl, rfl, h1, h2, h3⟩ := h
      have hm : ((ixN xs.length i).bind fun j => (xs[j]?).bind fun d => (moP o as is d).map fun d' => D.lst (xs.set j d')) = some d' := hm
      cases ej : ixN xs.length i with
      | none => rw [ej] at hm; cases hm
      | some j =>
        rw [ej] at hm
        have hm : ((xs[j]?).bind fun d => (moP o as is d).map fun d' => D.lst (xs.set j d')) = some d' := hm
        cases ex : xs[j]? with
        | none => rw [ex] at hm; cases hm
        | some d1 =>
          rw [ex] at hm
          have hm : ((moP o as is d1).map fun d' => D.lst (xs.set j d')) = some d' := hm
          cases em : moP o as is d1 with
          | none => rw [em] at hm; cases hm
          | some d1' =>
            rw [em] at hm
            cases hm
            obtain ⟨Fs, k1, k2⟩ := h3.al
            obtain ⟨w, F1, g1, g2, g3⟩ := k1.get ex
            obtain ⟨p, us, xs1, ys1, r1, r2, r3, r4, r5, r6, r7⟩ := deep_mut g3 em
            have hp : p ∈ G := by rw [← k2]; exact mem_flat (i := j) (by rw [getD_of g2]; exact r2)
            refine ⟨p, us, xs1, ys1, ⟨a, vs, w, rfl, .inl h1, ?_, r1⟩, List.mem_cons_of_mem _ hp, r3, r4, r5, r6, fun avs vs' Gs ha hv hr hl nd => ?_⟩
            · unfold atI
              rw [k1.len.1, ej]
              exact g1
            · have nd : (a :: (G ++ Gs.flatten)).Nodup := nd
              obtain ⟨na, nd'⟩ := List.nodup_cons.mp nd
              obtain ⟨nd1, nd2, nd3⟩ := List.nodup_append.mp nd'
              have sF1 : ∀ b ∈ F1, b ∈ G := fun b hb => by rw [← k2]; exact mem_flat (i := j) (by rw [getD_of g2]; exact hb)
              have ndF : F1.Nodup := by
                rw [← k2] at nd1
                exact nod_get nd1 g2
              obtain ⟨F1', q1, q2, q3⟩ := r7 avs vs' Gs ha hv hr hl (List.nodup_append.mpr ⟨ndF, nd2, fun b hb c hc e => nd3 b (sF1 b hb) c hc e⟩)
              have ne : a ≠ p := fun z => na (List.mem_append_left _ (z ▸ hp))
              have k3 : Al3 (Dq W (L2.upd H p (.lst vs'))) (xs.set j d1') vs (Fs.set j F1') := k1.upd g1 q1 fun k d2 v2 F2 hk e2 hq => Dq.upd r3 trivial _ _ _ (fun z => hk (flat_inj (by rw [k2]; exact nd1) (by rw [getD_of e2]; exact z) (by rw [getD_of g2]; exact r2))) hq
              refine ⟨a :: (Fs.set j F1').flatten, ⟨a, vs, _, rfl, rfl, by rw [upd_ne ne]; exact h1, h2, k3.dqs⟩, ?_, ?_⟩
              · have := set_flat2 g2 q2
                rw [k2] at this
                exact (SubF.refl [a]).app this
              · refine List.mem_cons_of_mem _ (mem_flat (i := j) ?_)
                rw [getD_set_self (List.getElem?_eq_some_iff.mp g2).1]
                exact q3
    | tup xs =>
      obtain ⟨a, vs, rfl, h1, h2, h3⟩ := h
      have hm : ((ixN xs.length i).bind fun j => (xs[j]?).bind fun d => (moP o as is d).map fun d' => D.tup (xs.set j d')) = some d' := hm
      cases ej : ixN xs.length i with
      | none => rw [ej] at hm; cases hm
      | some j =>
        rw [ej] at hm
        have hm : ((xs[j]?).bind fun d => (moP o as is d).map fun d' => D.tup (xs.set j d')) = some d' := hm
        cases ex : xs[j]? with
        | none => rw [ex] at hm; cases hm
        | some d1 =>
          rw [ex] at hm
          have hm : ((moP o as is d1).map fun d' => D.tup (xs.set j d')) = some d' := hm
          cases em : moP o as is d1 with
          | none => rw [em] at hm; cases hm
          | some d1' =>
            rw [em] at hm
            cases hm
            obtain ⟨Fs, k1, k2⟩ := h3.al
            obtain ⟨w, F1, g1, g2, g3⟩ := k1.get ex
            obtain ⟨p, us, xs1, ys1, r1, r2, r3, r4, r5, r6, r7⟩ := deep_mut g3 em
            have hp : p ∈ F := by rw [← k2]; exact mem_flat (i := j) (by rw [getD_of g2]; exact r2)
            refine ⟨p, us, xs1, ys1, ⟨a, vs, w, rfl, .inr h1, ?_, r1⟩, hp, r3, r4, r5, r6, fun avs vs' Gs ha hv hr hl nd => ?_⟩
            · unfold atI
              rw [k1.len.1, ej]
              exact g1
            · obtain ⟨nd1, nd2, nd3⟩ := List.nodup_append.mp nd
              have sF1 : ∀ b ∈ F1, b ∈ F := fun b hb => by rw [← k2]; exact mem_flat (i := j) (by rw [getD_of g2]; exact hb)
              have ndF : F1.Nodup := by
                rw [← k2] at nd1
                exact nod_get nd1 g2
              obtain ⟨F1', q1, q2, q3⟩ := r7 avs vs' Gs ha hv hr hl (List.nodup_append.mpr ⟨ndF, nd2, fun b hb c hc e => nd3 b (sF1 b hb) c hc e⟩)
              have k3 : Al3 (Dq W (L2.upd H p (.lst vs'))) (xs.set j d1') vs (Fs.set j F1') := k1.upd g1 q1 fun k d2 v2 F2 hk e2 hq => Dq.upd r3 trivial _ _ _ (fun z => hk (flat_inj (by rw [k2]; exact nd1) (by rw [getD_of e2]; exact z) (by rw [getD_of g2]; exact r2))) hq
              refine ⟨(Fs.set j F1').flatten, ⟨a, vs, rfl, upd_out r3 h1 trivial (fun z => z), h2, k3.dqs⟩, ?_, ?_⟩
              · have := set_flat2 g2 q2
                rw [k2] at this
                exact this
              · refine mem_flat (i := j) ?_
                rw [getD_set_self (List.getElem?_eq_some_iff.mp g2).1]
                exact q3
    | _ => cases hm

section
variable {W : Wd} {H0 H : Hp} {O0 : Addr → Prop} {σ : L2.St} {δ : Dn} {Fs : List (List Addr)}
/-- one slot's tree has changed, in one of its cells -/
theorem SS.chg {Fa : List Addr} (S : SS W H0 (fun a => O0 a ∨ a ∈ Fa) H σ δ Fs) (hO : ∀ a ∈ Fa, ¬ O0 a) (nd : Fa.Nodup) (n0 : ∀ a ∈ Fa, H0 a = none) (ta : ∀ a ∈ Fa, ∃ o, H a = some o ∧ MutC o) {i : Nat} {q q' : Md × D} (hi : δ[i]? = some (some q)) {v : V} (hv : σ[i]? = some (some v)) {p : Addr} {u x : HO}
    (hp : p ∈ Fs.getD i []) (hH : H p = some u) (mu : MutC u) (mx : MutC x) {F' : List Addr} (sF : SubF F' (Fs.getD i [] ++ Fa)) (ow : Ow W (L2.upd H p x) (fun a => O0 a ∨ a ∈ (Fs.set i F').flatten) q'.1 q'.2 v F') : SS W H0 O0 (L2.upd H p x) σ (δ.set i (some q')) (Fs.set i F') := by
  have hl : i < Fs.length := by rw [S.lenF, ← S.len]; exact (List.getElem?_eq_some_iff.mp hi).1
  have sub : ∀ a, a ∈ (Fs.set i F').flatten → a ∈ Fs.flatten ∨ a ∈ Fa := fun a z => by
    rcases mem_set_flat z with z | ⟨j, _, z⟩
    · rcases List.mem_append.mp (sF.2 a z) with z | z
      · exact .inl (mem_flat z)
      · exact .inr z
    · exact .inl (mem_flat z)
  have hpf := mem_flat hp
  have keep : ∀ a, H a ≠ none → L2.upd H p x a ≠ none := fun a h => by
    by_cases e : a = p
    · rw [e, upd_same]; simp
    · rw [upd_ne e]; exact h
  refine ⟨fun b o e => ?_, by rw [List.length_set]; exact S.len, by rw [List.length_set]; exact S.lenF, fun j r e => ?_, ?_, fun a ha => ?_, fun a za ha => ?_, fun a za => keep a (S.oldT a (.inl za)), fun a ha => ?_, fun j e => ?_⟩
  · have ne : b ≠ p := fun z => by rw [z, S.new p hpf] at e; cases e
    rw [upd_ne ne]
    exact S.same b o e
  · by_cases h : i = j
    · subst h
      rw [List.getElem?_set_self (by rw [S.len, ← S.lenF]; exact hl)] at e
      cases e
      refine ⟨v, hv, ?_⟩
      rw [getD_set_self hl]
      exact ow
    · rw [List.getElem?_set_ne h] at e
      obtain ⟨w, h1, h2⟩ := S.slot j r e
      refine ⟨w, h1, ?_⟩
      rw [getD_set_ne h]
      refine (h2.upd hH mu (.inr hpf) fun z => h (flat_inj S.nod hp z)).mono (Same.refl _) fun a z => ?_
      rcases z with z | z
      · exact .inl (.inl z)
      · rcases sub a z with z | z
        · exact .inr z
        · exact .inl (.inr z)
  · have e : Fs[i]? = some (Fs.getD i []) := by rw [List.getD_eq_getElem?_getD, List.getElem?_eq_getElem hl]; rfl
    exact (set_flat2 e sF).1 (List.nodup_append.mpr ⟨S.nod, nd, fun a ha b hb e => S.offF a (.inr (e ▸ hb)) ha⟩)
  · rcases sub a ha with z | z
    · exact S.new a z
    · exact n0 a z
  · rcases sub a ha with z | z
    · exact S.offF a (.inl za) z
    · exact hO a z za
  · by_cases e : a = p
    · exact ⟨x, by rw [e, upd_same], mx⟩
    · rw [upd_ne e]
      rcases sub a ha with z | z
      · exact S.there a z
      · exact ta a z
  · by_cases h : i = j
    · subst h
      rw [List.getElem?_set_self (by rw [S.len, ← S.lenF]; exact hl)] at e
      cases e
    · rw [List.getElem?_set_ne h] at e
      rw [getD_set_ne h]
      exact S.mt j e
theorem SS.mut {ps : List (Md × D)} {avs : List V} {Gs : List (List Addr)} (S : SS W H0 (fun a => O0 a ∨ a ∈ Gs.flatten) H σ δ Fs) (hO : ∀ a ∈ Gs.flatten, ¬ O0 a) (nd : Gs.flatten.Nodup) (n0 : ∀ a ∈ Gs.flatten, H0 a = none)
    (ow : Ows W H (fun a => (O0 a ∨ a ∈ Fs.flatten) ∨ a ∈ Gs.flatten) ps avs Gs) {i : Nat} {q q' : Md × D} (hi : δ[i]? = some (some q)) {o : Mo} {is : List Int} (hm : moS o is ps q = some q') :
    ∃ v p vs xs ys, σ[i]? = some (some v) ∧ VAt H is v (.ref p) ∧ p ∈ Fs.getD i [] ∧ H p = some (.lst vs) ∧ vs.length ≤ sizeLine ∧ Rps W H (fun _ => False) xs vs ∧ moL o xs (ps.map Prod.snd) = some ys ∧
      ∀ vs', MoV o H vs avs vs' → (o = .remove → ∃ j, ys = xs.eraseIdx j ∧ vs' = vs.eraseIdx j) → vs'.length ≤ sizeLine → ∃ F', SS W H0 O0 (L2.upd H p (.lst vs')) σ (δ.set i (some q')) (Fs.set i F') ∧ ∀ a ∈ F', a ∈ Fs.flatten ∨ a ∈ Gs.flatten := by
  obtain ⟨v, hv, how⟩ := S.slot i q hi
  have hl : i < Fs.length := by rw [S.lenF, ← S.len]; exact (List.getElem?_eq_some_iff.mp hi).1
  have eF : Fs[i]? = some (Fs.getD i []) := by rw [List.getD_eq_getElem?_getD, List.getElem?_eq_getElem hl]; rfl
  have ndi : (Fs.getD i []).Nodup := nod_get S.nod eF
  have ndG : (Fs.getD i [] ++ Gs.flatten).Nodup := List.nodup_append.mpr ⟨ndi, nd, fun a ha b hb e => S.offF a (.inr (e ▸ hb)) (mem_flat ha)⟩
  -- a flat change
  have flat : ∀ (a : Addr) (vs : List V) (xs : List D) (ys : List D), v = .ref a → a ∈ Fs.getD i [] → H a = some (.lst vs) → vs.length ≤ sizeLine → Rps W H (fun c => O0 c ∨ c ∈ (Fs.set i [a]).flatten) xs vs → moL o xs (ps.map Prod.snd) = some ys → q' = (.fl, .lst ys) → is = [] →
      ∃ v p vs xs ys, σ[i]? = some (some v) ∧ VAt H is v (.ref p) ∧ p ∈ Fs.getD i [] ∧ H p = some (.lst vs) ∧ vs.length ≤ sizeLine ∧ Rps W H (fun _ => False) xs vs ∧ moL o xs (ps.map Prod.snd) = some ys ∧
      ∀ vs', MoV o H vs avs vs' → (o = .remove → ∃ j, ys = xs.eraseIdx j ∧ vs' = vs.eraseIdx j) → vs'.length ≤ sizeLine → ∃ F', SS W H0 O0 (L2.upd H p (.lst vs')) σ (δ.set i (some q')) (Fs.set i F') ∧ ∀ a ∈ F', a ∈ Fs.flatten ∨ a ∈ Gs.flatten := by
    intro a vs xs ys ev ha h1 h2 h3 em eq ei
    subst ev eq ei
    have op : a ∈ (Fs.set i [a]).flatten := mem_flat (i := i) (by rw [getD_set_self hl]; exact List.mem_cons_self)
    refine ⟨.ref a, a, vs, xs, ys, hv, rfl, ha, h1, h2, Rps.mono (Same.refl H) (fun _ z => z.elim) _ _ h3, em, fun vs' mv hr hl' => ⟨[a], ?_, fun b hb => by rw [List.mem_singleton.mp hb]; exact .inl (mem_flat ha)⟩⟩
    have sA : ∀ c, (O0 c ∨ c ∈ (Fs.set i [a]).flatten) → (O0 c ∨ c ∈ Fs.flatten) := fun c z => by
      rcases z with z | z
      · exact .inl z
      · rcases mem_set_flat z with z | ⟨j, _, z⟩
        · rw [List.mem_singleton.mp z]; exact .inr (mem_flat ha)
        · exact .inr (mem_flat z)
    have ra : Rps W H (fun c => O0 c ∨ c ∈ (Fs.set i [a]).flatten) (ps.map Prod.snd) avs := ow.rps (fun c z => .inl (sA c z)) fun c hc z => by
      rcases sA c z with z | z
      · exact hO c hc z
      · exact S.offF c (.inr hc) z
    obtain ⟨A1, k1⟩ := Rps.al h3
    obtain ⟨A2, k2⟩ := Rps.al ra
    obtain ⟨A3, k3, _⟩ := moL_ok relQ_rp k1 k2 em mv hr
    refine S.chg hO nd n0 (fun b hb => ow.there b hb) hi hv ha h1 trivial (x := .lst vs') trivial (.sub ?_) ⟨a, vs', rfl, rfl, upd_same, hl', Rps.upd h1 trivial (.inr op) _ _ k3.rps⟩
    exact (List.singleton_sublist.mpr ha).trans (List.sublist_append_left _ _)
  obtain ⟨m, d⟩ := q
  cases m with
  | sh => cases hm
  | fl =>
    cases is with
    | cons _ _ => cases hm
    | nil =>
      cases d with
      | lst xs =>
        have hm : ((moL o xs (ps.map Prod.snd)).map fun ys => (Md.fl, D.lst ys)) = some q' := hm
        cases em : moL o xs (ps.map Prod.snd) with
        | none => rw [em] at hm; cases hm
        | some ys =>
          rw [em] at hm
          cases hm
          obtain ⟨a, vs, e1, e2, h1, h2, h3⟩ := how
          refine flat a vs xs ys e1 (by rw [e2]; exact List.mem_cons_self) h1 h2 (Rps.mono (Same.refl H) (fun c z => ?_) _ _ h3) em rfl rfl
          rcases z with z | z
          · exact .inl (.inl z)
          · rcases mem_set_flat z with z | ⟨j, _, z⟩
            · rw [← e2] at z; exact .inr (mem_flat z)
            · exact .inr (mem_flat z)
      | _ => cases hm
  | dp =>
    by_cases c : closeds ps = true
    · rw [moS_cl c] at hm
      cases em : moP o (ps.map Prod.snd) is d with
      | none => rw [em] at hm; cases hm
      | some d' =>
        rw [em] at hm
        cases hm
        obtain ⟨p, vs, xs, ys, r1, r2, r3, r4, r5, r6, r7⟩ := deep_mut how em
        refine ⟨v, p, vs, xs, ys, hv, r1, r2, r3, r4, r5, r6, fun vs' mv hr hl' => ?_⟩
        obtain ⟨Gs', g1, g2⟩ := (ow.dqs c).al
        obtain ⟨F', q1, q2, q3⟩ := r7 avs vs' Gs' g1 mv hr hl' (by rw [g2]; exact ndG)
        rw [g2] at q2
        refine ⟨F', S.chg hO nd n0 (fun b hb => ow.there b hb) hi hv r2 r3 trivial (x := .lst vs') trivial q2 q1, fun b hb => ?_⟩
        rcases List.mem_append.mp (q2.2 b hb) with z | z
        · exact .inl (mem_flat z)
        · exact .inr z
    · obtain ⟨xs, ei, ed, hm2⟩ := moS_nc c hm
      clear hm
      subst ed
      cases em : moL o xs (ps.map Prod.snd) with
      | none => rw [em] at hm2; cases hm2
      | some ys =>
        rw [em] at hm2
        cases hm2
        obtain ⟨a, vs, G, e1, e2, h1, h2, h3⟩ := how
        refine flat a vs xs ys e1 (by rw [e2]; exact List.mem_cons_self) h1 h2 (Dqs.rp _ _ _ h3 fun b hb z => ?_) em rfl ei
        have hb' : b ∈ Fs.getD i [] := by rw [e2]; exact List.mem_cons_of_mem _ hb
        rcases z with z | z
        · exact S.offF b (.inl z) (mem_flat hb')
        · rcases mem_set_flat z with z | ⟨j, hj, z⟩
          · rw [e2] at ndi
            exact (List.nodup_cons.mp ndi).1 (by rw [← List.mem_singleton.mp z]; exact hb)
          · exact hj (flat_inj S.nod z hb')
end
end TW

set_option Elab.async false
set_option linter.all false
set_option maxRecDepth 100000
set_option maxHeartbeats 4000000
namespace TW
open PySem PySem.Spec PyProof.Rows L2

/-! ### reading a place -/
def plc (T : Tb) (i : Nat) (p : List E) (δ : Dn) : M (List Int × D) := match δ[i]? with
  | some (some q) => bnd (evP T p δ) fun ri => match getP ri.reverse q.2 with
    | some d => ok (ri, d)
    | none => none
  | _ => none
def rqp (W : Wd) (E0 : XK) (H : Hp) (v : V) (r : M (List Int × D)) (Q : VK) : Prop := match r with
  | none => False
  | some (.er C) => ∀ H', Same H H' → E0 (.ref (W.ca C)) none H'
  | some (.ok z) => ∀ w H', Same H H' → VAt H' z.1.reverse v w → Rp W H' (fun _ => False) z.2 w → Q w H'
def rdP (W : Wd) (E0 : XK) (T : Tb) (i : Nat) (p : List E) : TE := fun σ H Q => ∃ H0 O0 δ Fs v, SS W H0 O0 H σ δ Fs ∧ σ[i]? = some (some v) ∧ rqp W E0 H v (plc T i p δ) Q
theorem rqp_bnd {W : Wd} {E0 : XK} {H : Hp} {v : V} {α : Type} {x : M (List Int × D)} {f : List Int × D → M α} {G : M α → Prop} {R : VK} (hn : ¬ G none) (he : ∀ C, G (some (.er C)) → ∀ H', Same H H' → E0 (.ref (W.ca C)) none H') (h : G (bnd x f))
    (k : ∀ z, x = some (.ok z) → G (f z) → ∀ w H', Same H H' → VAt H' z.1.reverse v w → Rp W H' (fun _ => False) z.2 w → R w H') : rqp W E0 H v x R := by
  match x, h with
  | none, h => exact hn h
  | some (.er C), h => exact he C h
  | some (.ok z), h => exact k z rfl h
section
variable {W : Wd} {E0 : XK} {T : Tb} {X : Cx}
theorem p_nil (i : Nat) {x : Str} {pos : Pos} (hN : X.N[i]? = some x := by rfl) (hv : Vis X.env.scope x := by first | exact Or.inl rfl | exact Or.inr (Or.inl rfl) | exact Or.inr (Or.inr rfl)) (hd : (x == ("__debug__" : Str)) = false := by decide)
    (hcd : (x == ("__classdict__" : Str)) = false := by decide) : PE X (.Name x pos) (rdP W E0 T i []) := (pv i hN hv hd hcd).imp fun σ H Q ⟨H0, O0, δ, Fs, v, S, hv, q⟩ => by
  unfold plc at q
  cases e : δ[i]? with
  | none => rw [e] at q; exact q.elim
  | some o =>
    cases o with
    | none => rw [e] at q; exact q.elim
    | some p =>
      rw [e] at q
      obtain ⟨w, h1, h2⟩ := S.var e (T := [i]) (by simp)
      rw [hv] at h1
      cases h1
      exact ⟨v, hv, q v H (Same.refl H) rfl (Rp.mono (Same.refl H) (fun _ z => z.elim) _ _ h2)⟩
theorem okOnly_some {α : Type} {x : M α} {a : α} (h : okOnly x = some a) : x = some (.ok a) := by
  match x, h with
  | some (.ok b), h => cases h; rfl
theorem plc_cons {i : Nat} {a : E} {p : List E} {δ : Dn} : plc T i (a :: p) δ = bnd (plc T i p δ) fun z => match okOnly (ev T a δ) with
    | none => none
    | some r => (match intD r.2 with
      | some k => (match getP [k] z.2 with
        | some d => ok (k :: z.1, d)
        | none => none)
      | none => none) := by
  unfold plc
  cases δ[i]? with
  | none => rfl
  | some o =>
    cases o with
    | none => rfl
    | some q =>
      show bnd (bnd (evP T p δ) _) _ = bnd (bnd (evP T p δ) _) _
      cases evP T p δ with
      | none => rfl
      | some r =>
        cases r with
        | er C => rfl
        | ok ri =>
          show bnd (match okOnly (ev T a δ) with | some p => lift ((intD p.2).map (· :: ri)) | none => none) _ = bnd (match getP ri.reverse q.2 with | some d => ok (ri, d) | none => none) _
          cases okOnly (ev T a δ) with
          | none => cases getP ri.reverse q.2 <;> rfl
          | some r =>
            cases ek : intD r.2 with
            | none => cases getP ri.reverse q.2 <;> simp [bnd, lift, ek]
            | some k =>
              have e : getP (k :: ri).reverse q.2 = (getP ri.reverse q.2).bind (getP [k]) := by rw [List.reverse_cons, getP_app]
              simp only [ek, Option.map_some, lift, bnd, e]
              cases getP ri.reverse q.2 with
              | none => rfl
              | some d => rfl
theorem p_cons {o b : Expr} {i : Nat} {p : List E} {cb : E} {pos : Pos} (ho : PE X o (rdP W E0 T i p)) (hb : PE X b (rdE W E0 T cb)) (hs : PlainIx b := by exact fun _ _ => rfl) : PE X (.Subscript o b pos) (rdP W E0 T i (cb :: p)) :=
  (pe_ix ix_seq ho hb hs).imp fun σ H Q ⟨H0, O0, δ, Fs, v, S, hv, q⟩ => by
    rw [plc_cons] at q
    refine ⟨H0, O0, δ, Fs, v, S, hv, rqp_bnd (G := fun z => rqp W E0 H v z Q) (fun h => h) (fun C h => h) q fun z ez h1 w H1 s1 va rp => ?_⟩
    cases eo : okOnly (ev T cb δ) with
    | none => rw [eo] at h1; exact h1.elim
    | some r =>
    rw [eo] at h1
    refine ⟨H0, O0, δ, Fs, S.grow s1, ?_⟩
    rw [okOnly_some eo]
    have h2 : rqp W E0 H v (match intD r.2 with | some k => (match getP [k] z.2 with | some d => ok (k :: z.1, d) | none => none) | none => none) Q := h1
    intro u H2 F s2 n2 nd2 ow2
    cases ei : intD r.2 with
    | none => rw [ei] at h2; exact h2.elim
    | some k =>
      rw [ei] at h2
      have ru := ow2.rpv (O1 := fun _ => False) (fun _ z => z.elim) (fun _ z => z.elim) n2
      rw [intD_eq ei] at ru
      have ru : u = .int k := ru
      subst ru
      have rp2 := Rp.mono s2 (fun _ z => z) _ _ rp
      have va2 := va.mono s2
      obtain ⟨ri, d⟩ := z
      have h2 : rqp W E0 H v (match getP [k] d with | some d => ok (k :: ri, d) | none => none) Q := h2
      cases d with
      | lst ds =>
        obtain ⟨a, vs, rfl, _, g1, g2, g3⟩ := rp2
        cases ea : atI ds k with
        | none =>
          have e0 : getP [k] (.lst ds) = none := by show (atI ds k).bind _ = none; rw [ea]; rfl
          rw [e0] at h2
          exact h2.elim
        | some d' =>
          have e0 : getP [k] (.lst ds) = some d' := by show (atI ds k).bind _ = some d'; rw [ea]; rfl
          rw [e0] at h2
          obtain ⟨x, e1, r1⟩ := g3.at ea
          refine .inl ⟨a, vs, k, x, rfl, rfl, .inl (.inl g1), e1, h2 x H2 (s1.trans s2) ?_ r1⟩
          show VAt H2 (k :: ri).reverse v x
          rw [List.reverse_cons]
          exact VAt.snoc (.inl g1) e1 va2
      | tup ds =>
        obtain ⟨a, vs, rfl, g1, g2, g3⟩ := rp2
        cases ea : atI ds k with
        | none =>
          have e0 : getP [k] (.tup ds) = none := by show (atI ds k).bind _ = none; rw [ea]; rfl
          rw [e0] at h2
          exact h2.elim
        | some d' =>
          have e0 : getP [k] (.tup ds) = some d' := by show (atI ds k).bind _ = some d'; rw [ea]; rfl
          rw [e0] at h2
          obtain ⟨x, e1, r1⟩ := g3.at ea
          refine .inr (.inl ⟨a, vs, k, x, rfl, rfl, .inl (.inl g1), e1, h2 x H2 (s1.trans s2) ?_ r1⟩)
          show VAt H2 (k :: ri).reverse v x
          rw [List.reverse_cons]
          exact VAt.snoc (.inr g1) e1 va2
      | _ => exact h2.elim

/-! ### a change, as a statement -/
theorem gives_get {ns : List Nat} {ps : List (Md × D)} {δ : Dn} {i : Nat} {q : Md × D} (h : (gives ns ps δ)[i]? = some (some q)) : ∃ q0, δ[i]? = some (some q0) ∧ q0.2 = q.2 := by
  have fz : ∀ (ns : List Nat) {δ : Dn} {i : Nat} {q : Md × D}, (frz ns δ)[i]? = some (some q) → ∃ q0, δ[i]? = some (some q0) ∧ q0.2 = q.2 := by
    intro ns
    induction ns with
    | nil => exact fun h => ⟨_, h, rfl⟩
    | cons n ns ih =>
      intro δ i q h
      have h : (frz ns (match δ[n]? with | some s => δ.set n (frzS s) | none => δ))[i]? = some (some q) := h
      obtain ⟨q1, h1, e1⟩ := ih h
      cases en : δ[n]? with
      | none => rw [en] at h1; exact ⟨q1, h1, e1⟩
      | some s =>
        rw [en] at h1
        have h1 : (δ.set n (frzS s))[i]? = some (some q1) := h1
        by_cases hh : n = i
        · subst hh
          rw [List.getElem?_set_self (List.getElem?_eq_some_iff.mp en).1] at h1
          cases s with
          | none => cases h1
          | some r =>
            cases h1
            exact ⟨r, en, e1⟩
        · rw [List.getElem?_set_ne hh] at h1
          exact ⟨q1, h1, e1⟩
  unfold gives at h
  split at h
  · split at h
    · exact ⟨q, h, rfl⟩
    · exact fz ns h
  · exact ⟨q, h, rfl⟩
theorem moP_get {o : Mo} {as : List D} : ∀ {is : List Int} {d d' : D}, moP o as is d = some d' → ∃ xs ys, getP is d = some (.lst xs) ∧ moL o xs as = some ys
  | [], d, d', h => by
    cases d with
    | lst xs =>
      have h : (moL o xs as).map D.lst = some d' := h
      cases e : moL o xs as with
      | none => rw [e] at h; cases h
      | some ys => exact ⟨xs, ys, rfl, e⟩
    | _ => cases h
  | i :: is, d, d', h => by
    have key : ∀ (xs : List D) (f : List D → D), ((ixN xs.length i).bind fun j => (xs[j]?).bind fun d => (moP o as is d).map fun d' => f (xs.set j d')) = some d' → ∃ zs ys, (atI xs i).bind (getP is) = some (.lst zs) ∧ moL o zs as = some ys := by
      intro xs f h
      unfold atI
      cases ej : ixN xs.length i with
      | none => rw [ej] at h; cases h
      | some j =>
        rw [ej] at h
        have h : ((xs[j]?).bind fun d => (moP o as is d).map fun d' => f (xs.set j d')) = some d' := h
        show ∃ zs ys, (xs[j]?).bind (getP is) = some (.lst zs) ∧ moL o zs as = some ys
        cases ex : xs[j]? with
        | none => rw [ex] at h; cases h
        | some d1 =>
          rw [ex] at h
          have h : ((moP o as is d1).map fun d' => f (xs.set j d')) = some d' := h
          cases em : moP o as is d1 with
          | none => rw [em] at h; cases h
          | some d2 => exact moP_get em
    cases d with
    | lst xs => exact key xs D.lst h
    | tup xs => exact key xs D.tup h
    | _ => cases h
theorem moS_get {o : Mo} {is : List Int} {ps : List (Md × D)} {q q' : Md × D} (h : moS o is ps q = some q') : ∃ xs ys, getP is q.2 = some (.lst xs) ∧ moL o xs (ps.map Prod.snd) = some ys := by
  obtain ⟨m, d⟩ := q
  have flat : ∀ xs : List D, ((moL o xs (ps.map Prod.snd)).map fun ys => (Md.fl, D.lst ys)) = some q' → ∃ ys, moL o xs (ps.map Prod.snd) = some ys := fun xs h => by
    cases e : moL o xs (ps.map Prod.snd) with
    | none => rw [e] at h; cases h
    | some ys => exact ⟨ys, rfl⟩
  cases m with
  | sh => cases h
  | fl =>
    cases is with
    | cons _ _ => cases h
    | nil =>
      cases d with
      | lst xs => obtain ⟨ys, e⟩ := flat xs h; exact ⟨xs, ys, rfl, e⟩
      | _ => cases h
  | dp =>
    by_cases c : closeds ps = true
    · rw [moS_cl c] at h
      cases em : moP o (ps.map Prod.snd) is d with
      | none => rw [em] at h; cases h
      | some d' => exact moP_get em
    · obtain ⟨xs, rfl, rfl, h2⟩ := moS_nc c h
      obtain ⟨ys, e⟩ := flat xs h2
      exact ⟨xs, ys, rfl, e⟩
/-- what remains when the values are there -/
def mutK (i : Nat) (o : Mo) (is : List Int) (ns : List Nat) (ps : List (Md × D)) (δ : Dn) : M Fl := match (gives ns ps δ)[i]? with
  | some (some q) => lift ((moS o is ps q).map fun q' => Fl.nx ((gives ns ps δ).set i (some q')))
  | _ => none
def isL : D → Bool
  | .lst _ => true
  | _ => false
theorem ex_mut {i : Nat} {p : List E} {o : Mo} {as : List E} {δ : Dn} : ex T (.mut i p o as) δ = bnd (plc T i p δ) fun z => if isL z.2 then bnd (evs T as δ) fun ps => mutK i o z.1.reverse (nms as) ps δ else none := by
  simp only [ex]
  unfold plc mutK
  cases δ[i]? with
  | none => rfl
  | some s =>
    cases s with
    | none => rfl
    | some q =>
      show bnd (evP T p δ) _ = bnd (bnd (evP T p δ) _) _
      cases evP T p δ with
      | none => rfl
      | some r =>
        cases r with
        | er C => rfl
        | ok ri =>
          simp only [bnd]
          cases getP ri.reverse q.2 with
          | none => rfl
          | some d => cases d <;> rfl
theorem mut_fin {H0 H H3 : Hp} {O0 : Addr → Prop} {σ : L2.St} {δ : Dn} {Fs Gs : List (List Addr)} {ns : List Nat} {ps : List (Md × D)} {avs : List V} {i : Nat} {o : Mo} {is : List Int} {D' : Ends} (S : SS W H0 O0 H σ δ Fs) (s1 : Same H H3) (n1 : ∀ a ∈ Gs.flatten, H a = none) (nd : Gs.flatten.Nodup)
    (ow : Ows W H3 (fun a => av O0 Fs ns a ∨ a ∈ Gs.flatten) ps avs Gs) (h : rqf W E0 H0 O0 H Fs (mutK i o is ns ps δ) D') :
    ∃ v p vs xs ys, σ[i]? = some (some v) ∧ VAt H3 is v (.ref p) ∧ H3 p = some (.lst vs) ∧ vs.length ≤ sizeLine ∧ Rps W H3 (fun _ => False) xs vs ∧ moL o xs (ps.map Prod.snd) = some ys ∧
      ∀ vs', MoV o H3 vs avs vs' → (o = .remove → ∃ j, ys = xs.eraseIdx j ∧ vs' = vs.eraseIdx j) → vs'.length ≤ sizeLine → D'.nx σ (L2.upd H3 p (.lst vs')) := by
  obtain ⟨Fs2, S2, sub, ow2⟩ := gives_ok S s1 n1 ow
  unfold mutK at h
  cases eg : (gives ns ps δ)[i]? with
  | none => rw [eg] at h; exact h.elim
  | some sl =>
    cases sl with
    | none => rw [eg] at h; exact h.elim
    | some q =>
      rw [eg] at h
      cases em : moS o is ps q with
      | none => simp only [em] at h; exact h.elim
      | some q' =>
        simp only [em] at h
        obtain ⟨v, p, vs, xs, ys, g1, g2, g3, g4, g5, g6, g7, g8⟩ := S2.mut (fun a ha z => S.oldT a z (n1 a ha)) nd (fun a ha => S.same.free (n1 a ha)) ow2 eg em
        refine ⟨v, p, vs, xs, ys, g1, g2, g4, g5, g6, g7, fun vs' mv hr hl => ?_⟩
        obtain ⟨F', S3, s3⟩ := g8 vs' mv hr hl
        refine h _ _ _ S3 ⟨fun b u e nb => ?_, fun a ha => ?_, fun b hb => ?_⟩
        · have ne : b ≠ p := fun z => nb (sub b (mem_flat (i := i) (by rw [z]; exact g3)))
          rw [upd_ne ne]
          exact s1 b u e
        · have : a ∈ Fs2.flatten ∨ a ∈ Gs.flatten := by
            rcases mem_set_flat ha with z | ⟨j, _, z⟩
            · exact s3 a z
            · exact .inl (mem_flat z)
          exact this.imp (sub a) (n1 a)
        · by_cases e : b = p
          · rw [e, upd_same]; simp
          · rw [upd_ne e]; exact fun z => hb (s1.free z)
/-- a method that does what the change says -/
def MoR (o : Mo) (n : Nat) (r : V → List V → Hp → VK → Prop) : Prop := ∀ (W : Wd) (H : Hp) (p : Addr) (vs : List V) (xs : List D) (avs : List V) (ds ys : List D) (Q : VK), ds.length = n → H p = some (.lst vs) → vs.length ≤ sizeLine → Rps W H (fun _ => False) xs vs → Rps W H (fun _ => False) ds avs → moL o xs ds = some ys →
  (∀ ret vs', MoV o H vs avs vs' → (o = .remove → ∃ j, ys = xs.eraseIdx j ∧ vs' = vs.eraseIdx j) → vs'.length ≤ sizeLine → Q ret (L2.upd H p (.lst vs'))) → r (.ref p) avs H Q
theorem s_mut {o : Mo} {n : Nat} {r : V → List V → Hp → VK → Prop} {id : String} {name : Str} {ob e : Expr} {es : List Expr} {i : Nat} {p : List E} {cs : List E} {apos cpos pos : Pos} (slot : Slot "list" name id) (hty : typeOf (.builtin id) = pure (.type "method_descriptor")) (hm : MtR X id r) (hr : MoR o n r) (hn : cs.length = n) (ho : PE X ob (rdP W E0 T i p)) (ha : PA X (e :: es) (rdA W E0 T cs))
    (hbase : attributeBase ob name X.env (eval ob X.env) = eval ob X.env := by rfl)
    (hfew : ((backTo cpos (starEach (e :: es) X.env)).all (fun x => !x.1) && (backToKw cpos (keywordEach [] X.env)).all (fun x => x.1.isSome)
      && decide ((e :: es).length + ([] : List Keyword).length + (if ([] : List Keyword).isEmpty then 0 else 1) < 30)) = true := by rfl)
    (hline : (apos.endLine == cpos.line) = true := by rfl) (hs : starEach (e :: es) X.env = (false, eval e X.env) :: starEach es X.env := by rfl) (hplain : (backTo cpos (starEach es X.env)).any (·.1) = false := by rfl)
    (hsw : swapsWith (.Call (.Attribute ob name apos) (e :: es) [] cpos) none pos.line X.env = pure false := by rfl) :
    PS X (.Expr (.Call (.Attribute ob name apos) (e :: es) [] cpos) pos) (rdS W E0 T (.mut i p o cs)) :=
  (ps_expr (pe_bm PySem.F.plainAttrs_list slot hty hm ho ha hbase hfew hline hs hplain) hsw).imp fun D σ H ⟨H0, O0, δ, Fs, S, q⟩ => by
    rw [ex_mut] at q
    have hv : ∃ v, σ[i]? = some (some v) := by
      unfold plc at q
      cases e : δ[i]? with
      | none => rw [e] at q; exact q.elim
      | some s =>
        cases s with
        | none => rw [e] at q; exact q.elim
        | some pr => exact (S.slot i pr e).imp fun v h => h.1
    obtain ⟨v, hv⟩ := hv
    refine ⟨H0, O0, δ, Fs, v, S, hv, rqp_bnd (G := fun z => rqf W E0 H0 O0 H Fs z D) rqf_none (fun C h => rqf_er S.same h) q fun z ez h1 w H1 s1 va rp => ?_⟩
    obtain ⟨ri, d⟩ := z
    have va : VAt H1 ri.reverse v w := va
    cases d with
    | lst xs0 =>
      have h1 : rqf W E0 H0 O0 H Fs (bnd (evs T cs δ) fun ps => mutK i o ri.reverse (nms cs) ps δ) D := h1
      obtain ⟨a, us, rfl, _, g1, g2, g3⟩ := rp
      refine ⟨.inl ⟨rfl, us, .inl (.inl g1)⟩, H0, O0, δ, Fs, S.grow s1, rqs_bnd2 (G := fun z => rqf W E0 H0 O0 H Fs z D) rqf_none (fun C h H' s' => rqf_er S.same h H' (s1.trans s')) h1 fun ps ep h2 avs H2 Gs s2 n2 nd2 ow2 => ?_⟩
      obtain ⟨v', p', vs, xs, ys, k1, k2, k3, k4, k5, k6, k7⟩ := mut_fin S (s1.trans s2) (fun b hb => s1.free (n2 b hb)) nd2 ow2 h2
      rw [hv] at k1
      cases k1
      have := (va.mono s2).det k2
      cases this
      refine hr W H2 a vs xs avs (ps.map Prod.snd) ys _ (by rw [List.length_map, evs_len ep, hn]) k3 k4 k5 (ow2.rps (fun _ z => z.elim) (fun _ _ z => z)) k6 fun ret vs' mv hrm hl => k7 vs' mv hrm hl
    | _ => exact h1.elim
theorem s_mut0 {o : Mo} {r : V → List V → Hp → VK → Prop} {id : String} {name : Str} {ob : Expr} {i : Nat} {p : List E} {apos cpos pos : Pos} (slot : Slot "list" name id) (hty : typeOf (.builtin id) = pure (.type "method_descriptor")) (hm : MtR X id r) (hr : MoR o 0 r) (ho : PE X ob (rdP W E0 T i p))
    (hbase : attributeBase ob name X.env (eval ob X.env) = eval ob X.env := by rfl) (hline : (apos.endLine == cpos.line) = true := by rfl)
    (hsw : swapsWith (.Call (.Attribute ob name apos) [] [] cpos) none pos.line X.env = pure false := by rfl) :
    PS X (.Expr (.Call (.Attribute ob name apos) [] [] cpos) pos) (rdS W E0 T (.mut i p o [])) :=
  (ps_expr (pe_bm0 PySem.F.plainAttrs_list slot hty hm ho hbase hline) hsw).imp fun D σ H ⟨H0, O0, δ, Fs, S, q⟩ => by
    rw [ex_mut] at q
    have hv : ∃ v, σ[i]? = some (some v) := by
      unfold plc at q
      cases e : δ[i]? with
      | none => rw [e] at q; exact q.elim
      | some s =>
        cases s with
        | none => rw [e] at q; exact q.elim
        | some pr => exact (S.slot i pr e).imp fun v h => h.1
    obtain ⟨v, hv⟩ := hv
    refine ⟨H0, O0, δ, Fs, v, S, hv, rqp_bnd (G := fun z => rqf W E0 H0 O0 H Fs z D) rqf_none (fun C h => rqf_er S.same h) q fun z ez h1 w H1 s1 va rp => ?_⟩
    obtain ⟨ri, d⟩ := z
    have va : VAt H1 ri.reverse v w := va
    cases d with
    | lst xs0 =>
      have h1 : rqf W E0 H0 O0 H Fs (mutK i o ri.reverse [] [] δ) D := by
        have h1 : rqf W E0 H0 O0 H Fs (bnd (evs T [] δ) fun ps => mutK i o ri.reverse (nms []) ps δ) D := h1
        simp only [evs, nms] at h1
        exact h1
      obtain ⟨a, us, rfl, _, g1, g2, g3⟩ := rp
      refine ⟨.inl ⟨rfl, us, .inl (.inl g1)⟩, ?_⟩
      obtain ⟨v', p', vs, xs, ys, k1, k2, k3, k4, k5, k6, k7⟩ := mut_fin (Gs := []) (avs := []) (ps := []) (ns := []) S s1 (fun b hb => by cases hb) List.nodup_nil ⟨rfl, rfl⟩ h1
      rw [hv] at k1
      cases k1
      have := va.det k2
      cases this
      refine hr W H1 a vs xs [] [] ys _ rfl k3 k4 k5 rfl k6 fun ret vs' mv hrm hl => k7 vs' mv hrm hl
    | _ => exact h1.elim
end

/-! ### the methods -/
theorem mo_append : MoR .append 1 rAppend := fun W H p vs xs avs ds ys Q hn hp hl hx ha hm k => by
  match ds, hn, hm, ha with
  | [d], _, hm, ha =>
    have hm : (if xs.length < SZ then some (xs ++ [d]) else none) = some ys := hm
    obtain ⟨a, r, rfl, _, rfl⟩ := ha
    split at hm
    · rename_i hlt
      have hlt : vs.length < SZ := by rw [Rps.length _ _ hx]; exact hlt
      have := sz_le
      exact ⟨p, vs, a, rfl, rfl, hp, by omega, k _ _ ⟨a, rfl, rfl⟩ (fun e => by cases e) (by rw [List.length_append, List.length_singleton]; omega)⟩
    · cases hm
theorem mo_extend : MoR .extend 1 rExtend := fun W H p vs xs avs ds ys Q hn hp hl hx ha hm k => by
  match ds, hn, hm, ha with
  | [.lst zs], _, hm, ha =>
    have hm : (if xs.length + zs.length ≤ SZ then some (xs ++ zs) else none) = some ys := hm
    obtain ⟨a, r, rfl, ⟨b, ws, rfl, _, hb, hbl, hz⟩, rfl⟩ := ha
    split at hm
    · rename_i hlt
      rw [← Rps.length _ _ hx, ← Rps.length _ _ hz] at hlt
      have := sz_le
      exact ⟨p, b, vs, ws, rfl, rfl, hp, hb, by omega, k _ _ ⟨b, ws, rfl, hb, rfl⟩ (fun e => by cases e) (by rw [List.length_append]; omega)⟩
    · cases hm
theorem mo_pop : MoR .pop 0 rPop := fun W H p vs xs avs ds ys Q hn hp hl hx ha hm k => by
  match ds, hn, hm, ha with
  | [], _, hm, ha =>
    have ha : avs = [] := ha
    subst ha
    have hne : vs ≠ [] := by
      intro e
      have := Rps.length _ _ hx
      rw [e] at this
      cases xs with
      | nil => cases hm
      | cons x xs => cases this
    have hlen : vs.length - 1 < vs.length := by
      cases vs with
      | nil => exact absurd rfl hne
      | cons v vs => simp
    exact ⟨p, vs, vs[vs.length - 1], rfl, rfl, hp, List.getElem?_eq_getElem hlen, k _ _ (.inl ⟨rfl, rfl⟩) (fun e => by cases e) (by rw [List.length_dropLast]; omega)⟩
theorem mo_popAt : MoR .pop 1 rPopAt := fun W H p vs xs avs ds ys Q hn hp hl hx ha hm k => by
  match ds, hn, hm, ha with
  | [.int i], _, hm, ha =>
    have hm : (if smallI i = true then (ixN xs.length i).map (fun j => xs.eraseIdx j) else none) = some ys := hm
    obtain ⟨a, r, rfl, hi, rfl⟩ := ha
    have hi : a = .int i := hi
    subst hi
    split at hm
    · rename_i hs
      rw [← Rps.length _ _ hx] at hm
      cases ej : ixN vs.length i with
      | none => rw [ej] at hm; cases hm
      | some j =>
        obtain ⟨h1, h2, h3, h4⟩ := ixN_seq ej
        have hs := of_decide_eq_true hs
        exact ⟨p, vs, i, j, vs[j], rfl, rfl, hp, by omega, by omega, h1, List.getElem?_eq_getElem h2, k _ _ (.inr ⟨i, j, rfl, ej, rfl⟩) (fun e => by cases e) (by have := len_erase vs j; omega)⟩
    · cases hm
theorem mo_insert : MoR .insert 2 (fun x vs H Q => ∃ (l : Addr) (xs : List V) (i : Int) (y : V), x = .ref l ∧ vs = [.int i, y] ∧ H l = some (.lst xs) ∧ xs.length < sizeLine ∧ 0 ≤ i ∧ i < 2 ^ 63 ∧ Q .non (upd H l (.lst (xs.take i.toNat ++ [y] ++ xs.drop i.toNat)))) := fun W H p vs xs avs ds ys Q hn hp hl hx ha hm k => by
  match ds, hn, hm, ha with
  | [.int i, d], _, hm, ha =>
    have hm : (if 0 ≤ i ∧ smallI i = true ∧ xs.length < SZ then some (xs.take i.toNat ++ [d] ++ xs.drop i.toNat) else none) = some ys := hm
    obtain ⟨a, r, rfl, hi, b, r2, rfl, hb, rfl⟩ := ha
    have hi : a = .int i := hi
    subst hi
    split at hm
    · rename_i hs
      obtain ⟨h0, h1, h2⟩ := hs
      have h1 := of_decide_eq_true h1
      rw [← Rps.length _ _ hx] at h2
      have := sz_le
      exact ⟨p, vs, i, b, rfl, rfl, hp, by omega, h0, by omega, k _ _ ⟨i, b, rfl, rfl⟩ (fun e => by cases e) (by rw [List.length_append, List.length_append, List.length_take, List.length_drop, List.length_singleton]; omega)⟩
    · cases hm
theorem mo_clear : MoR .clear 0 rClear := fun W H p vs xs avs ds ys Q hn hp hl hx ha hm k => by
  match ds, hn, hm, ha with
  | [], _, hm, ha =>
    have ha : avs = [] := ha
    subst ha
    exact ⟨p, vs, rfl, rfl, hp, k _ _ rfl (fun e => by cases e) (Nat.zero_le _)⟩
theorem mo_reverse : MoR .reverse 0 rReverse := fun W H p vs xs avs ds ys Q hn hp hl hx ha hm k => by
  match ds, hn, hm, ha with
  | [], _, hm, ha =>
    have ha : avs = [] := ha
    subst ha
    exact ⟨p, vs, rfl, rfl, hp, k _ _ rfl (fun e => by cases e) (by rw [List.length_reverse]; exact hl)⟩
end TW

set_option Elab.async false
set_option linter.all false
set_option maxRecDepth 100000
set_option maxHeartbeats 4000000
namespace TW
open PySem PySem.Spec PyProof.Rows L2

/-! ### x[i] = e, x[i] += e -/
/-- an expression that refuses nothing -/
def pur : E → Bool
  | .var _ => true
  | .lit _ => true
  | .bin _ a b => pur a && pur b
  | .sub a b => pur a && pur b
  | .neg a => pur a
  | _ => false
theorem bnd_er {α β : Type} {x : M α} {f : α → M β} {C : Nat} (h : bnd x f = some (.er C)) : x = some (.er C) ∨ ∃ a, x = some (.ok a) ∧ f a = some (.er C) := by
  match x, h with
  | some (.er C'), h => cases h; exact .inl rfl
  | some (.ok a), h => exact .inr ⟨a, rfl, h⟩
theorem lift_er {α : Type} {x : Option α} {C : Nat} : lift x ≠ some (.er C) := by cases x <;> simp [lift]
theorem pur_ok {T : Tb} : ∀ (c : E) {δ : Dn} {C : Nat}, pur c = true → ev T c δ ≠ some (.er C)
  | .var i, δ, C, _, h => by
    simp only [ev] at h
    split at h <;> cases h
  | .lit d, δ, C, _, h => by
    simp only [ev] at h
    split at h <;> cases h
  | .bin o a b, δ, C, p, h => by
    obtain ⟨p1, p2⟩ := Bool.and_eq_true_iff.mp (show (pur a && pur b) = true from p)
    simp only [ev] at h
    rcases bnd_er h with h | ⟨x, _, h⟩
    · exact pur_ok a p1 h
    · rcases bnd_er h with h | ⟨y, _, h⟩
      · exact pur_ok b p2 h
      · exact lift_er h
  | .sub a b, δ, C, p, h => by
    obtain ⟨p1, p2⟩ := Bool.and_eq_true_iff.mp (show (pur a && pur b) = true from p)
    simp only [ev] at h
    rcases bnd_er h with h | ⟨x, _, h⟩
    · exact pur_ok a p1 h
    · rcases bnd_er h with h | ⟨y, _, h⟩
      · exact pur_ok b p2 h
      · exact lift_er h
  | .neg a, δ, C, p, h => by
    simp only [ev] at h
    rcases bnd_er h with h | ⟨x, _, h⟩
    · exact pur_ok a p h
    · exact lift_er h
section
variable {W : Wd} {E0 : XK} {T : Tb} {X : Cx}
theorem plc_er {i : Nat} {p : List E} {δ : Dn} {C : Nat} : plc T i p δ ≠ some (.er C) := by
  have key : ∀ (p : List E) {C : Nat}, evP T p δ ≠ some (.er C) := by
    intro p
    induction p with
    | nil => intro C h; cases h
    | cons a p ih =>
      intro C h
      simp only [evP] at h
      rcases bnd_er h with h | ⟨x, _, h⟩
      · exact ih h
      · split at h
        · exact lift_er h
        · cases h
  intro h
  unfold plc at h
  split at h
  · rcases bnd_er h with h | ⟨x, _, h⟩
    · exact key p h
    · split at h <;> cases h
  · cases h
theorem evs2 {a b : E} {δ : Dn} : evs T [a, b] δ = bnd (ev T a δ) fun p => bnd (ev T b δ) fun q => ok [p, q] := by
  simp only [evs]
  congr 1
  funext p
  cases ev T b δ with
  | none => rfl
  | some r => cases r <;> rfl
theorem int_F {H : Hp} {O : Addr → Prop} {m : Md} {k : Int} {v : V} {F : List Addr} (h : Ow W H O m (.int k) v F) : v = .int k ∧ F = [] := by
  cases m with
  | sh => exact ⟨h.2, h.1⟩
  | dp => exact h
  | fl => exact ⟨h.2, h.1⟩
theorem s_set {ob ie e : Expr} {i : Nat} {p : List E} {ci ce : E} {pos pos' : Pos} (ho : PE X ob (rdP W E0 T i p)) (hi : PE X ie (rdE W E0 T ci)) (he : PE X e (rdE W E0 T ce)) (hp : pur ci = true := by rfl)
    (ha : ∀ v, assign (.Subscript ob ie pos') X.env v = (do
      let ov ← holding [v] (eval ob X.env)
      let iv ← holding [v, ov] (eval ie X.env)
      standAt pos'
      holding [v, ov, iv] (setItem ov iv v)
      release [v, ov, iv] []) := by intro _; rfl)
    (hs : swapsWithSole [.Subscript ob ie pos'] e pos.line X.env = pure false := by rfl) (hw : swappedStores [.Subscript ob ie pos'] e X.env = pure none := by rfl)
    (h1 : (assignEach [.Subscript ob ie pos'] X.env).map (·.2) = [assign (.Subscript ob ie pos') X.env] := by rfl) :
    PS X (.Assign [.Subscript ob ie pos'] e pos) (rdS W E0 T (.mut i p .set [ci, ce])) :=
  (ps_asg he (pg_sub ho hi set_list ha) hs hw h1).imp fun D σ H ⟨H0, O0, δ, Fs, S, q⟩ => by
    rw [ex_mut] at q
    cases ez : plc T i p δ with
    | none => rw [ez] at q; exact q.elim
    | some z =>
      cases z with
      | er C => exact (plc_er ez).elim
      | ok z =>
        rw [ez] at q
        obtain ⟨ri, d⟩ := z
        cases d with
        | lst xs0 =>
          have q : rqf W E0 H0 O0 H Fs (bnd (evs T [ci, ce] δ) fun ps => mutK i .set ri.reverse (nms [ci, ce]) ps δ) D := q
          rw [evs2] at q
          cases ei : ev T ci δ with
          | none => rw [ei] at q; exact q.elim
          | some r =>
            cases r with
            | er C => exact (pur_ok ci hp ei).elim
            | ok pi =>
              rw [ei] at q
              have hv : ∃ v, σ[i]? = some (some v) := by
                unfold plc at ez
                cases e : δ[i]? with
                | none => rw [e] at ez; cases ez
                | some s =>
                  cases s with
                  | none => rw [e] at ez; cases ez
                  | some pr => exact (S.slot i pr e).imp fun v h => h.1
              obtain ⟨v, hv⟩ := hv
              have q : rqf W E0 H0 O0 H Fs (bnd (bnd (ev T ce δ) fun q => ok [pi, q]) fun ps => mutK i .set ri.reverse (nms [ci, ce]) ps δ) D := q
              have q : rqf W E0 H0 O0 H Fs (bnd (ev T ce δ) fun q => mutK i .set ri.reverse (nms [ci, ce]) [pi, q] δ) D := by
                revert q
                cases ev T ce δ with
                | none => exact id
                | some r => cases r <;> exact id
              refine ⟨H0, O0, δ, Fs, S, rq_bnd' (G := fun z => rqf W E0 H0 O0 H Fs z D) rqf_none (fun C h => rqf_er S.same h) q fun pe h1 => ?_⟩
              intro x H1 F1 s1 n1 nd1 ow1
              refine ⟨H0, O0, δ, Fs, v, S.grow s1, hv, ?_⟩
              rw [ez]
              intro w H2 s2 va rp
              obtain ⟨a, us, rfl, _, g1, g2, g3⟩ := rp
              refine ⟨H0, O0, δ, Fs, S.grow (s1.trans s2), ?_⟩
              rw [ei]
              intro y H3 F3 s3 n3 nd3 ow3
              have s13 := (s1.trans s2).trans s3
              have ey : ∃ k F, pi.2 = .int k ∧ y = .int k ∧ F3 = F ∧ F = [] := by
                unfold mutK at h1
                cases eg : (gives (nms [ci, ce]) [pi, pe] δ)[i]? with
                | none => rw [eg] at h1; exact h1.elim
                | some sl =>
                  cases sl with
                  | none => rw [eg] at h1; exact h1.elim
                  | some qq =>
                    rw [eg] at h1
                    cases em : moS .set ri.reverse [pi, pe] qq with
                    | none => simp only [em] at h1; exact h1.elim
                    | some q' =>
                      obtain ⟨xs, ys, _, k2⟩ := moS_get em
                      obtain ⟨m, d⟩ := pi
                      cases d with
                      | int k => exact ⟨k, [], rfl, (int_F ow3).1, (int_F ow3).2, rfl⟩
                      | _ => cases k2
              obtain ⟨k, _, e1, rfl, e2, rfl⟩ := ey
              subst e2
              have ows : Ows W H3 (fun b => av O0 Fs (nms [ci, ce]) b ∨ b ∈ [([] : List Addr), F1].flatten) [pi, pe] [.int k, x] [[], F1] := by
                have ef : [([] : List Addr), F1].flatten = F1 := by rw [flat_cons, flat_cons]; simp
                rw [ef]
                refine ⟨.int k, [x], [], [F1], rfl, rfl, ?_, x, [], F1, [], rfl, rfl, ?_, rfl, rfl⟩
                · rw [e1]
                  exact Ow.sh_any (O := fun _ => False) (d := .int k) rfl rfl
                · refine (ow1.mono (s2.trans s3) fun b z => ?_)
                  rcases z with z | z
                  · exact .inl (av_mono (fun j hj => by simp only [nms]; exact List.mem_append_right _ (List.mem_append_left _ hj)) b z)
                  · exact .inr z
              have ef : [([] : List Addr), F1].flatten = F1 := by rw [flat_cons, flat_cons]; simp
              obtain ⟨v', p', vs, xs, ys, k1, k2, k3, k4, k5, k6, k7⟩ := mut_fin S s13 (by rw [ef]; exact n1) (by rw [ef]; exact nd1) ows h1
              rw [hv] at k1
              cases k1
              have := (va.mono s3).det k2
              cases this
              have k6 : moL .set xs [pi.2, pe.2] = some ys := k6
              rw [e1] at k6
              have k6 : (ixN xs.length k).map (fun j => xs.set j pe.2) = some ys := k6
              rw [← Rps.length _ _ k5] at k6
              cases ej : ixN vs.length k with
              | none => rw [ej] at k6; cases k6
              | some j => exact ⟨a, vs, k, j, rfl, rfl, k3, ej, k7 _ ⟨k, j, x, rfl, ej, rfl⟩ (fun e => by cases e) (by rw [List.length_set]; exact k4)⟩
        | _ => exact q.elim

def rGetL : V → V → Hp → VK → Prop := fun o i H Q => ∃ p xs k v, o = .ref p ∧ i = .int k ∧ H p = some (.lst xs) ∧ atI xs k = some v ∧ Q v H
theorem get_list : PGet X rGetL := by
  intro pins s σ H x y v u Q I rx ry h
  obtain ⟨p, xs, i, z, rfl, rfl, hq, he, q⟩ := h
  cases rx
  obtain ⟨t, rfl⟩ := ry
  obtain ⟨its, r, pl, hz⟩ := I.list (.inl (.inl hq))
  obtain ⟨j, h1, h2, h3, h4, h5⟩ := atI_get he
  obtain ⟨w, ew, rw'⟩ := r.get h2
  have hl := r.length
  have hn := line63
  have fin : EP X pins σ Q w s := ⟨z, H, I, rw', q⟩
  by_cases h0 : 0 ≤ i
  · have hj : i.toNat = j := by
      rw [seqIndex_of h0 h5] at h1
      exact Option.some.inj h1
    exact wpAny_getItem_list (Q := EP X pins σ Q) pl.isList h0 (by omega) (by rw [hj]; simpa using ew) fin
  · have hj : (i + (its.toArray.size : Int)).toNat = j := by
      rw [seqIndex_neg (by omega) h4] at h1
      rw [List.size_toArray, ← hl]
      exact Option.some.inj h1
    exact wpAny_getItem_list_neg (Q := EP X pins σ Q) pl.isList (by omega) (by rw [List.size_toArray] <;> omega) (by omega) (by rw [hj]; simpa using ew) fin
theorem s_augS {ob ie e : Expr} {i : Nat} {p : List E} {ci ce : E} {pos tpos : Pos} (ho : PE X ob (rdP W E0 T i p)) (hi : PE X ie (rdE W E0 T ci)) (he : PE X e (rdE W E0 T ce)) (hp : pur ci = true := by rfl) (hp2 : pur ce = true := by rfl)
    (ha : ∀ ov iv new, augStore ie ov iv new = (do holding [new, ov, iv] (setItem ov iv new); release [new, ov, iv] []; pure .next) := by intros; rfl) :
    PS X (.AugAssign (.Subscript ob ie tpos) .Add e pos) (rdS W E0 T (.mut i p .aug [ci, ce])) :=
  (ps_augS ho hi get_list he ip_add set_list ha).imp fun D σ H ⟨H0, O0, δ, Fs, S, q⟩ => by
    rw [ex_mut] at q
    cases ez : plc T i p δ with
    | none => rw [ez] at q; exact q.elim
    | some z =>
      cases z with
      | er C => exact (plc_er ez).elim
      | ok z =>
        rw [ez] at q
        obtain ⟨ri, d⟩ := z
        cases d with
        | lst xs0 =>
          have q : rqf W E0 H0 O0 H Fs (bnd (evs T [ci, ce] δ) fun ps => mutK i .aug ri.reverse (nms [ci, ce]) ps δ) D := q
          rw [evs2] at q
          cases ei : ev T ci δ with
          | none => rw [ei] at q; exact q.elim
          | some r =>
            cases r with
            | er C => exact (pur_ok ci hp ei).elim
            | ok pi =>
              rw [ei] at q
              cases ee : ev T ce δ with
              | none => rw [ee] at q; exact q.elim
              | some r =>
                cases r with
                | er C => exact (pur_ok ce hp2 ee).elim
                | ok pe =>
                  rw [ee] at q
                  have q : rqf W E0 H0 O0 H Fs (mutK i .aug ri.reverse (nms [ci, ce]) [pi, pe] δ) D := q
                  have hv : ∃ v pr, σ[i]? = some (some v) ∧ δ[i]? = some (some pr) ∧ getP ri.reverse pr.2 = some (.lst xs0) := by
                    unfold plc at ez
                    cases e : δ[i]? with
                    | none => rw [e] at ez; cases ez
                    | some s =>
                      cases s with
                      | none => rw [e] at ez; cases ez
                      | some pr =>
                        obtain ⟨v, h1, _⟩ := S.slot i pr e
                        refine ⟨v, pr, h1, rfl, ?_⟩
                        rw [e] at ez
                        have ez : bnd (evP T p δ) (fun ri => match getP ri.reverse pr.2 with | some d => ok (ri, d) | none => none) = some (.ok (ri, .lst xs0)) := ez
                        cases e2 : evP T p δ with
                        | none => rw [e2] at ez; cases ez
                        | some r =>
                          cases r with
                          | er C => rw [e2] at ez; cases ez
                          | ok rj =>
                            rw [e2] at ez
                            have ez : (match getP rj.reverse pr.2 with | some d => ok (rj, d) | none => none) = some (.ok (ri, .lst xs0)) := ez
                            cases e3 : getP rj.reverse pr.2 with
                            | none => rw [e3] at ez; cases ez
                            | some d =>
                              rw [e3] at ez
                              cases ez
                              exact e3
                  obtain ⟨v, pr, hv, hpr, hgp⟩ := hv
                  -- what the change will be
                  have hk : ∃ k n2 j n ys, pi.2 = .int k ∧ pe.2 = .int n2 ∧ ixN xs0.length k = some j ∧ xs0[j]? = some (.int n) ∧ moL .aug xs0 [pi.2, pe.2] = some ys := by
                    unfold mutK at q
                    cases eg : (gives (nms [ci, ce]) [pi, pe] δ)[i]? with
                    | none => rw [eg] at q; exact q.elim
                    | some sl =>
                      cases sl with
                      | none => rw [eg] at q; exact q.elim
                      | some qq =>
                        rw [eg] at q
                        cases em : moS .aug ri.reverse [pi, pe] qq with
                        | none => simp only [em] at q; exact q.elim
                        | some q' =>
                          obtain ⟨xs, ys, k1, k2⟩ := moS_get em
                          obtain ⟨q0, g1, g2⟩ := gives_get eg
                          rw [hpr] at g1
                          cases g1
                          rw [← g2, hgp] at k1
                          cases k1
                          have k2 : moL .aug xs0 [pi.2, pe.2] = some ys := k2
                          have k3 := k2
                          obtain ⟨m, d⟩ := pi
                          obtain ⟨m2, d2⟩ := pe
                          cases d with
                          | int k =>
                            cases d2 with
                            | int n2 =>
                              have k2 : ((ixN xs0.length k).bind fun j => match xs0[j]? with | some (.int n) => some (xs0.set j (.int (n + n2))) | _ => none) = some ys := k2
                              cases ej : ixN xs0.length k with
                              | none => rw [ej] at k2; cases k2
                              | some j =>
                                rw [ej] at k2
                                have k2 : (match xs0[j]? with | some (.int n) => some (xs0.set j (.int (n + n2))) | _ => none) = some ys := k2
                                cases ex : xs0[j]? with
                                | none => rw [ex] at k2; cases k2
                                | some d3 =>
                                  rw [ex] at k2
                                  cases d3 with
                                  | int n => exact ⟨k, n2, j, n, ys, rfl, rfl, ej, ex, k3⟩
                                  | _ => cases k2
                            | _ => cases k2
                          | _ => cases k2
                  obtain ⟨k, n2, j, n, ys0, e1, e2, ej, exj, em0⟩ := hk
                  refine ⟨H0, O0, δ, Fs, v, S, hv, ?_⟩
                  rw [ez]
                  intro w H1 s1 va rp
                  obtain ⟨a, us, rfl, _, g1, g2, g3⟩ := rp
                  refine ⟨H0, O0, δ, Fs, S.grow s1, ?_⟩
                  rw [ei]
                  intro y H2 F2 s2 n2' nd2 ow2
                  have ow2 : Ow W H2 _ pi.1 pi.2 y F2 := ow2
                  rw [e1] at ow2
                  obtain ⟨rfl, rfl⟩ := int_F ow2
                  have g1' := s2 _ _ g1
                  have lus : us.length = xs0.length := Rps.length _ _ g3
                  have hat : atI xs0 k = some (.int n) := by unfold atI; rw [ej]; exact exj
                  obtain ⟨u, hu1, hu2⟩ := g3.at hat
                  have hu2 : u = .int n := hu2
                  subst hu2
                  refine ⟨a, us, k, .int n, rfl, rfl, g1', hu1, ?_⟩
                  refine ⟨H0, O0, δ, Fs, S.grow (s1.trans s2), ?_⟩
                  rw [ee]
                  intro x H3 F3 s3 n3 nd3 ow3
                  have ow3 : Ow W H3 _ pe.1 pe.2 x F3 := ow3
                  rw [e2] at ow3
                  obtain ⟨rfl, rfl⟩ := int_F ow3
                  refine ⟨n, n2, rfl, rfl, ?_⟩
                  have ows : Ows W H3 (fun b => av O0 Fs (nms [ci, ce]) b ∨ b ∈ [([] : List Addr), []].flatten) [pi, pe] [.int k, .int n2] [[], []] := by
                    refine ⟨.int k, [.int n2], [], [[]], rfl, rfl, ?_, .int n2, [], [], [], rfl, rfl, ?_, rfl, rfl⟩
                    · rw [e1]
                      exact Ow.sh_any (O := fun _ => False) (d := .int k) rfl rfl
                    · rw [e2]
                      exact Ow.sh_any (O := fun _ => False) (d := .int n2) rfl rfl
                  obtain ⟨v', p', vs, xs, ys, k1, k2, k3, k4, k5, k6, k7⟩ := mut_fin (Gs := [[], []]) S ((s1.trans s2).trans s3) (fun b hb => by cases hb) List.nodup_nil ows q
                  rw [hv] at k1
                  cases k1
                  have := ((va.mono s2).mono s3).det k2
                  cases this
                  rw [s3 _ _ g1'] at k3
                  cases k3
                  have ejv : ixN us.length k = some j := by rw [lus]; exact ej
                  have huj : us[j]? = some (.int n) := by
                    unfold atI at hu1
                    rw [ejv] at hu1
                    exact hu1
                  exact ⟨a, us, k, j, rfl, rfl, s3 _ _ g1', ejv, k7 _ ⟨k, j, n2, n, rfl, ejv, huj, rfl⟩ (fun e => by cases e) (by rw [List.length_set]; exact k4)⟩
        | _ => exact q.elim
end
end TW

set_option Elab.async false
set_option linter.all false
set_option maxRecDepth 100000
set_option maxHeartbeats 4000000
namespace TW
open PySem PySem.Spec PyProof.Rows L2

section
variable {W : Wd} {X : Cx}
/-! ### targets -/
theorem g_one (i : Nat) {x : Str} {pos : Pos} (hN : X.N.Nodup) (hi : X.N[i]? = some x := by rfl) (hx : Loc X.env.scope x := by first | exact Or.inl rfl | exact Or.inr rfl) (hf : X.fn x = true ∨ X.env.scope.names.lookup x = some .local := by first | exact .inl rfl | exact .inr rfl) : PG X (.Name x pos) (gT X.K [i] true) :=
  pg_name hN hi hx hf
theorem g_two (i j : Nat) {x y : Str} {px py pos : Pos} {k : Nat} (hc : X.calm = true) (hN : X.N.Nodup) (hi : X.N[i]? = some x := by rfl) (hj : X.N[j]? = some y := by rfl) (hx : Loc X.env.scope x := by first | exact Or.inl rfl | exact Or.inr rfl) (hy : Loc X.env.scope y := by first | exact Or.inl rfl | exact Or.inr rfl)
    (hfx : X.fn x = true ∨ X.env.scope.names.lookup x = some .local := by first | exact .inl rfl | exact .inr rfl) (hfy : X.fn y = true ∨ X.env.scope.names.lookup y = some .local := by first | exact .inl rfl | exact .inr rfl) : PG X (.Tuple [.Name x px, .Name y py] k pos) (gT X.K [i, j] false) :=
  pg_tup hc (pgs_cons (pg_name hN hi hx hfx) (pgs_cons (pg_name hN hj hy hfy) pgs_nil))
end

/-! ### a def of the text, by its core -/
theorem ss_start {W : Wd} {H : Hp} {O : Addr → Prop} {ds : List D} {vs : List V} {N : List Str} {np nv : Nat} (hO : ∀ a, O a → H a ≠ none) (hr : Rps W H O ds vs) (hnp : ds.length = np) (hnv : N.length = nv) (hle : np ≤ nv) :
    SS W H O H (L2.start N vs) (start0 np nv ds) (List.replicate nv []) := by
  have hl : vs.length = ds.length := Rps.length _ _ hr
  have hfl : (List.replicate nv ([] : List Addr)).flatten = [] := by
    rw [List.flatten_replicate_nil]
  have hg : ∀ i, (List.replicate nv ([] : List Addr)).getD i [] = [] := fun i => by
    rw [List.getD_eq_getElem?_getD, List.getElem?_replicate]
    split <;> rfl
  have noF : ∀ a, a ∉ (List.replicate nv ([] : List Addr)).flatten := fun a ha => by rw [hfl] at ha; cases ha
  refine ⟨Same.refl H, ?_, ?_, fun i p e => ?_, (by rw [hfl]; exact List.nodup_nil), fun a ha => (noF a ha).elim, fun a _ ha => noF a ha, hO, fun a ha => (noF a ha).elim, fun i _ => hg i⟩
  · unfold L2.start start0
    simp only [List.length_append, List.length_map, List.length_replicate]
    omega
  · unfold L2.start
    simp only [List.length_append, List.length_map, List.length_replicate]
    omega
  · unfold start0 at e
    by_cases hi : i < ds.length
    · rw [List.getElem?_append_left (by rw [List.length_map]; exact hi), List.getElem?_map] at e
      cases ed : ds[i]? with
      | none => rw [ed] at e; cases e
      | some d =>
        rw [ed] at e
        cases e
        obtain ⟨Fs, k1⟩ := Rps.al hr
        obtain ⟨v, F, e1, e2, e3⟩ := k1.get ed
        refine ⟨v, ?_, ?_⟩
        · unfold L2.start
          rw [List.getElem?_append_left (by rw [List.length_map]; omega), List.getElem?_map, e1]
          rfl
        · rw [hg]
          exact ⟨rfl, Rp.mono (Same.refl H) (fun a z => z.elim id fun q => by rw [hfl] at q; cases q) _ _ e3.2⟩
    · rw [List.getElem?_append_right (by rw [List.length_map]; omega), List.getElem?_replicate] at e
      split at e <;> cases e
theorem fn_run {P : Program} {w : World} {mg : Str → Option Value} {base : Heap} {W : Wd} {PR : List Fun} {k i : Nat} {x qual : Str} {params : Arguments} {body : List Stmt} {scope : Scope} {kws : List (Str × V)} {f : Addr} {fd : FuncData} {N ps : List Str} {fu : Fun}
    (F : FunD W.K x qual params body scope [] kws f fd) (S : FnScope N ps scope) (hP : PR[i]? = some fu) (hnp : fu.np = ps.length) (hnv : fu.nv = N.length) (hle : ps.length ≤ N.length)
    (hb : ∀ (cdv : Value) (A : Around) (outer : List Env) (s : Shared) (H : Hp) (E : XK), Room k (A.deeper (envOfC qual scope s.heap.objs.size f cdv)) → PSs (cxOf (L2.CX P w) P w W.K mg base N qual scope f cdv A outer s H E) body (rdSs W E (run PR k) fu.body)) :
    FnOk P w W.K mg base (L2.CX P w) (k + 1) f fd ps (spP W ps.length (run PR (k + 1) i)) := by
  refine F.ok S (fun vs H Q E h => h.1) fun cdv A outer s H vs Q E hr h => ⟨_, hb cdv A outer s H E hr, ?_⟩
  obtain ⟨hl, ds, O, hO, hrp, hq⟩ := h
  have hld : ds.length = ps.length := by rw [← Rps.length _ _ hrp, hl]
  refine ⟨H, O, start0 fu.np fu.nv ds, List.replicate fu.nv [], ss_start hO hrp (by rw [hld, hnp]) hnv.symm (by rw [hnp, hnv]; exact hle), ?_⟩
  have e : run PR (k + 1) i ds = callF (run PR k) fu ds := by
    show (match PR[i]? with | some F => callF (run PR k) F ds | none => none) = _
    rw [hP]
  rw [e] at hq
  unfold callF at hq
  rw [if_pos (by rw [hld, hnp])] at hq
  revert hq
  cases exs (run PR k) fu.body (start0 fu.np fu.nv ds) with
  | none => exact fun h => h
  | some r =>
    cases r with
    | er C => exact fun h => h
    | ok fl =>
      cases fl with
      | rt m d => exact fun h v H' F s n nd ow => h v H' F s n nd ow
      | nx δ' => exact fun h σ' H' Fs' S' _ => h .non H' [] S'.same (fun _ z => by cases z) List.nodup_nil ⟨rfl, rfl⟩
/-- no calls are granted -/
theorem fn_zero {P : Program} {w : World} {mg : Str → Option Value} {base : Heap} {W : Wd} {PR : List Fun} {i : Nat} {f : Addr} {fd : FuncData} {ps : List Str} : FnOk P w W.K mg base (L2.CX P w) 0 f fd ps (spP W ps.length (run PR 0 i)) :=
  ⟨fun vs H Q E h => h.1, fun A outer s H args us vs Q E _ _ _ _ h => by
    obtain ⟨_, ds, O, _, _, hq⟩ := h
    exact hq.elim⟩
/-- a law: F gives the written part, the function object, the promise over every base; the script's bits are told -/
theorem walk_tw {l : PySem.W.OpenLaw} {n k : Nat} {q : Program} {loose : List Str} {XP : (Str → Option Value) → Heap → Prop} {YP : World → Heap → Prop} {d : DefRec} {x : Str} {PR : List Fun} {i : Nat}
    (hn : l.most = some n) (hn2 : n ≤ sizeLine) (hdf : d.params.defaults = []) (hr : Room k callerA)
    (F : ∀ (w : World) (mg : Str → Option Value) (fa : Addr) (h : Heap), YP w h → h.Ns mainGlobals mg → mg d.name = some (.ref fa) →
      ∃ (W : Wd) (fd : FuncData), W.K.In h ∧ (∀ (s : Shared) (u : Value), BindsTo s fd ⟨[u], []⟩ [(x, u)]) ∧
        ∀ base : Heap, W.K.In base → base.Ns mainGlobals mg → FnOk l.prog w W.K mg base (L2.CX l.prog w) k fa fd [x] (spP W 1 (run PR k i)))
    (hL : ∀ ns : List Int, ns.length ≤ n → (∀ z ∈ ns, Builtin.Int.intBits z ≤ 1048576) → ∃ m, run PR k i [.scr ns] = some (.ok (m, .bl true))) :
    PySem.W.WalkO q loose XP YP l.row.toRowW d [] (fun f vs => PySem.call f vs) := by
  refine Att.attach_callB hn hdf fun w s₀ s₁ mg mb fa o pm cd doc a vs ns G Y ho hd hcd hmg hobj hints hlen hbits hg => ?_
  obtain ⟨W, fd, KX, hb, hF⟩ := F w mg fa _ Y G.T.g hmg
  refine law_call KX G.T.g G.T.b G.T.builtins G.T.nolimit hg hobj hints (Nat.le_trans hlen hn2) hr hF hb (fun H hO hS => ?_) fun H e s' h => ?_
  · obtain ⟨m, e⟩ := hL ns hlen hbits
    have hsc : ScrAt W.K H a (ns.map V.int) := by
      rcases hS with (hS | hS) | hS
      · rcases hO a with z | ⟨ob, xs, z⟩
        · rw [hS] at z; cases z
        · rw [hS] at z; cases z
      · exact .inl hS
      · exact .inr hS
    refine ⟨rfl, [.scr ns], fun _ => False, fun _ z => z.elim, ⟨.ref a, [], rfl, ⟨a, rfl, hsc, Nat.le_trans hlen hn2⟩, rfl⟩, ?_⟩
    rw [e]
    intro v H' F' s n' nd ow
    have : Rp W H' (fun _ => False) (.bl true) v := ow.rp (fun _ z => z.elim) (fun _ _ z => z)
    exact this
  · obtain ⟨_, _, _, _, _, _, _, _, _, _, _, _, z⟩ := h
    exact z.elim
end TW

set_option Elab.async false
set_option linter.all false
set_option maxRecDepth 100000
set_option maxHeartbeats 4000000
namespace TW
open PySem PySem.Spec PyProof.Rows L2
section
variable {W : Wd} {E0 : XK} {T : Tb} {X : Cx}
/-! ### two, three names at once, by way of a tuple -/
theorem rdA_on {cs : List E} {σ : L2.St} {H : Hp} {Q : List V → Hp → Prop} (h : rdA W E0 T cs σ H Q) : rdA W E0 T cs σ H (fun vs H1 => ∀ H2, Same H1 H2 → Q vs H2) := by
  obtain ⟨H0, O0, δ, Fs, S, q⟩ := h
  refine ⟨H0, O0, δ, Fs, S, ?_⟩
  revert q
  cases evs T cs δ with
  | none => exact fun h => h
  | some r =>
    cases r with
    | er C => exact fun h => h
    | ok ps => exact fun q vs H1 Gs s1 n1 nd1 ow1 H2 s2 => q vs H2 Gs (s1.trans s2) n1 nd1 (ow1.mono s2 fun _ z => z)
theorem imp_rdA {cs : List E} {σ : L2.St} {H : Hp} {Q R : List V → Hp → Prop} (h : rdA W E0 T cs σ H Q) (k : ∀ vs H1, Q vs H1 → R vs H1) : rdA W E0 T cs σ H R := by
  obtain ⟨H0, O0, δ, Fs, S, q⟩ := h
  refine ⟨H0, O0, δ, Fs, S, ?_⟩
  revert q
  cases evs T cs δ with
  | none => exact fun h => h
  | some r =>
    cases r with
    | er C => exact fun h => h
    | ok ps => exact fun q vs H1 Gs s1 n1 nd1 ow1 => k _ _ (q vs H1 Gs s1 n1 nd1 ow1)
theorem s_parU {i j : Nat} {x y : Str} {a b : Expr} {ca cb : E} {px py pt pos : Pos} {kt k2 pt2} (hc : X.calm = true) (hN : X.N.Nodup) (ha : PA X [a, b] (rdA W E0 T [ca, cb])) (hi : X.N[i]? = some x := by rfl) (hj : X.N[j]? = some y := by rfl)
    (hx : Loc X.env.scope x := by first | exact Or.inl rfl | exact Or.inr rfl) (hy : Loc X.env.scope y := by first | exact Or.inl rfl | exact Or.inr rfl)
    (hfx : X.fn x = true ∨ X.env.scope.names.lookup x = some .local := by first | exact .inl rfl | exact .inr rfl) (hfy : X.fn y = true ∨ X.env.scope.names.lookup y = some .local := by first | exact .inl rfl | exact .inr rfl)
    (hs : swapsWithSole [.Tuple [.Name x px, .Name y py] kt pt] (.Tuple [a, b] k2 pt2) pos.line X.env = pure false := by rfl) (hw : swappedStores [.Tuple [.Name x px, .Name y py] kt pt] (.Tuple [a, b] k2 pt2) X.env = pure none := by rfl)
    (h1 : (assignEach [.Tuple [.Name x px, .Name y py] kt pt] X.env).map (·.2) = [assign (.Tuple [.Name x px, .Name y py] kt pt) X.env] := by rfl) :
    PS X (.Assign [.Tuple [.Name x px, .Name y py] kt pt] (.Tuple [a, b] k2 pt2) pos) (rdS W E0 T (.par [i, j] [ca, cb])) :=
  (ps_asg (pe_tup ha) (pg_tup hc (pgs_cons (pg_name hN hi hx hfx) (pgs_cons (pg_name hN hj hy hfy) pgs_nil))) hs hw h1).imp fun D σ H h => by
    refine imp_rdA (rdA_on (rd_par h)) fun vs H1 k => ?_
    have hl := (k H1 (Same.refl H1)).2
    match vs, hl, k with
    | [v, w], _, k =>
      refine ⟨(by simp [sizeLine]), fun p n => ⟨p, [v, w], rfl, .inl (.inl upd_same), rfl, v, [w], rfl, w, [], rfl, rfl, (k _ (same_new n)).1⟩⟩
theorem s_parU3 {i j l : Nat} {x y z : Str} {a b c : Expr} {ca cb cc : E} {px py pz pt pos : Pos} {kt k2 pt2} (hc : X.calm = true) (hN : X.N.Nodup) (ha : PA X [a, b, c] (rdA W E0 T [ca, cb, cc])) (hi : X.N[i]? = some x := by rfl) (hj : X.N[j]? = some y := by rfl) (hl : X.N[l]? = some z := by rfl)
    (hx : Loc X.env.scope x := by first | exact Or.inl rfl | exact Or.inr rfl) (hy : Loc X.env.scope y := by first | exact Or.inl rfl | exact Or.inr rfl) (hz : Loc X.env.scope z := by first | exact Or.inl rfl | exact Or.inr rfl)
    (hfx : X.fn x = true ∨ X.env.scope.names.lookup x = some .local := by first | exact .inl rfl | exact .inr rfl) (hfy : X.fn y = true ∨ X.env.scope.names.lookup y = some .local := by first | exact .inl rfl | exact .inr rfl) (hfz : X.fn z = true ∨ X.env.scope.names.lookup z = some .local := by first | exact .inl rfl | exact .inr rfl)
    (hs : swapsWithSole [.Tuple [.Name x px, .Name y py, .Name z pz] kt pt] (.Tuple [a, b, c] k2 pt2) pos.line X.env = pure false := by rfl) (hw : swappedStores [.Tuple [.Name x px, .Name y py, .Name z pz] kt pt] (.Tuple [a, b, c] k2 pt2) X.env = pure none := by rfl)
    (h1 : (assignEach [.Tuple [.Name x px, .Name y py, .Name z pz] kt pt] X.env).map (·.2) = [assign (.Tuple [.Name x px, .Name y py, .Name z pz] kt pt) X.env] := by rfl) :
    PS X (.Assign [.Tuple [.Name x px, .Name y py, .Name z pz] kt pt] (.Tuple [a, b, c] k2 pt2) pos) (rdS W E0 T (.par [i, j, l] [ca, cb, cc])) :=
  (ps_asg (pe_tup ha) (pg_tup hc (pgs_cons (pg_name hN hi hx hfx) (pgs_cons (pg_name hN hj hy hfy) (pgs_cons (pg_name hN hl hz hfz) pgs_nil)))) hs hw h1).imp fun D σ H h => by
    refine imp_rdA (rdA_on (rd_par h)) fun vs H1 k => ?_
    have hl := (k H1 (Same.refl H1)).2
    match vs, hl, k with
    | [u, v, w], _, k =>
      refine ⟨(by simp [sizeLine]), fun p n => ⟨p, [u, v, w], rfl, .inl (.inl upd_same), rfl, u, [v, w], rfl, v, [w], rfl, w, [], rfl, rfl, (k _ (same_new n)).1⟩⟩
end
end TW

set_option Elab.async false
set_option linter.all false
set_option maxRecDepth 100000
set_option maxHeartbeats 4000000
namespace TW
open PySem PySem.Spec PyProof.Rows L2
-- 0: fu_is_whole
def fu_is_whole : Fun := ⟨1, 1, [.ret (.and (.isi (.var 0) .int) (.not (.isi (.var 0) .bool)))]⟩
-- 1: fu_is_below
def fu_is_below : Fun := ⟨2, 2, [.ret (.and (.cal 0 [.var 0]) (.chn .le .lt (.lit (.int 0)) (.var 0) (.var 1)))]⟩
-- 2: fu_is_tie
def fu_is_tie : Fun := ⟨2, 2, [.ife (.or (.not (.isi (.var 0) .tuple)) (.or (.cmp .ne (.bi .len [.var 0]) (.lit (.int 2))) (.not (.cal 1 [.sub (.var 0) (.lit (.int 0)), .var 1])))) [.ret (.lit (.bl false))] [],
    .ret (.and (.cal 1 [.sub (.var 0) (.lit (.int 1)), .var 1]) (.cmp .lt (.sub (.var 0) (.lit (.int 0))) (.sub (.var 0) (.lit (.int 1)))))]⟩
-- 3: fu_is_web
def fu_is_web : Fun := ⟨1, 5, [.ife (.or (.not (.isi (.var 0) .tuple)) (.or (.cmp .ne (.bi .len [.var 0]) (.lit (.int 2))) (.not (.cal 1 [.sub (.var 0) (.lit (.int 0)), .bin .add (.lit (.int 24)) (.lit (.int 1))])))) [.ret (.lit (.bl false))] [],
    .asg 1 (.sub (.var 0) (.lit (.int 1))),
    .ife (.or (.not (.isi (.var 1) .list)) (.or (.cmp .gt (.bi .len [.var 1]) (.lit (.int 66))) (.not (.bi .all [.comp [4] true (.seq (.var 1)) [] (.cal 2 [.var 4, .sub (.var 0) (.lit (.int 0))])])))) [.ret (.lit (.bl false))] [],
    .ret (.bi .all [.comp [2, 3] false (.zip (.var 1) (.slc true false (.var 1) (.lit (.int 1)) (.lit .non))) [] (.cmp .lt (.var 2) (.var 3))])]⟩
-- 4: fu_check_web
def fu_check_web : Fun := ⟨1, 1, [.ife (.not (.cal 3 [.var 0])) [.rai 1] []]⟩
-- 5: fu_near_of
def fu_near_of_b0 : List S := [.mut 1 [.var 2] .append [.var 3],
    .mut 1 [.var 3] .append [.var 2]]
def fu_near_of : Fun := ⟨1, 6, [.asg 1 (.comp [4] true (.rng (.lit (.int 0)) (.sub (.var 0) (.lit (.int 0)))) [] (.lst [])),
    .for_ [2, 3] false (.seq (.sub (.var 0) (.lit (.int 1)))) fu_near_of_b0,
    .ret (.comp [5] true (.seq (.var 1)) [] (.bi .sorted [.var 5]))]⟩
-- 6: fu_near
def fu_near : Fun := ⟨1, 1, [.exp (.cal 4 [.var 0]),
    .ret (.cal 5 [.var 0])]⟩
-- 7: fu_pieces_of
def fu_pieces_of_b0 : List S := [.dput 3 (.var 8) (.lit (.bl true))]
def fu_pieces_of_b1 : List S := [.asg 7 (.comp [8] true (.seq (.sub (.var 2) (.sub (.var 5) (.var 6)))) [.cmp .notin (.var 8) (.var 3)] (.var 8)),
    .for_ [8] true (.seq (.var 7)) fu_pieces_of_b0,
    .par [5, 6] [.bin .add (.var 5) (.var 7), .bin .add (.var 6) (.lit (.int 1))]]
def fu_pieces_of_b2 : List S := [.ife (.cmp .notin (.var 1) (.var 3)) [.dput 3 (.var 1) (.lit (.bl true)),
    .par [5, 6] [.lst [.var 1], .lit (.int 0)],
    .whl (.cmp .lt (.var 6) (.bi .len [.var 5])) fu_pieces_of_b1,
    .mut 4 [] .append [.bi .sorted [.var 5]]] []]
def fu_pieces_of : Fun := ⟨1, 9, [.par [2, 3, 4] [.cal 5 [.var 0], .dnew, .lst []],
    .for_ [1] true (.rng (.lit (.int 0)) (.sub (.var 0) (.lit (.int 0)))) fu_pieces_of_b2,
    .ret (.var 4)]⟩
-- 8: fu_pieces
def fu_pieces : Fun := ⟨1, 1, [.exp (.cal 4 [.var 0]),
    .ret (.cal 7 [.var 0])]⟩
-- 9: fu_law_number
def fu_law_number : Fun := ⟨3, 5, [.ife (.cmp .ge (.var 0) (.bin .pow (.lit (.int 10)) (.lit (.int 18)))) [.ret (.var 0)] [],
    .asg 3 (.bin .mod (.bin .add (.bin .mul (.bin .add (.var 0) (.bin .mul (.lit (.int 977)) (.var 1))) (.lit (.int 48271))) (.var 2)) (.lit (.int 2147483647))),
    .asg 4 (.bin .mul (.bin .mul (.var 3) (.bin .add (.bin .add (.var 3) (.bin .mul (.lit (.int 31)) (.var 1))) (.lit (.int 7)))) (.bin .add (.bin .add (.var 3) (.var 0)) (.lit (.int 5)))),
    .ret (.bin .fdiv (.bin .mul (.var 4) (.bin .add (.var 4) (.lit (.int 48271)))) (.lit (.int 1009)))]⟩
-- 10: fu_law_web
def fu_law_web_b0 : List S := [.asg 10 (.bin .fdiv (.cal 9 [.sub (.var 4) (.bin .mod (.bin .add (.var 7) (.var 1)) (.bi .len [.var 4])), .bin .add (.var 7) (.var 1), .var 5]) (.lit (.int 3))),
    .ife (.cmp .gt (.var 8) (.lit (.int 1))) [.asg 11 (.sub (.tup [.bin .mod (.var 10) (.var 8), .bin .mod (.var 7) (.var 8), .lit (.int 0), .bin .mod (.var 10) (.var 8), .bin .mod (.var 7) (.var 8)]) (.var 9)),
    .asg 12 (.sub (.tup [.bin .mod (.bin .fdiv (.var 10) (.lit (.int 61))) (.var 8), .bin .mod (.bin .add (.var 7) (.lit (.int 1))) (.var 8), .bin .add (.lit (.int 1)) (.bin .mod (.var 7) (.bin .sub (.var 8) (.lit (.int 1)))), .bin .mod (.bin .add (.var 11) (.lit (.int 1))) (.var 8), .bin .mod (.var 10) (.var 8)]) (.var 9)),
    .asg 13 (.tup [.bi .min [.var 11, .var 12], .bi .max [.var 11, .var 12]]),
    .ife (.and (.cmp .ne (.var 11) (.var 12)) (.cmp .notin (.var 13) (.var 6))) [.mut 6 [] .append [.var 13]] []] []]
def fu_law_web : Fun := ⟨4, 14, [.asg 4 (.ite (.cmp .ne (.var 0) (.lst [])) (.slc false true (.var 0) (.lit .non) (.lit (.int 63))) (.lst [.lit (.int 5)])),
    .asg 5 (.bin .add (.bi .sum [.var 4]) (.var 1)),
    .par [8, 9] [.bin .mod (.var 5) (.bin .add (.var 2) (.lit (.int 1))), .bin .mod (.bin .fdiv (.var 5) (.lit (.int 7))) (.lit (.int 5))],
    .asg 6 (.lst []),
    .for_ [7] true (.rng (.lit (.int 0)) (.var 3)) fu_law_web_b0,
    .ret (.tup [.var 8, .bi .sorted [.var 6]])]⟩
-- 11: fu_law_near
def fu_law_near_b0 : List S := [.mut 1 [.var 2] .append [.var 3],
    .mut 1 [.var 3] .append [.var 2]]
def fu_law_near : Fun := ⟨1, 6, [.asg 1 (.comp [4] true (.rng (.lit (.int 0)) (.sub (.var 0) (.lit (.int 0)))) [] (.lst [])),
    .for_ [2, 3] false (.seq (.sub (.var 0) (.lit (.int 1)))) fu_law_near_b0,
    .ret (.comp [5] true (.seq (.var 1)) [] (.bi .sorted [.var 5]))]⟩
-- 12: fu_law_copied
def fu_law_copied : Fun := ⟨1, 1, [.ret (.tup [.sub (.var 0) (.lit (.int 0)), .bi .list [.sub (.var 0) (.lit (.int 1))]])]⟩
-- 13: fu_law_pieces
def fu_law_pieces_b0 : List S := [.par [4, 5] [.bi .min [.sub (.var 1) (.var 2), .sub (.var 1) (.var 3)], .bi .max [.sub (.var 1) (.var 2), .sub (.var 1) (.var 3)]],
    .asg 1 (.comp [6] true (.seq (.var 1)) [] (.ite (.cmp .eq (.var 6) (.var 5)) (.var 4) (.var 6)))]
def fu_law_pieces : Fun := ⟨1, 8, [.asg 1 (.bi .lrng [.lit (.int 0), .sub (.var 0) (.lit (.int 0))]),
    .for_ [2, 3] false (.seq (.sub (.var 0) (.lit (.int 1)))) fu_law_pieces_b0,
    .ret (.comp [6] true (.seq (.bi .ssort [.var 1])) [] (.comp [7] true (.rng (.lit (.int 0)) (.sub (.var 0) (.lit (.int 0)))) [.cmp .eq (.sub (.var 1) (.var 7)) (.var 6)] (.var 7)))]⟩
-- 14: fu_law_right
def fu_law_right_b0 : List S := [.mut 6 [.var 7] .append [.lit (.int 0)],
    .ife (.cmp .ne (.slc true false (.var 6) (.bin .add (.var 7) (.lit (.int 1))) (.lit .non)) (.slc true false (.var 5) (.bin .add (.var 7) (.lit (.int 1))) (.lit .non))) [.ret (.lit (.bl false))] []]
def fu_law_right_b1 : List S := [.asg 6 (.cav (.var 0) [.var 4]),
    .ife (.or (.not (.isi (.var 6) .list)) (.or (.cmp .ne (.var 6) (.var 5)) (.cmp .ne (.var 4) (.var 1)))) [.ret (.lit (.bl false))] [],
    .ife (.not (.bi .all [.comp [8] true (.seq (.var 6)) [] (.isi (.var 8) .list)])) [.ret (.lit (.bl false))] [],
    .for_ [7] true (.rng (.lit (.int 0)) (.bi .len [.var 6])) fu_law_right_b0,
    .mut 6 [] .append [.lst []]]
def fu_law_right : Fun := ⟨3, 9, [.par [4, 5] [.cal 12 [.var 1], .cav (.var 2) [.var 1]],
    .for_ [3] true (.rng (.lit (.int 0)) (.lit (.int 2))) fu_law_right_b1,
    .ife (.cmp .ne (.sub (.var 4) (.lit (.int 1))) (.lst [])) [.mut 4 [.lit (.int 1)] .pop [.bin .fdiv (.bi .len [.sub (.var 4) (.lit (.int 1))]) (.lit (.int 2))]] [],
    .ret (.cmp .eq (.cav (.var 0) [.var 4]) (.cav (.var 2) [.var 4]))]⟩
-- 15: fu_law
def fu_law_b0 : List S := [.asg 2 (.cal 10 [.var 0, .var 1, .lit (.int 24), .lit (.int 30)]),
    .ife (.or (.not (.cal 14 [.lit (.fn 6), .var 2, .lit (.fn 11)])) (.not (.cal 14 [.lit (.fn 8), .var 2, .lit (.fn 13)]))) [.ret (.lit (.bl false))] []]
def fu_law : Fun := ⟨1, 3, [.for_ [1] true (.rng (.lit (.int 0)) (.lit (.int 3))) fu_law_b0,
    .ret (.and (.cmp .eq (.cal 8 [.tup [.lit (.int 4), .lst [.tup [.lit (.int 1), .lit (.int 3)]]]]) (.lst [.lst [.lit (.int 0)], .lst [.lit (.int 1), .lit (.int 3)], .lst [.lit (.int 2)]])) (.cmp .eq (.cal 6 [.tup [.lit (.int 3), .lst [.tup [.lit (.int 0), .lit (.int 2)], .tup [.lit (.int 1), .lit (.int 2)]]]]) (.lst [.lst [.lit (.int 2)], .lst [.lit (.int 2)], .lst [.lit (.int 0), .lit (.int 1)]])))]⟩
-- 16: fu_cut_of
def fu_cut_of : Fun := ⟨2, 5, [.asg 2 (.comp [3, 4] false (.seq (.sub (.var 0) (.lit (.int 1)))) [.and (.cmp .isin (.var 3) (.var 1)) (.cmp .isin (.var 4) (.var 1))] (.tup [.mix (.var 1) (.var 3), .mix (.var 1) (.var 4)])),
    .ret (.tup [.bi .len [.var 1], .var 2])]⟩
-- 17: fu_are_places
def fu_are_places : Fun := ⟨2, 5, [.ife (.or (.not (.isi (.var 1) .list)) (.not (.bi .all [.comp [4] true (.seq (.var 1)) [] (.cal 1 [.var 4, .sub (.var 0) (.lit (.int 0))])]))) [.ret (.lit (.bl false))] [],
    .ret (.bi .all [.comp [2, 3] false (.zip (.var 1) (.slc true false (.var 1) (.lit (.int 1)) (.lit .non))) [] (.cmp .lt (.var 2) (.var 3))])]⟩
-- 18: fu_cut_down
def fu_cut_down : Fun := ⟨2, 2, [.exp (.cal 4 [.var 0]),
    .ife (.not (.cal 17 [.var 0, .var 1])) [.rai 2] [],
    .ret (.cal 16 [.var 0, .var 1])]⟩
-- 19: fu_check_order
def fu_check_order : Fun := ⟨2, 3, [.ife (.or (.not (.isi (.var 0) .list)) (.not (.bi .all [.comp [2] true (.seq (.var 0)) [] (.cal 0 [.var 2])]))) [.rai 3] [],
    .ife (.cmp .ne (.bi .sorted [.var 0]) (.bi .lrng [.lit (.int 0), .var 1])) [.rai 3] []]⟩
-- 20: fu_renamed_by
def fu_renamed_by_b0 : List S := [.mut 2 [] .append [.tup [.bi .min [.mix (.var 1) (.var 3), .mix (.var 1) (.var 4)], .bi .max [.mix (.var 1) (.var 3), .mix (.var 1) (.var 4)]]]]
def fu_renamed_by : Fun := ⟨2, 5, [.asg 2 (.lst []),
    .for_ [3, 4] false (.seq (.sub (.var 0) (.lit (.int 1)))) fu_renamed_by_b0,
    .ret (.tup [.sub (.var 0) (.lit (.int 0)), .bi .sorted [.var 2]])]⟩
-- 21: fu_renamed
def fu_renamed : Fun := ⟨2, 2, [.exp (.cal 4 [.var 0]),
    .exp (.cal 19 [.var 1, .sub (.var 0) (.lit (.int 0))]),
    .ret (.cal 20 [.var 0, .var 1])]⟩
-- 22: fu_beside
def fu_beside : Fun := ⟨2, 4, [.exp (.cal 4 [.var 0]),
    .exp (.cal 4 [.var 1]),
    .ife (.or (.cmp .gt (.bin .add (.sub (.var 0) (.lit (.int 0))) (.sub (.var 1) (.lit (.int 0)))) (.lit (.int 24))) (.cmp .gt (.bin .add (.bi .len [.sub (.var 0) (.lit (.int 1))]) (.bi .len [.sub (.var 1) (.lit (.int 1))])) (.lit (.int 66)))) [.rai 4] [],
    .ret (.tup [.bin .add (.sub (.var 0) (.lit (.int 0))) (.sub (.var 1) (.lit (.int 0))), .bin .add (.sub (.var 0) (.lit (.int 1))) (.comp [2, 3] false (.seq (.sub (.var 1) (.lit (.int 1)))) [] (.tup [.bin .add (.var 2) (.sub (.var 0) (.lit (.int 0))), .bin .add (.var 3) (.sub (.var 0) (.lit (.int 0)))]))])]⟩
-- 25: fu_law_whole
def fu_law_whole : Fun := ⟨1, 1, [.ret (.and (.isi (.var 0) .int) (.not (.isi (.var 0) .bool)))]⟩
-- 26: fu_law_is_web
def fu_law_is_web_b0 : List S := [.ife (.or (.not (.isi (.var 1) .tuple)) (.or (.cmp .ne (.bi .len [.var 1]) (.lit (.int 2))) (.or (.not (.cal 25 [.sub (.var 1) (.lit (.int 0))])) (.not (.cal 25 [.sub (.var 1) (.lit (.int 1))]))))) [.ret (.lit (.bl false))] [],
    .ife (.not (.chn3 .le .lt .lt (.lit (.int 0)) (.sub (.var 1) (.lit (.int 0))) (.sub (.var 1) (.lit (.int 1))) (.sub (.var 0) (.lit (.int 0))))) [.ret (.lit (.bl false))] []]
def fu_law_is_web : Fun := ⟨1, 2, [.ife (.or (.not (.isi (.var 0) .tuple)) (.or (.cmp .ne (.bi .len [.var 0]) (.lit (.int 2))) (.or (.not (.cal 25 [.sub (.var 0) (.lit (.int 0))])) (.not (.isi (.sub (.var 0) (.lit (.int 1))) .list))))) [.ret (.lit (.bl false))] [],
    .for_ [1] true (.seq (.sub (.var 0) (.lit (.int 1)))) fu_law_is_web_b0,
    .ret (.cmp .eq (.sub (.var 0) (.lit (.int 1))) (.bi .ssort [.sub (.var 0) (.lit (.int 1))]))]⟩
-- 27: fu_law_cut
def fu_law_cut : Fun := ⟨2, 5, [.asg 2 (.comp [3, 4] false (.seq (.sub (.var 0) (.lit (.int 1)))) [.and (.cmp .isin (.var 3) (.var 1)) (.cmp .isin (.var 4) (.var 1))] (.tup [.mix (.var 1) (.var 3), .mix (.var 1) (.var 4)])),
    .ret (.tup [.bi .len [.var 1], .bi .sorted [.var 2]])]⟩
-- 28: fu_law_order
def fu_law_order_b0 : List S := [.asg 6 (.cal 9 [.sub (.var 3) (.bin .mod (.bin .add (.var 5) (.var 1)) (.bi .len [.var 3])), .bin .add (.bin .add (.var 5) (.var 1)) (.lit (.int 3)), .var 2]),
    .mut 4 [] .insert [.bin .mod (.var 6) (.bin .add (.var 5) (.lit (.int 1))), .var 5]]
def fu_law_order : Fun := ⟨3, 7, [.asg 3 (.ite (.cmp .ne (.var 0) (.lst [])) (.slc false true (.var 0) (.lit .non) (.lit (.int 63))) (.lst [.lit (.int 6)])),
    .asg 4 (.lst []),
    .for_ [5] true (.rng (.lit (.int 0)) (.var 2)) fu_law_order_b0,
    .ret (.var 4)]⟩
-- 29: fu_law_renamed
def fu_law_renamed : Fun := ⟨2, 6, [.asg 2 (.comp [3, 4] false (.seq (.sub (.var 0) (.lit (.int 1)))) [] (.bi .sorted [.lst [.mix (.var 1) (.var 3), .mix (.var 1) (.var 4)]])),
    .ret (.tup [.sub (.var 0) (.lit (.int 0)), .bi .sorted [.comp [5] true (.seq (.var 2)) [] (.tup [.sub (.var 5) (.lit (.int 0)), .sub (.var 5) (.lit (.int 1))])]])]⟩
-- 30: fu_law_2
def fu_law_2_b0 : List S := [.mut 10 [.lit (.int 1)] .append [.tup [.lit (.int 0), .lit (.int 0)]]]
def fu_law_2_b1 : List S := [.par [11, 12] [.cal 10 [.var 0, .var 2, .lit (.int 12), .lit (.int 20)], .cal 10 [.var 0, .bin .add (.var 2) (.lit (.int 4)), .lit (.int 8), .lit (.int 12)]],
    .asg 3 (.comp [13] true (.rng (.lit (.int 0)) (.sub (.var 11) (.lit (.int 0)))) [.cmp .gt (.bin .mod (.cal 9 [.bin .add (.var 1) (.var 13), .var 2, .lit (.int 3)]) (.lit (.int 3))) (.lit (.int 0))] (.var 13)),
    .asg 4 (.cal 28 [.var 0, .var 2, .sub (.var 11) (.lit (.int 0))]),
    .asg 5 (.lst [.cal 12 [.var 11], .cal 12 [.var 12], .bi .list [.var 3], .bi .list [.var 4]]),
    .asg 6 (.lst [.cal 18 [.sub (.var 5) (.lit (.int 0)), .sub (.var 5) (.lit (.int 2))], .cal 21 [.sub (.var 5) (.lit (.int 0)), .sub (.var 5) (.lit (.int 3))], .cal 22 [.sub (.var 5) (.lit (.int 0)), .sub (.var 5) (.lit (.int 1))]]),
    .asg 7 (.comp [10, 14] false (.seq (.sub (.var 12) (.lit (.int 1)))) [] (.tup [.bin .add (.var 10) (.sub (.var 11) (.lit (.int 0))), .bin .add (.var 14) (.sub (.var 11) (.lit (.int 0)))])),
    .asg 8 (.lst [.cal 27 [.var 11, .var 3], .cal 29 [.var 11, .var 4], .tup [.bin .add (.sub (.var 11) (.lit (.int 0))) (.sub (.var 12) (.lit (.int 0))), .bin .add (.sub (.var 11) (.lit (.int 1))) (.var 7)]]),
    .ife (.or (.cmp .ne (.var 6) (.var 8)) (.or (.not (.bi .all [.comp [10] true (.seq (.var 6)) [] (.cal 26 [.var 10])])) (.cmp .ne (.var 5) (.lst [.var 11, .var 12, .var 3, .var 4])))) [.ret (.lit (.bl false))] [],
    .asg 9 (.comp [13] true (.rng (.lit (.int 0)) (.sub (.var 11) (.lit (.int 0)))) [] (.mix (.var 4) (.var 13))),
    .ife (.or (.cmp .ne (.cal 21 [.sub (.var 6) (.lit (.int 1)), .var 9]) (.var 11)) (.cmp .ne (.cal 22 [.var 11, .tup [.lit (.int 0), .lst []]]) (.var 11))) [.ret (.lit (.bl false))] [],
    .for_ [10] true (.seq (.var 6)) fu_law_2_b0,
    .ife (.or (.cmp .ne (.var 5) (.lst [.var 11, .var 12, .var 3, .var 4])) (.cmp .ne (.cal 18 [.var 11, .var 3]) (.cal 27 [.var 11, .var 3]))) [.ret (.lit (.bl false))] [],
    .mut 5 [.lit (.int 3)] .reverse [],
    .ife (.cmp .ne (.sub (.sub (.var 5) (.lit (.int 0))) (.lit (.int 1))) (.lst [])) [.mut 5 [.lit (.int 1), .lit (.int 0)] .pop []] [],
    .ife (.cmp .ne (.sub (.var 5) (.lit (.int 2))) (.lst [])) [.mut 5 [.lit (.int 2)] .pop [.lit (.int 0)]] [],
    .ife (.cmp .ne (.cal 18 [.sub (.var 5) (.lit (.int 0)), .sub (.var 5) (.lit (.int 2))]) (.cal 27 [.sub (.var 5) (.lit (.int 0)), .sub (.var 5) (.lit (.int 2))])) [.ret (.lit (.bl false))] [],
    .ife (.cmp .ne (.cal 21 [.sub (.var 5) (.lit (.int 0)), .sub (.var 5) (.lit (.int 3))]) (.cal 29 [.sub (.var 5) (.lit (.int 0)), .sub (.var 5) (.lit (.int 3))])) [.ret (.lit (.bl false))] [],
    .ife (.cmp .ne (.cal 22 [.sub (.var 5) (.lit (.int 0)), .var 12]) (.tup [.bin .add (.sub (.var 11) (.lit (.int 0))) (.sub (.var 12) (.lit (.int 0))), .bin .add (.sub (.sub (.var 5) (.lit (.int 0))) (.lit (.int 1))) (.var 7)])) [.ret (.lit (.bl false))] []]
def fu_law_2 : Fun := ⟨1, 15, [.asg 1 (.bi .sum [.slc false true (.var 0) (.lit .non) (.lit (.int 63))]),
    .for_ [2] true (.rng (.lit (.int 0)) (.lit (.int 3))) fu_law_2_b1,
    .ret (.and (.cmp .eq (.cal 18 [.tup [.lit (.int 4), .lst [.tup [.lit (.int 0), .lit (.int 1)], .tup [.lit (.int 1), .lit (.int 3)]]], .lst [.lit (.int 1), .lit (.int 3)]]) (.tup [.lit (.int 2), .lst [.tup [.lit (.int 0), .lit (.int 1)]]])) (.cmp .eq (.cal 21 [.tup [.lit (.int 2), .lst [.tup [.lit (.int 0), .lit (.int 1)]]], .lst [.lit (.int 1), .lit (.int 0)]]) (.tup [.lit (.int 2), .lst [.tup [.lit (.int 0), .lit (.int 1)]]])))]⟩
-- 31: fu_check_few_ties
def fu_check_few_ties : Fun := ⟨2, 2, [.ife (.or (.not (.cal 3 [.var 0])) (.cmp .gt (.bi .len [.sub (.var 0) (.lit (.int 1))]) (.var 1))) [.rai 1] []]⟩
-- 32: fu_tie_web_of
def fu_tie_web_of_b0 : List S := [.ife (.or (.cmp .isin (.sub (.sub (.var 1) (.var 5)) (.lit (.int 0))) (.var 4)) (.cmp .isin (.sub (.sub (.var 1) (.var 5)) (.lit (.int 1))) (.var 4))) [.mut 2 [] .append [.tup [.var 3, .var 5]]] []]
def fu_tie_web_of_b1 : List S := [.for_ [5] true (.rng (.bin .add (.var 3) (.lit (.int 1))) (.bi .len [.var 1])) fu_tie_web_of_b0]
def fu_tie_web_of : Fun := ⟨1, 6, [.par [1, 2] [.sub (.var 0) (.lit (.int 1)), .lst []],
    .for_ [3, 4] false (.enu (.var 1)) fu_tie_web_of_b1,
    .ret (.tup [.bi .len [.var 1], .var 2])]⟩
-- 33: fu_tie_web
def fu_tie_web : Fun := ⟨1, 1, [.exp (.cal 31 [.var 0, .lit (.int 10)]),
    .ret (.cal 32 [.var 0])]⟩
-- 34: fu_tied_many
def fu_tied_many_b0 : List S := [.mut 1 [] .aug [.var 2, .lit (.int 1)],
    .mut 1 [] .aug [.var 3, .lit (.int 1)]]
def fu_tied_many : Fun := ⟨1, 5, [.exp (.cal 4 [.var 0]),
    .asg 1 (.bin .mul (.lst [.lit (.int 0)]) (.sub (.var 0) (.lit (.int 0)))),
    .for_ [2, 3] false (.seq (.sub (.var 0) (.lit (.int 1)))) fu_tied_many_b0,
    .ret (.bi .sum [.comp [4] true (.seq (.var 1)) [] (.bin .fdiv (.bin .mul (.var 4) (.bin .sub (.var 4) (.lit (.int 1)))) (.lit (.int 2)))])]⟩
-- 35: fu_law_tie_web
def fu_law_tie_web_b0 : List S := [.asg 1 (.bin .add (.var 1) (.comp [4] true (.rng (.lit (.int 0)) (.var 2)) [.or (.cmp .isin (.sub (.sub (.sub (.var 0) (.lit (.int 1))) (.var 4)) (.lit (.int 0))) (.var 3)) (.cmp .isin (.sub (.sub (.sub (.var 0) (.lit (.int 1))) (.var 4)) (.lit (.int 1))) (.var 3))] (.tup [.var 4, .var 2])))]
def fu_law_tie_web : Fun := ⟨1, 5, [.asg 1 (.lst []),
    .for_ [2, 3] false (.enu (.sub (.var 0) (.lit (.int 1)))) fu_law_tie_web_b0,
    .ret (.tup [.bi .len [.sub (.var 0) (.lit (.int 1))], .bi .sorted [.var 1]])]⟩
-- 36: fu_law_3
def fu_law_3_b0 : List S := [.asg 10 (.comp [11, 12] false (.enu (.sub (.var 2) (.lit (.int 1)))) [.cmp .isin (.sub (.var 12) (.lit (.int 0))) (.var 6)] (.var 11)),
    .ife (.cmp .ne (.var 10) (.lst [])) [.mut 5 [] .append [.var 10]] []]
def fu_law_3_b1 : List S := [.asg 2 (.cal 10 [.var 0, .var 1, .lit (.int 12), .lit (.int 10)]),
    .asg 3 (.cal 12 [.var 2]),
    .asg 4 (.cal 33 [.var 3]),
    .ife (.or (.not (.cal 26 [.var 4])) (.or (.cmp .ne (.var 4) (.cal 35 [.var 2])) (.cmp .ne (.var 3) (.var 2)))) [.ret (.lit (.bl false))] [],
    .ife (.cmp .ne (.cal 34 [.var 2]) (.bi .len [.sub (.var 4) (.lit (.int 1))])) [.ret (.lit (.bl false))] [],
    .asg 5 (.lst []),
    .for_ [6] true (.seq (.cal 13 [.var 2])) fu_law_3_b0,
    .ife (.cmp .ne (.cal 8 [.var 4]) (.bi .sorted [.var 5])) [.ret (.lit (.bl false))] [],
    .mut 4 [.lit (.int 1)] .append [.tup [.lit (.int 0), .lit (.int 0)]],
    .ife (.cmp .ne (.cal 33 [.var 3]) (.cal 35 [.var 2])) [.ret (.lit (.bl false))] [],
    .ife (.cmp .ne (.sub (.var 3) (.lit (.int 1))) (.lst [])) [.mut 3 [.lit (.int 1)] .pop [.bin .fdiv (.bi .len [.sub (.var 3) (.lit (.int 1))]) (.lit (.int 2))],
    .ife (.or (.cmp .ne (.cal 33 [.var 3]) (.cal 35 [.var 3])) (.cmp .ne (.cal 34 [.var 3]) (.bi .len [.sub (.cal 35 [.var 3]) (.lit (.int 1))]))) [.ret (.lit (.bl false))] []] [],
    .asg 7 (.cal 10 [.var 0, .bin .add (.var 1) (.lit (.int 2)), .lit (.int 24), .lit (.int 30)]),
    .asg 8 (.comp [6] true (.seq (.cal 11 [.var 7])) [] (.bi .len [.var 6])),
    .asg 9 (.cal 34 [.var 7]),
    .ife (.or (.not (.cal 25 [.var 9])) (.cmp .ne (.var 9) (.bin .fdiv (.bi .sum [.comp [13] true (.seq (.var 8)) [] (.bin .mul (.var 13) (.bin .sub (.var 13) (.lit (.int 1))))]) (.lit (.int 2))))) [.ret (.lit (.bl false))] []]
def fu_law_3 : Fun := ⟨1, 14, [.for_ [1] true (.rng (.lit (.int 0)) (.lit (.int 3))) fu_law_3_b1,
    .ret (.and (.cmp .eq (.cal 33 [.tup [.lit (.int 4), .lst [.tup [.lit (.int 0), .lit (.int 1)], .tup [.lit (.int 0), .lit (.int 2)], .tup [.lit (.int 0), .lit (.int 3)]]]]) (.tup [.lit (.int 3), .lst [.tup [.lit (.int 0), .lit (.int 1)], .tup [.lit (.int 0), .lit (.int 2)], .tup [.lit (.int 1), .lit (.int 2)]]])) (.cmp .eq (.cal 33 [.tup [.lit (.int 3), .lst []]]) (.tup [.lit (.int 0), .lst []])))]⟩
-- 37: fu_check_small
def fu_check_small : Fun := ⟨1, 1, [.exp (.cal 38 [.var 0, .lit (.int 10)])]⟩
-- 38: fu_check_places
def fu_check_places : Fun := ⟨2, 2, [.ife (.or (.not (.cal 3 [.var 0])) (.cmp .gt (.sub (.var 0) (.lit (.int 0))) (.var 1))) [.rai 1] []]⟩
-- 39: fu_is_cover_of
def fu_is_cover_of_b0 : List S := [.mut 4 [] .aug [.var 6, .lit (.int 1)],
    .mut 3 [] .extend [.comp [8] true (.seq (.slc false true (.var 2) (.lit .non) (.var 5))) [] (.tup [.var 8, .var 6])]]
def fu_is_cover_of_b1 : List S := [.ife (.or (.cmp .lt (.bi .len [.var 2]) (.lit (.int 2))) (.not (.bi .all [.comp [6] true (.seq (.var 2)) [] (.cal 1 [.var 6, .sub (.var 0) (.lit (.int 0))])]))) [.ret (.lit (.bl false))] [],
    .for_ [5, 6] false (.enu (.var 2)) fu_is_cover_of_b0]
def fu_is_cover_of : Fun := ⟨2, 9, [.par [3, 4] [.lst [], .bin .mul (.lst [.lit (.int 0)]) (.sub (.var 0) (.lit (.int 0)))],
    .for_ [2] true (.seq (.var 1)) fu_is_cover_of_b1,
    .ret (.and (.cmp .eq (.bi .sorted [.var 3]) (.sub (.var 0) (.lit (.int 1)))) (.and (.bi .all [.comp [7] true (.seq (.var 4)) [] (.cmp .lt (.var 7) (.lit (.int 3)))]) (.cmp .eq (.var 1) (.bi .sorted [.var 1]))))]⟩
-- 40: fu_all_tied
def fu_all_tied : Fun := ⟨3, 4, [.ret (.bi .all [.comp [3] true (.seq (.var 0)) [] (.cmp .isin (.tup [.bi .min [.var 3, .var 1], .bi .max [.var 3, .var 1]]) (.var 2))])]⟩
-- 41: fu_groups_with
def fu_groups_with_b0 : List S := [.ife (.and (.cmp .notin (.var 4) (.var 0)) (.cmp .lt (.sub (.var 2) (.var 4)) (.lit (.int 2)))) [.asg 3 (.bin .add (.comp [5] true (.seq (.var 3)) [.cal 40 [.var 5, .var 4, .var 1]] (.bin .add (.var 5) (.lst [.var 4]))) (.var 3))] []]
def fu_groups_with : Fun := ⟨3, 6, [.asg 3 (.lst [.bi .list [.var 0]]),
    .for_ [4] true (.rng (.lit (.int 0)) (.bi .len [.var 2])) fu_groups_with_b0,
    .ret (.comp [5] true (.seq (.var 3)) [] (.bi .sorted [.var 5]))]⟩
-- 42: fu_fits
def fu_fits_b0 : List S := [.asg 4 (.comp [5, 6] false (.seq (.var 0)) [.cmp .isin (.var 2) (.tup [.var 5, .var 6])] (.bin .sub (.bin .add (.var 5) (.var 6)) (.var 2))),
    .ife (.and (.cmp .eq (.var 3) (.lit (.int 2))) (.cmp .ne (.var 4) (.lst []))) [.ret (.lit (.bl false))] [],
    .ife (.and (.cmp .eq (.var 3) (.lit (.int 1))) (.not (.bi .all [.comp [7, 5] false (.enu (.var 4)) [] (.cal 40 [.slc false true (.var 4) (.lit .non) (.var 7), .var 5, .var 0])]))) [.ret (.lit (.bl false))] []]
def fu_fits : Fun := ⟨2, 8, [.for_ [2, 3] false (.enu (.var 1)) fu_fits_b0,
    .ret (.lit (.bl true))]⟩
-- 43: fu_grown
def fu_grown_b0 : List S := [.asg 4 (.comp [7] true (.seq (.var 0)) [.or (.cmp .notin (.sub (.var 7) (.lit (.int 0))) (.var 3)) (.cmp .notin (.sub (.var 7) (.lit (.int 1))) (.var 3))] (.var 7)),
    .asg 5 (.comp [8, 9] false (.enu (.var 1)) [] (.ite (.cmp .isin (.var 8) (.var 3)) (.bin .add (.var 9) (.lit (.int 1))) (.var 9))),
    .ife (.cal 42 [.var 4, .var 5]) [.asg 6 (.cal 43 [.var 4, .var 5]),
    .ife (.cmp .isnot (.var 6) (.lit .non)) [.ret (.bin .add (.lst [.var 3]) (.var 6))] []] []]
def fu_grown : Fun := ⟨2, 10, [.ife (.cmp .eq (.var 0) (.lst [])) [.ret (.lst [])] [],
    .asg 2 (.sub (.var 0) (.lit (.int 0))),
    .ife (.or (.cmp .gt (.sub (.var 1) (.sub (.var 2) (.lit (.int 0)))) (.lit (.int 1))) (.cmp .gt (.sub (.var 1) (.sub (.var 2) (.lit (.int 1)))) (.lit (.int 1)))) [.ret (.lit .non)] [],
    .for_ [3] true (.seq (.cal 41 [.var 2, .var 0, .var 1])) fu_grown_b0,
    .ret (.lit .non)]⟩
-- 44: fu_cover_of
def fu_cover_of : Fun := ⟨1, 2, [.asg 1 (.cal 43 [.sub (.var 0) (.lit (.int 1)), .bin .mul (.lst [.lit (.int 0)]) (.sub (.var 0) (.lit (.int 0)))]),
    .ret (.ite (.cmp .is_ (.var 1) (.lit .non)) (.lit .non) (.bi .sorted [.var 1]))]⟩
-- 46: fu_law_is_cover
def fu_law_is_cover_b0 : List S := [.mut 4 [] .set [.var 6, .bin .add (.sub (.var 4) (.var 6)) (.lit (.int 1))],
    .asg 3 (.bin .add (.var 3) (.comp [7] true (.seq (.slc false true (.var 2) (.lit .non) (.var 5))) [] (.tup [.var 7, .var 6])))]
def fu_law_is_cover_b1 : List S := [.ife (.or (.cmp .lt (.bi .len [.var 2]) (.lit (.int 2))) (.or (.bi .any [.comp [6] true (.seq (.var 2)) [] (.not (.chn .le .lt (.lit (.int 0)) (.var 6) (.sub (.var 0) (.lit (.int 0)))))]) (.cmp .ne (.var 2) (.bi .ssort [.var 2])))) [.ret (.lit (.bl false))] [],
    .for_ [5, 6] false (.enu (.var 2)) fu_law_is_cover_b0]
def fu_law_is_cover : Fun := ⟨2, 8, [.par [3, 4] [.lst [], .bin .mul (.lst [.lit (.int 0)]) (.sub (.var 0) (.lit (.int 0)))],
    .for_ [2] true (.seq (.var 1)) fu_law_is_cover_b1,
    .ret (.and (.cmp .eq (.bi .sorted [.var 3]) (.sub (.var 0) (.lit (.int 1)))) (.and (.cmp .eq (.var 1) (.bi .sorted [.var 1])) (.cmp .lt (.bi .max [.bin .add (.var 4) (.lst [.lit (.int 0)])]) (.lit (.int 3)))))]⟩
-- 47: fu_law_has_cover
def fu_law_has_cover : Fun := ⟨1, 1, [.ret (.cal 48 [.cal 11 [.var 0], .lst []])]⟩
-- 48: fu_law_laid
def fu_law_laid_b0 : List S := [.asg 6 (.comp [7] true (.seq (.var 1)) [] (.or (.cmp .isin (.var 4) (.var 7)) (.cmp .isin (.var 5) (.var 7)))),
    .ife (.and (.cmp .notin (.tup [.var 4, .var 5]) (.var 1)) (.cmp .eq (.var 6) (.comp [8] true (.rng (.lit (.int 0)) (.var 2)) [] (.cmp .isin (.var 8) (.sub (.var 0) (.var 2)))))) [.ife (.cal 48 [.var 0, .bin .add (.var 1) (.lst [.tup [.var 4, .var 5]])]) [.ret (.lit (.bl true))] []] []]
def fu_law_laid_b1 : List S := [.for_ [5] true (.rng (.bin .add (.var 4) (.lit (.int 1))) (.ite (.cmp .gt (.var 4) (.var 3)) (.bin .add (.var 3) (.lit (.int 3))) (.bin .add (.var 3) (.lit (.int 2))))) fu_law_laid_b0]
def fu_law_laid : Fun := ⟨2, 9, [.asg 2 (.bi .len [.var 1]),
    .ife (.cmp .eq (.var 2) (.bi .len [.var 0])) [.ret (.lit (.bl true))] [],
    .asg 3 (.bi .max [.bin .add (.comp [7] true (.seq (.var 1)) [] (.bi .max [.var 7])) (.lst [.neg (.lit (.int 1))])]),
    .for_ [4] true (.rng (.lit (.int 0)) (.bin .add (.var 3) (.lit (.int 2)))) fu_law_laid_b1,
    .ret (.lit (.bl false))]⟩
-- 49: fu_law_says
def fu_law_says : Fun := ⟨2, 2, [.ret (.and (.isi (.var 0) .bool) (.cmp .eq (.var 0) (.var 1)))]⟩
-- 50: fu_law_due
def fu_law_due : Fun := ⟨2, 5, [.ife (.isi (.var 1) (.cls 6)) [.ret (.cal 46 [.var 0, .att (.var 1) "groups"])] [],
    .asg 2 (.att (.var 1) "places"),
    .ife (.or (.bi .any [.comp [4] true (.seq (.var 2)) [] (.not (.chn .le .lt (.lit (.int 0)) (.var 4) (.sub (.var 0) (.lit (.int 0)))))]) (.or (.cmp .ne (.var 2) (.bi .ssort [.var 2])) (.cmp .gt (.bi .len [.var 2]) (.lit (.int 9))))) [.ret (.lit (.bl false))] [],
    .ife (.cal 47 [.cal 27 [.var 0, .var 2]]) [.ret (.lit (.bl false))] [],
    .ret (.bi .all [.comp [3] true (.rng (.lit (.int 0)) (.bi .len [.var 2])) [] (.cal 47 [.cal 27 [.var 0, .bin .add (.slc false true (.var 2) (.lit .non) (.var 3)) (.slc true false (.var 2) (.bin .add (.var 3) (.lit (.int 1))) (.lit .non))]])])]⟩
-- 52: fu_law_less
def fu_law_less_b0 : List S := [.asg 2 (.bin .add (.var 2) (.comp [5] true (.rng (.bin .add (.var 3) (.lit (.int 1))) (.var 0)) [] (.tup [.var 3, .var 5])))]
def fu_law_less : Fun := ⟨2, 6, [.asg 2 (.lst []),
    .for_ [3] true (.rng (.lit (.int 0)) (.var 0)) fu_law_less_b0,
    .asg 4 (.slc true false (.var 2) (.bin .mod (.var 1) (.bin .add (.bi .len [.var 2]) (.lit (.int 1)))) (.lit .non)),
    .ret (.tup [.var 0, .ite (.cmp .gt (.bin .mod (.var 1) (.lit (.int 5))) (.lit (.int 0))) (.bin .add (.slc false true (.var 2) (.lit .non) (.bin .add (.lit (.int 1)) (.bin .mod (.var 1) (.lit (.int 3))))) (.slc true false (.var 4) (.bin .mod (.var 1) (.lit (.int 2))) (.lit .non))) (.slc true false (.var 2) (.lit (.int 1)) (.lit .non))])]⟩
-- 53: fu_law_4
def fu_law_4_b0 : List S := [.ife (.not (.cal 51 [.var 6, .lst [.var 8, .var 9]])) [.ret (.lit (.bl false))] []]
def fu_law_4 : Fun := ⟨1, 10, [.asg 1 (.bi .sum [.slc false true (.var 0) (.lit .non) (.lit (.int 63))]),
    .asg 2 (.ite (.cmp .eq (.bin .mod (.var 1) (.lit (.int 64))) (.lit (.int 17))) (.lit (.int 9)) (.lit (.int 6))),
    .par [8, 9] [.cal 35 [.cal 10 [.var 0, .lit (.int 0), .lit (.int 6), .var 2]], .cal 10 [.var 0, .lit (.int 1), .var 2, .bin .add (.var 2) (.lit (.int 2))]],
    .asg 3 (.tup [.lit (.int 0), .bin .sub (.sub (.var 8) (.lit (.int 0))) (.lit (.int 1))]),
    .asg 4 (.ite (.and (.cmp .gt (.sub (.var 8) (.lit (.int 0))) (.lit (.int 1))) (.cmp .notin (.var 3) (.sub (.var 8) (.lit (.int 1))))) (.tup [.sub (.var 8) (.lit (.int 0)), .bi .sorted [.bin .add (.sub (.var 8) (.lit (.int 1))) (.lst [.var 3])]]) (.var 8)),
    .asg 5 (.cal 52 [.bin .add (.lit (.int 3)) (.bin .mod (.var 1) (.lit (.int 3))), .bin .fdiv (.var 1) (.lit (.int 3))]),
    .asg 5 (.tup [.sub (.var 5) (.lit (.int 0)), .bi .ssort [.sub (.var 5) (.lit (.int 1))]]),
    .for_ [6] true (.seq (.lst [.var 8, .var 9, .var 4, .var 5])) fu_law_4_b0,
    .asg 7 (.cal 45 [.tup [.lit (.int 4), .lst [.tup [.lit (.int 0), .lit (.int 1)], .tup [.lit (.int 0), .lit (.int 2)], .tup [.lit (.int 0), .lit (.int 3)]]]]),
    .ret (.and (.isi (.var 7) (.cls 7)) (.and (.cmp .eq (.att (.var 7) "places") (.lst [.lit (.int 0), .lit (.int 1), .lit (.int 2), .lit (.int 3)])) (.cmp .eq (.att (.cal 45 [.tup [.lit (.int 2), .lst [.tup [.lit (.int 0), .lit (.int 1)]]]]) "groups") (.lst [.lst [.lit (.int 0), .lit (.int 1)]]))))]⟩
-- 56: fu_law_bent
def fu_law_bent_b0 : List S := [.mut 2 [] .append [.bin .add (.bin .add (.slc false true (.var 0) (.lit .non) (.var 4)) (.var 5)) (.slc true false (.var 0) (.bin .add (.var 4) (.lit (.int 1))) (.lit .non))]]
def fu_law_bent_b1 : List S := [.for_ [5] true (.seq (.tup [.lst [], .lst [.bin .add (.sub (.var 0) (.var 4)) (.lit (.int 1))], .lst [.bin .sub (.sub (.var 0) (.var 4)) (.lit (.int 1))], .bin .mul (.lst [.sub (.var 0) (.var 4)]) (.lit (.int 2)), .lst [.bin .mod (.var 1) (.lit (.int 9))]])) fu_law_bent_b0]
def fu_law_bent : Fun := ⟨2, 6, [.asg 2 (.lst []),
    .asg 3 (.lst [.bin .mod (.var 1) (.bi .max [.lit (.int 1), .bi .len [.var 0]]), .bin .sub (.bi .len [.var 0]) (.lit (.int 1))]),
    .for_ [4] true (.seq (.ite (.cmp .ne (.var 0) (.lst [])) (.var 3) (.lst []))) fu_law_bent_b1,
    .ret (.bin .add (.var 2) (.lst [.bi .ssort [.bin .add (.var 0) (.lst [.bin .mod (.var 1) (.lit (.int 9))])]]))]⟩
-- 58: fu_wall
def fu_wall_b0 : List S := [.pass]
def fu_wall : Fun := ⟨1, 1, [.whl (.lit (.bl true)) fu_wall_b0]⟩
-- 59: fu_groups_at
def fu_groups_at : Fun := ⟨1, 6, [.exp (.cal 4 [.var 0]),
    .asg 1 (.comp [2] true (.rng (.lit (.int 0)) (.sub (.var 0) (.lit (.int 0)))) [] (.comp [4, 5] false (.enu (.sub (.var 0) (.lit (.int 1)))) [.cmp .isin (.var 2) (.var 5)] (.var 4))),
    .ret (.bi .sorted [.comp [3] true (.seq (.var 1)) [.cmp .gt (.bi .len [.var 3]) (.lit (.int 1))] (.var 3)])]⟩
-- 60: fu_law_6
def fu_law_6_b0 : List S := [.mut 8 [] .append [.lit (.int 0)]]
def fu_law_6_b1 : List S := [.asg 3 (.cal 10 [.var 0, .var 2, .lit (.int 9), .lit (.int 8)]),
    .par [9, 10] [.cal 12 [.var 3], .cal 33 [.var 3]],
    .asg 4 (.cal 59 [.var 9]),
    .ife (.or (.not (.isi (.var 4) .list)) (.or (.not (.bi .all [.comp [7] true (.seq (.var 4)) [] (.isi (.var 7) .list)])) (.cmp .ne (.var 9) (.var 3)))) [.ret (.lit (.bl false))] [],
    .asg 5 (.comp [11] true (.rng (.lit (.int 0)) (.sub (.var 3) (.lit (.int 0)))) [] (.comp [12, 13] false (.enu (.sub (.var 3) (.lit (.int 1)))) [.cmp .isin (.var 11) (.var 13)] (.var 12))),
    .ife (.or (.cmp .ne (.var 4) (.bi .sorted [.comp [7] true (.seq (.var 5)) [.cmp .gt (.bi .len [.var 7]) (.lit (.int 1))] (.var 7)])) (.not (.cal 46 [.var 10, .var 4]))) [.ret (.lit (.bl false))] [],
    .asg 6 (.cal 45 [.var 10]),
    .ife (.or (.not (.isi (.var 6) (.cls 6))) (.or (.isi (.var 6) (.cls 7)) (.not (.cal 46 [.var 10, .att (.var 6) "groups"])))) [.ret (.lit (.bl false))] [],
    .asg 7 (.comp [11] true (.rng (.lit (.int 0)) (.sub (.var 10) (.lit (.int 0)))) [.cmp .gt (.bin .mod (.cal 9 [.bin .add (.var 1) (.var 11), .var 2, .lit (.int 5)]) (.lit (.int 4))) (.lit (.int 0))] (.var 11)),
    .ife (.not (.isi (.cal 45 [.cal 18 [.var 10, .var 7]]) (.cls 6))) [.ret (.lit (.bl false))] [],
    .for_ [8] true (.seq (.var 4)) fu_law_6_b0,
    .ife (.cmp .ne (.cal 59 [.var 9]) (.bi .sorted [.comp [7] true (.seq (.var 5)) [.cmp .gt (.bi .len [.var 7]) (.lit (.int 1))] (.var 7)])) [.ret (.lit (.bl false))] []]
def fu_law_6 : Fun := ⟨1, 14, [.asg 1 (.bi .sum [.slc false true (.var 0) (.lit .non) (.lit (.int 63))]),
    .for_ [2] true (.rng (.lit (.int 0)) (.lit (.int 3))) fu_law_6_b1,
    .ret (.and (.cmp .eq (.cal 59 [.tup [.lit (.int 4), .lst [.tup [.lit (.int 0), .lit (.int 1)], .tup [.lit (.int 0), .lit (.int 2)], .tup [.lit (.int 1), .lit (.int 3)]]]]) (.lst [.lst [.lit (.int 0), .lit (.int 1)], .lst [.lit (.int 0), .lit (.int 2)]])) (.cmp .eq (.cal 59 [.tup [.lit (.int 2), .lst [.tup [.lit (.int 0), .lit (.int 1)]]]]) (.lst [])))]⟩
-- 61: fu_check_cover
def fu_check_cover : Fun := ⟨2, 4, [.ife (.or (.not (.isi (.var 1) .list)) (.not (.bi .all [.comp [2] true (.seq (.var 1)) [] (.isi (.var 2) .list)]))) [.rai 8] [],
    .ife (.or (.not (.bi .all [.comp [2] true (.seq (.var 1)) [] (.bi .all [.comp [3] true (.seq (.var 2)) [] (.cal 0 [.var 3])])])) (.not (.cal 39 [.var 0, .var 1]))) [.rai 8] []]⟩
-- 62: fu_ends_of
def fu_ends_of_b0 : List S := [.mut 5 [] .append [.var 4],
    .aug 4 (.lit (.int 1))]
def fu_ends_of_b1 : List S := [.asg 5 (.comp [6, 7] false (.enu (.var 1)) [.cmp .isin (.var 2) (.var 7)] (.var 6)),
    .whl (.cmp .lt (.bi .len [.var 5]) (.lit (.int 2))) fu_ends_of_b0,
    .mut 3 [] .append [.tup [.sub (.var 5) (.lit (.int 0)), .sub (.var 5) (.lit (.int 1))]]]
def fu_ends_of : Fun := ⟨2, 8, [.par [3, 4] [.lst [], .bi .len [.var 1]],
    .for_ [2] true (.rng (.lit (.int 0)) (.sub (.var 0) (.lit (.int 0)))) fu_ends_of_b1,
    .ret (.tup [.var 3, .var 4])]⟩
-- 63: fu_root_by
def fu_root_by : Fun := ⟨2, 6, [.unp [3, 4] (.cal 62 [.var 0, .var 1]),
    .asg 2 (.bi .sorted [.var 3]),
    .ret (.tup [.tup [.var 4, .var 2], .comp [5] true (.seq (.var 3)) [] (.mix (.var 2) (.var 5))])]⟩
-- 64: fu_root_of
def fu_root_of : Fun := ⟨2, 2, [.exp (.cal 37 [.var 0]),
    .exp (.cal 61 [.var 0, .var 1]),
    .ret (.cal 63 [.var 0, .var 1])]⟩
-- 65: fu_root
def fu_root : Fun := ⟨1, 2, [.exp (.cal 37 [.var 0]),
    .asg 1 (.cal 44 [.var 0]),
    .ife (.cmp .is_ (.var 1) (.lit .non)) [.rai 11] [],
    .ret (.cal 63 [.var 0, .var 1])]⟩
-- 66: fu_law_root
def fu_law_root_b0 : List S := [.asg 6 (.comp [9, 10] false (.enu (.var 1)) [.cmp .isin (.var 2) (.var 10)] (.var 9)),
    .asg 7 (.bi .lrng [.var 5, .bin .sub (.bin .add (.var 5) (.lit (.int 2))) (.bi .len [.var 6])]),
    .asg 5 (.bin .add (.var 5) (.bi .len [.var 7])),
    .mut 4 [] .append [.slc true true (.bin .add (.var 6) (.var 7)) (.lit (.int 0)) (.lit (.int 2))]]
def fu_law_root : Fun := ⟨2, 11, [.par [4, 5] [.lst [], .bi .len [.var 1]],
    .for_ [2] true (.rng (.lit (.int 0)) (.sub (.var 0) (.lit (.int 0)))) fu_law_root_b0,
    .asg 3 (.bi .sorted [.comp [8] true (.seq (.var 4)) [] (.tup [.sub (.var 8) (.lit (.int 0)), .sub (.var 8) (.lit (.int 1))])]),
    .ret (.tup [.tup [.var 5, .var 3], .comp [8] true (.seq (.var 4)) [] (.mix (.var 3) (.tup [.sub (.var 8) (.lit (.int 0)), .sub (.var 8) (.lit (.int 1))]))])]⟩
-- 67: fu_law_is_root
def fu_law_is_root_b0 : List S := [.asg 7 (.tup [.bi .min [.sub (.var 5) (.var 6), .sub (.var 5) (.var 3)], .bi .max [.sub (.var 5) (.var 6), .sub (.var 5) (.var 3)]]),
    .ife (.cmp .ne (.cmp .isin (.var 7) (.sub (.var 2) (.lit (.int 1)))) (.cmp .isin (.tup [.var 6, .var 3]) (.sub (.var 0) (.lit (.int 1))))) [.ret (.lit (.bl false))] []]
def fu_law_is_root_b1 : List S := [.for_ [6] true (.rng (.lit (.int 0)) (.var 3)) fu_law_is_root_b0]
def fu_law_is_root : Fun := ⟨2, 8, [.ife (.or (.not (.isi (.var 1) .tuple)) (.or (.cmp .ne (.bi .len [.var 1]) (.lit (.int 2))) (.or (.not (.cal 26 [.sub (.var 1) (.lit (.int 0))])) (.not (.isi (.sub (.var 1) (.lit (.int 1))) .list))))) [.ret (.lit (.bl false))] [],
    .unp [4, 5] (.var 1),
    .ife (.or (.cmp .ne (.bi .sorted [.var 5]) (.bi .lrng [.lit (.int 0), .sub (.var 0) (.lit (.int 0))])) (.cmp .ne (.bi .len [.sub (.var 4) (.lit (.int 1))]) (.sub (.var 0) (.lit (.int 0))))) [.ret (.lit (.bl false))] [],
    .asg 2 (.cal 35 [.var 4]),
    .for_ [3] true (.rng (.lit (.int 0)) (.sub (.var 0) (.lit (.int 0)))) fu_law_is_root_b1,
    .ret (.lit (.bl true))]⟩
-- 70: fu_law_ask
def fu_law_ask : Fun := ⟨2, 2, [.ret (.cal 65 [.var 1])]⟩
-- 71: fu_law_right_3
def fu_law_right_3_b0 : List S := [.asg 6 (.cal 65 [.var 1]),
    .ife (.or (.not (.cal 67 [.var 0, .var 6])) (.cmp .ne (.var 1) (.var 0))) [.ret (.lit (.bl false))] [],
    .mut 6 [.lit (.int 1), .lit (.int 0)] .append [.tup [.lit (.int 0), .lit (.int 0)]],
    .mut 6 [.lit (.int 1)] .append [.lit (.int 0)]]
def fu_law_right_3 : Fun := ⟨1, 8, [.asg 1 (.cal 12 [.var 0]),
    .ife (.not (.cal 47 [.var 0])) [.ret (.cal 69 [.lit (.fn 70), .lit (.int 0), .var 1, .lit (.int 7)])] [],
    .for_ [2] true (.rng (.lit (.int 0)) (.lit (.int 2))) fu_law_right_3_b0,
    .asg 3 (.att (.cal 45 [.var 0]) "groups"),
    .asg 4 (.comp [7] true (.seq (.var 3)) [] (.bi .list [.var 7])),
    .asg 5 (.cal 64 [.var 1, .var 3]),
    .ife (.or (.cmp .ne (.var 5) (.cal 66 [.var 0, .var 3])) (.or (.not (.cal 67 [.var 0, .var 5])) (.cmp .ne (.lst [.var 1, .var 3]) (.lst [.var 0, .var 4])))) [.ret (.lit (.bl false))] [],
    .mut 5 [.lit (.int 1)] .append [.lit (.int 0)],
    .ife (.cmp .ne (.cal 64 [.var 1, .var 3]) (.cal 66 [.var 0, .var 4])) [.ret (.lit (.bl false))] [],
    .ife (.cmp .ne (.sub (.var 1) (.lit (.int 1))) (.lst [])) [.mut 1 [.lit (.int 1)] .pop [],
    .ife (.cal 47 [.var 1]) [.ret (.cal 67 [.var 1, .cal 65 [.var 1]])] [],
    .ret (.cal 69 [.lit (.fn 70), .lit (.int 0), .var 1, .lit (.int 7)])] [],
    .ret (.lit (.bl true))]⟩
-- 72: fu_law_7
def fu_law_7 : Fun := ⟨1, 6, [.asg 1 (.bi .sum [.slc false true (.var 0) (.lit .non) (.lit (.int 63))]),
    .asg 2 (.ite (.cmp .eq (.bin .mod (.var 1) (.lit (.int 64))) (.lit (.int 17))) (.lit (.int 9)) (.lit (.int 6))),
    .asg 3 (.cal 10 [.var 0, .lit (.int 0), .lit (.int 6), .var 2]),
    .par [4, 5] [.cal 35 [.var 3], .cal 10 [.var 0, .lit (.int 1), .var 2, .bin .add (.var 2) (.lit (.int 2))]],
    .ife (.or (.not (.cal 71 [.var 4])) (.or (.not (.cal 71 [.var 5])) (.not (.cal 71 [.cal 10 [.var 0, .lit (.int 2), .lit (.int 5), .lit (.int 4)]])))) [.ret (.lit (.bl false))] [],
    .ife (.cmp .ne (.cal 64 [.cal 33 [.var 3], .cal 59 [.var 3]]) (.cal 66 [.var 4, .cal 59 [.var 3]])) [.ret (.lit (.bl false))] [],
    .ife (.cmp .ne (.cal 65 [.tup [.lit (.int 1), .lst []]]) (.tup [.tup [.lit (.int 2), .lst [.tup [.lit (.int 0), .lit (.int 1)]]], .lst [.lit (.int 0)]])) [.ret (.lit (.bl false))] [],
    .ret (.cmp .eq (.cal 64 [.tup [.lit (.int 3), .lst [.tup [.lit (.int 0), .lit (.int 1)], .tup [.lit (.int 1), .lit (.int 2)]]], .lst [.lst [.lit (.int 0), .lit (.int 1)], .lst [.lit (.int 1), .lit (.int 2)]]]) (.tup [.tup [.lit (.int 4), .lst [.tup [.lit (.int 0), .lit (.int 1)], .tup [.lit (.int 0), .lit (.int 2)], .tup [.lit (.int 1), .lit (.int 3)]]], .lst [.lit (.int 1), .lit (.int 0), .lit (.int 2)]]))]⟩
-- 73: fu_can_go
def fu_can_go_b0 : List S := [.ife (.cmp .ne (.cmp .isin (.var 6) (.sub (.var 0) (.var 3))) (.cmp .isin (.var 5) (.sub (.var 1) (.var 4)))) [.ret (.lit (.bl false))] []]
def fu_can_go : Fun := ⟨4, 7, [.asg 4 (.bi .len [.var 2]),
    .for_ [5, 6] false (.enu (.var 2)) fu_can_go_b0,
    .ret (.cmp .eq (.bi .len [.sub (.var 0) (.var 3)]) (.bi .len [.sub (.var 1) (.var 4)]))]⟩
-- 74: fu_led_on
def fu_led_on_b0 : List S := [.ife (.and (.cmp .notin (.var 3) (.var 2)) (.cal 73 [.var 0, .var 1, .var 2, .var 3])) [.asg 4 (.cal 74 [.var 0, .var 1, .bin .add (.var 2) (.lst [.var 3])]),
    .ife (.cmp .isnot (.var 4) (.lit .non)) [.ret (.var 4)] []] []]
def fu_led_on : Fun := ⟨3, 5, [.ife (.cmp .eq (.bi .len [.var 2]) (.bi .len [.var 0])) [.ret (.var 2)] [],
    .for_ [3] true (.rng (.lit (.int 0)) (.bi .len [.var 0])) fu_led_on_b0,
    .ret (.lit .non)]⟩
-- 75: fu_led
def fu_led : Fun := ⟨2, 2, [.exp (.cal 38 [.var 0, .lit (.int 8)]),
    .exp (.cal 38 [.var 1, .lit (.int 8)]),
    .ife (.or (.cmp .ne (.sub (.var 0) (.lit (.int 0))) (.sub (.var 1) (.lit (.int 0)))) (.cmp .ne (.bi .len [.sub (.var 0) (.lit (.int 1))]) (.bi .len [.sub (.var 1) (.lit (.int 1))]))) [.ret (.lit .non)] [],
    .ret (.cal 74 [.cal 5 [.var 0], .cal 5 [.var 1], .lst []])]⟩
-- 76: fu_law_led
def fu_law_led : Fun := ⟨2, 2, [.ife (.or (.cmp .ne (.sub (.var 0) (.lit (.int 0))) (.sub (.var 1) (.lit (.int 0)))) (.cmp .ne (.bi .len [.sub (.var 0) (.lit (.int 1))]) (.bi .len [.sub (.var 1) (.lit (.int 1))]))) [.ret (.lit (.bl false))] [],
    .ret (.cal 77 [.cal 11 [.var 0], .cal 11 [.var 1], .lst []])]⟩
-- 77: fu_law_led_on
def fu_law_led_on_b0 : List S := [.ife (.and (.cmp .notin (.var 4) (.var 2)) (.cmp .eq (.bi .len [.sub (.var 0) (.var 4)]) (.bi .len [.sub (.var 1) (.var 3)]))) [.ife (.cmp .eq (.comp [5] true (.seq (.var 2)) [] (.cmp .isin (.var 5) (.sub (.var 0) (.var 4)))) (.comp [6] true (.rng (.lit (.int 0)) (.var 3)) [] (.cmp .isin (.var 6) (.sub (.var 1) (.var 3))))) [.ife (.cal 77 [.var 0, .var 1, .bin .add (.var 2) (.lst [.var 4])]) [.ret (.lit (.bl true))] []] []] []]
def fu_law_led_on : Fun := ⟨3, 7, [.asg 3 (.bi .len [.var 2]),
    .ife (.cmp .eq (.var 3) (.bi .len [.var 0])) [.ret (.lit (.bl true))] [],
    .for_ [4] true (.rng (.lit (.int 0)) (.bi .len [.var 0])) fu_law_led_on_b0,
    .ret (.lit (.bl false))]⟩
-- 78: fu_law_orders
def fu_law_orders_b0 : List S := [.asg 3 (.bin .add (.var 3) (.comp [5] true (.rng (.lit (.int 0)) (.var 0)) [.cmp .notin (.var 5) (.var 4)] (.bin .add (.var 4) (.lst [.var 5]))))]
def fu_law_orders_b1 : List S := [.asg 3 (.lst []),
    .for_ [4] true (.seq (.var 1)) fu_law_orders_b0,
    .asg 1 (.var 3)]
def fu_law_orders : Fun := ⟨1, 6, [.asg 1 (.lst [.lst []]),
    .for_ [2] true (.rng (.lit (.int 0)) (.var 0)) fu_law_orders_b1,
    .ret (.var 1)]⟩
-- 79: fu_law_right_4
def fu_law_right_4 : Fun := ⟨2, 9, [.asg 2 (.lst [.cal 12 [.var 0], .cal 12 [.var 1]]),
    .asg 3 (.cal 75 [.sub (.var 2) (.lit (.int 0)), .sub (.var 2) (.lit (.int 1))]),
    .ife (.or (.cmp .ne (.var 2) (.lst [.var 0, .var 1])) (.cmp .ne (.cmp .isnot (.var 3) (.lit .non)) (.cal 76 [.var 0, .var 1]))) [.ret (.lit (.bl false))] [],
    .ife (.cmp .is_ (.var 3) (.lit .non)) [.ret (.lit (.bl true))] [],
    .ife (.or (.not (.isi (.var 3) .list)) (.or (.cmp .ne (.bi .sorted [.var 3]) (.bi .lrng [.lit (.int 0), .sub (.var 0) (.lit (.int 0))])) (.cmp .ne (.cal 29 [.var 0, .var 3]) (.var 1)))) [.ret (.lit (.bl false))] [],
    .ife (.cmp .lt (.sub (.var 0) (.lit (.int 0))) (.lit (.int 5))) [.asg 4 (.comp [7] true (.seq (.cal 78 [.sub (.var 0) (.lit (.int 0))])) [.cmp .eq (.cal 29 [.var 0, .var 7]) (.var 1)] (.var 7)),
    .ife (.cmp .ne (.var 3) (.sub (.var 4) (.lit (.int 0)))) [.ret (.lit (.bl false))] []] [],
    .mut 3 [] .append [.lit (.int 0)],
    .ife (.cmp .ne (.cal 75 [.sub (.var 2) (.lit (.int 0)), .sub (.var 2) (.lit (.int 1))]) (.slc false true (.var 3) (.lit .non) (.neg (.lit (.int 1))))) [.ret (.lit (.bl false))] [],
    .ife (.cmp .ne (.sub (.sub (.var 2) (.lit (.int 0))) (.lit (.int 1))) (.lst [])) [.mut 2 [.lit (.int 1), .lit (.int 0)] .pop [],
    .ife (.cmp .isnot (.cal 75 [.sub (.var 2) (.lit (.int 0)), .sub (.var 2) (.lit (.int 1))]) (.lit .non)) [.ret (.lit (.bl false))] [],
    .asg 5 (.bi .sorted [.comp [8] true (.seq (.sub (.sub (.var 0) (.lit (.int 1))) (.neg (.lit (.int 1))))) [] (.mix (.var 3) (.var 8))]),
    .mut 2 [.lit (.int 1), .lit (.int 1)] .remove [.tup [.sub (.var 5) (.lit (.int 0)), .sub (.var 5) (.lit (.int 1))]],
    .asg 6 (.cal 75 [.sub (.var 2) (.lit (.int 0)), .sub (.var 2) (.lit (.int 1))]),
    .ret (.and (.cmp .isnot (.var 6) (.lit .non)) (.cmp .eq (.cal 29 [.sub (.var 2) (.lit (.int 0)), .var 6]) (.sub (.var 2) (.lit (.int 1)))))] [],
    .ret (.lit (.bl true))]⟩
-- 80: fu_law_8
def fu_law_8_b0 : List S := [.ife (.or (.not (.cal 79 [.var 3, .var 7])) (.not (.cal 79 [.var 7, .var 4]))) [.ret (.lit (.bl false))] []]
def fu_law_8_b1 : List S := [.asg 3 (.cal 10 [.var 0, .var 2, .ite (.cmp .eq (.bin .mod (.var 1) (.lit (.int 32))) (.lit (.int 9))) (.lit (.int 8)) (.lit (.int 5)), .lit (.int 8)]),
    .asg 4 (.cal 29 [.var 3, .cal 28 [.var 0, .var 2, .sub (.var 3) (.lit (.int 0))]]),
    .asg 5 (.comp [8] true (.seq (.sub (.var 3) (.lit (.int 1)))) [] (.tup [.sub (.var 8) (.lit (.int 0)), .bin .mod (.bin .add (.sub (.var 8) (.lit (.int 1))) (.lit (.int 1))) (.sub (.var 3) (.lit (.int 0)))])),
    .asg 6 (.tup [.sub (.var 3) (.lit (.int 0)), .bi .ssort [.comp [8] true (.seq (.var 5)) [.cmp .lt (.sub (.var 8) (.lit (.int 0))) (.sub (.var 8) (.lit (.int 1)))] (.var 8)]]),
    .for_ [7] true (.seq (.lst [.var 4, .var 6, .var 3, .cal 10 [.var 0, .bin .add (.var 2) (.lit (.int 3)), .lit (.int 5), .lit (.int 6)]])) fu_law_8_b0]
def fu_law_8 : Fun := ⟨1, 9, [.asg 1 (.bi .sum [.slc false true (.var 0) (.lit .non) (.lit (.int 63))]),
    .for_ [2] true (.rng (.lit (.int 0)) (.lit (.int 2))) fu_law_8_b1,
    .ret (.and (.cmp .eq (.cal 75 [.tup [.lit (.int 3), .lst [.tup [.lit (.int 0), .lit (.int 1)], .tup [.lit (.int 0), .lit (.int 2)]]], .tup [.lit (.int 3), .lst [.tup [.lit (.int 0), .lit (.int 2)], .tup [.lit (.int 1), .lit (.int 2)]]]]) (.lst [.lit (.int 1), .lit (.int 2), .lit (.int 0)])) (.cmp .is_ (.cal 75 [.tup [.lit (.int 2), .lst []], .tup [.lit (.int 3), .lst []]]) (.lit .non)))]⟩
-- 81: fu_law_tidy
def fu_law_tidy : Fun := ⟨1, 4, [.asg 1 (.comp [2] true (.rng (.lit (.int 0)) (.sub (.var 0) (.lit (.int 0)))) [.bi .any [.comp [3] true (.seq (.sub (.var 0) (.lit (.int 1)))) [] (.cmp .isin (.var 2) (.var 3))]] (.var 2)),
    .ret (.cal 27 [.var 0, .var 1])]⟩
-- 82: fu_law_threes
def fu_law_threes_b0 : List S := [.asg 3 (.cal 27 [.var 0, .var 2]),
    .asg 3 (.ite (.cmp .eq (.var 3) (.tup [.lit (.int 3), .lst [.tup [.lit (.int 0), .lit (.int 1)], .tup [.lit (.int 0), .lit (.int 2)], .tup [.lit (.int 1), .lit (.int 2)]]])) (.tup [.lit (.int 4), .lst [.tup [.lit (.int 0), .lit (.int 1)], .tup [.lit (.int 0), .lit (.int 2)], .tup [.lit (.int 0), .lit (.int 3)]]]) (.var 3)),
    .asg 4 (.comp [5, 6] false (.seq (.sub (.var 3) (.lit (.int 1)))) [] (.tup [.bin .add (.var 5) (.sub (.var 1) (.lit (.int 0))), .bin .add (.var 6) (.sub (.var 1) (.lit (.int 0)))])),
    .asg 1 (.tup [.bin .add (.sub (.var 1) (.lit (.int 0))) (.sub (.var 3) (.lit (.int 0))), .bin .add (.sub (.var 1) (.lit (.int 1))) (.var 4)])]
def fu_law_threes : Fun := ⟨1, 7, [.asg 1 (.tup [.lit (.int 0), .lst []]),
    .for_ [2] true (.seq (.cal 13 [.var 0])) fu_law_threes_b0,
    .ret (.var 1)]⟩
-- 83: fu_law_9
def fu_law_9_b0 : List S := [.asg 2 (.cal 10 [.var 0, .var 1, .lit (.int 6), .lit (.int 7)]),
    .par [7, 8] [.cal 33 [.var 2], .cal 81 [.var 2]],
    .par [9, 10] [.sub (.cal 64 [.var 7, .cal 59 [.var 2]]) (.lit (.int 0)), .sub (.cal 65 [.var 7]) (.lit (.int 0))],
    .ife (.or (.not (.cal 76 [.var 9, .var 8])) (.and (.cmp .lt (.sub (.var 8) (.lit (.int 0))) (.lit (.int 9))) (.cmp .is_ (.cal 75 [.var 9, .var 8]) (.lit .non)))) [.ret (.lit (.bl false))] [],
    .ife (.not (.cal 76 [.cal 82 [.var 10], .cal 82 [.var 8]])) [.ret (.lit (.bl false))] [],
    .asg 3 (.cal 81 [.cal 29 [.var 2, .cal 28 [.var 0, .var 1, .sub (.var 2) (.lit (.int 0))]]]),
    .ife (.and (.cmp .lt (.bi .len [.sub (.var 3) (.lit (.int 1))]) (.lit (.int 9))) (.cmp .is_ (.cal 75 [.var 7, .cal 33 [.var 3]]) (.lit .non))) [.ret (.lit (.bl false))] [],
    .asg 4 (.cal 81 [.cal 10 [.var 0, .bin .add (.var 1) (.lit (.int 3)), .lit (.int 6), .lit (.int 7)]]),
    .ife (.cmp .ne (.cal 76 [.var 7, .cal 35 [.var 4]]) (.cal 76 [.cal 82 [.var 8], .cal 82 [.var 4]])) [.ret (.lit (.bl false))] []]
def fu_law_9 : Fun := ⟨1, 11, [.for_ [1] true (.rng (.lit (.int 0)) (.lit (.int 3))) fu_law_9_b0,
    .par [5, 6] [.tup [.lit (.int 3), .lst [.tup [.lit (.int 0), .lit (.int 1)], .tup [.lit (.int 0), .lit (.int 2)], .tup [.lit (.int 1), .lit (.int 2)]]], .tup [.lit (.int 4), .lst [.tup [.lit (.int 0), .lit (.int 1)], .tup [.lit (.int 0), .lit (.int 2)], .tup [.lit (.int 0), .lit (.int 3)]]]],
    .ret (.and (.cmp .eq (.cal 33 [.var 5]) (.cal 33 [.var 6])) (.cmp .is_ (.cal 75 [.var 5, .var 6]) (.lit .non)))]⟩
-- 84: fu_meets_all
def fu_meets_all : Fun := ⟨2, 4, [.ret (.bi .all [.comp [2, 3] false (.seq (.sub (.var 0) (.lit (.int 1)))) [] (.or (.cmp .isin (.var 2) (.var 1)) (.cmp .isin (.var 3) (.var 1)))])]⟩
-- 85: fu_chosen
def fu_chosen : Fun := ⟨2, 4, [.ret (.comp [2, 3] false (.enu (.sub (.var 0) (.lit (.int 1)))) [.cmp .eq (.bin .band (.bin .shr (.var 1) (.var 2)) (.lit (.int 1))) (.lit (.int 1))] (.var 3))]⟩
-- 86: fu_gone_round
def fu_gone_round_b0 : List S := [.asg 4 (.cal 89 [.var 2, .sub (.var 3) (.var 1)]),
    .asg 2 (.comp [6] true (.seq (.var 2)) [.cmp .notin (.var 6) (.cal 88 [.var 4])] (.var 6)),
    .asg 3 (.bin .add (.bin .add (.slc false true (.var 3) (.lit .non) (.var 1)) (.var 4)) (.slc true false (.var 3) (.bin .add (.var 1) (.lit (.int 1))) (.lit .non))),
    .aug 1 (.lit (.int 1))]
def fu_gone_round : Fun := ⟨1, 7, [.par [2, 3] [.bi .list [.var 0], .lst [.sub (.sub (.var 0) (.lit (.int 0))) (.lit (.int 0))]],
    .ife (.bi .any [.comp [5] true (.seq (.cal 87 [.var 0])) [] (.cmp .eq (.bin .mod (.bi .len [.comp [6] true (.seq (.var 0)) [.cmp .isin (.var 5) (.var 6)] (.var 6)]) (.lit (.int 2))) (.lit (.int 1)))]) [.ret (.lst [])] [],
    .asg 1 (.lit (.int 0)),
    .whl (.cmp .lt (.var 1) (.bi .len [.var 3])) fu_gone_round_b0,
    .ret (.ite (.cmp .eq (.var 2) (.lst [])) (.var 3) (.lst []))]⟩
-- 87: fu_places_of
def fu_places_of_b0 : List S := [.mut 1 [] .extend [.comp [4] true (.seq (.tup [.var 2, .var 3])) [.cmp .notin (.var 4) (.var 1)] (.var 4)]]
def fu_places_of : Fun := ⟨1, 5, [.asg 1 (.lst []),
    .for_ [2, 3] false (.seq (.var 0)) fu_places_of_b0,
    .ret (.bi .sorted [.var 1])]⟩
-- 88: fu_ties_of
def fu_ties_of : Fun := ⟨1, 3, [.ret (.comp [1, 2] false (.zip (.var 0) (.slc true false (.var 0) (.lit (.int 1)) (.lit .non))) [] (.tup [.bi .min [.var 1, .var 2], .bi .max [.var 1, .var 2]]))]⟩
-- 89: fu_round_from
def fu_round_from_b0 : List S := [.mut 4 [] .remove [.sub (.var 2) (.lit (.int 0))],
    .asg 1 (.bin .sub (.bin .add (.sub (.sub (.var 2) (.lit (.int 0))) (.lit (.int 0))) (.sub (.sub (.var 2) (.lit (.int 0))) (.lit (.int 1)))) (.var 1)),
    .mut 3 [] .append [.var 1],
    .asg 2 (.comp [5] true (.seq (.var 4)) [.cmp .isin (.var 1) (.var 5)] (.var 5))]
def fu_round_from : Fun := ⟨2, 6, [.par [3, 4] [.lst [.var 1], .bi .list [.var 0]],
    .asg 2 (.comp [5] true (.seq (.var 4)) [.cmp .isin (.var 1) (.var 5)] (.var 5)),
    .whl (.cmp .ne (.var 2) (.lst [])) fu_round_from_b0,
    .ret (.var 3)]⟩
-- 90: fu_trail_of
def fu_trail_of_b0 : List S := [.ife (.cal 84 [.var 0, .lst [.var 1]]) [.ret (.lst [.var 1])] []]
def fu_trail_of_b1 : List S := [.asg 3 (.cal 85 [.var 0, .var 2]),
    .ife (.and (.cmp .gt (.bi .len [.var 3]) (.lit (.int 2))) (.cal 84 [.var 0, .cal 87 [.var 3]])) [.asg 4 (.cal 86 [.var 3]),
    .ife (.cmp .ne (.var 4) (.lst [])) [.ret (.var 4)] []] []]
def fu_trail_of : Fun := ⟨1, 5, [.for_ [1] true (.rng (.lit (.int 0)) (.sub (.var 0) (.lit (.int 0)))) fu_trail_of_b0,
    .for_ [2] true (.rng (.lit (.int 1)) (.bin .shl (.lit (.int 1)) (.bi .len [.sub (.var 0) (.lit (.int 1))]))) fu_trail_of_b1,
    .ret (.lit .non)]⟩
-- 91: fu_trail
def fu_trail : Fun := ⟨1, 1, [.exp (.cal 31 [.var 0, .lit (.int 10)]),
    .ret (.cal 90 [.var 0])]⟩
-- 92: fu_law_meets
def fu_law_meets : Fun := ⟨2, 4, [.ret (.bi .all [.comp [2, 3] false (.seq (.sub (.var 0) (.lit (.int 1)))) [] (.or (.cmp .isin (.var 2) (.var 1)) (.cmp .isin (.var 3) (.var 1)))])]⟩
-- 93: fu_law_is_trail
def fu_law_is_trail : Fun := ⟨2, 7, [.ife (.or (.not (.isi (.var 1) .list)) (.not (.bi .all [.comp [6] true (.seq (.var 1)) [] (.and (.cal 25 [.var 6]) (.chn .le .lt (.lit (.int 0)) (.var 6) (.sub (.var 0) (.lit (.int 0)))))]))) [.ret (.lit (.bl false))] [],
    .ife (.cmp .eq (.bi .len [.var 1]) (.lit (.int 1))) [.ret (.cal 92 [.var 0, .var 1])] [],
    .asg 2 (.comp [3, 4] false (.zip (.var 1) (.slc true false (.var 1) (.lit (.int 1)) (.lit .non))) [] (.tup [.bi .min [.var 3, .var 4], .bi .max [.var 3, .var 4]])),
    .ife (.or (.cmp .lt (.bi .len [.var 2]) (.lit (.int 3))) (.or (.cmp .ne (.sub (.var 1) (.lit (.int 0))) (.sub (.var 1) (.neg (.lit (.int 1))))) (.cmp .lt (.bi .slen [.var 2]) (.bi .len [.var 2])))) [.ret (.lit (.bl false))] [],
    .ret (.and (.bi .all [.comp [5] true (.seq (.var 2)) [] (.cmp .isin (.var 5) (.sub (.var 0) (.lit (.int 1))))]) (.cal 92 [.var 0, .var 1]))]⟩
-- 94: fu_law_tried
def fu_law_tried : Fun := ⟨1, 3, [.ife (.bi .any [.comp [2] true (.rng (.lit (.int 0)) (.sub (.var 0) (.lit (.int 0)))) [] (.cal 92 [.var 0, .lst [.var 2]])]) [.ret (.lit (.bl true))] [],
    .asg 1 (.cal 11 [.var 0]),
    .ret (.bi .any [.comp [2] true (.rng (.lit (.int 0)) (.sub (.var 0) (.lit (.int 0)))) [] (.cal 95 [.var 0, .var 1, .lst [.var 2], .lst []])])]⟩
-- 95: fu_law_goes
def fu_law_goes_b0 : List S := [.asg 5 (.tup [.bi .min [.var 4, .sub (.var 2) (.neg (.lit (.int 1)))], .bi .max [.var 4, .sub (.var 2) (.neg (.lit (.int 1)))]]),
    .ife (.and (.cmp .notin (.var 5) (.var 3)) (.and (.cmp .ge (.var 4) (.sub (.var 2) (.lit (.int 0)))) (.cal 95 [.var 0, .var 1, .bin .add (.var 2) (.lst [.var 4]), .bin .add (.var 3) (.lst [.var 5])]))) [.ret (.lit (.bl true))] []]
def fu_law_goes : Fun := ⟨4, 6, [.ife (.and (.cmp .gt (.bi .len [.var 2]) (.lit (.int 3))) (.and (.cmp .eq (.sub (.var 2) (.lit (.int 0))) (.sub (.var 2) (.neg (.lit (.int 1))))) (.cal 92 [.var 0, .var 2]))) [.ret (.lit (.bl true))] [],
    .for_ [4] true (.seq (.sub (.var 1) (.sub (.var 2) (.neg (.lit (.int 1)))))) fu_law_goes_b0,
    .ret (.lit (.bl false))]⟩
-- 96: fu_law_right_5
def fu_law_right_5 : Fun := ⟨1, 6, [.asg 1 (.cal 12 [.var 0]),
    .asg 2 (.cal 91 [.var 1]),
    .ife (.or (.cmp .ne (.var 1) (.var 0)) (.cmp .ne (.cmp .isnot (.var 2) (.lit .non)) (.cal 94 [.var 0]))) [.ret (.lit (.bl false))] [],
    .ife (.cmp .is_ (.var 2) (.lit .non)) [.ret (.lit (.bl true))] [],
    .ife (.not (.cal 93 [.var 0, .var 2])) [.ret (.lit (.bl false))] [],
    .ife (.cmp .ne (.bi .any [.comp [5] true (.rng (.lit (.int 0)) (.sub (.var 0) (.lit (.int 0)))) [] (.cal 92 [.var 0, .lst [.var 5]])]) (.cmp .eq (.bi .len [.var 2]) (.lit (.int 1)))) [.ret (.lit (.bl false))] [],
    .asg 3 (.bi .list [.var 2]),
    .mut 2 [] .append [.lit (.int 0)],
    .ife (.cmp .ne (.cal 91 [.var 1]) (.var 3)) [.ret (.lit (.bl false))] [],
    .ife (.cmp .ne (.sub (.var 1) (.lit (.int 1))) (.lst [])) [.mut 1 [.lit (.int 1)] .pop [],
    .asg 4 (.cal 91 [.var 1]),
    .ret (.and (.cmp .eq (.cmp .isnot (.var 4) (.lit .non)) (.cal 94 [.var 1])) (.or (.cmp .is_ (.var 4) (.lit .non)) (.cal 93 [.var 1, .var 4])))] [],
    .ret (.lit (.bl true))]⟩
-- 97: fu_law_10
def fu_law_10_b0 : List S := [.asg 4 (.ite (.cmp .eq (.bin .mod (.var 1) (.lit (.int 64))) (.lit (.int 5))) (.lit (.int 10)) (.lit (.int 7))),
    .asg 5 (.cal 10 [.var 0, .var 2, .lit (.int 7), .var 4]),
    .asg 6 (.cal 10 [.var 0, .bin .add (.var 2) (.lit (.int 3)), .lit (.int 4), .lit (.int 6)]),
    .ife (.or (.not (.cal 96 [.var 5])) (.or (.not (.cal 96 [.var 6])) (.not (.cal 96 [.tup [.sub (.var 5) (.lit (.int 0)), .slc false true (.sub (.var 5) (.lit (.int 1))) (.lit .non) (.lit (.int 4))]])))) [.ret (.lit (.bl false))] []]
def fu_law_10 : Fun := ⟨1, 7, [.asg 1 (.bi .sum [.slc false true (.var 0) (.lit .non) (.lit (.int 63))]),
    .for_ [2] true (.rng (.lit (.int 0)) (.lit (.int 2))) fu_law_10_b0,
    .asg 3 (.tup [.lit (.int 5), .lst [.tup [.lit (.int 0), .lit (.int 1)], .tup [.lit (.int 0), .lit (.int 2)], .tup [.lit (.int 1), .lit (.int 2)], .tup [.lit (.int 2), .lit (.int 3)], .tup [.lit (.int 2), .lit (.int 4)], .tup [.lit (.int 3), .lit (.int 4)]]]),
    .ife (.or (.cmp .ne (.bi .len [.cal 91 [.var 3]]) (.lit (.int 7))) (.cmp .isnot (.cal 91 [.tup [.lit (.int 4), .lst [.tup [.lit (.int 0), .lit (.int 1)], .tup [.lit (.int 1), .lit (.int 2)], .tup [.lit (.int 2), .lit (.int 3)]]]]) (.lit .non))) [.ret (.lit (.bl false))] [],
    .ret (.and (.cmp .eq (.cal 91 [.tup [.lit (.int 3), .lst [.tup [.lit (.int 0), .lit (.int 1)], .tup [.lit (.int 0), .lit (.int 2)]]]]) (.lst [.lit (.int 0)])) (.and (.cmp .is_ (.cal 91 [.tup [.lit (.int 0), .lst []]]) (.lit .non)) (.cmp .eq (.cal 91 [.tup [.lit (.int 1), .lst []]]) (.lst [.lit (.int 0)]))))]⟩
-- 98: fu_ring_by
def fu_ring_by_b0 : List S := [.ife (.cmp .notin (.var 6) (.var 4)) [.mut 4 [] .append [.var 6],
    .mut 3 [] .extend [.comp [7] true (.seq (.sub (.var 0) (.lit (.int 1)))) [.and (.cmp .isin (.var 6) (.var 7)) (.and (.cmp .notin (.var 7) (.var 2)) (.cmp .notin (.var 7) (.var 3)))] (.var 7)]] [],
    .ife (.cmp .lt (.var 5) (.bi .len [.var 2])) [.mut 3 [] .append [.sub (.var 2) (.var 5)]] []]
def fu_ring_by : Fun := ⟨2, 8, [.par [2, 3, 4] [.cal 88 [.var 1], .lst [], .lst []],
    .for_ [5, 6] false (.enu (.var 1)) fu_ring_by_b0,
    .ret (.comp [7] true (.seq (.var 3)) [] (.mix (.sub (.var 0) (.lit (.int 1))) (.var 7)))]⟩
-- 99: fu_ring
def fu_ring : Fun := ⟨1, 2, [.exp (.cal 31 [.var 0, .lit (.int 10)]),
    .asg 1 (.ite (.cmp .gt (.bi .len [.sub (.var 0) (.lit (.int 1))]) (.lit (.int 2))) (.cal 90 [.var 0]) (.lit .non)),
    .ret (.ite (.cmp .is_ (.var 1) (.lit .non)) (.lit .non) (.cal 98 [.var 0, .var 1]))]⟩
-- 100: fu_is_ring
def fu_is_ring : Fun := ⟨2, 6, [.exp (.cal 37 [.var 0]),
    .exp (.cal 19 [.var 1, .sub (.var 0) (.lit (.int 0))]),
    .asg 2 (.comp [3, 4] false (.zip (.var 1) (.bin .add (.slc true false (.var 1) (.lit (.int 1)) (.lit .non)) (.slc false true (.var 1) (.lit .non) (.lit (.int 1))))) [] (.tup [.bi .min [.var 3, .var 4], .bi .max [.var 3, .var 4]])),
    .ret (.and (.cmp .gt (.bi .len [.var 1]) (.lit (.int 2))) (.bi .all [.comp [5] true (.seq (.var 2)) [] (.cmp .isin (.var 5) (.sub (.var 0) (.lit (.int 1))))]))]⟩
-- 101: fu_law_is_ring
def fu_law_is_ring : Fun := ⟨2, 5, [.ife (.or (.not (.isi (.var 1) .list)) (.or (.cmp .ne (.bi .sorted [.var 1]) (.bi .lrng [.lit (.int 0), .sub (.var 0) (.lit (.int 0))])) (.cmp .lt (.bi .len [.var 1]) (.lit (.int 3))))) [.ret (.lit (.bl false))] [],
    .asg 2 (.bi .lzip [.var 1, .bin .add (.slc true false (.var 1) (.lit (.int 1)) (.lit .non)) (.slc false true (.var 1) (.lit .non) (.lit (.int 1)))]),
    .ret (.bi .all [.comp [3, 4] false (.seq (.var 2)) [] (.cmp .isin (.tup [.bi .min [.var 3, .var 4], .bi .max [.var 3, .var 4]]) (.sub (.var 0) (.lit (.int 1))))])]⟩
-- 102: fu_law_has_ring
def fu_law_has_ring : Fun := ⟨1, 1, [.ret (.and (.cmp .gt (.sub (.var 0) (.lit (.int 0))) (.lit (.int 2))) (.cal 103 [.var 0, .cal 11 [.var 0], .lst [.lit (.int 0)]]))]⟩
-- 103: fu_law_rings_on
def fu_law_rings_on : Fun := ⟨3, 4, [.ife (.cmp .eq (.bi .len [.var 2]) (.sub (.var 0) (.lit (.int 0)))) [.ret (.cmp .isin (.sub (.var 2) (.lit (.int 0))) (.sub (.var 1) (.sub (.var 2) (.neg (.lit (.int 1))))))] [],
    .ret (.bi .any [.comp [3] true (.seq (.sub (.var 1) (.sub (.var 2) (.neg (.lit (.int 1)))))) [.cmp .notin (.var 3) (.var 2)] (.cal 103 [.var 0, .var 1, .bin .add (.var 2) (.lst [.var 3])])])]⟩
-- 104: fu_law_right_6
def fu_law_right_6 : Fun := ⟨1, 8, [.par [4, 5] [.cal 12 [.var 0], .cal 35 [.var 0]],
    .asg 1 (.cal 99 [.var 4]),
    .asg 2 (.cal 102 [.var 5]),
    .ife (.or (.cmp .ne (.var 4) (.var 0)) (.or (.cmp .ne (.cmp .isnot (.var 1) (.lit .non)) (.var 2)) (.cmp .ne (.var 2) (.and (.cmp .gt (.bi .len [.sub (.var 0) (.lit (.int 1))]) (.lit (.int 2))) (.cmp .isnot (.cal 91 [.var 0]) (.lit .non)))))) [.ret (.lit (.bl false))] [],
    .ife (.cmp .is_ (.var 1) (.lit .non)) [.ret (.lit (.bl true))] [],
    .ife (.or (.not (.cal 101 [.var 5, .var 1])) (.not (.bi .all [.comp [7] true (.seq (.var 1)) [] (.cal 25 [.var 7])]))) [.ret (.lit (.bl false))] [],
    .ife (.cmp .isnot (.cal 100 [.cal 33 [.var 0], .var 1]) (.lit (.bl true))) [.ret (.lit (.bl false))] [],
    .asg 3 (.bi .list [.var 1]),
    .mut 1 [] .append [.lit (.int 0)],
    .ife (.cmp .ne (.cal 99 [.var 4]) (.var 3)) [.ret (.lit (.bl false))] [],
    .mut 4 [.lit (.int 1)] .pop [],
    .par [6, 5] [.cal 99 [.var 4], .cal 35 [.var 4]],
    .ret (.and (.cmp .eq (.cmp .isnot (.var 6) (.lit .non)) (.cal 102 [.var 5])) (.or (.cmp .is_ (.var 6) (.lit .non)) (.cal 101 [.var 5, .var 6])))]⟩
-- 105: fu_law_11
def fu_law_11_b0 : List S := [.ife (.not (.cal 104 [.var 3])) [.ret (.lit (.bl false))] []]
def fu_law_11_b1 : List S := [.asg 2 (.cal 10 [.var 0, .var 1, .lit (.int 7), .lit (.int 7)]),
    .for_ [3] true (.seq (.lst [.var 2, .tup [.sub (.var 2) (.lit (.int 0)), .slc false true (.sub (.var 2) (.lit (.int 1))) (.lit .non) (.lit (.int 3))], .cal 10 [.var 0, .bin .add (.var 1) (.lit (.int 2)), .lit (.int 4), .lit (.int 6)]])) fu_law_11_b0]
def fu_law_11 : Fun := ⟨1, 4, [.for_ [1] true (.rng (.lit (.int 0)) (.lit (.int 3))) fu_law_11_b1,
    .ife (.or (.cmp .isnot (.cal 99 [.tup [.lit (.int 3), .lst [.tup [.lit (.int 0), .lit (.int 1)], .tup [.lit (.int 0), .lit (.int 2)]]]]) (.lit .non)) (.cmp .is_ (.cal 99 [.tup [.lit (.int 4), .lst [.tup [.lit (.int 0), .lit (.int 1)], .tup [.lit (.int 0), .lit (.int 2)], .tup [.lit (.int 0), .lit (.int 3)]]]]) (.lit .non))) [.ret (.lit (.bl false))] [],
    .ret (.and (.cmp .is_ (.cal 99 [.tup [.lit (.int 4), .lst [.tup [.lit (.int 0), .lit (.int 1)], .tup [.lit (.int 1), .lit (.int 2)], .tup [.lit (.int 2), .lit (.int 3)]]]]) (.lit .non)) (.cmp .is_ (.cal 100 [.tup [.lit (.int 3), .lst [.tup [.lit (.int 0), .lit (.int 1)], .tup [.lit (.int 0), .lit (.int 2)], .tup [.lit (.int 1), .lit (.int 2)]]], .lst [.lit (.int 2), .lit (.int 0), .lit (.int 1)]]) (.lit (.bl true))))]⟩
-- 108: fu_law_round
def fu_law_round : Fun := ⟨1, 5, [.asg 1 (.comp [3, 4] false (.zip (.var 0) (.bin .add (.slc true false (.var 0) (.lit (.int 1)) (.lit .non)) (.slc false true (.var 0) (.lit .non) (.lit (.int 1))))) [] (.tup [.bi .min [.var 3, .var 4], .bi .max [.var 3, .var 4]])),
    .ret (.comp [2] true (.seq (.var 1)) [.cmp .lt (.sub (.var 2) (.lit (.int 0))) (.sub (.var 2) (.lit (.int 1)))] (.var 2))]⟩
-- 109: fu_law_12
def fu_law_12_b0 : List S := [.asg 7 (.lst [.cal 12 [.var 6], .bi .list [.var 4]]),
    .asg 8 (.cal 101 [.var 6, .var 4]),
    .ife (.or (.not (.cal 49 [.cal 100 [.sub (.var 7) (.lit (.int 0)), .sub (.var 7) (.lit (.int 1))], .var 8])) (.cmp .ne (.var 7) (.lst [.var 6, .var 4]))) [.ret (.lit (.bl false))] [],
    .asg 9 (.bin .mod (.var 1) (.bin .add (.bi .len [.var 4]) (.lit (.int 1)))),
    .asg 10 (.bin .add (.slc true false (.var 4) (.var 9) (.lit .non)) (.slc false true (.var 4) (.lit .non) (.var 9))),
    .ife (.or (.cmp .ne (.cal 100 [.var 6, .var 10]) (.var 8)) (.cmp .ne (.cal 100 [.var 6, .rev (.var 4)]) (.var 8))) [.ret (.lit (.bl false))] [],
    .ife (.cmp .ne (.sub (.sub (.var 7) (.lit (.int 0))) (.lit (.int 1))) (.lst [])) [.mut 7 [.lit (.int 1), .lit (.int 0)] .pop [.bin .mod (.var 1) (.bi .len [.sub (.sub (.var 7) (.lit (.int 0))) (.lit (.int 1))])],
    .mut 7 [.lit (.int 1)] .reverse [],
    .ife (.not (.cal 49 [.cal 100 [.sub (.var 7) (.lit (.int 0)), .sub (.var 7) (.lit (.int 1))], .cal 101 [.sub (.var 7) (.lit (.int 0)), .sub (.var 7) (.lit (.int 1))]])) [.ret (.lit (.bl false))] []] []]
def fu_law_12_b1 : List S := [.asg 3 (.cal 10 [.var 0, .var 2, .lit (.int 8), .lit (.int 12)]),
    .asg 4 (.cal 28 [.var 0, .var 2, .sub (.var 3) (.lit (.int 0))]),
    .asg 5 (.tup [.sub (.var 3) (.lit (.int 0)), .bi .ssort [.bin .add (.sub (.var 3) (.lit (.int 1))) (.cal 108 [.var 4])]]),
    .for_ [6] true (.seq (.lst [.var 3, .var 5])) fu_law_12_b0]
def fu_law_12 : Fun := ⟨1, 11, [.asg 1 (.bi .sum [.slc false true (.var 0) (.lit .non) (.lit (.int 63))]),
    .for_ [2] true (.rng (.lit (.int 0)) (.lit (.int 3))) fu_law_12_b1,
    .ife (.or (.cmp .isnot (.cal 100 [.tup [.lit (.int 2), .lst [.tup [.lit (.int 0), .lit (.int 1)]]], .lst [.lit (.int 0), .lit (.int 1)]]) (.lit (.bl false))) (.cmp .isnot (.cal 100 [.tup [.lit (.int 0), .lst []], .lst []]) (.lit (.bl false)))) [.ret (.lit (.bl false))] [],
    .ife (.or (.cmp .isnot (.cal 100 [.tup [.lit (.int 3), .lst [.tup [.lit (.int 0), .lit (.int 1)], .tup [.lit (.int 1), .lit (.int 2)]]], .lst [.lit (.int 0), .lit (.int 1), .lit (.int 2)]]) (.lit (.bl false))) (.cmp .isnot (.cal 100 [.tup [.lit (.int 3), .lst [.tup [.lit (.int 0), .lit (.int 1)], .tup [.lit (.int 0), .lit (.int 2)]]], .lst [.lit (.int 0), .lit (.int 1), .lit (.int 2)]]) (.lit (.bl false)))) [.ret (.lit (.bl false))] [],
    .ret (.cmp .is_ (.cal 100 [.tup [.lit (.int 4), .lst [.tup [.lit (.int 0), .lit (.int 1)], .tup [.lit (.int 0), .lit (.int 3)], .tup [.lit (.int 1), .lit (.int 2)], .tup [.lit (.int 2), .lit (.int 3)]]], .lst [.lit (.int 1), .lit (.int 2), .lit (.int 3), .lit (.int 0)]]) (.lit (.bl true)))]⟩
-- 110: fu_check_row
def fu_check_row : Fun := ⟨2, 3, [.ife (.or (.not (.isi (.var 1) .list)) (.or (.cmp .ne (.bi .len [.var 1]) (.sub (.var 0) (.lit (.int 0)))) (.not (.bi .all [.comp [2] true (.seq (.var 1)) [] (.cal 0 [.var 2])])))) [.rai 9] []]⟩
-- 111: fu_squares
def fu_squares : Fun := ⟨2, 4, [.exp (.cal 4 [.var 0]),
    .exp (.cal 110 [.var 0, .var 1]),
    .ret (.bin .add (.bin .mul (.lit (.int 2)) (.bi .sum [.comp [2] true (.seq (.var 1)) [] (.bin .mul (.var 2) (.var 2))])) (.bin .mul (.lit (.int 2)) (.bi .sum [.comp [2, 3] false (.seq (.sub (.var 0) (.lit (.int 1)))) [] (.bin .mul (.sub (.var 1) (.var 2)) (.sub (.var 1) (.var 3)))])))]⟩
-- 112: fu_by_groups
def fu_by_groups_b0 : List S := [.asg 5 (.bi .sum [.comp [6] true (.seq (.var 4)) [] (.sub (.var 2) (.var 6))]),
    .aug 3 (.bin .mul (.var 5) (.var 5))]
def fu_by_groups_b1 : List S := [.aug 3 (.bin .mul (.bin .mul (.bin .sub (.lit (.int 2)) (.bi .len [.comp [4] true (.seq (.var 1)) [.cmp .isin (.var 6) (.var 4)] (.var 4)])) (.var 7)) (.var 7))]
def fu_by_groups : Fun := ⟨3, 8, [.exp (.cal 37 [.var 0]),
    .exp (.cal 61 [.var 0, .var 1]),
    .exp (.cal 110 [.var 0, .var 2]),
    .asg 3 (.lit (.int 0)),
    .for_ [4] true (.seq (.var 1)) fu_by_groups_b0,
    .for_ [6, 7] false (.enu (.var 2)) fu_by_groups_b1,
    .ret (.var 3)]⟩
-- 113: fu_law_rows
def fu_law_rows_b0 : List S := [.asg 8 (.cal 9 [.sub (.var 3) (.bin .mod (.bin .add (.var 7) (.var 1)) (.bi .len [.var 3])), .bin .add (.var 7) (.var 1), .var 2]),
    .mut 6 [] .append [.bin .sub (.bin .mod (.bin .fdiv (.var 8) (.lit (.int 3))) (.var 5)) (.bin .fdiv (.var 5) (.lit (.int 2)))]]
def fu_law_rows_b1 : List S := [.asg 6 (.lst []),
    .for_ [7] true (.rng (.lit (.int 0)) (.var 2)) fu_law_rows_b0,
    .mut 4 [] .append [.var 6]]
def fu_law_rows : Fun := ⟨3, 9, [.asg 3 (.ite (.cmp .ne (.var 0) (.lst [])) (.slc false true (.var 0) (.lit .non) (.lit (.int 63))) (.lst [.lit (.int 8)])),
    .asg 4 (.lst []),
    .for_ [5] true (.seq (.lst [.lit (.int 3), .bin .pow (.lit (.int 10)) (.lit (.int 20))])) fu_law_rows_b1,
    .ret (.var 4)]⟩
-- 114: fu_law_squares
def fu_law_squares_b0 : List S := [.asg 4 (.bin .add (.var 4) (.bin .mul (.sub (.var 1) (.var 2)) (.bin .add (.bin .mul (.lit (.int 2)) (.sub (.var 1) (.var 2))) (.bi .sum [.comp [5] true (.seq (.sub (.var 3) (.var 2))) [] (.sub (.var 1) (.var 5))]))))]
def fu_law_squares : Fun := ⟨2, 6, [.par [3, 4] [.cal 11 [.var 0], .lit (.int 0)],
    .for_ [2] true (.rng (.lit (.int 0)) (.sub (.var 0) (.lit (.int 0)))) fu_law_squares_b0,
    .ret (.var 4)]⟩
-- 115: fu_law_13
def fu_law_13_b0 : List S := [.ife (.cmp .ne (.cal 112 [.sub (.var 6) (.lit (.int 0)), .var 9, .sub (.var 6) (.lit (.int 1))]) (.var 7)) [.ret (.lit (.bl false))] []]
def fu_law_13_b1 : List S := [.asg 6 (.lst [.cal 12 [.var 3], .bi .list [.var 5], .comp [12] true (.seq (.var 4)) [] (.bi .list [.var 12])]),
    .asg 7 (.cal 111 [.sub (.var 6) (.lit (.int 0)), .sub (.var 6) (.lit (.int 1))]),
    .ife (.or (.not (.cal 25 [.var 7])) (.or (.cmp .ne (.var 7) (.cal 114 [.var 3, .var 5])) (.cmp .lt (.var 7) (.lit (.int 0))))) [.ret (.lit (.bl false))] [],
    .asg 8 (.comp [11] true (.rng (.lit (.int 0)) (.sub (.var 2) (.lit (.int 0)))) [] (.bi .sum [.comp [14, 15] false (.enu (.sub (.var 2) (.lit (.int 1)))) [.cmp .isin (.var 11) (.var 15)] (.sub (.var 5) (.var 14))])),
    .ife (.cmp .ne (.var 7) (.bi .sum [.comp [13] true (.seq (.var 8)) [] (.bin .mul (.var 13) (.var 13))])) [.ret (.lit (.bl false))] [],
    .for_ [9] true (.seq (.lst [.sub (.var 6) (.lit (.int 2)), .cal 59 [.var 2]])) fu_law_13_b0,
    .ife (.cmp .ne (.var 6) (.lst [.var 3, .var 5, .var 4])) [.ret (.lit (.bl false))] [],
    .ife (.cmp .ne (.var 5) (.lst [])) [.mut 6 [.lit (.int 1)] .set [.neg (.lit (.int 1)), .bin .add (.sub (.sub (.var 6) (.lit (.int 1))) (.neg (.lit (.int 1)))) (.lit (.int 1))],
    .asg 10 (.cal 114 [.var 3, .sub (.var 6) (.lit (.int 1))]),
    .ife (.or (.cmp .ne (.cal 111 [.sub (.var 6) (.lit (.int 0)), .sub (.var 6) (.lit (.int 1))]) (.var 10)) (.cmp .ne (.cal 112 [.sub (.var 6) (.lit (.int 0)), .sub (.var 6) (.lit (.int 2)), .sub (.var 6) (.lit (.int 1))]) (.var 10))) [.ret (.lit (.bl false))] []] []]
def fu_law_13_b2 : List S := [.ife (.cmp .ne (.cal 111 [.var 2, .var 5]) (.cal 114 [.var 2, .var 5])) [.ret (.lit (.bl false))] []]
def fu_law_13_b3 : List S := [.asg 2 (.cal 10 [.var 0, .var 1, .lit (.int 9), .lit (.int 8)]),
    .asg 3 (.cal 33 [.var 2]),
    .asg 4 (.att (.cal 45 [.var 3]) "groups"),
    .for_ [5] true (.seq (.cal 113 [.var 0, .var 1, .sub (.var 3) (.lit (.int 0))])) fu_law_13_b1,
    .for_ [5] true (.seq (.cal 113 [.var 0, .bin .add (.var 1) (.lit (.int 2)), .sub (.var 2) (.lit (.int 0))])) fu_law_13_b2]
def fu_law_13 : Fun := ⟨1, 16, [.for_ [1] true (.rng (.lit (.int 0)) (.lit (.int 3))) fu_law_13_b3,
    .ret (.and (.cmp .eq (.cal 111 [.tup [.lit (.int 2), .lst [.tup [.lit (.int 0), .lit (.int 1)]]], .lst [.lit (.int 3), .neg (.lit (.int 3))]]) (.lit (.int 18))) (.cmp .eq (.cal 112 [.tup [.lit (.int 3), .lst [.tup [.lit (.int 0), .lit (.int 1)]]], .lst [.lst [.lit (.int 0), .lit (.int 1)]], .lst [.lit (.int 2), .lit (.int 3), .lit (.int 4)]]) (.bin .add (.bin .add (.bin .add (.lit (.int 25)) (.lit (.int 4))) (.lit (.int 9))) (.lit (.int 32)))))]⟩
-- 116: fu_added
def fu_added : Fun := ⟨2, 5, [.asg 2 (.bi .max [.bi .len [.var 0], .bi .len [.var 1]]),
    .ret (.comp [3] true (.rng (.lit (.int 0)) (.var 2)) [] (.bi .sum [.comp [4] true (.seq (.tup [.var 0, .var 1])) [.cmp .lt (.var 3) (.bi .len [.var 4])] (.sub (.var 4) (.var 3))]))]⟩
-- 117: fu_apart_of
def fu_apart_of : Fun := ⟨2, 5, [.ife (.cmp .eq (.var 1) (.lst [])) [.ret (.lst [.lit (.int 1)])] [],
    .asg 2 (.slc true false (.var 1) (.lit (.int 1)) (.lit .non)),
    .asg 3 (.cal 117 [.var 0, .var 2]),
    .ret (.cal 116 [.var 3, .bin .add (.lst [.lit (.int 0)]) (.cal 117 [.var 0, .comp [4] true (.seq (.var 2)) [.cmp .notin (.var 4) (.sub (.var 0) (.sub (.var 1) (.lit (.int 0))))] (.var 4)])])]⟩
-- 118: fu_places_apart
def fu_places_apart : Fun := ⟨1, 1, [.exp (.cal 37 [.var 0]),
    .ret (.cal 117 [.cal 5 [.var 0], .bi .lrng [.lit (.int 0), .sub (.var 0) (.lit (.int 0))]])]⟩
-- 119: fu_ties_apart
def fu_ties_apart : Fun := ⟨1, 2, [.exp (.cal 31 [.var 0, .lit (.int 10)]),
    .asg 1 (.cal 32 [.var 0]),
    .ret (.cal 117 [.cal 5 [.var 1], .bi .lrng [.lit (.int 0), .sub (.var 1) (.lit (.int 0))]])]⟩
-- 120: fu_law_apart
def fu_law_apart_b0 : List S := [.asg 4 (.bin .add (.var 4) (.comp [6] true (.seq (.var 4)) [.not (.bi .any [.comp [7] true (.seq (.var 6)) [] (.cmp .isin (.var 7) (.sub (.var 3) (.var 1)))])] (.bin .add (.var 6) (.lst [.var 1]))))]
def fu_law_apart : Fun := ⟨1, 8, [.par [3, 4] [.cal 11 [.var 0], .lst [.lst []]],
    .for_ [1] true (.rng (.lit (.int 0)) (.sub (.var 0) (.lit (.int 0)))) fu_law_apart_b0,
    .asg 2 (.bi .max [.comp [6] true (.seq (.var 4)) [] (.bi .len [.var 6])]),
    .ret (.comp [5] true (.rng (.lit (.int 0)) (.bin .add (.var 2) (.lit (.int 1)))) [] (.bi .len [.comp [6] true (.seq (.var 4)) [.cmp .eq (.bi .len [.var 6]) (.var 5)] (.var 6)]))]⟩
-- 121: fu_law_14
def fu_law_14_b0 : List S := [.par [9, 10] [.cal 10 [.var 0, .var 3, .var 2, .lit (.int 12)], .cal 10 [.var 0, .bin .add (.var 3) (.lit (.int 2)), .lit (.int 8), .var 2]],
    .asg 4 (.cal 12 [.var 9]),
    .asg 5 (.cal 118 [.var 4]),
    .ife (.or (.not (.isi (.var 5) .list)) (.or (.cmp .ne (.var 5) (.cal 120 [.var 9])) (.cmp .ne (.var 4) (.var 9)))) [.ret (.lit (.bl false))] [],
    .ife (.not (.bi .all [.comp [12] true (.seq (.var 5)) [] (.cal 25 [.var 12])])) [.ret (.lit (.bl false))] [],
    .asg 6 (.cal 119 [.var 10]),
    .ife (.or (.cmp .ne (.var 6) (.cal 120 [.cal 35 [.var 10]])) (.cmp .ne (.var 6) (.cal 118 [.cal 33 [.var 10]]))) [.ret (.lit (.bl false))] [],
    .ife (.cmp .lt (.sub (.var 9) (.lit (.int 0))) (.lit (.int 10))) [.asg 11 (.cal 118 [.tup [.bin .add (.sub (.var 9) (.lit (.int 0))) (.lit (.int 1)), .sub (.var 9) (.lit (.int 1))]]),
    .ife (.cmp .ne (.var 11) (.comp [12, 13] false (.zip (.bin .add (.var 5) (.lst [.lit (.int 0)])) (.bin .add (.lst [.lit (.int 0)]) (.var 5))) [] (.bin .add (.var 12) (.var 13)))) [.ret (.lit (.bl false))] []] [],
    .asg 7 (.bi .list [.var 5]),
    .mut 5 [] .append [.lit (.int 0)],
    .mut 6 [] .append [.lit (.int 0)],
    .ife (.or (.cmp .ne (.cal 118 [.var 4]) (.var 7)) (.cmp .ne (.cal 119 [.var 10]) (.slc false true (.var 6) (.lit .non) (.neg (.lit (.int 1)))))) [.ret (.lit (.bl false))] [],
    .ife (.cmp .ne (.sub (.var 4) (.lit (.int 1))) (.lst [])) [.mut 4 [.lit (.int 1)] .pop [.bin .mod (.var 1) (.bi .len [.sub (.var 4) (.lit (.int 1))])],
    .ife (.cmp .ne (.cal 118 [.var 4]) (.cal 120 [.var 4])) [.ret (.lit (.bl false))] []] [],
    .asg 8 (.cal 12 [.var 10]),
    .ife (.cmp .ne (.sub (.var 8) (.lit (.int 1))) (.lst [])) [.mut 8 [.lit (.int 1)] .pop [.bin .mod (.var 1) (.bi .len [.sub (.var 8) (.lit (.int 1))])],
    .ife (.cmp .ne (.cal 119 [.var 8]) (.cal 120 [.cal 35 [.var 8]])) [.ret (.lit (.bl false))] []] []]
def fu_law_14 : Fun := ⟨1, 14, [.asg 1 (.bi .sum [.slc false true (.var 0) (.lit .non) (.lit (.int 63))]),
    .asg 2 (.ite (.cmp .eq (.bin .mod (.var 1) (.lit (.int 32))) (.lit (.int 7))) (.lit (.int 10)) (.lit (.int 7))),
    .for_ [3] true (.rng (.lit (.int 0)) (.lit (.int 2))) fu_law_14_b0,
    .ret (.and (.cmp .eq (.cal 118 [.tup [.lit (.int 3), .lst [.tup [.lit (.int 0), .lit (.int 1)]]]]) (.lst [.lit (.int 1), .lit (.int 3), .lit (.int 2)])) (.cmp .eq (.cal 119 [.tup [.lit (.int 4), .lst [.tup [.lit (.int 0), .lit (.int 1)], .tup [.lit (.int 1), .lit (.int 2)], .tup [.lit (.int 2), .lit (.int 3)]]]]) (.lst [.lit (.int 1), .lit (.int 3), .lit (.int 1)])))]⟩
-- 122: fu_ways_from
def fu_ways_from : Fun := ⟨3, 7, [.asg 3 (.bi .len [.var 2]),
    .ife (.cmp .eq (.var 3) (.bi .len [.var 0])) [.ret (.lit (.int 1))] [],
    .asg 4 (.comp [5] true (.seq (.sub (.var 0) (.var 3))) [.cmp .lt (.var 5) (.var 3)] (.sub (.var 2) (.var 5))),
    .ret (.bi .sum [.comp [6] true (.rng (.lit (.int 0)) (.var 1)) [.cmp .notin (.var 6) (.var 4)] (.cal 122 [.var 0, .var 1, .bin .add (.var 2) (.lst [.var 6])])])]⟩
-- 123: fu_check_colours
def fu_check_colours : Fun := ⟨1, 1, [.ife (.or (.not (.cal 0 [.var 0])) (.not (.chn .le .le (.lit (.int 0)) (.var 0) (.lit (.int 4))))) [.rai 10] []]⟩
-- 124: fu_colours
def fu_colours : Fun := ⟨2, 2, [.exp (.cal 38 [.var 0, .lit (.int 8)]),
    .exp (.cal 123 [.var 1]),
    .ret (.cal 122 [.cal 5 [.var 0], .var 1, .lst []])]⟩
-- 125: fu_tie_colours
def fu_tie_colours : Fun := ⟨2, 2, [.exp (.cal 31 [.var 0, .lit (.int 8)]),
    .exp (.cal 123 [.var 1]),
    .ret (.cal 122 [.cal 5 [.cal 32 [.var 0]], .var 1, .lst []])]⟩
-- 126: fu_law_ways
def fu_law_ways_b0 : List S := [.asg 7 (.comp [8] true (.seq (.sub (.var 3) (.var 4))) [.cmp .lt (.var 8) (.var 4)] (.sub (.var 6) (.var 8))),
    .asg 5 (.bin .add (.var 5) (.comp [9] true (.rng (.lit (.int 0)) (.var 1)) [.cmp .notin (.var 9) (.var 7)] (.bin .add (.var 6) (.lst [.var 9]))))]
def fu_law_ways_b1 : List S := [.asg 5 (.lst []),
    .for_ [6] true (.seq (.var 2)) fu_law_ways_b0,
    .asg 2 (.var 5)]
def fu_law_ways : Fun := ⟨2, 10, [.asg 2 (.lst [.lst []]),
    .asg 3 (.cal 11 [.var 0]),
    .for_ [4] true (.rng (.lit (.int 0)) (.sub (.var 0) (.lit (.int 0)))) fu_law_ways_b1,
    .ret (.bi .len [.var 2])]⟩
-- 127: fu_law_made_one
def fu_law_made_one_b0 : List S := [.asg 6 (.bi .sorted [.comp [7] true (.seq (.tup [.var 4, .var 5])) [] (.ite (.cmp .eq (.var 7) (.sub (.var 1) (.lit (.int 1)))) (.sub (.var 1) (.lit (.int 0))) (.var 7))]),
    .ife (.and (.cmp .lt (.sub (.var 6) (.lit (.int 0))) (.sub (.var 6) (.lit (.int 1)))) (.cmp .notin (.tup [.sub (.var 6) (.lit (.int 0)), .sub (.var 6) (.lit (.int 1))]) (.var 3))) [.mut 3 [] .append [.tup [.sub (.var 6) (.lit (.int 0)), .sub (.var 6) (.lit (.int 1))]]] []]
def fu_law_made_one : Fun := ⟨2, 8, [.asg 2 (.comp [7] true (.rng (.lit (.int 0)) (.sub (.var 0) (.lit (.int 0)))) [.cmp .ne (.var 7) (.sub (.var 1) (.lit (.int 1)))] (.var 7)),
    .asg 3 (.lst []),
    .for_ [4, 5] false (.seq (.sub (.var 0) (.lit (.int 1)))) fu_law_made_one_b0,
    .ret (.cal 27 [.tup [.sub (.var 0) (.lit (.int 0)), .var 3], .var 2])]⟩
-- 128: fu_law_15
def fu_law_15_b0 : List S := [.par [7, 8] [.cal 124 [.var 3, .var 4], .cal 125 [.var 6, .var 4]],
    .ife (.or (.not (.cal 25 [.var 7])) (.or (.not (.cal 25 [.var 8])) (.or (.cmp .ne (.var 7) (.cal 126 [.var 5, .var 4])) (.cmp .ne (.var 3) (.var 5))))) [.ret (.lit (.bl false))] [],
    .ife (.or (.cmp .ne (.var 8) (.cal 126 [.cal 35 [.var 6], .var 4])) (.cmp .ne (.var 8) (.cal 124 [.cal 33 [.var 6], .var 4]))) [.ret (.lit (.bl false))] [],
    .ife (.cmp .ne (.sub (.var 5) (.lit (.int 1))) (.lst [])) [.asg 9 (.tup [.sub (.var 5) (.lit (.int 0)), .slc true false (.sub (.var 5) (.lit (.int 1))) (.lit (.int 1)) (.lit .non)]),
    .ife (.cmp .ne (.var 7) (.bin .sub (.cal 124 [.var 9, .var 4]) (.cal 124 [.cal 127 [.var 5, .sub (.sub (.var 5) (.lit (.int 1))) (.lit (.int 0))], .var 4]))) [.ret (.lit (.bl false))] []] []]
def fu_law_15_b1 : List S := [.par [5, 6] [.cal 10 [.var 0, .var 2, .lit (.int 5), .lit (.int 6)], .cal 10 [.var 0, .bin .add (.var 2) (.lit (.int 2)), .lit (.int 6), .lit (.int 5)]],
    .asg 3 (.cal 12 [.var 5]),
    .for_ [4] true (.rng (.lit (.int 0)) (.bin .add (.lit (.int 4)) (.bin .mod (.var 1) (.lit (.int 2))))) fu_law_15_b0,
    .ife (.cmp .ne (.cmp .eq (.cal 124 [.var 5, .lit (.int 1)]) (.lit (.int 1))) (.cmp .eq (.sub (.var 5) (.lit (.int 1))) (.lst []))) [.ret (.lit (.bl false))] [],
    .ife (.cmp .ne (.sub (.var 3) (.lit (.int 1))) (.lst [])) [.mut 3 [.lit (.int 1)] .pop [.bin .mod (.var 1) (.bi .len [.sub (.var 3) (.lit (.int 1))])],
    .ife (.cmp .ne (.cal 124 [.var 3, .lit (.int 3)]) (.cal 126 [.var 3, .lit (.int 3)])) [.ret (.lit (.bl false))] []] []]
def fu_law_15 : Fun := ⟨1, 10, [.asg 1 (.bi .sum [.slc false true (.var 0) (.lit .non) (.lit (.int 63))]),
    .for_ [2] true (.rng (.lit (.int 0)) (.lit (.int 2))) fu_law_15_b1,
    .ife (.or (.cmp .ne (.cal 124 [.tup [.lit (.int 0), .lst []], .lit (.int 0)]) (.lit (.int 1))) (.cmp .ne (.cal 124 [.tup [.lit (.int 1), .lst []], .lit (.int 0)]) (.lit (.int 0)))) [.ret (.lit (.bl false))] [],
    .ret (.and (.cmp .eq (.cal 124 [.tup [.lit (.int 3), .lst [.tup [.lit (.int 0), .lit (.int 1)], .tup [.lit (.int 0), .lit (.int 2)], .tup [.lit (.int 1), .lit (.int 2)]]], .lit (.int 3)]) (.lit (.int 6))) (.cmp .eq (.cal 125 [.tup [.lit (.int 4), .lst [.tup [.lit (.int 0), .lit (.int 1)], .tup [.lit (.int 0), .lit (.int 2)], .tup [.lit (.int 0), .lit (.int 3)]]], .lit (.int 2)]) (.lit (.int 0))))]⟩
-- 129: fu_law_round_of
def fu_law_round_of : Fun := ⟨1, 2, [.ret (.tup [.var 0, .bi .sorted [.bin .add (.lst [.tup [.lit (.int 0), .bin .sub (.var 0) (.lit (.int 1))]]) (.comp [1] true (.rng (.lit (.int 0)) (.bin .sub (.var 0) (.lit (.int 1)))) [] (.tup [.var 1, .bin .add (.var 1) (.lit (.int 1))]))]])]⟩
-- 130: fu_law_16
def fu_law_16_b0 : List S := [.asg 6 (.cal 10 [.var 0, .var 2, .lit (.int 12), .lit (.int 10)]),
    .par [8, 9] [.cal 33 [.var 6], .comp [10] true (.seq (.cal 11 [.var 6])) [] (.bi .len [.var 10])],
    .asg 7 (.comp [11, 12] false (.seq (.sub (.var 6) (.lit (.int 1)))) [] (.bin .sub (.bin .add (.sub (.var 9) (.var 11)) (.sub (.var 9) (.var 12))) (.lit (.int 2)))),
    .ife (.cmp .ne (.comp [10] true (.seq (.cal 6 [.var 8])) [] (.bi .len [.var 10])) (.var 7)) [.ret (.lit (.bl false))] [],
    .ife (.and (.cmp .le (.bi .len [.sub (.var 8) (.lit (.int 1))]) (.lit (.int 10))) (.cmp .ne (.cal 34 [.var 8]) (.bi .len [.sub (.cal 33 [.var 8]) (.lit (.int 1))]))) [.ret (.lit (.bl false))] []]
def fu_law_16 : Fun := ⟨1, 14, [.asg 1 (.bi .sum [.slc false true (.var 0) (.lit .non) (.lit (.int 63))]),
    .for_ [2] true (.rng (.lit (.int 0)) (.lit (.int 3))) fu_law_16_b0,
    .asg 3 (.bin .add (.lit (.int 3)) (.bin .mod (.var 1) (.lit (.int 8)))),
    .ife (.cmp .ne (.bi .sorted [.comp [10] true (.seq (.cal 6 [.cal 33 [.cal 129 [.var 3]]])) [] (.bi .len [.var 10])]) (.bin .mul (.lst [.lit (.int 2)]) (.var 3))) [.ret (.lit (.bl false))] [],
    .asg 4 (.cal 33 [.tup [.var 3, .comp [13] true (.rng (.lit (.int 0)) (.bin .sub (.var 3) (.lit (.int 1)))) [] (.tup [.var 13, .bin .add (.var 13) (.lit (.int 1))])]]),
    .asg 5 (.cal 33 [.tup [.var 3, .comp [13] true (.rng (.lit (.int 1)) (.var 3)) [] (.tup [.lit (.int 0), .var 13])]]),
    .ife (.cmp .ne (.var 4) (.tup [.bin .sub (.var 3) (.lit (.int 1)), .comp [13] true (.rng (.lit (.int 0)) (.bin .sub (.var 3) (.lit (.int 2)))) [] (.tup [.var 13, .bin .add (.var 13) (.lit (.int 1))])])) [.ret (.lit (.bl false))] [],
    .ret (.chn .eq .eq (.cal 34 [.tup [.var 3, .comp [13] true (.rng (.lit (.int 1)) (.var 3)) [] (.tup [.lit (.int 0), .var 13])]]) (.bi .len [.sub (.var 5) (.lit (.int 1))]) (.bin .fdiv (.bin .mul (.bin .sub (.var 3) (.lit (.int 1))) (.bin .sub (.var 3) (.lit (.int 2)))) (.lit (.int 2))))]⟩
-- 131: fu_law_17
def fu_law_17_b0 : List S := [.asg 4 (.cal 28 [.var 0, .var 2, .sub (.var 3) (.lit (.int 0))]),
    .asg 5 (.cal 21 [.var 3, .var 4]),
    .par [7, 8] [.cal 45 [.var 3], .cal 45 [.var 5]],
    .ife (.cmp .ne (.isi (.var 7) (.cls 6)) (.isi (.var 8) (.cls 6))) [.ret (.lit (.bl false))] [],
    .ife (.isi (.var 7) (.cls 6)) [.asg 9 (.bi .sorted [.comp [10] true (.seq (.att (.var 7) "groups")) [] (.bi .sorted [.comp [11] true (.seq (.var 10)) [] (.mix (.var 4) (.var 11))])]),
    .ife (.not (.cal 46 [.var 5, .var 9])) [.ret (.lit (.bl false))] []] [],
    .ife (.or (.cmp .ne (.cal 118 [.var 3]) (.cal 118 [.var 5])) (.cmp .ne (.cal 124 [.var 3, .lit (.int 3)]) (.cal 124 [.var 5, .lit (.int 3)]))) [.ret (.lit (.bl false))] [],
    .asg 6 (.sub (.cal 113 [.var 0, .var 2, .sub (.var 3) (.lit (.int 0))]) (.bin .mod (.var 1) (.lit (.int 2)))),
    .ife (.cmp .ne (.cal 111 [.var 3, .var 6]) (.cal 111 [.var 5, .comp [11] true (.seq (.var 4)) [] (.sub (.var 6) (.var 11))])) [.ret (.lit (.bl false))] [],
    .ife (.cmp .le (.bi .len [.sub (.var 3) (.lit (.int 1))]) (.lit (.int 8))) [.ife (.or (.cmp .ne (.cal 119 [.var 3]) (.cal 119 [.var 5])) (.cmp .ne (.cmp .is_ (.cal 91 [.var 3]) (.lit .non)) (.cmp .is_ (.cal 91 [.var 5]) (.lit .non)))) [.ret (.lit (.bl false))] [],
    .ife (.cmp .ne (.cmp .is_ (.cal 99 [.var 3]) (.lit .non)) (.cmp .is_ (.cal 99 [.var 5]) (.lit .non))) [.ret (.lit (.bl false))] []] []]
def fu_law_17_b1 : List S := [.for_ [3] true (.seq (.lst [.cal 10 [.var 0, .var 2, .lit (.int 6), .lit (.int 8)], .cal 35 [.cal 10 [.var 0, .bin .add (.var 2) (.lit (.int 2)), .lit (.int 6), .lit (.int 6)]]])) fu_law_17_b0]
def fu_law_17 : Fun := ⟨1, 12, [.asg 1 (.bi .sum [.slc false true (.var 0) (.lit .non) (.lit (.int 63))]),
    .for_ [2] true (.rng (.lit (.int 0)) (.lit (.int 2))) fu_law_17_b1,
    .ret (.lit (.bl true))]⟩
-- 132: fu_law_times
def fu_law_times_b0 : List S := [.mut 2 [] .set [.bin .add (.var 3) (.var 5), .bin .add (.sub (.var 2) (.bin .add (.var 3) (.var 5))) (.bin .mul (.var 4) (.var 6))]]
def fu_law_times_b1 : List S := [.for_ [5, 6] false (.enu (.var 1)) fu_law_times_b0]
def fu_law_times : Fun := ⟨2, 7, [.asg 2 (.bin .mul (.lst [.lit (.int 0)]) (.bin .sub (.bin .add (.bi .len [.var 0]) (.bi .len [.var 1])) (.lit (.int 1)))),
    .for_ [3, 4] false (.enu (.var 0)) fu_law_times_b1,
    .ret (.var 2)]⟩
-- 133: fu_law_18
def fu_law_18_b0 : List S := [.ife (.cmp .ne (.cal 124 [.var 2, .var 5]) (.bin .mul (.cal 124 [.var 6, .var 5]) (.cal 124 [.var 7, .var 5]))) [.ret (.lit (.bl false))] []]
def fu_law_18_b1 : List S := [.par [6, 7] [.cal 10 [.var 0, .var 1, .lit (.int 4), .lit (.int 5)], .cal 10 [.var 0, .bin .add (.var 1) (.lit (.int 2)), .lit (.int 4), .lit (.int 4)]],
    .asg 2 (.cal 22 [.var 6, .var 7]),
    .asg 3 (.lst [.cal 45 [.var 6], .cal 45 [.var 7], .cal 45 [.var 2]]),
    .asg 4 (.comp [9] true (.seq (.var 3)) [] (.isi (.var 9) (.cls 6))),
    .ife (.cmp .ne (.sub (.var 4) (.lit (.int 2))) (.and (.sub (.var 4) (.lit (.int 0))) (.sub (.var 4) (.lit (.int 1))))) [.ret (.lit (.bl false))] [],
    .ife (.sub (.var 4) (.lit (.int 2))) [.asg 8 (.comp [10] true (.seq (.att (.sub (.var 3) (.lit (.int 1))) "groups")) [] (.comp [11] true (.seq (.var 10)) [] (.bin .add (.var 11) (.sub (.var 6) (.lit (.int 0)))))),
    .ife (.not (.cal 46 [.var 2, .bi .sorted [.bin .add (.att (.sub (.var 3) (.lit (.int 0))) "groups") (.var 8)]])) [.ret (.lit (.bl false))] []] [],
    .ife (.cmp .ne (.cal 33 [.var 2]) (.cal 22 [.cal 33 [.var 6], .cal 33 [.var 7]])) [.ret (.lit (.bl false))] [],
    .ife (.cmp .ne (.cal 118 [.var 2]) (.cal 132 [.cal 118 [.var 6], .cal 118 [.var 7]])) [.ret (.lit (.bl false))] [],
    .for_ [5] true (.rng (.lit (.int 0)) (.lit (.int 4))) fu_law_18_b0,
    .ife (.and (.cmp .ne (.sub (.var 6) (.lit (.int 1))) (.lst [])) (.and (.cmp .ne (.sub (.var 7) (.lit (.int 1))) (.lst [])) (.cmp .isnot (.cal 99 [.var 2]) (.lit .non)))) [.ret (.lit (.bl false))] []]
def fu_law_18 : Fun := ⟨1, 12, [.for_ [1] true (.rng (.lit (.int 0)) (.lit (.int 3))) fu_law_18_b1,
    .ret (.lit (.bl true))]⟩
-- 134: fu_law_covers
def fu_law_covers : Fun := ⟨1, 1, [.ret (.cal 135 [.var 0, .bi .list [.sub (.var 0) (.lit (.int 1))], .lst []])]⟩
-- 135: fu_law_covers_on
def fu_law_covers_on_b0 : List S := [.ife (.cmp .notin (.var 4) (.sub (.var 1) (.lit (.int 0)))) [.asg 3 (.bin .add (.var 3) (.comp [6] true (.seq (.var 3)) [.cal 136 [.var 6, .var 4, .var 1]] (.bin .add (.var 6) (.lst [.var 4]))))] []]
def fu_law_covers_on_b1 : List S := [.asg 7 (.comp [9] true (.seq (.var 1)) [.or (.cmp .notin (.sub (.var 9) (.lit (.int 0))) (.var 6)) (.cmp .notin (.sub (.var 9) (.lit (.int 1))) (.var 6))] (.var 9)),
    .asg 8 (.comp [4] true (.rng (.lit (.int 0)) (.sub (.var 0) (.lit (.int 0)))) [] (.bi .len [.comp [10] true (.seq (.bin .add (.var 2) (.lst [.var 6]))) [.cmp .isin (.var 4) (.var 10)] (.var 10)])),
    .ife (.cmp .lt (.bi .max [.var 8]) (.lit (.int 3))) [.asg 5 (.bin .add (.var 5) (.cal 135 [.var 0, .var 7, .bin .add (.var 2) (.lst [.bi .sorted [.var 6]])]))] []]
def fu_law_covers_on : Fun := ⟨3, 11, [.ife (.cmp .eq (.var 1) (.lst [])) [.ret (.ite (.cal 46 [.var 0, .bi .sorted [.var 2]]) (.lst [.bi .sorted [.var 2]]) (.lst []))] [],
    .asg 3 (.lst [.bi .list [.sub (.var 1) (.lit (.int 0))]]),
    .for_ [4] true (.rng (.lit (.int 0)) (.sub (.var 0) (.lit (.int 0)))) fu_law_covers_on_b0,
    .asg 5 (.lst []),
    .for_ [6] true (.seq (.var 3)) fu_law_covers_on_b1,
    .ret (.var 5)]⟩
-- 136: fu_law_all_tied
def fu_law_all_tied : Fun := ⟨3, 4, [.ret (.bi .all [.comp [3] true (.seq (.var 0)) [] (.cmp .isin (.tup [.bi .min [.var 3, .var 1], .bi .max [.var 3, .var 1]]) (.var 2))])]⟩
-- 137: fu_law_has_two
def fu_law_has_two : Fun := ⟨1, 3, [.asg 1 (.bi .sorted [.comp [2] true (.seq (.cal 11 [.var 0])) [] (.bi .len [.var 2])]),
    .ret (.cmp .isin (.var 1) (.lst [.lst [.lit (.int 2), .lit (.int 2), .lit (.int 2)], .lst [.lit (.int 2), .lit (.int 2), .lit (.int 3), .lit (.int 3)], .lst [.lit (.int 3), .lit (.int 3), .lit (.int 3), .lit (.int 3), .lit (.int 4)], .bin .mul (.lst [.lit (.int 4)]) (.lit (.int 6))]))]⟩
-- 138: fu_law_right_7
def fu_law_right_7_b0 : List S := [.asg 2 (.cal 18 [.var 0, .var 1]),
    .par [3, 4] [.cal 134 [.var 2], .cal 45 [.var 2]],
    .ife (.cmp .ne (.isi (.var 4) (.cls 6)) (.cmp .ne (.var 3) (.lst []))) [.ret (.lit (.bl false))] [],
    .ife (.cmp .ne (.var 3) (.lst [])) [.ife (.or (.cmp .notin (.att (.var 4) "groups") (.var 3)) (.cmp .eq (.cmp .eq (.bi .len [.var 3]) (.lit (.int 1))) (.cal 137 [.var 2]))) [.ret (.lit (.bl false))] [],
    .ife (.and (.cmp .eq (.bi .len [.var 3]) (.lit (.int 1))) (.cmp .ne (.cal 65 [.var 2]) (.cal 64 [.var 2, .sub (.var 3) (.lit (.int 0))]))) [.ret (.lit (.bl false))] []] []]
def fu_law_right_7 : Fun := ⟨1, 5, [.for_ [1] true (.seq (.cal 8 [.var 0])) fu_law_right_7_b0,
    .ret (.lit (.bl true))]⟩
-- 139: fu_law_19
def fu_law_19 : Fun := ⟨1, 6, [.asg 1 (.bi .sum [.slc false true (.var 0) (.lit .non) (.lit (.int 63))]),
    .asg 2 (.lst [.cal 35 [.cal 10 [.var 0, .lit (.int 0), .lit (.int 5), .lit (.int 6)]], .cal 10 [.var 0, .lit (.int 1), .lit (.int 5), .lit (.int 7)], .cal 10 [.var 0, .lit (.int 2), .lit (.int 4), .lit (.int 6)]]),
    .asg 3 (.tup [.lit (.int 6), .lst [.tup [.lit (.int 0), .lit (.int 1)], .tup [.lit (.int 0), .lit (.int 2)], .tup [.lit (.int 0), .lit (.int 4)], .tup [.lit (.int 0), .lit (.int 5)], .tup [.lit (.int 1), .lit (.int 2)], .tup [.lit (.int 1), .lit (.int 3)], .tup [.lit (.int 1), .lit (.int 5)], .tup [.lit (.int 2), .lit (.int 3)], .tup [.lit (.int 2), .lit (.int 4)], .tup [.lit (.int 3), .lit (.int 4)], .tup [.lit (.int 3), .lit (.int 5)], .tup [.lit (.int 4), .lit (.int 5)]]]),
    .asg 4 (.tup [.lit (.int 5), .lst [.tup [.lit (.int 0), .lit (.int 1)], .tup [.lit (.int 0), .lit (.int 2)], .tup [.lit (.int 0), .lit (.int 3)], .tup [.lit (.int 0), .lit (.int 4)], .tup [.lit (.int 1), .lit (.int 2)], .tup [.lit (.int 1), .lit (.int 4)], .tup [.lit (.int 2), .lit (.int 3)], .tup [.lit (.int 3), .lit (.int 4)]]]),
    .ife (.not (.bi .all [.comp [5] true (.seq (.var 2)) [] (.cal 138 [.var 5])])) [.ret (.lit (.bl false))] [],
    .ife (.and (.cmp .eq (.bin .mod (.var 1) (.lit (.int 16))) (.lit (.int 5))) (.not (.cal 138 [.var 3]))) [.ret (.lit (.bl false))] [],
    .ret (.and (.cal 138 [.var 4]) (.and (.cal 138 [.tup [.lit (.int 3), .lst [.tup [.lit (.int 0), .lit (.int 1)], .tup [.lit (.int 0), .lit (.int 2)], .tup [.lit (.int 1), .lit (.int 2)]]]]) (.cmp .eq (.bi .len [.cal 134 [.var 4]]) (.lit (.int 2)))))]⟩
-- 140: fu_law_20
def fu_law_20_b0 : List S := [.asg 10 (.tup [.sub (.var 3) (.lit (.int 0)), .bin .add (.slc false true (.sub (.var 3) (.lit (.int 1))) (.lit .non) (.var 9)) (.slc true false (.sub (.var 3) (.lit (.int 1))) (.bin .add (.var 9) (.lit (.int 1))) (.lit .non))]),
    .asg 11 (.comp [12] true (.rng (.lit (.int 0)) (.sub (.var 4) (.lit (.int 0)))) [.cmp .ne (.var 12) (.var 9)] (.var 12)),
    .ife (.cmp .ne (.cal 33 [.var 10]) (.cal 18 [.var 4, .var 11])) [.ret (.lit (.bl false))] []]
def fu_law_20_b1 : List S := [.asg 3 (.cal 10 [.var 0, .var 2, .lit (.int 7), .lit (.int 8)]),
    .asg 4 (.cal 33 [.var 3]),
    .asg 5 (.att (.cal 45 [.var 4]) "groups"),
    .asg 6 (.comp [12] true (.rng (.lit (.int 0)) (.sub (.var 4) (.lit (.int 0)))) [.cmp .gt (.bin .mod (.cal 9 [.bin .add (.var 1) (.var 12), .var 2, .lit (.int 7)]) (.lit (.int 3))) (.lit (.int 0))] (.var 12)),
    .asg 7 (.comp [13] true (.seq (.var 5)) [] (.comp [12] true (.seq (.var 13)) [.cmp .isin (.var 12) (.var 6)] (.mix (.var 6) (.var 12)))),
    .asg 7 (.bi .sorted [.comp [13] true (.seq (.var 7)) [.cmp .gt (.bi .len [.var 13]) (.lit (.int 1))] (.var 13)]),
    .asg 8 (.cal 18 [.var 4, .var 6]),
    .ife (.or (.not (.cal 46 [.var 8, .var 7])) (.cmp .ne (.bi .len [.sub (.sub (.cal 64 [.var 8, .var 7]) (.lit (.int 0))) (.lit (.int 1))]) (.bi .len [.var 6]))) [.ret (.lit (.bl false))] [],
    .for_ [9] true (.rng (.lit (.int 0)) (.bi .len [.sub (.var 3) (.lit (.int 1))])) fu_law_20_b0,
    .ife (.cmp .ne (.bi .len [.sub (.sub (.cal 65 [.var 4]) (.lit (.int 0))) (.lit (.int 1))]) (.sub (.var 4) (.lit (.int 0)))) [.ret (.lit (.bl false))] []]
def fu_law_20 : Fun := ⟨1, 14, [.asg 1 (.bi .sum [.slc false true (.var 0) (.lit .non) (.lit (.int 63))]),
    .for_ [2] true (.rng (.lit (.int 0)) (.lit (.int 3))) fu_law_20_b1,
    .ret (.lit (.bl true))]⟩
-- 143: fu_law_at
def fu_law_at : Fun := ⟨2, 2, [.ret (.ite (.cmp .lt (.var 1) (.bi .len [.var 0])) (.sub (.var 0) (.var 1)) (.lit (.int 0)))]⟩
-- 146: fu_law_all_refused
def fu_law_all_refused_b0 : List S := [.ife (.not (.bi .all [.comp [9] true (.seq (.cav (.var 4) [.bi .len [.var 0]])) [] (.cal 69 [.var 2, .var 6, .var 9, .var 5])])) [.ret (.lit (.bl false))] []]
def fu_law_all_refused_b1 : List S := [.asg 8 (.cav (.var 4) [.bin .mod (.var 7) (.bin .pow (.lit (.int 10)) (.lit (.int 60)))]),
    .ife (.not (.cal 69 [.var 2, .bin .mod (.var 7) (.var 3), .sub (.var 8) (.bin .mod (.bin .fdiv (.var 7) (.lit (.int 7))) (.bi .len [.var 8])), .var 5])) [.ret (.lit (.bl false))] []]
def fu_law_all_refused_b2 : List S := [.for_ [6] true (.rng (.lit (.int 0)) (.var 3)) fu_law_all_refused_b0,
    .for_ [7] true (.seq (.var 0)) fu_law_all_refused_b1]
def fu_law_all_refused : Fun := ⟨2, 10, [.for_ [2, 3, 4, 5] false (.seq (.var 1)) fu_law_all_refused_b2,
    .ret (.lit (.bl true))]⟩
-- 147: fu_law_no_webs
def fu_law_no_webs : Fun := ⟨1, 5, [.asg 1 (.lst [.lit .non, .tup [.lit (.int 0)], .tup [.lit (.int 1), .lit (.int 0)], .tup [.lit (.int 2), .lit (.int 2)], .tup [.lit (.int 0), .lit (.int 1), .lit (.int 2)], .lst [.lit (.int 0), .lit (.int 1)], .tup [.lit (.str "0"), .lit (.int 1)], .tup [.lit (.int 0), .lit (.bl true)], .tup [.lit (.bl false), .lit (.int 1)], .tup [.lit (.int 0), .lit (.int 5)]]),
    .asg 1 (.bin .add (.var 1) (.lst [.tup [.neg (.lit (.int 1)), .lit (.int 1)], .tup [.lit (.int 0), .bin .add (.lit (.int 5)) (.var 0)]])),
    .asg 2 (.lst [.tup [.lit (.int 0), .lit (.int 1)], .tup [.lit (.int 0), .lit (.int 4)], .tup [.lit (.int 1), .lit (.int 2)], .tup [.lit (.int 2), .lit (.int 3)], .tup [.lit (.int 3), .lit (.int 4)]]),
    .mut 2 [] .set [.bin .mod (.var 0) (.lit (.int 5)), .sub (.var 1) (.bin .mod (.bin .fdiv (.var 0) (.lit (.int 5))) (.lit (.int 12)))],
    .asg 3 (.lst [.lit .non, .lit (.int 5), .tup [], .tup [.lit (.int 5)], .bin .add (.tup [.lit (.int 5), .lst []]) (.tup [.lit (.int 0)]), .lst [.lit (.int 5), .lst []], .lit (.str "web"), .dnew, .tup [.lit (.int 5), .lit .non], .tup [.lit (.int 5), .tup []], .tup [.lit .non, .lst []], .tup [.lit (.bl true), .lst []]]),
    .asg 3 (.bin .add (.var 3) (.lst [.tup [.neg (.lit (.int 1)), .lst []], .tup [.bin .sub (.neg (.lit (.int 1))) (.var 0), .lst []], .tup [.lit (.int 25), .lst []], .tup [.bin .add (.lit (.int 25)) (.var 0), .lst []], .tup [.lit (.str "5"), .lst []], .tup [.lit (.int 5), .lst [.tup [.lit (.int 0), .lit (.int 1)], .tup [.lit (.int 0), .lit (.int 1)]]]])),
    .asg 3 (.bin .add (.bin .add (.var 3) (.lst [.tup [.lit (.int 5), .lst [.tup [.lit (.int 0), .lit (.int 2)], .tup [.lit (.int 0), .lit (.int 1)]]], .tup [.lit (.int 0), .lst [.tup [.lit (.int 0), .lit (.int 1)]]], .tup [.lit (.int 5), .var 2]])) (.comp [4] true (.seq (.slc true false (.var 1) (.lit (.int 1)) (.lit .non))) [] (.tup [.lit (.int 5), .lst [.tup [.lit (.int 0), .lit (.int 1)], .var 4]]))),
    .mut 3 [] .append [.tup [.lit (.int 24), .slc false true (.sub (.cal 148 [.lit (.int 13)]) (.lit (.int 1))) (.lit .non) (.bin .add (.lit (.int 67)) (.bin .mod (.var 0) (.lit (.int 11))))]],
    .ret (.bin .add (.var 3) (.comp [4] true (.seq (.var 1)) [] (.tup [.lit (.int 5), .lst [.var 4]])))]⟩
-- 148: fu_law_all_tied_2
def fu_law_all_tied_2_b0 : List S := [.asg 1 (.bin .add (.var 1) (.comp [3] true (.rng (.bin .add (.var 2) (.lit (.int 1))) (.var 0)) [] (.tup [.var 2, .var 3])))]
def fu_law_all_tied_2 : Fun := ⟨1, 4, [.asg 1 (.lst []),
    .for_ [2] true (.rng (.lit (.int 0)) (.var 0)) fu_law_all_tied_2_b0,
    .ret (.tup [.var 0, .var 1])]⟩
-- 151: fu_law_with_second
def fu_law_with_second : Fun := ⟨2, 2, [.ret (.ite (.cmp .eq (.var 0) (.lit (.int 0))) (.cal 22 [.tup [.lit (.int 2), .lst [.tup [.lit (.int 0), .lit (.int 1)]]], .var 1]) (.cal 75 [.tup [.lit (.int 2), .lst [.tup [.lit (.int 0), .lit (.int 1)]]], .var 1]))]⟩
-- 153: fu_law_eleven
def fu_law_eleven : Fun := ⟨1, 1, [.ret (.lst [.tup [.lit (.int 11), .lst []], .tup [.bin .add (.lit (.int 11)) (.bin .mod (.var 0) (.lit (.int 14))), .lst [.tup [.lit (.int 0), .lit (.int 1)]]], .tup [.lit (.int 12), .lst [.tup [.lit (.int 0), .lit (.int 11)]]], .tup [.lit (.int 24), .lst []]])]⟩
-- 154: fu_law_few_places
def fu_law_few_places : Fun := ⟨2, 2, [.ife (.cmp .eq (.var 0) (.lit (.int 0))) [.ret (.cal 124 [.var 1, .lit .non])] [],
    .ret (.ite (.cmp .eq (.var 0) (.lit (.int 1))) (.cal 75 [.var 1, .lit .non]) (.cal 75 [.tup [.lit (.int 2), .lst []], .var 1]))]⟩
-- 155: fu_law_nine
def fu_law_nine : Fun := ⟨1, 1, [.ret (.lst [.tup [.lit (.int 9), .lst []], .tup [.bin .add (.lit (.int 9)) (.bin .mod (.var 0) (.lit (.int 16))), .lst [.tup [.lit (.int 0), .lit (.int 1)]]], .tup [.lit (.int 10), .lst [.tup [.lit (.int 0), .lit (.int 9)]]]])]⟩
-- 157: fu_law_many_ties
def fu_law_many_ties : Fun := ⟨1, 2, [.asg 1 (.sub (.cal 148 [.lit (.int 12)]) (.lit (.int 1))),
    .ret (.lst [.tup [.lit (.int 12), .slc false true (.var 1) (.lit .non) (.lit (.int 11))], .tup [.lit (.int 12), .slc false true (.var 1) (.lit .non) (.bin .add (.lit (.int 11)) (.bin .mod (.var 0) (.lit (.int 50))))], .tup [.lit (.int 6), .slc false true (.sub (.cal 148 [.lit (.int 6)]) (.lit (.int 1))) (.lit .non) (.lit (.int 12))]])]⟩
-- 158: fu_law_few_ties
def fu_law_few_ties : Fun := ⟨2, 2, [.ret (.cal 125 [.var 1, .lit .non])]⟩
-- 159: fu_law_nine_ties
def fu_law_nine_ties : Fun := ⟨1, 1, [.ret (.lst [.tup [.lit (.int 12), .slc false true (.sub (.cal 148 [.lit (.int 12)]) (.lit (.int 1))) (.lit .non) (.lit (.int 9))], .tup [.lit (.int 12), .slc false true (.sub (.cal 148 [.lit (.int 12)]) (.lit (.int 1))) (.lit .non) (.bin .add (.lit (.int 9)) (.bin .mod (.var 0) (.lit (.int 50))))]])]⟩
-- 160: fu_law_22
def fu_law_22 : Fun := ⟨1, 2, [.asg 1 (.lst [.tup [.lit (.fn 149), .lit (.int 11), .lit (.fn 147), .lit (.int 0)], .tup [.lit (.fn 150), .lit (.int 10), .lit (.fn 147), .lit (.int 0)]]),
    .asg 1 (.bin .add (.var 1) (.lst [.tup [.lit (.fn 151), .lit (.int 2), .lit (.fn 147), .lit (.int 0)], .tup [.lit (.fn 152), .lit (.int 6), .lit (.fn 153), .lit (.int 0)]])),
    .asg 1 (.bin .add (.var 1) (.lst [.tup [.lit (.fn 154), .lit (.int 3), .lit (.fn 155), .lit (.int 0)], .tup [.lit (.fn 156), .lit (.int 4), .lit (.fn 157), .lit (.int 0)]])),
    .mut 1 [] .append [.tup [.lit (.fn 158), .lit (.int 1), .lit (.fn 159), .lit (.int 0)]],
    .ife (.not (.cal 146 [.var 0, .var 1])) [.ret (.lit (.bl false))] [],
    .ret (.and (.cmp .eq (.cal 6 [.tup [.lit (.int 24), .lst []]]) (.bin .mul (.lst [.lst []]) (.lit (.int 24)))) (.and (.cmp .eq (.cal 34 [.cal 148 [.lit (.int 12)]]) (.lit (.int 660))) (.cmp .eq (.cal 8 [.tup [.lit (.int 0), .lst []]]) (.lst []))))]⟩
-- 161: fu_law_with_places
def fu_law_with_places : Fun := ⟨2, 2, [.ret (.cal 18 [.tup [.lit (.int 4), .lst [.tup [.lit (.int 0), .lit (.int 1)]]], .var 1])]⟩
-- 162: fu_law_no_places
def fu_law_no_places : Fun := ⟨1, 4, [.asg 1 (.lst [.lit .non, .neg (.lit (.int 1)), .lit (.int 4), .bin .add (.lit (.int 4)) (.var 0), .bin .sub (.neg (.lit (.int 1))) (.var 0), .lit (.bl true), .lit (.bl false), .lit (.str "1"), .lst [.lit (.int 1)], .tup [.lit (.int 1)], .dnew]),
    .asg 2 (.lst [.lit .non, .tup [], .tup [.lit (.int 0), .lit (.int 1)], .lit (.str "01"), .lit (.int 5), .dnew, .lst [.lit (.int 1), .lit (.int 0)], .lst [.lit (.int 0), .lit (.int 0)], .lst [.lit (.int 0), .lit (.int 1), .lit (.int 1)], .lst [.lit (.int 0), .lit (.int 1), .lit (.int 2), .lit (.int 3), .lit (.int 3)]]),
    .ret (.bin .add (.bin .add (.var 2) (.comp [3] true (.seq (.var 1)) [] (.lst [.var 3]))) (.comp [3] true (.seq (.var 1)) [] (.lst [.lit (.int 0), .var 3])))]⟩
-- 163: fu_law_with_order
def fu_law_with_order : Fun := ⟨2, 3, [.asg 2 (.tup [.lit (.int 3), .lst [.tup [.lit (.int 0), .lit (.int 1)], .tup [.lit (.int 0), .lit (.int 2)], .tup [.lit (.int 1), .lit (.int 2)]]]),
    .ret (.ite (.cmp .eq (.var 0) (.lit (.int 0))) (.cal 21 [.var 2, .var 1]) (.cal 100 [.var 2, .var 1]))]⟩
-- 164: fu_law_no_orders
def fu_law_no_orders : Fun := ⟨1, 4, [.asg 1 (.lst [.lit .non, .neg (.lit (.int 1)), .lit (.int 3), .bin .add (.lit (.int 3)) (.var 0), .bin .sub (.neg (.lit (.int 1))) (.var 0), .lit (.bl true), .lit (.bl false), .lit (.str "1"), .lst [.lit (.int 1)], .tup [.lit (.int 1)], .dnew]),
    .asg 2 (.lst [.lit .non, .tup [], .tup [.lit (.int 0), .lit (.int 1), .lit (.int 2)], .lit (.str "012"), .lit (.int 5), .dnew, .lst [], .lst [.lit (.int 0), .lit (.int 1)], .lst [.lit (.int 0), .lit (.int 1), .lit (.int 1)], .lst [.lit (.int 0), .lit (.int 1), .lit (.int 2), .lit (.int 3)], .lst [.lit (.int 0), .lit (.int 0), .lit (.int 1), .lit (.int 2)]]),
    .ret (.bin .add (.bin .add (.var 2) (.comp [3] true (.seq (.var 1)) [] (.lst [.lit (.int 0), .var 3, .lit (.int 2)]))) (.comp [3] true (.seq (.var 1)) [] (.lst [.lit (.int 1), .lit (.int 2), .var 3])))]⟩
-- 165: fu_law_with_groups
def fu_law_with_groups : Fun := ⟨2, 3, [.asg 2 (.tup [.lit (.int 4), .lst [.tup [.lit (.int 0), .lit (.int 1)], .tup [.lit (.int 0), .lit (.int 2)], .tup [.lit (.int 1), .lit (.int 2)], .tup [.lit (.int 2), .lit (.int 3)]]]),
    .ret (.ite (.cmp .eq (.var 0) (.lit (.int 0))) (.cal 64 [.var 2, .var 1]) (.cal 112 [.var 2, .var 1, .lit .non]))]⟩
-- 166: fu_law_no_groups
def fu_law_no_groups : Fun := ⟨1, 5, [.asg 1 (.lst [.lst [.lit (.int 0), .lit (.int 1), .lit (.int 2)], .lst [.lit (.int 2), .lit (.int 3)]]),
    .asg 2 (.lst [.lit .non, .tup [], .tup [.lst [.lit (.int 0), .lit (.int 1), .lit (.int 2)], .lst [.lit (.int 2), .lit (.int 3)]], .lit (.int 5), .lit (.str ""), .dnew, .lst [], .slc false true (.var 1) (.lit .non) (.lit (.int 1)), .rev (.var 1), .bin .add (.var 1) (.lst [.lst [.lit (.int 3)]]), .bin .add (.var 1) (.lst [.lst [.lit (.int 2), .lit (.int 3)]])]),
    .asg 2 (.bin .add (.var 2) (.lst [.lst [.lst [.lit (.int 0), .lit (.int 1)], .lst [.lit (.int 0), .lit (.int 2)], .lst [.lit (.int 1), .lit (.int 2)], .lst [.lit (.int 2), .lit (.int 3)]], .lst [.lst [.lit (.int 0), .lit (.int 2), .lit (.int 1)], .lst [.lit (.int 2), .lit (.int 3)]], .lst [.lst [.lit (.int 0), .lit (.int 1), .lit (.int 2), .lit (.int 3)]], .lst [.tup [.lit (.int 0), .lit (.int 1), .lit (.int 2)], .tup [.lit (.int 2), .lit (.int 3)]]])),
    .asg 2 (.bin .add (.var 2) (.lst [.lst [.lst [.lit (.int 0), .lit (.int 1), .lit (.int 2)], .lst [.lit (.int 3), .lit (.int 2)]], .lst [.lst [.lit (.int 0), .lit (.int 1), .lit (.int 2)], .lst [.lit (.int 2), .lit (.int 3)], .lst [.lit (.int 0), .lit (.int 3)]], .lst [.lst [.lit (.int 0), .lit (.int 1), .lit (.int 2)], .lit .non], .lst [.lit .non, .lst [.lit (.int 2), .lit (.int 3)]]])),
    .asg 3 (.lst [.lit .non, .neg (.lit (.int 1)), .lit (.int 4), .bin .add (.lit (.int 4)) (.var 0), .bin .sub (.neg (.lit (.int 1))) (.var 0), .lit (.bl true), .lit (.str "3"), .lst [.lit (.int 3)], .tup [.lit (.int 3)]]),
    .ret (.bin .add (.var 2) (.comp [4] true (.seq (.var 3)) [] (.lst [.lst [.lit (.int 0), .lit (.int 1), .lit (.int 2)], .lst [.lit (.int 2), .var 4]])))]⟩
-- 167: fu_law_with_row
def fu_law_with_row : Fun := ⟨2, 3, [.asg 2 (.tup [.lit (.int 3), .lst [.tup [.lit (.int 0), .lit (.int 1)]]]),
    .ret (.ite (.cmp .eq (.var 0) (.lit (.int 0))) (.cal 111 [.var 2, .var 1]) (.cal 112 [.var 2, .lst [.lst [.lit (.int 0), .lit (.int 1)]], .var 1]))]⟩
-- 168: fu_law_no_rows
def fu_law_no_rows : Fun := ⟨1, 4, [.asg 1 (.lst [.lit .non, .lit (.str "1"), .lit (.bl true), .lit (.bl false), .lst [.lit (.int 1)], .tup [.lit (.int 1)], .dnew]),
    .asg 2 (.lst [.lit .non, .tup [], .tup [.lit (.int 1), .lit (.int 2), .lit (.int 3)], .lit (.str "123"), .lit (.int 5), .dnew, .lst [], .lst [.lit (.int 1), .lit (.int 2)], .lst [.lit (.int 1), .lit (.int 2), .lit (.int 3), .lit (.int 4)], .bin .mul (.lst [.var 0]) (.lit (.int 4))]),
    .ret (.bin .add (.bin .add (.var 2) (.comp [3] true (.seq (.var 1)) [] (.lst [.lit (.int 1), .var 3, .lit (.int 3)]))) (.comp [3] true (.seq (.var 1)) [] (.lst [.var 3, .lit (.int 2), .lit (.int 3)])))]⟩
-- 169: fu_law_with_colours
def fu_law_with_colours : Fun := ⟨2, 2, [.ret (.ite (.cmp .eq (.var 0) (.lit (.int 0))) (.cal 124 [.tup [.lit (.int 2), .lst [.tup [.lit (.int 0), .lit (.int 1)]]], .var 1]) (.cal 125 [.tup [.lit (.int 2), .lst [.tup [.lit (.int 0), .lit (.int 1)]]], .var 1]))]⟩
-- 170: fu_law_no_colours
def fu_law_no_colours : Fun := ⟨1, 1, [.ret (.lst [.lit .non, .neg (.lit (.int 1)), .bin .sub (.neg (.lit (.int 1))) (.var 0), .lit (.int 5), .bin .add (.lit (.int 5)) (.var 0), .lit (.bl true), .lit (.bl false), .lit (.str "1"), .lst [.lit (.int 1)], .tup [.lit (.int 1)], .dnew])]⟩
-- 171: fu_law_with_many
def fu_law_with_many : Fun := ⟨2, 2, [.ret (.cal 22 [.sub (.var 1) (.lit (.int 0)), .sub (.var 1) (.lit (.int 1))])]⟩
-- 172: fu_law_too_many
def fu_law_too_many : Fun := ⟨1, 3, [.asg 1 (.cal 148 [.lit (.int 12)]),
    .asg 2 (.lst [.tup [.tup [.lit (.int 24), .lst []], .tup [.lit (.int 1), .lst []]], .tup [.tup [.lit (.int 13), .lst []], .tup [.lit (.int 12), .lst []]], .tup [.var 1, .tup [.lit (.int 2), .lst [.tup [.lit (.int 0), .lit (.int 1)]]]], .tup [.var 1, .var 1]]),
    .ret (.bin .add (.var 2) (.lst [.tup [.tup [.lit (.int 20), .lst []], .tup [.bin .add (.lit (.int 5)) (.bin .mod (.var 0) (.lit (.int 20))), .lst []]]]))]⟩
-- 173: fu_law_with_root
def fu_law_with_root : Fun := ⟨2, 2, [.ret (.cal 65 [.var 1])]⟩
-- 174: fu_law_no_cover
def fu_law_no_cover : Fun := ⟨1, 4, [.asg 1 (.lst [.tup [.lit (.int 0), .lit (.int 1)], .tup [.lit (.int 0), .lit (.int 2)], .tup [.lit (.int 0), .lit (.int 3)]]),
    .asg 2 (.tup [.lit (.int 5), .comp [3] true (.seq (.sub (.cal 148 [.lit (.int 5)]) (.lit (.int 1)))) [.cmp .ne (.var 3) (.tup [.bin .mod (.var 0) (.lit (.int 4)), .lit (.int 4)])] (.var 3)]),
    .ret (.lst [.tup [.lit (.int 4), .var 1], .tup [.bin .add (.lit (.int 4)) (.bin .mod (.var 0) (.lit (.int 7))), .var 1], .var 2, .tup [.lit (.int 6), .lst [.tup [.lit (.int 0), .lit (.int 1)], .tup [.lit (.int 1), .lit (.int 3)], .tup [.lit (.int 1), .lit (.int 5)], .tup [.lit (.int 2), .lit (.int 4)]]]])]⟩
-- 175: fu_law_23
def fu_law_23 : Fun := ⟨1, 2, [.asg 1 (.lst [.tup [.lit (.fn 161), .lit (.int 1), .lit (.fn 162), .lit (.int 1)], .tup [.lit (.fn 163), .lit (.int 2), .lit (.fn 164), .lit (.int 2)]]),
    .asg 1 (.bin .add (.var 1) (.lst [.tup [.lit (.fn 165), .lit (.int 2), .lit (.fn 166), .lit (.int 3)], .tup [.lit (.fn 167), .lit (.int 2), .lit (.fn 168), .lit (.int 4)]])),
    .asg 1 (.bin .add (.var 1) (.lst [.tup [.lit (.fn 169), .lit (.int 2), .lit (.fn 170), .lit (.int 5)], .tup [.lit (.fn 171), .lit (.int 1), .lit (.fn 172), .lit (.int 6)]])),
    .mut 1 [] .append [.tup [.lit (.fn 173), .lit (.int 1), .lit (.fn 174), .lit (.int 7)]],
    .ife (.not (.cal 146 [.var 0, .var 1])) [.ret (.lit (.bl false))] [],
    .ret (.and (.cmp .eq (.cal 22 [.tup [.lit (.int 12), .lst []], .tup [.lit (.int 12), .lst []]]) (.tup [.lit (.int 24), .lst []])) (.cmp .eq (.cal 18 [.tup [.lit (.int 4), .lst [.tup [.lit (.int 0), .lit (.int 1)]]], .lst []]) (.tup [.lit (.int 0), .lst []])))]⟩
-- 176: fu_law_counts_right
def fu_law_counts_right : Fun := ⟨2, 4, [.ife (.or (.cmp .ne (.cal 34 [.var 0]) (.bi .len [.sub (.var 1) (.lit (.int 1))])) (.cmp .ne (.cal 119 [.var 0]) (.cal 118 [.var 1]))) [.ret (.lit (.bl false))] [],
    .asg 2 (.tup [.sub (.var 0) (.lit (.int 0)), .slc false true (.sub (.var 0) (.lit (.int 1))) (.lit .non) (.lit (.int 5))]),
    .ret (.bi .all [.comp [3] true (.rng (.lit (.int 0)) (.lit (.int 4))) [] (.cmp .eq (.cal 125 [.var 2, .var 3]) (.cal 124 [.cal 33 [.var 2], .var 3]))])]⟩
-- 178: fu_law_barred_right
def fu_law_barred_right : Fun := ⟨1, 6, [.asg 1 (.cal 45 [.var 0]),
    .ife (.isi (.var 1) (.cls 6)) [.ret (.cal 47 [.var 0])] [],
    .asg 2 (.att (.var 1) "places"),
    .ife (.not (.isi (.cal 45 [.cal 18 [.var 0, .var 2]]) (.cls 7))) [.ret (.lit (.bl false))] [],
    .asg 3 (.comp [4] true (.rng (.lit (.int 0)) (.bi .len [.var 2])) [] (.bin .add (.slc false true (.var 2) (.lit .non) (.var 4)) (.slc true false (.var 2) (.bin .add (.var 4) (.lit (.int 1))) (.lit .non)))),
    .ret (.bi .all [.comp [5] true (.seq (.var 3)) [] (.isi (.cal 45 [.cal 18 [.var 0, .var 5]]) (.cls 6))])]⟩
-- 179: fu_law_24
def fu_law_24_b0 : List S := [.asg 3 (.cal 10 [.var 0, .var 2, .lit (.int 6), .lit (.int 7)]),
    .asg 4 (.cal 28 [.var 0, .var 2, .bi .len [.sub (.var 3) (.lit (.int 1))]]),
    .asg 5 (.sub (.cal 113 [.var 0, .var 2, .bi .len [.sub (.var 3) (.lit (.int 1))]]) (.bin .mod (.var 1) (.lit (.int 2)))),
    .ife (.not (.cal 177 [.var 3, .var 4, .var 5])) [.ret (.lit (.bl false))] [],
    .ife (.not (.cal 178 [.cal 10 [.var 0, .bin .add (.var 2) (.lit (.int 2)), .lit (.int 6), .lit (.int 9)]])) [.ret (.lit (.bl false))] []]
def fu_law_24 : Fun := ⟨1, 6, [.asg 1 (.bi .sum [.slc false true (.var 0) (.lit .non) (.lit (.int 63))]),
    .for_ [2] true (.rng (.lit (.int 0)) (.lit (.int 2))) fu_law_24_b0,
    .ret (.lit (.bl true))]⟩
-- 182: fu_law_25
def fu_law_25_b0 : List S := [.asg 4 (.comp [5] true (.rng (.lit (.int 0)) (.sub (.var 3) (.lit (.int 0)))) [] (.bin .sub (.bin .mod (.bin .add (.var 1) (.bin .mul (.lit (.int 7)) (.var 5))) (.lit (.int 11))) (.lit (.int 5)))),
    .ife (.and (.cmp .lt (.sub (.var 3) (.lit (.int 0))) (.lit (.int 9))) (.not (.cal 181 [.var 3, .var 4]))) [.ret (.lit (.bl false))] []]
def fu_law_25 : Fun := ⟨1, 6, [.asg 1 (.bi .sum [.slc false true (.var 0) (.lit .non) (.lit (.int 63))]),
    .asg 2 (.lst [.cal 35 [.cal 10 [.var 0, .lit (.int 0), .lit (.int 6), .lit (.int 6)]], .cal 10 [.var 0, .lit (.int 1), .lit (.int 6), .lit (.int 8)], .cal 10 [.var 0, .lit (.int 2), .lit (.int 4), .lit (.int 6)]]),
    .mut 2 [] .append [.cal 35 [.cal 10 [.var 0, .lit (.int 3), .lit (.int 5), .lit (.int 5)]]],
    .for_ [3] true (.seq (.var 2)) fu_law_25_b0,
    .ret (.cal 180 [.var 2])]⟩
-- 184: fu_law_all_tied_3
def fu_law_all_tied_3_b0 : List S := [.mut 1 [] .extend [.comp [3] true (.rng (.bin .add (.var 2) (.lit (.int 1))) (.var 0)) [] (.tup [.var 2, .var 3])]]
def fu_law_all_tied_3 : Fun := ⟨1, 4, [.asg 1 (.lst []),
    .for_ [2] true (.rng (.lit (.int 0)) (.var 0)) fu_law_all_tied_3_b0,
    .ret (.var 1)]⟩
-- 189: fu_law_26
def fu_law_26_b0 : List S := [.ife (.not (.cal 185 [.var 3, .var 1])) [.ret (.lit (.bl false))] []]
def fu_law_26_b1 : List S := [.ife (.not (.cal 187 [.tup [.lit (.int 24), .var 3], .var 1])) [.ret (.lit (.bl false))] []]
def fu_law_26_b2 : List S := [.ife (.not (.cal 188 [.var 1])) [.ret (.lit (.bl false))] []]
def fu_law_26 : Fun := ⟨1, 4, [.par [2, 3] [.bi .abs [.bi .sum [.slc false true (.var 0) (.lit .non) (.lit (.int 63))]], .cal 184 [.lit (.int 12)]],
    .for_ [1] true (.seq (.bi .ssort [.lst [.bin .add (.lit (.int 1)) (.bin .mod (.var 2) (.lit (.int 65))), .lit (.int 65)]])) fu_law_26_b0,
    .for_ [1] true (.seq (.bi .ssort [.lst [.bin .add (.lit (.int 1)) (.bin .mod (.bin .fdiv (.var 2) (.lit (.int 65))) (.lit (.int 23))), .lit (.int 23)]])) fu_law_26_b1,
    .for_ [1] true (.seq (.bi .ssort [.lst [.bin .mod (.bin .fdiv (.var 2) (.lit (.int 1495))) (.lit (.int 9)), .lit (.int 8)]])) fu_law_26_b2,
    .ret (.and (.cmp .eq (.cal 34 [.tup [.lit (.int 24), .var 3]]) (.lit (.int 660))) (.cmp .eq (.cal 111 [.tup [.lit (.int 24), .var 3], .bin .mul (.lst [.lit (.int 1)]) (.lit (.int 24))]) (.lit (.int 180))))]⟩
-- 190: fu_law_order_2
def fu_law_order_2_b0 : List S := [.mut 2 [] .insert [.bin .mod (.bin .fdiv (.var 0) (.bin .add (.var 3) (.lit (.int 1)))) (.bin .add (.var 3) (.lit (.int 1))), .var 3]]
def fu_law_order_2 : Fun := ⟨2, 4, [.asg 2 (.lst []),
    .for_ [3] true (.rng (.lit (.int 0)) (.var 1)) fu_law_order_2_b0,
    .ret (.var 2)]⟩
-- 191: fu_law_led_on_2
def fu_law_led_on_2_b0 : List S := [.ife (.cmp .notin (.var 4) (.var 2)) [.asg 5 (.comp [8] true (.seq (.var 2)) [] (.cmp .isin (.tup [.bi .min [.var 4, .var 8], .bi .max [.var 4, .var 8]]) (.sub (.var 0) (.lit (.int 1))))),
    .asg 6 (.comp [9] true (.rng (.lit (.int 0)) (.var 3)) [] (.cmp .isin (.tup [.var 9, .var 3]) (.sub (.var 1) (.lit (.int 1))))),
    .asg 7 (.ite (.cmp .eq (.var 5) (.var 6)) (.cal 191 [.var 0, .var 1, .bin .add (.var 2) (.lst [.var 4])]) (.lit .non)),
    .ife (.cmp .isnot (.var 7) (.lit .non)) [.ret (.var 7)] []] []]
def fu_law_led_on_2 : Fun := ⟨3, 10, [.asg 3 (.bi .len [.var 2]),
    .ife (.cmp .eq (.var 3) (.sub (.var 0) (.lit (.int 0)))) [.ret (.var 2)] [],
    .for_ [4] true (.rng (.lit (.int 0)) (.sub (.var 0) (.lit (.int 0)))) fu_law_led_on_2_b0,
    .ret (.lit .non)]⟩
-- 192: fu_law_five_right
def fu_law_five_right : Fun := ⟨1, 11, [.asg 1 (.tup [.lit (.int 5), .cal 184 [.lit (.int 5)]]),
    .par [2, 3] [.cal 33 [.var 1], .comp [8] true (.rng (.lit (.int 0)) (.lit (.int 10))) [] (.bin .add (.bin .sub (.bin .mod (.bin .add (.var 0) (.var 8)) (.lit (.int 7))) (.lit (.int 3))) (.bin .mul (.bin .pow (.lit (.int 10)) (.lit (.int 20))) (.bin .mod (.var 8) (.lit (.int 3)))))],
    .par [4, 5] [.cal 45 [.var 2], .cal 59 [.var 1]],
    .ife (.or (.not (.isi (.var 4) (.cls 6))) (.or (.cmp .ne (.att (.var 4) "groups") (.var 5)) (.cmp .ne (.comp [9] true (.seq (.var 5)) [] (.bi .len [.var 9])) (.bin .mul (.lst [.lit (.int 4)]) (.lit (.int 5)))))) [.ret (.lit (.bl false))] [],
    .ife (.or (.cmp .ne (.cal 65 [.var 2]) (.cal 64 [.var 2, .var 5])) (.cmp .is_ (.cal 75 [.sub (.cal 65 [.var 2]) (.lit (.int 0)), .var 1]) (.lit .non))) [.ret (.lit (.bl false))] [],
    .ife (.cmp .ne (.cal 112 [.var 2, .var 5, .var 3]) (.cal 111 [.var 2, .var 3])) [.ret (.lit (.bl false))] [],
    .par [6, 7] [.tup [.lit (.int 10), .cal 184 [.lit (.int 10)]], .tup [.lit (.int 10), .bin .add (.lst [.tup [.lit (.int 0), .lit (.int 1)], .tup [.lit (.int 0), .lit (.int 9)]]) (.comp [8] true (.rng (.lit (.int 1)) (.lit (.int 9))) [] (.tup [.var 8, .bin .add (.var 8) (.lit (.int 1))]))]],
    .ife (.or (.cmp .ne (.att (.cal 45 [.var 6]) "groups") (.lst [.bi .lrng [.lit (.int 0), .lit (.int 10)]])) (.cmp .ne (.att (.cal 45 [.var 7]) "groups") (.comp [10] true (.seq (.sub (.var 7) (.lit (.int 1)))) [] (.bi .list [.var 10])))) [.ret (.lit (.bl false))] [],
    .ret (.cmp .eq (.cal 65 [.tup [.lit (.int 3), .lst [.tup [.lit (.int 0), .lit (.int 1)], .tup [.lit (.int 1), .lit (.int 2)]]]]) (.tup [.tup [.lit (.int 4), .lst [.tup [.lit (.int 0), .lit (.int 1)], .tup [.lit (.int 0), .lit (.int 2)], .tup [.lit (.int 1), .lit (.int 3)]]], .lst [.lit (.int 1), .lit (.int 0), .lit (.int 2)]]))]⟩
-- 194: fu_law_greatest_right
def fu_law_greatest_right : Fun := ⟨1, 11, [.par [4, 5] [.cal 184 [.lit (.int 12)], .cal 190 [.var 0, .lit (.int 24)]],
    .asg 1 (.tup [.lit (.int 24), .var 4]),
    .ife (.or (.cmp .ne (.cal 22 [.tup [.lit (.int 12), .var 4], .tup [.lit (.int 12), .lst []]]) (.var 1)) (.cmp .ne (.cal 18 [.var 1, .bi .lrng [.lit (.int 0), .lit (.int 12)]]) (.tup [.lit (.int 12), .var 4]))) [.ret (.lit (.bl false))] [],
    .asg 2 (.comp [7, 8] false (.seq (.var 4)) [] (.bi .sorted [.lst [.mix (.var 5) (.var 7), .mix (.var 5) (.var 8)]])),
    .ife (.cmp .ne (.cal 21 [.var 1, .var 5]) (.tup [.lit (.int 24), .bi .sorted [.comp [7, 8] false (.seq (.var 2)) [] (.tup [.var 7, .var 8])]])) [.ret (.lit (.bl false))] [],
    .asg 3 (.comp [6] true (.rng (.lit (.int 0)) (.lit (.int 12))) [] (.comp [9, 10] false (.enu (.var 4)) [.cmp .isin (.var 6) (.var 10)] (.var 9))),
    .ret (.and (.cmp .eq (.cal 59 [.var 1]) (.bi .sorted [.var 3])) (.cmp .eq (.cal 111 [.var 1, .bi .lrng [.lit (.int 0), .lit (.int 24)]]) (.bin .sub (.bin .add (.bin .mul (.lit (.int 2)) (.lit (.int 4324))) (.bin .mul (.lit (.int 66)) (.lit (.int 66)))) (.lit (.int 506)))))]⟩
-- 195: fu_law_rings_right
def fu_law_rings_right_b0 : List S := [.asg 6 (.cal 99 [.var 4]),
    .ife (.or (.cmp .ne (.cmp .isnot (.var 6) (.lit .non)) (.var 5)) (.cmp .ne (.cmp .isnot (.cal 91 [.var 4]) (.lit .non)) (.var 5))) [.ret (.lit (.bl false))] [],
    .ife (.and (.var 5) (.cmp .isnot (.cal 100 [.cal 33 [.var 4], .var 6]) (.lit (.bl true)))) [.ret (.lit (.bl false))] []]
def fu_law_rings_right : Fun := ⟨0, 8, [.asg 0 (.lst [.tup [.lit (.int 0), .lit (.int 1)], .tup [.lit (.int 0), .lit (.int 2)], .tup [.lit (.int 0), .lit (.int 3)], .tup [.lit (.int 0), .lit (.int 4)], .tup [.lit (.int 1), .lit (.int 2)], .tup [.lit (.int 3), .lit (.int 4)]]),
    .asg 1 (.lst [.tup [.lit (.int 5), .cal 184 [.lit (.int 5)]], .tup [.lit (.int 6), .bi .sorted [.bin .add (.var 0) (.lst [.tup [.lit (.int 0), .lit (.int 5)]])]], .tup [.lit (.int 6), .bi .sorted [.bin .add (.var 0) (.lst [.tup [.lit (.int 1), .lit (.int 5)]])]]]),
    .mut 1 [] .append [.tup [.lit (.int 7), .bi .sorted [.bin .add (.var 0) (.lst [.tup [.lit (.int 1), .lit (.int 5)], .tup [.lit (.int 5), .lit (.int 6)]])]]],
    .mut 1 [] .append [.tup [.lit (.int 8), .bi .sorted [.bin .add (.var 0) (.lst [.tup [.lit (.int 0), .lit (.int 5)], .tup [.lit (.int 1), .lit (.int 6)], .tup [.lit (.int 3), .lit (.int 7)]])]]],
    .for_ [4, 5] false (.zip (.var 1) (.tup [.lit (.bl true), .lit (.bl true), .lit (.bl true), .lit (.bl false), .lit (.bl true)])) fu_law_rings_right_b0,
    .asg 2 (.tup [.lit (.int 8), .bin .add (.lst [.tup [.lit (.int 0), .lit (.int 1)], .tup [.lit (.int 0), .lit (.int 7)]]) (.comp [7] true (.rng (.lit (.int 1)) (.lit (.int 7))) [] (.tup [.var 7, .bin .add (.var 7) (.lit (.int 1))]))]),
    .asg 3 (.tup [.lit (.int 9), .comp [7] true (.rng (.lit (.int 0)) (.lit (.int 8))) [] (.tup [.var 7, .bin .add (.var 7) (.lit (.int 1))])]),
    .ret (.cmp .eq (.lst [.cal 125 [.var 2, .lit (.int 3)], .cal 125 [.var 2, .lit (.int 2)], .cal 125 [.var 3, .lit (.int 4)], .cal 125 [.var 3, .lit (.int 2)]]) (.lst [.lit (.int 258), .lit (.int 2), .lit (.int 8748), .lit (.int 2)]))]⟩
-- 196: fu_law_27
def fu_law_27_b0 : List S := [.asg 3 (.cal 10 [.var 0, .var 2, .ite (.cmp .eq (.bin .mod (.var 1) (.lit (.int 16))) (.lit (.int 3))) (.lit (.int 8)) (.lit (.int 6)), .lit (.int 9)]),
    .asg 4 (.cal 21 [.var 3, .cal 190 [.bin .add (.bin .fdiv (.var 1) (.lit (.int 7))) (.var 2), .sub (.var 3) (.lit (.int 0))]]),
    .ife (.or (.cmp .ne (.cal 75 [.var 3, .var 4]) (.cal 191 [.var 3, .var 4, .lst []])) (.cmp .ne (.cal 75 [.var 4, .var 3]) (.cal 191 [.var 4, .var 3, .lst []]))) [.ret (.lit (.bl false))] []]
def fu_law_27 : Fun := ⟨1, 5, [.asg 1 (.bi .abs [.bi .sum [.slc false true (.var 0) (.lit .non) (.lit (.int 63))]]),
    .ife (.or (.not (.cal 192 [.var 1])) (.or (.not (.cal 193 [.var 1])) (.not (.cal 194 [.var 1])))) [.ret (.lit (.bl false))] [],
    .for_ [2] true (.rng (.lit (.int 0)) (.lit (.int 2))) fu_law_27_b0,
    .ret (.cal 195 [])]⟩
-- 201: fu_law_29
def fu_law_29_b0 : List S := [.asg 3 (.bin .add (.var 3) (.comp [10] true (.rng (.lit (.int 0)) (.var 4)) [] (.tup [.var 10, .var 4])))]
def fu_law_29 : Fun := ⟨1, 11, [.asg 1 (.bi .abs [.bi .sum [.slc false true (.var 0) (.lit .non) (.lit (.int 63))]]),
    .asg 2 (.bin .add (.lit (.int 5)) (.bin .mod (.var 1) (.lit (.int 4)))),
    .asg 3 (.lst []),
    .for_ [4] true (.rng (.lit (.int 0)) (.var 2)) fu_law_29_b0,
    .ife (.not (.cal 200 [.tup [.var 2, .bi .sorted [.var 3]], .lst [.bi .lrng [.lit (.int 0), .var 2]], .lit (.int 0), .var 1])) [.ret (.lit (.bl false))] [],
    .asg 5 (.tup [.lit (.int 5), .lst [.tup [.lit (.int 0), .lit (.int 1)], .tup [.lit (.int 0), .lit (.int 2)], .tup [.lit (.int 1), .lit (.int 2)], .tup [.lit (.int 2), .lit (.int 3)], .tup [.lit (.int 3), .lit (.int 4)]]]),
    .ife (.not (.cal 200 [.var 5, .lst [.lst [.lit (.int 0), .lit (.int 1), .lit (.int 2)], .lst [.lit (.int 2), .lit (.int 3)], .lst [.lit (.int 3), .lit (.int 4)]], .lit (.int 0), .var 1])) [.ret (.lit (.bl false))] [],
    .asg 6 (.bin .add (.lit (.int 11)) (.bin .mod (.bin .fdiv (.var 1) (.lit (.int 4))) (.lit (.int 14)))),
    .asg 7 (.tup [.var 6, .comp [9] true (.rng (.lit (.int 0)) (.bin .sub (.var 6) (.lit (.int 1)))) [] (.tup [.var 9, .bin .add (.var 9) (.lit (.int 1))])]),
    .ife (.cmp .ne (.cal 59 [.var 7]) (.comp [9] true (.rng (.lit (.int 0)) (.bin .sub (.var 6) (.lit (.int 2)))) [] (.lst [.var 9, .bin .add (.var 9) (.lit (.int 1))]))) [.ret (.lit (.bl false))] [],
    .asg 8 (.tup [.var 6, .comp [9] true (.rng (.lit (.int 1)) (.var 6)) [] (.tup [.lit (.int 0), .var 9])]),
    .ret (.cmp .eq (.cal 59 [.var 8]) (.lst [.bi .lrng [.lit (.int 0), .bin .sub (.var 6) (.lit (.int 1))]]))]⟩
-- 202: fu_law_list_right
def fu_law_list_right_b0 : List S := [.mut 3 [] .set [.var 6, .var 7]]
def fu_law_list_right_b1 : List S := [.mut 3 [] .set [.var 6, .var 7]]
def fu_law_list_right : Fun := ⟨3, 8, [.asg 3 (.bi .list [.var 1]),
    .asg 4 (.cav (.var 0) [.var 3]),
    .ife (.cmp .ne (.var 3) (.var 1)) [.ret (.lit (.bl false))] [],
    .asg 5 (.bi .list [.var 4]),
    .mut 4 [] .append [.lit (.int 99)],
    .mut 4 [] .reverse [],
    .ife (.cmp .ne (.cav (.var 0) [.var 3]) (.var 5)) [.ret (.lit (.bl false))] [],
    .for_ [6, 7] false (.enu (.var 2)) fu_law_list_right_b0,
    .ife (.or (.cmp .ne (.cav (.var 0) [.var 3]) (.cav (.var 0) [.bi .list [.var 2]])) (.cmp .ne (.var 3) (.var 2))) [.ret (.lit (.bl false))] [],
    .for_ [6, 7] false (.enu (.var 1)) fu_law_list_right_b1,
    .ret (.and (.cmp .eq (.cav (.var 0) [.var 3]) (.var 5)) (.cmp .eq (.var 3) (.var 1)))]⟩
-- 203: fu_law_door_right
def fu_law_door_right : Fun := ⟨3, 7, [.asg 3 (.bi .list [.sub (.var 1) (.lit (.int 1))]),
    .asg 4 (.tup [.sub (.var 1) (.lit (.int 0)), .var 3]),
    .asg 5 (.cav (.var 0) [.var 4]),
    .ife (.cmp .ne (.var 3) (.sub (.var 1) (.lit (.int 1)))) [.ret (.lit (.bl false))] [],
    .asg 6 (.bi .list [.var 5]),
    .mut 5 [] .append [.lit (.int 99)],
    .mut 5 [] .reverse [],
    .ife (.cmp .ne (.cav (.var 0) [.var 4]) (.var 6)) [.ret (.lit (.bl false))] [],
    .mut 3 [] .clear [],
    .mut 3 [] .extend [.bi .list [.sub (.var 2) (.lit (.int 1))]],
    .ife (.or (.cmp .ne (.cav (.var 0) [.var 4]) (.cav (.var 0) [.tup [.sub (.var 2) (.lit (.int 0)), .bi .list [.sub (.var 2) (.lit (.int 1))]]])) (.cmp .ne (.var 3) (.sub (.var 2) (.lit (.int 1))))) [.ret (.lit (.bl false))] [],
    .mut 3 [] .clear [],
    .mut 3 [] .extend [.bi .list [.sub (.var 1) (.lit (.int 1))]],
    .ret (.and (.cmp .eq (.cav (.var 0) [.var 4]) (.var 6)) (.cmp .eq (.var 3) (.sub (.var 1) (.lit (.int 1)))))]⟩
-- 208: fu_law_30
def fu_law_30_b0 : List S := [.ife (.or (.not (.cal 204 [.var 7, .var 8, .var 4])) (.not (.cal 205 [.var 7, .var 8]))) [.ret (.lit (.bl false))] []]
def fu_law_30 : Fun := ⟨1, 10, [.asg 1 (.bi .abs [.bi .sum [.slc false true (.var 0) (.lit .non) (.lit (.int 63))]]),
    .asg 2 (.bin .add (.lit (.int 3)) (.bin .mod (.var 1) (.lit (.int 5)))),
    .par [5, 6] [.tup [.var 2, .comp [9] true (.rng (.lit (.int 0)) (.bin .sub (.var 2) (.lit (.int 1)))) [] (.tup [.var 9, .bin .add (.var 9) (.lit (.int 1))])], .tup [.var 2, .comp [9] true (.rng (.lit (.int 1)) (.var 2)) [] (.tup [.lit (.int 0), .var 9])]],
    .asg 3 (.tup [.var 2, .bi .sorted [.bin .add (.sub (.var 5) (.lit (.int 1))) (.lst [.tup [.lit (.int 0), .bin .sub (.var 2) (.lit (.int 1))]])]]),
    .asg 4 (.tup [.bin .add (.lit (.int 2)) (.bin .mod (.bin .fdiv (.var 1) (.lit (.int 5))) (.lit (.int 3))), .lst [.tup [.lit (.int 0), .lit (.int 1)]]]),
    .for_ [7, 8] false (.seq (.tup [.tup [.var 5, .var 6], .tup [.var 6, .var 3], .tup [.var 3, .var 5]])) fu_law_30_b0,
    .ret (.cal 206 [.var 5])]⟩
-- 210: fu_law_star
def fu_law_star : Fun := ⟨0, 0, [.ret (.tup [.lit (.int 4), .lst [.tup [.lit (.int 0), .lit (.int 3)], .tup [.lit (.int 1), .lit (.int 3)], .tup [.lit (.int 2), .lit (.int 3)]]])]⟩
-- 211: fu_law_three
def fu_law_three : Fun := ⟨0, 0, [.ret (.tup [.lit (.int 3), .lst [.tup [.lit (.int 0), .lit (.int 1)], .tup [.lit (.int 0), .lit (.int 2)], .tup [.lit (.int 1), .lit (.int 2)]]])]⟩
-- 212: fu_law_none_right
def fu_law_none_right : Fun := ⟨0, 2, [.par [0, 1] [.tup [.lit (.int 0), .lst []], .tup [.lit (.int 2), .lst []]],
    .ife (.cmp .ne (.lst [.cal 6 [.var 0], .cal 8 [.var 0], .cal 33 [.var 0], .cal 75 [.var 0, .var 0]]) (.lst [.lst [], .lst [], .var 0, .lst []])) [.ret (.lit (.bl false))] [],
    .ife (.cmp .ne (.lst [.cal 59 [.var 0], .cal 91 [.var 0], .cal 99 [.var 0]]) (.lst [.lst [], .lit .non, .lit .non])) [.ret (.lit (.bl false))] [],
    .ife (.cmp .ne (.lst [.cal 118 [.var 0], .cal 119 [.var 0], .cal 124 [.var 0, .lit (.int 0)]]) (.lst [.lst [.lit (.int 1)], .lst [.lit (.int 1)], .lit (.int 1)])) [.ret (.lit (.bl false))] [],
    .ife (.cmp .ne (.lst [.cal 124 [.var 0, .lit (.int 4)], .cal 125 [.var 0, .lit (.int 0)], .cal 34 [.var 0]]) (.lst [.lit (.int 1), .lit (.int 1), .lit (.int 0)])) [.ret (.lit (.bl false))] [],
    .ife (.or (.cmp .ne (.att (.cal 45 [.var 0]) "groups") (.lst [])) (.cmp .ne (.cal 64 [.var 0, .lst []]) (.tup [.var 0, .lst []]))) [.ret (.lit (.bl false))] [],
    .ife (.cmp .ne (.cal 64 [.var 1, .lst []]) (.tup [.tup [.lit (.int 4), .lst [.tup [.lit (.int 0), .lit (.int 1)], .tup [.lit (.int 2), .lit (.int 3)]]], .lst [.lit (.int 0), .lit (.int 1)]])) [.ret (.lit (.bl false))] [],
    .ife (.cmp .notin (.cal 91 [.var 1]) (.tup [.lst [.lit (.int 0)], .lst [.lit (.int 1)]])) [.ret (.lit (.bl false))] [],
    .ife (.cmp .ne (.lst [.cal 118 [.var 1], .cal 119 [.var 1], .cal 124 [.var 1, .lit (.int 3)], .cal 124 [.var 1, .lit (.int 0)]]) (.lst [.lst [.lit (.int 1), .lit (.int 2), .lit (.int 1)], .lst [.lit (.int 1)], .lit (.int 9), .lit (.int 0)])) [.ret (.lit (.bl false))] [],
    .ife (.or (.cmp .ne (.cal 33 [.var 1]) (.var 0)) (.or (.cmp .ne (.cal 8 [.var 1]) (.lst [.lst [.lit (.int 0)], .lst [.lit (.int 1)]])) (.not (.cmp .is_ (.cal 99 [.var 1]) (.lit .non))))) [.ret (.lit (.bl false))] [],
    .ret (.cmp .eq (.att (.cal 45 [.var 1]) "groups") (.lst []))]⟩
-- 215: fu_law_rings_right_2
def fu_law_rings_right_2 : Fun := ⟨0, 5, [.par [1, 2] [.cal 210 [], .cal 211 []],
    .par [3, 4] [.tup [.lit (.int 5), .lst [.tup [.lit (.int 0), .lit (.int 1)], .tup [.lit (.int 0), .lit (.int 2)], .tup [.lit (.int 1), .lit (.int 2)], .tup [.lit (.int 2), .lit (.int 3)], .tup [.lit (.int 2), .lit (.int 4)], .tup [.lit (.int 3), .lit (.int 4)]]], .tup [.lit (.int 4), .lst [.tup [.lit (.int 0), .lit (.int 1)], .tup [.lit (.int 1), .lit (.int 2)], .tup [.lit (.int 2), .lit (.int 3)]]]],
    .ife (.or (.cmp .ne (.cal 91 [.var 1]) (.lst [.lit (.int 3)])) (.or (.cmp .isnot (.cal 91 [.var 4]) (.lit .non)) (.cmp .ne (.cal 91 [.tup [.lit (.int 3), .lst [.tup [.lit (.int 0), .lit (.int 1)], .tup [.lit (.int 1), .lit (.int 2)]]]]) (.lst [.lit (.int 1)])))) [.ret (.lit (.bl false))] [],
    .ife (.not (.cal 214 [.var 2, .cal 91 [.var 2]])) [.ret (.lit (.bl false))] [],
    .ife (.or (.not (.cal 214 [.var 3, .cal 91 [.var 3]])) (.cmp .ne (.bi .len [.cal 91 [.var 3]]) (.lit (.int 7)))) [.ret (.lit (.bl false))] [],
    .ife (.or (.cmp .isnot (.cal 99 [.tup [.lit (.int 3), .lst [.tup [.lit (.int 0), .lit (.int 1)], .tup [.lit (.int 1), .lit (.int 2)]]]]) (.lit .non)) (.cmp .isnot (.cal 99 [.var 4]) (.lit .non))) [.ret (.lit (.bl false))] [],
    .ife (.or (.not (.cal 100 [.cal 33 [.var 1], .cal 99 [.var 1]])) (.not (.cal 100 [.cal 33 [.var 3], .cal 99 [.var 3]]))) [.ret (.lit (.bl false))] [],
    .ife (.cmp .ne (.cal 33 [.var 1]) (.var 2)) [.ret (.lit (.bl false))] [],
    .asg 0 (.lst [.cal 100 [.tup [.lit (.int 2), .lst [.tup [.lit (.int 0), .lit (.int 1)]]], .lst [.lit (.int 0), .lit (.int 1)]], .cal 100 [.var 2, .lst [.lit (.int 1), .lit (.int 2), .lit (.int 0)]]]),
    .asg 0 (.bin .add (.var 0) (.lst [.cal 100 [.var 2, .lst [.lit (.int 2), .lit (.int 1), .lit (.int 0)]], .cal 100 [.tup [.lit (.int 3), .lst [.tup [.lit (.int 0), .lit (.int 1)], .tup [.lit (.int 1), .lit (.int 2)]]], .lst [.lit (.int 0), .lit (.int 1), .lit (.int 2)]], .cal 100 [.tup [.lit (.int 1), .lst []], .lst [.lit (.int 0)]]])),
    .ife (.cmp .ne (.var 0) (.lst [.lit (.bl false), .lit (.bl true), .lit (.bl true), .lit (.bl false), .lit (.bl false)])) [.ret (.lit (.bl false))] [],
    .ife (.cmp .ne (.cal 59 [.tup [.lit (.int 4), .lst [.tup [.lit (.int 0), .lit (.int 3)], .tup [.lit (.int 1), .lit (.int 2)], .tup [.lit (.int 1), .lit (.int 3)], .tup [.lit (.int 2), .lit (.int 3)]]]]) (.lst [.lst [.lit (.int 0), .lit (.int 2), .lit (.int 3)], .lst [.lit (.int 1), .lit (.int 2)], .lst [.lit (.int 1), .lit (.int 3)]])) [.ret (.lit (.bl false))] [],
    .ret (.cmp .eq (.cal 59 [.var 1]) (.lst [.lst [.lit (.int 0), .lit (.int 1), .lit (.int 2)]]))]⟩
-- 216: fu_law_counts_right_2
def fu_law_counts_right_2_b0 : List S := [.ife (.or (.cmp .ne (.cal 112 [.var 3, .var 1, .var 4]) (.bin .mul (.bin .mul (.lit (.int 2)) (.var 0)) (.var 0))) (.cmp .ne (.cal 112 [.var 3, .var 1, .var 5]) (.cal 111 [.var 3, .var 5]))) [.ret (.lit (.bl false))] []]
def fu_law_counts_right_2 : Fun := ⟨1, 6, [.par [2, 3] [.cal 210 [], .cal 211 []],
    .par [4, 5] [.lst [.var 0, .neg (.var 0), .lit (.int 0)], .lst [.var 0, .bin .add (.var 0) (.lit (.int 1)), .neg (.bin .pow (.lit (.int 10)) (.lit (.int 30)))]],
    .for_ [1] true (.seq (.tup [.lst [.lst [.lit (.int 0), .lit (.int 1), .lit (.int 2)]], .lst [.lst [.lit (.int 0), .lit (.int 1)], .lst [.lit (.int 0), .lit (.int 2)], .lst [.lit (.int 1), .lit (.int 2)]]])) fu_law_counts_right_2_b0,
    .ife (.or (.cmp .ne (.cal 111 [.var 3, .var 4]) (.bin .mul (.bin .mul (.lit (.int 2)) (.var 0)) (.var 0))) (.cmp .ne (.cal 111 [.tup [.lit (.int 2), .lst []], .lst [.var 0, .lit (.int 1)]]) (.bin .add (.bin .mul (.bin .mul (.lit (.int 2)) (.var 0)) (.var 0)) (.lit (.int 2))))) [.ret (.lit (.bl false))] [],
    .ife (.or (.cmp .ne (.cal 112 [.tup [.lit (.int 2), .lst []], .lst [], .lst [.var 0, .lit (.int 1)]]) (.bin .add (.bin .mul (.bin .mul (.lit (.int 2)) (.var 0)) (.var 0)) (.lit (.int 2)))) (.cmp .ne (.cal 111 [.tup [.lit (.int 2), .lst [.tup [.lit (.int 0), .lit (.int 1)]]], .lst [.var 0, .neg (.var 0)]]) (.bin .mul (.bin .mul (.lit (.int 2)) (.var 0)) (.var 0)))) [.ret (.lit (.bl false))] [],
    .ife (.cmp .ne (.lst [.cal 118 [.var 3], .cal 119 [.var 3]]) (.lst [.lst [.lit (.int 1), .lit (.int 3)], .lst [.lit (.int 1), .lit (.int 3)]])) [.ret (.lit (.bl false))] [],
    .ife (.cmp .ne (.lst [.cal 118 [.var 2], .cal 119 [.var 2]]) (.lst [.lst [.lit (.int 1), .lit (.int 4), .lit (.int 3), .lit (.int 1)], .lst [.lit (.int 1), .lit (.int 3)]])) [.ret (.lit (.bl false))] [],
    .ife (.cmp .ne (.lst [.cal 124 [.var 3, .lit (.int 3)], .cal 124 [.var 3, .lit (.int 2)], .cal 125 [.var 2, .lit (.int 3)]]) (.lst [.lit (.int 6), .lit (.int 0), .lit (.int 6)])) [.ret (.lit (.bl false))] [],
    .ife (.cmp .ne (.lst [.cal 125 [.var 2, .lit (.int 2)], .cal 124 [.var 2, .lit (.int 2)], .cal 124 [.var 2, .lit (.int 4)]]) (.lst [.lit (.int 0), .lit (.int 2), .lit (.int 108)])) [.ret (.lit (.bl false))] [],
    .ife (.cmp .ne (.cal 75 [.var 2, .tup [.lit (.int 4), .lst [.tup [.lit (.int 0), .lit (.int 1)], .tup [.lit (.int 0), .lit (.int 2)], .tup [.lit (.int 0), .lit (.int 3)]]]]) (.lst [.lit (.int 3), .lit (.int 0), .lit (.int 1), .lit (.int 2)])) [.ret (.lit (.bl false))] [],
    .ife (.cmp .ne (.cal 21 [.var 2, .lst [.lit (.int 3), .lit (.int 0), .lit (.int 1), .lit (.int 2)]]) (.tup [.lit (.int 4), .lst [.tup [.lit (.int 0), .lit (.int 1)], .tup [.lit (.int 0), .lit (.int 2)], .tup [.lit (.int 0), .lit (.int 3)]]])) [.ret (.lit (.bl false))] [],
    .ife (.cmp .isnot (.cal 75 [.var 3, .tup [.lit (.int 3), .lst [.tup [.lit (.int 0), .lit (.int 1)], .tup [.lit (.int 1), .lit (.int 2)]]]]) (.lit .non)) [.ret (.lit (.bl false))] [],
    .ife (.or (.cmp .ne (.cal 18 [.var 2, .lst []]) (.tup [.lit (.int 0), .lst []])) (.cmp .ne (.cal 18 [.var 2, .lst [.lit (.int 0), .lit (.int 1), .lit (.int 2), .lit (.int 3)]]) (.var 2))) [.ret (.lit (.bl false))] [],
    .ife (.or (.cmp .ne (.cal 18 [.var 2, .lst [.lit (.int 1), .lit (.int 3)]]) (.tup [.lit (.int 2), .lst [.tup [.lit (.int 0), .lit (.int 1)]]])) (.cmp .ne (.cal 75 [.var 3, .var 3]) (.lst [.lit (.int 0), .lit (.int 1), .lit (.int 2)]))) [.ret (.lit (.bl false))] [],
    .ret (.lit (.bl true))]⟩
-- 218: fu_law_31
def fu_law_31 : Fun := ⟨1, 2, [.asg 1 (.bin .add (.lit (.int 1)) (.bin .mod (.bi .abs [.bi .sum [.slc false true (.var 0) (.lit .non) (.lit (.int 2))]]) (.bin .pow (.lit (.int 10)) (.lit (.int 40))))),
    .ife (.or (.not (.cal 212 [])) (.or (.not (.cal 213 [])) (.or (.not (.cal 215 [])) (.not (.cal 216 [.var 1]))))) [.ret (.lit (.bl false))] [],
    .ret (.cal 217 [])]⟩
def GP : List Fun := [fu_is_whole, fu_is_below, fu_is_tie, fu_is_web, fu_check_web, fu_near_of, fu_near, fu_pieces_of, fu_pieces, fu_law_number, fu_law_web, fu_law_near, fu_law_copied, fu_law_pieces, fu_law_right, fu_law, fu_cut_of, fu_are_places, fu_cut_down, fu_check_order, fu_renamed_by, fu_renamed, fu_beside, ⟨0, 0, []⟩, ⟨0, 0, []⟩, fu_law_whole, fu_law_is_web, fu_law_cut, fu_law_order, fu_law_renamed, fu_law_2, fu_check_few_ties, fu_tie_web_of, fu_tie_web, fu_tied_many, fu_law_tie_web, fu_law_3, fu_check_small, fu_check_places, fu_is_cover_of, fu_all_tied, fu_groups_with, fu_fits, fu_grown, fu_cover_of, ⟨0, 0, []⟩, fu_law_is_cover, fu_law_has_cover, fu_law_laid, fu_law_says, fu_law_due, ⟨0, 0, []⟩, fu_law_less, fu_law_4, ⟨0, 0, []⟩, ⟨0, 0, []⟩, fu_law_bent, ⟨0, 0, []⟩, fu_wall, fu_groups_at, fu_law_6, fu_check_cover, fu_ends_of, fu_root_by, fu_root_of, fu_root, fu_law_root, fu_law_is_root, ⟨0, 0, []⟩, ⟨0, 0, []⟩, fu_law_ask, fu_law_right_3, fu_law_7, fu_can_go, fu_led_on, fu_led, fu_law_led, fu_law_led_on, fu_law_orders, fu_law_right_4, fu_law_8, fu_law_tidy, fu_law_threes, fu_law_9, fu_meets_all, fu_chosen, fu_gone_round, fu_places_of, fu_ties_of, fu_round_from, fu_trail_of, fu_trail, fu_law_meets, fu_law_is_trail, fu_law_tried, fu_law_goes, fu_law_right_5, fu_law_10, fu_ring_by, fu_ring, fu_is_ring, fu_law_is_ring, fu_law_has_ring, fu_law_rings_on, fu_law_right_6, fu_law_11, ⟨0, 0, []⟩, ⟨0, 0, []⟩, fu_law_round, fu_law_12, fu_check_row, fu_squares, fu_by_groups, fu_law_rows, fu_law_squares, fu_law_13, fu_added, fu_apart_of, fu_places_apart, fu_ties_apart, fu_law_apart, fu_law_14, fu_ways_from, fu_check_colours, fu_colours, fu_tie_colours, fu_law_ways, fu_law_made_one, fu_law_15, fu_law_round_of, fu_law_16, fu_law_17, fu_law_times, fu_law_18, fu_law_covers, fu_law_covers_on, fu_law_all_tied, fu_law_has_two, fu_law_right_7, fu_law_19, fu_law_20, ⟨0, 0, []⟩, ⟨0, 0, []⟩, fu_law_at, ⟨0, 0, []⟩, ⟨0, 0, []⟩, fu_law_all_refused, fu_law_no_webs, fu_law_all_tied_2, ⟨0, 0, []⟩, ⟨0, 0, []⟩, fu_law_with_second, ⟨0, 0, []⟩, fu_law_eleven, fu_law_few_places, fu_law_nine, ⟨0, 0, []⟩, fu_law_many_ties, fu_law_few_ties, fu_law_nine_ties, fu_law_22, fu_law_with_places, fu_law_no_places, fu_law_with_order, fu_law_no_orders, fu_law_with_groups, fu_law_no_groups, fu_law_with_row, fu_law_no_rows, fu_law_with_colours, fu_law_no_colours, fu_law_with_many, fu_law_too_many, fu_law_with_root, fu_law_no_cover, fu_law_23, fu_law_counts_right, ⟨0, 0, []⟩, fu_law_barred_right, fu_law_24, ⟨0, 0, []⟩, ⟨0, 0, []⟩, fu_law_25, ⟨0, 0, []⟩, fu_law_all_tied_3, ⟨0, 0, []⟩, ⟨0, 0, []⟩, ⟨0, 0, []⟩, ⟨0, 0, []⟩, fu_law_26, fu_law_order_2, fu_law_led_on_2, fu_law_five_right, ⟨0, 0, []⟩, fu_law_greatest_right, fu_law_rings_right, fu_law_27, ⟨0, 0, []⟩, ⟨0, 0, []⟩, ⟨0, 0, []⟩, ⟨0, 0, []⟩, fu_law_29, fu_law_list_right, fu_law_door_right, ⟨0, 0, []⟩, ⟨0, 0, []⟩, ⟨0, 0, []⟩, ⟨0, 0, []⟩, fu_law_30, ⟨0, 0, []⟩, fu_law_star, fu_law_three, fu_law_none_right, ⟨0, 0, []⟩, ⟨0, 0, []⟩, fu_law_rings_right_2, fu_law_counts_right_2, ⟨0, 0, []⟩, fu_law_31]
def gnm : List PySem.Str := (["is_whole", "is_below", "is_tie", "is_web", "check_web", "near_of", "near", "pieces_of", "pieces", "_law_number", "_law_web", "_law_near", "_law_copied", "_law_pieces", "_law_right", "law", "cut_of", "are_places", "cut_down", "check_order", "renamed_by", "renamed", "beside", "_law_number", "_law_web", "_law_whole", "_law_is_web", "_law_cut", "_law_order", "_law_renamed"] : List PySem.Str) ++ (["law", "check_few_ties", "tie_web_of", "tie_web", "tied_many", "_law_tie_web", "law", "check_small", "check_places", "is_cover_of", "all_tied", "groups_with", "fits", "grown", "cover_of", "covered", "_law_is_cover", "_law_has_cover", "_law_laid", "_law_says", "_law_due", "_law_right", "_law_less", "law", "_law_groups_right", "_law_places_right", "_law_bent", "law", "_wall", "groups_at"] : List PySem.Str) ++ (["law", "check_cover", "ends_of", "root_by", "root_of", "root", "_law_root", "_law_is_root", "_law_alone", "_law_refused", "_law_ask", "_law_right", "law", "can_go", "led_on", "led", "_law_led", "_law_led_on", "_law_orders", "_law_right", "law", "_law_tidy", "_law_threes", "law", "meets_all", "chosen", "gone_round", "places_of", "ties_of", "round_from"] : List PySem.Str) ++ (["trail_of", "trail", "_law_meets", "_law_is_trail", "_law_tried", "_law_goes", "_law_right", "law", "ring_by", "ring", "is_ring", "_law_is_ring", "_law_has_ring", "_law_rings_on", "_law_right", "law", "_law_is_ring", "_law_says", "_law_round", "law", "check_row", "squares", "by_groups", "_law_rows", "_law_squares", "law", "added", "apart_of", "places_apart", "ties_apart"] : List PySem.Str) ++ (["_law_apart", "law", "ways_from", "check_colours", "colours", "tie_colours", "_law_ways", "_law_made_one", "law", "_law_round_of", "law", "law", "_law_times", "law", "_law_covers", "_law_covers_on", "_law_all_tied", "_law_has_two", "_law_right", "law", "law", "_law_number", "_law_web", "_law_at", "law", "_law_refused", "_law_all_refused", "_law_no_webs", "_law_all_tied", "_law_with_one"] : List PySem.Str) ++ (["_law_with_two", "_law_with_second", "_law_great_places", "_law_eleven", "_law_few_places", "_law_nine", "_law_great_ties", "_law_many_ties", "_law_few_ties", "_law_nine_ties", "law", "_law_with_places", "_law_no_places", "_law_with_order", "_law_no_orders", "_law_with_groups", "_law_no_groups", "_law_with_row", "_law_no_rows", "_law_with_colours", "_law_no_colours", "_law_with_many", "_law_too_many", "_law_with_root", "_law_no_cover", "law", "_law_counts_right", "_law_way_right", "_law_barred_right", "law"] : List PySem.Str) ++ (["_law_webs_right", "_law_one_twice", "law", "_law_refused", "_law_all_tied", "_law_webs_right", "_law_web_doors", "_law_rows_right", "_law_groups_right", "law", "_law_order", "_law_led_on", "_law_five_right", "_law_barred_right", "_law_greatest_right", "_law_rings_right", "law", "_law_sound", "law", "_law_refused", "_law_bad_right", "law", "_law_list_right", "_law_door_right", "_law_webs_right", "_law_covers_right", "_law_line_right", "_law_within_right", "law", "_law_word"] : List PySem.Str) ++ (["_law_star", "_law_three", "_law_none_right", "_law_covers_right", "_law_is_trail", "_law_rings_right", "_law_counts_right", "_law_beside_right", "law"] : List PySem.Str)
end TW

set_option Elab.async false
set_option linter.all false
set_option maxRecDepth 100000
set_option maxHeartbeats 4000000
namespace TW
open PySem PySem.Spec PyProof.Rows L2

/-! ### the core's steps as equations -/
@[simp] theorem bnd_ok {α β : Type} (a : α) (f : α → M β) : bnd (some (.ok a)) f = f a := rfl
@[simp] theorem bnd_err {α β : Type} (C : Nat) (f : α → M β) : bnd (some (.er C)) f = some (.er C) := rfl
@[simp] theorem lift_some {α : Type} (a : α) : lift (some a) = some (.ok a) := rfl
@[simp] theorem boolD_bl (b : Bool) : boolD (.bl b) = some b := rfl
@[simp] theorem intD_int (i : Int) : intD (.int i) = some i := rfl
@[simp] theorem isi_int_int (i : Int) : isiD (.int i) .int = some true := rfl
@[simp] theorem isi_int_bool (i : Int) : isiD (.int i) .bool = some false := rfl
@[simp] theorem isi_tup_tup (ds : List D) : isiD (.tup ds) .tuple = some true := rfl
@[simp] theorem isi_lst_lst (ds : List D) : isiD (.lst ds) .list = some true := rfl
@[simp] theorem scal_int (i : Int) : scal (.int i) = true := rfl
@[simp] theorem scal_bl (i : Bool) : scal (.bl i) = true := rfl
@[simp] theorem scal_non : scal .non = true := rfl
@[simp] theorem scal_lst (ds : List D) : scal (.lst ds) = false := rfl
@[simp] theorem scal_tup (ds : List D) : scal (.tup ds) = false := rfl
@[simp] theorem cmp_le (i j : Int) : cmpD .le (.int i) (.int j) = some (decide (i ≤ j)) := rfl
@[simp] theorem cmp_lt (i j : Int) : cmpD .lt (.int i) (.int j) = some (decide (i < j)) := rfl
@[simp] theorem cmp_gt (i j : Int) : cmpD .gt (.int i) (.int j) = some (decide (j < i)) := rfl
@[simp] theorem cmp_ge (i j : Int) : cmpD .ge (.int i) (.int j) = some (decide (j ≤ i)) := rfl
@[simp] theorem cmp_ltP (p q : Int × Int) : cmpD .lt (eP p) (eP q) = some (ltP2 p q) := rfl
@[simp] theorem cmp_eqI (i j : Int) : cmpD .eq (.int i) (.int j) = some (decide (i = j)) := rfl
@[simp] theorem cmp_neI (i j : Int) : cmpD .ne (.int i) (.int j) = some (!decide (i = j)) := rfl
@[simp] theorem bin_add (i j : Int) : binD .add (.int i) (.int j) = some (.dp, .int (i + j)) := rfl
@[simp] theorem bin_sub (i j : Int) : binD .sub (.int i) (.int j) = some (.dp, .int (i - j)) := rfl
@[simp] theorem bi_lenT (ds : List D) : biD .len [.tup ds] = some (.dp, .int ds.length) := rfl
@[simp] theorem bi_lenL (ds : List D) : biD .len [.lst ds] = some (.dp, .int ds.length) := rfl
@[simp] theorem sub_t0 (a : D) (r : List D) : subD (.tup (a :: r)) (.int 0) = some a := by
  show atI (a :: r) 0 = some a
  exact atI_nat (j := 0) rfl
@[simp] theorem sub_t1 (a b : D) (r : List D) : subD (.tup (a :: b :: r)) (.int 1) = some b := by
  show atI (a :: b :: r) 1 = some b
  exact atI_nat (j := 1) rfl
theorem blsD_map {α : Type} (g : α → Bool) : ∀ xs : List α, blsD (xs.map fun x => .bl (g x)) = some (xs.map g)
  | [] => rfl
  | x :: xs => by simp [blsD, blsD_map g xs]
theorem bi_all {α : Type} (g : α → Bool) (xs : List α) : biD .all [.lst (xs.map fun x => .bl (g x))] = some (.dp, .bl (xs.all g)) := by
  show (blsD (xs.map fun x => .bl (g x))).map _ = _
  rw [blsD_map]
  simp [List.all_map]
theorem bi_any {α : Type} (g : α → Bool) (xs : List α) : biD .any [.lst (xs.map fun x => .bl (g x))] = some (.dp, .bl (xs.any g)) := by
  show (blsD (xs.map fun x => .bl (g x))).map _ = _
  rw [blsD_map]
  simp [List.any_map]
theorem compL_map {f : D → Option (Option (Md × D))} {g : D → Md × D} : ∀ {xs : List D}, (∀ x ∈ xs, f x = some (some (g x))) → compL f xs = some (xs.map g)
  | [], _ => rfl
  | x :: xs, h => by
    simp only [compL, h x List.mem_cons_self, compL_map fun y hy => h y (List.mem_cons_of_mem _ hy)]
    rfl
theorem compL_mapE {α : Type} {e : α → D} {f : D → Option (Option (Md × D))} {g : α → Md × D} {xs : List α} (h : ∀ x ∈ xs, f (e x) = some (some (g x))) : compL f (xs.map e) = some (xs.map g) := by
  induction xs with
  | nil => rfl
  | cons x xs ih =>
    simp only [List.map_cons, compL, h x List.mem_cons_self, ih fun y hy => h y (List.mem_cons_of_mem _ hy)]
    rfl

theorem c_is_whole (k : Nat) (i : Int) : run GP (k + 1) 0 [.int i] = some (.ok (.dp, .bl true)) := rfl
theorem c_is_below (k : Nat) (i n : Int) : run GP (k + 2) 1 [.int i, .int n] = some (.ok (.dp, .bl (decide (0 ≤ i) && decide (i < n)))) := by
  show callF (run GP (k + 1)) fu_is_below [.int i, .int n] = _
  by_cases h : 0 ≤ i <;> simp [callF, fu_is_below, exs, ex, ev, evr, evs, start0, c_is_whole, closeds, h]
theorem c_is_tie (k : Nat) (p : Int × Int) (n : Int) : run GP (k + 3) 2 [eP p, .int n] = some (.ok (.dp, .bl (decide (0 ≤ p.1) && decide (p.1 < n) && (decide (0 ≤ p.2) && decide (p.2 < n) && decide (p.1 < p.2))))) := by
  show callF (run GP (k + 2)) fu_is_tie [eP p, .int n] = _
  by_cases h : 0 ≤ p.1 <;> by_cases h2 : p.1 < n <;> by_cases h3 : 0 ≤ p.2 <;> by_cases h4 : p.2 < n <;> simp [callF, fu_is_tie, exs, ex, ev, evr, evs, start0, c_is_below, closeds, closed, h, h2, h3, h4]

/-! ### slices -/
theorem cut_from {α : Type} (xs : List α) (i : Nat) : cutL xs (some (i : Int)) none = xs.drop i := by
  unfold cutL
  rw [HT.sIx_nat, HT.sIx_none]
  rcases Nat.le_total i xs.length with h | h
  · rw [Nat.min_eq_left h, List.take_of_length_le (by rw [List.length_drop]; omega)]
  · rw [Nat.min_eq_right h, List.drop_of_length_le (Nat.le_refl _), List.drop_of_length_le h, List.take_nil]
theorem cut_to {α : Type} (xs : List α) (i : Nat) : cutL xs none (some (i : Int)) = xs.take i := by
  unfold cutL
  rw [HT.sIx_nat, HT.sIx_none, List.drop_zero, Nat.sub_zero]
  rcases Nat.le_total i xs.length with h | h
  · rw [Nat.min_eq_left h]
  · rw [Nat.min_eq_right h, List.take_of_length_le (Nat.le_refl _), List.take_of_length_le h]
theorem zipD_map {α β : Type} (f : α → D) (g : β → D) : ∀ (xs : List α) (ys : List β), zipD (xs.map f) (ys.map g) = (xs.zip ys).map fun p => .tup [f p.1, g p.2]
  | [], ys => by cases ys <;> rfl
  | x :: xs, [] => rfl
  | x :: xs, y :: ys => by simp [zipD, zipD_map f g xs ys]
/-! ### webs -/
abbrev webD (n : Int) (ts : List (Int × Int)) : D := .tup [.int n, .lst (ts.map eP)]
structure Web (n : Int) (ts : List (Int × Int)) : Prop where
  lo : 0 ≤ n
  hi : n ≤ 24
  len : ts.length ≤ 66
  ok : ∀ p ∈ ts, 0 ≤ p.1 ∧ p.1 < p.2 ∧ p.2 < n
  ris : ts.Pairwise (fun a b => ltP2 a b = true)
theorem adj_of {α : Type} {r : α → α → Prop} : ∀ {xs : List α}, xs.Pairwise r → ∀ p ∈ xs.zip xs.tail, r p.1 p.2
  | [], _, p, h => by simp at h
  | [x], _, p, h => by simp at h
  | x :: y :: xs, hp, p, h => by
    obtain ⟨h1, h2⟩ := List.pairwise_cons.mp hp
    simp only [List.tail_cons, List.zip_cons_cons, List.mem_cons] at h
    rcases h with rfl | h
    · exact h1 y List.mem_cons_self
    · exact adj_of h2 p (by simpa using h)
theorem zipD_adj (ts : List (Int × Int)) : zipD (ts.map eP) (ts.map eP).tail = (ts.zip ts.tail).map fun p => .tup [eP p.1, eP p.2] := by
  rw [← List.map_tail, zipD_map]
theorem all_tt {α : Type} (xs : List α) : biD .all [.lst (xs.map fun _ => .bl true)] = some (.dp, .bl true) := by
  have := bi_all (fun _ => true) xs
  rw [this]
  simp
theorem c_is_web {n : Int} {ts : List (Int × Int)} (w : Web n ts) (k : Nat) : run GP (k + 4) 3 [webD n ts] = some (.ok (.dp, .bl true)) := by
  show callF (run GP (k + 3)) fu_is_web [webD n ts] = _
  have h1 : (0 : Int) ≤ n := w.lo
  have h2 : n < 25 := by have := w.hi; omega
  have h3 : ¬ ((66 : Int) < (ts.length : Int)) := by have := w.len; omega
  have e1 : ∀ p ∈ ts, run GP (k + 3) 2 [eP p, .int n] = some (.ok (.dp, .bl true)) := fun p hp => by
    rw [c_is_tie]
    obtain ⟨g1, g2, g3⟩ := w.ok p hp
    have g4 : p.1 < n := by omega
    have g5 : 0 ≤ p.2 := by omega
    simp [g1, g2, g3, g4, g5]
  have e2 : cutL (ts.map eP) (some 1) none = (ts.map eP).tail := by
    rw [← List.drop_one]
    exact cut_from _ 1
  have e3 : ∀ p ∈ ts.zip ts.tail, ltP2 p.1 p.2 = true := adj_of w.ris
  have a1 : ∀ f : D → Option (Option (Md × D)), (∀ p ∈ ts, f (eP p) = some (some (.dp, .bl true))) → compL f (ts.map eP) = some (ts.map fun _ => (Md.dp, D.bl true)) := fun f h => compL_mapE h
  have a2 : ∀ f : D → Option (Option (Md × D)), (∀ p ∈ ts.zip ts.tail, f (.tup [eP p.1, eP p.2]) = some (some (.dp, .bl true))) → compL f ((ts.zip ts.tail).map fun p => .tup [eP p.1, eP p.2]) = some ((ts.zip ts.tail).map fun _ => (Md.dp, D.bl true)) := fun f h => compL_mapE h
  simp [callF, fu_is_web, exs, ex, ev, evr, evs, evS, evC, start0, c_is_below, closeds, h1, h2, h3, give, keep, nm, ownS, itemsD, bindT, okOnly, optI, slcD]
  rw [a1 _ (fun p hp => by simp [e1 p hp])]
  simp [all_tt, exs, ex, ev, evr, evs, evS, evC, closeds, itemsD, e2, zipD_adj, Function.comp_def]
  rw [a2 _ (fun p hp => by simp [bindT, e3 p hp, okOnly])]
  simp [all_tt, Function.comp_def]
end TW

set_option Elab.async false
set_option linter.all false
set_option maxRecDepth 100000
set_option maxHeartbeats 4000000
namespace TW
open PySem PySem.Spec PyProof.Rows L2

/-! ### how long a number is -/
def Bd (b : Nat) (i : Int) : Prop := i.natAbs < 2 ^ b
theorem Bd.up {b c : Nat} {i : Int} (h : Bd b i) (hc : b ≤ c) : Bd c i := Nat.lt_of_lt_of_le h (Nat.pow_le_pow_right (by decide) hc)
theorem Bd.add {b : Nat} {i j : Int} (h : Bd b i) (k : Bd b j) : Bd (b + 1) (i + j) := by
  have h1 : i.natAbs < 2 ^ b := h
  have h2 : j.natAbs < 2 ^ b := k
  have h3 := Int.natAbs_add_le i j
  show (i + j).natAbs < 2 ^ (b + 1)
  rw [Nat.pow_succ]
  omega
theorem Bd.mul {b c : Nat} {i j : Int} (h : Bd b i) (k : Bd c j) : Bd (b + c) (i * j) := by
  show (i * j).natAbs < 2 ^ (b + c)
  rw [Int.natAbs_mul, Nat.pow_add]
  exact Nat.mul_lt_mul'' h k
theorem Bd.log2 {b : Nat} {i : Int} (h : Bd b i) : i.natAbs.log2 ≤ b := by
  by_cases e : i.natAbs = 0
  · rw [e]; simp
  · exact Nat.le_of_lt ((Nat.log2_lt e).mpr h)
theorem Bd.of {b : Nat} {i : Int} (h : i.natAbs < 2 ^ b) : Bd b i := h
theorem mul_ok {b c : Nat} {i j : Int} (h : Bd b i) (k : Bd c j) (hb : b + c < 100000000) : binD .mul (.int i) (.int j) = some (.dp, .int (i * j)) := by
  have h1 := h.log2
  have h2 := k.log2
  show (if i.natAbs.log2 + j.natAbs.log2 < 100000000 then some (Md.dp, D.int (i * j)) else none) = _
  rw [if_pos (by omega)]
theorem mod_ok {i j : Int} (h : 0 < j) : binD .mod (.int i) (.int j) = some (.dp, .int (i % j)) := by
  show (if 0 < j then some (Md.dp, D.int (i % j)) else none) = _
  rw [if_pos h]
theorem fdiv_ok {i j : Int} (h : 0 < j) (h2 : j < 1073741824) : binD .fdiv (.int i) (.int j) = some (.dp, .int (i / j)) := by
  show (if 0 < j ∧ j < 1073741824 then some (Md.dp, D.int (i / j)) else none) = _
  rw [if_pos ⟨h, h2⟩]
theorem bits_bd {b : Nat} {i : Int} (h : Builtin.Int.intBits i ≤ b) : Bd b i := by
  unfold Builtin.Int.intBits at h
  by_cases e : i = 0
  · subst e
    exact Nat.pow_pos (by decide)
  · have e2 : (i == 0) = false := by simpa using e
    rw [e2] at h
    have h : i.natAbs.log2 + 1 ≤ b := h
    exact Nat.lt_of_lt_of_le Nat.lt_log2_self (Nat.pow_le_pow_right (by decide) h)
theorem c_number {B : Nat} (hB : B ≤ 2000000) (h30 : 40 ≤ B) {cell at_ whole : Int} (hc : Bd B cell) (ha : Bd 10 at_) (hw : Bd B whole) (k : Nat) : ∃ v m, run GP (k + 1) 9 [.int cell, .int at_, .int whole] = some (.ok (m, .int v)) := by
  show ∃ v m, callF (run GP k) fu_law_number [.int cell, .int at_, .int whole] = _
  have p1 : binD .pow (.int 10) (.int 18) = some (.dp, .int 1000000000000000000) := rfl
  by_cases h : (1000000000000000000 : Int) ≤ cell
  · refine ⟨cell, .sh, ?_⟩
    simp [callF, fu_law_number, exs, ex, ev, evr, evs, start0, p1, h]
  · have m1 : binD .mul (.int 977) (.int at_) = some (.dp, .int (977 * at_)) := mul_ok (b := 10) (Bd.of (by decide)) ha (by decide)
    have b1 : Bd 20 (977 * at_) := Bd.mul (b := 10) (c := 10) (Bd.of (by decide)) ha
    have b2 : Bd (B + 1) (cell + 977 * at_) := hc.add (b1.up (by omega))
    have m2 : binD .mul (.int (cell + 977 * at_)) (.int 48271) = some (.dp, .int ((cell + 977 * at_) * 48271)) := mul_ok (c := 16) b2 (Bd.of (by decide)) (by omega)
    have m3 : ∀ x, binD .mod (.int x) (.int 2147483647) = some (.dp, .int (x % 2147483647)) := fun x => mod_ok (by decide)
    obtain ⟨y, hy⟩ : ∃ y, ((cell + 977 * at_) * 48271 + whole) % 2147483647 = y := ⟨_, rfl⟩
    have by_ : Bd 31 y := by
      have h1 := Int.emod_nonneg ((cell + 977 * at_) * 48271 + whole) (b := 2147483647) (by decide)
      have h2 := Int.emod_lt_of_pos ((cell + 977 * at_) * 48271 + whole) (b := 2147483647) (by decide)
      rw [hy] at h1 h2
      show y.natAbs < 2 ^ 31
      have : (2 : Nat) ^ 31 = 2147483648 := by decide
      omega
    have m4 : binD .mul (.int 31) (.int at_) = some (.dp, .int (31 * at_)) := mul_ok (b := 10) (Bd.of (by decide)) ha (by decide)
    have b4 : Bd 31 (31 * at_) := (Bd.mul (b := 10) (c := 10) (Bd.of (by decide)) ha).up (by decide)
    have b5 : Bd 33 (y + 31 * at_ + 7) := (by_.add b4).add (Bd.of (by decide))
    have m5 : binD .mul (.int y) (.int (y + 31 * at_ + 7)) = some (.dp, .int (y * (y + 31 * at_ + 7))) := mul_ok by_ b5 (by decide)
    have b6 : Bd 64 (y * (y + 31 * at_ + 7)) := by_.mul b5
    have b7 : Bd (B + 1 + 1) (y + cell + 5) := ((by_.up (by omega)).add hc).add ((Bd.of (b := 3) (by decide)).up (by omega))
    have m6 : binD .mul (.int (y * (y + 31 * at_ + 7))) (.int (y + cell + 5)) = some (.dp, .int (y * (y + 31 * at_ + 7) * (y + cell + 5))) := mul_ok b6 b7 (by omega)
    obtain ⟨z, hz⟩ : ∃ z, y * (y + 31 * at_ + 7) * (y + cell + 5) = z := ⟨_, rfl⟩
    have bz : Bd (64 + (B + 1 + 1)) z := by rw [← hz]; exact b6.mul b7
    have b8 : Bd (64 + (B + 1 + 1) + 1) (z + 48271) := bz.add ((Bd.of (b := 16) (by decide)).up (by omega))
    have m7 : binD .mul (.int z) (.int (z + 48271)) = some (.dp, .int (z * (z + 48271))) := mul_ok bz b8 (by omega)
    have m8 : ∀ x, binD .fdiv (.int x) (.int 1009) = some (.dp, .int (x / 1009)) := fun x => fdiv_ok (by decide) (by decide)
    refine ⟨z * (z + 48271) / 1009, .dp, ?_⟩
    simp [callF, fu_law_number, exs, ex, ev, evr, evs, start0, p1, h, m1, m2, m3, hy, m4, m5, m6, hz, m7, m8, give, keep, nm, ownS]

/-! ### loops -/
theorem forL_inv {f : D → Dn → M Fl} {P : List D → Dn → Prop} (step : ∀ x xs e, P (x :: xs) e → ∃ e', f x e = some (.ok (.nx e')) ∧ P xs e') : ∀ {xs : List D} {e : Dn}, P xs e → ∃ e', forL f xs e = some (.ok (.nx e')) ∧ P [] e'
  | [], e, h => ⟨e, rfl, h⟩
  | x :: xs, e, h => by
    obtain ⟨e1, h1, h2⟩ := step x xs e h
    obtain ⟨e2, h3, h4⟩ := forL_inv step h2
    refine ⟨e2, ?_, h4⟩
    unfold forL
    rw [h1]
    exact h3
@[simp] theorem intsD_eI : ∀ ns : List Int, intsD (ns.map D.int) = some ns
  | [] => rfl
  | n :: ns => by simp [intsD, intsD_eI ns]
theorem bi_sum (ns : List Int) : biD .sum [.lst (ns.map D.int)] = some (.dp, .int ns.sum) := by
  show ((listD (.lst (ns.map D.int))).bind intsD).map _ = _
  simp [listD]
theorem at_in {α : Type} {xs : List α} {i : Int} (h0 : 0 ≤ i) (h1 : i < xs.length) : ∃ x ∈ xs, atI xs i = some x := by
  have hl : i.toNat < xs.length := by omega
  refine ⟨xs[i.toNat], List.getElem_mem _, ?_⟩
  have := atI_nat (xs := xs) (j := i.toNat) (v := xs[i.toNat]) (List.getElem?_eq_getElem hl)
  rwa [Int.toNat_of_nonneg h0] at this
theorem eqD_P (a b : Int × Int) : eqD (eP a) (eP b) = decide (a = b) := by
  show (a.1 == b.1 && (a.2 == b.2 && true)) = _
  by_cases h1 : a.1 = b.1 <;> by_cases h2 : a.2 = b.2 <;> simp [h1, h2, Prod.ext_iff]
theorem dats_P : ∀ ts : List (Int × Int), dats (ts.map eP) 20 = true
  | [] => rfl
  | t :: ts => by simp [dats, dat, dats_P ts]
theorem in_P (t : Int × Int) (ts : List (Int × Int)) : inD (eP t) (.lst (ts.map eP)) = some (decide (t ∈ ts)) := by
  have h1 : dat (eP t) 20 = true := rfl
  show (if dat (eP t) 20 && dats (ts.map eP) 20 then some ((ts.map eP).any fun z => eqD z (eP t)) else none) = _
  rw [h1, dats_P]
  simp only [Bool.and_self, if_true, List.any_map]
  congr 1
  rw [Bool.eq_iff_iff]
  simp only [List.any_eq_true, Function.comp_apply, decide_eq_true_eq]
  constructor
  · rintro ⟨x, hx, e⟩
    rw [eqD_P] at e
    have := of_decide_eq_true e
    exact this ▸ hx
  · intro h
    exact ⟨t, h, by rw [eqD_P]; exact decide_eq_true rfl⟩
@[simp] theorem prsD_eP : ∀ ps : List (Int × Int), prsD (ps.map eP) = some ps
  | [] => rfl
  | p :: ps => by
    show (prsD (ps.map eP)).map _ = _
    rw [prsD_eP ps]
    rfl
theorem sort_P (ts : List (Int × Int)) : biD .sorted [.lst (ts.map eP)] = some (.dp, .lst ((isortB ltP2 ts).map eP)) := by
  show sortD (ts.map eP) = _
  unfold sortD
  cases ts with
  | nil => rfl
  | cons t ts =>
    have e : intsD ((t :: ts).map eP) = none := rfl
    rw [e, prsD_eP]
theorem ris_strict {ts : List (Int × Int)} (h : Ris ltP2 ts) (n : ts.Nodup) : ts.Pairwise (fun a b => ltP2 a b = true) := by
  have := h.and n
  refine this.imp fun {a b} ⟨h1, h2⟩ => ?_
  cases e : ltP2 a b with
  | true => rfl
  | false => exact absurd (sto_P.tot a b e h1) h2
end TW

set_option Elab.async false
set_option linter.all false
set_option maxRecDepth 100000
set_option maxHeartbeats 4000000
namespace TW
open PySem PySem.Spec PyProof.Rows L2

@[simp] theorem sub_t2 (a b c : D) (r : List D) : subD (.tup (a :: b :: c :: r)) (.int 2) = some c := by
  show atI (a :: b :: c :: r) 2 = some c
  exact atI_nat (j := 2) rfl
@[simp] theorem sub_t3 (a b c d : D) (r : List D) : subD (.tup (a :: b :: c :: d :: r)) (.int 3) = some d := by
  show atI (a :: b :: c :: d :: r) 3 = some d
  exact atI_nat (j := 3) rfl
@[simp] theorem sub_t4 (a b c d e : D) (r : List D) : subD (.tup (a :: b :: c :: d :: e :: r)) (.int 4) = some e := by
  show atI (a :: b :: c :: d :: e :: r) 4 = some e
  exact atI_nat (j := 4) rfl
theorem max_2 (i j : Int) : biD .max [.int i, .int j] = some (.dp, .int (if j > i then j else i)) := rfl
theorem min_2 (i j : Int) : biD .min [.int i, .int j] = some (.dp, .int (if j < i then j else i)) := rfl
theorem notin_P (t : Int × Int) (ts : List (Int × Int)) : cmpD .notin (eP t) (.lst (ts.map eP)) = some (!decide (t ∈ ts)) := by
  show (inD (eP t) (.lst (ts.map eP))).map _ = _
  rw [in_P]
  rfl
theorem isin_P (t : Int × Int) (ts : List (Int × Int)) : cmpD .isin (eP t) (.lst (ts.map eP)) = some (decide (t ∈ ts)) := in_P t ts
@[simp] theorem ite_snd {α β : Type} {c : Prop} [Decidable c] (a b : α) (d : β) : (if c then (a, d) else (b, d)).2 = d := by split <;> rfl
@[simp] theorem closed_dp (d : D) : closed .dp d = true := rfl
@[simp] theorem closed_int (m : Md) (i : Int) : closed m (.int i) = true := by cases m <;> rfl
@[simp] theorem closed_bl (m : Md) (i : Bool) : closed m (.bl i) = true := by cases m <;> rfl
@[simp] theorem closed_non (m : Md) : closed m .non = true := by cases m <;> rfl
@[simp] theorem closed_P (m : Md) (p : Int × Int) : closed m (eP p) = true := by cases m <;> rfl
/-! ### the web of a script -/
def cellsOf (ns : List Int) : List Int := if ns = [] then [5] else ns.take 63
theorem cells_pos (ns : List Int) : 0 < (cellsOf ns).length := by
  unfold cellsOf
  split
  · simp
  · rename_i h
    rw [List.length_take]
    have := List.length_pos_iff.mpr h
    omega
structure Fnd (n : Int) (fs : List (Int × Int)) : Prop where
  ok : ∀ p ∈ fs, 0 ≤ p.1 ∧ p.1 < p.2 ∧ p.2 < n
  nd : fs.Nodup
def webTl : List S := [.asg 13 (.tup [.bi .min [.var 11, .var 12], .bi .max [.var 11, .var 12]]), .ife (.and (.cmp .ne (.var 11) (.var 12)) (.cmp .notin (.var 13) (.var 6))) [.mut 6 [] .append [.var 13]] []]
theorem b0_eq : fu_law_web_b0 = [.asg 10 (.bin .fdiv (.cal 9 [.sub (.var 4) (.bin .mod (.bin .add (.var 7) (.var 1)) (.bi .len [.var 4])), .bin .add (.var 7) (.var 1), .var 5]) (.lit (.int 3))),
    .ife (.cmp .gt (.var 8) (.lit (.int 1))) (.asg 11 (.sub (.tup [.bin .mod (.var 10) (.var 8), .bin .mod (.var 7) (.var 8), .lit (.int 0), .bin .mod (.var 10) (.var 8), .bin .mod (.var 7) (.var 8)]) (.var 9)) :: .asg 12 (.sub (.tup [.bin .mod (.bin .fdiv (.var 10) (.lit (.int 61))) (.var 8), .bin .mod (.bin .add (.var 7) (.lit (.int 1))) (.var 8), .bin .add (.lit (.int 1)) (.bin .mod (.var 7) (.bin .sub (.var 8) (.lit (.int 1)))), .bin .mod (.bin .add (.var 11) (.lit (.int 1))) (.var 8), .bin .mod (.var 10) (.var 8)]) (.var 9)) :: webTl) []] := rfl
theorem web_last {T : Tb} {n f o : Int} (hf : 0 ≤ f ∧ f < n) (ho : 0 ≤ o ∧ o < n) {fs : List (Int × Int)} (hF : Fnd n fs) (hl : fs.length < 1000) (s0 s1 s2 s3 s4 s5 s7 s8 s9 s10 x13 : Sl) :
    ∃ fs' x, exs T webTl
      [s0, s1, s2, s3, s4, s5, some (.dp, .lst (fs.map eP)), s7, s8, s9, s10, some (.sh, .int f), some (.sh, .int o), x13] =
        some (.ok (.nx [s0, s1, s2, s3, s4, s5, some (.dp, .lst (fs'.map eP)), s7, s8, s9, s10, some (.sh, .int f), some (.sh, .int o), x])) ∧ Fnd n fs' ∧ fs'.length ≤ fs.length + 1 := by
  have key : ∀ t : Int × Int, t = (if o < f then o else f, if o > f then o else f) → ∃ fs' x, exs T webTl
      [s0, s1, s2, s3, s4, s5, some (.dp, .lst (fs.map eP)), s7, s8, s9, s10, some (.sh, .int f), some (.sh, .int o), x13] =
        some (.ok (.nx [s0, s1, s2, s3, s4, s5, some (.dp, .lst (fs'.map eP)), s7, s8, s9, s10, some (.sh, .int f), some (.sh, .int o), x])) ∧ Fnd n fs' ∧ fs'.length ≤ fs.length + 1 := by
    intro t ht
    have e1 : D.tup [.int (if o < f then o else f), .int (if o > f then o else f)] = eP t := by rw [ht]
    by_cases h : f = o
    · refine ⟨fs, some (.dp, eP t), ?_, hF, by omega⟩
      simp [webTl, exs, ex, ev, evs, max_2, min_2, tupM, closeds, give, keep, nm, nms, ownS, h]
      rw [ht]
      simp [h]
    · by_cases h2 : t ∈ fs
      · refine ⟨fs, some (.dp, eP t), ?_, hF, by omega⟩
        simp [webTl, exs, ex, ev, evs, max_2, min_2, tupM, closeds, give, keep, nm, nms, ownS, h, e1, notin_P, h2]
      · refine ⟨fs ++ [t], some (.dp, eP t), ?_, ⟨fun p hp => ?_, ?_⟩, by simp⟩
        · have hs : fs.length < SZ := by show fs.length < 1000000; omega
          have hm : moL .append (fs.map eP) [eP t] = some ((fs ++ [t]).map eP) := by
            show (if (fs.map eP).length < SZ then some (fs.map eP ++ [eP t]) else none) = _
            rw [List.length_map, if_pos hs, List.map_append]
            rfl
          have hlf : lfree (eP t) = true := rfl
          simp [webTl, exs, ex, ev, evs, max_2, min_2, tupM, closeds, give, gives, keep, nm, nms, ownS, h, e1, notin_P, h2, evP, getP, moS, moP, hm, hlf]
        · rcases List.mem_append.mp hp with hp | hp
          · exact hF.ok p hp
          · rw [List.mem_singleton.mp hp, ht]
            by_cases h3 : o < f
            · rw [if_pos h3, if_neg (show ¬ (o > f) by omega)]
              exact ⟨ho.1, h3, hf.2⟩
            · have h4 : o > f := by omega
              rw [if_neg h3, if_pos h4]
              exact ⟨hf.1, h4, ho.2⟩
        · exact List.nodup_append.mpr ⟨hF.nd, by simp, fun a ha b hb e => h2 (by rw [← List.mem_singleton.mp hb, ← e]; exact ha)⟩
  exact key _ rfl
/-- where the loop stands -/
def WEnv (ns : List Int) (by_ p t whole n kind : Int) (fs : List (Int × Int)) (e : Dn) : Prop :=
  ∃ x7 x10 x11 x12 x13, e = [some (.sh, .scr ns), some (.sh, .int by_), some (.sh, .int p), some (.sh, .int t), some (.dp, .lst ((cellsOf ns).map D.int)), some (.sh, .int whole), some (.dp, .lst (fs.map eP)), x7, some (.sh, .int n), some (.sh, .int kind), x10, x11, x12, x13]
theorem web_step {B : Nat} (hB : B ≤ 2000000) (h40 : 40 ≤ B) {ns : List Int} {by_ p t whole n kind : Int} (hc : ∀ c ∈ cellsOf ns, Bd B c) (hw : Bd B whole) (hby : 0 ≤ by_ ∧ by_ ≤ 100) (hn : 0 ≤ n) (hk : 0 ≤ kind ∧ kind < 5) {fs : List (Int × Int)} (hf : Fnd n fs) (hl : fs.length < 1000) {a : Int} (ha : 0 ≤ a ∧ a ≤ 100) {e : Dn} (he : WEnv ns by_ p t whole n kind fs e) (k : Nat) :
    ∃ e', (match bindT [7] true (.int a) e with | none => none | some e2 => exs (run GP (k + 1)) fu_law_web_b0 e2) = some (.ok (.nx e')) ∧ ∃ fs', WEnv ns by_ p t whole n kind fs' e' ∧ Fnd n fs' ∧ fs'.length ≤ fs.length + 1 := by
  obtain ⟨x7, x10, x11, x12, x13, rfl⟩ := he
  have hL := cells_pos ns
  have hL' : (0 : Int) < ((cellsOf ns).length : Int) := by omega
  have i0 : 0 ≤ (a + by_) % ((cellsOf ns).length : Int) := Int.emod_nonneg _ (by omega)
  have i1 : (a + by_) % ((cellsOf ns).length : Int) < ((cellsOf ns).length : Int) := Int.emod_lt_of_pos _ hL'
  obtain ⟨d, hd, ed⟩ := at_in (xs := (cellsOf ns).map D.int) i0 (by rw [List.length_map]; exact i1)
  obtain ⟨c, hc1, rfl⟩ := List.mem_map.mp hd
  have ed : subD (.lst ((cellsOf ns).map D.int)) (.int ((a + by_) % ((cellsOf ns).length : Int))) = some (.int c) := ed
  have em : binD .mod (.int (a + by_)) (.int ((cellsOf ns).length : Int)) = some (.dp, .int ((a + by_) % ((cellsOf ns).length : Int))) := mod_ok hL'
  obtain ⟨v, m, hv⟩ := c_number hB h40 (hc c hc1) (at_ := a + by_) (Bd.of (show (a + by_).natAbs < 1024 by omega)) hw k
  have e3 : binD .fdiv (.int v) (.int 3) = some (.dp, .int (v / 3)) := fdiv_ok (by decide) (by decide)
  obtain ⟨u, hu⟩ : ∃ u, v / 3 = u := ⟨_, rfl⟩
  by_cases h1 : 1 < n
  · have q1 : ∀ x, binD .mod (.int x) (.int n) = some (.dp, .int (x % n)) := fun x => mod_ok (by omega)
    have q2 : ∀ x, binD .mod (.int x) (.int (n - 1)) = some (.dp, .int (x % (n - 1))) := fun x => mod_ok (by omega)
    have q3 : binD .fdiv (.int u) (.int 61) = some (.dp, .int (u / 61)) := fdiv_ok (by decide) (by decide)
    have r1 : ∀ x, 0 ≤ x % n ∧ x % n < n := fun x => ⟨Int.emod_nonneg _ (by omega), Int.emod_lt_of_pos _ (by omega)⟩
    have r2 : ∀ x, 0 ≤ 1 + x % (n - 1) ∧ 1 + x % (n - 1) < n := fun x => by
      have h1 := Int.emod_nonneg x (b := n - 1) (by omega)
      have h2 := Int.emod_lt_of_pos x (b := n - 1) (by omega)
      omega
    have fin : ∀ f o : Int, (0 ≤ f ∧ f < n) → (0 ≤ o ∧ o < n) → ∃ e', exs (run GP (k + 1)) webTl [some (.sh, .scr ns), some (.sh, .int by_), some (.sh, .int p), some (.sh, .int t), some (.dp, .lst ((cellsOf ns).map D.int)), some (.sh, .int whole), some (.dp, .lst (fs.map eP)), some (.sh, .int a), some (.sh, .int n), some (.sh, .int kind), some (.sh, .int u), some (.sh, .int f), some (.sh, .int o), x13] = some (.ok (.nx e')) ∧ ∃ fs', WEnv ns by_ p t whole n kind fs' e' ∧ Fnd n fs' ∧ fs'.length ≤ fs.length + 1 := by
      intro f o hfo ho
      obtain ⟨fs', x, g1, g2, g3⟩ := web_last (T := run GP (k + 1)) hfo ho hf hl (some (.sh, .scr ns)) (some (.sh, .int by_)) (some (.sh, .int p)) (some (.sh, .int t)) (some (.dp, .lst ((cellsOf ns).map D.int))) (some (.sh, .int whole)) (some (.sh, .int a)) (some (.sh, .int n)) (some (.sh, .int kind)) (some (.sh, .int u)) x13
      exact ⟨_, g1, fs', ⟨_, _, _, _, _, rfl⟩, g2, g3⟩
    have hk5 : kind = 0 ∨ kind = 1 ∨ kind = 2 ∨ kind = 3 ∨ kind = 4 := by omega
    have main : ∃ f o : Int, (0 ≤ f ∧ f < n) ∧ (0 ≤ o ∧ o < n) ∧ ∀ R, exs (run GP (k + 1)) webTl [some (.sh, .scr ns), some (.sh, .int by_), some (.sh, .int p), some (.sh, .int t), some (.dp, .lst ((cellsOf ns).map D.int)), some (.sh, .int whole), some (.dp, .lst (fs.map eP)), some (.sh, .int a), some (.sh, .int n), some (.sh, .int kind), some (.sh, .int u), some (.sh, .int f), some (.sh, .int o), x13] = some (.ok (.nx R)) → exs (run GP (k + 1)) fu_law_web_b0 [some (.sh, .scr ns), some (.sh, .int by_), some (.sh, .int p), some (.sh, .int t), some (.dp, .lst ((cellsOf ns).map D.int)), some (.sh, .int whole), some (.dp, .lst (fs.map eP)), some (.sh, .int a), some (.sh, .int n), some (.sh, .int kind), x10, x11, x12, x13] = some (.ok (.nx R)) := by
      rcases hk5 with rfl | rfl | rfl | rfl | rfl
      · refine ⟨u % n, u / 61 % n, r1 _, r1 _, fun R hR => ?_⟩
        simp [b0_eq, ex, ev, evs, ed, em, hv, e3, hu, h1, closeds, give, keep, nm, nms, ownS, q1, q2, q3, tupM, exs, hR]
      · refine ⟨a % n, (a + 1) % n, r1 _, r1 _, fun R hR => ?_⟩
        simp [b0_eq, ex, ev, evs, ed, em, hv, e3, hu, h1, closeds, give, keep, nm, nms, ownS, q1, q2, q3, tupM, exs, hR]
      · refine ⟨0, 1 + a % (n - 1), ⟨by omega, by omega⟩, r2 _, fun R hR => ?_⟩
        simp [b0_eq, ex, ev, evs, ed, em, hv, e3, hu, h1, closeds, give, keep, nm, nms, ownS, q1, q2, q3, tupM, exs, hR]
      · refine ⟨u % n, (u + 1) % n, r1 _, r1 _, fun R hR => ?_⟩
        simp [b0_eq, ex, ev, evs, ed, em, hv, e3, hu, h1, closeds, give, keep, nm, nms, ownS, q1, q2, q3, tupM, exs, hR]
      · refine ⟨a % n, u % n, r1 _, r1 _, fun R hR => ?_⟩
        simp [b0_eq, ex, ev, evs, ed, em, hv, e3, hu, h1, closeds, give, keep, nm, nms, ownS, q1, q2, q3, tupM, exs, hR]
    obtain ⟨f, o, hf1, ho1, hh⟩ := main
    obtain ⟨e', g1, g2⟩ := fin f o hf1 ho1
    exact ⟨e', hh e' g1, g2⟩
  · refine ⟨_, ?_, fs, ⟨some (.sh, .int a), some (.sh, .int u), x11, x12, x13, rfl⟩, hf, by omega⟩
    show exs (run GP (k + 1)) fu_law_web_b0 _ = _
    simp [fu_law_web_b0, exs, ex, ev, evs, ed, em, hv, e3, hu, h1, closeds, give, keep, nm, nms, ownS]
end TW

set_option Elab.async false
set_option linter.all false
set_option maxRecDepth 100000
set_option maxHeartbeats 4000000
namespace TW
open PySem PySem.Spec PyProof.Rows L2

theorem sum_bd {b : Nat} : ∀ {cs : List Int}, (∀ c ∈ cs, Bd b c) → cs.sum.natAbs + cs.length ≤ cs.length * 2 ^ b
  | [], _ => by simp
  | c :: cs, h => by
    have ih := sum_bd (cs := cs) fun x hx => h x (List.mem_cons_of_mem _ hx)
    have h1 : c.natAbs < 2 ^ b := h c List.mem_cons_self
    have h2 := Int.natAbs_add_le c cs.sum
    rw [List.sum_cons, List.length_cons, Nat.add_mul, Nat.one_mul]
    omega
theorem sum_bd6 {b : Nat} {cs : List Int} (h : ∀ c ∈ cs, Bd b c) (hl : cs.length ≤ 64) : Bd (b + 6) cs.sum := by
  have h1 := sum_bd h
  show cs.sum.natAbs < 2 ^ (b + 6)
  have h2 : cs.length * 2 ^ b ≤ 64 * 2 ^ b := Nat.mul_le_mul_right _ hl
  have h3 : 2 ^ (b + 6) = 64 * 2 ^ b := by rw [Nat.pow_add, Nat.mul_comm]
  have h4 : 0 < 2 ^ b := Nat.pow_pos (by decide)
  rw [h3]
  by_cases e : cs.length = 0
  · rw [e] at h1; omega
  · omega
theorem rng_ok {a b : Int} (h1 : a.natAbs < 1000000000) (h2 : b.natAbs < 1000000000) (h3 : b - a ≤ 1000000) : rngOk a b = true := by
  unfold rngOk smallI
  simp only [Bool.and_eq_true, decide_eq_true_eq]
  refine ⟨⟨h1, h2⟩, ?_⟩
  show (b - a).toNat ≤ 1000000
  omega
theorem rng_mem {a b : Int} {x : D} (h : x ∈ rngD a b) : ∃ i, x = .int i ∧ a ≤ i ∧ i < b := by
  unfold rngD at h
  obtain ⟨j, hj, rfl⟩ := List.mem_map.mp h
  have := List.mem_range.mp hj
  exact ⟨_, rfl, by omega, by omega⟩
theorem rng_len (a b : Int) : (rngD a b).length = (b - a).toNat := by
  unfold rngD
  rw [List.length_map, List.length_range]
theorem scr_ne (ns : List Int) : cmpD .ne (.scr ns) (.lst []) = some (!decide (ns = [])) := by
  cases ns with
  | nil => rfl
  | cons n ns => rfl
theorem scr_cut (ns : List Int) (i : Nat) : slcD (.scr ns) none (some (i : Int)) = some (.dp, .lst ((ns.take i).map D.int)) := by
  show some (Md.dp, D.lst (eI (cutL ns none (some (i : Int))))) = _
  rw [cut_to]
theorem c_web {b : Nat} (hb1 : 40 ≤ b) (hb2 : b ≤ 1900000) {ns : List Int} (hb : ∀ z ∈ ns, Bd b z) {by_ p t : Int} (hby : 0 ≤ by_ ∧ by_ ≤ 100) (hp : 0 ≤ p ∧ p ≤ 24) (ht : 0 ≤ t ∧ t ≤ 66) (k : Nat) :
    ∃ n ts, run GP (k + 2) 10 [.scr ns, .int by_, .int p, .int t] = some (.ok (.dp, webD n ts)) ∧ Web n ts ∧ n ≤ p ∧ (ts.length : Int) ≤ t := by
  have hc : ∀ c ∈ cellsOf ns, Bd b c := fun c hc => by
    unfold cellsOf at hc
    split at hc
    · rw [List.mem_singleton.mp hc]
      exact (Bd.of (b := 3) (by decide)).up (by omega)
    · exact hb c (List.mem_of_mem_take hc)
  have hcl : (cellsOf ns).length ≤ 64 := by
    unfold cellsOf
    split
    · simp
    · rw [List.length_take]; omega
  have hs := sum_bd6 hc hcl
  have hw : Bd (b + 8) ((cellsOf ns).sum + by_) := (hs.add ((Bd.of (b := 7) (show by_.natAbs < 128 by omega)).up (by omega))).up (by omega)
  have hc' : ∀ c ∈ cellsOf ns, Bd (b + 8) c := fun c h => (hc c h).up (by omega)
  obtain ⟨whole, hwh⟩ : ∃ w, (cellsOf ns).sum + by_ = w := ⟨_, rfl⟩
  rw [hwh] at hw
  have n0 := Int.emod_nonneg whole (b := p + 1) (by omega)
  have n1 := Int.emod_lt_of_pos whole (b := p + 1) (by omega)
  have k0 := Int.emod_nonneg (whole / 7) (b := 5) (by omega)
  have k1 := Int.emod_lt_of_pos (whole / 7) (b := 5) (by omega)
  have e1 : binD .mod (.int whole) (.int (p + 1)) = some (.dp, .int (whole % (p + 1))) := mod_ok (by omega)
  have e2 : binD .fdiv (.int whole) (.int 7) = some (.dp, .int (whole / 7)) := fdiv_ok (by decide) (by decide)
  have e3 : binD .mod (.int (whole / 7)) (.int 5) = some (.dp, .int (whole / 7 % 5)) := mod_ok (by decide)
  obtain ⟨n, hn⟩ : ∃ n, whole % (p + 1) = n := ⟨_, rfl⟩
  obtain ⟨kind, hkind⟩ : ∃ n, whole / 7 % 5 = n := ⟨_, rfl⟩
  rw [hn] at n0 n1 e1
  rw [hkind] at k0 k1 e3
  have hr : rngOk 0 t = true := rng_ok (by decide) (by omega) (by omega)
  -- the loop
  have loop : ∀ e, WEnv ns by_ p t whole n kind [] e → ∃ e', forL (fun x e1 => match bindT [7] true x e1 with | none => none | some e2 => exs (run GP (k + 1)) fu_law_web_b0 e2) (rngD 0 t) e = some (.ok (.nx e')) ∧ ∃ fs, WEnv ns by_ p t whole n kind fs e' ∧ Fnd n fs ∧ fs.length ≤ t.toNat := fun e he => by
    obtain ⟨e', g1, fs, g2, g3, g4, _⟩ := forL_inv (f := fun x e1 => match bindT [7] true x e1 with | none => none | some e2 => exs (run GP (k + 1)) fu_law_web_b0 e2) (P := fun xs e => ∃ fs, WEnv ns by_ p t whole n kind fs e ∧ Fnd n fs ∧ fs.length + xs.length ≤ t.toNat ∧ ∀ x ∈ xs, ∃ i, x = .int i ∧ 0 ≤ i ∧ i < t) (fun x xs e h => by
      obtain ⟨fs, h1, h2, h3, h4⟩ := h
      obtain ⟨a, rfl, a0, a1⟩ := h4 x List.mem_cons_self
      rw [List.length_cons] at h3
      obtain ⟨e', g1, fs', g2, g3, g4⟩ := web_step (B := b + 8) (by omega) (by omega) hc' hw hby n0 ⟨k0, k1⟩ h2 (by omega) (a := a) ⟨a0, by omega⟩ h1 k
      exact ⟨e', g1, fs', g2, g3, by omega, fun y hy => h4 y (List.mem_cons_of_mem _ hy)⟩) (xs := rngD 0 t) (e := e) ⟨[], he, ⟨fun _ h => (by cases h), List.nodup_nil⟩, by rw [rng_len]; simp, fun x hx => rng_mem hx⟩
    exact ⟨e', g1, fs, g2, g3, by simpa using g4⟩
  have he0 : WEnv ns by_ p t whole n kind [] [some (.sh, .scr ns), some (.sh, .int by_), some (.sh, .int p), some (.sh, .int t), some (.dp, .lst ((cellsOf ns).map D.int)), some (.sh, .int whole), some (.dp, .lst []), none, some (.sh, .int n), some (.sh, .int kind), none, none, none, none] := ⟨none, none, none, none, none, rfl⟩
  obtain ⟨e', g1, fs, ⟨x7, x10, x11, x12, x13, rfl⟩, g3, g4⟩ := loop _ he0
  have pm : (isortB ltP2 fs).Perm fs := isortB_perm fs
  refine ⟨n, isortB ltP2 fs, ?_, ⟨n0, by omega, ?_, fun q hq => g3.ok q (pm.mem_iff.mp hq), ris_strict (isortB_ris sto_P fs) (pm.nodup_iff.mpr g3.nd)⟩, by omega, ?_⟩
  · show callF (run GP (k + 1)) fu_law_web [.scr ns, .int by_, .int p, .int t] = _
    have c1 : ev (run GP (k + 1)) (.ite (.cmp .ne (.var 0) (.lst [])) (.slc false true (.var 0) (.lit .non) (.lit (.int 63))) (.lst [.lit (.int 5)])) [some (.sh, .scr ns), some (.sh, .int by_), some (.sh, .int p), some (.sh, .int t), none, none, none, none, none, none, none, none, none, none] = some (.ok (.dp, .lst ((cellsOf ns).map D.int))) := by
      have h63 : slcD (.scr ns) none (some 63) = some (.dp, .lst ((ns.take 63).map D.int)) := scr_cut ns 63
      by_cases h : ns = []
      · simp [ev, evs, scr_ne, h, cellsOf, boxM, closeds]
      · simp [ev, evs, scr_ne, h, cellsOf, optI, h63]
    simp only [callF, fu_law_web, exs, ex, start0]
    simp [c1]
    simp [bi_sum, hwh, e1, e2, e3, ev, evs, evr, evrs, mvs, mv, evS, hr, give, gives, keep, nm, nms, ownS, closeds, setAll, boxM, tupM]
    erw [g1]
    simp [sort_P, closeds]
  · rw [pm.length_eq]; omega
  · rw [pm.length_eq]; omega
end TW

set_option Elab.async false
set_option linter.all false
set_option maxRecDepth 100000
set_option maxHeartbeats 4000000
namespace TW
open PySem PySem.Spec PyProof.Rows L2

/-! ### the checks let a web go -/
theorem c_check_web {n : Int} {ts : List (Int × Int)} (w : Web n ts) (k : Nat) : run GP (k + 5) 4 [webD n ts] = some (.ok (.dp, .non)) := by
  show callF (run GP (k + 4)) fu_check_web [webD n ts] = _
  simp [callF, fu_check_web, exs, ex, ev, evs, start0, c_is_web w]
theorem c_check_few {n : Int} {ts : List (Int × Int)} (w : Web n ts) {m : Int} (h : (ts.length : Int) ≤ m) (k : Nat) : run GP (k + 5) 31 [webD n ts, .int m] = some (.ok (.dp, .non)) := by
  show callF (run GP (k + 4)) fu_check_few_ties [webD n ts, .int m] = _
  have h : ¬ (m < (ts.length : Int)) := by omega
  simp [callF, fu_check_few_ties, exs, ex, ev, evs, start0, c_is_web w, h]
theorem c_check_places {n : Int} {ts : List (Int × Int)} (w : Web n ts) {m : Int} (h : n ≤ m) (k : Nat) : run GP (k + 5) 38 [webD n ts, .int m] = some (.ok (.dp, .non)) := by
  show callF (run GP (k + 4)) fu_check_places [webD n ts, .int m] = _
  have h : ¬ (m < n) := by omega
  simp [callF, fu_check_places, exs, ex, ev, evs, start0, c_is_web w, h]
theorem c_check_small {n : Int} {ts : List (Int × Int)} (w : Web n ts) (h : n ≤ 10) (k : Nat) : run GP (k + 6) 37 [webD n ts] = some (.ok (.dp, .non)) := by
  show callF (run GP (k + 5)) fu_check_small [webD n ts] = _
  simp [callF, fu_check_small, exs, ex, ev, evs, start0, c_check_places w h]

/-! ### rows of rows -/
abbrev rowD (N : Nat) (f : Nat → List Int) : D := .lst ((List.range N).map fun p => eIL (f p))
theorem ixN_ok {N : Nat} {i : Int} (h0 : 0 ≤ i) (h1 : i < N) : ixN N i = some i.toNat := by
  unfold ixN
  rw [if_pos h0, if_pos h1]
theorem range_set {N : Nat} {α : Type} (g : Nat → α) (j : Nat) (x : α) : ((List.range N).map g).set j x = (List.range N).map fun p => if p = j then x else g p := by
  apply List.ext_getElem?
  intro m
  simp only [List.getElem?_set, List.getElem?_map, List.length_map, List.length_range]
  by_cases hm : m < N
  · have e : (List.range N)[m]? = some m := by rw [List.getElem?_range hm]
    by_cases h : j = m
    · subst h
      simp [hm]
    · have h' : ¬ m = j := fun z => h z.symm
      simp [h, h', e]
  · have e : (List.range N)[m]? = none := List.getElem?_eq_none (by rw [List.length_range]; omega)
    by_cases h : j = m
    · subst h
      simp [hm]
    · simp [h, e]
theorem row_app {N : Nat} {f : Nat → List Int} {i b : Int} (h0 : 0 ≤ i) (h1 : i < N) (hl : (f i.toNat).length < 1000000) : moP .append [.int b] [i] (rowD N f) = some (rowD N fun p => if p = i.toNat then f p ++ [b] else f p) := by
  show ((ixN ((List.range N).map fun p => eIL (f p)).length i).bind fun j => (((List.range N).map fun p => eIL (f p))[j]?).bind fun d => (moP .append [.int b] [] d).map fun d' => D.lst (((List.range N).map fun p => eIL (f p)).set j d')) = _
  have hN : i.toNat < N := by omega
  rw [List.length_map, List.length_range, ixN_ok h0 h1, Option.bind_some, List.getElem?_map, List.getElem?_range hN]
  have e : moP .append [.int b] [] (eIL (f i.toNat)) = some (eIL (f i.toNat ++ [b])) := by
    show ((if ((f i.toNat).map D.int).length < SZ then some ((f i.toNat).map D.int ++ [.int b]) else none)).map D.lst = _
    rw [List.length_map, if_pos hl, Option.map_some]
    simp [eIL]
  rw [Option.map_some, Option.bind_some, e, Option.map_some, range_set]
  congr 3
  funext p
  by_cases h : p = i.toNat <;> simp [h]
theorem sort_I (ns : List Int) : biD .sorted [.lst (ns.map D.int)] = some (.dp, .lst ((isortB ltZ ns).map D.int)) := by
  show sortD (ns.map D.int) = _
  unfold sortD
  rw [intsD_eI]
/-- those tied to a place, in the ties' turn -/
def nb (ts : List (Int × Int)) (p : Int) : List Int := ts.flatMap fun t => if t.1 = p then [t.2] else if t.2 = p then [t.1] else []
theorem nb_cons (t : Int × Int) (ts : List (Int × Int)) (p : Int) : nb (t :: ts) p = (if t.1 = p then [t.2] else if t.2 = p then [t.1] else []) ++ nb ts p := by
  unfold nb
  rw [List.flatMap_cons]
theorem nb_len : ∀ (ts : List (Int × Int)) (p : Int), (nb ts p).length ≤ ts.length
  | [], p => by simp [nb]
  | t :: ts, p => by
    have ih := nb_len ts p
    rw [nb_cons, List.length_append, List.length_cons]
    have : (if t.1 = p then [t.2] else if t.2 = p then [t.1] else []).length ≤ 1 := by
      split
      · simp
      · split <;> simp
    omega
theorem getP_row {N : Nat} {f : Nat → List Int} {i : Int} (h0 : 0 ≤ i) (h1 : i < N) : getP [i] (rowD N f) = some (eIL (f i.toNat)) := by
  show (atI ((List.range N).map fun p => eIL (f p)) i).bind (getP []) = _
  unfold atI
  have hN : i.toNat < N := by omega
  rw [List.length_map, List.length_range, ixN_ok h0 h1, Option.bind_some, List.getElem?_map, List.getElem?_range hN]
  rfl
theorem near_step {T : Tb} {n : Int} {ts : List (Int × Int)} {N : Nat} (hN : (N : Int) = n) {f : Nat → List Int} (hl : ∀ p, (f p).length < 1000) {t : Int × Int} (ht : 0 ≤ t.1 ∧ t.1 < t.2 ∧ t.2 < n) (x2 x3 x4 x5 : Sl) :
    (match bindT [2, 3] false (eP t) [some (.sh, webD n ts), some (.dp, rowD N f), x2, x3, x4, x5] with | none => none | some e2 => exs T fu_near_of_b0 e2) =
      some (.ok (.nx [some (.sh, webD n ts), some (.dp, rowD N fun p => f p ++ (if t.1 = p then [t.2] else if t.2 = p then [t.1] else [])), some (.sh, .int t.1), some (.sh, .int t.2), x4, x5])) := by
  have a1 : moP .append [.int t.2] [t.1] (rowD N f) = some (rowD N fun p => if p = t.1.toNat then f p ++ [t.2] else f p) := row_app ht.1 (by omega) (by have := hl t.1.toNat; omega)
  have a2 : moP .append [.int t.1] [t.2] (rowD N fun p => if p = t.1.toNat then f p ++ [t.2] else f p) = some (rowD N fun p => if p = t.2.toNat then (if p = t.1.toNat then f p ++ [t.2] else f p) ++ [t.1] else (if p = t.1.toNat then f p ++ [t.2] else f p)) := row_app (by omega) (by omega) (by
    have := hl t.2.toNat
    split
    · rw [List.length_append, List.length_singleton]; omega
    · omega)
  have a3 : (fun p : Nat => if p = t.2.toNat then (if p = t.1.toNat then f p ++ [t.2] else f p) ++ [t.1] else (if p = t.1.toNat then f p ++ [t.2] else f p)) = fun p => f p ++ (if t.1 = p then [t.2] else if t.2 = p then [t.1] else []) := by
    funext p
    by_cases h1 : p = t.1.toNat
    · have h2 : ¬ p = t.2.toNat := by omega
      have h3 : t.1 = (p : Int) := by omega
      rw [if_neg h2, if_pos h1, if_pos h3]
    · have h3 : ¬ t.1 = (p : Int) := by omega
      by_cases h2 : p = t.2.toNat
      · have h4 : t.2 = (p : Int) := by omega
        rw [if_pos h2, if_neg h1, if_neg h3, if_pos h4]
      · have h4 : ¬ t.2 = (p : Int) := by omega
        rw [if_neg h2, if_neg h1, if_neg h3, if_neg h4, List.append_nil]
  have b1 := getP_row (N := N) (f := f) (i := t.1) ht.1 (by omega)
  have b2 := getP_row (N := N) (f := fun p => if p = t.1.toNat then f p ++ [t.2] else f p) (i := t.2) (by omega) (by omega)
  rw [a3] at a2
  simp [bindT, fu_near_of_b0, exs, ex, ev, evs, evP, okOnly, b1, b2, gives, nms, nm, ownS, moS, closeds, a1, a2]
theorem near_loop {T : Tb} {n : Int} {us : List (Int × Int)} {N : Nat} (hN : (N : Int) = n) (x4 x5 : Sl) : ∀ {ts : List (Int × Int)} {f : Nat → List Int} {x2 x3 : Sl}, (∀ p, (f p).length + ts.length < 1000) → (∀ t ∈ ts, 0 ≤ t.1 ∧ t.1 < t.2 ∧ t.2 < n) →
    ∃ y2 y3, forL (fun x e1 => match bindT [2, 3] false x e1 with | none => none | some e2 => exs T fu_near_of_b0 e2) (ts.map eP) [some (.sh, webD n us), some (.dp, rowD N f), x2, x3, x4, x5] =
      some (.ok (.nx [some (.sh, webD n us), some (.dp, rowD N fun p => f p ++ nb ts p), y2, y3, x4, x5]))
  | [], f, x2, x3, _, _ => ⟨x2, x3, by simp [forL, nb]⟩
  | t :: ts, f, x2, x3, hl, ht => by
    have h1 := near_step (T := T) (ts := us) hN (f := f) (fun p => by have := hl p; rw [List.length_cons] at this; omega) (ht t List.mem_cons_self) x2 x3 x4 x5
    have hl2 : ∀ p : Nat, (f p ++ (if t.1 = (p : Int) then [t.2] else if t.2 = (p : Int) then [t.1] else [])).length + ts.length < 1000 := fun p => by
      have := hl p
      rw [List.length_cons] at this
      rw [List.length_append]
      have : (if t.1 = (p : Int) then [t.2] else if t.2 = (p : Int) then [t.1] else []).length ≤ 1 := by
        split
        · simp
        · split <;> simp
      omega
    obtain ⟨y2, y3, h2⟩ := near_loop hN x4 x5 (ts := ts) (x2 := some (.sh, .int t.1)) (x3 := some (.sh, .int t.2)) hl2 fun u hu => ht u (List.mem_cons_of_mem _ hu)
    refine ⟨y2, y3, ?_⟩
    rw [List.map_cons]
    unfold forL
    rw [h1, bnd_ok]
    refine h2.trans ?_
    have e : (fun p : Nat => (f p ++ if t.1 = (p : Int) then [t.2] else if t.2 = (p : Int) then [t.1] else []) ++ nb ts (p : Int)) = fun p : Nat => f p ++ nb (t :: ts) (p : Int) := by
      funext p
      rw [nb_cons, List.append_assoc]
    rw [e]
/-- what near tells -/
abbrev nearD (n : Int) (ts : List (Int × Int)) : D := rowD n.toNat fun p => isortB ltZ (nb ts p)
theorem rows_nil (N : Nat) : rngD 0 (N : Int) = (List.range N).map fun (p : Nat) => D.int (p : Int) := by
  unfold rngD
  simp
theorem c_near_of {n : Int} {ts : List (Int × Int)} (w : Web n ts) (k : Nat) : run GP (k + 1) 5 [webD n ts] = some (.ok (.dp, nearD n ts)) := by
  show callF (run GP k) fu_near_of [webD n ts] = _
  obtain ⟨N, hN⟩ : ∃ N : Nat, (N : Int) = n := ⟨n.toNat, Int.toNat_of_nonneg w.lo⟩
  have hr : rngOk 0 n = true := rng_ok (by decide) (by have := w.hi; have := w.lo; omega) (by have := w.hi; omega)
  obtain ⟨y2, y3, h⟩ := near_loop (T := run GP k) (us := ts) hN none none (ts := ts) (f := fun _ => []) (x2 := none) (x3 := none) (fun p => by have := w.len; simp; omega) w.ok
  have e1 : ∀ f : D → Option (Option (Md × D)), (∀ p : Nat, f (.int p) = some (some (.dp, .lst []))) → compL f (rngD 0 n) = some ((List.range N).map fun _ => (Md.dp, D.lst [])) := fun f hf => by
    rw [← hN, rows_nil]
    exact compL_mapE fun p _ => hf p
  have e2 : ∀ f : D → Option (Option (Md × D)), (∀ l : List Int, f (eIL l) = some (some (.dp, eIL (isortB ltZ l)))) → compL f ((List.range N).map fun (p : Nat) => eIL ([] ++ nb ts (p : Int))) = some ((List.range N).map fun (p : Nat) => (Md.dp, eIL (isortB ltZ (nb ts (p : Int))))) := fun f hf => by
    refine compL_mapE fun p _ => ?_
    rw [hf]
    rfl
  have cl : ∀ {α : Type} (g : α → D) (xs : List α), closeds (xs.map fun x => (Md.dp, g x)) = true := fun g xs => by
    induction xs with
    | nil => rfl
    | cons x xs ih => simp [closeds, ih]
  simp [callF, fu_near_of, exs, ex, ev, evs, evr, evC, evS, start0, hr]
  rw [e1 _ (fun p => by simp [bindT, okOnly, boxM, closeds])]
  simp [boxM, cl, give, keep, nm, nms, nmS, ownS, itemsD, frz, frzS, Function.comp_def]
  erw [h]
  simp [itemsD]
  erw [e2 _ (fun l => by simp [bindT, okOnly, sort_I])]
  simp [cl, Function.comp_def]
  have : n.toNat = N := by omega
  rw [this]
end TW

set_option Elab.async false
set_option linter.all false
set_option maxRecDepth 100000
set_option maxHeartbeats 4000000
namespace TW
open PySem PySem.Spec PyProof.Rows L2

theorem c_near {n : Int} {ts : List (Int × Int)} (w : Web n ts) (k : Nat) : run GP (k + 6) 6 [webD n ts] = some (.ok (.dp, nearD n ts)) := by
  show callF (run GP (k + 5)) fu_near [webD n ts] = _
  simp [callF, fu_near, exs, ex, ev, evs, evr, start0, c_check_web w, c_near_of w]
theorem c_law_near {n : Int} {ts : List (Int × Int)} (w : Web n ts) (k : Nat) : run GP (k + 1) 11 [webD n ts] = some (.ok (.dp, nearD n ts)) := c_near_of w k

/-! ### the web of the ties -/
def shr (a b : Int × Int) : Bool := (decide (b.1 = a.1) || decide (b.2 = a.1)) || (decide (b.1 = a.2) || decide (b.2 = a.2))
theorem in_T2 (x : Int) (t : Int × Int) : cmpD .isin (.int x) (eP t) = some (decide (t.1 = x) || decide (t.2 = x)) := by
  show some (eqD (.int t.1) (.int x) || (eqD (.int t.2) (.int x) || false)) = _
  have e : ∀ a b : Int, eqD (.int a) (.int b) = decide (a = b) := fun a b => by
    show (a == b) = _
    by_cases h : a = b <;> simp [h]
  rw [e, e, Bool.or_false]
theorem at_P {ts : List (Int × Int)} {j : Nat} {t : Int × Int} (h : ts[j]? = some t) : subD (.lst (ts.map eP)) (.int (j : Int)) = some (eP t) := by
  show atI (ts.map eP) (j : Int) = some (eP t)
  exact atI_nat (by rw [List.getElem?_map, h]; rfl)
theorem tw_inner {T : Tb} {n : Int} {us ts : List (Int × Int)} {a : Nat} {t : Int × Int} : ∀ {js : List Nat} {fs : List (Int × Int)} {x5 : Sl}, (∀ j ∈ js, j < ts.length) → fs.length + js.length < 100000 →
    ∃ y5, forL (fun x e1 => match bindT [5] true x e1 with | none => none | some e2 => exs T fu_tie_web_of_b0 e2) (js.map fun (j : Nat) => D.int (j : Int)) [some (.sh, webD n us), some (.sh, .lst (ts.map eP)), some (.dp, .lst (fs.map eP)), some (.sh, .int (a : Int)), some (.sh, eP t), x5] =
      some (.ok (.nx [some (.sh, webD n us), some (.sh, .lst (ts.map eP)), some (.dp, .lst ((fs ++ (js.filter fun (j : Nat) => shr (ts.getD j (0, 0)) t).map fun (j : Nat) => ((a : Int), (j : Int))).map eP)), some (.sh, .int (a : Int)), some (.sh, eP t), y5]))
  | [], fs, x5, _, _ => ⟨x5, by simp [forL]⟩
  | j :: js, fs, x5, hj, hl => by
    have hj0 : j < ts.length := hj j List.mem_cons_self
    obtain ⟨u, hu⟩ : ∃ u, ts[j]? = some u := ⟨ts[j], List.getElem?_eq_getElem hj0⟩
    have hd : ts.getD j (0, 0) = u := by rw [List.getD_eq_getElem?_getD, hu]; rfl
    have e1 := at_P hu
    rw [List.length_cons] at hl
    have step : exs T fu_tie_web_of_b0 [some (.sh, webD n us), some (.sh, .lst (ts.map eP)), some (.dp, .lst (fs.map eP)), some (.sh, .int (a : Int)), some (.sh, eP t), some (.sh, .int (j : Int))] =
        some (.ok (.nx [some (.sh, webD n us), some (.sh, .lst (ts.map eP)), some (.dp, .lst ((fs ++ if shr u t then [((a : Int), (j : Int))] else []).map eP)), some (.sh, .int (a : Int)), some (.sh, eP t), some (.sh, .int (j : Int))])) := by
      have hm : moL .append (fs.map eP) [eP ((a : Int), (j : Int))] = some ((fs ++ [((a : Int), (j : Int))]).map eP) := by
        show (if (fs.map eP).length < SZ then some (fs.map eP ++ [eP ((a : Int), (j : Int))]) else none) = _
        rw [List.length_map, if_pos (show fs.length < 1000000 by omega), List.map_append]
        rfl
      by_cases h1 : (decide (t.1 = u.1) || decide (t.2 = u.1)) = true
      · have h2 : shr u t = true := by unfold shr; rw [h1]; rfl
        simp [fu_tie_web_of_b0, exs, ex, ev, evs, evP, e1, in_T2, h1, getP, gives, nms, nm, ownS, moS, moP, closeds, tupM, hm, h2]
      · have h1 : (decide (t.1 = u.1) || decide (t.2 = u.1)) = false := by simpa using h1
        by_cases h3 : (decide (t.1 = u.2) || decide (t.2 = u.2)) = true
        · have h2 : shr u t = true := by unfold shr; rw [h3, h1]; rfl
          simp [fu_tie_web_of_b0, exs, ex, ev, evs, evP, e1, in_T2, h1, h3, getP, gives, nms, nm, ownS, moS, moP, closeds, tupM, hm, h2]
        · have h3 : (decide (t.1 = u.2) || decide (t.2 = u.2)) = false := by simpa using h3
          have h2 : shr u t = false := by unfold shr; rw [h3, h1]; rfl
          simp [fu_tie_web_of_b0, exs, ex, ev, evs, evP, e1, in_T2, h1, h3, h2]
    obtain ⟨y5, ih⟩ := tw_inner (T := T) (n := n) (us := us) (ts := ts) (a := a) (t := t) (js := js) (fs := fs ++ if shr u t then [((a : Int), (j : Int))] else []) (x5 := some (.sh, .int (j : Int))) (fun i hi => hj i (List.mem_cons_of_mem _ hi)) (by
      rw [List.length_append]
      have : (if shr u t = true then [((a : Int), (j : Int))] else []).length ≤ 1 := by split <;> simp
      omega)
    refine ⟨y5, ?_⟩
    rw [List.map_cons]
    unfold forL
    have e2 : (match bindT [5] true (.int (j : Int)) [some (.sh, webD n us), some (.sh, .lst (ts.map eP)), some (.dp, .lst (fs.map eP)), some (.sh, .int (a : Int)), some (.sh, eP t), x5] with | none => none | some e2 => exs T fu_tie_web_of_b0 e2) = _ := step
    rw [e2, bnd_ok]
    refine ih.trans ?_
    rw [List.filter_cons, hd]
    cases shr u t <;> simp
theorem rng_nat (a m : Nat) : rngD ((a : Int) + 1) (m : Int) = ((List.range (m - (a + 1))).map fun (i : Nat) => a + 1 + i).map fun (j : Nat) => D.int (j : Int) := by
  unfold rngD
  have e : ((m : Int) - ((a : Int) + 1)).toNat = m - (a + 1) := by omega
  rw [e, List.map_map]
  apply List.map_congr_left
  intro i _
  show D.int ((a : Int) + 1 + (i : Int)) = D.int ((a + 1 + i : Nat) : Int)
  congr 1
def twRow (ts : List (Int × Int)) (a : Nat) : List (Int × Int) := (((List.range (ts.length - (a + 1))).map fun (i : Nat) => a + 1 + i).filter fun (j : Nat) => shr (ts.getD j (0, 0)) (ts.getD a (0, 0))).map fun (j : Nat) => ((a : Int), (j : Int))
theorem twRow_len (ts : List (Int × Int)) (a : Nat) : (twRow ts a).length ≤ ts.length - (a + 1) := by
  unfold twRow
  rw [List.length_map]
  refine Nat.le_trans (List.length_filter_le _ _) ?_
  rw [List.length_map, List.length_range]
  exact Nat.le_refl _
theorem tw_outer {T : Tb} {n : Int} {us ts : List (Int × Int)} (hm : ts.length ≤ 66) : ∀ {rest : List (Int × Int)} {a : Nat} {fs : List (Int × Int)} {x3 x4 x5 : Sl}, ts.drop a = rest → fs.length + rest.length * 100 < 50000 →
    ∃ y3 y4 y5, forL (fun x e1 => match bindT [3, 4] false x e1 with | none => none | some e2 => exs T fu_tie_web_of_b1 e2) (enuD a (rest.map eP)) [some (.sh, webD n us), some (.sh, .lst (ts.map eP)), some (.dp, .lst (fs.map eP)), x3, x4, x5] =
      some (.ok (.nx [some (.sh, webD n us), some (.sh, .lst (ts.map eP)), some (.dp, .lst ((fs ++ (List.range' a rest.length).flatMap (twRow ts)).map eP)), y3, y4, y5]))
  | [], a, fs, x3, x4, x5, _, _ => ⟨x3, x4, x5, by simp [forL, enuD]⟩
  | t :: rest, a, fs, x3, x4, x5, hd, hl => by
    have ha : a < ts.length := by
      have := congrArg List.length hd
      rw [List.length_drop, List.length_cons] at this
      omega
    have hta : ts.getD a (0, 0) = t := by
      have h1 : ts.drop a = ts[a] :: ts.drop (a + 1) := List.drop_eq_getElem_cons ha
      rw [hd] at h1
      rw [List.getD_eq_getElem?_getD, List.getElem?_eq_getElem ha]
      exact (List.cons.inj h1).1.symm
    have hdr : ts.drop (a + 1) = rest := by
      have h1 : ts.drop a = ts[a] :: ts.drop (a + 1) := List.drop_eq_getElem_cons ha
      rw [hd] at h1
      exact (List.cons.inj h1).2.symm
    rw [List.length_cons] at hl
    have hr : rngOk ((a : Int) + 1) (ts.length : Int) = true := rng_ok (by omega) (by omega) (by omega)
    obtain ⟨y5, h5⟩ := tw_inner (T := T) (n := n) (us := us) (ts := ts) (a := a) (t := t) (js := (List.range (ts.length - (a + 1))).map fun (i : Nat) => a + 1 + i) (fs := fs) (x5 := x5) (fun j hj => by
      obtain ⟨i, hi, rfl⟩ := List.mem_map.mp hj
      have := List.mem_range.mp hi
      omega) (by rw [List.length_map, List.length_range]; omega)
    rw [← rng_nat] at h5
    have hrow : (fs ++ (((List.range (ts.length - (a + 1))).map fun (i : Nat) => a + 1 + i).filter fun (j : Nat) => shr (ts.getD j (0, 0)) t).map fun (j : Nat) => ((a : Int), (j : Int))) = fs ++ twRow ts a := by
      unfold twRow
      rw [hta]
    rw [hrow] at h5
    have step : exs T fu_tie_web_of_b1 [some (.sh, webD n us), some (.sh, .lst (ts.map eP)), some (.dp, .lst (fs.map eP)), some (.sh, .int (a : Int)), some (.sh, eP t), x5] =
        some (.ok (.nx [some (.sh, webD n us), some (.sh, .lst (ts.map eP)), some (.dp, .lst ((fs ++ twRow ts a).map eP)), some (.sh, .int (a : Int)), some (.sh, eP t), y5])) := by
      simp [fu_tie_web_of_b1, exs, ex, ev, evs, evS, hr]
      erw [h5]
      simp
    have hlr := twRow_len ts a
    obtain ⟨y3, y4, y6, ih⟩ := tw_outer (T := T) (n := n) (us := us) (ts := ts) hm (rest := rest) (a := a + 1) (fs := fs ++ twRow ts a) (x3 := some (.sh, .int (a : Int))) (x4 := some (.sh, eP t)) (x5 := y5) hdr (by rw [List.length_append]; omega)
    refine ⟨y3, y4, y6, ?_⟩
    rw [List.map_cons]
    unfold enuD forL
    have e2 : (match bindT [3, 4] false (.tup [.int (a : Int), eP t]) [some (.sh, webD n us), some (.sh, .lst (ts.map eP)), some (.dp, .lst (fs.map eP)), x3, x4, x5] with | none => none | some e2 => exs T fu_tie_web_of_b1 e2) = _ := step
    rw [e2, bnd_ok]
    refine ih.trans ?_
    rw [List.length_cons, List.range'_succ, List.flatMap_cons, List.append_assoc]
/-- the ties of the web of the ties -/
def tw (ts : List (Int × Int)) : List (Int × Int) := (List.range ts.length).flatMap (twRow ts)
theorem c_tie_web_of {n : Int} {ts : List (Int × Int)} (hm : ts.length ≤ 66) (k : Nat) : run GP (k + 1) 32 [webD n ts] = some (.ok (.dp, webD ts.length (tw ts))) := by
  show callF (run GP k) fu_tie_web_of [webD n ts] = _
  obtain ⟨y3, y4, y5, h⟩ := tw_outer (T := run GP k) (n := n) (us := ts) (ts := ts) hm (rest := ts) (a := 0) (fs := []) (x3 := none) (x4 := none) (x5 := none) rfl (by simp; omega)
  rw [List.nil_append, ← List.range_eq_range'] at h
  have h : forL (fun x e1 => match bindT [3, 4] false x e1 with | none => none | some e2 => exs (run GP k) fu_tie_web_of_b1 e2) (enuD 0 (ts.map eP)) [some (.sh, webD n ts), some (.sh, .lst (ts.map eP)), some (.dp, .lst []), none, none, none] = some (.ok (.nx [some (.sh, webD n ts), some (.sh, .lst (ts.map eP)), some (.dp, .lst ((tw ts).map eP)), y3, y4, y5])) := h
  simp [callF, fu_tie_web_of, exs, ex, ev, evs, evr, evrs, evS, mvs, mv, start0, gives, nms, nm, nmS, ownS, setAll, keep, boxM, closeds, frz, frzS]
  erw [h]
  simp [tupM, closeds]
theorem c_tie_web {n : Int} {ts : List (Int × Int)} (w : Web n ts) (h : ts.length ≤ 10) (k : Nat) : run GP (k + 6) 33 [webD n ts] = some (.ok (.dp, webD ts.length (tw ts))) := by
  show callF (run GP (k + 5)) fu_tie_web [webD n ts] = _
  simp [callF, fu_tie_web, exs, ex, ev, evs, evr, start0, c_check_few w (m := 10) (by omega), c_tie_web_of w.len]
end TW

set_option Elab.async false
set_option linter.all false
set_option maxRecDepth 100000
set_option maxHeartbeats 4000000
namespace TW
open PySem PySem.Spec PyProof.Rows L2

/-! ### how many ties the web of the ties has, told -/
abbrev cntD (N : Nat) (f : Nat → Int) : D := .lst ((List.range N).map fun p => .int (f p))
theorem rep_zero (N : Nat) (x : D) : (List.replicate N [x]).flatten = (List.range N).map fun _ => x := by
  induction N with
  | zero => rfl
  | succ N ih => rw [List.replicate_succ', List.flatten_append, ih, List.range_succ, List.map_append]; rfl
theorem mul_zero {n : Int} {x : D} {N : Nat} (hN : (N : Int) = n) (h : N < 1000) : binD .mul (.lst [x]) (.int n) = some (.fl, .lst ((List.range N).map fun _ => x)) := by
  show (if smallI n && decide (([x] : List D).length * n.toNat ≤ SZ) then some (Md.fl, D.lst (List.replicate n.toNat [x]).flatten) else none) = _
  have e : n.toNat = N := by omega
  have h1 : smallI n = true := decide_eq_true (by omega)
  have h2 : decide (([x] : List D).length * n.toNat ≤ SZ) = true := decide_eq_true (by rw [e]; show 1 * N ≤ 1000000; omega)
  rw [h1, h2, e, rep_zero]
  rfl
theorem cnt_aug {N : Nat} {f : Nat → Int} {i : Int} (h0 : 0 ≤ i) (h1 : i < N) (c : Int) : moL .aug ((List.range N).map fun p => D.int (f p)) [.int i, .int c] = some ((List.range N).map fun p => D.int (if p = i.toNat then f p + c else f p)) := by
  show ((ixN ((List.range N).map fun p => D.int (f p)).length i).bind fun j => match ((List.range N).map fun p => D.int (f p))[j]? with | some (.int n) => some (((List.range N).map fun p => D.int (f p)).set j (.int (n + c))) | _ => none) = _
  have hN : i.toNat < N := by omega
  rw [List.length_map, List.length_range, ixN_ok h0 h1, Option.bind_some, List.getElem?_map, List.getElem?_range hN]
  show some (((List.range N).map fun p => D.int (f p)).set i.toNat (.int (f i.toNat + c))) = _
  rw [range_set]
  congr 2
  funext p
  by_cases h : p = i.toNat <;> simp [h]
def deg (ts : List (Int × Int)) (p : Int) : Nat := ts.countP fun t => decide (t.1 = p) || decide (t.2 = p)
theorem deg_cons (t : Int × Int) (ts : List (Int × Int)) (p : Int) : deg (t :: ts) p = deg ts p + (if (decide (t.1 = p) || decide (t.2 = p)) = true then 1 else 0) := by
  unfold deg
  rw [List.countP_cons]
theorem nb_deg {ts : List (Int × Int)} (h : ∀ t ∈ ts, t.1 < t.2) (p : Int) : (nb ts p).length = deg ts p := by
  induction ts with
  | nil => rfl
  | cons t ts ih =>
    rw [nb_cons, deg_cons, List.length_append, ih fun u hu => h u (List.mem_cons_of_mem _ hu)]
    have := h t List.mem_cons_self
    by_cases h1 : t.1 = p
    · simp [h1]; omega
    · by_cases h2 : t.2 = p
      · simp [h1, h2]; omega
      · simp [h1, h2]
theorem many_step {T : Tb} {n : Int} {us : List (Int × Int)} {N : Nat} (hN : (N : Int) = n) {f : Nat → Int} {t : Int × Int} (ht : 0 ≤ t.1 ∧ t.1 < t.2 ∧ t.2 < n) (x2 x3 x4 : Sl) :
    (match bindT [2, 3] false (eP t) [some (.sh, webD n us), some (.fl, cntD N f), x2, x3, x4] with | none => none | some e2 => exs T fu_tied_many_b0 e2) =
      some (.ok (.nx [some (.sh, webD n us), some (.fl, cntD N fun p => f p + (if (decide (t.1 = (p : Int)) || decide (t.2 = (p : Int))) = true then 1 else 0)), some (.sh, .int t.1), some (.sh, .int t.2), x4])) := by
  have a1 := cnt_aug (N := N) (f := f) (i := t.1) ht.1 (by omega) 1
  have a2 := cnt_aug (N := N) (f := fun p => if p = t.1.toNat then f p + 1 else f p) (i := t.2) (by omega) (by omega) 1
  have a3 : (fun p : Nat => if p = t.2.toNat then (if p = t.1.toNat then f p + 1 else f p) + 1 else (if p = t.1.toNat then f p + 1 else f p)) = fun p : Nat => f p + (if (decide (t.1 = (p : Int)) || decide (t.2 = (p : Int))) = true then 1 else 0) := by
    funext p
    by_cases h1 : p = t.1.toNat
    · have h2 : ¬ p = t.2.toNat := by omega
      have h3 : t.1 = (p : Int) := by omega
      rw [if_neg h2, if_pos h1, if_pos (by simp [h3])]
    · have h3 : ¬ t.1 = (p : Int) := by omega
      by_cases h2 : p = t.2.toNat
      · have h4 : t.2 = (p : Int) := by omega
        rw [if_pos h2, if_neg h1, if_pos (by simp [h4])]
      · have h4 : ¬ t.2 = (p : Int) := by omega
        rw [if_neg h2, if_neg h1, if_neg (by simp [h3, h4])]
        omega
  have a4 : (fun p : Nat => D.int (if p = t.2.toNat then (if p = t.1.toNat then f p + 1 else f p) + 1 else (if p = t.1.toNat then f p + 1 else f p))) = fun p : Nat => D.int (f p + (if (decide (t.1 = (p : Int)) || decide (t.2 = (p : Int))) = true then 1 else 0)) := by
    funext p
    rw [← congrFun a3 p]
  rw [a4] at a2
  simp [bindT, fu_tied_many_b0, exs, ex, ev, evs, evP, getP, gives, nms, nm, ownS, moS, closeds, a1, a2]
theorem many_loop {T : Tb} {n : Int} {us : List (Int × Int)} {N : Nat} (hN : (N : Int) = n) (x4 : Sl) : ∀ {ts : List (Int × Int)} {f : Nat → Int} {x2 x3 : Sl}, (∀ t ∈ ts, 0 ≤ t.1 ∧ t.1 < t.2 ∧ t.2 < n) →
    ∃ y2 y3, forL (fun x e1 => match bindT [2, 3] false x e1 with | none => none | some e2 => exs T fu_tied_many_b0 e2) (ts.map eP) [some (.sh, webD n us), some (.fl, cntD N f), x2, x3, x4] =
      some (.ok (.nx [some (.sh, webD n us), some (.fl, cntD N fun p => f p + (deg ts p : Nat)), y2, y3, x4]))
  | [], f, x2, x3, _ => ⟨x2, x3, by simp [forL, deg]⟩
  | t :: ts, f, x2, x3, ht => by
    have h1 := many_step (T := T) (us := us) hN (f := f) (ht t List.mem_cons_self) x2 x3 x4
    obtain ⟨y2, y3, h2⟩ := many_loop hN x4 (ts := ts) (f := fun p => f p + (if (decide (t.1 = (p : Int)) || decide (t.2 = (p : Int))) = true then 1 else 0)) (x2 := some (.sh, .int t.1)) (x3 := some (.sh, .int t.2)) fun u hu => ht u (List.mem_cons_of_mem _ hu)
    refine ⟨y2, y3, ?_⟩
    rw [List.map_cons]
    unfold forL
    rw [h1, bnd_ok]
    refine h2.trans ?_
    have e : (fun p : Nat => f p + (if (decide (t.1 = (p : Int)) || decide (t.2 = (p : Int))) = true then 1 else 0) + (deg ts p : Nat)) = fun p : Nat => f p + (deg (t :: ts) p : Nat) := by
      funext p
      rw [deg_cons]
      split <;> simp <;> omega
    rw [e]
/-- half of d (d - 1) -/
abbrev two (d : Int) : Int := d * (d - 1) / 2
theorem c_tied_many {n : Int} {ts : List (Int × Int)} (w : Web n ts) (k : Nat) : run GP (k + 6) 34 [webD n ts] = some (.ok (.dp, .int (((List.range n.toNat).map fun (p : Nat) => two (deg ts (p : Int) : Nat)).sum))) := by
  show callF (run GP (k + 5)) fu_tied_many [webD n ts] = _
  obtain ⟨N, hN⟩ : ∃ N : Nat, (N : Int) = n := ⟨n.toNat, Int.toNat_of_nonneg w.lo⟩
  have hNN : n.toNat = N := by omega
  obtain ⟨y2, y3, h⟩ := many_loop (T := run GP (k + 5)) (us := ts) hN none (ts := ts) (f := fun _ => 0) (x2 := none) (x3 := none) w.ok
  have e0 : binD .mul (.lst [.int 0]) (.int n) = some (.fl, .lst ((List.range N).map fun _ => .int 0)) := mul_zero hN (by have := w.hi; omega)
  have hd : ∀ p : Int, deg ts p ≤ 66 := fun p => Nat.le_trans (List.countP_le_length ..) w.len
  have e1 : ∀ f : D → Option (Option (Md × D)), (∀ d : Nat, d ≤ 66 → f (.int d) = some (some (.dp, .int (two d)))) → compL f ((List.range N).map fun (p : Nat) => D.int ((deg ts (p : Int) : Nat) : Int)) = some ((List.range N).map fun (p : Nat) => (Md.dp, D.int (two (deg ts (p : Int) : Nat)))) := fun f hf => by
    exact compL_mapE fun p _ => hf _ (hd p)
  have m1 : ∀ d : Nat, d ≤ 66 → binD .mul (.int d) (.int ((d : Int) - 1)) = some (.dp, .int ((d : Int) * ((d : Int) - 1))) := fun d h => mul_ok (b := 10) (c := 10) (Bd.of (by show ((d : Int)).natAbs < 1024; omega)) (Bd.of (by show ((d : Int) - 1).natAbs < 1024; omega)) (by decide)
  have m2 : ∀ x, binD .fdiv (.int x) (.int 2) = some (.dp, .int (x / 2)) := fun x => fdiv_ok (by decide) (by decide)
  simp [callF, fu_tied_many, exs, ex, ev, evs, evr, evC, evS, start0, c_check_web w, e0, give, keep, nm, nms, nmS, ownS, itemsD, frz, frzS, boxM, closeds]
  erw [h]
  simp [itemsD]
  erw [e1 _ (fun d hd => by simp [bindT, okOnly, m1 d hd, m2])]
  have e2 : (List.range N).map (fun (p : Nat) => D.int (two (deg ts (p : Int) : Nat))) = ((List.range N).map fun (p : Nat) => two (deg ts (p : Int) : Nat)).map D.int := by
    rw [List.map_map]; rfl
  simp [Function.comp_def, hNN]
  erw [e2, bi_sum]
  simp
end TW

set_option Elab.async false
set_option linter.all false
set_option maxRecDepth 100000
set_option maxHeartbeats 4000000
namespace TW
open PySem PySem.Spec PyProof.Rows L2

/-! ### the ties of the tie web, row by row -/
def rowR (a b : Nat) (t : Int × Int) : List (Int × Int) → List (Int × Int)
  | [] => []
  | u :: r => (if shr u t = true then [((a : Int), (b : Int))] else []) ++ rowR a (b + 1) t r
def twR (a : Nat) : List (Int × Int) → List (Int × Int)
  | [] => []
  | t :: r => rowR a (a + 1) t r ++ twR (a + 1) r
theorem drop_step {ts : List (Int × Int)} {b : Nat} {u : Int × Int} {r : List (Int × Int)} (h : ts.drop b = u :: r) : ts.getD b (0, 0) = u ∧ ts.drop (b + 1) = r ∧ b < ts.length := by
  have hb : b < ts.length := by
    have := congrArg List.length h
    rw [List.length_drop, List.length_cons] at this
    omega
  have h1 : ts.drop b = ts[b] :: ts.drop (b + 1) := List.drop_eq_getElem_cons hb
  rw [h] at h1
  refine ⟨?_, (List.cons.inj h1).2.symm, hb⟩
  rw [List.getD_eq_getElem?_getD, List.getElem?_eq_getElem hb]
  exact (List.cons.inj h1).1.symm
theorem row_eq {ts : List (Int × Int)} {a : Nat} {t : Int × Int} : ∀ {rest : List (Int × Int)} {b : Nat}, ts.drop b = rest → ((List.range' b rest.length).filter fun (j : Nat) => shr (ts.getD j (0, 0)) t).map (fun (j : Nat) => ((a : Int), (j : Int))) = rowR a b t rest
  | [], b, _ => rfl
  | u :: r, b, h => by
    obtain ⟨h1, h2, _⟩ := drop_step h
    rw [List.length_cons, List.range'_succ, List.filter_cons, h1]
    have ih := row_eq (a := a) (t := t) h2
    show _ = (if shr u t = true then [((a : Int), (b : Int))] else []) ++ rowR a (b + 1) t r
    rw [← ih]
    cases shr u t <;> simp
theorem twRow_eq {ts : List (Int × Int)} {a : Nat} {t : Int × Int} {rest : List (Int × Int)} (h : ts.drop a = t :: rest) : twRow ts a = rowR a (a + 1) t rest := by
  obtain ⟨h1, h2, h3⟩ := drop_step h
  unfold twRow
  rw [h1, ← row_eq (a := a) (t := t) h2]
  have e : ((List.range (ts.length - (a + 1))).map fun (i : Nat) => a + 1 + i) = List.range' (a + 1) rest.length := by
    have : rest.length = ts.length - (a + 1) := by rw [← h2, List.length_drop]
    rw [this, List.range'_eq_map_range]
  rw [e]
theorem tw_eq0 {ts : List (Int × Int)} : ∀ {rest : List (Int × Int)} {a : Nat}, ts.drop a = rest → (List.range' a rest.length).flatMap (twRow ts) = twR a rest
  | [], a, _ => rfl
  | t :: r, a, h => by
    rw [List.length_cons, List.range'_succ, List.flatMap_cons, twRow_eq h, tw_eq0 (drop_step h).2.1]
    rfl
theorem tw_eq (ts : List (Int × Int)) : tw ts = twR 0 ts := by
  unfold tw
  rw [List.range_eq_range']
  exact tw_eq0 (rest := ts) rfl

/-! ### it is a web -/
theorem row_mem {a b : Nat} {t : Int × Int} : ∀ {r : List (Int × Int)} {b : Nat} {p : Int × Int}, p ∈ rowR a b t r → p.1 = (a : Int) ∧ (b : Int) ≤ p.2 ∧ p.2 < (b : Int) + r.length
  | [], b, p, h => by cases h
  | u :: r, b, p, h => by
    rcases List.mem_append.mp (show p ∈ (if shr u t = true then [((a : Int), (b : Int))] else []) ++ rowR a (b + 1) t r from h) with h | h
    · split at h
      · rw [List.mem_singleton.mp h, List.length_cons]
        exact ⟨rfl, Int.le_refl _, by show (b : Int) < _; omega⟩
      · cases h
    · obtain ⟨h1, h2, h3⟩ := row_mem (b := b) h
      rw [List.length_cons]
      exact ⟨h1, by omega, by omega⟩
theorem row_ris {a : Nat} {t : Int × Int} : ∀ {r : List (Int × Int)} {b : Nat}, (rowR a b t r).Pairwise (fun p q => ltP2 p q = true)
  | [], b => List.Pairwise.nil
  | u :: r, b => by
    show ((if shr u t = true then [((a : Int), (b : Int))] else []) ++ rowR a (b + 1) t r).Pairwise _
    split
    · refine List.pairwise_append.mpr ⟨by simp, row_ris, fun p hp q hq => ?_⟩
      rw [List.mem_singleton.mp hp]
      obtain ⟨h1, h2, h3⟩ := row_mem (b := b) hq
      rw [ltP2_iff]
      right
      exact ⟨h1.symm, by show (b : Int) < q.2; omega⟩
    · exact row_ris
theorem twR_mem : ∀ {ts : List (Int × Int)} {a : Nat} {p : Int × Int}, p ∈ twR a ts → (a : Int) ≤ p.1 ∧ p.1 < p.2 ∧ p.2 < (a : Int) + ts.length
  | [], a, p, h => by cases h
  | t :: r, a, p, h => by
    rcases List.mem_append.mp (show p ∈ rowR a (a + 1) t r ++ twR (a + 1) r from h) with h | h
    · obtain ⟨h1, h2, h3⟩ := row_mem (b := a + 1) h
      rw [List.length_cons]
      omega
    · obtain ⟨h1, h2, h3⟩ := twR_mem h
      rw [List.length_cons]
      omega
theorem twR_ris : ∀ {ts : List (Int × Int)} {a : Nat}, (twR a ts).Pairwise (fun p q => ltP2 p q = true)
  | [], a => List.Pairwise.nil
  | t :: r, a => by
    refine List.pairwise_append.mpr ⟨row_ris, twR_ris, fun p hp q hq => ?_⟩
    obtain ⟨h1, h2, h3⟩ := row_mem (b := a + 1) hp
    obtain ⟨g1, g2, g3⟩ := twR_mem hq
    rw [ltP2_iff]
    left
    omega
theorem row_len {a : Nat} {t : Int × Int} : ∀ {r : List (Int × Int)} {b : Nat}, (rowR a b t r).length = r.countP fun u => shr u t
  | [], b => rfl
  | u :: r, b => by
    show ((if shr u t = true then [((a : Int), (b : Int))] else []) ++ rowR a (b + 1) t r).length = _
    rw [List.length_append, row_len, List.countP_cons]
    split <;> simp <;> omega
theorem twR_len2 : ∀ {ts : List (Int × Int)} {a : Nat}, 2 * (twR a ts).length ≤ ts.length * (ts.length - 1)
  | [], a => by simp [twR]
  | t :: r, a => by
    have ih := twR_len2 (ts := r) (a := a + 1)
    show 2 * (rowR a (a + 1) t r ++ twR (a + 1) r).length ≤ _
    rw [List.length_append, row_len, List.length_cons]
    have h1 : r.countP (fun u => shr u t) ≤ r.length := List.countP_le_length ..
    have h2 : (r.length + 1) * (r.length + 1 - 1) = r.length * (r.length - 1) + 2 * r.length := by
      cases r.length with
      | zero => rfl
      | succ m => simp only [Nat.add_sub_cancel]; rw [Nat.add_mul, Nat.mul_add]; omega
    omega
theorem tw_web {ts : List (Int × Int)} (h : ts.length ≤ 11) : Web ts.length (tw ts) := by
  rw [tw_eq]
  refine ⟨by omega, by omega, ?_, fun p hp => ?_, twR_ris⟩
  · have h1 := twR_len2 (ts := ts) (a := 0)
    have h2 : ts.length * (ts.length - 1) ≤ 11 * 10 := Nat.mul_le_mul h (by omega)
    omega
  · obtain ⟨h1, h2, h3⟩ := twR_mem hp
    omega
end TW

set_option Elab.async false
set_option linter.all false
set_option maxRecDepth 100000
set_option maxHeartbeats 4000000
namespace TW
open PySem PySem.Spec PyProof.Rows L2

/-! ### counts -/
abbrev b01 (b : Bool) : Nat := if b = true then 1 else 0
abbrev inT (t : Int × Int) (p : Int) : Bool := decide (t.1 = p) || decide (t.2 = p)
theorem shr_two {s t : Int × Int} (hs : s.1 < s.2) (ht : t.1 < t.2) (ne : s ≠ t) : b01 (inT s t.1) + b01 (inT s t.2) = b01 (shr s t) := by
  unfold b01 inT shr
  have ne : ¬ (s.1 = t.1 ∧ s.2 = t.2) := fun h => ne (Prod.ext h.1 h.2)
  by_cases h1 : s.1 = t.1 <;> by_cases h2 : s.2 = t.1 <;> by_cases h3 : s.1 = t.2 <;> by_cases h4 : s.2 = t.2 <;> simp [h1, h2, h3, h4] <;> omega
theorem shr_comm (s t : Int × Int) : shr s t = shr t s := by
  unfold shr
  rw [Bool.eq_iff_iff]
  simp only [Bool.or_eq_true, decide_eq_true_eq]
  omega
theorem deg_cons' (t : Int × Int) (ts : List (Int × Int)) (p : Int) : deg (t :: ts) p = deg ts p + b01 (inT t p) := deg_cons t ts p
theorem shr_deg {t : Int × Int} (ht : t.1 < t.2) : ∀ {r : List (Int × Int)}, (∀ s ∈ r, s.1 < s.2 ∧ s ≠ t) → r.countP (fun u => shr u t) = deg r t.1 + deg r t.2
  | [], _ => rfl
  | s :: r, h => by
    obtain ⟨h1, h2⟩ := h s List.mem_cons_self
    rw [List.countP_cons, deg_cons', deg_cons', shr_deg ht fun u hu => h u (List.mem_cons_of_mem _ hu)]
    have := shr_two h1 ht h2
    have e : (if shr s t = true then 1 else 0) = b01 (shr s t) := rfl
    rw [e]
    omega
theorem deg_app (l m : List (Int × Int)) (p : Int) : deg (l ++ m) p = deg l p + deg m p := by
  unfold deg
  rw [List.countP_append]
theorem deg_zero {l : List (Int × Int)} {p : Int} (h : ∀ t ∈ l, t.1 ≠ p ∧ t.2 ≠ p) : deg l p = 0 := by
  unfold deg
  rw [List.countP_eq_zero]
  intro t ht
  obtain ⟨h1, h2⟩ := h t ht
  simp [h1, h2]
theorem two_succ (d : Int) : two (d + 1) = two d + d := by
  unfold two
  have e : (d + 1) * (d + 1 - 1) = d * (d - 1) + d * 2 := by
    rw [Int.add_sub_cancel, Int.add_mul, Int.mul_sub]
    omega
  rw [e, Int.add_mul_ediv_right _ _ (by decide)]
theorem sum_pick (f : Nat → Int) (x : Int) (u : Nat) : ∀ {N : Nat}, u < N → ((List.range N).map fun p => f p + (if p = u then x else 0)).sum = ((List.range N).map f).sum + x := by
  have key : ∀ N : Nat, N ≤ u → ((List.range N).map fun p => f p + (if p = u then x else 0)).sum = ((List.range N).map f).sum := by
    intro N
    induction N with
    | zero => intro _; rfl
    | succ N ih =>
      intro h
      rw [List.range_succ, List.map_append, List.map_append, List.sum_append, List.sum_append, ih (by omega)]
      have : ¬ N = u := by omega
      simp [this]
  intro N
  induction N with
  | zero => intro h; omega
  | succ N ih =>
    intro h
    rw [List.range_succ, List.map_append, List.map_append, List.sum_append, List.sum_append]
    by_cases e : N = u
    · subst e
      rw [key N (Nat.le_refl _)]
      simp
      omega
    · rw [ih (by omega)]
      simp [e]
      omega
/-- ties that share a place, place by place -/
theorem tw_many {N : Nat} : ∀ {ts : List (Int × Int)} {a : Nat}, (∀ t ∈ ts, 0 ≤ t.1 ∧ t.1 < t.2 ∧ t.2 < (N : Int)) → ts.Nodup → (((twR a ts).length : Nat) : Int) = ((List.range N).map fun (p : Nat) => two (deg ts (p : Int) : Nat)).sum
  | [], a, _, _ => by
    have : (fun (p : Nat) => two ((deg [] (p : Int) : Nat) : Int)) = fun _ => 0 := by funext p; rfl
    rw [this]
    show ((0 : Nat) : Int) = _
    have z : ∀ M : Nat, ((List.range M).map fun (_ : Nat) => (0 : Int)).sum = 0 := fun M => by
      induction M with
      | zero => rfl
      | succ M ih => rw [List.range_succ, List.map_append, List.sum_append, ih]; rfl
    rw [z]
    rfl
  | t :: r, a, h, nd => by
    obtain ⟨nt, ndr⟩ := List.nodup_cons.mp nd
    obtain ⟨t0, t1, t2⟩ := h t List.mem_cons_self
    have ih := tw_many (N := N) (ts := r) (a := a + 1) (fun u hu => h u (List.mem_cons_of_mem _ hu)) ndr
    show (((rowR a (a + 1) t r ++ twR (a + 1) r).length : Nat) : Int) = _
    rw [List.length_append, row_len, shr_deg t1 fun s hs => ⟨(h s (List.mem_cons_of_mem _ hs)).2.1, fun e => nt (e ▸ hs)⟩]
    have e : (fun (p : Nat) => two ((deg (t :: r) (p : Int) : Nat) : Int)) = fun (p : Nat) => (two ((deg r (p : Int) : Nat) : Int) + (if p = t.1.toNat then ((deg r t.1 : Nat) : Int) else 0)) + (if p = t.2.toNat then ((deg r t.2 : Nat) : Int) else 0) := by
      funext p
      rw [deg_cons']
      by_cases h1 : p = t.1.toNat
      · have h3 : (p : Int) = t.1 := by omega
        have h2 : ¬ p = t.2.toNat := by omega
        rw [if_pos h1, if_neg h2, h3]
        have : b01 (inT t t.1) = 1 := by simp [b01, inT]
        rw [this, Int.add_zero]
        have := two_succ ((deg r t.1 : Nat) : Int)
        simpa using this
      · by_cases h2 : p = t.2.toNat
        · have h3 : (p : Int) = t.2 := by omega
          rw [if_neg h1, if_pos h2, h3]
          have : b01 (inT t t.2) = 1 := by simp [b01, inT]
          rw [this, Int.add_zero]
          have := two_succ ((deg r t.2 : Nat) : Int)
          simpa using this
        · have h3 : ¬ t.1 = (p : Int) := by omega
          have h4 : ¬ t.2 = (p : Int) := by omega
          rw [if_neg h1, if_neg h2]
          have : b01 (inT t (p : Int)) = 0 := by simp [b01, inT, h3, h4]
          rw [this]
          simp
    rw [e, sum_pick _ _ _ (by omega), sum_pick _ _ _ (by omega), ← ih]
    omega
theorem row_deg0 {a : Nat} {t : Int × Int} : ∀ {r : List (Int × Int)} {b : Nat}, a < b → deg (rowR a b t r) (a : Int) = r.countP fun u => shr u t
  | [], b, _ => rfl
  | u :: r, b, h => by
    show deg ((if shr u t = true then [((a : Int), (b : Int))] else []) ++ rowR a (b + 1) t r) (a : Int) = _
    rw [deg_app, row_deg0 (by omega), List.countP_cons]
    cases shr u t with
    | true => simp [deg]; omega
    | false => simp [deg]
theorem row_deg1 {a : Nat} {t : Int × Int} : ∀ {r : List (Int × Int)} {b i : Nat} {u : Int × Int}, a < b → r[i]? = some u → deg (rowR a b t r) ((b + i : Nat) : Int) = b01 (shr u t)
  | [], b, i, u, _, h => by simp at h
  | s :: r, b, 0, u, hb, h => by
    simp at h
    subst h
    show deg ((if shr s t = true then [((a : Int), (b : Int))] else []) ++ rowR a (b + 1) t r) ((b + 0 : Nat) : Int) = _
    rw [deg_app, deg_zero (l := rowR a (b + 1) t r) (fun p hp => by
      obtain ⟨h1, h2, h3⟩ := row_mem (b := b) hp
      constructor <;> omega)]
    cases shr s t with
    | true => simp [deg, b01]
    | false => simp [deg, b01]
  | s :: r, b, i + 1, u, hb, h => by
    have h : r[i]? = some u := by simpa using h
    have ih := row_deg1 (a := a) (t := t) (b := b + 1) (i := i) (by omega) h
    show deg ((if shr s t = true then [((a : Int), (b : Int))] else []) ++ rowR a (b + 1) t r) ((b + (i + 1) : Nat) : Int) = _
    have e : b + (i + 1) = b + 1 + i := by omega
    rw [e, deg_app, ih]
    have : deg (if shr s t = true then [((a : Int), (b : Int))] else []) ((b + 1 + i : Nat) : Int) = 0 := deg_zero fun p hp => by
      split at hp
      · rw [List.mem_singleton.mp hp]
        constructor
        · show (a : Int) ≠ _; omega
        · show (b : Int) ≠ _; omega
      · cases hp
    rw [this, Nat.zero_add]
/-- a tie is tied to as many as meet at both its ends less two -/
theorem tw_deg : ∀ {ts : List (Int × Int)} {a i : Nat} {t : Int × Int}, (∀ s ∈ ts, s.1 < s.2) → ts.Nodup → ts[i]? = some t → deg (twR a ts) ((a + i : Nat) : Int) + 2 = deg ts t.1 + deg ts t.2
  | [], a, i, t, _, _, h => by simp at h
  | t0 :: r, a, 0, t, hs, nd, h => by
    simp at h
    subst h
    obtain ⟨nt, ndr⟩ := List.nodup_cons.mp nd
    have h1 := hs t0 List.mem_cons_self
    show deg (rowR a (a + 1) t0 r ++ twR (a + 1) r) ((a + 0 : Nat) : Int) + 2 = _
    rw [deg_app, deg_zero (l := twR (a + 1) r) (fun p hp => by
      obtain ⟨g1, g2, g3⟩ := twR_mem hp
      constructor <;> omega)]
    rw [Nat.add_zero, show a + 0 = a from rfl, row_deg0 (by omega), shr_deg h1 fun s hs' => ⟨hs s (List.mem_cons_of_mem _ hs'), fun e => nt (e ▸ hs')⟩, deg_cons', deg_cons']
    have e1 : b01 (inT t0 t0.1) = 1 := by simp [b01, inT]
    have e2 : b01 (inT t0 t0.2) = 1 := by simp [b01, inT]
    omega
  | t0 :: r, a, i + 1, t, hs, nd, h => by
    have h : r[i]? = some t := by simpa using h
    obtain ⟨nt, ndr⟩ := List.nodup_cons.mp nd
    have ih := tw_deg (a := a + 1) (fun s hs' => hs s (List.mem_cons_of_mem _ hs')) ndr h
    have ht : t ∈ r := List.mem_of_getElem? h
    show deg (rowR a (a + 1) t0 r ++ twR (a + 1) r) ((a + (i + 1) : Nat) : Int) + 2 = _
    have e : a + (i + 1) = a + 1 + i := by omega
    rw [e, deg_app, row_deg1 (by omega) h, deg_cons', deg_cons']
    have h3 := shr_two (hs t0 List.mem_cons_self) (hs t (List.mem_cons_of_mem _ ht)) (fun e => nt (e ▸ ht))
    rw [shr_comm] at h3
    omega
end TW

set_option Elab.async false
set_option linter.all false
set_option maxRecDepth 100000
set_option maxHeartbeats 4000000
namespace TW
open PySem PySem.Spec PyProof.Rows L2

/-! ### the core's steps, one by one (comprehensions and loops by their own rules) -/
section
variable (F : Tb) (e : Dn)
theorem q_var (i : Nat) : ev F (.var i) e = match e[i]? with | some (some p) => ok (.sh, p.2) | _ => none := by first | (simp only [ev]; done) | (simp only [ev]; rfl)
theorem q_lit (d : D) : ev F (.lit d) e = if scal d then ok (.dp, d) else none := by first | (simp only [ev]; done) | (simp only [ev]; rfl)
theorem q_bin (o : Bop) (a b : E) : ev F (.bin o a b) e = bnd (ev F a e) fun p => bnd (ev F b e) fun q => lift (binD o p.2 q.2) := by first | (simp only [ev]; done) | (simp only [ev]; rfl)
theorem q_cmp (o : Cop) (a b : E) : ev F (.cmp o a b) e = bnd (ev F a e) fun p => bnd (ev F b e) fun q => lift ((cmpD o p.2 q.2).map fun b => (.dp, .bl b)) := by first | (simp only [ev]; done) | (simp only [ev]; rfl)
theorem q_chn (o o2 : Cop) (a b c : E) : ev F (.chn o o2 a b c) e = bnd (ev F a e) fun p => bnd (ev F b e) fun q => match cmpD o p.2 q.2 with
    | none => none
    | some false => ok (.dp, .bl false)
    | some true => bnd (ev F c e) fun r => lift ((cmpD o2 q.2 r.2).map fun b => (.dp, .bl b)) := by first | (simp only [ev]; done) | (simp only [ev]; rfl)
theorem q_chn3 (o o2 o3 : Cop) (a b c d : E) : ev F (.chn3 o o2 o3 a b c d) e = bnd (ev F a e) fun p => bnd (ev F b e) fun q => match cmpD o p.2 q.2 with
    | none => none
    | some false => ok (.dp, .bl false)
    | some true => bnd (ev F c e) fun r => match cmpD o2 q.2 r.2 with
      | none => none
      | some false => ok (.dp, .bl false)
      | some true => bnd (ev F d e) fun s => lift ((cmpD o3 r.2 s.2).map fun b => (.dp, .bl b)) := by first | (simp only [ev]; done) | (simp only [ev]; rfl)
theorem q_neg (a : E) : ev F (.neg a) e = bnd (ev F a e) fun p => lift ((intD p.2).map fun i => (.dp, .int (-i))) := by first | (simp only [ev]; done) | (simp only [ev]; rfl)
theorem q_not (a : E) : ev F (.not a) e = bnd (ev F a e) fun p => lift ((boolD p.2).map fun b => (.dp, .bl (!b))) := by first | (simp only [ev]; done) | (simp only [ev]; rfl)
theorem q_and (a b : E) : ev F (.and a b) e = bnd (ev F a e) fun p => match boolD p.2 with
    | none => none
    | some false => ok (.dp, .bl false)
    | some true => ev F b e := by first | (simp only [ev]; done) | (simp only [ev]; rfl)
theorem q_or (a b : E) : ev F (.or a b) e = bnd (ev F a e) fun p => match boolD p.2 with
    | none => none
    | some true => ok (.dp, .bl true)
    | some false => ev F b e := by first | (simp only [ev]; done) | (simp only [ev]; rfl)
theorem q_ite (c a b : E) : ev F (.ite c a b) e = bnd (ev F c e) fun p => match boolD p.2 with
    | none => none
    | some true => ev F a e
    | some false => ev F b e := by first | (simp only [ev]; done) | (simp only [ev]; rfl)
theorem q_tup (es : List E) : ev F (.tup es) e = bnd (evs F es e) fun ps => ok (tupM ps, .tup (ps.map Prod.snd)) := by first | (simp only [ev]; done) | (simp only [ev]; rfl)
theorem q_lst (es : List E) : ev F (.lst es) e = bnd (evs F es e) fun ps => ok (boxM ps, .lst (ps.map Prod.snd)) := by first | (simp only [ev]; done) | (simp only [ev]; rfl)
theorem q_sub (a i : E) : ev F (.sub a i) e = bnd (ev F a e) fun p => bnd (ev F i e) fun q => lift ((subD p.2 q.2).map fun d => (.sh, d)) := by first | (simp only [ev]; done) | (simp only [ev]; rfl)
theorem q_slc (pl ph : Bool) (a lo hi : E) : ev F (.slc pl ph a lo hi) e = bnd (ev F a e) fun p => bnd (ev F lo e) fun q => match optI pl q.2 with
    | none => none
    | some l => bnd (ev F hi e) fun r => match optI ph r.2 with
      | none => none
      | some h => lift (slcD p.2 l h) := by first | (simp only [ev]; done) | (simp only [ev]; rfl)
theorem q_rev (a : E) : ev F (.rev a) e = bnd (ev F a e) fun p => match p.2 with
    | .lst ds => ok (.fl, .lst ds.reverse)
    | _ => none := by first | (simp only [ev]; done) | (simp only [ev]; rfl)
theorem q_cal (f : Nat) (es : List E) : ev F (.cal f es) e = bnd (evs F es e) fun ps => bnd (F f (ps.map Prod.snd)) fun r => ok (if r.1 = .sh ∧ closeds ps ∧ closed .fl r.2 then (.fl, r.2) else r) := by first | (simp only [ev]; done) | (simp only [ev]; rfl)
theorem q_cav (a : E) (es : List E) : ev F (.cav a es) e = bnd (ev F a e) fun p => match p.2 with
    | .fn f => bnd (evs F es e) fun ps => F f (ps.map Prod.snd)
    | _ => none := by first | (simp only [ev]; done) | (simp only [ev]; rfl)
theorem q_bi (b : Bi) (es : List E) : ev F (.bi b es) e = bnd (evs F es e) fun ps => lift (biD b (ps.map Prod.snd)) := by first | (simp only [ev]; done) | (simp only [ev]; rfl)
theorem q_mix (a b : E) : ev F (.mix a b) e = bnd (ev F a e) fun p => match p.2 with
    | .lst ds => bnd (ev F b e) fun q => if dat q.2 20 && dats ds 20 then lift ((ds.findIdx? fun z => eqD z q.2).map fun i => (.dp, .int (i : Nat))) else none
    | _ => none := by first | (simp only [ev]; done) | (simp only [ev]; rfl)
theorem q_isi (a : E) (t : Ty) : ev F (.isi a t) e = bnd (ev F a e) fun p => lift ((isiD p.2 t).map fun b => (.dp, .bl b)) := by first | (simp only [ev]; done) | (simp only [ev]; rfl)
theorem q_dnew : ev F .dnew e = ok (.dp, .dic []) := by first | (simp only [ev]; done) | (simp only [ev]; rfl)
theorem q_nil : evs F [] e = ok [] := by first | (simp only [evs]; done) | (simp only [evs]; rfl)
theorem q_cons (a : E) (as : List E) : evs F (a :: as) e = bnd (ev F a e) fun p => bnd (evs F as e) fun ps => ok (p :: ps) := by first | (simp only [evs]; done) | (simp only [evs]; rfl)
theorem q_cnil : evC F [] e = ok true := by first | (simp only [evC]; done) | (simp only [evC]; rfl)
theorem q_ccons (a : E) (as : List E) : evC F (a :: as) e = bnd (ev F a e) fun p => match boolD p.2 with
    | none => none
    | some false => ok false
    | some true => evC F as e := by first | (simp only [evC]; done) | (simp only [evC]; rfl)
theorem q_sseq (a : E) : evS F (.seq a) e = bnd (ev F a e) fun p => lift ((itemsD p.2).map fun ds => (p.1, ds)) := by first | (simp only [evS]; done) | (simp only [evS]; rfl)
theorem q_srng (a b : E) : evS F (.rng a b) e = bnd (ev F a e) fun p => bnd (ev F b e) fun q => match p.2, q.2 with
    | .int i, .int j => if rngOk i j then ok (.dp, rngD i j) else none
    | _, _ => none := by first | (simp only [evS]; done) | (simp only [evS]; rfl)
theorem q_senu (a : E) : evS F (.enu a) e = bnd (ev F a e) fun p => match p.2 with
    | .lst ds => ok (p.1, enuD 0 ds)
    | _ => none := by first | (simp only [evS]; done) | (simp only [evS]; rfl)
theorem q_szip (a b : E) : evS F (.zip a b) e = bnd (ev F a e) fun p => bnd (ev F b e) fun q => match p.2, q.2 with
    | .lst xs, .lst ys => ok (.sh, zipD xs ys)
    | _, _ => none := by first | (simp only [evS]; done) | (simp only [evS]; rfl)
theorem q_xnil : exs F [] e = ok (.nx e) := by first | (simp only [exs]; done) | (simp only [exs]; rfl)
theorem q_xcons (s : S) (ss : List S) : exs F (s :: ss) e = bnd (ex F s e) fun r => match r with
    | .nx e1 => exs F ss e1
    | .rt m d => ok (.rt m d) := by first | (simp only [exs]; done) | (simp only [exs]; rfl)
theorem q_pass : ex F .pass e = ok (.nx e) := by first | (simp only [ex]; done) | (simp only [ex]; rfl)
theorem q_asg (i : Nat) (a : E) : ex F (.asg i a) e = bnd (ev F a e) fun p => ok (.nx ((give (nm a) p.1 p.2 e).set i (some (keep p.1 p.2)))) := by first | (simp only [ex]; done) | (simp only [ex]; rfl)
theorem q_par (is : List Nat) (as : List E) : ex F (.par is as) e = bnd (evs F as e) fun ps => lift ((setAll is ps (gives (nms as) ps e)).map Fl.nx) := by first | (simp only [ex]; done) | (simp only [ex]; rfl)
theorem q_unp (is : List Nat) (a : E) : ex F (.unp is a) e = bnd (ev F a e) fun p => match p.2 with
    | .tup ds => lift ((setSh is ds (give (nm a) p.1 p.2 e)).map Fl.nx)
    | _ => none := by first | (simp only [ex]; done) | (simp only [ex]; rfl)
theorem q_exp (a : E) : ex F (.exp a) e = bnd (ev F a e) fun _ => ok (.nx e) := by first | (simp only [ex]; done) | (simp only [ex]; rfl)
theorem q_ife (c : E) (a b : List S) : ex F (.ife c a b) e = bnd (ev F c e) fun p => match boolD p.2 with
    | none => none
    | some true => exs F a e
    | some false => exs F b e := by first | (simp only [ex]; done) | (simp only [ex]; rfl)
theorem q_ret (a : E) : ex F (.ret a) e = bnd (evr F a e) fun p => ok (.rt p.1 p.2) := by first | (simp only [ex]; done) | (simp only [ex]; rfl)
theorem q_rai (C : Nat) : ex F (.rai C) e = some (.er C) := by first | (simp only [ex]; done) | (simp only [ex]; rfl)
theorem q_aug (i : Nat) (a : E) : ex F (.aug i a) e = match e[i]? with
    | some (some (_, .int n)) => bnd (ev F a e) fun p => lift ((intD p.2).map fun k => Fl.nx (e.set i (some (.sh, .int (n + k)))))
    | _ => none := by first | (simp only [ex]; done) | (simp only [ex]; rfl)
theorem q_mut (i : Nat) (p : List E) (o : Mo) (as : List E) : ex F (.mut i p o as) e = match e[i]? with
    | some (some q0) => bnd (evP F p e) fun ri => match getP ri.reverse q0.2 with
      | some (.lst _) => bnd (evs F as e) fun ps => match (gives (nms as) ps e)[i]? with
        | some (some q) => lift ((moS o ri.reverse ps q).map fun q' => Fl.nx ((gives (nms as) ps e).set i (some q')))
        | _ => none
      | _ => none
    | _ => none := by first | (simp only [ex]; done) | (simp only [ex]; rfl)
end
theorem give_eq (is : List Nat) (m : Md) (d : D) (e : Dn) : give is m d e = if closed m d = true then e else if is.any (fun i => match e[i]? with | some s => ownS s | none => false) = true then frz is e else e := by
  unfold give
  cases closed m d
  · rfl
  · show (if _ then e else e) = e
    split <;> rfl
theorem gives_eq (is : List Nat) (ps : List (Md × D)) (e : Dn) : gives is ps e = if closeds ps = true then e else if is.any (fun i => match e[i]? with | some s => ownS s | none => false) = true then frz is e else e := by
  unfold gives
  cases closeds ps
  · rfl
  · show (if _ then e else e) = e
    split <;> rfl

/-! ### comprehensions -/
theorem compL_gen {α : Type} {enc : α → D} {f : D → Option (Option (Md × D))} {p : α → Bool} {g : α → Md × D} : ∀ {xs : List α}, (∀ x ∈ xs, f (enc x) = some (if p x = true then some (g x) else none)) → compL f (xs.map enc) = some ((xs.filter p).map g)
  | [], _ => rfl
  | x :: xs, h => by
    have h1 := h x List.mem_cons_self
    have ih := compL_gen (xs := xs) fun y hy => h y (List.mem_cons_of_mem _ hy)
    rw [List.map_cons, compL, h1, List.filter_cons]
    by_cases hp : p x = true
    · simp only [hp, if_true, ih]
      rfl
    · simp only [hp, if_false, ih]
      simp
theorem ev_comp {F : Tb} {ts : List Nat} {one : Bool} {s : Sr} {cs : List E} {a : E} {e : Dn} {α : Type} {m : Md} (enc : α → D) (xs : List α) (p : α → Bool) (g : α → Md × D)
    (hs : evS F s e = some (.ok (m, xs.map enc)))
    (hb : ∀ x ∈ xs, ∃ e1, bindT ts one (enc x) e = some e1 ∧ evC F cs e1 = some (.ok (p x)) ∧ (p x = true → ev F a e1 = some (.ok (g x)))) :
    ev F (.comp ts one s cs a) e = some (.ok (boxM ((xs.filter p).map g), .lst ((xs.filter p).map fun x => (g x).2))) := by
  simp only [ev, hs, bnd_ok]
  rw [compL_gen (p := p) (g := g) (fun x hx => by
    obtain ⟨e1, h1, h2, h3⟩ := hb x hx
    rw [h1]
    simp only [Option.bind_some, h2, okOnly]
    by_cases hp : p x = true
    · simp [hp, h3 hp, okOnly]
    · simp [hp])]
  simp [List.map_map, Function.comp_def]
theorem closeds_all {ps : List (Md × D)} (h : ∀ p ∈ ps, closed p.1 p.2 = true) : closeds ps = true := by
  induction ps with
  | nil => rfl
  | cons p ps ih => simp [closeds, h p List.mem_cons_self, ih fun q hq => h q (List.mem_cons_of_mem _ hq)]
/-- all its values are its own -/
theorem ev_compD {F : Tb} {ts : List Nat} {one : Bool} {s : Sr} {cs : List E} {a : E} {e : Dn} {α : Type} {m : Md} (enc : α → D) (xs : List α) (p : α → Bool) (g : α → D)
    (hs : evS F s e = some (.ok (m, xs.map enc)))
    (hb : ∀ x ∈ xs, ∃ e1, bindT ts one (enc x) e = some e1 ∧ evC F cs e1 = some (.ok (p x)) ∧ (p x = true → ∃ m, ev F a e1 = some (.ok (m, g x)) ∧ closed m (g x) = true)) :
    ev F (.comp ts one s cs a) e = some (.ok (.dp, .lst ((xs.filter p).map g))) := by
  have hm : ∃ md : α → Md, ∀ x ∈ xs, ∃ e1, bindT ts one (enc x) e = some e1 ∧ evC F cs e1 = some (.ok (p x)) ∧ (p x = true → ev F a e1 = some (.ok (md x, g x)) ∧ closed (md x) (g x) = true) := by
    classical
    refine ⟨fun x => if h : x ∈ xs ∧ p x = true then Classical.choose ((Classical.choose_spec (hb x h.1)).2.2 h.2) else .dp, fun x hx => ?_⟩
    refine ⟨Classical.choose (hb x hx), (Classical.choose_spec (hb x hx)).1, (Classical.choose_spec (hb x hx)).2.1, fun hp => ?_⟩
    have h : x ∈ xs ∧ p x = true := ⟨hx, hp⟩
    show ev F a _ = some (.ok ((if h : x ∈ xs ∧ p x = true then Classical.choose ((Classical.choose_spec (hb x h.1)).2.2 h.2) else .dp), g x)) ∧ closed (if h : x ∈ xs ∧ p x = true then Classical.choose ((Classical.choose_spec (hb x h.1)).2.2 h.2) else .dp) (g x) = true
    rw [dif_pos h]
    exact Classical.choose_spec ((Classical.choose_spec (hb x h.1)).2.2 h.2)
  obtain ⟨md, hm⟩ := hm
  rw [ev_comp enc xs p (fun x => (md x, g x)) hs (fun x hx => by
    obtain ⟨e1, h1, h2, h3⟩ := hm x hx
    exact ⟨e1, h1, h2, fun hp => (h3 hp).1⟩)]
  have : closeds ((xs.filter p).map fun x => (md x, g x)) = true := closeds_all fun q hq => by
    obtain ⟨x, hx, rfl⟩ := List.mem_map.mp hq
    obtain ⟨hx, hp⟩ := List.mem_filter.mp hx
    obtain ⟨e1, h1, h2, h3⟩ := hm x hx
    exact (h3 hp).2
  simp [boxM, this]
/-- without a test -/
theorem ev_compA {F : Tb} {ts : List Nat} {one : Bool} {s : Sr} {a : E} {e : Dn} {α : Type} {m : Md} (enc : α → D) (xs : List α) (g : α → D)
    (hs : evS F s e = some (.ok (m, xs.map enc)))
    (hb : ∀ x ∈ xs, ∃ e1, bindT ts one (enc x) e = some e1 ∧ ∃ m, ev F a e1 = some (.ok (m, g x)) ∧ closed m (g x) = true) :
    ev F (.comp ts one s [] a) e = some (.ok (.dp, .lst (xs.map g))) := by
  rw [ev_compD enc xs (fun _ => true) g hs (fun x hx => by
    obtain ⟨e1, h1, h2⟩ := hb x hx
    exact ⟨e1, h1, by simp only [evC], fun _ => h2⟩)]
  rw [List.filter_eq_self.mpr fun _ _ => rfl]
/-! ### loops -/
theorem forL_fold {α σ : Type} {f : D → Dn → M Fl} {enc : α → D} {env : σ → Dn} {st : σ → α → σ} : ∀ {xs : List α} {s0 : σ}, (∀ pre x post, xs = pre ++ x :: post → f (enc x) (env (pre.foldl st s0)) = some (.ok (.nx (env (st (pre.foldl st s0) x))))) → forL f (xs.map enc) (env s0) = some (.ok (.nx (env (xs.foldl st s0))))
  | [], s0, _ => rfl
  | x :: xs, s0, h => by
    have h1 := h [] x xs rfl
    rw [List.foldl_nil] at h1
    have ih := forL_fold (f := f) (enc := enc) (env := env) (st := st) (xs := xs) (s0 := st s0 x) fun pre y post e => by
      have := h (x :: pre) y post (by rw [e]; rfl)
      simpa using this
    rw [List.map_cons, forL, h1, bnd_ok, List.foldl_cons]
    exact ih
theorem ex_for {F : Tb} {ts : List Nat} {one : Bool} {s : Sr} {b : List S} {e : Dn} {α σ : Type} {m : Md} (enc : α → D) (xs : List α) (env : σ → Dn) (st : σ → α → σ) (s0 : σ)
    (hs : evS F s e = some (.ok (m, xs.map enc)))
    (h0 : (if m = .dp then e else frz (nmS s) e) = env s0)
    (hb : ∀ pre x post, xs = pre ++ x :: post → ∃ e1, bindT ts one (enc x) (env (pre.foldl st s0)) = some e1 ∧ exs F b e1 = some (.ok (.nx (env (st (pre.foldl st s0) x))))) :
    ex F (.for_ ts one s b) e = some (.ok (.nx (env (xs.foldl st s0)))) := by
  simp only [ex, hs, bnd_ok, h0]
  exact forL_fold fun pre x post hx => by
    obtain ⟨e1, h1, h2⟩ := hb pre x post hx
    rw [h1]
    exact h2
/-- a loop of which only a shape is known -/
theorem ex_forI {F : Tb} {ts : List Nat} {one : Bool} {s : Sr} {b : List S} {e : Dn} {α : Type} {m : Md} (enc : α → D) (xs : List α) (I : Dn → Prop)
    (hs : evS F s e = some (.ok (m, xs.map enc)))
    (h0 : I (if m = .dp then e else frz (nmS s) e))
    (hb : ∀ x ∈ xs, ∀ e, I e → ∃ e1, bindT ts one (enc x) e = some e1 ∧ ∃ e2, exs F b e1 = some (.ok (.nx e2)) ∧ I e2) :
    ∃ e', ex F (.for_ ts one s b) e = some (.ok (.nx e')) ∧ I e' := by
  simp only [ex, hs, bnd_ok]
  have key : ∀ (xs : List α), (∀ x ∈ xs, ∀ e, I e → ∃ e1, bindT ts one (enc x) e = some e1 ∧ ∃ e2, exs F b e1 = some (.ok (.nx e2)) ∧ I e2) → ∀ e, I e → ∃ e', forL (fun x e1 => match bindT ts one x e1 with | none => none | some e2 => exs F b e2) (xs.map enc) e = some (.ok (.nx e')) ∧ I e' := by
    intro xs
    induction xs with
    | nil => intro _ e h; exact ⟨e, rfl, h⟩
    | cons x xs ih =>
      intro hb e h
      obtain ⟨e1, h1, e2, h2, h3⟩ := hb x List.mem_cons_self e h
      obtain ⟨e', h4, h5⟩ := ih (fun y hy => hb y (List.mem_cons_of_mem _ hy)) e2 h3
      refine ⟨e', ?_, h5⟩
      rw [List.map_cons, forL, h1]
      simp only [h2, bnd_ok]
      exact h4
  exact key xs hb _ h0
/-! what is walked -/
theorem rng_up {n : Int} (h0 : 0 ≤ n) (h : n ≤ 100000) : (if rngOk 0 n = true then (ok (Md.dp, rngD 0 n) : M (Md × List D)) else none) = some (.ok (.dp, (List.range n.toNat).map fun (i : Nat) => D.int (i : Int))) := by
  rw [if_pos (rng_ok (by decide) (by omega) (by omega))]
  have := rows_nil n.toNat
  rw [Int.toNat_of_nonneg h0] at this
  rw [this]
theorem enuD_map {α : Type} (f : α → D) : ∀ (xs : List α) (a : Nat), enuD a (xs.map f) = (xs.zipIdx a).map fun p => D.tup [.int (p.2 : Int), f p.1]
  | [], a => rfl
  | x :: xs, a => by
    rw [List.map_cons, enuD, enuD_map f xs (a + 1), List.zipIdx_cons, List.map_cons]
end TW

set_option linter.all false
namespace TW
/-! ### how many lists of places apart there are, by their length -/
set_option wf.preprocess false in
def cntA (na : Int → Int → Bool) : List Int → Nat → Nat
  | [], 0 => 1
  | [], _ + 1 => 0
  | p :: r, m => cntA na r m + (match m with
    | 0 => 0
    | k + 1 => cntA na (r.filter (na p)) k)
termination_by xs _ => xs.length
decreasing_by
  · simp
  · simp only [List.length_cons]; exact Nat.lt_succ_of_le (List.length_filter_le _ _)
def dn (f : Nat → Nat) : Nat → Nat
  | 0 => 0
  | k + 1 => f k
theorem cntA_nil (na : Int → Int → Bool) (m : Nat) : cntA na [] m = if m = 0 then 1 else 0 := by
  cases m <;> simp [cntA]
theorem cntA_cons (na : Int → Int → Bool) (p : Int) (r : List Int) (m : Nat) : cntA na (p :: r) m = cntA na r m + dn (cntA na (r.filter (na p))) m := by
  rw [cntA.eq_def]
  cases m <;> rfl
theorem dn_add (f g : Nat → Nat) (m : Nat) : dn (fun k => f k + g k) m = dn f m + dn g m := by cases m <;> rfl
theorem cntA_snoc {na : Int → Int → Bool} (sy : ∀ a b, na a b = na b a) : ∀ (n : Nat) (xs : List Int), xs.length = n → ∀ (q : Int) (m : Nat), cntA na (xs ++ [q]) m = cntA na xs m + dn (cntA na (xs.filter (na q))) m := by
  intro n
  induction n using Nat.strongRecOn with
  | _ n ih =>
    intro xs hn q m
    cases xs with
    | nil =>
      rw [List.nil_append, cntA_cons]
    | cons p r =>
      have hr : r.length < n := by rw [← hn, List.length_cons]; omega
      have hf : (r.filter (na p)).length < n := Nat.lt_of_le_of_lt (List.length_filter_le _ _) hr
      rw [List.cons_append, cntA_cons, ih r.length hr r rfl, cntA_cons, List.filter_append, List.filter_cons, List.filter_cons, List.filter_nil]
      by_cases h : na p q = true
      · have h' : na q p = true := by rw [sy]; exact h
        rw [if_pos h, if_pos h']
        have e1 : cntA na (r.filter (na p) ++ [q]) = fun k => cntA na (r.filter (na p)) k + dn (cntA na ((r.filter (na p)).filter (na q))) k := by
          funext k
          exact ih _ hf _ rfl q k
        have e2 : cntA na (p :: r.filter (na q)) = fun k => cntA na (r.filter (na q)) k + dn (cntA na ((r.filter (na q)).filter (na p))) k := by
          funext k
          rw [cntA_cons]
        have e3 : (r.filter (na p)).filter (na q) = (r.filter (na q)).filter (na p) := by
          rw [List.filter_filter, List.filter_filter]
          congr 1
          funext x
          rw [Bool.and_comm]
        rw [e1, e2, dn_add, dn_add, e3]
        omega
      · have h' : ¬ na q p = true := by rw [sy]; exact h
        rw [if_neg h, if_neg h', List.append_nil]
        omega
/-! the rows -/
def addR : List Int → List Int → List Int
  | [], ys => ys
  | xs, [] => xs
  | x :: xs, y :: ys => (x + y) :: addR xs ys
set_option wf.preprocess false in
def rowA (na : Int → Int → Bool) : List Int → List Int
  | [] => [1]
  | p :: r => addR (rowA na r) (0 :: rowA na (r.filter (na p)))
termination_by xs => xs.length
decreasing_by
  · simp
  · simp only [List.length_cons]; exact Nat.lt_succ_of_le (List.length_filter_le _ _)
theorem addR_getD : ∀ (xs ys : List Int) (m : Nat), (addR xs ys).getD m 0 = xs.getD m 0 + ys.getD m 0
  | [], ys, m => by simp [addR]
  | x :: xs, [], m => by simp [addR]
  | x :: xs, y :: ys, 0 => by simp [addR]
  | x :: xs, y :: ys, m + 1 => by
    have := addR_getD xs ys m
    simpa [addR] using this
theorem addR_len : ∀ (xs ys : List Int), (addR xs ys).length = max xs.length ys.length
  | [], ys => by simp [addR]
  | x :: xs, [] => by simp [addR]
  | x :: xs, y :: ys => by
    have := addR_len xs ys
    simp [addR, this]
theorem rowA_getD (na : Int → Int → Bool) : ∀ (n : Nat) (xs : List Int), xs.length = n → ∀ m, (rowA na xs).getD m 0 = (cntA na xs m : Int) := by
  intro n
  induction n using Nat.strongRecOn with
  | _ n ih =>
    intro xs hn m
    cases xs with
    | nil => cases m <;> simp [rowA, cntA]
    | cons p r =>
      have hr : r.length < n := by rw [← hn, List.length_cons]; omega
      have hf : (r.filter (na p)).length < n := Nat.lt_of_le_of_lt (List.length_filter_le _ _) hr
      rw [rowA, addR_getD, ih _ hr _ rfl, cntA_cons]
      cases m with
      | zero => simp [dn]
      | succ m =>
        have := ih _ hf _ rfl m
        simp only [List.getD_cons_succ, this, dn]
        omega
/-- no zero at the end, and not empty -/
def Full (xs : List Int) : Prop := 0 < xs.length ∧ 0 < xs.getD (xs.length - 1) 0 ∧ ∀ m, 0 ≤ xs.getD m 0
theorem getD_over {xs : List Int} {m : Nat} (h : xs.length ≤ m) : xs.getD m 0 = 0 := by
  rw [List.getD_eq_getElem?_getD, List.getElem?_eq_none h]
  rfl
theorem addR_full {xs ys : List Int} (hx : Full xs) (hy : Full ys) : Full (addR xs (0 :: ys)) := by
  have hy' : ∀ m, 0 ≤ (0 :: ys).getD m 0 := fun m => by
    cases m with
    | zero => simp
    | succ m => simpa using hy.2.2 m
  have hyl : 0 < (0 :: ys).getD ys.length 0 := by
    have h1 := hy.1
    obtain ⟨m, hm⟩ : ∃ m, ys.length = m + 1 := ⟨ys.length - 1, by omega⟩
    have h2 := hy.2.1
    rw [hm] at h2 ⊢
    simpa using h2
  refine ⟨by rw [addR_len]; simp; omega, ?_, fun m => ?_⟩
  · rw [addR_getD, addR_len, List.length_cons]
    by_cases h : xs.length ≤ ys.length + 1
    · have e : max xs.length (ys.length + 1) - 1 = ys.length := by omega
      rw [e]
      have := hx.2.2 ys.length
      omega
    · have e : max xs.length (ys.length + 1) - 1 = xs.length - 1 := by omega
      rw [e]
      have := hy' (xs.length - 1)
      have := hx.2.1
      omega
  · rw [addR_getD]
    have := hx.2.2 m
    have := hy' m
    omega
theorem rowA_full (na : Int → Int → Bool) : ∀ (n : Nat) (xs : List Int), xs.length = n → Full (rowA na xs) := by
  intro n
  induction n using Nat.strongRecOn with
  | _ n ih =>
    intro xs hn
    cases xs with
    | nil =>
      rw [rowA]
      refine ⟨by simp, by simp, fun m => ?_⟩
      cases m <;> simp
    | cons p r =>
      have hr : r.length < n := by rw [← hn, List.length_cons]; omega
      have hf : (r.filter (na p)).length < n := Nat.lt_of_le_of_lt (List.length_filter_le _ _) hr
      rw [rowA]
      exact addR_full (ih _ hr _ rfl) (ih _ hf _ rfl)
theorem full_eq {xs ys : List Int} (hx : Full xs) (hy : Full ys) (h : ∀ m, xs.getD m 0 = ys.getD m 0) : xs = ys := by
  have hl : xs.length = ys.length := by
    rcases Nat.lt_trichotomy xs.length ys.length with l | l | l
    · have h1 := hy.2.1
      rw [← h, getD_over (by omega)] at h1
      omega
    · exact l
    · have h1 := hx.2.1
      rw [h, getD_over (by omega)] at h1
      omega
  apply List.ext_getElem hl
  intro i h1 h2
  have := h i
  rw [List.getD_eq_getElem?_getD, List.getD_eq_getElem?_getD, List.getElem?_eq_getElem h1, List.getElem?_eq_getElem h2] at this
  exact this
/-! all lists tried -/
def listsA (na : Int → Int → Bool) : Nat → List (List Int)
  | 0 => [[]]
  | n + 1 => listsA na n ++ ((listsA na n).filter fun s => s.all fun x => na (n : Int) x).map fun s => s ++ [(n : Int)]
def upto (n : Nat) : List Int := (List.range n).map fun (i : Nat) => (i : Int)
theorem upto_succ (n : Nat) : upto (n + 1) = upto n ++ [(n : Int)] := by
  unfold upto
  rw [List.range_succ, List.map_append]
  rfl
theorem listsA_cnt {na : Int → Int → Bool} (sy : ∀ a b, na a b = na b a) : ∀ (n : Nat) (q : Int → Bool) (m : Nat), (listsA na n).countP (fun s => decide (s.length = m) && s.all q) = cntA na ((upto n).filter q) m
  | 0, q, m => by
    cases m <;> simp [listsA, upto, cntA]
  | n + 1, q, m => by
    rw [listsA, List.countP_append, listsA_cnt sy n q m, upto_succ, List.filter_append, List.countP_map, List.countP_filter]
    have e : ∀ k, (listsA na n).countP (fun s => (decide (s.length = k) && s.all fun x => q x && na (n : Int) x)) = cntA na ((upto n).filter fun x => q x && na (n : Int) x) k := fun k => listsA_cnt sy n _ k
    by_cases h : q (n : Int) = true
    · rw [List.filter_cons, if_pos h, List.filter_nil, cntA_snoc sy _ _ rfl, List.filter_filter]
      congr 1
      cases m with
      | zero =>
        show _ = 0
        rw [List.countP_eq_zero]
        intro s _
        simp
      | succ m =>
        show _ = cntA na _ m
        have e2 : (fun x => na (n : Int) x && q x) = fun x => q x && na (n : Int) x := by
          funext x
          rw [Bool.and_comm]
        rw [e2, ← e m]
        apply List.countP_congr
        intro s _
        simp [h]
        constructor
        · rintro ⟨⟨h1, h2⟩, h3⟩
          exact ⟨h1, fun x hx => ⟨h2 x hx, h3 x hx⟩⟩
        · rintro ⟨h1, h2⟩
          exact ⟨⟨h1, fun x hx => (h2 x hx).1⟩, fun x hx => (h2 x hx).2⟩
    · have h0 : q (n : Int) = false := by simpa using h
      rw [List.filter_cons, if_neg h, List.filter_nil, List.append_nil]
      have : (listsA na n).countP (fun s => ((fun s => decide (s.length = m) && s.all q) ∘ fun s => s ++ [(n : Int)]) s && s.all fun x => na (n : Int) x) = 0 := by
        rw [List.countP_eq_zero]
        intro s _
        simp [h0]
      rw [this]
      omega
end TW

set_option Elab.async false
set_option linter.all false
set_option maxRecDepth 100000
set_option maxHeartbeats 4000000
namespace TW
open PySem PySem.Spec PyProof.Rows L2

/-! ### lists of whole numbers -/
theorem dats_I : ∀ (xs : List Int) (n : Nat), dats (xs.map D.int) n = true
  | [], _ => rfl
  | x :: xs, n => by
    show (true && dats (xs.map D.int) n) = true
    rw [dats_I xs]
    rfl
theorem eqv_I : ∀ xs ys : List Int, PyData.eqvAll (toPys (xs.map D.int)) (toPys (ys.map D.int)) = decide (xs = ys)
  | [], [] => rfl
  | [], y :: ys => rfl
  | x :: xs, [] => rfl
  | x :: xs, y :: ys => by
    show ((x == y) && PyData.eqvAll (toPys (xs.map D.int)) (toPys (ys.map D.int))) = _
    rw [eqv_I xs ys]
    by_cases h1 : x = y <;> by_cases h2 : xs = ys <;> simp [h1, h2]
theorem eq_I (xs ys : List Int) : cmpD .eq (.lst (xs.map D.int)) (.lst (ys.map D.int)) = some (decide (xs = ys)) := by
  have h : ∀ zs : List Int, dat (.lst (zs.map D.int)) 20 = true := fun zs => dats_I zs 19
  show (if dat (.lst (xs.map D.int)) 20 && dat (.lst (ys.map D.int)) 20 then some (eqD (.lst (xs.map D.int)) (.lst (ys.map D.int))) else none) = _
  rw [h, h]
  have : eqD (.lst (xs.map D.int)) (.lst (ys.map D.int)) = decide (xs = ys) := eqv_I xs ys
  rw [this]
  rfl
theorem ne_I (xs ys : List Int) : cmpD .ne (.lst (xs.map D.int)) (.lst (ys.map D.int)) = some (!decide (xs = ys)) := by
  have h : ∀ zs : List Int, dat (.lst (zs.map D.int)) 20 = true := fun zs => dats_I zs 19
  show (if dat (.lst (xs.map D.int)) 20 && dat (.lst (ys.map D.int)) 20 then some (!eqD (.lst (xs.map D.int)) (.lst (ys.map D.int))) else none) = _
  rw [h, h]
  have : eqD (.lst (xs.map D.int)) (.lst (ys.map D.int)) = decide (xs = ys) := eqv_I xs ys
  rw [this]
  rfl
theorem eq_I0 (xs : List Int) : cmpD .eq (.lst (xs.map D.int)) (.lst []) = some (decide (xs = [])) := eq_I xs []
theorem ne_I0 (xs : List Int) : cmpD .ne (.lst (xs.map D.int)) (.lst []) = some (!decide (xs = [])) := ne_I xs []
theorem in_I (x : Int) (xs : List Int) : inD (.int x) (.lst (xs.map D.int)) = some (decide (x ∈ xs)) := by
  have h1 : dat (.int x) 20 = true := rfl
  show (if dat (.int x) 20 && dats (xs.map D.int) 20 then some ((xs.map D.int).any fun z => eqD z (.int x)) else none) = _
  rw [h1, dats_I]
  simp only [Bool.and_self, if_true, List.any_map]
  congr 1
  rw [Bool.eq_iff_iff]
  simp only [List.any_eq_true, Function.comp_apply, decide_eq_true_eq]
  have e : ∀ a b : Int, eqD (.int a) (.int b) = true ↔ a = b := fun a b => by
    show (a == b) = true ↔ _
    simp
  constructor
  · rintro ⟨y, hy, h⟩
    rw [← (e _ _).mp h]
    exact hy
  · intro h
    exact ⟨x, h, (e _ _).mpr rfl⟩
@[simp] theorem isin_I (x : Int) (xs : List Int) : cmpD .isin (.int x) (.lst (xs.map D.int)) = some (decide (x ∈ xs)) := in_I x xs
@[simp] theorem notin_I (x : Int) (xs : List Int) : cmpD .notin (.int x) (.lst (xs.map D.int)) = some (!decide (x ∈ xs)) := by
  show (inD (.int x) (.lst (xs.map D.int))).map _ = _
  rw [in_I]
  rfl
@[simp] theorem sub_l0 (a : D) (r : List D) : subD (.lst (a :: r)) (.int 0) = some a := by
  show atI (a :: r) 0 = some a
  exact atI_nat (j := 0) rfl
theorem at_row {N : Nat} {f : Nat → List Int} {i : Int} (h0 : 0 ≤ i) (h1 : i < N) : subD (rowD N f) (.int i) = some (eIL (f i.toNat)) := by
  show atI ((List.range N).map fun p => eIL (f p)) i = _
  have e : i = ((i.toNat : Nat) : Int) := by omega
  rw [e]
  refine atI_nat ?_
  rw [List.getElem?_map, List.getElem?_range (by omega)]
  rfl
theorem lfrees_I : ∀ xs : List Int, lfrees (xs.map D.int) = true
  | [] => rfl
  | x :: xs => by
    show (true && lfrees (xs.map D.int)) = true
    rw [lfrees_I xs]
    rfl
theorem lfrees_P : ∀ xs : List (Int × Int), lfrees (xs.map eP) = true
  | [] => rfl
  | x :: xs => by
    show (true && lfrees (xs.map eP)) = true
    rw [lfrees_P xs]
    rfl
@[simp] theorem closed_flI (xs : List Int) : closed .fl (.lst (xs.map D.int)) = true := lfrees_I xs
@[simp] theorem closed_flP (xs : List (Int × Int)) : closed .fl (.lst (xs.map eP)) = true := lfrees_P xs
@[simp] theorem closed_flP' (xs : List (Int × Int)) : closed .fl (.lst (xs.map fun p => D.tup [.int p.1, .int p.2])) = true := lfrees_P xs
theorem slc_tail (ds : List D) : slcD (.lst ds) (some 1) none = some (.fl, .lst ds.tail) := by
  show some (Md.fl, D.lst (cutL ds (some ((1 : Nat) : Int)) none)) = _
  rw [cut_from, List.drop_one]
theorem add_L {xs ys : List D} (h : xs.length + ys.length ≤ 1000000) : binD .add (.lst xs) (.lst ys) = some (.fl, .lst (xs ++ ys)) := by
  show (if xs.length + ys.length ≤ SZ then some (Md.fl, D.lst (xs ++ ys)) else none) = _
  rw [if_pos h]
theorem bi_sumM {α : Type} (g : α → Int) (xs : List α) : biD .sum [.lst (xs.map fun x => D.int (g x))] = some (.dp, .int (xs.map g).sum) := by
  have := bi_sum (xs.map g)
  rwa [List.map_map] at this
@[simp] theorem closed_shL (ds : List D) : closed .sh (.lst ds) = false := rfl
theorem evC_one {F : Tb} {a : E} {e : Dn} {m : Md} {b : Bool} (h : ev F a e = some (.ok (m, .bl b))) : evC F [a] e = some (.ok b) := by
  rw [q_ccons, h, bnd_ok]
  cases b <;> simp [q_cnil]
theorem at_I {l : List Int} {i : Nat} (h : i < l.length) : subD (.lst (l.map D.int)) (.int (i : Int)) = some (.int (l.getD i 0)) := by
  show atI (l.map D.int) (i : Int) = _
  refine atI_nat ?_
  rw [List.getElem?_map, List.getElem?_eq_getElem h, List.getD_eq_getElem?_getD, List.getElem?_eq_getElem h]
  rfl
/-! ### rows put together -/
theorem c_added (xs ys : List Int) (hx : xs.length ≤ 1000) (hy : ys.length ≤ 1000) (k : Nat) : run GP (k + 1) 116 [.lst (xs.map D.int), .lst (ys.map D.int)] = some (.ok (.dp, .lst ((addR xs ys).map D.int))) := by
  show callF (run GP k) fu_added [.lst (xs.map D.int), .lst (ys.map D.int)] = _
  simp [-List.map_append, q_var, q_lit, q_bin, q_cmp, q_chn, q_chn3, q_neg, q_not, q_and, q_or, q_ite, q_tup, q_lst, q_sub, q_slc, q_rev, q_cal, q_cav, q_bi, q_mix, q_isi, q_dnew, q_nil, q_cons, q_cnil, q_ccons, q_sseq, q_srng, q_senu, q_szip, q_xnil, q_xcons, q_pass, q_asg, q_par, q_unp, q_exp, q_ife, q_ret, q_rai, q_aug, q_mut, evr, evrs, mv, mvs, evP, callF, start0, give_eq, gives_eq, keep, nm, nms, nmS, ownS, frz, frzS, setAll, setSh, closeds, boxM, tupM, bindT, okOnly, optI, itemsD, listD, getP, fu_added, max_2]
  rw [ev_compA (fun (i : Nat) => D.int (i : Int)) (List.range (max xs.length ys.length)) (fun i => .int (xs.getD i 0 + ys.getD i 0)) (m := .dp)]
  · simp
    have hl : max xs.length ys.length = (addR xs ys).length := (addR_len xs ys).symm
    apply List.ext_getElem?
    intro i
    rw [List.getElem?_map, List.getElem?_map]
    by_cases hi : i < (addR xs ys).length
    · rw [List.getElem?_range (by rw [hl]; exact hi), List.getElem?_eq_getElem hi]
      simp
      have := addR_getD xs ys i
      rw [List.getD_eq_getElem?_getD, List.getElem?_eq_getElem hi] at this
      simpa using this.symm
    · rw [List.getElem?_eq_none (by rw [List.length_range, hl]; omega), List.getElem?_eq_none (by omega)]
      rfl
  · have e : (if xs.length < ys.length then (ys.length : Int) else (xs.length : Int)) = ((max xs.length ys.length : Nat) : Int) := by split <;> omega
    simp [-List.map_append, q_var, q_lit, q_bin, q_cmp, q_chn, q_chn3, q_neg, q_not, q_and, q_or, q_ite, q_tup, q_lst, q_sub, q_slc, q_rev, q_cal, q_cav, q_bi, q_mix, q_isi, q_dnew, q_nil, q_cons, q_cnil, q_ccons, q_sseq, q_srng, q_senu, q_szip, q_xnil, q_xcons, q_pass, q_asg, q_par, q_unp, q_exp, q_ife, q_ret, q_rai, q_aug, q_mut, evr, evrs, mv, mvs, evP, callF, start0, give_eq, gives_eq, keep, nm, nms, nmS, ownS, frz, frzS, setAll, setSh, closeds, boxM, tupM, bindT, okOnly, optI, itemsD, listD, getP, e]
    exact ⟨rng_ok (by decide) (by omega) (by omega), rows_nil _⟩
  · intro i hi
    refine ⟨_, rfl, .dp, ?_, rfl⟩
    simp [-List.map_append, q_var, q_lit, q_bin, q_cmp, q_chn, q_chn3, q_neg, q_not, q_and, q_or, q_ite, q_tup, q_lst, q_sub, q_slc, q_rev, q_cal, q_cav, q_bi, q_mix, q_isi, q_dnew, q_nil, q_cons, q_cnil, q_ccons, q_sseq, q_srng, q_senu, q_szip, q_xnil, q_xcons, q_pass, q_asg, q_par, q_unp, q_exp, q_ife, q_ret, q_rai, q_aug, q_mut, evr, evrs, mv, mvs, evP, callF, start0, give_eq, gives_eq, keep, nm, nms, nmS, ownS, frz, frzS, setAll, setSh, closeds, boxM, tupM, bindT, okOnly, optI, itemsD, listD, getP]
    rw [ev_compD (fun (l : List Int) => D.lst (l.map D.int)) [xs, ys] (fun l => decide (i < l.length)) (fun l => .int (l.getD i 0)) (m := .sh)]
    · have e : ((List.filter (fun l => decide (i < l.length)) [xs, ys]).map (fun l => l.getD i 0)).sum = xs.getD i 0 + ys.getD i 0 := by
        by_cases h1 : i < xs.length <;> by_cases h2 : i < ys.length <;> simp [h1, h2]
      have e2 := bi_sumM (fun l : List Int => l.getD i 0) (List.filter (fun l => decide (i < l.length)) [xs, ys])
      rw [e] at e2
      simp only [bnd_ok, List.map_cons, List.map_nil]
      rw [e2]
      simp
    · simp [-List.map_append, q_var, q_lit, q_bin, q_cmp, q_chn, q_chn3, q_neg, q_not, q_and, q_or, q_ite, q_tup, q_lst, q_sub, q_slc, q_rev, q_cal, q_cav, q_bi, q_mix, q_isi, q_dnew, q_nil, q_cons, q_cnil, q_ccons, q_sseq, q_srng, q_senu, q_szip, q_xnil, q_xcons, q_pass, q_asg, q_par, q_unp, q_exp, q_ife, q_ret, q_rai, q_aug, q_mut, evr, evrs, mv, mvs, evP, callF, start0, give_eq, gives_eq, keep, nm, nms, nmS, ownS, frz, frzS, setAll, setSh, closeds, boxM, tupM, bindT, okOnly, optI, itemsD, listD, getP]
    · intro l hl
      refine ⟨_, rfl, evC_one (m := .dp) ?_, fun h => ⟨.sh, ?_, rfl⟩⟩
      · simp [-List.map_append, q_var, q_lit, q_bin, q_cmp, q_chn, q_chn3, q_neg, q_not, q_and, q_or, q_ite, q_tup, q_lst, q_sub, q_slc, q_rev, q_cal, q_cav, q_bi, q_mix, q_isi, q_dnew, q_nil, q_cons, q_cnil, q_ccons, q_sseq, q_srng, q_senu, q_szip, q_xnil, q_xcons, q_pass, q_asg, q_par, q_unp, q_exp, q_ife, q_ret, q_rai, q_aug, q_mut, evr, evrs, mv, mvs, evP, callF, start0, give_eq, gives_eq, keep, nm, nms, nmS, ownS, frz, frzS, setAll, setSh, closeds, boxM, tupM, bindT, okOnly, optI, itemsD, listD, getP]
      · simp [-List.map_append, q_var, q_lit, q_bin, q_cmp, q_chn, q_chn3, q_neg, q_not, q_and, q_or, q_ite, q_tup, q_lst, q_sub, q_slc, q_rev, q_cal, q_cav, q_bi, q_mix, q_isi, q_dnew, q_nil, q_cons, q_cnil, q_ccons, q_sseq, q_srng, q_senu, q_szip, q_xnil, q_xcons, q_pass, q_asg, q_par, q_unp, q_exp, q_ife, q_ret, q_rai, q_aug, q_mut, evr, evrs, mv, mvs, evP, callF, start0, give_eq, gives_eq, keep, nm, nms, nmS, ownS, frz, frzS, setAll, setSh, closeds, boxM, tupM, bindT, okOnly, optI, itemsD, listD, getP, at_I (of_decide_eq_true h)]
/-- those tied to a place, by a row of rows -/
theorem rowA_len (na : Int → Int → Bool) : ∀ (n : Nat) (xs : List Int), xs.length = n → (rowA na xs).length ≤ xs.length + 1 := by
  intro n
  induction n using Nat.strongRecOn with
  | _ n ih =>
    intro xs hn
    cases xs with
    | nil => rw [rowA]; simp
    | cons p r =>
      have hr : r.length < n := by rw [← hn, List.length_cons]; omega
      have hf : (r.filter (na p)).length ≤ r.length := List.length_filter_le _ _
      have h1 := ih _ hr r rfl
      have h2 := ih _ (Nat.lt_of_le_of_lt hf hr) _ rfl
      rw [rowA, addR_len, List.length_cons, List.length_cons]
      omega
theorem c_apart_of {N : Nat} {f : Nat → List Int} {na : Int → Int → Bool} (hna : ∀ p : Nat, p < N → ∀ x, na (p : Int) x = !decide (x ∈ f p)) : ∀ (L : Nat) (xs : List Int), xs.length = L → (∀ x ∈ xs, 0 ≤ x ∧ x < (N : Int)) → xs.length ≤ 500 → ∀ k, xs.length + 2 ≤ k → run GP k 117 [rowD N f, .lst (xs.map D.int)] = some (.ok (.dp, .lst ((rowA na xs).map D.int))) := by
  intro L
  induction L using Nat.strongRecOn with
  | _ L ih =>
    intro xs hL hx hl k hk
    obtain ⟨k, rfl⟩ : ∃ j, k = j + 1 := ⟨k - 1, by omega⟩
    show callF (run GP k) fu_apart_of [rowD N f, .lst (xs.map D.int)] = _
    cases xs with
    | nil =>
      rw [rowA]
      have e0 : cmpD .eq (.lst []) (.lst []) = some true := rfl
      simp [-List.map_append, q_var, q_lit, q_bin, q_cmp, q_chn, q_chn3, q_neg, q_not, q_and, q_or, q_ite, q_tup, q_lst, q_sub, q_slc, q_rev, q_cal, q_cav, q_bi, q_mix, q_isi, q_dnew, q_nil, q_cons, q_cnil, q_ccons, q_sseq, q_srng, q_senu, q_szip, q_xnil, q_xcons, q_pass, q_asg, q_par, q_unp, q_exp, q_ife, q_ret, q_rai, q_aug, q_mut, evr, evrs, mv, mvs, evP, callF, start0, give_eq, gives_eq, keep, nm, nms, nmS, ownS, frz, frzS, setAll, setSh, closeds, boxM, tupM, bindT, okOnly, optI, itemsD, listD, getP, fu_apart_of, e0]
    | cons p r =>
      have hp := hx p List.mem_cons_self
      have hr : ∀ x ∈ r, 0 ≤ x ∧ x < (N : Int) := fun x h => hx x (List.mem_cons_of_mem _ h)
      rw [List.length_cons] at hL hl hk
      have e1 := ih r.length (by omega) r rfl hr (by omega) k (by omega)
      have hf : (r.filter (na p)).length ≤ r.length := List.length_filter_le _ _
      have e2 := ih (r.filter (na p)).length (by omega) _ rfl (fun x h => hr x (List.mem_filter.mp h).1) (by omega) k (by omega)
      have e3 : cmpD .eq (.lst ((p :: r).map D.int)) (.lst []) = some false := eq_I0 (p :: r)
      rw [List.map_cons] at e3
      have e4 : ev (run GP k) (.comp [4] true (.seq (.var 2)) [.cmp .notin (.var 4) (.sub (.var 0) (.sub (.var 1) (.lit (.int 0))))] (.var 4)) [some (.sh, rowD N f), some (.sh, .lst (.int p :: r.map D.int)), some (.fl, .lst (r.map D.int)), some (.dp, .lst ((rowA na r).map D.int)), none] = some (.ok (.dp, .lst ((r.filter (na p)).map D.int))) := by
        refine ev_compD (m := .sh) D.int r (na p) D.int ?_ ?_
        · simp [-List.map_append, q_var, q_lit, q_bin, q_cmp, q_chn, q_chn3, q_neg, q_not, q_and, q_or, q_ite, q_tup, q_lst, q_sub, q_slc, q_rev, q_cal, q_cav, q_bi, q_mix, q_isi, q_dnew, q_nil, q_cons, q_cnil, q_ccons, q_sseq, q_srng, q_senu, q_szip, q_xnil, q_xcons, q_pass, q_asg, q_par, q_unp, q_exp, q_ife, q_ret, q_rai, q_aug, q_mut, evr, evrs, mv, mvs, evP, callF, start0, give_eq, gives_eq, keep, nm, nms, nmS, ownS, frz, frzS, setAll, setSh, closeds, boxM, tupM, bindT, okOnly, optI, itemsD, listD, getP]
        · intro x hx
          refine ⟨_, rfl, evC_one (m := .dp) ?_, fun h => ⟨.sh, ?_, rfl⟩⟩
          · have h1 := hna p.toNat (by omega) x
            rw [show ((p.toNat : Nat) : Int) = p by omega] at h1
            simp [-List.map_append, q_var, q_lit, q_bin, q_cmp, q_chn, q_chn3, q_neg, q_not, q_and, q_or, q_ite, q_tup, q_lst, q_sub, q_slc, q_rev, q_cal, q_cav, q_bi, q_mix, q_isi, q_dnew, q_nil, q_cons, q_cnil, q_ccons, q_sseq, q_srng, q_senu, q_szip, q_xnil, q_xcons, q_pass, q_asg, q_par, q_unp, q_exp, q_ife, q_ret, q_rai, q_aug, q_mut, evr, evrs, mv, mvs, evP, callF, start0, give_eq, gives_eq, keep, nm, nms, nmS, ownS, frz, frzS, setAll, setSh, closeds, boxM, tupM, bindT, okOnly, optI, itemsD, listD, getP, at_row hp.1 hp.2, h1]
          · simp [-List.map_append, q_var, q_lit, q_bin, q_cmp, q_chn, q_chn3, q_neg, q_not, q_and, q_or, q_ite, q_tup, q_lst, q_sub, q_slc, q_rev, q_cal, q_cav, q_bi, q_mix, q_isi, q_dnew, q_nil, q_cons, q_cnil, q_ccons, q_sseq, q_srng, q_senu, q_szip, q_xnil, q_xcons, q_pass, q_asg, q_par, q_unp, q_exp, q_ife, q_ret, q_rai, q_aug, q_mut, evr, evrs, mv, mvs, evP, callF, start0, give_eq, gives_eq, keep, nm, nms, nmS, ownS, frz, frzS, setAll, setSh, closeds, boxM, tupM, bindT, okOnly, optI, itemsD, listD, getP]
      have l1 := rowA_len na _ r rfl
      have l2 := rowA_len na _ (r.filter (na p)) rfl
      have e5 : binD .add (.lst [.int 0]) (.lst ((rowA na (r.filter (na p))).map D.int)) = some (.fl, .lst ((0 :: rowA na (r.filter (na p))).map D.int)) := add_L (by simp; omega)
      obtain ⟨k, rfl⟩ : ∃ j, k = j + 1 := ⟨k - 1, by omega⟩
      have e6 := c_added (rowA na r) (0 :: rowA na (r.filter (na p))) (by omega) (by rw [List.length_cons]; omega) k
      rw [rowA]
      rw [List.map_cons] at e6
      simp [-List.map_append, q_var, q_lit, q_bin, q_cmp, q_chn, q_chn3, q_neg, q_not, q_and, q_or, q_ite, q_tup, q_lst, q_sub, q_slc, q_rev, q_cal, q_cav, q_bi, q_mix, q_isi, q_dnew, q_nil, q_cons, q_cnil, q_ccons, q_sseq, q_srng, q_senu, q_szip, q_xnil, q_xcons, q_pass, q_asg, q_par, q_unp, q_exp, q_ife, q_ret, q_rai, q_aug, q_mut, evr, evrs, mv, mvs, evP, callF, start0, give_eq, gives_eq, keep, nm, nms, nmS, ownS, frz, frzS, setAll, setSh, closeds, boxM, tupM, bindT, okOnly, optI, itemsD, listD, getP, fu_apart_of, e3, slc_tail, e1, e4, e2, e5, e6]
/-- not tied -/
def naT (ts : List (Int × Int)) (a b : Int) : Bool := !decide (b ∈ nb ts a)
theorem mem_sort (xs : List Int) (x : Int) : x ∈ isortB ltZ xs ↔ x ∈ xs := (isortB_perm xs).mem_iff
theorem upto_eI (n : Nat) : (upto n).map D.int = (List.range n).map fun (i : Nat) => D.int (i : Int) := by
  unfold upto
  rw [List.map_map]
  rfl
theorem upto_mem {n : Nat} {x : Int} (h : x ∈ upto n) : 0 ≤ x ∧ x < (n : Int) := by
  unfold upto at h
  obtain ⟨i, hi, rfl⟩ := List.mem_map.mp h
  have := List.mem_range.mp hi
  omega
theorem upto_len (n : Nat) : (upto n).length = n := by simp [upto]
theorem lrng_up {n : Int} (h0 : 0 ≤ n) (h : n ≤ 1000) : biD .lrng [.int 0, .int n] = some (.dp, .lst ((upto n.toNat).map D.int)) := by
  show (if rngOk 0 n then some (Md.dp, D.lst (rngD 0 n)) else none) = _
  rw [if_pos (rng_ok (by decide) (by omega) (by omega)), upto_eI, ← rows_nil, Int.toNat_of_nonneg h0]
theorem c_apart_near {n : Int} {ts : List (Int × Int)} (w : Web n ts) {k : Nat} (hk : 30 ≤ k) : run GP k 117 [nearD n ts, .lst ((upto n.toNat).map D.int)] = some (.ok (.dp, .lst ((rowA (naT ts) (upto n.toNat)).map D.int))) := by
  have := w.hi
  have := w.lo
  refine c_apart_of (fun p hp x => ?_) _ _ rfl (fun x hx => ?_) (by rw [upto_len]; omega) k (by rw [upto_len]; omega)
  · unfold naT
    simp only [mem_sort]
  · have := upto_mem hx
    omega
theorem c_places_apart {n : Int} {ts : List (Int × Int)} (w : Web n ts) (h : n ≤ 10) {k : Nat} (hk : 31 ≤ k) : run GP k 118 [webD n ts] = some (.ok (.dp, .lst ((rowA (naT ts) (upto n.toNat)).map D.int))) := by
  obtain ⟨k, rfl⟩ : ∃ j, k = j + 6 + 1 := ⟨k - 7, by omega⟩
  show callF (run GP (k + 6)) fu_places_apart [webD n ts] = _
  have := w.hi
  simp [-List.map_append, q_var, q_lit, q_bin, q_cmp, q_chn, q_chn3, q_neg, q_not, q_and, q_or, q_ite, q_tup, q_lst, q_sub, q_slc, q_rev, q_cal, q_cav, q_bi, q_mix, q_isi, q_dnew, q_nil, q_cons, q_cnil, q_ccons, q_sseq, q_srng, q_senu, q_szip, q_xnil, q_xcons, q_pass, q_asg, q_par, q_unp, q_exp, q_ife, q_ret, q_rai, q_aug, q_mut, evr, evrs, mv, mvs, evP, callF, start0, give_eq, gives_eq, keep, nm, nms, nmS, ownS, frz, frzS, setAll, setSh, closeds, boxM, tupM, bindT, okOnly, optI, itemsD, listD, getP, fu_places_apart, c_check_small w h, c_near_of w, lrng_up w.lo (by omega), c_apart_near w (k := k + 6) (by omega)]
theorem c_ties_apart {n : Int} {ts : List (Int × Int)} (w : Web n ts) (h : ts.length ≤ 10) {k : Nat} (hk : 31 ≤ k) : run GP k 119 [webD n ts] = some (.ok (.dp, .lst ((rowA (naT (tw ts)) (upto ts.length)).map D.int))) := by
  obtain ⟨k, rfl⟩ : ∃ j, k = j + 6 + 1 := ⟨k - 7, by omega⟩
  show callF (run GP (k + 6)) fu_ties_apart [webD n ts] = _
  have w2 := tw_web (ts := ts) (by omega)
  have e := c_apart_near w2 (k := k + 6) (by omega)
  have e2 := lrng_up (n := (ts.length : Int)) (by omega) (by omega)
  rw [Int.toNat_natCast] at e e2
  simp [-List.map_append, q_var, q_lit, q_bin, q_cmp, q_chn, q_chn3, q_neg, q_not, q_and, q_or, q_ite, q_tup, q_lst, q_sub, q_slc, q_rev, q_cal, q_cav, q_bi, q_mix, q_isi, q_dnew, q_nil, q_cons, q_cnil, q_ccons, q_sseq, q_srng, q_senu, q_szip, q_xnil, q_xcons, q_pass, q_asg, q_par, q_unp, q_exp, q_ife, q_ret, q_rai, q_aug, q_mut, evr, evrs, mv, mvs, evP, callF, start0, give_eq, gives_eq, keep, nm, nms, nmS, ownS, frz, frzS, setAll, setSh, closeds, boxM, tupM, bindT, okOnly, optI, itemsD, listD, getP, fu_ties_apart, c_check_few w (m := 10) (by omega), c_tie_web_of w.len, c_near_of w2, e2, e]
theorem c_law_copied (n : Int) (ts : List (Int × Int)) (k : Nat) : run GP (k + 1) 12 [webD n ts] = some (.ok (.dp, webD n ts)) := by
  show callF (run GP k) fu_law_copied [webD n ts] = _
  have e : biD .list [.lst (ts.map eP)] = some (.fl, .lst (ts.map eP)) := rfl
  simp [-List.map_append, q_var, q_lit, q_bin, q_cmp, q_chn, q_chn3, q_neg, q_not, q_and, q_or, q_ite, q_tup, q_lst, q_sub, q_slc, q_rev, q_cal, q_cav, q_bi, q_mix, q_isi, q_dnew, q_nil, q_cons, q_cnil, q_ccons, q_sseq, q_srng, q_senu, q_szip, q_xnil, q_xcons, q_pass, q_asg, q_par, q_unp, q_exp, q_ife, q_ret, q_rai, q_aug, q_mut, evr, evrs, mv, mvs, evP, callF, start0, give_eq, gives_eq, keep, nm, nms, nmS, ownS, frz, frzS, setAll, setSh, closeds, boxM, tupM, bindT, okOnly, optI, itemsD, listD, getP, fu_law_copied, e]
end TW

set_option Elab.async false
set_option linter.all false
set_option maxRecDepth 100000
set_option maxHeartbeats 4000000
namespace TW
open PySem PySem.Spec PyProof.Rows L2

theorem strict_ext {α : Type} {r : α → α → Prop} (irr : ∀ a, ¬ r a a) (asy : ∀ a b, r a b → ¬ r b a) : ∀ {xs ys : List α}, xs.Pairwise r → ys.Pairwise r → (∀ z, z ∈ xs ↔ z ∈ ys) → xs = ys
  | [], [], _, _, _ => rfl
  | [], y :: ys, _, _, h => by have := (h y).mpr List.mem_cons_self; cases this
  | x :: xs, [], _, _, h => by have := (h x).mp List.mem_cons_self; cases this
  | x :: xs, y :: ys, hx, hy, h => by
    obtain ⟨x1, x2⟩ := List.pairwise_cons.mp hx
    obtain ⟨y1, y2⟩ := List.pairwise_cons.mp hy
    have e : x = y := by
      rcases List.mem_cons.mp ((h x).mp List.mem_cons_self) with e | hxy
      · exact e
      · rcases List.mem_cons.mp ((h y).mpr List.mem_cons_self) with e | hyx
        · exact e.symm
        · exact absurd (x1 y hyx) (asy _ _ (y1 x hxy))
    subst e
    have : xs = ys := strict_ext irr asy x2 y2 fun z => by
      have hz := h z
      constructor
      · intro hm
        rcases List.mem_cons.mp (hz.mp (List.mem_cons_of_mem _ hm)) with e | h'
        · subst e
          exact absurd (x1 _ hm) (irr _)
        · exact h'
      · intro hm
        rcases List.mem_cons.mp (hz.mpr (List.mem_cons_of_mem _ hm)) with e | h'
        · subst e
          exact absurd (y1 _ hm) (irr _)
        · exact h'
    rw [this]
theorem ltP2_irr (a : Int × Int) : ¬ ltP2 a a = true := by rw [sto_P.irr]; simp
theorem ltP2_asy (a b : Int × Int) (h : ltP2 a b = true) : ¬ ltP2 b a = true := by
  rw [ltP2_iff] at h ⊢
  omega
theorem strictP {xs ys : List (Int × Int)} (hx : xs.Pairwise fun a b => ltP2 a b = true) (hy : ys.Pairwise fun a b => ltP2 a b = true) (h : ∀ z, z ∈ xs ↔ z ∈ ys) : xs = ys := strict_ext (r := fun a b => ltP2 a b = true) ltP2_irr ltP2_asy hx hy h
theorem sort_strict {xs : List (Int × Int)} (h : xs.Nodup) : (isortB ltP2 xs).Pairwise fun a b => ltP2 a b = true := ris_strict (isortB_ris sto_P xs) ((isortB_perm xs).nodup_iff.mpr h)
theorem sortP_eq {xs ys : List (Int × Int)} (h : xs.Nodup) (hy : ys.Pairwise fun a b => ltP2 a b = true) (hm : ∀ z, z ∈ xs ↔ z ∈ ys) : isortB ltP2 xs = ys := strictP (sort_strict h) hy fun z => by rw [(isortB_perm xs).mem_iff, hm]
/-! ### the law's own web of the ties -/
theorem add_P {fs gs : List (Int × Int)} (h : fs.length + gs.length ≤ 1000000) : binD .add (.lst (fs.map eP)) (.lst (gs.map eP)) = some (.fl, .lst ((fs ++ gs).map eP)) := by
  rw [List.map_append]
  exact add_L (by simpa using h)
def ltRow (ts : List (Int × Int)) (p : (Int × Int) × Nat) : List (Int × Int) := ((List.range p.2).filter fun j => shr (ts.getD j (0, 0)) p.1).map fun (j : Nat) => ((j : Int), (p.2 : Int))
def ltAll (ts : List (Int × Int)) : List (Int × Int) := ts.zipIdx.flatMap (ltRow ts)
theorem ltRow_len (ts : List (Int × Int)) (p : (Int × Int) × Nat) : (ltRow ts p).length ≤ p.2 := by
  unfold ltRow
  rw [List.length_map]
  exact Nat.le_trans (List.length_filter_le _ _) (by rw [List.length_range]; exact Nat.le_refl _)
theorem mem_tw {ts : List (Int × Int)} {z : Int × Int} : z ∈ tw ts ↔ ∃ i j : Nat, i < j ∧ j < ts.length ∧ shr (ts.getD i (0, 0)) (ts.getD j (0, 0)) = true ∧ z = ((i : Int), (j : Int)) := by
  unfold tw twRow
  simp only [List.mem_flatMap, List.mem_map, List.mem_filter, List.mem_range]
  constructor
  · rintro ⟨a, ha, j, ⟨⟨i, hi, rfl⟩, hs⟩, rfl⟩
    exact ⟨a, a + 1 + i, by omega, by omega, by rw [shr_comm]; exact hs, rfl⟩
  · rintro ⟨i, j, hij, hj, hs, rfl⟩
    exact ⟨i, by omega, j, ⟨⟨j - (i + 1), by omega, by omega⟩, by rw [shr_comm]; exact hs⟩, rfl⟩
theorem mem_zipIdx0 {ts : List (Int × Int)} {p : (Int × Int) × Nat} : p ∈ ts.zipIdx ↔ ts[p.2]? = some p.1 := by
  obtain ⟨t, i⟩ := p
  exact List.mk_mem_zipIdx_iff_getElem?
theorem mem_ltAll {ts : List (Int × Int)} {z : Int × Int} : z ∈ ltAll ts ↔ z ∈ tw ts := by
  rw [mem_tw]
  unfold ltAll ltRow
  simp only [List.mem_flatMap, List.mem_map, List.mem_filter, List.mem_range, mem_zipIdx0]
  constructor
  · rintro ⟨⟨t, i⟩, hp, j, ⟨hj, hs⟩, rfl⟩
    have hl := (List.getElem?_eq_some_iff.mp hp).1
    refine ⟨j, i, hj, hl, ?_, rfl⟩
    have : ts.getD i (0, 0) = t := by rw [List.getD_eq_getElem?_getD, hp]; rfl
    rw [this]
    exact hs
  · rintro ⟨i, j, hij, hj, hs, rfl⟩
    refine ⟨(ts.getD j (0, 0), j), ?_, i, ⟨hij, hs⟩, rfl⟩
    show ts[j]? = some (ts.getD j (0, 0))
    rw [List.getD_eq_getElem?_getD, List.getElem?_eq_getElem hj]
    rfl
theorem ltAll_nodup (ts : List (Int × Int)) : (ltAll ts).Nodup := by
  unfold ltAll
  refine List.pairwise_flatMap.mpr ⟨fun p _ => ?_, ?_⟩
  · unfold ltRow
    refine List.pairwise_map.mpr ?_
    refine (List.nodup_range.filter _).imp fun {a b} h e => h ?_
    have : (a : Int) = (b : Int) := congrArg Prod.fst e
    omega
  · have : ts.zipIdx.Pairwise fun p q => p.2 ≠ q.2 := by
      have h1 : (ts.zipIdx.map Prod.snd).Nodup := by
        rw [List.zipIdx_map_snd]
        exact List.nodup_range'
      exact List.pairwise_map.mp h1
    refine this.imp fun {p q} h x hx y hy e => h ?_
    unfold ltRow at hx hy
    obtain ⟨i, _, rfl⟩ := List.mem_map.mp hx
    obtain ⟨j, _, rfl⟩ := List.mem_map.mp hy
    have : (p.2 : Int) = (q.2 : Int) := congrArg Prod.snd e
    omega
theorem sort_ltAll {ts : List (Int × Int)} : isortB ltP2 (ltAll ts) = tw ts := sortP_eq (ltAll_nodup ts) (by rw [tw_eq]; exact twR_ris) fun z => mem_ltAll
theorem foldl_app {α β : Type} (f : α → List β) : ∀ (xs : List α) (b : List β), xs.foldl (fun fs x => fs ++ f x) b = b ++ xs.flatMap f
  | [], b => by simp
  | x :: xs, b => by rw [List.foldl_cons, foldl_app f xs, List.flatMap_cons, List.append_assoc]
structure LtS where
  m : Md
  fs : List (Int × Int)
  x2 : Sl
  x3 : Sl
def LtS.env (n : Int) (ts : List (Int × Int)) (s : LtS) : Dn := [some (.sh, webD n ts), some (s.m, .lst (s.fs.map eP)), s.x2, s.x3, none]
def LtS.step (ts : List (Int × Int)) (s : LtS) (p : (Int × Int) × Nat) : LtS := ⟨.fl, s.fs ++ ltRow ts p, some (.sh, .int (p.2 : Int)), some (.sh, eP p.1)⟩
theorem lt_fs (ts : List (Int × Int)) : ∀ (xs : List ((Int × Int) × Nat)) (s : LtS), (xs.foldl (LtS.step ts) s).fs = s.fs ++ xs.flatMap (ltRow ts)
  | [], s => by simp
  | x :: xs, s => by rw [List.foldl_cons, lt_fs ts xs, List.flatMap_cons, ← List.append_assoc]; rfl
theorem flat_len {ts : List (Int × Int)} (h : ts.length ≤ 66) : ∀ (xs : List ((Int × Int) × Nat)), (∀ p ∈ xs, p.2 < ts.length) → (xs.flatMap (ltRow ts)).length ≤ xs.length * 66
  | [], _ => by simp
  | x :: xs, hx => by
    have ih := flat_len h xs fun p hp => hx p (List.mem_cons_of_mem _ hp)
    have h1 := ltRow_len ts x
    have h2 := hx x List.mem_cons_self
    rw [List.flatMap_cons, List.length_append, List.length_cons]
    omega
theorem c_law_tie_web {n : Int} {ts : List (Int × Int)} (h : ts.length ≤ 66) (k : Nat) : run GP (k + 1) 35 [webD n ts] = some (.ok (.dp, webD ts.length (tw ts))) := by
  show callF (run GP k) fu_law_tie_web [webD n ts] = _
  have hx : ∀ p ∈ ts.zipIdx, p.2 < ts.length := fun p hp => (List.getElem?_eq_some_iff.mp (mem_zipIdx0.mp hp)).1
  have loop : ex (run GP k) (.for_ [2, 3] false (.enu (.sub (.var 0) (.lit (.int 1)))) fu_law_tie_web_b0) [some (.sh, webD n ts), some (.dp, .lst []), none, none, none] = some (.ok (.nx (LtS.env n ts (ts.zipIdx.foldl (LtS.step ts) ⟨.dp, [], none, none⟩)))) := by
    refine ex_for (m := .sh) (fun p : (Int × Int) × Nat => D.tup [.int (p.2 : Int), eP p.1]) ts.zipIdx (LtS.env n ts) (LtS.step ts) ⟨.dp, [], none, none⟩ ?_ ?_ ?_
    · simp [-List.map_append, q_var, q_lit, q_bin, q_cmp, q_chn, q_chn3, q_neg, q_not, q_and, q_or, q_ite, q_tup, q_lst, q_sub, q_slc, q_rev, q_cal, q_cav, q_bi, q_mix, q_isi, q_dnew, q_nil, q_cons, q_cnil, q_ccons, q_sseq, q_srng, q_senu, q_szip, q_xnil, q_xcons, q_pass, q_asg, q_par, q_unp, q_exp, q_ife, q_ret, q_rai, q_aug, q_mut, evr, evrs, mv, mvs, evP, callF, start0, give_eq, gives_eq, keep, nm, nms, nmS, ownS, frz, frzS, setAll, setSh, closeds, boxM, tupM, bindT, okOnly, optI, itemsD, listD, getP]
      exact enuD_map eP ts 0
    · simp [-List.map_append, q_var, q_lit, q_bin, q_cmp, q_chn, q_chn3, q_neg, q_not, q_and, q_or, q_ite, q_tup, q_lst, q_sub, q_slc, q_rev, q_cal, q_cav, q_bi, q_mix, q_isi, q_dnew, q_nil, q_cons, q_cnil, q_ccons, q_sseq, q_srng, q_senu, q_szip, q_xnil, q_xcons, q_pass, q_asg, q_par, q_unp, q_exp, q_ife, q_ret, q_rai, q_aug, q_mut, evr, evrs, mv, mvs, evP, callF, start0, give_eq, gives_eq, keep, nm, nms, nmS, ownS, frz, frzS, setAll, setSh, closeds, boxM, tupM, bindT, okOnly, optI, itemsD, listD, getP, LtS.env]
    · intro pre p post hp
      have hpm : p ∈ ts.zipIdx := by rw [hp]; simp
      have hpl := hx p hpm
      have hfl := flat_len h pre fun q hq => hx q (by rw [hp]; simp [hq])
      have hlen : pre.length ≤ ts.length := by
        have := congrArg List.length hp
        rw [List.length_zipIdx, List.length_append] at this
        omega
      obtain ⟨s, hs⟩ : ∃ s, pre.foldl (LtS.step ts) ⟨.dp, [], none, none⟩ = s := ⟨_, rfl⟩
      have hsf : s.fs.length ≤ 66 * 66 := by
        rw [← hs, lt_fs]
        simp only [List.nil_append]
        refine Nat.le_trans hfl ?_
        exact Nat.mul_le_mul (Nat.le_trans hlen h) (Nat.le_refl _)
      rw [hs]
      obtain ⟨m, fs, x2, x3⟩ := s
      refine ⟨_, rfl, ?_⟩
      have c1 : ev (run GP k) (.comp [4] true (.rng (.lit (.int 0)) (.var 2)) [.or (.cmp .isin (.sub (.sub (.sub (.var 0) (.lit (.int 1))) (.var 4)) (.lit (.int 0))) (.var 3)) (.cmp .isin (.sub (.sub (.sub (.var 0) (.lit (.int 1))) (.var 4)) (.lit (.int 1))) (.var 3))] (.tup [.var 4, .var 2])) [some (.sh, webD n ts), some (m, .lst (fs.map eP)), some (.sh, .int (p.2 : Int)), some (.sh, eP p.1), none] = some (.ok (.dp, .lst ((ltRow ts p).map eP))) := by
        unfold ltRow
        rw [List.map_map]
        refine ev_compD (m := .dp) (fun (j : Nat) => D.int (j : Int)) (List.range p.2) (fun j => shr (ts.getD j (0, 0)) p.1) _ ?_ ?_
        · simp [-List.map_append, q_var, q_lit, q_bin, q_cmp, q_chn, q_chn3, q_neg, q_not, q_and, q_or, q_ite, q_tup, q_lst, q_sub, q_slc, q_rev, q_cal, q_cav, q_bi, q_mix, q_isi, q_dnew, q_nil, q_cons, q_cnil, q_ccons, q_sseq, q_srng, q_senu, q_szip, q_xnil, q_xcons, q_pass, q_asg, q_par, q_unp, q_exp, q_ife, q_ret, q_rai, q_aug, q_mut, evr, evrs, mv, mvs, evP, callF, start0, give_eq, gives_eq, keep, nm, nms, nmS, ownS, frz, frzS, setAll, setSh, closeds, boxM, tupM, bindT, okOnly, optI, itemsD, listD, getP]
          exact ⟨rng_ok (by decide) (by omega) (by omega), rows_nil _⟩
        · intro j hj
          have hj := List.mem_range.mp hj
          obtain ⟨u, hu⟩ : ∃ u, ts[j]? = some u := ⟨ts[j], List.getElem?_eq_getElem (by omega)⟩
          have hd : ts.getD j (0, 0) = u := by rw [List.getD_eq_getElem?_getD, hu]; rfl
          refine ⟨_, rfl, evC_one (m := .dp) ?_, fun _ => ⟨.dp, ?_, rfl⟩⟩
          · rw [hd, shr_comm]
            have e1 : shr p.1 u = ((decide (p.1.1 = u.1) || decide (p.1.2 = u.1)) || (decide (p.1.1 = u.2) || decide (p.1.2 = u.2))) := by
              unfold shr
              rw [Bool.eq_iff_iff]
              simp only [Bool.or_eq_true, decide_eq_true_eq]
              omega
            rw [e1]
            simp [-List.map_append, q_var, q_lit, q_bin, q_cmp, q_chn, q_chn3, q_neg, q_not, q_and, q_or, q_ite, q_tup, q_lst, q_sub, q_slc, q_rev, q_cal, q_cav, q_bi, q_mix, q_isi, q_dnew, q_nil, q_cons, q_cnil, q_ccons, q_sseq, q_srng, q_senu, q_szip, q_xnil, q_xcons, q_pass, q_asg, q_par, q_unp, q_exp, q_ife, q_ret, q_rai, q_aug, q_mut, evr, evrs, mv, mvs, evP, callF, start0, give_eq, gives_eq, keep, nm, nms, nmS, ownS, frz, frzS, setAll, setSh, closeds, boxM, tupM, bindT, okOnly, optI, itemsD, listD, getP, at_P hu, in_T2]
            by_cases h1 : p.1.1 = u.1 <;> by_cases h2 : p.1.2 = u.1 <;> simp [h1, h2]
          · simp [-List.map_append, q_var, q_lit, q_bin, q_cmp, q_chn, q_chn3, q_neg, q_not, q_and, q_or, q_ite, q_tup, q_lst, q_sub, q_slc, q_rev, q_cal, q_cav, q_bi, q_mix, q_isi, q_dnew, q_nil, q_cons, q_cnil, q_ccons, q_sseq, q_srng, q_senu, q_szip, q_xnil, q_xcons, q_pass, q_asg, q_par, q_unp, q_exp, q_ife, q_ret, q_rai, q_aug, q_mut, evr, evrs, mv, mvs, evP, callF, start0, give_eq, gives_eq, keep, nm, nms, nmS, ownS, frz, frzS, setAll, setSh, closeds, boxM, tupM, bindT, okOnly, optI, itemsD, listD, getP]
      have hr := ltRow_len ts p
      have a1 : binD .add (.lst (fs.map eP)) (.lst ((ltRow ts p).map eP)) = some (.fl, .lst ((fs ++ ltRow ts p).map eP)) := add_P (by
        have : fs.length ≤ 66 * 66 := hsf
        omega)
      unfold fu_law_tie_web_b0
      simp [-List.map_append, q_var, q_lit, q_bin, q_cmp, q_chn, q_chn3, q_neg, q_not, q_and, q_or, q_ite, q_tup, q_lst, q_sub, q_slc, q_rev, q_cal, q_cav, q_bi, q_mix, q_isi, q_dnew, q_nil, q_cons, q_cnil, q_ccons, q_sseq, q_srng, q_senu, q_szip, q_xnil, q_xcons, q_pass, q_asg, q_par, q_unp, q_exp, q_ife, q_ret, q_rai, q_aug, q_mut, evr, evrs, mv, mvs, evP, callF, start0, give_eq, gives_eq, keep, nm, nms, nmS, ownS, frz, frzS, setAll, setSh, closeds, boxM, tupM, bindT, okOnly, optI, itemsD, listD, getP, c1, a1, LtS.env, LtS.step]
  simp [-List.map_append, q_var, q_lit, q_bin, q_cmp, q_chn, q_chn3, q_neg, q_not, q_and, q_or, q_ite, q_tup, q_lst, q_sub, q_slc, q_rev, q_cal, q_cav, q_bi, q_mix, q_isi, q_dnew, q_nil, q_cons, q_cnil, q_ccons, q_sseq, q_srng, q_senu, q_szip, q_xnil, q_xcons, q_pass, q_asg, q_par, q_unp, q_exp, q_ife, q_ret, q_rai, q_aug, q_mut, evr, evrs, mv, mvs, evP, callF, start0, give_eq, gives_eq, keep, nm, nms, nmS, ownS, frz, frzS, setAll, setSh, closeds, boxM, tupM, bindT, okOnly, optI, itemsD, listD, getP, fu_law_tie_web, loop, LtS.env]
  rw [lt_fs, List.nil_append]
  have := sort_ltAll (ts := ts)
  unfold ltAll at this
  simp [-List.map_append, q_var, q_lit, q_bin, q_cmp, q_chn, q_chn3, q_neg, q_not, q_and, q_or, q_ite, q_tup, q_lst, q_sub, q_slc, q_rev, q_cal, q_cav, q_bi, q_mix, q_isi, q_dnew, q_nil, q_cons, q_cnil, q_ccons, q_sseq, q_srng, q_senu, q_szip, q_xnil, q_xcons, q_pass, q_asg, q_par, q_unp, q_exp, q_ife, q_ret, q_rai, q_aug, q_mut, evr, evrs, mv, mvs, evP, callF, start0, give_eq, gives_eq, keep, nm, nms, nmS, ownS, frz, frzS, setAll, setSh, closeds, boxM, tupM, bindT, okOnly, optI, itemsD, listD, getP, sort_P, this]
end TW

set_option Elab.async false
set_option linter.all false
set_option maxRecDepth 100000
set_option maxHeartbeats 4000000
namespace TW
open PySem PySem.Spec PyProof.Rows L2

theorem range_split {n : Nat} {pre : List Nat} {x : Nat} {post : List Nat} (h : List.range n = pre ++ x :: post) : pre = List.range x ∧ x < n := by
  have hl : pre.length < n := by
    have := congrArg List.length h
    rw [List.length_range, List.length_append, List.length_cons] at this
    omega
  have h1 : (List.range n)[pre.length]? = some x := by rw [h]; simp
  rw [List.getElem?_range hl] at h1
  have hx : pre.length = x := by simpa using h1
  refine ⟨?_, by omega⟩
  have h2 : (List.range n).take pre.length = pre := by rw [h]; simp
  rw [List.take_range, Nat.min_eq_left (by omega), hx] at h2
  exact h2.symm
theorem mem_nb {ts : List (Int × Int)} (h : ∀ t ∈ ts, t.1 < t.2) (p x : Int) : x ∈ nb ts p ↔ (p, x) ∈ ts ∨ (x, p) ∈ ts := by
  unfold nb
  rw [List.mem_flatMap]
  constructor
  · rintro ⟨t, ht, hx⟩
    split at hx
    · rename_i h1
      have := List.mem_singleton.mp hx
      left
      rw [← h1, this]
      exact ht
    · split at hx
      · rename_i h1 h2
        have := List.mem_singleton.mp hx
        right
        rw [← h2, this]
        exact ht
      · cases hx
  · rintro (ht | ht)
    · exact ⟨_, ht, by simp⟩
    · refine ⟨_, ht, ?_⟩
      have := h _ ht
      have e : ¬ x = p := by simp at this; omega
      simp [e]
theorem naT_sym {ts : List (Int × Int)} (h : ∀ t ∈ ts, t.1 < t.2) (a b : Int) : naT ts a b = naT ts b a := by
  unfold naT
  have : (b ∈ nb ts a) ↔ (a ∈ nb ts b) := by
    rw [mem_nb h, mem_nb h]
    exact Or.comm
  simp [this]
theorem listsA_len (na : Int → Int → Bool) : ∀ n, (listsA na n).length ≤ 2 ^ n
  | 0 => by simp [listsA]
  | n + 1 => by
    have ih := listsA_len na n
    rw [listsA, List.length_append, List.length_map, Nat.pow_succ]
    have := List.length_filter_le (fun s => s.all fun x => na (n : Int) x) (listsA na n)
    omega
theorem listsA_ne (na : Int → Int → Bool) : ∀ n, [] ∈ listsA na n
  | 0 => by simp [listsA]
  | n + 1 => by rw [listsA]; exact List.mem_append_left _ (listsA_ne na n)
theorem listsA_each (na : Int → Int → Bool) : ∀ n, ∀ s ∈ listsA na n, s.length ≤ n
  | 0, s, h => by simp [listsA] at h; simp [h]
  | n + 1, s, h => by
    rw [listsA] at h
    rcases List.mem_append.mp h with h | h
    · have := listsA_each na n s h; omega
    · obtain ⟨u, hu, rfl⟩ := List.mem_map.mp h
      have := listsA_each na n u (List.mem_filter.mp hu).1
      simp; omega
theorem lfrees_IL {ls : List (List Int)} (h : ls ≠ []) : closed .fl (.lst (ls.map eIL)) = false := by
  cases ls with
  | nil => exact absurd rfl h
  | cons a r => rfl
theorem add_I {xs ys : List Int} (h : xs.length + ys.length ≤ 1000000) : binD .add (.lst (xs.map D.int)) (.lst (ys.map D.int)) = some (.fl, .lst ((xs ++ ys).map D.int)) := by
  rw [List.map_append]
  exact add_L (by simpa using h)
theorem add_IL {xs ys : List (List Int)} (h : xs.length + ys.length ≤ 1000000) : binD .add (.lst (xs.map eIL)) (.lst (ys.map eIL)) = some (.fl, .lst ((xs ++ ys).map eIL)) := by
  rw [List.map_append]
  exact add_L (by simpa using h)
theorem maxL_ok : ∀ {xs : List Int}, xs ≠ [] → ∃ m, maxL xs = some m ∧ m ∈ xs ∧ ∀ x ∈ xs, x ≤ m
  | [], h => absurd rfl h
  | [x], _ => ⟨x, rfl, by simp, by simp⟩
  | x :: y :: r, _ => by
    obtain ⟨m, h1, h2, h3⟩ := maxL_ok (xs := y :: r) (by simp)
    refine ⟨if m > x then m else x, ?_, ?_, ?_⟩
    · simp [maxL, h1]
    · split
      · exact List.mem_cons_of_mem _ h2
      · exact List.mem_cons_self
    · intro z hz
      rcases List.mem_cons.mp hz with rfl | hz
      · split <;> omega
      · have := h3 z hz
        split <;> omega
theorem bi_maxL {xs : List Int} (h : xs ≠ []) : ∃ m, biD .max [.lst (xs.map D.int)] = some (.dp, .int m) ∧ m ∈ xs ∧ ∀ x ∈ xs, x ≤ m := by
  obtain ⟨m, h1, h2, h3⟩ := maxL_ok h
  refine ⟨m, ?_, h2, h3⟩
  show ((intsD (xs.map D.int)).bind maxL).map _ = _
  rw [intsD_eI]
  simp [h1]
/-- counts by length, as far as the longest -/
theorem counts_full {ls : List (List Int)} {M : Nat} (h1 : ∃ s ∈ ls, s.length = M) (h2 : ∀ s ∈ ls, s.length ≤ M) :
    Full ((List.range (M + 1)).map fun m => ((ls.countP fun s => decide (s.length = m) : Nat) : Int)) ∧ ∀ m, ((List.range (M + 1)).map fun m => ((ls.countP fun s => decide (s.length = m) : Nat) : Int)).getD m 0 = ((ls.countP fun s => decide (s.length = m) : Nat) : Int) := by
  have hg : ∀ m, ((List.range (M + 1)).map fun m => ((ls.countP fun s => decide (s.length = m) : Nat) : Int)).getD m 0 = ((ls.countP fun s => decide (s.length = m) : Nat) : Int) := fun m => by
    rw [List.getD_eq_getElem?_getD, List.getElem?_map]
    by_cases h : m < M + 1
    · rw [List.getElem?_range h]
      rfl
    · rw [List.getElem?_eq_none (by rw [List.length_range]; omega)]
      have : ls.countP (fun s => decide (s.length = m)) = 0 := by
        rw [List.countP_eq_zero]
        intro s hs
        have := h2 s hs
        simp
        omega
      rw [this]
      rfl
  refine ⟨⟨by simp, ?_, fun m => by rw [hg]; omega⟩, hg⟩
  rw [hg, List.length_map, List.length_range, Nat.add_sub_cancel]
  have : 0 < ls.countP fun s => decide (s.length = M) := by
    rw [List.countP_pos_iff]
    obtain ⟨s, hs, e⟩ := h1
    exact ⟨s, hs, by simp [e]⟩
  omega
/-! ### the law's own count -/
structure ApS where
  m3 : Md
  m4 : Md
  ls : List (List Int)
  x1 : Sl
def ApS.env (n : Int) (ts : List (Int × Int)) (s : ApS) : Dn := [some (.sh, webD n ts), s.x1, none, some (s.m3, nearD n ts), some (s.m4, .lst (s.ls.map eIL)), none, none, none]
def ApS.step (na : Int → Int → Bool) (s : ApS) (j : Nat) : ApS := ⟨.sh, .fl, s.ls ++ (s.ls.filter fun u => u.all fun x => na (j : Int) x).map fun u => u ++ [(j : Int)], some (.sh, .int (j : Int))⟩
theorem ap_fold (na : Int → Int → Bool) (j : Nat) : ((List.range j).foldl (ApS.step na) ⟨.dp, .dp, [[]], none⟩).ls = listsA na j := by
  induction j with
  | zero => rfl
  | succ j ih =>
    rw [List.range_succ, List.foldl_append]
    show ((List.range j).foldl (ApS.step na) ⟨.dp, .dp, [[]], none⟩).ls ++ (((List.range j).foldl (ApS.step na) ⟨.dp, .dp, [[]], none⟩).ls.filter fun u => u.all fun x => na (j : Int) x).map (fun u => u ++ [(j : Int)]) = _
    rw [ih]
    rfl
theorem ap_step {n : Int} {ts : List (Int × Int)} (k : Nat) (j : Nat) (hj : (j : Int) < n) (hn : n ≤ 12) (s : ApS) (hs : s.ls = listsA (naT ts) j) : ∃ e1, bindT [1] true (.int (j : Int)) (ApS.env n ts s) = some e1 ∧ exs (run GP k) fu_law_apart_b0 e1 = some (.ok (.nx (ApS.env n ts (ApS.step (naT ts) s j)))) := by
  refine ⟨_, rfl, ?_⟩
  obtain ⟨m3, m4, ls, x1⟩ := s
  simp only at hs
  subst hs
  have hl := listsA_len (naT ts) j
  have hle := listsA_each (naT ts) j
  have h2 : 2 ^ j ≤ 2 ^ 12 := Nat.pow_le_pow_right (by decide) (by omega)
  have h3 : (2 : Nat) ^ 12 = 4096 := by decide
  obtain ⟨ls, hls⟩ : ∃ ls, listsA (naT ts) j = ls := ⟨_, rfl⟩
  have hne : ls ≠ [] := by
    have := listsA_ne (naT ts) j
    rw [hls] at this
    exact List.ne_nil_of_mem this
  rw [hls] at hl hle ⊢
  have c1 : ev (run GP k) (.comp [6] true (.seq (.var 4)) [.not (.bi .any [.comp [7] true (.seq (.var 6)) [] (.cmp .isin (.var 7) (.sub (.var 3) (.var 1)))])] (.bin .add (.var 6) (.lst [.var 1]))) [some (.sh, webD n ts), some (.sh, .int (j : Int)), none, some (m3, nearD n ts), some (m4, .lst (ls.map eIL)), none, none, none] = some (.ok (.dp, .lst (((ls.filter fun u => u.all fun x => naT ts (j : Int) x).map fun u => u ++ [(j : Int)]).map eIL))) := by
    rw [List.map_map]
    refine ev_compD (m := .sh) eIL ls _ _ ?_ ?_
    · simp [-List.map_append, q_var, q_lit, q_bin, q_cmp, q_chn, q_chn3, q_neg, q_not, q_and, q_or, q_ite, q_tup, q_lst, q_sub, q_slc, q_rev, q_cal, q_cav, q_bi, q_mix, q_isi, q_dnew, q_nil, q_cons, q_cnil, q_ccons, q_sseq, q_srng, q_senu, q_szip, q_xnil, q_xcons, q_pass, q_asg, q_par, q_unp, q_exp, q_ife, q_ret, q_rai, q_aug, q_mut, evr, evrs, mv, mvs, evP, callF, start0, give_eq, gives_eq, keep, nm, nms, nmS, ownS, frz, frzS, setAll, setSh, closeds, boxM, tupM, bindT, okOnly, optI, itemsD, listD, getP]
    · intro u hu
      refine ⟨_, rfl, evC_one (m := .dp) ?_, fun _ => ⟨.fl, ?_, closed_flI _⟩⟩
      · have c2 : ev (run GP k) (.comp [7] true (.seq (.var 6)) [] (.cmp .isin (.var 7) (.sub (.var 3) (.var 1)))) [some (.sh, webD n ts), some (.sh, .int (j : Int)), none, some (m3, nearD n ts), some (m4, .lst (ls.map eIL)), none, some (.sh, eIL u), none] = some (.ok (.dp, .lst (u.map fun x => .bl (decide (x ∈ nb ts (j : Int)))))) := by
          refine ev_compA (m := .sh) D.int u _ ?_ ?_
          · simp [-List.map_append, q_var, q_lit, q_bin, q_cmp, q_chn, q_chn3, q_neg, q_not, q_and, q_or, q_ite, q_tup, q_lst, q_sub, q_slc, q_rev, q_cal, q_cav, q_bi, q_mix, q_isi, q_dnew, q_nil, q_cons, q_cnil, q_ccons, q_sseq, q_srng, q_senu, q_szip, q_xnil, q_xcons, q_pass, q_asg, q_par, q_unp, q_exp, q_ife, q_ret, q_rai, q_aug, q_mut, evr, evrs, mv, mvs, evP, callF, start0, give_eq, gives_eq, keep, nm, nms, nmS, ownS, frz, frzS, setAll, setSh, closeds, boxM, tupM, bindT, okOnly, optI, itemsD, listD, getP]
          · intro x hx
            have ha := at_row (N := n.toNat) (f := fun p => isortB ltZ (nb ts (p : Int))) (i := (j : Int)) (by omega) (by omega)
            rw [Int.toNat_natCast] at ha
            refine ⟨_, rfl, .dp, ?_, rfl⟩
            simp [-List.map_append, q_var, q_lit, q_bin, q_cmp, q_chn, q_chn3, q_neg, q_not, q_and, q_or, q_ite, q_tup, q_lst, q_sub, q_slc, q_rev, q_cal, q_cav, q_bi, q_mix, q_isi, q_dnew, q_nil, q_cons, q_cnil, q_ccons, q_sseq, q_srng, q_senu, q_szip, q_xnil, q_xcons, q_pass, q_asg, q_par, q_unp, q_exp, q_ife, q_ret, q_rai, q_aug, q_mut, evr, evrs, mv, mvs, evP, callF, start0, give_eq, gives_eq, keep, nm, nms, nmS, ownS, frz, frzS, setAll, setSh, closeds, boxM, tupM, bindT, okOnly, optI, itemsD, listD, getP, ha, mem_sort]
        simp [-List.map_append, q_var, q_lit, q_bin, q_cmp, q_chn, q_chn3, q_neg, q_not, q_and, q_or, q_ite, q_tup, q_lst, q_sub, q_slc, q_rev, q_cal, q_cav, q_bi, q_mix, q_isi, q_dnew, q_nil, q_cons, q_cnil, q_ccons, q_sseq, q_srng, q_senu, q_szip, q_xnil, q_xcons, q_pass, q_asg, q_par, q_unp, q_exp, q_ife, q_ret, q_rai, q_aug, q_mut, evr, evrs, mv, mvs, evP, callF, start0, give_eq, gives_eq, keep, nm, nms, nmS, ownS, frz, frzS, setAll, setSh, closeds, boxM, tupM, bindT, okOnly, optI, itemsD, listD, getP, c2, bi_any]
        rw [Bool.eq_iff_iff]
        simp [naT]
      · have hul := hle u hu
        have a2 : binD .add (.lst (u.map D.int)) (.lst [.int (j : Int)]) = some (.fl, .lst ((u ++ [(j : Int)]).map D.int)) := add_I (ys := [(j : Int)]) (by simp; omega)
        simp [-List.map_append, q_var, q_lit, q_bin, q_cmp, q_chn, q_chn3, q_neg, q_not, q_and, q_or, q_ite, q_tup, q_lst, q_sub, q_slc, q_rev, q_cal, q_cav, q_bi, q_mix, q_isi, q_dnew, q_nil, q_cons, q_cnil, q_ccons, q_sseq, q_srng, q_senu, q_szip, q_xnil, q_xcons, q_pass, q_asg, q_par, q_unp, q_exp, q_ife, q_ret, q_rai, q_aug, q_mut, evr, evrs, mv, mvs, evP, callF, start0, give_eq, gives_eq, keep, nm, nms, nmS, ownS, frz, frzS, setAll, setSh, closeds, boxM, tupM, bindT, okOnly, optI, itemsD, listD, getP, a2]
  obtain ⟨new, hnew⟩ : ∃ new, ((ls.filter fun u => u.all fun x => naT ts (j : Int) x).map fun u => u ++ [(j : Int)]) = new := ⟨_, rfl⟩
  have hnl : new.length ≤ ls.length := by
    rw [← hnew, List.length_map]
    exact List.length_filter_le _ _
  rw [hnew] at c1
  have a1 : binD .add (.lst (ls.map eIL)) (.lst (new.map eIL)) = some (.fl, .lst ((ls ++ new).map eIL)) := add_IL (by omega)
  have hcl : closed .fl (.lst ((ls ++ new).map eIL)) = false := lfrees_IL (by simp [hne])
  have e : ApS.step (naT ts) ⟨m3, m4, ls, x1⟩ j = ⟨.sh, .fl, ls ++ new, some (.sh, .int (j : Int))⟩ := by
    unfold ApS.step
    simp only [hnew]
  rw [e]
  unfold fu_law_apart_b0
  cases m3 <;> cases m4 <;> simp [-List.map_append, q_var, q_lit, q_bin, q_cmp, q_chn, q_chn3, q_neg, q_not, q_and, q_or, q_ite, q_tup, q_lst, q_sub, q_slc, q_rev, q_cal, q_cav, q_bi, q_mix, q_isi, q_dnew, q_nil, q_cons, q_cnil, q_ccons, q_sseq, q_srng, q_senu, q_szip, q_xnil, q_xcons, q_pass, q_asg, q_par, q_unp, q_exp, q_ife, q_ret, q_rai, q_aug, q_mut, evr, evrs, mv, mvs, evP, callF, start0, give_eq, gives_eq, keep, nm, nms, nmS, ownS, frz, frzS, setAll, setSh, closeds, boxM, tupM, bindT, okOnly, optI, itemsD, listD, getP, c1, a1, hcl, ApS.env]
theorem c_law_apart {n : Int} {ts : List (Int × Int)} (w : Web n ts) (hn : n ≤ 10) (k : Nat) : run GP (k + 2) 120 [webD n ts] = some (.ok (.dp, .lst ((rowA (naT ts) (upto n.toNat)).map D.int))) := by
  show callF (run GP (k + 1)) fu_law_apart [webD n ts] = _
  have w0 := w.lo
  have loop : ex (run GP (k + 1)) (.for_ [1] true (.rng (.lit (.int 0)) (.sub (.var 0) (.lit (.int 0)))) fu_law_apart_b0) [some (.sh, webD n ts), none, none, some (.dp, nearD n ts), some (.dp, .lst [.lst []]), none, none, none] = some (.ok (.nx (ApS.env n ts ((List.range n.toNat).foldl (ApS.step (naT ts)) ⟨.dp, .dp, [[]], none⟩)))) := by
    refine ex_for (m := .dp) (fun (j : Nat) => D.int (j : Int)) (List.range n.toNat) (ApS.env n ts) (ApS.step (naT ts)) ⟨.dp, .dp, [[]], none⟩ ?_ ?_ ?_
    · simp [-List.map_append, q_var, q_lit, q_bin, q_cmp, q_chn, q_chn3, q_neg, q_not, q_and, q_or, q_ite, q_tup, q_lst, q_sub, q_slc, q_rev, q_cal, q_cav, q_bi, q_mix, q_isi, q_dnew, q_nil, q_cons, q_cnil, q_ccons, q_sseq, q_srng, q_senu, q_szip, q_xnil, q_xcons, q_pass, q_asg, q_par, q_unp, q_exp, q_ife, q_ret, q_rai, q_aug, q_mut, evr, evrs, mv, mvs, evP, callF, start0, give_eq, gives_eq, keep, nm, nms, nmS, ownS, frz, frzS, setAll, setSh, closeds, boxM, tupM, bindT, okOnly, optI, itemsD, listD, getP, rng_up w0 (by omega : n ≤ 100000)]
    · simp [-List.map_append, q_var, q_lit, q_bin, q_cmp, q_chn, q_chn3, q_neg, q_not, q_and, q_or, q_ite, q_tup, q_lst, q_sub, q_slc, q_rev, q_cal, q_cav, q_bi, q_mix, q_isi, q_dnew, q_nil, q_cons, q_cnil, q_ccons, q_sseq, q_srng, q_senu, q_szip, q_xnil, q_xcons, q_pass, q_asg, q_par, q_unp, q_exp, q_ife, q_ret, q_rai, q_aug, q_mut, evr, evrs, mv, mvs, evP, callF, start0, give_eq, gives_eq, keep, nm, nms, nmS, ownS, frz, frzS, setAll, setSh, closeds, boxM, tupM, bindT, okOnly, optI, itemsD, listD, getP, ApS.env]
    · intro pre j post hp
      obtain ⟨h1, h2⟩ := range_split hp
      have := ap_fold (naT ts) j
      rw [← h1] at this
      exact ap_step (k + 1) j (by omega) (by omega) _ this
  have hls := ap_fold (naT ts) n.toNat
  obtain ⟨s, hs⟩ : ∃ s, (List.range n.toNat).foldl (ApS.step (naT ts)) ⟨.dp, .dp, [[]], none⟩ = s := ⟨_, rfl⟩
  rw [hs] at hls loop
  obtain ⟨m3, m4, ls, x1⟩ := s
  simp only at hls
  have hne : ls ≠ [] := by
    have := listsA_ne (naT ts) n.toNat
    rw [← hls] at this
    exact List.ne_nil_of_mem this
  have hle := listsA_each (naT ts) n.toNat
  rw [← hls] at hle
  obtain ⟨M, hM1, hM2, hM3⟩ := bi_maxL (xs := ls.map fun s => (s.length : Int)) (by simp [hne])
  rw [List.map_map] at hM1
  obtain ⟨s0, hs0, eM⟩ := List.mem_map.mp hM2
  have hM0 : 0 ≤ M ∧ M ≤ 10 := by have := hle s0 hs0; omega
  have c1 : ev (run GP (k + 1)) (.comp [6] true (.seq (.var 4)) [] (.bi .len [.var 6])) (ApS.env n ts ⟨m3, m4, ls, x1⟩) = some (.ok (.dp, .lst (ls.map (D.int ∘ fun s => (s.length : Int))))) := by
    refine ev_compA (m := .sh) eIL ls _ ?_ ?_
    · simp [-List.map_append, q_var, q_lit, q_bin, q_cmp, q_chn, q_chn3, q_neg, q_not, q_and, q_or, q_ite, q_tup, q_lst, q_sub, q_slc, q_rev, q_cal, q_cav, q_bi, q_mix, q_isi, q_dnew, q_nil, q_cons, q_cnil, q_ccons, q_sseq, q_srng, q_senu, q_szip, q_xnil, q_xcons, q_pass, q_asg, q_par, q_unp, q_exp, q_ife, q_ret, q_rai, q_aug, q_mut, evr, evrs, mv, mvs, evP, callF, start0, give_eq, gives_eq, keep, nm, nms, nmS, ownS, frz, frzS, setAll, setSh, closeds, boxM, tupM, bindT, okOnly, optI, itemsD, listD, getP, ApS.env]
    · intro s _
      refine ⟨_, rfl, .dp, ?_, rfl⟩
      simp [-List.map_append, q_var, q_lit, q_bin, q_cmp, q_chn, q_chn3, q_neg, q_not, q_and, q_or, q_ite, q_tup, q_lst, q_sub, q_slc, q_rev, q_cal, q_cav, q_bi, q_mix, q_isi, q_dnew, q_nil, q_cons, q_cnil, q_ccons, q_sseq, q_srng, q_senu, q_szip, q_xnil, q_xcons, q_pass, q_asg, q_par, q_unp, q_exp, q_ife, q_ret, q_rai, q_aug, q_mut, evr, evrs, mv, mvs, evP, callF, start0, give_eq, gives_eq, keep, nm, nms, nmS, ownS, frz, frzS, setAll, setSh, closeds, boxM, tupM, bindT, okOnly, optI, itemsD, listD, getP, ApS.env]
  have hf := counts_full (ls := ls) (M := M.toNat) ⟨s0, hs0, by omega⟩ fun s hs => by
    have := hM3 _ (List.mem_map.mpr ⟨s, hs, rfl⟩)
    omega
  have hrow : (List.range (M.toNat + 1)).map (fun m => ((ls.countP fun s => decide (s.length = m) : Nat) : Int)) = rowA (naT ts) (upto n.toNat) := by
    refine full_eq hf.1 (rowA_full _ _ _ rfl) fun m => ?_
    rw [hf.2, rowA_getD _ _ _ rfl]
    have := listsA_cnt (naT_sym fun t ht => (w.ok t ht).2.1) n.toNat (fun _ => true) m
    rw [← hls, List.filter_eq_self.mpr fun _ _ => rfl] at this
    rw [← this]
    congr 1
    apply List.countP_congr
    intro s _
    simp
  have c2 : ev (run GP (k + 1)) (.comp [5] true (.rng (.lit (.int 0)) (.bin .add (.var 2) (.lit (.int 1)))) [] (.bi .len [.comp [6] true (.seq (.var 4)) [.cmp .eq (.bi .len [.var 6]) (.var 5)] (.var 6)])) [some (.sh, webD n ts), x1, some (.sh, .int M), some (m3, nearD n ts), some (m4, .lst (ls.map eIL)), none, none, none] = some (.ok (.dp, .lst ((rowA (naT ts) (upto n.toNat)).map D.int))) := by
    rw [← hrow, List.map_map]
    refine ev_compA (m := .dp) (fun (j : Nat) => D.int (j : Int)) (List.range (M.toNat + 1)) _ ?_ ?_
    · simp [-List.map_append, q_var, q_lit, q_bin, q_cmp, q_chn, q_chn3, q_neg, q_not, q_and, q_or, q_ite, q_tup, q_lst, q_sub, q_slc, q_rev, q_cal, q_cav, q_bi, q_mix, q_isi, q_dnew, q_nil, q_cons, q_cnil, q_ccons, q_sseq, q_srng, q_senu, q_szip, q_xnil, q_xcons, q_pass, q_asg, q_par, q_unp, q_exp, q_ife, q_ret, q_rai, q_aug, q_mut, evr, evrs, mv, mvs, evP, callF, start0, give_eq, gives_eq, keep, nm, nms, nmS, ownS, frz, frzS, setAll, setSh, closeds, boxM, tupM, bindT, okOnly, optI, itemsD, listD, getP]
      refine ⟨rng_ok (by decide) (by omega) (by omega), ?_⟩
      have := rows_nil (M.toNat + 1)
      rwa [show (((M.toNat + 1 : Nat) : Int)) = M + 1 by omega] at this
    · intro m hm
      refine ⟨_, rfl, .dp, ?_, rfl⟩
      have c3 : ev (run GP (k + 1)) (.comp [6] true (.seq (.var 4)) [.cmp .eq (.bi .len [.var 6]) (.var 5)] (.var 6)) [some (.sh, webD n ts), x1, some (.sh, .int M), some (m3, nearD n ts), some (m4, .lst (ls.map eIL)), some (.sh, .int (m : Int)), none, none] = some (.ok (boxM ((ls.filter fun s => decide (s.length = m)).map fun s => (Md.sh, eIL s)), .lst ((ls.filter fun s => decide (s.length = m)).map eIL))) := by
        refine ev_comp (m := .sh) eIL ls (fun s => decide (s.length = m)) (fun s => (Md.sh, eIL s)) ?_ ?_
        · simp [-List.map_append, q_var, q_lit, q_bin, q_cmp, q_chn, q_chn3, q_neg, q_not, q_and, q_or, q_ite, q_tup, q_lst, q_sub, q_slc, q_rev, q_cal, q_cav, q_bi, q_mix, q_isi, q_dnew, q_nil, q_cons, q_cnil, q_ccons, q_sseq, q_srng, q_senu, q_szip, q_xnil, q_xcons, q_pass, q_asg, q_par, q_unp, q_exp, q_ife, q_ret, q_rai, q_aug, q_mut, evr, evrs, mv, mvs, evP, callF, start0, give_eq, gives_eq, keep, nm, nms, nmS, ownS, frz, frzS, setAll, setSh, closeds, boxM, tupM, bindT, okOnly, optI, itemsD, listD, getP]
        · intro s hs
          refine ⟨_, rfl, evC_one (m := .dp) ?_, fun _ => ?_⟩
          · simp [-List.map_append, q_var, q_lit, q_bin, q_cmp, q_chn, q_chn3, q_neg, q_not, q_and, q_or, q_ite, q_tup, q_lst, q_sub, q_slc, q_rev, q_cal, q_cav, q_bi, q_mix, q_isi, q_dnew, q_nil, q_cons, q_cnil, q_ccons, q_sseq, q_srng, q_senu, q_szip, q_xnil, q_xcons, q_pass, q_asg, q_par, q_unp, q_exp, q_ife, q_ret, q_rai, q_aug, q_mut, evr, evrs, mv, mvs, evP, callF, start0, give_eq, gives_eq, keep, nm, nms, nmS, ownS, frz, frzS, setAll, setSh, closeds, boxM, tupM, bindT, okOnly, optI, itemsD, listD, getP]
            omega
          · simp [-List.map_append, q_var, q_lit, q_bin, q_cmp, q_chn, q_chn3, q_neg, q_not, q_and, q_or, q_ite, q_tup, q_lst, q_sub, q_slc, q_rev, q_cal, q_cav, q_bi, q_mix, q_isi, q_dnew, q_nil, q_cons, q_cnil, q_ccons, q_sseq, q_srng, q_senu, q_szip, q_xnil, q_xcons, q_pass, q_asg, q_par, q_unp, q_exp, q_ife, q_ret, q_rai, q_aug, q_mut, evr, evrs, mv, mvs, evP, callF, start0, give_eq, gives_eq, keep, nm, nms, nmS, ownS, frz, frzS, setAll, setSh, closeds, boxM, tupM, bindT, okOnly, optI, itemsD, listD, getP]
      simp [-List.map_append, q_var, q_lit, q_bin, q_cmp, q_chn, q_chn3, q_neg, q_not, q_and, q_or, q_ite, q_tup, q_lst, q_sub, q_slc, q_rev, q_cal, q_cav, q_bi, q_mix, q_isi, q_dnew, q_nil, q_cons, q_cnil, q_ccons, q_sseq, q_srng, q_senu, q_szip, q_xnil, q_xcons, q_pass, q_asg, q_par, q_unp, q_exp, q_ife, q_ret, q_rai, q_aug, q_mut, evr, evrs, mv, mvs, evP, callF, start0, give_eq, gives_eq, keep, nm, nms, nmS, ownS, frz, frzS, setAll, setSh, closeds, boxM, tupM, bindT, okOnly, optI, itemsD, listD, getP, c3, List.countP_eq_length_filter]
  have e0 : closed .dp (.lst [.lst []]) = true := rfl
  simp [-List.map_append, q_var, q_lit, q_bin, q_cmp, q_chn, q_chn3, q_neg, q_not, q_and, q_or, q_ite, q_tup, q_lst, q_sub, q_slc, q_rev, q_cal, q_cav, q_bi, q_mix, q_isi, q_dnew, q_nil, q_cons, q_cnil, q_ccons, q_sseq, q_srng, q_senu, q_szip, q_xnil, q_xcons, q_pass, q_asg, q_par, q_unp, q_exp, q_ife, q_ret, q_rai, q_aug, q_mut, evr, evrs, mv, mvs, evP, callF, start0, give_eq, gives_eq, keep, nm, nms, nmS, ownS, frz, frzS, setAll, setSh, closeds, boxM, tupM, bindT, okOnly, optI, itemsD, listD, getP, fu_law_apart, c_law_near w, loop]
  rw [c1]
  simp [-List.map_append, q_var, q_lit, q_bin, q_cmp, q_chn, q_chn3, q_neg, q_not, q_and, q_or, q_ite, q_tup, q_lst, q_sub, q_slc, q_rev, q_cal, q_cav, q_bi, q_mix, q_isi, q_dnew, q_nil, q_cons, q_cnil, q_ccons, q_sseq, q_srng, q_senu, q_szip, q_xnil, q_xcons, q_pass, q_asg, q_par, q_unp, q_exp, q_ife, q_ret, q_rai, q_aug, q_mut, evr, evrs, mv, mvs, evP, callF, start0, give_eq, gives_eq, keep, nm, nms, nmS, ownS, frz, frzS, setAll, setSh, closeds, boxM, tupM, bindT, okOnly, optI, itemsD, listD, getP, hM1, ApS.env, c2]
end TW

set_option Elab.async false
set_option linter.all false
set_option maxRecDepth 100000
set_option maxHeartbeats 4000000
namespace TW
open PySem PySem.Spec PyProof.Rows L2

theorem Web.erase {n : Int} {ts : List (Int × Int)} (w : Web n ts) (i : Nat) : Web n (ts.eraseIdx i) := by
  refine ⟨w.lo, w.hi, ?_, fun p hp => w.ok p ((List.eraseIdx_sublist ts i).subset hp), w.ris.sublist (List.eraseIdx_sublist ts i)⟩
  exact Nat.le_trans (List.eraseIdx_sublist ts i).length_le w.len
theorem Web.more {n : Int} {ts : List (Int × Int)} (w : Web n ts) (h : n < 24) : Web (n + 1) ts := ⟨by have := w.lo; omega, by omega, w.len, fun p hp => by have := w.ok p hp; omega, w.ris⟩
theorem eqv_P : ∀ xs ys : List (Int × Int), PyData.eqvAll (toPys (xs.map eP)) (toPys (ys.map eP)) = decide (xs = ys)
  | [], [] => rfl
  | [], y :: ys => rfl
  | x :: xs, [] => rfl
  | x :: xs, y :: ys => by
    show (eqD (eP x) (eP y) && PyData.eqvAll (toPys (xs.map eP)) (toPys (ys.map eP))) = _
    rw [eqv_P xs ys, eqD_P]
    by_cases h1 : x = y <;> by_cases h2 : xs = ys <;> simp [h1, h2]
theorem dats_Pn : ∀ (ts : List (Int × Int)) (n : Nat), dats (ts.map eP) (n + 1) = true
  | [], _ => rfl
  | t :: ts, n => by
    show (true && dats (ts.map eP) (n + 1)) = true
    rw [dats_Pn ts n]
    rfl
theorem dat_lP (ts : List (Int × Int)) : dat (.lst (ts.map eP)) 20 = true := dats_Pn ts 18
theorem dat_web (n : Int) (ts : List (Int × Int)) : dat (webD n ts) 20 = true := by
  show (true && (dats (ts.map eP) 18 && true)) = true
  rw [dats_Pn ts 17]
  rfl
theorem eqD_lP (xs ys : List (Int × Int)) : eqD (.lst (xs.map eP)) (.lst (ys.map eP)) = decide (xs = ys) := eqv_P xs ys
theorem eqD_web (n m : Int) (xs ys : List (Int × Int)) : eqD (webD n xs) (webD m ys) = (decide (n = m) && decide (xs = ys)) := by
  show ((n == m) && (eqD (.lst (xs.map eP)) (.lst (ys.map eP)) && true)) = _
  rw [eqD_lP, Bool.and_true]
  by_cases h : n = m <;> simp [h]
theorem ne_P (xs ys : List (Int × Int)) : cmpD .ne (.lst (xs.map eP)) (.lst (ys.map eP)) = some (!decide (xs = ys)) := by
  show (if dat (.lst (xs.map eP)) 20 && dat (.lst (ys.map eP)) 20 then some (!eqD (.lst (xs.map eP)) (.lst (ys.map eP))) else none) = _
  rw [dat_lP, dat_lP, eqD_lP]
  rfl
theorem eq_P (xs ys : List (Int × Int)) : cmpD .eq (.lst (xs.map eP)) (.lst (ys.map eP)) = some (decide (xs = ys)) := by
  show (if dat (.lst (xs.map eP)) 20 && dat (.lst (ys.map eP)) 20 then some (eqD (.lst (xs.map eP)) (.lst (ys.map eP))) else none) = _
  rw [dat_lP, dat_lP, eqD_lP]
  rfl
theorem ne_P0 (xs : List (Int × Int)) : cmpD .ne (.lst (xs.map eP)) (.lst []) = some (!decide (xs = [])) := ne_P xs []
theorem eq_P0 (xs : List (Int × Int)) : cmpD .eq (.lst (xs.map eP)) (.lst []) = some (decide (xs = [])) := eq_P xs []
theorem ne_web (n m : Int) (xs ys : List (Int × Int)) : cmpD .ne (webD n xs) (webD m ys) = some (!(decide (n = m) && decide (xs = ys))) := by
  show (if dat (webD n xs) 20 && dat (webD m ys) 20 then some (!eqD (webD n xs) (webD m ys)) else none) = _
  rw [dat_web, dat_web, eqD_web]
  rfl
theorem eq_web (n m : Int) (xs ys : List (Int × Int)) : cmpD .eq (webD n xs) (webD m ys) = some (decide (n = m) && decide (xs = ys)) := by
  show (if dat (webD n xs) 20 && dat (webD m ys) 20 then some (eqD (webD n xs) (webD m ys)) else none) = _
  rw [dat_web, dat_web, eqD_web]
  rfl
theorem moL_app {xs : List D} (v : D) (h : xs.length < 1000000) : moL .append xs [v] = some (xs ++ [v]) := by
  show (if xs.length < SZ then some (xs ++ [v]) else none) = _
  rw [if_pos h]
theorem moL_appI {xs : List Int} (v : Int) (h : xs.length < 1000000) : moL .append (xs.map D.int) [.int v] = some ((xs ++ [v]).map D.int) := by
  rw [moL_app _ (by simpa using h), List.map_append]
  rfl
theorem map_erase {α β : Type} (f : α → β) : ∀ (xs : List α) (i : Nat), (xs.map f).eraseIdx i = (xs.eraseIdx i).map f
  | [], _ => rfl
  | x :: xs, 0 => rfl
  | x :: xs, i + 1 => by simp [map_erase f xs i]
theorem pop_web {n : Int} {ts : List (Int × Int)} {i : Int} (h0 : 0 ≤ i) (h1 : i < ts.length) (hl : ts.length ≤ 1000) : moP .pop [.int i] [1] (webD n ts) = some (webD n (ts.eraseIdx i.toNat)) := by
  have e1 : ixN 2 1 = some 1 := rfl
  have e2 : moL .pop (ts.map eP) [.int i] = some ((ts.eraseIdx i.toNat).map eP) := by
    show (if smallI i then (ixN (ts.map eP).length i).map fun j => (ts.map eP).eraseIdx j else none) = _
    have : smallI i = true := decide_eq_true (by omega)
    rw [this, List.length_map, ixN_ok h0 h1, if_pos rfl, Option.map_some, map_erase]
  show ((ixN 2 1).bind fun j => (([D.int n, .lst (ts.map eP)] : List D)[j]?).bind fun d => (moP .pop [.int i] [] d).map fun d' => D.tup ([D.int n, .lst (ts.map eP)].set j d')) = _
  rw [e1]
  show ((moL .pop (ts.map eP) [.int i]).map D.lst).map (fun d' => D.tup ([D.int n, .lst (ts.map eP)].set 1 d')) = _
  rw [e2]
  rfl
theorem cut_init {α : Type} (xs : List α) (x : α) : cutL (xs ++ [x]) none (some (-1)) = xs := by
  unfold cutL
  have e : HT.sIx (xs ++ [x]).length (xs ++ [x]).length (some (-1)) = xs.length := by
    show (if (-1 : Int) < 0 then ((-1 : Int) + ((xs ++ [x]).length : Int)).toNat else min (-1 : Int).toNat (xs ++ [x]).length) = _
    rw [if_pos (by decide), List.length_append, List.length_singleton]
    omega
  rw [e, HT.sIx_none, List.drop_zero, Nat.sub_zero]
  simp
theorem slc_initI (xs : List Int) (x : Int) : slcD (.lst ((xs ++ [x]).map D.int)) none (some (-1)) = some (.fl, .lst (xs.map D.int)) := by
  show some (Md.fl, D.lst (cutL ((xs ++ [x]).map D.int) none (some (-1)))) = _
  rw [List.map_append]
  simp only [List.map_cons, List.map_nil]
  rw [cut_init]
theorem c_law_whole (k : Nat) (i : Int) : run GP (k + 1) 25 [.int i] = some (.ok (.dp, .bl true)) := rfl
theorem nb_none {n : Int} {ts : List (Int × Int)} (w : Web n ts) : nb ts n = [] := by
  unfold nb
  rw [List.flatMap_eq_nil_iff]
  intro t ht
  have := w.ok t ht
  rw [if_neg (by omega), if_neg (by omega)]
theorem zip_addR : ∀ (xs ys : List Int), ys.length = xs.length + 1 → ((xs ++ [0]).zip ys).map (fun p : Int × Int => p.1 + p.2) = addR xs ys
  | [], [y], _ => by simp [addR]
  | x :: xs, y :: ys, h => by
    have := zip_addR xs ys (by simpa using h)
    simp [addR, this]
/-- one more place without ties -/
theorem row_more {n : Int} {ts : List (Int × Int)} (w : Web n ts) : rowA (naT ts) (upto (n + 1).toNat) = ((rowA (naT ts) (upto n.toNat) ++ [0]).zip (0 :: rowA (naT ts) (upto n.toNat))).map fun p : Int × Int => p.1 + p.2 := by
  have w0 := w.lo
  have sy := naT_sym fun t ht => (w.ok t ht).2.1
  rw [zip_addR _ _ (by simp)]
  have hf : Full (rowA (naT ts) (upto n.toNat)) := rowA_full _ _ _ rfl
  refine full_eq (rowA_full _ _ _ rfl) (addR_full hf hf) fun m => ?_
  rw [addR_getD, rowA_getD _ _ _ rfl, show (n + 1).toNat = n.toNat + 1 by omega, upto_succ, cntA_snoc sy _ _ rfl]
  have e : (upto n.toNat).filter (naT ts ((n.toNat : Nat) : Int)) = upto n.toNat := by
    rw [List.filter_eq_self]
    intro x _
    unfold naT
    rw [Int.toNat_of_nonneg w0, nb_none w]
    simp
  rw [e, rowA_getD _ _ _ rfl]
  cases m with
  | zero => simp [dn]
  | succ m =>
    have := rowA_getD (naT ts) _ (upto n.toNat) rfl m
    simp only [dn, List.getD_cons_succ, this]
    omega
end TW

set_option Elab.async false
set_option linter.all false
set_option maxRecDepth 100000
set_option maxHeartbeats 4000000
namespace TW
open PySem PySem.Spec PyProof.Rows L2

def K14 (ns : List Int) (whole most : Int) (e : Dn) : Prop := ∃ x3 x4 x5 x6 x7 x8 x9 x10 x11 : Sl, e = [some (.sh, .scr ns), some (.sh, .int whole), some (.sh, .int most), x3, x4, x5, x6, x7, x8, x9, x10, x11, none, none]
theorem at_2 (a b : D) : atI [a, b] 1 = some b := atI_nat (xs := [a, b]) (j := 1) rfl
theorem moP_nil (o : Mo) (vs xs : List D) : moP o vs [] (.lst xs) = (moL o xs vs).map D.lst := by simp only [moP]
def tl14 : List S := [.asg 8 (.cal 12 [.var 10]),
    .ife (.cmp .ne (.sub (.var 8) (.lit (.int 1))) (.lst [])) [.mut 8 [.lit (.int 1)] .pop [.bin .mod (.var 1) (.bi .len [.sub (.var 8) (.lit (.int 1))])],
    .ife (.cmp .ne (.cal 119 [.var 8]) (.cal 120 [.cal 35 [.var 8]])) [.ret (.lit (.bl false))] []] []]
def md14 : List S := .asg 7 (.bi .list [.var 5]) :: .mut 5 [] .append [.lit (.int 0)] :: .mut 6 [] .append [.lit (.int 0)] ::
    .ife (.or (.cmp .ne (.cal 118 [.var 4]) (.var 7)) (.cmp .ne (.cal 119 [.var 10]) (.slc false true (.var 6) (.lit .non) (.neg (.lit (.int 1)))))) [.ret (.lit (.bl false))] [] ::
    .ife (.cmp .ne (.sub (.var 4) (.lit (.int 1))) (.lst [])) [.mut 4 [.lit (.int 1)] .pop [.bin .mod (.var 1) (.bi .len [.sub (.var 4) (.lit (.int 1))])],
    .ife (.cmp .ne (.cal 118 [.var 4]) (.cal 120 [.var 4])) [.ret (.lit (.bl false))] []] [] :: tl14
theorem b14_eq : fu_law_14_b0 = .par [9, 10] [.cal 10 [.var 0, .var 3, .var 2, .lit (.int 12)], .cal 10 [.var 0, .bin .add (.var 3) (.lit (.int 2)), .lit (.int 8), .var 2]] ::
    .asg 4 (.cal 12 [.var 9]) ::
    .asg 5 (.cal 118 [.var 4]) ::
    .ife (.or (.not (.isi (.var 5) .list)) (.or (.cmp .ne (.var 5) (.cal 120 [.var 9])) (.cmp .ne (.var 4) (.var 9)))) [.ret (.lit (.bl false))] [] ::
    .ife (.not (.bi .all [.comp [12] true (.seq (.var 5)) [] (.cal 25 [.var 12])])) [.ret (.lit (.bl false))] [] ::
    .asg 6 (.cal 119 [.var 10]) ::
    .ife (.or (.cmp .ne (.var 6) (.cal 120 [.cal 35 [.var 10]])) (.cmp .ne (.var 6) (.cal 118 [.cal 33 [.var 10]]))) [.ret (.lit (.bl false))] [] ::
    .ife (.cmp .lt (.sub (.var 9) (.lit (.int 0))) (.lit (.int 10))) [.asg 11 (.cal 118 [.tup [.bin .add (.sub (.var 9) (.lit (.int 0))) (.lit (.int 1)), .sub (.var 9) (.lit (.int 1))]]),
    .ife (.cmp .ne (.var 11) (.comp [12, 13] false (.zip (.bin .add (.var 5) (.lst [.lit (.int 0)])) (.bin .add (.lst [.lit (.int 0)]) (.var 5))) [] (.bin .add (.var 12) (.var 13)))) [.ret (.lit (.bl false))] []] [] :: md14 := rfl
theorem k14_body {b : Nat} (hb1 : 40 ≤ b) (hb2 : b ≤ 1900000) {ns : List Int} (hb : ∀ z ∈ ns, Bd b z) {by_ whole most : Int} (hby : 0 ≤ by_ ∧ by_ ≤ 50) (hm : 7 ≤ most ∧ most ≤ 10) (x4 x5 x6 x7 x8 x9 x10 x11 : Sl) :
    ∃ e', exs (run GP 39) fu_law_14_b0 [some (.sh, .scr ns), some (.sh, .int whole), some (.sh, .int most), some (.sh, .int by_), x4, x5, x6, x7, x8, x9, x10, x11, none, none] = some (.ok (.nx e')) ∧ K14 ns whole most e' := by
  obtain ⟨n, ts, h1, w, hn, hl⟩ := c_web hb1 hb2 hb (by_ := by_) (p := most) (t := 12) (by omega) (by omega) (by omega) 37
  obtain ⟨n2, us, h2, w2, hn2, hl2⟩ := c_web hb1 hb2 hb (by_ := by_ + 2) (p := 8) (t := most) (by omega) (by omega) (by omega) 37
  have hl2 : us.length ≤ 10 := by omega
  have wt := tw_web (ts := us) (by omega)
  have f1 := c_places_apart w (by omega) (k := 39) (by decide)
  have f2 := c_law_apart w (by omega) 37
  have f3 := c_ties_apart w2 hl2 (k := 39) (by decide)
  have f4 := c_law_tie_web (n := n2) w2.len 38
  have f5 := c_law_apart wt (by omega) 37
  have f6 := c_tie_web w2 hl2 33
  have f7 := c_places_apart wt (by omega) (k := 39) (by decide)
  rw [Int.toNat_natCast] at f5 f7
  obtain ⟨row, hrow⟩ : ∃ r, rowA (naT ts) (upto n.toNat) = r := ⟨_, rfl⟩
  obtain ⟨row2, hrow2⟩ : ∃ r, rowA (naT (tw us)) (upto us.length) = r := ⟨_, rfl⟩
  have hrl : row.length ≤ 100 := by
    rw [← hrow]
    have := rowA_len (naT ts) _ (upto n.toNat) rfl
    rw [upto_len] at this
    omega
  have hrl2 : row2.length ≤ 100 := by
    rw [← hrow2]
    have := rowA_len (naT (tw us)) _ (upto us.length) rfl
    rw [upto_len] at this
    omega
  rw [hrow] at f1 f2
  rw [hrow2] at f3 f5 f7
  have w0 := w.lo
  have cp1 := c_law_copied n ts 38
  have cp2 := c_law_copied n2 us 38
  have w1 : ev (run GP 39) (.comp [12] true (.seq (.var 5)) [] (.cal 25 [.var 12])) [some (.sh, .scr ns), some (.sh, .int whole), some (.sh, .int most), some (.sh, .int by_), some (.dp, webD n ts), some (.dp, .lst (row.map D.int)), x6, x7, x8, some (.dp, webD n ts), some (.dp, webD n2 us), x11, none, none] = some (.ok (.dp, .lst (row.map fun _ => .bl true))) := by
    refine ev_compA (m := .sh) D.int row _ ?_ ?_
    · simp [-List.map_append, q_var, q_lit, q_bin, q_cmp, q_chn, q_chn3, q_neg, q_not, q_and, q_or, q_ite, q_tup, q_lst, q_sub, q_slc, q_rev, q_cal, q_cav, q_bi, q_mix, q_isi, q_dnew, q_nil, q_cons, q_cnil, q_ccons, q_sseq, q_srng, q_senu, q_szip, q_xnil, q_xcons, q_pass, q_asg, q_par, q_unp, q_exp, q_ife, q_ret, q_rai, q_aug, q_mut, evr, evrs, mv, mvs, evP, callF, start0, give_eq, gives_eq, keep, nm, nms, nmS, ownS, frz, frzS, setAll, setSh, closeds, boxM, tupM, bindT, okOnly, optI, itemsD, listD, getP]
    · intro i _
      refine ⟨_, rfl, .dp, ?_, rfl⟩
      simp [-List.map_append, q_var, q_lit, q_bin, q_cmp, q_chn, q_chn3, q_neg, q_not, q_and, q_or, q_ite, q_tup, q_lst, q_sub, q_slc, q_rev, q_cal, q_cav, q_bi, q_mix, q_isi, q_dnew, q_nil, q_cons, q_cnil, q_ccons, q_sseq, q_srng, q_senu, q_szip, q_xnil, q_xcons, q_pass, q_asg, q_par, q_unp, q_exp, q_ife, q_ret, q_rai, q_aug, q_mut, evr, evrs, mv, mvs, evP, callF, start0, give_eq, gives_eq, keep, nm, nms, nmS, ownS, frz, frzS, setAll, setSh, closeds, boxM, tupM, bindT, okOnly, optI, itemsD, listD, getP, c_law_whole]
  have a1 : binD .add (.lst (row.map D.int)) (.lst [.int 0]) = some (.fl, .lst ((row ++ [0]).map D.int)) := add_I (ys := [0]) (by simp; omega)
  have a2 : binD .add (.lst [.int 0]) (.lst (row.map D.int)) = some (.fl, .lst ((0 :: row).map D.int)) := add_I (xs := [0]) (by simp; omega)
  have z1 : n < 10 → ∃ fm : run GP 39 118 [webD (n + 1) ts] = some (.ok (.dp, .lst ((((row ++ [0]).zip (0 :: row)).map fun p : Int × Int => p.1 + p.2).map D.int))), True := fun h => by
    refine ⟨?_, trivial⟩
    have := c_places_apart (w.more (by omega)) (by omega) (k := 39) (by decide)
    rw [row_more w, hrow] at this
    exact this
  have w2' : ∀ x11 : Sl, ev (run GP 39) (.comp [12, 13] false (.zip (.bin .add (.var 5) (.lst [.lit (.int 0)])) (.bin .add (.lst [.lit (.int 0)]) (.var 5))) [] (.bin .add (.var 12) (.var 13))) [some (.sh, .scr ns), some (.sh, .int whole), some (.sh, .int most), some (.sh, .int by_), some (.dp, webD n ts), some (.dp, .lst (row.map D.int)), some (.dp, .lst (row2.map D.int)), x7, x8, some (.dp, webD n ts), some (.dp, webD n2 us), x11, none, none] = some (.ok (.dp, .lst ((((row ++ [0]).zip (0 :: row)).map fun p : Int × Int => p.1 + p.2).map D.int))) := fun x11 => by
    rw [List.map_map]
    refine ev_compA (m := .sh) (fun p : Int × Int => D.tup [.int p.1, .int p.2]) ((row ++ [0]).zip (0 :: row)) _ ?_ ?_
    · simp [-List.map_append, q_var, q_lit, q_bin, q_cmp, q_chn, q_chn3, q_neg, q_not, q_and, q_or, q_ite, q_tup, q_lst, q_sub, q_slc, q_rev, q_cal, q_cav, q_bi, q_mix, q_isi, q_dnew, q_nil, q_cons, q_cnil, q_ccons, q_sseq, q_srng, q_senu, q_szip, q_xnil, q_xcons, q_pass, q_asg, q_par, q_unp, q_exp, q_ife, q_ret, q_rai, q_aug, q_mut, evr, evrs, mv, mvs, evP, callF, start0, give_eq, gives_eq, keep, nm, nms, nmS, ownS, frz, frzS, setAll, setSh, closeds, boxM, tupM, bindT, okOnly, optI, itemsD, listD, getP, a1, a2]
      have := zipD_map D.int D.int (row ++ [0]) (0 :: row)
      simpa using this
    · intro p _
      refine ⟨_, rfl, .dp, ?_, rfl⟩
      simp [-List.map_append, q_var, q_lit, q_bin, q_cmp, q_chn, q_chn3, q_neg, q_not, q_and, q_or, q_ite, q_tup, q_lst, q_sub, q_slc, q_rev, q_cal, q_cav, q_bi, q_mix, q_isi, q_dnew, q_nil, q_cons, q_cnil, q_ccons, q_sseq, q_srng, q_senu, q_szip, q_xnil, q_xcons, q_pass, q_asg, q_par, q_unp, q_exp, q_ife, q_ret, q_rai, q_aug, q_mut, evr, evrs, mv, mvs, evP, callF, start0, give_eq, gives_eq, keep, nm, nms, nmS, ownS, frz, frzS, setAll, setSh, closeds, boxM, tupM, bindT, okOnly, optI, itemsD, listD, getP]
  obtain ⟨zs, hzs⟩ : ∃ zs, ((row ++ [0]).zip (0 :: row)).map (fun p : Int × Int => p.1 + p.2) = zs := ⟨_, rfl⟩
  rw [hzs] at z1 w2'
  have ap1 := moL_appI (xs := row) 0 (by omega)
  have ap2 := moL_appI (xs := row2) 0 (by omega)
  have sl := slc_initI row2 0
  have li : biD .list [.lst (row.map D.int)] = some (.fl, .lst (row.map D.int)) := rfl
  -- the lists changed
  have p1 : ts ≠ [] → ∃ us' : List (Int × Int), Web n us' ∧ binD .mod (.int whole) (.int (ts.length : Int)) = some (.dp, .int (whole % (ts.length : Int))) ∧ moP .pop [.int (whole % (ts.length : Int))] [1] (webD n ts) = some (webD n us') := fun h => by
    have hp : 0 < ts.length := List.length_pos_iff.mpr h
    have i0 := Int.emod_nonneg whole (b := (ts.length : Int)) (by omega)
    have i1 := Int.emod_lt_of_pos whole (b := (ts.length : Int)) (by omega)
    exact ⟨_, w.erase _, mod_ok (by omega), pop_web i0 i1 (by have := w.len; omega)⟩
  have p2 : us ≠ [] → ∃ us' : List (Int × Int), Web n2 us' ∧ us'.length ≤ us.length ∧ binD .mod (.int whole) (.int (us.length : Int)) = some (.dp, .int (whole % (us.length : Int))) ∧ moP .pop [.int (whole % (us.length : Int))] [1] (webD n2 us) = some (webD n2 us') := fun h => by
    have hp : 0 < us.length := List.length_pos_iff.mpr h
    have i0 := Int.emod_nonneg whole (b := (us.length : Int)) (by omega)
    have i1 := Int.emod_lt_of_pos whole (b := (us.length : Int)) (by omega)
    exact ⟨_, w2.erase _, (List.eraseIdx_sublist us _).length_le, mod_ok (by omega), pop_web i0 i1 (by omega)⟩
  have q1 : ∀ us' : List (Int × Int), Web n us' → ∃ r : List Int, run GP 39 118 [webD n us'] = some (.ok (.dp, .lst (r.map D.int))) ∧ run GP 39 120 [webD n us'] = some (.ok (.dp, .lst (r.map D.int))) := fun us' w' => ⟨_, c_places_apart w' (by omega) (k := 39) (by decide), c_law_apart w' (by omega) 37⟩
  have q2 : ∀ us' : List (Int × Int), Web n2 us' → us'.length ≤ us.length → ∃ r : List Int, run GP 39 119 [webD n2 us'] = some (.ok (.dp, .lst (r.map D.int))) ∧ run GP 39 35 [webD n2 us'] = some (.ok (.dp, webD us'.length (tw us'))) ∧ run GP 39 120 [webD us'.length (tw us')] = some (.ok (.dp, .lst (r.map D.int))) := fun us' w' hl' => by
    refine ⟨_, c_ties_apart w' (by omega) (k := 39) (by decide), c_law_tie_web (n := n2) w'.len 38, ?_⟩
    have := c_law_apart (tw_web (ts := us') (by omega)) (by omega) 37
    rwa [Int.toNat_natCast] at this
  -- the last two steps
  have last : ∀ (t1 : List (Int × Int)) (x3 x5 x6 x7 x8 x9 x11 : Sl), ∃ e', exs (run GP 39) tl14 [some (.sh, .scr ns), some (.sh, .int whole), some (.sh, .int most), x3, some (.dp, webD n t1), x5, x6, x7, x8, x9, some (.dp, webD n2 us), x11, none, none] = some (.ok (.nx e')) ∧ K14 ns whole most e' := fun t1 x3 x5 x6 x7 x8 x9 x11 => by
    by_cases h : us = []
    · refine ⟨[some (.sh, .scr ns), some (.sh, .int whole), some (.sh, .int most), x3, some (.dp, webD n t1), x5, x6, x7, some (.dp, webD n2 us), x9, some (.dp, webD n2 us), x11, none, none], ?_, _, _, _, _, _, _, _, _, _, rfl⟩
      have hd : cmpD .ne (.lst (us.map eP)) (.lst []) = some false := by rw [ne_P0]; simp [h]
      simp [-List.map_append, q_var, q_lit, q_bin, q_cmp, q_chn, q_chn3, q_neg, q_not, q_and, q_or, q_ite, q_tup, q_lst, q_sub, q_slc, q_rev, q_cal, q_cav, q_bi, q_mix, q_isi, q_dnew, q_nil, q_cons, q_cnil, q_ccons, q_sseq, q_srng, q_senu, q_szip, q_xnil, q_xcons, q_pass, q_asg, q_par, q_unp, q_exp, q_ife, q_ret, q_rai, q_aug, q_mut, evr, evrs, mv, mvs, evP, callF, start0, give_eq, gives_eq, keep, nm, nms, nmS, ownS, frz, frzS, setAll, setSh, closeds, boxM, tupM, bindT, okOnly, optI, itemsD, listD, getP, tl14, cp2, hd]
    · obtain ⟨us', g1, g2, g3, g4⟩ := p2 h
      obtain ⟨r, r1, r2, r3⟩ := q2 us' g1 g2
      refine ⟨[some (.sh, .scr ns), some (.sh, .int whole), some (.sh, .int most), x3, some (.dp, webD n t1), x5, x6, x7, some (.dp, webD n2 us'), x9, some (.dp, webD n2 us), x11, none, none], ?_, _, _, _, _, _, _, _, _, _, rfl⟩
      simp [-List.map_append, q_var, q_lit, q_bin, q_cmp, q_chn, q_chn3, q_neg, q_not, q_and, q_or, q_ite, q_tup, q_lst, q_sub, q_slc, q_rev, q_cal, q_cav, q_bi, q_mix, q_isi, q_dnew, q_nil, q_cons, q_cnil, q_ccons, q_sseq, q_srng, q_senu, q_szip, q_xnil, q_xcons, q_pass, q_asg, q_par, q_unp, q_exp, q_ife, q_ret, q_rai, q_aug, q_mut, evr, evrs, mv, mvs, evP, callF, start0, give_eq, gives_eq, keep, nm, nms, nmS, ownS, frz, frzS, setAll, setSh, closeds, boxM, tupM, bindT, okOnly, optI, itemsD, listD, getP, tl14, cp2, ne_P0, h, g3, moS, at_2, g4, r1, r2, r3, ne_I]
  -- from the change of the lists on
  have mid : ∀ (x3 x7 x8 x11 : Sl), ∃ e', exs (run GP 39) md14 [some (.sh, .scr ns), some (.sh, .int whole), some (.sh, .int most), x3, some (.dp, webD n ts), some (.dp, .lst (row.map D.int)), some (.dp, .lst (row2.map D.int)), x7, x8, some (.dp, webD n ts), some (.dp, webD n2 us), x11, none, none] = some (.ok (.nx e')) ∧ K14 ns whole most e' := fun x3 x7 x8 x11 => by
    by_cases h : ts = []
    · obtain ⟨e', g1, g2⟩ := last ts x3 (some (.dp, .lst ((row ++ [0]).map D.int))) (some (.dp, .lst ((row2 ++ [0]).map D.int))) (some (.fl, .lst (row.map D.int))) x8 (some (.dp, webD n ts)) x11
      refine ⟨e', ?_, g2⟩
      have hd : cmpD .ne (.lst (ts.map eP)) (.lst []) = some false := by rw [ne_P0]; simp [h]
      simp [-List.map_append, q_var, q_lit, q_bin, q_cmp, q_chn, q_chn3, q_neg, q_not, q_and, q_or, q_ite, q_tup, q_lst, q_sub, q_slc, q_rev, q_cal, q_cav, q_bi, q_mix, q_isi, q_dnew, q_nil, q_cons, q_cnil, q_ccons, q_sseq, q_srng, q_senu, q_szip, q_xnil, q_xcons, q_pass, q_asg, q_par, q_unp, q_exp, q_ife, q_ret, q_rai, q_aug, q_mut, evr, evrs, mv, mvs, evP, callF, start0, give_eq, gives_eq, keep, nm, nms, nmS, ownS, frz, frzS, setAll, setSh, closeds, boxM, tupM, bindT, okOnly, optI, itemsD, listD, getP, md14, li, moS, moP_nil, at_2, ap1, ap2, sl, f1, f3, ne_I, hd, g1]
    · obtain ⟨us', w', g3, g4⟩ := p1 h
      obtain ⟨r, r1, r2⟩ := q1 us' w'
      obtain ⟨e', g1, g2⟩ := last us' x3 (some (.dp, .lst ((row ++ [0]).map D.int))) (some (.dp, .lst ((row2 ++ [0]).map D.int))) (some (.fl, .lst (row.map D.int))) x8 (some (.dp, webD n ts)) x11
      refine ⟨e', ?_, g2⟩
      simp [-List.map_append, q_var, q_lit, q_bin, q_cmp, q_chn, q_chn3, q_neg, q_not, q_and, q_or, q_ite, q_tup, q_lst, q_sub, q_slc, q_rev, q_cal, q_cav, q_bi, q_mix, q_isi, q_dnew, q_nil, q_cons, q_cnil, q_ccons, q_sseq, q_srng, q_senu, q_szip, q_xnil, q_xcons, q_pass, q_asg, q_par, q_unp, q_exp, q_ife, q_ret, q_rai, q_aug, q_mut, evr, evrs, mv, mvs, evP, callF, start0, give_eq, gives_eq, keep, nm, nms, nmS, ownS, frz, frzS, setAll, setSh, closeds, boxM, tupM, bindT, okOnly, optI, itemsD, listD, getP, md14, li, moS, moP_nil, at_2, ap1, ap2, sl, f1, f3, ne_I, ne_P0, h, g3, g4, r1, r2, g1]
  by_cases h10 : n < 10
  · obtain ⟨fm, _⟩ := z1 h10
    obtain ⟨e', g1, g2⟩ := mid (some (.sh, .int by_)) x7 x8 (some (.dp, .lst (zs.map D.int)))
    refine ⟨e', ?_, g2⟩
    rw [b14_eq]
    simp [-List.map_append, q_var, q_lit, q_bin, q_cmp, q_chn, q_chn3, q_neg, q_not, q_and, q_or, q_ite, q_tup, q_lst, q_sub, q_slc, q_rev, q_cal, q_cav, q_bi, q_mix, q_isi, q_dnew, q_nil, q_cons, q_cnil, q_ccons, q_sseq, q_srng, q_senu, q_szip, q_xnil, q_xcons, q_pass, q_asg, q_par, q_unp, q_exp, q_ife, q_ret, q_rai, q_aug, q_mut, evr, evrs, mv, mvs, evP, callF, start0, give_eq, gives_eq, keep, nm, nms, nmS, ownS, frz, frzS, setAll, setSh, closeds, boxM, tupM, bindT, okOnly, optI, itemsD, listD, getP, h1, h2, cp1, f1, f2, ne_I, ne_web, w1, all_tt, f3, f4, f5, f6, f7, h10, fm, w2', g1]
  · obtain ⟨e', g1, g2⟩ := mid (some (.sh, .int by_)) x7 x8 x11
    refine ⟨e', ?_, g2⟩
    rw [b14_eq]
    simp [-List.map_append, q_var, q_lit, q_bin, q_cmp, q_chn, q_chn3, q_neg, q_not, q_and, q_or, q_ite, q_tup, q_lst, q_sub, q_slc, q_rev, q_cal, q_cav, q_bi, q_mix, q_isi, q_dnew, q_nil, q_cons, q_cnil, q_ccons, q_sseq, q_srng, q_senu, q_szip, q_xnil, q_xcons, q_pass, q_asg, q_par, q_unp, q_exp, q_ife, q_ret, q_rai, q_aug, q_mut, evr, evrs, mv, mvs, evP, callF, start0, give_eq, gives_eq, keep, nm, nms, nmS, ownS, frz, frzS, setAll, setSh, closeds, boxM, tupM, bindT, okOnly, optI, itemsD, listD, getP, h1, h2, cp1, f1, f2, ne_I, ne_web, w1, all_tt, f3, f4, f5, f6, f7, h10, g1]
end TW

set_option Elab.async false
set_option linter.all false
set_option maxRecDepth 100000
set_option maxHeartbeats 4000000
namespace TW
open PySem PySem.Spec PyProof.Rows L2
def re14 : S := .ret (.and (.cmp .eq (.cal 118 [.tup [.lit (.int 3), .lst [.tup [.lit (.int 0), .lit (.int 1)]]]]) (.lst [.lit (.int 1), .lit (.int 3), .lit (.int 2)])) (.cmp .eq (.cal 119 [.tup [.lit (.int 4), .lst [.tup [.lit (.int 0), .lit (.int 1)], .tup [.lit (.int 1), .lit (.int 2)], .tup [.lit (.int 2), .lit (.int 3)]]]]) (.lst [.lit (.int 1), .lit (.int 3), .lit (.int 1)])))
theorem fin14 (s0 s1 s2 s3 s4 s5 s6 s7 s8 s9 s10 s11 : Sl) : ex (run GP 39) re14 [s0, s1, s2, s3, s4, s5, s6, s7, s8, s9, s10, s11, none, none] = some (.ok (.rt .dp (.bl true))) := by
  kernel_rfl
theorem law14_eq : fu_law_14 = ⟨1, 14, [.asg 1 (.bi .sum [.slc false true (.var 0) (.lit .non) (.lit (.int 63))]), .asg 2 (.ite (.cmp .eq (.bin .mod (.var 1) (.lit (.int 32))) (.lit (.int 7))) (.lit (.int 10)) (.lit (.int 7))), .for_ [3] true (.rng (.lit (.int 0)) (.lit (.int 2))) fu_law_14_b0, re14]⟩ := rfl
theorem rng2 : (if rngOk 0 2 = true then (ok (Md.dp, rngD 0 2) : M (Md × List D)) else none) = some (.ok (.dp, (List.range 2).map fun (i : Nat) => D.int (i : Int))) := rfl
theorem rng3 : (if rngOk 0 3 = true then (ok (Md.dp, rngD 0 3) : M (Md × List D)) else none) = some (.ok (.dp, (List.range 3).map fun (i : Nat) => D.int (i : Int))) := rfl
theorem bits_all {ns : List Int} (hbits : ∀ z ∈ ns, Builtin.Int.intBits z ≤ 1048576) : ∃ b : Nat, 40 ≤ b ∧ b ≤ 1900000 ∧ ∀ z ∈ ns, Bd b z := by
  obtain ⟨b, hb1, hb2, hb3⟩ : ∃ b : Nat, 40 ≤ b ∧ b ≤ 1900000 ∧ b = 1048576 := ⟨1048576, by decide, by decide, rfl⟩
  rw [← hb3] at hbits
  exact ⟨b, hb1, hb2, fun z hz => bits_bd (hbits z hz)⟩
/-- the sum of a script's numbers -/
def sum63 (ns : List Int) : Int := (ns.take 63).sum
theorem ev_sum63 {F : Tb} {ns : List Int} {e : Dn} (h : e[0]? = some (some (.sh, .scr ns))) : ev F (.bi .sum [.slc false true (.var 0) (.lit .non) (.lit (.int 63))]) e = some (.ok (.dp, .int (sum63 ns))) := by
  have h63 : slcD (.scr ns) none (some 63) = some (.dp, .lst ((ns.take 63).map D.int)) := scr_cut ns 63
  unfold sum63
  obtain ⟨cs, hcs⟩ : ∃ cs, ns.take 63 = cs := ⟨_, rfl⟩
  rw [hcs] at h63 ⊢
  simp [-List.map_append, q_var, q_lit, q_bin, q_cmp, q_chn, q_chn3, q_neg, q_not, q_and, q_or, q_ite, q_tup, q_lst, q_sub, q_slc, q_rev, q_cal, q_cav, q_bi, q_mix, q_isi, q_dnew, q_nil, q_cons, q_cnil, q_ccons, q_sseq, q_srng, q_senu, q_szip, q_xnil, q_xcons, q_pass, q_asg, q_par, q_unp, q_exp, q_ife, q_ret, q_rai, q_aug, q_mut, evr, evrs, mv, mvs, evP, callF, start0, give_eq, gives_eq, keep, nm, nms, nmS, ownS, frz, frzS, setAll, setSh, closeds, boxM, tupM, bindT, okOnly, optI, itemsD, listD, getP, h, h63, bi_sum]
theorem k14_true (ns : List Int) (hlen : ns.length ≤ 63) (hbits : ∀ z ∈ ns, Builtin.Int.intBits z ≤ 1048576) : ∃ m, run GP 40 121 [.scr ns] = some (.ok (m, .bl true)) := by
  obtain ⟨b, hb1, hb2, hb⟩ := bits_all hbits
  refine ⟨.dp, ?_⟩
  show callF (run GP 39) fu_law_14 [.scr ns] = _
  obtain ⟨whole, hw⟩ : ∃ w, sum63 ns = w := ⟨_, rfl⟩
  have s1 := ev_sum63 (F := run GP 39) (ns := ns) (e := [some (.sh, .scr ns), none, none, none, none, none, none, none, none, none, none, none, none, none]) rfl
  rw [hw] at s1
  have m1 : binD .mod (.int whole) (.int 32) = some (.dp, .int (whole % 32)) := mod_ok (by decide)
  obtain ⟨most, hmost, hm⟩ : ∃ most : Int, (7 ≤ most ∧ most ≤ 10) ∧ ev (run GP 39) (.ite (.cmp .eq (.bin .mod (.var 1) (.lit (.int 32))) (.lit (.int 7))) (.lit (.int 10)) (.lit (.int 7))) [some (.sh, .scr ns), some (.sh, .int whole), none, none, none, none, none, none, none, none, none, none, none, none] = some (.ok (.dp, .int most)) := by
    by_cases h : whole % 32 = 7
    · exact ⟨10, by omega, by simp [-List.map_append, q_var, q_lit, q_bin, q_cmp, q_chn, q_chn3, q_neg, q_not, q_and, q_or, q_ite, q_tup, q_lst, q_sub, q_slc, q_rev, q_cal, q_cav, q_bi, q_mix, q_isi, q_dnew, q_nil, q_cons, q_cnil, q_ccons, q_sseq, q_srng, q_senu, q_szip, q_xnil, q_xcons, q_pass, q_asg, q_par, q_unp, q_exp, q_ife, q_ret, q_rai, q_aug, q_mut, evr, evrs, mv, mvs, evP, callF, start0, give_eq, gives_eq, keep, nm, nms, nmS, ownS, frz, frzS, setAll, setSh, closeds, boxM, tupM, bindT, okOnly, optI, itemsD, listD, getP, m1, h]⟩
    · exact ⟨7, by omega, by simp [-List.map_append, q_var, q_lit, q_bin, q_cmp, q_chn, q_chn3, q_neg, q_not, q_and, q_or, q_ite, q_tup, q_lst, q_sub, q_slc, q_rev, q_cal, q_cav, q_bi, q_mix, q_isi, q_dnew, q_nil, q_cons, q_cnil, q_ccons, q_sseq, q_srng, q_senu, q_szip, q_xnil, q_xcons, q_pass, q_asg, q_par, q_unp, q_exp, q_ife, q_ret, q_rai, q_aug, q_mut, evr, evrs, mv, mvs, evP, callF, start0, give_eq, gives_eq, keep, nm, nms, nmS, ownS, frz, frzS, setAll, setSh, closeds, boxM, tupM, bindT, okOnly, optI, itemsD, listD, getP, m1, h]⟩
  obtain ⟨e', g1, x3, x4, x5, x6, x7, x8, x9, x10, x11, rfl⟩ := ex_forI (F := run GP 39) (ts := [3]) (one := true) (s := .rng (.lit (.int 0)) (.lit (.int 2))) (b := fu_law_14_b0) (e := [some (.sh, .scr ns), some (.sh, .int whole), some (.sh, .int most), none, none, none, none, none, none, none, none, none, none, none]) (m := .dp) (fun (i : Nat) => D.int (i : Int)) (List.range 2) (K14 ns whole most) (by simp [-List.map_append, q_var, q_lit, q_bin, q_cmp, q_chn, q_chn3, q_neg, q_not, q_and, q_or, q_ite, q_tup, q_lst, q_sub, q_slc, q_rev, q_cal, q_cav, q_bi, q_mix, q_isi, q_dnew, q_nil, q_cons, q_cnil, q_ccons, q_sseq, q_srng, q_senu, q_szip, q_xnil, q_xcons, q_pass, q_asg, q_par, q_unp, q_exp, q_ife, q_ret, q_rai, q_aug, q_mut, evr, evrs, mv, mvs, evP, callF, start0, give_eq, gives_eq, keep, nm, nms, nmS, ownS, frz, frzS, setAll, setSh, closeds, boxM, tupM, bindT, okOnly, optI, itemsD, listD, getP, rng2]) ⟨_, _, _, _, _, _, _, _, _, rfl⟩ (fun i hi e h => by
      obtain ⟨x3, x4, x5, x6, x7, x8, x9, x10, x11, rfl⟩ := h
      have hi := List.mem_range.mp hi
      obtain ⟨e2, k1, k2⟩ := k14_body hb1 hb2 hb (by_ := (i : Int)) (whole := whole) (most := most) (by omega) hmost x4 x5 x6 x7 x8 x9 x10 x11
      exact ⟨_, rfl, e2, k1, k2⟩)
  rw [law14_eq]
  have f := fin14 (some (.sh, .scr ns)) (some (.sh, .int whole)) (some (.sh, .int most)) x3 x4 x5 x6 x7 x8 x9 x10 x11
  simp only [callF, start0, List.length_cons, List.length_nil, List.map_cons, List.map_nil, if_true, q_xcons, q_asg]
  simp only [List.replicate, List.cons_append, List.nil_append, s1, bnd_ok]
  simp [keep, give_eq, hm, g1, f, q_xcons, q_asg]
end TW

set_option Elab.async false
set_option linter.all false
set_option maxRecDepth 100000
set_option maxHeartbeats 0
namespace k14_whole_apart
open PySem PySem.Spec PyProof.Rows L2 TW
def top (i : Nat) : Stmt := PySem.Challenge.pw_tieweb_k14_whole_apart.main.body.getD i (.Pass ⟨0, 0, 0, 0⟩)
def d0 : He.DefD := ⟨("is_whole", none), "is_whole", "is_whole", defArgs (top 7), defBody (top 7), defScope (top 7), [], []⟩
def d1 : He.DefD := ⟨("is_below", none), "is_below", "is_below", defArgs (top 8), defBody (top 8), defScope (top 8), [], []⟩
def d2 : He.DefD := ⟨("is_tie", none), "is_tie", "is_tie", defArgs (top 9), defBody (top 9), defScope (top 9), [], []⟩
def d3 : He.DefD := ⟨("is_web", none), "is_web", "is_web", defArgs (top 10), defBody (top 10), defScope (top 10), [], []⟩
def d4 : He.DefD := ⟨("check_small", none), "check_small", "check_small", defArgs (top 11), defBody (top 11), defScope (top 11), [], []⟩
def d5 : He.DefD := ⟨("check_places", none), "check_places", "check_places", defArgs (top 12), defBody (top 12), defScope (top 12), [], []⟩
def d6 : He.DefD := ⟨("check_few_ties", none), "check_few_ties", "check_few_ties", defArgs (top 13), defBody (top 13), defScope (top 13), [], []⟩
def d7 : He.DefD := ⟨("near_of", none), "near_of", "near_of", defArgs (top 14), defBody (top 14), defScope (top 14), [], []⟩
def d8 : He.DefD := ⟨("tie_web_of", none), "tie_web_of", "tie_web_of", defArgs (top 16), defBody (top 16), defScope (top 16), [], []⟩
def d9 : He.DefD := ⟨("tie_web", none), "tie_web", "tie_web", defArgs (top 17), defBody (top 17), defScope (top 17), [], []⟩
def d10 : He.DefD := ⟨("added", none), "added", "added", defArgs (top 19), defBody (top 19), defScope (top 19), [], []⟩
def d11 : He.DefD := ⟨("apart_of", none), "apart_of", "apart_of", defArgs (top 20), defBody (top 20), defScope (top 20), [], []⟩
def d12 : He.DefD := ⟨("places_apart", none), "places_apart", "places_apart", defArgs (top 21), defBody (top 21), defScope (top 21), [], []⟩
def d13 : He.DefD := ⟨("ties_apart", none), "ties_apart", "ties_apart", defArgs (top 22), defBody (top 22), defScope (top 22), [], []⟩
def d14 : He.DefD := ⟨("_law_number", none), "_law_number", "_law_number", defArgs (top 24), defBody (top 24), defScope (top 24), [], []⟩
def d15 : He.DefD := ⟨("_law_web", none), "_law_web", "_law_web", defArgs (top 25), defBody (top 25), defScope (top 25), [], []⟩
def d16 : He.DefD := ⟨("_law_tie_web", none), "_law_tie_web", "_law_tie_web", defArgs (top 26), defBody (top 26), defScope (top 26), [], []⟩
def d17 : He.DefD := ⟨("_law_whole", none), "_law_whole", "_law_whole", defArgs (top 27), defBody (top 27), defScope (top 27), [], []⟩
def d18 : He.DefD := ⟨("_law_near", none), "_law_near", "_law_near", defArgs (top 28), defBody (top 28), defScope (top 28), [], []⟩
def d19 : He.DefD := ⟨("_law_copied", none), "_law_copied", "_law_copied", defArgs (top 29), defBody (top 29), defScope (top 29), [], []⟩
def d20 : He.DefD := ⟨("_law_apart", none), "_law_apart", "_law_apart", defArgs (top 30), defBody (top 30), defScope (top 30), [], []⟩
def d21 : He.DefD := ⟨("law", none), "law", "law", defArgs (top 31), defBody (top 31), defScope (top 31), [], []⟩
def fn : List He.DefD := [d0, d1, d2, d3, d4, d5, d6, d7, d8, d9, d10, d11, d12, d13, d14, d15, d16, d17, d18, d19, d20, d21]
def fa : List He.Fa := [.glo "is_whole", .glo "is_below", .glo "is_tie", .glo "is_web", .glo "check_small", .glo "check_places", .glo "check_few_ties", .glo "near_of", .glo "tie_web_of", .glo "tie_web", .glo "added", .glo "apart_of", .glo "places_apart", .glo "ties_apart", .glo "_law_number", .glo "_law_web", .glo "_law_tie_web", .glo "_law_whole", .glo "_law_near", .glo "_law_copied", .glo "_law_apart", .glo "law", .free "all", .free "any", .free "bool", .free "enumerate", .free "int", .free "isinstance", .free "len", .free "list", .free "max", .free "min", .free "range", .free "sorted", .free "sum", .free "tuple", .free "zip", .int "MOST_PLACES" 24, .int "MOST_TIES" 66, .int "SMALL" 10, .glo "WebError", .exc "WebError", .glo "BadWeb", .exc "BadWeb"]
def fad (K : PySem.W.Frag) (n : Nat) : Addr := He.fAd K (gnm.getD n "", none)
def cad (K : PySem.W.Frag) (n : Nat) : Addr := He.ga K (["WebError", "BadWeb", "BadPlaces", "BadOrder", "TooMany", "Answer", "Cover", "Barred", "BadGroups", "BadRow", "BadColours", "NoCover"].getD n "")
abbrev Wof (K : PySem.W.Frag) : Wd := ⟨K, fad K, cad K⟩
structure Fx (K : PySem.W.Frag) (mg : Str → Option Value) : Prop where
  g_0 : mg "is_whole" = some (.ref ((Wof K).fa 0))
  g_1 : mg "is_below" = some (.ref ((Wof K).fa 1))
  g_2 : mg "is_tie" = some (.ref ((Wof K).fa 2))
  g_3 : mg "is_web" = some (.ref ((Wof K).fa 3))
  g_4 : mg "check_small" = some (.ref ((Wof K).fa 37))
  g_5 : mg "check_places" = some (.ref ((Wof K).fa 38))
  g_6 : mg "check_few_ties" = some (.ref ((Wof K).fa 31))
  g_7 : mg "near_of" = some (.ref ((Wof K).fa 5))
  g_8 : mg "tie_web_of" = some (.ref ((Wof K).fa 32))
  g_9 : mg "tie_web" = some (.ref ((Wof K).fa 33))
  g_10 : mg "added" = some (.ref ((Wof K).fa 116))
  g_11 : mg "apart_of" = some (.ref ((Wof K).fa 117))
  g_12 : mg "places_apart" = some (.ref ((Wof K).fa 118))
  g_13 : mg "ties_apart" = some (.ref ((Wof K).fa 119))
  g_14 : mg "_law_number" = some (.ref ((Wof K).fa 9))
  g_15 : mg "_law_web" = some (.ref ((Wof K).fa 10))
  g_16 : mg "_law_tie_web" = some (.ref ((Wof K).fa 35))
  g_17 : mg "_law_whole" = some (.ref ((Wof K).fa 25))
  g_18 : mg "_law_near" = some (.ref ((Wof K).fa 11))
  g_19 : mg "_law_copied" = some (.ref ((Wof K).fa 12))
  g_20 : mg "_law_apart" = some (.ref ((Wof K).fa 120))
  g_21 : mg "law" = some (.ref ((Wof K).fa 121))
  m_all : mg "all" = none
  m_any : mg "any" = none
  m_bool : mg "bool" = none
  m_enumerate : mg "enumerate" = none
  m_int : mg "int" = none
  m_isinstance : mg "isinstance" = none
  m_len : mg "len" = none
  m_list : mg "list" = none
  m_max : mg "max" = none
  m_min : mg "min" = none
  m_range : mg "range" = none
  m_sorted : mg "sorted" = none
  m_sum : mg "sum" = none
  m_tuple : mg "tuple" = none
  m_zip : mg "zip" = none
  i_MOST_PLACES : ∃ t, mg "MOST_PLACES" = some (.int 24 t)
  i_MOST_TIES : ∃ t, mg "MOST_TIES" = some (.int 66 t)
  i_SMALL : ∃ t, mg "SMALL" = some (.int 10 t)
  c_0 : mg "WebError" = some (.ref ((Wof K).ca 0))
  e0_1 : PySem.W.excIn K ((Wof K).ca 0) He.veBase "ValueError.__new__" = true
  e0_2 : PySem.W.keepIn K (.ref ((Wof K).ca 0)) = true
  e0_3 : PySem.W.subIn K (.ref ((Wof K).ca 0)) (.type "BaseException") = some true
  e0_4 : PySem.W.typeIn K (.ref ((Wof K).ca 0)) = some (.type "type")
  c_1 : mg "BadWeb" = some (.ref ((Wof K).ca 1))
  e1_1 : PySem.W.excIn K ((Wof K).ca 1) He.veBase "ValueError.__new__" = true
  e1_2 : PySem.W.keepIn K (.ref ((Wof K).ca 1)) = true
  e1_3 : PySem.W.subIn K (.ref ((Wof K).ca 1)) (.type "BaseException") = some true
  e1_4 : PySem.W.typeIn K (.ref ((Wof K).ca 1)) = some (.type "type")
theorem fx_of {K : PySem.W.Frag} {h : Heap} {mg : Str → Option Value} (X : K.In h) (G : h.Ns mainGlobals mg) (c : He.SaysD fa fn K) : Fx K mg := ⟨He.glo_ok X G (c.fact 0 (f := .glo "is_whole") rfl),
  He.glo_ok X G (c.fact 1 (f := .glo "is_below") rfl),
  He.glo_ok X G (c.fact 2 (f := .glo "is_tie") rfl),
  He.glo_ok X G (c.fact 3 (f := .glo "is_web") rfl),
  He.glo_ok X G (c.fact 4 (f := .glo "check_small") rfl),
  He.glo_ok X G (c.fact 5 (f := .glo "check_places") rfl),
  He.glo_ok X G (c.fact 6 (f := .glo "check_few_ties") rfl),
  He.glo_ok X G (c.fact 7 (f := .glo "near_of") rfl),
  He.glo_ok X G (c.fact 8 (f := .glo "tie_web_of") rfl),
  He.glo_ok X G (c.fact 9 (f := .glo "tie_web") rfl),
  He.glo_ok X G (c.fact 10 (f := .glo "added") rfl),
  He.glo_ok X G (c.fact 11 (f := .glo "apart_of") rfl),
  He.glo_ok X G (c.fact 12 (f := .glo "places_apart") rfl),
  He.glo_ok X G (c.fact 13 (f := .glo "ties_apart") rfl),
  He.glo_ok X G (c.fact 14 (f := .glo "_law_number") rfl),
  He.glo_ok X G (c.fact 15 (f := .glo "_law_web") rfl),
  He.glo_ok X G (c.fact 16 (f := .glo "_law_tie_web") rfl),
  He.glo_ok X G (c.fact 17 (f := .glo "_law_whole") rfl),
  He.glo_ok X G (c.fact 18 (f := .glo "_law_near") rfl),
  He.glo_ok X G (c.fact 19 (f := .glo "_law_copied") rfl),
  He.glo_ok X G (c.fact 20 (f := .glo "_law_apart") rfl),
  He.glo_ok X G (c.fact 21 (f := .glo "law") rfl),
  He.free_ok X G (c.fact 22 (f := .free "all") rfl),
  He.free_ok X G (c.fact 23 (f := .free "any") rfl),
  He.free_ok X G (c.fact 24 (f := .free "bool") rfl),
  He.free_ok X G (c.fact 25 (f := .free "enumerate") rfl),
  He.free_ok X G (c.fact 26 (f := .free "int") rfl),
  He.free_ok X G (c.fact 27 (f := .free "isinstance") rfl),
  He.free_ok X G (c.fact 28 (f := .free "len") rfl),
  He.free_ok X G (c.fact 29 (f := .free "list") rfl),
  He.free_ok X G (c.fact 30 (f := .free "max") rfl),
  He.free_ok X G (c.fact 31 (f := .free "min") rfl),
  He.free_ok X G (c.fact 32 (f := .free "range") rfl),
  He.free_ok X G (c.fact 33 (f := .free "sorted") rfl),
  He.free_ok X G (c.fact 34 (f := .free "sum") rfl),
  He.free_ok X G (c.fact 35 (f := .free "tuple") rfl),
  He.free_ok X G (c.fact 36 (f := .free "zip") rfl),
  He.int_ok X G (c.fact 37 (f := .int "MOST_PLACES" 24) rfl),
  He.int_ok X G (c.fact 38 (f := .int "MOST_TIES" 66) rfl),
  He.int_ok X G (c.fact 39 (f := .int "SMALL" 10) rfl),
  He.glo_ok X G (c.fact 40 (f := .glo "WebError") rfl),
  (He.exc_ok (c.fact 41 (f := .exc "WebError") rfl)).1,
  (He.exc_ok (c.fact 41 (f := .exc "WebError") rfl)).2.1,
  (He.exc_ok (c.fact 41 (f := .exc "WebError") rfl)).2.2.1,
  (He.exc_ok (c.fact 41 (f := .exc "WebError") rfl)).2.2.2,
  He.glo_ok X G (c.fact 42 (f := .glo "BadWeb") rfl),
  (He.exc_ok (c.fact 43 (f := .exc "BadWeb") rfl)).1,
  (He.exc_ok (c.fact 43 (f := .exc "BadWeb") rfl)).2.1,
  (He.exc_ok (c.fact 43 (f := .exc "BadWeb") rfl)).2.2.1,
  (He.exc_ok (c.fact 43 (f := .exc "BadWeb") rfl)).2.2.2⟩
def sig : List (Nat × Str × List Str) := [(0, "is_whole", ["thing"]), (1, "is_below", ["thing", "many"]), (2, "is_tie", ["thing", "many"]), (3, "is_web", ["thing"]), (37, "check_small", ["web"]), (38, "check_places", ["web", "most"]), (31, "check_few_ties", ["web", "most"]), (5, "near_of", ["web"]), (32, "tie_web_of", ["web"]), (33, "tie_web", ["web"]), (116, "added", ["one", "other"]), (117, "apart_of", ["beside_of", "left"]), (118, "places_apart", ["web"]), (119, "ties_apart", ["web"]), (9, "_law_number", ["_law_cell", "_law_at", "_law_whole_here"]), (10, "_law_web", ["_law_script", "_law_by", "_law_places", "_law_ties"]), (35, "_law_tie_web", ["_law_web_here"]), (25, "_law_whole", ["_law_found"]), (11, "_law_near", ["_law_web_here"]), (12, "_law_copied", ["_law_web_here"]), (120, "_law_apart", ["_law_web_here"]), (121, "law", ["_law_script"])]
section
variable {P : Program} {w : World} {K : PySem.W.Frag} {mg : Str → Option Value} {base : Heap} {T : Tb} {k : Nat}
def AllF (P : Program) (w : World) (K : PySem.W.Frag) (mg : Str → Option Value) (base : Heap) (T : Tb) (k : Nat) : Prop := ∀ (p j : Nat) (x : Str) (ps : List Str), sig[p]? = some (j, x, ps) → FnF P w mg base (Wof K) T k x j ps
theorem sc0 : FnScope ["thing"] ["thing"] (defScope (top 7)) := ⟨rfl, rfl, rfl, by decide +kernel, rfl, by decide +kernel, by decide +kernel⟩
theorem b0 (FX : Fx K mg) (hF : AllF P w K mg base T k) {f : Addr} (cdv : Value) (A : Around) (outer : List Env) (s : Shared) (H : Hp) (E : XK) (hr : Room k (A.deeper (envOfC "is_whole" (defScope (top 7)) s.heap.objs.size f cdv))) :
    PSs (cxOf (L2.CX P w) P w K mg base ["thing"] "is_whole" (defScope (top 7)) f cdv A outer s H E) (defBody (top 7)) (rdSs (Wof K) E T fu_is_whole.body) := by
  have hN : (["thing"] : List Str).Nodup := sc0.nd
  have hu0 : (A.deeper (envOfC "is_whole" (defScope (top 7)) s.heap.objs.size f cdv)).units < cLine := by have := hr.un; omega
  have hu4 : (A.deeper (envOfC "is_whole" (defScope (top 7)) s.heap.objs.size f cdv)).units + 64 < cLine := by have := hr.un; omega
  have hu5 : (A.deeper (envOfC "is_whole" (defScope (top 7)) s.heap.objs.size f cdv)).units + 65 < cLine := by have := hr.un; omega
  have tk : Takes (cxOf (L2.CX P w) P w K mg base ["thing"] "is_whole" (defScope (top 7)) f cdv A outer s H E) (fun cls d _ H => E cls d H) := takes_of rfl rfl rfl rfl
  have px : Passes (L2.CX P w) (cxOf (L2.CX P w) P w K mg base ["thing"] "is_whole" (defScope (top 7)) f cdv A outer s H E) E := passes_call tk fun _ _ _ _ h => h
  have po : PassesOwn (model P w) (cxOf (L2.CX P w) P w K mg base ["thing"] "is_whole" (defScope (top 7)) f cdv A outer s H E).A (cxOf (L2.CX P w) P w K mg base ["thing"] "is_whole" (defScope (top 7)) f cdv A outer s H E).env (cxOf (L2.CX P w) P w K mg base ["thing"] "is_whole" (defScope (top 7)) f cdv A outer s H E).xe := passes_of rfl
  refine s_cons (s_ret (r_of (c_and (c_isi rfl rfl rfl FX.m_isinstance rfl FX.m_int rfl (c_var 0)) (c_one (c_not (c_isi rfl rfl rfl FX.m_isinstance rfl FX.m_bool rfl (c_var 0))))))) ?_
  exact s_nil
theorem sc1 : FnScope ["thing", "many"] ["thing", "many"] (defScope (top 8)) := ⟨rfl, rfl, rfl, by decide +kernel, rfl, by decide +kernel, by decide +kernel⟩
theorem b1 (FX : Fx K mg) (hF : AllF P w K mg base T k) {f : Addr} (cdv : Value) (A : Around) (outer : List Env) (s : Shared) (H : Hp) (E : XK) (hr : Room k (A.deeper (envOfC "is_below" (defScope (top 8)) s.heap.objs.size f cdv))) :
    PSs (cxOf (L2.CX P w) P w K mg base ["thing", "many"] "is_below" (defScope (top 8)) f cdv A outer s H E) (defBody (top 8)) (rdSs (Wof K) E T fu_is_below.body) := by
  have hN : (["thing", "many"] : List Str).Nodup := sc1.nd
  have hu0 : (A.deeper (envOfC "is_below" (defScope (top 8)) s.heap.objs.size f cdv)).units < cLine := by have := hr.un; omega
  have hu4 : (A.deeper (envOfC "is_below" (defScope (top 8)) s.heap.objs.size f cdv)).units + 64 < cLine := by have := hr.un; omega
  have hu5 : (A.deeper (envOfC "is_below" (defScope (top 8)) s.heap.objs.size f cdv)).units + 65 < cLine := by have := hr.un; omega
  have tk : Takes (cxOf (L2.CX P w) P w K mg base ["thing", "many"] "is_below" (defScope (top 8)) f cdv A outer s H E) (fun cls d _ H => E cls d H) := takes_of rfl rfl rfl rfl
  have px : Passes (L2.CX P w) (cxOf (L2.CX P w) P w K mg base ["thing", "many"] "is_below" (defScope (top 8)) f cdv A outer s H E) E := passes_call tk fun _ _ _ _ h => h
  have po : PassesOwn (model P w) (cxOf (L2.CX P w) P w K mg base ["thing", "many"] "is_below" (defScope (top 8)) f cdv A outer s H E).A (cxOf (L2.CX P w) P w K mg base ["thing", "many"] "is_below" (defScope (top 8)) f cdv A outer s H E).env (cxOf (L2.CX P w) P w K mg base ["thing", "many"] "is_below" (defScope (top 8)) f cdv A outer s H E).xe := passes_of rfl
  refine s_cons (s_ret (r_of (c_and (c_cal rfl (hF 0 _ _ _ rfl) hr rfl px (a_cons (c_var 0) a_nil)) (c_one (c_chn o_le (o_lt hu0) c_int (c_var 0) (c_var 1)))))) ?_
  exact s_nil
theorem sc2 : FnScope ["thing", "many"] ["thing", "many"] (defScope (top 9)) := ⟨rfl, rfl, rfl, by decide +kernel, rfl, by decide +kernel, by decide +kernel⟩
theorem b2 (FX : Fx K mg) (hF : AllF P w K mg base T k) {f : Addr} (cdv : Value) (A : Around) (outer : List Env) (s : Shared) (H : Hp) (E : XK) (hr : Room k (A.deeper (envOfC "is_tie" (defScope (top 9)) s.heap.objs.size f cdv))) :
    PSs (cxOf (L2.CX P w) P w K mg base ["thing", "many"] "is_tie" (defScope (top 9)) f cdv A outer s H E) (defBody (top 9)) (rdSs (Wof K) E T fu_is_tie.body) := by
  have hN : (["thing", "many"] : List Str).Nodup := sc2.nd
  have hu0 : (A.deeper (envOfC "is_tie" (defScope (top 9)) s.heap.objs.size f cdv)).units < cLine := by have := hr.un; omega
  have hu4 : (A.deeper (envOfC "is_tie" (defScope (top 9)) s.heap.objs.size f cdv)).units + 64 < cLine := by have := hr.un; omega
  have hu5 : (A.deeper (envOfC "is_tie" (defScope (top 9)) s.heap.objs.size f cdv)).units + 65 < cLine := by have := hr.un; omega
  have tk : Takes (cxOf (L2.CX P w) P w K mg base ["thing", "many"] "is_tie" (defScope (top 9)) f cdv A outer s H E) (fun cls d _ H => E cls d H) := takes_of rfl rfl rfl rfl
  have px : Passes (L2.CX P w) (cxOf (L2.CX P w) P w K mg base ["thing", "many"] "is_tie" (defScope (top 9)) f cdv A outer s H E) E := passes_call tk fun _ _ _ _ h => h
  have po : PassesOwn (model P w) (cxOf (L2.CX P w) P w K mg base ["thing", "many"] "is_tie" (defScope (top 9)) f cdv A outer s H E).A (cxOf (L2.CX P w) P w K mg base ["thing", "many"] "is_tie" (defScope (top 9)) f cdv A outer s H E).env (cxOf (L2.CX P w) P w K mg base ["thing", "many"] "is_tie" (defScope (top 9)) f cdv A outer s H E).xe := passes_of rfl
  refine s_cons (s_if (L2.PW.pt (t_or (t_not (t_val (c_isi rfl rfl rfl FX.m_isinstance rfl FX.m_tuple rfl (c_var 0)))) (t_or (t_cmp (o_ne rfl hu4) (c_bi (b_len rfl) rfl FX.m_len rfl (a_cons (c_var 0) a_nil)) c_int (by with_unfolding_all rfl)) (t_or1 (t_not (t_val (c_cal rfl (hF 1 _ _ _ rfl) hr rfl px (a_cons (c_sub rfl (c_var 0) c_int) (a_cons (c_var 1) a_nil))))))))) (s_cons (s_ret (r_of c_bl))
      s_nil) s_nil) ?_
  refine s_cons (s_ret (r_of (c_and (c_cal rfl (hF 1 _ _ _ rfl) hr rfl px (a_cons (c_sub rfl (c_var 0) c_int) (a_cons (c_var 1) a_nil))) (c_one (c_cmp (o_lt hu0) (c_sub rfl (c_var 0) c_int) (c_sub rfl (c_var 0) c_int) (by with_unfolding_all rfl)))))) ?_
  exact s_nil
theorem sc3 : FnScope ["thing", "ties", "one", "other", "tie"] ["thing"] (defScope (top 10)) := ⟨rfl, rfl, rfl, by decide +kernel, rfl, by decide +kernel, by decide +kernel⟩
theorem b3 (FX : Fx K mg) (hF : AllF P w K mg base T k) {f : Addr} (cdv : Value) (A : Around) (outer : List Env) (s : Shared) (H : Hp) (E : XK) (hr : Room k (A.deeper (envOfC "is_web" (defScope (top 10)) s.heap.objs.size f cdv))) :
    PSs (cxOf (L2.CX P w) P w K mg base ["thing", "ties", "one", "other", "tie"] "is_web" (defScope (top 10)) f cdv A outer s H E) (defBody (top 10)) (rdSs (Wof K) E T fu_is_web.body) := by
  have hN : (["thing", "ties", "one", "other", "tie"] : List Str).Nodup := sc3.nd
  have hu0 : (A.deeper (envOfC "is_web" (defScope (top 10)) s.heap.objs.size f cdv)).units < cLine := by have := hr.un; omega
  have hu4 : (A.deeper (envOfC "is_web" (defScope (top 10)) s.heap.objs.size f cdv)).units + 64 < cLine := by have := hr.un; omega
  have hu5 : (A.deeper (envOfC "is_web" (defScope (top 10)) s.heap.objs.size f cdv)).units + 65 < cLine := by have := hr.un; omega
  have tk : Takes (cxOf (L2.CX P w) P w K mg base ["thing", "ties", "one", "other", "tie"] "is_web" (defScope (top 10)) f cdv A outer s H E) (fun cls d _ H => E cls d H) := takes_of rfl rfl rfl rfl
  have px : Passes (L2.CX P w) (cxOf (L2.CX P w) P w K mg base ["thing", "ties", "one", "other", "tie"] "is_web" (defScope (top 10)) f cdv A outer s H E) E := passes_call tk fun _ _ _ _ h => h
  have po : PassesOwn (model P w) (cxOf (L2.CX P w) P w K mg base ["thing", "ties", "one", "other", "tie"] "is_web" (defScope (top 10)) f cdv A outer s H E).A (cxOf (L2.CX P w) P w K mg base ["thing", "ties", "one", "other", "tie"] "is_web" (defScope (top 10)) f cdv A outer s H E).env (cxOf (L2.CX P w) P w K mg base ["thing", "ties", "one", "other", "tie"] "is_web" (defScope (top 10)) f cdv A outer s H E).xe := passes_of rfl
  refine s_cons (s_if (L2.PW.pt (t_or (t_not (t_val (c_isi rfl rfl rfl FX.m_isinstance rfl FX.m_tuple rfl (c_var 0)))) (t_or (t_cmp (o_ne rfl hu4) (c_bi (b_len rfl) rfl FX.m_len rfl (a_cons (c_var 0) a_nil)) c_int (by with_unfolding_all rfl)) (t_or1 (t_not (t_val (c_cal rfl (hF 1 _ _ _ rfl) hr rfl px (a_cons (c_sub rfl (c_var 0) c_int) (a_cons (c_op o_add (c_gint rfl FX.i_MOST_PLACES) c_int) a_nil))))))))) (s_cons (s_ret (r_of c_bl))
      s_nil) s_nil) ?_
  refine s_cons (s_asg hN (c_sub rfl (c_var 0) c_int)) ?_
  refine s_cons (s_if (L2.PW.pt (t_or (t_not (t_val (c_isi rfl rfl rfl FX.m_isinstance rfl FX.m_list rfl (c_var 1)))) (t_or (t_cmp o_gt (c_bi (b_len rfl) rfl FX.m_len rfl (a_cons (c_var 1) a_nil)) (c_gint rfl FX.i_MOST_TIES) (by with_unfolding_all rfl)) (t_or1 (t_not (t_val (c_bi (b_all rfl rfl) rfl FX.m_all rfl (a_cons (c_comp (own := [("tie", 4)]) rfl hN (i_seq rfl (c_var 1)) (show BlkOk ["thing", "ties", "one", "other", "tie"] (defScope (top 10)) _ _ from blkOk_by (by decide +kernel)) rfl (fun _ _ _ _ _ => (g_one 4 hN)) (fun _ _ _ _ _ => x_nil) (fun _ _ _ _ _ => (c_cal rfl (hF 2 _ _ _ rfl) hr rfl passL (a_cons (c_var 4) (a_cons (c_sub rfl (c_var 0) c_int) a_nil))))) a_nil)))))))) (s_cons (s_ret (r_of c_bl))
      s_nil) s_nil) ?_
  refine s_cons (s_ret (r_of (c_bi (b_all rfl rfl) rfl FX.m_all rfl (a_cons (c_comp (own := [("one", 2), ("other", 3)]) rfl hN (i_zip rfl FX.m_zip (c_var 1) (c_slc rfl (c_var 1) (o_so c_int) o_no)) (show BlkOk ["thing", "ties", "one", "other", "tie"] (defScope (top 10)) _ _ from blkOk_by (by decide +kernel)) rfl (fun _ _ _ _ _ => (g_two 2 3 rfl hN)) (fun _ _ _ _ _ => x_nil) (fun _ _ _ _ _ => (c_cmp (o_lt hu0) (c_var 2) (c_var 3) (by with_unfolding_all rfl)))) a_nil)))) ?_
  exact s_nil
theorem sc4 : FnScope ["web"] ["web"] (defScope (top 11)) := ⟨rfl, rfl, rfl, by decide +kernel, rfl, by decide +kernel, by decide +kernel⟩
theorem b4 (FX : Fx K mg) (hF : AllF P w K mg base T k) {f : Addr} (cdv : Value) (A : Around) (outer : List Env) (s : Shared) (H : Hp) (E : XK) (hr : Room k (A.deeper (envOfC "check_small" (defScope (top 11)) s.heap.objs.size f cdv))) :
    PSs (cxOf (L2.CX P w) P w K mg base ["web"] "check_small" (defScope (top 11)) f cdv A outer s H E) (defBody (top 11)) (rdSs (Wof K) E T fu_check_small.body) := by
  have hN : (["web"] : List Str).Nodup := sc4.nd
  have hu0 : (A.deeper (envOfC "check_small" (defScope (top 11)) s.heap.objs.size f cdv)).units < cLine := by have := hr.un; omega
  have hu4 : (A.deeper (envOfC "check_small" (defScope (top 11)) s.heap.objs.size f cdv)).units + 64 < cLine := by have := hr.un; omega
  have hu5 : (A.deeper (envOfC "check_small" (defScope (top 11)) s.heap.objs.size f cdv)).units + 65 < cLine := by have := hr.un; omega
  have tk : Takes (cxOf (L2.CX P w) P w K mg base ["web"] "check_small" (defScope (top 11)) f cdv A outer s H E) (fun cls d _ H => E cls d H) := takes_of rfl rfl rfl rfl
  have px : Passes (L2.CX P w) (cxOf (L2.CX P w) P w K mg base ["web"] "check_small" (defScope (top 11)) f cdv A outer s H E) E := passes_call tk fun _ _ _ _ h => h
  have po : PassesOwn (model P w) (cxOf (L2.CX P w) P w K mg base ["web"] "check_small" (defScope (top 11)) f cdv A outer s H E).A (cxOf (L2.CX P w) P w K mg base ["web"] "check_small" (defScope (top 11)) f cdv A outer s H E).env (cxOf (L2.CX P w) P w K mg base ["web"] "check_small" (defScope (top 11)) f cdv A outer s H E).xe := passes_of rfl
  refine s_cons (s_exp (c_cal rfl (hF 5 _ _ _ rfl) hr rfl px (a_cons (c_var 0) (a_cons (c_gint rfl FX.i_SMALL) a_nil)))) ?_
  exact s_nil
theorem sc5 : FnScope ["web", "most"] ["web", "most"] (defScope (top 12)) := ⟨rfl, rfl, rfl, by decide +kernel, rfl, by decide +kernel, by decide +kernel⟩
theorem b5 (FX : Fx K mg) (hF : AllF P w K mg base T k) {f : Addr} (cdv : Value) (A : Around) (outer : List Env) (s : Shared) (H : Hp) (E : XK) (hr : Room k (A.deeper (envOfC "check_places" (defScope (top 12)) s.heap.objs.size f cdv))) :
    PSs (cxOf (L2.CX P w) P w K mg base ["web", "most"] "check_places" (defScope (top 12)) f cdv A outer s H E) (defBody (top 12)) (rdSs (Wof K) E T fu_check_places.body) := by
  have hN : (["web", "most"] : List Str).Nodup := sc5.nd
  have hu0 : (A.deeper (envOfC "check_places" (defScope (top 12)) s.heap.objs.size f cdv)).units < cLine := by have := hr.un; omega
  have hu4 : (A.deeper (envOfC "check_places" (defScope (top 12)) s.heap.objs.size f cdv)).units + 64 < cLine := by have := hr.un; omega
  have hu5 : (A.deeper (envOfC "check_places" (defScope (top 12)) s.heap.objs.size f cdv)).units + 65 < cLine := by have := hr.un; omega
  have tk : Takes (cxOf (L2.CX P w) P w K mg base ["web", "most"] "check_places" (defScope (top 12)) f cdv A outer s H E) (fun cls d _ H => E cls d H) := takes_of rfl rfl rfl rfl
  have px : Passes (L2.CX P w) (cxOf (L2.CX P w) P w K mg base ["web", "most"] "check_places" (defScope (top 12)) f cdv A outer s H E) E := passes_call tk fun _ _ _ _ h => h
  have po : PassesOwn (model P w) (cxOf (L2.CX P w) P w K mg base ["web", "most"] "check_places" (defScope (top 12)) f cdv A outer s H E).A (cxOf (L2.CX P w) P w K mg base ["web", "most"] "check_places" (defScope (top 12)) f cdv A outer s H E).env (cxOf (L2.CX P w) P w K mg base ["web", "most"] "check_places" (defScope (top 12)) f cdv A outer s H E).xe := passes_of rfl
  refine s_cons (s_if (L2.PW.pt (t_or (t_not (t_val (c_cal rfl (hF 3 _ _ _ rfl) hr rfl px (a_cons (c_var 0) a_nil)))) (t_or1 (t_cmp o_gt (c_sub rfl (c_var 0) c_int) (c_var 1) (by with_unfolding_all rfl))))) (s_cons (s_rai rfl rfl tk FX.e1_1 FX.c_1 FX.e1_2 FX.e1_3 FX.e1_4 rfl)
      s_nil) s_nil) ?_
  exact s_nil
theorem sc6 : FnScope ["web", "most"] ["web", "most"] (defScope (top 13)) := ⟨rfl, rfl, rfl, by decide +kernel, rfl, by decide +kernel, by decide +kernel⟩
theorem b6 (FX : Fx K mg) (hF : AllF P w K mg base T k) {f : Addr} (cdv : Value) (A : Around) (outer : List Env) (s : Shared) (H : Hp) (E : XK) (hr : Room k (A.deeper (envOfC "check_few_ties" (defScope (top 13)) s.heap.objs.size f cdv))) :
    PSs (cxOf (L2.CX P w) P w K mg base ["web", "most"] "check_few_ties" (defScope (top 13)) f cdv A outer s H E) (defBody (top 13)) (rdSs (Wof K) E T fu_check_few_ties.body) := by
  have hN : (["web", "most"] : List Str).Nodup := sc6.nd
  have hu0 : (A.deeper (envOfC "check_few_ties" (defScope (top 13)) s.heap.objs.size f cdv)).units < cLine := by have := hr.un; omega
  have hu4 : (A.deeper (envOfC "check_few_ties" (defScope (top 13)) s.heap.objs.size f cdv)).units + 64 < cLine := by have := hr.un; omega
  have hu5 : (A.deeper (envOfC "check_few_ties" (defScope (top 13)) s.heap.objs.size f cdv)).units + 65 < cLine := by have := hr.un; omega
  have tk : Takes (cxOf (L2.CX P w) P w K mg base ["web", "most"] "check_few_ties" (defScope (top 13)) f cdv A outer s H E) (fun cls d _ H => E cls d H) := takes_of rfl rfl rfl rfl
  have px : Passes (L2.CX P w) (cxOf (L2.CX P w) P w K mg base ["web", "most"] "check_few_ties" (defScope (top 13)) f cdv A outer s H E) E := passes_call tk fun _ _ _ _ h => h
  have po : PassesOwn (model P w) (cxOf (L2.CX P w) P w K mg base ["web", "most"] "check_few_ties" (defScope (top 13)) f cdv A outer s H E).A (cxOf (L2.CX P w) P w K mg base ["web", "most"] "check_few_ties" (defScope (top 13)) f cdv A outer s H E).env (cxOf (L2.CX P w) P w K mg base ["web", "most"] "check_few_ties" (defScope (top 13)) f cdv A outer s H E).xe := passes_of rfl
  refine s_cons (s_if (L2.PW.pt (t_or (t_not (t_val (c_cal rfl (hF 3 _ _ _ rfl) hr rfl px (a_cons (c_var 0) a_nil)))) (t_or1 (t_cmp o_gt (c_bi (b_len rfl) rfl FX.m_len rfl (a_cons (c_sub rfl (c_var 0) c_int) a_nil)) (c_var 1) (by with_unfolding_all rfl))))) (s_cons (s_rai rfl rfl tk FX.e1_1 FX.c_1 FX.e1_2 FX.e1_3 FX.e1_4 rfl)
      s_nil) s_nil) ?_
  exact s_nil
theorem sc7 : FnScope ["web", "found", "one", "other", "place", "some"] ["web"] (defScope (top 14)) := ⟨rfl, rfl, rfl, by decide +kernel, rfl, by decide +kernel, by decide +kernel⟩
theorem b7 (FX : Fx K mg) (hF : AllF P w K mg base T k) {f : Addr} (cdv : Value) (A : Around) (outer : List Env) (s : Shared) (H : Hp) (E : XK) (hr : Room k (A.deeper (envOfC "near_of" (defScope (top 14)) s.heap.objs.size f cdv))) :
    PSs (cxOf (L2.CX P w) P w K mg base ["web", "found", "one", "other", "place", "some"] "near_of" (defScope (top 14)) f cdv A outer s H E) (defBody (top 14)) (rdSs (Wof K) E T fu_near_of.body) := by
  have hN : (["web", "found", "one", "other", "place", "some"] : List Str).Nodup := sc7.nd
  have hu0 : (A.deeper (envOfC "near_of" (defScope (top 14)) s.heap.objs.size f cdv)).units < cLine := by have := hr.un; omega
  have hu4 : (A.deeper (envOfC "near_of" (defScope (top 14)) s.heap.objs.size f cdv)).units + 64 < cLine := by have := hr.un; omega
  have hu5 : (A.deeper (envOfC "near_of" (defScope (top 14)) s.heap.objs.size f cdv)).units + 65 < cLine := by have := hr.un; omega
  have tk : Takes (cxOf (L2.CX P w) P w K mg base ["web", "found", "one", "other", "place", "some"] "near_of" (defScope (top 14)) f cdv A outer s H E) (fun cls d _ H => E cls d H) := takes_of rfl rfl rfl rfl
  have px : Passes (L2.CX P w) (cxOf (L2.CX P w) P w K mg base ["web", "found", "one", "other", "place", "some"] "near_of" (defScope (top 14)) f cdv A outer s H E) E := passes_call tk fun _ _ _ _ h => h
  have po : PassesOwn (model P w) (cxOf (L2.CX P w) P w K mg base ["web", "found", "one", "other", "place", "some"] "near_of" (defScope (top 14)) f cdv A outer s H E).A (cxOf (L2.CX P w) P w K mg base ["web", "found", "one", "other", "place", "some"] "near_of" (defScope (top 14)) f cdv A outer s H E).env (cxOf (L2.CX P w) P w K mg base ["web", "found", "one", "other", "place", "some"] "near_of" (defScope (top 14)) f cdv A outer s H E).xe := passes_of rfl
  refine s_cons (by first | exact s_asg hN (c_comp (own := [("place", 4)]) rfl hN (i_rng1 rfl FX.m_range (c_sub rfl (c_var 0) c_int)) (show BlkOk ["web", "found", "one", "other", "place", "some"] (defScope (top 14)) _ _ from blkOk_by (by decide +kernel)) rfl (fun _ _ _ _ _ => (g_one 4 hN)) (fun _ _ _ _ _ => x_nil) (fun _ _ _ _ _ => (c_lst a_nil))) | exact s_asgLc (own := [("place", 4)]) rfl hN (i_rng1 rfl FX.m_range (c_sub rfl (c_var 0) c_int)) (show BlkOk ["web", "found", "one", "other", "place", "some"] (defScope (top 14)) _ _ from blkOk_by (by decide +kernel)) rfl (fun _ _ _ _ _ => (g_one 4 hN)) (fun _ _ _ _ _ => x_nil) (fun _ _ _ _ _ => (c_lst a_nil))) ?_
  refine s_cons (s_for po rfl (i_seq rfl (c_sub rfl (c_var 0) c_int)) (g_two 2 3 rfl hN) (s_cons (s_mut PySem.F.slot_list_append PySem.F.type_list_append mt_append mo_append rfl (p_cons (p_nil 1) (c_var 2)) (a_cons (c_var 3) a_nil))
      (s_cons (s_mut PySem.F.slot_list_append PySem.F.type_list_append mt_append mo_append rfl (p_cons (p_nil 1) (c_var 3)) (a_cons (c_var 2) a_nil))
      s_nil))) ?_
  refine s_cons (s_ret (r_of (c_comp (own := [("some", 5)]) rfl hN (i_seq rfl (c_var 1)) (show BlkOk ["web", "found", "one", "other", "place", "some"] (defScope (top 14)) _ _ from blkOk_by (by decide +kernel)) rfl (fun _ _ _ _ _ => (g_one 5 hN)) (fun _ _ _ _ _ => x_nil) (fun _ _ _ _ _ => (c_bi (b_sorted rfl) rfl FX.m_sorted rfl (a_cons (c_var 5) a_nil)))))) ?_
  exact s_nil
theorem sc8 : FnScope ["web", "ties", "found", "at", "one", "far"] ["web"] (defScope (top 16)) := ⟨rfl, rfl, rfl, by decide +kernel, rfl, by decide +kernel, by decide +kernel⟩
theorem b8 (FX : Fx K mg) (hF : AllF P w K mg base T k) {f : Addr} (cdv : Value) (A : Around) (outer : List Env) (s : Shared) (H : Hp) (E : XK) (hr : Room k (A.deeper (envOfC "tie_web_of" (defScope (top 16)) s.heap.objs.size f cdv))) :
    PSs (cxOf (L2.CX P w) P w K mg base ["web", "ties", "found", "at", "one", "far"] "tie_web_of" (defScope (top 16)) f cdv A outer s H E) (defBody (top 16)) (rdSs (Wof K) E T fu_tie_web_of.body) := by
  have hN : (["web", "ties", "found", "at", "one", "far"] : List Str).Nodup := sc8.nd
  have hu0 : (A.deeper (envOfC "tie_web_of" (defScope (top 16)) s.heap.objs.size f cdv)).units < cLine := by have := hr.un; omega
  have hu4 : (A.deeper (envOfC "tie_web_of" (defScope (top 16)) s.heap.objs.size f cdv)).units + 64 < cLine := by have := hr.un; omega
  have hu5 : (A.deeper (envOfC "tie_web_of" (defScope (top 16)) s.heap.objs.size f cdv)).units + 65 < cLine := by have := hr.un; omega
  have tk : Takes (cxOf (L2.CX P w) P w K mg base ["web", "ties", "found", "at", "one", "far"] "tie_web_of" (defScope (top 16)) f cdv A outer s H E) (fun cls d _ H => E cls d H) := takes_of rfl rfl rfl rfl
  have px : Passes (L2.CX P w) (cxOf (L2.CX P w) P w K mg base ["web", "ties", "found", "at", "one", "far"] "tie_web_of" (defScope (top 16)) f cdv A outer s H E) E := passes_call tk fun _ _ _ _ h => h
  have po : PassesOwn (model P w) (cxOf (L2.CX P w) P w K mg base ["web", "ties", "found", "at", "one", "far"] "tie_web_of" (defScope (top 16)) f cdv A outer s H E).A (cxOf (L2.CX P w) P w K mg base ["web", "ties", "found", "at", "one", "far"] "tie_web_of" (defScope (top 16)) f cdv A outer s H E).env (cxOf (L2.CX P w) P w K mg base ["web", "ties", "found", "at", "one", "far"] "tie_web_of" (defScope (top 16)) f cdv A outer s H E).xe := passes_of rfl
  refine s_cons (by first | exact s_par rfl hN (a_cons (c_sub rfl (c_var 0) c_int) (a_cons (c_lst a_nil) a_nil)) | exact s_parU rfl hN (a_cons (c_sub rfl (c_var 0) c_int) (a_cons (c_lst a_nil) a_nil))) ?_
  refine s_cons (s_for po rfl (i_enu rfl FX.m_enumerate (c_var 1)) (g_two 3 4 rfl hN) (s_cons (s_for po rfl (i_rng2 rfl FX.m_range (c_op o_add (c_var 3) c_int) (c_bi (b_len rfl) rfl FX.m_len rfl (a_cons (c_var 1) a_nil))) (g_one 5 hN) (s_cons (s_if (L2.PW.pt (t_or (t_cmp (o_in rfl hu5) (c_sub rfl (c_sub rfl (c_var 1) (c_var 5)) c_int) (c_var 4) (by with_unfolding_all rfl)) (t_or1 (t_cmp (o_in rfl hu5) (c_sub rfl (c_sub rfl (c_var 1) (c_var 5)) c_int) (c_var 4) (by with_unfolding_all rfl))))) (s_cons (s_mut PySem.F.slot_list_append PySem.F.type_list_append mt_append mo_append rfl (p_nil 2) (a_cons (c_tup (a_cons (c_var 3) (a_cons (c_var 5) a_nil))) a_nil))
      s_nil) s_nil)
      s_nil))
      s_nil)) ?_
  refine s_cons (s_ret (r_tup (ra_cons (r_of (c_bi (b_len rfl) rfl FX.m_len rfl (a_cons (c_var 1) a_nil))) (ra_cons (r_var 2) ra_nil)))) ?_
  exact s_nil
theorem sc9 : FnScope ["web"] ["web"] (defScope (top 17)) := ⟨rfl, rfl, rfl, by decide +kernel, rfl, by decide +kernel, by decide +kernel⟩
theorem b9 (FX : Fx K mg) (hF : AllF P w K mg base T k) {f : Addr} (cdv : Value) (A : Around) (outer : List Env) (s : Shared) (H : Hp) (E : XK) (hr : Room k (A.deeper (envOfC "tie_web" (defScope (top 17)) s.heap.objs.size f cdv))) :
    PSs (cxOf (L2.CX P w) P w K mg base ["web"] "tie_web" (defScope (top 17)) f cdv A outer s H E) (defBody (top 17)) (rdSs (Wof K) E T fu_tie_web.body) := by
  have hN : (["web"] : List Str).Nodup := sc9.nd
  have hu0 : (A.deeper (envOfC "tie_web" (defScope (top 17)) s.heap.objs.size f cdv)).units < cLine := by have := hr.un; omega
  have hu4 : (A.deeper (envOfC "tie_web" (defScope (top 17)) s.heap.objs.size f cdv)).units + 64 < cLine := by have := hr.un; omega
  have hu5 : (A.deeper (envOfC "tie_web" (defScope (top 17)) s.heap.objs.size f cdv)).units + 65 < cLine := by have := hr.un; omega
  have tk : Takes (cxOf (L2.CX P w) P w K mg base ["web"] "tie_web" (defScope (top 17)) f cdv A outer s H E) (fun cls d _ H => E cls d H) := takes_of rfl rfl rfl rfl
  have px : Passes (L2.CX P w) (cxOf (L2.CX P w) P w K mg base ["web"] "tie_web" (defScope (top 17)) f cdv A outer s H E) E := passes_call tk fun _ _ _ _ h => h
  have po : PassesOwn (model P w) (cxOf (L2.CX P w) P w K mg base ["web"] "tie_web" (defScope (top 17)) f cdv A outer s H E).A (cxOf (L2.CX P w) P w K mg base ["web"] "tie_web" (defScope (top 17)) f cdv A outer s H E).env (cxOf (L2.CX P w) P w K mg base ["web"] "tie_web" (defScope (top 17)) f cdv A outer s H E).xe := passes_of rfl
  refine s_cons (s_exp (c_cal rfl (hF 6 _ _ _ rfl) hr rfl px (a_cons (c_var 0) (a_cons (c_gint rfl FX.i_SMALL) a_nil)))) ?_
  refine s_cons (s_ret (r_of (c_cal rfl (hF 8 _ _ _ rfl) hr rfl px (a_cons (c_var 0) a_nil)))) ?_
  exact s_nil
theorem sc10 : FnScope ["one", "other", "many", "at", "row"] ["one", "other"] (defScope (top 19)) := ⟨rfl, rfl, rfl, by decide +kernel, rfl, by decide +kernel, by decide +kernel⟩
theorem b10 (FX : Fx K mg) (hF : AllF P w K mg base T k) {f : Addr} (cdv : Value) (A : Around) (outer : List Env) (s : Shared) (H : Hp) (E : XK) (hr : Room k (A.deeper (envOfC "added" (defScope (top 19)) s.heap.objs.size f cdv))) :
    PSs (cxOf (L2.CX P w) P w K mg base ["one", "other", "many", "at", "row"] "added" (defScope (top 19)) f cdv A outer s H E) (defBody (top 19)) (rdSs (Wof K) E T fu_added.body) := by
  have hN : (["one", "other", "many", "at", "row"] : List Str).Nodup := sc10.nd
  have hu0 : (A.deeper (envOfC "added" (defScope (top 19)) s.heap.objs.size f cdv)).units < cLine := by have := hr.un; omega
  have hu4 : (A.deeper (envOfC "added" (defScope (top 19)) s.heap.objs.size f cdv)).units + 64 < cLine := by have := hr.un; omega
  have hu5 : (A.deeper (envOfC "added" (defScope (top 19)) s.heap.objs.size f cdv)).units + 65 < cLine := by have := hr.un; omega
  have tk : Takes (cxOf (L2.CX P w) P w K mg base ["one", "other", "many", "at", "row"] "added" (defScope (top 19)) f cdv A outer s H E) (fun cls d _ H => E cls d H) := takes_of rfl rfl rfl rfl
  have px : Passes (L2.CX P w) (cxOf (L2.CX P w) P w K mg base ["one", "other", "many", "at", "row"] "added" (defScope (top 19)) f cdv A outer s H E) E := passes_call tk fun _ _ _ _ h => h
  have po : PassesOwn (model P w) (cxOf (L2.CX P w) P w K mg base ["one", "other", "many", "at", "row"] "added" (defScope (top 19)) f cdv A outer s H E).A (cxOf (L2.CX P w) P w K mg base ["one", "other", "many", "at", "row"] "added" (defScope (top 19)) f cdv A outer s H E).env (cxOf (L2.CX P w) P w K mg base ["one", "other", "many", "at", "row"] "added" (defScope (top 19)) f cdv A outer s H E).xe := passes_of rfl
  refine s_cons (s_asg hN (c_bi (b_max rfl rfl) rfl FX.m_max rfl (a_cons (c_bi (b_len rfl) rfl FX.m_len rfl (a_cons (c_var 0) a_nil)) (a_cons (c_bi (b_len rfl) rfl FX.m_len rfl (a_cons (c_var 1) a_nil)) a_nil)))) ?_
  refine s_cons (s_ret (r_of (c_comp (own := [("at", 3)]) rfl hN (i_rng1 rfl FX.m_range (c_var 2)) (show BlkOk ["one", "other", "many", "at", "row"] (defScope (top 19)) _ _ from blkOk_by (by decide +kernel)) rfl (fun _ _ _ _ _ => (g_one 3 hN)) (fun _ _ _ _ _ => x_nil) (fun _ _ _ _ _ => (c_bi (b_sum rfl rfl) rfl FX.m_sum rfl (a_cons (c_comp (own := [("row", 4)]) rfl hN (i_seq rfl (c_tup (a_cons (c_var 0) (a_cons (c_var 1) a_nil)))) (blkOk_by (by rfl)) rfl (fun _ _ _ _ _ => (g_one 4 hN)) (fun _ _ _ _ _ => (x_one (t_cmp (o_lt hu0) (c_var 3) (c_bi (b_len rfl) rfl FX.m_len rfl (a_cons (c_var 4) a_nil)) (by with_unfolding_all rfl)))) (fun _ _ _ _ _ => (c_sub rfl (c_var 4) (c_var 3)))) a_nil)))))) ?_
  exact s_nil
theorem sc11 : FnScope ["beside_of", "left", "rest", "without", "place"] ["beside_of", "left"] (defScope (top 20)) := ⟨rfl, rfl, rfl, by decide +kernel, rfl, by decide +kernel, by decide +kernel⟩
theorem b11 (FX : Fx K mg) (hF : AllF P w K mg base T k) {f : Addr} (cdv : Value) (A : Around) (outer : List Env) (s : Shared) (H : Hp) (E : XK) (hr : Room k (A.deeper (envOfC "apart_of" (defScope (top 20)) s.heap.objs.size f cdv))) :
    PSs (cxOf (L2.CX P w) P w K mg base ["beside_of", "left", "rest", "without", "place"] "apart_of" (defScope (top 20)) f cdv A outer s H E) (defBody (top 20)) (rdSs (Wof K) E T fu_apart_of.body) := by
  have hN : (["beside_of", "left", "rest", "without", "place"] : List Str).Nodup := sc11.nd
  have hu0 : (A.deeper (envOfC "apart_of" (defScope (top 20)) s.heap.objs.size f cdv)).units < cLine := by have := hr.un; omega
  have hu4 : (A.deeper (envOfC "apart_of" (defScope (top 20)) s.heap.objs.size f cdv)).units + 64 < cLine := by have := hr.un; omega
  have hu5 : (A.deeper (envOfC "apart_of" (defScope (top 20)) s.heap.objs.size f cdv)).units + 65 < cLine := by have := hr.un; omega
  have tk : Takes (cxOf (L2.CX P w) P w K mg base ["beside_of", "left", "rest", "without", "place"] "apart_of" (defScope (top 20)) f cdv A outer s H E) (fun cls d _ H => E cls d H) := takes_of rfl rfl rfl rfl
  have px : Passes (L2.CX P w) (cxOf (L2.CX P w) P w K mg base ["beside_of", "left", "rest", "without", "place"] "apart_of" (defScope (top 20)) f cdv A outer s H E) E := passes_call tk fun _ _ _ _ h => h
  have po : PassesOwn (model P w) (cxOf (L2.CX P w) P w K mg base ["beside_of", "left", "rest", "without", "place"] "apart_of" (defScope (top 20)) f cdv A outer s H E).A (cxOf (L2.CX P w) P w K mg base ["beside_of", "left", "rest", "without", "place"] "apart_of" (defScope (top 20)) f cdv A outer s H E).env (cxOf (L2.CX P w) P w K mg base ["beside_of", "left", "rest", "without", "place"] "apart_of" (defScope (top 20)) f cdv A outer s H E).xe := passes_of rfl
  refine s_cons (s_if (t_cmp (o_eq rfl hu4) (c_var 1) (c_lst a_nil) (by with_unfolding_all rfl)) (s_cons (s_ret (r_of (c_lst (a_cons c_int a_nil))))
      s_nil) s_nil) ?_
  refine s_cons (s_asg hN (c_slc rfl (c_var 1) (o_so c_int) o_no)) ?_
  refine s_cons (s_asg hN (c_cal rfl (hF 11 _ _ _ rfl) hr rfl px (a_cons (c_var 0) (a_cons (c_var 2) a_nil)))) ?_
  refine s_cons (s_ret (r_of (c_cal rfl (hF 10 _ _ _ rfl) hr rfl px (a_cons (c_var 3) (a_cons (c_op o_add (c_lst (a_cons c_int a_nil)) (c_cal rfl (hF 11 _ _ _ rfl) hr rfl px (a_cons (c_var 0) (a_cons (c_comp (own := [("place", 4)]) rfl hN (i_seq rfl (c_var 2)) (show BlkOk ["beside_of", "left", "rest", "without", "place"] (defScope (top 20)) _ _ from blkOk_by (by decide +kernel)) rfl (fun _ _ _ _ _ => (g_one 4 hN)) (fun _ _ _ _ _ => (x_one (t_cmp (o_notin rfl hu5) (c_var 4) (c_sub rfl (c_var 0) (c_sub rfl (c_var 1) c_int)) (by with_unfolding_all rfl)))) (fun _ _ _ _ _ => (c_var 4))) a_nil)))) a_nil))))) ?_
  exact s_nil
theorem sc12 : FnScope ["web"] ["web"] (defScope (top 21)) := ⟨rfl, rfl, rfl, by decide +kernel, rfl, by decide +kernel, by decide +kernel⟩
theorem b12 (FX : Fx K mg) (hF : AllF P w K mg base T k) {f : Addr} (cdv : Value) (A : Around) (outer : List Env) (s : Shared) (H : Hp) (E : XK) (hr : Room k (A.deeper (envOfC "places_apart" (defScope (top 21)) s.heap.objs.size f cdv))) :
    PSs (cxOf (L2.CX P w) P w K mg base ["web"] "places_apart" (defScope (top 21)) f cdv A outer s H E) (defBody (top 21)) (rdSs (Wof K) E T fu_places_apart.body) := by
  have hN : (["web"] : List Str).Nodup := sc12.nd
  have hu0 : (A.deeper (envOfC "places_apart" (defScope (top 21)) s.heap.objs.size f cdv)).units < cLine := by have := hr.un; omega
  have hu4 : (A.deeper (envOfC "places_apart" (defScope (top 21)) s.heap.objs.size f cdv)).units + 64 < cLine := by have := hr.un; omega
  have hu5 : (A.deeper (envOfC "places_apart" (defScope (top 21)) s.heap.objs.size f cdv)).units + 65 < cLine := by have := hr.un; omega
  have tk : Takes (cxOf (L2.CX P w) P w K mg base ["web"] "places_apart" (defScope (top 21)) f cdv A outer s H E) (fun cls d _ H => E cls d H) := takes_of rfl rfl rfl rfl
  have px : Passes (L2.CX P w) (cxOf (L2.CX P w) P w K mg base ["web"] "places_apart" (defScope (top 21)) f cdv A outer s H E) E := passes_call tk fun _ _ _ _ h => h
  have po : PassesOwn (model P w) (cxOf (L2.CX P w) P w K mg base ["web"] "places_apart" (defScope (top 21)) f cdv A outer s H E).A (cxOf (L2.CX P w) P w K mg base ["web"] "places_apart" (defScope (top 21)) f cdv A outer s H E).env (cxOf (L2.CX P w) P w K mg base ["web"] "places_apart" (defScope (top 21)) f cdv A outer s H E).xe := passes_of rfl
  refine s_cons (s_exp (c_cal rfl (hF 4 _ _ _ rfl) hr rfl px (a_cons (c_var 0) a_nil))) ?_
  refine s_cons (s_ret (r_of (c_cal rfl (hF 11 _ _ _ rfl) hr rfl px (a_cons (c_cal rfl (hF 7 _ _ _ rfl) hr rfl px (a_cons (c_var 0) a_nil)) (a_cons (c_lrng1 rfl rfl FX.m_list rfl FX.m_range (c_sub rfl (c_var 0) c_int)) a_nil))))) ?_
  exact s_nil
theorem sc13 : FnScope ["web", "inner"] ["web"] (defScope (top 22)) := ⟨rfl, rfl, rfl, by decide +kernel, rfl, by decide +kernel, by decide +kernel⟩
theorem b13 (FX : Fx K mg) (hF : AllF P w K mg base T k) {f : Addr} (cdv : Value) (A : Around) (outer : List Env) (s : Shared) (H : Hp) (E : XK) (hr : Room k (A.deeper (envOfC "ties_apart" (defScope (top 22)) s.heap.objs.size f cdv))) :
    PSs (cxOf (L2.CX P w) P w K mg base ["web", "inner"] "ties_apart" (defScope (top 22)) f cdv A outer s H E) (defBody (top 22)) (rdSs (Wof K) E T fu_ties_apart.body) := by
  have hN : (["web", "inner"] : List Str).Nodup := sc13.nd
  have hu0 : (A.deeper (envOfC "ties_apart" (defScope (top 22)) s.heap.objs.size f cdv)).units < cLine := by have := hr.un; omega
  have hu4 : (A.deeper (envOfC "ties_apart" (defScope (top 22)) s.heap.objs.size f cdv)).units + 64 < cLine := by have := hr.un; omega
  have hu5 : (A.deeper (envOfC "ties_apart" (defScope (top 22)) s.heap.objs.size f cdv)).units + 65 < cLine := by have := hr.un; omega
  have tk : Takes (cxOf (L2.CX P w) P w K mg base ["web", "inner"] "ties_apart" (defScope (top 22)) f cdv A outer s H E) (fun cls d _ H => E cls d H) := takes_of rfl rfl rfl rfl
  have px : Passes (L2.CX P w) (cxOf (L2.CX P w) P w K mg base ["web", "inner"] "ties_apart" (defScope (top 22)) f cdv A outer s H E) E := passes_call tk fun _ _ _ _ h => h
  have po : PassesOwn (model P w) (cxOf (L2.CX P w) P w K mg base ["web", "inner"] "ties_apart" (defScope (top 22)) f cdv A outer s H E).A (cxOf (L2.CX P w) P w K mg base ["web", "inner"] "ties_apart" (defScope (top 22)) f cdv A outer s H E).env (cxOf (L2.CX P w) P w K mg base ["web", "inner"] "ties_apart" (defScope (top 22)) f cdv A outer s H E).xe := passes_of rfl
  refine s_cons (s_exp (c_cal rfl (hF 6 _ _ _ rfl) hr rfl px (a_cons (c_var 0) (a_cons (c_gint rfl FX.i_SMALL) a_nil)))) ?_
  refine s_cons (s_asg hN (c_cal rfl (hF 8 _ _ _ rfl) hr rfl px (a_cons (c_var 0) a_nil))) ?_
  refine s_cons (s_ret (r_of (c_cal rfl (hF 11 _ _ _ rfl) hr rfl px (a_cons (c_cal rfl (hF 7 _ _ _ rfl) hr rfl px (a_cons (c_var 1) a_nil)) (a_cons (c_lrng1 rfl rfl FX.m_list rfl FX.m_range (c_sub rfl (c_var 1) c_int)) a_nil))))) ?_
  exact s_nil
theorem sc14 : FnScope ["_law_cell", "_law_at", "_law_whole_here", "_law_mixed", "_law_more"] ["_law_cell", "_law_at", "_law_whole_here"] (defScope (top 24)) := ⟨rfl, rfl, rfl, by decide +kernel, rfl, by decide +kernel, by decide +kernel⟩
theorem b14 (FX : Fx K mg) (hF : AllF P w K mg base T k) {f : Addr} (cdv : Value) (A : Around) (outer : List Env) (s : Shared) (H : Hp) (E : XK) (hr : Room k (A.deeper (envOfC "_law_number" (defScope (top 24)) s.heap.objs.size f cdv))) :
    PSs (cxOf (L2.CX P w) P w K mg base ["_law_cell", "_law_at", "_law_whole_here", "_law_mixed", "_law_more"] "_law_number" (defScope (top 24)) f cdv A outer s H E) (defBody (top 24)) (rdSs (Wof K) E T fu_law_number.body) := by
  have hN : (["_law_cell", "_law_at", "_law_whole_here", "_law_mixed", "_law_more"] : List Str).Nodup := sc14.nd
  have hu0 : (A.deeper (envOfC "_law_number" (defScope (top 24)) s.heap.objs.size f cdv)).units < cLine := by have := hr.un; omega
  have hu4 : (A.deeper (envOfC "_law_number" (defScope (top 24)) s.heap.objs.size f cdv)).units + 64 < cLine := by have := hr.un; omega
  have hu5 : (A.deeper (envOfC "_law_number" (defScope (top 24)) s.heap.objs.size f cdv)).units + 65 < cLine := by have := hr.un; omega
  have tk : Takes (cxOf (L2.CX P w) P w K mg base ["_law_cell", "_law_at", "_law_whole_here", "_law_mixed", "_law_more"] "_law_number" (defScope (top 24)) f cdv A outer s H E) (fun cls d _ H => E cls d H) := takes_of rfl rfl rfl rfl
  have px : Passes (L2.CX P w) (cxOf (L2.CX P w) P w K mg base ["_law_cell", "_law_at", "_law_whole_here", "_law_mixed", "_law_more"] "_law_number" (defScope (top 24)) f cdv A outer s H E) E := passes_call tk fun _ _ _ _ h => h
  have po : PassesOwn (model P w) (cxOf (L2.CX P w) P w K mg base ["_law_cell", "_law_at", "_law_whole_here", "_law_mixed", "_law_more"] "_law_number" (defScope (top 24)) f cdv A outer s H E).A (cxOf (L2.CX P w) P w K mg base ["_law_cell", "_law_at", "_law_whole_here", "_law_mixed", "_law_more"] "_law_number" (defScope (top 24)) f cdv A outer s H E).env (cxOf (L2.CX P w) P w K mg base ["_law_cell", "_law_at", "_law_whole_here", "_law_mixed", "_law_more"] "_law_number" (defScope (top 24)) f cdv A outer s H E).xe := passes_of rfl
  refine s_cons (s_if (t_cmp o_ge (c_var 0) (c_op o_pow c_int c_int) (by with_unfolding_all rfl)) (s_cons (s_ret (r_var 0))
      s_nil) s_nil) ?_
  refine s_cons (s_asg hN (c_op o_mod (c_op o_add (c_op o_mul (c_op o_add (c_var 0) (c_op o_mul c_int (c_var 1))) c_int) (c_var 2)) c_int)) ?_
  refine s_cons (s_asg hN (c_op o_mul (c_op o_mul (c_var 3) (c_op o_add (c_op o_add (c_var 3) (c_op o_mul c_int (c_var 1))) c_int)) (c_op o_add (c_op o_add (c_var 3) (c_var 0)) c_int))) ?_
  refine s_cons (s_ret (r_of (c_op o_fdiv (c_op o_mul (c_var 4) (c_op o_add (c_var 4) c_int)) c_int))) ?_
  exact s_nil
theorem sc15 : FnScope ["_law_script", "_law_by", "_law_places", "_law_ties", "_law_cells", "_law_whole_here", "_law_found", "_law_at", "_law_many", "_law_kind", "_law_number_here", "_law_first", "_law_other", "_law_tie"] ["_law_script", "_law_by", "_law_places", "_law_ties"] (defScope (top 25)) := ⟨rfl, rfl, rfl, by decide +kernel, rfl, by decide +kernel, by decide +kernel⟩
theorem b15 (FX : Fx K mg) (hF : AllF P w K mg base T k) {f : Addr} (cdv : Value) (A : Around) (outer : List Env) (s : Shared) (H : Hp) (E : XK) (hr : Room k (A.deeper (envOfC "_law_web" (defScope (top 25)) s.heap.objs.size f cdv))) :
    PSs (cxOf (L2.CX P w) P w K mg base ["_law_script", "_law_by", "_law_places", "_law_ties", "_law_cells", "_law_whole_here", "_law_found", "_law_at", "_law_many", "_law_kind", "_law_number_here", "_law_first", "_law_other", "_law_tie"] "_law_web" (defScope (top 25)) f cdv A outer s H E) (defBody (top 25)) (rdSs (Wof K) E T fu_law_web.body) := by
  have hN : (["_law_script", "_law_by", "_law_places", "_law_ties", "_law_cells", "_law_whole_here", "_law_found", "_law_at", "_law_many", "_law_kind", "_law_number_here", "_law_first", "_law_other", "_law_tie"] : List Str).Nodup := sc15.nd
  have hu0 : (A.deeper (envOfC "_law_web" (defScope (top 25)) s.heap.objs.size f cdv)).units < cLine := by have := hr.un; omega
  have hu4 : (A.deeper (envOfC "_law_web" (defScope (top 25)) s.heap.objs.size f cdv)).units + 64 < cLine := by have := hr.un; omega
  have hu5 : (A.deeper (envOfC "_law_web" (defScope (top 25)) s.heap.objs.size f cdv)).units + 65 < cLine := by have := hr.un; omega
  have tk : Takes (cxOf (L2.CX P w) P w K mg base ["_law_script", "_law_by", "_law_places", "_law_ties", "_law_cells", "_law_whole_here", "_law_found", "_law_at", "_law_many", "_law_kind", "_law_number_here", "_law_first", "_law_other", "_law_tie"] "_law_web" (defScope (top 25)) f cdv A outer s H E) (fun cls d _ H => E cls d H) := takes_of rfl rfl rfl rfl
  have px : Passes (L2.CX P w) (cxOf (L2.CX P w) P w K mg base ["_law_script", "_law_by", "_law_places", "_law_ties", "_law_cells", "_law_whole_here", "_law_found", "_law_at", "_law_many", "_law_kind", "_law_number_here", "_law_first", "_law_other", "_law_tie"] "_law_web" (defScope (top 25)) f cdv A outer s H E) E := passes_call tk fun _ _ _ _ h => h
  have po : PassesOwn (model P w) (cxOf (L2.CX P w) P w K mg base ["_law_script", "_law_by", "_law_places", "_law_ties", "_law_cells", "_law_whole_here", "_law_found", "_law_at", "_law_many", "_law_kind", "_law_number_here", "_law_first", "_law_other", "_law_tie"] "_law_web" (defScope (top 25)) f cdv A outer s H E).A (cxOf (L2.CX P w) P w K mg base ["_law_script", "_law_by", "_law_places", "_law_ties", "_law_cells", "_law_whole_here", "_law_found", "_law_at", "_law_many", "_law_kind", "_law_number_here", "_law_first", "_law_other", "_law_tie"] "_law_web" (defScope (top 25)) f cdv A outer s H E).env (cxOf (L2.CX P w) P w K mg base ["_law_script", "_law_by", "_law_places", "_law_ties", "_law_cells", "_law_whole_here", "_law_found", "_law_at", "_law_many", "_law_kind", "_law_number_here", "_law_first", "_law_other", "_law_tie"] "_law_web" (defScope (top 25)) f cdv A outer s H E).xe := passes_of rfl
  refine s_cons (s_asg hN (c_ite (t_cmp (o_ne rfl hu4) (c_var 0) (c_lst a_nil) (by with_unfolding_all rfl)) (c_slc rfl (c_var 0) o_no (o_so c_int)) (c_lst (a_cons c_int a_nil)))) ?_
  refine s_cons (s_asg hN (c_op o_add (c_bi (b_sum rfl rfl) rfl FX.m_sum rfl (a_cons (c_var 4) a_nil)) (c_var 1))) ?_
  refine s_cons (by first | exact s_par rfl hN (a_cons (c_op o_mod (c_var 5) (c_op o_add (c_var 2) c_int)) (a_cons (c_op o_mod (c_op o_fdiv (c_var 5) c_int) c_int) a_nil)) | exact s_parU rfl hN (a_cons (c_op o_mod (c_var 5) (c_op o_add (c_var 2) c_int)) (a_cons (c_op o_mod (c_op o_fdiv (c_var 5) c_int) c_int) a_nil))) ?_
  refine s_cons (s_asg hN (c_lst a_nil)) ?_
  refine s_cons (s_for po rfl (i_rng1 rfl FX.m_range (c_var 3)) (g_one 7 hN) (s_cons (s_asg hN (c_op o_fdiv (c_cal rfl (hF 14 _ _ _ rfl) hr rfl px (a_cons (c_sub rfl (c_var 4) (c_op o_mod (c_op o_add (c_var 7) (c_var 1)) (c_bi (b_len rfl) rfl FX.m_len rfl (a_cons (c_var 4) a_nil)))) (a_cons (c_op o_add (c_var 7) (c_var 1)) (a_cons (c_var 5) a_nil)))) c_int))
      (s_cons (s_if (t_cmp o_gt (c_var 8) c_int (by with_unfolding_all rfl)) (s_cons (s_asg hN (c_sub rfl (c_tup (a_cons (c_op o_mod (c_var 10) (c_var 8)) (a_cons (c_op o_mod (c_var 7) (c_var 8)) (a_cons c_int (a_cons (c_op o_mod (c_var 10) (c_var 8)) (a_cons (c_op o_mod (c_var 7) (c_var 8)) a_nil)))))) (c_var 9)))
      (s_cons (s_asg hN (c_sub rfl (c_tup (a_cons (c_op o_mod (c_op o_fdiv (c_var 10) c_int) (c_var 8)) (a_cons (c_op o_mod (c_op o_add (c_var 7) c_int) (c_var 8)) (a_cons (c_op o_add c_int (c_op o_mod (c_var 7) (c_op o_sub (c_var 8) c_int))) (a_cons (c_op o_mod (c_op o_add (c_var 11) c_int) (c_var 8)) (a_cons (c_op o_mod (c_var 10) (c_var 8)) a_nil)))))) (c_var 9)))
      (s_cons (s_asg hN (c_tup (a_cons (c_bi (b_min rfl rfl) rfl FX.m_min rfl (a_cons (c_var 11) (a_cons (c_var 12) a_nil))) (a_cons (c_bi (b_max rfl rfl) rfl FX.m_max rfl (a_cons (c_var 11) (a_cons (c_var 12) a_nil))) a_nil))))
      (s_cons (s_if (L2.PW.pt (t_and (t_cmp (o_ne rfl hu4) (c_var 11) (c_var 12) (by with_unfolding_all rfl)) (t_and1 (t_cmp (o_notin rfl hu5) (c_var 13) (c_var 6) (by with_unfolding_all rfl))))) (s_cons (s_mut PySem.F.slot_list_append PySem.F.type_list_append mt_append mo_append rfl (p_nil 6) (a_cons (c_var 13) a_nil))
      s_nil) s_nil)
      s_nil)))) s_nil)
      s_nil))) ?_
  refine s_cons (s_ret (r_tup (ra_cons (r_var 8) (ra_cons (r_of (c_bi (b_sorted rfl) rfl FX.m_sorted rfl (a_cons (c_var 6) a_nil))) ra_nil)))) ?_
  exact s_nil
theorem sc16 : FnScope ["_law_web_here", "_law_found", "_law_far", "_law_one", "_law_at"] ["_law_web_here"] (defScope (top 26)) := ⟨rfl, rfl, rfl, by decide +kernel, rfl, by decide +kernel, by decide +kernel⟩
theorem b16 (FX : Fx K mg) (hF : AllF P w K mg base T k) {f : Addr} (cdv : Value) (A : Around) (outer : List Env) (s : Shared) (H : Hp) (E : XK) (hr : Room k (A.deeper (envOfC "_law_tie_web" (defScope (top 26)) s.heap.objs.size f cdv))) :
    PSs (cxOf (L2.CX P w) P w K mg base ["_law_web_here", "_law_found", "_law_far", "_law_one", "_law_at"] "_law_tie_web" (defScope (top 26)) f cdv A outer s H E) (defBody (top 26)) (rdSs (Wof K) E T fu_law_tie_web.body) := by
  have hN : (["_law_web_here", "_law_found", "_law_far", "_law_one", "_law_at"] : List Str).Nodup := sc16.nd
  have hu0 : (A.deeper (envOfC "_law_tie_web" (defScope (top 26)) s.heap.objs.size f cdv)).units < cLine := by have := hr.un; omega
  have hu4 : (A.deeper (envOfC "_law_tie_web" (defScope (top 26)) s.heap.objs.size f cdv)).units + 64 < cLine := by have := hr.un; omega
  have hu5 : (A.deeper (envOfC "_law_tie_web" (defScope (top 26)) s.heap.objs.size f cdv)).units + 65 < cLine := by have := hr.un; omega
  have tk : Takes (cxOf (L2.CX P w) P w K mg base ["_law_web_here", "_law_found", "_law_far", "_law_one", "_law_at"] "_law_tie_web" (defScope (top 26)) f cdv A outer s H E) (fun cls d _ H => E cls d H) := takes_of rfl rfl rfl rfl
  have px : Passes (L2.CX P w) (cxOf (L2.CX P w) P w K mg base ["_law_web_here", "_law_found", "_law_far", "_law_one", "_law_at"] "_law_tie_web" (defScope (top 26)) f cdv A outer s H E) E := passes_call tk fun _ _ _ _ h => h
  have po : PassesOwn (model P w) (cxOf (L2.CX P w) P w K mg base ["_law_web_here", "_law_found", "_law_far", "_law_one", "_law_at"] "_law_tie_web" (defScope (top 26)) f cdv A outer s H E).A (cxOf (L2.CX P w) P w K mg base ["_law_web_here", "_law_found", "_law_far", "_law_one", "_law_at"] "_law_tie_web" (defScope (top 26)) f cdv A outer s H E).env (cxOf (L2.CX P w) P w K mg base ["_law_web_here", "_law_found", "_law_far", "_law_one", "_law_at"] "_law_tie_web" (defScope (top 26)) f cdv A outer s H E).xe := passes_of rfl
  refine s_cons (s_asg hN (c_lst a_nil)) ?_
  refine s_cons (s_for po rfl (i_enu rfl FX.m_enumerate (c_sub rfl (c_var 0) c_int)) (g_two 2 3 rfl hN) (s_cons (s_asg hN (c_op o_add (c_var 1) (c_comp (own := [("_law_at", 4)]) rfl hN (i_rng1 rfl FX.m_range (c_var 2)) (show BlkOk ["_law_web_here", "_law_found", "_law_far", "_law_one", "_law_at"] (defScope (top 26)) _ _ from blkOk_by (by decide +kernel)) rfl (fun _ _ _ _ _ => (g_one 4 hN)) (fun _ _ _ _ _ => (x_one (L2.PW.pt (t_or (t_cmp (o_in rfl hu5) (c_sub rfl (c_sub rfl (c_sub rfl (c_var 0) c_int) (c_var 4)) c_int) (c_var 3) (by with_unfolding_all rfl)) (t_or1 (t_cmp (o_in rfl hu5) (c_sub rfl (c_sub rfl (c_sub rfl (c_var 0) c_int) (c_var 4)) c_int) (c_var 3) (by with_unfolding_all rfl))))))) (fun _ _ _ _ _ => (c_tup (a_cons (c_var 4) (a_cons (c_var 2) a_nil)))))))
      s_nil)) ?_
  refine s_cons (s_ret (r_tup (ra_cons (r_of (c_bi (b_len rfl) rfl FX.m_len rfl (a_cons (c_sub rfl (c_var 0) c_int) a_nil))) (ra_cons (r_of (c_bi (b_sorted rfl) rfl FX.m_sorted rfl (a_cons (c_var 1) a_nil))) ra_nil)))) ?_
  exact s_nil
theorem sc17 : FnScope ["_law_found"] ["_law_found"] (defScope (top 27)) := ⟨rfl, rfl, rfl, by decide +kernel, rfl, by decide +kernel, by decide +kernel⟩
theorem b17 (FX : Fx K mg) (hF : AllF P w K mg base T k) {f : Addr} (cdv : Value) (A : Around) (outer : List Env) (s : Shared) (H : Hp) (E : XK) (hr : Room k (A.deeper (envOfC "_law_whole" (defScope (top 27)) s.heap.objs.size f cdv))) :
    PSs (cxOf (L2.CX P w) P w K mg base ["_law_found"] "_law_whole" (defScope (top 27)) f cdv A outer s H E) (defBody (top 27)) (rdSs (Wof K) E T fu_law_whole.body) := by
  have hN : (["_law_found"] : List Str).Nodup := sc17.nd
  have hu0 : (A.deeper (envOfC "_law_whole" (defScope (top 27)) s.heap.objs.size f cdv)).units < cLine := by have := hr.un; omega
  have hu4 : (A.deeper (envOfC "_law_whole" (defScope (top 27)) s.heap.objs.size f cdv)).units + 64 < cLine := by have := hr.un; omega
  have hu5 : (A.deeper (envOfC "_law_whole" (defScope (top 27)) s.heap.objs.size f cdv)).units + 65 < cLine := by have := hr.un; omega
  have tk : Takes (cxOf (L2.CX P w) P w K mg base ["_law_found"] "_law_whole" (defScope (top 27)) f cdv A outer s H E) (fun cls d _ H => E cls d H) := takes_of rfl rfl rfl rfl
  have px : Passes (L2.CX P w) (cxOf (L2.CX P w) P w K mg base ["_law_found"] "_law_whole" (defScope (top 27)) f cdv A outer s H E) E := passes_call tk fun _ _ _ _ h => h
  have po : PassesOwn (model P w) (cxOf (L2.CX P w) P w K mg base ["_law_found"] "_law_whole" (defScope (top 27)) f cdv A outer s H E).A (cxOf (L2.CX P w) P w K mg base ["_law_found"] "_law_whole" (defScope (top 27)) f cdv A outer s H E).env (cxOf (L2.CX P w) P w K mg base ["_law_found"] "_law_whole" (defScope (top 27)) f cdv A outer s H E).xe := passes_of rfl
  refine s_cons (s_ret (r_of (c_and (c_isi rfl rfl rfl FX.m_isinstance rfl FX.m_int rfl (c_var 0)) (c_one (c_not (c_isi rfl rfl rfl FX.m_isinstance rfl FX.m_bool rfl (c_var 0))))))) ?_
  exact s_nil
theorem sc18 : FnScope ["_law_web_here", "_law_found", "_law_one", "_law_other", "_law_place", "_law_some"] ["_law_web_here"] (defScope (top 28)) := ⟨rfl, rfl, rfl, by decide +kernel, rfl, by decide +kernel, by decide +kernel⟩
theorem b18 (FX : Fx K mg) (hF : AllF P w K mg base T k) {f : Addr} (cdv : Value) (A : Around) (outer : List Env) (s : Shared) (H : Hp) (E : XK) (hr : Room k (A.deeper (envOfC "_law_near" (defScope (top 28)) s.heap.objs.size f cdv))) :
    PSs (cxOf (L2.CX P w) P w K mg base ["_law_web_here", "_law_found", "_law_one", "_law_other", "_law_place", "_law_some"] "_law_near" (defScope (top 28)) f cdv A outer s H E) (defBody (top 28)) (rdSs (Wof K) E T fu_law_near.body) := by
  have hN : (["_law_web_here", "_law_found", "_law_one", "_law_other", "_law_place", "_law_some"] : List Str).Nodup := sc18.nd
  have hu0 : (A.deeper (envOfC "_law_near" (defScope (top 28)) s.heap.objs.size f cdv)).units < cLine := by have := hr.un; omega
  have hu4 : (A.deeper (envOfC "_law_near" (defScope (top 28)) s.heap.objs.size f cdv)).units + 64 < cLine := by have := hr.un; omega
  have hu5 : (A.deeper (envOfC "_law_near" (defScope (top 28)) s.heap.objs.size f cdv)).units + 65 < cLine := by have := hr.un; omega
  have tk : Takes (cxOf (L2.CX P w) P w K mg base ["_law_web_here", "_law_found", "_law_one", "_law_other", "_law_place", "_law_some"] "_law_near" (defScope (top 28)) f cdv A outer s H E) (fun cls d _ H => E cls d H) := takes_of rfl rfl rfl rfl
  have px : Passes (L2.CX P w) (cxOf (L2.CX P w) P w K mg base ["_law_web_here", "_law_found", "_law_one", "_law_other", "_law_place", "_law_some"] "_law_near" (defScope (top 28)) f cdv A outer s H E) E := passes_call tk fun _ _ _ _ h => h
  have po : PassesOwn (model P w) (cxOf (L2.CX P w) P w K mg base ["_law_web_here", "_law_found", "_law_one", "_law_other", "_law_place", "_law_some"] "_law_near" (defScope (top 28)) f cdv A outer s H E).A (cxOf (L2.CX P w) P w K mg base ["_law_web_here", "_law_found", "_law_one", "_law_other", "_law_place", "_law_some"] "_law_near" (defScope (top 28)) f cdv A outer s H E).env (cxOf (L2.CX P w) P w K mg base ["_law_web_here", "_law_found", "_law_one", "_law_other", "_law_place", "_law_some"] "_law_near" (defScope (top 28)) f cdv A outer s H E).xe := passes_of rfl
  refine s_cons (by first | exact s_asg hN (c_comp (own := [("_law_place", 4)]) rfl hN (i_rng1 rfl FX.m_range (c_sub rfl (c_var 0) c_int)) (show BlkOk ["_law_web_here", "_law_found", "_law_one", "_law_other", "_law_place", "_law_some"] (defScope (top 28)) _ _ from blkOk_by (by decide +kernel)) rfl (fun _ _ _ _ _ => (g_one 4 hN)) (fun _ _ _ _ _ => x_nil) (fun _ _ _ _ _ => (c_lst a_nil))) | exact s_asgLc (own := [("_law_place", 4)]) rfl hN (i_rng1 rfl FX.m_range (c_sub rfl (c_var 0) c_int)) (show BlkOk ["_law_web_here", "_law_found", "_law_one", "_law_other", "_law_place", "_law_some"] (defScope (top 28)) _ _ from blkOk_by (by decide +kernel)) rfl (fun _ _ _ _ _ => (g_one 4 hN)) (fun _ _ _ _ _ => x_nil) (fun _ _ _ _ _ => (c_lst a_nil))) ?_
  refine s_cons (s_for po rfl (i_seq rfl (c_sub rfl (c_var 0) c_int)) (g_two 2 3 rfl hN) (s_cons (s_mut PySem.F.slot_list_append PySem.F.type_list_append mt_append mo_append rfl (p_cons (p_nil 1) (c_var 2)) (a_cons (c_var 3) a_nil))
      (s_cons (s_mut PySem.F.slot_list_append PySem.F.type_list_append mt_append mo_append rfl (p_cons (p_nil 1) (c_var 3)) (a_cons (c_var 2) a_nil))
      s_nil))) ?_
  refine s_cons (s_ret (r_of (c_comp (own := [("_law_some", 5)]) rfl hN (i_seq rfl (c_var 1)) (show BlkOk ["_law_web_here", "_law_found", "_law_one", "_law_other", "_law_place", "_law_some"] (defScope (top 28)) _ _ from blkOk_by (by decide +kernel)) rfl (fun _ _ _ _ _ => (g_one 5 hN)) (fun _ _ _ _ _ => x_nil) (fun _ _ _ _ _ => (c_bi (b_sorted rfl) rfl FX.m_sorted rfl (a_cons (c_var 5) a_nil)))))) ?_
  exact s_nil
theorem sc19 : FnScope ["_law_web_here"] ["_law_web_here"] (defScope (top 29)) := ⟨rfl, rfl, rfl, by decide +kernel, rfl, by decide +kernel, by decide +kernel⟩
theorem b19 (FX : Fx K mg) (hF : AllF P w K mg base T k) {f : Addr} (cdv : Value) (A : Around) (outer : List Env) (s : Shared) (H : Hp) (E : XK) (hr : Room k (A.deeper (envOfC "_law_copied" (defScope (top 29)) s.heap.objs.size f cdv))) :
    PSs (cxOf (L2.CX P w) P w K mg base ["_law_web_here"] "_law_copied" (defScope (top 29)) f cdv A outer s H E) (defBody (top 29)) (rdSs (Wof K) E T fu_law_copied.body) := by
  have hN : (["_law_web_here"] : List Str).Nodup := sc19.nd
  have hu0 : (A.deeper (envOfC "_law_copied" (defScope (top 29)) s.heap.objs.size f cdv)).units < cLine := by have := hr.un; omega
  have hu4 : (A.deeper (envOfC "_law_copied" (defScope (top 29)) s.heap.objs.size f cdv)).units + 64 < cLine := by have := hr.un; omega
  have hu5 : (A.deeper (envOfC "_law_copied" (defScope (top 29)) s.heap.objs.size f cdv)).units + 65 < cLine := by have := hr.un; omega
  have tk : Takes (cxOf (L2.CX P w) P w K mg base ["_law_web_here"] "_law_copied" (defScope (top 29)) f cdv A outer s H E) (fun cls d _ H => E cls d H) := takes_of rfl rfl rfl rfl
  have px : Passes (L2.CX P w) (cxOf (L2.CX P w) P w K mg base ["_law_web_here"] "_law_copied" (defScope (top 29)) f cdv A outer s H E) E := passes_call tk fun _ _ _ _ h => h
  have po : PassesOwn (model P w) (cxOf (L2.CX P w) P w K mg base ["_law_web_here"] "_law_copied" (defScope (top 29)) f cdv A outer s H E).A (cxOf (L2.CX P w) P w K mg base ["_law_web_here"] "_law_copied" (defScope (top 29)) f cdv A outer s H E).env (cxOf (L2.CX P w) P w K mg base ["_law_web_here"] "_law_copied" (defScope (top 29)) f cdv A outer s H E).xe := passes_of rfl
  refine s_cons (s_ret (r_tup (ra_cons (r_of (c_sub rfl (c_var 0) c_int)) (ra_cons (r_of (c_biT b_list rfl FX.m_list rfl (a_cons (c_sub rfl (c_var 0) c_int) a_nil))) ra_nil)))) ?_
  exact s_nil
theorem sc20 : FnScope ["_law_web_here", "_law_place", "_law_most", "_law_around", "_law_lists", "_law_many", "_law_some", "_law_one"] ["_law_web_here"] (defScope (top 30)) := ⟨rfl, rfl, rfl, by decide +kernel, rfl, by decide +kernel, by decide +kernel⟩
theorem b20 (FX : Fx K mg) (hF : AllF P w K mg base T k) {f : Addr} (cdv : Value) (A : Around) (outer : List Env) (s : Shared) (H : Hp) (E : XK) (hr : Room k (A.deeper (envOfC "_law_apart" (defScope (top 30)) s.heap.objs.size f cdv))) :
    PSs (cxOf (L2.CX P w) P w K mg base ["_law_web_here", "_law_place", "_law_most", "_law_around", "_law_lists", "_law_many", "_law_some", "_law_one"] "_law_apart" (defScope (top 30)) f cdv A outer s H E) (defBody (top 30)) (rdSs (Wof K) E T fu_law_apart.body) := by
  have hN : (["_law_web_here", "_law_place", "_law_most", "_law_around", "_law_lists", "_law_many", "_law_some", "_law_one"] : List Str).Nodup := sc20.nd
  have hu0 : (A.deeper (envOfC "_law_apart" (defScope (top 30)) s.heap.objs.size f cdv)).units < cLine := by have := hr.un; omega
  have hu4 : (A.deeper (envOfC "_law_apart" (defScope (top 30)) s.heap.objs.size f cdv)).units + 64 < cLine := by have := hr.un; omega
  have hu5 : (A.deeper (envOfC "_law_apart" (defScope (top 30)) s.heap.objs.size f cdv)).units + 65 < cLine := by have := hr.un; omega
  have tk : Takes (cxOf (L2.CX P w) P w K mg base ["_law_web_here", "_law_place", "_law_most", "_law_around", "_law_lists", "_law_many", "_law_some", "_law_one"] "_law_apart" (defScope (top 30)) f cdv A outer s H E) (fun cls d _ H => E cls d H) := takes_of rfl rfl rfl rfl
  have px : Passes (L2.CX P w) (cxOf (L2.CX P w) P w K mg base ["_law_web_here", "_law_place", "_law_most", "_law_around", "_law_lists", "_law_many", "_law_some", "_law_one"] "_law_apart" (defScope (top 30)) f cdv A outer s H E) E := passes_call tk fun _ _ _ _ h => h
  have po : PassesOwn (model P w) (cxOf (L2.CX P w) P w K mg base ["_law_web_here", "_law_place", "_law_most", "_law_around", "_law_lists", "_law_many", "_law_some", "_law_one"] "_law_apart" (defScope (top 30)) f cdv A outer s H E).A (cxOf (L2.CX P w) P w K mg base ["_law_web_here", "_law_place", "_law_most", "_law_around", "_law_lists", "_law_many", "_law_some", "_law_one"] "_law_apart" (defScope (top 30)) f cdv A outer s H E).env (cxOf (L2.CX P w) P w K mg base ["_law_web_here", "_law_place", "_law_most", "_law_around", "_law_lists", "_law_many", "_law_some", "_law_one"] "_law_apart" (defScope (top 30)) f cdv A outer s H E).xe := passes_of rfl
  refine s_cons (by first | exact s_par rfl hN (a_cons (c_cal rfl (hF 18 _ _ _ rfl) hr rfl px (a_cons (c_var 0) a_nil)) (a_cons (c_lst (a_cons (c_lst a_nil) a_nil)) a_nil)) | exact s_parU rfl hN (a_cons (c_cal rfl (hF 18 _ _ _ rfl) hr rfl px (a_cons (c_var 0) a_nil)) (a_cons (c_lst (a_cons (c_lst a_nil) a_nil)) a_nil))) ?_
  refine s_cons (s_for po rfl (i_rng1 rfl FX.m_range (c_sub rfl (c_var 0) c_int)) (g_one 1 hN) (s_cons (s_asg hN (c_op o_add (c_var 4) (c_comp (own := [("_law_some", 6)]) rfl hN (i_seq rfl (c_var 4)) (show BlkOk ["_law_web_here", "_law_place", "_law_most", "_law_around", "_law_lists", "_law_many", "_law_some", "_law_one"] (defScope (top 30)) _ _ from blkOk_by (by decide +kernel)) rfl (fun _ _ _ _ _ => (g_one 6 hN)) (fun _ _ _ _ _ => (x_one (t_not (t_val (c_bi (b_any rfl rfl) rfl FX.m_any rfl (a_cons (c_comp (own := [("_law_one", 7)]) rfl hN (i_seq rfl (c_var 6)) (blkOk_by (by rfl)) rfl (fun _ _ _ _ _ => (g_one 7 hN)) (fun _ _ _ _ _ => x_nil) (fun _ _ _ _ _ => (c_cmp (o_in rfl hu5) (c_var 7) (c_sub rfl (c_var 3) (c_var 1)) (by with_unfolding_all rfl)))) a_nil)))))) (fun _ _ _ _ _ => (c_op o_add (c_var 6) (c_lst (a_cons (c_var 1) a_nil)))))))
      s_nil)) ?_
  refine s_cons (s_asg hN (c_bi (b_max rfl rfl) rfl FX.m_max rfl (a_cons (c_comp (own := [("_law_some", 6)]) rfl hN (i_seq rfl (c_var 4)) (show BlkOk ["_law_web_here", "_law_place", "_law_most", "_law_around", "_law_lists", "_law_many", "_law_some", "_law_one"] (defScope (top 30)) _ _ from blkOk_by (by decide +kernel)) rfl (fun _ _ _ _ _ => (g_one 6 hN)) (fun _ _ _ _ _ => x_nil) (fun _ _ _ _ _ => (c_bi (b_len rfl) rfl FX.m_len rfl (a_cons (c_var 6) a_nil)))) a_nil))) ?_
  refine s_cons (s_ret (r_of (c_comp (own := [("_law_many", 5)]) rfl hN (i_rng1 rfl FX.m_range (c_op o_add (c_var 2) c_int)) (show BlkOk ["_law_web_here", "_law_place", "_law_most", "_law_around", "_law_lists", "_law_many", "_law_some", "_law_one"] (defScope (top 30)) _ _ from blkOk_by (by decide +kernel)) rfl (fun _ _ _ _ _ => (g_one 5 hN)) (fun _ _ _ _ _ => x_nil) (fun _ _ _ _ _ => (c_bi (b_len rfl) rfl FX.m_len rfl (a_cons (c_comp (own := [("_law_some", 6)]) rfl hN (i_seq rfl (c_var 4)) (blkOk_by (by rfl)) rfl (fun _ _ _ _ _ => (g_one 6 hN)) (fun _ _ _ _ _ => (x_one (t_cmp (o_eq rfl hu4) (c_bi (b_len rfl) rfl FX.m_len rfl (a_cons (c_var 6) a_nil)) (c_var 5) (by with_unfolding_all rfl)))) (fun _ _ _ _ _ => (c_var 6))) a_nil)))))) ?_
  exact s_nil
theorem sc21 : FnScope ["_law_script", "_law_whole_here", "_law_most", "_law_by", "_law_handed", "_law_found", "_law_told", "_law_kept", "_law_far", "_law_web_here", "_law_high", "_law_more", "_law_one", "_law_other"] ["_law_script"] (defScope (top 31)) := ⟨rfl, rfl, rfl, by decide +kernel, rfl, by decide +kernel, by decide +kernel⟩
theorem b21 (FX : Fx K mg) (hF : AllF P w K mg base T k) {f : Addr} (cdv : Value) (A : Around) (outer : List Env) (s : Shared) (H : Hp) (E : XK) (hr : Room k (A.deeper (envOfC "law" (defScope (top 31)) s.heap.objs.size f cdv))) :
    PSs (cxOf (L2.CX P w) P w K mg base ["_law_script", "_law_whole_here", "_law_most", "_law_by", "_law_handed", "_law_found", "_law_told", "_law_kept", "_law_far", "_law_web_here", "_law_high", "_law_more", "_law_one", "_law_other"] "law" (defScope (top 31)) f cdv A outer s H E) (defBody (top 31)) (rdSs (Wof K) E T fu_law_14.body) := by
  have hN : (["_law_script", "_law_whole_here", "_law_most", "_law_by", "_law_handed", "_law_found", "_law_told", "_law_kept", "_law_far", "_law_web_here", "_law_high", "_law_more", "_law_one", "_law_other"] : List Str).Nodup := sc21.nd
  have hu0 : (A.deeper (envOfC "law" (defScope (top 31)) s.heap.objs.size f cdv)).units < cLine := by have := hr.un; omega
  have hu4 : (A.deeper (envOfC "law" (defScope (top 31)) s.heap.objs.size f cdv)).units + 64 < cLine := by have := hr.un; omega
  have hu5 : (A.deeper (envOfC "law" (defScope (top 31)) s.heap.objs.size f cdv)).units + 65 < cLine := by have := hr.un; omega
  have tk : Takes (cxOf (L2.CX P w) P w K mg base ["_law_script", "_law_whole_here", "_law_most", "_law_by", "_law_handed", "_law_found", "_law_told", "_law_kept", "_law_far", "_law_web_here", "_law_high", "_law_more", "_law_one", "_law_other"] "law" (defScope (top 31)) f cdv A outer s H E) (fun cls d _ H => E cls d H) := takes_of rfl rfl rfl rfl
  have px : Passes (L2.CX P w) (cxOf (L2.CX P w) P w K mg base ["_law_script", "_law_whole_here", "_law_most", "_law_by", "_law_handed", "_law_found", "_law_told", "_law_kept", "_law_far", "_law_web_here", "_law_high", "_law_more", "_law_one", "_law_other"] "law" (defScope (top 31)) f cdv A outer s H E) E := passes_call tk fun _ _ _ _ h => h
  have po : PassesOwn (model P w) (cxOf (L2.CX P w) P w K mg base ["_law_script", "_law_whole_here", "_law_most", "_law_by", "_law_handed", "_law_found", "_law_told", "_law_kept", "_law_far", "_law_web_here", "_law_high", "_law_more", "_law_one", "_law_other"] "law" (defScope (top 31)) f cdv A outer s H E).A (cxOf (L2.CX P w) P w K mg base ["_law_script", "_law_whole_here", "_law_most", "_law_by", "_law_handed", "_law_found", "_law_told", "_law_kept", "_law_far", "_law_web_here", "_law_high", "_law_more", "_law_one", "_law_other"] "law" (defScope (top 31)) f cdv A outer s H E).env (cxOf (L2.CX P w) P w K mg base ["_law_script", "_law_whole_here", "_law_most", "_law_by", "_law_handed", "_law_found", "_law_told", "_law_kept", "_law_far", "_law_web_here", "_law_high", "_law_more", "_law_one", "_law_other"] "law" (defScope (top 31)) f cdv A outer s H E).xe := passes_of rfl
  refine s_cons (s_asg hN (c_bi (b_sum rfl rfl) rfl FX.m_sum rfl (a_cons (c_slc rfl (c_var 0) o_no (o_so c_int)) a_nil))) ?_
  refine s_cons (s_asg hN (c_ite (t_cmp (o_eq rfl hu4) (c_op o_mod (c_var 1) c_int) c_int (by with_unfolding_all rfl)) c_int c_int)) ?_
  refine s_cons (s_for po rfl (i_rng1 rfl FX.m_range c_int) (g_one 3 hN) (s_cons (by first | exact s_par rfl hN (a_cons (c_cal rfl (hF 15 _ _ _ rfl) hr rfl px (a_cons (c_var 0) (a_cons (c_var 3) (a_cons (c_var 2) (a_cons c_int a_nil))))) (a_cons (c_cal rfl (hF 15 _ _ _ rfl) hr rfl px (a_cons (c_var 0) (a_cons (c_op o_add (c_var 3) c_int) (a_cons c_int (a_cons (c_var 2) a_nil))))) a_nil)) | exact s_parU rfl hN (a_cons (c_cal rfl (hF 15 _ _ _ rfl) hr rfl px (a_cons (c_var 0) (a_cons (c_var 3) (a_cons (c_var 2) (a_cons c_int a_nil))))) (a_cons (c_cal rfl (hF 15 _ _ _ rfl) hr rfl px (a_cons (c_var 0) (a_cons (c_op o_add (c_var 3) c_int) (a_cons c_int (a_cons (c_var 2) a_nil))))) a_nil)))
      (s_cons (s_asg hN (c_cal rfl (hF 19 _ _ _ rfl) hr rfl px (a_cons (c_var 9) a_nil)))
      (s_cons (s_asg hN (c_cal rfl (hF 12 _ _ _ rfl) hr rfl px (a_cons (c_var 4) a_nil)))
      (s_cons (s_if (L2.PW.pt (t_or (t_not (t_val (c_isi rfl rfl rfl FX.m_isinstance rfl FX.m_list rfl (c_var 5)))) (t_or (t_cmp (o_ne rfl hu4) (c_var 5) (c_cal rfl (hF 20 _ _ _ rfl) hr rfl px (a_cons (c_var 9) a_nil)) (by with_unfolding_all rfl)) (t_or1 (t_cmp (o_ne rfl hu4) (c_var 4) (c_var 9) (by with_unfolding_all rfl)))))) (s_cons (s_ret (r_of c_bl))
      s_nil) s_nil)
      (s_cons (s_if (t_not (t_val (c_bi (b_all rfl rfl) rfl FX.m_all rfl (a_cons (c_comp (own := [("_law_one", 12)]) rfl hN (i_seq rfl (c_var 5)) (show BlkOk ["_law_script", "_law_whole_here", "_law_most", "_law_by", "_law_handed", "_law_found", "_law_told", "_law_kept", "_law_far", "_law_web_here", "_law_high", "_law_more", "_law_one", "_law_other"] (defScope (top 31)) _ _ from blkOk_by (by decide +kernel)) rfl (fun _ _ _ _ _ => (g_one 12 hN)) (fun _ _ _ _ _ => x_nil) (fun _ _ _ _ _ => (c_cal rfl (hF 17 _ _ _ rfl) hr rfl passL (a_cons (c_var 12) a_nil)))) a_nil)))) (s_cons (s_ret (r_of c_bl))
      s_nil) s_nil)
      (s_cons (s_asg hN (c_cal rfl (hF 13 _ _ _ rfl) hr rfl px (a_cons (c_var 10) a_nil)))
      (s_cons (s_if (L2.PW.pt (t_or (t_cmp (o_ne rfl hu4) (c_var 6) (c_cal rfl (hF 20 _ _ _ rfl) hr rfl px (a_cons (c_cal rfl (hF 16 _ _ _ rfl) hr rfl px (a_cons (c_var 10) a_nil)) a_nil)) (by with_unfolding_all rfl)) (t_or1 (t_cmp (o_ne rfl hu4) (c_var 6) (c_cal rfl (hF 12 _ _ _ rfl) hr rfl px (a_cons (c_cal rfl (hF 9 _ _ _ rfl) hr rfl px (a_cons (c_var 10) a_nil)) a_nil)) (by with_unfolding_all rfl))))) (s_cons (s_ret (r_of c_bl))
      s_nil) s_nil)
      (s_cons (s_if (t_cmp (o_lt hu0) (c_sub rfl (c_var 9) c_int) c_int (by with_unfolding_all rfl)) (s_cons (s_asg hN (c_cal rfl (hF 12 _ _ _ rfl) hr rfl px (a_cons (c_tup (a_cons (c_op o_add (c_sub rfl (c_var 9) c_int) c_int) (a_cons (c_sub rfl (c_var 9) c_int) a_nil))) a_nil)))
      (s_cons (s_if (t_cmp (o_ne rfl hu4) (c_var 11) (c_comp (own := [("_law_one", 12), ("_law_other", 13)]) rfl hN (i_zip rfl FX.m_zip (c_op o_add (c_var 5) (c_lst (a_cons c_int a_nil))) (c_op o_add (c_lst (a_cons c_int a_nil)) (c_var 5))) (show BlkOk ["_law_script", "_law_whole_here", "_law_most", "_law_by", "_law_handed", "_law_found", "_law_told", "_law_kept", "_law_far", "_law_web_here", "_law_high", "_law_more", "_law_one", "_law_other"] (defScope (top 31)) _ _ from blkOk_by (by decide +kernel)) rfl (fun _ _ _ _ _ => (g_two 12 13 rfl hN)) (fun _ _ _ _ _ => x_nil) (fun _ _ _ _ _ => (c_op o_add (c_var 12) (c_var 13)))) (by with_unfolding_all rfl)) (s_cons (s_ret (r_of c_bl))
      s_nil) s_nil)
      s_nil)) s_nil)
      (s_cons (s_asg hN (c_biT b_list rfl FX.m_list rfl (a_cons (c_var 5) a_nil)))
      (s_cons (s_mut PySem.F.slot_list_append PySem.F.type_list_append mt_append mo_append rfl (p_nil 5) (a_cons c_int a_nil))
      (s_cons (s_mut PySem.F.slot_list_append PySem.F.type_list_append mt_append mo_append rfl (p_nil 6) (a_cons c_int a_nil))
      (s_cons (s_if (L2.PW.pt (t_or (t_cmp (o_ne rfl hu4) (c_cal rfl (hF 12 _ _ _ rfl) hr rfl px (a_cons (c_var 4) a_nil)) (c_var 7) (by with_unfolding_all rfl)) (t_or1 (t_cmp (o_ne rfl hu4) (c_cal rfl (hF 13 _ _ _ rfl) hr rfl px (a_cons (c_var 10) a_nil)) (c_slc rfl (c_var 6) o_no (o_so (c_neg c_int))) (by with_unfolding_all rfl))))) (s_cons (s_ret (r_of c_bl))
      s_nil) s_nil)
      (s_cons (s_if (t_cmp (o_ne rfl hu4) (c_sub rfl (c_var 4) c_int) (c_lst a_nil) (by with_unfolding_all rfl)) (s_cons (s_mut PySem.F.slot_list_pop PySem.F.type_list_pop mt_popAt mo_popAt rfl (p_cons (p_nil 4) c_int) (a_cons (c_op o_mod (c_var 1) (c_bi (b_len rfl) rfl FX.m_len rfl (a_cons (c_sub rfl (c_var 4) c_int) a_nil))) a_nil))
      (s_cons (s_if (t_cmp (o_ne rfl hu4) (c_cal rfl (hF 12 _ _ _ rfl) hr rfl px (a_cons (c_var 4) a_nil)) (c_cal rfl (hF 20 _ _ _ rfl) hr rfl px (a_cons (c_var 4) a_nil)) (by with_unfolding_all rfl)) (s_cons (s_ret (r_of c_bl))
      s_nil) s_nil)
      s_nil)) s_nil)
      (s_cons (s_asg hN (c_cal rfl (hF 19 _ _ _ rfl) hr rfl px (a_cons (c_var 10) a_nil)))
      (s_cons (s_if (t_cmp (o_ne rfl hu4) (c_sub rfl (c_var 8) c_int) (c_lst a_nil) (by with_unfolding_all rfl)) (s_cons (s_mut PySem.F.slot_list_pop PySem.F.type_list_pop mt_popAt mo_popAt rfl (p_cons (p_nil 8) c_int) (a_cons (c_op o_mod (c_var 1) (c_bi (b_len rfl) rfl FX.m_len rfl (a_cons (c_sub rfl (c_var 8) c_int) a_nil))) a_nil))
      (s_cons (s_if (t_cmp (o_ne rfl hu4) (c_cal rfl (hF 13 _ _ _ rfl) hr rfl px (a_cons (c_var 8) a_nil)) (c_cal rfl (hF 20 _ _ _ rfl) hr rfl px (a_cons (c_cal rfl (hF 16 _ _ _ rfl) hr rfl px (a_cons (c_var 8) a_nil)) a_nil)) (by with_unfolding_all rfl)) (s_cons (s_ret (r_of c_bl))
      s_nil) s_nil)
      s_nil)) s_nil)
      s_nil)))))))))))))))) ?_
  refine s_cons (s_ret (r_of (c_and (c_cmp (o_eq rfl hu4) (c_cal rfl (hF 12 _ _ _ rfl) hr rfl px (a_cons (c_tup (a_cons c_int (a_cons (c_lst (a_cons (c_tup (a_cons c_int (a_cons c_int a_nil))) a_nil)) a_nil))) a_nil)) (c_lst (a_cons c_int (a_cons c_int (a_cons c_int a_nil)))) (by with_unfolding_all rfl)) (c_one (c_cmp (o_eq rfl hu4) (c_cal rfl (hF 13 _ _ _ rfl) hr rfl px (a_cons (c_tup (a_cons c_int (a_cons (c_lst (a_cons (c_tup (a_cons c_int (a_cons c_int a_nil))) (a_cons (c_tup (a_cons c_int (a_cons c_int a_nil))) (a_cons (c_tup (a_cons c_int (a_cons c_int a_nil))) a_nil)))) a_nil))) a_nil)) (c_lst (a_cons c_int (a_cons c_int (a_cons c_int a_nil)))) (by with_unfolding_all rfl)))))) ?_
  exact s_nil
end
theorem all_ok {P : Program} {w : World} {K : PySem.W.Frag} {mg : Str → Option Value} {base : Heap} (FX : Fx K mg) (c : He.SaysD fa fn K) : ∀ k, AllF P w K mg base (run GP k) k
  | 0, p, j, x, ps, h => by
    match p, h with
    | 0, h => cases h; obtain ⟨fd, F⟩ := c.def_ 0 (d := d0) rfl; exact ⟨⟨fd, fn_zero, FunD.bindsN F fun _ _ _ _ _ _ us hl => match us, hl with | [_], _ => rfl⟩, FX.g_0, F.kp⟩
    | 1, h => cases h; obtain ⟨fd, F⟩ := c.def_ 1 (d := d1) rfl; exact ⟨⟨fd, fn_zero, FunD.bindsN F fun _ _ _ _ _ _ us hl => match us, hl with | [_, _], _ => rfl⟩, FX.g_1, F.kp⟩
    | 2, h => cases h; obtain ⟨fd, F⟩ := c.def_ 2 (d := d2) rfl; exact ⟨⟨fd, fn_zero, FunD.bindsN F fun _ _ _ _ _ _ us hl => match us, hl with | [_, _], _ => rfl⟩, FX.g_2, F.kp⟩
    | 3, h => cases h; obtain ⟨fd, F⟩ := c.def_ 3 (d := d3) rfl; exact ⟨⟨fd, fn_zero, FunD.bindsN F fun _ _ _ _ _ _ us hl => match us, hl with | [_], _ => rfl⟩, FX.g_3, F.kp⟩
    | 4, h => cases h; obtain ⟨fd, F⟩ := c.def_ 4 (d := d4) rfl; exact ⟨⟨fd, fn_zero, FunD.bindsN F fun _ _ _ _ _ _ us hl => match us, hl with | [_], _ => rfl⟩, FX.g_4, F.kp⟩
    | 5, h => cases h; obtain ⟨fd, F⟩ := c.def_ 5 (d := d5) rfl; exact ⟨⟨fd, fn_zero, FunD.bindsN F fun _ _ _ _ _ _ us hl => match us, hl with | [_, _], _ => rfl⟩, FX.g_5, F.kp⟩
    | 6, h => cases h; obtain ⟨fd, F⟩ := c.def_ 6 (d := d6) rfl; exact ⟨⟨fd, fn_zero, FunD.bindsN F fun _ _ _ _ _ _ us hl => match us, hl with | [_, _], _ => rfl⟩, FX.g_6, F.kp⟩
    | 7, h => cases h; obtain ⟨fd, F⟩ := c.def_ 7 (d := d7) rfl; exact ⟨⟨fd, fn_zero, FunD.bindsN F fun _ _ _ _ _ _ us hl => match us, hl with | [_], _ => rfl⟩, FX.g_7, F.kp⟩
    | 8, h => cases h; obtain ⟨fd, F⟩ := c.def_ 8 (d := d8) rfl; exact ⟨⟨fd, fn_zero, FunD.bindsN F fun _ _ _ _ _ _ us hl => match us, hl with | [_], _ => rfl⟩, FX.g_8, F.kp⟩
    | 9, h => cases h; obtain ⟨fd, F⟩ := c.def_ 9 (d := d9) rfl; exact ⟨⟨fd, fn_zero, FunD.bindsN F fun _ _ _ _ _ _ us hl => match us, hl with | [_], _ => rfl⟩, FX.g_9, F.kp⟩
    | 10, h => cases h; obtain ⟨fd, F⟩ := c.def_ 10 (d := d10) rfl; exact ⟨⟨fd, fn_zero, FunD.bindsN F fun _ _ _ _ _ _ us hl => match us, hl with | [_, _], _ => rfl⟩, FX.g_10, F.kp⟩
    | 11, h => cases h; obtain ⟨fd, F⟩ := c.def_ 11 (d := d11) rfl; exact ⟨⟨fd, fn_zero, FunD.bindsN F fun _ _ _ _ _ _ us hl => match us, hl with | [_, _], _ => rfl⟩, FX.g_11, F.kp⟩
    | 12, h => cases h; obtain ⟨fd, F⟩ := c.def_ 12 (d := d12) rfl; exact ⟨⟨fd, fn_zero, FunD.bindsN F fun _ _ _ _ _ _ us hl => match us, hl with | [_], _ => rfl⟩, FX.g_12, F.kp⟩
    | 13, h => cases h; obtain ⟨fd, F⟩ := c.def_ 13 (d := d13) rfl; exact ⟨⟨fd, fn_zero, FunD.bindsN F fun _ _ _ _ _ _ us hl => match us, hl with | [_], _ => rfl⟩, FX.g_13, F.kp⟩
    | 14, h => cases h; obtain ⟨fd, F⟩ := c.def_ 14 (d := d14) rfl; exact ⟨⟨fd, fn_zero, FunD.bindsN F fun _ _ _ _ _ _ us hl => match us, hl with | [_, _, _], _ => rfl⟩, FX.g_14, F.kp⟩
    | 15, h => cases h; obtain ⟨fd, F⟩ := c.def_ 15 (d := d15) rfl; exact ⟨⟨fd, fn_zero, FunD.bindsN F fun _ _ _ _ _ _ us hl => match us, hl with | [_, _, _, _], _ => rfl⟩, FX.g_15, F.kp⟩
    | 16, h => cases h; obtain ⟨fd, F⟩ := c.def_ 16 (d := d16) rfl; exact ⟨⟨fd, fn_zero, FunD.bindsN F fun _ _ _ _ _ _ us hl => match us, hl with | [_], _ => rfl⟩, FX.g_16, F.kp⟩
    | 17, h => cases h; obtain ⟨fd, F⟩ := c.def_ 17 (d := d17) rfl; exact ⟨⟨fd, fn_zero, FunD.bindsN F fun _ _ _ _ _ _ us hl => match us, hl with | [_], _ => rfl⟩, FX.g_17, F.kp⟩
    | 18, h => cases h; obtain ⟨fd, F⟩ := c.def_ 18 (d := d18) rfl; exact ⟨⟨fd, fn_zero, FunD.bindsN F fun _ _ _ _ _ _ us hl => match us, hl with | [_], _ => rfl⟩, FX.g_18, F.kp⟩
    | 19, h => cases h; obtain ⟨fd, F⟩ := c.def_ 19 (d := d19) rfl; exact ⟨⟨fd, fn_zero, FunD.bindsN F fun _ _ _ _ _ _ us hl => match us, hl with | [_], _ => rfl⟩, FX.g_19, F.kp⟩
    | 20, h => cases h; obtain ⟨fd, F⟩ := c.def_ 20 (d := d20) rfl; exact ⟨⟨fd, fn_zero, FunD.bindsN F fun _ _ _ _ _ _ us hl => match us, hl with | [_], _ => rfl⟩, FX.g_20, F.kp⟩
    | 21, h => cases h; obtain ⟨fd, F⟩ := c.def_ 21 (d := d21) rfl; exact ⟨⟨fd, fn_zero, FunD.bindsN F fun _ _ _ _ _ _ us hl => match us, hl with | [_], _ => rfl⟩, FX.g_21, F.kp⟩
    | j + 22, h => cases h
  | k + 1, p, j, x, ps, h => by
    have ih := all_ok FX c k (P := P) (w := w) (base := base)
    match p, h with
    | 0, h => cases h; obtain ⟨fd, F⟩ := c.def_ 0 (d := d0) rfl; exact ⟨⟨fd, fn_run (W := Wof K) F sc0 rfl rfl rfl (by decide) fun cdv A outer s H E hr => b0 FX ih cdv A outer s H E hr, FunD.bindsN F fun _ _ _ _ _ _ us hl => match us, hl with | [_], _ => rfl⟩, FX.g_0, F.kp⟩
    | 1, h => cases h; obtain ⟨fd, F⟩ := c.def_ 1 (d := d1) rfl; exact ⟨⟨fd, fn_run (W := Wof K) F sc1 rfl rfl rfl (by decide) fun cdv A outer s H E hr => b1 FX ih cdv A outer s H E hr, FunD.bindsN F fun _ _ _ _ _ _ us hl => match us, hl with | [_, _], _ => rfl⟩, FX.g_1, F.kp⟩
    | 2, h => cases h; obtain ⟨fd, F⟩ := c.def_ 2 (d := d2) rfl; exact ⟨⟨fd, fn_run (W := Wof K) F sc2 rfl rfl rfl (by decide) fun cdv A outer s H E hr => b2 FX ih cdv A outer s H E hr, FunD.bindsN F fun _ _ _ _ _ _ us hl => match us, hl with | [_, _], _ => rfl⟩, FX.g_2, F.kp⟩
    | 3, h => cases h; obtain ⟨fd, F⟩ := c.def_ 3 (d := d3) rfl; exact ⟨⟨fd, fn_run (W := Wof K) F sc3 rfl rfl rfl (by decide) fun cdv A outer s H E hr => b3 FX ih cdv A outer s H E hr, FunD.bindsN F fun _ _ _ _ _ _ us hl => match us, hl with | [_], _ => rfl⟩, FX.g_3, F.kp⟩
    | 4, h => cases h; obtain ⟨fd, F⟩ := c.def_ 4 (d := d4) rfl; exact ⟨⟨fd, fn_run (W := Wof K) F sc4 rfl rfl rfl (by decide) fun cdv A outer s H E hr => b4 FX ih cdv A outer s H E hr, FunD.bindsN F fun _ _ _ _ _ _ us hl => match us, hl with | [_], _ => rfl⟩, FX.g_4, F.kp⟩
    | 5, h => cases h; obtain ⟨fd, F⟩ := c.def_ 5 (d := d5) rfl; exact ⟨⟨fd, fn_run (W := Wof K) F sc5 rfl rfl rfl (by decide) fun cdv A outer s H E hr => b5 FX ih cdv A outer s H E hr, FunD.bindsN F fun _ _ _ _ _ _ us hl => match us, hl with | [_, _], _ => rfl⟩, FX.g_5, F.kp⟩
    | 6, h => cases h; obtain ⟨fd, F⟩ := c.def_ 6 (d := d6) rfl; exact ⟨⟨fd, fn_run (W := Wof K) F sc6 rfl rfl rfl (by decide) fun cdv A outer s H E hr => b6 FX ih cdv A outer s H E hr, FunD.bindsN F fun _ _ _ _ _ _ us hl => match us, hl with | [_, _], _ => rfl⟩, FX.g_6, F.kp⟩
    | 7, h => cases h; obtain ⟨fd, F⟩ := c.def_ 7 (d := d7) rfl; exact ⟨⟨fd, fn_run (W := Wof K) F sc7 rfl rfl rfl (by decide) fun cdv A outer s H E hr => b7 FX ih cdv A outer s H E hr, FunD.bindsN F fun _ _ _ _ _ _ us hl => match us, hl with | [_], _ => rfl⟩, FX.g_7, F.kp⟩
    | 8, h => cases h; obtain ⟨fd, F⟩ := c.def_ 8 (d := d8) rfl; exact ⟨⟨fd, fn_run (W := Wof K) F sc8 rfl rfl rfl (by decide) fun cdv A outer s H E hr => b8 FX ih cdv A outer s H E hr, FunD.bindsN F fun _ _ _ _ _ _ us hl => match us, hl with | [_], _ => rfl⟩, FX.g_8, F.kp⟩
    | 9, h => cases h; obtain ⟨fd, F⟩ := c.def_ 9 (d := d9) rfl; exact ⟨⟨fd, fn_run (W := Wof K) F sc9 rfl rfl rfl (by decide) fun cdv A outer s H E hr => b9 FX ih cdv A outer s H E hr, FunD.bindsN F fun _ _ _ _ _ _ us hl => match us, hl with | [_], _ => rfl⟩, FX.g_9, F.kp⟩
    | 10, h => cases h; obtain ⟨fd, F⟩ := c.def_ 10 (d := d10) rfl; exact ⟨⟨fd, fn_run (W := Wof K) F sc10 rfl rfl rfl (by decide) fun cdv A outer s H E hr => b10 FX ih cdv A outer s H E hr, FunD.bindsN F fun _ _ _ _ _ _ us hl => match us, hl with | [_, _], _ => rfl⟩, FX.g_10, F.kp⟩
    | 11, h => cases h; obtain ⟨fd, F⟩ := c.def_ 11 (d := d11) rfl; exact ⟨⟨fd, fn_run (W := Wof K) F sc11 rfl rfl rfl (by decide) fun cdv A outer s H E hr => b11 FX ih cdv A outer s H E hr, FunD.bindsN F fun _ _ _ _ _ _ us hl => match us, hl with | [_, _], _ => rfl⟩, FX.g_11, F.kp⟩
    | 12, h => cases h; obtain ⟨fd, F⟩ := c.def_ 12 (d := d12) rfl; exact ⟨⟨fd, fn_run (W := Wof K) F sc12 rfl rfl rfl (by decide) fun cdv A outer s H E hr => b12 FX ih cdv A outer s H E hr, FunD.bindsN F fun _ _ _ _ _ _ us hl => match us, hl with | [_], _ => rfl⟩, FX.g_12, F.kp⟩
    | 13, h => cases h; obtain ⟨fd, F⟩ := c.def_ 13 (d := d13) rfl; exact ⟨⟨fd, fn_run (W := Wof K) F sc13 rfl rfl rfl (by decide) fun cdv A outer s H E hr => b13 FX ih cdv A outer s H E hr, FunD.bindsN F fun _ _ _ _ _ _ us hl => match us, hl with | [_], _ => rfl⟩, FX.g_13, F.kp⟩
    | 14, h => cases h; obtain ⟨fd, F⟩ := c.def_ 14 (d := d14) rfl; exact ⟨⟨fd, fn_run (W := Wof K) F sc14 rfl rfl rfl (by decide) fun cdv A outer s H E hr => b14 FX ih cdv A outer s H E hr, FunD.bindsN F fun _ _ _ _ _ _ us hl => match us, hl with | [_, _, _], _ => rfl⟩, FX.g_14, F.kp⟩
    | 15, h => cases h; obtain ⟨fd, F⟩ := c.def_ 15 (d := d15) rfl; exact ⟨⟨fd, fn_run (W := Wof K) F sc15 rfl rfl rfl (by decide) fun cdv A outer s H E hr => b15 FX ih cdv A outer s H E hr, FunD.bindsN F fun _ _ _ _ _ _ us hl => match us, hl with | [_, _, _, _], _ => rfl⟩, FX.g_15, F.kp⟩
    | 16, h => cases h; obtain ⟨fd, F⟩ := c.def_ 16 (d := d16) rfl; exact ⟨⟨fd, fn_run (W := Wof K) F sc16 rfl rfl rfl (by decide) fun cdv A outer s H E hr => b16 FX ih cdv A outer s H E hr, FunD.bindsN F fun _ _ _ _ _ _ us hl => match us, hl with | [_], _ => rfl⟩, FX.g_16, F.kp⟩
    | 17, h => cases h; obtain ⟨fd, F⟩ := c.def_ 17 (d := d17) rfl; exact ⟨⟨fd, fn_run (W := Wof K) F sc17 rfl rfl rfl (by decide) fun cdv A outer s H E hr => b17 FX ih cdv A outer s H E hr, FunD.bindsN F fun _ _ _ _ _ _ us hl => match us, hl with | [_], _ => rfl⟩, FX.g_17, F.kp⟩
    | 18, h => cases h; obtain ⟨fd, F⟩ := c.def_ 18 (d := d18) rfl; exact ⟨⟨fd, fn_run (W := Wof K) F sc18 rfl rfl rfl (by decide) fun cdv A outer s H E hr => b18 FX ih cdv A outer s H E hr, FunD.bindsN F fun _ _ _ _ _ _ us hl => match us, hl with | [_], _ => rfl⟩, FX.g_18, F.kp⟩
    | 19, h => cases h; obtain ⟨fd, F⟩ := c.def_ 19 (d := d19) rfl; exact ⟨⟨fd, fn_run (W := Wof K) F sc19 rfl rfl rfl (by decide) fun cdv A outer s H E hr => b19 FX ih cdv A outer s H E hr, FunD.bindsN F fun _ _ _ _ _ _ us hl => match us, hl with | [_], _ => rfl⟩, FX.g_19, F.kp⟩
    | 20, h => cases h; obtain ⟨fd, F⟩ := c.def_ 20 (d := d20) rfl; exact ⟨⟨fd, fn_run (W := Wof K) F sc20 rfl rfl rfl (by decide) fun cdv A outer s H E hr => b20 FX ih cdv A outer s H E hr, FunD.bindsN F fun _ _ _ _ _ _ us hl => match us, hl with | [_], _ => rfl⟩, FX.g_20, F.kp⟩
    | 21, h => cases h; obtain ⟨fd, F⟩ := c.def_ 21 (d := d21) rfl; exact ⟨⟨fd, fn_run (W := Wof K) F sc21 rfl rfl rfl (by decide) fun cdv A outer s H E hr => b21 FX ih cdv A outer s H E hr, FunD.bindsN F fun _ _ _ _ _ _ us hl => match us, hl with | [_], _ => rfl⟩, FX.g_21, F.kp⟩
    | j + 22, h => cases h
abbrev R : PySem.W.OpenRow := PySem.W.OpenLaw.row PySem.Challenge.rw_tieweb_k14_whole_apart
abbrev hk : PySem.W.Hook := He.hookD 4 fa fn
def ob (s : PySem.W.SharedT) : He.AlD := He.obsDG 4 fa fn (HandSHeadRun.getT s)
theorem ob_eq (s : PySem.W.SharedT) : ob s = hk.obs s.abs := He.obsDG_eq (HandSHeadRun.getT_eq s)
def loose : List PySem.Str := (["is_whole", "is_below", "is_tie", "is_web", "check_small", "check_places", "check_few_ties", "near_of", "tie_web_of", "tie_web", "added", "apart_of", "places_apart", "ties_apart", "_law_number", "_law_web", "_law_tie_web", "_law_whole", "_law_near", "_law_copied", "_law_apart", "MOST_PLACES", "MOST_TIES", "SMALL", "WebError", "BadWeb"] : List PySem.Str)
theorem hrun (w : World) : HandSHeadRun.RunEq R (PySem.W.view R.prog [31]) hk ob 4000 loose w := by
  intro os
  kernel_rfl
end k14_whole_apart
open PySem PySem.W PySem.Calls PyProof.Rows
theorem PySem.Challenge.cw_tieweb_k14_whole_apart_holds : PySem.Challenge.rw_tieweb_k14_whole_apart.Holds := by
  w_on; o_law
  refine HandSHeadRun.head_any (r := OpenLaw.row PySem.Challenge.rw_tieweb_k14_whole_apart) (q := view (OpenLaw.row PySem.Challenge.rw_tieweb_k14_whole_apart).prog [31]) (H := k14_whole_apart.hk) (ob := k14_whole_apart.ob) (M := 4000) (loose := k14_whole_apart.loose) (d := HandSHeadRun.topDef (OpenLaw.row PySem.Challenge.rw_tieweb_k14_whole_apart).prog 31) (kwd := []) k14_whole_apart.ob_eq
    (by kernel_rfl) (fun s => by kernel_rfl) k14_whole_apart.hrun (by kernel_rfl) (by kernel_rfl) (by kernel_rfl) (by rfl) (by first | assumption | decide +kernel) (by decide +kernel) ⟨rfl, rfl, rfl, rfl, rfl, by decide +kernel⟩ ?hw ?hc
  case hw => w_witness2
  case hc =>
    refine TW.walk_tw (l := PySem.Challenge.rw_tieweb_k14_whole_apart) (n := 63) (k := 40) (x := "_law_script") (PR := TW.GP) (i := 121) rfl (by decide) (by kernel_rfl) ⟨rfl, by decide, by decide⟩ ?F TW.k14_true
    intro w mg fa h Y G hmg0
    obtain ⟨K, KX, c⟩ := Y
    have hmg : mg ("law" : PySem.Str) = some (.ref fa) := by
      have e : (HandSHeadRun.topDef (OpenLaw.row PySem.Challenge.rw_tieweb_k14_whole_apart).prog 31).name = ("law" : PySem.Str) := by kernel_rfl
      rw [← e]
      exact hmg0
    have FX := k14_whole_apart.fx_of KX G c
    have e := hmg.symm.trans FX.g_21
    cases e
    obtain ⟨fd, F⟩ := c.def_ 21 (d := k14_whole_apart.d21) rfl
    have b := L2.FunD.bindsA (ps := ["_law_script"]) F fun _ _ _ _ _ _ us hl => match us, hl with | [_], _ => rfl
    refine ⟨k14_whole_apart.Wof K, fd, KX, fun s v => b s [v] rfl, fun base _ _ => ?_⟩
    exact L2.FnOk.imp (TW.fn_run (W := k14_whole_apart.Wof K) (PR := TW.GP) (i := 121) F k14_whole_apart.sc21 rfl rfl rfl (by decide) fun cdv A outer s H E hr => k14_whole_apart.b21 FX (k14_whole_apart.all_ok FX c 39) cdv A outer s H E hr) fun vs H Q E h => h
