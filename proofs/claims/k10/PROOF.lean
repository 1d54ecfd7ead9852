import PyProof.Rows.All
import Wide.All
import OpenK.AllK
import Wide.FinOn
import KE.KStateDown
import Lean
import HandS.ForMost
import HandS.ForExc
import HandS.Walk
import HandS.Deep
import HandS.Style
import HandS.Sort
import HandS.SortRule
import HandS.SortInts
import HandS.SortOrd
import HandS.TupLe
import HandS.TupSets
import HandS.SetFor
import HandS.Strs
import HandS.Conv
import HandS.IsInst
import HandS.CallLocal
import HandS.Wide
import HandS.More
import HandS.Defaults
import HandS.EndBits
import HandS.Head0
import HandS.Head1
import HandS.Head2
import HandS.HeadEnd
import HandS.HeadHook1
import HandS.HeadHook2
import KE.SortData
import KE.DataMinMax
import KE.KDictZip
import KE.KDictList
import KE.DataFind
import PySem.Challenge.RW_tieweb_k10_whole_trail
set_option Elab.async false
set_option linter.all false
set_option maxRecDepth 100000
set_option maxHeartbeats 4000000
namespace TW
open PySem PySem.Spec PyProof.Rows L2

structure Wd where
  K : PySem.W.Frag
  fa : Nat → Addr
  ca : Nat → Addr
  ex : Option (Addr × Nat)

inductive D where
  | non
  | bl (b : Bool)
  | int (i : Int)
  | str (x : Str)
  | fn (x : Nat)
  | tup (ds : List D)
  | lst (ds : List D)
  | scr (ns : List Int)
  | dic (ks : List Int)
  | ins (C : Nat) (f : Str) (d : D)
  | exc (C : Nat)

inductive Md where
  | sh | fl | dp
  deriving DecidableEq

mutual
def lfree : D → Bool
  | .tup ds => lfrees ds
  | .lst _ => false
  | .dic _ => false
  | .ins _ _ d => lfree d
  | .non => true
  | .bl _ => true
  | .int _ => true
  | .str _ => true
  | .fn _ => true
  | .scr _ => true
  | .exc _ => true
def lfrees : List D → Bool
  | [] => true
  | d :: ds => lfree d && lfrees ds
end

def KLst (K : PySem.W.Frag) (a : Addr) (xs : List V) : Prop :=
  ∃ (o : Obj) (its : Array Value) (n : Nat), K.lookup a = some o ∧ o.cls = .type "list" ∧ o.dict = none ∧ o.data = .seq its n ∧ its.size ≤ sizeLine ∧ Vals xs its.toList
def ScrAt (K : PySem.W.Frag) (H : Hp) (a : Addr) (xs : List V) : Prop := (∃ o, H a = some (.frz o (.lst xs))) ∨ KLst K a xs
theorem ScrAt.sq {K : PySem.W.Frag} {H : Hp} {a : Addr} {xs : List V} (h : ScrAt K H a xs) : SqL K H a xs := by
  rcases h with ⟨o, h⟩ | h
  · exact .inl (.inr ⟨o, h⟩)
  · exact .inr h
abbrev dicV (ks : List Int) : List (Key × V) := ks.map fun k => (Sum.inl k, V.bl true)
mutual
def Rp (W : Wd) (H : Hp) (O : Addr → Prop) : D → V → Prop
  | .non, v => v = .non
  | .bl b, v => v = .bl b
  | .int i, v => v = .int i
  | .str x, v => v = .str x
  | .fn x, v => v = .ref (W.fa x)
  | .tup ds, v => ∃ a vs, v = .ref a ∧ H a = some (.tup vs) ∧ vs.length ≤ sizeLine ∧ Rps W H O ds vs
  | .lst ds, v => ∃ a vs, v = .ref a ∧ ¬ O a ∧ H a = some (.lst vs) ∧ vs.length ≤ sizeLine ∧ Rps W H O ds vs
  | .scr ns, v => ∃ a, v = .ref a ∧ ScrAt W.K H a (ns.map V.int) ∧ ns.length ≤ sizeLine
  | .dic ks, v => ∃ a, v = .ref a ∧ ¬ O a ∧ H a = some (.dK (dicV ks)) ∧ ks.length ≤ sizeLine
  | .ins C f d, v => ∃ a dx fv, v = .ref a ∧ H a = some (.ins (W.ca C) dx [(f, fv)]) ∧ Rp W H O d fv
  | .exc C, v => ∃ a, v = .ref a ∧ W.ex = some (a, C)
def Rps (W : Wd) (H : Hp) (O : Addr → Prop) : List D → List V → Prop
  | [], vs => vs = []
  | d :: ds, vs => ∃ v r, vs = v :: r ∧ Rp W H O d v ∧ Rps W H O ds r
end
mutual
/-- as Rp, with the list of all its changeable cells -/
def Dq (W : Wd) (H : Hp) : D → V → List Addr → Prop
  | .non, v, F => v = .non ∧ F = []
  | .bl b, v, F => v = .bl b ∧ F = []
  | .int i, v, F => v = .int i ∧ F = []
  | .str x, v, F => v = .str x ∧ F = []
  | .fn x, v, F => v = .ref (W.fa x) ∧ F = []
  | .tup ds, v, F => ∃ a vs, v = .ref a ∧ H a = some (.tup vs) ∧ vs.length ≤ sizeLine ∧ Dqs W H ds vs F
  | .lst ds, v, F => ∃ a vs G, v = .ref a ∧ F = a :: G ∧ H a = some (.lst vs) ∧ vs.length ≤ sizeLine ∧ Dqs W H ds vs G
  | .scr ns, v, F => (∃ a, v = .ref a ∧ ScrAt W.K H a (ns.map V.int) ∧ ns.length ≤ sizeLine) ∧ F = []
  | .dic ks, v, F => ∃ a, v = .ref a ∧ F = [a] ∧ H a = some (.dK (dicV ks)) ∧ ks.length ≤ sizeLine
  | .ins C f d, v, F => ∃ a dx fv, v = .ref a ∧ H a = some (.ins (W.ca C) dx [(f, fv)]) ∧ Dq W H d fv F
  | .exc C, v, F => (∃ a, v = .ref a ∧ W.ex = some (a, C)) ∧ F = []
def Dqs (W : Wd) (H : Hp) : List D → List V → List Addr → Prop
  | [], vs, F => vs = [] ∧ F = []
  | d :: ds, vs, F => ∃ v r F1 F2, vs = v :: r ∧ F = F1 ++ F2 ∧ Dq W H d v F1 ∧ Dqs W H ds r F2
end

section
variable {W : Wd} {K : PySem.W.Frag} {H H' : Hp} {O O' : Addr → Prop}
def MutC : HO → Prop
  | .lst _ => True
  | .dK _ => True
  | _ => False

mutual
theorem Rp.mono (s : Same H H') (ho : ∀ a, O' a → O a) : ∀ (d : D) (v : V), Rp W H O d v → Rp W H' O' d v
  | .non, v, h => h
  | .bl _, v, h => h
  | .int _, v, h => h
  | .str _, v, h => h
  | .fn _, v, h => h
  | .exc _, v, h => h
  | .tup ds, v, h => by
    obtain ⟨a, vs, e, h1, h2, h3⟩ := h
    exact ⟨a, vs, e, s _ _ h1, h2, Rps.mono s ho ds vs h3⟩
  | .lst ds, v, h => by
    obtain ⟨a, vs, e, h0, h1, h2, h3⟩ := h
    exact ⟨a, vs, e, fun z => h0 (ho a z), s _ _ h1, h2, Rps.mono s ho ds vs h3⟩
  | .scr ns, v, h => by
    obtain ⟨a, e, h1, h2⟩ := h
    refine ⟨a, e, ?_, h2⟩
    rcases h1 with ⟨o, h1⟩ | h1
    · exact .inl ⟨o, s _ _ h1⟩
    · exact .inr h1
  | .dic ks, v, h => by
    obtain ⟨a, e, h0, h1, h2⟩ := h
    exact ⟨a, e, fun z => h0 (ho a z), s _ _ h1, h2⟩
  | .ins C f d, v, h => by
    obtain ⟨a, dx, fv, e, h1, h3⟩ := h
    exact ⟨a, dx, fv, e, s _ _ h1, Rp.mono s ho d fv h3⟩
theorem Rps.mono (s : Same H H') (ho : ∀ a, O' a → O a) : ∀ (ds : List D) (vs : List V), Rps W H O ds vs → Rps W H' O' ds vs
  | [], vs, h => h
  | d :: ds, vs, h => by
    obtain ⟨v, r, e, h1, h2⟩ := h
    exact ⟨v, r, e, Rp.mono s ho d v h1, Rps.mono s ho ds r h2⟩
end
mutual
theorem Dq.mono (s : Same H H') : ∀ (d : D) (v : V) (F : List Addr), Dq W H d v F → Dq W H' d v F
  | .non, v, F, h => h
  | .bl _, v, F, h => h
  | .int _, v, F, h => h
  | .str _, v, F, h => h
  | .fn _, v, F, h => h
  | .exc _, v, F, h => h
  | .tup ds, v, F, h => by
    obtain ⟨a, vs, e, h1, h2, h3⟩ := h
    exact ⟨a, vs, e, s _ _ h1, h2, Dqs.mono s ds vs F h3⟩
  | .lst ds, v, F, h => by
    obtain ⟨a, vs, G, e, eF, h1, h2, h3⟩ := h
    exact ⟨a, vs, G, e, eF, s _ _ h1, h2, Dqs.mono s ds vs G h3⟩
  | .scr ns, v, F, h => by
    obtain ⟨⟨a, e, h1, h2⟩, eF⟩ := h
    refine ⟨⟨a, e, ?_, h2⟩, eF⟩
    rcases h1 with ⟨o, h1⟩ | h1
    · exact .inl ⟨o, s _ _ h1⟩
    · exact .inr h1
  | .dic ks, v, F, h => by
    obtain ⟨a, e, eF, h1, h2⟩ := h
    exact ⟨a, e, eF, s _ _ h1, h2⟩
  | .ins C f d, v, F, h => by
    obtain ⟨a, dx, fv, e, h1, h3⟩ := h
    exact ⟨a, dx, fv, e, s _ _ h1, Dq.mono s d fv F h3⟩
theorem Dqs.mono (s : Same H H') : ∀ (ds : List D) (vs : List V) (F : List Addr), Dqs W H ds vs F → Dqs W H' ds vs F
  | [], vs, F, h => h
  | d :: ds, vs, F, h => by
    obtain ⟨v, r, F1, F2, e, eF, h1, h2⟩ := h
    exact ⟨v, r, F1, F2, e, eF, Dq.mono s d v F1 h1, Dqs.mono s ds r F2 h2⟩
end
theorem upd_out {p a : Addr} {o u x : HO} (hp : H p = some o) (ha : H a = some u) (m : MutC o) (n : ¬ MutC u) : upd H p x a = some u := by
  have : a ≠ p := fun e => by
    rw [e, hp] at ha
    exact n (Option.some.inj ha ▸ m)
  rw [upd_ne this]
  exact ha
theorem ScrAt.upd {p a : Addr} {o x : HO} {xs : List V} (hp : H p = some o) (m : MutC o) (h : ScrAt K H a xs) : ScrAt K (upd H p x) a xs := by
  rcases h with ⟨ob, h⟩ | h
  · exact .inl ⟨ob, upd_out hp h m (fun z => z)⟩
  · exact .inr h
mutual
theorem Rp.upd {p : Addr} {o x : HO} (hp : H p = some o) (m : MutC o) (op : O p) : ∀ (d : D) (v : V), Rp W H O d v → Rp W (upd H p x) O d v
  | .non, v, h => h
  | .bl _, v, h => h
  | .int _, v, h => h
  | .str _, v, h => h
  | .fn _, v, h => h
  | .exc _, v, h => h
  | .tup ds, v, h => by
    obtain ⟨a, vs, e, h1, h2, h3⟩ := h
    exact ⟨a, vs, e, upd_out hp h1 m (fun z => z), h2, Rps.upd hp m op ds vs h3⟩
  | .lst ds, v, h => by
    obtain ⟨a, vs, e, h0, h1, h2, h3⟩ := h
    have ne : a ≠ p := fun z => h0 (z ▸ op)
    exact ⟨a, vs, e, h0, by rw [upd_ne ne]; exact h1, h2, Rps.upd hp m op ds vs h3⟩
  | .scr ns, v, h => by
    obtain ⟨a, e, h1, h2⟩ := h
    exact ⟨a, e, h1.upd hp m, h2⟩
  | .dic ks, v, h => by
    obtain ⟨a, e, h0, h1, h2⟩ := h
    have ne : a ≠ p := fun z => h0 (z ▸ op)
    exact ⟨a, e, h0, by rw [upd_ne ne]; exact h1, h2⟩
  | .ins C f d, v, h => by
    obtain ⟨a, dx, fv, e, h1, h3⟩ := h
    exact ⟨a, dx, fv, e, upd_out hp h1 m (fun z => z), Rp.upd hp m op d fv h3⟩
theorem Rps.upd {p : Addr} {o x : HO} (hp : H p = some o) (m : MutC o) (op : O p) : ∀ (ds : List D) (vs : List V), Rps W H O ds vs → Rps W (upd H p x) O ds vs
  | [], vs, h => h
  | d :: ds, vs, h => by
    obtain ⟨v, r, e, h1, h2⟩ := h
    exact ⟨v, r, e, Rp.upd hp m op d v h1, Rps.upd hp m op ds r h2⟩
end
mutual
theorem Dq.upd {p : Addr} {o x : HO} (hp : H p = some o) (m : MutC o) : ∀ (d : D) (v : V) (F : List Addr), p ∉ F → Dq W H d v F → Dq W (upd H p x) d v F
  | .non, v, F, n, h => h
  | .bl _, v, F, n, h => h
  | .int _, v, F, n, h => h
  | .str _, v, F, n, h => h
  | .fn _, v, F, n, h => h
  | .exc _, v, F, n, h => h
  | .tup ds, v, F, n, h => by
    obtain ⟨a, vs, e, h1, h2, h3⟩ := h
    exact ⟨a, vs, e, upd_out hp h1 m (fun z => z), h2, Dqs.upd hp m ds vs F n h3⟩
  | .lst ds, v, F, n, h => by
    obtain ⟨a, vs, G, e, eF, h1, h2, h3⟩ := h
    have ne : a ≠ p := fun z => n (by rw [eF, z]; exact List.mem_cons_self)
    exact ⟨a, vs, G, e, eF, by rw [upd_ne ne]; exact h1, h2, Dqs.upd hp m ds vs G (fun z => n (by rw [eF]; exact List.mem_cons_of_mem _ z)) h3⟩
  | .scr ns, v, F, n, h => by
    obtain ⟨⟨a, e, h1, h2⟩, eF⟩ := h
    exact ⟨⟨a, e, h1.upd hp m, h2⟩, eF⟩
  | .dic ks, v, F, n, h => by
    obtain ⟨a, e, eF, h1, h2⟩ := h
    have ne : a ≠ p := fun z => n (by rw [eF, z]; exact List.mem_cons_self)
    exact ⟨a, e, eF, by rw [upd_ne ne]; exact h1, h2⟩
  | .ins C f d, v, F, n, h => by
    obtain ⟨a, dx, fv, e, h1, h3⟩ := h
    exact ⟨a, dx, fv, e, upd_out hp h1 m (fun z => z), Dq.upd hp m d fv F n h3⟩
theorem Dqs.upd {p : Addr} {o x : HO} (hp : H p = some o) (m : MutC o) : ∀ (ds : List D) (vs : List V) (F : List Addr), p ∉ F → Dqs W H ds vs F → Dqs W (upd H p x) ds vs F
  | [], vs, F, n, h => h
  | d :: ds, vs, F, n, h => by
    obtain ⟨v, r, F1, F2, e, eF, h1, h2⟩ := h
    exact ⟨v, r, F1, F2, e, eF, Dq.upd hp m d v F1 (fun z => n (by rw [eF]; exact List.mem_append_left _ z)) h1, Dqs.upd hp m ds r F2 (fun z => n (by rw [eF]; exact List.mem_append_right _ z)) h2⟩
end

mutual
theorem Rp.off (ho : ∀ a, O' a → O a ∨ H a = none) : ∀ (d : D) (v : V), Rp W H O d v → Rp W H O' d v
  | .non, v, h => h
  | .bl _, v, h => h
  | .int _, v, h => h
  | .str _, v, h => h
  | .fn _, v, h => h
  | .exc _, v, h => h
  | .tup ds, v, h => by
    obtain ⟨a, vs, e, h1, h2, h3⟩ := h
    exact ⟨a, vs, e, h1, h2, Rps.off ho ds vs h3⟩
  | .lst ds, v, h => by
    obtain ⟨a, vs, e, h0, h1, h2, h3⟩ := h
    exact ⟨a, vs, e, fun z => (ho a z).elim h0 (fun q => by rw [h1] at q; cases q), h1, h2, Rps.off ho ds vs h3⟩
  | .scr ns, v, h => h
  | .dic ks, v, h => by
    obtain ⟨a, e, h0, h1, h2⟩ := h
    exact ⟨a, e, fun z => (ho a z).elim h0 (fun q => by rw [h1] at q; cases q), h1, h2⟩
  | .ins C f d, v, h => by
    obtain ⟨a, dx, fv, e, h1, h3⟩ := h
    exact ⟨a, dx, fv, e, h1, Rp.off ho d fv h3⟩
theorem Rps.off (ho : ∀ a, O' a → O a ∨ H a = none) : ∀ (ds : List D) (vs : List V), Rps W H O ds vs → Rps W H O' ds vs
  | [], vs, h => h
  | d :: ds, vs, h => by
    obtain ⟨v, r, e, h1, h2⟩ := h
    exact ⟨v, r, e, Rp.off ho d v h1, Rps.off ho ds r h2⟩
end
mutual
theorem Dq.rp : ∀ (d : D) (v : V) (F : List Addr), Dq W H d v F → (∀ a ∈ F, ¬ O a) → Rp W H O d v
  | .non, v, F, h, n => h.1
  | .bl _, v, F, h, n => h.1
  | .int _, v, F, h, n => h.1
  | .str _, v, F, h, n => h.1
  | .fn _, v, F, h, n => h.1
  | .exc _, v, F, h, n => h.1
  | .tup ds, v, F, h, n => by
    obtain ⟨a, vs, e, h1, h2, h3⟩ := h
    exact ⟨a, vs, e, h1, h2, Dqs.rp ds vs F h3 n⟩
  | .lst ds, v, F, h, n => by
    obtain ⟨a, vs, G, e, eF, h1, h2, h3⟩ := h
    exact ⟨a, vs, e, n a (by rw [eF]; exact List.mem_cons_self), h1, h2, Dqs.rp ds vs G h3 fun b hb => n b (by rw [eF]; exact List.mem_cons_of_mem _ hb)⟩
  | .scr ns, v, F, h, n => h.1
  | .dic ks, v, F, h, n => by
    obtain ⟨a, e, eF, h1, h2⟩ := h
    exact ⟨a, e, n a (by rw [eF]; exact List.mem_cons_self), h1, h2⟩
  | .ins C f d, v, F, h, n => by
    obtain ⟨a, dx, fv, e, h1, h3⟩ := h
    exact ⟨a, dx, fv, e, h1, Dq.rp d fv F h3 n⟩
theorem Dqs.rp : ∀ (ds : List D) (vs : List V) (F : List Addr), Dqs W H ds vs F → (∀ a ∈ F, ¬ O a) → Rps W H O ds vs
  | [], vs, F, h, n => h.1
  | d :: ds, vs, F, h, n => by
    obtain ⟨v, r, F1, F2, e, eF, h1, h2⟩ := h
    exact ⟨v, r, e, Dq.rp d v F1 h1 fun b hb => n b (by rw [eF]; exact List.mem_append_left _ hb), Dqs.rp ds r F2 h2 fun b hb => n b (by rw [eF]; exact List.mem_append_right _ hb)⟩
end
mutual
theorem Rp.dq : ∀ (d : D) (v : V), Rp W H O d v → lfree d = true → Dq W H d v []
  | .non, v, h, l => ⟨h, rfl⟩
  | .bl _, v, h, l => ⟨h, rfl⟩
  | .int _, v, h, l => ⟨h, rfl⟩
  | .str _, v, h, l => ⟨h, rfl⟩
  | .fn _, v, h, l => ⟨h, rfl⟩
  | .exc _, v, h, l => ⟨h, rfl⟩
  | .tup ds, v, h, l => by
    obtain ⟨a, vs, e, h1, h2, h3⟩ := h
    exact ⟨a, vs, e, h1, h2, Rps.dq ds vs h3 l⟩
  | .lst ds, v, h, l => by cases (show false = true from l)
  | .scr ns, v, h, l => ⟨h, rfl⟩
  | .dic ks, v, h, l => by cases (show false = true from l)
  | .ins C f d, v, h, l => by
    obtain ⟨a, dx, fv, e, h1, h3⟩ := h
    exact ⟨a, dx, fv, e, h1, Rp.dq d fv h3 l⟩
theorem Rps.dq : ∀ (ds : List D) (vs : List V), Rps W H O ds vs → lfrees ds = true → Dqs W H ds vs []
  | [], vs, h, l => ⟨h, rfl⟩
  | d :: ds, vs, h, l => by
    obtain ⟨v, r, e, h1, h2⟩ := h
    obtain ⟨l1, l2⟩ := Bool.and_eq_true_iff.mp (show (lfree d && lfrees ds) = true from l)
    exact ⟨v, r, [], [], e, rfl, Rp.dq d v h1 l1, Rps.dq ds r h2 l2⟩
end
theorem Rps.length : ∀ (ds : List D) (vs : List V), Rps W H O ds vs → vs.length = ds.length
  | [], vs, h => by
    rw [show vs = [] from h]
    rfl
  | d :: ds, vs, h => by
    obtain ⟨v, r, e, _, h2⟩ := h
    rw [e, List.length_cons, List.length_cons, Rps.length ds r h2]
theorem Dqs.length : ∀ (ds : List D) (vs : List V) (F : List Addr), Dqs W H ds vs F → vs.length = ds.length
  | [], vs, F, h => by
    rw [show vs = [] from h.1]
    rfl
  | d :: ds, vs, F, h => by
    obtain ⟨v, r, F1, F2, e, _, _, h2⟩ := h
    rw [e, List.length_cons, List.length_cons, Dqs.length ds r F2 h2]
end
end TW

set_option Elab.async false
set_option linter.all false
set_option maxRecDepth 100000
set_option maxHeartbeats 4000000
namespace TW
open PySem PySem.Spec PyProof.Rows L2

inductive Bop where
  | add | sub | mul | fdiv | mod | pow | shl | shr | band
inductive Cop where
  | lt | le | gt | ge | eq | ne | isin | notin | is_ | isnot
inductive Ty where
  | int | bool | list | tuple | cls (C : Nat)
inductive Bi where
  | len | sum | all | any | max | min | sorted | list | abs | ssort | slen | lrng | lzip | int_ | tuple
mutual
inductive E where
  | var (i : Nat)
  | lit (d : D)
  | bin (o : Bop) (a b : E)
  | cmp (o : Cop) (a b : E)
  | chn (o p : Cop) (a b c : E)
  | chn3 (o p q : Cop) (a b c d : E)
  | neg (a : E)
  | not (a : E)
  | and (a b : E)
  | or (a b : E)
  | ite (c a b : E)
  | tup (es : List E)
  | lst (es : List E)
  | sub (a i : E)
  | slc (pl ph : Bool) (a lo hi : E)
  | rev (a : E)
  | att (a : E) (f : Str)
  | cal (f : Nat) (es : List E)
  | cav (e : E) (g : Nat) (es : List E)
  | bi (b : Bi) (es : List E)
  | mix (a e : E)
  | isi (e : E) (t : Ty)
  | comp (ts : List Nat) (one : Bool) (s : Sr) (cs : List E) (e : E)
  | dnew
  | mk (C : Nat) (f : Str) (i : Nat) (es : List E)
  | met (e : E) (tb : List (Nat × Nat)) (es : List E)
  | isc (e : E) (cs : List Nat)
  | csel (gs : List Nat) (e : E) (es : List E)
  | orv (a b : E)
inductive Sr where
  | seq (e : E)
  | rng (a b : E)
  | enu (e : E)
  | zip (a b : E)
end

inductive Ex (α : Type) where
  | ok (a : α)
  | er (C : Nat)
abbrev M (α : Type) := Option (Ex α)
def bnd {α β : Type} (x : M α) (f : α → M β) : M β := match x with
  | none => none
  | some (.er C) => some (.er C)
  | some (.ok a) => f a
abbrev ok {α : Type} (a : α) : M α := some (.ok a)
def lift {α : Type} (x : Option α) : M α := match x with
  | none => none
  | some a => some (.ok a)
abbrev Sl := Option (Md × D)
abbrev Dn := List Sl
abbrev Tb := Nat → List D → M (Md × D)
abbrev SZ : Nat := 1000000

mutual
def toPy : D → PyData
  | .non => .none
  | .bl b => .bool b
  | .int i => .int i
  | .str x => .str x
  | .tup ds => .tuple (toPys ds)
  | .lst ds => .list (toPys ds)
  | .scr ns => .list (ns.map .int)
  | .fn _ => .none
  | .dic _ => .none
  | .ins _ _ _ => .none
  | .exc _ => .none
def toPys : List D → List PyData
  | [] => []
  | d :: ds => toPy d :: toPys ds
end
mutual
/-- plain data of depth at most n -/
def dat : D → Nat → Bool
  | .non, _ => true
  | .bl _, _ => true
  | .int _, _ => true
  | .str x, _ => PySem.PyData.strOk x
  | .tup ds, n => match n with
    | 0 => false
    | n + 1 => dats ds n
  | .lst ds, n => match n with
    | 0 => false
    | n + 1 => dats ds n
  | .scr _, n => decide (0 < n)
  | .fn _, _ => false
  | .dic _, _ => false
  | .ins _ _ _, _ => false
  | .exc _, _ => false
def dats : List D → Nat → Bool
  | [], _ => true
  | d :: ds, n => dat d n && dats ds n
end
abbrev eqD (a b : D) : Bool := PyData.eqv (toPy a) (toPy b)
def flatD : D → Bool
  | .non => true
  | .bl _ => true
  | .int _ => true
  | .str _ => true
  | _ => false

def intD : D → Option Int
  | .int i => some i
  | _ => none
def intsD : List D → Option (List Int)
  | [] => some []
  | .int i :: ds => (intsD ds).map (i :: ·)
  | _ => none
def prD : D → Option (Int × Int)
  | .tup [.int a, .int b] => some (a, b)
  | _ => none
def prsD : List D → Option (List (Int × Int))
  | [] => some []
  | .tup [.int a, .int b] :: ds => (prsD ds).map ((a, b) :: ·)
  | _ => none
def ilD : List D → Option (List (List Int))
  | [] => some []
  | .lst xs :: ds => match intsD xs with
    | some ns => (ilD ds).map (ns :: ·)
    | none => none
  | _ => none
def blsD : List D → Option (List Bool)
  | [] => some []
  | .bl b :: ds => (blsD ds).map (b :: ·)
  | _ => none
abbrev eI (ns : List Int) : List D := ns.map D.int
abbrev eP (p : Int × Int) : D := .tup [.int p.1, .int p.2]
abbrev eIL (g : List Int) : D := .lst (g.map D.int)

def insB {α : Type} (lt : α → α → Bool) (x : α) : List α → List α
  | [] => [x]
  | y :: r => if lt y x then y :: insB lt x r else x :: y :: r
def isortB {α : Type} (lt : α → α → Bool) : List α → List α
  | [] => []
  | x :: r => insB lt x (isortB lt r)
abbrev ltZ (a b : Int) : Bool := decide (a < b)
def ltP2 (a b : Int × Int) : Bool := decide (a.1 < b.1) || (decide (a.1 = b.1) && decide (a.2 < b.2))
def ltL : List Int → List Int → Bool
  | [], [] => false
  | [], _ :: _ => true
  | _ :: _, [] => false
  | a :: r, b :: s => if a = b then ltL r s else decide (a < b)
def sortD (ds : List D) : Option (Md × D) := match intsD ds with
  | some ns => some (.dp, .lst (eI (isortB ltZ ns)))
  | none => match prsD ds with
    | some ps => some (.dp, .lst ((isortB ltP2 ps).map eP))
    | none => match ilD ds with
      | some gs => some (.fl, .lst ((isortB ltL gs).map eIL))
      | none => none
def dedB {α : Type} [DecidableEq α] : List α → List α
  | [] => []
  | x :: r => if x ∈ r then dedB r else x :: dedB r

def cutL {α : Type} (xs : List α) (lo hi : Option Int) : List α := (xs.drop (HT.sIx xs.length 0 lo)).take (HT.sIx xs.length xs.length hi - HT.sIx xs.length 0 lo)
def optI (p : Bool) (d : D) : Option (Option Int) := if p then (intD d).map some else some none
def smallI (i : Int) : Bool := decide (i.natAbs < 1000000000)
def itemsD : D → Option (List D)
  | .lst ds => some ds
  | .tup ds => some ds
  | .scr ns => some (eI ns)
  | _ => none
def listD : D → Option (List D)
  | .lst ds => some ds
  | .scr ns => some (eI ns)
  | _ => none

def binD : Bop → D → D → Option (Md × D)
  | .add, .int i, .int j => some (.dp, .int (i + j))
  | .add, .lst xs, .lst ys => if xs.length + ys.length ≤ SZ then some (.fl, .lst (xs ++ ys)) else none
  | .sub, .int i, .int j => some (.dp, .int (i - j))
  | .mul, .int i, .int j => if i.natAbs.log2 + j.natAbs.log2 < 100000000 then some (.dp, .int (i * j)) else none
  | .mul, .lst xs, .int k => if smallI k && decide (xs.length * k.toNat ≤ SZ) then some (.fl, .lst (List.replicate k.toNat xs).flatten) else none
  | .fdiv, .int i, .int j => if 0 < j ∧ j < 1073741824 then some (.dp, .int (i / j)) else none
  | .mod, .int i, .int j => if 0 < j then some (.dp, .int (i % j)) else none
  | .pow, .int i, .int j => if 0 ≤ j ∧ j ≤ 1000 ∧ i.natAbs < 1000 then some (.dp, .int (i ^ j.toNat)) else none
  | .shl, .int i, .int j => if 0 ≤ j ∧ j ≤ 1000 ∧ i.natAbs < 1000 then some (.dp, .int (i * 2 ^ j.toNat)) else none
  | .shr, .int i, .int j => if 0 ≤ j then some (.dp, .int (i / 2 ^ j.toNat)) else none
  | .band, .int i, .int j => some (.dp, .int (Builtin.bitAnd i j))
  | _, _, _ => none
def inD (x c : D) : Option Bool := match c with
  | .lst ds => if dat x 20 && dats ds 20 then some (ds.any fun z => eqD z x) else none
  | .tup ds => if flatD x && ds.all flatD then some (ds.any fun z => eqD z x) else none
  | .dic ks => match x with
    | .int i => some (ks.contains i)
    | _ => none
  | _ => none
def ltO (a b : D) : Option Bool := match intD a, intD b with
  | some i, some j => some (decide (i < j))
  | _, _ => match prD a, prD b with
    | some p, some q => some (ltP2 p q)
    | _, _ => none
def isNon : D → Bool
  | .non => true
  | _ => false
def cmpD : Cop → D → D → Option Bool
  | .lt, a, b => ltO a b
  | .le, .int i, .int j => some (decide (i ≤ j))
  | .gt, .int i, .int j => some (decide (j < i))
  | .ge, .int i, .int j => some (decide (j ≤ i))
  | .eq, a, b => if dat a 20 && dat b 20 then some (eqD a b) else none
  | .ne, a, b => if dat a 20 && dat b 20 then some (!eqD a b) else none
  | .isin, a, b => inD a b
  | .notin, a, b => (inD a b).map (!·)
  | .is_, a, .non => some (isNon a)
  | .isnot, a, .non => some (!isNon a)
  | .is_, .bl a, .bl b => some (a == b)
  | .isnot, .bl a, .bl b => some (!(a == b))
  | _, _, _ => none
def isiD : D → Ty → Option Bool
  | .non, .cls _ => none
  | .non, _ => some false
  | .bl _, .bool => some true
  | .bl _, .int => some true
  | .bl _, .list => some false
  | .bl _, .tuple => some false
  | .int _, .int => some true
  | .int _, .bool => some false
  | .int _, .list => some false
  | .int _, .tuple => some false
  | .str _, .int => some false
  | .str _, .bool => some false
  | .str _, .list => some false
  | .str _, .tuple => some false
  | .tup _, .tuple => some true
  | .tup _, .list => some false
  | .tup _, .int => some false
  | .tup _, .bool => some false
  | .lst _, .list => some true
  | .lst _, .tuple => some false
  | .lst _, .int => some false
  | .lst _, .bool => some false
  | .dic _, .list => some false
  | .dic _, .tuple => some false
  | .dic _, .int => some false
  | .dic _, .bool => some false
  | _, _ => none
def insC (C : Nat) : Bool := C == 6 || C == 7
def excC (C : Nat) : Bool := decide (C < 12) && !(C == 5 || C == 6 || C == 7)
def iscD : D → List Nat → Option Bool
  | .ins C _ _, cs => if insC C then some (cs.contains C) else none
  | .exc C, cs => if excC C then some (cs.contains C) else none
  | _, _ => none
def attD (f : Str) : D → Option (Md × D)
  | .ins C g d => if g = f ∧ insC C = true then some (.sh, d) else none
  | _ => none
def subD : D → D → Option D
  | .lst ds, .int i => atI ds i
  | .tup ds, .int i => atI ds i
  | .scr ns, .int i => (atI ns i).map D.int
  | _, _ => none
def slcD (a : D) (l h : Option Int) : Option (Md × D) := match a with
  | .lst ds => some (.fl, .lst (cutL ds l h))
  | .scr ns => some (.dp, .lst (eI (cutL ns l h)))
  | _ => none
def maxL : List Int → Option Int
  | [] => none
  | [x] => some x
  | x :: r => (maxL r).map fun m => if m > x then m else x
def minL : List Int → Option Int
  | [] => none
  | [x] => some x
  | x :: r => (minL r).map fun m => if m < x then m else x
def rngD (a b : Int) : List D := (List.range (b - a).toNat).map fun (i : Nat) => D.int (a + (i : Int))
def rngOk (a b : Int) : Bool := smallI a && smallI b && decide ((b - a).toNat ≤ SZ)
def enuD : Nat → List D → List D
  | _, [] => []
  | n, d :: ds => .tup [.int (n : Int), d] :: enuD (n + 1) ds
def zipD : List D → List D → List D
  | a :: as, b :: bs => .tup [a, b] :: zipD as bs
  | _, _ => []
def maxD (ds : List D) : Option (Md × D) := match ds with
  | [a, b] => (intD a).bind fun i => (intD b).map fun j => (.dp, .int (if j > i then j else i))
  | [.lst ds] => ((intsD ds).bind maxL).map fun m => (.dp, .int m)
  | [.tup [.int i, .int j]] => some (.dp, .int (if j > i then j else i))
  | _ => none
def minD (ds : List D) : Option (Md × D) := match ds with
  | [a, b] => (intD a).bind fun i => (intD b).map fun j => (.dp, .int (if j < i then j else i))
  | [.lst ds] => ((intsD ds).bind minL).map fun m => (.dp, .int m)
  | _ => none
def biD : Bi → List D → Option (Md × D)
  | .len, [.lst ds] => some (.dp, .int ds.length)
  | .len, [.tup ds] => some (.dp, .int ds.length)
  | .len, [.scr ns] => some (.dp, .int ns.length)
  | .sum, [d] => ((listD d).bind intsD).map fun ns => (.dp, .int ns.sum)
  | .all, [.lst ds] => (blsD ds).map fun bs => (.dp, .bl (bs.all id))
  | .any, [.lst ds] => (blsD ds).map fun bs => (.dp, .bl (bs.any id))
  | .max, ds => maxD ds
  | .min, ds => minD ds
  | .sorted, [.lst ds] => sortD ds
  | .list, [.lst ds] => some (.fl, .lst ds)
  | .list, [.tup ds] => some (.fl, .lst ds)
  | .abs, [.int a] => some (.dp, .int (if a < 0 then -a else a))
  | .ssort, [.lst ds] => match intsD ds with
    | some ns => if ns.length < 64 then some (.dp, .lst (eI (isortB ltZ (dedB ns)))) else none
    | none => match prsD ds with
      | some ps => if ps.length < 64 ∧ ps.all (fun p => decide (0 ≤ p.1) && decide (p.1 < 64) && decide (0 ≤ p.2) && decide (p.2 < 64)) = true then some (.dp, .lst ((isortB ltP2 (dedB ps)).map eP)) else none
      | none => none
  | .slen, [.lst ds] => match prsD ds with
    | some ps => if ps.length < 64 then some (.dp, .int (dedB ps).length) else none
    | none => none
  | .lrng, [.int a, .int b] => if rngOk a b then some (.dp, .lst (rngD a b)) else none
  | .lzip, [.lst xs, .lst ys] => some (.fl, .lst (zipD xs ys))
  | .int_, [.bl b] => some (.dp, .int (if b then 1 else 0))
  | .int_, [.int i] => some (.dp, .int i)
  | .tuple, [.lst ds] => some (.sh, .tup ds)
  | _, _ => none

def scal : D → Bool
  | .non => true
  | .bl _ => true
  | .int _ => true
  | .str _ => true
  | .fn _ => true
  | _ => false
def closed (m : Md) (d : D) : Bool := match m with
  | .dp => true
  | .sh => lfree d
  | .fl => match d with
    | .lst ds => lfrees ds
    | .dic _ => true
    | d => lfree d
def closeds : List (Md × D) → Bool
  | [] => true
  | p :: ps => closed p.1 p.2 && closeds ps
def boxM (ps : List (Md × D)) : Md := if closeds ps then .dp else .fl
def tupM (ps : List (Md × D)) : Md := if closeds ps then .dp else .sh
def keep (m : Md) (d : D) : Md × D := if scal d then (.sh, d) else (m, d)
def bindT (ts : List Nat) (one : Bool) (x : D) (e : Dn) : Option Dn := match one, ts, x with
  | true, [i], x => some (e.set i (some (.sh, x)))
  | false, [i, j], .tup [x, y] => some ((e.set i (some (.sh, x))).set j (some (.sh, y)))
  | _, _, _ => none
def boolD : D → Option Bool
  | .bl b => some b
  | _ => none
def compL (f : D → Option (Option (Md × D))) : List D → Option (List (Md × D))
  | [] => some []
  | x :: xs => match f x with
    | none => none
    | some none => compL f xs
    | some (some p) => (compL f xs).map (p :: ·)
def okOnly {α : Type} (x : M α) : Option α := match x with
  | some (.ok a) => some a
  | _ => none

mutual
def ev (F : Tb) : E → Dn → M (Md × D)
  | .var i, e => match e[i]? with
    | some (some p) => ok (.sh, p.2)
    | _ => none
  | .lit d, _ => if scal d then ok (.dp, d) else none
  | .bin o a b, e => bnd (ev F a e) fun p => bnd (ev F b e) fun q => lift (binD o p.2 q.2)
  | .cmp o a b, e => bnd (ev F a e) fun p => bnd (ev F b e) fun q => lift ((cmpD o p.2 q.2).map fun b => (.dp, .bl b))
  | .chn o o2 a b c, e => bnd (ev F a e) fun p => bnd (ev F b e) fun q => match cmpD o p.2 q.2 with
    | none => none
    | some false => ok (.dp, .bl false)
    | some true => bnd (ev F c e) fun r => lift ((cmpD o2 q.2 r.2).map fun b => (.dp, .bl b))
  | .chn3 o o2 o3 a b c d, e => bnd (ev F a e) fun p => bnd (ev F b e) fun q => match cmpD o p.2 q.2 with
    | none => none
    | some false => ok (.dp, .bl false)
    | some true => bnd (ev F c e) fun r => match cmpD o2 q.2 r.2 with
      | none => none
      | some false => ok (.dp, .bl false)
      | some true => bnd (ev F d e) fun s => lift ((cmpD o3 r.2 s.2).map fun b => (.dp, .bl b))
  | .neg a, e => bnd (ev F a e) fun p => lift ((intD p.2).map fun i => (.dp, .int (-i)))
  | .not a, e => bnd (ev F a e) fun p => lift ((boolD p.2).map fun b => (.dp, .bl (!b)))
  | .and a b, e => bnd (ev F a e) fun p => match boolD p.2 with
    | none => none
    | some false => ok (.dp, .bl false)
    | some true => ev F b e
  | .or a b, e => bnd (ev F a e) fun p => match boolD p.2 with
    | none => none
    | some true => ok (.dp, .bl true)
    | some false => ev F b e
  | .ite c a b, e => bnd (ev F c e) fun p => match boolD p.2 with
    | none => none
    | some true => ev F a e
    | some false => ev F b e
  | .tup es, e => bnd (evs F es e) fun ps => ok (tupM ps, .tup (ps.map Prod.snd))
  | .lst es, e => bnd (evs F es e) fun ps => ok (boxM ps, .lst (ps.map Prod.snd))
  | .sub a i, e => bnd (ev F a e) fun p => bnd (ev F i e) fun q => lift ((subD p.2 q.2).map fun d => (.sh, d))
  | .slc pl ph a lo hi, e => bnd (ev F a e) fun p => bnd (ev F lo e) fun q => match optI pl q.2 with
    | none => none
    | some l => bnd (ev F hi e) fun r => match optI ph r.2 with
      | none => none
      | some h => lift (slcD p.2 l h)
  | .rev a, e => bnd (ev F a e) fun p => match p.2 with
    | .lst ds => ok (.fl, .lst ds.reverse)
    | _ => none
  | .att a f, e => bnd (ev F a e) fun p => lift (attD f p.2)
  | .cal f es, e => bnd (evs F es e) fun ps => bnd (F f (ps.map Prod.snd)) fun r => ok (if r.1 = .sh ∧ closeds ps ∧ closed .fl r.2 then (.fl, r.2) else r)
  | .cav a g es, e => bnd (ev F a e) fun p => match p.2 with
    | .fn f => if f = g then bnd (evs F es e) fun ps => F g (ps.map Prod.snd) else none
    | _ => none
  | .bi b es, e => bnd (evs F es e) fun ps => lift (biD b (ps.map Prod.snd))
  | .mix a b, e => bnd (ev F a e) fun p => match p.2 with
    | .lst ds => bnd (ev F b e) fun q => if dat q.2 20 && dats ds 20 then lift ((ds.findIdx? fun z => eqD z q.2).map fun i => (.dp, .int (i : Nat))) else none
    | _ => none
  | .isi a t, e => bnd (ev F a e) fun p => lift ((isiD p.2 t).map fun b => (.dp, .bl b))
  | .comp ts one s cs a, e => bnd (evS F s e) fun p => match compL (fun x => (bindT ts one x e).bind fun e1 => (okOnly (evC F cs e1)).bind fun b => if b then (okOnly (ev F a e1)).map some else some none) p.2 with
    | none => none
    | some ps => ok (boxM ps, .lst (ps.map Prod.snd))
  | .dnew, _ => ok (.dp, .dic [])
  | .mk C f i es, e => bnd (evs F es e) fun ps => bnd (F i (.non :: ps.map Prod.snd)) fun r => ok (if closed r.1 r.2 then .dp else .sh, .ins C f r.2)
  | .met a tb es, e => bnd (ev F a e) fun p => match p.2 with
    | .ins C f d => if f = "shows" then none else (match tb.lookup C with
      | some g => bnd (evs F es e) fun ps => F g (.ins C f d :: ps.map Prod.snd)
      | none => none)
    | _ => none
  | .isc a cs, e => bnd (ev F a e) fun p => lift ((iscD p.2 cs).map fun b => (.dp, .bl b))
  | .csel gs a es, e => bnd (ev F a e) fun p => match p.2 with
    | .int i => (match atI gs i with
      | some g => bnd (evs F es e) fun ps => F g (ps.map Prod.snd)
      | none => none)
    | _ => none
  | .orv a b, e => bnd (ev F a e) fun p => match p.2 with
    | .non => ev F b e
    | .lst [] => ev F b e
    | .lst (x :: xs) => ok (p.1, .lst (x :: xs))
    | _ => none
def evs (F : Tb) : List E → Dn → M (List (Md × D))
  | [], _ => ok []
  | a :: as, e => bnd (ev F a e) fun p => bnd (evs F as e) fun ps => ok (p :: ps)
/-- all tests, from the left -/
def evC (F : Tb) : List E → Dn → M Bool
  | [], _ => ok true
  | a :: as, e => bnd (ev F a e) fun p => match boolD p.2 with
    | none => none
    | some false => ok false
    | some true => evC F as e
/-- what is walked: whether its items may be others', and the items -/
def evS (F : Tb) : Sr → Dn → M (Md × List D)
  | .seq a, e => bnd (ev F a e) fun p => lift ((itemsD p.2).map fun ds => (p.1, ds))
  | .rng a b, e => bnd (ev F a e) fun p => bnd (ev F b e) fun q => match p.2, q.2 with
    | .int i, .int j => if rngOk i j then ok (.dp, rngD i j) else none
    | _, _ => none
  | .enu a, e => bnd (ev F a e) fun p => match p.2 with
    | .lst ds => ok (p.1, enuD 0 ds)
    | _ => none
  | .zip a b, e => bnd (ev F a e) fun p => bnd (ev F b e) fun q => match p.2, q.2 with
    | .lst xs, .lst ys => ok (.sh, zipD xs ys)
    | _, _ => none
end

mutual
def nm : E → List Nat
  | .var i => [i]
  | .lit _ => []
  | .bin _ a b => nm a ++ nm b
  | .cmp _ a b => nm a ++ nm b
  | .chn _ _ a b c => nm a ++ nm b ++ nm c
  | .chn3 _ _ _ a b c d => nm a ++ nm b ++ nm c ++ nm d
  | .neg a => nm a
  | .not a => nm a
  | .and a b => nm a ++ nm b
  | .or a b => nm a ++ nm b
  | .ite c a b => nm c ++ nm a ++ nm b
  | .tup es => nms es
  | .lst es => nms es
  | .sub a i => nm a ++ nm i
  | .slc _ _ a lo hi => nm a ++ nm lo ++ nm hi
  | .rev a => nm a
  | .att a _ => nm a
  | .cal _ es => nms es
  | .cav a _ es => nm a ++ nms es
  | .bi _ es => nms es
  | .mix a b => nm a ++ nm b
  | .isi a _ => nm a
  | .comp _ _ s cs a => nmS s ++ nms cs ++ nm a
  | .dnew => []
  | .mk _ _ _ es => nms es
  | .met a _ es => nm a ++ nms es
  | .isc a _ => nm a
  | .csel _ a es => nm a ++ nms es
  | .orv a b => nm a ++ nm b
def nms : List E → List Nat
  | [] => []
  | a :: as => nm a ++ nms as
def nmS : Sr → List Nat
  | .seq a => nm a
  | .rng a b => nm a ++ nm b
  | .enu a => nm a
  | .zip a b => nm a ++ nm b
end

inductive Mo where
  | append | extend | pop | remove | insert | clear | reverse | set | aug
inductive S where
  | pass
  | asg (i : Nat) (e : E)
  | par (is : List Nat) (es : List E)
  | unp (is : List Nat) (e : E)
  | aug (i : Nat) (e : E)
  | mut (i : Nat) (p : List E) (o : Mo) (es : List E)
  | dput (i : Nat) (k v : E)
  | exp (e : E)
  | ife (c : E) (a b : List S)
  | ret (e : E)
  | for_ (ts : List Nat) (one : Bool) (s : Sr) (b : List S)
  | whl (c : E) (b : List S)
  | rai (C : Nat)
  | mutF (i : Nat) (f : Str) (o : Mo) (es : List E)
  | each (i : Nat) (f : Option Str) (x : Nat) (q : List Int) (o : Mo) (es : List E)
  | tryE (a : E) (x : Nat) (cs : List Nat) (h : List S)
  | popA (i x : Nat)
inductive Fl where
  | nx (e : Dn)
  | rt (m : Md) (d : D)

def ownS : Sl → Bool
  | some (.sh, _) => false
  | none => false
  | _ => true
def frzS : Sl → Sl
  | some (_, d) => some (.sh, d)
  | none => none
def frz : List Nat → Dn → Dn
  | [], e => e
  | i :: is, e => frz is (match e[i]? with
    | some s => e.set i (frzS s)
    | none => e)
def give (is : List Nat) (m : Md) (d : D) (e : Dn) : Dn :=
  if is.any (fun i => match e[i]? with | some s => ownS s | none => false) then (if closed m d then e else frz is e) else e
def gives (is : List Nat) (ps : List (Md × D)) (e : Dn) : Dn :=
  if is.any (fun i => match e[i]? with | some s => ownS s | none => false) then (if closeds ps then e else frz is e) else e

def setAll : List Nat → List (Md × D) → Dn → Option Dn
  | [], [], e => some e
  | i :: is, p :: ps, e => setAll is ps (e.set i (some (keep p.1 p.2)))
  | _, _, _ => none
def setSh : List Nat → List D → Dn → Option Dn
  | [], [], e => some e
  | i :: is, d :: ds, e => setSh is ds (e.set i (some (.sh, d)))
  | _, _, _ => none

def moL (o : Mo) (xs : List D) (vs : List D) : Option (List D) := match o, vs with
  | .append, [v] => if xs.length < SZ then some (xs ++ [v]) else none
  | .extend, [.lst ys] => if xs.length + ys.length ≤ SZ then some (xs ++ ys) else none
  | .pop, [] => match xs with
    | [] => none
    | _ => some xs.dropLast
  | .pop, [.int i] => if smallI i then (ixN xs.length i).map fun j => xs.eraseIdx j else none
  | .remove, [v] => if dat v 20 && dats xs 20 then (xs.findIdx? fun z => eqD z v).map fun j => xs.eraseIdx j else none
  | .insert, [.int i, v] => if 0 ≤ i ∧ smallI i = true ∧ xs.length < SZ then some (xs.take i.toNat ++ [v] ++ xs.drop i.toNat) else none
  | .clear, [] => some []
  | .reverse, [] => some xs.reverse
  | .set, [.int i, v] => (ixN xs.length i).map fun j => xs.set j v
  | .aug, [.int i, .int k] => (ixN xs.length i).bind fun j => match xs[j]? with
    | some (.int n) => some (xs.set j (.int (n + k)))
    | _ => none
  | _, _ => none
def moP (o : Mo) (vs : List D) : List Int → D → Option D
  | [], .lst xs => (moL o xs vs).map D.lst
  | i :: is, .lst xs => (ixN xs.length i).bind fun j => (xs[j]?).bind fun d => (moP o vs is d).map fun d' => .lst (xs.set j d')
  | i :: is, .tup xs => (ixN xs.length i).bind fun j => (xs[j]?).bind fun d => (moP o vs is d).map fun d' => .tup (xs.set j d')
  | _, _ => none
def moS (o : Mo) (is : List Int) (ps : List (Md × D)) : Md × D → Option (Md × D)
  | (.fl, d) => match is, d with
    | [], .lst xs => (moL o xs (ps.map Prod.snd)).map fun ys => (.fl, .lst ys)
    | _, _ => none
  | (.dp, d) => if closeds ps then (moP o (ps.map Prod.snd) is d).map fun d' => (.dp, d') else match is, d with
    | [], .lst xs => (moL o xs (ps.map Prod.snd)).map fun ys => (.fl, .lst ys)
    | _, _ => none
  | (.sh, _) => none

mutual
def evr (F : Tb) : E → Dn → M (Md × D)
  | .var i, e => match e[i]? with
    | some (some p) => ok p
    | _ => none
  | .ite c a b, e => bnd (ev F c e) fun p => match boolD p.2 with
    | none => none
    | some true => evr F a e
    | some false => evr F b e
  | .tup es, e => bnd (evrs F es e) fun ps => ok (if (mvs es).Nodup then tupM ps else .sh, .tup (ps.map Prod.snd))
  | .lit d, e => ev F (.lit d) e
  | .bin o a b, e => ev F (.bin o a b) e
  | .cmp o a b, e => ev F (.cmp o a b) e
  | .chn o p a b c, e => ev F (.chn o p a b c) e
  | .chn3 o p q a b c d, e => ev F (.chn3 o p q a b c d) e
  | .neg a, e => ev F (.neg a) e
  | .not a, e => ev F (.not a) e
  | .and a b, e => ev F (.and a b) e
  | .or a b, e => ev F (.or a b) e
  | .lst es, e => ev F (.lst es) e
  | .sub a i, e => ev F (.sub a i) e
  | .slc pl ph a lo hi, e => ev F (.slc pl ph a lo hi) e
  | .rev a, e => ev F (.rev a) e
  | .att a f, e => ev F (.att a f) e
  | .cal f es, e => ev F (.cal f es) e
  | .cav a g es, e => ev F (.cav a g es) e
  | .bi b es, e => ev F (.bi b es) e
  | .mix a b, e => ev F (.mix a b) e
  | .isi a t, e => ev F (.isi a t) e
  | .comp ts one s cs a, e => ev F (.comp ts one s cs a) e
  | .dnew, e => ev F .dnew e
  | .mk C f i es, e => ev F (.mk C f i es) e
  | .met a tb es, e => ev F (.met a tb es) e
  | .isc a cs, e => ev F (.isc a cs) e
  | .csel gs a es, e => ev F (.csel gs a es) e
  | .orv a b, e => ev F (.orv a b) e
def evrs (F : Tb) : List E → Dn → M (List (Md × D))
  | [], _ => ok []
  | a :: as, e => bnd (evr F a e) fun p => bnd (evrs F as e) fun ps => ok (p :: ps)
/-- the slots that go with it -/
def mv : E → List Nat
  | .var i => [i]
  | .ite _ a b => mv a ++ mv b
  | .tup es => mvs es
  | _ => []
def mvs : List E → List Nat
  | [] => []
  | a :: as => mv a ++ mvs as
end

def getP : List Int → D → Option D
  | [], d => some d
  | i :: is, .lst xs => (atI xs i).bind (getP is)
  | i :: is, .tup xs => (atI xs i).bind (getP is)
  | _, _ => none
def evP (F : Tb) : List E → Dn → M (List Int)
  | [], _ => ok []
  | a :: as, e => bnd (evP F as e) fun is => match okOnly (ev F a e) with
    | some p => lift ((intD p.2).map (· :: is))
    | none => none
def forL (f : D → Dn → M Fl) : List D → Dn → M Fl
  | [], e => ok (.nx e)
  | x :: xs, e => bnd (f x e) fun r => match r with
    | .nx e1 => forL f xs e1
    | .rt m d => ok (.rt m d)
def whlL (c : Dn → M Bool) (b : Dn → M Fl) : Nat → Dn → M Fl
  | 0, _ => none
  | n + 1, e => bnd (c e) fun t => if t then bnd (b e) fun r => (match r with
      | .nx e1 => whlL c b n e1
      | .rt m d => ok (.rt m d)) else ok (.nx e)
abbrev WF : Nat := 300
def inF : Option Str → D → Option D
  | none, d => some d
  | some f, .ins C g d => if g = f ∧ insC C = true then some d else none
  | some _, _ => none
def reF : Option Str → D → D → D
  | some _, .ins C g _, d' => .ins C g d'
  | _, _, d' => d'
def extM (o : Mo) (ps : List (Md × D)) : List (Md × D) := match o, ps with
  | .extend, [(_, .lst ys)] => [(.fl, .lst ys)]
  | _, ps => ps
def eachF (F : Tb) (i : Nat) (f : Option Str) (q : List Int) (o : Mo) (es : List E) (j : Nat) (e : Dn) : M Dn := match e[i]? with
  | some (some (.dp, d)) => (match inF f d with
    | some d0 => (match okOnly (evs F es e) with
      | some ps => if closeds ps then lift ((moP o (ps.map Prod.snd) ((j : Int) :: q) d0).map fun d' => e.set i (some (.dp, reF f d d'))) else none
      | none => none)
    | none => none)
  | _ => none
def eachL (f : Nat → Dn → M Dn) : Nat → Nat → Dn → M Dn
  | 0, _, e => ok e
  | n + 1, j, e => bnd (f j e) fun e1 => eachL f n (j + 1) e1
mutual
def ex (F : Tb) : S → Dn → M Fl
  | .pass, e => ok (.nx e)
  | .asg i a, e => bnd (ev F a e) fun p => ok (.nx ((give (nm a) p.1 p.2 e).set i (some (keep p.1 p.2))))
  | .par is as, e => bnd (evs F as e) fun ps => lift ((setAll is ps (gives (nms as) ps e)).map Fl.nx)
  | .unp is a, e => bnd (ev F a e) fun p => match p.2 with
    | .tup ds => lift ((setSh is ds (give (nm a) p.1 p.2 e)).map Fl.nx)
    | _ => none
  | .aug i a, e => match e[i]? with
    | some (some (_, .int n)) => bnd (ev F a e) fun p => lift ((intD p.2).map fun k => Fl.nx (e.set i (some (.sh, .int (n + k)))))
    | _ => none
  | .mut i p o as, e => match e[i]? with
    | some (some q0) => bnd (evP F p e) fun ri => match getP ri.reverse q0.2 with
      | some (.lst _) => bnd (evs F as e) fun ps => match (gives (nms as) ps e)[i]? with
        | some (some q) => lift ((moS o ri.reverse ps q).map fun q' => Fl.nx ((gives (nms as) ps e).set i (some q')))
        | _ => none
      | _ => none
    | _ => none
  | .dput i k _, e => match e[i]? with
    | some (some (.dp, .dic ks)) => bnd (ev F k e) fun p => match p.2 with
      | .int n => if ks.length < SZ then ok (.nx (e.set i (some (.dp, .dic (if ks.contains n then ks else ks ++ [n]))))) else none
      | _ => none
    | _ => none
  | .exp a, e => bnd (ev F a e) fun _ => ok (.nx e)
  | .ife c a b, e => bnd (ev F c e) fun p => match boolD p.2 with
    | none => none
    | some true => exs F a e
    | some false => exs F b e
  | .ret a, e => bnd (evr F a e) fun p => ok (.rt p.1 p.2)
  | .for_ ts one s b, e => bnd (evS F s e) fun p => forL (fun x e1 => match bindT ts one x e1 with
      | none => none
      | some e2 => exs F b e2) p.2 (if p.1 = .dp then e else frz (nmS s) e)
  | .whl c b, e => whlL (fun e1 => bnd (ev F c e1) fun p => lift (boolD p.2)) (fun e1 => exs F b e1) WF e
  | .rai C, _ => some (.er C)
  | .mutF i f o as, e => match e[i]? with
    | some (some (_, .ins C0 g (.lst _))) => if g = f ∧ insC C0 = true then bnd (evs F as e) fun ps => match (gives (nms as) ps e)[i]? with
      | some (some (.dp, .ins C h (.lst xs))) => if closeds ps || closeds (extM o ps) then lift ((moL o xs (ps.map Prod.snd)).map fun ys => Fl.nx ((gives (nms as) ps e).set i (some (.dp, .ins C h (.lst ys))))) else none
      | _ => none else none
    | _ => none
  | .each i f x q o es, e => match e[i]? with
    | some (some (.dp, d)) => (match inF f d with
      | some (.lst ds) => if x = i ∨ e.length ≤ x then none else bnd (eachL (eachF F i f q o es) ds.length 0 (e.set x none)) fun e1 => ok (.nx e1)
      | _ => none)
    | _ => none
  | .tryE a x cs h, e => match ev F a e with
    | none => none
    | some (.ok _) => ok (.nx e)
    | some (.er C) => if cs.contains C then bnd (exs F h (e.set x (some (.sh, .exc C)))) fun r => (match r with
      | .nx e1 => ok (.nx (e1.set x none))
      | .rt m d => ok (.rt m d)) else some (.er C)
  | .popA i x, e => match e[i]? with
    | some (some (.sh, _)) => none
    | some (some (_, .lst ds)) => (match ds.getLast? with
      | some d => ok (.nx ((e.set i (some (.fl, .lst ds.dropLast))).set x (some (.sh, d))))
      | none => none)
    | _ => none
def exs (F : Tb) : List S → Dn → M Fl
  | [], e => ok (.nx e)
  | s :: ss, e => bnd (ex F s e) fun r => match r with
    | .nx e1 => exs F ss e1
    | .rt m d => ok (.rt m d)
end

structure Fun where
  np : Nat
  nv : Nat
  body : List S
def start0 (np nv : Nat) (ds : List D) : Dn := ds.map (fun d => some (.sh, d)) ++ List.replicate (nv - np) none
def callF (F : Tb) (f : Fun) (ds : List D) : M (Md × D) :=
  if ds.length = f.np then bnd (exs F f.body (start0 f.np f.nv ds)) fun r => match r with
    | .nx _ => ok (.dp, .non)
    | .rt m d => ok (m, d)
  else none
def run (P : List Fun) : Nat → Tb
  | 0, _, _ => none
  | k + 1, f, ds => match P[f]? with
    | some F => callF (run P k) F ds
    | none => none
end TW

set_option Elab.async false
set_option linter.all false
set_option maxRecDepth 100000
set_option maxHeartbeats 4000000
namespace TW
open PySem PySem.Spec PyProof.Rows L2

def Ow (W : Wd) (H : Hp) (O : Addr → Prop) : Md → D → V → List Addr → Prop
  | .sh, d, v, F => F = [] ∧ Rp W H O d v
  | .dp, d, v, F => Dq W H d v F
  | .fl, .lst ds, v, F => ∃ a vs, v = .ref a ∧ F = [a] ∧ H a = some (.lst vs) ∧ vs.length ≤ sizeLine ∧ Rps W H O ds vs
  | .fl, .dic ks, v, F => Dq W H (.dic ks) v F
  | .fl, d, v, F => F = [] ∧ Rp W H O d v
section
variable {W : Wd} {H H' : Hp} {O O' : Addr → Prop} {m : Md} {d : D} {v : V} {F : List Addr}
def flatTop : D → Bool
  | .lst _ => true
  | .dic _ => true
  | _ => false
theorem Ow.fl_other (h : flatTop d = false) : Ow W H O .fl d v F = (F = [] ∧ Rp W H O d v) := by
  cases d <;> first | rfl | cases h
theorem closed_other (h : flatTop d = false) : closed .fl d = lfree d := by
  cases d <;> first | rfl | cases h
theorem Ow.mono (s : Same H H') (ho : ∀ a, O' a → O a) (h : Ow W H O m d v F) : Ow W H' O' m d v F := by
  cases m with
  | sh => exact ⟨h.1, Rp.mono s ho _ _ h.2⟩
  | dp => exact Dq.mono s _ _ _ h
  | fl =>
    cases e : flatTop d with
    | false =>
      rw [Ow.fl_other e] at h ⊢
      exact ⟨h.1, Rp.mono s ho _ _ h.2⟩
    | true =>
      cases d with
      | lst ds =>
        obtain ⟨a, vs, e1, e2, h1, h2, h3⟩ := h
        exact ⟨a, vs, e1, e2, s _ _ h1, h2, Rps.mono s ho _ _ h3⟩
      | dic ks => exact Dq.mono (W := W) s (.dic ks) _ _ h
      | _ => cases e
theorem Ow.off (ho : ∀ a, O' a → O a ∨ H a = none) (h : Ow W H O m d v F) : Ow W H O' m d v F := by
  cases m with
  | sh => exact ⟨h.1, Rp.off ho _ _ h.2⟩
  | dp => exact h
  | fl =>
    cases e : flatTop d with
    | false =>
      rw [Ow.fl_other e] at h ⊢
      exact ⟨h.1, Rp.off ho _ _ h.2⟩
    | true =>
      cases d with
      | lst ds =>
        obtain ⟨a, vs, e1, e2, h1, h2, h3⟩ := h
        exact ⟨a, vs, e1, e2, h1, h2, Rps.off ho _ _ h3⟩
      | dic ks => exact h
      | _ => cases e
theorem Ow.upd {p : Addr} {o x : HO} (hp : H p = some o) (mu : MutC o) (op : O p) (np : p ∉ F) (h : Ow W H O m d v F) : Ow W (upd H p x) O m d v F := by
  cases m with
  | sh => exact ⟨h.1, Rp.upd hp mu op _ _ h.2⟩
  | dp => exact Dq.upd hp mu _ _ _ np h
  | fl =>
    cases e : flatTop d with
    | false =>
      rw [Ow.fl_other e] at h ⊢
      exact ⟨h.1, Rp.upd hp mu op _ _ h.2⟩
    | true =>
      cases d with
      | lst ds =>
        obtain ⟨a, vs, e1, e2, h1, h2, h3⟩ := h
        have ne : a ≠ p := fun z => np (by rw [e2, z]; exact List.mem_cons_self)
        exact ⟨a, vs, e1, e2, by rw [upd_ne ne]; exact h1, h2, Rps.upd hp mu op _ _ h3⟩
      | dic ks => exact Dq.upd (W := W) hp mu (.dic ks) _ _ np h
      | _ => cases e
theorem Ow.rp (h : Ow W H O m d v F) (hO : ∀ a, O' a → O a) (hF : ∀ a ∈ F, ¬ O' a) : Rp W H O' d v := by
  cases m with
  | sh => exact Rp.mono (Same.refl H) hO _ _ h.2
  | dp => exact Dq.rp _ _ _ h hF
  | fl =>
    cases e : flatTop d with
    | false =>
      rw [Ow.fl_other e] at h
      exact Rp.mono (Same.refl H) hO _ _ h.2
    | true =>
      cases d with
      | lst ds =>
        obtain ⟨a, vs, e1, e2, h1, h2, h3⟩ := h
        exact ⟨a, vs, e1, hF a (by rw [e2]; exact List.mem_cons_self), h1, h2, Rps.mono (Same.refl H) hO _ _ h3⟩
      | dic ks => exact Dq.rp (W := W) (.dic ks) _ _ h hF
      | _ => cases e
theorem Ow.dq (h : Ow W H O m d v F) (c : closed m d = true) : Dq W H d v F := by
  cases m with
  | sh =>
    rw [h.1]
    exact Rp.dq _ _ h.2 c
  | dp => exact h
  | fl =>
    cases e : flatTop d with
    | false =>
      rw [Ow.fl_other e] at h
      rw [closed_other e] at c
      rw [h.1]
      exact Rp.dq _ _ h.2 c
    | true =>
      cases d with
      | lst ds =>
        obtain ⟨a, vs, e1, e2, h1, h2, h3⟩ := h
        exact ⟨a, vs, [], e1, e2, h1, h2, Rps.dq _ _ h3 c⟩
      | dic ks => exact h
      | _ => cases e
theorem Rp.any (h : Rp W H O d v) (l : lfree d = true) : Rp W H O' d v := Dq.rp _ _ _ (Rp.dq _ _ h l) (fun _ z => by cases z)
theorem Ow.sh_any (h : Rp W H O d v) (l : lfree d = true) : Ow W H O' m d v [] := by
  cases m with
  | sh => exact ⟨rfl, h.any l⟩
  | dp => exact Rp.dq _ _ h l
  | fl =>
    cases e : flatTop d with
    | false =>
      rw [Ow.fl_other e]
      exact ⟨rfl, h.any l⟩
    | true =>
      cases d with
      | lst ds => cases l
      | dic ks => cases l
      | _ => cases e
mutual
theorem Dq.there : ∀ (d : D) (v : V) (F : List Addr), Dq W H d v F → ∀ a ∈ F, ∃ o, H a = some o ∧ MutC o
  | .non, v, F, h, a, ha => by rw [h.2] at ha; cases ha
  | .bl _, v, F, h, a, ha => by rw [h.2] at ha; cases ha
  | .int _, v, F, h, a, ha => by rw [h.2] at ha; cases ha
  | .str _, v, F, h, a, ha => by rw [h.2] at ha; cases ha
  | .fn _, v, F, h, a, ha => by rw [h.2] at ha; cases ha
  | .exc _, v, F, h, a, ha => by rw [h.2] at ha; cases ha
  | .tup ds, v, F, h, a, ha => by
    obtain ⟨b, vs, e, h1, h2, h3⟩ := h
    exact Dqs.there ds vs F h3 a ha
  | .lst ds, v, F, h, a, ha => by
    obtain ⟨b, vs, G, e, eF, h1, h2, h3⟩ := h
    rw [eF] at ha
    rcases List.mem_cons.mp ha with rfl | ha
    · exact ⟨_, h1, trivial⟩
    · exact Dqs.there ds vs G h3 a ha
  | .scr ns, v, F, h, a, ha => by rw [h.2] at ha; cases ha
  | .dic ks, v, F, h, a, ha => by
    obtain ⟨b, e, eF, h1, h2⟩ := h
    rw [eF] at ha
    rcases List.mem_cons.mp ha with rfl | ha
    · exact ⟨_, h1, trivial⟩
    · cases ha
  | .ins C f d, v, F, h, a, ha => by
    obtain ⟨b, dx, fv, e, h1, h3⟩ := h
    exact Dq.there d fv F h3 a ha
theorem Dqs.there : ∀ (ds : List D) (vs : List V) (F : List Addr), Dqs W H ds vs F → ∀ a ∈ F, ∃ o, H a = some o ∧ MutC o
  | [], vs, F, h, a, ha => by rw [h.2] at ha; cases ha
  | d :: ds, vs, F, h, a, ha => by
    obtain ⟨v, r, F1, F2, e, eF, h1, h2⟩ := h
    rw [eF] at ha
    rcases List.mem_append.mp ha with ha | ha
    · exact Dq.there d v F1 h1 a ha
    · exact Dqs.there ds r F2 h2 a ha
end
theorem Ow.there (h : Ow W H O m d v F) : ∀ a ∈ F, ∃ o, H a = some o ∧ MutC o := by
  cases m with
  | sh => intro a ha; rw [h.1] at ha; cases ha
  | dp => exact Dq.there _ _ _ h
  | fl =>
    cases e : flatTop d with
    | false =>
      rw [Ow.fl_other e] at h
      intro a ha
      rw [h.1] at ha
      cases ha
    | true =>
      cases d with
      | lst ds =>
        obtain ⟨b, vs, e1, e2, h1, h2, h3⟩ := h
        intro a ha
        rw [e2] at ha
        rcases List.mem_cons.mp ha with rfl | ha
        · exact ⟨_, h1, trivial⟩
        · cases ha
      | dic ks => exact Dq.there (W := W) (.dic ks) _ _ h
      | _ => cases e
end

def Ows (W : Wd) (H : Hp) (O : Addr → Prop) : List (Md × D) → List V → List (List Addr) → Prop
  | [], vs, Fs => vs = [] ∧ Fs = []
  | p :: ps, vs, Fs => ∃ v r F Fr, vs = v :: r ∧ Fs = F :: Fr ∧ Ow W H O p.1 p.2 v F ∧ Ows W H O ps r Fr
section
variable {W : Wd} {H H' : Hp} {O O' : Addr → Prop}
theorem Ows.mono (s : Same H H') (ho : ∀ a, O' a → O a) : ∀ {ps : List (Md × D)} {vs : List V} {Fs : List (List Addr)}, Ows W H O ps vs Fs → Ows W H' O' ps vs Fs
  | [], _, _, h => h
  | p :: ps, _, _, h => by
    obtain ⟨v, r, F, Fr, e1, e2, h1, h2⟩ := h
    exact ⟨v, r, F, Fr, e1, e2, h1.mono s ho, Ows.mono s ho h2⟩
theorem Ows.rps (hO : ∀ a, O' a → O a) : ∀ {ps : List (Md × D)} {vs : List V} {Fs : List (List Addr)}, Ows W H O ps vs Fs → (∀ a ∈ Fs.flatten, ¬ O' a) → Rps W H O' (ps.map Prod.snd) vs
  | [], _, _, h, _ => h.1
  | p :: ps, _, _, h, n => by
    obtain ⟨v, r, F, Fr, e1, e2, h1, h2⟩ := h
    subst e2
    exact ⟨v, r, e1, h1.rp hO (fun a ha => n a (List.mem_append_left _ ha)), Ows.rps hO h2 fun a ha => n a (List.mem_append_right _ ha)⟩
theorem Ows.dqs : ∀ {ps : List (Md × D)} {vs : List V} {Fs : List (List Addr)}, Ows W H O ps vs Fs → closeds ps = true → Dqs W H (ps.map Prod.snd) vs Fs.flatten
  | [], _, _, h, _ => by rw [h.2]; exact ⟨h.1, rfl⟩
  | p :: ps, _, _, h, c => by
    obtain ⟨v, r, F, Fr, e1, e2, h1, h2⟩ := h
    subst e2
    obtain ⟨c1, c2⟩ := Bool.and_eq_true_iff.mp (show (closed p.1 p.2 && closeds ps) = true from c)
    exact ⟨v, r, F, Fr.flatten, e1, rfl, h1.dq c1, Ows.dqs h2 c2⟩
theorem Ows.there : ∀ {ps : List (Md × D)} {vs : List V} {Fs : List (List Addr)}, Ows W H O ps vs Fs → ∀ a ∈ Fs.flatten, ∃ o, H a = some o ∧ MutC o
  | [], _, _, h, a, ha => by rw [h.2] at ha; cases ha
  | p :: ps, _, _, h, a, ha => by
    obtain ⟨v, r, F, Fr, e1, e2, h1, h2⟩ := h
    subst e2
    rcases List.mem_append.mp (show a ∈ F ++ Fr.flatten from ha) with ha | ha
    · exact h1.there a ha
    · exact Ows.there h2 a ha
theorem Ows.length : ∀ {ps : List (Md × D)} {vs : List V} {Fs : List (List Addr)}, Ows W H O ps vs Fs → vs.length = ps.length
  | [], _, _, h => by rw [h.1]; rfl
  | p :: ps, _, _, h => by
    obtain ⟨v, r, F, Fr, e1, e2, h1, h2⟩ := h
    rw [e1, List.length_cons, List.length_cons, Ows.length h2]
end

structure SS (W : Wd) (H0 : Hp) (O0 : Addr → Prop) (H : Hp) (σ : L2.St) (δ : Dn) (Fs : List (List Addr)) : Prop where
  same : Same H0 H
  len : δ.length = σ.length
  lenF : Fs.length = σ.length
  slot : ∀ (i : Nat) (p : Md × D), δ[i]? = some (some p) → ∃ v, σ[i]? = some (some v) ∧ Ow W H (fun a => O0 a ∨ a ∈ Fs.flatten) p.1 p.2 v (Fs.getD i [])
  nod : Fs.flatten.Nodup
  new : ∀ a ∈ Fs.flatten, H0 a = none
  offF : ∀ a, O0 a → a ∉ Fs.flatten
  oldT : ∀ a, O0 a → H a ≠ none
  there : ∀ a ∈ Fs.flatten, ∃ o, H a = some o ∧ MutC o
  mt : ∀ (i : Nat), δ[i]? = some none → Fs.getD i [] = []
def av (O0 : Addr → Prop) (Fs : List (List Addr)) (S : List Nat) : Addr → Prop := fun p => O0 p ∨ ∃ i, i ∉ S ∧ p ∈ Fs.getD i []
theorem mem_flat {Fs : List (List Addr)} {i : Nat} {a : Addr} (h : a ∈ Fs.getD i []) : a ∈ Fs.flatten := by
  rw [List.getD_eq_getElem?_getD] at h
  cases e : Fs[i]? with
  | none => rw [e] at h; cases h
  | some F =>
    rw [e] at h
    exact List.mem_flatten.mpr ⟨F, List.mem_of_getElem? e, h⟩
theorem flat_ix : ∀ {Fs : List (List Addr)} {a : Addr}, a ∈ Fs.flatten → ∃ i, a ∈ Fs.getD i [] := fun {Fs a} h => by
  obtain ⟨F, hF, ha⟩ := List.mem_flatten.mp h
  obtain ⟨i, hi⟩ := List.mem_iff_getElem?.mp hF
  exact ⟨i, by rw [List.getD_eq_getElem?_getD, hi]; exact ha⟩
theorem flat_inj : ∀ {Fs : List (List Addr)} {i j : Nat} {a : Addr}, Fs.flatten.Nodup → a ∈ Fs.getD i [] → a ∈ Fs.getD j [] → i = j
  | [], i, j, a, _, h, _ => by cases i <;> cases h
  | F :: Fs, 0, 0, a, _, _, _ => rfl
  | F :: Fs, 0, j + 1, a, nd, h1, h2 => by
    have nd' : (F ++ Fs.flatten).Nodup := nd
    exact absurd rfl ((List.nodup_append.mp nd').2.2 a h1 a (mem_flat (i := j) h2))
  | F :: Fs, i + 1, 0, a, nd, h1, h2 => by
    have nd' : (F ++ Fs.flatten).Nodup := nd
    exact absurd rfl ((List.nodup_append.mp nd').2.2 a h2 a (mem_flat (i := i) h1))
  | F :: Fs, i + 1, j + 1, a, nd, h1, h2 => by
    have nd' : (F ++ Fs.flatten).Nodup := nd
    rw [flat_inj (Fs := Fs) (i := i) (j := j) (List.nodup_append.mp nd').2.1 h1 h2]
theorem av_mono {O0 : Addr → Prop} {Fs : List (List Addr)} {S T : List Nat} (h : ∀ i ∈ T, i ∈ S) : ∀ a, av O0 Fs S a → av O0 Fs T a := fun a z => by
  rcases z with z | ⟨i, n, z⟩
  · exact .inl z
  · exact .inr ⟨i, fun q => n (h i q), z⟩
section
variable {W : Wd} {H0 H H' : Hp} {O0 : Addr → Prop} {σ : L2.St} {δ : Dn} {Fs : List (List Addr)}
theorem SS.av_there (S : SS W H0 O0 H σ δ Fs) {T : List Nat} : ∀ a, av O0 Fs T a → H a ≠ none := fun a z => by
  rcases z with z | ⟨i, _, z⟩
  · exact S.oldT a z
  · obtain ⟨o, e, _⟩ := S.there a (mem_flat z)
    rw [e]
    simp
theorem SS.grow (S : SS W H0 O0 H σ δ Fs) (s : Same H H') : SS W H0 O0 H' σ δ Fs :=
  ⟨S.same.trans s, S.len, S.lenF, fun i p e => let ⟨v, h1, h2⟩ := S.slot i p e; ⟨v, h1, h2.mono s fun _ z => z⟩, S.nod, S.new, S.offF, fun a ha z => S.oldT a ha (s.free z), fun a ha => let ⟨o, e, m⟩ := S.there a ha; ⟨o, s a o e, m⟩, S.mt⟩
theorem SS.more (S : SS W H0 O0 H σ δ Fs) (s : Same H H') {F : List Addr} (n : ∀ a ∈ F, H a = none) (t : ∀ a ∈ F, H' a ≠ none) : SS W H0 (fun a => O0 a ∨ a ∈ F) H' σ δ Fs := by
  refine ⟨S.same.trans s, S.len, S.lenF, fun i p e => ?_, S.nod, S.new, fun a z q => ?_, fun a z q => ?_, fun a ha => ?_, S.mt⟩
  · obtain ⟨v, h1, h2⟩ := S.slot i p e
    refine ⟨v, h1, (h2.off (fun a z => ?_)).mono s fun _ z => z⟩
    rcases z with (z | z) | z
    · exact .inl (.inl z)
    · exact .inr (n a z)
    · exact .inl (.inr z)
  · rcases z with z | z
    · exact S.offF a z q
    · obtain ⟨o, e, _⟩ := S.there a q
      rw [n a z] at e
      cases e
  · rcases z with z | z
    · exact S.oldT a z (s.free q)
    · exact t a z q
  · obtain ⟨o, e, m⟩ := S.there a ha
    exact ⟨o, s a o e, m⟩
theorem SS.var (S : SS W H0 O0 H σ δ Fs) {i : Nat} {p : Md × D} (e : δ[i]? = some (some p)) {T : List Nat} (hT : i ∈ T) : ∃ v, σ[i]? = some (some v) ∧ Rp W H (av O0 Fs T) p.2 v := by
  obtain ⟨v, h1, h2⟩ := S.slot i p e
  refine ⟨v, h1, h2.rp (fun a z => ?_) (fun a ha z => ?_)⟩
  · rcases z with z | ⟨j, _, z⟩
    · exact .inl z
    · exact .inr (mem_flat z)
  · rcases z with z | ⟨j, n, z⟩
    · exact S.offF a z (mem_flat ha)
    · exact n (flat_inj S.nod ha z ▸ hT)
end

def Res (W : Wd) (H : Hp) (O : Addr → Prop) (m : Md) (d : D) (Q : VK) : Prop :=
  ∀ v H' F, Same H H' → (∀ a ∈ F, H a = none) → F.Nodup → Ow W H' (fun p => O p ∨ p ∈ F) m d v F → Q v H'
def rq (W : Wd) (E0 : XK) (H : Hp) (O : Addr → Prop) (r : M (Md × D)) (Q : VK) : Prop := match r with
  | none => False
  | some (.er C) => ∀ H', Same H H' → E0 (.ref (W.ca C)) none H'
  | some (.ok p) => Res W H O p.1 p.2 Q
def rqs (W : Wd) (E0 : XK) (H : Hp) (O : Addr → Prop) (r : M (List (Md × D))) (Q : List V → Hp → Prop) : Prop := match r with
  | none => False
  | some (.er C) => ∀ H', Same H H' → E0 (.ref (W.ca C)) none H'
  | some (.ok ps) => ∀ vs H' Fs, Same H H' → (∀ a ∈ Fs.flatten, H a = none) → Fs.flatten.Nodup → Ows W H' (fun p => O p ∨ p ∈ Fs.flatten) ps vs Fs → Q vs H'
def rqb (W : Wd) (E0 : XK) (H : Hp) (r : M Bool) (Q : Bool → Hp → Prop) : Prop := match r with
  | none => False
  | some (.er C) => ∀ H', Same H H' → E0 (.ref (W.ca C)) none H'
  | some (.ok b) => ∀ H', Same H H' → Q b H'
def rdE (W : Wd) (E0 : XK) (T : Tb) (c : E) : TE := fun σ H Q => ∃ H0 O0 δ Fs, SS W H0 O0 H σ δ Fs ∧ rq W E0 H (av O0 Fs (nm c)) (ev T c δ) Q
def rdA (W : Wd) (E0 : XK) (T : Tb) (cs : List E) : TA := fun σ H Q => ∃ H0 O0 δ Fs, SS W H0 O0 H σ δ Fs ∧ rqs W E0 H (av O0 Fs (nms cs)) (evs T cs δ) Q
def evB (T : Tb) (c : E) (δ : Dn) : M Bool := bnd (ev T c δ) fun p => lift (boolD p.2)
def rdT (W : Wd) (E0 : XK) (T : Tb) (c : E) : TT := fun σ H Q => ∃ H0 O0 δ Fs, SS W H0 O0 H σ δ Fs ∧ rqb W E0 H (evB T c δ) Q
section
variable {W : Wd} {E0 : XK} {H H1 : Hp} {O O1 : Addr → Prop} {Q R : VK}
theorem Res.mono {m : Md} {d : D} (h : Res W H O m d Q) (s : Same H H1) : Res W H1 O m d Q := fun v H' F s' n nd ow => h v H' F (s.trans s') (fun a ha => s.free (n a ha)) nd ow
theorem Res.wk {m : Md} {d : D} (h : Res W H O m d Q) (hO : ∀ a, O a → O1 a) : Res W H O1 m d Q := fun v H' F s' n nd ow => h v H' F s' n nd (ow.mono (Same.refl H') fun a z => z.elim (fun q => .inl (hO a q)) .inr)
theorem rq.mono {r : M (Md × D)} (h : rq W E0 H O r Q) (s : Same H H1) : rq W E0 H1 O r Q := by
  match r, h with
  | none, h => exact h
  | some (.er C), h => exact fun H' s' => h H' (s.trans s')
  | some (.ok p), h => exact Res.mono (W := W) h s
theorem rqs.mono {r : M (List (Md × D))} {Q : List V → Hp → Prop} (h : rqs W E0 H O r Q) (s : Same H H1) : rqs W E0 H1 O r Q := by
  match r, h with
  | none, h => exact h
  | some (.er C), h => exact fun H' s' => h H' (s.trans s')
  | some (.ok p), h => exact fun vs H' F s' n nd ow => h vs H' F (s.trans s') (fun a ha => s.free (n a ha)) nd ow
theorem rqb.mono {r : M Bool} {Q : Bool → Hp → Prop} (h : rqb W E0 H r Q) (s : Same H H1) : rqb W E0 H1 r Q := by
  match r, h with
  | none, h => exact h
  | some (.er C), h => exact fun H' s' => h H' (s.trans s')
  | some (.ok p), h => exact fun H' s' => h H' (s.trans s')
theorem rq_bnd' {α : Type} {x : M (Md × D)} {f : Md × D → M α} {G : M α → Prop} (hn : ¬ G none) (he : ∀ C, G (some (.er C)) → ∀ H', Same H H' → E0 (.ref (W.ca C)) none H') (h : G (bnd x f)) (k : ∀ p, G (f p) → Res W H O1 p.1 p.2 R) : rq W E0 H O1 x R := by
  match x, h with
  | none, h => exact hn h
  | some (.er C), h => exact he C h
  | some (.ok p), h => exact k p h
theorem rqs_bnd' {α : Type} {x : M (List (Md × D))} {f : List (Md × D) → M α} {G : M α → Prop} {R : List V → Hp → Prop} (hn : ¬ G none) (he : ∀ C, G (some (.er C)) → ∀ H', Same H H' → E0 (.ref (W.ca C)) none H') (h : G (bnd x f)) (k : ∀ ps, G (f ps) → ∀ vs H' Fs, Same H H' → (∀ a ∈ Fs.flatten, H a = none) → Fs.flatten.Nodup → Ows W H' (fun p => O1 p ∨ p ∈ Fs.flatten) ps vs Fs → R vs H') : rqs W E0 H O1 x R := by
  match x, h with
  | none, h => exact hn h
  | some (.er C), h => exact he C h
  | some (.ok p), h => exact k p h
theorem rqb_bnd' {α : Type} {x : M Bool} {f : Bool → M α} {G : M α → Prop} {R : Bool → Hp → Prop} (hn : ¬ G none) (he : ∀ C, G (some (.er C)) → ∀ H', Same H H' → E0 (.ref (W.ca C)) none H') (h : G (bnd x f)) (k : ∀ b, G (f b) → ∀ H', Same H H' → R b H') : rqb W E0 H x R := by
  match x, h with
  | none, h => exact hn h
  | some (.er C), h => exact he C h
  | some (.ok p), h => exact k p h
theorem rq_none : ¬ rq W E0 H O none Q := fun h => h
theorem rqs_none {R : List V → Hp → Prop} : ¬ rqs W E0 H O none R := fun h => h
theorem rqb_none {R : Bool → Hp → Prop} : ¬ rqb W E0 H none R := fun h => h
theorem Res.val {m : Md} {d : D} {v : V} (h : Res W H O m d Q) (hv : Rp W H O d v) (l : lfree d = true) : Q v H := h v H [] (Same.refl H) (fun _ z => by cases z) List.nodup_nil (Ow.sh_any hv l)
theorem Res.share {d : D} {v : V} {H' : Hp} (h : Res W H O .sh d Q) (s : Same H H') (hv : Rp W H' O d v) : Q v H' := h v H' [] s (fun _ z => by cases z) List.nodup_nil ⟨rfl, Rp.mono (Same.refl _) (fun a z => z.elim id fun q => by cases q) _ _ hv⟩
theorem Res.flat {ds : List D} {vs : List V} {p : Addr} (h : Res W H O .fl (.lst ds) Q) (n : H p = none) (hO : ∀ a, O a → H a ≠ none) (hl : vs.length ≤ sizeLine) (r : Rps W H O ds vs) : Q (.ref p) (L2.upd H p (.lst vs)) := by
  refine h _ _ [p] (fun b x e => ?_) (fun a ha => ?_) (by simp) ⟨p, vs, rfl, rfl, upd_same, hl, ?_⟩
  · rw [upd_ne (ne_of_none e n)]; exact e
  · rw [List.mem_singleton.mp ha]; exact n
  · have s : Same H (L2.upd H p (.lst vs)) := fun b x e => by rw [upd_ne (ne_of_none e n)]; exact e
    exact Rps.mono s (fun _ z => z) _ _ (Rps.off (O := O) (fun a z => z.elim .inl fun q => .inr (by rw [List.mem_singleton.mp q]; exact n)) _ _ r)
end
end TW

set_option Elab.async false
set_option linter.all false
set_option maxRecDepth 100000
set_option maxHeartbeats 4000000
namespace TW
open PySem PySem.Spec PyProof.Rows L2

theorem _root_.L2.PE.imp {X : Cx} {e : Expr} {t t' : TE} (h : PE X e t) (k : ∀ σ H Q, t' σ H Q → t σ H Q) : PE X e t' := ⟨fun pins s σ H Q I q => h.run pins s σ H Q I (k σ H Q q)⟩
theorem _root_.L2.PT.imp {X : Cx} {e : Expr} {t t' : TT} (h : PT X e t) (k : ∀ σ H Q, t' σ H Q → t σ H Q) : PT X e t' := ⟨fun pins s σ H Q I q => h.run pins s σ H Q I (k σ H Q q)⟩
theorem _root_.L2.PW.imp {X : Cx} {e : Expr} {t t' : TT} (h : PW X e t) (k : ∀ σ H Q, t' σ H Q → t σ H Q) : PW X e t' := ⟨fun wh pins s σ H Q I q => h.run wh pins s σ H Q I (k σ H Q q)⟩
theorem _root_.L2.PA.imp {X : Cx} {e : List Expr} {t t' : TA} (h : PA X e t) (k : ∀ σ H Q, t' σ H Q → t σ H Q) : PA X e t' := ⟨fun pos pins s σ H Q I q => h.run pos pins s σ H Q I (k σ H Q q)⟩
theorem _root_.L2.PS.imp {X : Cx} {e : Stmt} {t t' : TS} (h : PS X e t) (k : ∀ D σ H, t' D σ H → t D σ H) : PS X e t' := ⟨fun pins s σ H D I q => h.run pins s σ H D I (k D σ H q)⟩
theorem _root_.L2.PSs.imp {X : Cx} {e : List Stmt} {t t' : TS} (h : PSs X e t) (k : ∀ D σ H, t' D σ H → t D σ H) : PSs X e t' := ⟨fun pins s σ H D I q => h.run pins s σ H D I (k D σ H q)⟩
theorem _root_.L2.OpR.imp {X : Cx} {f : Value → Value → Sem Value} {r r' : R2} (h : OpR X f r) (k : ∀ x y H Q, r' x y H Q → r x y H Q) : OpR X f r' := fun pins s σ H x y v u Q I rx ry q => h pins s σ H x y v u Q I rx ry (k x y H Q q)
theorem sz_le : SZ ≤ sizeLine := by decide

mutual
theorem dat_py : ∀ (d : D) (n : Nat), dat d n = true → (toPy d).canLay0 = true ∧ (toPy d).depth ≤ n
  | .non, n, h => ⟨by simp [toPy, PyData.canLay0], by simp [toPy, PyData.depth]⟩
  | .bl _, n, h => ⟨by simp [toPy, PyData.canLay0], by simp [toPy, PyData.depth]⟩
  | .int _, n, h => ⟨by simp [toPy, PyData.canLay0], by simp [toPy, PyData.depth]⟩
  | .str x, n, h => by
    refine ⟨?_, by simp [toPy, PyData.depth]⟩
    simp only [toPy, PyData.canLay0]
    exact h
  | .tup ds, 0, h => by cases (show false = true from h)
  | .lst ds, 0, h => by cases (show false = true from h)
  | .tup ds, n + 1, h => by
    obtain ⟨h1, h2⟩ := dats_py ds n h
    refine ⟨?_, ?_⟩
    · simp only [toPy, PyData.canLay0]; exact h1
    · simp only [toPy, PyData.depth]; omega
  | .lst ds, n + 1, h => by
    obtain ⟨h1, h2⟩ := dats_py ds n h
    refine ⟨?_, ?_⟩
    · simp only [toPy, PyData.canLay0]; exact h1
    · simp only [toPy, PyData.depth]; omega
  | .scr ns, n, h => by
    have hn : 0 < n := of_decide_eq_true h
    have : ∀ l : List Int, PyData.canLayAll0 (l.map .int) = true ∧ PyData.depthAll (l.map .int) = 0 := by
      intro l
      induction l with
      | nil => exact ⟨by simp [PyData.canLayAll0], by simp [PyData.depthAll]⟩
      | cons x r ih => exact ⟨by simp [PyData.canLayAll0, PyData.canLay0, ih.1], by simp [PyData.depthAll, PyData.depth, ih.2]⟩
    refine ⟨?_, ?_⟩
    · simp only [toPy, PyData.canLay0]; exact (this ns).1
    · simp only [toPy, PyData.depth, (this ns).2]; omega
  | .fn _, n, h => by cases (show false = true from h)
  | .dic _, n, h => by cases (show false = true from h)
  | .ins _ _ _, n, h => by cases (show false = true from h)
  | .exc _, n, h => by cases (show false = true from h)
theorem dats_py : ∀ (ds : List D) (n : Nat), dats ds n = true → PyData.canLayAll0 (toPys ds) = true ∧ PyData.depthAll (toPys ds) ≤ n
  | [], n, h => ⟨by simp [toPys, PyData.canLayAll0], by simp [toPys, PyData.depthAll]⟩
  | d :: ds, n, h => by
    obtain ⟨a, b⟩ := Bool.and_eq_true_iff.mp (show (dat d n && dats ds n) = true from h)
    obtain ⟨h1, h2⟩ := dat_py d n a
    obtain ⟨h3, h4⟩ := dats_py ds n b
    refine ⟨?_, ?_⟩
    · simp only [toPys, PyData.canLayAll0, h1, h3, Bool.and_self]
    · simp only [toPys, PyData.depthAll]; omega
end
theorem shaped_of {d : D} {n : Nat} (hn : n ≤ 64) (h : dat d n = true) : SeqAt.shaped (toPy d) = true := by
  obtain ⟨h1, h2⟩ := dat_py d n h
  unfold SeqAt.shaped
  rw [h1, decide_eq_true (Nat.le_trans h2 hn)]
  rfl
section
variable {W : Wd} {H : Hp} {O : Addr → Prop}
theorem dpAll_ints {K : PySem.W.Frag} : ∀ ns : List Int, DpAll K H (ns.map V.int) (ns.map PyData.int)
  | [] => .nil
  | n :: r => .cons (.int n) (dpAll_ints r)
mutual
theorem Rp.dp : ∀ (d : D) (n : Nat) (v : V), dat d n = true → Rp W H O d v → Dp W.K H v (toPy d)
  | .non, n, v, h, r => by rw [show v = .non from r]; simp only [toPy]; exact .non
  | .bl b, n, v, h, r => by rw [show v = .bl b from r]; simp only [toPy]; exact .bl b
  | .int i, n, v, h, r => by rw [show v = .int i from r]; simp only [toPy]; exact .int i
  | .str x, n, v, h, r => by rw [show v = .str x from r]; simp only [toPy]; exact .str x
  | .tup ds, 0, v, h, r => by cases (show false = true from h)
  | .lst ds, 0, v, h, r => by cases (show false = true from h)
  | .tup ds, n + 1, v, h, r => by
    obtain ⟨a, vs, rfl, h1, h2, h3⟩ := r
    simp only [toPy]
    exact .tup (.inl (.inl h1)) (Rps.dp ds n vs h h3)
  | .lst ds, n + 1, v, h, r => by
    obtain ⟨a, vs, rfl, _, h1, h2, h3⟩ := r
    simp only [toPy]
    exact .lst (.inl (.inl h1)) (Rps.dp ds n vs h h3)
  | .scr ns, n, v, h, r => by
    obtain ⟨a, rfl, h1, h2⟩ := r
    simp only [toPy]
    exact .lst h1.sq (dpAll_ints ns)
  | .fn _, n, v, h, r => by cases (show false = true from h)
  | .dic _, n, v, h, r => by cases (show false = true from h)
  | .ins _ _ _, n, v, h, r => by cases (show false = true from h)
  | .exc _, n, v, h, r => by cases (show false = true from h)
theorem Rps.dp : ∀ (ds : List D) (n : Nat) (vs : List V), dats ds n = true → Rps W H O ds vs → DpAll W.K H vs (toPys ds)
  | [], n, vs, h, r => by rw [show vs = [] from r]; simp only [toPys]; exact .nil
  | d :: ds, n, vs, h, r => by
    obtain ⟨v, r', rfl, h1, h2⟩ := r
    obtain ⟨a, b⟩ := Bool.and_eq_true_iff.mp (show (dat d n && dats ds n) = true from h)
    simp only [toPys]
    exact .cons (Rp.dp d n v a h1) (Rps.dp ds n r' b h2)
end
theorem toPys_any (f : PyData → Bool) : ∀ ds : List D, (toPys ds).any f = ds.any fun d => f (toPy d)
  | [] => by simp [toPys]
  | d :: ds => by simp only [toPys, List.any_cons, toPys_any f ds]
theorem eqV_py {x y : D} {v w : V} (hx : flatD x = true) (hy : flatD y = true) (rx : Rp W H O x v) (ry : Rp W H O y w) : eqV v w = eqD x y ∧ flatV v = true ∧ flatV w = true := by
  cases x <;> first | (cases hx; done) | skip
  all_goals (cases y <;> first | (cases hy; done) | skip)
  all_goals (
    simp only [Rp] at rx ry
    subst rx
    subst ry
    refine ⟨?_, rfl, rfl⟩
    simp [eqV, eqD, toPy, PyData.eqv])
theorem Rps.flat : ∀ (ds : List D) (vs : List V), ds.all flatD = true → Rps W H O ds vs → vs.all flatV = true
  | [], vs, _, r => by rw [show vs = [] from r]; rfl
  | d :: ds, vs, h, r => by
    obtain ⟨v, r', rfl, h1, h2⟩ := r
    obtain ⟨a, b⟩ := Bool.and_eq_true_iff.mp (show (flatD d && ds.all flatD) = true from h)
    rw [List.all_cons, (eqV_py a a h1 h1).2.1, Rps.flat ds r' b h2]
    rfl
theorem Rps.inV {x : D} {v : V} (hx : flatD x = true) (rx : Rp W H O x v) : ∀ (ds : List D) (vs : List V), ds.all flatD = true → Rps W H O ds vs → inV v vs = ds.any fun z => eqD z x
  | [], vs, _, r => by rw [show vs = [] from r]; rfl
  | d :: ds, vs, h, r => by
    obtain ⟨w, r', rfl, h1, h2⟩ := r
    obtain ⟨a, b⟩ := Bool.and_eq_true_iff.mp (show (flatD d && ds.all flatD) = true from h)
    have ih := Rps.inV hx rx ds r' b h2
    unfold L2.inV at ih ⊢
    rw [List.any_cons, List.any_cons, ih, (eqV_py a hx h1 rx).1]
end
end TW

set_option Elab.async false
set_option linter.all false
set_option maxRecDepth 100000
set_option maxHeartbeats 4000000
namespace TW
open PySem PySem.Spec PyProof.Rows L2

def r2 (W : Wd) (g : D → D → Option (Md × D)) : R2 := fun x y H Q => ∃ O d e res, (∀ a, O a → H a ≠ none) ∧ Rp W H O d x ∧ Rp W H O e y ∧ g d e = some res ∧ Res W H O res.1 res.2 Q
def gB (o : Cop) (d e : D) : Option (Md × D) := (cmpD o d e).map fun b => (.dp, .bl b)
section
variable {W : Wd} {X : Cx}
theorem op_case {f : Value → Value → Sem Value} {g : D → D → Option (Md × D)}
    (k : ∀ (d e : D) (res : Md × D), g d e = some res → OpR X f (fun x y H Q => ∃ O, (∀ a, O a → H a ≠ none) ∧ Rp W H O d x ∧ Rp W H O e y ∧ Res W H O res.1 res.2 Q)) : OpR X f (r2 W g) := by
  intro pins s σ H x y v u Q I rx ry ⟨O, d, e, res, hO, hd, he, hg, hq⟩
  exact k d e res hg pins s σ H x y v u Q I rx ry ⟨O, hO, hd, he, hq⟩
theorem op_ints {f : Value → Value → Sem Value} {i j : Int} {m : Md} {r : V} {d : D} {C : Int → Int → Prop} {g : Int → Int → V} (ho : OpR X f (rI C g)) (hc : C i j) (hg : ∀ H O, Rp W H O d (g i j)) (l : lfree d = true) :
    OpR X f (fun x y H Q => ∃ O, (∀ a, O a → H a ≠ none) ∧ Rp W H O (.int i) x ∧ Rp W H O (.int j) y ∧ Res W H O m d Q) := by
  intro pins s σ H x y v u Q I rx ry ⟨O, hO, hd, he, hq⟩
  refine ho pins s σ H x y v u Q I rx ry ⟨i, j, hd, he, hc, hq.val (hg H O) l⟩
theorem op_ints0 {f : Value → Value → Sem Value} {i j : Int} {m : Md} {d : D} {g : Int → Int → V} (ho : OpR X f (rI0 g)) (hg : ∀ H O, Rp W H O d (g i j)) (l : lfree d = true) :
    OpR X f (fun x y H Q => ∃ O, (∀ a, O a → H a ≠ none) ∧ Rp W H O (.int i) x ∧ Rp W H O (.int j) y ∧ Res W H O m d Q) := by
  intro pins s σ H x y v u Q I rx ry ⟨O, hO, hd, he, hq⟩
  refine ho pins s σ H x y v u Q I rx ry ⟨i, j, hd, he, hq.val (hg H O) l⟩
theorem Rps.append {H : Hp} {O : Addr → Prop} : ∀ {ds es : List D} {vs ws : List V}, Rps W H O ds vs → Rps W H O es ws → Rps W H O (ds ++ es) (vs ++ ws)
  | [], es, vs, ws, h, k => by rw [show vs = [] from h]; exact k
  | d :: ds, es, vs, ws, h, k => by
    obtain ⟨v, r, rfl, h1, h2⟩ := h
    exact ⟨v, r ++ ws, rfl, h1, Rps.append h2 k⟩
theorem Rps.rep {H : Hp} {O : Addr → Prop} {ds : List D} {vs : List V} (h : Rps W H O ds vs) : ∀ n : Nat, Rps W H O (List.replicate n ds).flatten (List.replicate n vs).flatten
  | 0 => rfl
  | n + 1 => by
    rw [List.replicate_succ, List.replicate_succ, List.flatten_cons, List.flatten_cons]
    exact h.append (Rps.rep h n)
theorem mulOk {i j : Int} (h : i.natAbs.log2 + j.natAbs.log2 < 100000000) : IntMulOk i j := by
  have b : ∀ x : Int, Builtin.Int.intBits x ≤ x.natAbs.log2 + 1 := fun x => by
    unfold Builtin.Int.intBits
    split <;> omega
  have h1 := b i
  have h2 := b j
  have e : bitsLine = 134217728 := by decide
  unfold IntMulOk
  intro z
  rw [Bool.and_eq_true] at z
  have z2 := z.2
  unfold Builtin.Int.intTooBig at z2
  have z3 := of_decide_eq_true z2
  rw [e] at z3
  omega
theorem op_mulB : OpR X (binaryOp .Mult) (rI (fun i j => i.natAbs.log2 + j.natAbs.log2 < 100000000) fun i j => .int (i * j)) := opI fun _ _ _ _ _ _ _ hc q => mul_int q (mulOk hc)

theorem o_add : OpR X (binaryOp .Add) (r2 W (binD .add)) := op_case fun d e res hg => by
  cases d <;> cases e <;> (try (exact nomatch (show (none : Option (Md × D)) = some res from hg)))
  · cases hg
    exact op_ints0 op_add (fun _ _ => rfl) rfl
  · rename_i xs ys
    have hg : (if xs.length + ys.length ≤ SZ then some (Md.fl, D.lst (xs ++ ys)) else none) = some res := hg
    split at hg <;> first | (cases hg; done) | skip
    rename_i hz
    cases hg
    intro pins s σ H x y v u Q I rx ry ⟨O, hO, hd, he, hq⟩
    obtain ⟨a, vs, rfl, _, ha, la, ra⟩ := hd
    obtain ⟨b, ws, rfl, _, hb, lb, rb⟩ := he
    have e1 := Rps.length _ _ ra
    have e2 := Rps.length _ _ rb
    have hl : vs.length + ws.length ≤ sizeLine := by
      have := sz_le
      rw [e1, e2]
      omega
    exact op_cat pins s σ H _ _ v u Q I rx ry ⟨a, b, vs, ws, rfl, rfl, ha, hb, hl, fun p np => hq.flat np hO (by rw [List.length_append]; exact hl) (ra.append rb)⟩

theorem o_sub : OpR X (binaryOp .Sub) (r2 W (binD .sub)) := op_case fun d e res hg => by
  cases d <;> cases e <;> (try (exact nomatch (show (none : Option (Md × D)) = some res from hg)))
  · cases hg
    exact op_ints0 op_sub (fun _ _ => rfl) rfl

theorem o_mul : OpR X (binaryOp .Mult) (r2 W (binD .mul)) := op_case fun d e res hg => by
  cases d <;> cases e <;> (try (exact nomatch (show (none : Option (Md × D)) = some res from hg)))
  · rename_i i j
    have hg : (if i.natAbs.log2 + j.natAbs.log2 < 100000000 then some (Md.dp, D.int (i * j)) else none) = some res := hg
    split at hg <;> first | (cases hg; done) | skip
    rename_i hz
    cases hg
    exact op_ints (r := .non) op_mulB hz (fun _ _ => rfl) rfl
  · rename_i xs k
    have hg : (if (smallI k && decide (xs.length * k.toNat ≤ SZ)) = true then some (Md.fl, D.lst (List.replicate k.toNat xs).flatten) else none) = some res := hg
    split at hg <;> first | (cases hg; done) | skip
    rename_i hz
    cases hg
    obtain ⟨h1, h2⟩ := Bool.and_eq_true_iff.mp hz
    have h1 : k.natAbs < 1000000000 := of_decide_eq_true h1
    have h2 : xs.length * k.toNat ≤ SZ := of_decide_eq_true h2
    intro pins s σ H x y v u Q I rx ry ⟨O, hO, hd, he, hq⟩
    obtain ⟨a, vs, rfl, _, ha, la, ra⟩ := hd
    have e1 := Rps.length _ _ ra
    have hl : vs.length * k.toNat ≤ sizeLine := by
      rw [e1]
      exact Nat.le_trans h2 sz_le
    refine op_rep pins s σ H _ y v u Q I rx ry ⟨a, k, vs, rfl, he, ha, by omega, by omega, hl, fun p np => hq.flat np hO ?_ (ra.rep _)⟩
    rw [List.length_flatten, List.map_replicate, List.sum_replicate_nat, Nat.mul_comm]
    exact hl

theorem o_fdiv : OpR X (binaryOp .FloorDiv) (r2 W (binD .fdiv)) := op_case fun d e res hg => by
  cases d <;> cases e <;> (try (exact nomatch (show (none : Option (Md × D)) = some res from hg)))
  · rename_i i j
    have hg : (if 0 < j ∧ j < 1073741824 then some (Md.dp, D.int (i / j)) else none) = some res := hg
    split at hg <;> first | (cases hg; done) | skip
    rename_i hz; cases hg; exact op_ints (r := .non) op_fdiv hz (fun _ _ => rfl) rfl

theorem o_mod : OpR X (binaryOp .Mod) (r2 W (binD .mod)) := op_case fun d e res hg => by
  cases d <;> cases e <;> (try (exact nomatch (show (none : Option (Md × D)) = some res from hg)))
  · rename_i i j
    have hg : (if 0 < j then some (Md.dp, D.int (i % j)) else none) = some res := hg
    split at hg <;> first | (cases hg; done) | skip
    rename_i hz; cases hg; exact op_ints (r := .non) op_mod hz (fun _ _ => rfl) rfl

theorem o_pow : OpR X (binaryOp .Pow) (r2 W (binD .pow)) := op_case fun d e res hg => by
  cases d <;> cases e <;> (try (exact nomatch (show (none : Option (Md × D)) = some res from hg)))
  · rename_i i j
    have hg : (if 0 ≤ j ∧ j ≤ 1000 ∧ i.natAbs < 1000 then some (Md.dp, D.int (i ^ j.toNat)) else none) = some res := hg
    split at hg <;> first | (cases hg; done) | skip
    rename_i hz; cases hg; exact op_ints (r := .non) op_pow (⟨hz.1, by omega, by have := hz.2.2; exact Nat.lt_trans this (by decide)⟩ : CPow _ _) (fun _ _ => rfl) rfl

theorem o_shl : OpR X (binaryOp .LShift) (r2 W (binD .shl)) := op_case fun d e res hg => by
  cases d <;> cases e <;> (try (exact nomatch (show (none : Option (Md × D)) = some res from hg)))
  · rename_i i j
    have hg : (if 0 ≤ j ∧ j ≤ 1000 ∧ i.natAbs < 1000 then some (Md.dp, D.int (i * 2 ^ j.toNat)) else none) = some res := hg
    split at hg <;> first | (cases hg; done) | skip
    rename_i hz; cases hg; exact op_ints (r := .non) op_shl (⟨hz.1, by omega, by have := hz.2.2; exact Nat.lt_trans this (by decide)⟩ : CPow _ _) (fun _ _ => rfl) rfl

theorem o_shr : OpR X (binaryOp .RShift) (r2 W (binD .shr)) := op_case fun d e res hg => by
  cases d <;> cases e <;> (try (exact nomatch (show (none : Option (Md × D)) = some res from hg)))
  · rename_i i j
    have hg : (if 0 ≤ j then some (Md.dp, D.int (i / 2 ^ j.toNat)) else none) = some res := hg
    split at hg <;> first | (cases hg; done) | skip
    rename_i hz; cases hg; exact op_ints (r := .non) op_shr hz (fun _ _ => rfl) rfl

theorem o_band : OpR X (binaryOp .BitAnd) (r2 W (binD .band)) := op_case fun d e res hg => by
  cases d <;> cases e <;> (try (exact nomatch (show (none : Option (Md × D)) = some res from hg)))
  · cases hg
    exact op_ints0 op_and (fun _ _ => rfl) rfl

theorem op_caseB {f : Value → Value → Sem Value} {o : Cop}
    (k : ∀ (d e : D) (b : Bool), cmpD o d e = some b → OpR X f (fun x y H Q => ∃ O, (∀ a, O a → H a ≠ none) ∧ Rp W H O d x ∧ Rp W H O e y ∧ Q (.bl b) H)) : OpR X f (r2 W (gB o)) := by
  intro pins s σ H x y v u Q I rx ry ⟨O, d, e, res, hO, hd, he, hg, hq⟩
  unfold gB at hg
  cases hb : cmpD o d e with
  | none => rw [hb] at hg; cases hg
  | some b =>
    rw [hb] at hg
    cases hg
    exact k d e b hb pins s σ H x y v u Q I rx ry ⟨O, hO, hd, he, hq.val rfl rfl⟩
theorem op_intsB {f : Value → Value → Sem Value} {i j : Int} {b : Bool} {g : Int → Int → V} (ho : OpR X f (rI0 g)) (hg : g i j = .bl b) :
    OpR X f (fun x y H Q => ∃ O, (∀ a, O a → H a ≠ none) ∧ Rp W H O (.int i) x ∧ Rp W H O (.int j) y ∧ Q (.bl b) H) := by
  intro pins s σ H x y v u Q I rx ry ⟨O, hO, hd, he, hq⟩
  exact ho pins s σ H x y v u Q I rx ry ⟨i, j, hd, he, by rw [hg]; exact hq⟩
theorem lexLt2 (a b c d : Int) : HT.lexLt [a, b] [c, d] = ltP2 (a, b) (c, d) := by
  unfold ltP2
  simp only [HT.lexLt]
  by_cases h : a = c
  · subst h
    by_cases h2 : b = d
    · subst h2; simp
    · simp [h2]
  · simp [h]
theorem Rp.pair {H : Hp} {O : Addr → Prop} {a b : Int} {v : V} (h : Rp W H O (.tup [.int a, .int b]) v) : ∃ p, v = .ref p ∧ H p = some (.tup [.int a, .int b]) := by
  obtain ⟨p, vs, rfl, h1, h2, v1, r1, rfl, e1, v2, r2, rfl, e2, e3⟩ := h
  have e1 : v1 = .int a := e1
  have e2 : v2 = .int b := e2
  have e3 : r2 = [] := e3
  subst e1 e2 e3
  exact ⟨p, rfl, h1⟩
theorem intD_eq {d : D} {i : Int} (h : intD d = some i) : d = .int i := by
  cases d <;> first | (cases h; rfl) | cases h
theorem prD_eq {d : D} {p : Int × Int} (h : prD d = some p) : d = eP p := by
  unfold prD at h
  split at h
  · cases h; rfl
  · cases h
theorem o_lt (hu : X.A.units < cLine) : OpR X (compareOp .Lt) (r2 W (gB .lt)) := op_caseB fun d e b hb => by
  have hb : ltO d e = some b := by cases d <;> exact hb
  unfold ltO at hb
  split at hb
  · rename_i i j h1 h2
    rw [intD_eq h1, intD_eq h2]
    cases hb
    exact op_intsB op_lt rfl
  · split at hb
    · rename_i p q h1 h2
      rw [prD_eq h1, prD_eq h2]
      cases hb
      intro pins s σ H x y v u Q I rx ry ⟨O, hO, hd, he, hq⟩
      obtain ⟨a, rfl, ha⟩ := hd.pair
      obtain ⟨c, rfl, hc⟩ := he.pair
      exact op_ltT hu pins s σ H _ _ v u Q I rx ry ⟨a, c, [p.1, p.2], [q.1, q.2], rfl, rfl, .inl (.inl ha), .inl (.inl hc), by rw [lexLt2]; exact hq⟩
    · cases hb
theorem o_le : OpR X (compareOp .LtE) (r2 W (gB .le)) := op_caseB fun d e b hb => by
  cases d <;> cases e <;> (try (exact nomatch (show (none : Option Bool) = some b from hb)))
  · cases hb
    exact op_intsB op_le rfl
theorem o_gt : OpR X (compareOp .Gt) (r2 W (gB .gt)) := op_caseB fun d e b hb => by
  cases d <;> cases e <;> (try (exact nomatch (show (none : Option Bool) = some b from hb)))
  · cases hb
    exact op_intsB op_gt rfl
theorem o_ge : OpR X (compareOp .GtE) (r2 W (gB .ge)) := op_caseB fun d e b hb => by
  cases d <;> cases e <;> (try (exact nomatch (show (none : Option Bool) = some b from hb)))
  · cases hb
    exact op_intsB op_ge rfl
theorem o_eq (hK : X.K = W.K) (hu : X.A.units + 64 < cLine) : OpR X (compareOp .Eq) (r2 W (gB .eq)) := op_caseB fun d e b hb => by
  have hb : (if (dat d 20 && dat e 20) = true then some (eqD d e) else none) = some b := by cases d <;> exact hb
  split at hb <;> first | (cases hb; done) | skip
  rename_i hz
  cases hb
  obtain ⟨z1, z2⟩ := Bool.and_eq_true_iff.mp hz
  intro pins s σ H x y v u Q I rx ry ⟨O, hO, hd, he, hq⟩
  exact op_eqD hu pins s σ H _ _ v u Q I rx ry ⟨_, _, by rw [hK]; exact Rp.dp d 20 x z1 hd, by rw [hK]; exact Rp.dp e 20 y z2 he, shaped_of (by decide) z1, shaped_of (by decide) z2, hq⟩
theorem o_ne (hK : X.K = W.K) (hu : X.A.units + 64 < cLine) : OpR X (compareOp .NotEq) (r2 W (gB .ne)) := op_caseB fun d e b hb => by
  have hb : (if (dat d 20 && dat e 20) = true then some (!eqD d e) else none) = some b := by cases d <;> exact hb
  split at hb <;> first | (cases hb; done) | skip
  rename_i hz
  cases hb
  obtain ⟨z1, z2⟩ := Bool.and_eq_true_iff.mp hz
  intro pins s σ H x y v u Q I rx ry ⟨O, hO, hd, he, hq⟩
  exact op_neD hu pins s σ H _ _ v u Q I rx ry ⟨_, _, by rw [hK]; exact Rp.dp d 20 x z1 hd, by rw [hK]; exact Rp.dp e 20 y z2 he, shaped_of (by decide) z1, shaped_of (by decide) z2, hq⟩
theorem valV_dic (n : Int) : ∀ ks : List Int, (valV (dicV ks) (Sum.inl n)).isSome = ks.contains n
  | [] => rfl
  | k :: ks => by
    show (valV ((Sum.inl k, V.bl true) :: dicV ks) (Sum.inl n)).isSome = _
    have ih := valV_dic n ks
    by_cases e : k = n
    · subst e
      rw [valV_pos rfl]
      simp
    · rw [valV_neg (fun z => e (Sum.inl.inj z)), ih, List.contains_cons]
      have : (n == k) = false := beq_eq_false_iff_ne.mpr fun z => e z.symm
      rw [this, Bool.false_or]
theorem o_in (hK : X.K = W.K) (hu : X.A.units + 65 < cLine) : OpR X (compareOp .In) (r2 W (gB .isin)) := op_caseB fun d e b hb => by
  have hb : inD d e = some b := by cases d <;> exact hb
  intro pins s σ H x y v u Q I rx ry ⟨O, hO, hd, he, hq⟩
  cases e with
  | lst ds =>
    have hb : (if (dat d 20 && dats ds 20) = true then some (ds.any fun z => eqD z d) else none) = some b := hb
    split at hb <;> first | (cases hb; done) | skip
    rename_i hz
    cases hb
    obtain ⟨z1, z2⟩ := Bool.and_eq_true_iff.mp hz
    have p2 : Dp X.K H y (.list (toPys ds)) := by
      rw [hK]
      have := Rp.dp (.lst ds) 21 y z2 he
      simpa only [toPy] using this
    have p3 : SeqAt.shaped (.list (toPys ds)) = true := by
      have := shaped_of (d := .lst ds) (n := 21) (by decide) z2
      simpa only [toPy] using this
    refine op_inD hu pins s σ H _ _ v u Q I rx ry ⟨toPy d, toPys ds, by rw [hK]; exact Rp.dp d 20 x z1 hd, p2, shaped_of (by decide) z1, p3, ?_⟩
    rw [toPys_any]
    exact hq
  | tup ds =>
    have hb : (if (flatD d && ds.all flatD) = true then some (ds.any fun z => eqD z d) else none) = some b := hb
    split at hb <;> first | (cases hb; done) | skip
    rename_i hz
    cases hb
    obtain ⟨z1, z2⟩ := Bool.and_eq_true_iff.mp hz
    obtain ⟨p, vs, rfl, hp, hl, hr⟩ := he
    refine op_in_seq pins s σ H _ _ v u Q I rx ry ⟨p, vs, rfl, .inr (.inl (.inl hp)), (eqV_py z1 z1 hd hd).2.1, Rps.flat _ _ z2 hr, ?_⟩
    rw [if_neg (by decide), Rps.inV z1 hd ds vs z2 hr]
    exact hq
  | dic ks =>
    cases d with
    | int n =>
      have hb : some (ks.contains n) = some b := hb
      cases hb
      obtain ⟨p, rfl, _, hp, hl⟩ := he
      have hd : x = .int n := hd
      subst hd
      obtain rfl : u = Value.ref p := ry
      have g : DGet H p (.int n) (valV (dicV ks) (Sum.inl n)) := DGet.k (k := Sum.inl n) hp
      exact d_in (by omega) I g rx fun s3 I3 => ⟨.bl _, H, I3, rfl, by rw [valV_dic]; exact hq⟩
    | _ => cases hb
  | _ => cases hb
theorem o_notin (hK : X.K = W.K) (hu : X.A.units + 65 < cLine) : OpR X (compareOp .NotIn) (r2 W (gB .notin)) := op_caseB fun d e b hb => by
  have hb : (inD d e).map (!·) = some b := by cases d <;> exact hb
  intro pins s σ H x y v u Q I rx ry ⟨O, hO, hd, he, hq⟩
  cases e with
  | lst ds =>
    have hb : (if (dat d 20 && dats ds 20) = true then some (ds.any fun z => eqD z d) else none).map (!·) = some b := hb
    split at hb <;> first | (cases hb; done) | skip
    rename_i hz
    cases hb
    obtain ⟨z1, z2⟩ := Bool.and_eq_true_iff.mp hz
    have p2 : Dp X.K H y (.list (toPys ds)) := by
      rw [hK]
      have := Rp.dp (.lst ds) 21 y z2 he
      simpa only [toPy] using this
    have p3 : SeqAt.shaped (.list (toPys ds)) = true := by
      have := shaped_of (d := .lst ds) (n := 21) (by decide) z2
      simpa only [toPy] using this
    refine op_notInD hu pins s σ H _ _ v u Q I rx ry ⟨toPy d, toPys ds, by rw [hK]; exact Rp.dp d 20 x z1 hd, p2, shaped_of (by decide) z1, p3, ?_⟩
    rw [toPys_any]
    exact hq
  | tup ds =>
    have hb : (if (flatD d && ds.all flatD) = true then some (ds.any fun z => eqD z d) else none).map (!·) = some b := hb
    split at hb <;> first | (cases hb; done) | skip
    rename_i hz
    cases hb
    obtain ⟨z1, z2⟩ := Bool.and_eq_true_iff.mp hz
    obtain ⟨p, vs, rfl, hp, hl, hr⟩ := he
    refine op_notIn_seq pins s σ H _ _ v u Q I rx ry ⟨p, vs, rfl, .inr (.inl (.inl hp)), (eqV_py z1 z1 hd hd).2.1, Rps.flat _ _ z2 hr, ?_⟩
    rw [if_pos rfl, Rps.inV z1 hd ds vs z2 hr]
    exact hq
  | dic ks =>
    cases d with
    | int n =>
      have hb : some (!ks.contains n) = some b := hb
      cases hb
      obtain ⟨p, rfl, _, hp, hl⟩ := he
      have hd : x = .int n := hd
      subst hd
      obtain rfl : u = Value.ref p := ry
      have g : DGet H p (.int n) (valV (dicV ks) (Sum.inl n)) := DGet.k (k := Sum.inl n) hp
      exact d_notIn (by omega) I g rx fun s3 I3 => ⟨.bl _, H, I3, rfl, by rw [valV_dic]; exact hq⟩
    | _ => cases hb
  | _ => cases hb
theorem Rp.non_iff {H : Hp} {O : Addr → Prop} {d : D} {x : V} (h : Rp W H O d x) : decide (x = .non) = isNon d := by
  cases d with
  | non => rw [show x = .non from h]; rfl
  | bl b => rw [show x = .bl b from h]; rfl
  | int b => rw [show x = .int b from h]; rfl
  | str b => rw [show x = .str b from h]; rfl
  | fn b => rw [show x = .ref _ from h]; rfl
  | tup ds => obtain ⟨a, vs, rfl, _⟩ := h; rfl
  | lst ds => obtain ⟨a, vs, rfl, _⟩ := h; rfl
  | scr ds => obtain ⟨a, rfl, _⟩ := h; rfl
  | dic ds => obtain ⟨a, rfl, _⟩ := h; rfl
  | ins C f d => obtain ⟨a, dx, fv, rfl, _⟩ := h; rfl
  | exc C => obtain ⟨a, rfl, _⟩ := h; rfl
theorem o_is : OpR X (compareOp .Is) (r2 W (gB .is_)) := op_caseB fun d e b hb => by
  intro pins s σ H x y v u Q I rx ry ⟨O, hO, hd, he, hq⟩
  cases e with
  | non =>
    have hb : some (isNon d) = some b := by cases d <;> exact hb
    cases hb
    exact op_isN pins s σ H x y v u Q I rx ry ⟨he, by rw [hd.non_iff]; exact hq⟩
  | bl c =>
    cases d with
    | bl a =>
      have hb : some (a == c) = some b := hb
      cases hb
      exact op_isBl pins s σ H x y v u Q I rx ry ⟨a, c, hd, he, by rw [show decide (a = c) = (a == c) by cases a <;> cases c <;> rfl]; exact hq⟩
    | _ => cases hb
  | _ => cases d <;> cases hb
theorem o_isnot : OpR X (compareOp .IsNot) (r2 W (gB .isnot)) := op_caseB fun d e b hb => by
  intro pins s σ H x y v u Q I rx ry ⟨O, hO, hd, he, hq⟩
  cases e with
  | non =>
    have hb : some (!isNon d) = some b := by cases d <;> exact hb
    cases hb
    exact op_notN pins s σ H x y v u Q I rx ry ⟨he, by rw [hd.non_iff]; exact hq⟩
  | bl c =>
    cases d with
    | bl a =>
      have hb : some (!(a == c)) = some b := hb
      cases hb
      exact op_notBl pins s σ H x y v u Q I rx ry ⟨a, c, hd, he, by rw [show decide (a = c) = (a == c) by cases a <;> cases c <;> rfl]; exact hq⟩
    | _ => cases hb
  | _ => cases d <;> cases hb
end
end TW

set_option Elab.async false
set_option linter.all false
set_option maxRecDepth 100000
set_option maxHeartbeats 4000000
namespace TW
open PySem PySem.Spec PyProof.Rows L2

section
variable {W : Wd} {E0 : XK} {H H1 : Hp} {O O1 : Addr → Prop}
theorem rqs_bnd2 {α : Type} {x : M (List (Md × D))} {f : List (Md × D) → M α} {G : M α → Prop} {R : List V → Hp → Prop} (hn : ¬ G none) (he : ∀ C, G (some (.er C)) → ∀ H', Same H H' → E0 (.ref (W.ca C)) none H') (h : G (bnd x f)) (k : ∀ ps, x = some (.ok ps) → G (f ps) → ∀ vs H' Fs, Same H H' → (∀ a ∈ Fs.flatten, H a = none) → Fs.flatten.Nodup → Ows W H' (fun p => O1 p ∨ p ∈ Fs.flatten) ps vs Fs → R vs H') : rqs W E0 H O1 x R := by
  match x, h, k with
  | none, h, k => exact hn h
  | some (.er C), h, k => exact he C h
  | some (.ok p), h, k => exact k p rfl h
theorem Ow.rpv {m : Md} {d : D} {v : V} {F : List Addr} (h : Ow W H1 (fun p => O p ∨ p ∈ F) m d v F) (hO : ∀ a, O1 a → O a) (ht : ∀ a, O1 a → H a ≠ none) (n : ∀ a ∈ F, H a = none) : Rp W H1 O1 d v :=
  h.rp (fun a z => .inl (hO a z)) fun a ha z => ht a z (n a ha)
theorem same_new {p : Addr} {o : HO} (n : H p = none) : Same H (L2.upd H p o) := fun b x e => by
  rw [upd_ne (ne_of_none e n)]; exact e
theorem Res.tup {Q : VK} {ps : List (Md × D)} {vs : List V} {Fs : List (List Addr)} {p : Addr} (h : Res W H O (tupM ps) (.tup (ps.map Prod.snd)) Q) (s : Same H H1) (ht : ∀ a, O a → H a ≠ none) (n : ∀ a ∈ Fs.flatten, H a = none) (nd : Fs.flatten.Nodup)
    (ow : Ows W H1 (fun p => O1 p ∨ p ∈ Fs.flatten) ps vs Fs) (hO : ∀ a, O a → O1 a) (hl : vs.length ≤ sizeLine) (np : H1 p = none) : Q (.ref p) (L2.upd H1 p (.tup vs)) := by
  have s2 := same_new (o := .tup vs) np
  unfold tupM at h
  split at h
  · rename_i c
    exact h _ _ Fs.flatten (s.trans s2) n nd ⟨p, vs, rfl, upd_same, hl, Dqs.mono s2 _ _ _ (ow.dqs c)⟩
  · refine Res.share h (s.trans s2) ⟨p, vs, rfl, upd_same, hl, ?_⟩
    exact Rps.mono s2 (fun _ z => z) _ _ (ow.rps (fun a z => .inl (hO a z)) fun a ha z => ht a z (n a ha))
theorem Res.box {Q : VK} {ps : List (Md × D)} {vs : List V} {Fs : List (List Addr)} {p : Addr} (h : Res W H O (boxM ps) (.lst (ps.map Prod.snd)) Q) (s : Same H H1) (ht : ∀ a, O a → H a ≠ none) (n : ∀ a ∈ Fs.flatten, H a = none) (nd : Fs.flatten.Nodup)
    (ow : Ows W H1 (fun p => O1 p ∨ p ∈ Fs.flatten) ps vs Fs) (hO : ∀ a, O a → O1 a) (hl : vs.length ≤ sizeLine) (np : H1 p = none) : Q (.ref p) (L2.upd H1 p (.lst vs)) := by
  have s2 := same_new (o := .lst vs) np
  have nH : H p = none := s.free np
  unfold boxM at h
  split at h
  · rename_i c
    refine h _ _ (p :: Fs.flatten) (s.trans s2) (fun a ha => ?_) (List.nodup_cons.mpr ⟨fun z => ?_, nd⟩) ⟨p, vs, Fs.flatten, rfl, rfl, upd_same, hl, Dqs.mono s2 _ _ _ (ow.dqs c)⟩
    · rcases List.mem_cons.mp ha with rfl | ha
      · exact nH
      · exact n a ha
    · obtain ⟨o, e, _⟩ := ow.there p z
      rw [np] at e
      cases e
  · have r : Rps W H1 O (ps.map Prod.snd) vs := ow.rps (fun a z => .inl (hO a z)) fun a ha z => ht a z (n a ha)
    exact Res.flat (h.mono s) np (fun a z e => ht a z (s.free e)) hl r
end

section
variable {W : Wd} {E0 : XK} {T : Tb} {X : Cx}
theorem c_var (i : Nat) {x : Str} {pos : Pos} (hN : X.N[i]? = some x := by rfl) (hv : Vis X.env.scope x := by first | exact Or.inl rfl | exact Or.inr (Or.inl rfl) | exact Or.inr (Or.inr rfl)) (hd : (x == ("__debug__" : Str)) = false := by decide)
    (hcd : (x == ("__classdict__" : Str)) = false := by decide) : PE X (.Name x pos) (rdE W E0 T (.var i)) := (pv i hN hv hd hcd).imp fun σ H Q ⟨H0, O0, δ, Fs, S, q⟩ => by
  simp only [ev] at q
  cases e : δ[i]? with
  | none => rw [e] at q; exact q.elim
  | some o =>
    cases o with
    | none => rw [e] at q; exact q.elim
    | some p =>
      rw [e] at q
      obtain ⟨v, h1, h2⟩ := S.var e (T := nm (.var i)) (by simp [nm])
      exact ⟨v, h1, Res.share q (Same.refl H) h2⟩
theorem rd_lit {d : D} {v : V} {σ : L2.St} {H : Hp} {Q : VK} (hv : ∀ H O, Rp W H O d v) (l : lfree d = true) (h : rdE W E0 T (.lit d) σ H Q) : Q v H := by
  obtain ⟨H0, O0, δ, Fs, S, q⟩ := h
  simp only [ev] at q
  split at q
  · exact Res.val (W := W) (d := d) q (hv _ _) l
  · exact q.elim
theorem c_int {i : Int} {j pos} : PE X (.Constant (.int i) j pos) (rdE W E0 T (.lit (.int i))) := pe_int.imp fun σ H Q h => rd_lit (d := .int i) (v := .int i) (fun _ _ => rfl) rfl h
theorem c_bl {b : Bool} {j pos} : PE X (.Constant (.bool b) j pos) (rdE W E0 T (.lit (.bl b))) := pe_bl.imp fun σ H Q h => rd_lit (d := .bl b) (v := .bl b) (fun _ _ => rfl) rfl h
theorem c_non {j pos} : PE X (.Constant .none j pos) (rdE W E0 T (.lit .non)) := pe_non.imp fun σ H Q h => rd_lit (d := .non) (v := .non) (fun _ _ => rfl) rfl h
theorem c_gint {x : Str} {i : Int} {pos : Pos} (hg : Gl X x) (hm : ∃ t, X.mg x = some (.int i t)) (hd : (x == ("__debug__" : Str)) = false := by decide) : PE X (.Name x pos) (rdE W E0 T (.lit (.int i))) := by
  obtain ⟨t, hm⟩ := hm
  exact (pe_glob (v := .int i) hg hm ⟨t, rfl⟩ hd).imp fun σ H Q h => rd_lit (d := .int i) (v := .int i) (fun _ _ => rfl) rfl h
theorem rd1 {a : E} {g : D → Option (Md × D)} {r : V → Hp → VK → Prop} {H0 : Hp} {O0 : Addr → Prop} {δ : Dn} {Fs : List (List Addr)} {σ : L2.St} {H : Hp} {Q : VK} (S : SS W H0 O0 H σ δ Fs)
    (h : rq W E0 H (av O0 Fs (nm a)) (bnd (ev T a δ) fun p => lift (g p.2)) Q)
    (good : ∀ H2 O x d res, (∀ a, O a → H2 a ≠ none) → Rp W H2 O d x → g d = some res → Res W H2 O res.1 res.2 Q → r x H2 Q) :
    rdE W E0 T a σ H (fun x H1 => r x H1 Q) := by
  refine ⟨H0, O0, δ, Fs, S, rq_bnd' (G := fun z => rq W E0 H (av O0 Fs (nm a)) z Q) rq_none (fun C h => h) h fun p h1 => ?_⟩
  intro v1 H1 F1 s1 n1 nd1 ow1
  cases e : g p.2 with
  | none => rw [e] at h1; exact h1.elim
  | some res =>
    rw [e] at h1
    exact good H1 (av O0 Fs (nm a)) v1 p.2 res ((S.grow s1).av_there) (ow1.rpv (fun _ z => z) S.av_there n1) e (Res.mono (W := W) h1 s1)
theorem rd2 {a b : E} {g : D → D → Option (Md × D)} {r : R2} {H0 : Hp} {O0 : Addr → Prop} {δ : Dn} {Fs : List (List Addr)} {σ : L2.St} {H : Hp} {Q : VK} {ns : List Nat} (S : SS W H0 O0 H σ δ Fs) (ha : ∀ i ∈ nm a, i ∈ ns) (hb : ∀ i ∈ nm b, i ∈ ns)
    (h : rq W E0 H (av O0 Fs ns) (bnd (ev T a δ) fun p => bnd (ev T b δ) fun q => lift (g p.2 q.2)) Q)
    (good : ∀ H2 O x y d e res, (∀ a, O a → H2 a ≠ none) → Rp W H2 O d x → Rp W H2 O e y → g d e = some res → Res W H2 O res.1 res.2 Q → r x y H2 Q) :
    rdE W E0 T a σ H (fun x H1 => rdE W E0 T b σ H1 (fun y H2 => r x y H2 Q)) := by
  refine ⟨H0, O0, δ, Fs, S, rq_bnd' (G := fun z => rq W E0 H (av O0 Fs ns) z Q) rq_none (fun C h => h) h fun p h1 => ?_⟩
  intro v1 H1 F1 s1 n1 nd1 ow1
  have S1 := S.grow s1
  refine ⟨H0, O0, δ, Fs, S1, rq_bnd' (G := fun z => rq W E0 H1 (av O0 Fs ns) z Q) rq_none (fun C h => h) (rq.mono h1 s1) fun q h2 => ?_⟩
  intro v2 H2 F2 s2 n2 nd2 ow2
  cases e : g p.2 q.2 with
  | none => rw [e] at h2; exact h2.elim
  | some res =>
    rw [e] at h2
    refine good H2 (av O0 Fs ns) v1 v2 p.2 q.2 res ((S1.grow s2).av_there) ?_ (ow2.rpv (av_mono hb) S1.av_there n2) e (Res.mono (W := W) h2 s2)
    exact Rp.mono s2 (fun _ z => z) _ _ (ow1.rpv (av_mono ha) S.av_there n1)
theorem c_op {a b : Expr} {ca cb : E} {o : Bop} {op : Operator} {pos : Pos} (ho : OpR X (binaryOp op) (r2 W (binD o))) (ha : PE X a (rdE W E0 T ca)) (hb : PE X b (rdE W E0 T cb)) : PE X (.BinOp a op b pos) (rdE W E0 T (.bin o ca cb)) :=
  (pe_op ho ha hb).imp fun σ H Q ⟨H0, O0, δ, Fs, S, q⟩ => by
    simp only [ev, nm] at q
    exact rd2 (r := r2 W (binD o)) S (fun i h => List.mem_append_left _ h) (fun i h => List.mem_append_right _ h) q fun H2 O x y d e res hO hd he hg hq => ⟨O, d, e, res, hO, hd, he, hg, hq⟩
theorem rd_cmp {ca cb : E} {o : Cop} {σ : L2.St} {H : Hp} {Q : VK} (h : rdE W E0 T (.cmp o ca cb) σ H Q) : tOp (r2 W (gB o)) (rdE W E0 T ca) (rdE W E0 T cb) σ H Q := by
  obtain ⟨H0, O0, δ, Fs, S, q⟩ := h
  simp only [ev, nm] at q
  exact rd2 (g := gB o) (r := r2 W (gB o)) S (fun i h => List.mem_append_left _ h) (fun i h => List.mem_append_right _ h) q fun H2 O x y d e res hO hd he hg hq => ⟨O, d, e, res, hO, hd, he, hg, hq⟩
theorem c_cmp {a b : Expr} {ca cb : E} {o : Cop} {op : CmpOp} {pos : Pos} (ho : OpR X (compareOp op) (r2 W (gB o))) (ha : PE X a (rdE W E0 T ca)) (hb : PE X b (rdE W E0 T cb)) (hm : behindInMarks op b = false) : PE X (.Compare a [op] [b] pos) (rdE W E0 T (.cmp o ca cb)) :=
  (pe_cmpR ho ha hb hm).imp fun σ H Q h => rd_cmp h
theorem c_neg {a : Expr} {ca : E} {pos : Pos} (ha : PE X a (rdE W E0 T ca)) : PE X (.UnaryOp .USub a pos) (rdE W E0 T (.neg ca)) :=
  (pe_un un_neg ha).imp fun σ H Q ⟨H0, O0, δ, Fs, S, q⟩ => by
    simp only [ev, nm] at q
    refine rd1 (g := fun d => (intD d).map fun i => (.dp, .int (-i))) S q fun H2 O x d res hO hd hg hq => ?_
    cases e : intD d with
    | none => rw [e] at hg; cases hg
    | some i =>
      rw [e] at hg
      cases hg
      rw [intD_eq e] at hd
      exact ⟨i, hd, hq.val rfl rfl⟩
theorem rd_chn {ca cb cc : E} {o o2 : Cop} {σ : L2.St} {H : Hp} {Q : VK} (h : rdE W E0 T (.chn o o2 ca cb cc) σ H Q) : tChain (r2 W (gB o)) (r2 W (gB o2)) (rdE W E0 T ca) (rdE W E0 T cb) (rdE W E0 T cc) σ H Q := by
    obtain ⟨H0, O0, δ, Fs, S, q⟩ := h
    simp only [ev, nm] at q
    have ia : ∀ i ∈ nm ca, i ∈ nm ca ++ nm cb ++ nm cc := fun i h => by simp [h]
    have ib : ∀ i ∈ nm cb, i ∈ nm ca ++ nm cb ++ nm cc := fun i h => by simp [h]
    have ic : ∀ i ∈ nm cc, i ∈ nm ca ++ nm cb ++ nm cc := fun i h => by simp [h]
    refine ⟨H0, O0, δ, Fs, S, rq_bnd' (G := fun z => rq W E0 H (av O0 Fs (nm ca ++ nm cb ++ nm cc)) z Q) rq_none (fun C h => h) q fun p h1 => ?_⟩
    intro v1 H1 F1 s1 n1 nd1 ow1
    have S1 := S.grow s1
    refine ⟨H0, O0, δ, Fs, S1, rq_bnd' (G := fun z => rq W E0 H1 (av O0 Fs (nm ca ++ nm cb ++ nm cc)) z Q) rq_none (fun C h => h) (rq.mono h1 s1) fun p2 h2 => ?_⟩
    intro v2 H2 F2 s2 n2 nd2 ow2
    have S2 := S1.grow s2
    have r1 := Rp.mono s2 (fun _ z => z) _ _ (ow1.rpv (av_mono ia) S.av_there n1)
    have r2' := ow2.rpv (av_mono ib) S1.av_there n2
    have h2 := rq.mono h2 s2
    cases e : cmpD o p.2 p2.2 with
    | none => rw [e] at h2; exact h2.elim
    | some k =>
      rw [e] at h2
      refine ⟨_, _, _, (.dp, .bl k), S2.av_there, r1, r2', by unfold gB; rw [e]; rfl, fun v3 H3 F3 s3 n3 nd3 ow3 => ?_⟩
      obtain ⟨rfl, _⟩ := (show v3 = .bl k ∧ F3 = [] from ow3)
      refine ⟨k, rfl, ?_⟩
      have h3 := rq.mono h2 s3
      have S3 := S2.grow s3
      cases k with
      | false =>
        rw [if_neg (by decide)]
        exact Res.val (W := W) h3 rfl rfl
      | true =>
        rw [if_pos rfl]
        refine ⟨H0, O0, δ, Fs, S3, rq_bnd' (G := fun z => rq W E0 H3 (av O0 Fs (nm ca ++ nm cb ++ nm cc)) z Q) rq_none (fun C h => h) h3 fun p4 h4 => ?_⟩
        intro v4 H4 F4 s4 n4 nd4 ow4
        cases e4 : cmpD o2 p2.2 p4.2 with
        | none => rw [e4] at h4; exact h4.elim
        | some k2 =>
          rw [e4] at h4
          exact ⟨_, _, _, (.dp, .bl k2), (S3.grow s4).av_there, Rp.mono (s3.trans s4) (fun _ z => z) _ _ r2', ow4.rpv (av_mono ic) S3.av_there n4, by unfold gB; rw [e4]; rfl, Res.mono (W := W) h4 s4⟩
theorem c_chn {a b c : Expr} {ca cb cc : E} {o o2 : Cop} {op op2 : CmpOp} {pos : Pos} (ho : OpR X (compareOp op) (r2 W (gB o))) (ho2 : OpR X (compareOp op2) (r2 W (gB o2))) (ha : PE X a (rdE W E0 T ca)) (hb : PE X b (rdE W E0 T cb)) (hc : PE X c (rdE W E0 T cc))
    (hm : lastMarks [op, op2] [b, c] = false := by with_unfolding_all rfl) : PE X (.Compare a [op, op2] [b, c] pos) (rdE W E0 T (.chn o o2 ca cb cc)) :=
  (pe_chain ho ho2 ha hb hc hm).imp fun σ H Q h => rd_chn h

theorem rdT_E {c : E} {σ : L2.St} {H : Hp} {Q : Bool → Hp → Prop} (h : rdT W E0 T c σ H Q) : rdE W E0 T c σ H (fun x H' => ∃ k, x = .bl k ∧ Q k H') := by
  obtain ⟨H0, O0, δ, Fs, S, q⟩ := h
  refine ⟨H0, O0, δ, Fs, S, rq_bnd' (G := fun z => rqb W E0 H z Q) rqb_none (fun C h => h) q fun p h1 => ?_⟩
  intro v H1 F1 s1 n1 nd1 ow1
  cases e : boolD p.2 with
  | none => rw [e] at h1; exact h1.elim
  | some b =>
    rw [e] at h1
    have hp : p.2 = .bl b := by
      cases hd : p.2 <;> rw [hd] at e <;> first | (cases e; done) | skip
      cases e; rfl
    have r := ow1.rpv (O1 := fun _ => False) (fun _ z => z.elim) (fun _ z => z.elim) n1
    rw [hp] at r
    exact ⟨b, r, h1 H1 s1⟩
theorem t_val {e : Expr} {c : E} (h : PE X e (rdE W E0 T c)) (he : ∀ whole, isTrue e X.env whole = (do let v ← whole; standAt e.pos; holding [v] (truthy v)) := by intro _; rfl) : PT X e (rdT W E0 T c) :=
  (pt_val h he).imp fun σ H Q h => rdT_E h
theorem t_cmp {a b : Expr} {ca cb : E} {o : Cop} {op : CmpOp} {pos : Pos} (ho : OpR X (compareOp op) (r2 W (gB o))) (ha : PE X a (rdE W E0 T ca)) (hb : PE X b (rdE W E0 T cb)) (hm : behindInMarks op b = false) : PT X (.Compare a [op] [b] pos) (rdT W E0 T (.cmp o ca cb)) :=
  (pt_cmpR ho ha hb hm).imp fun σ H Q h => rd_cmp (rdT_E h)
theorem evB_not {c : E} {δ : Dn} : evB T (.not c) δ = bnd (evB T c δ) fun b => ok (!b) := by
  unfold evB
  simp only [ev]
  cases ev T c δ with
  | none => rfl
  | some r =>
    cases r with
    | er C => rfl
    | ok p =>
      show bnd (lift ((boolD p.2).map fun b => (Md.dp, D.bl (!b)))) _ = bnd (lift (boolD p.2)) _
      cases boolD p.2 <;> rfl
theorem evB_and {a b : E} {δ : Dn} : evB T (.and a b) δ = bnd (evB T a δ) fun c => if c then evB T b δ else ok false := by
  unfold evB
  simp only [ev]
  cases ev T a δ with
  | none => rfl
  | some r =>
    cases r with
    | er C => rfl
    | ok p =>
      show bnd (match boolD p.2 with | none => none | some false => ok (.dp, .bl false) | some true => ev T b δ) _ = bnd (lift (boolD p.2)) _
      cases boolD p.2 with
      | none => rfl
      | some k => cases k <;> rfl
theorem evB_or {a b : E} {δ : Dn} : evB T (.or a b) δ = bnd (evB T a δ) fun c => if c then ok true else evB T b δ := by
  unfold evB
  simp only [ev]
  cases ev T a δ with
  | none => rfl
  | some r =>
    cases r with
    | er C => rfl
    | ok p =>
      show bnd (match boolD p.2 with | none => none | some true => ok (.dp, .bl true) | some false => ev T b δ) _ = bnd (lift (boolD p.2)) _
      cases boolD p.2 with
      | none => rfl
      | some k => cases k <;> rfl
theorem ev_ite {c a b : E} {δ : Dn} : ev T (.ite c a b) δ = bnd (evB T c δ) fun k => if k then ev T a δ else ev T b δ := by
  unfold evB
  simp only [ev]
  cases ev T c δ with
  | none => rfl
  | some r =>
    cases r with
    | er C => rfl
    | ok p =>
      show (match boolD p.2 with | none => none | some true => ev T a δ | some false => ev T b δ) = bnd (lift (boolD p.2)) _
      cases boolD p.2 with
      | none => rfl
      | some k => cases k <;> rfl
theorem t_not {a : Expr} {c : E} {pos : Pos} (h : PT X a (rdT W E0 T c)) : PT X (.UnaryOp .Not a pos) (rdT W E0 T (.not c)) :=
  (pt_not h).imp fun σ H Q ⟨H0, O0, δ, Fs, S, q⟩ => by
    rw [evB_not] at q
    exact ⟨H0, O0, δ, Fs, S, rqb_bnd' (G := fun z => rqb W E0 H z Q) rqb_none (fun C h => h) q fun b h1 H' s => h1 H' s⟩
theorem t_and1 {a : Expr} {c : E} {pos : Pos} (h : PT X a (rdT W E0 T c)) : PW X (.BoolOp .And [a] pos) (rdT W E0 T c) := pw_and1 h
theorem t_or1 {a : Expr} {c : E} {pos : Pos} (h : PT X a (rdT W E0 T c)) : PW X (.BoolOp .Or [a] pos) (rdT W E0 T c) := pw_or1 h
theorem t_and {a b : Expr} {rest : List Expr} {ca cb : E} {pos : Pos} (ha : PT X a (rdT W E0 T ca)) (hb : PW X (.BoolOp .And (b :: rest) pos) (rdT W E0 T cb)) : PW X (.BoolOp .And (a :: b :: rest) pos) (rdT W E0 T (.and ca cb)) :=
  (pw_and ha hb).imp fun σ H Q ⟨H0, O0, δ, Fs, S, q⟩ => by
    rw [evB_and] at q
    refine ⟨H0, O0, δ, Fs, S, rqb_bnd' (G := fun z => rqb W E0 H z Q) rqb_none (fun C h => h) q fun b h1 H' s => ?_⟩
    cases b with
    | true =>
      rw [if_pos rfl]
      exact ⟨H0, O0, δ, Fs, S.grow s, rqb.mono h1 s⟩
    | false =>
      rw [if_neg (by decide)]
      exact h1 H' s
theorem t_or {a b : Expr} {rest : List Expr} {ca cb : E} {pos : Pos} (ha : PT X a (rdT W E0 T ca)) (hb : PW X (.BoolOp .Or (b :: rest) pos) (rdT W E0 T cb)) : PW X (.BoolOp .Or (a :: b :: rest) pos) (rdT W E0 T (.or ca cb)) :=
  (pw_or ha hb).imp fun σ H Q ⟨H0, O0, δ, Fs, S, q⟩ => by
    rw [evB_or] at q
    refine ⟨H0, O0, δ, Fs, S, rqb_bnd' (G := fun z => rqb W E0 H z Q) rqb_none (fun C h => h) q fun b h1 H' s => ?_⟩
    cases b with
    | false =>
      rw [if_neg (by decide)]
      exact ⟨H0, O0, δ, Fs, S.grow s, rqb.mono h1 s⟩
    | true =>
      rw [if_pos rfl]
      exact h1 H' s
theorem Ow.bl {W : Wd} {H : Hp} {O : Addr → Prop} {m : Md} {b : Bool} {v : V} {F : List Addr} (h : Ow W H O m (.bl b) v F) : v = .bl b := by
  cases m with
  | sh => exact h.2
  | dp => exact h.1
  | fl => exact h.2
theorem boolD_eq {d : D} {b : Bool} (h : boolD d = some b) : d = .bl b := by
  cases d <;> first | (cases h; rfl) | cases h
theorem c_one {a : Expr} {c : E} {op : BoolOp} {pos : Pos} (h : PE X a (rdE W E0 T c)) : PE X (.BoolOp op [a] pos) (rdE W E0 T c) := pe_one h
theorem c_and {a b : Expr} {rest : List Expr} {ca cb : E} {pos : Pos} (ha : PE X a (rdE W E0 T ca)) (hb : PE X (.BoolOp .And (b :: rest) pos) (rdE W E0 T cb)) : PE X (.BoolOp .And (a :: b :: rest) pos) (rdE W E0 T (.and ca cb)) :=
  (pe_and ha hb).imp fun σ H Q ⟨H0, O0, δ, Fs, S, q⟩ => by
    simp only [ev, nm] at q
    refine ⟨H0, O0, δ, Fs, S, rq_bnd' (G := fun z => rq W E0 H (av O0 Fs (nm ca ++ nm cb)) z Q) rq_none (fun C h => h) q fun p h1 => ?_⟩
    intro v H1 F1 s1 n1 nd1 ow1
    cases e : boolD p.2 with
    | none => rw [e] at h1; exact h1.elim
    | some k =>
      rw [e] at h1
      rw [boolD_eq e] at ow1
      refine ⟨k, ow1.bl, ?_⟩
      cases k with
      | false =>
        rw [if_neg (by decide)]
        exact Res.val (W := W) (Res.mono (W := W) h1 s1) rfl rfl
      | true =>
        rw [if_pos rfl]
        have h2 := rq.mono h1 s1
        refine ⟨H0, O0, δ, Fs, S.grow s1, ?_⟩
        revert h2
        cases ev T cb δ with
        | none => exact fun h => h
        | some r =>
          cases r with
          | er C => exact fun h => h
          | ok p2 => exact fun h => Res.wk (W := W) h (av_mono fun i hi => List.mem_append_right _ hi)
theorem c_or {a b : Expr} {rest : List Expr} {ca cb : E} {pos : Pos} (ha : PE X a (rdE W E0 T ca)) (hb : PE X (.BoolOp .Or (b :: rest) pos) (rdE W E0 T cb)) : PE X (.BoolOp .Or (a :: b :: rest) pos) (rdE W E0 T (.or ca cb)) :=
  (pe_or ha hb).imp fun σ H Q ⟨H0, O0, δ, Fs, S, q⟩ => by
    simp only [ev, nm] at q
    refine ⟨H0, O0, δ, Fs, S, rq_bnd' (G := fun z => rq W E0 H (av O0 Fs (nm ca ++ nm cb)) z Q) rq_none (fun C h => h) q fun p h1 => ?_⟩
    intro v H1 F1 s1 n1 nd1 ow1
    cases e : boolD p.2 with
    | none => rw [e] at h1; exact h1.elim
    | some k =>
      rw [e] at h1
      rw [boolD_eq e] at ow1
      refine ⟨k, ow1.bl, ?_⟩
      cases k with
      | true =>
        rw [if_pos rfl]
        exact Res.val (W := W) (Res.mono (W := W) h1 s1) rfl rfl
      | false =>
        rw [if_neg (by decide)]
        have h2 := rq.mono h1 s1
        refine ⟨H0, O0, δ, Fs, S.grow s1, ?_⟩
        revert h2
        cases ev T cb δ with
        | none => exact fun h => h
        | some r =>
          cases r with
          | er C => exact fun h => h
          | ok p2 => exact fun h => Res.wk (W := W) h (av_mono fun i hi => List.mem_append_right _ hi)
theorem c_not {a : Expr} {ca : E} {pos : Pos} (ha : PE X a (rdE W E0 T ca)) : PE X (.UnaryOp .Not a pos) (rdE W E0 T (.not ca)) :=
  (pe_not ha).imp fun σ H Q ⟨H0, O0, δ, Fs, S, q⟩ => by
    simp only [ev, nm] at q
    refine rd1 (r := fun x H1 Q => ∃ c, x = .bl c ∧ Q (.bl (!c)) H1) (g := fun d => (boolD d).map fun i => (.dp, .bl (!i))) S q fun H2 O x d res hO hd hg hq => ?_
    cases e : boolD d with
    | none => rw [e] at hg; cases hg
    | some i =>
      rw [e] at hg
      cases hg
      rw [boolD_eq e] at hd
      exact ⟨i, hd, hq.val rfl rfl⟩
theorem c_ite {c a b : Expr} {cc ca cb : E} {pos : Pos} (hc : PT X c (rdT W E0 T cc)) (ha : PE X a (rdE W E0 T ca)) (hb : PE X b (rdE W E0 T cb)) : PE X (.IfExp c a b pos) (rdE W E0 T (.ite cc ca cb)) :=
  (pe_ifExp hc ha hb).imp fun σ H Q ⟨H0, O0, δ, Fs, S, q⟩ => by
    rw [ev_ite] at q
    simp only [nm] at q
    refine ⟨H0, O0, δ, Fs, S, rqb_bnd' (G := fun z => rq W E0 H (av O0 Fs (nm cc ++ nm ca ++ nm cb)) z Q) rq_none (fun C h => h) q fun k h1 H' s => ?_⟩
    have h2 := rq.mono h1 s
    cases k with
    | true =>
      rw [if_pos rfl]
      refine ⟨H0, O0, δ, Fs, S.grow s, ?_⟩
      rw [if_pos rfl] at h2
      revert h2
      cases ev T ca δ with
      | none => exact fun h => h
      | some r =>
        cases r with
        | er C => exact fun h => h
        | ok p2 => exact fun h => Res.wk (W := W) h (av_mono fun i hi => by simp [hi])
    | false =>
      rw [if_neg (by decide)]
      refine ⟨H0, O0, δ, Fs, S.grow s, ?_⟩
      rw [if_neg (by decide)] at h2
      revert h2
      cases ev T cb δ with
      | none => exact fun h => h
      | some r =>
        cases r with
        | er C => exact fun h => h
        | ok p2 => exact fun h => Res.wk (W := W) h (av_mono fun i hi => by simp [hi])

theorem a_nil : PA X [] (rdA W E0 T []) := pa_nil.imp fun σ H Q ⟨H0, O0, δ, Fs, S, q⟩ => by
  simp only [evs] at q
  exact q [] H [] (Same.refl H) (fun _ z => by cases z) List.nodup_nil ⟨rfl, rfl⟩
theorem a_cons {e : Expr} {es : List Expr} {c : E} {cs : List E} (he : PE X e (rdE W E0 T c)) (hs : PA X es (rdA W E0 T cs)) (hst : starEach (e :: es) X.env = (false, eval e X.env) :: starEach es X.env := by rfl) : PA X (e :: es) (rdA W E0 T (c :: cs)) :=
  (pa_cons he hs hst).imp fun σ H Q ⟨H0, O0, δ, Fs, S, q⟩ => by
    simp only [evs, nms] at q
    refine ⟨H0, O0, δ, Fs, S, rq_bnd' (G := fun z => rqs W E0 H (av O0 Fs (nm c ++ nms cs)) z Q) rqs_none (fun C h => h) q fun p h1 => ?_⟩
    intro v1 H1 F1 s1 n1 nd1 ow1
    have t1 : ∀ a ∈ F1, H1 a ≠ none := fun a ha z => by
      obtain ⟨o, e, _⟩ := ow1.there a ha
      rw [z] at e
      cases e
    have S1 := S.more s1 n1 t1
    refine ⟨H0, _, δ, Fs, S1, rqs_bnd' (G := fun z => rqs W E0 H (av O0 Fs (nm c ++ nms cs)) z Q) rqs_none (fun C h H' s => h H' (s1.trans s)) h1 fun ps h2 => ?_⟩
    intro vs H2 Fs2 s2 n2 nd2 ow2
    refine h2 (v1 :: vs) H2 (F1 :: Fs2) (s1.trans s2) (fun a ha => ?_) (List.nodup_append.mpr ⟨nd1, nd2, fun a ha b hb e => ?_⟩) ⟨v1, vs, F1, Fs2, rfl, rfl, ?_, ?_⟩
    · rcases List.mem_append.mp (show a ∈ F1 ++ Fs2.flatten from ha) with ha | ha
      · exact n1 a ha
      · exact s1.free (n2 a ha)
    · subst e
      exact t1 a ha (n2 a hb)
    · refine (ow1.off fun a z => ?_).mono s2 fun _ z => z
      rcases z with z | z
      · exact .inl (.inl (av_mono (fun i hi => List.mem_append_left _ hi) a z))
      · rcases List.mem_append.mp (show a ∈ F1 ++ Fs2.flatten from z) with z | z
        · exact .inl (.inr z)
        · exact .inr (n2 a z)
    · refine ow2.mono (Same.refl H2) fun a z => ?_
      rcases z with z | z
      · rcases z with z | ⟨i, n, z⟩
        · exact .inl (.inl (.inl z))
        · exact .inl (.inr ⟨i, fun q => n (List.mem_append_right _ q), z⟩)
      · rcases List.mem_append.mp (show a ∈ F1 ++ Fs2.flatten from z) with z | z
        · exact .inl (.inl (.inr z))
        · exact .inr z
theorem evs_len : ∀ {cs : List E} {δ : Dn} {ps : List (Md × D)}, evs T cs δ = some (.ok ps) → ps.length = cs.length
  | [], δ, ps, h => by
    simp only [evs] at h
    cases h
    rfl
  | c :: cs, δ, ps, h => by
    simp only [evs] at h
    cases e : ev T c δ with
    | none => rw [e] at h; cases h
    | some r =>
      cases r with
      | er C => rw [e] at h; cases h
      | ok p =>
        rw [e] at h
        have h : bnd (evs T cs δ) (fun ps => ok (p :: ps)) = some (.ok ps) := h
        cases e2 : evs T cs δ with
        | none => rw [e2] at h; cases h
        | some r2 =>
          cases r2 with
          | er C => rw [e2] at h; cases h
          | ok qs =>
            rw [e2] at h
            cases h
            rw [List.length_cons, List.length_cons, evs_len e2]
theorem len_ok {n : Nat} (h : Nat.ble n 1000 = true) : n ≤ sizeLine := Nat.le_trans (Nat.le_of_ble_eq_true h) (by decide)
theorem c_tup {es : List Expr} {cs : List E} {x1} {pos : Pos} (h : PA X es (rdA W E0 T cs)) (hl : Nat.ble cs.length 1000 = true := by rfl) : PE X (.Tuple es x1 pos) (rdE W E0 T (.tup cs)) :=
  (pe_tup h).imp fun σ H Q ⟨H0, O0, δ, Fs, S, q⟩ => by
    simp only [ev, nm] at q
    refine ⟨H0, O0, δ, Fs, S, rqs_bnd2 (G := fun z => rq W E0 H (av O0 Fs (nms cs)) z Q) rq_none (fun C h => h) q fun ps e h1 vs H1 Fs1 s1 n1 nd1 ow1 => ?_⟩
    have hl2 : vs.length ≤ sizeLine := by
      rw [ow1.length, evs_len e]
      exact len_ok hl
    exact ⟨hl2, fun p np => Res.tup (W := W) h1 s1 S.av_there n1 nd1 ow1 (fun _ z => z) hl2 np⟩
theorem c_lst {es : List Expr} {cs : List E} {pos : Pos} (h : PA X es (rdA W E0 T cs)) (hl : Nat.ble cs.length 1000 = true := by rfl) : PE X (.List es pos) (rdE W E0 T (.lst cs)) :=
  (pe_lst h).imp fun σ H Q ⟨H0, O0, δ, Fs, S, q⟩ => by
    simp only [ev, nm] at q
    refine ⟨H0, O0, δ, Fs, S, rqs_bnd2 (G := fun z => rq W E0 H (av O0 Fs (nms cs)) z Q) rq_none (fun C h => h) q fun ps e h1 vs H1 Fs1 s1 n1 nd1 ow1 => ?_⟩
    have hl2 : vs.length ≤ sizeLine := by
      rw [ow1.length, evs_len e]
      exact len_ok hl
    exact ⟨hl2, fun p np => Res.box (W := W) h1 s1 S.av_there n1 nd1 ow1 (fun _ z => z) hl2 np⟩
end
end TW

set_option Elab.async false
set_option linter.all false
set_option maxRecDepth 100000
set_option maxHeartbeats 4000000
namespace TW
open PySem PySem.Spec PyProof.Rows L2

section
variable {W : Wd} {H : Hp} {O : Addr → Prop}
theorem Rps.get : ∀ {ds : List D} {vs : List V} {j : Nat} {d : D}, Rps W H O ds vs → ds[j]? = some d → ∃ v, vs[j]? = some v ∧ Rp W H O d v
  | [], _, _, _, _, e => by simp at e
  | d :: ds, vs, 0, d', h, e => by
    obtain ⟨v, r, rfl, h1, h2⟩ := h
    simp at e
    subst e
    exact ⟨v, rfl, h1⟩
  | d :: ds, vs, j + 1, d', h, e => by
    obtain ⟨v, r, rfl, h1, h2⟩ := h
    simp at e
    obtain ⟨v', e1, e2⟩ := Rps.get h2 e
    exact ⟨v', by simpa using e1, e2⟩
theorem Rps.at {ds : List D} {vs : List V} {i : Int} {d : D} (h : Rps W H O ds vs) (e : atI ds i = some d) : ∃ v, atI vs i = some v ∧ Rp W H O d v := by
  unfold atI at e ⊢
  rw [Rps.length _ _ h]
  cases q : ixN ds.length i with
  | none => rw [q] at e; cases e
  | some j =>
    rw [q] at e
    obtain ⟨v, h1, h2⟩ := h.get (j := j) e
    exact ⟨v, by simpa using h1, h2⟩
theorem Rps.drop : ∀ {ds : List D} {vs : List V} (n : Nat), Rps W H O ds vs → Rps W H O (ds.drop n) (vs.drop n)
  | _, _, 0, h => h
  | [], vs, n + 1, h => by rw [show vs = [] from h]; rfl
  | d :: ds, vs, n + 1, h => by
    obtain ⟨v, r, rfl, h1, h2⟩ := h
    exact Rps.drop n h2
theorem Rps.take : ∀ {ds : List D} {vs : List V} (n : Nat), Rps W H O ds vs → Rps W H O (ds.take n) (vs.take n)
  | _, _, 0, _ => by simp [Rps]
  | [], vs, n + 1, h => by rw [show vs = [] from h]; rfl
  | d :: ds, vs, n + 1, h => by
    obtain ⟨v, r, rfl, h1, h2⟩ := h
    exact ⟨v, r.take n, rfl, h1, Rps.take n h2⟩
theorem Rps.cut {ds : List D} {vs : List V} (lo hi : Option Int) (h : Rps W H O ds vs) : Rps W H O (cutL ds lo hi) (cutV vs lo hi) := by
  unfold cutL cutV
  rw [Rps.length _ _ h]
  exact (h.drop _).take _
theorem Rps.reverse : ∀ {ds : List D} {vs : List V}, Rps W H O ds vs → Rps W H O ds.reverse vs.reverse
  | [], vs, h => by rw [show vs = [] from h]; rfl
  | d :: ds, vs, h => by
    obtain ⟨v, r, rfl, h1, h2⟩ := h
    rw [List.reverse_cons, List.reverse_cons]
    exact (Rps.reverse h2).append ⟨v, [], rfl, h1, rfl⟩
theorem cutV_len (vs : List V) (lo hi : Option Int) : (cutV vs lo hi).length ≤ vs.length := by
  unfold cutV
  rw [List.length_take, List.length_drop]
  omega
theorem Rps.ints : ∀ ns : List Int, Rps W H O (eI ns) (ns.map V.int)
  | [] => rfl
  | n :: r => ⟨.int n, r.map V.int, rfl, rfl, Rps.ints r⟩
theorem Rps.ints_eq : ∀ {ns : List Int} {vs : List V}, Rps W H O (eI ns) vs → vs = ns.map V.int
  | [], vs, h => h
  | n :: r, vs, h => by
    obtain ⟨v, r', rfl, h1, h2⟩ := h
    rw [show v = .int n from h1, Rps.ints_eq (ns := r) h2]
    rfl
theorem Dqs.ints : ∀ ns : List Int, Dqs W H (eI ns) (ns.map V.int) []
  | [] => ⟨rfl, rfl⟩
  | n :: r => ⟨.int n, r.map V.int, [], [], rfl, rfl, ⟨rfl, rfl⟩, Dqs.ints r⟩
theorem cutV_ints (ns : List Int) (lo hi : Option Int) : cutV (ns.map V.int) lo hi = (cutL ns lo hi).map V.int := by
  unfold cutV cutL
  rw [List.length_map, List.map_take, List.map_drop]
theorem lfrees_ints : ∀ ns : List Int, lfrees (eI ns) = true
  | [] => rfl
  | n :: r => lfrees_ints r
theorem lfrees_prs : ∀ ps : List (Int × Int), lfrees (ps.map eP) = true
  | [] => rfl
  | n :: r => lfrees_prs r
theorem Res.deep {Q : VK} {ds : List D} {vs : List V} {p : Addr} (h : Res W H O .dp (.lst ds) Q) (n : H p = none) (hl : vs.length ≤ sizeLine) (r : Rps W H O ds vs) (l : lfrees ds = true) : Q (.ref p) (L2.upd H p (.lst vs)) := by
  have s := same_new (o := .lst vs) n
  refine h _ _ [p] s (fun a ha => by rw [List.mem_singleton.mp ha]; exact n) (by simp) ⟨p, vs, [], rfl, rfl, upd_same, hl, Dqs.mono s _ _ _ (Rps.dq _ _ r l)⟩
theorem Rp.lst_at {d : D} {ds : List D} {v : V} (e : listD d = some ds) (h : Rp W H O d v) : ∃ a vs, v = .ref a ∧ SqL W.K H a vs ∧ Rps W H O ds vs ∧ vs.length ≤ sizeLine := by
  cases d with
  | lst xs =>
    cases e
    obtain ⟨a, vs, rfl, _, h1, h2, h3⟩ := h
    exact ⟨a, vs, rfl, .inl (.inl h1), h3, h2⟩
  | scr ns =>
    cases e
    obtain ⟨a, rfl, h1, h2⟩ := h
    exact ⟨a, _, rfl, h1.sq, Rps.ints ns, by simpa using h2⟩
  | _ => cases e
theorem intsD_eq : ∀ {ds : List D} {ns : List Int}, intsD ds = some ns → ds = eI ns
  | [], ns, h => by cases h; rfl
  | .int i :: ds, ns, h => by
    simp only [intsD] at h
    cases e : intsD ds with
    | none => rw [e] at h; cases h
    | some r =>
      rw [e] at h
      cases h
      rw [intsD_eq e]
      rfl
  | .non :: ds, ns, h => by cases h
  | .bl _ :: ds, ns, h => by cases h
  | .str _ :: ds, ns, h => by cases h
  | .fn _ :: ds, ns, h => by cases h
  | .tup _ :: ds, ns, h => by cases h
  | .lst _ :: ds, ns, h => by cases h
  | .scr _ :: ds, ns, h => by cases h
  | .dic _ :: ds, ns, h => by cases h
  | .ins _ _ _ :: ds, ns, h => by cases h
  | .exc _ :: ds, ns, h => by cases h
theorem blsD_eq : ∀ {ds : List D} {ns : List Bool}, blsD ds = some ns → ds = ns.map D.bl
  | [], ns, h => by cases h; rfl
  | .bl i :: ds, ns, h => by
    simp only [blsD] at h
    cases e : blsD ds with
    | none => rw [e] at h; cases h
    | some r =>
      rw [e] at h
      cases h
      rw [blsD_eq e]
      rfl
  | .non :: ds, ns, h => by cases h
  | .int _ :: ds, ns, h => by cases h
  | .str _ :: ds, ns, h => by cases h
  | .fn _ :: ds, ns, h => by cases h
  | .tup _ :: ds, ns, h => by cases h
  | .lst _ :: ds, ns, h => by cases h
  | .scr _ :: ds, ns, h => by cases h
  | .dic _ :: ds, ns, h => by cases h
  | .ins _ _ _ :: ds, ns, h => by cases h
  | .exc _ :: ds, ns, h => by cases h
theorem Rps.bls_eq : ∀ {ns : List Bool} {vs : List V}, Rps W H O (ns.map D.bl) vs → vs = ns.map V.bl
  | [], vs, h => h
  | n :: r, vs, h => by
    obtain ⟨v, r', rfl, h1, h2⟩ := h
    rw [show v = .bl n from h1, Rps.bls_eq (ns := r) h2]
    rfl
end

section
variable {W : Wd} {E0 : XK} {T : Tb} {X : Cx}
theorem c_sub {a b : Expr} {ca cb : E} {pos : Pos} (hK : X.K = W.K) (ha : PE X a (rdE W E0 T ca)) (hb : PE X b (rdE W E0 T cb)) (hs : PlainIx b := by exact fun _ _ => rfl) : PE X (.Subscript a b pos) (rdE W E0 T (.sub ca cb)) :=
  (pe_ix ix_seq ha hb hs).imp fun σ H Q ⟨H0, O0, δ, Fs, S, q⟩ => by
    simp only [ev, nm] at q
    refine rd2 (g := fun d e => (subD d e).map fun d => (.sh, d)) (r := rIx X.K) S (fun i h => List.mem_append_left _ h) (fun i h => List.mem_append_right _ h) q fun H2 O x y d e res hO hd he hg hq => ?_
    cases hs : subD d e with
    | none => rw [hs] at hg; cases hg
    | some d' =>
      rw [hs] at hg
      cases hg
      cases e with
      | int i =>
        have he : y = .int i := he
        cases d with
        | lst ds =>
          obtain ⟨p, vs, rfl, _, h1, h2, h3⟩ := hd
          obtain ⟨v, e1, r1⟩ := h3.at (show atI ds i = some d' from hs)
          exact .inl ⟨p, vs, i, v, rfl, he, .inl (.inl h1), e1, hq.share (Same.refl _) r1⟩
        | tup ds =>
          obtain ⟨p, vs, rfl, h1, h2, h3⟩ := hd
          obtain ⟨v, e1, r1⟩ := h3.at (show atI ds i = some d' from hs)
          exact .inr (.inl ⟨p, vs, i, v, rfl, he, .inl (.inl h1), e1, hq.share (Same.refl _) r1⟩)
        | scr ns =>
          obtain ⟨p, rfl, h1, h2⟩ := hd
          have hs : (atI ns i).map D.int = some d' := hs
          cases e2 : atI ns i with
          | none => rw [e2] at hs; cases hs
          | some n =>
            rw [e2] at hs
            cases hs
            refine .inl ⟨p, ns.map V.int, i, .int n, rfl, he, by rw [hK]; exact h1.sq, ?_, hq.share (Same.refl _) rfl⟩
            unfold atI at e2 ⊢
            rw [List.length_map]
            cases q : ixN ns.length i with
            | none => rw [q] at e2; cases e2
            | some j =>
              rw [q] at e2
              show (ns.map V.int)[j]? = _
              rw [List.getElem?_map, show ns[j]? = some n from e2]
              rfl
        | _ => cases hs
      | _ => cases d <;> cases hs
def rdO (W : Wd) (E0 : XK) (T : Tb) (p : Bool) (c : E) : TO := fun σ H Q => ∃ H0 O0 δ Fs, SS W H0 O0 H σ δ Fs ∧ match ev T c δ with
  | none => False
  | some (.er C) => ∀ H', Same H H' → E0 (.ref (W.ca C)) none H'
  | some (.ok q) => match optI p q.2 with
    | none => False
    | some o => ∀ H', Same H H' → Q o H'
theorem _root_.L2.PO.imp {X : Cx} {e : Option Expr} {t t' : TO} (h : PO X e t) (k : ∀ σ H Q, t' σ H Q → t σ H Q) : PO X e t' := ⟨fun pins s σ H Q I q => h.run pins s σ H Q I (k σ H Q q)⟩
theorem o_no : PO X none (rdO W E0 T false (.lit .non)) := po_none.imp fun σ H Q ⟨H0, O0, δ, Fs, S, q⟩ => by
  simp only [ev] at q
  exact q H (Same.refl H)
theorem o_so {e : Expr} {c : E} (h : PE X e (rdE W E0 T c)) : PO X (some e) (rdO W E0 T true c) := (po_some h).imp fun σ H Q ⟨H0, O0, δ, Fs, S, q⟩ => by
  refine ⟨H0, O0, δ, Fs, S, ?_⟩
  revert q
  cases ev T c δ with
  | none => exact fun h => h
  | some r =>
    cases r with
    | er C => exact fun h => h
    | ok p =>
      intro q v H1 F s n nd ow
      have q : (match (intD p.2).map some with | none => False | some o => ∀ H', Same H H' → Q o H') := q
      cases e : intD p.2 with
      | none => rw [e] at q; exact q.elim
      | some i =>
        rw [e] at q
        have r := ow.rpv (O1 := fun _ => False) (fun _ z => z.elim) (fun _ z => z.elim) n
        rw [intD_eq e] at r
        exact ⟨i, r, q H1 s⟩
theorem c_slc {a : Expr} {lo hi : Option Expr} {ca cl ch : E} {pl ph : Bool} {p2 pos : Pos} (hK : X.K = W.K) (ha : PE X a (rdE W E0 T ca)) (hl : PO X lo (rdO W E0 T pl cl)) (hh : PO X hi (rdO W E0 T ph ch)) : PE X (.Subscript a (.Slice lo hi none p2) pos) (rdE W E0 T (.slc pl ph ca cl ch)) :=
  (pe_slice sl_list ha hl hh).imp fun σ H Q ⟨H0, O0, δ, Fs, S, q⟩ => by
    simp only [ev, nm] at q
    have ia : ∀ i ∈ nm ca, i ∈ nm ca ++ nm cl ++ nm ch := fun i h => by simp [h]
    refine ⟨H0, O0, δ, Fs, S, rq_bnd' (G := fun z => rq W E0 H (av O0 Fs (nm ca ++ nm cl ++ nm ch)) z Q) rq_none (fun C h => h) q fun p h1 => ?_⟩
    intro v1 H1 F1 s1 n1 nd1 ow1
    have S1 := S.grow s1
    have h1 := rq.mono h1 s1
    refine ⟨H0, O0, δ, Fs, S1, ?_⟩
    revert h1
    cases ev T cl δ with
    | none => exact fun h => h
    | some r =>
      cases r with
      | er C => exact fun h => h
      | ok q2 =>
        intro h1
        have h1 : rq W E0 H1 _ (match optI pl q2.2 with | none => none | some l => bnd (ev T ch δ) fun r => match optI ph r.2 with | none => none | some h => lift (slcD p.2 l h)) Q := h1
        show match optI pl q2.2 with | none => False | some o => _
        generalize optI pl q2.2 = o1 at h1 ⊢
        cases o1 with
        | none => exact h1
        | some l =>
          intro H2 s2
          have S2 := S1.grow s2
          have h2 := rq.mono h1 s2
          refine ⟨H0, O0, δ, Fs, S2, ?_⟩
          revert h2
          cases ev T ch δ with
          | none => exact fun h => h
          | some r =>
            cases r with
            | er C => exact fun h => h
            | ok q3 =>
              intro h2
              have h2 : rq W E0 H2 _ (match optI ph q3.2 with | none => none | some h => lift (slcD p.2 l h)) Q := h2
              show match optI ph q3.2 with | none => False | some o => _
              generalize optI ph q3.2 = o2 at h2 ⊢
              cases o2 with
              | none => exact h2
              | some h =>
                intro H3 s3
                have h3 := rq.mono h2 s3
                have S3 := S2.grow s3
                have r1 := Rp.mono (s2.trans s3) (fun _ z => z) _ _ (ow1.rpv (av_mono ia) S.av_there n1)
                cases hp : p.2 with
                | lst ds =>
                  rw [hp] at h3 r1
                  obtain ⟨a, vs, rfl, _, g1, g2, g3⟩ := r1
                  exact ⟨a, vs, rfl, .inl (.inl g1), fun p np => Res.flat (W := W) h3 np S3.av_there (Nat.le_trans (cutV_len _ _ _) g2) (g3.cut l h)⟩
                | scr ns =>
                  rw [hp] at h3 r1
                  obtain ⟨a, rfl, g1, g2⟩ := r1
                  refine ⟨a, ns.map V.int, rfl, by rw [hK]; exact g1.sq, fun p np => ?_⟩
                  rw [cutV_ints]
                  refine Res.deep (W := W) h3 np ?_ (Rps.ints _) (lfrees_ints _)
                  have := cutV_len (ns.map V.int) l h
                  rw [cutV_ints, List.length_map, List.length_map] at this
                  rw [List.length_map]
                  omega
                | _ => rw [hp] at h3; exact h3.elim
def rB (W : Wd) (g : List D → Option (Md × D)) : List V → Hp → VK → Prop := fun vs H Q => ∃ O ds res, (∀ a, O a → H a ≠ none) ∧ Rps W H O ds vs ∧ g ds = some res ∧ Res W H O res.1 res.2 Q
theorem _root_.L2.CallR.imp {X : Cx} {f : Value} {r r' : List V → Hp → VK → Prop} (h : CallR X f r) (k : ∀ vs H Q, r' vs H Q → r vs H Q) : CallR X f r' := fun pins s σ H xs us Q I rx q => h pins s σ H xs us Q I rx (k xs H Q q)
theorem rdA_B {cs : List E} {g : List D → Option (Md × D)} {σ : L2.St} {H : Hp} {Q : VK} {H0 : Hp} {O0 : Addr → Prop} {δ : Dn} {Fs : List (List Addr)} (S : SS W H0 O0 H σ δ Fs) (q : rq W E0 H (av O0 Fs (nms cs)) (bnd (evs T cs δ) fun ps => lift (g (ps.map Prod.snd))) Q) :
    rdA W E0 T cs σ H (fun vs H1 => rB W g vs H1 Q) := by
  refine ⟨H0, O0, δ, Fs, S, rqs_bnd' (G := fun z => rq W E0 H (av O0 Fs (nms cs)) z Q) rq_none (fun C h => h) q fun ps h1 vs H1 Fs1 s1 n1 nd1 ow1 => ?_⟩
  cases e : g (ps.map Prod.snd) with
  | none => rw [e] at h1; exact h1.elim
  | some res =>
    rw [e] at h1
    exact ⟨av O0 Fs (nms cs), _, res, (S.grow s1).av_there, ow1.rps (fun a z => .inl z) fun a ha z => S.av_there a z (n1 a ha), e, Res.mono (W := W) h1 s1⟩
theorem c_bi {x : Str} {id : String} {p pos : Pos} {e : Expr} {es : List Expr} {cs : List E} {b : Bi} (hc : CallR X (.builtin id) (rB W (biD b))) (hg : Gl X x) (hm : X.mg x = none) (hv : bootBuiltins x = some (.builtin id)) (ha : PA X (e :: es) (rdA W E0 T cs))
    (hn : x ≠ "__name__" := by decide) (hdb : (x == ("__debug__" : Str)) = false := by decide) (he : starEach (e :: es) X.env = (false, eval e X.env) :: starEach es X.env := by rfl) (hpl : (backTo pos (starEach es X.env)).any (·.1) = false := by rfl) :
    PE X (.Call (.Name x p) (e :: es) [] pos) (rdE W E0 T (.bi b cs)) :=
  (pe_callB hc hg hm hv ha hn hdb he hpl).imp fun σ H Q ⟨H0, O0, δ, Fs, S, q⟩ => by
    simp only [ev, nm] at q
    exact rdA_B S q
theorem c_biT {x : Str} {T' : String} {p pos : Pos} {e : Expr} {es : List Expr} {cs : List E} {b : Bi} (hc : CallR X (.type T') (rB W (biD b))) (hg : Gl X x) (hm : X.mg x = none) (hv : bootBuiltins x = some (.type T')) (ha : PA X (e :: es) (rdA W E0 T cs))
    (hn : x ≠ "__name__" := by decide) (hdb : (x == ("__debug__" : Str)) = false := by decide) (he : starEach (e :: es) X.env = (false, eval e X.env) :: starEach es X.env := by rfl) (hpl : (backTo pos (starEach es X.env)).any (·.1) = false := by rfl) :
    PE X (.Call (.Name x p) (e :: es) [] pos) (rdE W E0 T (.bi b cs)) :=
  (pe_callTy hc hg hm hv ha hn hdb he hpl).imp fun σ H Q ⟨H0, O0, δ, Fs, S, q⟩ => by
    simp only [ev, nm] at q
    exact rdA_B S q
theorem Rps.one {H : Hp} {O : Addr → Prop} {d : D} {vs : List V} (h : Rps W H O [d] vs) : ∃ v, vs = [v] ∧ Rp W H O d v := by
  obtain ⟨v, r, rfl, h1, h2⟩ := h
  rw [show r = [] from h2]
  exact ⟨v, rfl, h1⟩
theorem Rps.two {H : Hp} {O : Addr → Prop} {d e : D} {vs : List V} (h : Rps W H O [d, e] vs) : ∃ v w, vs = [v, w] ∧ Rp W H O d v ∧ Rp W H O e w := by
  obtain ⟨v, r, rfl, h1, w, r2, rfl, h3, h4⟩ := h
  rw [show r2 = [] from h4]
  exact ⟨v, w, rfl, h1, h3⟩
theorem b_len (hK : X.K = W.K) : CallR X (.builtin "len") (rB W (biD .len)) := call_len.imp fun vs H Q ⟨O, ds, res, hO, hr, hg, hq⟩ => by
  match ds, hg, hr with
  | [.lst xs], hg, hr =>
    cases hg
    obtain ⟨v, rfl, hv⟩ := hr.one
    obtain ⟨a, vs, rfl, _, h1, h2, h3⟩ := hv
    exact ⟨_, _, rfl, .inl ⟨vs, .inl (.inl h1), rfl⟩, by rw [Rps.length _ _ h3]; exact hq.val rfl rfl⟩
  | [.tup xs], hg, hr =>
    cases hg
    obtain ⟨v, rfl, hv⟩ := hr.one
    obtain ⟨a, vs, rfl, h1, h2, h3⟩ := hv
    exact ⟨_, _, rfl, .inr ⟨vs, .inl (.inl h1), rfl⟩, by rw [Rps.length _ _ h3]; exact hq.val rfl rfl⟩
  | [.scr xs], hg, hr =>
    cases hg
    obtain ⟨v, rfl, hv⟩ := hr.one
    obtain ⟨a, rfl, h1, h2⟩ := hv
    exact ⟨_, _, rfl, .inl ⟨_, by rw [hK]; exact h1.sq, rfl⟩, by rw [List.length_map]; exact hq.val rfl rfl⟩
theorem b_sum (hK : X.K = W.K) (hc : X.calm = true) : CallR X (.builtin "sum") (rB W (biD .sum)) := (cr_sum hc).imp fun vs H Q ⟨O, ds, res, hO, hr, hg, hq⟩ => by
  match ds, hg, hr with
  | [d], hg, hr =>
    have hg : ((listD d).bind intsD).map (fun ns => (Md.dp, D.int ns.sum)) = some res := hg
    cases e : listD d with
    | none => rw [e] at hg; cases hg
    | some xs =>
      rw [e] at hg
      have hg : (intsD xs).map (fun ns => (Md.dp, D.int ns.sum)) = some res := hg
      cases e2 : intsD xs with
      | none => rw [e2] at hg; cases hg
      | some ns =>
        rw [e2] at hg
        cases hg
        obtain ⟨v, rfl, hv⟩ := hr.one
        obtain ⟨a, vs, rfl, h1, h2, h3⟩ := hv.lst_at e
        rw [intsD_eq e2] at h2
        rw [Rps.ints_eq h2] at h1
        exact ⟨a, ns, rfl, by rw [hK]; exact h1, hq.val rfl rfl⟩
theorem b_all (hK : X.K = W.K) (hc : X.calm = true) : CallR X (.builtin "all") (rB W (biD .all)) := (cr_all hc).imp fun vs H Q ⟨O, ds, res, hO, hr, hg, hq⟩ => by
  match ds, hg, hr with
  | [.lst xs], hg, hr =>
    have hg : (blsD xs).map (fun bs => (Md.dp, D.bl (bs.all id))) = some res := hg
    cases e2 : blsD xs with
    | none => rw [e2] at hg; cases hg
    | some bs =>
      rw [e2] at hg
      cases hg
      obtain ⟨v, rfl, hv⟩ := hr.one
      obtain ⟨a, vs, rfl, _, h1, h2, h3⟩ := hv
      rw [blsD_eq e2] at h3
      rw [Rps.bls_eq h3] at h1
      exact ⟨a, bs, rfl, .inl (.inl h1), hq.val rfl rfl⟩
theorem b_any (hK : X.K = W.K) (hc : X.calm = true) : CallR X (.builtin "any") (rB W (biD .any)) := (cr_any hc).imp fun vs H Q ⟨O, ds, res, hO, hr, hg, hq⟩ => by
  match ds, hg, hr with
  | [.lst xs], hg, hr =>
    have hg : (blsD xs).map (fun bs => (Md.dp, D.bl (bs.any id))) = some res := hg
    cases e2 : blsD xs with
    | none => rw [e2] at hg; cases hg
    | some bs =>
      rw [e2] at hg
      cases hg
      obtain ⟨v, rfl, hv⟩ := hr.one
      obtain ⟨a, vs, rfl, _, h1, h2, h3⟩ := hv
      rw [blsD_eq e2] at h3
      rw [Rps.bls_eq h3] at h1
      exact ⟨a, bs, rfl, .inl (.inl h1), hq.val rfl rfl⟩
theorem b_list : CallR X (.type "list") (rB W (biD .list)) := call_list_of.imp fun vs H Q ⟨O, ds, res, hO, hr, hg, hq⟩ => by
  match ds, hg, hr with
  | [.lst xs], hg, hr =>
    cases hg
    obtain ⟨v, rfl, hv⟩ := hr.one
    obtain ⟨a, vs, rfl, _, h1, h2, h3⟩ := hv
    exact ⟨a, vs, rfl, .inl (.inl (.inl h1)), fun l nl => hq.flat nl hO h2 h3⟩
  | [.tup xs], hg, hr =>
    cases hg
    obtain ⟨v, rfl, hv⟩ := hr.one
    obtain ⟨a, vs, rfl, h1, h2, h3⟩ := hv
    exact ⟨a, vs, rfl, .inr (.inl (.inl h1)), fun l nl => hq.flat nl hO h2 h3⟩
end
end TW

set_option Elab.async false
set_option linter.all false
set_option maxRecDepth 100000
set_option maxHeartbeats 4000000
namespace TW
open PySem PySem.Spec PyProof.Rows L2
abbrev RowAt (K : PySem.W.Frag) (H : Hp) (b : V × List Int) : Prop := ∃ t, b.1 = V.ref t ∧ SqL K H t (b.2.map V.int)
def rSortRows (K : PySem.W.Frag) : List V → Hp → VK → Prop := fun vs H Q => ∃ (a : Addr) (bs : List (V × List Int)), vs = [V.ref a] ∧ SqL K H a (bs.map Prod.fst) ∧ (∀ b ∈ bs, RowAt K H b) ∧
  ∀ (cs : List (V × List Int)) (p : Addr), cs = bs.mergeSort (fun x y => decide (x.2 ≤ y.2)) → H p = none → Q (.ref p) (upd H p (.lst (cs.map Prod.fst)))
theorem reads_ints {h : Heap} : ∀ {ns : List Int} {us : List Value}, Vals (ns.map V.int) us → ∃ as, ReadsAll h us (ns.map PyData.int) as
  | [], us, r => by
    cases r
    exact ⟨[], .nil⟩
  | n :: ns, us, r => by
    cases r with
    | cons r1 r2 =>
      obtain ⟨t, rfl⟩ := r1
      obtain ⟨as, q⟩ := reads_ints (h := h) r2
      exact ⟨[] ++ as, .cons (.int n t) q⟩
theorem each_of {R : Value → (V × List Int) → Prop} : ∀ {bs : List (V × List Int)} {us : List Value}, Vals (bs.map Prod.fst) us → (∀ b u, b ∈ bs → RelV b.1 u → R u b) → PySem.W.EachIs R us bs
  | [], us, r, _ => by
    cases r
    exact .nil
  | b :: bs, us, r, k => by
    cases r with
    | cons r1 r2 => exact .cons (k b _ List.mem_cons_self r1) (each_of r2 fun c u hc => k c u (List.mem_cons_of_mem _ hc))
theorem vals_each : ∀ {cs : List (V × List Int)} {us : List Value}, PySem.W.EachIs (fun u (b : V × List Int) => RelV b.1 u) us cs → Vals (cs.map Prod.fst) us
  | _, _, .nil => .nil
  | _, _, .cons h k => .cons h (vals_each k)
section
variable {X : Cx}
theorem cr_sortRows (hu : X.A.units + 64 < cLine) : CallR X (.builtin "sorted") (rSortRows X.K) := by
  intro pins s σ H vs us Q I r h
  obtain ⟨a, bs, rfl, hs, hb, q⟩ := h
  obtain ⟨its, rv, hl, hz⟩ := I.list hs
  rw [Vals.ref1 r]
  have e : PySem.W.EachIs (fun u (b : V × List Int) => RelV b.1 u) its bs := each_of rv fun b u _ z => z
  have er : PySem.W.EachIs (fun u (b : V × List Int) => ∃ as, Reads s.heap u (PyData.list (b.2.map PyData.int)) as) its bs := each_of rv fun b u hm z => by
    obtain ⟨t, e1, ht⟩ := hb b hm
    rw [e1] at z
    have z : u = Value.ref t := z
    subst z
    obtain ⟨its2, r2, hl2, _⟩ := I.list ht
    obtain ⟨as, q2⟩ := reads_ints (h := s.heap) r2
    obtain ⟨o, ho, hc, n, hd⟩ := hl2.isList
    exact ⟨t :: as, .list ho hc hd (by simpa using q2)⟩
  have hlen : bs.length ≤ sizeLine := by
    have := hz
    rw [List.length_map] at this
    exact this
  refine PySem.W.sorted_data (enc := fun b : V × List Int => PyData.list (b.2.map PyData.int)) hl.isList e er (PySem.W.AllAlike.of fun b b' => ?_) (PySem.W.Sortable.others fun b => ⟨fun z => (by cases z), fun xs z => (by cases z)⟩) hlen (fun b _ => ?_) fun out ol oe => ?_
  · simp [PySem.W.alike, PySem.W.alike_ints]
  · have : PyData.depth (PyData.list (b.2.map PyData.int)) = 1 := by
      rw [PyData.depth, PySem.W.depth_ints]
    rw [this]
    omega
  · rw [PySem.W.dataLe_rows (fun b : V × List Int => b.2)] at oe
    have hn : H (s.heap.objs.size + 1) = none := I.hok.fresh (Nat.le_succ _)
    have hvo := vals_each oe
    obtain ⟨n, hget⟩ := sortedAll_at s.heap its out.toArray
    refine ⟨.ref (s.heap.objs.size + 1), upd H (s.heap.objs.size + 1) (.lst ((bs.mergeSort fun x y => decide (x.2 ≤ y.2)).map Prod.fst)), I.laid (t' := s.toks) (fun b o e => sortedAll_old e) (Nat.le_succ _) ⟨?_, out, n, hvo, hget⟩, rfl, q _ _ rfl hn⟩
    rw [hvo.length, ol]
    exact hlen
end
end TW

set_option Elab.async false
set_option linter.all false
set_option maxRecDepth 100000
set_option maxHeartbeats 4000000
namespace TW
open PySem PySem.Spec PyProof.Rows L2

section
variable {α : Type} {lt : α → α → Bool}
structure STO (lt : α → α → Bool) : Prop where
  irr : ∀ x, lt x x = false
  tr : ∀ x y z, lt x y = true → lt y z = true → lt x z = true
  tot : ∀ x y, lt x y = false → lt y x = false → x = y
abbrev Ris (lt : α → α → Bool) (l : List α) : Prop := l.Pairwise fun x y => lt y x = false
theorem STO.asym (o : STO lt) {x y : α} (h : lt x y = true) : lt y x = false := by
  cases e : lt y x with
  | false => rfl
  | true =>
    have := o.tr _ _ _ h e
    rw [o.irr] at this
    cases this
theorem STO.le_tr (o : STO lt) {x y z : α} (h1 : lt y x = false) (h2 : lt z y = false) : lt z x = false := by
  cases e : lt z x with
  | false => rfl
  | true =>
    cases e2 : lt x y with
    | true =>
      have := o.tr _ _ _ e e2
      rw [h2] at this
      cases this
    | false =>
      have := o.tot x y e2 h1
      subst this
      rw [h2] at e
      cases e
theorem insB_perm (x : α) : ∀ l : List α, (insB lt x l).Perm (x :: l)
  | [] => .refl _
  | y :: r => by
    unfold insB
    split
    · exact ((insB_perm x r).cons y).trans (.swap x y r)
    · exact .refl _
theorem isortB_perm : ∀ l : List α, (isortB lt l).Perm l
  | [] => .refl _
  | x :: r => (insB_perm x _).trans ((isortB_perm r).cons x)
theorem insB_ris (o : STO lt) (x : α) : ∀ l : List α, Ris lt l → Ris lt (insB lt x l)
  | [], _ => by simp [insB]
  | y :: r, h => by
    obtain ⟨h1, h2⟩ := List.pairwise_cons.mp h
    unfold insB
    split
    · rename_i e
      refine List.pairwise_cons.mpr ⟨fun z hz => ?_, insB_ris o x r h2⟩
      rcases List.mem_cons.mp ((insB_perm x r).mem_iff.mp hz) with rfl | hz
      · exact o.asym e
      · exact h1 z hz
    · rename_i e
      have e : lt y x = false := by cases q : lt y x <;> simp_all
      refine List.pairwise_cons.mpr ⟨fun z hz => ?_, h⟩
      rcases List.mem_cons.mp hz with rfl | hz
      · exact e
      · exact o.le_tr e (h1 z hz)
theorem isortB_ris (o : STO lt) : ∀ l : List α, Ris lt (isortB lt l)
  | [] => List.Pairwise.nil
  | x :: r => insB_ris o x _ (isortB_ris o r)
theorem ris_uniq (o : STO lt) : ∀ {l m : List α}, l.Perm m → Ris lt l → Ris lt m → l = m
  | [], m, p, _, _ => (List.nil_perm.mp p).symm
  | x :: r, [], p, _, _ => absurd p.symm (by simp)
  | x :: r, y :: s, p, h1, h2 => by
    obtain ⟨a1, a2⟩ := List.pairwise_cons.mp h1
    obtain ⟨b1, b2⟩ := List.pairwise_cons.mp h2
    have e : x = y := by
      rcases List.mem_cons.mp (p.mem_iff.mp List.mem_cons_self) with e | hx
      · exact e
      · rcases List.mem_cons.mp (p.mem_iff.mpr List.mem_cons_self) with e | hy
        · exact e.symm
        · exact o.tot _ _ (b1 x hx) (a1 y hy)
    subst e
    rw [ris_uniq o (List.Perm.cons_inv p) a2 b2]
theorem isort_eq (o : STO lt) {l m : List α} (p : m.Perm l) (h : Ris lt m) : isortB lt l = m := ris_uniq o ((isortB_perm l).trans p.symm) (isortB_ris o l) h
end
theorem sto_Z : STO ltZ := ⟨fun x => decide_eq_false (by omega), fun x y z h1 h2 => decide_eq_true (by have := of_decide_eq_true h1; have := of_decide_eq_true h2; omega), fun x y h1 h2 => by have := of_decide_eq_false h1; have := of_decide_eq_false h2; omega⟩
theorem ltP2_iff {a b : Int × Int} : ltP2 a b = true ↔ a.1 < b.1 ∨ (a.1 = b.1 ∧ a.2 < b.2) := by
  unfold ltP2
  simp
theorem ltP2_not {a b : Int × Int} : ltP2 a b = false ↔ ¬ (a.1 < b.1 ∨ (a.1 = b.1 ∧ a.2 < b.2)) := by
  rw [← ltP2_iff]
  simp
theorem sto_P : STO ltP2 := by
  refine ⟨fun x => ltP2_not.mpr (by omega), fun x y z h1 h2 => ?_, fun x y h1 h2 => ?_⟩
  · rw [ltP2_iff] at *
    omega
  · rw [ltP2_not] at *
    have : x.1 = y.1 ∧ x.2 = y.2 := by omega
    exact Prod.ext this.1 this.2
theorem lexB_eq (a b : Int × Int) : SrtO.lexB a b = ltP2 a b := by
  unfold SrtO.lexB ltP2
  by_cases h : a.1 < b.1 <;> by_cases h2 : a.1 = b.1 <;> simp [h, h2]
theorem maxL_some : ∀ {ns : List Int} {m : Int}, maxL ns = some m → m ∈ ns ∧ ∀ y ∈ ns, y ≤ m
  | [], _, h => by cases h
  | [x], m, h => by
    cases h
    exact ⟨List.mem_singleton.mpr rfl, fun y hy => by rw [List.mem_singleton.mp hy]; omega⟩
  | x :: y :: r, m, h => by
    have h : (maxL (y :: r)).map (fun m => if m > x then m else x) = some m := h
    cases e : maxL (y :: r) with
    | none => rw [e] at h; cases h
    | some k =>
      rw [e] at h
      cases h
      obtain ⟨h1, h2⟩ := maxL_some e
      dsimp only
      by_cases hk : k > x
      · rw [if_pos hk]
        exact ⟨List.mem_cons_of_mem _ h1, fun z hz => by
          rcases List.mem_cons.mp hz with rfl | hz
          · omega
          · exact h2 z hz⟩
      · rw [if_neg hk]
        exact ⟨List.mem_cons_self, fun z hz => by
          rcases List.mem_cons.mp hz with rfl | hz
          · omega
          · have := h2 z hz; omega⟩
theorem minL_some : ∀ {ns : List Int} {m : Int}, minL ns = some m → m ∈ ns ∧ ∀ y ∈ ns, m ≤ y
  | [], _, h => by cases h
  | [x], m, h => by
    cases h
    exact ⟨List.mem_singleton.mpr rfl, fun y hy => by rw [List.mem_singleton.mp hy]; omega⟩
  | x :: y :: r, m, h => by
    have h : (minL (y :: r)).map (fun m => if m < x then m else x) = some m := h
    cases e : minL (y :: r) with
    | none => rw [e] at h; cases h
    | some k =>
      rw [e] at h
      cases h
      obtain ⟨h1, h2⟩ := minL_some e
      dsimp only
      by_cases hk : k < x
      · rw [if_pos hk]
        exact ⟨List.mem_cons_of_mem _ h1, fun z hz => by
          rcases List.mem_cons.mp hz with rfl | hz
          · omega
          · exact h2 z hz⟩
      · rw [if_neg hk]
        exact ⟨List.mem_cons_self, fun z hz => by
          rcases List.mem_cons.mp hz with rfl | hz
          · omega
          · have := h2 z hz; omega⟩

section
variable {W : Wd} {E0 : XK} {T : Tb} {X : Cx}
theorem CallR_or {f : Value} {r r' : List V → Hp → VK → Prop} (h : CallR X f r) (h' : CallR X f r') : CallR X f (fun vs H Q => r vs H Q ∨ r' vs H Q) := by
  intro pins s σ H xs us Q I rx q
  rcases q with q | q
  · exact h pins s σ H xs us Q I rx q
  · exact h' pins s σ H xs us Q I rx q
theorem cr_maxT (hc : X.calm = true) (hu : X.A.units + 64 < cLine) : CallR X (.builtin "max") (fun vs H Q => ∃ a i j, vs = [V.ref a] ∧ H a = some (.tup [.int i, .int j]) ∧ Q (.int (if j > i then j else i)) H) := by
  intro pins s σ H vs us Q I r h
  obtain ⟨a, i, j, rfl, hH, q⟩ := h
  rw [Vals.ref1 r]
  obtain ⟨_, its, rv, o, h1, h2, n, h3⟩ := (show ObjOk X.prog X.w H s.heap a (.tup [.int i, .int j]) from I.hok a _ hH)
  obtain ⟨u1, u2, rfl, r1, r2⟩ := vals2 rv
  obtain ⟨t1, rfl⟩ := (show ∃ t, u1 = Value.int i t from r1)
  obtain ⟨t2, rfl⟩ := (show ∃ t, u2 = Value.int j t from r2)
  refine PySem.W.max_tuple_data (x := .int i) (xs := [.int j]) (as := _) (I.ok.hd hc) ⟨o, h1, h2, n, h3⟩ (.cons (.int i t1) (.cons (.int j t2) .nil)) ⟨?_, ?_⟩ ?_ fun k v h' tk bs hv hr hk => ?_
  · intro x hx y hy
    simp only [List.mem_cons, List.not_mem_nil, or_false] at hx hy
    rcases hx with rfl | rfl <;> rcases hy with rfl | rfl <;> rfl
  · intro x hx
    simp only [List.mem_cons, List.not_mem_nil, or_false] at hx
    rcases hx with rfl | rfl <;> exact fun z => by cases z
  · simp only [PyData.depthAll, PyData.depth]
    omega
  · have em : PySem.W.maxD (.int i) [.int j] = .int (if j > i then j else i) := by
      have := PySem.W.maxD_ints i [j]
      rw [show ([PyData.int j] : List PyData) = [j].map PyData.int from rfl, this]
      show PyData.int (max i j) = _
      congr 1
      split <;> omega
    rw [em] at hr
    obtain ⟨t, rfl, _⟩ := reads_int_inv hr
    exact ⟨.int _, H, I.kept hk, ⟨_, rfl⟩, q⟩
theorem b_max (hK : X.K = W.K) (hc : X.calm = true) (hu : X.A.units + 64 < cLine) : CallR X (.builtin "max") (rB W (biD .max)) := (CallR_or (CallR_or (call_max2 hc) (cr_max hc)) (cr_maxT hc hu)).imp fun vs H Q ⟨O, ds, res, hO, hr, hg, hq⟩ => by
  replace hg : maxD ds = some res := by cases ds <;> exact hg
  unfold maxD at hg
  split at hg
  · rename_i a b
    cases e1 : intD a with
    | none => rw [e1] at hg; cases hg
    | some i =>
      rw [e1] at hg
      have hg : (intD b).map (fun j => (Md.dp, D.int (if j > i then j else i))) = some res := hg
      cases e2 : intD b with
      | none => rw [e2] at hg; cases hg
      | some j =>
        rw [e2] at hg
        cases hg
        rw [intD_eq e1, intD_eq e2] at hr
        obtain ⟨v, w, rfl, h1, h2⟩ := hr.two
        exact .inl (.inl ⟨i, j, by rw [show v = .int i from h1, show w = .int j from h2], hq.val rfl rfl⟩)
  · rename_i xs
    cases e1 : intsD xs with
    | none => rw [e1] at hg; cases hg
    | some ns =>
      rw [e1] at hg
      have hg : (maxL ns).map (fun m => (Md.dp, D.int m)) = some res := hg
      cases e2 : maxL ns with
      | none => rw [e2] at hg; cases hg
      | some m =>
        rw [e2] at hg
        cases hg
        obtain ⟨m1, m2⟩ := maxL_some e2
        obtain ⟨v, rfl, hv⟩ := hr.one
        obtain ⟨a, vs, rfl, _, h1, h2, h3⟩ := hv
        rw [intsD_eq e1] at h3
        rw [Rps.ints_eq h3] at h1
        refine .inl (.inr ⟨a, ns, rfl, .inl (.inl h1), List.length_pos_of_mem m1, fun k hk hle => ?_⟩)
        have : k = m := by have := hle m m1; have := m2 k hk; omega
        rw [this]
        exact hq.val rfl rfl
  · cases hg
    obtain ⟨v, rfl, hv⟩ := hr.one
    obtain ⟨a, rfl, ha⟩ := hv.pair
    exact .inr ⟨a, _, _, rfl, ha, hq.val rfl rfl⟩
  · cases hg
theorem b_min (hK : X.K = W.K) (hc : X.calm = true) : CallR X (.builtin "min") (rB W (biD .min)) := (CallR_or (call_min2 hc) (cr_min hc)).imp fun vs H Q ⟨O, ds, res, hO, hr, hg, hq⟩ => by
  replace hg : minD ds = some res := by cases ds <;> exact hg
  unfold minD at hg
  split at hg
  · rename_i a b
    cases e1 : intD a with
    | none => rw [e1] at hg; cases hg
    | some i =>
      rw [e1] at hg
      have hg : (intD b).map (fun j => (Md.dp, D.int (if j < i then j else i))) = some res := hg
      cases e2 : intD b with
      | none => rw [e2] at hg; cases hg
      | some j =>
        rw [e2] at hg
        cases hg
        rw [intD_eq e1, intD_eq e2] at hr
        obtain ⟨v, w, rfl, h1, h2⟩ := hr.two
        exact .inl ⟨i, j, by rw [show v = .int i from h1, show w = .int j from h2], hq.val rfl rfl⟩
  · rename_i xs
    cases e1 : intsD xs with
    | none => rw [e1] at hg; cases hg
    | some ns =>
      rw [e1] at hg
      have hg : (minL ns).map (fun m => (Md.dp, D.int m)) = some res := hg
      cases e2 : minL ns with
      | none => rw [e2] at hg; cases hg
      | some m =>
        rw [e2] at hg
        cases hg
        obtain ⟨m1, m2⟩ := minL_some e2
        obtain ⟨v, rfl, hv⟩ := hr.one
        obtain ⟨a, vs, rfl, _, h1, h2, h3⟩ := hv
        rw [intsD_eq e1] at h3
        rw [Rps.ints_eq h3] at h1
        refine .inr ⟨a, ns, rfl, .inl (.inl h1), List.length_pos_of_mem m1, fun k hk hle => ?_⟩
        have : k = m := by have := hle m m1; have := m2 k hk; omega
        rw [this]
        exact hq.val rfl rfl
  · cases hg
theorem prsD_eq : ∀ {ds : List D} {ps : List (Int × Int)}, prsD ds = some ps → ds = ps.map eP
  | [], ps, h => by cases h; rfl
  | d :: ds, ps, h => by
    unfold prsD at h
    split at h
    · rename_i hnil; cases hnil
    · rename_i a b ds' e
      cases e
      cases e2 : prsD ds with
      | none => rw [e2] at h; cases h
      | some r =>
        rw [e2] at h
        cases h
        rw [prsD_eq e2]
        rfl
    · cases h
def kOf (H : Hp) (x : V) : Int × Int := match x with
  | .ref t => match H t with
    | some (.tup [.int a, .int b]) => (a, b)
    | _ => (0, 0)
  | _ => (0, 0)
theorem Rps.prs {H : Hp} {O : Addr → Prop} : ∀ {ps : List (Int × Int)} {vs : List V}, Rps W H O (ps.map eP) vs → vs.map (kOf H) = ps ∧ ∀ x ∈ vs, ∃ t, x = V.ref t ∧ H t = some (.tup [.int (kOf H x).1, .int (kOf H x).2])
  | [], vs, h => by
    rw [show vs = [] from h]
    exact ⟨rfl, fun _ z => by cases z⟩
  | p :: ps, vs, h => by
    obtain ⟨v, r, rfl, h1, h2⟩ := h
    obtain ⟨t, rfl, ht⟩ := h1.pair
    obtain ⟨i1, i2⟩ := Rps.prs (ps := ps) h2
    have ek : kOf H (.ref t) = p := by
      show (match H t with | some (.tup [.int a, .int b]) => (a, b) | _ => (0, 0)) = p
      rw [ht]
    refine ⟨by rw [List.map_cons, ek, i1], fun x hx => ?_⟩
    rcases List.mem_cons.mp hx with rfl | hx
    · exact ⟨t, rfl, by rw [ek]; exact ht⟩
    · exact i2 x hx
theorem Rps.of_prs {H : Hp} {O : Addr → Prop} : ∀ {vs : List V}, (∀ x ∈ vs, ∃ t, x = V.ref t ∧ H t = some (.tup [.int (kOf H x).1, .int (kOf H x).2])) → Rps W H O ((vs.map (kOf H)).map eP) vs
  | [], _ => rfl
  | v :: r, h => by
    obtain ⟨t, e, ht⟩ := h v List.mem_cons_self
    refine ⟨v, r, rfl, ⟨t, _, e, ht, (show (2 : Nat) ≤ sizeLine by decide), .int _, _, rfl, rfl, .int _, _, rfl, rfl, rfl⟩, Rps.of_prs fun x hx => h x (List.mem_cons_of_mem _ hx)⟩
theorem ltL_lt : ∀ xs ys : List Int, ltL xs ys = decide (xs < ys)
  | [], [] => by simp [ltL]
  | [], y :: ys => by simp [ltL]
  | x :: xs, [] => by simp [ltL]
  | x :: xs, y :: ys => by
    by_cases h : x = y
    · subst h
      simp [ltL, ltL_lt xs ys, List.cons_lt_cons_iff]
    · simp [ltL, h, List.cons_lt_cons_iff]
theorem sto_L : STO ltL := by
  refine ⟨fun x => ?_, fun x y z h1 h2 => ?_, fun x y h1 h2 => ?_⟩
  · rw [ltL_lt]
    exact decide_eq_false (List.lt_irrefl x)
  · rw [ltL_lt] at h1 h2 ⊢
    exact decide_eq_true (List.lt_trans (of_decide_eq_true h1) (of_decide_eq_true h2))
  · rw [ltL_lt] at h1 h2
    exact List.le_antisymm (List.not_lt.mp (of_decide_eq_false h2)) (List.not_lt.mp (of_decide_eq_false h1))
theorem rows_ris (bs : List (V × List Int)) : (bs.mergeSort fun x y => decide (x.2 ≤ y.2)).Pairwise fun x y => x.2 ≤ y.2 := by
  have h := List.pairwise_mergeSort (le := fun x y : V × List Int => decide (x.2 ≤ y.2)) (fun x y z h1 h2 => decide_eq_true (List.le_trans (of_decide_eq_true h1) (of_decide_eq_true h2))) (fun x y => by
    simp only [Bool.or_eq_true, decide_eq_true_eq]
    exact List.le_total x.2 y.2) bs
  exact h.imp fun {x y} q => of_decide_eq_true q
theorem ilD_eq : ∀ {ds : List D} {gs : List (List Int)}, ilD ds = some gs → ds = gs.map eIL
  | [], gs, h => by cases h; rfl
  | d :: ds, gs, h => by
    unfold ilD at h
    split at h
    · rename_i hnil; cases hnil
    · rename_i xs ds' e
      cases e
      cases e1 : intsD xs with
      | none => rw [e1] at h; cases h
      | some ns =>
        rw [e1] at h
        cases e2 : ilD ds with
        | none => rw [e2] at h; cases h
        | some r =>
          rw [e2] at h
          cases h
          rw [ilD_eq e2, intsD_eq e1]
          rfl
    · cases h
abbrev RowIn (H : Hp) (O : Addr → Prop) (b : V × List Int) : Prop := ∃ t, b.1 = V.ref t ∧ ¬ O t ∧ H t = some (.lst (b.2.map V.int)) ∧ b.2.length ≤ sizeLine
theorem Rps.row_at {H : Hp} {O : Addr → Prop} : ∀ {gs : List (List Int)} {vs : List V}, Rps W H O (gs.map eIL) vs → ∀ b ∈ vs.zip gs, RowIn H O b
  | [], vs, h, b, hb => by simp at hb
  | g :: gs, vs, h, b, hb => by
    obtain ⟨v, r, rfl, h1, h2⟩ := h
    rw [List.zip_cons_cons] at hb
    rcases List.mem_cons.mp hb with rfl | hb
    · obtain ⟨t, ws, e, n, ht, hl, hr⟩ := h1
      rw [Rps.ints_eq hr] at ht hl
      exact ⟨t, e, n, ht, by rw [List.length_map] at hl; exact hl⟩
    · exact Rps.row_at h2 b hb
theorem Rps.of_rows {H : Hp} {O : Addr → Prop} : ∀ (cs : List (V × List Int)), (∀ b ∈ cs, RowIn H O b) → Rps W H O ((cs.map Prod.snd).map eIL) (cs.map Prod.fst)
  | [], _ => rfl
  | c :: cs, h => by
    obtain ⟨t, e, n, ht, hl⟩ := h c List.mem_cons_self
    exact ⟨c.1, cs.map Prod.fst, rfl, ⟨t, _, e, n, ht, by rw [List.length_map]; exact hl, Rps.ints _⟩, Rps.of_rows cs fun b hb => h b (List.mem_cons_of_mem _ hb)⟩
theorem Rps.rows {K : PySem.W.Frag} {H : Hp} {O : Addr → Prop} {gs : List (List Int)} {vs : List V} (h : Rps W H O (gs.map eIL) vs) : (vs.zip gs).map Prod.fst = vs ∧ (∀ b ∈ vs.zip gs, RowAt K H b) ∧ (vs.zip gs).map Prod.snd = gs := by
  have hl : vs.length = gs.length := by
    have := Rps.length _ _ h
    rw [List.length_map] at this
    exact this
  refine ⟨List.map_fst_zip (by omega), fun b hb => ?_, List.map_snd_zip (by omega)⟩
  obtain ⟨t, e, _, ht, _⟩ := h.row_at b hb
  exact ⟨t, e, .inl (.inl ht)⟩
theorem b_sorted (hK : X.K = W.K) (hu : X.A.units + 64 < cLine) : CallR X (.builtin "sorted") (rB W (biD .sorted)) := (CallR_or (CallR_or cr_sortedI cr_sortedPO) (cr_sortRows hu)).imp fun vs H Q ⟨O, ds, res, hO, hr, hg, hq⟩ => by
  match ds, hg, hr with
  | [.lst xs], hg, hr =>
    have hg : sortD xs = some res := hg
    obtain ⟨v, rfl, hv⟩ := hr.one
    obtain ⟨a, vs, rfl, _, h1, h2, h3⟩ := hv
    unfold sortD at hg
    split at hg
    · rename_i ns e
      cases hg
      rw [intsD_eq e] at h3
      rw [Rps.ints_eq h3] at h1 h2
      refine .inl (.inl ⟨a, ns, rfl, .inl (.inl h1), fun ns' p pm pw np => ?_⟩)
      have e2 : isortB ltZ ns = ns' := isort_eq sto_Z pm (pw.imp fun {x y} h => decide_eq_false (by omega))
      rw [e2] at hq
      refine Res.deep (W := W) hq np ?_ (Rps.ints _) (lfrees_ints _)
      rw [List.length_map, pm.length_eq]
      rw [List.length_map] at h2
      exact h2
    · split at hg
      · rename_i ps e
        cases hg
        rw [prsD_eq e] at h3
        obtain ⟨k1, k2⟩ := h3.prs
        refine .inl (.inr ⟨a, vs, kOf H, rfl, .inl (.inl h1), k2, fun ys p sr st np => ?_⟩)
        have pm : (ys.map (kOf H)).Perm ps := by
          rw [← k1]
          exact st.perm.map _
        have e2 : isortB ltP2 ps = ys.map (kOf H) := by
          refine isort_eq sto_P pm ?_
          show List.Pairwise _ _
          rw [List.pairwise_map]
          exact sr.imp fun {x y} h => by
            have h : SrtO.lexB (kOf H y) (kOf H x) = false := h
            rw [lexB_eq] at h
            exact h
        rw [e2] at hq
        refine Res.deep (W := W) hq np ?_ (Rps.of_prs fun x hx => k2 x (st.perm.mem_iff.mp hx)) (lfrees_prs _)
        rw [st.perm.length_eq]
        exact h2
      · split at hg
        · rename_i gs e
          cases hg
          rw [ilD_eq e] at h3
          obtain ⟨k1, k2, k3⟩ := Rps.rows (K := X.K) h3
          refine .inr ⟨a, vs.zip gs, rfl, by rw [k1]; exact .inl (.inl h1), k2, fun cs p hcs np => ?_⟩
          have pm : cs.Perm (vs.zip gs) := by rw [hcs]; exact List.mergeSort_perm _ _
          have e2 : isortB ltL gs = cs.map Prod.snd := by
            refine isort_eq sto_L ?_ ?_
            · rw [← k3]
              exact pm.map _
            · show List.Pairwise _ _
              rw [List.pairwise_map, hcs]
              exact (rows_ris (vs.zip gs)).imp fun {x y} h => by rw [ltL_lt]; exact decide_eq_false (List.not_lt.mpr h)
          rw [e2] at hq
          refine Res.flat (W := W) hq np hO ?_ (Rps.of_rows cs fun b hb => ?_)
          · rw [List.length_map, pm.length_eq, List.length_zip]
            exact Nat.le_trans (Nat.min_le_left _ _) h2
          · exact Rps.row_at h3 b (pm.mem_iff.mp hb)
        · cases hg
theorem rngOk_of {a b : Int} (h : rngOk a b = true) : RgOk a b ∧ (b - a).toNat ≤ SZ := by
  unfold rngOk smallI at h
  simp only [Bool.and_eq_true, decide_eq_true_eq] at h
  obtain ⟨⟨h1, h2⟩, h3⟩ := h
  exact ⟨⟨by omega, by omega, by omega, by omega, Nat.le_trans h3 (by decide)⟩, h3⟩
end
end TW

set_option Elab.async false
set_option linter.all false
set_option maxRecDepth 100000
set_option maxHeartbeats 4000000
namespace TW
open PySem PySem.Spec PyProof.Rows L2

theorem toPys_get : ∀ (ds : List D) (j : Nat), (toPys ds)[j]? = (ds[j]?).map toPy
  | [], j => by simp [toPys]
  | d :: ds, 0 => by simp [toPys]
  | d :: ds, j + 1 => by
    simp only [toPys, List.getElem?_cons_succ]
    exact toPys_get ds j
def tyN : Ty → Option String
  | .int => some "int"
  | .bool => some "bool"
  | .list => some "list"
  | .tuple => some "tuple"
  | .cls _ => none
section
variable {W : Wd} {E0 : XK} {T : Tb} {X : Cx}
theorem isi_kit {d : D} {t : Ty} {b : Bool} {n : String} {H : Hp} {O : Addr → Prop} {x : V} (hn : tyN t = some n) (h : isiD d t = some b) (r : Rp W H O d x) : ∃ m : String, TyX W.K H x (.type m) ∧ kitB m n = some b := by
  cases d with
  | non => exact ⟨"NoneType", .base (by rw [show x = .non from r]; exact .non), by cases t <;> cases hn <;> cases h <;> decide +kernel⟩
  | bl k => exact ⟨"bool", .base (by rw [show x = .bl k from r]; exact .bl k), by cases t <;> cases hn <;> cases h <;> decide +kernel⟩
  | int k => exact ⟨"int", .base (by rw [show x = .int k from r]; exact .int k), by cases t <;> cases hn <;> cases h <;> decide +kernel⟩
  | str k => exact ⟨"str", .base (by rw [show x = .str k from r]; exact .str k), by cases t <;> cases hn <;> cases h <;> decide +kernel⟩
  | tup ds =>
    obtain ⟨a, vs, rfl, h1, _⟩ := r
    exact ⟨"tuple", .base (.tup h1), by cases t <;> cases hn <;> cases h <;> decide +kernel⟩
  | lst ds =>
    obtain ⟨a, vs, rfl, _, h1, _⟩ := r
    exact ⟨"list", .base (.lst h1), by cases t <;> cases hn <;> cases h <;> decide +kernel⟩
  | dic ds =>
    obtain ⟨a, rfl, _, h1, _⟩ := r
    exact ⟨"dict", .base (.dK h1), by cases t <;> cases hn <;> cases h <;> decide +kernel⟩
  | fn f => cases t <;> cases h
  | scr ns => cases t <;> cases h
  | ins C f d => cases t <;> first | (cases h; done) | cases hn
  | exc C => cases t <;> first | (cases h; done) | cases hn
theorem c_isi {e : Expr} {ca : E} {t : Ty} {n : String} {x : Str} {p p2 pos : Pos} (hK : X.K = W.K) (hn : tyN t = some n) (hg : Gl X "isinstance") (hm : X.mg "isinstance" = none) (hgT : Gl X x) (hmT : X.mg x = none) (hvT : bootBuiltins x = some (.type n)) (he : PE X e (rdE W E0 T ca))
    (hxn : x ≠ "__name__" := by decide) (hd : (x == ("__debug__" : Str)) = false := by decide) (hs : starEach [e, .Name x p2] X.env = (false, eval e X.env) :: starEach [.Name x p2] X.env := by rfl) :
    PE X (.Call (.Name "isinstance" p) [e, .Name x p2] [] pos) (rdE W E0 T (.isi ca t)) :=
  (pe_callB call_isi hg hm boot_isinstance (pa_cons he (pa_cons (pe_bltn (v := .ty n) hgT hmT hvT rfl hxn hd) pa_nil) hs) (by decide) (by decide) hs).imp fun σ H Q ⟨H0, O0, δ, Fs, S, q⟩ => by
    simp only [ev, nm] at q
    refine rd1 (g := fun d => (isiD d t).map fun b => (.dp, .bl b)) (r := fun x H1 Q => rIsi X.K [x, .ty n] H1 Q) S q fun H2 O x d res hO hd hg hq => ?_
    cases e : isiD d t with
    | none => rw [e] at hg; cases hg
    | some b =>
      rw [e] at hg
      cases hg
      obtain ⟨m, k1, k2⟩ := isi_kit hn e hd
      exact ⟨x, .ty n, .type m, .type n, b, rfl, .ty n, by rw [hK]; exact k1, kit_ty k2, hq.val rfl rfl⟩

def spP (W : Wd) (n : Nat) (f : List D → M (Md × D)) : Sp := fun vs H Q E => vs.length = n ∧ ∃ ds O, (∀ a, O a → H a ≠ none) ∧ Rps W H O ds vs ∧ rq W E H O (f ds) Q
structure FnF (P : Program) (w : World) (mg : Str → Option Value) (base : Heap) (W : Wd) (T : Tb) (k : Nat) (x : Str) (f : Nat) (ps : List Str) : Prop where
  ex : ∃ fd, FnOk P w W.K mg base (L2.CX P w) k (W.fa f) fd ps (spP W ps.length (T f)) ∧ Binds W.K fd ps []
  mg : mg x = some (.ref (W.fa f))
  kp : PySem.W.keepIn W.K (.ref (W.fa f)) = true
theorem Ow.up {H : Hp} {O O' : Addr → Prop} {d : D} {v : V} (h : Rp W H O' d v) (c : closed .fl d = true) : ∃ F, Ow W H O .fl d v F ∧ F.Nodup ∧ ∀ a ∈ F, ¬ O' a := by
  cases e : flatTop d with
  | false =>
    rw [closed_other e] at c
    exact ⟨[], Ow.sh_any h c, List.nodup_nil, fun _ z => by cases z⟩
  | true =>
    cases d with
    | lst ds =>
      obtain ⟨a, vs, rfl, h0, h1, h2, h3⟩ := h
      refine ⟨[a], ⟨a, vs, rfl, rfl, h1, h2, Dqs.rp _ _ _ (Rps.dq _ _ h3 c) (fun _ z => by cases z)⟩, by simp, fun b hb => by rw [List.mem_singleton.mp hb]; exact h0⟩
    | dic ks =>
      obtain ⟨a, rfl, h0, h1, h2⟩ := h
      exact ⟨[a], ⟨a, rfl, rfl, h1, h2⟩, by simp, fun b hb => by rw [List.mem_singleton.mp hb]; exact h0⟩
    | _ => cases e
theorem rdA_call {cs : List E} {n f : Nat} {σ : L2.St} {H : Hp} {Q : VK} {H0 : Hp} {O0 : Addr → Prop} {δ : Dn} {Fs : List (List Addr)} (S : SS W H0 O0 H σ δ Fs) (hn : cs.length = n)
    (q : rq W E0 H (av O0 Fs (nms cs)) (bnd (evs T cs δ) fun ps => bnd (T f (ps.map Prod.snd)) fun r => ok (if r.1 = .sh ∧ closeds ps ∧ closed .fl r.2 then (.fl, r.2) else r)) Q) :
    rdA W E0 T cs σ H (fun vs H1 => spP W n (T f) (vs ++ []) H1 Q E0) := by
  refine ⟨H0, O0, δ, Fs, S, rqs_bnd2 (G := fun z => rq W E0 H (av O0 Fs (nms cs)) z Q) rq_none (fun C h => h) q fun ps e h1 vs H1 Fs1 s1 n1 nd1 ow1 => ?_⟩
  rw [List.append_nil]
  refine ⟨by rw [ow1.length, evs_len e, hn], ?_⟩
  cases c : closeds ps with
  | true =>
    refine ⟨_, fun a => H a ≠ none, fun a z q => z (s1.free q), Dqs.rp _ _ _ (ow1.dqs c) (fun a ha z => z (n1 a ha)), ?_⟩
    revert h1
    cases T f (ps.map Prod.snd) with
    | none => exact fun h => h
    | some r =>
      cases r with
      | er C => exact fun h H' s' => h H' (s1.trans s')
      | ok p =>
        intro h1 v H2 F s2 n2 nd2 ow2
        have h1 : Res W H (av O0 Fs (nms cs)) (if p.1 = .sh ∧ closeds ps ∧ closed .fl p.2 then (Md.fl, p.2) else p).1 (if p.1 = .sh ∧ closeds ps ∧ closed .fl p.2 then (Md.fl, p.2) else p).2 Q := h1
        split at h1
        · rename_i hc
          obtain ⟨c1, _, c3⟩ := hc
          rw [c1] at ow2
          obtain ⟨rfl, r2⟩ := ow2
          obtain ⟨F', g1, g2, g3⟩ := Ow.up (O := fun q => av O0 Fs (nms cs) q ∨ False) (Rp.mono (Same.refl H2) (O' := fun a => H a ≠ none) (fun a z => .inl z) _ _ r2) c3
          have n3 : ∀ a ∈ F', H a = none := fun a ha => by
            cases hh : H a with
            | none => rfl
            | some o => exact absurd (by rw [hh]; simp) (g3 a ha)
          obtain ⟨F2, k1, k2, k3⟩ := Ow.up (O := fun q => av O0 Fs (nms cs) q ∨ q ∈ F') (Rp.mono (Same.refl H2) (O' := fun a => H a ≠ none) (fun a z => .inl z) _ _ r2) c3
          -- the cells are told by the tree alone
          have e12 : F2 = F' := by
            cases ef : flatTop p.2 with
            | false =>
              rw [Ow.fl_other ef] at g1 k1
              rw [g1.1, k1.1]
            | true =>
              cases hd : p.2 with
              | lst ds =>
                rw [hd] at g1 k1
                obtain ⟨a, vs', e1, e2, _⟩ := g1
                obtain ⟨b, vs'', e3, e4, _⟩ := k1
                rw [e1] at e3
                cases e3
                rw [e2, e4]
              | dic ks =>
                rw [hd] at g1 k1
                obtain ⟨a, e1, e2, _⟩ := g1
                obtain ⟨b, e3, e4, _⟩ := k1
                rw [e1] at e3
                cases e3
                rw [e2, e4]
              | _ => rw [hd] at ef; cases ef
          subst e12
          exact h1 v H2 F2 (s1.trans s2) n3 k2 k1
        · refine h1 v H2 F (s1.trans s2) (fun a ha => s1.free (n2 a ha)) nd2 (ow2.mono (Same.refl H2) fun a z => ?_)
          rcases z with z | z
          · exact .inl (S.av_there a z)
          · exact .inr z
  | false =>
    refine ⟨_, av O0 Fs (nms cs), (S.grow s1).av_there, ow1.rps (fun a z => .inl z) (fun a ha z => S.av_there a z (n1 a ha)), ?_⟩
    revert h1
    cases T f (ps.map Prod.snd) with
    | none => exact fun h => h
    | some r =>
      cases r with
      | er C => exact fun h H' s' => h H' (s1.trans s')
      | ok p =>
        intro h1
        have h1 : Res W H (av O0 Fs (nms cs)) (if p.1 = .sh ∧ closeds ps ∧ closed .fl p.2 then (Md.fl, p.2) else p).1 (if p.1 = .sh ∧ closeds ps ∧ closed .fl p.2 then (Md.fl, p.2) else p).2 Q := h1
        rw [if_neg (by rw [c]; intro z; exact absurd z.2.1 (by decide))] at h1
        exact Res.mono (W := W) h1 s1
theorem c_cal {k f : Nat} {x : Str} {ps : List Str} {p pos : Pos} {e : Expr} {es : List Expr} {cs : List E} (hK : X.K = W.K) (F : FnF X.prog X.w X.mg X.base W T k x f ps) (hr : Room k X.A) (hg : Gl X x) (hx : Passes (L2.CX X.prog X.w) X E0)
    (ha : PA X (e :: es) (rdA W E0 T cs)) (hl : cs.length = ps.length := by rfl) (hdb : (x == ("__debug__" : Str)) = false := by decide) (he : starEach (e :: es) X.env = (false, eval e X.env) :: starEach es X.env := by rfl)
    (hpl : (backTo pos (starEach es X.env)).any (·.1) = false := by rfl) : PE X (.Call (.Name x p) (e :: es) [] pos) (rdE W E0 T (.cal f cs)) := by
  obtain ⟨fd, F1, F2⟩ := F.ex
  rw [← hK] at F1 F2
  exact (pe_call F1 hr hg F.mg (by rw [hK]; exact F.kp) F2 .nil hx ha hdb he hpl).imp fun σ H Q ⟨H0, O0, δ, Fs, S, q⟩ => by
    simp only [ev, nm] at q
    exact rdA_call S hl q
end
end TW

set_option Elab.async false
set_option linter.all false
set_option maxRecDepth 100000
set_option maxHeartbeats 4000000
namespace TW
open PySem PySem.Spec PyProof.Rows L2

abbrev dat1 (e : Dn) (i : Nat) : Option (Option D) := (e[i]?).map (Option.map Prod.snd)
def Agr (L : List Nat) (e e' : Dn) : Prop := e.length = e'.length ∧ ∀ i ∈ L, dat1 e i = dat1 e' i
theorem Agr.sub {L M : List Nat} {e e' : Dn} (h : Agr L e e') (s : ∀ i ∈ M, i ∈ L) : Agr M e e' := ⟨h.1, fun i hi => h.2 i (s i hi)⟩
theorem Agr.set {L : List Nat} {e e' : Dn} (h : Agr L e e') (i : Nat) (p q : Md × D) (hd : p.2 = q.2) : Agr (i :: L) (e.set i (some p)) (e'.set i (some q)) := by
  refine ⟨by rw [List.length_set, List.length_set]; exact h.1, fun j hj => ?_⟩
  by_cases e1 : i = j
  · subst e1
    by_cases hl : i < e.length
    · have hl' : i < e'.length := by rw [← h.1]; exact hl
      unfold dat1
      rw [List.getElem?_set_self hl, List.getElem?_set_self hl']
      simp [hd]
    · have hl' : ¬ i < e'.length := by rw [← h.1]; exact hl
      unfold dat1
      rw [List.getElem?_eq_none (by rw [List.length_set]; omega), List.getElem?_eq_none (by rw [List.length_set]; omega)]
  · unfold dat1
    rw [List.getElem?_set_ne e1, List.getElem?_set_ne e1]
    rcases List.mem_cons.mp hj with z | z
    · exact absurd z.symm e1
    · exact h.2 j z
theorem Agr.bind {L : List Nat} {e e' : Dn} (h : Agr L e e') (ts : List Nat) (one : Bool) (x : D) : (bindT ts one x e = none ∧ bindT ts one x e' = none) ∨ ∃ f f', bindT ts one x e = some f ∧ bindT ts one x e' = some f' ∧ Agr (ts ++ L) f f' := by
  unfold bindT
  split
  · rename_i i
    exact .inr ⟨_, _, rfl, rfl, h.set i _ _ rfl⟩
  · rename_i i j a b
    refine .inr ⟨_, _, rfl, rfl, ?_⟩
    exact ((h.set i (.sh, a) (.sh, a) rfl).set j (.sh, b) (.sh, b) rfl).sub fun k hk => by
      simp only [List.cons_append, List.nil_append, List.mem_cons] at hk ⊢
      rcases hk with z | z | z
      · exact .inr (.inl z)
      · exact .inl z
      · exact .inr (.inr z)
  · exact .inl ⟨rfl, rfl⟩
theorem compL_congr {f g : D → Option (Option (Md × D))} (h : ∀ x, f x = g x) (xs : List D) : compL f xs = compL g xs := by
  rw [show f = g from funext h]
section
variable {T : Tb}
mutual
theorem ev_congr : ∀ (a : E) (e e' : Dn), Agr (nm a) e e' → ev T a e = ev T a e'
  | .var i, e, e', h => by
    have h := h.2 i (by simp [nm])
    simp only [ev]
    unfold dat1 at h
    cases q : e[i]? with
    | none =>
      rw [q] at h
      cases q' : e'[i]? with
      | none => rfl
      | some o => rw [q'] at h; cases h
    | some o =>
      rw [q] at h
      cases q' : e'[i]? with
      | none => rw [q'] at h; cases h
      | some o' =>
        rw [q'] at h
        cases o with
        | none =>
          cases o' with
          | none => rfl
          | some p' => cases h
        | some p =>
          cases o' with
          | none => cases h
          | some p' =>
            have : p.2 = p'.2 := by simpa using h
            simp [this]
  | .lit d, e, e', h => by simp only [ev]
  | .bin o a b, e, e', h => by
    simp only [ev, ev_congr a e e' (h.sub fun i hi => by simp [nm, hi]), ev_congr b e e' (h.sub fun i hi => by simp [nm, hi])]
  | .cmp o a b, e, e', h => by
    simp only [ev, ev_congr a e e' (h.sub fun i hi => by simp [nm, hi]), ev_congr b e e' (h.sub fun i hi => by simp [nm, hi])]
  | .chn o p a b c, e, e', h => by
    simp only [ev, ev_congr a e e' (h.sub fun i hi => by simp [nm, hi]), ev_congr b e e' (h.sub fun i hi => by simp [nm, hi]), ev_congr c e e' (h.sub fun i hi => by simp [nm, hi])]
  | .chn3 o p q a b c d, e, e', h => by
    simp only [ev, ev_congr a e e' (h.sub fun i hi => by simp [nm, hi]), ev_congr b e e' (h.sub fun i hi => by simp [nm, hi]), ev_congr c e e' (h.sub fun i hi => by simp [nm, hi]), ev_congr d e e' (h.sub fun i hi => by simp [nm, hi])]
  | .neg a, e, e', h => by simp only [ev, ev_congr a e e' (h.sub fun i hi => by simp [nm, hi])]
  | .not a, e, e', h => by simp only [ev, ev_congr a e e' (h.sub fun i hi => by simp [nm, hi])]
  | .and a b, e, e', h => by
    simp only [ev, ev_congr a e e' (h.sub fun i hi => by simp [nm, hi]), ev_congr b e e' (h.sub fun i hi => by simp [nm, hi])]
  | .or a b, e, e', h => by
    simp only [ev, ev_congr a e e' (h.sub fun i hi => by simp [nm, hi]), ev_congr b e e' (h.sub fun i hi => by simp [nm, hi])]
  | .ite c a b, e, e', h => by
    simp only [ev, ev_congr a e e' (h.sub fun i hi => by simp [nm, hi]), ev_congr b e e' (h.sub fun i hi => by simp [nm, hi]), ev_congr c e e' (h.sub fun i hi => by simp [nm, hi])]
  | .tup es, e, e', h => by simp only [ev, evs_congr es e e' (h.sub fun i hi => by simp [nm, hi])]
  | .lst es, e, e', h => by simp only [ev, evs_congr es e e' (h.sub fun i hi => by simp [nm, hi])]
  | .sub a b, e, e', h => by
    simp only [ev, ev_congr a e e' (h.sub fun i hi => by simp [nm, hi]), ev_congr b e e' (h.sub fun i hi => by simp [nm, hi])]
  | .slc pl ph a b c, e, e', h => by
    simp only [ev, ev_congr a e e' (h.sub fun i hi => by simp [nm, hi]), ev_congr b e e' (h.sub fun i hi => by simp [nm, hi]), ev_congr c e e' (h.sub fun i hi => by simp [nm, hi])]
  | .rev a, e, e', h => by simp only [ev, ev_congr a e e' (h.sub fun i hi => by simp [nm, hi])]
  | .att a f, e, e', h => by simp only [ev, ev_congr a e e' (h.sub fun i hi => by simp [nm, hi])]
  | .cal f es, e, e', h => by simp only [ev, evs_congr es e e' (h.sub fun i hi => by simp [nm, hi])]
  | .cav a g es, e, e', h => by simp only [ev, ev_congr a e e' (h.sub fun i hi => by simp [nm, hi]), evs_congr es e e' (h.sub fun i hi => by simp [nm, hi])]
  | .bi b es, e, e', h => by simp only [ev, evs_congr es e e' (h.sub fun i hi => by simp [nm, hi])]
  | .mix a b, e, e', h => by
    simp only [ev, ev_congr a e e' (h.sub fun i hi => by simp [nm, hi]), ev_congr b e e' (h.sub fun i hi => by simp [nm, hi])]
  | .isi a t, e, e', h => by simp only [ev, ev_congr a e e' (h.sub fun i hi => by simp [nm, hi])]
  | .comp ts one s cs a, e, e', h => by
    have h1 := evS_congr s e e' (h.sub fun i hi => by simp [nm, hi])
    simp only [ev, h1]
    congr 1
    funext p
    rw [compL_congr (fun x => ?_)]
    rcases h.bind ts one x with ⟨b1, b2⟩ | ⟨f, f', b1, b2, b3⟩
    · rw [b1, b2]
    · rw [b1, b2]
      show (okOnly (evC T cs f)).bind _ = (okOnly (evC T cs f')).bind _
      rw [evC_congr cs f f' (b3.sub fun i hi => List.mem_append_right _ (by simp [nm, hi])), ev_congr a f f' (b3.sub fun i hi => List.mem_append_right _ (by simp [nm, hi]))]
  | .dnew, e, e', h => by simp only [ev]
  | .mk C f i es, e, e', h => by simp only [ev, evs_congr es e e' (h.sub fun i hi => by simp [nm, hi])]
  | .met a tb es, e, e', h => by simp only [ev, ev_congr a e e' (h.sub fun i hi => by simp [nm, hi]), evs_congr es e e' (h.sub fun i hi => by simp [nm, hi])]
  | .isc a cs, e, e', h => by simp only [ev, ev_congr a e e' (h.sub fun i hi => by simp [nm, hi])]
  | .csel gs a es, e, e', h => by simp only [ev, ev_congr a e e' (h.sub fun i hi => by simp [nm, hi]), evs_congr es e e' (h.sub fun i hi => by simp [nm, hi])]
  | .orv a b, e, e', h => by simp only [ev, ev_congr a e e' (h.sub fun i hi => by simp [nm, hi]), ev_congr b e e' (h.sub fun i hi => by simp [nm, hi])]
theorem evs_congr : ∀ (as : List E) (e e' : Dn), Agr (nms as) e e' → evs T as e = evs T as e'
  | [], e, e', h => by simp only [evs]
  | a :: as, e, e', h => by
    simp only [evs, ev_congr a e e' (h.sub fun i hi => by simp [nms, hi]), evs_congr as e e' (h.sub fun i hi => by simp [nms, hi])]
theorem evC_congr : ∀ (as : List E) (e e' : Dn), Agr (nms as) e e' → evC T as e = evC T as e'
  | [], e, e', h => by simp only [evC]
  | a :: as, e, e', h => by
    simp only [evC, ev_congr a e e' (h.sub fun i hi => by simp [nms, hi]), evC_congr as e e' (h.sub fun i hi => by simp [nms, hi])]
theorem evS_congr : ∀ (s : Sr) (e e' : Dn), Agr (nmS s) e e' → evS T s e = evS T s e'
  | .seq a, e, e', h => by simp only [evS, ev_congr a e e' (h.sub fun i hi => by simp [nmS, hi])]
  | .rng a b, e, e', h => by
    simp only [evS, ev_congr a e e' (h.sub fun i hi => by simp [nmS, hi]), ev_congr b e e' (h.sub fun i hi => by simp [nmS, hi])]
  | .enu a, e, e', h => by simp only [evS, ev_congr a e e' (h.sub fun i hi => by simp [nmS, hi])]
  | .zip a b, e, e', h => by
    simp only [evS, ev_congr a e e' (h.sub fun i hi => by simp [nmS, hi]), ev_congr b e e' (h.sub fun i hi => by simp [nmS, hi])]
end
end
end TW

set_option Elab.async false
set_option linter.all false
set_option maxRecDepth 100000
set_option maxHeartbeats 4000000
namespace TW
open PySem PySem.Spec PyProof.Rows L2

def yields : Sum V (V × V) → Hp → V → Hp → Prop
  | .inl v, H, x, H' => H' = H ∧ x = v
  | .inr p, H, x, H' => ∃ t, x = .ref t ∧ H t = none ∧ H' = L2.upd H t (.tup [p.1, p.2])
def reprI (W : Wd) (H : Hp) (O : Addr → Prop) : Sum V (V × V) → D → Prop
  | .inl v, d => Rp W H O d v
  | .inr p, d => ∃ a b, d = .tup [a, b] ∧ Rp W H O a p.1 ∧ Rp W H O b p.2
structure Src (W : Wd) (H : Hp) (O : Addr → Prop) (ds : List D) (J : It) : Prop where
  ex : ∃ (G : Hp → Prop) (Y : Nat → Hp → V → Hp → Prop) (A : List Addr), Walk J ds.length G Y ∧ ds.length ≤ sizeLine ∧ (∀ a ∈ A, ∃ o, H a = some o ∧ (MutC o → ¬ O a)) ∧ (∀ H', (∀ a ∈ A, ∀ o, H a = some o → H' a = some o) → G H') ∧
    ∀ (i : Nat) d, ds[i]? = some d → ∃ z, (∀ H1 x H2, Y i H1 x H2 → yields z H1 x H2) ∧ reprI W H O z d
def rdI (W : Wd) (E0 : XK) (T : Tb) (s : Sr) : TI := fun σ H R => ∃ H0 O0 δ Fs, SS W H0 O0 H σ δ Fs ∧ match evS T s δ with
  | none => False
  | some (.er C) => ∀ H', Same H H' → E0 (.ref (W.ca C)) none H'
  | some (.ok p) => ∀ J H1, Same H H1 → Src W H1 (av O0 Fs (if p.1 = .dp then [] else nmS s)) p.2 J → R J H1
section
variable {W : Wd} {E0 : XK} {T : Tb} {X : Cx}
theorem _root_.L2.PI.imp {X : Cx} {tg iter : Expr} {t t' : TI} (h : PI X tg iter t) (k : ∀ σ H R, t' σ H R → t σ H R) : PI X tg iter t' := ⟨fun pins s σ H R I q => h.run pins s σ H R I (k σ H R q)⟩
theorem PI_or {tg iter : Expr} {t t' : TI} (h : PI X tg iter t) (h' : PI X tg iter t') : PI X tg iter (fun σ H R => t σ H R ∨ t' σ H R) := ⟨fun pins s σ H R I q => q.elim (h.run pins s σ H R I) (h'.run pins s σ H R I)⟩
theorem Ow.seen {H H1 H0 : Hp} {O0 : Addr → Prop} {σ : L2.St} {δ : Dn} {Fs : List (List Addr)} {p : Md × D} {v : V} {F : List Addr} {c : E} {ns : List Nat} (S : SS W H0 O0 H σ δ Fs) (n : ∀ a ∈ F, H a = none) (hn : ∀ i ∈ nm c, i ∈ ns)
    (ow : Ow W H1 (fun q => av O0 Fs (nm c) q ∨ q ∈ F) p.1 p.2 v F) : Rp W H1 (av O0 Fs (if p.1 = .dp then [] else ns)) p.2 v := by
  split
  · rename_i e
    rw [e] at ow
    exact Dq.rp _ _ _ ow fun a ha z => S.av_there a z (n a ha)
  · exact ow.rpv (av_mono hn) S.av_there n
theorem src_list {H : Hp} {O : Addr → Prop} {K : PySem.W.Frag} {a : Addr} {vs : List V} {ds : List D} (A : List Addr) (hA : ∀ b ∈ A, ∃ o, H b = some o ∧ (MutC o → ¬ O b)) (hq : ∀ H', (∀ b ∈ A, ∀ o, H b = some o → H' b = some o) → SqL K H' a vs) (hl : vs.length ≤ sizeLine) (r : Rps W H O ds vs) : Src W H O ds (Itl K a) := by
  have e := Rps.length _ _ r
  refine ⟨⟨_, YAt vs, A, e ▸ walk_list (K := K) (a := a) (xs := vs), by rw [← e]; exact hl, hA, hq, fun i d hi => ?_⟩⟩
  obtain ⟨v, h1, h2⟩ := r.get hi
  refine ⟨.inl v, fun H1 x H2 y => ⟨y.1, ?_⟩, h2⟩
  have := y.2
  rw [h1] at this
  exact (Option.some.inj this).symm
theorem src_tup {H : Hp} {O : Addr → Prop} {K : PySem.W.Frag} {a : Addr} {vs : List V} {ds : List D} (A : List Addr) (hA : ∀ b ∈ A, ∃ o, H b = some o ∧ (MutC o → ¬ O b)) (hq : ∀ H', (∀ b ∈ A, ∀ o, H b = some o → H' b = some o) → SqT K H' a vs) (hl : vs.length ≤ sizeLine) (r : Rps W H O ds vs) : Src W H O ds (Itt K a) := by
  have e := Rps.length _ _ r
  refine ⟨⟨_, YAt vs, A, e ▸ walk_tup (K := K) (a := a) (xs := vs), by rw [← e]; exact hl, hA, hq, fun i d hi => ?_⟩⟩
  obtain ⟨v, h1, h2⟩ := r.get hi
  refine ⟨.inl v, fun H1 x H2 y => ⟨y.1, ?_⟩, h2⟩
  have := y.2
  rw [h1] at this
  exact (Option.some.inj this).symm
theorem src_of_list {H : Hp} {O : Addr → Prop} {d : D} {ds : List D} {v : V} (hK : X.K = W.K) (e : listD d = some ds) (r : Rp W H O d v) : ∃ a, v = .ref a ∧ (∃ xs, SqL X.K H a xs) ∧ Src W H O ds (Itl X.K a) := by
  cases d with
  | lst xs =>
    cases e
    obtain ⟨a, vs, rfl, h0, h1, h2, h3⟩ := r
    exact ⟨a, rfl, ⟨vs, .inl (.inl h1)⟩, src_list [a] (fun b hb => by rw [List.mem_singleton.mp hb]; exact ⟨_, h1, fun _ => h0⟩) (fun H' k => .inl (.inl (k a (by simp) _ h1))) h2 h3⟩
  | scr ns =>
    cases e
    obtain ⟨a, rfl, h1, h2⟩ := r
    rcases h1 with ⟨o, h1⟩ | h1
    · exact ⟨a, rfl, ⟨_, .inl (.inr ⟨o, h1⟩)⟩, src_list [a] (fun b hb => by rw [List.mem_singleton.mp hb]; exact ⟨_, h1, fun z => z.elim⟩) (fun H' k => .inl (.inr ⟨o, k a (by simp) _ h1⟩)) (by simpa using h2) (Rps.ints ns)⟩
    · exact ⟨a, rfl, ⟨_, .inr (by rw [hK]; exact h1)⟩, src_list [] (fun _ z => by cases z) (fun H' k => .inr (by rw [hK]; exact h1)) (by simpa using h2) (Rps.ints ns)⟩
  | _ => cases e
theorem i_seq {tg e : Expr} {c : E} (hK : X.K = W.K) (h : PE X e (rdE W E0 T c)) : PI X tg e (rdI W E0 T (.seq c)) :=
  (PI_or (pi_list h) (pi_tup h)).imp fun σ H R ⟨H0, O0, δ, Fs, S, q⟩ => by
    simp only [evS] at q
    cases e1 : ev T c δ with
    | none => rw [e1] at q; exact q.elim
    | some r =>
      cases r with
      | er C => exact .inl ⟨H0, O0, δ, Fs, S, by rw [e1] at q ⊢; exact q⟩
      | ok p =>
        rw [e1] at q
        cases e2 : itemsD p.2 with
        | none =>
          have q : (match lift ((itemsD p.2).map fun ds => (p.1, ds)) with | none => False | some (.er C) => _ | some (.ok p) => _) := q
          rw [e2] at q
          exact q.elim
        | some ds =>
          have q : (match lift ((itemsD p.2).map fun ds => (p.1, ds)) with | none => False | some (.er C) => ∀ H', Same H H' → E0 (.ref (W.ca C)) none H' | some (.ok p) => ∀ J H1, Same H H1 → Src W H1 (av O0 Fs (if p.1 = .dp then [] else nm c)) p.2 J → R J H1) := q
          rw [e2] at q
          have q : ∀ J H1, Same H H1 → Src W H1 (av O0 Fs (if p.1 = .dp then [] else nm c)) ds J → R J H1 := q
          cases e3 : listD p.2 with
          | some ds' =>
            refine .inl ⟨H0, O0, δ, Fs, S, ?_⟩
            rw [e1]
            intro v H1 F s1 n1 nd1 ow1
            have r := Ow.seen S n1 (ns := nm c) (fun i hi => hi) ow1
            have ed : ds' = ds := by
              cases hp : p.2 <;> rw [hp] at e2 e3 <;> first | (cases e3; done) | (cases e2; cases e3; rfl)
            rw [ed] at e3
            obtain ⟨a, g1, g2, g3⟩ := src_of_list hK e3 r
            exact ⟨a, g1, g2, q _ H1 s1 g3⟩
          | none =>
            refine .inr ⟨H0, O0, δ, Fs, S, ?_⟩
            rw [e1]
            intro v H1 F s1 n1 nd1 ow1
            have r := Ow.seen S n1 (ns := nm c) (fun i hi => hi) ow1
            cases hp : p.2 with
            | tup xs =>
              rw [hp] at e2 r
              cases e2
              obtain ⟨a, vs, rfl, h1, h2, h3⟩ := r
              exact ⟨a, rfl, ⟨vs, .inl (.inl h1)⟩, q _ H1 s1 (src_tup [a] (fun b hb => by rw [List.mem_singleton.mp hb]; exact ⟨_, h1, fun z => z.elim⟩) (fun H' k => .inl (.inl (k a (by simp) _ h1))) h2 h3)⟩
            | _ => rw [hp] at e2 e3; first | (cases e2; done) | (cases e3; done)
theorem src_rng {H : Hp} {O : Addr → Prop} {i j : Int} (h : rngOk i j = true) : Src W H O (rngD i j) (Itr i (j - i).toNat) := by
  have hl : (rngD i j).length = (j - i).toNat := by unfold rngD; rw [List.length_map, List.length_range]
  have hw : Walk (Itr i (j - i).toNat) (rngD i j).length (fun _ => True) (YFn fun k => .int (i + k)) := by
    rw [hl]
    exact walk_range
  refine ⟨⟨fun _ => True, YFn fun k => .int (i + k), [], hw, ?_, fun _ z => ?_, fun _ _ => trivial, fun k d hd => ⟨.inl (.int (i + k)), fun H1 x H2 y => y, ?_⟩⟩⟩
  · rw [hl]
    exact Nat.le_trans (rngOk_of h).2 sz_le
  · cases z
  · unfold rngD at hd
    rw [List.getElem?_map] at hd
    cases e : (List.range (j - i).toNat)[k]? with
    | none => rw [e] at hd; cases hd
    | some m =>
      rw [e] at hd
      cases hd
      have : m = k := by
        obtain ⟨hm, e2⟩ := List.getElem?_eq_some_iff.mp e
        rw [List.getElem_range] at e2
        exact e2.symm
      subst this
      rfl
theorem i_rng1 {tg a : Expr} {c : E} {p pos : Pos} (hg : Gl X "range") (hm : X.mg "range" = none) (ha : PE X a (rdE W E0 T c)) (hs : starEach [a] X.env = [(false, eval a X.env)] := by rfl) : PI X tg (.Call (.Name "range" p) [a] [] pos) (rdI W E0 T (.rng (.lit (.int 0)) c)) :=
  (pi_range1 (ta := tCons (rdE W E0 T c) tNil) hg hm (pa_cons ha pa_nil hs) hs).imp fun σ H R ⟨H0, O0, δ, Fs, S, q⟩ => by
    simp only [evS, ev] at q
    rw [if_pos (show scal (.int 0) = true from rfl)] at q
    refine ⟨H0, O0, δ, Fs, S, ?_⟩
    revert q
    cases ev T c δ with
    | none => exact fun h => h
    | some r =>
      cases r with
      | er C => exact fun h => h
      | ok p =>
        intro q v H1 F s1 n1 nd1 ow1
        have r := ow1.rpv (O1 := fun _ => False) (fun _ z => z.elim) (fun _ z => z.elim) n1
        have q : (match (match D.int 0, p.2 with | .int i, .int j => if rngOk i j = true then ok (Md.dp, rngD i j) else none | _, _ => none) with | none => False | some (.er C) => ∀ H', Same H H' → E0 (.ref (W.ca C)) none H' | some (.ok p) => ∀ J H1, Same H H1 → Src W H1 (av O0 Fs (if p.1 = .dp then [] else nmS (.rng (.lit (.int 0)) c))) p.2 J → R J H1) := q
        cases hp : p.2 with
        | int j =>
          rw [hp] at r q
          dsimp only at q
          cases hz : rngOk 0 j with
          | false => rw [hz] at q; exact q.elim
          | true =>
            rw [hz] at q
            obtain ⟨g1, g2, g3, g4, g5⟩ := (rngOk_of hz).1
            have e := q (Itr 0 (j - 0).toNat) H1 s1 (src_rng hz)
            rw [Int.sub_zero] at e
            exact ⟨j, by rw [show v = .int j from r], g3, g4, e⟩
        | _ => rw [hp] at q; exact q.elim
theorem i_rng2 {tg a b : Expr} {ca cb : E} {p pos : Pos} (hg : Gl X "range") (hm : X.mg "range" = none) (ha : PE X a (rdE W E0 T ca)) (hb : PE X b (rdE W E0 T cb)) (hs : starEach [a, b] X.env = [(false, eval a X.env), (false, eval b X.env)] := by rfl) (hs2 : starEach [b] X.env = [(false, eval b X.env)] := by rfl) :
    PI X tg (.Call (.Name "range" p) [a, b] [] pos) (rdI W E0 T (.rng ca cb)) :=
  (pi_range2 (ta := tCons (rdE W E0 T ca) (tCons (rdE W E0 T cb) tNil)) hg hm (pa_cons ha (pa_cons hb pa_nil hs2) (by rw [hs, hs2])) hs hs2).imp fun σ H R ⟨H0, O0, δ, Fs, S, q⟩ => by
    simp only [evS] at q
    refine ⟨H0, O0, δ, Fs, S, ?_⟩
    revert q
    cases ev T ca δ with
    | none => exact fun h => h
    | some r =>
      cases r with
      | er C => exact fun h => h
      | ok p =>
        intro q v H1 F s1 n1 nd1 ow1
        have r1 := ow1.rpv (O1 := fun _ => False) (fun _ z => z.elim) (fun _ z => z.elim) n1
        have S1 := S.grow s1
        refine ⟨H0, O0, δ, Fs, S1, ?_⟩
        revert q
        cases ev T cb δ with
        | none => exact fun h => h
        | some r =>
          cases r with
          | er C => exact fun h H' s' => h H' (s1.trans s')
          | ok p2 =>
            intro q v2 H2 F2 s2 n2 nd2 ow2
            have r2 := ow2.rpv (O1 := fun _ => False) (fun _ z => z.elim) (fun _ z => z.elim) n2
            have q : (match (match p.2, p2.2 with | .int i, .int j => if rngOk i j = true then ok (Md.dp, rngD i j) else none | _, _ => none) with | none => False | some (.er C) => ∀ H', Same H H' → E0 (.ref (W.ca C)) none H' | some (.ok p) => ∀ J H1, Same H H1 → Src W H1 (av O0 Fs (if p.1 = .dp then [] else nmS (.rng ca cb))) p.2 J → R J H1) := q
            cases hp : p.2 with
            | int i =>
              cases hp2 : p2.2 with
              | int j =>
                rw [hp] at r1 q
                rw [hp2] at r2 q
                dsimp only at q
                cases hz : rngOk i j with
                | false => rw [hz] at q; exact q.elim
                | true =>
                  rw [hz] at q
                  obtain ⟨g1, g2, g3, g4, g5⟩ := (rngOk_of hz).1
                  exact ⟨i, j, by rw [show v = .int i from r1, show v2 = .int j from r2], ⟨g1, g2, g3, g4⟩, q _ H2 (s1.trans s2) (src_rng hz)⟩
              | _ => rw [hp, hp2] at q; exact q.elim
            | _ => rw [hp] at q; exact q.elim
theorem enuD_get : ∀ (ds : List D) (n i : Nat) (d : D), (enuD n ds)[i]? = some d → ∃ x, ds[i]? = some x ∧ d = .tup [.int ((n + i : Nat) : Int), x]
  | [], n, i, d, h => by simp [enuD] at h
  | x :: r, n, 0, d, h => by
    simp [enuD] at h
    exact ⟨x, rfl, h.symm⟩
  | x :: r, n, i + 1, d, h => by
    simp only [enuD, List.getElem?_cons_succ] at h
    obtain ⟨y, h1, h2⟩ := enuD_get r (n + 1) i d h
    exact ⟨y, by simpa using h1, by rw [h2, show n + 1 + i = n + (i + 1) by omega]⟩
theorem enuD_len : ∀ (ds : List D) (n : Nat), (enuD n ds).length = ds.length
  | [], n => rfl
  | x :: r, n => by simp only [enuD, List.length_cons, enuD_len r]
theorem i_enu {e : Expr} {c : E} {p pos tpos : Pos} {elts : List Expr} {kk : Nat} (hg : Gl X "enumerate") (hm : X.mg "enumerate" = none) (ha : PE X e (rdE W E0 T c)) (hs : starEach [e] X.env = [(false, eval e X.env)] := by rfl) :
    PI X (.Tuple elts kk tpos) (.Call (.Name "enumerate" p) [e] [] pos) (rdI W E0 T (.enu c)) :=
  (pi_enum (ta := tCons (rdE W E0 T c) tNil) hg hm (pa_cons ha pa_nil hs) hs).imp fun σ H R ⟨H0, O0, δ, Fs, S, q⟩ => by
    simp only [evS] at q
    refine ⟨H0, O0, δ, Fs, S, ?_⟩
    revert q
    cases ev T c δ with
    | none => exact fun h => h
    | some r =>
      cases r with
      | er C => exact fun h => h
      | ok p =>
        intro q v H1 F s1 n1 nd1 ow1
        have r := Ow.seen S n1 (ns := nm c) (fun i hi => hi) ow1
        have q : (match (match p.2 with | .lst ds => ok (p.1, enuD 0 ds) | _ => none) with | none => False | some (.er C) => ∀ H', Same H H' → E0 (.ref (W.ca C)) none H' | some (.ok p) => ∀ J H1, Same H H1 → Src W H1 (av O0 Fs (if p.1 = .dp then [] else nm c)) p.2 J → R J H1) := q
        cases hp : p.2 with
        | lst ds =>
          rw [hp] at q r
          obtain ⟨a, vs, rfl, h0, h1, h2, h3⟩ := r
          refine ⟨a, vs, rfl, .inl (.inl h1), q (Ite X.K a) H1 s1 ⟨⟨fun H => SqL X.K H a vs, YPair (fun i => some (.int (i : Nat))) (fun i => vs[i]?), [a], ?_, ?_, fun b hb => ?_, fun H' k => ?_, fun i d hd => ?_⟩⟩⟩
          · have := walk_enum (K := X.K) (a := a) (xs := vs)
            rw [Rps.length _ _ h3] at this
            rw [enuD_len]
            exact this
          · rw [enuD_len, ← Rps.length _ _ h3]
            exact h2
          · rw [List.mem_singleton.mp hb]
            exact ⟨_, h1, fun _ => h0⟩
          · exact .inl (.inl (k a (by simp) _ h1))
          · obtain ⟨x, e1, e2⟩ := enuD_get ds 0 i d hd
            obtain ⟨w, e3, e4⟩ := h3.get e1
            refine ⟨.inr (.int (i : Nat), w), fun H1 x H2 y => ?_, .int (i : Nat), x, ?_, rfl, e4⟩
            · obtain ⟨t, x1, x2, rfl, y1, y2, y3, y4⟩ := y
              have y4 : vs[i]? = some x2 := y4
              cases y3
              rw [e3] at y4
              cases y4
              exact ⟨t, rfl, y1, y2⟩
            · rw [e2, Nat.zero_add]
        | _ => rw [hp] at q; exact q.elim
theorem zipD_get : ∀ (xs ys : List D) (i : Nat) (d : D), (zipD xs ys)[i]? = some d → ∃ x y, xs[i]? = some x ∧ ys[i]? = some y ∧ d = .tup [x, y]
  | [], ys, i, d, h => by simp [zipD] at h
  | x :: r, [], i, d, h => by simp [zipD] at h
  | x :: r, y :: s, 0, d, h => by
    simp [zipD] at h
    exact ⟨x, y, rfl, rfl, h.symm⟩
  | x :: r, y :: s, i + 1, d, h => by
    simp only [zipD, List.getElem?_cons_succ] at h
    obtain ⟨a, b, h1, h2, h3⟩ := zipD_get r s i d h
    exact ⟨a, b, by simpa using h1, by simpa using h2, h3⟩
theorem zipD_len : ∀ (xs ys : List D), (zipD xs ys).length = min xs.length ys.length
  | [], ys => by simp [zipD]
  | x :: r, [] => by simp [zipD]
  | x :: r, y :: s => by
    simp only [zipD, List.length_cons, zipD_len r s]
    omega
theorem i_zip {a b : Expr} {ca cb : E} {p pos tpos : Pos} {elts : List Expr} {kk : Nat} (hg : Gl X "zip") (hm : X.mg "zip" = none) (ha : PE X a (rdE W E0 T ca)) (hb : PE X b (rdE W E0 T cb))
    (hs : starEach [a, b] X.env = (false, eval a X.env) :: starEach [b] X.env := by rfl) (hs2 : starEach [b] X.env = (false, eval b X.env) :: starEach [] X.env := by rfl) (hpl : (backTo pos (starEach [b] X.env)).any (·.1) = false := by rfl) :
    PI X (.Tuple elts kk tpos) (.Call (.Name "zip" p) [a, b] [] pos) (rdI W E0 T (.zip ca cb)) :=
  (pi_zip (ta := tCons (rdE W E0 T ca) (tCons (rdE W E0 T cb) tNil)) hg hm (pa_cons ha (pa_cons hb pa_nil hs2) hs) hs hpl).imp fun σ H R ⟨H0, O0, δ, Fs, S, q⟩ => by
    simp only [evS] at q
    refine ⟨H0, O0, δ, Fs, S, ?_⟩
    revert q
    cases ev T ca δ with
    | none => exact fun h => h
    | some r =>
      cases r with
      | er C => exact fun h => h
      | ok p =>
        intro q v H1 F s1 n1 nd1 ow1
        have ia : ∀ i ∈ nm ca, i ∈ nmS (.zip ca cb) := fun i hi => by simp [nmS, hi]
        have ib : ∀ i ∈ nm cb, i ∈ nmS (.zip ca cb) := fun i hi => by simp [nmS, hi]
        have r1 := ow1.rpv (av_mono ia) S.av_there n1
        have S1 := S.grow s1
        refine ⟨H0, O0, δ, Fs, S1, ?_⟩
        revert q
        cases ev T cb δ with
        | none => exact fun h => h
        | some r =>
          cases r with
          | er C => exact fun h H' s' => h H' (s1.trans s')
          | ok p2 =>
            intro q v2 H2 F2 s2 n2 nd2 ow2
            have r2 := ow2.rpv (av_mono ib) S1.av_there n2
            have r1 := Rp.mono s2 (fun _ z => z) _ _ r1
            have q : (match (match p.2, p2.2 with | .lst xs, .lst ys => ok (Md.sh, zipD xs ys) | _, _ => none) with | none => False | some (.er C) => ∀ H', Same H H' → E0 (.ref (W.ca C)) none H' | some (.ok p) => ∀ J H1, Same H H1 → Src W H1 (av O0 Fs (if p.1 = .dp then [] else nmS (.zip ca cb))) p.2 J → R J H1) := q
            cases hp : p.2 with
            | lst xs =>
              cases hp2 : p2.2 with
              | lst ys =>
                rw [hp] at r1 q
                rw [hp2] at r2 q
                obtain ⟨a, vs, rfl, h0, h1, h2, h3⟩ := r1
                obtain ⟨b, ws, rfl, g0, g1, g2, g3⟩ := r2
                refine ⟨a, b, vs, ws, rfl, .inl (.inl h1), .inl (.inl g1), q (Itz X.K a b) H2 (s1.trans s2) ⟨⟨fun H => SqL X.K H a vs ∧ SqL X.K H b ws, YPair (fun i => vs[i]?) (fun i => ws[i]?), [a, b], ?_, ?_, fun c hc => ?_, fun H' k => ?_, fun i d hd => ?_⟩⟩⟩
                · refine walk_zip ?_
                  rw [zipD_len, Rps.length _ _ h3, Rps.length _ _ g3]
                · rw [zipD_len, ← Rps.length _ _ h3]
                  omega
                · rcases List.mem_cons.mp hc with rfl | hc
                  · exact ⟨_, h1, fun _ => h0⟩
                  · rw [List.mem_singleton.mp hc]
                    exact ⟨_, g1, fun _ => g0⟩
                · exact ⟨.inl (.inl (k a (by simp) _ h1)), .inl (.inl (k b (by simp) _ g1))⟩
                · obtain ⟨x, y, e1, e2, e3⟩ := zipD_get xs ys i d hd
                  obtain ⟨w1, e4, e5⟩ := h3.get e1
                  obtain ⟨w2, e6, e7⟩ := g3.get e2
                  refine ⟨.inr (w1, w2), fun H1 x H2 z => ?_, x, y, e3, e5, e7⟩
                  obtain ⟨t, x1, x2, rfl, y1, y2, y3, y4⟩ := z
                  have y3 : vs[i]? = some x1 := y3
                  have y4 : ws[i]? = some x2 := y4
                  rw [e4] at y3
                  rw [e6] at y4
                  cases y3
                  cases y4
                  exact ⟨t, rfl, y1, y2⟩
              | _ => rw [hp, hp2] at q; exact q.elim
            | _ => rw [hp] at q; exact q.elim
end
end TW

set_option Elab.async false
set_option linter.all false
set_option maxRecDepth 100000
set_option maxHeartbeats 4000000
namespace TW
open PySem PySem.Spec PyProof.Rows L2

abbrev EF : XK := fun _ _ _ => False
def maskS (L : List Nat) (j : Nat) (s : Sl) : Sl := if j ∈ L then frzS s else none
def maskF (L : List Nat) : Nat → Dn → Dn
  | _, [] => []
  | k, s :: r => maskS L k s :: maskF L (k + 1) r
theorem maskF_get (L : List Nat) : ∀ (k : Nat) (e : Dn) (j : Nat), (maskF L k e)[j]? = (e[j]?).map (maskS L (k + j))
  | k, [], j => by simp [maskF]
  | k, s :: r, 0 => by simp [maskF]
  | k, s :: r, j + 1 => by
    simp only [maskF, List.getElem?_cons_succ, maskF_get L (k + 1) r j]
    rw [show k + 1 + j = k + (j + 1) by omega]
theorem maskF_len (L : List Nat) : ∀ (k : Nat) (e : Dn), (maskF L k e).length = e.length
  | k, [] => rfl
  | k, s :: r => by simp only [maskF, List.length_cons, maskF_len L (k + 1) r]
theorem mask_agr (L : List Nat) (e : Dn) : Agr L (maskF L 0 e) e := by
  refine ⟨maskF_len L 0 e, fun i hi => ?_⟩
  unfold dat1
  rw [maskF_get, Nat.zero_add]
  cases e[i]? with
  | none => rfl
  | some s =>
    simp only [Option.map_some, maskS, if_pos hi]
    cases s with
    | none => rfl
    | some p => rfl
structure SB (W : Wd) (H : Hp) (O : Addr → Prop) (σ : L2.St) (δ : Dn) : Prop where
  len : δ.length = σ.length
  slot : ∀ (j : Nat) (p : Md × D), δ[j]? = some (some p) → p.1 = .sh ∧ ∃ v, σ[j]? = some (some v) ∧ Rp W H O p.2 v
  old : ∀ a, O a → H a ≠ none
theorem flat_rep (n : Nat) : (List.replicate n ([] : List Addr)).flatten = [] := by
  induction n with
  | zero => rfl
  | succ n ih => rw [List.replicate_succ, List.flatten_cons, ih]; rfl
theorem getD_rep (n i : Nat) : (List.replicate n ([] : List Addr)).getD i [] = [] := by
  rw [List.getD_eq_getElem?_getD, List.getElem?_replicate]
  split <;> rfl
section
variable {W : Wd} {H H' : Hp} {O : Addr → Prop} {σ : L2.St} {δ : Dn}
theorem SB.ss (s : SB W H O σ δ) : SS W H O H σ δ (List.replicate σ.length []) := by
  refine ⟨Same.refl H, s.len, by simp, fun i p e => ?_, by rw [flat_rep]; exact List.nodup_nil, fun a ha => ?_, fun a _ ha => ?_, s.old, fun a ha => ?_, fun i _ => getD_rep _ i⟩
  · obtain ⟨h1, v, h2, h3⟩ := s.slot i p e
    refine ⟨v, h2, ?_⟩
    rw [h1, getD_rep, flat_rep]
    exact ⟨rfl, Rp.mono (Same.refl H) (fun a z => z.elim id fun q => by cases q) _ _ h3⟩
  · rw [flat_rep] at ha; cases ha
  · rw [flat_rep] at ha; cases ha
  · rw [flat_rep] at ha; cases ha
theorem SB.set (s : SB W H O σ δ) {x : D} {v : V} (i : Nat) (r : Rp W H O x v) : SB W H O (σ.set i (some v)) (δ.set i (some (.sh, x))) := by
  refine ⟨by rw [List.length_set, List.length_set]; exact s.len, fun j p e => ?_, s.old⟩
  by_cases h : i = j
  · subst h
    by_cases hl : i < δ.length
    · rw [List.getElem?_set_self hl] at e
      cases e
      exact ⟨rfl, v, List.getElem?_set_self (by rw [← s.len]; exact hl), r⟩
    · rw [List.getElem?_eq_none (by rw [List.length_set]; omega)] at e
      cases e
  · rw [List.getElem?_set_ne h] at e ⊢
    exact s.slot j p e
theorem SB.grow (s : SB W H O σ δ) (h : Same H H') : SB W H' O σ δ :=
  ⟨s.len, fun j p e => let ⟨h1, v, h2, h3⟩ := s.slot j p e; ⟨h1, v, h2, Rp.mono h (fun _ z => z) _ _ h3⟩, fun a z q => s.old a z (h.free q)⟩
theorem SB.more {O' : Addr → Prop} (s : SB W H O σ δ) (h : Same H H') (ho : ∀ a, O' a → O a ∨ H a = none) (ht : ∀ a, O' a → H' a ≠ none) : SB W H' O' σ δ :=
  ⟨s.len, fun j p e => let ⟨h1, v, h2, h3⟩ := s.slot j p e; ⟨h1, v, h2, Rp.mono h (fun _ z => z) _ _ (Rp.off ho _ _ h3)⟩, ht⟩
end
theorem SS.mask {W : Wd} {H0 H : Hp} {O0 : Addr → Prop} {σ : L2.St} {δ : Dn} {Fs : List (List Addr)} (S : SS W H0 O0 H σ δ Fs) (L : List Nat) : SB W H (av O0 Fs L) σ (maskF L 0 δ) := by
  refine ⟨by rw [maskF_len]; exact S.len, fun j p e => ?_, S.av_there⟩
  rw [maskF_get, Nat.zero_add] at e
  cases hs : δ[j]? with
  | none => rw [hs] at e; cases e
  | some s =>
    rw [hs] at e
    simp only [Option.map_some, Option.some.injEq] at e
    unfold maskS at e
    split at e
    · rename_i hj
      cases s with
      | none => cases e
      | some q =>
        cases e
        obtain ⟨v, h1, h2⟩ := S.var hs (T := L) hj
        exact ⟨rfl, v, h1, h2⟩
    · cases e
def gT (K : PySem.W.Frag) (ts : List Nat) (one : Bool) : TG := match one, ts with
  | true, [i] => gName i
  | false, [i, j] => gTup K 2 (gCons (gName i) (gCons (gName j) gNil))
  | _, _ => fun _ _ _ _ => False
theorem set_set2 (σ : L2.St) (i j : Nat) (a b : Option V) : ((((σ.set j none).set i none).set i a).set j b) = (σ.set i a).set j b := by
  apply List.ext_getElem?
  intro k
  simp only [List.getElem?_set, List.length_set]
  by_cases h1 : j = k <;> by_cases h2 : i = k <;> simp [h1, h2]
theorem wipe2 (σ : L2.St) (i j : Nat) (a b : Option V) : ((((σ.set i a).set j b).set j none).set i none) = (σ.set j none).set i none := by
  apply List.ext_getElem?
  intro k
  simp only [List.getElem?_set, List.length_set]
  by_cases h1 : j = k <;> by_cases h2 : i = k <;> simp [h1, h2]
section
variable {W : Wd} {H : Hp} {O : Addr → Prop} {σ : L2.St} {δ : Dn}
theorem SB.bind {K : PySem.W.Frag} (s : SB W H O σ δ) {ts : List Nat} {one : Bool} {d : D} {z : Sum V (V × V)} {x : V} {H1 : Hp} {e1 : Dn} (hb : bindT ts one d δ = some e1) (hy : yields z H x H1) (hr : reprI W H O z d) {Q : L2.St → Hp → Prop}
    (hQ : ∀ σ2, Same H H1 → SB W H1 O σ2 e1 → wipe σ2 ts = wipe σ ts → Q σ2 H1) : gT K ts one x (wipe σ ts) H1 Q := by
  have sm : Same H H1 := by
    cases z with
    | inl v => rw [hy.1]; exact Same.refl H
    | inr p => obtain ⟨t, _, h1, h2⟩ := hy; rw [h2]; exact same_new h1
  unfold bindT at hb
  split at hb
  · rename_i i
    cases hb
    have r : Rp W H1 O d x := by
      cases z with
      | inl v => obtain ⟨e1, e2⟩ := hy; rw [e1, e2]; exact hr
      | inr p =>
        obtain ⟨t, e0, h1, h2⟩ := hy
        obtain ⟨a, b, e3, r1, r2⟩ := hr
        rw [e3, e0, h2]
        exact ⟨t, [p.1, p.2], rfl, upd_same, (show (2 : Nat) ≤ sizeLine by decide), p.1, [p.2], rfl, Rp.mono (same_new h1) (fun _ z => z) _ _ r1, p.2, [], rfl, Rp.mono (same_new h1) (fun _ z => z) _ _ r2, rfl⟩
    show Q ((wipe σ [i]).set i (some x)) H1
    have e : (wipe σ [i]).set i (some x) = σ.set i (some x) := by simp [wipe]
    rw [e]
    refine hQ _ sm ((s.grow sm).set i r) ?_
    simp [wipe]
  · rename_i i j a b
    cases hb
    show gTup K 2 (gCons (gName i) (gCons (gName j) gNil)) x (wipe σ [i, j]) H1 Q
    have hx : ∃ t va vb, x = .ref t ∧ H1 t = some (.tup [va, vb]) ∧ Rp W H1 O a va ∧ Rp W H1 O b vb := by
      cases z with
      | inl v =>
        obtain ⟨e1, e2⟩ := hy
        obtain ⟨t, vs, e3, h1, h2, va, r1, rfl, ra, vb, r2, rfl, rb, r3⟩ := hr
        rw [e1, e2]
        have : r2 = [] := r3
        subst this
        exact ⟨t, va, vb, e3, h1, ra, rb⟩
      | inr p =>
        obtain ⟨t, e0, h1, h2⟩ := hy
        obtain ⟨a', b', e3, r1, r2⟩ := hr
        cases e3
        refine ⟨t, p.1, p.2, e0, by rw [h2]; exact upd_same, ?_, ?_⟩
        · rw [h2]; exact Rp.mono (same_new h1) (fun _ z => z) _ _ r1
        · rw [h2]; exact Rp.mono (same_new h1) (fun _ z => z) _ _ r2
    obtain ⟨t, va, vb, e0, ht, ra, rb⟩ := hx
    refine ⟨t, [va, vb], e0, .inl (.inl ht), rfl, va, [vb], rfl, vb, [], rfl, rfl, ?_⟩
    have e : ((wipe σ [i, j]).set i (some va)).set j (some vb) = (σ.set i (some va)).set j (some vb) := by
      simp only [wipe]
      exact set_set2 σ i j _ _
    rw [e]
    refine hQ _ sm (((s.grow sm).set i ra).set j rb) ?_
    simp only [wipe]
    exact wipe2 σ i j _ _
  · cases hb
end
def rdC (W : Wd) (E0 : XK) (T : Tb) (cs : List E) : TT := fun σ H Q => ∃ H0 O0 δ Fs, SS W H0 O0 H σ δ Fs ∧ rqb W E0 H (evC T cs δ) Q
section
variable {W : Wd} {E0 : XK} {T : Tb} {X : Cx}
theorem _root_.L2.PTs.imp {X : Cx} {e : List Expr} {t t' : TT} (h : PTs X e t) (k : ∀ σ H Q, t' σ H Q → t σ H Q) : PTs X e t' := ⟨fun pins s σ H Q I q => h.run pins s σ H Q I (k σ H Q q)⟩
theorem x_nil : PTs X [] (rdC W E0 T []) := pts_nil.imp fun σ H Q ⟨H0, O0, δ, Fs, S, q⟩ => by
  simp only [evC] at q
  exact q H (Same.refl H)
theorem x_one {c : Expr} {cc : E} (h : PT X c (rdT W E0 T cc)) : PTs X [c] (rdC W E0 T [cc]) := (pts_one h).imp fun σ H Q ⟨H0, O0, δ, Fs, S, q⟩ => by
  refine ⟨H0, O0, δ, Fs, S, ?_⟩
  have e : evC T [cc] δ = evB T cc δ := by
    unfold evB
    simp only [evC]
    cases ev T cc δ with
    | none => rfl
    | some r =>
      cases r with
      | er C => rfl
      | ok p =>
        show (match boolD p.2 with | none => none | some false => ok false | some true => ok true) = lift (boolD p.2)
        cases boolD p.2 with
        | none => rfl
        | some b => cases b <;> rfl
  rw [← e]
  exact q
theorem Ows.snoc {H : Hp} {O : Addr → Prop} : ∀ {ps : List (Md × D)} {vs : List V} {Fs : List (List Addr)} {p : Md × D} {v : V} {F : List Addr}, Ows W H O ps vs Fs → Ow W H O p.1 p.2 v F → Ows W H O (ps ++ [p]) (vs ++ [v]) (Fs ++ [F])
  | [], vs, Fs, p, v, F, h, k => by
    obtain ⟨rfl, rfl⟩ := h
    exact ⟨v, [], F, [], rfl, rfl, k, rfl, rfl⟩
  | q :: ps, vs, Fs, p, v, F, h, k => by
    obtain ⟨w, r, G, Fr, rfl, rfl, h1, h2⟩ := h
    exact ⟨w, r ++ [v], G, Fr ++ [F], rfl, rfl, h1, Ows.snoc h2 k⟩
theorem Ows.off {H : Hp} {O O' : Addr → Prop} (ho : ∀ a, O' a → O a ∨ H a = none) : ∀ {ps : List (Md × D)} {vs : List V} {Fs : List (List Addr)}, Ows W H O ps vs Fs → Ows W H O' ps vs Fs
  | [], _, _, h => h
  | p :: ps, _, _, h => by
    obtain ⟨v, r, F, Fr, e1, e2, h1, h2⟩ := h
    exact ⟨v, r, F, Fr, e1, e2, h1.off ho, Ows.off ho h2⟩
theorem Ows.upd {H : Hp} {O : Addr → Prop} {q : Addr} {o x : HO} (hp : H q = some o) (mu : MutC o) (op : O q) : ∀ {ps : List (Md × D)} {vs : List V} {Fs : List (List Addr)}, q ∉ Fs.flatten → Ows W H O ps vs Fs → Ows W (L2.upd H q x) O ps vs Fs
  | [], _, _, _, h => h
  | p :: ps, _, _, np, h => by
    obtain ⟨v, r, F, Fr, e1, e2, h1, h2⟩ := h
    subst e2
    exact ⟨v, r, F, Fr, e1, rfl, h1.upd hp mu op (fun z => np (List.mem_append_left _ z)), Ows.upd hp mu op (fun z => np (List.mem_append_right _ z)) h2⟩
theorem compL_cons {f : D → Option (Option (Md × D))} {x : D} {xs : List D} {ps tot : List (Md × D)} (h : (compL f (x :: xs)).map (ps ++ ·) = some tot) :
    (f x = some none ∧ (compL f xs).map (ps ++ ·) = some tot) ∨ ∃ p, f x = some (some p) ∧ (compL f xs).map ((ps ++ [p]) ++ ·) = some tot := by
  unfold compL at h
  cases e : f x with
  | none => rw [e] at h; cases h
  | some o =>
    rw [e] at h
    cases o with
    | none => exact .inl ⟨rfl, h⟩
    | some p =>
      refine .inr ⟨p, rfl, ?_⟩
      cases e2 : compL f xs with
      | none => rw [e2] at h; cases h
      | some r =>
        rw [e2] at h
        cases h
        simp
theorem rd_comp {own : List (Str × Nat)} {ts : List Nat} {one : Bool} {s : Sr} {cs : List E} {ce : E} {wi : TI} (hwi : wi = rdI W E0 T s) (hown : own.map (·.2) = ts) :
    ∀ (σ : L2.St) (H : Hp) (Q : VK), rdE W E0 T (.comp ts one s cs ce) σ H Q → tLc wi (gT X.K ts one) (rdC W EF T cs) (rdE W EF T ce) (own.map (·.2)) σ H Q := fun σ H Q ⟨H0, O0, δ, Fs, S, q⟩ => by
  subst hwi
  rw [hown]
  simp only [ev, nm] at q
  refine ⟨H0, O0, δ, Fs, S, ?_⟩
  revert q
  cases evS T s δ with
  | none => exact fun h => h
  | some r =>
    cases r with
    | er C => exact fun h => h
    | ok p =>
      intro q J H1 s1 src dl hD
      generalize hL : nmS s ++ nms cs ++ nm ce = L at q
      obtain ⟨m, ds⟩ := p
      generalize hf : (fun x => (bindT ts one x δ).bind fun e1 => (okOnly (evC T cs e1)).bind fun b => if b = true then (okOnly (ev T ce e1)).map some else some none) = f at q
      have q : rq W E0 H (av O0 Fs L) (match compL f ds with | none => none | some ps => ok (boxM ps, .lst (ps.map Prod.snd))) Q := q
      cases ec : compL f ds with
      | none => rw [ec] at q; exact q.elim
      | some tot =>
        rw [ec] at q
        have q : Res W H (av O0 Fs L) (boxM tot) (.lst (tot.map Prod.snd)) Q := q
        obtain ⟨G, Y, A, wk, hlen, hA, hG, hI⟩ := src.ex
        have iS : ∀ i ∈ nmS s, i ∈ L := fun i hi => by rw [← hL]; simp [hi]
        have iC : ∀ i ∈ nms cs, i ∈ L := fun i hi => by rw [← hL]; simp [hi]
        have iE : ∀ i ∈ nm ce, i ∈ L := fun i hi => by rw [← hL]; simp [hi]
        have SB1 : SB W H1 (av O0 Fs L) σ (maskF L 0 δ) := (S.grow s1).mask L
        refine lc_it wk (Pv := fun i H' => ∃ (ps : List (Md × D)) (acc : List V) (Fs' : List (List Addr)), H' dl = some (.lst acc) ∧ Same H1 H' ∧ Ows W H' (fun a => (av O0 Fs L a ∨ a = dl) ∨ a ∈ Fs'.flatten) ps acc Fs' ∧ Fs'.flatten.Nodup ∧ (∀ a ∈ Fs'.flatten, H1 a = none ∧ a ≠ dl) ∧ acc.length ≤ i ∧ (compL f (ds.drop i)).map (ps ++ ·) = some tot) ?_ ?_ ?_ ?_
        · exact ⟨[], [], [], upd_same, same_new hD, ⟨rfl, rfl⟩, List.nodup_nil, (fun _ z => by cases z), Nat.zero_le _, by simp [ec]⟩
        · rintro i H' hi ⟨ps, acc, Fs', h1, h2, _⟩
          exact hG H' fun a ha o e => h2 a o e
        · rintro i x H2 H3 hi ⟨ps, acc, Fs', h1, h2, h3, h4, h5, h6, h7⟩ hy
          have ei : ds[i]? = some ds[i] := List.getElem?_eq_getElem hi
          have ed : ds.drop i = ds[i] :: ds.drop (i + 1) := List.drop_eq_getElem_cons hi
          rw [ed] at h7
          obtain ⟨z, z1, z2⟩ := hI i _ ei
          have tD : H2 dl ≠ none := by rw [h1]; simp
          have tF : ∀ a ∈ Fs'.flatten, H2 a ≠ none := fun a ha e => by
            obtain ⟨o, e2, _⟩ := h3.there a ha
            rw [e] at e2
            cases e2
          -- what is kept off at this turn
          have SBt : SB W H2 (fun a => (av O0 Fs L a ∨ a = dl) ∨ a ∈ Fs'.flatten) σ (maskF L 0 δ) := by
            refine SB1.more h2 (fun a za => ?_) (fun a za => ?_)
            · rcases za with (za | za) | za
              · exact .inl za
              · exact .inr (by rw [za]; exact hD)
              · exact .inr (h5 a za).1
            · rcases za with (za | za) | za
              · exact fun e => (S.grow s1).av_there a za (h2.free e)
              · rw [za]; exact tD
              · exact tF a za
          have sub : ∀ a, av O0 Fs L a → av O0 Fs (if m = .dp then [] else nmS s) a := fun a za => by
            split
            · exact av_mono (fun i hi => by cases hi) a za
            · exact av_mono iS a za
          have ro : ∀ (dd : TW.D) (vv : V), Rp W H1 (av O0 Fs (if m = .dp then [] else nmS s)) dd vv → Rp W H2 (fun a => (av O0 Fs L a ∨ a = dl) ∨ a ∈ Fs'.flatten) dd vv := fun dd vv r => by
            refine Rp.mono h2 (fun _ z => z) _ _ (Rp.off (fun a za => ?_) _ _ r)
            rcases za with (za | za) | za
            · exact .inl (sub a za)
            · exact .inr (by rw [za]; exact hD)
            · exact .inr (h5 a za).1
          have z3 : reprI W H2 (fun a => (av O0 Fs L a ∨ a = dl) ∨ a ∈ Fs'.flatten) z ds[i] := by
            cases z with
            | inl v => exact ro _ _ z2
            | inr pr =>
              obtain ⟨a, b, e, r1, r2⟩ := z2
              exact ⟨a, b, e, ro _ _ r1, ro _ _ r2⟩
          have hfx : f ds[i] = (bindT ts one ds[i] δ).bind fun e1 => (okOnly (evC T cs e1)).bind fun b => if b = true then (okOnly (ev T ce e1)).map some else some none := by rw [← hf]
          -- the item is bound
          rcases (mask_agr L δ).bind ts one ds[i] with ⟨b1, b2⟩ | ⟨e1, e1', b1, b2, b3⟩
          · rw [b2] at hfx
            rcases compL_cons h7 with ⟨k, _⟩ | ⟨p, k, _⟩ <;> (rw [hfx] at k; cases k)
          · rw [b2] at hfx
            have hfx : f ds[i] = (okOnly (evC T cs e1')).bind fun b => if b = true then (okOnly (ev T ce e1')).map some else some none := hfx
            refine SBt.bind b1 (z1 _ _ _ hy) z3 fun σ2 s3 SB2 hw => ⟨hw, ?_⟩
            have eC : evC T cs e1 = evC T cs e1' := evC_congr cs e1 e1' (b3.sub fun i hi => List.mem_append_right _ (iC i hi))
            have eE : ev T ce e1 = ev T ce e1' := ev_congr ce e1 e1' (b3.sub fun i hi => List.mem_append_right _ (iE i hi))
            refine ⟨H3, _, e1, _, SB2.ss, ?_⟩
            rw [eC]
            cases ev1 : evC T cs e1' with
            | none =>
              rw [ev1] at hfx
              rcases compL_cons h7 with ⟨k, _⟩ | ⟨p, k, _⟩ <;> (rw [hfx] at k; cases k)
            | some r =>
              cases r with
              | er C =>
                rw [ev1] at hfx
                rcases compL_cons h7 with ⟨k, _⟩ | ⟨p, k, _⟩ <;> (rw [hfx] at k; cases k)
              | ok b =>
                rw [ev1] at hfx
                intro H4 s4
                have s24 : Same H2 H4 := s3.trans s4
                cases b with
                | false =>
                  rw [if_neg (by decide)]
                  have hfx : f ds[i] = some none := hfx
                  rcases compL_cons h7 with ⟨_, k⟩ | ⟨p, k, _⟩
                  · exact ⟨ps, acc, Fs', s24 _ _ h1, h2.trans s24, h3.mono s24 (fun _ z => z), h4, h5, by omega, k⟩
                  · rw [hfx] at k; cases k
                | true =>
                  rw [if_pos rfl]
                  have hfx : f ds[i] = (okOnly (ev T ce e1')).map some := hfx
                  have SB4 := SB2.grow s4
                  refine ⟨H4, _, e1, _, SB4.ss, ?_⟩
                  rw [eE]
                  cases ev2 : ev T ce e1' with
                  | none =>
                    rw [ev2] at hfx
                    rcases compL_cons h7 with ⟨k, _⟩ | ⟨p, k, _⟩ <;> (rw [hfx] at k; cases k)
                  | some r =>
                    cases r with
                    | er C =>
                      rw [ev2] at hfx
                      rcases compL_cons h7 with ⟨k, _⟩ | ⟨p, k, _⟩ <;> (rw [hfx] at k; cases k)
                    | ok pr =>
                      rw [ev2] at hfx
                      have hfx : f ds[i] = some (some pr) := hfx
                      rcases compL_cons h7 with ⟨k, _⟩ | ⟨p', k, k2⟩
                      · rw [hfx] at k; cases k
                      rw [hfx] at k
                      cases k
                      intro y H5 F s5 n5 nd5 ow5
                      have s25 : Same H2 H5 := s24.trans s5
                      have hD5 : H5 dl = some (.lst acc) := s25 _ _ h1
                      have nF5 : ∀ a ∈ F, H2 a = none := fun a ha => s24.free (n5 a ha)
                      have tF5 : ∀ a ∈ F, H5 a ≠ none := fun a ha e => by
                        obtain ⟨o, e2, _⟩ := ow5.there a ha
                        rw [e] at e2
                        cases e2
                      have neF : ∀ a ∈ F, a ≠ dl := fun a ha e => by rw [e] at ha; exact tD (nF5 dl ha)
                      refine ⟨acc, hD5, Nat.lt_of_le_of_lt h6 (Nat.lt_of_lt_of_le hi hlen), ps ++ [pr], acc ++ [y], Fs' ++ [F], upd_same, fun b o e => ?_, ?_, ?_, fun a ha => ?_, ?_, k2⟩
                      · rw [upd_ne (ne_of_none e hD)]
                        exact s25 _ _ (h2 _ _ e)
                      · have ef : (Fs' ++ [F]).flatten = Fs'.flatten ++ F := by simp
                        rw [ef]
                        refine Ows.upd (O := fun a => (av O0 Fs L a ∨ a = dl) ∨ a ∈ Fs'.flatten ++ F) hD5 trivial (.inl (.inr rfl)) ?_ (Ows.snoc ?_ ?_)
                        · rw [ef]
                          intro z
                          rcases List.mem_append.mp z with z | z
                          · exact (h5 dl z).2 rfl
                          · exact neF dl z rfl
                        · refine (h3.off fun a za => ?_).mono s25 fun _ z => z
                          rcases za with za | za
                          · exact .inl (.inl za)
                          · rcases List.mem_append.mp za with za | za
                            · exact .inl (.inr za)
                            · exact .inr (nF5 a za)
                        · refine ow5.mono (Same.refl H5) fun a za => ?_
                          rcases za with za | za
                          · exact .inl (.inl (.inl za))
                          · rcases List.mem_append.mp za with za | za
                            · exact .inl (.inl (.inr za))
                            · exact .inr za
                      · have ef : (Fs' ++ [F]).flatten = Fs'.flatten ++ F := by simp
                        rw [ef]
                        exact List.nodup_append.mpr ⟨h4, nd5, fun a ha b hb e => by subst e; exact tF a ha (nF5 a hb)⟩
                      · have ef : (Fs' ++ [F]).flatten = Fs'.flatten ++ F := by simp
                        rw [ef] at ha
                        rcases List.mem_append.mp ha with ha | ha
                        · exact h5 a ha
                        · exact ⟨h2.free (nF5 a ha), neF a ha⟩
                      · rw [List.length_append, List.length_singleton]
                        omega
        · rintro H' ⟨ps, acc, Fs', h1, h2, h3, h4, h5, h6, h7⟩
          have e0 : ds.drop ds.length = [] := List.drop_length
          rw [e0] at h7
          have h7 : some (ps ++ []) = some tot := h7
          rw [List.append_nil] at h7
          cases h7
          -- the list stands; its cell is new
          have nH : H dl = none := s1.free hD
          unfold boxM at q
          split at q
          · rename_i c
            refine q _ _ (dl :: Fs'.flatten) (s1.trans h2) (fun a ha => ?_) (List.nodup_cons.mpr ⟨fun z => (h5 dl z).2 rfl, h4⟩) ⟨dl, acc, Fs'.flatten, rfl, rfl, h1, ?_, h3.dqs c⟩
            · rcases List.mem_cons.mp ha with rfl | ha
              · exact nH
              · exact s1.free (h5 a ha).1
            · exact Nat.le_trans h6 hlen
          · refine q _ _ [dl] (s1.trans h2) (fun a ha => by rw [List.mem_singleton.mp ha]; exact nH) (by simp) ⟨dl, acc, rfl, rfl, h1, Nat.le_trans h6 hlen, ?_⟩
            refine h3.rps (fun a za => ?_) (fun a ha za => ?_)
            · rcases za with za | za
              · exact .inl (.inl za)
              · exact .inl (.inr (List.mem_singleton.mp za))
            · rcases za with za | za
              · exact S.av_there a za (s1.free (h5 a ha).1)
              · exact (h5 a ha).2 (List.mem_singleton.mp za)
theorem c_comp {elt tg iter : Expr} {ifs : List Expr} {scope : Scope} {own : List (Str × Nat)} {pos : Pos} {ts : List Nat} {one : Bool} {s : Sr} {cs : List E} {ce : E} (hc : X.calm = true) (hN : X.N.Nodup)
    (hi : PI X tg iter (rdI W E0 T s)) (ok : BlkOk X.N X.env.scope scope own) (hown : own.map (·.2) = ts)
    (hg : ∀ (s : Shared) (H : Hp) (C : Addr) (cl : List (Str × Addr)) (fp : List Addr), PG (X.blk s H scope (compEnvC scope cl C X.env) fp) tg (gT X.K ts one)) (ht : ∀ (s : Shared) (H : Hp) (C : Addr) (cl : List (Str × Addr)) (fp : List Addr), PTs (X.blk s H scope (compEnvC scope cl C X.env) fp) ifs (rdC W EF T cs))
    (he : ∀ (s : Shared) (H : Hp) (C : Addr) (cl : List (Str × Addr)) (fp : List Addr), PE (X.blk s H scope (compEnvC scope cl C X.env) fp) elt (rdE W EF T ce))
    (hs : ∀ x, foldedSetIterable iter X.env x = pure x := by intro _; rfl) : PE X (.ListComp elt [⟨tg, iter, ifs, 0⟩] scope pos) (rdE W E0 T (.comp ts one s cs ce)) :=
  (pe_lc hc hN hi ok hg ht he hs).imp fun σ H Q h => rd_comp rfl hown σ H Q h
end
end TW

set_option Elab.async false
set_option linter.all false
set_option maxRecDepth 100000
set_option maxHeartbeats 4000000
namespace TW
open PySem PySem.Spec PyProof.Rows L2

structure Evo (H : Hp) (Fs : List (List Addr)) (H' : Hp) (Fs' : List (List Addr)) : Prop where
  keep : ∀ b o, H b = some o → b ∉ Fs.flatten → H' b = some o
  sub : ∀ a ∈ Fs'.flatten, a ∈ Fs.flatten ∨ H a = none
  there : ∀ b, H b ≠ none → H' b ≠ none
section
variable {H H1 H2 : Hp} {Fs Fs1 Fs2 : List (List Addr)}
theorem Evo.refl : Evo H Fs H Fs := ⟨fun _ _ e _ => e, fun _ h => .inl h, fun _ h => h⟩
theorem Evo.trans (a : Evo H Fs H1 Fs1) (b : Evo H1 Fs1 H2 Fs2) : Evo H Fs H2 Fs2 := by
  refine ⟨fun c o e n => b.keep c o (a.keep c o e n) fun z => ?_, fun c h => ?_, fun c h => b.there c (a.there c h)⟩
  · rcases a.sub c z with z | z
    · exact n z
    · rw [e] at z; cases z
  · rcases b.sub c h with z | z
    · exact a.sub c z
    · cases e : H c with
      | none => exact .inr rfl
      | some o => exact absurd z (a.there c (by rw [e]; simp))
theorem Evo.grow (s : Same H H1) (h : ∀ a ∈ Fs1.flatten, a ∈ Fs.flatten ∨ H a = none) : Evo H Fs H1 Fs1 := ⟨fun b o e _ => s b o e, h, fun b h z => h (s.free z)⟩
theorem Evo.rp {W : Wd} {O : Addr → Prop} (e : Evo H Fs H1 Fs1) (ht : ∀ a ∈ Fs.flatten, ∃ o, H a = some o ∧ MutC o) {O' : Addr → Prop} (hO : ∀ a, a ∈ Fs.flatten → O a) (hO' : ∀ a, O' a → O a ∨ H a = none) : ∀ (d : D) (v : V), Rp W H O d v → Rp W H1 O' d v := by
  have key : ∀ a u, H a = some u → ¬ MutC u → H1 a = some u := fun a u h n => e.keep a u h fun z => by
    obtain ⟨o, h2, m⟩ := ht a z
    rw [h] at h2
    cases h2
    exact n m
  intro d
  induction d using D.rec (motive_2 := fun ds => ∀ vs, Rps W H O ds vs → Rps W H1 O' ds vs) with
  | non => exact fun v h => h
  | bl b => exact fun v h => h
  | int i => exact fun v h => h
  | str x => exact fun v h => h
  | fn x => exact fun v h => h
  | exc C => exact fun v h => h
  | tup ds ih =>
    intro v h
    obtain ⟨a, vs, e1, h1, h2, h3⟩ := h
    exact ⟨a, vs, e1, key a _ h1 (fun z => z), h2, ih vs h3⟩
  | lst ds ih =>
    intro v h
    obtain ⟨a, vs, e1, h0, h1, h2, h3⟩ := h
    exact ⟨a, vs, e1, fun z => (hO' a z).elim h0 (fun q => by rw [h1] at q; cases q), e.keep a _ h1 (fun z => h0 (hO a z)), h2, ih vs h3⟩
  | scr ns =>
    intro v h
    obtain ⟨a, e1, h1, h2⟩ := h
    refine ⟨a, e1, ?_, h2⟩
    rcases h1 with ⟨o, h1⟩ | h1
    · exact .inl ⟨o, key a _ h1 (fun z => z)⟩
    · exact .inr h1
  | dic ks =>
    intro v h
    obtain ⟨a, e1, h0, h1, h2⟩ := h
    exact ⟨a, e1, fun z => (hO' a z).elim h0 (fun q => by rw [h1] at q; cases q), e.keep a _ h1 (fun z => h0 (hO a z)), h2⟩
  | ins C f d ih =>
    intro v h
    obtain ⟨a, dx, fv, e1, h1, h3⟩ := h
    exact ⟨a, dx, fv, e1, key a _ h1 (fun z => z), ih fv h3⟩
  | nil => rename_i h; exact h
  | cons d ds ih1 ih2 =>
    rename_i vs h
    obtain ⟨v, r, e1, h1, h2⟩ := h
    exact ⟨v, r, e1, ih1 v h1, ih2 r h2⟩
end

def clr : List Nat → List (List Addr) → List (List Addr)
  | [], Fs => Fs
  | i :: is, Fs => clr is (Fs.set i [])
theorem mem_set_flat {Fs : List (List Addr)} {i : Nat} {F : List Addr} {a : Addr} (h : a ∈ (Fs.set i F).flatten) : a ∈ F ∨ ∃ j, j ≠ i ∧ a ∈ Fs.getD j [] := by
  obtain ⟨j, hj⟩ := flat_ix h
  rw [List.getD_eq_getElem?_getD] at hj
  by_cases e : i = j
  · subst e
    by_cases hl : i < Fs.length
    · rw [List.getElem?_set_self hl] at hj
      exact .inl hj
    · rw [List.getElem?_eq_none (by rw [List.length_set]; omega)] at hj
      cases hj
  · rw [List.getElem?_set_ne e] at hj
    exact .inr ⟨j, fun z => e z.symm, by rw [List.getD_eq_getElem?_getD]; exact hj⟩
theorem getD_set_ne {Fs : List (List Addr)} {i j : Nat} {F : List Addr} (h : i ≠ j) : (Fs.set i F).getD j [] = Fs.getD j [] := by
  rw [List.getD_eq_getElem?_getD, List.getD_eq_getElem?_getD, List.getElem?_set_ne h]
theorem getD_set_self {Fs : List (List Addr)} {i : Nat} {F : List Addr} (h : i < Fs.length) : (Fs.set i F).getD i [] = F := by
  rw [List.getD_eq_getElem?_getD, List.getElem?_set_self h]
  rfl
theorem flat_cons (F : List Addr) (Fs : List (List Addr)) : (F :: Fs).flatten = F ++ Fs.flatten := rfl
theorem nodup_set : ∀ {Fs : List (List Addr)} (i : Nat) {F : List Addr}, Fs.flatten.Nodup → F.Nodup → (∀ a ∈ F, a ∉ Fs.flatten) → (Fs.set i F).flatten.Nodup
  | [], i, F, h, _, _ => by simpa using h
  | G :: Gs, 0, F, h, nF, d => by
    rw [List.set_cons_zero, flat_cons]
    rw [flat_cons] at h d
    obtain ⟨h1, h2, h3⟩ := List.nodup_append.mp h
    exact List.nodup_append.mpr ⟨nF, h2, fun a ha b hb e => d a ha (by rw [e]; exact List.mem_append_right _ hb)⟩
  | G :: Gs, i + 1, F, h, nF, d => by
    rw [List.set_cons_succ, flat_cons]
    rw [flat_cons] at h d
    obtain ⟨h1, h2, h3⟩ := List.nodup_append.mp h
    refine List.nodup_append.mpr ⟨h1, nodup_set i h2 nF fun a ha z => d a ha (List.mem_append_right _ z), fun a ha b hb e => ?_⟩
    subst e
    rcases mem_set_flat hb with z | ⟨j, _, z⟩
    · exact d a z (List.mem_append_left _ ha)
    · exact h3 a ha a (mem_flat z) rfl
section
variable {W : Wd} {H0 H : Hp} {O0 : Addr → Prop} {σ : L2.St} {δ : Dn} {Fs : List (List Addr)}
theorem SS.put {F : List Addr} (S : SS W H0 (fun a => O0 a ∨ a ∈ F) H σ δ Fs) (hO : ∀ a ∈ F, ¬ O0 a) {i : Nat} {m : Md} {d : D} {v : V} (nd : F.Nodup) (n0 : ∀ a ∈ F, H0 a = none) (ow : Ow W H (fun a => (O0 a ∨ a ∈ Fs.flatten) ∨ a ∈ F) m d v F) :
    SS W H0 O0 H (σ.set i (some v)) (δ.set i (some (m, d))) (Fs.set i F) := by
  have sub : ∀ a, (O0 a ∨ a ∈ (Fs.set i F).flatten) → (O0 a ∨ a ∈ F) ∨ a ∈ Fs.flatten := fun a z => by
    rcases z with z | z
    · exact .inl (.inl z)
    · rcases mem_set_flat z with z | ⟨j, _, z⟩
      · exact .inl (.inr z)
      · exact .inr (mem_flat z)
  refine ⟨S.same, by rw [List.length_set, List.length_set]; exact S.len, by rw [List.length_set, List.length_set]; exact S.lenF, fun j p e => ?_, nodup_set i S.nod nd (fun a ha z => S.offF a (.inr ha) z), fun a ha => ?_, fun a za ha => ?_, fun a za => S.oldT a (.inl za), fun a ha => ?_, fun j e => ?_⟩
  · by_cases h : i = j
    · subst h
      by_cases hl : i < δ.length
      · rw [List.getElem?_set_self hl] at e
        cases e
        have hl' : i < σ.length := by rw [← S.len]; exact hl
        refine ⟨v, List.getElem?_set_self hl', ?_⟩
        rw [getD_set_self (by rw [S.lenF]; exact hl')]
        refine ow.mono (Same.refl H) fun a z => ?_
        rcases sub a z with (z | z) | z
        · exact .inl (.inl z)
        · exact .inr z
        · exact .inl (.inr z)
      · rw [List.getElem?_eq_none (by rw [List.length_set]; omega)] at e
        cases e
    · rw [List.getElem?_set_ne h] at e ⊢
      obtain ⟨w, h1, h2⟩ := S.slot j p e
      refine ⟨w, h1, ?_⟩
      rw [getD_set_ne h]
      exact h2.mono (Same.refl H) sub
  · rcases mem_set_flat ha with z | ⟨j, _, z⟩
    · exact n0 a z
    · exact S.new a (mem_flat z)
  · rcases mem_set_flat ha with z | ⟨j, _, z⟩
    · exact hO a z za
    · exact S.offF a (.inl za) (mem_flat z)
  · rcases mem_set_flat ha with z | ⟨j, _, z⟩
    · exact ow.there a z
    · exact S.there a (mem_flat z)
  · by_cases h : i = j
    · subst h
      by_cases hl : i < δ.length
      · rw [List.getElem?_set_self hl] at e; cases e
      · rw [List.getElem?_eq_none (by rw [List.length_set]; omega)] at e; cases e
    · rw [List.getElem?_set_ne h] at e
      rw [getD_set_ne h]
      exact S.mt j e
theorem SS.putS (S : SS W H0 O0 H σ δ Fs) {i : Nat} {d : D} {v : V} (r : Rp W H (fun a => O0 a ∨ a ∈ Fs.flatten) d v) : SS W H0 O0 H (σ.set i (some v)) (δ.set i (some (.sh, d))) (Fs.set i []) := by
  refine SS.put (F := []) ⟨S.same, S.len, S.lenF, fun j p e => ?_, S.nod, S.new, fun a z => S.offF a (z.elim id fun q => by cases q), fun a z => S.oldT a (z.elim id fun q => by cases q), S.there, S.mt⟩ (fun _ z => by cases z) List.nodup_nil (fun _ z => by cases z) ⟨rfl, Rp.mono (Same.refl H) (fun a z => z.elim id fun q => by cases q) _ _ r⟩
  obtain ⟨w, h1, h2⟩ := S.slot j p e
  exact ⟨w, h1, h2.mono (Same.refl H) fun a z => z.elim (fun z => .inl (z.elim id fun q => by cases q)) .inr⟩
theorem set_sub {i : Nat} : ∀ a ∈ (Fs.set i []).flatten, a ∈ Fs.flatten := fun a ha => by
  rcases mem_set_flat ha with z | ⟨j, _, z⟩
  · cases z
  · exact mem_flat z
theorem SS.frz1 (S : SS W H0 O0 H σ δ Fs) (i : Nat) : SS W H0 O0 H σ (match δ[i]? with | some s => δ.set i (frzS s) | none => δ) (Fs.set i []) := by
  cases e : δ[i]? with
  | none =>
    have : Fs.set i [] = Fs := List.set_eq_of_length_le (by rw [S.lenF, ← S.len]; exact List.getElem?_eq_none_iff.mp e)
    rw [this]
    exact S
  | some s =>
    have hi : i < δ.length := (List.getElem?_eq_some_iff.mp e).1
    have sub : ∀ a, (O0 a ∨ a ∈ (Fs.set i []).flatten) → O0 a ∨ a ∈ Fs.flatten := fun a z => z.elim .inl fun z => .inr (set_sub a z)
    refine ⟨S.same, by rw [List.length_set]; exact S.len, by rw [List.length_set]; exact S.lenF, fun j p ej => ?_, nodup_set i S.nod List.nodup_nil (fun _ z => by cases z), fun a ha => S.new a (set_sub a ha), fun a za ha => S.offF a za (set_sub a ha), S.oldT, fun a ha => S.there a (set_sub a ha), fun j ej => ?_⟩
    · by_cases h : i = j
      · subst h
        rw [List.getElem?_set_self hi] at ej
        cases s with
        | none => cases ej
        | some q =>
          cases ej
          obtain ⟨v, h1, h2⟩ := S.slot i q e
          refine ⟨v, h1, ?_⟩
          rw [getD_set_self (by rw [S.lenF, ← S.len]; exact hi)]
          refine ⟨rfl, h2.rp sub fun a ha z => ?_⟩
          rcases z with z | z
          · exact S.offF a z (mem_flat ha)
          · rcases mem_set_flat z with z | ⟨j, hj, z⟩
            · cases z
            · exact hj (flat_inj S.nod z ha)
      · rw [List.getElem?_set_ne h] at ej
        obtain ⟨v, h1, h2⟩ := S.slot j p ej
        refine ⟨v, h1, ?_⟩
        rw [getD_set_ne h]
        exact h2.mono (Same.refl H) sub
    · by_cases h : i = j
      · subst h
        exact getD_set_self (by rw [S.lenF, ← S.len]; exact hi)
      · rw [List.getElem?_set_ne h] at ej
        rw [getD_set_ne h]
        exact S.mt j ej
theorem SS.frz : ∀ (is : List Nat) {δ : Dn} {Fs : List (List Addr)}, SS W H0 O0 H σ δ Fs → SS W H0 O0 H σ (frz is δ) (clr is Fs)
  | [], _, _, S => S
  | i :: is, _, _, S => SS.frz is (S.frz1 i)
theorem clr_mem : ∀ (is : List Nat) {Fs : List (List Addr)} {a : Addr}, a ∈ (clr is Fs).flatten → a ∈ Fs.flatten ∧ ∃ j, j ∉ is ∧ a ∈ Fs.getD j []
  | [], Fs, a, h => ⟨h, let ⟨j, hj⟩ := flat_ix h; ⟨j, by simp, hj⟩⟩
  | i :: is, Fs, a, h => by
    obtain ⟨h1, j, h2, h3⟩ := clr_mem is h
    refine ⟨set_sub a h1, ?_⟩
    by_cases e : i = j
    · subst e
      by_cases hl : i < Fs.length
      · rw [getD_set_self hl] at h3; cases h3
      · rw [List.getD_eq_getElem?_getD, List.getElem?_eq_none (by rw [List.length_set]; omega)] at h3; cases h3
    · rw [getD_set_ne e] at h3
      exact ⟨j, by simp only [List.mem_cons, not_or]; exact ⟨fun z => e z.symm, h2⟩, h3⟩
theorem SS.unowned (S : SS W H0 O0 H σ δ Fs) {i : Nat} (h : (match δ[i]? with | some s => ownS s | none => false) = false) : Fs.getD i [] = [] := by
  cases e : δ[i]? with
  | none =>
    rw [List.getD_eq_getElem?_getD, List.getElem?_eq_none (by rw [S.lenF, ← S.len]; exact List.getElem?_eq_none_iff.mp e)]
    rfl
  | some s =>
    rw [e] at h
    cases s with
    | none => exact S.mt i e
    | some p =>
      obtain ⟨v, h1, h2⟩ := S.slot i p e
      obtain ⟨m, d⟩ := p
      cases m with
      | sh => exact h2.1
      | fl => cases h
      | dp => cases h
end
end TW

set_option Elab.async false
set_option linter.all false
set_option maxRecDepth 100000
set_option maxHeartbeats 4000000
namespace TW
open PySem PySem.Spec PyProof.Rows L2

def rqf (W : Wd) (E0 : XK) (H0 : Hp) (O0 : Addr → Prop) (H : Hp) (Fs : List (List Addr)) (r : M Fl) (D : Ends) : Prop := match r with
  | none => False
  | some (.er C) => ∀ H', Same H0 H' → E0 (.ref (W.ca C)) none H'
  | some (.ok (.nx δ')) => ∀ σ' H' Fs', SS W H0 O0 H' σ' δ' Fs' → Evo H Fs H' Fs' → D.nx σ' H'
  | some (.ok (.rt m d)) => ∀ v H' F, Same H0 H' → (∀ a ∈ F, H0 a = none) → F.Nodup → Ow W H' (fun p => O0 p ∨ p ∈ F) m d v F → D.rt v H'
def rdS (W : Wd) (E0 : XK) (T : Tb) (c : S) : TS := fun D σ H => ∃ H0 O0 δ Fs, SS W H0 O0 H σ δ Fs ∧ rqf W E0 H0 O0 H Fs (ex T c δ) D
def rdSs (W : Wd) (E0 : XK) (T : Tb) (cs : List S) : TS := fun D σ H => ∃ H0 O0 δ Fs, SS W H0 O0 H σ δ Fs ∧ rqf W E0 H0 O0 H Fs (exs T cs δ) D
section
variable {W : Wd} {E0 : XK} {H0 H H1 : Hp} {O0 : Addr → Prop} {Fs Fs1 : List (List Addr)} {D : Ends}
theorem rqf_none : ¬ rqf W E0 H0 O0 H Fs none D := fun h => h
theorem rqf_er (s : Same H0 H) {C : Nat} (h : rqf W E0 H0 O0 H Fs (some (.er C)) D) : ∀ H', Same H H' → E0 (.ref (W.ca C)) none H' := fun H' s' => h H' (s.trans s')
theorem rqf.evo {r : M Fl} (h : rqf W E0 H0 O0 H Fs r D) (e : Evo H Fs H1 Fs1) : rqf W E0 H0 O0 H1 Fs1 r D := by
  match r, h with
  | none, h => exact h
  | some (.er C), h => exact h
  | some (.ok (.nx δ')), h => exact fun σ' H' Fs' S' e' => h σ' H' Fs' S' (e.trans e')
  | some (.ok (.rt m d)), h => exact h
end
section
variable {W : Wd} {E0 : XK} {T : Tb} {X : Cx}
theorem s_nil : PSs X [] (rdSs W E0 T []) := pss_nil.imp fun D σ H ⟨H0, O0, δ, Fs, S, q⟩ => by
  simp only [exs] at q
  exact q σ H Fs S Evo.refl
theorem s_cons {st : Stmt} {rest : List Stmt} {c : S} {cs : List S} (h1 : PS X st (rdS W E0 T c)) (h2 : PSs X rest (rdSs W E0 T cs)) : PSs X (st :: rest) (rdSs W E0 T (c :: cs)) :=
  (pss_cons h1 h2).imp fun D σ H ⟨H0, O0, δ, Fs, S, q⟩ => by
    simp only [exs] at q
    refine ⟨H0, O0, δ, Fs, S, ?_⟩
    revert q
    cases ex T c δ with
    | none => exact fun h => h
    | some r =>
      cases r with
      | er C => exact fun h => h
      | ok fl =>
        cases fl with
        | rt m d => exact fun h => h
        | nx δ' => exact fun h σ' H' Fs' S' e' => ⟨H0, O0, δ', Fs', S', rqf.evo h e'⟩
theorem give_ok {H0 H H1 : Hp} {O0 : Addr → Prop} {σ : L2.St} {δ : Dn} {Fs : List (List Addr)} {ns : List Nat} {m : Md} {d : TW.D} {v : V} {F : List Addr} (S : SS W H0 O0 H σ δ Fs) (s1 : Same H H1) (n1 : ∀ a ∈ F, H a = none)
    (ow : Ow W H1 (fun q => av O0 Fs ns q ∨ q ∈ F) m d v F) : ∃ Fs2, SS W H0 (fun a => O0 a ∨ a ∈ F) H1 σ (give ns m d δ) Fs2 ∧ (∀ a ∈ Fs2.flatten, a ∈ Fs.flatten) ∧ Ow W H1 (fun a => (O0 a ∨ a ∈ Fs2.flatten) ∨ a ∈ F) m d v F := by
  have t1 : ∀ a ∈ F, H1 a ≠ none := fun a ha z => by
    obtain ⟨o, e, _⟩ := ow.there a ha
    rw [z] at e
    cases e
  have S1 := S.more s1 n1 t1
  unfold give
  split
  · split
    · rename_i c
      refine ⟨Fs, S1, fun a h => h, ?_⟩
      have := ow.dq c
      cases m with
      | dp => exact this
      | sh =>
        obtain ⟨rfl, r⟩ := ow
        exact Ow.sh_any r c
      | fl =>
        cases e : flatTop d with
        | false =>
          rw [Ow.fl_other e] at ow ⊢
          rw [closed_other e] at c
          exact ⟨ow.1, ow.2.any c⟩
        | true =>
          cases d with
          | lst ds =>
            obtain ⟨a, vs, e1, e2, h1, h2, h3⟩ := ow
            exact ⟨a, vs, e1, e2, h1, h2, Dqs.rp _ _ _ (Rps.dq _ _ h3 c) (fun _ z => by cases z)⟩
          | dic ks => exact this
          | _ => cases e
    · refine ⟨clr ns Fs, SS.frz ns S1, fun a h => (clr_mem ns h).1, ow.mono (Same.refl H1) fun a z => ?_⟩
      rcases z with (z | z) | z
      · exact .inl (.inl z)
      · obtain ⟨_, j, h1, h2⟩ := clr_mem ns z
        exact .inl (.inr ⟨j, h1, h2⟩)
      · exact .inr z
  · rename_i hn
    refine ⟨Fs, S1, fun a h => h, ow.mono (Same.refl H1) fun a z => ?_⟩
    rcases z with (z | z) | z
    · exact .inl (.inl z)
    · obtain ⟨j, hj⟩ := flat_ix z
      refine .inl (.inr ⟨j, fun hm => ?_, hj⟩)
      have hu : (match δ[j]? with | some s => ownS s | none => false) = false := by
        cases q : (match δ[j]? with | some s => ownS s | none => false) with
        | false => rfl
        | true => exact absurd (List.any_eq_true.mpr ⟨j, hm, q⟩) hn
      rw [S.unowned hu] at hj
      cases hj
    · exact .inr z
theorem put_keep {H0 H : Hp} {O0 : Addr → Prop} {σ : L2.St} {δ : Dn} {Fs : List (List Addr)} {F : List Addr} (S : SS W H0 (fun a => O0 a ∨ a ∈ F) H σ δ Fs) (hO : ∀ a ∈ F, ¬ O0 a) {i : Nat} {m : Md} {d : TW.D} {v : V} (nd : F.Nodup) (n0 : ∀ a ∈ F, H0 a = none)
    (ow : Ow W H (fun a => (O0 a ∨ a ∈ Fs.flatten) ∨ a ∈ F) m d v F) : ∃ F', SS W H0 O0 H (σ.set i (some v)) (δ.set i (some (keep m d))) (Fs.set i F') ∧ ∀ a ∈ F', a ∈ F := by
  unfold keep
  split
  · rename_i c
    have l : lfree d = true := by cases d <;> first | rfl | cases c
    have r : Rp W H (fun _ => False) d v := ow.rp (fun a z => z.elim) (fun a _ z => z)
    have hF : F = [] := by
      have q := ow
      cases m with
      | sh => exact q.1
      | dp => cases d <;> first | exact q.2 | cases c
      | fl => cases d <;> first | exact q.1 | cases c
    subst hF
    exact ⟨[], SS.put S (fun _ z => by cases z) List.nodup_nil (fun _ z => by cases z) ⟨rfl, r.any l⟩, fun _ z => z⟩
  · exact ⟨F, SS.put S hO nd n0 ow, fun _ z => z⟩
theorem s_asg {i : Nat} {x : Str} {e : Expr} {c : E} {pos pos' : Pos} (hN : X.N.Nodup) (he : PE X e (rdE W E0 T c)) (hi : X.N[i]? = some x := by rfl) (hx : Loc X.env.scope x := by first | exact Or.inl rfl | exact Or.inr rfl)
    (hs : swapsWith e (some (.Name x pos')) pos.line X.env = pure false := by rfl) (hf : X.fn x = true ∨ X.env.scope.names.lookup x = some .local := by first | exact .inl rfl | exact .inr rfl) :
    PS X (.Assign [.Name x pos'] e pos) (rdS W E0 T (.asg i c)) :=
  (ps_set hN hi hx he hs hf).imp fun D σ H ⟨H0, O0, δ, Fs, S, q⟩ => by
    simp only [ex] at q
    refine ⟨H0, O0, δ, Fs, S, rq_bnd' (G := fun z => rqf W E0 H0 O0 H Fs z D) rqf_none (fun C h => rqf_er S.same h) q fun p h1 => ?_⟩
    intro v H1 F s1 n1 nd1 ow1
    obtain ⟨Fs2, S2, sub, ow2⟩ := give_ok S s1 n1 ow1
    obtain ⟨F', S3, sF⟩ := put_keep (i := i) S2 (fun a ha z => S.oldT a z (n1 a ha)) nd1 (fun a ha => S.same.free (n1 a ha)) ow2
    refine h1 _ H1 _ S3 (Evo.grow s1 fun a ha => ?_)
    rcases mem_set_flat ha with z | ⟨j, _, z⟩
    · exact .inr (n1 a (sF a z))
    · exact .inl (sub a (mem_flat z))
theorem s_asgLc {i : Nat} {y : Str} {py : Pos} {elt tg iter : Expr} {ifs : List Expr} {scope : Scope} {own : List (Str × Nat)} {pos spos : Pos} {ts : List Nat} {one : Bool} {s : Sr} {cs : List E} {ce : E} (hc : X.calm = true) (hN : X.N.Nodup)
    (hi : PI X tg iter (rdI W E0 T s)) (ok : BlkOk X.N X.env.scope scope own) (hown : own.map (·.2) = ts)
    (hg : ∀ (s : Shared) (H : Hp) (C : Addr) (cl : List (Str × Addr)) (fp : List Addr), PG (X.blk s H scope (compEnvC scope cl C X.env) fp) tg (gT X.K ts one)) (ht : ∀ (s : Shared) (H : Hp) (C : Addr) (cl : List (Str × Addr)) (fp : List Addr), PTs (X.blk s H scope (compEnvC scope cl C X.env) fp) ifs (rdC W EF T cs))
    (he : ∀ (s : Shared) (H : Hp) (C : Addr) (cl : List (Str × Addr)) (fp : List Addr), PE (X.blk s H scope (compEnvC scope cl C X.env) fp) elt (rdE W EF T ce))
    (hy : X.N[i]? = some y := by rfl) (hyl : X.env.scope.names.lookup y = some .local := by rfl) (hsw : swapsWith (.ListComp elt [⟨tg, iter, ifs, 0⟩] scope pos) (some (.Name y py)) spos.line X.env = pure true := by exact sw_true rfl rfl rfl (by decide +kernel))
    (hs : ∀ x, foldedSetIterable iter X.env x = pure x := by intro _; rfl) :
    PS X (.Assign [.Name y py] (.ListComp elt [⟨tg, iter, ifs, 0⟩] scope pos) spos) (rdS W E0 T (.asg i (.comp ts one s cs ce))) :=
  (ps_setLc hc hN hy hyl hsw hi ok hg ht he hs).imp fun D σ H ⟨H0, O0, δ, Fs, S, q⟩ => by
    simp only [ex] at q
    refine rd_comp (X := X) (own := own) rfl hown σ H _ ⟨H0, O0, δ, Fs, S, rq_bnd' (G := fun z => rqf W E0 H0 O0 H Fs z D) rqf_none (fun C h => rqf_er S.same h) q fun p h1 => ?_⟩
    intro v H1 F s1 n1 nd1 ow1
    obtain ⟨Fs2, S2, sub, ow2⟩ := give_ok S s1 n1 ow1
    obtain ⟨F', S3, sF⟩ := put_keep (i := i) S2 (fun a ha z => S.oldT a z (n1 a ha)) nd1 (fun a ha => S.same.free (n1 a ha)) ow2
    refine h1 _ H1 _ S3 (Evo.grow s1 fun a ha => ?_)
    rcases mem_set_flat ha with z | ⟨j, _, z⟩
    · exact .inr (n1 a (sF a z))
    · exact .inl (sub a (mem_flat z))
theorem s_exp {e : Expr} {c : E} {pos : Pos} (he : PE X e (rdE W E0 T c)) (hs : swapsWith e none pos.line X.env = pure false := by rfl) : PS X (.Expr e pos) (rdS W E0 T (.exp c)) :=
  (ps_expr he hs).imp fun D σ H ⟨H0, O0, δ, Fs, S, q⟩ => by
    simp only [ex] at q
    refine ⟨H0, O0, δ, Fs, S, rq_bnd' (G := fun z => rqf W E0 H0 O0 H Fs z D) rqf_none (fun C h => rqf_er S.same h) q fun p h1 => ?_⟩
    intro v H1 F s1 n1 nd1 ow1
    exact h1 _ H1 _ (S.grow s1) (Evo.grow s1 fun a ha => .inl ha)
theorem s_if {c : Expr} {a b : List Stmt} {cc : E} {ca cb : List S} {pos : Pos} (hc : PT X c (rdT W E0 T cc)) (ha : PSs X a (rdSs W E0 T ca)) (hb : PSs X b (rdSs W E0 T cb)) : PS X (.If c a b pos) (rdS W E0 T (.ife cc ca cb)) :=
  (ps_if hc ha hb).imp fun D σ H ⟨H0, O0, δ, Fs, S, q⟩ => by
    have e : ex T (.ife cc ca cb) δ = bnd (evB T cc δ) fun k => if k then exs T ca δ else exs T cb δ := by
      unfold evB
      simp only [ex]
      cases ev T cc δ with
      | none => rfl
      | some r =>
        cases r with
        | er C => rfl
        | ok p =>
          show (match boolD p.2 with | none => none | some true => exs T ca δ | some false => exs T cb δ) = bnd (lift (boolD p.2)) _
          cases boolD p.2 with
          | none => rfl
          | some k => cases k <;> rfl
    rw [e] at q
    refine ⟨H0, O0, δ, Fs, S, rqb_bnd' (G := fun z => rqf W E0 H0 O0 H Fs z D) rqf_none (fun C h => rqf_er S.same h) q fun k h1 H' s => ?_⟩
    have ev1 : Evo H Fs H' Fs := Evo.grow s fun a ha => .inl ha
    cases k with
    | true =>
      rw [if_pos rfl]
      exact ⟨H0, O0, δ, Fs, S.grow s, rqf.evo h1 ev1⟩
    | false =>
      rw [if_neg (by decide)]
      exact ⟨H0, O0, δ, Fs, S.grow s, rqf.evo h1 ev1⟩
theorem s_aug {i : Nat} {x : Str} {e : Expr} {c : E} {pos pos' : Pos} (hN : X.N.Nodup) (he : PE X e (rdE W E0 T c)) (hi : X.N[i]? = some x := by rfl) (hx : Loc X.env.scope x := by first | exact Or.inl rfl | exact Or.inr rfl)
    (hf : X.fn x = true ∨ X.env.scope.names.lookup x = some .local := by first | exact .inl rfl | exact .inr rfl) : PS X (.AugAssign (.Name x pos') .Add e pos) (rdS W E0 T (.aug i c)) :=
  (ps_aug hN hi hx he ip_add hf).imp fun D σ H ⟨H0, O0, δ, Fs, S, q⟩ => by
    simp only [ex] at q
    cases ei : δ[i]? with
    | none => rw [ei] at q; exact q.elim
    | some s =>
      rw [ei] at q
      cases s with
      | none => exact q.elim
      | some pr =>
        obtain ⟨m, d⟩ := pr
        cases d with
        | int n =>
          have q : rqf W E0 H0 O0 H Fs (bnd (ev T c δ) fun p => lift ((intD p.2).map fun k => Fl.nx (δ.set i (some (.sh, .int (n + k)))))) D := q
          obtain ⟨v, h1, h2⟩ := S.var (p := (m, .int n)) (i := i) ei (T := [i]) (by simp)
          have h2 : v = .int n := h2
          subst h2
          refine ⟨.int n, h1, H0, O0, δ, Fs, S, rq_bnd' (G := fun z => rqf W E0 H0 O0 H Fs z D) rqf_none (fun C h => rqf_er S.same h) q fun p h1 => ?_⟩
          intro w H1 F s1 n1 nd1 ow1
          cases ek : intD p.2 with
          | none => rw [ek] at h1; exact h1.elim
          | some k =>
            rw [ek] at h1
            have r := ow1.rpv (O1 := fun _ => False) (fun _ z => z.elim) (fun _ z => z.elim) n1
            rw [intD_eq ek] at r
            exact ⟨n, k, rfl, r, h1 _ H1 _ ((S.grow s1).putS (d := .int (n + k)) rfl) (Evo.grow s1 fun a ha => .inl (set_sub a ha))⟩
        | _ => exact q.elim
theorem gives_ok {H0 H H1 : Hp} {O0 : Addr → Prop} {σ : L2.St} {δ : Dn} {Fs : List (List Addr)} {ns : List Nat} {ps : List (Md × TW.D)} {vs : List V} {Gs : List (List Addr)} (S : SS W H0 O0 H σ δ Fs) (s1 : Same H H1) (n1 : ∀ a ∈ Gs.flatten, H a = none)
    (ow : Ows W H1 (fun q => av O0 Fs ns q ∨ q ∈ Gs.flatten) ps vs Gs) : ∃ Fs2, SS W H0 (fun a => O0 a ∨ a ∈ Gs.flatten) H1 σ (gives ns ps δ) Fs2 ∧ (∀ a ∈ Fs2.flatten, a ∈ Fs.flatten) ∧ Ows W H1 (fun a => (O0 a ∨ a ∈ Fs2.flatten) ∨ a ∈ Gs.flatten) ps vs Gs := by
  have t1 : ∀ a ∈ Gs.flatten, H1 a ≠ none := fun a ha z => by
    obtain ⟨o, e, _⟩ := ow.there a ha
    rw [z] at e
    cases e
  have S1 := S.more s1 n1 t1
  unfold gives
  split
  · split
    · rename_i c
      refine ⟨Fs, S1, fun a h => h, ?_⟩
      clear t1 S1 n1
      -- closed values reach no other cells
      have key : ∀ {ps : List (Md × TW.D)} {vs : List V} {Gs : List (List Addr)} {O O' : Addr → Prop}, closeds ps = true → Ows W H1 O ps vs Gs → Ows W H1 O' ps vs Gs := by
        intro ps
        induction ps with
        | nil => exact fun _ h => h
        | cons p ps ih =>
          intro vs Gs O O' c h
          obtain ⟨w, r, G, Fr, rfl, rfl, h1, h2⟩ := h
          obtain ⟨c1, c2⟩ := Bool.and_eq_true_iff.mp (show (closed p.1 p.2 && closeds ps) = true from c)
          refine ⟨w, r, G, Fr, rfl, rfl, ?_, ih c2 h2⟩
          have hd := h1.dq c1
          obtain ⟨m, d⟩ := p
          cases m with
          | dp => exact hd
          | sh =>
            obtain ⟨rfl, r⟩ := h1
            exact Ow.sh_any r c1
          | fl =>
            cases e : flatTop d with
            | false =>
              have h1 : Ow W H1 O .fl d w G := h1
              show Ow W H1 O' .fl d w G
              rw [Ow.fl_other e] at h1 ⊢
              have c1 : closed .fl d = true := c1
              rw [closed_other e] at c1
              exact ⟨h1.1, h1.2.any c1⟩
            | true =>
              cases d with
              | lst ds =>
                obtain ⟨a, vs, e1, e2, g1, g2, g3⟩ := h1
                exact ⟨a, vs, e1, e2, g1, g2, Dqs.rp _ _ _ (Rps.dq _ _ g3 c1) (fun _ z => by cases z)⟩
              | dic ks => exact hd
              | _ => cases e
      exact key c ow
    · refine ⟨clr ns Fs, SS.frz ns S1, fun a h => (clr_mem ns h).1, ow.mono (Same.refl H1) fun a z => ?_⟩
      rcases z with (z | z) | z
      · exact .inl (.inl z)
      · obtain ⟨_, j, h1, h2⟩ := clr_mem ns z
        exact .inl (.inr ⟨j, h1, h2⟩)
      · exact .inr z
  · rename_i hn
    refine ⟨Fs, S1, fun a h => h, ow.mono (Same.refl H1) fun a z => ?_⟩
    rcases z with (z | z) | z
    · exact .inl (.inl z)
    · obtain ⟨j, hj⟩ := flat_ix z
      refine .inl (.inr ⟨j, fun hm => ?_, hj⟩)
      have hu : (match δ[j]? with | some s => ownS s | none => false) = false := by
        cases q : (match δ[j]? with | some s => ownS s | none => false) with
        | false => rfl
        | true => exact absurd (List.any_eq_true.mpr ⟨j, hm, q⟩) hn
      rw [S.unowned hu] at hj
      cases hj
    · exact .inr z
def setV : List Nat → List V → L2.St → L2.St
  | i :: is, v :: vs, σ => setV is vs (σ.set i (some v))
  | _, _, σ => σ
theorem put_all {H0 H : Hp} {O0 : Addr → Prop} : ∀ {is : List Nat} {ps : List (Md × TW.D)} {vs : List V} {Gs : List (List Addr)} {σ : L2.St} {δ δ' : Dn} {Fs : List (List Addr)}, SS W H0 (fun a => O0 a ∨ a ∈ Gs.flatten) H σ δ Fs → (∀ a ∈ Gs.flatten, ¬ O0 a) → Gs.flatten.Nodup → (∀ a ∈ Gs.flatten, H0 a = none) →
    Ows W H (fun a => (O0 a ∨ a ∈ Fs.flatten) ∨ a ∈ Gs.flatten) ps vs Gs → setAll is ps δ = some δ' → ∃ Fs', SS W H0 O0 H (setV is vs σ) δ' Fs' ∧ ∀ a ∈ Fs'.flatten, a ∈ Fs.flatten ∨ a ∈ Gs.flatten
  | [], [], vs, Gs, σ, δ, δ', Fs, S, hO, nd, n0, ow, h => by
    obtain ⟨rfl, rfl⟩ := ow
    cases h
    exact ⟨Fs, ⟨S.same, S.len, S.lenF, fun j p e => let ⟨w, h1, h2⟩ := S.slot j p e; ⟨w, h1, h2.mono (Same.refl H) fun a z => z.elim (fun z => .inl (.inl z)) .inr⟩, S.nod, S.new, fun a z => S.offF a (.inl z), fun a z => S.oldT a (.inl z), S.there, S.mt⟩, fun a h => .inl h⟩
  | i :: is, p :: ps, vs, Gs, σ, δ, δ', Fs, S, hO, nd, n0, ow, h => by
    obtain ⟨w, r, G, Fr, rfl, rfl, h1, h2⟩ := ow
    have h : setAll is ps (δ.set i (some (keep p.1 p.2))) = some δ' := h
    rw [flat_cons] at nd
    obtain ⟨nd1, nd2, nd3⟩ := List.nodup_append.mp nd
    have S' : SS W H0 (fun a => (O0 a ∨ a ∈ Fr.flatten) ∨ a ∈ G) H σ δ Fs := by
      refine ⟨S.same, S.len, S.lenF, fun j p e => let ⟨w, h1, h2⟩ := S.slot j p e; ⟨w, h1, h2.mono (Same.refl H) fun a z => ?_⟩, S.nod, S.new, fun a z => S.offF a ?_, fun a z => S.oldT a ?_, S.there, S.mt⟩
      · rcases z with ((z | z) | z) | z
        · exact .inl (.inl z)
        · exact .inl (.inr (List.mem_append_right _ z))
        · exact .inl (.inr (List.mem_append_left _ z))
        · exact .inr z
      · rcases z with (z | z) | z
        · exact .inl z
        · exact .inr (List.mem_append_right _ z)
        · exact .inr (List.mem_append_left _ z)
      · rcases z with (z | z) | z
        · exact .inl z
        · exact .inr (List.mem_append_right _ z)
        · exact .inr (List.mem_append_left _ z)
    have k1 : ∀ a ∈ G, ¬ (O0 a ∨ a ∈ Fr.flatten) := fun a ha z => by
      rcases z with z | z
      · exact hO a (List.mem_append_left _ ha) z
      · exact nd3 a ha a z rfl
    have k2 : Ow W H (fun a => ((O0 a ∨ a ∈ Fr.flatten) ∨ a ∈ Fs.flatten) ∨ a ∈ G) p.1 p.2 w G := h1.mono (Same.refl H) fun a z => by
      rcases z with ((z | z) | z) | z
      · exact .inl (.inl z)
      · exact .inr (List.mem_append_right _ z)
      · exact .inl (.inr z)
      · exact .inr (List.mem_append_left _ z)
    obtain ⟨F', S2, sF⟩ := put_keep (O0 := fun a => O0 a ∨ a ∈ Fr.flatten) (i := i) (m := p.1) (d := p.2) (v := w) S' k1 nd1 (fun a ha => n0 a (List.mem_append_left _ ha)) k2
    have hh : ∀ a, a ∈ (Fs.set i F').flatten → a ∈ Fs.flatten ∨ a ∈ G := fun a ha => by
      rcases mem_set_flat ha with z | ⟨j, _, z⟩
      · exact .inr (sF a z)
      · exact .inl (mem_flat z)
    have k3 : Ows W H (fun a => (O0 a ∨ a ∈ (Fs.set i F').flatten) ∨ a ∈ Fr.flatten) ps r Fr := h2.mono (Same.refl H) fun a z => by
      rcases z with (z | z) | z
      · exact .inl (.inl z)
      · rcases hh a z with z | z
        · exact .inl (.inr z)
        · exact .inr (List.mem_append_left _ z)
      · exact .inr (List.mem_append_right _ z)
    obtain ⟨Fs', S3, s3⟩ := put_all (is := is) (ps := ps) S2 (fun a ha => hO a (List.mem_append_right _ ha)) nd2 (fun a ha => n0 a (List.mem_append_right _ ha)) k3 h
    refine ⟨Fs', S3, fun a ha => ?_⟩
    rcases s3 a ha with z | z
    · rcases hh a z with z | z
      · exact .inl z
      · exact .inr (List.mem_append_left _ z)
    · exact .inr (List.mem_append_right _ z)
  | [], p :: ps, vs, Gs, σ, δ, δ', Fs, S, hO, nd, n0, ow, h => by cases h
  | i :: is, [], vs, Gs, σ, δ, δ', Fs, S, hO, nd, n0, ow, h => by cases h
theorem rd_par {cs : List E} {is : List Nat} {D : Ends} {σ : L2.St} {H : Hp} (h : rdS W E0 T (.par is cs) D σ H) : rdA W E0 T cs σ H (fun vs H1 => D.nx (setV is vs σ) H1 ∧ vs.length = cs.length) := by
  obtain ⟨H0, O0, δ, Fs, S, q⟩ := h
  simp only [ex] at q
  refine ⟨H0, O0, δ, Fs, S, rqs_bnd2 (G := fun z => rqf W E0 H0 O0 H Fs z D) rqf_none (fun C h => rqf_er S.same h) q fun ps e h1 vs H1 Gs s1 n1 nd1 ow1 => ⟨?_, by rw [ow1.length, evs_len e]⟩⟩
  obtain ⟨Fs2, S2, sub, ow2⟩ := gives_ok S s1 n1 ow1
  cases ea : setAll is ps (gives (nms cs) ps δ) with
  | none => rw [ea] at h1; exact h1.elim
  | some δ' =>
    rw [ea] at h1
    obtain ⟨Fs3, S3, s3⟩ := put_all S2 (fun a ha z => S.oldT a z (n1 a ha)) nd1 (fun a ha => S.same.free (n1 a ha)) ow2 ea
    refine h1 _ H1 _ S3 (Evo.grow s1 fun a ha => ?_)
    rcases s3 a ha with z | z
    · exact .inl (sub a z)
    · exact .inr (n1 a z)
theorem s_par {i j : Nat} {x y : Str} {a b : Expr} {ca cb : E} {px py pt pos : Pos} {kt k2 pt2} (hc : X.calm = true) (hN : X.N.Nodup) (ha : PA X [a, b] (rdA W E0 T [ca, cb])) (hi : X.N[i]? = some x := by rfl) (hj : X.N[j]? = some y := by rfl) (hij : i ≠ j := by decide)
    (hx : X.env.scope.names.lookup x = some .local := by rfl) (hy : X.env.scope.names.lookup y = some .local := by rfl)
    (hw : swappedStores [.Tuple [.Name x px, .Name y py] kt pt] (.Tuple [a, b] k2 pt2) X.env = pure (some [x, y]) := by rfl) (hs : swapsWithSole [.Tuple [.Name x px, .Name y py] kt pt] (.Tuple [a, b] k2 pt2) pos.line X.env = pure false := by rfl) :
    PS X (.Assign [.Tuple [.Name x px, .Name y py] kt pt] (.Tuple [a, b] k2 pt2) pos) (rdS W E0 T (.par [i, j] [ca, cb])) :=
  (ps_par hc hN hi hj hij hx hy ha hw hs).imp fun D σ H h => by
    have h := rd_par h
    obtain ⟨H0, O0, δ, Fs, S, q⟩ := h
    refine ⟨H0, O0, δ, Fs, S, ?_⟩
    revert q
    cases evs T [ca, cb] δ with
    | none => exact fun h => h
    | some r =>
      cases r with
      | er C => exact fun h => h
      | ok ps =>
        intro q vs H1 Gs s1 n1 nd1 ow1
        obtain ⟨q1, q2⟩ := q vs H1 Gs s1 n1 nd1 ow1
        match vs, q2, q1 with
        | [v, w], _, q1 => exact ⟨v, w, rfl, q1⟩
end
end TW

set_option Elab.async false
set_option linter.all false
set_option maxRecDepth 100000
set_option maxHeartbeats 4000000
namespace TW
open PySem PySem.Spec PyProof.Rows L2

section
variable {W : Wd} {E0 : XK} {T : Tb} {X : Cx}
def rqr (W : Wd) (E0 : XK) (O0 : Addr → Prop) (H : Hp) (Fs : List (List Addr)) (ns : List Nat) (r : M (Md × D)) (Q : VK) : Prop := match r with
  | none => False
  | some (.er C) => ∀ H', Same H H' → E0 (.ref (W.ca C)) none H'
  | some (.ok p) => ∀ v H' F, Same H H' → (∀ a ∈ F, H a = none ∨ ∃ i, i ∈ ns ∧ a ∈ Fs.getD i []) → F.Nodup → Ow W H' (fun q => O0 q ∨ q ∈ F) p.1 p.2 v F → Q v H'
def rdR (W : Wd) (E0 : XK) (T : Tb) (c : E) : TE := fun σ H Q => ∃ H0 O0 δ Fs, SS W H0 O0 H σ δ Fs ∧ rqr W E0 O0 H Fs (mv c) (evr T c δ) Q
def rqrs (W : Wd) (E0 : XK) (O0 : Addr → Prop) (H : Hp) (Fs : List (List Addr)) (ns : List Nat) (r : M (List (Md × D))) (Q : List V → Hp → Prop) : Prop := match r with
  | none => False
  | some (.er C) => ∀ H', Same H H' → E0 (.ref (W.ca C)) none H'
  | some (.ok ps) => ∀ vs H' Gs, Same H H' → (∀ a ∈ Gs.flatten, H a = none ∨ ∃ i, i ∈ ns ∧ a ∈ Fs.getD i []) → (ns.Nodup → Gs.flatten.Nodup) → Ows W H' O0 ps vs Gs → Q vs H'
def rdRA (W : Wd) (E0 : XK) (T : Tb) (cs : List E) : TA := fun σ H Q => ∃ H0 O0 δ Fs, SS W H0 O0 H σ δ Fs ∧ rqrs W E0 O0 H Fs (mvs cs) (evrs T cs δ) Q
theorem rqr.mono {O0 : Addr → Prop} {H H1 : Hp} {Fs : List (List Addr)} {ns ns' : List Nat} {r : M (Md × D)} {Q : VK} (h : rqr W E0 O0 H Fs ns r Q) (s : Same H H1) (hn : ∀ i ∈ ns', i ∈ ns) : rqr W E0 O0 H1 Fs ns' r Q := by
  match r, h with
  | none, h => exact h
  | some (.er C), h => exact fun H' s' => h H' (s.trans s')
  | some (.ok p), h => exact fun v H' F s' n nd ow => h v H' F (s.trans s') (fun a ha => (n a ha).imp s.free fun ⟨i, h1, h2⟩ => ⟨i, hn i h1, h2⟩) nd ow
theorem r_var (i : Nat) {x : Str} {pos : Pos} (hN : X.N[i]? = some x := by rfl) (hv : Vis X.env.scope x := by first | exact Or.inl rfl | exact Or.inr (Or.inl rfl) | exact Or.inr (Or.inr rfl)) (hd : (x == ("__debug__" : Str)) = false := by decide)
    (hcd : (x == ("__classdict__" : Str)) = false := by decide) : PE X (.Name x pos) (rdR W E0 T (.var i)) := (pv i hN hv hd hcd).imp fun σ H Q ⟨H0, O0, δ, Fs, S, q⟩ => by
  simp only [evr] at q
  cases e : δ[i]? with
  | none => rw [e] at q; exact q.elim
  | some o =>
    cases o with
    | none => rw [e] at q; exact q.elim
    | some p =>
      rw [e] at q
      obtain ⟨v, h1, h2⟩ := S.slot i p e
      refine ⟨v, h1, q v H (Fs.getD i []) (Same.refl H) (fun a ha => .inr ⟨i, by simp [mv], ha⟩) ?_ (h2.mono (Same.refl H) fun a z => z.imp_right mem_flat)⟩
      have nd := S.nod
      clear h2 h1 q e
      cases hf : Fs[i]? with
      | none =>
        rw [List.getD_eq_getElem?_getD, hf]
        exact List.nodup_nil
      | some F =>
        rw [List.getD_eq_getElem?_getD, hf]
        exact nd.sublist (List.sublist_flatten_of_mem (List.mem_of_getElem? hf))
theorem r_of {e : Expr} {c : E} (h : PE X e (rdE W E0 T c)) (he : ∀ δ, evr T c δ = ev T c δ := by intro _; rfl) : PE X e (rdR W E0 T c) := h.imp fun σ H Q ⟨H0, O0, δ, Fs, S, q⟩ => by
  refine ⟨H0, O0, δ, Fs, S, ?_⟩
  rw [he] at q
  revert q
  cases ev T c δ with
  | none => exact fun h => h
  | some r =>
    cases r with
    | er C => exact fun h => h
    | ok p => exact fun h v H' F s n nd ow => h v H' F s (fun a ha => .inl (n a ha)) nd (ow.mono (Same.refl _) fun a z => z.imp_left .inl)
theorem evr_ite {c a b : E} {δ : Dn} : evr T (.ite c a b) δ = bnd (evB T c δ) fun k => if k then evr T a δ else evr T b δ := by
  unfold evB
  simp only [evr]
  cases ev T c δ with
  | none => rfl
  | some r =>
    cases r with
    | er C => rfl
    | ok p =>
      show (match boolD p.2 with | none => none | some true => evr T a δ | some false => evr T b δ) = bnd (lift (boolD p.2)) _
      cases boolD p.2 with
      | none => rfl
      | some k => cases k <;> rfl
theorem r_ite {c a b : Expr} {cc ca cb : E} {pos : Pos} (hc : PT X c (rdT W E0 T cc)) (ha : PE X a (rdR W E0 T ca)) (hb : PE X b (rdR W E0 T cb)) : PE X (.IfExp c a b pos) (rdR W E0 T (.ite cc ca cb)) :=
  (pe_ifExp hc ha hb).imp fun σ H Q ⟨H0, O0, δ, Fs, S, q⟩ => by
    rw [evr_ite] at q
    simp only [mv] at q
    refine ⟨H0, O0, δ, Fs, S, rqb_bnd' (G := fun z => rqr W E0 O0 H Fs (mv ca ++ mv cb) z Q) (fun h => h) (fun C h => h) q fun k h1 H' s => ?_⟩
    cases k with
    | true =>
      rw [if_pos rfl]
      exact ⟨H0, O0, δ, Fs, S.grow s, rqr.mono h1 s fun i hi => List.mem_append_left _ hi⟩
    | false =>
      rw [if_neg (by decide)]
      exact ⟨H0, O0, δ, Fs, S.grow s, rqr.mono h1 s fun i hi => List.mem_append_right _ hi⟩
theorem ra_nil : PA X [] (rdRA W E0 T []) := pa_nil.imp fun σ H Q ⟨H0, O0, δ, Fs, S, q⟩ => by
  simp only [evrs] at q
  exact q [] H [] (Same.refl H) (fun _ z => by cases z) (fun _ => List.nodup_nil) ⟨rfl, rfl⟩
theorem ra_cons {e : Expr} {es : List Expr} {c : E} {cs : List E} (he : PE X e (rdR W E0 T c)) (hs : PA X es (rdRA W E0 T cs)) (hst : starEach (e :: es) X.env = (false, eval e X.env) :: starEach es X.env := by rfl) : PA X (e :: es) (rdRA W E0 T (c :: cs)) :=
  (pa_cons he hs hst).imp fun σ H Q ⟨H0, O0, δ, Fs, S, q⟩ => by
    simp only [evrs, mvs] at q
    refine ⟨H0, O0, δ, Fs, S, ?_⟩
    revert q
    cases evr T c δ with
    | none => exact fun h => h
    | some r =>
      cases r with
      | er C => exact fun h => h
      | ok p =>
        intro q v1 H1 F1 s1 n1 nd1 ow1
        have q : rqrs W E0 O0 H Fs (mv c ++ mvs cs) (bnd (evrs T cs δ) fun ps => ok (p :: ps)) Q := q
        refine ⟨H0, O0, δ, Fs, S.grow s1, ?_⟩
        revert q
        cases evrs T cs δ with
        | none => exact fun h => h
        | some r =>
          cases r with
          | er C => exact fun h H' s' => h H' (s1.trans s')
          | ok ps =>
            intro q vs H2 Gs s2 n2 nd2 ow2
            have t1 : ∀ a ∈ F1, H1 a ≠ none := fun a ha z => by
              obtain ⟨o, e, _⟩ := ow1.there a ha
              rw [z] at e
              cases e
            refine q (v1 :: vs) H2 (F1 :: Gs) (s1.trans s2) (fun a ha => ?_) (fun nn => ?_) ⟨v1, vs, F1, Gs, rfl, rfl, ow1.mono s2 (fun a z => .inl z), ow2⟩
            · rcases List.mem_append.mp (show a ∈ F1 ++ Gs.flatten from ha) with ha | ha
              · exact (n1 a ha).imp_right fun ⟨i, h1, h2⟩ => ⟨i, List.mem_append_left _ h1, h2⟩
              · exact (n2 a ha).imp s1.free fun ⟨i, h1, h2⟩ => ⟨i, List.mem_append_right _ h1, h2⟩
            · obtain ⟨k1, k2, k3⟩ := List.nodup_append.mp nn
              rw [flat_cons]
              refine List.nodup_append.mpr ⟨nd1, nd2 k2, fun a ha b hb e => ?_⟩
              subst e
              rcases n2 a hb with z | ⟨j, j1, j2⟩
              · exact t1 a ha z
              · rcases n1 a ha with z | ⟨i, i1, i2⟩
                · obtain ⟨o, e, _⟩ := S.there a (mem_flat j2)
                  rw [z] at e
                  cases e
                · exact k3 i i1 j j1 (flat_inj S.nod i2 j2)
theorem evrs_len : ∀ {cs : List E} {δ : Dn} {ps : List (Md × D)}, evrs T cs δ = some (.ok ps) → ps.length = cs.length
  | [], δ, ps, h => by
    simp only [evrs] at h
    cases h
    rfl
  | c :: cs, δ, ps, h => by
    simp only [evrs] at h
    cases e : evr T c δ with
    | none => rw [e] at h; cases h
    | some r =>
      cases r with
      | er C => rw [e] at h; cases h
      | ok p =>
        rw [e] at h
        have h : bnd (evrs T cs δ) (fun ps => ok (p :: ps)) = some (.ok ps) := h
        cases e2 : evrs T cs δ with
        | none => rw [e2] at h; cases h
        | some r2 =>
          cases r2 with
          | er C => rw [e2] at h; cases h
          | ok qs =>
            rw [e2] at h
            cases h
            rw [List.length_cons, List.length_cons, evrs_len e2]
theorem r_tup {es : List Expr} {cs : List E} {x1} {pos : Pos} (h : PA X es (rdRA W E0 T cs)) (hl : Nat.ble cs.length 1000 = true := by rfl) : PE X (.Tuple es x1 pos) (rdR W E0 T (.tup cs)) :=
  (pe_tup h).imp fun σ H Q ⟨H0, O0, δ, Fs, S, q⟩ => by
    simp only [evr, mv] at q
    refine ⟨H0, O0, δ, Fs, S, ?_⟩
    revert q
    cases er : evrs T cs δ with
    | none => exact fun h => h
    | some r =>
      cases r with
      | er C => exact fun h => h
      | ok ps =>
        intro q vs H1 Gs s1 n1 nd1 ow1
        have hl2 : vs.length ≤ sizeLine := by
          rw [ow1.length, evrs_len er]
          exact len_ok hl
        have q : ∀ v H' F, Same H H' → (∀ a ∈ F, H a = none ∨ ∃ i, i ∈ mvs cs ∧ a ∈ Fs.getD i []) → F.Nodup → Ow W H' (fun q => O0 q ∨ q ∈ F) (if (mvs cs).Nodup then tupM ps else .sh) (.tup (ps.map Prod.snd)) v F → Q v H' := q
        refine ⟨hl2, fun p np => ?_⟩
        have s2 := same_new (o := .tup vs) np
        have rr : Rps W H1 O0 (ps.map Prod.snd) vs := ow1.rps (fun a z => z) fun a ha z => by
          rcases n1 a ha with h | ⟨i, _, h⟩
          · exact S.oldT a z h
          · exact S.offF a z (mem_flat h)
        have share : ∀ m, m = Md.sh → Ow W (L2.upd H1 p (.tup vs)) (fun q => O0 q ∨ q ∈ ([] : List Addr)) m (.tup (ps.map Prod.snd)) (.ref p) [] := fun m e => by
          rw [e]
          exact ⟨rfl, p, vs, rfl, upd_same, hl2, Rps.mono s2 (fun a z => z.elim id fun q => by cases q) _ _ rr⟩
        by_cases hn : (mvs cs).Nodup
        · rw [if_pos hn] at q
          unfold tupM at q
          split at q
          · rename_i c
            exact q _ _ Gs.flatten (s1.trans s2) n1 (nd1 hn) ⟨p, vs, rfl, upd_same, hl2, Dqs.mono s2 _ _ _ (ow1.dqs c)⟩
          · exact q _ _ [] (s1.trans s2) (fun _ z => by cases z) List.nodup_nil (share _ rfl)
        · rw [if_neg hn] at q
          exact q _ _ [] (s1.trans s2) (fun _ z => by cases z) List.nodup_nil (share _ rfl)
theorem s_ret {e : Expr} {c : E} {pos : Pos} (he : PE X e (rdR W E0 T c)) : PS X (.Return (some e) pos) (rdS W E0 T (.ret c)) :=
  (ps_ret he).imp fun D σ H ⟨H0, O0, δ, Fs, S, q⟩ => by
    simp only [ex] at q
    refine ⟨H0, O0, δ, Fs, S, ?_⟩
    revert q
    cases evr T c δ with
    | none => exact fun h => h
    | some r =>
      cases r with
      | er C => exact fun h => rqf_er S.same h
      | ok p =>
        intro q v H1 F s1 n1 nd1 ow1
        refine q v H1 F (S.same.trans s1) (fun a ha => ?_) nd1 ow1
        rcases n1 a ha with h | ⟨i, _, h⟩
        · exact S.same.free h
        · exact S.new a (mem_flat h)
theorem s_rai {C : Nat} {x m : Str} {j : Nat} {p p2 pos pos' : Pos} (hK : X.K = W.K) (hc : X.calm = true) (tk : Takes X (fun cls d _ H => E0 cls d H)) (q : PySem.W.excIn W.K (W.ca C) He.veBase "ValueError.__new__" = true) (gC : X.mg x = some (.ref (W.ca C))) (kC : PySem.W.keepIn W.K (.ref (W.ca C)) = true)
    (bP : PySem.W.subIn W.K (.ref (W.ca C)) (.type "BaseException") = some true) (tP : PySem.W.typeIn W.K (.ref (W.ca C)) = some (.type "type")) (hg : Gl X x) (hdb : (x == ("__debug__" : Str)) = false := by decide) :
    PS X (.Raise (some (.Call (.Name x p) [.Constant (.str m) j p2] [] pos)) none pos') (rdS W E0 T (.rai C)) := by
  rw [← hK] at q kC bP tP
  exact (ps_raise hc tk (pmk_own PySem.F.excBase_ValueError q gC kC (raises_own bP tP) hg hdb)).imp fun D σ H ⟨H0, O0, δ, Fs, S, q⟩ => by
    simp only [ex] at q
    exact q H S.same
end
end TW

set_option Elab.async false
set_option linter.all false
set_option maxRecDepth 100000
set_option maxHeartbeats 4000000
namespace TW
open PySem PySem.Spec PyProof.Rows L2

section
variable {W : Wd} {E0 : XK} {T : Tb} {X : Cx}
theorem yields_same {z : Sum V (V × V)} {H : Hp} {x : V} {H1 : Hp} (hy : yields z H x H1) : Same H H1 := by
  cases z with
  | inl v => rw [hy.1]; exact Same.refl H
  | inr p => obtain ⟨t, _, h1, h2⟩ := hy; rw [h2]; exact same_new h1
theorem SS.bind {K : PySem.W.Frag} {H0 H H1 : Hp} {O0 : Addr → Prop} {σ : L2.St} {δ e1 : Dn} {Fs : List (List Addr)} (S : SS W H0 O0 H σ δ Fs) {ts : List Nat} {one : Bool} {d : D} {z : Sum V (V × V)} {x : V} (hb : bindT ts one d δ = some e1) (hy : yields z H x H1)
    (hr : reprI W H (fun a => O0 a ∨ a ∈ Fs.flatten) z d) {Q : L2.St → Hp → Prop} (hQ : ∀ σ2 Fs2, SS W H0 O0 H1 σ2 e1 Fs2 → Evo H Fs H1 Fs2 → Q σ2 H1) : gT K ts one x σ H1 Q := by
  have sm := yields_same hy
  have S1 := S.grow sm
  unfold bindT at hb
  split at hb
  · rename_i i
    cases hb
    have r : Rp W H1 (fun a => O0 a ∨ a ∈ Fs.flatten) d x := by
      cases z with
      | inl v => obtain ⟨e1, e2⟩ := hy; rw [e1, e2]; exact hr
      | inr p =>
        obtain ⟨t, e0, h1, h2⟩ := hy
        obtain ⟨a, b, e3, r1, r2⟩ := hr
        rw [e3, e0, h2]
        exact ⟨t, [p.1, p.2], rfl, upd_same, (show (2 : Nat) ≤ sizeLine by decide), p.1, [p.2], rfl, Rp.mono (same_new h1) (fun _ z => z) _ _ r1, p.2, [], rfl, Rp.mono (same_new h1) (fun _ z => z) _ _ r2, rfl⟩
    exact hQ _ _ (S1.putS (i := i) r) (Evo.grow sm fun a ha => .inl (set_sub a ha))
  · rename_i i j a b
    cases hb
    have hx : ∃ t va vb, x = .ref t ∧ H1 t = some (.tup [va, vb]) ∧ Rp W H1 (fun a => O0 a ∨ a ∈ Fs.flatten) a va ∧ Rp W H1 (fun a => O0 a ∨ a ∈ Fs.flatten) b vb := by
      cases z with
      | inl v =>
        obtain ⟨e1, e2⟩ := hy
        obtain ⟨t, vs, e3, h1, h2, va, r1, rfl, ra, vb, r2, rfl, rb, r3⟩ := hr
        rw [e1, e2]
        have : r2 = [] := r3
        subst this
        exact ⟨t, va, vb, e3, h1, ra, rb⟩
      | inr p =>
        obtain ⟨t, e0, h1, h2⟩ := hy
        obtain ⟨a', b', e3, r1, r2⟩ := hr
        cases e3
        refine ⟨t, p.1, p.2, e0, by rw [h2]; exact upd_same, ?_, ?_⟩
        · rw [h2]; exact Rp.mono (same_new h1) (fun _ z => z) _ _ r1
        · rw [h2]; exact Rp.mono (same_new h1) (fun _ z => z) _ _ r2
    obtain ⟨t, va, vb, e0, ht, ra, rb⟩ := hx
    refine ⟨t, [va, vb], e0, .inl (.inl ht), rfl, va, [vb], rfl, vb, [], rfl, rfl, ?_⟩
    exact hQ _ _ ((S1.putS (i := i) ra).putS (i := j) (Rp.mono (Same.refl _) (fun a z => z.imp_right (set_sub a)) _ _ rb)) (Evo.grow sm fun a ha => .inl (set_sub a (set_sub a ha)))
  · cases hb
theorem s_for {tg iter : Expr} {body : List Stmt} {ts : List Nat} {one : Bool} {s : Sr} {b : List S} {pos : Pos} (hp : PassesOwn (model X.prog X.w) X.A X.env X.xe) (hc : X.calm = true) (hi : PI X tg iter (rdI W E0 T s)) (hg : PG X tg (gT X.K ts one)) (hb : PSs X body (rdSs W E0 T b))
    (hs : ∀ x, foldedSetIterable iter X.env x = pure x := by intro _; rfl) : PS X (.For tg iter body [] pos) (rdS W E0 T (.for_ ts one s b)) :=
  (ps_for hp hc hi hg hb hs).imp fun D σ H ⟨H0, O0, δ, Fs, S, q⟩ => by
    simp only [ex] at q
    refine ⟨H0, O0, δ, Fs, S, ?_⟩
    revert q
    cases evS T s δ with
    | none => exact fun h => h
    | some r =>
      cases r with
      | er C => exact fun h => rqf_er S.same h
      | ok p =>
        obtain ⟨m, ds⟩ := p
        intro q J H1 s1 src
        generalize hst : (fun (x : TW.D) (e1 : Dn) => (match bindT ts one x e1 with | none => none | some e2 => exs T b e2 : M Fl)) = step at q
        have q : rqf W E0 H0 O0 H Fs (forL step ds (if m = .dp then δ else frz (nmS s) δ)) D := q
        obtain ⟨G, Y, A, wk, hlen, hA, hG, hI⟩ := src.ex
        -- the state at the loop's start
        have st : ∃ δ1 Fs1, SS W H0 O0 H1 σ δ1 Fs1 ∧ (if m = .dp then δ else frz (nmS s) δ) = δ1 ∧ (∀ a ∈ Fs1.flatten, a ∈ Fs.flatten) ∧ ∀ a ∈ Fs1.flatten, av O0 Fs (if m = .dp then [] else nmS s) a := by
          by_cases hm : m = .dp
          · rw [if_pos hm, if_pos hm]
            exact ⟨δ, Fs, S.grow s1, rfl, fun a h => h, fun a ha => let ⟨j, hj⟩ := flat_ix ha; .inr ⟨j, by simp, hj⟩⟩
          · rw [if_neg hm, if_neg hm]
            exact ⟨_, _, SS.frz (nmS s) (S.grow s1), rfl, fun a h => (clr_mem _ h).1, fun a ha => let ⟨_, j, h1, h2⟩ := clr_mem _ ha; .inr ⟨j, h1, h2⟩⟩
        obtain ⟨δ1, Fs1, S1, e1, sub1, av1⟩ := st
        rw [e1] at q
        generalize hO : av O0 Fs (if m = .dp then [] else nmS s) = O at av1 hA hI
        have hO0 : ∀ a, O0 a → O a := fun a z => by rw [← hO]; exact .inl z
        have ev1 : Evo H Fs H1 Fs1 := Evo.grow s1 fun a ha => .inl (sub1 a ha)
        refine for_it wk (Pv := fun i σ' H' => ∃ δ' Fs', SS W H0 O0 H' σ' δ' Fs' ∧ Evo H1 Fs1 H' Fs' ∧ rqf W E0 H0 O0 H Fs (forL step (ds.drop i) δ') D) ?_ ?_ ?_ ?_
        · exact ⟨δ1, Fs1, S1, Evo.refl, q⟩
        · rintro i σ' H' hi ⟨δ', Fs', S', e', _⟩
          refine hG H' fun a ha o e => e'.keep a o e fun z => ?_
          obtain ⟨o2, e2, m2⟩ := S1.there a z
          obtain ⟨o3, e3, h3⟩ := hA a ha
          rw [e3] at e2
          cases e2
          exact h3 m2 (av1 a z)
        · rintro i x σ' H2 H3 hi ⟨δ', Fs', S', e', q'⟩ hy
          have ei : ds[i]? = some ds[i] := List.getElem?_eq_getElem hi
          have ed : ds.drop i = ds[i] :: ds.drop (i + 1) := List.drop_eq_getElem_cons hi
          rw [ed] at q'
          obtain ⟨z, z1, z2⟩ := hI i _ ei
          have ro : ∀ (dd : TW.D) (vv : V), Rp W H1 O dd vv → Rp W H2 (fun a => O0 a ∨ a ∈ Fs'.flatten) dd vv := Evo.rp e' S1.there av1 (fun a z => by
            rcases z with z | z
            · exact .inl (hO0 a z)
            · exact (e'.sub a z).imp_left (av1 a))
          have z3 : reprI W H2 (fun a => O0 a ∨ a ∈ Fs'.flatten) z ds[i] := by
            cases z with
            | inl v => exact ro _ _ z2
            | inr pr =>
              obtain ⟨a, b, e, r1, r2⟩ := z2
              exact ⟨a, b, e, ro _ _ r1, ro _ _ r2⟩
          have hfx : step ds[i] δ' = (match bindT ts one ds[i] δ' with | none => none | some e2 => exs T b e2) := by rw [← hst]
          have q' : rqf W E0 H0 O0 H Fs (bnd (step ds[i] δ') fun r => match r with | .nx e1 => forL step (ds.drop (i + 1)) e1 | .rt m d => ok (.rt m d)) D := q'
          cases hbd : bindT ts one ds[i] δ' with
          | none =>
            rw [hfx, hbd] at q'
            exact q'.elim
          | some e2 =>
            rw [hfx, hbd] at q'
            refine S'.bind hbd (z1 _ _ _ hy) z3 fun σ2 Fs2 S2 ev2 => ⟨H0, O0, e2, Fs2, S2, ?_⟩
            have q' : rqf W E0 H0 O0 H Fs (bnd (exs T b e2) fun r => match r with | .nx e1 => forL step (ds.drop (i + 1)) e1 | .rt m d => ok (.rt m d)) D := q'
            revert q'
            cases exs T b e2 with
            | none => exact fun h => h
            | some r =>
              cases r with
              | er C => exact fun h => h
              | ok fl =>
                cases fl with
                | rt m d => exact fun h => h
                | nx δ'' => exact fun h σ3 H4 Fs3 S3 ev3 => ⟨δ'', Fs3, S3, e'.trans (ev2.trans ev3), h⟩
        · rintro σ' H' ⟨δ', Fs', S', e', q'⟩
          have e0 : ds.drop ds.length = [] := List.drop_length
          rw [e0] at q'
          exact q' σ' H' Fs' S' (ev1.trans e')
theorem s_whl {c : Expr} {body : List Stmt} {cc : E} {b : List S} {pos : Pos} (hp : PassesOwn (model X.prog X.w) X.A X.env X.xe) (hc : PT X c (rdT W E0 T cc)) (hb : PSs X body (rdSs W E0 T b)) : PS X (.While c body [] pos) (rdS W E0 T (.whl cc b)) :=
  (ps_while hp hc hb).imp fun D σ H ⟨H0, O0, δ, Fs, S, q⟩ => by
    simp only [ex] at q
    refine ⟨fun m σ' H' => ∃ δ' Fs', SS W H0 O0 H' σ' δ' Fs' ∧ Evo H Fs H' Fs' ∧ rqf W E0 H0 O0 H Fs (whlL (fun e1 => bnd (ev T cc e1) fun p => lift (boolD p.2)) (fun e1 => exs T b e1) m δ') D, ⟨WF, δ, Fs, S, Evo.refl, q⟩, ?_⟩
    rintro m σ' H' ⟨δ', Fs', S', e', q'⟩
    cases m with
    | zero => exact q'.elim
    | succ n =>
      have q' : rqf W E0 H0 O0 H Fs (bnd (evB T cc δ') fun t => if t = true then bnd (exs T b δ') fun r => (match r with | .nx e1 => whlL (fun e1 => bnd (ev T cc e1) fun p => lift (boolD p.2)) (fun e1 => exs T b e1) n e1 | .rt m d => ok (.rt m d)) else ok (.nx δ')) D := q'
      refine ⟨H0, O0, δ', Fs', S', rqb_bnd' (G := fun z => rqf W E0 H0 O0 H Fs z D) rqf_none (fun C h H2 s2 => h H2 (S'.same.trans s2)) q' fun t h1 H1 s1 => ?_⟩
      have ev1 : Evo H' Fs' H1 Fs' := Evo.grow s1 fun a ha => .inl ha
      cases t with
      | false =>
        rw [if_neg (by decide)]
        exact h1 σ' H1 Fs' (S'.grow s1) (e'.trans ev1)
      | true =>
        rw [if_pos rfl]
        refine ⟨fun σ2 H2 => ∃ δ2 Fs2, SS W H0 O0 H2 σ2 δ2 Fs2 ∧ Evo H Fs H2 Fs2 ∧ rqf W E0 H0 O0 H Fs (whlL (fun e1 => bnd (ev T cc e1) fun p => lift (boolD p.2)) (fun e1 => exs T b e1) n δ2) D, fun σ2 H2 h => ⟨n, Nat.lt_succ_self n, h⟩, H0, O0, δ', Fs', S'.grow s1, ?_⟩
        have h1 : rqf W E0 H0 O0 H Fs (bnd (exs T b δ') fun r => (match r with | .nx e1 => whlL (fun e1 => bnd (ev T cc e1) fun p => lift (boolD p.2)) (fun e1 => exs T b e1) n e1 | .rt m d => ok (.rt m d))) D := h1
        revert h1
        cases exs T b δ' with
        | none => exact fun h => h
        | some r =>
          cases r with
          | er C => exact fun h => h
          | ok fl =>
            cases fl with
            | rt m d => exact fun h => h
            | nx δ'' => exact fun h σ3 H4 Fs3 S3 ev3 => ⟨δ'', Fs3, S3, e'.trans (ev1.trans ev3), h⟩
end
end TW

set_option Elab.async false
set_option linter.all false
set_option maxRecDepth 100000
set_option maxHeartbeats 4000000
namespace TW
open PySem PySem.Spec PyProof.Rows L2

def Al3 (Q : D → V → List Addr → Prop) : List D → List V → List (List Addr) → Prop
  | [], vs, Fs => vs = [] ∧ Fs = []
  | d :: ds, vs, Fs => ∃ v r F Fr, vs = v :: r ∧ Fs = F :: Fr ∧ Q d v F ∧ Al3 Q ds r Fr
section
variable {Q Q' : D → V → List Addr → Prop}
theorem Al3.len : ∀ {ds : List D} {vs : List V} {Fs : List (List Addr)}, Al3 Q ds vs Fs → vs.length = ds.length ∧ Fs.length = ds.length
  | [], _, _, h => by rw [h.1, h.2]; exact ⟨rfl, rfl⟩
  | d :: ds, _, _, h => by
    obtain ⟨v, r, F, Fr, rfl, rfl, _, h2⟩ := h
    obtain ⟨a, b⟩ := Al3.len h2
    exact ⟨by simp [a], by simp [b]⟩
theorem Al3.app : ∀ {ds es : List D} {vs ws : List V} {Fs Gs : List (List Addr)}, Al3 Q ds vs Fs → Al3 Q es ws Gs → Al3 Q (ds ++ es) (vs ++ ws) (Fs ++ Gs)
  | [], _, _, _, _, _, h, k => by rw [h.1, h.2]; exact k
  | d :: ds, _, _, _, _, _, h, k => by
    obtain ⟨v, r, F, Fr, rfl, rfl, h1, h2⟩ := h
    exact ⟨v, r ++ _, F, Fr ++ _, rfl, rfl, h1, Al3.app h2 k⟩
theorem Al3.take : ∀ (n : Nat) {ds : List D} {vs : List V} {Fs : List (List Addr)}, Al3 Q ds vs Fs → Al3 Q (ds.take n) (vs.take n) (Fs.take n)
  | 0, _, _, _, _ => ⟨rfl, rfl⟩
  | n + 1, [], _, _, h => by rw [h.1, h.2]; exact ⟨rfl, rfl⟩
  | n + 1, d :: ds, _, _, h => by
    obtain ⟨v, r, F, Fr, rfl, rfl, h1, h2⟩ := h
    exact ⟨v, r.take n, F, Fr.take n, rfl, rfl, h1, Al3.take n h2⟩
theorem Al3.drop : ∀ (n : Nat) {ds : List D} {vs : List V} {Fs : List (List Addr)}, Al3 Q ds vs Fs → Al3 Q (ds.drop n) (vs.drop n) (Fs.drop n)
  | 0, _, _, _, h => h
  | n + 1, [], _, _, h => by rw [h.1, h.2]; exact ⟨rfl, rfl⟩
  | n + 1, d :: ds, _, _, h => by
    obtain ⟨v, r, F, Fr, rfl, rfl, h1, h2⟩ := h
    exact Al3.drop n h2
theorem Al3.get : ∀ {ds : List D} {vs : List V} {Fs : List (List Addr)} {j : Nat} {d : D}, Al3 Q ds vs Fs → ds[j]? = some d → ∃ v F, vs[j]? = some v ∧ Fs[j]? = some F ∧ Q d v F
  | [], _, _, _, _, _, e => by simp at e
  | d :: ds, _, _, 0, d', h, e => by
    obtain ⟨v, r, F, Fr, rfl, rfl, h1, h2⟩ := h
    simp at e
    subst e
    exact ⟨v, F, rfl, rfl, h1⟩
  | d :: ds, _, _, j + 1, d', h, e => by
    obtain ⟨v, r, F, Fr, rfl, rfl, h1, h2⟩ := h
    simp at e
    obtain ⟨w, G, e1, e2, e3⟩ := Al3.get h2 e
    exact ⟨w, G, by simpa using e1, by simpa using e2, e3⟩
theorem Al3.one {d : D} {v : V} {F : List Addr} (h : Q d v F) : Al3 Q [d] [v] [F] := ⟨v, [], F, [], rfl, rfl, h, rfl, rfl⟩
theorem Al3.rev : ∀ {ds : List D} {vs : List V} {Fs : List (List Addr)}, Al3 Q ds vs Fs → Al3 Q ds.reverse vs.reverse Fs.reverse
  | [], _, _, h => by rw [h.1, h.2]; exact ⟨rfl, rfl⟩
  | d :: ds, _, _, h => by
    obtain ⟨v, r, F, Fr, rfl, rfl, h1, h2⟩ := h
    rw [List.reverse_cons, List.reverse_cons, List.reverse_cons]
    exact (Al3.rev h2).app (.one h1)
theorem Al3.set {j : Nat} {d : D} {v : V} {F : List Addr} (hq : Q d v F) : ∀ {k : Nat} {ds : List D} {vs : List V} {Fs : List (List Addr)}, Al3 Q ds vs Fs → Al3 Q (ds.set k d) (vs.set k v) (Fs.set k F)
  | _, [], _, _, h => by rw [h.1, h.2]; exact ⟨rfl, rfl⟩
  | 0, d' :: ds, _, _, h => by
    obtain ⟨w, r, G, Fr, rfl, rfl, h1, h2⟩ := h
    exact ⟨v, r, F, Fr, rfl, rfl, hq, h2⟩
  | k + 1, d' :: ds, _, _, h => by
    obtain ⟨w, r, G, Fr, rfl, rfl, h1, h2⟩ := h
    exact ⟨w, r.set k v, G, Fr.set k F, rfl, rfl, h1, Al3.set (j := j) hq h2⟩
theorem Al3.erase : ∀ {k : Nat} {ds : List D} {vs : List V} {Fs : List (List Addr)}, Al3 Q ds vs Fs → Al3 Q (ds.eraseIdx k) (vs.eraseIdx k) (Fs.eraseIdx k)
  | _, [], _, _, h => by rw [h.1, h.2]; exact ⟨rfl, rfl⟩
  | 0, d' :: ds, _, _, h => by
    obtain ⟨w, r, G, Fr, rfl, rfl, h1, h2⟩ := h
    exact h2
  | k + 1, d' :: ds, _, _, h => by
    obtain ⟨w, r, G, Fr, rfl, rfl, h1, h2⟩ := h
    exact ⟨w, r.eraseIdx k, G, Fr.eraseIdx k, rfl, rfl, h1, Al3.erase h2⟩
theorem Al3.dropLast {ds : List D} {vs : List V} {Fs : List (List Addr)} (h : Al3 Q ds vs Fs) : Al3 Q ds.dropLast vs.dropLast Fs.dropLast := by
  obtain ⟨a, b⟩ := h.len
  rw [List.dropLast_eq_take, List.dropLast_eq_take, List.dropLast_eq_take, a, b]
  exact h.take _
theorem Al3.upd {d : D} {F : List Addr} : ∀ {j : Nat} {ds : List D} {vs : List V} {Fs : List (List Addr)} {v : V}, Al3 Q ds vs Fs → vs[j]? = some v → Q' d v F → (∀ (k : Nat) (d' : D) (v' : V) (F' : List Addr), k ≠ j → Fs[k]? = some F' → Q d' v' F' → Q' d' v' F') → Al3 Q' (ds.set j d) vs (Fs.set j F)
  | j, [], _, _, v, h, e, _, _ => by rw [h.1] at e; simp at e
  | 0, d' :: ds, _, _, v, h, e, hq, ho => by
    obtain ⟨w, r, G, Fr, rfl, rfl, h1, h2⟩ := h
    simp at e
    subst e
    refine ⟨w, r, F, Fr, rfl, rfl, hq, ?_⟩
    have key : ∀ {ds : List D} {vs : List V} {Fs : List (List Addr)} (n : Nat), (∀ (k : Nat) (d' : D) (v' : V) (F' : List Addr), Fs[k]? = some F' → Q d' v' F' → Q' d' v' F') → Al3 Q ds vs Fs → Al3 Q' ds vs Fs := by
      intro ds
      induction ds with
      | nil => exact fun _ _ h => h
      | cons d ds ih =>
        intro vs Fs n hh h
        obtain ⟨w, r, G, Fr, rfl, rfl, h1, h2⟩ := h
        exact ⟨w, r, G, Fr, rfl, rfl, hh 0 _ _ _ rfl h1, ih n (fun k d' v' F' e q => hh (k + 1) d' v' F' (by simpa using e) q) h2⟩
    exact key 0 (fun k d' v' F' e q => ho (k + 1) d' v' F' (by omega) (by simpa using e) q) h2
  | j + 1, d' :: ds, _, _, v, h, e, hq, ho => by
    obtain ⟨w, r, G, Fr, rfl, rfl, h1, h2⟩ := h
    refine ⟨w, r, G, Fr.set j F, rfl, rfl, ho 0 _ _ _ (by omega) rfl h1, ?_⟩
    exact Al3.upd h2 (by simpa using e) hq fun k d' v' F' hk e q => ho (k + 1) d' v' F' (by omega) (by simpa using e) q
end
theorem Dqs.al {W : Wd} {H : Hp} : ∀ {ds : List D} {vs : List V} {F : List Addr}, Dqs W H ds vs F → ∃ Fs, Al3 (Dq W H) ds vs Fs ∧ Fs.flatten = F
  | [], _, _, h => ⟨[], ⟨h.1, rfl⟩, h.2.symm⟩
  | d :: ds, _, _, h => by
    obtain ⟨v, r, F1, F2, rfl, rfl, h1, h2⟩ := h
    obtain ⟨Fs, k1, k2⟩ := Dqs.al h2
    exact ⟨F1 :: Fs, ⟨v, r, F1, Fs, rfl, rfl, h1, k1⟩, by rw [flat_cons, k2]⟩
theorem Al3.dqs {W : Wd} {H : Hp} : ∀ {ds : List D} {vs : List V} {Fs : List (List Addr)}, Al3 (Dq W H) ds vs Fs → Dqs W H ds vs Fs.flatten
  | [], _, _, h => by rw [h.2]; exact ⟨h.1, rfl⟩
  | d :: ds, _, _, h => by
    obtain ⟨v, r, F, Fr, rfl, rfl, h1, h2⟩ := h
    exact ⟨v, r, F, Fr.flatten, rfl, rfl, h1, Al3.dqs h2⟩
abbrev RpQ (W : Wd) (H : Hp) (O : Addr → Prop) : D → V → List Addr → Prop := fun d v F => F = [] ∧ Rp W H O d v
theorem Rps.al {W : Wd} {H : Hp} {O : Addr → Prop} : ∀ {ds : List D} {vs : List V}, Rps W H O ds vs → ∃ Fs, Al3 (RpQ W H O) ds vs Fs
  | [], _, h => ⟨[], h, rfl⟩
  | d :: ds, _, h => by
    obtain ⟨v, r, rfl, h1, h2⟩ := h
    obtain ⟨Fs, k1⟩ := Rps.al h2
    exact ⟨[] :: Fs, v, r, [], Fs, rfl, rfl, ⟨rfl, h1⟩, k1⟩
theorem Al3.rps {W : Wd} {H : Hp} {O : Addr → Prop} : ∀ {ds : List D} {vs : List V} {Fs : List (List Addr)}, Al3 (RpQ W H O) ds vs Fs → Rps W H O ds vs
  | [], _, _, h => h.1
  | d :: ds, _, _, h => by
    obtain ⟨v, r, F, Fr, rfl, rfl, h1, h2⟩ := h
    exact ⟨v, r, rfl, h1.2, Al3.rps h2⟩

def SubF (A B : List Addr) : Prop := (B.Nodup → A.Nodup) ∧ ∀ a ∈ A, a ∈ B
theorem SubF.refl (A : List Addr) : SubF A A := ⟨id, fun _ h => h⟩
theorem SubF.trans {A B C : List Addr} (h : SubF A B) (k : SubF B C) : SubF A C := ⟨fun n => h.1 (k.1 n), fun a ha => k.2 a (h.2 a ha)⟩
theorem SubF.sub {A B : List Addr} (h : A.Sublist B) : SubF A B := ⟨fun n => n.sublist h, fun _ ha => h.subset ha⟩
theorem SubF.perm {A B : List Addr} (h : A.Perm B) : SubF A B := ⟨fun n => h.nodup_iff.mpr n, fun _ ha => h.mem_iff.mp ha⟩
theorem SubF.app {A B C D : List Addr} (h : SubF A B) (k : SubF C D) : SubF (A ++ C) (B ++ D) := by
  refine ⟨fun n => ?_, fun a ha => ?_⟩
  · obtain ⟨n1, n2, n3⟩ := List.nodup_append.mp n
    exact List.nodup_append.mpr ⟨h.1 n1, k.1 n2, fun a ha b hb e => n3 a (h.2 a ha) b (k.2 b hb) e⟩
  · rcases List.mem_append.mp ha with z | z
    · exact List.mem_append_left _ (h.2 a z)
    · exact List.mem_append_right _ (k.2 a z)
theorem flat_sub {A B : List (List Addr)} (h : A.Sublist B) : A.flatten.Sublist B.flatten := by
  induction h with
  | slnil => exact .slnil
  | cons a _ ih => exact ih.trans (List.sublist_append_right _ _)
  | cons_cons a _ ih => exact (List.Sublist.refl a).append ih
theorem flat_perm {A B : List (List Addr)} (h : A.Perm B) : A.flatten.Perm B.flatten := by
  induction h with
  | nil => exact .refl _
  | cons a _ ih => exact (List.Perm.refl a).append ih
  | swap a b l =>
    rw [flat_cons, flat_cons, flat_cons, flat_cons, ← List.append_assoc, ← List.append_assoc]
    exact List.perm_append_comm.append (.refl _)
  | trans _ _ i1 i2 => exact i1.trans i2
theorem flat_app (A B : List (List Addr)) : (A ++ B).flatten = A.flatten ++ B.flatten := List.flatten_append
def MoV (o : Mo) (H : Hp) (vs avs vs' : List V) : Prop := match o with
  | .append => ∃ a, avs = [a] ∧ vs' = vs ++ [a]
  | .extend => ∃ b ws, avs = [.ref b] ∧ H b = some (.lst ws) ∧ vs' = vs ++ ws
  | .pop => (avs = [] ∧ vs' = vs.dropLast) ∨ ∃ i j, avs = [.int i] ∧ ixN vs.length i = some j ∧ vs' = vs.eraseIdx j
  | .remove => ∃ j, vs' = vs.eraseIdx j
  | .insert => ∃ i a, avs = [.int i, a] ∧ vs' = vs.take i.toNat ++ [a] ++ vs.drop i.toNat
  | .clear => vs' = []
  | .reverse => vs' = vs.reverse
  | .set => ∃ i j a, avs = [.int i, a] ∧ ixN vs.length i = some j ∧ vs' = vs.set j a
  | .aug => ∃ i j k n, avs = [.int i, .int k] ∧ ixN vs.length i = some j ∧ vs[j]? = some (.int n) ∧ vs' = vs.set j (.int (n + k))
structure RelQ (H : Hp) (Q : D → V → List Addr → Prop) : Prop where
  int : ∀ i v F, Q (.int i) v F → v = .int i ∧ F = []
  ofI : ∀ i, Q (.int i) (.int i) []
  lst : ∀ ys v F, Q (.lst ys) v F → ∃ b ws Gs, v = .ref b ∧ H b = some (.lst ws) ∧ Al3 Q ys ws Gs ∧ SubF Gs.flatten F
theorem relQ_dq {W : Wd} {H : Hp} : RelQ H (Dq W H) := ⟨fun i v F h => h, fun i => ⟨rfl, rfl⟩, fun ys v F h => by
  obtain ⟨a, vs, G, e, eF, h1, h2, h3⟩ := h
  obtain ⟨Gs, k1, k2⟩ := h3.al
  exact ⟨a, vs, Gs, e, h1, k1, by rw [k2, eF]; exact .sub (List.sublist_cons_self _ _)⟩⟩
theorem relQ_rp {W : Wd} {H : Hp} {O : Addr → Prop} : RelQ H (RpQ W H O) := ⟨fun i v F h => ⟨h.2, h.1⟩, fun i => ⟨rfl, rfl⟩, fun ys v F h => by
  obtain ⟨eF, a, vs, e, h0, h1, h2, h3⟩ := h
  obtain ⟨Gs, k1⟩ := h3.al
  refine ⟨a, vs, Gs, e, h1, k1, ?_⟩
  have : ∀ {ds : List D} {vs : List V} {Fs : List (List Addr)}, Al3 (RpQ W H O) ds vs Fs → Fs.flatten = [] := by
    intro ds
    induction ds with
    | nil => intro vs Fs h; rw [h.2]; rfl
    | cons d ds ih =>
      intro vs Fs h
      obtain ⟨v, r, F, Fr, rfl, rfl, g1, g2⟩ := h
      rw [flat_cons, g1.1, ih g2]
      rfl
  rw [this k1]
  exact ⟨fun _ => List.nodup_nil, fun _ z => by cases z⟩⟩
theorem set_flat {Fs : List (List Addr)} {j : Nat} {F : List Addr} : SubF (Fs.set j F).flatten (Fs.flatten ++ F) := by
  by_cases h : j < Fs.length
  · rw [List.set_eq_take_append_cons_drop, if_pos h, flat_app, flat_cons]
    have e : Fs.flatten = (Fs.take j).flatten ++ (Fs.drop j).flatten := by rw [← flat_app, List.take_append_drop]
    have e2 : (Fs.drop (j + 1)).flatten.Sublist (Fs.drop j).flatten := by
      have : Fs.drop j = Fs[j] :: Fs.drop (j + 1) := List.drop_eq_getElem_cons h
      rw [this, flat_cons]
      exact List.sublist_append_right _ _
    rw [e, List.append_assoc]
    exact (SubF.refl _).app ((SubF.perm List.perm_append_comm).trans ((SubF.sub e2).app (SubF.refl F)))
  · rw [List.set_eq_of_length_le (by omega)]
    exact .sub (List.sublist_append_left _ _)
theorem moL_ok {H : Hp} {Q : D → V → List Addr → Prop} (hQ : RelQ H Q) {o : Mo} {xs as ys : List D} {vs avs vs' : List V} {Fs Gs : List (List Addr)} (h : Al3 Q xs vs Fs) (ha : Al3 Q as avs Gs) (hm : moL o xs as = some ys) (hv : MoV o H vs avs vs')
    (hr : o = .remove → ∃ j, ys = xs.eraseIdx j ∧ vs' = vs.eraseIdx j) : ∃ Fs', Al3 Q ys vs' Fs' ∧ SubF Fs'.flatten (Fs.flatten ++ Gs.flatten) := by
  have el := h.len
  cases o with
  | append =>
    obtain ⟨a, rfl, rfl⟩ := hv
    match as, ha, hm with
    | [d], ha, hm =>
      have hm : (if xs.length < SZ then some (xs ++ [d]) else none) = some ys := hm
      split at hm <;> cases hm
      exact ⟨Fs ++ Gs, h.app ha, by rw [flat_app]; exact SubF.refl _⟩
  | extend =>
    obtain ⟨b, ws, rfl, hb, rfl⟩ := hv
    match as, ha, hm with
    | [.lst zs], ha, hm =>
      have hm : (if xs.length + zs.length ≤ SZ then some (xs ++ zs) else none) = some ys := hm
      split at hm <;> cases hm
      obtain ⟨v, r, F, Fr, e1, rfl, q1, e2, rfl⟩ := ha
      cases e1
      obtain ⟨b', ws', Gs', e3, hb', k1, k2⟩ := hQ.lst _ _ _ q1
      cases e3
      rw [hb] at hb'
      cases hb'
      refine ⟨Fs ++ Gs', h.app k1, ?_⟩
      rw [flat_app, flat_cons]
      exact (SubF.refl _).app (k2.trans (.sub (List.sublist_append_left _ _)))
  | pop =>
    rcases hv with ⟨rfl, rfl⟩ | ⟨i, j, rfl, hj, rfl⟩
    · match as, ha, hm with
      | [], ha, hm =>
        have e : ys = xs.dropLast := by
          revert hm
          cases xs with
          | nil => intro hm; cases hm
          | cons x xs => intro hm; exact (Option.some.inj hm).symm
        subst e
        refine ⟨Fs.dropLast, h.dropLast, ?_⟩
        exact (SubF.sub (flat_sub (List.dropLast_sublist _))).trans (.sub (List.sublist_append_left _ _))
    · match as, ha, hm with
      | [.int k], ha, hm =>
        have hm : (if smallI k = true then (ixN xs.length k).map (fun j => xs.eraseIdx j) else none) = some ys := hm
        obtain ⟨v, r, F, Fr, e1, rfl, q1, e2, rfl⟩ := ha
        cases e1
        cases (hQ.int _ _ _ q1).1
        rw [el.1] at hj
        rw [hj] at hm
        split at hm <;> cases hm
        exact ⟨Fs.eraseIdx j, h.erase, (SubF.sub (flat_sub (List.eraseIdx_sublist _ _))).trans (.sub (List.sublist_append_left _ _))⟩
  | remove =>
    obtain ⟨j, rfl, rfl⟩ := hr rfl
    exact ⟨Fs.eraseIdx j, h.erase, (SubF.sub (flat_sub (List.eraseIdx_sublist _ _))).trans (.sub (List.sublist_append_left _ _))⟩
  | insert =>
    obtain ⟨i, a, rfl, rfl⟩ := hv
    match as, ha, hm with
    | [.int k, d], ha, hm =>
      have hm : (if 0 ≤ k ∧ smallI k = true ∧ xs.length < SZ then some (xs.take k.toNat ++ [d] ++ xs.drop k.toNat) else none) = some ys := hm
      obtain ⟨v, r, F, Fr, e1, rfl, q1, v2, r2, F2, Fr2, e2, rfl, q2, e3, rfl⟩ := ha
      cases e1
      cases e2
      cases (hQ.int _ _ _ q1).1
      split at hm <;> cases hm
      refine ⟨Fs.take i.toNat ++ [F2] ++ Fs.drop i.toNat, ((h.take _).app (.one q2)).app (h.drop _), ?_⟩
      have e : Fs.flatten = (Fs.take i.toNat).flatten ++ (Fs.drop i.toNat).flatten := by rw [← flat_app, List.take_append_drop]
      have e1 : ([F2] : List (List Addr)).flatten = F2 := by rw [flat_cons, List.flatten_nil, List.append_nil]
      have e2 : (F :: F2 :: [] : List (List Addr)).flatten = F ++ F2 := by rw [flat_cons, e1]
      rw [flat_app, flat_app, e, e1, e2, List.append_assoc, List.append_assoc]
      refine (SubF.refl _).app ((SubF.perm List.perm_append_comm).trans ((SubF.refl _).app ?_))
      exact .sub (List.sublist_append_right _ _)
  | clear =>
    have hv : vs' = [] := hv
    subst hv
    match as, ha, hm with
    | [], ha, hm =>
      cases hm
      exact ⟨[], ⟨rfl, rfl⟩, ⟨fun _ => List.nodup_nil, fun _ z => by cases z⟩⟩
  | reverse =>
    have hv : vs' = vs.reverse := hv
    subst hv
    match as, ha, hm with
    | [], ha, hm =>
      cases hm
      exact ⟨Fs.reverse, h.rev, (SubF.perm (flat_perm (List.reverse_perm _))).trans (.sub (List.sublist_append_left _ _))⟩
  | set =>
    obtain ⟨i, j, a, rfl, hj, rfl⟩ := hv
    match as, ha, hm with
    | [.int k, d], ha, hm =>
      have hm : (ixN xs.length k).map (fun j => xs.set j d) = some ys := hm
      obtain ⟨v, r, F, Fr, e1, rfl, q1, v2, r2, F2, Fr2, e2, rfl, q2, e3, rfl⟩ := ha
      cases e1
      cases e2
      cases (hQ.int _ _ _ q1).1
      rw [el.1] at hj
      rw [hj] at hm
      cases hm
      refine ⟨Fs.set j F2, Al3.set (j := j) q2 h, set_flat.trans ((SubF.refl _).app ?_)⟩
      rw [flat_cons, flat_cons]
      exact .sub ((List.sublist_append_left F2 _).trans (List.sublist_append_right F _))
  | aug =>
    obtain ⟨i, j, k, n, rfl, hj, hn, rfl⟩ := hv
    match as, ha, hm with
    | [.int k1, .int k2], ha, hm =>
      have hm : ((ixN xs.length k1).bind fun j => match xs[j]? with | some (.int n) => some (xs.set j (.int (n + k2))) | _ => none) = some ys := hm
      obtain ⟨v, r, F, Fr, e1, rfl, q1, v2, r2, F2, Fr2, e2, rfl, q2, e3, rfl⟩ := ha
      cases e1
      cases e2
      cases (hQ.int _ _ _ q1).1
      cases (hQ.int _ _ _ q2).1
      rw [el.1] at hj
      rw [hj] at hm
      have hm : (match xs[j]? with | some (.int n) => some (xs.set j (.int (n + k))) | _ => none) = some ys := hm
      cases hx : xs[j]? with
      | none => rw [hx] at hm; cases hm
      | some d =>
        rw [hx] at hm
        cases d with
        | int n' =>
          have hm : some (xs.set j (.int (n' + k))) = some ys := hm
          cases hm
          obtain ⟨w, G, g1, g2, g3⟩ := h.get hx
          rw [hn] at g1
          cases g1
          cases (hQ.int _ _ _ g3).1
          refine ⟨Fs.set j [], Al3.set (j := j) (hQ.ofI _) h, set_flat.trans ?_⟩
          rw [List.append_nil]
          exact .sub (List.sublist_append_left _ _)
        | _ => cases hm
end TW

set_option Elab.async false
set_option linter.all false
set_option maxRecDepth 100000
set_option maxHeartbeats 4000000
namespace TW
open PySem PySem.Spec PyProof.Rows L2

def VAt (H : Hp) : List Int → V → V → Prop
  | [], v, w => v = w
  | i :: is, v, w => ∃ a ws u, v = .ref a ∧ (H a = some (.lst ws) ∨ H a = some (.tup ws)) ∧ atI ws i = some u ∧ VAt H is u w
theorem VAt.mono {H H' : Hp} (s : Same H H') : ∀ {is : List Int} {v w : V}, VAt H is v w → VAt H' is v w
  | [], _, _, h => h
  | i :: is, _, _, h => by
    obtain ⟨a, ws, u, e, h1, h2, h3⟩ := h
    exact ⟨a, ws, u, e, h1.imp (s _ _) (s _ _), h2, h3.mono s⟩
theorem VAt.det {H : Hp} : ∀ {is : List Int} {v w w' : V}, VAt H is v w → VAt H is v w' → w = w'
  | [], _, _, _, h, h' => (show _ = _ from h).symm.trans h'
  | i :: is, _, _, _, h, h' => by
    obtain ⟨a, ws, u, rfl, h1, h2, h3⟩ := h
    obtain ⟨a', ws', u', e', k1, k2, k3⟩ := h'
    cases e'
    have : ws = ws' := by
      rcases h1 with h1 | h1 <;> rcases k1 with k1 | k1 <;> (rw [h1] at k1; cases k1) <;> rfl
    subst this
    rw [h2] at k2
    cases k2
    exact h3.det k3
theorem VAt.snoc {H : Hp} {i : Int} {a : Addr} {ws : List V} {u : V} (h1 : H a = some (.lst ws) ∨ H a = some (.tup ws)) (h2 : atI ws i = some u) : ∀ {is : List Int} {v : V}, VAt H is v (.ref a) → VAt H (is ++ [i]) v u
  | [], _, h => ⟨a, ws, u, h, h1, h2, rfl⟩
  | j :: is, _, h => by
    obtain ⟨b, ws', u', e, k1, k2, k3⟩ := h
    exact ⟨b, ws', u', e, k1, k2, VAt.snoc h1 h2 k3⟩
theorem getP_app : ∀ (is js : List Int) (d : D), getP (is ++ js) d = (getP is d).bind (getP js)
  | [], _, _ => rfl
  | i :: is, js, .lst xs => by
    show (atI xs i).bind (getP (is ++ js)) = ((atI xs i).bind (getP is)).bind (getP js)
    cases atI xs i with
    | none => rfl
    | some d => exact getP_app is js d
  | i :: is, js, .tup xs => by
    show (atI xs i).bind (getP (is ++ js)) = ((atI xs i).bind (getP is)).bind (getP js)
    cases atI xs i with
    | none => rfl
    | some d => exact getP_app is js d
  | i :: is, js, .non => rfl
  | i :: is, js, .bl _ => rfl
  | i :: is, js, .int _ => rfl
  | i :: is, js, .str _ => rfl
  | i :: is, js, .fn _ => rfl
  | i :: is, js, .scr _ => rfl
  | i :: is, js, .dic _ => rfl
  | i :: is, js, .ins _ _ _ => rfl
  | i :: is, js, .exc _ => rfl
theorem set_flat2 {Fs : List (List Addr)} {j : Nat} {F F' G : List Addr} (h : Fs[j]? = some F) (hs : SubF F' (F ++ G)) : SubF (Fs.set j F').flatten (Fs.flatten ++ G) := by
  obtain ⟨hj, hF⟩ := List.getElem?_eq_some_iff.mp h
  rw [List.set_eq_take_append_cons_drop, if_pos hj, flat_app, flat_cons]
  have e : Fs.flatten = (Fs.take j).flatten ++ (F ++ (Fs.drop (j + 1)).flatten) := by
    rw [← flat_cons, ← hF, ← List.drop_eq_getElem_cons hj, ← flat_app, List.take_append_drop]
  rw [e, List.append_assoc, List.append_assoc]
  refine (SubF.refl _).app ((hs.app (SubF.refl _)).trans ?_)
  rw [List.append_assoc]
  exact (SubF.refl F).app (.perm List.perm_append_comm)
theorem getD_of {Fs : List (List Addr)} {j : Nat} {F : List Addr} (h : Fs[j]? = some F) : Fs.getD j [] = F := by
  rw [List.getD_eq_getElem?_getD, h]; rfl
theorem nod_get : ∀ {Fs : List (List Addr)} {j : Nat} {F : List Addr}, Fs.flatten.Nodup → Fs[j]? = some F → F.Nodup
  | [], j, F, _, h => by simp at h
  | G :: Gs, 0, F, n, h => by
    simp at h
    subst h
    exact (List.nodup_append.mp (show (G ++ Gs.flatten).Nodup from n)).1
  | G :: Gs, j + 1, F, n, h => nod_get (List.nodup_append.mp (show (G ++ Gs.flatten).Nodup from n)).2.1 (by simpa using h)
theorem moS_cl {o : Mo} {is : List Int} {ps : List (Md × D)} {d : D} (c : closeds ps = true) : moS o is ps (.dp, d) = (moP o (ps.map Prod.snd) is d).map fun d' => (.dp, d') := by
  simp only [moS, c, if_true]
theorem moS_nc {o : Mo} {is : List Int} {ps : List (Md × D)} {d : D} {q' : Md × D} (c : ¬ closeds ps = true) (h : moS o is ps (.dp, d) = some q') : ∃ xs, is = [] ∧ d = .lst xs ∧ ((moL o xs (ps.map Prod.snd)).map fun ys => (Md.fl, D.lst ys)) = some q' := by
  unfold moS at h
  simp only [c, if_false] at h
  cases is with
  | cons _ _ => cases h
  | nil =>
    cases d with
    | lst xs => exact ⟨xs, rfl, rfl, h⟩
    | _ => cases h
theorem deep_mut {W : Wd} {H : Hp} {o : Mo} {as : List D} : ∀ {is : List Int} {d d' : D} {v : V} {F : List Addr}, Dq W H d v F → moP o as is d = some d' → ∃ p vs xs ys, VAt H is v (.ref p) ∧ p ∈ F ∧ H p = some (.lst vs) ∧ vs.length ≤ sizeLine ∧ Rps W H (fun _ => False) xs vs ∧ moL o xs as = some ys ∧
    ∀ avs vs' Gs, Al3 (Dq W H) as avs Gs → MoV o H vs avs vs' → (o = .remove → ∃ j, ys = xs.eraseIdx j ∧ vs' = vs.eraseIdx j) → vs'.length ≤ sizeLine → (F ++ Gs.flatten).Nodup → ∃ F', Dq W (L2.upd H p (.lst vs')) d' v F' ∧ SubF F' (F ++ Gs.flatten) ∧ p ∈ F'
  | [], d, d', v, F, h, hm => by
    cases d with
    | lst xs =>
      obtain ⟨a, vs, G, rfl, rfl, h1, h2, h3⟩ := h
      have hm : (moL o xs as).map D.lst = some d' := hm
      cases e : moL o xs as with
      | none => rw [e] at hm; cases hm
      | some ys =>
        rw [e] at hm
        cases hm
        refine ⟨a, vs, xs, ys, rfl, List.mem_cons_self, h1, h2, Dqs.rp _ _ _ h3 (fun _ _ z => z), e, fun avs vs' Gs ha hv hr hl nd => ?_⟩
        obtain ⟨Fs, k1, k2⟩ := h3.al
        obtain ⟨Fs', m1, m2⟩ := moL_ok relQ_dq k1 ha e hv hr
        rw [k2] at m2
        have nd : (a :: (G ++ Gs.flatten)).Nodup := nd
        obtain ⟨na, nd'⟩ := List.nodup_cons.mp nd
        have na' : a ∉ Fs'.flatten := fun z => na (m2.2 a z)
        refine ⟨a :: Fs'.flatten, ⟨a, vs', Fs'.flatten, rfl, rfl, upd_same, hl, Dqs.upd h1 trivial _ _ _ na' m1.dqs⟩, ?_, List.mem_cons_self⟩
        exact (SubF.refl [a]).app m2
    | _ => cases hm
  | i :: is, d, d', v, F, h, hm => by
    cases d with
    | lst xs =>
      obtain ⟨a, vs, G, rfl, rfl, h1, h2, h3⟩ := h
      have hm : ((ixN xs.length i).bind fun j => (xs[j]?).bind fun d => (moP o as is d).map fun d' => D.lst (xs.set j d')) = some d' := hm
      cases ej : ixN xs.length i with
      | none => rw [ej] at hm; cases hm
      | some j =>
        rw [ej] at hm
        have hm : ((xs[j]?).bind fun d => (moP o as is d).map fun d' => D.lst (xs.set j d')) = some d' := hm
        cases ex : xs[j]? with
        | none => rw [ex] at hm; cases hm
        | some d1 =>
          rw [ex] at hm
          have hm : ((moP o as is d1).map fun d' => D.lst (xs.set j d')) = some d' := hm
          cases em : moP o as is d1 with
          | none => rw [em] at hm; cases hm
          | some d1' =>
            rw [em] at hm
            cases hm
            obtain ⟨Fs, k1, k2⟩ := h3.al
            obtain ⟨w, F1, g1, g2, g3⟩ := k1.get ex
            obtain ⟨p, us, xs1, ys1, r1, r2, r3, r4, r5, r6, r7⟩ := deep_mut g3 em
            have hp : p ∈ G := by rw [← k2]; exact mem_flat (i := j) (by rw [getD_of g2]; exact r2)
            refine ⟨p, us, xs1, ys1, ⟨a, vs, w, rfl, .inl h1, ?_, r1⟩, List.mem_cons_of_mem _ hp, r3, r4, r5, r6, fun avs vs' Gs ha hv hr hl nd => ?_⟩
            · unfold atI
              rw [k1.len.1, ej]
              exact g1
            · have nd : (a :: (G ++ Gs.flatten)).Nodup := nd
              obtain ⟨na, nd'⟩ := List.nodup_cons.mp nd
              obtain ⟨nd1, nd2, nd3⟩ := List.nodup_append.mp nd'
              have sF1 : ∀ b ∈ F1, b ∈ G := fun b hb => by rw [← k2]; exact mem_flat (i := j) (by rw [getD_of g2]; exact hb)
              have ndF : F1.Nodup := by
                rw [← k2] at nd1
                exact nod_get nd1 g2
              obtain ⟨F1', q1, q2, q3⟩ := r7 avs vs' Gs ha hv hr hl (List.nodup_append.mpr ⟨ndF, nd2, fun b hb c hc e => nd3 b (sF1 b hb) c hc e⟩)
              have ne : a ≠ p := fun z => na (List.mem_append_left _ (z ▸ hp))
              have k3 : Al3 (Dq W (L2.upd H p (.lst vs'))) (xs.set j d1') vs (Fs.set j F1') := k1.upd g1 q1 fun k d2 v2 F2 hk e2 hq => Dq.upd r3 trivial _ _ _ (fun z => hk (flat_inj (by rw [k2]; exact nd1) (by rw [getD_of e2]; exact z) (by rw [getD_of g2]; exact r2))) hq
              refine ⟨a :: (Fs.set j F1').flatten, ⟨a, vs, _, rfl, rfl, by rw [upd_ne ne]; exact h1, h2, k3.dqs⟩, ?_, ?_⟩
              · have := set_flat2 g2 q2
                rw [k2] at this
                exact (SubF.refl [a]).app this
              · refine List.mem_cons_of_mem _ (mem_flat (i := j) ?_)
                rw [getD_set_self (List.getElem?_eq_some_iff.mp g2).1]
                exact q3
    | tup xs =>
      obtain ⟨a, vs, rfl, h1, h2, h3⟩ := h
      have hm : ((ixN xs.length i).bind fun j => (xs[j]?).bind fun d => (moP o as is d).map fun d' => D.tup (xs.set j d')) = some d' := hm
      cases ej : ixN xs.length i with
      | none => rw [ej] at hm; cases hm
      | some j =>
        rw [ej] at hm
        have hm : ((xs[j]?).bind fun d => (moP o as is d).map fun d' => D.tup (xs.set j d')) = some d' := hm
        cases ex : xs[j]? with
        | none => rw [ex] at hm; cases hm
        | some d1 =>
          rw [ex] at hm
          have hm : ((moP o as is d1).map fun d' => D.tup (xs.set j d')) = some d' := hm
          cases em : moP o as is d1 with
          | none => rw [em] at hm; cases hm
          | some d1' =>
            rw [em] at hm
            cases hm
            obtain ⟨Fs, k1, k2⟩ := h3.al
            obtain ⟨w, F1, g1, g2, g3⟩ := k1.get ex
            obtain ⟨p, us, xs1, ys1, r1, r2, r3, r4, r5, r6, r7⟩ := deep_mut g3 em
            have hp : p ∈ F := by rw [← k2]; exact mem_flat (i := j) (by rw [getD_of g2]; exact r2)
            refine ⟨p, us, xs1, ys1, ⟨a, vs, w, rfl, .inr h1, ?_, r1⟩, hp, r3, r4, r5, r6, fun avs vs' Gs ha hv hr hl nd => ?_⟩
            · unfold atI
              rw [k1.len.1, ej]
              exact g1
            · obtain ⟨nd1, nd2, nd3⟩ := List.nodup_append.mp nd
              have sF1 : ∀ b ∈ F1, b ∈ F := fun b hb => by rw [← k2]; exact mem_flat (i := j) (by rw [getD_of g2]; exact hb)
              have ndF : F1.Nodup := by
                rw [← k2] at nd1
                exact nod_get nd1 g2
              obtain ⟨F1', q1, q2, q3⟩ := r7 avs vs' Gs ha hv hr hl (List.nodup_append.mpr ⟨ndF, nd2, fun b hb c hc e => nd3 b (sF1 b hb) c hc e⟩)
              have k3 : Al3 (Dq W (L2.upd H p (.lst vs'))) (xs.set j d1') vs (Fs.set j F1') := k1.upd g1 q1 fun k d2 v2 F2 hk e2 hq => Dq.upd r3 trivial _ _ _ (fun z => hk (flat_inj (by rw [k2]; exact nd1) (by rw [getD_of e2]; exact z) (by rw [getD_of g2]; exact r2))) hq
              refine ⟨(Fs.set j F1').flatten, ⟨a, vs, rfl, upd_out r3 h1 trivial (fun z => z), h2, k3.dqs⟩, ?_, ?_⟩
              · have := set_flat2 g2 q2
                rw [k2] at this
                exact this
              · refine mem_flat (i := j) ?_
                rw [getD_set_self (List.getElem?_eq_some_iff.mp g2).1]
                exact q3
    | _ => cases hm

section
variable {W : Wd} {H0 H : Hp} {O0 : Addr → Prop} {σ : L2.St} {δ : Dn} {Fs : List (List Addr)}
theorem SS.chg {Fa : List Addr} (S : SS W H0 (fun a => O0 a ∨ a ∈ Fa) H σ δ Fs) (hO : ∀ a ∈ Fa, ¬ O0 a) (nd : Fa.Nodup) (n0 : ∀ a ∈ Fa, H0 a = none) (ta : ∀ a ∈ Fa, ∃ o, H a = some o ∧ MutC o) {i : Nat} {q q' : Md × D} (hi : δ[i]? = some (some q)) {v : V} (hv : σ[i]? = some (some v)) {p : Addr} {u x : HO}
    (hp : p ∈ Fs.getD i []) (hH : H p = some u) (mu : MutC u) (mx : MutC x) {F' : List Addr} (sF : SubF F' (Fs.getD i [] ++ Fa)) (ow : Ow W (L2.upd H p x) (fun a => O0 a ∨ a ∈ (Fs.set i F').flatten) q'.1 q'.2 v F') : SS W H0 O0 (L2.upd H p x) σ (δ.set i (some q')) (Fs.set i F') := by
  have hl : i < Fs.length := by rw [S.lenF, ← S.len]; exact (List.getElem?_eq_some_iff.mp hi).1
  have sub : ∀ a, a ∈ (Fs.set i F').flatten → a ∈ Fs.flatten ∨ a ∈ Fa := fun a z => by
    rcases mem_set_flat z with z | ⟨j, _, z⟩
    · rcases List.mem_append.mp (sF.2 a z) with z | z
      · exact .inl (mem_flat z)
      · exact .inr z
    · exact .inl (mem_flat z)
  have hpf := mem_flat hp
  have keep : ∀ a, H a ≠ none → L2.upd H p x a ≠ none := fun a h => by
    by_cases e : a = p
    · rw [e, upd_same]; simp
    · rw [upd_ne e]; exact h
  refine ⟨fun b o e => ?_, by rw [List.length_set]; exact S.len, by rw [List.length_set]; exact S.lenF, fun j r e => ?_, ?_, fun a ha => ?_, fun a za ha => ?_, fun a za => keep a (S.oldT a (.inl za)), fun a ha => ?_, fun j e => ?_⟩
  · have ne : b ≠ p := fun z => by rw [z, S.new p hpf] at e; cases e
    rw [upd_ne ne]
    exact S.same b o e
  · by_cases h : i = j
    · subst h
      rw [List.getElem?_set_self (by rw [S.len, ← S.lenF]; exact hl)] at e
      cases e
      refine ⟨v, hv, ?_⟩
      rw [getD_set_self hl]
      exact ow
    · rw [List.getElem?_set_ne h] at e
      obtain ⟨w, h1, h2⟩ := S.slot j r e
      refine ⟨w, h1, ?_⟩
      rw [getD_set_ne h]
      refine (h2.upd hH mu (.inr hpf) fun z => h (flat_inj S.nod hp z)).mono (Same.refl _) fun a z => ?_
      rcases z with z | z
      · exact .inl (.inl z)
      · rcases sub a z with z | z
        · exact .inr z
        · exact .inl (.inr z)
  · have e : Fs[i]? = some (Fs.getD i []) := by rw [List.getD_eq_getElem?_getD, List.getElem?_eq_getElem hl]; rfl
    exact (set_flat2 e sF).1 (List.nodup_append.mpr ⟨S.nod, nd, fun a ha b hb e => S.offF a (.inr (e ▸ hb)) ha⟩)
  · rcases sub a ha with z | z
    · exact S.new a z
    · exact n0 a z
  · rcases sub a ha with z | z
    · exact S.offF a (.inl za) z
    · exact hO a z za
  · by_cases e : a = p
    · exact ⟨x, by rw [e, upd_same], mx⟩
    · rw [upd_ne e]
      rcases sub a ha with z | z
      · exact S.there a z
      · exact ta a z
  · by_cases h : i = j
    · subst h
      rw [List.getElem?_set_self (by rw [S.len, ← S.lenF]; exact hl)] at e
      cases e
    · rw [List.getElem?_set_ne h] at e
      rw [getD_set_ne h]
      exact S.mt j e
theorem SS.mut {ps : List (Md × D)} {avs : List V} {Gs : List (List Addr)} (S : SS W H0 (fun a => O0 a ∨ a ∈ Gs.flatten) H σ δ Fs) (hO : ∀ a ∈ Gs.flatten, ¬ O0 a) (nd : Gs.flatten.Nodup) (n0 : ∀ a ∈ Gs.flatten, H0 a = none)
    (ow : Ows W H (fun a => (O0 a ∨ a ∈ Fs.flatten) ∨ a ∈ Gs.flatten) ps avs Gs) {i : Nat} {q q' : Md × D} (hi : δ[i]? = some (some q)) {o : Mo} {is : List Int} (hm : moS o is ps q = some q') :
    ∃ v p vs xs ys, σ[i]? = some (some v) ∧ VAt H is v (.ref p) ∧ p ∈ Fs.getD i [] ∧ H p = some (.lst vs) ∧ vs.length ≤ sizeLine ∧ Rps W H (fun _ => False) xs vs ∧ moL o xs (ps.map Prod.snd) = some ys ∧
      ∀ vs', MoV o H vs avs vs' → (o = .remove → ∃ j, ys = xs.eraseIdx j ∧ vs' = vs.eraseIdx j) → vs'.length ≤ sizeLine → ∃ F', SS W H0 O0 (L2.upd H p (.lst vs')) σ (δ.set i (some q')) (Fs.set i F') ∧ ∀ a ∈ F', a ∈ Fs.flatten ∨ a ∈ Gs.flatten := by
  obtain ⟨v, hv, how⟩ := S.slot i q hi
  have hl : i < Fs.length := by rw [S.lenF, ← S.len]; exact (List.getElem?_eq_some_iff.mp hi).1
  have eF : Fs[i]? = some (Fs.getD i []) := by rw [List.getD_eq_getElem?_getD, List.getElem?_eq_getElem hl]; rfl
  have ndi : (Fs.getD i []).Nodup := nod_get S.nod eF
  have ndG : (Fs.getD i [] ++ Gs.flatten).Nodup := List.nodup_append.mpr ⟨ndi, nd, fun a ha b hb e => S.offF a (.inr (e ▸ hb)) (mem_flat ha)⟩
  -- a flat change
  have flat : ∀ (a : Addr) (vs : List V) (xs : List D) (ys : List D), v = .ref a → a ∈ Fs.getD i [] → H a = some (.lst vs) → vs.length ≤ sizeLine → Rps W H (fun c => O0 c ∨ c ∈ (Fs.set i [a]).flatten) xs vs → moL o xs (ps.map Prod.snd) = some ys → q' = (.fl, .lst ys) → is = [] →
      ∃ v p vs xs ys, σ[i]? = some (some v) ∧ VAt H is v (.ref p) ∧ p ∈ Fs.getD i [] ∧ H p = some (.lst vs) ∧ vs.length ≤ sizeLine ∧ Rps W H (fun _ => False) xs vs ∧ moL o xs (ps.map Prod.snd) = some ys ∧
      ∀ vs', MoV o H vs avs vs' → (o = .remove → ∃ j, ys = xs.eraseIdx j ∧ vs' = vs.eraseIdx j) → vs'.length ≤ sizeLine → ∃ F', SS W H0 O0 (L2.upd H p (.lst vs')) σ (δ.set i (some q')) (Fs.set i F') ∧ ∀ a ∈ F', a ∈ Fs.flatten ∨ a ∈ Gs.flatten := by
    intro a vs xs ys ev ha h1 h2 h3 em eq ei
    subst ev eq ei
    have op : a ∈ (Fs.set i [a]).flatten := mem_flat (i := i) (by rw [getD_set_self hl]; exact List.mem_cons_self)
    refine ⟨.ref a, a, vs, xs, ys, hv, rfl, ha, h1, h2, Rps.mono (Same.refl H) (fun _ z => z.elim) _ _ h3, em, fun vs' mv hr hl' => ⟨[a], ?_, fun b hb => by rw [List.mem_singleton.mp hb]; exact .inl (mem_flat ha)⟩⟩
    have sA : ∀ c, (O0 c ∨ c ∈ (Fs.set i [a]).flatten) → (O0 c ∨ c ∈ Fs.flatten) := fun c z => by
      rcases z with z | z
      · exact .inl z
      · rcases mem_set_flat z with z | ⟨j, _, z⟩
        · rw [List.mem_singleton.mp z]; exact .inr (mem_flat ha)
        · exact .inr (mem_flat z)
    have ra : Rps W H (fun c => O0 c ∨ c ∈ (Fs.set i [a]).flatten) (ps.map Prod.snd) avs := ow.rps (fun c z => .inl (sA c z)) fun c hc z => by
      rcases sA c z with z | z
      · exact hO c hc z
      · exact S.offF c (.inr hc) z
    obtain ⟨A1, k1⟩ := Rps.al h3
    obtain ⟨A2, k2⟩ := Rps.al ra
    obtain ⟨A3, k3, _⟩ := moL_ok relQ_rp k1 k2 em mv hr
    refine S.chg hO nd n0 (fun b hb => ow.there b hb) hi hv ha h1 trivial (x := .lst vs') trivial (.sub ?_) ⟨a, vs', rfl, rfl, upd_same, hl', Rps.upd h1 trivial (.inr op) _ _ k3.rps⟩
    exact (List.singleton_sublist.mpr ha).trans (List.sublist_append_left _ _)
  obtain ⟨m, d⟩ := q
  cases m with
  | sh => cases hm
  | fl =>
    cases is with
    | cons _ _ => cases hm
    | nil =>
      cases d with
      | lst xs =>
        have hm : ((moL o xs (ps.map Prod.snd)).map fun ys => (Md.fl, D.lst ys)) = some q' := hm
        cases em : moL o xs (ps.map Prod.snd) with
        | none => rw [em] at hm; cases hm
        | some ys =>
          rw [em] at hm
          cases hm
          obtain ⟨a, vs, e1, e2, h1, h2, h3⟩ := how
          refine flat a vs xs ys e1 (by rw [e2]; exact List.mem_cons_self) h1 h2 (Rps.mono (Same.refl H) (fun c z => ?_) _ _ h3) em rfl rfl
          rcases z with z | z
          · exact .inl (.inl z)
          · rcases mem_set_flat z with z | ⟨j, _, z⟩
            · rw [← e2] at z; exact .inr (mem_flat z)
            · exact .inr (mem_flat z)
      | _ => cases hm
  | dp =>
    by_cases c : closeds ps = true
    · rw [moS_cl c] at hm
      cases em : moP o (ps.map Prod.snd) is d with
      | none => rw [em] at hm; cases hm
      | some d' =>
        rw [em] at hm
        cases hm
        obtain ⟨p, vs, xs, ys, r1, r2, r3, r4, r5, r6, r7⟩ := deep_mut how em
        refine ⟨v, p, vs, xs, ys, hv, r1, r2, r3, r4, r5, r6, fun vs' mv hr hl' => ?_⟩
        obtain ⟨Gs', g1, g2⟩ := (ow.dqs c).al
        obtain ⟨F', q1, q2, q3⟩ := r7 avs vs' Gs' g1 mv hr hl' (by rw [g2]; exact ndG)
        rw [g2] at q2
        refine ⟨F', S.chg hO nd n0 (fun b hb => ow.there b hb) hi hv r2 r3 trivial (x := .lst vs') trivial q2 q1, fun b hb => ?_⟩
        rcases List.mem_append.mp (q2.2 b hb) with z | z
        · exact .inl (mem_flat z)
        · exact .inr z
    · obtain ⟨xs, ei, ed, hm2⟩ := moS_nc c hm
      clear hm
      subst ed
      cases em : moL o xs (ps.map Prod.snd) with
      | none => rw [em] at hm2; cases hm2
      | some ys =>
        rw [em] at hm2
        cases hm2
        obtain ⟨a, vs, G, e1, e2, h1, h2, h3⟩ := how
        refine flat a vs xs ys e1 (by rw [e2]; exact List.mem_cons_self) h1 h2 (Dqs.rp _ _ _ h3 fun b hb z => ?_) em rfl ei
        have hb' : b ∈ Fs.getD i [] := by rw [e2]; exact List.mem_cons_of_mem _ hb
        rcases z with z | z
        · exact S.offF b (.inl z) (mem_flat hb')
        · rcases mem_set_flat z with z | ⟨j, hj, z⟩
          · rw [e2] at ndi
            exact (List.nodup_cons.mp ndi).1 (by rw [← List.mem_singleton.mp z]; exact hb)
          · exact hj (flat_inj S.nod z hb')
end
end TW

set_option Elab.async false
set_option linter.all false
set_option maxRecDepth 100000
set_option maxHeartbeats 4000000
namespace TW
open PySem PySem.Spec PyProof.Rows L2

def plc (T : Tb) (i : Nat) (p : List E) (δ : Dn) : M (List Int × D) := match δ[i]? with
  | some (some q) => bnd (evP T p δ) fun ri => match getP ri.reverse q.2 with
    | some d => ok (ri, d)
    | none => none
  | _ => none
def rqp (W : Wd) (E0 : XK) (H : Hp) (v : V) (r : M (List Int × D)) (Q : VK) : Prop := match r with
  | none => False
  | some (.er C) => ∀ H', Same H H' → E0 (.ref (W.ca C)) none H'
  | some (.ok z) => ∀ w H', Same H H' → VAt H' z.1.reverse v w → Rp W H' (fun _ => False) z.2 w → Q w H'
def rdP (W : Wd) (E0 : XK) (T : Tb) (i : Nat) (p : List E) : TE := fun σ H Q => ∃ H0 O0 δ Fs v, SS W H0 O0 H σ δ Fs ∧ σ[i]? = some (some v) ∧ rqp W E0 H v (plc T i p δ) Q
theorem rqp_bnd {W : Wd} {E0 : XK} {H : Hp} {v : V} {α : Type} {x : M (List Int × D)} {f : List Int × D → M α} {G : M α → Prop} {R : VK} (hn : ¬ G none) (he : ∀ C, G (some (.er C)) → ∀ H', Same H H' → E0 (.ref (W.ca C)) none H') (h : G (bnd x f))
    (k : ∀ z, x = some (.ok z) → G (f z) → ∀ w H', Same H H' → VAt H' z.1.reverse v w → Rp W H' (fun _ => False) z.2 w → R w H') : rqp W E0 H v x R := by
  match x, h with
  | none, h => exact hn h
  | some (.er C), h => exact he C h
  | some (.ok z), h => exact k z rfl h
section
variable {W : Wd} {E0 : XK} {T : Tb} {X : Cx}
theorem p_nil (i : Nat) {x : Str} {pos : Pos} (hN : X.N[i]? = some x := by rfl) (hv : Vis X.env.scope x := by first | exact Or.inl rfl | exact Or.inr (Or.inl rfl) | exact Or.inr (Or.inr rfl)) (hd : (x == ("__debug__" : Str)) = false := by decide)
    (hcd : (x == ("__classdict__" : Str)) = false := by decide) : PE X (.Name x pos) (rdP W E0 T i []) := (pv i hN hv hd hcd).imp fun σ H Q ⟨H0, O0, δ, Fs, v, S, hv, q⟩ => by
  unfold plc at q
  cases e : δ[i]? with
  | none => rw [e] at q; exact q.elim
  | some o =>
    cases o with
    | none => rw [e] at q; exact q.elim
    | some p =>
      rw [e] at q
      obtain ⟨w, h1, h2⟩ := S.var e (T := [i]) (by simp)
      rw [hv] at h1
      cases h1
      exact ⟨v, hv, q v H (Same.refl H) rfl (Rp.mono (Same.refl H) (fun _ z => z.elim) _ _ h2)⟩
theorem okOnly_some {α : Type} {x : M α} {a : α} (h : okOnly x = some a) : x = some (.ok a) := by
  match x, h with
  | some (.ok b), h => cases h; rfl
theorem plc_cons {i : Nat} {a : E} {p : List E} {δ : Dn} : plc T i (a :: p) δ = bnd (plc T i p δ) fun z => match okOnly (ev T a δ) with
    | none => none
    | some r => (match intD r.2 with
      | some k => (match getP [k] z.2 with
        | some d => ok (k :: z.1, d)
        | none => none)
      | none => none) := by
  unfold plc
  cases δ[i]? with
  | none => rfl
  | some o =>
    cases o with
    | none => rfl
    | some q =>
      show bnd (bnd (evP T p δ) _) _ = bnd (bnd (evP T p δ) _) _
      cases evP T p δ with
      | none => rfl
      | some r =>
        cases r with
        | er C => rfl
        | ok ri =>
          show bnd (match okOnly (ev T a δ) with | some p => lift ((intD p.2).map (· :: ri)) | none => none) _ = bnd (match getP ri.reverse q.2 with | some d => ok (ri, d) | none => none) _
          cases okOnly (ev T a δ) with
          | none => cases getP ri.reverse q.2 <;> rfl
          | some r =>
            cases ek : intD r.2 with
            | none => cases getP ri.reverse q.2 <;> simp [bnd, lift, ek]
            | some k =>
              have e : getP (k :: ri).reverse q.2 = (getP ri.reverse q.2).bind (getP [k]) := by rw [List.reverse_cons, getP_app]
              simp only [ek, Option.map_some, lift, bnd, e]
              cases getP ri.reverse q.2 with
              | none => rfl
              | some d => rfl
theorem p_cons {o b : Expr} {i : Nat} {p : List E} {cb : E} {pos : Pos} (ho : PE X o (rdP W E0 T i p)) (hb : PE X b (rdE W E0 T cb)) (hs : PlainIx b := by exact fun _ _ => rfl) : PE X (.Subscript o b pos) (rdP W E0 T i (cb :: p)) :=
  (pe_ix ix_seq ho hb hs).imp fun σ H Q ⟨H0, O0, δ, Fs, v, S, hv, q⟩ => by
    rw [plc_cons] at q
    refine ⟨H0, O0, δ, Fs, v, S, hv, rqp_bnd (G := fun z => rqp W E0 H v z Q) (fun h => h) (fun C h => h) q fun z ez h1 w H1 s1 va rp => ?_⟩
    cases eo : okOnly (ev T cb δ) with
    | none => rw [eo] at h1; exact h1.elim
    | some r =>
    rw [eo] at h1
    refine ⟨H0, O0, δ, Fs, S.grow s1, ?_⟩
    rw [okOnly_some eo]
    have h2 : rqp W E0 H v (match intD r.2 with | some k => (match getP [k] z.2 with | some d => ok (k :: z.1, d) | none => none) | none => none) Q := h1
    intro u H2 F s2 n2 nd2 ow2
    cases ei : intD r.2 with
    | none => rw [ei] at h2; exact h2.elim
    | some k =>
      rw [ei] at h2
      have ru := ow2.rpv (O1 := fun _ => False) (fun _ z => z.elim) (fun _ z => z.elim) n2
      rw [intD_eq ei] at ru
      have ru : u = .int k := ru
      subst ru
      have rp2 := Rp.mono s2 (fun _ z => z) _ _ rp
      have va2 := va.mono s2
      obtain ⟨ri, d⟩ := z
      have h2 : rqp W E0 H v (match getP [k] d with | some d => ok (k :: ri, d) | none => none) Q := h2
      cases d with
      | lst ds =>
        obtain ⟨a, vs, rfl, _, g1, g2, g3⟩ := rp2
        cases ea : atI ds k with
        | none =>
          have e0 : getP [k] (.lst ds) = none := by show (atI ds k).bind _ = none; rw [ea]; rfl
          rw [e0] at h2
          exact h2.elim
        | some d' =>
          have e0 : getP [k] (.lst ds) = some d' := by show (atI ds k).bind _ = some d'; rw [ea]; rfl
          rw [e0] at h2
          obtain ⟨x, e1, r1⟩ := g3.at ea
          refine .inl ⟨a, vs, k, x, rfl, rfl, .inl (.inl g1), e1, h2 x H2 (s1.trans s2) ?_ r1⟩
          show VAt H2 (k :: ri).reverse v x
          rw [List.reverse_cons]
          exact VAt.snoc (.inl g1) e1 va2
      | tup ds =>
        obtain ⟨a, vs, rfl, g1, g2, g3⟩ := rp2
        cases ea : atI ds k with
        | none =>
          have e0 : getP [k] (.tup ds) = none := by show (atI ds k).bind _ = none; rw [ea]; rfl
          rw [e0] at h2
          exact h2.elim
        | some d' =>
          have e0 : getP [k] (.tup ds) = some d' := by show (atI ds k).bind _ = some d'; rw [ea]; rfl
          rw [e0] at h2
          obtain ⟨x, e1, r1⟩ := g3.at ea
          refine .inr (.inl ⟨a, vs, k, x, rfl, rfl, .inl (.inl g1), e1, h2 x H2 (s1.trans s2) ?_ r1⟩)
          show VAt H2 (k :: ri).reverse v x
          rw [List.reverse_cons]
          exact VAt.snoc (.inr g1) e1 va2
      | _ => exact h2.elim

def mutK (i : Nat) (o : Mo) (is : List Int) (ns : List Nat) (ps : List (Md × D)) (δ : Dn) : M Fl := match (gives ns ps δ)[i]? with
  | some (some q) => lift ((moS o is ps q).map fun q' => Fl.nx ((gives ns ps δ).set i (some q')))
  | _ => none
def isL : D → Bool
  | .lst _ => true
  | _ => false
theorem ex_mut {i : Nat} {p : List E} {o : Mo} {as : List E} {δ : Dn} : ex T (.mut i p o as) δ = bnd (plc T i p δ) fun z => if isL z.2 then bnd (evs T as δ) fun ps => mutK i o z.1.reverse (nms as) ps δ else none := by
  simp only [ex]
  unfold plc mutK
  cases δ[i]? with
  | none => rfl
  | some s =>
    cases s with
    | none => rfl
    | some q =>
      show bnd (evP T p δ) _ = bnd (bnd (evP T p δ) _) _
      cases evP T p δ with
      | none => rfl
      | some r =>
        cases r with
        | er C => rfl
        | ok ri =>
          simp only [bnd]
          cases getP ri.reverse q.2 with
          | none => rfl
          | some d => cases d <;> rfl
theorem mut_fin {H0 H H3 : Hp} {O0 : Addr → Prop} {σ : L2.St} {δ : Dn} {Fs Gs : List (List Addr)} {ns : List Nat} {ps : List (Md × D)} {avs : List V} {i : Nat} {o : Mo} {is : List Int} {D' : Ends} (S : SS W H0 O0 H σ δ Fs) (s1 : Same H H3) (n1 : ∀ a ∈ Gs.flatten, H a = none) (nd : Gs.flatten.Nodup)
    (ow : Ows W H3 (fun a => av O0 Fs ns a ∨ a ∈ Gs.flatten) ps avs Gs) (h : rqf W E0 H0 O0 H Fs (mutK i o is ns ps δ) D') :
    ∃ v p vs xs ys, σ[i]? = some (some v) ∧ VAt H3 is v (.ref p) ∧ H3 p = some (.lst vs) ∧ vs.length ≤ sizeLine ∧ Rps W H3 (fun _ => False) xs vs ∧ moL o xs (ps.map Prod.snd) = some ys ∧
      ∀ vs', MoV o H3 vs avs vs' → (o = .remove → ∃ j, ys = xs.eraseIdx j ∧ vs' = vs.eraseIdx j) → vs'.length ≤ sizeLine → D'.nx σ (L2.upd H3 p (.lst vs')) := by
  obtain ⟨Fs2, S2, sub, ow2⟩ := gives_ok S s1 n1 ow
  unfold mutK at h
  cases eg : (gives ns ps δ)[i]? with
  | none => rw [eg] at h; exact h.elim
  | some sl =>
    cases sl with
    | none => rw [eg] at h; exact h.elim
    | some q =>
      rw [eg] at h
      cases em : moS o is ps q with
      | none => simp only [em] at h; exact h.elim
      | some q' =>
        simp only [em] at h
        obtain ⟨v, p, vs, xs, ys, g1, g2, g3, g4, g5, g6, g7, g8⟩ := S2.mut (fun a ha z => S.oldT a z (n1 a ha)) nd (fun a ha => S.same.free (n1 a ha)) ow2 eg em
        refine ⟨v, p, vs, xs, ys, g1, g2, g4, g5, g6, g7, fun vs' mv hr hl => ?_⟩
        obtain ⟨F', S3, s3⟩ := g8 vs' mv hr hl
        refine h _ _ _ S3 ⟨fun b u e nb => ?_, fun a ha => ?_, fun b hb => ?_⟩
        · have ne : b ≠ p := fun z => nb (sub b (mem_flat (i := i) (by rw [z]; exact g3)))
          rw [upd_ne ne]
          exact s1 b u e
        · have : a ∈ Fs2.flatten ∨ a ∈ Gs.flatten := by
            rcases mem_set_flat ha with z | ⟨j, _, z⟩
            · exact s3 a z
            · exact .inl (mem_flat z)
          exact this.imp (sub a) (n1 a)
        · by_cases e : b = p
          · rw [e, upd_same]; simp
          · rw [upd_ne e]; exact fun z => hb (s1.free z)
def MoR (o : Mo) (n : Nat) (r : V → List V → Hp → VK → Prop) : Prop := ∀ (W : Wd) (H : Hp) (p : Addr) (vs : List V) (xs : List D) (avs : List V) (ds ys : List D) (Q : VK), ds.length = n → H p = some (.lst vs) → vs.length ≤ sizeLine → Rps W H (fun _ => False) xs vs → Rps W H (fun _ => False) ds avs → moL o xs ds = some ys →
  (∀ ret vs', MoV o H vs avs vs' → (o = .remove → ∃ j, ys = xs.eraseIdx j ∧ vs' = vs.eraseIdx j) → vs'.length ≤ sizeLine → Q ret (L2.upd H p (.lst vs'))) → r (.ref p) avs H Q
theorem s_mut {o : Mo} {n : Nat} {r : V → List V → Hp → VK → Prop} {id : String} {name : Str} {ob e : Expr} {es : List Expr} {i : Nat} {p : List E} {cs : List E} {apos cpos pos : Pos} (slot : Slot "list" name id) (hty : typeOf (.builtin id) = pure (.type "method_descriptor")) (hm : MtR X id r) (hr : MoR o n r) (hn : cs.length = n) (ho : PE X ob (rdP W E0 T i p)) (ha : PA X (e :: es) (rdA W E0 T cs))
    (hbase : attributeBase ob name X.env (eval ob X.env) = eval ob X.env := by rfl)
    (hfew : ((backTo cpos (starEach (e :: es) X.env)).all (fun x => !x.1) && (backToKw cpos (keywordEach [] X.env)).all (fun x => x.1.isSome)
      && decide ((e :: es).length + ([] : List Keyword).length + (if ([] : List Keyword).isEmpty then 0 else 1) < 30)) = true := by rfl)
    (hline : (apos.endLine == cpos.line) = true := by rfl) (hs : starEach (e :: es) X.env = (false, eval e X.env) :: starEach es X.env := by rfl) (hplain : (backTo cpos (starEach es X.env)).any (·.1) = false := by rfl)
    (hsw : swapsWith (.Call (.Attribute ob name apos) (e :: es) [] cpos) none pos.line X.env = pure false := by rfl) :
    PS X (.Expr (.Call (.Attribute ob name apos) (e :: es) [] cpos) pos) (rdS W E0 T (.mut i p o cs)) :=
  (ps_expr (pe_bm PySem.F.plainAttrs_list slot hty hm ho ha hbase hfew hline hs hplain) hsw).imp fun D σ H ⟨H0, O0, δ, Fs, S, q⟩ => by
    rw [ex_mut] at q
    have hv : ∃ v, σ[i]? = some (some v) := by
      unfold plc at q
      cases e : δ[i]? with
      | none => rw [e] at q; exact q.elim
      | some s =>
        cases s with
        | none => rw [e] at q; exact q.elim
        | some pr => exact (S.slot i pr e).imp fun v h => h.1
    obtain ⟨v, hv⟩ := hv
    refine ⟨H0, O0, δ, Fs, v, S, hv, rqp_bnd (G := fun z => rqf W E0 H0 O0 H Fs z D) rqf_none (fun C h => rqf_er S.same h) q fun z ez h1 w H1 s1 va rp => ?_⟩
    obtain ⟨ri, d⟩ := z
    have va : VAt H1 ri.reverse v w := va
    cases d with
    | lst xs0 =>
      have h1 : rqf W E0 H0 O0 H Fs (bnd (evs T cs δ) fun ps => mutK i o ri.reverse (nms cs) ps δ) D := h1
      obtain ⟨a, us, rfl, _, g1, g2, g3⟩ := rp
      refine ⟨.inl ⟨rfl, us, .inl (.inl g1)⟩, H0, O0, δ, Fs, S.grow s1, rqs_bnd2 (G := fun z => rqf W E0 H0 O0 H Fs z D) rqf_none (fun C h H' s' => rqf_er S.same h H' (s1.trans s')) h1 fun ps ep h2 avs H2 Gs s2 n2 nd2 ow2 => ?_⟩
      obtain ⟨v', p', vs, xs, ys, k1, k2, k3, k4, k5, k6, k7⟩ := mut_fin S (s1.trans s2) (fun b hb => s1.free (n2 b hb)) nd2 ow2 h2
      rw [hv] at k1
      cases k1
      have := (va.mono s2).det k2
      cases this
      refine hr W H2 a vs xs avs (ps.map Prod.snd) ys _ (by rw [List.length_map, evs_len ep, hn]) k3 k4 k5 (ow2.rps (fun _ z => z.elim) (fun _ _ z => z)) k6 fun ret vs' mv hrm hl => k7 vs' mv hrm hl
    | _ => exact h1.elim
theorem s_mut0 {o : Mo} {r : V → List V → Hp → VK → Prop} {id : String} {name : Str} {ob : Expr} {i : Nat} {p : List E} {apos cpos pos : Pos} (slot : Slot "list" name id) (hty : typeOf (.builtin id) = pure (.type "method_descriptor")) (hm : MtR X id r) (hr : MoR o 0 r) (ho : PE X ob (rdP W E0 T i p))
    (hbase : attributeBase ob name X.env (eval ob X.env) = eval ob X.env := by rfl) (hline : (apos.endLine == cpos.line) = true := by rfl)
    (hsw : swapsWith (.Call (.Attribute ob name apos) [] [] cpos) none pos.line X.env = pure false := by rfl) :
    PS X (.Expr (.Call (.Attribute ob name apos) [] [] cpos) pos) (rdS W E0 T (.mut i p o [])) :=
  (ps_expr (pe_bm0 PySem.F.plainAttrs_list slot hty hm ho hbase hline) hsw).imp fun D σ H ⟨H0, O0, δ, Fs, S, q⟩ => by
    rw [ex_mut] at q
    have hv : ∃ v, σ[i]? = some (some v) := by
      unfold plc at q
      cases e : δ[i]? with
      | none => rw [e] at q; exact q.elim
      | some s =>
        cases s with
        | none => rw [e] at q; exact q.elim
        | some pr => exact (S.slot i pr e).imp fun v h => h.1
    obtain ⟨v, hv⟩ := hv
    refine ⟨H0, O0, δ, Fs, v, S, hv, rqp_bnd (G := fun z => rqf W E0 H0 O0 H Fs z D) rqf_none (fun C h => rqf_er S.same h) q fun z ez h1 w H1 s1 va rp => ?_⟩
    obtain ⟨ri, d⟩ := z
    have va : VAt H1 ri.reverse v w := va
    cases d with
    | lst xs0 =>
      have h1 : rqf W E0 H0 O0 H Fs (mutK i o ri.reverse [] [] δ) D := by
        have h1 : rqf W E0 H0 O0 H Fs (bnd (evs T [] δ) fun ps => mutK i o ri.reverse (nms []) ps δ) D := h1
        simp only [evs, nms] at h1
        exact h1
      obtain ⟨a, us, rfl, _, g1, g2, g3⟩ := rp
      refine ⟨.inl ⟨rfl, us, .inl (.inl g1)⟩, ?_⟩
      obtain ⟨v', p', vs, xs, ys, k1, k2, k3, k4, k5, k6, k7⟩ := mut_fin (Gs := []) (avs := []) (ps := []) (ns := []) S s1 (fun b hb => by cases hb) List.nodup_nil ⟨rfl, rfl⟩ h1
      rw [hv] at k1
      cases k1
      have := va.det k2
      cases this
      refine hr W H1 a vs xs [] [] ys _ rfl k3 k4 k5 rfl k6 fun ret vs' mv hrm hl => k7 vs' mv hrm hl
    | _ => exact h1.elim
end

theorem mo_append : MoR .append 1 rAppend := fun W H p vs xs avs ds ys Q hn hp hl hx ha hm k => by
  match ds, hn, hm, ha with
  | [d], _, hm, ha =>
    have hm : (if xs.length < SZ then some (xs ++ [d]) else none) = some ys := hm
    obtain ⟨a, r, rfl, _, rfl⟩ := ha
    split at hm
    · rename_i hlt
      have hlt : vs.length < SZ := by rw [Rps.length _ _ hx]; exact hlt
      have := sz_le
      exact ⟨p, vs, a, rfl, rfl, hp, by omega, k _ _ ⟨a, rfl, rfl⟩ (fun e => by cases e) (by rw [List.length_append, List.length_singleton]; omega)⟩
    · cases hm
theorem mo_extend : MoR .extend 1 rExtend := fun W H p vs xs avs ds ys Q hn hp hl hx ha hm k => by
  match ds, hn, hm, ha with
  | [.lst zs], _, hm, ha =>
    have hm : (if xs.length + zs.length ≤ SZ then some (xs ++ zs) else none) = some ys := hm
    obtain ⟨a, r, rfl, ⟨b, ws, rfl, _, hb, hbl, hz⟩, rfl⟩ := ha
    split at hm
    · rename_i hlt
      rw [← Rps.length _ _ hx, ← Rps.length _ _ hz] at hlt
      have := sz_le
      exact ⟨p, b, vs, ws, rfl, rfl, hp, hb, by omega, k _ _ ⟨b, ws, rfl, hb, rfl⟩ (fun e => by cases e) (by rw [List.length_append]; omega)⟩
    · cases hm
theorem mo_pop : MoR .pop 0 rPop := fun W H p vs xs avs ds ys Q hn hp hl hx ha hm k => by
  match ds, hn, hm, ha with
  | [], _, hm, ha =>
    have ha : avs = [] := ha
    subst ha
    have hne : vs ≠ [] := by
      intro e
      have := Rps.length _ _ hx
      rw [e] at this
      cases xs with
      | nil => cases hm
      | cons x xs => cases this
    have hlen : vs.length - 1 < vs.length := by
      cases vs with
      | nil => exact absurd rfl hne
      | cons v vs => simp
    exact ⟨p, vs, vs[vs.length - 1], rfl, rfl, hp, List.getElem?_eq_getElem hlen, k _ _ (.inl ⟨rfl, rfl⟩) (fun e => by cases e) (by rw [List.length_dropLast]; omega)⟩
end TW

set_option Elab.async false
set_option linter.all false
set_option maxRecDepth 100000
set_option maxHeartbeats 4000000
namespace TW
open PySem PySem.Spec PyProof.Rows L2

section
variable {W : Wd} {E0 : XK} {T : Tb} {X : Cx}
theorem evs2 {a b : E} {δ : Dn} : evs T [a, b] δ = bnd (ev T a δ) fun p => bnd (ev T b δ) fun q => ok [p, q] := by
  simp only [evs]
  congr 1
  funext p
  cases ev T b δ with
  | none => rfl
  | some r => cases r <;> rfl
end
end TW

set_option Elab.async false
set_option linter.all false
set_option maxRecDepth 100000
set_option maxHeartbeats 4000000
namespace TW
open PySem PySem.Spec PyProof.Rows L2

section
variable {W : Wd} {X : Cx}
theorem g_one (i : Nat) {x : Str} {pos : Pos} (hN : X.N.Nodup) (hi : X.N[i]? = some x := by rfl) (hx : Loc X.env.scope x := by first | exact Or.inl rfl | exact Or.inr rfl) (hf : X.fn x = true ∨ X.env.scope.names.lookup x = some .local := by first | exact .inl rfl | exact .inr rfl) : PG X (.Name x pos) (gT X.K [i] true) :=
  pg_name hN hi hx hf
theorem g_two (i j : Nat) {x y : Str} {px py pos : Pos} {k : Nat} (hc : X.calm = true) (hN : X.N.Nodup) (hi : X.N[i]? = some x := by rfl) (hj : X.N[j]? = some y := by rfl) (hx : Loc X.env.scope x := by first | exact Or.inl rfl | exact Or.inr rfl) (hy : Loc X.env.scope y := by first | exact Or.inl rfl | exact Or.inr rfl)
    (hfx : X.fn x = true ∨ X.env.scope.names.lookup x = some .local := by first | exact .inl rfl | exact .inr rfl) (hfy : X.fn y = true ∨ X.env.scope.names.lookup y = some .local := by first | exact .inl rfl | exact .inr rfl) : PG X (.Tuple [.Name x px, .Name y py] k pos) (gT X.K [i, j] false) :=
  pg_tup hc (pgs_cons (pg_name hN hi hx hfx) (pgs_cons (pg_name hN hj hy hfy) pgs_nil))
end

theorem ss_start {W : Wd} {H : Hp} {O : Addr → Prop} {ds : List D} {vs : List V} {N : List Str} {np nv : Nat} (hO : ∀ a, O a → H a ≠ none) (hr : Rps W H O ds vs) (hnp : ds.length = np) (hnv : N.length = nv) (hle : np ≤ nv) :
    SS W H O H (L2.start N vs) (start0 np nv ds) (List.replicate nv []) := by
  have hl : vs.length = ds.length := Rps.length _ _ hr
  have hfl : (List.replicate nv ([] : List Addr)).flatten = [] := by
    rw [List.flatten_replicate_nil]
  have hg : ∀ i, (List.replicate nv ([] : List Addr)).getD i [] = [] := fun i => by
    rw [List.getD_eq_getElem?_getD, List.getElem?_replicate]
    split <;> rfl
  have noF : ∀ a, a ∉ (List.replicate nv ([] : List Addr)).flatten := fun a ha => by rw [hfl] at ha; cases ha
  refine ⟨Same.refl H, ?_, ?_, fun i p e => ?_, (by rw [hfl]; exact List.nodup_nil), fun a ha => (noF a ha).elim, fun a _ ha => noF a ha, hO, fun a ha => (noF a ha).elim, fun i _ => hg i⟩
  · unfold L2.start start0
    simp only [List.length_append, List.length_map, List.length_replicate]
    omega
  · unfold L2.start
    simp only [List.length_append, List.length_map, List.length_replicate]
    omega
  · unfold start0 at e
    by_cases hi : i < ds.length
    · rw [List.getElem?_append_left (by rw [List.length_map]; exact hi), List.getElem?_map] at e
      cases ed : ds[i]? with
      | none => rw [ed] at e; cases e
      | some d =>
        rw [ed] at e
        cases e
        obtain ⟨Fs, k1⟩ := Rps.al hr
        obtain ⟨v, F, e1, e2, e3⟩ := k1.get ed
        refine ⟨v, ?_, ?_⟩
        · unfold L2.start
          rw [List.getElem?_append_left (by rw [List.length_map]; omega), List.getElem?_map, e1]
          rfl
        · rw [hg]
          exact ⟨rfl, Rp.mono (Same.refl H) (fun a z => z.elim id fun q => by rw [hfl] at q; cases q) _ _ e3.2⟩
    · rw [List.getElem?_append_right (by rw [List.length_map]; omega), List.getElem?_replicate] at e
      split at e <;> cases e
theorem fn_zero {P : Program} {w : World} {mg : Str → Option Value} {base : Heap} {W : Wd} {PR : List Fun} {i : Nat} {f : Addr} {fd : FuncData} {ps : List Str} : FnOk P w W.K mg base (L2.CX P w) 0 f fd ps (spP W ps.length (run PR 0 i)) :=
  ⟨fun vs H Q E h => h.1, fun A outer s H args us vs Q E _ _ _ _ h => by
    obtain ⟨_, ds, O, _, _, hq⟩ := h
    exact hq.elim⟩
end TW

set_option Elab.async false
set_option linter.all false
set_option maxRecDepth 100000
set_option maxHeartbeats 4000000
namespace TW
open PySem PySem.Spec PyProof.Rows L2
section
variable {W : Wd} {E0 : XK} {T : Tb} {X : Cx}
theorem rdA_on {cs : List E} {σ : L2.St} {H : Hp} {Q : List V → Hp → Prop} (h : rdA W E0 T cs σ H Q) : rdA W E0 T cs σ H (fun vs H1 => ∀ H2, Same H1 H2 → Q vs H2) := by
  obtain ⟨H0, O0, δ, Fs, S, q⟩ := h
  refine ⟨H0, O0, δ, Fs, S, ?_⟩
  revert q
  cases evs T cs δ with
  | none => exact fun h => h
  | some r =>
    cases r with
    | er C => exact fun h => h
    | ok ps => exact fun q vs H1 Gs s1 n1 nd1 ow1 H2 s2 => q vs H2 Gs (s1.trans s2) n1 nd1 (ow1.mono s2 fun _ z => z)
theorem imp_rdA {cs : List E} {σ : L2.St} {H : Hp} {Q R : List V → Hp → Prop} (h : rdA W E0 T cs σ H Q) (k : ∀ vs H1, Q vs H1 → R vs H1) : rdA W E0 T cs σ H R := by
  obtain ⟨H0, O0, δ, Fs, S, q⟩ := h
  refine ⟨H0, O0, δ, Fs, S, ?_⟩
  revert q
  cases evs T cs δ with
  | none => exact fun h => h
  | some r =>
    cases r with
    | er C => exact fun h => h
    | ok ps => exact fun q vs H1 Gs s1 n1 nd1 ow1 => k _ _ (q vs H1 Gs s1 n1 nd1 ow1)
theorem s_parU {i j : Nat} {x y : Str} {a b : Expr} {ca cb : E} {px py pt pos : Pos} {kt k2 pt2} (hc : X.calm = true) (hN : X.N.Nodup) (ha : PA X [a, b] (rdA W E0 T [ca, cb])) (hi : X.N[i]? = some x := by rfl) (hj : X.N[j]? = some y := by rfl)
    (hx : Loc X.env.scope x := by first | exact Or.inl rfl | exact Or.inr rfl) (hy : Loc X.env.scope y := by first | exact Or.inl rfl | exact Or.inr rfl)
    (hfx : X.fn x = true ∨ X.env.scope.names.lookup x = some .local := by first | exact .inl rfl | exact .inr rfl) (hfy : X.fn y = true ∨ X.env.scope.names.lookup y = some .local := by first | exact .inl rfl | exact .inr rfl)
    (hs : swapsWithSole [.Tuple [.Name x px, .Name y py] kt pt] (.Tuple [a, b] k2 pt2) pos.line X.env = pure false := by rfl) (hw : swappedStores [.Tuple [.Name x px, .Name y py] kt pt] (.Tuple [a, b] k2 pt2) X.env = pure none := by rfl)
    (h1 : (assignEach [.Tuple [.Name x px, .Name y py] kt pt] X.env).map (·.2) = [assign (.Tuple [.Name x px, .Name y py] kt pt) X.env] := by rfl) :
    PS X (.Assign [.Tuple [.Name x px, .Name y py] kt pt] (.Tuple [a, b] k2 pt2) pos) (rdS W E0 T (.par [i, j] [ca, cb])) :=
  (ps_asg (pe_tup ha) (pg_tup hc (pgs_cons (pg_name hN hi hx hfx) (pgs_cons (pg_name hN hj hy hfy) pgs_nil))) hs hw h1).imp fun D σ H h => by
    refine imp_rdA (rdA_on (rd_par h)) fun vs H1 k => ?_
    have hl := (k H1 (Same.refl H1)).2
    match vs, hl, k with
    | [v, w], _, k =>
      refine ⟨(by simp [sizeLine]), fun p n => ⟨p, [v, w], rfl, .inl (.inl upd_same), rfl, v, [w], rfl, w, [], rfl, rfl, (k _ (same_new n)).1⟩⟩
end
end TW

set_option Elab.async false
set_option linter.all false
set_option maxRecDepth 100000
set_option maxHeartbeats 4000000
namespace TW
open PySem PySem.Spec PyProof.Rows L2
section
variable {P : Program} {w : World} {A : Around} {E : Value → Shared → Prop} {s : Shared}
end
section
variable {W : Wd} {E0 : XK} {T : Tb} {X : Cx}
end
theorem dedB_mem {α : Type} [DecidableEq α] : ∀ (xs : List α) (z : α), z ∈ dedB xs ↔ z ∈ xs
  | [], z => by simp [dedB]
  | x :: xs, z => by
    unfold dedB
    split
    · rename_i h
      rw [dedB_mem xs z]
      constructor
      · exact fun q => List.mem_cons_of_mem _ q
      · intro q
        rcases List.mem_cons.mp q with rfl | q
        · exact h
        · exact q
    · rw [List.mem_cons, List.mem_cons, dedB_mem xs z]
theorem dedB_nodup {α : Type} [DecidableEq α] : ∀ xs : List α, (dedB xs).Nodup
  | [] => List.nodup_nil
  | x :: xs => by
    unfold dedB
    split
    · exact dedB_nodup xs
    · rename_i h
      exact List.nodup_cons.mpr ⟨fun q => h ((dedB_mem xs x).mp q), dedB_nodup xs⟩
section
variable {W : Wd} {E0 : XK} {T : Tb} {X : Cx}
def adV : V → Addr
  | .ref a => a
  | _ => 0
abbrev pI (p : Int × Int) : List Int := [p.1, p.2]
def unp2 : List Int → Int × Int
  | [a, b] => (a, b)
  | _ => (0, 0)
end
section
variable {W : Wd} {E0 : XK} {T : Tb} {X : Cx}
end
end TW

set_option Elab.async false
set_option linter.all false
set_option maxRecDepth 100000
set_option maxHeartbeats 4000000
namespace TW
open PySem PySem.Spec PyProof.Rows L2
structure ZS (S z TI TO i1 i2 l1 l2 : Addr) (xs ys : Array Value) (i : Nat) (h : Heap) : Prop where
  pr : IsPair h TI (.ref i1) (.ref i2)
  w1 : h.IsListIter i1 l1 i
  w2 : h.IsListIter i2 l2 i
  s1 : h.IsList l1 xs
  s2 : h.IsList l2 ys
  zz : (IsZip h z TI TO .none ∧ ∃ a b, IsPair h TO a b) ∨ ∃ T f oT, IsZipHeld h z TI TO T f ∧ h.get? T = some oT ∧ T ≠ z ∧ T ≠ i1 ∧ T ≠ i2 ∧ T ≠ S
section
variable {P : Program} {w : World} {A : Around} {E : Value → Shared → Prop} {s : Shared} {S z TI TO i1 i2 l1 l2 : Addr} {xs ys : Array Value} {i : Nat}
theorem ZS.item {x y : Value} {Q : Option Value → Shared → Prop} (D : ZipApart z TI TO i1 i2 l1 l2) (st : ZS S z TI TO i1 i2 l1 l2 xs ys i s.heap) (ex : xs[i]? = some x) (ey : ys[i]? = some y) (hS : S < s.heap.objs.size)
    (hQ : ∀ h', ZS S z TI TO i1 i2 l1 l2 xs ys (i + 1) h' → IsPair h' s.heap.objs.size x y → h'.objs.size = s.heap.objs.size + 1 → (∀ c o, c ∉ [z, TO, i1, i2] → s.heap.get? c = some o → h'.get? c = some o) → Q (some (.ref s.heap.objs.size)) { s with heap := h' }) :
    wpAny (model P w) A (pyNext (.ref z)) Q E s := by
  obtain ⟨hTI, h1, h2, hl1, hl2, hz⟩ := st
  have new : ∀ {c o}, s.heap.get? c = some o → s.heap.objs.size ≠ c := fun e => Nat.ne_of_gt (Heap.lt_size e)
  have n1 : s.heap.objs.size ≠ i1 := let ⟨_, e, _⟩ := h1; new e
  have n2 : s.heap.objs.size ≠ i2 := let ⟨_, e, _⟩ := h2; new e
  rcases hz with ⟨hz, a, b, hTO⟩ | ⟨T, f, oT, hz, hT, r1, r2, r3, r4⟩
  · refine wpAny_pyNext_zip_item D hz hTI hTO h1 h2 hl1 hl2 ex ey fun h' a1 a2 a3 a4 a5 a6 hk => ?_
    exact hQ h' ⟨hk _ _ D.TIz D.TITO D.TIi1 D.TIi2 hTI, a3, a4, hl1.at fun o e => hk _ o D.l1z D.l1TO D.l1i1 D.l1i2 e, hl2.at fun o e => hk _ o D.l2z D.l2TO D.l2i1 D.l2i2 e, .inr ⟨_, false, _, a1, a5, new hz, n1, n2, Nat.ne_of_gt hS⟩⟩ a5 a6
      fun c o hc e => hk c o (fun q => hc (by simp [q])) (fun q => hc (by simp [q])) (fun q => hc (by simp [q])) (fun q => hc (by simp [q])) e
  · refine wpAny_pyNext_zip_item_held D hz hT hTI h1 h2 hl1 hl2 ex ey fun h' a1 a3 a4 a5 a6 hk => ?_
    exact hQ h' ⟨hk _ _ D.TIz D.TIi1 D.TIi2 hTI, a3, a4, hl1.at fun o e => hk _ o D.l1z D.l1i1 D.l1i2 e, hl2.at fun o e => hk _ o D.l2z D.l2i1 D.l2i2 e, .inr ⟨T, true, oT, a1, hk _ _ r1 r2 r3 hT, r1, r2, r3, r4⟩⟩ a5 a6
      fun c o hc e => hk c o (fun q => hc (by simp [q])) (fun q => hc (by simp [q])) (fun q => hc (by simp [q])) e
theorem ZS.done {Q : Option Value → Shared → Prop} (quiet : A.handled = none) (D : ZipApart z TI TO i1 i2 l1 l2) (st : ZS S z TI TO i1 i2 l1 l2 xs ys i s.heap) (en : xs[i]? = none ∨ ys[i]? = none)
    (hQ : ∀ h', (∀ c o, c ∉ [z, TO, i1, i2] → s.heap.get? c = some o → h'.get? c = some o) → Q none { s with heap := h' }) : wpAny (model P w) A (pyNext (.ref z)) Q E s := by
  obtain ⟨hTI, h1, h2, hl1, hl2, hz⟩ := st
  rcases hz with ⟨hz, a, b, hTO⟩ | ⟨T, f, oT, hz, hT, r1, r2, r3, r4⟩
  · exact wpAny_pyNext_zip_end quiet D hz hTI hTO h1 h2 hl1 hl2 en fun h' hk => hQ h' fun c o hc e => hk c o (fun q => hc (by simp [q])) (fun q => hc (by simp [q])) (fun q => hc (by simp [q])) (fun q => hc (by simp [q])) e
  · exact wpAny_pyNext_zip_end_held quiet D hz hT hTI h1 h2 hl1 hl2 en fun h' hk => hQ h' fun c o hc e => hk c o (fun q => hc (by simp [q])) (fun q => hc (by simp [q])) (fun q => hc (by simp [q])) e
structure Told (base : Nat) (xs ys : Array Value) (Ts : List Addr) (h : Heap) : Prop where
  nd : Ts.Nodup
  lo : ∀ T ∈ Ts, base ≤ T
  hi : ∀ T ∈ Ts, T < h.objs.size
  at_ : ∀ (j : Nat) (T : Addr), Ts[j]? = some T → ∃ x y, xs[j]? = some x ∧ ys[j]? = some y ∧ IsPair h T x y
end
section
variable {H : Hp}
end
section
variable {X : Cx} {pins : List (Addr × Obj)} {σ : List (Option V)} {H H' : Hp} {s : Shared} {h' : Heap}
end
section
variable {W : Wd} {E0 : XK} {T : Tb} {X : Cx}
end
end TW

set_option Elab.async false
set_option linter.all false
set_option maxRecDepth 100000
set_option maxHeartbeats 4000000
namespace TW
open PySem PySem.Spec PyProof.Rows L2
def rRemD (K : PySem.W.Frag) : V → List V → Hp → VK → Prop := fun x xs H Q => ∃ (a : Addr) (vs : List V) (y : V) (d : PyData) (ds : List PyData) (j : Nat) (z : PyData), x = V.ref a ∧ xs = [y] ∧ H a = some (.lst vs) ∧ Dp K H (V.ref a) (.list ds) ∧ Dp K H y d ∧
  SeqAt.shaped (.list ds) = true ∧ SeqAt.shaped d = true ∧ ds[j]? = some z ∧ PyData.eqv z d = true ∧ (∀ (m : Nat) (z' : PyData), m < j → ds[m]? = some z' → PyData.eqv z' d = false) ∧ Q .non (L2.upd H a (.lst (vs.eraseIdx j)))
section
variable {X : Cx}
theorem mt_removeD (hu : X.A.units + 65 < cLine) : MtR X "list.remove" (rRemD X.K) := by
  intro pins s σ H x xs v us Q I rx rxs h
  obtain ⟨a, vs, y, d, ds, j, z, rfl, rfl, hH, hl, hy, sl, sd, hz, hzj, hno, q⟩ := h
  cases rx
  cases rxs with
  | cons ry rt =>
    rename_i uy ut
    cases rt
    obtain ⟨bs, r1⟩ := Dp.reads I d y uy hy ry
    have lay : PyData.canLayAll0 ds = true := SeqAt.canLay_of_shaped sl
    have room : X.A.units + 1 + min (PyData.depthAll ds) d.depth < cLine := room_in_shaped sd hu
    obtain ⟨zl, its, n, rv, hvl, e0⟩ := I.lstM hH
    cases hl with
    | lst hs ha =>
      have ev := I.list_inj hs (.inl (.inl hH))
      subst ev
      obtain ⟨as, h4⟩ := Dp.readsAll I ds _ its ha rv
      have hn : its.length = ds.length := SeqAt.ReadsAll.length ds its as h4
      have hmap : its.map (SeqAt.readOf s.heap) = ds := SeqAt.readsAll_map ds its as lay h4
      have hsl := sizeLine_eq
      obtain ⟨hjd, _⟩ := List.getElem?_eq_some_iff.mp hz
      have hjl : j < its.length := by omega
      have hj : j < its.toArray.size := by simpa using hjl
      have at_ : ∀ (m : Nat) (hm : m < its.toArray.size) (z' : PyData), ds[m]? = some z' → SeqAt.readOf s.heap its.toArray[m] = z' := by
        intro m hm z' hz'
        have hml : m < its.length := by simpa using hm
        rw [← hmap, List.getElem?_map, List.getElem?_eq_getElem hml] at hz'
        have e1 : SeqAt.readOf s.heap its[m] = z' := Option.some.inj (show some (SeqAt.readOf s.heap its[m]) = some z' from hz')
        simpa using e1
      have lit : its.toArray.size ≤ sizeLine := by rw [List.size_toArray, ← hvl]; exact zl
      refine call_meets PySem.F.slot_list_remove ⟨_, e0, rfl⟩ PySem.F.entry_list_remove (PySem.F.args_list_remove_2 _ _)
        (SeqAt.list_removeAt a its.toArray n none #[] uy (fun u => PyData.eqv (SeqAt.readOf s.heap u) d) j hj ?_ ?_ lit) ⟨e0, SeqAt.items_eqAt (vs := its.toArray) (show ReadsAll s.heap its.toArray.toList ds as from h4) r1 lay (SeqAt.canLay_of_shaped sd) room, ?_⟩
      · show PyData.eqv (SeqAt.readOf s.heap its.toArray[j]) d = true
        rw [at_ j hj z hz]
        exact hzj
      · intro m hm hmj
        have hmd : m < ds.length := by omega
        show PyData.eqv (SeqAt.readOf s.heap its.toArray[m]) d = false
        rw [at_ m hm _ (List.getElem?_eq_getElem hmd)]
        exact hno m _ hmj (List.getElem?_eq_getElem hmd)
      · refine ⟨.non, _, I.lset (its' := its.eraseIdx j) hH e0 ?_ (rv.eraseIdx j) ?_, rfl, q⟩
        · show its.toArray.eraseIdxIfInBounds j = (its.eraseIdx j).toArray
          rw [List.eraseIdxIfInBounds_toArray]
        · exact Nat.le_trans (List.eraseIdx_sublist ..).length_le zl
end
section
variable {W : Wd} {E0 : XK} {T : Tb} {X : Cx}
def MoW (W : Wd) (o : Mo) (n : Nat) (r : V → List V → Hp → VK → Prop) : Prop := ∀ (H : Hp) (p : Addr) (vs : List V) (xs : List D) (avs : List V) (ds ys : List D) (Q : VK), ds.length = n → H p = some (.lst vs) → vs.length ≤ sizeLine → Rps W H (fun _ => False) xs vs → Rps W H (fun _ => False) ds avs → moL o xs ds = some ys →
  (∀ ret vs', MoV o H vs avs vs' → (o = .remove → ∃ j, ys = xs.eraseIdx j ∧ vs' = vs.eraseIdx j) → vs'.length ≤ sizeLine → Q ret (L2.upd H p (.lst vs'))) → r (.ref p) avs H Q
theorem s_mutW {o : Mo} {n : Nat} {r : V → List V → Hp → VK → Prop} {id : String} {name : Str} {ob e : Expr} {es : List Expr} {i : Nat} {p : List E} {cs : List E} {apos cpos pos : Pos} (slot : Slot "list" name id) (hty : typeOf (.builtin id) = pure (.type "method_descriptor")) (hm : MtR X id r) (hr : MoW W o n r) (hn : cs.length = n) (ho : PE X ob (rdP W E0 T i p)) (ha : PA X (e :: es) (rdA W E0 T cs))
    (hbase : attributeBase ob name X.env (eval ob X.env) = eval ob X.env := by rfl)
    (hfew : ((backTo cpos (starEach (e :: es) X.env)).all (fun x => !x.1) && (backToKw cpos (keywordEach [] X.env)).all (fun x => x.1.isSome)
      && decide ((e :: es).length + ([] : List Keyword).length + (if ([] : List Keyword).isEmpty then 0 else 1) < 30)) = true := by rfl)
    (hline : (apos.endLine == cpos.line) = true := by rfl) (hs : starEach (e :: es) X.env = (false, eval e X.env) :: starEach es X.env := by rfl) (hplain : (backTo cpos (starEach es X.env)).any (·.1) = false := by rfl)
    (hsw : swapsWith (.Call (.Attribute ob name apos) (e :: es) [] cpos) none pos.line X.env = pure false := by rfl) :
    PS X (.Expr (.Call (.Attribute ob name apos) (e :: es) [] cpos) pos) (rdS W E0 T (.mut i p o cs)) :=
  (ps_expr (pe_bm PySem.F.plainAttrs_list slot hty hm ho ha hbase hfew hline hs hplain) hsw).imp fun D σ H ⟨H0, O0, δ, Fs, S, q⟩ => by
    rw [ex_mut] at q
    have hv : ∃ v, σ[i]? = some (some v) := by
      unfold plc at q
      cases e : δ[i]? with
      | none => rw [e] at q; exact q.elim
      | some s =>
        cases s with
        | none => rw [e] at q; exact q.elim
        | some pr => exact (S.slot i pr e).imp fun v h => h.1
    obtain ⟨v, hv⟩ := hv
    refine ⟨H0, O0, δ, Fs, v, S, hv, rqp_bnd (G := fun z => rqf W E0 H0 O0 H Fs z D) rqf_none (fun C h => rqf_er S.same h) q fun z ez h1 w H1 s1 va rp => ?_⟩
    obtain ⟨ri, d⟩ := z
    have va : VAt H1 ri.reverse v w := va
    cases d with
    | lst xs0 =>
      have h1 : rqf W E0 H0 O0 H Fs (bnd (evs T cs δ) fun ps => mutK i o ri.reverse (nms cs) ps δ) D := h1
      obtain ⟨a, us, rfl, _, g1, g2, g3⟩ := rp
      refine ⟨.inl ⟨rfl, us, .inl (.inl g1)⟩, H0, O0, δ, Fs, S.grow s1, rqs_bnd2 (G := fun z => rqf W E0 H0 O0 H Fs z D) rqf_none (fun C h H' s' => rqf_er S.same h H' (s1.trans s')) h1 fun ps ep h2 avs H2 Gs s2 n2 nd2 ow2 => ?_⟩
      obtain ⟨v', p', vs, xs, ys, k1, k2, k3, k4, k5, k6, k7⟩ := mut_fin S (s1.trans s2) (fun b hb => s1.free (n2 b hb)) nd2 ow2 h2
      rw [hv] at k1
      cases k1
      have := (va.mono s2).det k2
      cases this
      refine hr H2 a vs xs avs (ps.map Prod.snd) ys _ (by rw [List.length_map, evs_len ep, hn]) k3 k4 k5 (ow2.rps (fun _ z => z.elim) (fun _ _ z => z)) k6 fun ret vs' mv hrm hl => k7 vs' mv hrm hl
    | _ => exact h1.elim
theorem mo_removeW (hK : X.K = W.K) : MoW W .remove 1 (rRemD X.K) := fun H p vs xs avs ds ys Q hn hp hl hx ha hm k => by
  match ds, hn, hm, ha with
  | [d], _, hm, ha =>
    have hm : (if (dat d 20 && dats xs 20) = true then (xs.findIdx? fun z => eqD z d).map (fun j => xs.eraseIdx j) else none) = some ys := hm
    obtain ⟨a, r, rfl, hd, rfl⟩ := ha
    split at hm
    · rename_i hz
      obtain ⟨z1, z2⟩ := Bool.and_eq_true_iff.mp hz
      cases ei : xs.findIdx? (fun z => eqD z d) with
      | none => rw [ei] at hm; cases hm
      | some j =>
        rw [ei] at hm
        have hm : some (xs.eraseIdx j) = some ys := hm
        cases hm
        obtain ⟨hj, t1, t2⟩ := List.findIdx?_eq_some_iff_getElem.mp ei
        have rl : Rp W H (fun _ => False) (.lst xs) (.ref p) := ⟨p, vs, rfl, fun z => z, hp, hl, hx⟩
        have dl : Dp X.K H (.ref p) (.list (toPys xs)) := by
          rw [hK]
          have := Rp.dp (.lst xs) 21 _ z2 rl
          simpa only [toPy] using this
        have sl : SeqAt.shaped (.list (toPys xs)) = true := by
          have := shaped_of (d := .lst xs) (n := 21) (by decide) z2
          simpa only [toPy] using this
        refine ⟨p, vs, a, toPy d, toPys xs, j, toPy xs[j], rfl, rfl, hp, dl, by rw [hK]; exact Rp.dp d 20 a z1 hd, sl, shaped_of (by decide) z1, ?_, t1, fun m z' hmj hz' => ?_, k _ _ ⟨j, rfl⟩ (fun _ => ⟨j, rfl, rfl⟩) ?_⟩
        · rw [toPys_get, List.getElem?_eq_getElem hj]
          rfl
        · rw [toPys_get, List.getElem?_eq_getElem (Nat.lt_trans hmj hj)] at hz'
          cases hz'
          have := t2 m hmj
          simpa using this
        · exact Nat.le_trans (List.eraseIdx_sublist ..).length_le hl
    · cases hm
end
end TW

set_option Elab.async false
set_option linter.all false
set_option maxRecDepth 100000
set_option maxHeartbeats 4000000
namespace TW
open PySem PySem.Spec PyProof.Rows L2
structure ClF (K : PySem.W.Frag) (C : Addr) : Prop where
  cl : Cls K C
  ha : PySem.W.findIn K (.ref C) "__class__" = some (some (.builtin "object.__class__"))
  hn : PySem.W.specialIn K (.builtin "object.__class__") "__get__" = some (some (.builtin "getset_descriptor.__get__"))
  ht : PySem.W.takesIn K (.builtin "object.__class__") = some true
  hm : PySem.W.mroIn K C (.type "object") = some true
section
variable {W : Wd} {E0 : XK} {T : Tb} {X : Cx}
structure FnM (P : Program) (w : World) (mg : Str → Option Value) (base : Heap) (W : Wd) (T : Tb) (k : Nat) (m : Str) (C g : Nat) (ps : List Str) : Prop where
  ex : ∃ fd, FnOk P w W.K mg base (L2.CX P w) k (W.fa g) fd ps (spP W ps.length (T g)) ∧ Binds W.K fd ps []
  cl : Cls W.K (W.ca C)
  me : Meth W.K (W.ca C) m (W.fa g)
end
def spI (W : Wd) (C : Nat) (f : Str) (n : Nat) (g : List D → M (Md × D)) : Sp := fun vs H Q E => ∃ x dx r ds O, vs = .ref x :: r ∧ r.length = n ∧ H x = some (.ins (W.ca C) dx []) ∧ (∀ a, O a → H a ≠ none) ∧ Rps W H O ds r ∧
  rq W E H O (g (.non :: ds)) fun v H2 => Q .non (L2.upd H2 x (.ins (W.ca C) dx [(f, v)]))
structure FnI (P : Program) (w : World) (mg : Str → Option Value) (base : Heap) (W : Wd) (T : Tb) (k : Nat) (x : Str) (C : Nat) (f : Str) (i : Nat) (ps : List Str) : Prop where
  ex : ∃ fd, FnOk P w W.K mg base (L2.CX P w) k (W.fa i) fd ps (spI W C f (ps.length - 1) (T i)) ∧ Binds W.K fd ps []
  mkr : Mk W.K (W.ca C) (W.fa i)
  mg : mg x = some (.ref (W.ca C))
section
variable {W : Wd} {E0 : XK} {T : Tb} {X : Cx}
end
end TW

set_option Elab.async false
set_option linter.all false
set_option maxRecDepth 100000
set_option maxHeartbeats 4000000
namespace TW
open PySem PySem.Spec PyProof.Rows L2
section
variable {W : Wd} {E0 : XK} {T : Tb} {X : Cx}
end
theorem SS.drop {W : Wd} {H0 H : Hp} {O0 : Addr → Prop} {σ : L2.St} {δ : Dn} {Fs : List (List Addr)} (S : SS W H0 O0 H σ δ Fs) (x : Nat) : SS W H0 O0 H σ (δ.set x none) (Fs.set x []) := by
  have sub : ∀ a, a ∈ (Fs.set x []).flatten → a ∈ Fs.flatten := fun a z => by
    rcases mem_set_flat z with z | ⟨j, _, z⟩
    · cases z
    · exact mem_flat z
  refine ⟨S.same, by rw [List.length_set]; exact S.len, by rw [List.length_set]; exact S.lenF, fun j r e => ?_, ?_, fun a ha => S.new a (sub a ha), fun a za ha => S.offF a za (sub a ha), S.oldT, fun a ha => S.there a (sub a ha), fun j e => ?_⟩
  · by_cases h : x = j
    · subst h
      rw [List.getElem?_set_self'] at e
      cases hx : δ[x]? with
      | none => rw [hx] at e; cases e
      | some s => rw [hx] at e; cases e
    · rw [List.getElem?_set_ne h] at e
      obtain ⟨w, h1, h2⟩ := S.slot j r e
      refine ⟨w, h1, ?_⟩
      rw [getD_set_ne h]
      exact h2.mono (Same.refl _) fun a z => z.imp_right (sub a)
  · by_cases hl : x < Fs.length
    · have e : Fs[x]? = some (Fs.getD x []) := by rw [List.getD_eq_getElem?_getD, List.getElem?_eq_getElem hl]; rfl
      have := (set_flat2 (G := []) e (F' := []) (.sub (List.nil_sublist _))).1
      exact this (by rw [List.append_nil]; exact S.nod)
    · rw [List.set_eq_of_length_le (by omega)]
      exact S.nod
  · by_cases h : x = j
    · subst h
      rw [List.getD_eq_getElem?_getD, List.getElem?_set_self']
      cases Fs[x]? <;> rfl
    · rw [List.getElem?_set_ne h] at e
      rw [getD_set_ne h]
      exact S.mt j e
section
variable {W : Wd} {E0 : XK} {T : Tb} {X : Cx}
end
end TW

set_option Elab.async false
set_option linter.all false
set_option maxRecDepth 100000
set_option maxHeartbeats 4000000
namespace TW
open PySem PySem.Spec PyProof.Rows L2
def obsX (fa : List He.Fa) (fb : List (PySem.W.Frag → Bool)) (fn : List He.DefD) (K : PySem.W.Frag) : He.AlD := ((He.obsD fa fn K).1 && fb.all (fun f => f K), (He.obsD fa fn K).2)
def SaysX (fa : List He.Fa) (fb : List (PySem.W.Frag → Bool)) (fn : List He.DefD) (K : PySem.W.Frag) : Prop := He.SaysD fa fn K ∧ fb.all (fun f => f K) = true
def obsXG (n : Nat) (fa : List He.Fa) (fb : List (PySem.W.Frag → Bool)) (fn : List He.DefD) (g : Addr → Option Obj) : He.AlD := obsX fa fb fn (He.frG g (He.asD g n))
theorem obsX_says {fa : List He.Fa} {fb : List (PySem.W.Frag → Bool)} {fn : List He.DefD} {K : PySem.W.Frag} (e : obsX fa fb fn K = He.valD fn) : SaysX fa fb fn K := by
  have e1 : (obsX fa fb fn K).1 = (He.valD fn).1 := by rw [e]
  have e2 : (obsX fa fb fn K).2 = (He.valD fn).2 := by rw [e]
  have e1 : ((He.obsD fa fn K).1 && fb.all (fun f => f K)) = true := e1
  obtain ⟨h1, h2⟩ := Bool.and_eq_true_iff.mp e1
  exact ⟨Prod.ext h1 e2, h2⟩
def hookX (n : Nat) (fa : List He.Fa) (fb : List (PySem.W.Frag → Bool)) (fn : List He.DefD) : PySem.W.Hook where
  α := He.AlD
  obs := fun s => obsXG n fa fb fn s.heap.get?
  val := fun _ => He.valD fn
  says := fun _ h => ∃ K : PySem.W.Frag, K.In h ∧ SaysX fa fb fn K
  of := fun _ _ e => ⟨_, He.frG_in, obsX_says e⟩
  keeps := fun _ _ _ ⟨K, hK, c⟩ k => ⟨K, PySem.W.Frag.In.keeps hK k, c⟩
theorem obsXG_eq {n : Nat} {fa : List He.Fa} {fb : List (PySem.W.Frag → Bool)} {fn : List He.DefD} {g : Addr → Option Obj} {s : Shared} (h : ∀ a, g a = s.heap.get? a) : obsXG n fa fb fn g = (hookX n fa fb fn).obs s := by
  have e : g = s.heap.get? := funext h
  rw [e] <;> rfl
theorem SaysX.fact {fa : List He.Fa} {fb : List (PySem.W.Frag → Bool)} {fn : List He.DefD} {K : PySem.W.Frag} (c : SaysX fa fb fn K) (i : Nat) {f : He.Fa} (h : fa[i]? = some f := by rfl) : f.ok K = true := c.1.fact i h
theorem SaysX.more {fa : List He.Fa} {fb : List (PySem.W.Frag → Bool)} {fn : List He.DefD} {K : PySem.W.Frag} (c : SaysX fa fb fn K) (i : Nat) {f : PySem.W.Frag → Bool} (h : fb[i]? = some f := by rfl) : f K = true := List.all_eq_true.mp c.2 f (List.mem_of_getElem? h)
theorem SaysX.def_ {fa : List He.Fa} {fb : List (PySem.W.Frag → Bool)} {fn : List He.DefD} {K : PySem.W.Frag} (c : SaysX fa fb fn K) (i : Nat) {d : He.DefD} (h : fn[i]? = some d := by rfl) : ∃ fd, FunD K d.name d.qual d.params d.body d.scope (d.dvs K) (d.kws K) (He.fAd K d.at_) fd := c.1.def_ i h
theorem fn_runR {P : Program} {w : World} {mg : Str → Option Value} {base : Heap} {W : Wd} {PR : List Fun} {k r i : Nat} {x qual : Str} {params : Arguments} {body : List Stmt} {scope : Scope} {kws : List (Str × V)} {f : Addr} {fd : FuncData} {N ps : List Str} {fu : Fun}
    (F : FunD W.K x qual params body scope [] kws f fd) (S : FnScope N ps scope) (hP : PR[i]? = some fu) (hnp : fu.np = ps.length) (hnv : fu.nv = N.length) (hle : ps.length ≤ N.length)
    (hb : ∀ (cdv : Value) (A : Around) (outer : List Env) (s : Shared) (H : Hp) (E : XK), Room r (A.deeper (envOfC qual scope s.heap.objs.size f cdv)) → PSs (cxOf (L2.CX P w) P w W.K mg base N qual scope f cdv A outer s H E) body (rdSs W E (run PR k) fu.body)) :
    FnOk P w W.K mg base (L2.CX P w) (r + 1) f fd ps (spP W ps.length (run PR (k + 1) i)) := by
  refine F.ok S (fun vs H Q E h => h.1) fun cdv A outer s H vs Q E hr h => ⟨_, hb cdv A outer s H E hr, ?_⟩
  obtain ⟨hl, ds, O, hO, hrp, hq⟩ := h
  have hld : ds.length = ps.length := by rw [← Rps.length _ _ hrp, hl]
  refine ⟨H, O, start0 fu.np fu.nv ds, List.replicate fu.nv [], ss_start hO hrp (by rw [hld, hnp]) hnv.symm (by rw [hnp, hnv]; exact hle), ?_⟩
  have e : run PR (k + 1) i ds = callF (run PR k) fu ds := by
    show (match PR[i]? with | some F => callF (run PR k) F ds | none => none) = _
    rw [hP]
  rw [e] at hq
  unfold callF at hq
  rw [if_pos (by rw [hld, hnp])] at hq
  revert hq
  cases exs (run PR k) fu.body (start0 fu.np fu.nv ds) with
  | none => exact fun h => h
  | some r =>
    cases r with
    | er C => exact fun h => h
    | ok fl =>
      cases fl with
      | rt m d => exact fun h v H' F s n nd ow => h v H' F s n nd ow
      | nx δ' => exact fun h σ' H' Fs' S' _ => h .non H' [] S'.same (fun _ z => by cases z) List.nodup_nil ⟨rfl, rfl⟩
theorem walk_twR {l : PySem.W.OpenLaw} {n k r : Nat} {q : Program} {loose : List Str} {XP : (Str → Option Value) → Heap → Prop} {YP : World → Heap → Prop} {d : DefRec} {x : Str} {PR : List Fun} {i : Nat}
    (hn : l.most = some n) (hn2 : n ≤ sizeLine) (hdf : d.params.defaults = []) (hr : Room r callerA)
    (F : ∀ (w : World) (mg : Str → Option Value) (fa : Addr) (h : Heap), YP w h → h.Ns mainGlobals mg → mg d.name = some (.ref fa) →
      ∃ (W : Wd) (fd : FuncData), W.K.In h ∧ (∀ (s : Shared) (u : Value), BindsTo s fd ⟨[u], []⟩ [(x, u)]) ∧
        ∀ base : Heap, W.K.In base → base.Ns mainGlobals mg → FnOk l.prog w W.K mg base (L2.CX l.prog w) r fa fd [x] (spP W 1 (run PR k i)))
    (hL : ∀ ns : List Int, ns.length ≤ n → (∀ z ∈ ns, Builtin.Int.intBits z ≤ 1048576) → ∃ m, run PR k i [.scr ns] = some (.ok (m, .bl true))) :
    PySem.W.WalkO q loose XP YP l.row.toRowW d [] (fun f vs => PySem.call f vs) := by
  refine Att.attach_callB hn hdf fun w s₀ s₁ mg mb fa o pm cd doc a vs ns G Y ho hd hcd hmg hobj hints hlen hbits hg => ?_
  obtain ⟨W, fd, KX, hb, hF⟩ := F w mg fa _ Y G.T.g hmg
  refine law_call KX G.T.g G.T.b G.T.builtins G.T.nolimit hg hobj hints (Nat.le_trans hlen hn2) hr hF hb (fun H hO hS => ?_) fun H e s' h => ?_
  · obtain ⟨m, e⟩ := hL ns hlen hbits
    have hsc : ScrAt W.K H a (ns.map V.int) := by
      rcases hS with (hS | hS) | hS
      · rcases hO a with z | ⟨ob, xs, z⟩
        · rw [hS] at z; cases z
        · rw [hS] at z; cases z
      · exact .inl hS
      · exact .inr hS
    refine ⟨rfl, [.scr ns], fun _ => False, fun _ z => z.elim, ⟨.ref a, [], rfl, ⟨a, rfl, hsc, Nat.le_trans hlen hn2⟩, rfl⟩, ?_⟩
    rw [e]
    intro v H' F' s n' nd ow
    have : Rp W H' (fun _ => False) (.bl true) v := ow.rp (fun _ z => z.elim) (fun _ _ z => z)
    exact this
  · obtain ⟨_, _, _, _, _, _, _, _, _, _, _, _, z⟩ := h
    exact z.elim
end TW

set_option Elab.async false
set_option linter.all false
set_option maxRecDepth 100000
set_option maxHeartbeats 4000000
namespace TW
open PySem PySem.Spec PyProof.Rows L2
section
variable {W : Wd} {E0 : XK} {T : Tb} {X : Cx}
def rLenST (K : PySem.W.Frag) (P : Program) (w : World) : List V → Hp → VK → Prop := fun vs H Q => ∃ (a : Addr) (L : List (Addr × List Int)), vs = [V.ref a] ∧ H a = some (SetTO P w a L) ∧ (∀ p ∈ L, SqT K H p.1 (p.2.map V.int)) ∧ ((L.map (·.2)).Nodup → L.length < 64 → Q (.int (L.length : Nat)) H)
theorem cr_lenST : CallR X (.builtin "len") (rLenST X.K X.prog X.w) := by
  intro pins s σ H xs us Q I r h
  obtain ⟨a, L, rfl, ha, hk, q⟩ := h
  have R0 : SetT0 X.prog X.w s.heap a L := (I.hok a _ ha).1
  obtain ⟨es, ep, t, R⟩ := R0.full fun p hp => I.isT (hk p hp)
  rw [Vals.ref1 r]
  obtain ⟨o, ho, hex, hd⟩ := R.ob
  have hs := R.size
  have hf := R.few
  exact call_len_set ho hex hd R.fits (by omega) ⟨.int L.length, H, I.tok _, ⟨_, by rw [hs]⟩, q R.nd R.few⟩
theorem slen_ok {ds : List D} {vs : List V} {H : Hp} {O : Addr → Prop} {res : Md × D} {Q : VK} (hO : ∀ a, O a → H a ≠ none) (hr : Rps W H O ds vs) (hg : biD .slen ds = some res) (hq : Res W H O res.1 res.2 Q) : rSetOfT W.K X.prog X.w vs H (fun x H2 => rLenST W.K X.prog X.w [x] H2 Q) := by
  match ds, hg, hr with
  | [.lst xs], hg, hr =>
    obtain ⟨v, rfl, hv⟩ := hr.one
    obtain ⟨a, vs, rfl, _, h1, h2, h3⟩ := hv
    have hg : (match prsD xs with
      | some ps => if ps.length < 64 then some (Md.dp, D.int (dedB ps).length) else none
      | none => none) = some res := hg
    split at hg
    · rename_i ps e
      split at hg
      · rename_i hlt
        cases hg
        rw [prsD_eq e] at h3
        obtain ⟨k1, k2⟩ := h3.prs
        have hks : (vs.map fun x => (adV x, pI (kOf H x))).map (fun p => V.ref p.1) = vs := by
          rw [List.map_map]
          have : ∀ x ∈ vs, ((fun p : Addr × List Int => V.ref p.1) ∘ fun x => (adV x, pI (kOf H x))) x = x := fun x hx => by
            obtain ⟨t, e1, _⟩ := k2 x hx
            rw [e1]
            rfl
          exact (List.map_congr_left this).trans (List.map_id' vs)
        have hkt : ∀ p ∈ vs.map fun x => (adV x, pI (kOf H x)), ∃ x ∈ vs, p = (adV x, pI (kOf H x)) ∧ H p.1 = some (.tup (p.2.map V.int)) := fun p hp => by
          obtain ⟨x, hx, rfl⟩ := List.mem_map.mp hp
          obtain ⟨t, e1, ht⟩ := k2 x hx
          refine ⟨x, hx, rfl, ?_⟩
          rw [e1] at ht ⊢
          exact ht
        have hps : ∀ z : Int × Int, z ∈ ps ↔ ∃ x ∈ vs, kOf H x = z := fun z => by
          rw [← k1, List.mem_map]
        refine ⟨a, vs.map fun x => (adV x, pI (kOf H x)), rfl, by rw [hks]; exact .inl (.inl h1), fun p hp => ?_, ?_, fun s L ns sub cov => ?_⟩
        · obtain ⟨x, hx, _, ht⟩ := hkt p hp
          exact .inl (.inl ht)
        · rw [List.length_map]
          have := congrArg List.length k1
          rw [List.length_map] at this
          omega
        · have same1 : Same H (L2.upd H s (SetTO X.prog X.w s L)) := same_new ns
          refine ⟨s, L, rfl, upd_same, fun p hp => ?_, fun nd few => ?_⟩
          · obtain ⟨x, hx, _, ht⟩ := hkt p (sub p hp)
            exact .inl (.inl (same1 _ _ ht))
          · have hL : ∀ p ∈ L, ∃ x ∈ vs, p = (adV x, pI (kOf H x)) := fun p hp => by
              obtain ⟨x, hx, e1, _⟩ := hkt p (sub p hp)
              exact ⟨x, hx, e1⟩
            have e2 : (dedB ps).length = L.length := by
              have e3 : (L.map fun p => unp2 p.2).Perm (dedB ps) := by
                refine (List.perm_ext_iff_of_nodup ?_ (dedB_nodup ps)).mpr fun z => ?_
                · rw [List.Nodup, List.pairwise_map]
                  have hnd : L.Pairwise fun p r => p.2 ≠ r.2 := List.pairwise_map.mp nd
                  refine List.Pairwise.imp_of_mem (fun {p r} hp hr hh => ?_) hnd
                  obtain ⟨x, hx, ex⟩ := hL p hp
                  obtain ⟨y, hy, ey⟩ := hL r hr
                  rw [ex, ey] at hh ⊢
                  intro k
                  apply hh
                  have k : kOf H x = kOf H y := k
                  show pI (kOf H x) = pI (kOf H y)
                  rw [k]
                · rw [dedB_mem, List.mem_map, hps]
                  constructor
                  · rintro ⟨p, hp, rfl⟩
                    obtain ⟨x, hx, ex⟩ := hL p hp
                    exact ⟨x, hx, by rw [ex]; rfl⟩
                  · rintro ⟨x, hx, rfl⟩
                    obtain ⟨p, hp, ep⟩ := List.mem_map.mp (cov _ (List.mem_map.mpr ⟨x, hx, rfl⟩))
                    refine ⟨p, hp, ?_⟩
                    rw [ep]
                    rfl
              rw [← e3.length_eq, List.length_map]
            rw [e2] at hq
            exact Res.val (W := W) (Res.mono (W := W) hq same1) rfl rfl
      · cases hg
    · cases hg
theorem c_slen {a : Expr} {ca : E} {p p' pos pos' : Pos} (hK : X.K = W.K) (hc : X.calm = true) (hu : X.A.units + 64 < cLine) (hg : Gl X "len") (hm : X.mg "len" = none) (hg2 : Gl X "set") (hm2 : X.mg "set" = none) (ha : PA X [a] (rdA W E0 T [ca]))
    (he : starEach [a] X.env = (false, eval a X.env) :: starEach [] X.env := by rfl) (he2 : starEach [.Call (.Name "set" p') [a] [] pos'] X.env = (false, eval (.Call (.Name "set" p') [a] [] pos') X.env) :: starEach [] X.env := by rfl) :
    PE X (.Call (.Name "len" p) [.Call (.Name "set" p') [a] [] pos'] [] pos) (rdE W E0 T (.bi .slen [ca])) := by
  refine (pe_callB cr_lenST hg hm (by decide +kernel) (pa_cons (pe_callTy (cr_setOfT hc hu) hg2 hm2 (by decide +kernel) ha (he := he)) pa_nil)).imp fun σ H Q ⟨H0, O0, δ, Fs, S, q⟩ => ?_
  simp only [ev, nm] at q
  refine imp_rdA (rdA_B S q) fun vs H1 ⟨O, ds, res, hO, hr, hg, hq⟩ => ?_
  rw [hK]
  exact slen_ok hO hr hg hq
end
end TW

set_option Elab.async false
set_option linter.all false
set_option maxRecDepth 100000
set_option maxHeartbeats 4000000
namespace TW
open PySem PySem.Spec PyProof.Rows L2
-- 0: fu_is_whole
def fu_is_whole : Fun := ⟨1, 1, [.ret (.and (.isi (.var 0) .int) (.not (.isi (.var 0) .bool)))]⟩
-- 1: fu_is_below
def fu_is_below : Fun := ⟨2, 2, [.ret (.and (.cal 0 [.var 0]) (.chn .le .lt (.lit (.int 0)) (.var 0) (.var 1)))]⟩
-- 2: fu_is_tie
def fu_is_tie : Fun := ⟨2, 2, [.ife (.or (.not (.isi (.var 0) .tuple)) (.or (.cmp .ne (.bi .len [.var 0]) (.lit (.int 2))) (.not (.cal 1 [.sub (.var 0) (.lit (.int 0)), .var 1])))) [.ret (.lit (.bl false))] [],
    .ret (.and (.cal 1 [.sub (.var 0) (.lit (.int 1)), .var 1]) (.cmp .lt (.sub (.var 0) (.lit (.int 0))) (.sub (.var 0) (.lit (.int 1)))))]⟩
-- 3: fu_is_web
def fu_is_web : Fun := ⟨1, 5, [.ife (.or (.not (.isi (.var 0) .tuple)) (.or (.cmp .ne (.bi .len [.var 0]) (.lit (.int 2))) (.not (.cal 1 [.sub (.var 0) (.lit (.int 0)), .bin .add (.lit (.int 24)) (.lit (.int 1))])))) [.ret (.lit (.bl false))] [],
    .asg 1 (.sub (.var 0) (.lit (.int 1))),
    .ife (.or (.not (.isi (.var 1) .list)) (.or (.cmp .gt (.bi .len [.var 1]) (.lit (.int 66))) (.not (.bi .all [.comp [4] true (.seq (.var 1)) [] (.cal 2 [.var 4, .sub (.var 0) (.lit (.int 0))])])))) [.ret (.lit (.bl false))] [],
    .ret (.bi .all [.comp [2, 3] false (.zip (.var 1) (.slc true false (.var 1) (.lit (.int 1)) (.lit .non))) [] (.cmp .lt (.var 2) (.var 3))])]⟩
-- 4: fu_check_web
def fu_check_web : Fun := ⟨1, 1, [.ife (.not (.cal 3 [.var 0])) [.rai 1] []]⟩
-- 5: fu_near_of
def fu_near_of_b0 : List S := [.mut 1 [.var 2] .append [.var 3],
    .mut 1 [.var 3] .append [.var 2]]
def fu_near_of : Fun := ⟨1, 6, [.asg 1 (.comp [4] true (.rng (.lit (.int 0)) (.sub (.var 0) (.lit (.int 0)))) [] (.lst [])),
    .for_ [2, 3] false (.seq (.sub (.var 0) (.lit (.int 1)))) fu_near_of_b0,
    .ret (.comp [5] true (.seq (.var 1)) [] (.bi .sorted [.var 5]))]⟩
-- 6: fu_near
def fu_near : Fun := ⟨1, 1, [.exp (.cal 4 [.var 0]),
    .ret (.cal 5 [.var 0])]⟩
-- 7: fu_pieces_of
def fu_pieces_of_b0 : List S := [.dput 3 (.var 8) (.lit (.bl true))]
def fu_pieces_of_b1 : List S := [.asg 7 (.comp [8] true (.seq (.sub (.var 2) (.sub (.var 5) (.var 6)))) [.cmp .notin (.var 8) (.var 3)] (.var 8)),
    .for_ [8] true (.seq (.var 7)) fu_pieces_of_b0,
    .par [5, 6] [.bin .add (.var 5) (.var 7), .bin .add (.var 6) (.lit (.int 1))]]
def fu_pieces_of_b2 : List S := [.ife (.cmp .notin (.var 1) (.var 3)) [.dput 3 (.var 1) (.lit (.bl true)),
    .par [5, 6] [.lst [.var 1], .lit (.int 0)],
    .whl (.cmp .lt (.var 6) (.bi .len [.var 5])) fu_pieces_of_b1,
    .mut 4 [] .append [.bi .sorted [.var 5]]] []]
def fu_pieces_of : Fun := ⟨1, 9, [.par [2, 3, 4] [.cal 5 [.var 0], .dnew, .lst []],
    .for_ [1] true (.rng (.lit (.int 0)) (.sub (.var 0) (.lit (.int 0)))) fu_pieces_of_b2,
    .ret (.var 4)]⟩
-- 8: fu_pieces
def fu_pieces : Fun := ⟨1, 1, [.exp (.cal 4 [.var 0]),
    .ret (.cal 7 [.var 0])]⟩
-- 9: fu_law_number
def fu_law_number : Fun := ⟨3, 5, [.ife (.cmp .ge (.var 0) (.bin .pow (.lit (.int 10)) (.lit (.int 18)))) [.ret (.var 0)] [],
    .asg 3 (.bin .mod (.bin .add (.bin .mul (.bin .add (.var 0) (.bin .mul (.lit (.int 977)) (.var 1))) (.lit (.int 48271))) (.var 2)) (.lit (.int 2147483647))),
    .asg 4 (.bin .mul (.bin .mul (.var 3) (.bin .add (.bin .add (.var 3) (.bin .mul (.lit (.int 31)) (.var 1))) (.lit (.int 7)))) (.bin .add (.bin .add (.var 3) (.var 0)) (.lit (.int 5)))),
    .ret (.bin .fdiv (.bin .mul (.var 4) (.bin .add (.var 4) (.lit (.int 48271)))) (.lit (.int 1009)))]⟩
-- 10: fu_law_web
def fu_law_web_b0 : List S := [.asg 10 (.bin .fdiv (.cal 9 [.sub (.var 4) (.bin .mod (.bin .add (.var 7) (.var 1)) (.bi .len [.var 4])), .bin .add (.var 7) (.var 1), .var 5]) (.lit (.int 3))),
    .ife (.cmp .gt (.var 8) (.lit (.int 1))) [.asg 11 (.sub (.tup [.bin .mod (.var 10) (.var 8), .bin .mod (.var 7) (.var 8), .lit (.int 0), .bin .mod (.var 10) (.var 8), .bin .mod (.var 7) (.var 8)]) (.var 9)),
    .asg 12 (.sub (.tup [.bin .mod (.bin .fdiv (.var 10) (.lit (.int 61))) (.var 8), .bin .mod (.bin .add (.var 7) (.lit (.int 1))) (.var 8), .bin .add (.lit (.int 1)) (.bin .mod (.var 7) (.bin .sub (.var 8) (.lit (.int 1)))), .bin .mod (.bin .add (.var 11) (.lit (.int 1))) (.var 8), .bin .mod (.var 10) (.var 8)]) (.var 9)),
    .asg 13 (.tup [.bi .min [.var 11, .var 12], .bi .max [.var 11, .var 12]]),
    .ife (.and (.cmp .ne (.var 11) (.var 12)) (.cmp .notin (.var 13) (.var 6))) [.mut 6 [] .append [.var 13]] []] []]
def fu_law_web : Fun := ⟨4, 14, [.asg 4 (.ite (.cmp .ne (.var 0) (.lst [])) (.slc false true (.var 0) (.lit .non) (.lit (.int 63))) (.lst [.lit (.int 5)])),
    .asg 5 (.bin .add (.bi .sum [.var 4]) (.var 1)),
    .par [8, 9] [.bin .mod (.var 5) (.bin .add (.var 2) (.lit (.int 1))), .bin .mod (.bin .fdiv (.var 5) (.lit (.int 7))) (.lit (.int 5))],
    .asg 6 (.lst []),
    .for_ [7] true (.rng (.lit (.int 0)) (.var 3)) fu_law_web_b0,
    .ret (.tup [.var 8, .bi .sorted [.var 6]])]⟩
-- 11: fu_law_near
def fu_law_near_b0 : List S := [.mut 1 [.var 2] .append [.var 3],
    .mut 1 [.var 3] .append [.var 2]]
def fu_law_near : Fun := ⟨1, 6, [.asg 1 (.comp [4] true (.rng (.lit (.int 0)) (.sub (.var 0) (.lit (.int 0)))) [] (.lst [])),
    .for_ [2, 3] false (.seq (.sub (.var 0) (.lit (.int 1)))) fu_law_near_b0,
    .ret (.comp [5] true (.seq (.var 1)) [] (.bi .sorted [.var 5]))]⟩
-- 12: fu_law_copied
def fu_law_copied : Fun := ⟨1, 1, [.ret (.tup [.sub (.var 0) (.lit (.int 0)), .bi .list [.sub (.var 0) (.lit (.int 1))]])]⟩
-- 13: fu_law_pieces
def fu_law_pieces_b0 : List S := [.par [4, 5] [.bi .min [.sub (.var 1) (.var 2), .sub (.var 1) (.var 3)], .bi .max [.sub (.var 1) (.var 2), .sub (.var 1) (.var 3)]],
    .asg 1 (.comp [6] true (.seq (.var 1)) [] (.ite (.cmp .eq (.var 6) (.var 5)) (.var 4) (.var 6)))]
def fu_law_pieces : Fun := ⟨1, 8, [.asg 1 (.bi .lrng [.lit (.int 0), .sub (.var 0) (.lit (.int 0))]),
    .for_ [2, 3] false (.seq (.sub (.var 0) (.lit (.int 1)))) fu_law_pieces_b0,
    .ret (.comp [6] true (.seq (.bi .ssort [.var 1])) [] (.comp [7] true (.rng (.lit (.int 0)) (.sub (.var 0) (.lit (.int 0)))) [.cmp .eq (.sub (.var 1) (.var 7)) (.var 6)] (.var 7)))]⟩
-- 15: fu_law
def fu_law_b0 : List S := [.asg 2 (.cal 10 [.var 0, .var 1, .lit (.int 24), .lit (.int 30)]),
    .ife (.or (.not (.cal 224 [.lit (.fn 6), .var 2, .lit (.fn 11)])) (.not (.cal 223 [.lit (.fn 8), .var 2, .lit (.fn 13)]))) [.ret (.lit (.bl false))] []]
def fu_law : Fun := ⟨1, 3, [.for_ [1] true (.rng (.lit (.int 0)) (.lit (.int 3))) fu_law_b0,
    .ret (.and (.cmp .eq (.cal 8 [.tup [.lit (.int 4), .lst [.tup [.lit (.int 1), .lit (.int 3)]]]]) (.lst [.lst [.lit (.int 0)], .lst [.lit (.int 1), .lit (.int 3)], .lst [.lit (.int 2)]])) (.cmp .eq (.cal 6 [.tup [.lit (.int 3), .lst [.tup [.lit (.int 0), .lit (.int 2)], .tup [.lit (.int 1), .lit (.int 2)]]]]) (.lst [.lst [.lit (.int 2)], .lst [.lit (.int 2)], .lst [.lit (.int 0), .lit (.int 1)]])))]⟩
-- 16: fu_cut_of
def fu_cut_of : Fun := ⟨2, 5, [.asg 2 (.comp [3, 4] false (.seq (.sub (.var 0) (.lit (.int 1)))) [.and (.cmp .isin (.var 3) (.var 1)) (.cmp .isin (.var 4) (.var 1))] (.tup [.mix (.var 1) (.var 3), .mix (.var 1) (.var 4)])),
    .ret (.tup [.bi .len [.var 1], .var 2])]⟩
-- 17: fu_are_places
def fu_are_places : Fun := ⟨2, 5, [.ife (.or (.not (.isi (.var 1) .list)) (.not (.bi .all [.comp [4] true (.seq (.var 1)) [] (.cal 1 [.var 4, .sub (.var 0) (.lit (.int 0))])]))) [.ret (.lit (.bl false))] [],
    .ret (.bi .all [.comp [2, 3] false (.zip (.var 1) (.slc true false (.var 1) (.lit (.int 1)) (.lit .non))) [] (.cmp .lt (.var 2) (.var 3))])]⟩
-- 18: fu_cut_down
def fu_cut_down : Fun := ⟨2, 2, [.exp (.cal 4 [.var 0]),
    .ife (.not (.cal 17 [.var 0, .var 1])) [.rai 2] [],
    .ret (.cal 16 [.var 0, .var 1])]⟩
-- 19: fu_check_order
def fu_check_order : Fun := ⟨2, 3, [.ife (.or (.not (.isi (.var 0) .list)) (.not (.bi .all [.comp [2] true (.seq (.var 0)) [] (.cal 0 [.var 2])]))) [.rai 3] [],
    .ife (.cmp .ne (.bi .sorted [.var 0]) (.bi .lrng [.lit (.int 0), .var 1])) [.rai 3] []]⟩
-- 20: fu_renamed_by
def fu_renamed_by_b0 : List S := [.mut 2 [] .append [.tup [.bi .min [.mix (.var 1) (.var 3), .mix (.var 1) (.var 4)], .bi .max [.mix (.var 1) (.var 3), .mix (.var 1) (.var 4)]]]]
def fu_renamed_by : Fun := ⟨2, 5, [.asg 2 (.lst []),
    .for_ [3, 4] false (.seq (.sub (.var 0) (.lit (.int 1)))) fu_renamed_by_b0,
    .ret (.tup [.sub (.var 0) (.lit (.int 0)), .bi .sorted [.var 2]])]⟩
-- 21: fu_renamed
def fu_renamed : Fun := ⟨2, 2, [.exp (.cal 4 [.var 0]),
    .exp (.cal 19 [.var 1, .sub (.var 0) (.lit (.int 0))]),
    .ret (.cal 20 [.var 0, .var 1])]⟩
-- 22: fu_beside
def fu_beside : Fun := ⟨2, 4, [.exp (.cal 4 [.var 0]),
    .exp (.cal 4 [.var 1]),
    .ife (.or (.cmp .gt (.bin .add (.sub (.var 0) (.lit (.int 0))) (.sub (.var 1) (.lit (.int 0)))) (.lit (.int 24))) (.cmp .gt (.bin .add (.bi .len [.sub (.var 0) (.lit (.int 1))]) (.bi .len [.sub (.var 1) (.lit (.int 1))])) (.lit (.int 66)))) [.rai 4] [],
    .ret (.tup [.bin .add (.sub (.var 0) (.lit (.int 0))) (.sub (.var 1) (.lit (.int 0))), .bin .add (.sub (.var 0) (.lit (.int 1))) (.comp [2, 3] false (.seq (.sub (.var 1) (.lit (.int 1)))) [] (.tup [.bin .add (.var 2) (.sub (.var 0) (.lit (.int 0))), .bin .add (.var 3) (.sub (.var 0) (.lit (.int 0)))]))])]⟩
-- 25: fu_law_whole
def fu_law_whole : Fun := ⟨1, 1, [.ret (.and (.isi (.var 0) .int) (.not (.isi (.var 0) .bool)))]⟩
-- 26: fu_law_is_web
def fu_law_is_web_b0 : List S := [.ife (.or (.not (.isi (.var 1) .tuple)) (.or (.cmp .ne (.bi .len [.var 1]) (.lit (.int 2))) (.or (.not (.cal 25 [.sub (.var 1) (.lit (.int 0))])) (.not (.cal 25 [.sub (.var 1) (.lit (.int 1))]))))) [.ret (.lit (.bl false))] [],
    .ife (.not (.chn3 .le .lt .lt (.lit (.int 0)) (.sub (.var 1) (.lit (.int 0))) (.sub (.var 1) (.lit (.int 1))) (.sub (.var 0) (.lit (.int 0))))) [.ret (.lit (.bl false))] []]
def fu_law_is_web : Fun := ⟨1, 2, [.ife (.or (.not (.isi (.var 0) .tuple)) (.or (.cmp .ne (.bi .len [.var 0]) (.lit (.int 2))) (.or (.not (.cal 25 [.sub (.var 0) (.lit (.int 0))])) (.not (.isi (.sub (.var 0) (.lit (.int 1))) .list))))) [.ret (.lit (.bl false))] [],
    .for_ [1] true (.seq (.sub (.var 0) (.lit (.int 1)))) fu_law_is_web_b0,
    .ret (.cmp .eq (.sub (.var 0) (.lit (.int 1))) (.bi .ssort [.sub (.var 0) (.lit (.int 1))]))]⟩
-- 27: fu_law_cut
def fu_law_cut : Fun := ⟨2, 5, [.asg 2 (.comp [3, 4] false (.seq (.sub (.var 0) (.lit (.int 1)))) [.and (.cmp .isin (.var 3) (.var 1)) (.cmp .isin (.var 4) (.var 1))] (.tup [.mix (.var 1) (.var 3), .mix (.var 1) (.var 4)])),
    .ret (.tup [.bi .len [.var 1], .bi .sorted [.var 2]])]⟩
-- 28: fu_law_order
def fu_law_order_b0 : List S := [.asg 6 (.cal 9 [.sub (.var 3) (.bin .mod (.bin .add (.var 5) (.var 1)) (.bi .len [.var 3])), .bin .add (.bin .add (.var 5) (.var 1)) (.lit (.int 3)), .var 2]),
    .mut 4 [] .insert [.bin .mod (.var 6) (.bin .add (.var 5) (.lit (.int 1))), .var 5]]
def fu_law_order : Fun := ⟨3, 7, [.asg 3 (.ite (.cmp .ne (.var 0) (.lst [])) (.slc false true (.var 0) (.lit .non) (.lit (.int 63))) (.lst [.lit (.int 6)])),
    .asg 4 (.lst []),
    .for_ [5] true (.rng (.lit (.int 0)) (.var 2)) fu_law_order_b0,
    .ret (.var 4)]⟩
-- 29: fu_law_renamed
def fu_law_renamed : Fun := ⟨2, 6, [.asg 2 (.comp [3, 4] false (.seq (.sub (.var 0) (.lit (.int 1)))) [] (.bi .sorted [.lst [.mix (.var 1) (.var 3), .mix (.var 1) (.var 4)]])),
    .ret (.tup [.sub (.var 0) (.lit (.int 0)), .bi .sorted [.comp [5] true (.seq (.var 2)) [] (.tup [.sub (.var 5) (.lit (.int 0)), .sub (.var 5) (.lit (.int 1))])]])]⟩
-- 30: fu_law_2
def fu_law_2_b0 : List S := [.par [11, 12] [.cal 10 [.var 0, .var 2, .lit (.int 12), .lit (.int 20)], .cal 10 [.var 0, .bin .add (.var 2) (.lit (.int 4)), .lit (.int 8), .lit (.int 12)]],
    .asg 3 (.comp [13] true (.rng (.lit (.int 0)) (.sub (.var 11) (.lit (.int 0)))) [.cmp .gt (.bin .mod (.cal 9 [.bin .add (.var 1) (.var 13), .var 2, .lit (.int 3)]) (.lit (.int 3))) (.lit (.int 0))] (.var 13)),
    .asg 4 (.cal 28 [.var 0, .var 2, .sub (.var 11) (.lit (.int 0))]),
    .asg 5 (.lst [.cal 12 [.var 11], .cal 12 [.var 12], .bi .list [.var 3], .bi .list [.var 4]]),
    .asg 6 (.lst [.cal 18 [.sub (.var 5) (.lit (.int 0)), .sub (.var 5) (.lit (.int 2))], .cal 21 [.sub (.var 5) (.lit (.int 0)), .sub (.var 5) (.lit (.int 3))], .cal 22 [.sub (.var 5) (.lit (.int 0)), .sub (.var 5) (.lit (.int 1))]]),
    .asg 7 (.comp [10, 14] false (.seq (.sub (.var 12) (.lit (.int 1)))) [] (.tup [.bin .add (.var 10) (.sub (.var 11) (.lit (.int 0))), .bin .add (.var 14) (.sub (.var 11) (.lit (.int 0)))])),
    .asg 8 (.lst [.cal 27 [.var 11, .var 3], .cal 29 [.var 11, .var 4], .tup [.bin .add (.sub (.var 11) (.lit (.int 0))) (.sub (.var 12) (.lit (.int 0))), .bin .add (.sub (.var 11) (.lit (.int 1))) (.var 7)]]),
    .ife (.or (.cmp .ne (.var 6) (.var 8)) (.or (.not (.bi .all [.comp [10] true (.seq (.var 6)) [] (.cal 26 [.var 10])])) (.cmp .ne (.var 5) (.lst [.var 11, .var 12, .var 3, .var 4])))) [.ret (.lit (.bl false))] [],
    .asg 9 (.comp [13] true (.rng (.lit (.int 0)) (.sub (.var 11) (.lit (.int 0)))) [] (.mix (.var 4) (.var 13))),
    .ife (.or (.cmp .ne (.cal 21 [.sub (.var 6) (.lit (.int 1)), .var 9]) (.var 11)) (.cmp .ne (.cal 22 [.var 11, .tup [.lit (.int 0), .lst []]]) (.var 11))) [.ret (.lit (.bl false))] [],
    .each 6 none 10 [1] .append [.tup [.lit (.int 0), .lit (.int 0)]],
    .ife (.or (.cmp .ne (.var 5) (.lst [.var 11, .var 12, .var 3, .var 4])) (.cmp .ne (.cal 18 [.var 11, .var 3]) (.cal 27 [.var 11, .var 3]))) [.ret (.lit (.bl false))] [],
    .mut 5 [.lit (.int 3)] .reverse [],
    .ife (.cmp .ne (.sub (.sub (.var 5) (.lit (.int 0))) (.lit (.int 1))) (.lst [])) [.mut 5 [.lit (.int 1), .lit (.int 0)] .pop []] [],
    .ife (.cmp .ne (.sub (.var 5) (.lit (.int 2))) (.lst [])) [.mut 5 [.lit (.int 2)] .pop [.lit (.int 0)]] [],
    .ife (.cmp .ne (.cal 18 [.sub (.var 5) (.lit (.int 0)), .sub (.var 5) (.lit (.int 2))]) (.cal 27 [.sub (.var 5) (.lit (.int 0)), .sub (.var 5) (.lit (.int 2))])) [.ret (.lit (.bl false))] [],
    .ife (.cmp .ne (.cal 21 [.sub (.var 5) (.lit (.int 0)), .sub (.var 5) (.lit (.int 3))]) (.cal 29 [.sub (.var 5) (.lit (.int 0)), .sub (.var 5) (.lit (.int 3))])) [.ret (.lit (.bl false))] [],
    .ife (.cmp .ne (.cal 22 [.sub (.var 5) (.lit (.int 0)), .var 12]) (.tup [.bin .add (.sub (.var 11) (.lit (.int 0))) (.sub (.var 12) (.lit (.int 0))), .bin .add (.sub (.sub (.var 5) (.lit (.int 0))) (.lit (.int 1))) (.var 7)])) [.ret (.lit (.bl false))] []]
def fu_law_2 : Fun := ⟨1, 15, [.asg 1 (.bi .sum [.slc false true (.var 0) (.lit .non) (.lit (.int 63))]),
    .for_ [2] true (.rng (.lit (.int 0)) (.lit (.int 3))) fu_law_2_b0,
    .ret (.and (.cmp .eq (.cal 18 [.tup [.lit (.int 4), .lst [.tup [.lit (.int 0), .lit (.int 1)], .tup [.lit (.int 1), .lit (.int 3)]]], .lst [.lit (.int 1), .lit (.int 3)]]) (.tup [.lit (.int 2), .lst [.tup [.lit (.int 0), .lit (.int 1)]]])) (.cmp .eq (.cal 21 [.tup [.lit (.int 2), .lst [.tup [.lit (.int 0), .lit (.int 1)]]], .lst [.lit (.int 1), .lit (.int 0)]]) (.tup [.lit (.int 2), .lst [.tup [.lit (.int 0), .lit (.int 1)]]])))]⟩
-- 31: fu_check_few_ties
def fu_check_few_ties : Fun := ⟨2, 2, [.ife (.or (.not (.cal 3 [.var 0])) (.cmp .gt (.bi .len [.sub (.var 0) (.lit (.int 1))]) (.var 1))) [.rai 1] []]⟩
-- 32: fu_tie_web_of
def fu_tie_web_of_b0 : List S := [.ife (.or (.cmp .isin (.sub (.sub (.var 1) (.var 5)) (.lit (.int 0))) (.var 4)) (.cmp .isin (.sub (.sub (.var 1) (.var 5)) (.lit (.int 1))) (.var 4))) [.mut 2 [] .append [.tup [.var 3, .var 5]]] []]
def fu_tie_web_of_b1 : List S := [.for_ [5] true (.rng (.bin .add (.var 3) (.lit (.int 1))) (.bi .len [.var 1])) fu_tie_web_of_b0]
def fu_tie_web_of : Fun := ⟨1, 6, [.par [1, 2] [.sub (.var 0) (.lit (.int 1)), .lst []],
    .for_ [3, 4] false (.enu (.var 1)) fu_tie_web_of_b1,
    .ret (.tup [.bi .len [.var 1], .var 2])]⟩
-- 33: fu_tie_web
def fu_tie_web : Fun := ⟨1, 1, [.exp (.cal 31 [.var 0, .lit (.int 10)]),
    .ret (.cal 32 [.var 0])]⟩
-- 34: fu_tied_many
def fu_tied_many_b0 : List S := [.mut 1 [] .aug [.var 2, .lit (.int 1)],
    .mut 1 [] .aug [.var 3, .lit (.int 1)]]
def fu_tied_many : Fun := ⟨1, 5, [.exp (.cal 4 [.var 0]),
    .asg 1 (.bin .mul (.lst [.lit (.int 0)]) (.sub (.var 0) (.lit (.int 0)))),
    .for_ [2, 3] false (.seq (.sub (.var 0) (.lit (.int 1)))) fu_tied_many_b0,
    .ret (.bi .sum [.comp [4] true (.seq (.var 1)) [] (.bin .fdiv (.bin .mul (.var 4) (.bin .sub (.var 4) (.lit (.int 1)))) (.lit (.int 2)))])]⟩
-- 35: fu_law_tie_web
def fu_law_tie_web_b0 : List S := [.asg 1 (.bin .add (.var 1) (.comp [4] true (.rng (.lit (.int 0)) (.var 2)) [.or (.cmp .isin (.sub (.sub (.sub (.var 0) (.lit (.int 1))) (.var 4)) (.lit (.int 0))) (.var 3)) (.cmp .isin (.sub (.sub (.sub (.var 0) (.lit (.int 1))) (.var 4)) (.lit (.int 1))) (.var 3))] (.tup [.var 4, .var 2])))]
def fu_law_tie_web : Fun := ⟨1, 5, [.asg 1 (.lst []),
    .for_ [2, 3] false (.enu (.sub (.var 0) (.lit (.int 1)))) fu_law_tie_web_b0,
    .ret (.tup [.bi .len [.sub (.var 0) (.lit (.int 1))], .bi .sorted [.var 1]])]⟩
-- 36: fu_law_3
def fu_law_3_b0 : List S := [.asg 10 (.comp [11, 12] false (.enu (.sub (.var 2) (.lit (.int 1)))) [.cmp .isin (.sub (.var 12) (.lit (.int 0))) (.var 6)] (.var 11)),
    .ife (.cmp .ne (.var 10) (.lst [])) [.mut 5 [] .append [.var 10]] []]
def fu_law_3_b1 : List S := [.asg 2 (.cal 10 [.var 0, .var 1, .lit (.int 12), .lit (.int 10)]),
    .asg 3 (.cal 12 [.var 2]),
    .asg 4 (.cal 33 [.var 3]),
    .ife (.or (.not (.cal 26 [.var 4])) (.or (.cmp .ne (.var 4) (.cal 35 [.var 2])) (.cmp .ne (.var 3) (.var 2)))) [.ret (.lit (.bl false))] [],
    .ife (.cmp .ne (.cal 34 [.var 2]) (.bi .len [.sub (.var 4) (.lit (.int 1))])) [.ret (.lit (.bl false))] [],
    .asg 5 (.lst []),
    .for_ [6] true (.seq (.cal 13 [.var 2])) fu_law_3_b0,
    .ife (.cmp .ne (.cal 8 [.var 4]) (.bi .sorted [.var 5])) [.ret (.lit (.bl false))] [],
    .mut 4 [.lit (.int 1)] .append [.tup [.lit (.int 0), .lit (.int 0)]],
    .ife (.cmp .ne (.cal 33 [.var 3]) (.cal 35 [.var 2])) [.ret (.lit (.bl false))] [],
    .ife (.cmp .ne (.sub (.var 3) (.lit (.int 1))) (.lst [])) [.mut 3 [.lit (.int 1)] .pop [.bin .fdiv (.bi .len [.sub (.var 3) (.lit (.int 1))]) (.lit (.int 2))],
    .ife (.or (.cmp .ne (.cal 33 [.var 3]) (.cal 35 [.var 3])) (.cmp .ne (.cal 34 [.var 3]) (.bi .len [.sub (.cal 35 [.var 3]) (.lit (.int 1))]))) [.ret (.lit (.bl false))] []] [],
    .asg 7 (.cal 10 [.var 0, .bin .add (.var 1) (.lit (.int 2)), .lit (.int 24), .lit (.int 30)]),
    .asg 8 (.comp [6] true (.seq (.cal 11 [.var 7])) [] (.bi .len [.var 6])),
    .asg 9 (.cal 34 [.var 7]),
    .ife (.or (.not (.cal 25 [.var 9])) (.cmp .ne (.var 9) (.bin .fdiv (.bi .sum [.comp [13] true (.seq (.var 8)) [] (.bin .mul (.var 13) (.bin .sub (.var 13) (.lit (.int 1))))]) (.lit (.int 2))))) [.ret (.lit (.bl false))] []]
def fu_law_3 : Fun := ⟨1, 14, [.for_ [1] true (.rng (.lit (.int 0)) (.lit (.int 3))) fu_law_3_b1,
    .ret (.and (.cmp .eq (.cal 33 [.tup [.lit (.int 4), .lst [.tup [.lit (.int 0), .lit (.int 1)], .tup [.lit (.int 0), .lit (.int 2)], .tup [.lit (.int 0), .lit (.int 3)]]]]) (.tup [.lit (.int 3), .lst [.tup [.lit (.int 0), .lit (.int 1)], .tup [.lit (.int 0), .lit (.int 2)], .tup [.lit (.int 1), .lit (.int 2)]]])) (.cmp .eq (.cal 33 [.tup [.lit (.int 3), .lst []]]) (.tup [.lit (.int 0), .lst []])))]⟩
-- 37: fu_check_small
def fu_check_small : Fun := ⟨1, 1, [.exp (.cal 38 [.var 0, .lit (.int 10)])]⟩
-- 38: fu_check_places
def fu_check_places : Fun := ⟨2, 2, [.ife (.or (.not (.cal 3 [.var 0])) (.cmp .gt (.sub (.var 0) (.lit (.int 0))) (.var 1))) [.rai 1] []]⟩
-- 39: fu_is_cover_of
def fu_is_cover_of_b0 : List S := [.mut 4 [] .aug [.var 6, .lit (.int 1)],
    .mut 3 [] .extend [.comp [8] true (.seq (.slc false true (.var 2) (.lit .non) (.var 5))) [] (.tup [.var 8, .var 6])]]
def fu_is_cover_of_b1 : List S := [.ife (.or (.cmp .lt (.bi .len [.var 2]) (.lit (.int 2))) (.not (.bi .all [.comp [6] true (.seq (.var 2)) [] (.cal 1 [.var 6, .sub (.var 0) (.lit (.int 0))])]))) [.ret (.lit (.bl false))] [],
    .for_ [5, 6] false (.enu (.var 2)) fu_is_cover_of_b0]
def fu_is_cover_of : Fun := ⟨2, 9, [.par [3, 4] [.lst [], .bin .mul (.lst [.lit (.int 0)]) (.sub (.var 0) (.lit (.int 0)))],
    .for_ [2] true (.seq (.var 1)) fu_is_cover_of_b1,
    .ret (.and (.cmp .eq (.bi .sorted [.var 3]) (.sub (.var 0) (.lit (.int 1)))) (.and (.bi .all [.comp [7] true (.seq (.var 4)) [] (.cmp .lt (.var 7) (.lit (.int 3)))]) (.cmp .eq (.var 1) (.bi .sorted [.var 1]))))]⟩
-- 40: fu_all_tied
def fu_all_tied : Fun := ⟨3, 4, [.ret (.bi .all [.comp [3] true (.seq (.var 0)) [] (.cmp .isin (.tup [.bi .min [.var 3, .var 1], .bi .max [.var 3, .var 1]]) (.var 2))])]⟩
-- 41: fu_groups_with
def fu_groups_with_b0 : List S := [.ife (.and (.cmp .notin (.var 4) (.var 0)) (.cmp .lt (.sub (.var 2) (.var 4)) (.lit (.int 2)))) [.asg 3 (.bin .add (.comp [5] true (.seq (.var 3)) [.cal 40 [.var 5, .var 4, .var 1]] (.bin .add (.var 5) (.lst [.var 4]))) (.var 3))] []]
def fu_groups_with : Fun := ⟨3, 6, [.asg 3 (.lst [.bi .list [.var 0]]),
    .for_ [4] true (.rng (.lit (.int 0)) (.bi .len [.var 2])) fu_groups_with_b0,
    .ret (.comp [5] true (.seq (.var 3)) [] (.bi .sorted [.var 5]))]⟩
-- 42: fu_fits
def fu_fits_b0 : List S := [.asg 4 (.comp [5, 6] false (.seq (.var 0)) [.cmp .isin (.var 2) (.tup [.var 5, .var 6])] (.bin .sub (.bin .add (.var 5) (.var 6)) (.var 2))),
    .ife (.and (.cmp .eq (.var 3) (.lit (.int 2))) (.cmp .ne (.var 4) (.lst []))) [.ret (.lit (.bl false))] [],
    .ife (.and (.cmp .eq (.var 3) (.lit (.int 1))) (.not (.bi .all [.comp [7, 5] false (.enu (.var 4)) [] (.cal 40 [.slc false true (.var 4) (.lit .non) (.var 7), .var 5, .var 0])]))) [.ret (.lit (.bl false))] []]
def fu_fits : Fun := ⟨2, 8, [.for_ [2, 3] false (.enu (.var 1)) fu_fits_b0,
    .ret (.lit (.bl true))]⟩
-- 43: fu_grown
def fu_grown_b0 : List S := [.asg 4 (.comp [7] true (.seq (.var 0)) [.or (.cmp .notin (.sub (.var 7) (.lit (.int 0))) (.var 3)) (.cmp .notin (.sub (.var 7) (.lit (.int 1))) (.var 3))] (.var 7)),
    .asg 5 (.comp [8, 9] false (.enu (.var 1)) [] (.ite (.cmp .isin (.var 8) (.var 3)) (.bin .add (.var 9) (.lit (.int 1))) (.var 9))),
    .ife (.cal 42 [.var 4, .var 5]) [.asg 6 (.cal 43 [.var 4, .var 5]),
    .ife (.cmp .isnot (.var 6) (.lit .non)) [.ret (.bin .add (.lst [.var 3]) (.var 6))] []] []]
def fu_grown : Fun := ⟨2, 10, [.ife (.cmp .eq (.var 0) (.lst [])) [.ret (.lst [])] [],
    .asg 2 (.sub (.var 0) (.lit (.int 0))),
    .ife (.or (.cmp .gt (.sub (.var 1) (.sub (.var 2) (.lit (.int 0)))) (.lit (.int 1))) (.cmp .gt (.sub (.var 1) (.sub (.var 2) (.lit (.int 1)))) (.lit (.int 1)))) [.ret (.lit .non)] [],
    .for_ [3] true (.seq (.cal 41 [.var 2, .var 0, .var 1])) fu_grown_b0,
    .ret (.lit .non)]⟩
-- 44: fu_cover_of
def fu_cover_of : Fun := ⟨1, 2, [.asg 1 (.cal 43 [.sub (.var 0) (.lit (.int 1)), .bin .mul (.lst [.lit (.int 0)]) (.sub (.var 0) (.lit (.int 0)))]),
    .ret (.ite (.cmp .is_ (.var 1) (.lit .non)) (.lit .non) (.bi .sorted [.var 1]))]⟩
-- 45: fu_covered
def fu_covered_b0 : List S := [.asg 4 (.comp [5] true (.seq (.var 2)) [.cmp .ne (.var 5) (.var 3)] (.var 5)),
    .ife (.cmp .is_ (.cal 44 [.cal 16 [.var 0, .var 4]]) (.lit .non)) [.asg 2 (.var 4)] []]
def fu_covered : Fun := ⟨1, 6, [.exp (.cal 37 [.var 0]),
    .asg 1 (.cal 44 [.var 0]),
    .ife (.cmp .isnot (.var 1) (.lit .non)) [.ret (.mk 6 "groups" 219 [.var 1])] [],
    .asg 2 (.bi .lrng [.lit (.int 0), .sub (.var 0) (.lit (.int 0))]),
    .for_ [3] true (.rng (.lit (.int 0)) (.sub (.var 0) (.lit (.int 0)))) fu_covered_b0,
    .ret (.mk 7 "places" 221 [.var 2])]⟩
-- 46: fu_law_is_cover
def fu_law_is_cover_b0 : List S := [.mut 4 [] .set [.var 6, .bin .add (.sub (.var 4) (.var 6)) (.lit (.int 1))],
    .asg 3 (.bin .add (.var 3) (.comp [7] true (.seq (.slc false true (.var 2) (.lit .non) (.var 5))) [] (.tup [.var 7, .var 6])))]
def fu_law_is_cover_b1 : List S := [.ife (.or (.cmp .lt (.bi .len [.var 2]) (.lit (.int 2))) (.or (.bi .any [.comp [6] true (.seq (.var 2)) [] (.not (.chn .le .lt (.lit (.int 0)) (.var 6) (.sub (.var 0) (.lit (.int 0)))))]) (.cmp .ne (.var 2) (.bi .ssort [.var 2])))) [.ret (.lit (.bl false))] [],
    .for_ [5, 6] false (.enu (.var 2)) fu_law_is_cover_b0]
def fu_law_is_cover : Fun := ⟨2, 8, [.par [3, 4] [.lst [], .bin .mul (.lst [.lit (.int 0)]) (.sub (.var 0) (.lit (.int 0)))],
    .for_ [2] true (.seq (.var 1)) fu_law_is_cover_b1,
    .ret (.and (.cmp .eq (.bi .sorted [.var 3]) (.sub (.var 0) (.lit (.int 1)))) (.and (.cmp .eq (.var 1) (.bi .sorted [.var 1])) (.cmp .lt (.bi .max [.bin .add (.var 4) (.lst [.lit (.int 0)])]) (.lit (.int 3)))))]⟩
-- 47: fu_law_has_cover
def fu_law_has_cover : Fun := ⟨1, 1, [.ret (.cal 48 [.cal 11 [.var 0], .lst []])]⟩
-- 48: fu_law_laid
def fu_law_laid_b0 : List S := [.asg 6 (.comp [7] true (.seq (.var 1)) [] (.or (.cmp .isin (.var 4) (.var 7)) (.cmp .isin (.var 5) (.var 7)))),
    .ife (.and (.cmp .notin (.tup [.var 4, .var 5]) (.var 1)) (.cmp .eq (.var 6) (.comp [8] true (.rng (.lit (.int 0)) (.var 2)) [] (.cmp .isin (.var 8) (.sub (.var 0) (.var 2)))))) [.ife (.cal 48 [.var 0, .bin .add (.var 1) (.lst [.tup [.var 4, .var 5]])]) [.ret (.lit (.bl true))] []] []]
def fu_law_laid_b1 : List S := [.for_ [5] true (.rng (.bin .add (.var 4) (.lit (.int 1))) (.ite (.cmp .gt (.var 4) (.var 3)) (.bin .add (.var 3) (.lit (.int 3))) (.bin .add (.var 3) (.lit (.int 2))))) fu_law_laid_b0]
def fu_law_laid : Fun := ⟨2, 9, [.asg 2 (.bi .len [.var 1]),
    .ife (.cmp .eq (.var 2) (.bi .len [.var 0])) [.ret (.lit (.bl true))] [],
    .asg 3 (.bi .max [.bin .add (.comp [7] true (.seq (.var 1)) [] (.bi .max [.var 7])) (.lst [.neg (.lit (.int 1))])]),
    .for_ [4] true (.rng (.lit (.int 0)) (.bin .add (.var 3) (.lit (.int 2)))) fu_law_laid_b1,
    .ret (.lit (.bl false))]⟩
-- 49: fu_law_says
def fu_law_says : Fun := ⟨2, 2, [.ret (.and (.isi (.var 0) .bool) (.cmp .eq (.var 0) (.var 1)))]⟩
-- 50: fu_law_due
def fu_law_due : Fun := ⟨2, 5, [.ife (.isc (.var 1) [6]) [.ret (.cal 46 [.var 0, .att (.var 1) "groups"])] [],
    .asg 2 (.att (.var 1) "places"),
    .ife (.or (.bi .any [.comp [4] true (.seq (.var 2)) [] (.not (.chn .le .lt (.lit (.int 0)) (.var 4) (.sub (.var 0) (.lit (.int 0)))))]) (.or (.cmp .ne (.var 2) (.bi .ssort [.var 2])) (.cmp .gt (.bi .len [.var 2]) (.lit (.int 9))))) [.ret (.lit (.bl false))] [],
    .ife (.cal 47 [.cal 27 [.var 0, .var 2]]) [.ret (.lit (.bl false))] [],
    .ret (.bi .all [.comp [3] true (.rng (.lit (.int 0)) (.bi .len [.var 2])) [] (.cal 47 [.cal 27 [.var 0, .bin .add (.slc false true (.var 2) (.lit .non) (.var 3)) (.slc true false (.var 2) (.bin .add (.var 3) (.lit (.int 1))) (.lit .non))]])])]⟩
-- 51: fu_law_right_2
def fu_law_right_2_b0 : List S := [.ife (.not (.cal 49 [.met (.var 5) [(6, 220), (7, 222)] [.var 7], .cal 50 [.var 7, .var 5]])) [.ret (.lit (.bl false))] []]
def fu_law_right_2_b1 : List S := [.asg 5 (.cal 45 [.var 3]),
    .asg 6 (.lst [.isc (.var 5) [6], .isc (.var 5) [7]]),
    .ife (.or (.not (.isc (.var 5) [6, 7])) (.or (.cmp .ne (.var 6) (.lst [.var 4, .not (.var 4)])) (.cmp .ne (.var 3) (.var 0)))) [.ret (.lit (.bl false))] [],
    .ife (.var 4) [.ife (.or (.not (.isi (.att (.var 5) "groups") .list)) (.not (.bi .all [.comp [9] true (.seq (.att (.var 5) "groups")) [] (.isi (.var 9) .list)]))) [.ret (.lit (.bl false))] [],
    .ife (.not (.bi .all [.comp [9] true (.seq (.att (.var 5) "groups")) [] (.bi .all [.comp [10] true (.seq (.var 9)) [] (.cal 25 [.var 10])])])) [.ret (.lit (.bl false))] []] [.ife (.or (.not (.isi (.att (.var 5) "places") .list)) (.not (.bi .all [.comp [10] true (.seq (.att (.var 5) "places")) [] (.cal 25 [.var 10])]))) [.ret (.lit (.bl false))] []],
    .ife (.and (.not (.var 4)) (.not (.chn .le .le (.lit (.int 4)) (.bi .len [.att (.var 5) "places"]) (.lit (.int 6))))) [.ret (.lit (.bl false))] [],
    .ife (.or (.not (.cal 50 [.var 0, .var 5])) (.cmp .isnot (.met (.var 5) [(6, 220), (7, 222)] [.var 0]) (.lit (.bl true)))) [.ret (.lit (.bl false))] [],
    .for_ [7] true (.seq (.var 1)) fu_law_right_2_b0,
    .ife (.var 4) [.each 5 (some "groups") 9 [] .append [.lit (.int 0)],
    .mutF 5 "groups" .append [.lst [.lit (.int 0), .lit (.int 0)]]] [.mutF 5 "places" .append [.lit (.int 0)]],
    .ife (.cmp .isnot (.met (.var 5) [(6, 220), (7, 222)] [.var 0]) (.lit (.bl false))) [.ret (.lit (.bl false))] []]
def fu_law_right_2 : Fun := ⟨2, 11, [.par [3, 4] [.cal 12 [.var 0], .cal 47 [.var 0]],
    .for_ [2] true (.rng (.lit (.int 0)) (.lit (.int 2))) fu_law_right_2_b1,
    .ife (.cmp .ne (.sub (.var 3) (.lit (.int 1))) (.lst [])) [.mut 3 [.lit (.int 1)] .pop [.bin .fdiv (.bi .len [.sub (.var 3) (.lit (.int 1))]) (.lit (.int 2))],
    .asg 8 (.cal 45 [.var 3]),
    .ret (.and (.cal 50 [.var 3, .var 8]) (.cmp .is_ (.met (.var 8) [(6, 220), (7, 222)] [.var 3]) (.lit (.bl true))))] [],
    .ret (.lit (.bl true))]⟩
-- 52: fu_law_less
def fu_law_less_b0 : List S := [.asg 2 (.bin .add (.var 2) (.comp [5] true (.rng (.bin .add (.var 3) (.lit (.int 1))) (.var 0)) [] (.tup [.var 3, .var 5])))]
def fu_law_less : Fun := ⟨2, 6, [.asg 2 (.lst []),
    .for_ [3] true (.rng (.lit (.int 0)) (.var 0)) fu_law_less_b0,
    .asg 4 (.slc true false (.var 2) (.bin .mod (.var 1) (.bin .add (.bi .len [.var 2]) (.lit (.int 1)))) (.lit .non)),
    .ret (.tup [.var 0, .ite (.cmp .gt (.bin .mod (.var 1) (.lit (.int 5))) (.lit (.int 0))) (.bin .add (.slc false true (.var 2) (.lit .non) (.bin .add (.lit (.int 1)) (.bin .mod (.var 1) (.lit (.int 3))))) (.slc true false (.var 4) (.bin .mod (.var 1) (.lit (.int 2))) (.lit .non))) (.slc true false (.var 2) (.lit (.int 1)) (.lit .non))])]⟩
-- 53: fu_law_4
def fu_law_4_b0 : List S := [.ife (.not (.cal 51 [.var 6, .lst [.var 8, .var 9]])) [.ret (.lit (.bl false))] []]
def fu_law_4 : Fun := ⟨1, 10, [.asg 1 (.bi .sum [.slc false true (.var 0) (.lit .non) (.lit (.int 63))]),
    .asg 2 (.ite (.cmp .eq (.bin .mod (.var 1) (.lit (.int 64))) (.lit (.int 17))) (.lit (.int 9)) (.lit (.int 6))),
    .par [8, 9] [.cal 35 [.cal 10 [.var 0, .lit (.int 0), .lit (.int 6), .var 2]], .cal 10 [.var 0, .lit (.int 1), .var 2, .bin .add (.var 2) (.lit (.int 2))]],
    .asg 3 (.tup [.lit (.int 0), .bin .sub (.sub (.var 8) (.lit (.int 0))) (.lit (.int 1))]),
    .asg 4 (.ite (.and (.cmp .gt (.sub (.var 8) (.lit (.int 0))) (.lit (.int 1))) (.cmp .notin (.var 3) (.sub (.var 8) (.lit (.int 1))))) (.tup [.sub (.var 8) (.lit (.int 0)), .bi .sorted [.bin .add (.sub (.var 8) (.lit (.int 1))) (.lst [.var 3])]]) (.var 8)),
    .asg 5 (.cal 52 [.bin .add (.lit (.int 3)) (.bin .mod (.var 1) (.lit (.int 3))), .bin .fdiv (.var 1) (.lit (.int 3))]),
    .asg 5 (.tup [.sub (.var 5) (.lit (.int 0)), .bi .ssort [.sub (.var 5) (.lit (.int 1))]]),
    .for_ [6] true (.seq (.lst [.var 8, .var 9, .var 4, .var 5])) fu_law_4_b0,
    .asg 7 (.cal 45 [.tup [.lit (.int 4), .lst [.tup [.lit (.int 0), .lit (.int 1)], .tup [.lit (.int 0), .lit (.int 2)], .tup [.lit (.int 0), .lit (.int 3)]]]]),
    .ret (.and (.isc (.var 7) [7]) (.and (.cmp .eq (.att (.var 7) "places") (.lst [.lit (.int 0), .lit (.int 1), .lit (.int 2), .lit (.int 3)])) (.cmp .eq (.att (.cal 45 [.tup [.lit (.int 2), .lst [.tup [.lit (.int 0), .lit (.int 1)]]]]) "groups") (.lst [.lst [.lit (.int 0), .lit (.int 1)]]))))]⟩
-- 54: fu_law_groups_right
def fu_law_groups_right : Fun := ⟨2, 7, [.asg 2 (.comp [3] true (.seq (.var 1)) [] (.bi .list [.var 3])),
    .par [5, 6] [.mk 6 "groups" 219 [.var 2], .mk 6 "groups" 219 [.lst []]],
    .each 2 none 3 [] .append [.lit (.int 0)],
    .mut 2 [] .append [.lst [.lit (.int 0)]],
    .mutF 6 "groups" .extend [.comp [3] true (.seq (.var 1)) [] (.bi .list [.var 3])],
    .asg 4 (.cal 46 [.var 0, .var 1]),
    .ife (.or (.cmp .ne (.att (.var 5) "groups") (.var 1)) (.not (.cal 49 [.met (.var 6) [(6, 220), (7, 222)] [.var 0], .var 4]))) [.ret (.lit (.bl false))] [],
    .ret (.cal 49 [.met (.var 5) [(6, 220), (7, 222)] [.var 0], .var 4])]⟩
-- 55: fu_law_places_right
def fu_law_places_right : Fun := ⟨2, 6, [.asg 2 (.bi .list [.var 1]),
    .par [4, 5] [.mk 7 "places" 221 [.var 2], .mk 7 "places" 221 [.lst []]],
    .mut 2 [] .append [.lit (.int 0)],
    .mutF 5 "places" .extend [.var 1],
    .asg 3 (.cal 50 [.var 0, .var 5]),
    .ife (.or (.cmp .ne (.att (.var 4) "places") (.var 1)) (.not (.cal 49 [.met (.var 5) [(6, 220), (7, 222)] [.var 0], .var 3]))) [.ret (.lit (.bl false))] [],
    .ret (.cal 49 [.met (.var 4) [(6, 220), (7, 222)] [.var 0], .var 3])]⟩
-- 56: fu_law_bent
def fu_law_bent_b0 : List S := [.mut 2 [] .append [.bin .add (.bin .add (.slc false true (.var 0) (.lit .non) (.var 4)) (.var 5)) (.slc true false (.var 0) (.bin .add (.var 4) (.lit (.int 1))) (.lit .non))]]
def fu_law_bent_b1 : List S := [.for_ [5] true (.seq (.tup [.lst [], .lst [.bin .add (.sub (.var 0) (.var 4)) (.lit (.int 1))], .lst [.bin .sub (.sub (.var 0) (.var 4)) (.lit (.int 1))], .bin .mul (.lst [.sub (.var 0) (.var 4)]) (.lit (.int 2)), .lst [.bin .mod (.var 1) (.lit (.int 9))]])) fu_law_bent_b0]
def fu_law_bent : Fun := ⟨2, 6, [.asg 2 (.lst []),
    .asg 3 (.lst [.bin .mod (.var 1) (.bi .max [.lit (.int 1), .bi .len [.var 0]]), .bin .sub (.bi .len [.var 0]) (.lit (.int 1))]),
    .for_ [4] true (.seq (.ite (.cmp .ne (.var 0) (.lst [])) (.var 3) (.lst []))) fu_law_bent_b1,
    .ret (.bin .add (.var 2) (.lst [.bi .ssort [.bin .add (.var 0) (.lst [.bin .mod (.var 1) (.lit (.int 9))])]]))]⟩
-- 57: fu_law_5
def fu_law_5_b0 : List S := [.asg 7 (.bin .add (.var 7) (.comp [13] true (.seq (.cal 56 [.sub (.var 6) (.var 9), .bin .fdiv (.var 1) (.lit (.int 5))])) [] (.bin .add (.bin .add (.slc false true (.var 6) (.lit .non) (.var 9)) (.lst [.var 13])) (.slc true false (.var 6) (.bin .add (.var 9) (.lit (.int 1))) (.lit .non)))))]
def fu_law_5_b1 : List S := [.asg 5 (.cal 45 [.var 2]),
    .asg 6 (.ite (.isc (.var 5) [6]) (.att (.var 5) "groups") (.lst [.lst [.lit (.int 0), .lit (.int 1)], .lst [.lit (.int 1), .lit (.int 2)]])),
    .asg 7 (.lst [.var 6, .slc true false (.var 6) (.lit (.int 1)) (.lit .non), .rev (.var 6), .bin .add (.var 6) (.slc false true (.var 6) (.lit .non) (.lit (.int 1))), .comp [12] true (.seq (.sub (.var 2) (.lit (.int 1)))) [] (.bi .list [.var 12]), .lst []]),
    .asg 7 (.bin .add (.var 7) (.lst [.comp [13] true (.seq (.var 6)) [] (.slc false true (.var 13) (.lit .non) (.neg (.lit (.int 1)))), .comp [13] true (.seq (.var 6)) [] (.rev (.var 13)), .bin .add (.var 6) (.lst [.lst [.lit (.int 0)]])])),
    .asg 7 (.bin .add (.var 7) (.lst [.bin .add (.var 6) (.lst [.lst [.lit (.int 0), .sub (.var 2) (.lit (.int 0))]]), .bin .add (.lst [.lst [.neg (.lit (.int 1)), .lit (.int 0)]]) (.var 6), .comp [13] true (.seq (.var 6)) [] (.bin .add (.var 13) (.lst [.bin .pow (.lit (.int 10)) (.lit (.int 20))]))])),
    .asg 8 (.lst [.bin .mod (.var 1) (.bi .max [.lit (.int 1), .bi .len [.var 6]]), .bi .min [.lit (.int 1), .bin .sub (.bi .len [.var 6]) (.lit (.int 1))], .bin .sub (.bi .len [.var 6]) (.lit (.int 1))]),
    .for_ [9] true (.seq (.ite (.cmp .ne (.var 6) (.lst [])) (.bi .ssort [.var 8]) (.lst []))) fu_law_5_b0,
    .ife (.not (.bi .all [.comp [13] true (.seq (.var 7)) [] (.cal 54 [.var 2, .var 13])])) [.ret (.lit (.bl false))] [],
    .asg 10 (.bi .lrng [.lit (.int 0), .sub (.var 2) (.lit (.int 0))]),
    .asg 11 (.ite (.isc (.var 5) [7]) (.att (.var 5) "places") (.slc false true (.var 10) (.lit .non) (.lit (.int 4)))),
    .asg 7 (.lst [.var 11, .slc true false (.var 11) (.lit (.int 1)) (.lit .non), .rev (.var 11), .var 10, .slc true false (.var 10) (.bin .mod (.var 1) (.lit (.int 3))) (.lit .non), .lst [], .bin .add (.var 11) (.lst [.sub (.var 2) (.lit (.int 0))]), .bin .add (.lst [.neg (.lit (.int 1))]) (.var 11)]),
    .asg 7 (.bin .add (.var 7) (.cal 56 [.var 11, .bin .fdiv (.var 1) (.lit (.int 7))])),
    .ife (.not (.bi .all [.comp [13] true (.seq (.bin .add (.var 7) (.lst [.bin .add (.var 11) (.slc false true (.var 11) (.lit .non) (.lit (.int 1))), .lst [.bin .pow (.lit (.int 10)) (.lit (.int 20))]]))) [] (.cal 55 [.var 2, .var 13])])) [.ret (.lit (.bl false))] []]
def fu_law_5_b2 : List S := [.ife (.cmp .isnot (.met (.mk 7 "places" 221 [.bi .lrng [.lit (.int 0), .sub (.var 2) (.lit (.int 0))]]) [(6, 220), (7, 222)] [.var 2]) (.lit (.bl true))) [.ret (.lit (.bl false))] []]
def fu_law_5 : Fun := ⟨1, 14, [.asg 1 (.bi .sum [.slc false true (.var 0) (.lit .non) (.lit (.int 63))]),
    .for_ [2] true (.seq (.lst [.cal 35 [.cal 10 [.var 0, .lit (.int 0), .lit (.int 6), .lit (.int 5)]], .cal 10 [.var 0, .lit (.int 1), .lit (.int 6), .lit (.int 8)]])) fu_law_5_b1,
    .asg 3 (.tup [.lit (.int 6), .lst [.tup [.lit (.int 0), .lit (.int 1)], .tup [.lit (.int 0), .lit (.int 2)], .tup [.lit (.int 0), .lit (.int 3)], .tup [.lit (.int 0), .lit (.int 4)], .tup [.lit (.int 0), .lit (.int 5)], .tup [.lit (.int 1), .lit (.int 2)], .tup [.lit (.int 1), .lit (.int 5)], .tup [.lit (.int 2), .lit (.int 3)], .tup [.lit (.int 3), .lit (.int 4)], .tup [.lit (.int 4), .lit (.int 5)]]]),
    .asg 4 (.tup [.lit (.int 5), .lst [.tup [.lit (.int 0), .lit (.int 1)], .tup [.lit (.int 0), .lit (.int 2)], .tup [.lit (.int 0), .lit (.int 3)], .tup [.lit (.int 0), .lit (.int 4)], .tup [.lit (.int 1), .lit (.int 2)], .tup [.lit (.int 1), .lit (.int 3)], .tup [.lit (.int 1), .lit (.int 4)], .tup [.lit (.int 2), .lit (.int 3)], .tup [.lit (.int 2), .lit (.int 4)]]]),
    .for_ [2] true (.seq (.lst [.var 3, .var 4])) fu_law_5_b2,
    .ife (.cmp .isnot (.met (.mk 6 "groups" 219 [.lst [.lst [.lit (.int 0), .lit (.int 1), .lit (.int 2)]]]) [(6, 220), (7, 222)] [.tup [.lit (.int 3), .lst [.tup [.lit (.int 0), .lit (.int 1)]]]]) (.lit (.bl false))) [.ret (.lit (.bl false))] [],
    .ret (.cmp .is_ (.met (.mk 6 "groups" 219 [.lst [.lst [.lit (.int 0), .lit (.int 1)], .lst [.lit (.int 0), .lit (.int 2)]]]) [(6, 220), (7, 222)] [.tup [.lit (.int 3), .lst [.tup [.lit (.int 0), .lit (.int 1)], .tup [.lit (.int 0), .lit (.int 2)]]]]) (.lit (.bl true)))]⟩
-- 58: fu_wall
def fu_wall_b0 : List S := [.pass]
def fu_wall : Fun := ⟨1, 1, [.whl (.lit (.bl true)) fu_wall_b0]⟩
-- 59: fu_groups_at
def fu_groups_at : Fun := ⟨1, 6, [.exp (.cal 4 [.var 0]),
    .asg 1 (.comp [2] true (.rng (.lit (.int 0)) (.sub (.var 0) (.lit (.int 0)))) [] (.comp [4, 5] false (.enu (.sub (.var 0) (.lit (.int 1)))) [.cmp .isin (.var 2) (.var 5)] (.var 4))),
    .ret (.bi .sorted [.comp [3] true (.seq (.var 1)) [.cmp .gt (.bi .len [.var 3]) (.lit (.int 1))] (.var 3)])]⟩
-- 60: fu_law_6
def fu_law_6_b0 : List S := [.asg 3 (.cal 10 [.var 0, .var 2, .lit (.int 9), .lit (.int 8)]),
    .par [9, 10] [.cal 12 [.var 3], .cal 33 [.var 3]],
    .asg 4 (.cal 59 [.var 9]),
    .ife (.or (.not (.isi (.var 4) .list)) (.or (.not (.bi .all [.comp [7] true (.seq (.var 4)) [] (.isi (.var 7) .list)])) (.cmp .ne (.var 9) (.var 3)))) [.ret (.lit (.bl false))] [],
    .asg 5 (.comp [11] true (.rng (.lit (.int 0)) (.sub (.var 3) (.lit (.int 0)))) [] (.comp [12, 13] false (.enu (.sub (.var 3) (.lit (.int 1)))) [.cmp .isin (.var 11) (.var 13)] (.var 12))),
    .ife (.or (.cmp .ne (.var 4) (.bi .sorted [.comp [7] true (.seq (.var 5)) [.cmp .gt (.bi .len [.var 7]) (.lit (.int 1))] (.var 7)])) (.not (.cal 46 [.var 10, .var 4]))) [.ret (.lit (.bl false))] [],
    .asg 6 (.cal 45 [.var 10]),
    .ife (.or (.not (.isc (.var 6) [6])) (.or (.isc (.var 6) [7]) (.not (.cal 46 [.var 10, .att (.var 6) "groups"])))) [.ret (.lit (.bl false))] [],
    .asg 7 (.comp [11] true (.rng (.lit (.int 0)) (.sub (.var 10) (.lit (.int 0)))) [.cmp .gt (.bin .mod (.cal 9 [.bin .add (.var 1) (.var 11), .var 2, .lit (.int 5)]) (.lit (.int 4))) (.lit (.int 0))] (.var 11)),
    .ife (.not (.isc (.cal 45 [.cal 18 [.var 10, .var 7]]) [6])) [.ret (.lit (.bl false))] [],
    .each 4 none 8 [] .append [.lit (.int 0)],
    .ife (.cmp .ne (.cal 59 [.var 9]) (.bi .sorted [.comp [7] true (.seq (.var 5)) [.cmp .gt (.bi .len [.var 7]) (.lit (.int 1))] (.var 7)])) [.ret (.lit (.bl false))] []]
def fu_law_6 : Fun := ⟨1, 14, [.asg 1 (.bi .sum [.slc false true (.var 0) (.lit .non) (.lit (.int 63))]),
    .for_ [2] true (.rng (.lit (.int 0)) (.lit (.int 3))) fu_law_6_b0,
    .ret (.and (.cmp .eq (.cal 59 [.tup [.lit (.int 4), .lst [.tup [.lit (.int 0), .lit (.int 1)], .tup [.lit (.int 0), .lit (.int 2)], .tup [.lit (.int 1), .lit (.int 3)]]]]) (.lst [.lst [.lit (.int 0), .lit (.int 1)], .lst [.lit (.int 0), .lit (.int 2)]])) (.cmp .eq (.cal 59 [.tup [.lit (.int 2), .lst [.tup [.lit (.int 0), .lit (.int 1)]]]]) (.lst [])))]⟩
-- 61: fu_check_cover
def fu_check_cover : Fun := ⟨2, 4, [.ife (.or (.not (.isi (.var 1) .list)) (.not (.bi .all [.comp [2] true (.seq (.var 1)) [] (.isi (.var 2) .list)]))) [.rai 8] [],
    .ife (.or (.not (.bi .all [.comp [2] true (.seq (.var 1)) [] (.bi .all [.comp [3] true (.seq (.var 2)) [] (.cal 0 [.var 3])])])) (.not (.cal 39 [.var 0, .var 1]))) [.rai 8] []]⟩
-- 62: fu_ends_of
def fu_ends_of_b0 : List S := [.mut 5 [] .append [.var 4],
    .aug 4 (.lit (.int 1))]
def fu_ends_of_b1 : List S := [.asg 5 (.comp [6, 7] false (.enu (.var 1)) [.cmp .isin (.var 2) (.var 7)] (.var 6)),
    .whl (.cmp .lt (.bi .len [.var 5]) (.lit (.int 2))) fu_ends_of_b0,
    .mut 3 [] .append [.tup [.sub (.var 5) (.lit (.int 0)), .sub (.var 5) (.lit (.int 1))]]]
def fu_ends_of : Fun := ⟨2, 8, [.par [3, 4] [.lst [], .bi .len [.var 1]],
    .for_ [2] true (.rng (.lit (.int 0)) (.sub (.var 0) (.lit (.int 0)))) fu_ends_of_b1,
    .ret (.tup [.var 3, .var 4])]⟩
-- 63: fu_root_by
def fu_root_by : Fun := ⟨2, 6, [.unp [3, 4] (.cal 62 [.var 0, .var 1]),
    .asg 2 (.bi .sorted [.var 3]),
    .ret (.tup [.tup [.var 4, .var 2], .comp [5] true (.seq (.var 3)) [] (.mix (.var 2) (.var 5))])]⟩
-- 64: fu_root_of
def fu_root_of : Fun := ⟨2, 2, [.exp (.cal 37 [.var 0]),
    .exp (.cal 61 [.var 0, .var 1]),
    .ret (.cal 63 [.var 0, .var 1])]⟩
-- 65: fu_root
def fu_root : Fun := ⟨1, 2, [.exp (.cal 37 [.var 0]),
    .asg 1 (.cal 44 [.var 0]),
    .ife (.cmp .is_ (.var 1) (.lit .non)) [.rai 11] [],
    .ret (.cal 63 [.var 0, .var 1])]⟩
-- 66: fu_law_root
def fu_law_root_b0 : List S := [.asg 6 (.comp [9, 10] false (.enu (.var 1)) [.cmp .isin (.var 2) (.var 10)] (.var 9)),
    .asg 7 (.bi .lrng [.var 5, .bin .sub (.bin .add (.var 5) (.lit (.int 2))) (.bi .len [.var 6])]),
    .asg 5 (.bin .add (.var 5) (.bi .len [.var 7])),
    .mut 4 [] .append [.slc true true (.bin .add (.var 6) (.var 7)) (.lit (.int 0)) (.lit (.int 2))]]
def fu_law_root : Fun := ⟨2, 11, [.par [4, 5] [.lst [], .bi .len [.var 1]],
    .for_ [2] true (.rng (.lit (.int 0)) (.sub (.var 0) (.lit (.int 0)))) fu_law_root_b0,
    .asg 3 (.bi .sorted [.comp [8] true (.seq (.var 4)) [] (.tup [.sub (.var 8) (.lit (.int 0)), .sub (.var 8) (.lit (.int 1))])]),
    .ret (.tup [.tup [.var 5, .var 3], .comp [8] true (.seq (.var 4)) [] (.mix (.var 3) (.tup [.sub (.var 8) (.lit (.int 0)), .sub (.var 8) (.lit (.int 1))]))])]⟩
-- 67: fu_law_is_root
def fu_law_is_root_b0 : List S := [.asg 7 (.tup [.bi .min [.sub (.var 5) (.var 6), .sub (.var 5) (.var 3)], .bi .max [.sub (.var 5) (.var 6), .sub (.var 5) (.var 3)]]),
    .ife (.cmp .ne (.cmp .isin (.var 7) (.sub (.var 2) (.lit (.int 1)))) (.cmp .isin (.tup [.var 6, .var 3]) (.sub (.var 0) (.lit (.int 1))))) [.ret (.lit (.bl false))] []]
def fu_law_is_root_b1 : List S := [.for_ [6] true (.rng (.lit (.int 0)) (.var 3)) fu_law_is_root_b0]
def fu_law_is_root : Fun := ⟨2, 8, [.ife (.or (.not (.isi (.var 1) .tuple)) (.or (.cmp .ne (.bi .len [.var 1]) (.lit (.int 2))) (.or (.not (.cal 26 [.sub (.var 1) (.lit (.int 0))])) (.not (.isi (.sub (.var 1) (.lit (.int 1))) .list))))) [.ret (.lit (.bl false))] [],
    .unp [4, 5] (.var 1),
    .ife (.or (.cmp .ne (.bi .sorted [.var 5]) (.bi .lrng [.lit (.int 0), .sub (.var 0) (.lit (.int 0))])) (.cmp .ne (.bi .len [.sub (.var 4) (.lit (.int 1))]) (.sub (.var 0) (.lit (.int 0))))) [.ret (.lit (.bl false))] [],
    .asg 2 (.cal 35 [.var 4]),
    .for_ [3] true (.rng (.lit (.int 0)) (.sub (.var 0) (.lit (.int 0)))) fu_law_is_root_b1,
    .ret (.lit (.bl true))]⟩
-- 68: fu_law_alone
def fu_law_alone : Fun := ⟨2, 4, [.asg 2 (.lst [.isc (.var 0) [1], .isc (.var 0) [2], .isc (.var 0) [3]]),
    .asg 2 (.bin .add (.var 2) (.lst [.isc (.var 0) [8], .isc (.var 0) [9], .isc (.var 0) [10]])),
    .asg 2 (.bin .add (.var 2) (.lst [.isc (.var 0) [4], .isc (.var 0) [11]])),
    .ret (.and (.cmp .eq (.var 2) (.comp [3] true (.rng (.lit (.int 0)) (.lit (.int 8))) [] (.cmp .eq (.var 3) (.var 1)))) (.isc (.var 0) [0, 1, 2, 3, 4, 8, 9, 10, 11]))]⟩
-- 70: fu_law_ask
def fu_law_ask : Fun := ⟨2, 2, [.ret (.cal 65 [.var 1])]⟩
-- 71: fu_law_right_3
def fu_law_right_3_b0 : List S := [.asg 6 (.cal 65 [.var 1]),
    .ife (.or (.not (.cal 67 [.var 0, .var 6])) (.cmp .ne (.var 1) (.var 0))) [.ret (.lit (.bl false))] [],
    .mut 6 [.lit (.int 1), .lit (.int 0)] .append [.tup [.lit (.int 0), .lit (.int 0)]],
    .mut 6 [.lit (.int 1)] .append [.lit (.int 0)]]
def fu_law_right_3 : Fun := ⟨1, 8, [.asg 1 (.cal 12 [.var 0]),
    .ife (.not (.cal 47 [.var 0])) [.ret (.cal 225 [.lit (.fn 70), .lit (.int 0), .var 1, .lit (.int 7)])] [],
    .for_ [2] true (.rng (.lit (.int 0)) (.lit (.int 2))) fu_law_right_3_b0,
    .asg 3 (.att (.cal 45 [.var 0]) "groups"),
    .asg 4 (.comp [7] true (.seq (.var 3)) [] (.bi .list [.var 7])),
    .asg 5 (.cal 64 [.var 1, .var 3]),
    .ife (.or (.cmp .ne (.var 5) (.cal 66 [.var 0, .var 3])) (.or (.not (.cal 67 [.var 0, .var 5])) (.cmp .ne (.lst [.var 1, .var 3]) (.lst [.var 0, .var 4])))) [.ret (.lit (.bl false))] [],
    .mut 5 [.lit (.int 1)] .append [.lit (.int 0)],
    .ife (.cmp .ne (.cal 64 [.var 1, .var 3]) (.cal 66 [.var 0, .var 4])) [.ret (.lit (.bl false))] [],
    .ife (.cmp .ne (.sub (.var 1) (.lit (.int 1))) (.lst [])) [.mut 1 [.lit (.int 1)] .pop [],
    .ife (.cal 47 [.var 1]) [.ret (.cal 67 [.var 1, .cal 65 [.var 1]])] [],
    .ret (.cal 225 [.lit (.fn 70), .lit (.int 0), .var 1, .lit (.int 7)])] [],
    .ret (.lit (.bl true))]⟩
-- 72: fu_law_7
def fu_law_7 : Fun := ⟨1, 6, [.asg 1 (.bi .sum [.slc false true (.var 0) (.lit .non) (.lit (.int 63))]),
    .asg 2 (.ite (.cmp .eq (.bin .mod (.var 1) (.lit (.int 64))) (.lit (.int 17))) (.lit (.int 9)) (.lit (.int 6))),
    .asg 3 (.cal 10 [.var 0, .lit (.int 0), .lit (.int 6), .var 2]),
    .par [4, 5] [.cal 35 [.var 3], .cal 10 [.var 0, .lit (.int 1), .var 2, .bin .add (.var 2) (.lit (.int 2))]],
    .ife (.or (.not (.cal 71 [.var 4])) (.or (.not (.cal 71 [.var 5])) (.not (.cal 71 [.cal 10 [.var 0, .lit (.int 2), .lit (.int 5), .lit (.int 4)]])))) [.ret (.lit (.bl false))] [],
    .ife (.cmp .ne (.cal 64 [.cal 33 [.var 3], .cal 59 [.var 3]]) (.cal 66 [.var 4, .cal 59 [.var 3]])) [.ret (.lit (.bl false))] [],
    .ife (.cmp .ne (.cal 65 [.tup [.lit (.int 1), .lst []]]) (.tup [.tup [.lit (.int 2), .lst [.tup [.lit (.int 0), .lit (.int 1)]]], .lst [.lit (.int 0)]])) [.ret (.lit (.bl false))] [],
    .ret (.cmp .eq (.cal 64 [.tup [.lit (.int 3), .lst [.tup [.lit (.int 0), .lit (.int 1)], .tup [.lit (.int 1), .lit (.int 2)]]], .lst [.lst [.lit (.int 0), .lit (.int 1)], .lst [.lit (.int 1), .lit (.int 2)]]]) (.tup [.tup [.lit (.int 4), .lst [.tup [.lit (.int 0), .lit (.int 1)], .tup [.lit (.int 0), .lit (.int 2)], .tup [.lit (.int 1), .lit (.int 3)]]], .lst [.lit (.int 1), .lit (.int 0), .lit (.int 2)]]))]⟩
-- 73: fu_can_go
def fu_can_go_b0 : List S := [.ife (.cmp .ne (.cmp .isin (.var 6) (.sub (.var 0) (.var 3))) (.cmp .isin (.var 5) (.sub (.var 1) (.var 4)))) [.ret (.lit (.bl false))] []]
def fu_can_go : Fun := ⟨4, 7, [.asg 4 (.bi .len [.var 2]),
    .for_ [5, 6] false (.enu (.var 2)) fu_can_go_b0,
    .ret (.cmp .eq (.bi .len [.sub (.var 0) (.var 3)]) (.bi .len [.sub (.var 1) (.var 4)]))]⟩
-- 74: fu_led_on
def fu_led_on_b0 : List S := [.ife (.and (.cmp .notin (.var 3) (.var 2)) (.cal 73 [.var 0, .var 1, .var 2, .var 3])) [.asg 4 (.cal 74 [.var 0, .var 1, .bin .add (.var 2) (.lst [.var 3])]),
    .ife (.cmp .isnot (.var 4) (.lit .non)) [.ret (.var 4)] []] []]
def fu_led_on : Fun := ⟨3, 5, [.ife (.cmp .eq (.bi .len [.var 2]) (.bi .len [.var 0])) [.ret (.var 2)] [],
    .for_ [3] true (.rng (.lit (.int 0)) (.bi .len [.var 0])) fu_led_on_b0,
    .ret (.lit .non)]⟩
-- 75: fu_led
def fu_led : Fun := ⟨2, 2, [.exp (.cal 38 [.var 0, .lit (.int 8)]),
    .exp (.cal 38 [.var 1, .lit (.int 8)]),
    .ife (.or (.cmp .ne (.sub (.var 0) (.lit (.int 0))) (.sub (.var 1) (.lit (.int 0)))) (.cmp .ne (.bi .len [.sub (.var 0) (.lit (.int 1))]) (.bi .len [.sub (.var 1) (.lit (.int 1))]))) [.ret (.lit .non)] [],
    .ret (.cal 74 [.cal 5 [.var 0], .cal 5 [.var 1], .lst []])]⟩
-- 76: fu_law_led
def fu_law_led : Fun := ⟨2, 2, [.ife (.or (.cmp .ne (.sub (.var 0) (.lit (.int 0))) (.sub (.var 1) (.lit (.int 0)))) (.cmp .ne (.bi .len [.sub (.var 0) (.lit (.int 1))]) (.bi .len [.sub (.var 1) (.lit (.int 1))]))) [.ret (.lit (.bl false))] [],
    .ret (.cal 77 [.cal 11 [.var 0], .cal 11 [.var 1], .lst []])]⟩
-- 77: fu_law_led_on
def fu_law_led_on_b0 : List S := [.ife (.and (.cmp .notin (.var 4) (.var 2)) (.cmp .eq (.bi .len [.sub (.var 0) (.var 4)]) (.bi .len [.sub (.var 1) (.var 3)]))) [.ife (.cmp .eq (.comp [5] true (.seq (.var 2)) [] (.cmp .isin (.var 5) (.sub (.var 0) (.var 4)))) (.comp [6] true (.rng (.lit (.int 0)) (.var 3)) [] (.cmp .isin (.var 6) (.sub (.var 1) (.var 3))))) [.ife (.cal 77 [.var 0, .var 1, .bin .add (.var 2) (.lst [.var 4])]) [.ret (.lit (.bl true))] []] []] []]
def fu_law_led_on : Fun := ⟨3, 7, [.asg 3 (.bi .len [.var 2]),
    .ife (.cmp .eq (.var 3) (.bi .len [.var 0])) [.ret (.lit (.bl true))] [],
    .for_ [4] true (.rng (.lit (.int 0)) (.bi .len [.var 0])) fu_law_led_on_b0,
    .ret (.lit (.bl false))]⟩
-- 78: fu_law_orders
def fu_law_orders_b0 : List S := [.asg 3 (.bin .add (.var 3) (.comp [5] true (.rng (.lit (.int 0)) (.var 0)) [.cmp .notin (.var 5) (.var 4)] (.bin .add (.var 4) (.lst [.var 5]))))]
def fu_law_orders_b1 : List S := [.asg 3 (.lst []),
    .for_ [4] true (.seq (.var 1)) fu_law_orders_b0,
    .asg 1 (.var 3)]
def fu_law_orders : Fun := ⟨1, 6, [.asg 1 (.lst [.lst []]),
    .for_ [2] true (.rng (.lit (.int 0)) (.var 0)) fu_law_orders_b1,
    .ret (.var 1)]⟩
-- 79: fu_law_right_4
def fu_law_right_4 : Fun := ⟨2, 9, [.asg 2 (.lst [.cal 12 [.var 0], .cal 12 [.var 1]]),
    .asg 3 (.cal 75 [.sub (.var 2) (.lit (.int 0)), .sub (.var 2) (.lit (.int 1))]),
    .ife (.or (.cmp .ne (.var 2) (.lst [.var 0, .var 1])) (.cmp .ne (.cmp .isnot (.var 3) (.lit .non)) (.cal 76 [.var 0, .var 1]))) [.ret (.lit (.bl false))] [],
    .ife (.cmp .is_ (.var 3) (.lit .non)) [.ret (.lit (.bl true))] [],
    .ife (.or (.not (.isi (.var 3) .list)) (.or (.cmp .ne (.bi .sorted [.var 3]) (.bi .lrng [.lit (.int 0), .sub (.var 0) (.lit (.int 0))])) (.cmp .ne (.cal 29 [.var 0, .var 3]) (.var 1)))) [.ret (.lit (.bl false))] [],
    .ife (.cmp .lt (.sub (.var 0) (.lit (.int 0))) (.lit (.int 5))) [.asg 4 (.comp [7] true (.seq (.cal 78 [.sub (.var 0) (.lit (.int 0))])) [.cmp .eq (.cal 29 [.var 0, .var 7]) (.var 1)] (.var 7)),
    .ife (.cmp .ne (.var 3) (.sub (.var 4) (.lit (.int 0)))) [.ret (.lit (.bl false))] []] [],
    .mut 3 [] .append [.lit (.int 0)],
    .ife (.cmp .ne (.cal 75 [.sub (.var 2) (.lit (.int 0)), .sub (.var 2) (.lit (.int 1))]) (.slc false true (.var 3) (.lit .non) (.neg (.lit (.int 1))))) [.ret (.lit (.bl false))] [],
    .ife (.cmp .ne (.sub (.sub (.var 2) (.lit (.int 0))) (.lit (.int 1))) (.lst [])) [.mut 2 [.lit (.int 1), .lit (.int 0)] .pop [],
    .ife (.cmp .isnot (.cal 75 [.sub (.var 2) (.lit (.int 0)), .sub (.var 2) (.lit (.int 1))]) (.lit .non)) [.ret (.lit (.bl false))] [],
    .asg 5 (.bi .sorted [.comp [8] true (.seq (.sub (.sub (.var 0) (.lit (.int 1))) (.neg (.lit (.int 1))))) [] (.mix (.var 3) (.var 8))]),
    .mut 2 [.lit (.int 1), .lit (.int 1)] .remove [.tup [.sub (.var 5) (.lit (.int 0)), .sub (.var 5) (.lit (.int 1))]],
    .asg 6 (.cal 75 [.sub (.var 2) (.lit (.int 0)), .sub (.var 2) (.lit (.int 1))]),
    .ret (.and (.cmp .isnot (.var 6) (.lit .non)) (.cmp .eq (.cal 29 [.sub (.var 2) (.lit (.int 0)), .var 6]) (.sub (.var 2) (.lit (.int 1)))))] [],
    .ret (.lit (.bl true))]⟩
-- 80: fu_law_8
def fu_law_8_b0 : List S := [.ife (.or (.not (.cal 79 [.var 3, .var 7])) (.not (.cal 79 [.var 7, .var 4]))) [.ret (.lit (.bl false))] []]
def fu_law_8_b1 : List S := [.asg 3 (.cal 10 [.var 0, .var 2, .ite (.cmp .eq (.bin .mod (.var 1) (.lit (.int 32))) (.lit (.int 9))) (.lit (.int 8)) (.lit (.int 5)), .lit (.int 8)]),
    .asg 4 (.cal 29 [.var 3, .cal 28 [.var 0, .var 2, .sub (.var 3) (.lit (.int 0))]]),
    .asg 5 (.comp [8] true (.seq (.sub (.var 3) (.lit (.int 1)))) [] (.tup [.sub (.var 8) (.lit (.int 0)), .bin .mod (.bin .add (.sub (.var 8) (.lit (.int 1))) (.lit (.int 1))) (.sub (.var 3) (.lit (.int 0)))])),
    .asg 6 (.tup [.sub (.var 3) (.lit (.int 0)), .bi .ssort [.comp [8] true (.seq (.var 5)) [.cmp .lt (.sub (.var 8) (.lit (.int 0))) (.sub (.var 8) (.lit (.int 1)))] (.var 8)]]),
    .for_ [7] true (.seq (.lst [.var 4, .var 6, .var 3, .cal 10 [.var 0, .bin .add (.var 2) (.lit (.int 3)), .lit (.int 5), .lit (.int 6)]])) fu_law_8_b0]
def fu_law_8 : Fun := ⟨1, 9, [.asg 1 (.bi .sum [.slc false true (.var 0) (.lit .non) (.lit (.int 63))]),
    .for_ [2] true (.rng (.lit (.int 0)) (.lit (.int 2))) fu_law_8_b1,
    .ret (.and (.cmp .eq (.cal 75 [.tup [.lit (.int 3), .lst [.tup [.lit (.int 0), .lit (.int 1)], .tup [.lit (.int 0), .lit (.int 2)]]], .tup [.lit (.int 3), .lst [.tup [.lit (.int 0), .lit (.int 2)], .tup [.lit (.int 1), .lit (.int 2)]]]]) (.lst [.lit (.int 1), .lit (.int 2), .lit (.int 0)])) (.cmp .is_ (.cal 75 [.tup [.lit (.int 2), .lst []], .tup [.lit (.int 3), .lst []]]) (.lit .non)))]⟩
-- 81: fu_law_tidy
def fu_law_tidy : Fun := ⟨1, 4, [.asg 1 (.comp [2] true (.rng (.lit (.int 0)) (.sub (.var 0) (.lit (.int 0)))) [.bi .any [.comp [3] true (.seq (.sub (.var 0) (.lit (.int 1)))) [] (.cmp .isin (.var 2) (.var 3))]] (.var 2)),
    .ret (.cal 27 [.var 0, .var 1])]⟩
-- 82: fu_law_threes
def fu_law_threes_b0 : List S := [.asg 3 (.cal 27 [.var 0, .var 2]),
    .asg 3 (.ite (.cmp .eq (.var 3) (.tup [.lit (.int 3), .lst [.tup [.lit (.int 0), .lit (.int 1)], .tup [.lit (.int 0), .lit (.int 2)], .tup [.lit (.int 1), .lit (.int 2)]]])) (.tup [.lit (.int 4), .lst [.tup [.lit (.int 0), .lit (.int 1)], .tup [.lit (.int 0), .lit (.int 2)], .tup [.lit (.int 0), .lit (.int 3)]]]) (.var 3)),
    .asg 4 (.comp [5, 6] false (.seq (.sub (.var 3) (.lit (.int 1)))) [] (.tup [.bin .add (.var 5) (.sub (.var 1) (.lit (.int 0))), .bin .add (.var 6) (.sub (.var 1) (.lit (.int 0)))])),
    .asg 1 (.tup [.bin .add (.sub (.var 1) (.lit (.int 0))) (.sub (.var 3) (.lit (.int 0))), .bin .add (.sub (.var 1) (.lit (.int 1))) (.var 4)])]
def fu_law_threes : Fun := ⟨1, 7, [.asg 1 (.tup [.lit (.int 0), .lst []]),
    .for_ [2] true (.seq (.cal 13 [.var 0])) fu_law_threes_b0,
    .ret (.var 1)]⟩
-- 83: fu_law_9
def fu_law_9_b0 : List S := [.asg 2 (.cal 10 [.var 0, .var 1, .lit (.int 6), .lit (.int 7)]),
    .par [7, 8] [.cal 33 [.var 2], .cal 81 [.var 2]],
    .par [9, 10] [.sub (.cal 64 [.var 7, .cal 59 [.var 2]]) (.lit (.int 0)), .sub (.cal 65 [.var 7]) (.lit (.int 0))],
    .ife (.or (.not (.cal 76 [.var 9, .var 8])) (.and (.cmp .lt (.sub (.var 8) (.lit (.int 0))) (.lit (.int 9))) (.cmp .is_ (.cal 75 [.var 9, .var 8]) (.lit .non)))) [.ret (.lit (.bl false))] [],
    .ife (.not (.cal 76 [.cal 82 [.var 10], .cal 82 [.var 8]])) [.ret (.lit (.bl false))] [],
    .asg 3 (.cal 81 [.cal 29 [.var 2, .cal 28 [.var 0, .var 1, .sub (.var 2) (.lit (.int 0))]]]),
    .ife (.and (.cmp .lt (.bi .len [.sub (.var 3) (.lit (.int 1))]) (.lit (.int 9))) (.cmp .is_ (.cal 75 [.var 7, .cal 33 [.var 3]]) (.lit .non))) [.ret (.lit (.bl false))] [],
    .asg 4 (.cal 81 [.cal 10 [.var 0, .bin .add (.var 1) (.lit (.int 3)), .lit (.int 6), .lit (.int 7)]]),
    .ife (.cmp .ne (.cal 76 [.var 7, .cal 35 [.var 4]]) (.cal 76 [.cal 82 [.var 8], .cal 82 [.var 4]])) [.ret (.lit (.bl false))] []]
def fu_law_9 : Fun := ⟨1, 11, [.for_ [1] true (.rng (.lit (.int 0)) (.lit (.int 3))) fu_law_9_b0,
    .par [5, 6] [.tup [.lit (.int 3), .lst [.tup [.lit (.int 0), .lit (.int 1)], .tup [.lit (.int 0), .lit (.int 2)], .tup [.lit (.int 1), .lit (.int 2)]]], .tup [.lit (.int 4), .lst [.tup [.lit (.int 0), .lit (.int 1)], .tup [.lit (.int 0), .lit (.int 2)], .tup [.lit (.int 0), .lit (.int 3)]]]],
    .ret (.and (.cmp .eq (.cal 33 [.var 5]) (.cal 33 [.var 6])) (.cmp .is_ (.cal 75 [.var 5, .var 6]) (.lit .non)))]⟩
-- 84: fu_meets_all
def fu_meets_all : Fun := ⟨2, 4, [.ret (.bi .all [.comp [2, 3] false (.seq (.sub (.var 0) (.lit (.int 1)))) [] (.or (.cmp .isin (.var 2) (.var 1)) (.cmp .isin (.var 3) (.var 1)))])]⟩
-- 85: fu_chosen
def fu_chosen : Fun := ⟨2, 4, [.ret (.comp [2, 3] false (.enu (.sub (.var 0) (.lit (.int 1)))) [.cmp .eq (.bin .band (.bin .shr (.var 1) (.var 2)) (.lit (.int 1))) (.lit (.int 1))] (.var 3))]⟩
-- 86: fu_gone_round
def fu_gone_round_b0 : List S := [.asg 4 (.cal 89 [.var 2, .sub (.var 3) (.var 1)]),
    .asg 2 (.comp [6] true (.seq (.var 2)) [.cmp .notin (.var 6) (.cal 88 [.var 4])] (.var 6)),
    .asg 3 (.bin .add (.bin .add (.slc false true (.var 3) (.lit .non) (.var 1)) (.var 4)) (.slc true false (.var 3) (.bin .add (.var 1) (.lit (.int 1))) (.lit .non))),
    .aug 1 (.lit (.int 1))]
def fu_gone_round : Fun := ⟨1, 7, [.par [2, 3] [.bi .list [.var 0], .lst [.sub (.sub (.var 0) (.lit (.int 0))) (.lit (.int 0))]],
    .ife (.bi .any [.comp [5] true (.seq (.cal 87 [.var 0])) [] (.cmp .eq (.bin .mod (.bi .len [.comp [6] true (.seq (.var 0)) [.cmp .isin (.var 5) (.var 6)] (.var 6)]) (.lit (.int 2))) (.lit (.int 1)))]) [.ret (.lst [])] [],
    .asg 1 (.lit (.int 0)),
    .whl (.cmp .lt (.var 1) (.bi .len [.var 3])) fu_gone_round_b0,
    .ret (.ite (.cmp .eq (.var 2) (.lst [])) (.var 3) (.lst []))]⟩
-- 87: fu_places_of
def fu_places_of_b0 : List S := [.mut 1 [] .extend [.comp [4] true (.seq (.tup [.var 2, .var 3])) [.cmp .notin (.var 4) (.var 1)] (.var 4)]]
def fu_places_of : Fun := ⟨1, 5, [.asg 1 (.lst []),
    .for_ [2, 3] false (.seq (.var 0)) fu_places_of_b0,
    .ret (.bi .sorted [.var 1])]⟩
-- 88: fu_ties_of
def fu_ties_of : Fun := ⟨1, 3, [.ret (.comp [1, 2] false (.zip (.var 0) (.slc true false (.var 0) (.lit (.int 1)) (.lit .non))) [] (.tup [.bi .min [.var 1, .var 2], .bi .max [.var 1, .var 2]]))]⟩
-- 89: fu_round_from
def fu_round_from_b0 : List S := [.mut 4 [] .remove [.sub (.var 2) (.lit (.int 0))],
    .asg 1 (.bin .sub (.bin .add (.sub (.sub (.var 2) (.lit (.int 0))) (.lit (.int 0))) (.sub (.sub (.var 2) (.lit (.int 0))) (.lit (.int 1)))) (.var 1)),
    .mut 3 [] .append [.var 1],
    .asg 2 (.comp [5] true (.seq (.var 4)) [.cmp .isin (.var 1) (.var 5)] (.var 5))]
def fu_round_from : Fun := ⟨2, 6, [.par [3, 4] [.lst [.var 1], .bi .list [.var 0]],
    .asg 2 (.comp [5] true (.seq (.var 4)) [.cmp .isin (.var 1) (.var 5)] (.var 5)),
    .whl (.cmp .ne (.var 2) (.lst [])) fu_round_from_b0,
    .ret (.var 3)]⟩
-- 90: fu_trail_of
def fu_trail_of_b0 : List S := [.ife (.cal 84 [.var 0, .lst [.var 1]]) [.ret (.lst [.var 1])] []]
def fu_trail_of_b1 : List S := [.asg 3 (.cal 85 [.var 0, .var 2]),
    .ife (.and (.cmp .gt (.bi .len [.var 3]) (.lit (.int 2))) (.cal 84 [.var 0, .cal 87 [.var 3]])) [.asg 4 (.cal 86 [.var 3]),
    .ife (.cmp .ne (.var 4) (.lst [])) [.ret (.var 4)] []] []]
def fu_trail_of : Fun := ⟨1, 5, [.for_ [1] true (.rng (.lit (.int 0)) (.sub (.var 0) (.lit (.int 0)))) fu_trail_of_b0,
    .for_ [2] true (.rng (.lit (.int 1)) (.bin .shl (.lit (.int 1)) (.bi .len [.sub (.var 0) (.lit (.int 1))]))) fu_trail_of_b1,
    .ret (.lit .non)]⟩
-- 91: fu_trail
def fu_trail : Fun := ⟨1, 1, [.exp (.cal 31 [.var 0, .lit (.int 10)]),
    .ret (.cal 90 [.var 0])]⟩
-- 92: fu_law_meets
def fu_law_meets : Fun := ⟨2, 4, [.ret (.bi .all [.comp [2, 3] false (.seq (.sub (.var 0) (.lit (.int 1)))) [] (.or (.cmp .isin (.var 2) (.var 1)) (.cmp .isin (.var 3) (.var 1)))])]⟩
-- 93: fu_law_is_trail
def fu_law_is_trail : Fun := ⟨2, 7, [.ife (.or (.not (.isi (.var 1) .list)) (.not (.bi .all [.comp [6] true (.seq (.var 1)) [] (.and (.cal 25 [.var 6]) (.chn .le .lt (.lit (.int 0)) (.var 6) (.sub (.var 0) (.lit (.int 0)))))]))) [.ret (.lit (.bl false))] [],
    .ife (.cmp .eq (.bi .len [.var 1]) (.lit (.int 1))) [.ret (.cal 92 [.var 0, .var 1])] [],
    .asg 2 (.comp [3, 4] false (.zip (.var 1) (.slc true false (.var 1) (.lit (.int 1)) (.lit .non))) [] (.tup [.bi .min [.var 3, .var 4], .bi .max [.var 3, .var 4]])),
    .ife (.or (.cmp .lt (.bi .len [.var 2]) (.lit (.int 3))) (.or (.cmp .ne (.sub (.var 1) (.lit (.int 0))) (.sub (.var 1) (.neg (.lit (.int 1))))) (.cmp .lt (.bi .slen [.var 2]) (.bi .len [.var 2])))) [.ret (.lit (.bl false))] [],
    .ret (.and (.bi .all [.comp [5] true (.seq (.var 2)) [] (.cmp .isin (.var 5) (.sub (.var 0) (.lit (.int 1))))]) (.cal 92 [.var 0, .var 1]))]⟩
-- 94: fu_law_tried
def fu_law_tried : Fun := ⟨1, 3, [.ife (.bi .any [.comp [2] true (.rng (.lit (.int 0)) (.sub (.var 0) (.lit (.int 0)))) [] (.cal 92 [.var 0, .lst [.var 2]])]) [.ret (.lit (.bl true))] [],
    .asg 1 (.cal 11 [.var 0]),
    .ret (.bi .any [.comp [2] true (.rng (.lit (.int 0)) (.sub (.var 0) (.lit (.int 0)))) [] (.cal 95 [.var 0, .var 1, .lst [.var 2], .lst []])])]⟩
-- 95: fu_law_goes
def fu_law_goes_b0 : List S := [.asg 5 (.tup [.bi .min [.var 4, .sub (.var 2) (.neg (.lit (.int 1)))], .bi .max [.var 4, .sub (.var 2) (.neg (.lit (.int 1)))]]),
    .ife (.and (.cmp .notin (.var 5) (.var 3)) (.and (.cmp .ge (.var 4) (.sub (.var 2) (.lit (.int 0)))) (.cal 95 [.var 0, .var 1, .bin .add (.var 2) (.lst [.var 4]), .bin .add (.var 3) (.lst [.var 5])]))) [.ret (.lit (.bl true))] []]
def fu_law_goes : Fun := ⟨4, 6, [.ife (.and (.cmp .gt (.bi .len [.var 2]) (.lit (.int 3))) (.and (.cmp .eq (.sub (.var 2) (.lit (.int 0))) (.sub (.var 2) (.neg (.lit (.int 1))))) (.cal 92 [.var 0, .var 2]))) [.ret (.lit (.bl true))] [],
    .for_ [4] true (.seq (.sub (.var 1) (.sub (.var 2) (.neg (.lit (.int 1)))))) fu_law_goes_b0,
    .ret (.lit (.bl false))]⟩
-- 96: fu_law_right_5
def fu_law_right_5 : Fun := ⟨1, 6, [.asg 1 (.cal 12 [.var 0]),
    .asg 2 (.cal 91 [.var 1]),
    .ife (.or (.cmp .ne (.var 1) (.var 0)) (.cmp .ne (.cmp .isnot (.var 2) (.lit .non)) (.cal 94 [.var 0]))) [.ret (.lit (.bl false))] [],
    .ife (.cmp .is_ (.var 2) (.lit .non)) [.ret (.lit (.bl true))] [],
    .ife (.not (.cal 93 [.var 0, .var 2])) [.ret (.lit (.bl false))] [],
    .ife (.cmp .ne (.bi .any [.comp [5] true (.rng (.lit (.int 0)) (.sub (.var 0) (.lit (.int 0)))) [] (.cal 92 [.var 0, .lst [.var 5]])]) (.cmp .eq (.bi .len [.var 2]) (.lit (.int 1)))) [.ret (.lit (.bl false))] [],
    .asg 3 (.bi .list [.var 2]),
    .mut 2 [] .append [.lit (.int 0)],
    .ife (.cmp .ne (.cal 91 [.var 1]) (.var 3)) [.ret (.lit (.bl false))] [],
    .ife (.cmp .ne (.sub (.var 1) (.lit (.int 1))) (.lst [])) [.mut 1 [.lit (.int 1)] .pop [],
    .asg 4 (.cal 91 [.var 1]),
    .ret (.and (.cmp .eq (.cmp .isnot (.var 4) (.lit .non)) (.cal 94 [.var 1])) (.or (.cmp .is_ (.var 4) (.lit .non)) (.cal 93 [.var 1, .var 4])))] [],
    .ret (.lit (.bl true))]⟩
-- 97: fu_law_10
def fu_law_10_b0 : List S := [.asg 4 (.ite (.cmp .eq (.bin .mod (.var 1) (.lit (.int 64))) (.lit (.int 5))) (.lit (.int 10)) (.lit (.int 7))),
    .asg 5 (.cal 10 [.var 0, .var 2, .lit (.int 7), .var 4]),
    .asg 6 (.cal 10 [.var 0, .bin .add (.var 2) (.lit (.int 3)), .lit (.int 4), .lit (.int 6)]),
    .ife (.or (.not (.cal 96 [.var 5])) (.or (.not (.cal 96 [.var 6])) (.not (.cal 96 [.tup [.sub (.var 5) (.lit (.int 0)), .slc false true (.sub (.var 5) (.lit (.int 1))) (.lit .non) (.lit (.int 4))]])))) [.ret (.lit (.bl false))] []]
def fu_law_10 : Fun := ⟨1, 7, [.asg 1 (.bi .sum [.slc false true (.var 0) (.lit .non) (.lit (.int 63))]),
    .for_ [2] true (.rng (.lit (.int 0)) (.lit (.int 2))) fu_law_10_b0,
    .asg 3 (.tup [.lit (.int 5), .lst [.tup [.lit (.int 0), .lit (.int 1)], .tup [.lit (.int 0), .lit (.int 2)], .tup [.lit (.int 1), .lit (.int 2)], .tup [.lit (.int 2), .lit (.int 3)], .tup [.lit (.int 2), .lit (.int 4)], .tup [.lit (.int 3), .lit (.int 4)]]]),
    .ife (.or (.cmp .ne (.bi .len [.cal 91 [.var 3]]) (.lit (.int 7))) (.cmp .isnot (.cal 91 [.tup [.lit (.int 4), .lst [.tup [.lit (.int 0), .lit (.int 1)], .tup [.lit (.int 1), .lit (.int 2)], .tup [.lit (.int 2), .lit (.int 3)]]]]) (.lit .non))) [.ret (.lit (.bl false))] [],
    .ret (.and (.cmp .eq (.cal 91 [.tup [.lit (.int 3), .lst [.tup [.lit (.int 0), .lit (.int 1)], .tup [.lit (.int 0), .lit (.int 2)]]]]) (.lst [.lit (.int 0)])) (.and (.cmp .is_ (.cal 91 [.tup [.lit (.int 0), .lst []]]) (.lit .non)) (.cmp .eq (.cal 91 [.tup [.lit (.int 1), .lst []]]) (.lst [.lit (.int 0)]))))]⟩
-- 98: fu_ring_by
def fu_ring_by_b0 : List S := [.ife (.cmp .notin (.var 6) (.var 4)) [.mut 4 [] .append [.var 6],
    .mut 3 [] .extend [.comp [7] true (.seq (.sub (.var 0) (.lit (.int 1)))) [.and (.cmp .isin (.var 6) (.var 7)) (.and (.cmp .notin (.var 7) (.var 2)) (.cmp .notin (.var 7) (.var 3)))] (.var 7)]] [],
    .ife (.cmp .lt (.var 5) (.bi .len [.var 2])) [.mut 3 [] .append [.sub (.var 2) (.var 5)]] []]
def fu_ring_by : Fun := ⟨2, 8, [.par [2, 3, 4] [.cal 88 [.var 1], .lst [], .lst []],
    .for_ [5, 6] false (.enu (.var 1)) fu_ring_by_b0,
    .ret (.comp [7] true (.seq (.var 3)) [] (.mix (.sub (.var 0) (.lit (.int 1))) (.var 7)))]⟩
-- 99: fu_ring
def fu_ring : Fun := ⟨1, 2, [.exp (.cal 31 [.var 0, .lit (.int 10)]),
    .asg 1 (.ite (.cmp .gt (.bi .len [.sub (.var 0) (.lit (.int 1))]) (.lit (.int 2))) (.cal 90 [.var 0]) (.lit .non)),
    .ret (.ite (.cmp .is_ (.var 1) (.lit .non)) (.lit .non) (.cal 98 [.var 0, .var 1]))]⟩
-- 100: fu_is_ring
def fu_is_ring : Fun := ⟨2, 6, [.exp (.cal 37 [.var 0]),
    .exp (.cal 19 [.var 1, .sub (.var 0) (.lit (.int 0))]),
    .asg 2 (.comp [3, 4] false (.zip (.var 1) (.bin .add (.slc true false (.var 1) (.lit (.int 1)) (.lit .non)) (.slc false true (.var 1) (.lit .non) (.lit (.int 1))))) [] (.tup [.bi .min [.var 3, .var 4], .bi .max [.var 3, .var 4]])),
    .ret (.and (.cmp .gt (.bi .len [.var 1]) (.lit (.int 2))) (.bi .all [.comp [5] true (.seq (.var 2)) [] (.cmp .isin (.var 5) (.sub (.var 0) (.lit (.int 1))))]))]⟩
-- 101: fu_law_is_ring
def fu_law_is_ring : Fun := ⟨2, 5, [.ife (.or (.not (.isi (.var 1) .list)) (.or (.cmp .ne (.bi .sorted [.var 1]) (.bi .lrng [.lit (.int 0), .sub (.var 0) (.lit (.int 0))])) (.cmp .lt (.bi .len [.var 1]) (.lit (.int 3))))) [.ret (.lit (.bl false))] [],
    .asg 2 (.bi .lzip [.var 1, .bin .add (.slc true false (.var 1) (.lit (.int 1)) (.lit .non)) (.slc false true (.var 1) (.lit .non) (.lit (.int 1)))]),
    .ret (.bi .all [.comp [3, 4] false (.seq (.var 2)) [] (.cmp .isin (.tup [.bi .min [.var 3, .var 4], .bi .max [.var 3, .var 4]]) (.sub (.var 0) (.lit (.int 1))))])]⟩
-- 102: fu_law_has_ring
def fu_law_has_ring : Fun := ⟨1, 1, [.ret (.and (.cmp .gt (.sub (.var 0) (.lit (.int 0))) (.lit (.int 2))) (.cal 103 [.var 0, .cal 11 [.var 0], .lst [.lit (.int 0)]]))]⟩
-- 103: fu_law_rings_on
def fu_law_rings_on : Fun := ⟨3, 4, [.ife (.cmp .eq (.bi .len [.var 2]) (.sub (.var 0) (.lit (.int 0)))) [.ret (.cmp .isin (.sub (.var 2) (.lit (.int 0))) (.sub (.var 1) (.sub (.var 2) (.neg (.lit (.int 1))))))] [],
    .ret (.bi .any [.comp [3] true (.seq (.sub (.var 1) (.sub (.var 2) (.neg (.lit (.int 1)))))) [.cmp .notin (.var 3) (.var 2)] (.cal 103 [.var 0, .var 1, .bin .add (.var 2) (.lst [.var 3])])])]⟩
-- 104: fu_law_right_6
def fu_law_right_6 : Fun := ⟨1, 8, [.par [4, 5] [.cal 12 [.var 0], .cal 35 [.var 0]],
    .asg 1 (.cal 99 [.var 4]),
    .asg 2 (.cal 102 [.var 5]),
    .ife (.or (.cmp .ne (.var 4) (.var 0)) (.or (.cmp .ne (.cmp .isnot (.var 1) (.lit .non)) (.var 2)) (.cmp .ne (.var 2) (.and (.cmp .gt (.bi .len [.sub (.var 0) (.lit (.int 1))]) (.lit (.int 2))) (.cmp .isnot (.cal 91 [.var 0]) (.lit .non)))))) [.ret (.lit (.bl false))] [],
    .ife (.cmp .is_ (.var 1) (.lit .non)) [.ret (.lit (.bl true))] [],
    .ife (.or (.not (.cal 101 [.var 5, .var 1])) (.not (.bi .all [.comp [7] true (.seq (.var 1)) [] (.cal 25 [.var 7])]))) [.ret (.lit (.bl false))] [],
    .ife (.cmp .isnot (.cal 100 [.cal 33 [.var 0], .var 1]) (.lit (.bl true))) [.ret (.lit (.bl false))] [],
    .asg 3 (.bi .list [.var 1]),
    .mut 1 [] .append [.lit (.int 0)],
    .ife (.cmp .ne (.cal 99 [.var 4]) (.var 3)) [.ret (.lit (.bl false))] [],
    .mut 4 [.lit (.int 1)] .pop [],
    .par [6, 5] [.cal 99 [.var 4], .cal 35 [.var 4]],
    .ret (.and (.cmp .eq (.cmp .isnot (.var 6) (.lit .non)) (.cal 102 [.var 5])) (.or (.cmp .is_ (.var 6) (.lit .non)) (.cal 101 [.var 5, .var 6])))]⟩
-- 105: fu_law_11
def fu_law_11_b0 : List S := [.ife (.not (.cal 104 [.var 3])) [.ret (.lit (.bl false))] []]
def fu_law_11_b1 : List S := [.asg 2 (.cal 10 [.var 0, .var 1, .lit (.int 7), .lit (.int 7)]),
    .for_ [3] true (.seq (.lst [.var 2, .tup [.sub (.var 2) (.lit (.int 0)), .slc false true (.sub (.var 2) (.lit (.int 1))) (.lit .non) (.lit (.int 3))], .cal 10 [.var 0, .bin .add (.var 1) (.lit (.int 2)), .lit (.int 4), .lit (.int 6)]])) fu_law_11_b0]
def fu_law_11 : Fun := ⟨1, 4, [.for_ [1] true (.rng (.lit (.int 0)) (.lit (.int 3))) fu_law_11_b1,
    .ife (.or (.cmp .isnot (.cal 99 [.tup [.lit (.int 3), .lst [.tup [.lit (.int 0), .lit (.int 1)], .tup [.lit (.int 0), .lit (.int 2)]]]]) (.lit .non)) (.cmp .is_ (.cal 99 [.tup [.lit (.int 4), .lst [.tup [.lit (.int 0), .lit (.int 1)], .tup [.lit (.int 0), .lit (.int 2)], .tup [.lit (.int 0), .lit (.int 3)]]]]) (.lit .non))) [.ret (.lit (.bl false))] [],
    .ret (.and (.cmp .is_ (.cal 99 [.tup [.lit (.int 4), .lst [.tup [.lit (.int 0), .lit (.int 1)], .tup [.lit (.int 1), .lit (.int 2)], .tup [.lit (.int 2), .lit (.int 3)]]]]) (.lit .non)) (.cmp .is_ (.cal 100 [.tup [.lit (.int 3), .lst [.tup [.lit (.int 0), .lit (.int 1)], .tup [.lit (.int 0), .lit (.int 2)], .tup [.lit (.int 1), .lit (.int 2)]]], .lst [.lit (.int 2), .lit (.int 0), .lit (.int 1)]]) (.lit (.bl true))))]⟩
-- 108: fu_law_round
def fu_law_round : Fun := ⟨1, 5, [.asg 1 (.comp [3, 4] false (.zip (.var 0) (.bin .add (.slc true false (.var 0) (.lit (.int 1)) (.lit .non)) (.slc false true (.var 0) (.lit .non) (.lit (.int 1))))) [] (.tup [.bi .min [.var 3, .var 4], .bi .max [.var 3, .var 4]])),
    .ret (.comp [2] true (.seq (.var 1)) [.cmp .lt (.sub (.var 2) (.lit (.int 0))) (.sub (.var 2) (.lit (.int 1)))] (.var 2))]⟩
-- 109: fu_law_12
def fu_law_12_b0 : List S := [.asg 7 (.lst [.cal 12 [.var 6], .bi .list [.var 4]]),
    .asg 8 (.cal 101 [.var 6, .var 4]),
    .ife (.or (.not (.cal 49 [.cal 100 [.sub (.var 7) (.lit (.int 0)), .sub (.var 7) (.lit (.int 1))], .var 8])) (.cmp .ne (.var 7) (.lst [.var 6, .var 4]))) [.ret (.lit (.bl false))] [],
    .asg 9 (.bin .mod (.var 1) (.bin .add (.bi .len [.var 4]) (.lit (.int 1)))),
    .asg 10 (.bin .add (.slc true false (.var 4) (.var 9) (.lit .non)) (.slc false true (.var 4) (.lit .non) (.var 9))),
    .ife (.or (.cmp .ne (.cal 100 [.var 6, .var 10]) (.var 8)) (.cmp .ne (.cal 100 [.var 6, .rev (.var 4)]) (.var 8))) [.ret (.lit (.bl false))] [],
    .ife (.cmp .ne (.sub (.sub (.var 7) (.lit (.int 0))) (.lit (.int 1))) (.lst [])) [.mut 7 [.lit (.int 1), .lit (.int 0)] .pop [.bin .mod (.var 1) (.bi .len [.sub (.sub (.var 7) (.lit (.int 0))) (.lit (.int 1))])],
    .mut 7 [.lit (.int 1)] .reverse [],
    .ife (.not (.cal 49 [.cal 100 [.sub (.var 7) (.lit (.int 0)), .sub (.var 7) (.lit (.int 1))], .cal 101 [.sub (.var 7) (.lit (.int 0)), .sub (.var 7) (.lit (.int 1))]])) [.ret (.lit (.bl false))] []] []]
def fu_law_12_b1 : List S := [.asg 3 (.cal 10 [.var 0, .var 2, .lit (.int 8), .lit (.int 12)]),
    .asg 4 (.cal 28 [.var 0, .var 2, .sub (.var 3) (.lit (.int 0))]),
    .asg 5 (.tup [.sub (.var 3) (.lit (.int 0)), .bi .ssort [.bin .add (.sub (.var 3) (.lit (.int 1))) (.cal 108 [.var 4])]]),
    .for_ [6] true (.seq (.lst [.var 3, .var 5])) fu_law_12_b0]
def fu_law_12 : Fun := ⟨1, 11, [.asg 1 (.bi .sum [.slc false true (.var 0) (.lit .non) (.lit (.int 63))]),
    .for_ [2] true (.rng (.lit (.int 0)) (.lit (.int 3))) fu_law_12_b1,
    .ife (.or (.cmp .isnot (.cal 100 [.tup [.lit (.int 2), .lst [.tup [.lit (.int 0), .lit (.int 1)]]], .lst [.lit (.int 0), .lit (.int 1)]]) (.lit (.bl false))) (.cmp .isnot (.cal 100 [.tup [.lit (.int 0), .lst []], .lst []]) (.lit (.bl false)))) [.ret (.lit (.bl false))] [],
    .ife (.or (.cmp .isnot (.cal 100 [.tup [.lit (.int 3), .lst [.tup [.lit (.int 0), .lit (.int 1)], .tup [.lit (.int 1), .lit (.int 2)]]], .lst [.lit (.int 0), .lit (.int 1), .lit (.int 2)]]) (.lit (.bl false))) (.cmp .isnot (.cal 100 [.tup [.lit (.int 3), .lst [.tup [.lit (.int 0), .lit (.int 1)], .tup [.lit (.int 0), .lit (.int 2)]]], .lst [.lit (.int 0), .lit (.int 1), .lit (.int 2)]]) (.lit (.bl false)))) [.ret (.lit (.bl false))] [],
    .ret (.cmp .is_ (.cal 100 [.tup [.lit (.int 4), .lst [.tup [.lit (.int 0), .lit (.int 1)], .tup [.lit (.int 0), .lit (.int 3)], .tup [.lit (.int 1), .lit (.int 2)], .tup [.lit (.int 2), .lit (.int 3)]]], .lst [.lit (.int 1), .lit (.int 2), .lit (.int 3), .lit (.int 0)]]) (.lit (.bl true)))]⟩
-- 110: fu_check_row
def fu_check_row : Fun := ⟨2, 3, [.ife (.or (.not (.isi (.var 1) .list)) (.or (.cmp .ne (.bi .len [.var 1]) (.sub (.var 0) (.lit (.int 0)))) (.not (.bi .all [.comp [2] true (.seq (.var 1)) [] (.cal 0 [.var 2])])))) [.rai 9] []]⟩
-- 111: fu_squares
def fu_squares : Fun := ⟨2, 4, [.exp (.cal 4 [.var 0]),
    .exp (.cal 110 [.var 0, .var 1]),
    .ret (.bin .add (.bin .mul (.lit (.int 2)) (.bi .sum [.comp [2] true (.seq (.var 1)) [] (.bin .mul (.var 2) (.var 2))])) (.bin .mul (.lit (.int 2)) (.bi .sum [.comp [2, 3] false (.seq (.sub (.var 0) (.lit (.int 1)))) [] (.bin .mul (.sub (.var 1) (.var 2)) (.sub (.var 1) (.var 3)))])))]⟩
-- 112: fu_by_groups
def fu_by_groups_b0 : List S := [.asg 5 (.bi .sum [.comp [6] true (.seq (.var 4)) [] (.sub (.var 2) (.var 6))]),
    .aug 3 (.bin .mul (.var 5) (.var 5))]
def fu_by_groups_b1 : List S := [.aug 3 (.bin .mul (.bin .mul (.bin .sub (.lit (.int 2)) (.bi .len [.comp [4] true (.seq (.var 1)) [.cmp .isin (.var 6) (.var 4)] (.var 4)])) (.var 7)) (.var 7))]
def fu_by_groups : Fun := ⟨3, 8, [.exp (.cal 37 [.var 0]),
    .exp (.cal 61 [.var 0, .var 1]),
    .exp (.cal 110 [.var 0, .var 2]),
    .asg 3 (.lit (.int 0)),
    .for_ [4] true (.seq (.var 1)) fu_by_groups_b0,
    .for_ [6, 7] false (.enu (.var 2)) fu_by_groups_b1,
    .ret (.var 3)]⟩
-- 113: fu_law_rows
def fu_law_rows_b0 : List S := [.asg 8 (.cal 9 [.sub (.var 3) (.bin .mod (.bin .add (.var 7) (.var 1)) (.bi .len [.var 3])), .bin .add (.var 7) (.var 1), .var 2]),
    .mut 6 [] .append [.bin .sub (.bin .mod (.bin .fdiv (.var 8) (.lit (.int 3))) (.var 5)) (.bin .fdiv (.var 5) (.lit (.int 2)))]]
def fu_law_rows_b1 : List S := [.asg 6 (.lst []),
    .for_ [7] true (.rng (.lit (.int 0)) (.var 2)) fu_law_rows_b0,
    .mut 4 [] .append [.var 6]]
def fu_law_rows : Fun := ⟨3, 9, [.asg 3 (.ite (.cmp .ne (.var 0) (.lst [])) (.slc false true (.var 0) (.lit .non) (.lit (.int 63))) (.lst [.lit (.int 8)])),
    .asg 4 (.lst []),
    .for_ [5] true (.seq (.lst [.lit (.int 3), .bin .pow (.lit (.int 10)) (.lit (.int 20))])) fu_law_rows_b1,
    .ret (.var 4)]⟩
-- 114: fu_law_squares
def fu_law_squares_b0 : List S := [.asg 4 (.bin .add (.var 4) (.bin .mul (.sub (.var 1) (.var 2)) (.bin .add (.bin .mul (.lit (.int 2)) (.sub (.var 1) (.var 2))) (.bi .sum [.comp [5] true (.seq (.sub (.var 3) (.var 2))) [] (.sub (.var 1) (.var 5))]))))]
def fu_law_squares : Fun := ⟨2, 6, [.par [3, 4] [.cal 11 [.var 0], .lit (.int 0)],
    .for_ [2] true (.rng (.lit (.int 0)) (.sub (.var 0) (.lit (.int 0)))) fu_law_squares_b0,
    .ret (.var 4)]⟩
-- 115: fu_law_13
def fu_law_13_b0 : List S := [.ife (.cmp .ne (.cal 112 [.sub (.var 6) (.lit (.int 0)), .var 9, .sub (.var 6) (.lit (.int 1))]) (.var 7)) [.ret (.lit (.bl false))] []]
def fu_law_13_b1 : List S := [.asg 6 (.lst [.cal 12 [.var 3], .bi .list [.var 5], .comp [12] true (.seq (.var 4)) [] (.bi .list [.var 12])]),
    .asg 7 (.cal 111 [.sub (.var 6) (.lit (.int 0)), .sub (.var 6) (.lit (.int 1))]),
    .ife (.or (.not (.cal 25 [.var 7])) (.or (.cmp .ne (.var 7) (.cal 114 [.var 3, .var 5])) (.cmp .lt (.var 7) (.lit (.int 0))))) [.ret (.lit (.bl false))] [],
    .asg 8 (.comp [11] true (.rng (.lit (.int 0)) (.sub (.var 2) (.lit (.int 0)))) [] (.bi .sum [.comp [14, 15] false (.enu (.sub (.var 2) (.lit (.int 1)))) [.cmp .isin (.var 11) (.var 15)] (.sub (.var 5) (.var 14))])),
    .ife (.cmp .ne (.var 7) (.bi .sum [.comp [13] true (.seq (.var 8)) [] (.bin .mul (.var 13) (.var 13))])) [.ret (.lit (.bl false))] [],
    .for_ [9] true (.seq (.lst [.sub (.var 6) (.lit (.int 2)), .cal 59 [.var 2]])) fu_law_13_b0,
    .ife (.cmp .ne (.var 6) (.lst [.var 3, .var 5, .var 4])) [.ret (.lit (.bl false))] [],
    .ife (.cmp .ne (.var 5) (.lst [])) [.mut 6 [.lit (.int 1)] .set [.neg (.lit (.int 1)), .bin .add (.sub (.sub (.var 6) (.lit (.int 1))) (.neg (.lit (.int 1)))) (.lit (.int 1))],
    .asg 10 (.cal 114 [.var 3, .sub (.var 6) (.lit (.int 1))]),
    .ife (.or (.cmp .ne (.cal 111 [.sub (.var 6) (.lit (.int 0)), .sub (.var 6) (.lit (.int 1))]) (.var 10)) (.cmp .ne (.cal 112 [.sub (.var 6) (.lit (.int 0)), .sub (.var 6) (.lit (.int 2)), .sub (.var 6) (.lit (.int 1))]) (.var 10))) [.ret (.lit (.bl false))] []] []]
def fu_law_13_b2 : List S := [.ife (.cmp .ne (.cal 111 [.var 2, .var 5]) (.cal 114 [.var 2, .var 5])) [.ret (.lit (.bl false))] []]
def fu_law_13_b3 : List S := [.asg 2 (.cal 10 [.var 0, .var 1, .lit (.int 9), .lit (.int 8)]),
    .asg 3 (.cal 33 [.var 2]),
    .asg 4 (.att (.cal 45 [.var 3]) "groups"),
    .for_ [5] true (.seq (.cal 113 [.var 0, .var 1, .sub (.var 3) (.lit (.int 0))])) fu_law_13_b1,
    .for_ [5] true (.seq (.cal 113 [.var 0, .bin .add (.var 1) (.lit (.int 2)), .sub (.var 2) (.lit (.int 0))])) fu_law_13_b2]
def fu_law_13 : Fun := ⟨1, 16, [.for_ [1] true (.rng (.lit (.int 0)) (.lit (.int 3))) fu_law_13_b3,
    .ret (.and (.cmp .eq (.cal 111 [.tup [.lit (.int 2), .lst [.tup [.lit (.int 0), .lit (.int 1)]]], .lst [.lit (.int 3), .neg (.lit (.int 3))]]) (.lit (.int 18))) (.cmp .eq (.cal 112 [.tup [.lit (.int 3), .lst [.tup [.lit (.int 0), .lit (.int 1)]]], .lst [.lst [.lit (.int 0), .lit (.int 1)]], .lst [.lit (.int 2), .lit (.int 3), .lit (.int 4)]]) (.bin .add (.bin .add (.bin .add (.lit (.int 25)) (.lit (.int 4))) (.lit (.int 9))) (.lit (.int 32)))))]⟩
-- 116: fu_added
def fu_added : Fun := ⟨2, 5, [.asg 2 (.bi .max [.bi .len [.var 0], .bi .len [.var 1]]),
    .ret (.comp [3] true (.rng (.lit (.int 0)) (.var 2)) [] (.bi .sum [.comp [4] true (.seq (.tup [.var 0, .var 1])) [.cmp .lt (.var 3) (.bi .len [.var 4])] (.sub (.var 4) (.var 3))]))]⟩
-- 117: fu_apart_of
def fu_apart_of : Fun := ⟨2, 5, [.ife (.cmp .eq (.var 1) (.lst [])) [.ret (.lst [.lit (.int 1)])] [],
    .asg 2 (.slc true false (.var 1) (.lit (.int 1)) (.lit .non)),
    .asg 3 (.cal 117 [.var 0, .var 2]),
    .ret (.cal 116 [.var 3, .bin .add (.lst [.lit (.int 0)]) (.cal 117 [.var 0, .comp [4] true (.seq (.var 2)) [.cmp .notin (.var 4) (.sub (.var 0) (.sub (.var 1) (.lit (.int 0))))] (.var 4)])])]⟩
-- 118: fu_places_apart
def fu_places_apart : Fun := ⟨1, 1, [.exp (.cal 37 [.var 0]),
    .ret (.cal 117 [.cal 5 [.var 0], .bi .lrng [.lit (.int 0), .sub (.var 0) (.lit (.int 0))]])]⟩
-- 119: fu_ties_apart
def fu_ties_apart : Fun := ⟨1, 2, [.exp (.cal 31 [.var 0, .lit (.int 10)]),
    .asg 1 (.cal 32 [.var 0]),
    .ret (.cal 117 [.cal 5 [.var 1], .bi .lrng [.lit (.int 0), .sub (.var 1) (.lit (.int 0))]])]⟩
-- 120: fu_law_apart
def fu_law_apart_b0 : List S := [.asg 4 (.bin .add (.var 4) (.comp [6] true (.seq (.var 4)) [.not (.bi .any [.comp [7] true (.seq (.var 6)) [] (.cmp .isin (.var 7) (.sub (.var 3) (.var 1)))])] (.bin .add (.var 6) (.lst [.var 1]))))]
def fu_law_apart : Fun := ⟨1, 8, [.par [3, 4] [.cal 11 [.var 0], .lst [.lst []]],
    .for_ [1] true (.rng (.lit (.int 0)) (.sub (.var 0) (.lit (.int 0)))) fu_law_apart_b0,
    .asg 2 (.bi .max [.comp [6] true (.seq (.var 4)) [] (.bi .len [.var 6])]),
    .ret (.comp [5] true (.rng (.lit (.int 0)) (.bin .add (.var 2) (.lit (.int 1)))) [] (.bi .len [.comp [6] true (.seq (.var 4)) [.cmp .eq (.bi .len [.var 6]) (.var 5)] (.var 6)]))]⟩
-- 121: fu_law_14
def fu_law_14_b0 : List S := [.par [9, 10] [.cal 10 [.var 0, .var 3, .var 2, .lit (.int 12)], .cal 10 [.var 0, .bin .add (.var 3) (.lit (.int 2)), .lit (.int 8), .var 2]],
    .asg 4 (.cal 12 [.var 9]),
    .asg 5 (.cal 118 [.var 4]),
    .ife (.or (.not (.isi (.var 5) .list)) (.or (.cmp .ne (.var 5) (.cal 120 [.var 9])) (.cmp .ne (.var 4) (.var 9)))) [.ret (.lit (.bl false))] [],
    .ife (.not (.bi .all [.comp [12] true (.seq (.var 5)) [] (.cal 25 [.var 12])])) [.ret (.lit (.bl false))] [],
    .asg 6 (.cal 119 [.var 10]),
    .ife (.or (.cmp .ne (.var 6) (.cal 120 [.cal 35 [.var 10]])) (.cmp .ne (.var 6) (.cal 118 [.cal 33 [.var 10]]))) [.ret (.lit (.bl false))] [],
    .ife (.cmp .lt (.sub (.var 9) (.lit (.int 0))) (.lit (.int 10))) [.asg 11 (.cal 118 [.tup [.bin .add (.sub (.var 9) (.lit (.int 0))) (.lit (.int 1)), .sub (.var 9) (.lit (.int 1))]]),
    .ife (.cmp .ne (.var 11) (.comp [12, 13] false (.zip (.bin .add (.var 5) (.lst [.lit (.int 0)])) (.bin .add (.lst [.lit (.int 0)]) (.var 5))) [] (.bin .add (.var 12) (.var 13)))) [.ret (.lit (.bl false))] []] [],
    .asg 7 (.bi .list [.var 5]),
    .mut 5 [] .append [.lit (.int 0)],
    .mut 6 [] .append [.lit (.int 0)],
    .ife (.or (.cmp .ne (.cal 118 [.var 4]) (.var 7)) (.cmp .ne (.cal 119 [.var 10]) (.slc false true (.var 6) (.lit .non) (.neg (.lit (.int 1)))))) [.ret (.lit (.bl false))] [],
    .ife (.cmp .ne (.sub (.var 4) (.lit (.int 1))) (.lst [])) [.mut 4 [.lit (.int 1)] .pop [.bin .mod (.var 1) (.bi .len [.sub (.var 4) (.lit (.int 1))])],
    .ife (.cmp .ne (.cal 118 [.var 4]) (.cal 120 [.var 4])) [.ret (.lit (.bl false))] []] [],
    .asg 8 (.cal 12 [.var 10]),
    .ife (.cmp .ne (.sub (.var 8) (.lit (.int 1))) (.lst [])) [.mut 8 [.lit (.int 1)] .pop [.bin .mod (.var 1) (.bi .len [.sub (.var 8) (.lit (.int 1))])],
    .ife (.cmp .ne (.cal 119 [.var 8]) (.cal 120 [.cal 35 [.var 8]])) [.ret (.lit (.bl false))] []] []]
def fu_law_14 : Fun := ⟨1, 14, [.asg 1 (.bi .sum [.slc false true (.var 0) (.lit .non) (.lit (.int 63))]),
    .asg 2 (.ite (.cmp .eq (.bin .mod (.var 1) (.lit (.int 32))) (.lit (.int 7))) (.lit (.int 10)) (.lit (.int 7))),
    .for_ [3] true (.rng (.lit (.int 0)) (.lit (.int 2))) fu_law_14_b0,
    .ret (.and (.cmp .eq (.cal 118 [.tup [.lit (.int 3), .lst [.tup [.lit (.int 0), .lit (.int 1)]]]]) (.lst [.lit (.int 1), .lit (.int 3), .lit (.int 2)])) (.cmp .eq (.cal 119 [.tup [.lit (.int 4), .lst [.tup [.lit (.int 0), .lit (.int 1)], .tup [.lit (.int 1), .lit (.int 2)], .tup [.lit (.int 2), .lit (.int 3)]]]]) (.lst [.lit (.int 1), .lit (.int 3), .lit (.int 1)])))]⟩
-- 122: fu_ways_from
def fu_ways_from : Fun := ⟨3, 7, [.asg 3 (.bi .len [.var 2]),
    .ife (.cmp .eq (.var 3) (.bi .len [.var 0])) [.ret (.lit (.int 1))] [],
    .asg 4 (.comp [5] true (.seq (.sub (.var 0) (.var 3))) [.cmp .lt (.var 5) (.var 3)] (.sub (.var 2) (.var 5))),
    .ret (.bi .sum [.comp [6] true (.rng (.lit (.int 0)) (.var 1)) [.cmp .notin (.var 6) (.var 4)] (.cal 122 [.var 0, .var 1, .bin .add (.var 2) (.lst [.var 6])])])]⟩
-- 123: fu_check_colours
def fu_check_colours : Fun := ⟨1, 1, [.ife (.or (.not (.cal 0 [.var 0])) (.not (.chn .le .le (.lit (.int 0)) (.var 0) (.lit (.int 4))))) [.rai 10] []]⟩
-- 124: fu_colours
def fu_colours : Fun := ⟨2, 2, [.exp (.cal 38 [.var 0, .lit (.int 8)]),
    .exp (.cal 123 [.var 1]),
    .ret (.cal 122 [.cal 5 [.var 0], .var 1, .lst []])]⟩
-- 125: fu_tie_colours
def fu_tie_colours : Fun := ⟨2, 2, [.exp (.cal 31 [.var 0, .lit (.int 8)]),
    .exp (.cal 123 [.var 1]),
    .ret (.cal 122 [.cal 5 [.cal 32 [.var 0]], .var 1, .lst []])]⟩
-- 126: fu_law_ways
def fu_law_ways_b0 : List S := [.asg 7 (.comp [8] true (.seq (.sub (.var 3) (.var 4))) [.cmp .lt (.var 8) (.var 4)] (.sub (.var 6) (.var 8))),
    .asg 5 (.bin .add (.var 5) (.comp [9] true (.rng (.lit (.int 0)) (.var 1)) [.cmp .notin (.var 9) (.var 7)] (.bin .add (.var 6) (.lst [.var 9]))))]
def fu_law_ways_b1 : List S := [.asg 5 (.lst []),
    .for_ [6] true (.seq (.var 2)) fu_law_ways_b0,
    .asg 2 (.var 5)]
def fu_law_ways : Fun := ⟨2, 10, [.asg 2 (.lst [.lst []]),
    .asg 3 (.cal 11 [.var 0]),
    .for_ [4] true (.rng (.lit (.int 0)) (.sub (.var 0) (.lit (.int 0)))) fu_law_ways_b1,
    .ret (.bi .len [.var 2])]⟩
-- 127: fu_law_made_one
def fu_law_made_one_b0 : List S := [.asg 6 (.bi .sorted [.comp [7] true (.seq (.tup [.var 4, .var 5])) [] (.ite (.cmp .eq (.var 7) (.sub (.var 1) (.lit (.int 1)))) (.sub (.var 1) (.lit (.int 0))) (.var 7))]),
    .ife (.and (.cmp .lt (.sub (.var 6) (.lit (.int 0))) (.sub (.var 6) (.lit (.int 1)))) (.cmp .notin (.tup [.sub (.var 6) (.lit (.int 0)), .sub (.var 6) (.lit (.int 1))]) (.var 3))) [.mut 3 [] .append [.tup [.sub (.var 6) (.lit (.int 0)), .sub (.var 6) (.lit (.int 1))]]] []]
def fu_law_made_one : Fun := ⟨2, 8, [.asg 2 (.comp [7] true (.rng (.lit (.int 0)) (.sub (.var 0) (.lit (.int 0)))) [.cmp .ne (.var 7) (.sub (.var 1) (.lit (.int 1)))] (.var 7)),
    .asg 3 (.lst []),
    .for_ [4, 5] false (.seq (.sub (.var 0) (.lit (.int 1)))) fu_law_made_one_b0,
    .ret (.cal 27 [.tup [.sub (.var 0) (.lit (.int 0)), .var 3], .var 2])]⟩
-- 128: fu_law_15
def fu_law_15_b0 : List S := [.par [7, 8] [.cal 124 [.var 3, .var 4], .cal 125 [.var 6, .var 4]],
    .ife (.or (.not (.cal 25 [.var 7])) (.or (.not (.cal 25 [.var 8])) (.or (.cmp .ne (.var 7) (.cal 126 [.var 5, .var 4])) (.cmp .ne (.var 3) (.var 5))))) [.ret (.lit (.bl false))] [],
    .ife (.or (.cmp .ne (.var 8) (.cal 126 [.cal 35 [.var 6], .var 4])) (.cmp .ne (.var 8) (.cal 124 [.cal 33 [.var 6], .var 4]))) [.ret (.lit (.bl false))] [],
    .ife (.cmp .ne (.sub (.var 5) (.lit (.int 1))) (.lst [])) [.asg 9 (.tup [.sub (.var 5) (.lit (.int 0)), .slc true false (.sub (.var 5) (.lit (.int 1))) (.lit (.int 1)) (.lit .non)]),
    .ife (.cmp .ne (.var 7) (.bin .sub (.cal 124 [.var 9, .var 4]) (.cal 124 [.cal 127 [.var 5, .sub (.sub (.var 5) (.lit (.int 1))) (.lit (.int 0))], .var 4]))) [.ret (.lit (.bl false))] []] []]
def fu_law_15_b1 : List S := [.par [5, 6] [.cal 10 [.var 0, .var 2, .lit (.int 5), .lit (.int 6)], .cal 10 [.var 0, .bin .add (.var 2) (.lit (.int 2)), .lit (.int 6), .lit (.int 5)]],
    .asg 3 (.cal 12 [.var 5]),
    .for_ [4] true (.rng (.lit (.int 0)) (.bin .add (.lit (.int 4)) (.bin .mod (.var 1) (.lit (.int 2))))) fu_law_15_b0,
    .ife (.cmp .ne (.cmp .eq (.cal 124 [.var 5, .lit (.int 1)]) (.lit (.int 1))) (.cmp .eq (.sub (.var 5) (.lit (.int 1))) (.lst []))) [.ret (.lit (.bl false))] [],
    .ife (.cmp .ne (.sub (.var 3) (.lit (.int 1))) (.lst [])) [.mut 3 [.lit (.int 1)] .pop [.bin .mod (.var 1) (.bi .len [.sub (.var 3) (.lit (.int 1))])],
    .ife (.cmp .ne (.cal 124 [.var 3, .lit (.int 3)]) (.cal 126 [.var 3, .lit (.int 3)])) [.ret (.lit (.bl false))] []] []]
def fu_law_15 : Fun := ⟨1, 10, [.asg 1 (.bi .sum [.slc false true (.var 0) (.lit .non) (.lit (.int 63))]),
    .for_ [2] true (.rng (.lit (.int 0)) (.lit (.int 2))) fu_law_15_b1,
    .ife (.or (.cmp .ne (.cal 124 [.tup [.lit (.int 0), .lst []], .lit (.int 0)]) (.lit (.int 1))) (.cmp .ne (.cal 124 [.tup [.lit (.int 1), .lst []], .lit (.int 0)]) (.lit (.int 0)))) [.ret (.lit (.bl false))] [],
    .ret (.and (.cmp .eq (.cal 124 [.tup [.lit (.int 3), .lst [.tup [.lit (.int 0), .lit (.int 1)], .tup [.lit (.int 0), .lit (.int 2)], .tup [.lit (.int 1), .lit (.int 2)]]], .lit (.int 3)]) (.lit (.int 6))) (.cmp .eq (.cal 125 [.tup [.lit (.int 4), .lst [.tup [.lit (.int 0), .lit (.int 1)], .tup [.lit (.int 0), .lit (.int 2)], .tup [.lit (.int 0), .lit (.int 3)]]], .lit (.int 2)]) (.lit (.int 0))))]⟩
-- 129: fu_law_round_of
def fu_law_round_of : Fun := ⟨1, 2, [.ret (.tup [.var 0, .bi .sorted [.bin .add (.lst [.tup [.lit (.int 0), .bin .sub (.var 0) (.lit (.int 1))]]) (.comp [1] true (.rng (.lit (.int 0)) (.bin .sub (.var 0) (.lit (.int 1)))) [] (.tup [.var 1, .bin .add (.var 1) (.lit (.int 1))]))]])]⟩
-- 130: fu_law_16
def fu_law_16_b0 : List S := [.asg 6 (.cal 10 [.var 0, .var 2, .lit (.int 12), .lit (.int 10)]),
    .par [8, 9] [.cal 33 [.var 6], .comp [10] true (.seq (.cal 11 [.var 6])) [] (.bi .len [.var 10])],
    .asg 7 (.comp [11, 12] false (.seq (.sub (.var 6) (.lit (.int 1)))) [] (.bin .sub (.bin .add (.sub (.var 9) (.var 11)) (.sub (.var 9) (.var 12))) (.lit (.int 2)))),
    .ife (.cmp .ne (.comp [10] true (.seq (.cal 6 [.var 8])) [] (.bi .len [.var 10])) (.var 7)) [.ret (.lit (.bl false))] [],
    .ife (.and (.cmp .le (.bi .len [.sub (.var 8) (.lit (.int 1))]) (.lit (.int 10))) (.cmp .ne (.cal 34 [.var 8]) (.bi .len [.sub (.cal 33 [.var 8]) (.lit (.int 1))]))) [.ret (.lit (.bl false))] []]
def fu_law_16 : Fun := ⟨1, 14, [.asg 1 (.bi .sum [.slc false true (.var 0) (.lit .non) (.lit (.int 63))]),
    .for_ [2] true (.rng (.lit (.int 0)) (.lit (.int 3))) fu_law_16_b0,
    .asg 3 (.bin .add (.lit (.int 3)) (.bin .mod (.var 1) (.lit (.int 8)))),
    .ife (.cmp .ne (.bi .sorted [.comp [10] true (.seq (.cal 6 [.cal 33 [.cal 129 [.var 3]]])) [] (.bi .len [.var 10])]) (.bin .mul (.lst [.lit (.int 2)]) (.var 3))) [.ret (.lit (.bl false))] [],
    .asg 4 (.cal 33 [.tup [.var 3, .comp [13] true (.rng (.lit (.int 0)) (.bin .sub (.var 3) (.lit (.int 1)))) [] (.tup [.var 13, .bin .add (.var 13) (.lit (.int 1))])]]),
    .asg 5 (.cal 33 [.tup [.var 3, .comp [13] true (.rng (.lit (.int 1)) (.var 3)) [] (.tup [.lit (.int 0), .var 13])]]),
    .ife (.cmp .ne (.var 4) (.tup [.bin .sub (.var 3) (.lit (.int 1)), .comp [13] true (.rng (.lit (.int 0)) (.bin .sub (.var 3) (.lit (.int 2)))) [] (.tup [.var 13, .bin .add (.var 13) (.lit (.int 1))])])) [.ret (.lit (.bl false))] [],
    .ret (.chn .eq .eq (.cal 34 [.tup [.var 3, .comp [13] true (.rng (.lit (.int 1)) (.var 3)) [] (.tup [.lit (.int 0), .var 13])]]) (.bi .len [.sub (.var 5) (.lit (.int 1))]) (.bin .fdiv (.bin .mul (.bin .sub (.var 3) (.lit (.int 1))) (.bin .sub (.var 3) (.lit (.int 2)))) (.lit (.int 2))))]⟩
-- 131: fu_law_17
def fu_law_17_b0 : List S := [.asg 4 (.cal 28 [.var 0, .var 2, .sub (.var 3) (.lit (.int 0))]),
    .asg 5 (.cal 21 [.var 3, .var 4]),
    .par [7, 8] [.cal 45 [.var 3], .cal 45 [.var 5]],
    .ife (.cmp .ne (.isc (.var 7) [6]) (.isc (.var 8) [6])) [.ret (.lit (.bl false))] [],
    .ife (.isc (.var 7) [6]) [.asg 9 (.bi .sorted [.comp [10] true (.seq (.att (.var 7) "groups")) [] (.bi .sorted [.comp [11] true (.seq (.var 10)) [] (.mix (.var 4) (.var 11))])]),
    .ife (.not (.cal 46 [.var 5, .var 9])) [.ret (.lit (.bl false))] []] [],
    .ife (.or (.cmp .ne (.cal 118 [.var 3]) (.cal 118 [.var 5])) (.cmp .ne (.cal 124 [.var 3, .lit (.int 3)]) (.cal 124 [.var 5, .lit (.int 3)]))) [.ret (.lit (.bl false))] [],
    .asg 6 (.sub (.cal 113 [.var 0, .var 2, .sub (.var 3) (.lit (.int 0))]) (.bin .mod (.var 1) (.lit (.int 2)))),
    .ife (.cmp .ne (.cal 111 [.var 3, .var 6]) (.cal 111 [.var 5, .comp [11] true (.seq (.var 4)) [] (.sub (.var 6) (.var 11))])) [.ret (.lit (.bl false))] [],
    .ife (.cmp .le (.bi .len [.sub (.var 3) (.lit (.int 1))]) (.lit (.int 8))) [.ife (.or (.cmp .ne (.cal 119 [.var 3]) (.cal 119 [.var 5])) (.cmp .ne (.cmp .is_ (.cal 91 [.var 3]) (.lit .non)) (.cmp .is_ (.cal 91 [.var 5]) (.lit .non)))) [.ret (.lit (.bl false))] [],
    .ife (.cmp .ne (.cmp .is_ (.cal 99 [.var 3]) (.lit .non)) (.cmp .is_ (.cal 99 [.var 5]) (.lit .non))) [.ret (.lit (.bl false))] []] []]
def fu_law_17_b1 : List S := [.for_ [3] true (.seq (.lst [.cal 10 [.var 0, .var 2, .lit (.int 6), .lit (.int 8)], .cal 35 [.cal 10 [.var 0, .bin .add (.var 2) (.lit (.int 2)), .lit (.int 6), .lit (.int 6)]]])) fu_law_17_b0]
def fu_law_17 : Fun := ⟨1, 12, [.asg 1 (.bi .sum [.slc false true (.var 0) (.lit .non) (.lit (.int 63))]),
    .for_ [2] true (.rng (.lit (.int 0)) (.lit (.int 2))) fu_law_17_b1,
    .ret (.lit (.bl true))]⟩
-- 132: fu_law_times
def fu_law_times_b0 : List S := [.mut 2 [] .set [.bin .add (.var 3) (.var 5), .bin .add (.sub (.var 2) (.bin .add (.var 3) (.var 5))) (.bin .mul (.var 4) (.var 6))]]
def fu_law_times_b1 : List S := [.for_ [5, 6] false (.enu (.var 1)) fu_law_times_b0]
def fu_law_times : Fun := ⟨2, 7, [.asg 2 (.bin .mul (.lst [.lit (.int 0)]) (.bin .sub (.bin .add (.bi .len [.var 0]) (.bi .len [.var 1])) (.lit (.int 1)))),
    .for_ [3, 4] false (.enu (.var 0)) fu_law_times_b1,
    .ret (.var 2)]⟩
-- 133: fu_law_18
def fu_law_18_b0 : List S := [.ife (.cmp .ne (.cal 124 [.var 2, .var 5]) (.bin .mul (.cal 124 [.var 6, .var 5]) (.cal 124 [.var 7, .var 5]))) [.ret (.lit (.bl false))] []]
def fu_law_18_b1 : List S := [.par [6, 7] [.cal 10 [.var 0, .var 1, .lit (.int 4), .lit (.int 5)], .cal 10 [.var 0, .bin .add (.var 1) (.lit (.int 2)), .lit (.int 4), .lit (.int 4)]],
    .asg 2 (.cal 22 [.var 6, .var 7]),
    .asg 3 (.lst [.cal 45 [.var 6], .cal 45 [.var 7], .cal 45 [.var 2]]),
    .asg 4 (.comp [9] true (.seq (.var 3)) [] (.isc (.var 9) [6])),
    .ife (.cmp .ne (.sub (.var 4) (.lit (.int 2))) (.and (.sub (.var 4) (.lit (.int 0))) (.sub (.var 4) (.lit (.int 1))))) [.ret (.lit (.bl false))] [],
    .ife (.sub (.var 4) (.lit (.int 2))) [.asg 8 (.comp [10] true (.seq (.att (.sub (.var 3) (.lit (.int 1))) "groups")) [] (.comp [11] true (.seq (.var 10)) [] (.bin .add (.var 11) (.sub (.var 6) (.lit (.int 0)))))),
    .ife (.not (.cal 46 [.var 2, .bi .sorted [.bin .add (.att (.sub (.var 3) (.lit (.int 0))) "groups") (.var 8)]])) [.ret (.lit (.bl false))] []] [],
    .ife (.cmp .ne (.cal 33 [.var 2]) (.cal 22 [.cal 33 [.var 6], .cal 33 [.var 7]])) [.ret (.lit (.bl false))] [],
    .ife (.cmp .ne (.cal 118 [.var 2]) (.cal 132 [.cal 118 [.var 6], .cal 118 [.var 7]])) [.ret (.lit (.bl false))] [],
    .for_ [5] true (.rng (.lit (.int 0)) (.lit (.int 4))) fu_law_18_b0,
    .ife (.and (.cmp .ne (.sub (.var 6) (.lit (.int 1))) (.lst [])) (.and (.cmp .ne (.sub (.var 7) (.lit (.int 1))) (.lst [])) (.cmp .isnot (.cal 99 [.var 2]) (.lit .non)))) [.ret (.lit (.bl false))] []]
def fu_law_18 : Fun := ⟨1, 12, [.for_ [1] true (.rng (.lit (.int 0)) (.lit (.int 3))) fu_law_18_b1,
    .ret (.lit (.bl true))]⟩
-- 134: fu_law_covers
def fu_law_covers : Fun := ⟨1, 1, [.ret (.cal 135 [.var 0, .bi .list [.sub (.var 0) (.lit (.int 1))], .lst []])]⟩
-- 135: fu_law_covers_on
def fu_law_covers_on_b0 : List S := [.ife (.cmp .notin (.var 4) (.sub (.var 1) (.lit (.int 0)))) [.asg 3 (.bin .add (.var 3) (.comp [6] true (.seq (.var 3)) [.cal 136 [.var 6, .var 4, .var 1]] (.bin .add (.var 6) (.lst [.var 4]))))] []]
def fu_law_covers_on_b1 : List S := [.asg 7 (.comp [9] true (.seq (.var 1)) [.or (.cmp .notin (.sub (.var 9) (.lit (.int 0))) (.var 6)) (.cmp .notin (.sub (.var 9) (.lit (.int 1))) (.var 6))] (.var 9)),
    .asg 8 (.comp [4] true (.rng (.lit (.int 0)) (.sub (.var 0) (.lit (.int 0)))) [] (.bi .len [.comp [10] true (.seq (.bin .add (.var 2) (.lst [.var 6]))) [.cmp .isin (.var 4) (.var 10)] (.var 10)])),
    .ife (.cmp .lt (.bi .max [.var 8]) (.lit (.int 3))) [.asg 5 (.bin .add (.var 5) (.cal 135 [.var 0, .var 7, .bin .add (.var 2) (.lst [.bi .sorted [.var 6]])]))] []]
def fu_law_covers_on : Fun := ⟨3, 11, [.ife (.cmp .eq (.var 1) (.lst [])) [.ret (.ite (.cal 46 [.var 0, .bi .sorted [.var 2]]) (.lst [.bi .sorted [.var 2]]) (.lst []))] [],
    .asg 3 (.lst [.bi .list [.sub (.var 1) (.lit (.int 0))]]),
    .for_ [4] true (.rng (.lit (.int 0)) (.sub (.var 0) (.lit (.int 0)))) fu_law_covers_on_b0,
    .asg 5 (.lst []),
    .for_ [6] true (.seq (.var 3)) fu_law_covers_on_b1,
    .ret (.var 5)]⟩
-- 136: fu_law_all_tied
def fu_law_all_tied : Fun := ⟨3, 4, [.ret (.bi .all [.comp [3] true (.seq (.var 0)) [] (.cmp .isin (.tup [.bi .min [.var 3, .var 1], .bi .max [.var 3, .var 1]]) (.var 2))])]⟩
-- 137: fu_law_has_two
def fu_law_has_two : Fun := ⟨1, 3, [.asg 1 (.bi .sorted [.comp [2] true (.seq (.cal 11 [.var 0])) [] (.bi .len [.var 2])]),
    .ret (.cmp .isin (.var 1) (.lst [.lst [.lit (.int 2), .lit (.int 2), .lit (.int 2)], .lst [.lit (.int 2), .lit (.int 2), .lit (.int 3), .lit (.int 3)], .lst [.lit (.int 3), .lit (.int 3), .lit (.int 3), .lit (.int 3), .lit (.int 4)], .bin .mul (.lst [.lit (.int 4)]) (.lit (.int 6))]))]⟩
-- 138: fu_law_right_7
def fu_law_right_7_b0 : List S := [.asg 2 (.cal 18 [.var 0, .var 1]),
    .par [3, 4] [.cal 134 [.var 2], .cal 45 [.var 2]],
    .ife (.cmp .ne (.isc (.var 4) [6]) (.cmp .ne (.var 3) (.lst []))) [.ret (.lit (.bl false))] [],
    .ife (.cmp .ne (.var 3) (.lst [])) [.ife (.or (.cmp .notin (.att (.var 4) "groups") (.var 3)) (.cmp .eq (.cmp .eq (.bi .len [.var 3]) (.lit (.int 1))) (.cal 137 [.var 2]))) [.ret (.lit (.bl false))] [],
    .ife (.and (.cmp .eq (.bi .len [.var 3]) (.lit (.int 1))) (.cmp .ne (.cal 65 [.var 2]) (.cal 64 [.var 2, .sub (.var 3) (.lit (.int 0))]))) [.ret (.lit (.bl false))] []] []]
def fu_law_right_7 : Fun := ⟨1, 5, [.for_ [1] true (.seq (.cal 8 [.var 0])) fu_law_right_7_b0,
    .ret (.lit (.bl true))]⟩
-- 139: fu_law_19
def fu_law_19 : Fun := ⟨1, 6, [.asg 1 (.bi .sum [.slc false true (.var 0) (.lit .non) (.lit (.int 63))]),
    .asg 2 (.lst [.cal 35 [.cal 10 [.var 0, .lit (.int 0), .lit (.int 5), .lit (.int 6)]], .cal 10 [.var 0, .lit (.int 1), .lit (.int 5), .lit (.int 7)], .cal 10 [.var 0, .lit (.int 2), .lit (.int 4), .lit (.int 6)]]),
    .asg 3 (.tup [.lit (.int 6), .lst [.tup [.lit (.int 0), .lit (.int 1)], .tup [.lit (.int 0), .lit (.int 2)], .tup [.lit (.int 0), .lit (.int 4)], .tup [.lit (.int 0), .lit (.int 5)], .tup [.lit (.int 1), .lit (.int 2)], .tup [.lit (.int 1), .lit (.int 3)], .tup [.lit (.int 1), .lit (.int 5)], .tup [.lit (.int 2), .lit (.int 3)], .tup [.lit (.int 2), .lit (.int 4)], .tup [.lit (.int 3), .lit (.int 4)], .tup [.lit (.int 3), .lit (.int 5)], .tup [.lit (.int 4), .lit (.int 5)]]]),
    .asg 4 (.tup [.lit (.int 5), .lst [.tup [.lit (.int 0), .lit (.int 1)], .tup [.lit (.int 0), .lit (.int 2)], .tup [.lit (.int 0), .lit (.int 3)], .tup [.lit (.int 0), .lit (.int 4)], .tup [.lit (.int 1), .lit (.int 2)], .tup [.lit (.int 1), .lit (.int 4)], .tup [.lit (.int 2), .lit (.int 3)], .tup [.lit (.int 3), .lit (.int 4)]]]),
    .ife (.not (.bi .all [.comp [5] true (.seq (.var 2)) [] (.cal 138 [.var 5])])) [.ret (.lit (.bl false))] [],
    .ife (.and (.cmp .eq (.bin .mod (.var 1) (.lit (.int 16))) (.lit (.int 5))) (.not (.cal 138 [.var 3]))) [.ret (.lit (.bl false))] [],
    .ret (.and (.cal 138 [.var 4]) (.and (.cal 138 [.tup [.lit (.int 3), .lst [.tup [.lit (.int 0), .lit (.int 1)], .tup [.lit (.int 0), .lit (.int 2)], .tup [.lit (.int 1), .lit (.int 2)]]]]) (.cmp .eq (.bi .len [.cal 134 [.var 4]]) (.lit (.int 2)))))]⟩
-- 140: fu_law_20
def fu_law_20_b0 : List S := [.asg 10 (.tup [.sub (.var 3) (.lit (.int 0)), .bin .add (.slc false true (.sub (.var 3) (.lit (.int 1))) (.lit .non) (.var 9)) (.slc true false (.sub (.var 3) (.lit (.int 1))) (.bin .add (.var 9) (.lit (.int 1))) (.lit .non))]),
    .asg 11 (.comp [12] true (.rng (.lit (.int 0)) (.sub (.var 4) (.lit (.int 0)))) [.cmp .ne (.var 12) (.var 9)] (.var 12)),
    .ife (.cmp .ne (.cal 33 [.var 10]) (.cal 18 [.var 4, .var 11])) [.ret (.lit (.bl false))] []]
def fu_law_20_b1 : List S := [.asg 3 (.cal 10 [.var 0, .var 2, .lit (.int 7), .lit (.int 8)]),
    .asg 4 (.cal 33 [.var 3]),
    .asg 5 (.att (.cal 45 [.var 4]) "groups"),
    .asg 6 (.comp [12] true (.rng (.lit (.int 0)) (.sub (.var 4) (.lit (.int 0)))) [.cmp .gt (.bin .mod (.cal 9 [.bin .add (.var 1) (.var 12), .var 2, .lit (.int 7)]) (.lit (.int 3))) (.lit (.int 0))] (.var 12)),
    .asg 7 (.comp [13] true (.seq (.var 5)) [] (.comp [12] true (.seq (.var 13)) [.cmp .isin (.var 12) (.var 6)] (.mix (.var 6) (.var 12)))),
    .asg 7 (.bi .sorted [.comp [13] true (.seq (.var 7)) [.cmp .gt (.bi .len [.var 13]) (.lit (.int 1))] (.var 13)]),
    .asg 8 (.cal 18 [.var 4, .var 6]),
    .ife (.or (.not (.cal 46 [.var 8, .var 7])) (.cmp .ne (.bi .len [.sub (.sub (.cal 64 [.var 8, .var 7]) (.lit (.int 0))) (.lit (.int 1))]) (.bi .len [.var 6]))) [.ret (.lit (.bl false))] [],
    .for_ [9] true (.rng (.lit (.int 0)) (.bi .len [.sub (.var 3) (.lit (.int 1))])) fu_law_20_b0,
    .ife (.cmp .ne (.bi .len [.sub (.sub (.cal 65 [.var 4]) (.lit (.int 0))) (.lit (.int 1))]) (.sub (.var 4) (.lit (.int 0)))) [.ret (.lit (.bl false))] []]
def fu_law_20 : Fun := ⟨1, 14, [.asg 1 (.bi .sum [.slc false true (.var 0) (.lit .non) (.lit (.int 63))]),
    .for_ [2] true (.rng (.lit (.int 0)) (.lit (.int 3))) fu_law_20_b1,
    .ret (.lit (.bl true))]⟩
-- 143: fu_law_at
def fu_law_at : Fun := ⟨2, 2, [.ret (.ite (.cmp .lt (.var 1) (.bi .len [.var 0])) (.sub (.var 0) (.var 1)) (.lit (.int 0)))]⟩
-- 144: fu_law_21
def fu_law_21_b0 : List S := [.ife (.and (.cmp .lt (.var 5) (.var 4)) (.cmp .ne (.cal 125 [.var 3, .var 5]) (.lit (.int 0)))) [.ret (.lit (.bl false))] []]
def fu_law_21_b1 : List S := [.asg 2 (.cal 10 [.var 0, .var 1, .lit (.int 9), .lit (.int 10)]),
    .par [6, 7] [.cal 118 [.var 2], .cal 119 [.var 2]],
    .par [8, 9] [.sub (.var 2) (.lit (.int 0)), .bi .len [.sub (.var 2) (.lit (.int 1))]],
    .ife (.or (.cmp .ne (.sub (.var 6) (.lit (.int 0))) (.lit (.int 1))) (.or (.cmp .ne (.cal 143 [.var 6, .lit (.int 1)]) (.var 8)) (.cmp .ne (.cal 143 [.var 6, .lit (.int 2)]) (.bin .sub (.bin .fdiv (.bin .mul (.var 8) (.bin .sub (.var 8) (.lit (.int 1)))) (.lit (.int 2))) (.var 9))))) [.ret (.lit (.bl false))] [],
    .ife (.or (.cmp .ne (.sub (.var 7) (.lit (.int 0))) (.lit (.int 1))) (.or (.cmp .ne (.cal 143 [.var 7, .lit (.int 1)]) (.var 9)) (.cmp .ne (.cal 143 [.var 7, .lit (.int 2)]) (.bin .sub (.bin .fdiv (.bin .mul (.var 9) (.bin .sub (.var 9) (.lit (.int 1)))) (.lit (.int 2))) (.cal 34 [.var 2]))))) [.ret (.lit (.bl false))] [],
    .ife (.or (.cmp .gt (.bin .mul (.bin .sub (.bi .len [.var 7]) (.lit (.int 1))) (.lit (.int 2))) (.var 8)) (.cmp .gt (.bin .sub (.bi .len [.var 6]) (.lit (.int 1))) (.var 8))) [.ret (.lit (.bl false))] [],
    .asg 3 (.tup [.var 8, .slc false true (.sub (.var 2) (.lit (.int 1))) (.lit .non) (.lit (.int 6))]),
    .asg 4 (.bi .max [.bin .add (.comp [10] true (.seq (.cal 6 [.var 3])) [] (.bi .len [.var 10])) (.lst [.lit (.int 0)])]),
    .for_ [5] true (.rng (.lit (.int 0)) (.lit (.int 5))) fu_law_21_b0,
    .ife (.cmp .ne (.cal 125 [.var 3, .lit (.int 1)]) (.bi .int_ [.cmp .eq (.cal 34 [.var 3]) (.lit (.int 0))])) [.ret (.lit (.bl false))] []]
def fu_law_21 : Fun := ⟨1, 11, [.for_ [1] true (.rng (.lit (.int 0)) (.lit (.int 3))) fu_law_21_b1,
    .ret (.lit (.bl true))]⟩
-- 147: fu_law_no_webs
def fu_law_no_webs : Fun := ⟨1, 5, [.asg 1 (.lst [.lit .non, .tup [.lit (.int 0)], .tup [.lit (.int 1), .lit (.int 0)], .tup [.lit (.int 2), .lit (.int 2)], .tup [.lit (.int 0), .lit (.int 1), .lit (.int 2)], .lst [.lit (.int 0), .lit (.int 1)], .tup [.lit (.str "0"), .lit (.int 1)], .tup [.lit (.int 0), .lit (.bl true)], .tup [.lit (.bl false), .lit (.int 1)], .tup [.lit (.int 0), .lit (.int 5)]]),
    .asg 1 (.bin .add (.var 1) (.lst [.tup [.neg (.lit (.int 1)), .lit (.int 1)], .tup [.lit (.int 0), .bin .add (.lit (.int 5)) (.var 0)]])),
    .asg 2 (.lst [.tup [.lit (.int 0), .lit (.int 1)], .tup [.lit (.int 0), .lit (.int 4)], .tup [.lit (.int 1), .lit (.int 2)], .tup [.lit (.int 2), .lit (.int 3)], .tup [.lit (.int 3), .lit (.int 4)]]),
    .mut 2 [] .set [.bin .mod (.var 0) (.lit (.int 5)), .sub (.var 1) (.bin .mod (.bin .fdiv (.var 0) (.lit (.int 5))) (.lit (.int 12)))],
    .asg 3 (.lst [.lit .non, .lit (.int 5), .tup [], .tup [.lit (.int 5)], .bin .add (.tup [.lit (.int 5), .lst []]) (.tup [.lit (.int 0)]), .lst [.lit (.int 5), .lst []], .lit (.str "web"), .dnew, .tup [.lit (.int 5), .lit .non], .tup [.lit (.int 5), .tup []], .tup [.lit .non, .lst []], .tup [.lit (.bl true), .lst []]]),
    .asg 3 (.bin .add (.var 3) (.lst [.tup [.neg (.lit (.int 1)), .lst []], .tup [.bin .sub (.neg (.lit (.int 1))) (.var 0), .lst []], .tup [.lit (.int 25), .lst []], .tup [.bin .add (.lit (.int 25)) (.var 0), .lst []], .tup [.lit (.str "5"), .lst []], .tup [.lit (.int 5), .lst [.tup [.lit (.int 0), .lit (.int 1)], .tup [.lit (.int 0), .lit (.int 1)]]]])),
    .asg 3 (.bin .add (.bin .add (.var 3) (.lst [.tup [.lit (.int 5), .lst [.tup [.lit (.int 0), .lit (.int 2)], .tup [.lit (.int 0), .lit (.int 1)]]], .tup [.lit (.int 0), .lst [.tup [.lit (.int 0), .lit (.int 1)]]], .tup [.lit (.int 5), .var 2]])) (.comp [4] true (.seq (.slc true false (.var 1) (.lit (.int 1)) (.lit .non))) [] (.tup [.lit (.int 5), .lst [.tup [.lit (.int 0), .lit (.int 1)], .var 4]]))),
    .mut 3 [] .append [.tup [.lit (.int 24), .slc false true (.sub (.cal 148 [.lit (.int 13)]) (.lit (.int 1))) (.lit .non) (.bin .add (.lit (.int 67)) (.bin .mod (.var 0) (.lit (.int 11))))]],
    .ret (.bin .add (.var 3) (.comp [4] true (.seq (.var 1)) [] (.tup [.lit (.int 5), .lst [.var 4]])))]⟩
-- 148: fu_law_all_tied_2
def fu_law_all_tied_2_b0 : List S := [.asg 1 (.bin .add (.var 1) (.comp [3] true (.rng (.bin .add (.var 2) (.lit (.int 1))) (.var 0)) [] (.tup [.var 2, .var 3])))]
def fu_law_all_tied_2 : Fun := ⟨1, 4, [.asg 1 (.lst []),
    .for_ [2] true (.rng (.lit (.int 0)) (.var 0)) fu_law_all_tied_2_b0,
    .ret (.tup [.var 0, .var 1])]⟩
-- 151: fu_law_with_second
def fu_law_with_second : Fun := ⟨2, 2, [.ret (.ite (.cmp .eq (.var 0) (.lit (.int 0))) (.cal 22 [.tup [.lit (.int 2), .lst [.tup [.lit (.int 0), .lit (.int 1)]]], .var 1]) (.cal 75 [.tup [.lit (.int 2), .lst [.tup [.lit (.int 0), .lit (.int 1)]]], .var 1]))]⟩
-- 153: fu_law_eleven
def fu_law_eleven : Fun := ⟨1, 1, [.ret (.lst [.tup [.lit (.int 11), .lst []], .tup [.bin .add (.lit (.int 11)) (.bin .mod (.var 0) (.lit (.int 14))), .lst [.tup [.lit (.int 0), .lit (.int 1)]]], .tup [.lit (.int 12), .lst [.tup [.lit (.int 0), .lit (.int 11)]]], .tup [.lit (.int 24), .lst []]])]⟩
-- 154: fu_law_few_places
def fu_law_few_places : Fun := ⟨2, 2, [.ife (.cmp .eq (.var 0) (.lit (.int 0))) [.ret (.cal 124 [.var 1, .lit .non])] [],
    .ret (.ite (.cmp .eq (.var 0) (.lit (.int 1))) (.cal 75 [.var 1, .lit .non]) (.cal 75 [.tup [.lit (.int 2), .lst []], .var 1]))]⟩
-- 155: fu_law_nine
def fu_law_nine : Fun := ⟨1, 1, [.ret (.lst [.tup [.lit (.int 9), .lst []], .tup [.bin .add (.lit (.int 9)) (.bin .mod (.var 0) (.lit (.int 16))), .lst [.tup [.lit (.int 0), .lit (.int 1)]]], .tup [.lit (.int 10), .lst [.tup [.lit (.int 0), .lit (.int 9)]]]])]⟩
-- 157: fu_law_many_ties
def fu_law_many_ties : Fun := ⟨1, 2, [.asg 1 (.sub (.cal 148 [.lit (.int 12)]) (.lit (.int 1))),
    .ret (.lst [.tup [.lit (.int 12), .slc false true (.var 1) (.lit .non) (.lit (.int 11))], .tup [.lit (.int 12), .slc false true (.var 1) (.lit .non) (.bin .add (.lit (.int 11)) (.bin .mod (.var 0) (.lit (.int 50))))], .tup [.lit (.int 6), .slc false true (.sub (.cal 148 [.lit (.int 6)]) (.lit (.int 1))) (.lit .non) (.lit (.int 12))]])]⟩
-- 158: fu_law_few_ties
def fu_law_few_ties : Fun := ⟨2, 2, [.ret (.cal 125 [.var 1, .lit .non])]⟩
-- 159: fu_law_nine_ties
def fu_law_nine_ties : Fun := ⟨1, 1, [.ret (.lst [.tup [.lit (.int 12), .slc false true (.sub (.cal 148 [.lit (.int 12)]) (.lit (.int 1))) (.lit .non) (.lit (.int 9))], .tup [.lit (.int 12), .slc false true (.sub (.cal 148 [.lit (.int 12)]) (.lit (.int 1))) (.lit .non) (.bin .add (.lit (.int 9)) (.bin .mod (.var 0) (.lit (.int 50))))]])]⟩
-- 160: fu_law_22
def fu_law_22 : Fun := ⟨1, 2, [.asg 1 (.lst [.tup [.lit (.fn 149), .lit (.int 11), .lit (.fn 147), .lit (.int 0)], .tup [.lit (.fn 150), .lit (.int 10), .lit (.fn 147), .lit (.int 0)]]),
    .asg 1 (.bin .add (.var 1) (.lst [.tup [.lit (.fn 151), .lit (.int 2), .lit (.fn 147), .lit (.int 0)], .tup [.lit (.fn 152), .lit (.int 6), .lit (.fn 153), .lit (.int 0)]])),
    .asg 1 (.bin .add (.var 1) (.lst [.tup [.lit (.fn 154), .lit (.int 3), .lit (.fn 155), .lit (.int 0)], .tup [.lit (.fn 156), .lit (.int 4), .lit (.fn 157), .lit (.int 0)]])),
    .mut 1 [] .append [.tup [.lit (.fn 158), .lit (.int 1), .lit (.fn 159), .lit (.int 0)]],
    .ife (.not (.cal 146 [.var 0, .var 1])) [.ret (.lit (.bl false))] [],
    .ret (.and (.cmp .eq (.cal 6 [.tup [.lit (.int 24), .lst []]]) (.bin .mul (.lst [.lst []]) (.lit (.int 24)))) (.and (.cmp .eq (.cal 34 [.cal 148 [.lit (.int 12)]]) (.lit (.int 660))) (.cmp .eq (.cal 8 [.tup [.lit (.int 0), .lst []]]) (.lst []))))]⟩
-- 161: fu_law_with_places
def fu_law_with_places : Fun := ⟨2, 2, [.ret (.cal 18 [.tup [.lit (.int 4), .lst [.tup [.lit (.int 0), .lit (.int 1)]]], .var 1])]⟩
-- 162: fu_law_no_places
def fu_law_no_places : Fun := ⟨1, 4, [.asg 1 (.lst [.lit .non, .neg (.lit (.int 1)), .lit (.int 4), .bin .add (.lit (.int 4)) (.var 0), .bin .sub (.neg (.lit (.int 1))) (.var 0), .lit (.bl true), .lit (.bl false), .lit (.str "1"), .lst [.lit (.int 1)], .tup [.lit (.int 1)], .dnew]),
    .asg 2 (.lst [.lit .non, .tup [], .tup [.lit (.int 0), .lit (.int 1)], .lit (.str "01"), .lit (.int 5), .dnew, .lst [.lit (.int 1), .lit (.int 0)], .lst [.lit (.int 0), .lit (.int 0)], .lst [.lit (.int 0), .lit (.int 1), .lit (.int 1)], .lst [.lit (.int 0), .lit (.int 1), .lit (.int 2), .lit (.int 3), .lit (.int 3)]]),
    .ret (.bin .add (.bin .add (.var 2) (.comp [3] true (.seq (.var 1)) [] (.lst [.var 3]))) (.comp [3] true (.seq (.var 1)) [] (.lst [.lit (.int 0), .var 3])))]⟩
-- 163: fu_law_with_order
def fu_law_with_order : Fun := ⟨2, 3, [.asg 2 (.tup [.lit (.int 3), .lst [.tup [.lit (.int 0), .lit (.int 1)], .tup [.lit (.int 0), .lit (.int 2)], .tup [.lit (.int 1), .lit (.int 2)]]]),
    .ret (.ite (.cmp .eq (.var 0) (.lit (.int 0))) (.cal 21 [.var 2, .var 1]) (.cal 100 [.var 2, .var 1]))]⟩
-- 164: fu_law_no_orders
def fu_law_no_orders : Fun := ⟨1, 4, [.asg 1 (.lst [.lit .non, .neg (.lit (.int 1)), .lit (.int 3), .bin .add (.lit (.int 3)) (.var 0), .bin .sub (.neg (.lit (.int 1))) (.var 0), .lit (.bl true), .lit (.bl false), .lit (.str "1"), .lst [.lit (.int 1)], .tup [.lit (.int 1)], .dnew]),
    .asg 2 (.lst [.lit .non, .tup [], .tup [.lit (.int 0), .lit (.int 1), .lit (.int 2)], .lit (.str "012"), .lit (.int 5), .dnew, .lst [], .lst [.lit (.int 0), .lit (.int 1)], .lst [.lit (.int 0), .lit (.int 1), .lit (.int 1)], .lst [.lit (.int 0), .lit (.int 1), .lit (.int 2), .lit (.int 3)], .lst [.lit (.int 0), .lit (.int 0), .lit (.int 1), .lit (.int 2)]]),
    .ret (.bin .add (.bin .add (.var 2) (.comp [3] true (.seq (.var 1)) [] (.lst [.lit (.int 0), .var 3, .lit (.int 2)]))) (.comp [3] true (.seq (.var 1)) [] (.lst [.lit (.int 1), .lit (.int 2), .var 3])))]⟩
-- 165: fu_law_with_groups
def fu_law_with_groups : Fun := ⟨2, 3, [.asg 2 (.tup [.lit (.int 4), .lst [.tup [.lit (.int 0), .lit (.int 1)], .tup [.lit (.int 0), .lit (.int 2)], .tup [.lit (.int 1), .lit (.int 2)], .tup [.lit (.int 2), .lit (.int 3)]]]),
    .ret (.ite (.cmp .eq (.var 0) (.lit (.int 0))) (.cal 64 [.var 2, .var 1]) (.cal 112 [.var 2, .var 1, .lit .non]))]⟩
-- 166: fu_law_no_groups
def fu_law_no_groups : Fun := ⟨1, 5, [.asg 1 (.lst [.lst [.lit (.int 0), .lit (.int 1), .lit (.int 2)], .lst [.lit (.int 2), .lit (.int 3)]]),
    .asg 2 (.lst [.lit .non, .tup [], .tup [.lst [.lit (.int 0), .lit (.int 1), .lit (.int 2)], .lst [.lit (.int 2), .lit (.int 3)]], .lit (.int 5), .lit (.str ""), .dnew, .lst [], .slc false true (.var 1) (.lit .non) (.lit (.int 1)), .rev (.var 1), .bin .add (.var 1) (.lst [.lst [.lit (.int 3)]]), .bin .add (.var 1) (.lst [.lst [.lit (.int 2), .lit (.int 3)]])]),
    .asg 2 (.bin .add (.var 2) (.lst [.lst [.lst [.lit (.int 0), .lit (.int 1)], .lst [.lit (.int 0), .lit (.int 2)], .lst [.lit (.int 1), .lit (.int 2)], .lst [.lit (.int 2), .lit (.int 3)]], .lst [.lst [.lit (.int 0), .lit (.int 2), .lit (.int 1)], .lst [.lit (.int 2), .lit (.int 3)]], .lst [.lst [.lit (.int 0), .lit (.int 1), .lit (.int 2), .lit (.int 3)]], .lst [.tup [.lit (.int 0), .lit (.int 1), .lit (.int 2)], .tup [.lit (.int 2), .lit (.int 3)]]])),
    .asg 2 (.bin .add (.var 2) (.lst [.lst [.lst [.lit (.int 0), .lit (.int 1), .lit (.int 2)], .lst [.lit (.int 3), .lit (.int 2)]], .lst [.lst [.lit (.int 0), .lit (.int 1), .lit (.int 2)], .lst [.lit (.int 2), .lit (.int 3)], .lst [.lit (.int 0), .lit (.int 3)]], .lst [.lst [.lit (.int 0), .lit (.int 1), .lit (.int 2)], .lit .non], .lst [.lit .non, .lst [.lit (.int 2), .lit (.int 3)]]])),
    .asg 3 (.lst [.lit .non, .neg (.lit (.int 1)), .lit (.int 4), .bin .add (.lit (.int 4)) (.var 0), .bin .sub (.neg (.lit (.int 1))) (.var 0), .lit (.bl true), .lit (.str "3"), .lst [.lit (.int 3)], .tup [.lit (.int 3)]]),
    .ret (.bin .add (.var 2) (.comp [4] true (.seq (.var 3)) [] (.lst [.lst [.lit (.int 0), .lit (.int 1), .lit (.int 2)], .lst [.lit (.int 2), .var 4]])))]⟩
-- 167: fu_law_with_row
def fu_law_with_row : Fun := ⟨2, 3, [.asg 2 (.tup [.lit (.int 3), .lst [.tup [.lit (.int 0), .lit (.int 1)]]]),
    .ret (.ite (.cmp .eq (.var 0) (.lit (.int 0))) (.cal 111 [.var 2, .var 1]) (.cal 112 [.var 2, .lst [.lst [.lit (.int 0), .lit (.int 1)]], .var 1]))]⟩
-- 168: fu_law_no_rows
def fu_law_no_rows : Fun := ⟨1, 4, [.asg 1 (.lst [.lit .non, .lit (.str "1"), .lit (.bl true), .lit (.bl false), .lst [.lit (.int 1)], .tup [.lit (.int 1)], .dnew]),
    .asg 2 (.lst [.lit .non, .tup [], .tup [.lit (.int 1), .lit (.int 2), .lit (.int 3)], .lit (.str "123"), .lit (.int 5), .dnew, .lst [], .lst [.lit (.int 1), .lit (.int 2)], .lst [.lit (.int 1), .lit (.int 2), .lit (.int 3), .lit (.int 4)], .bin .mul (.lst [.var 0]) (.lit (.int 4))]),
    .ret (.bin .add (.bin .add (.var 2) (.comp [3] true (.seq (.var 1)) [] (.lst [.lit (.int 1), .var 3, .lit (.int 3)]))) (.comp [3] true (.seq (.var 1)) [] (.lst [.var 3, .lit (.int 2), .lit (.int 3)])))]⟩
-- 169: fu_law_with_colours
def fu_law_with_colours : Fun := ⟨2, 2, [.ret (.ite (.cmp .eq (.var 0) (.lit (.int 0))) (.cal 124 [.tup [.lit (.int 2), .lst [.tup [.lit (.int 0), .lit (.int 1)]]], .var 1]) (.cal 125 [.tup [.lit (.int 2), .lst [.tup [.lit (.int 0), .lit (.int 1)]]], .var 1]))]⟩
-- 170: fu_law_no_colours
def fu_law_no_colours : Fun := ⟨1, 1, [.ret (.lst [.lit .non, .neg (.lit (.int 1)), .bin .sub (.neg (.lit (.int 1))) (.var 0), .lit (.int 5), .bin .add (.lit (.int 5)) (.var 0), .lit (.bl true), .lit (.bl false), .lit (.str "1"), .lst [.lit (.int 1)], .tup [.lit (.int 1)], .dnew])]⟩
-- 171: fu_law_with_many
def fu_law_with_many : Fun := ⟨2, 2, [.ret (.cal 22 [.sub (.var 1) (.lit (.int 0)), .sub (.var 1) (.lit (.int 1))])]⟩
-- 172: fu_law_too_many
def fu_law_too_many : Fun := ⟨1, 3, [.asg 1 (.cal 148 [.lit (.int 12)]),
    .asg 2 (.lst [.tup [.tup [.lit (.int 24), .lst []], .tup [.lit (.int 1), .lst []]], .tup [.tup [.lit (.int 13), .lst []], .tup [.lit (.int 12), .lst []]], .tup [.var 1, .tup [.lit (.int 2), .lst [.tup [.lit (.int 0), .lit (.int 1)]]]], .tup [.var 1, .var 1]]),
    .ret (.bin .add (.var 2) (.lst [.tup [.tup [.lit (.int 20), .lst []], .tup [.bin .add (.lit (.int 5)) (.bin .mod (.var 0) (.lit (.int 20))), .lst []]]]))]⟩
-- 173: fu_law_with_root
def fu_law_with_root : Fun := ⟨2, 2, [.ret (.cal 65 [.var 1])]⟩
-- 174: fu_law_no_cover
def fu_law_no_cover : Fun := ⟨1, 4, [.asg 1 (.lst [.tup [.lit (.int 0), .lit (.int 1)], .tup [.lit (.int 0), .lit (.int 2)], .tup [.lit (.int 0), .lit (.int 3)]]),
    .asg 2 (.tup [.lit (.int 5), .comp [3] true (.seq (.sub (.cal 148 [.lit (.int 5)]) (.lit (.int 1)))) [.cmp .ne (.var 3) (.tup [.bin .mod (.var 0) (.lit (.int 4)), .lit (.int 4)])] (.var 3)]),
    .ret (.lst [.tup [.lit (.int 4), .var 1], .tup [.bin .add (.lit (.int 4)) (.bin .mod (.var 0) (.lit (.int 7))), .var 1], .var 2, .tup [.lit (.int 6), .lst [.tup [.lit (.int 0), .lit (.int 1)], .tup [.lit (.int 1), .lit (.int 3)], .tup [.lit (.int 1), .lit (.int 5)], .tup [.lit (.int 2), .lit (.int 4)]]]])]⟩
-- 175: fu_law_23
def fu_law_23 : Fun := ⟨1, 2, [.asg 1 (.lst [.tup [.lit (.fn 161), .lit (.int 1), .lit (.fn 162), .lit (.int 1)], .tup [.lit (.fn 163), .lit (.int 2), .lit (.fn 164), .lit (.int 2)]]),
    .asg 1 (.bin .add (.var 1) (.lst [.tup [.lit (.fn 165), .lit (.int 2), .lit (.fn 166), .lit (.int 3)], .tup [.lit (.fn 167), .lit (.int 2), .lit (.fn 168), .lit (.int 4)]])),
    .asg 1 (.bin .add (.var 1) (.lst [.tup [.lit (.fn 169), .lit (.int 2), .lit (.fn 170), .lit (.int 5)], .tup [.lit (.fn 171), .lit (.int 1), .lit (.fn 172), .lit (.int 6)]])),
    .mut 1 [] .append [.tup [.lit (.fn 173), .lit (.int 1), .lit (.fn 174), .lit (.int 7)]],
    .ife (.not (.cal 146 [.var 0, .var 1])) [.ret (.lit (.bl false))] [],
    .ret (.and (.cmp .eq (.cal 22 [.tup [.lit (.int 12), .lst []], .tup [.lit (.int 12), .lst []]]) (.tup [.lit (.int 24), .lst []])) (.cmp .eq (.cal 18 [.tup [.lit (.int 4), .lst [.tup [.lit (.int 0), .lit (.int 1)]]], .lst []]) (.tup [.lit (.int 0), .lst []])))]⟩
-- 176: fu_law_counts_right
def fu_law_counts_right : Fun := ⟨2, 4, [.ife (.or (.cmp .ne (.cal 34 [.var 0]) (.bi .len [.sub (.var 1) (.lit (.int 1))])) (.cmp .ne (.cal 119 [.var 0]) (.cal 118 [.var 1]))) [.ret (.lit (.bl false))] [],
    .asg 2 (.tup [.sub (.var 0) (.lit (.int 0)), .slc false true (.sub (.var 0) (.lit (.int 1))) (.lit .non) (.lit (.int 5))]),
    .ret (.bi .all [.comp [3] true (.rng (.lit (.int 0)) (.lit (.int 4))) [] (.cmp .eq (.cal 125 [.var 2, .var 3]) (.cal 124 [.cal 33 [.var 2], .var 3]))])]⟩
-- 178: fu_law_barred_right
def fu_law_barred_right : Fun := ⟨1, 6, [.asg 1 (.cal 45 [.var 0]),
    .ife (.isc (.var 1) [6]) [.ret (.cal 47 [.var 0])] [],
    .asg 2 (.att (.var 1) "places"),
    .ife (.not (.isc (.cal 45 [.cal 18 [.var 0, .var 2]]) [7])) [.ret (.lit (.bl false))] [],
    .asg 3 (.comp [4] true (.rng (.lit (.int 0)) (.bi .len [.var 2])) [] (.bin .add (.slc false true (.var 2) (.lit .non) (.var 4)) (.slc true false (.var 2) (.bin .add (.var 4) (.lit (.int 1))) (.lit .non)))),
    .ret (.bi .all [.comp [5] true (.seq (.var 3)) [] (.isc (.cal 45 [.cal 18 [.var 0, .var 5]]) [6])])]⟩
-- 179: fu_law_24
def fu_law_24_b0 : List S := [.asg 3 (.cal 10 [.var 0, .var 2, .lit (.int 6), .lit (.int 7)]),
    .asg 4 (.cal 28 [.var 0, .var 2, .bi .len [.sub (.var 3) (.lit (.int 1))]]),
    .asg 5 (.sub (.cal 113 [.var 0, .var 2, .bi .len [.sub (.var 3) (.lit (.int 1))]]) (.bin .mod (.var 1) (.lit (.int 2)))),
    .ife (.not (.cal 177 [.var 3, .var 4, .var 5])) [.ret (.lit (.bl false))] [],
    .ife (.not (.cal 178 [.cal 10 [.var 0, .bin .add (.var 2) (.lit (.int 2)), .lit (.int 6), .lit (.int 9)]])) [.ret (.lit (.bl false))] []]
def fu_law_24 : Fun := ⟨1, 6, [.asg 1 (.bi .sum [.slc false true (.var 0) (.lit .non) (.lit (.int 63))]),
    .for_ [2] true (.rng (.lit (.int 0)) (.lit (.int 2))) fu_law_24_b0,
    .ret (.lit (.bl true))]⟩
-- 180: fu_law_webs_right
def fu_law_webs_right_b0 : List S := [.asg 3 (.cal 45 [.var 2]),
    .mut 1 [] .append [.var 3],
    .ife (.isc (.var 3) [6]) [.asg 1 (.bin .add (.var 1) (.lst [.mk 6 "groups" 219 [.bin .add (.att (.var 3) "groups") (.lst [.lst [.sub (.var 2) (.lit (.int 0)), .bin .add (.sub (.var 2) (.lit (.int 0))) (.lit (.int 1))]])], .mk 6 "groups" 219 [.slc false true (.att (.var 3) "groups") (.lit .non) (.neg (.lit (.int 1)))]])),
    .mut 1 [] .append [.mk 6 "groups" 219 [.bin .add (.lst [.lst []]) (.att (.var 3) "groups")]]] [.asg 1 (.bin .add (.var 1) (.lst [.mk 7 "places" 221 [.bin .add (.att (.var 3) "places") (.lst [.sub (.var 2) (.lit (.int 0))])], .mk 7 "places" 221 [.slc true false (.att (.var 3) "places") (.lit (.int 1)) (.lit .non)]]))]]
def fu_law_webs_right_b1 : List S := [.asg 5 (.ite (.isc (.var 4) [6]) (.cal 46 [.var 2, .att (.var 4) "groups"]) (.cal 50 [.var 2, .var 4])),
    .ife (.not (.cal 49 [.met (.var 4) [(6, 220), (7, 222)] [.var 2], .var 5])) [.ret (.lit (.bl false))] []]
def fu_law_webs_right_b2 : List S := [.for_ [4] true (.seq (.var 1)) fu_law_webs_right_b1]
def fu_law_webs_right : Fun := ⟨1, 6, [.asg 1 (.lst [.mk 6 "groups" 219 [.lst []], .mk 6 "groups" 219 [.lst [.lst []]], .mk 6 "groups" 219 [.lst [.lst [.lit (.int 0), .lit (.int 1)], .lst []]], .mk 6 "groups" 219 [.lst [.lst [.lit (.int 0)]]], .mk 6 "groups" 219 [.lst [.lst [.bin .pow (.lit (.int 2)) (.lit (.int 64)), .bin .add (.bin .pow (.lit (.int 2)) (.lit (.int 64))) (.lit (.int 1))]]]]),
    .asg 1 (.bin .add (.var 1) (.lst [.mk 6 "groups" 219 [.bin .mul (.lst [.lst [.lit (.int 0), .lit (.int 1)]]) (.lit (.int 30))], .mk 7 "places" 221 [.lst []], .mk 7 "places" 221 [.lst [.lit (.int 0), .lit (.int 1), .lit (.int 2), .lit (.int 3)]], .mk 7 "places" 221 [.lst [.lit (.int 3), .lit (.int 2), .lit (.int 1), .lit (.int 0)]]])),
    .asg 1 (.bin .add (.var 1) (.lst [.mk 7 "places" 221 [.bi .lrng [.lit (.int 0), .lit (.int 40)]], .mk 7 "places" 221 [.lst [.neg (.lit (.int 1)), .lit (.int 0), .lit (.int 1), .lit (.int 2)]]])),
    .for_ [2] true (.seq (.var 0)) fu_law_webs_right_b0,
    .for_ [2] true (.seq (.var 0)) fu_law_webs_right_b2,
    .ret (.lit (.bl true))]⟩
-- 181: fu_law_one_twice
def fu_law_one_twice : Fun := ⟨2, 9, [.par [3, 4] [.bi .list [.sub (.var 0) (.lit (.int 1))], .cal 22 [.var 0, .var 0]],
    .ife (.cmp .ne (.var 4) (.tup [.bin .mul (.lit (.int 2)) (.sub (.var 0) (.lit (.int 0))), .bin .add (.var 3) (.comp [7, 8] false (.seq (.var 3)) [] (.tup [.bin .add (.var 7) (.sub (.var 0) (.lit (.int 0))), .bin .add (.var 8) (.sub (.var 0) (.lit (.int 0)))]))])) [.ret (.lit (.bl false))] [],
    .mut 4 [.lit (.int 1)] .append [.tup [.lit (.int 0), .lit (.int 1)]],
    .ife (.or (.cmp .ne (.cal 75 [.var 0, .var 0]) (.bi .lrng [.lit (.int 0), .sub (.var 0) (.lit (.int 0))])) (.cmp .ne (.sub (.var 0) (.lit (.int 1))) (.var 3))) [.ret (.lit (.bl false))] [],
    .asg 2 (.cal 45 [.var 0]),
    .ife (.isc (.var 2) [6]) [.asg 5 (.comp [6] true (.seq (.att (.var 2) "groups")) [] (.bi .list [.var 6])),
    .ife (.cmp .ne (.cal 112 [.var 0, .att (.var 2) "groups", .var 1]) (.cal 111 [.var 0, .var 1])) [.ret (.lit (.bl false))] [],
    .ife (.or (.cmp .ne (.cal 64 [.var 0, .att (.var 2) "groups"]) (.cal 64 [.var 0, .var 5])) (.cmp .ne (.att (.var 2) "groups") (.var 5))) [.ret (.lit (.bl false))] []] [],
    .ret (.cmp .is_ (.met (.var 2) [(6, 220), (7, 222)] [.var 0]) (.lit (.bl true)))]⟩
-- 182: fu_law_25
def fu_law_25_b0 : List S := [.asg 4 (.comp [5] true (.rng (.lit (.int 0)) (.sub (.var 3) (.lit (.int 0)))) [] (.bin .sub (.bin .mod (.bin .add (.var 1) (.bin .mul (.lit (.int 7)) (.var 5))) (.lit (.int 11))) (.lit (.int 5)))),
    .ife (.and (.cmp .lt (.sub (.var 3) (.lit (.int 0))) (.lit (.int 9))) (.not (.cal 181 [.var 3, .var 4]))) [.ret (.lit (.bl false))] []]
def fu_law_25 : Fun := ⟨1, 6, [.asg 1 (.bi .sum [.slc false true (.var 0) (.lit .non) (.lit (.int 63))]),
    .asg 2 (.lst [.cal 35 [.cal 10 [.var 0, .lit (.int 0), .lit (.int 6), .lit (.int 6)]], .cal 10 [.var 0, .lit (.int 1), .lit (.int 6), .lit (.int 8)], .cal 10 [.var 0, .lit (.int 2), .lit (.int 4), .lit (.int 6)]]),
    .mut 2 [] .append [.cal 35 [.cal 10 [.var 0, .lit (.int 3), .lit (.int 5), .lit (.int 5)]]],
    .for_ [3] true (.seq (.var 2)) fu_law_25_b0,
    .ret (.cal 180 [.var 2])]⟩
-- 184: fu_law_all_tied_3
def fu_law_all_tied_3_b0 : List S := [.mut 1 [] .extend [.comp [3] true (.rng (.bin .add (.var 2) (.lit (.int 1))) (.var 0)) [] (.tup [.var 2, .var 3])]]
def fu_law_all_tied_3 : Fun := ⟨1, 4, [.asg 1 (.lst []),
    .for_ [2] true (.rng (.lit (.int 0)) (.var 0)) fu_law_all_tied_3_b0,
    .ret (.var 1)]⟩
-- 189: fu_law_26
def fu_law_26_b0 : List S := [.ife (.not (.cal 185 [.var 3, .var 1])) [.ret (.lit (.bl false))] []]
def fu_law_26_b1 : List S := [.ife (.not (.cal 187 [.tup [.lit (.int 24), .var 3], .var 1])) [.ret (.lit (.bl false))] []]
def fu_law_26_b2 : List S := [.ife (.not (.cal 188 [.var 1])) [.ret (.lit (.bl false))] []]
def fu_law_26 : Fun := ⟨1, 4, [.par [2, 3] [.bi .abs [.bi .sum [.slc false true (.var 0) (.lit .non) (.lit (.int 63))]], .cal 184 [.lit (.int 12)]],
    .for_ [1] true (.seq (.bi .ssort [.lst [.bin .add (.lit (.int 1)) (.bin .mod (.var 2) (.lit (.int 65))), .lit (.int 65)]])) fu_law_26_b0,
    .for_ [1] true (.seq (.bi .ssort [.lst [.bin .add (.lit (.int 1)) (.bin .mod (.bin .fdiv (.var 2) (.lit (.int 65))) (.lit (.int 23))), .lit (.int 23)]])) fu_law_26_b1,
    .for_ [1] true (.seq (.bi .ssort [.lst [.bin .mod (.bin .fdiv (.var 2) (.lit (.int 1495))) (.lit (.int 9)), .lit (.int 8)]])) fu_law_26_b2,
    .ret (.and (.cmp .eq (.cal 34 [.tup [.lit (.int 24), .var 3]]) (.lit (.int 660))) (.cmp .eq (.cal 111 [.tup [.lit (.int 24), .var 3], .bin .mul (.lst [.lit (.int 1)]) (.lit (.int 24))]) (.lit (.int 180))))]⟩
-- 190: fu_law_order_2
def fu_law_order_2_b0 : List S := [.mut 2 [] .insert [.bin .mod (.bin .fdiv (.var 0) (.bin .add (.var 3) (.lit (.int 1)))) (.bin .add (.var 3) (.lit (.int 1))), .var 3]]
def fu_law_order_2 : Fun := ⟨2, 4, [.asg 2 (.lst []),
    .for_ [3] true (.rng (.lit (.int 0)) (.var 1)) fu_law_order_2_b0,
    .ret (.var 2)]⟩
-- 191: fu_law_led_on_2
def fu_law_led_on_2_b0 : List S := [.ife (.cmp .notin (.var 4) (.var 2)) [.asg 5 (.comp [8] true (.seq (.var 2)) [] (.cmp .isin (.tup [.bi .min [.var 4, .var 8], .bi .max [.var 4, .var 8]]) (.sub (.var 0) (.lit (.int 1))))),
    .asg 6 (.comp [9] true (.rng (.lit (.int 0)) (.var 3)) [] (.cmp .isin (.tup [.var 9, .var 3]) (.sub (.var 1) (.lit (.int 1))))),
    .asg 7 (.ite (.cmp .eq (.var 5) (.var 6)) (.cal 191 [.var 0, .var 1, .bin .add (.var 2) (.lst [.var 4])]) (.lit .non)),
    .ife (.cmp .isnot (.var 7) (.lit .non)) [.ret (.var 7)] []] []]
def fu_law_led_on_2 : Fun := ⟨3, 10, [.asg 3 (.bi .len [.var 2]),
    .ife (.cmp .eq (.var 3) (.sub (.var 0) (.lit (.int 0)))) [.ret (.var 2)] [],
    .for_ [4] true (.rng (.lit (.int 0)) (.sub (.var 0) (.lit (.int 0)))) fu_law_led_on_2_b0,
    .ret (.lit .non)]⟩
-- 192: fu_law_five_right
def fu_law_five_right : Fun := ⟨1, 11, [.asg 1 (.tup [.lit (.int 5), .cal 184 [.lit (.int 5)]]),
    .par [2, 3] [.cal 33 [.var 1], .comp [8] true (.rng (.lit (.int 0)) (.lit (.int 10))) [] (.bin .add (.bin .sub (.bin .mod (.bin .add (.var 0) (.var 8)) (.lit (.int 7))) (.lit (.int 3))) (.bin .mul (.bin .pow (.lit (.int 10)) (.lit (.int 20))) (.bin .mod (.var 8) (.lit (.int 3)))))],
    .par [4, 5] [.cal 45 [.var 2], .cal 59 [.var 1]],
    .ife (.or (.not (.isc (.var 4) [6])) (.or (.cmp .ne (.att (.var 4) "groups") (.var 5)) (.cmp .ne (.comp [9] true (.seq (.var 5)) [] (.bi .len [.var 9])) (.bin .mul (.lst [.lit (.int 4)]) (.lit (.int 5)))))) [.ret (.lit (.bl false))] [],
    .ife (.or (.cmp .ne (.cal 65 [.var 2]) (.cal 64 [.var 2, .var 5])) (.cmp .is_ (.cal 75 [.sub (.cal 65 [.var 2]) (.lit (.int 0)), .var 1]) (.lit .non))) [.ret (.lit (.bl false))] [],
    .ife (.cmp .ne (.cal 112 [.var 2, .var 5, .var 3]) (.cal 111 [.var 2, .var 3])) [.ret (.lit (.bl false))] [],
    .par [6, 7] [.tup [.lit (.int 10), .cal 184 [.lit (.int 10)]], .tup [.lit (.int 10), .bin .add (.lst [.tup [.lit (.int 0), .lit (.int 1)], .tup [.lit (.int 0), .lit (.int 9)]]) (.comp [8] true (.rng (.lit (.int 1)) (.lit (.int 9))) [] (.tup [.var 8, .bin .add (.var 8) (.lit (.int 1))]))]],
    .ife (.or (.cmp .ne (.att (.cal 45 [.var 6]) "groups") (.lst [.bi .lrng [.lit (.int 0), .lit (.int 10)]])) (.cmp .ne (.att (.cal 45 [.var 7]) "groups") (.comp [10] true (.seq (.sub (.var 7) (.lit (.int 1)))) [] (.bi .list [.var 10])))) [.ret (.lit (.bl false))] [],
    .ret (.cmp .eq (.cal 65 [.tup [.lit (.int 3), .lst [.tup [.lit (.int 0), .lit (.int 1)], .tup [.lit (.int 1), .lit (.int 2)]]]]) (.tup [.tup [.lit (.int 4), .lst [.tup [.lit (.int 0), .lit (.int 1)], .tup [.lit (.int 0), .lit (.int 2)], .tup [.lit (.int 1), .lit (.int 3)]]], .lst [.lit (.int 1), .lit (.int 0), .lit (.int 2)]]))]⟩
-- 193: fu_law_barred_right_2
def fu_law_barred_right_2_b0 : List S := [.asg 4 (.bin .sub (.lit (.int 10)) (.sub (.var 3) (.lit (.int 0)))),
    .par [5, 6] [.cal 22 [.var 3, .tup [.var 4, .comp [10] true (.rng (.lit (.int 0)) (.bin .sub (.var 4) (.lit (.int 1)))) [] (.tup [.var 10, .bin .add (.var 10) (.lit (.int 1))])]], .cal 190 [.var 0, .lit (.int 10)]],
    .par [7, 8] [.cal 45 [.cal 21 [.var 5, .var 6]], .bi .sorted [.comp [9] true (.rng (.lit (.int 0)) (.sub (.var 3) (.lit (.int 0)))) [] (.mix (.var 6) (.var 9))]],
    .ife (.or (.not (.isc (.var 7) [7])) (.cmp .ne (.att (.var 7) "places") (.var 8))) [.ret (.lit (.bl false))] [],
    .ife (.or (.cmp .isnot (.met (.var 7) [(6, 220), (7, 222)] [.cal 21 [.var 5, .var 6]]) (.lit (.bl true))) (.cmp .ne (.met (.var 7) [(6, 220), (7, 222)] [.var 5]) (.cmp .eq (.att (.var 7) "places") (.bi .lrng [.lit (.int 0), .sub (.var 3) (.lit (.int 0))])))) [.ret (.lit (.bl false))] []]
def fu_law_barred_right_2 : Fun := ⟨1, 11, [.asg 1 (.tup [.lit (.int 6), .lst [.tup [.lit (.int 0), .lit (.int 1)], .tup [.lit (.int 0), .lit (.int 2)], .tup [.lit (.int 0), .lit (.int 3)], .tup [.lit (.int 0), .lit (.int 4)], .tup [.lit (.int 0), .lit (.int 5)], .tup [.lit (.int 1), .lit (.int 2)], .tup [.lit (.int 1), .lit (.int 5)], .tup [.lit (.int 2), .lit (.int 3)], .tup [.lit (.int 3), .lit (.int 4)], .tup [.lit (.int 4), .lit (.int 5)]]]),
    .asg 2 (.tup [.lit (.int 5), .lst [.tup [.lit (.int 0), .lit (.int 1)], .tup [.lit (.int 0), .lit (.int 2)], .tup [.lit (.int 0), .lit (.int 3)], .tup [.lit (.int 0), .lit (.int 4)], .tup [.lit (.int 1), .lit (.int 2)], .tup [.lit (.int 1), .lit (.int 3)], .tup [.lit (.int 1), .lit (.int 4)], .tup [.lit (.int 2), .lit (.int 3)], .tup [.lit (.int 2), .lit (.int 4)]]]),
    .for_ [3] true (.seq (.tup [.var 1, .var 2])) fu_law_barred_right_2_b0,
    .ret (.lit (.bl true))]⟩
-- 194: fu_law_greatest_right
def fu_law_greatest_right : Fun := ⟨1, 11, [.par [4, 5] [.cal 184 [.lit (.int 12)], .cal 190 [.var 0, .lit (.int 24)]],
    .asg 1 (.tup [.lit (.int 24), .var 4]),
    .ife (.or (.cmp .ne (.cal 22 [.tup [.lit (.int 12), .var 4], .tup [.lit (.int 12), .lst []]]) (.var 1)) (.cmp .ne (.cal 18 [.var 1, .bi .lrng [.lit (.int 0), .lit (.int 12)]]) (.tup [.lit (.int 12), .var 4]))) [.ret (.lit (.bl false))] [],
    .asg 2 (.comp [7, 8] false (.seq (.var 4)) [] (.bi .sorted [.lst [.mix (.var 5) (.var 7), .mix (.var 5) (.var 8)]])),
    .ife (.cmp .ne (.cal 21 [.var 1, .var 5]) (.tup [.lit (.int 24), .bi .sorted [.comp [7, 8] false (.seq (.var 2)) [] (.tup [.var 7, .var 8])]])) [.ret (.lit (.bl false))] [],
    .asg 3 (.comp [6] true (.rng (.lit (.int 0)) (.lit (.int 12))) [] (.comp [9, 10] false (.enu (.var 4)) [.cmp .isin (.var 6) (.var 10)] (.var 9))),
    .ret (.and (.cmp .eq (.cal 59 [.var 1]) (.bi .sorted [.var 3])) (.cmp .eq (.cal 111 [.var 1, .bi .lrng [.lit (.int 0), .lit (.int 24)]]) (.bin .sub (.bin .add (.bin .mul (.lit (.int 2)) (.lit (.int 4324))) (.bin .mul (.lit (.int 66)) (.lit (.int 66)))) (.lit (.int 506)))))]⟩
-- 195: fu_law_rings_right
def fu_law_rings_right_b0 : List S := [.asg 6 (.cal 99 [.var 4]),
    .ife (.or (.cmp .ne (.cmp .isnot (.var 6) (.lit .non)) (.var 5)) (.cmp .ne (.cmp .isnot (.cal 91 [.var 4]) (.lit .non)) (.var 5))) [.ret (.lit (.bl false))] [],
    .ife (.and (.var 5) (.cmp .isnot (.cal 100 [.cal 33 [.var 4], .var 6]) (.lit (.bl true)))) [.ret (.lit (.bl false))] []]
def fu_law_rings_right : Fun := ⟨0, 8, [.asg 0 (.lst [.tup [.lit (.int 0), .lit (.int 1)], .tup [.lit (.int 0), .lit (.int 2)], .tup [.lit (.int 0), .lit (.int 3)], .tup [.lit (.int 0), .lit (.int 4)], .tup [.lit (.int 1), .lit (.int 2)], .tup [.lit (.int 3), .lit (.int 4)]]),
    .asg 1 (.lst [.tup [.lit (.int 5), .cal 184 [.lit (.int 5)]], .tup [.lit (.int 6), .bi .sorted [.bin .add (.var 0) (.lst [.tup [.lit (.int 0), .lit (.int 5)]])]], .tup [.lit (.int 6), .bi .sorted [.bin .add (.var 0) (.lst [.tup [.lit (.int 1), .lit (.int 5)]])]]]),
    .mut 1 [] .append [.tup [.lit (.int 7), .bi .sorted [.bin .add (.var 0) (.lst [.tup [.lit (.int 1), .lit (.int 5)], .tup [.lit (.int 5), .lit (.int 6)]])]]],
    .mut 1 [] .append [.tup [.lit (.int 8), .bi .sorted [.bin .add (.var 0) (.lst [.tup [.lit (.int 0), .lit (.int 5)], .tup [.lit (.int 1), .lit (.int 6)], .tup [.lit (.int 3), .lit (.int 7)]])]]],
    .for_ [4, 5] false (.zip (.var 1) (.tup [.lit (.bl true), .lit (.bl true), .lit (.bl true), .lit (.bl false), .lit (.bl true)])) fu_law_rings_right_b0,
    .asg 2 (.tup [.lit (.int 8), .bin .add (.lst [.tup [.lit (.int 0), .lit (.int 1)], .tup [.lit (.int 0), .lit (.int 7)]]) (.comp [7] true (.rng (.lit (.int 1)) (.lit (.int 7))) [] (.tup [.var 7, .bin .add (.var 7) (.lit (.int 1))]))]),
    .asg 3 (.tup [.lit (.int 9), .comp [7] true (.rng (.lit (.int 0)) (.lit (.int 8))) [] (.tup [.var 7, .bin .add (.var 7) (.lit (.int 1))])]),
    .ret (.cmp .eq (.lst [.cal 125 [.var 2, .lit (.int 3)], .cal 125 [.var 2, .lit (.int 2)], .cal 125 [.var 3, .lit (.int 4)], .cal 125 [.var 3, .lit (.int 2)]]) (.lst [.lit (.int 258), .lit (.int 2), .lit (.int 8748), .lit (.int 2)]))]⟩
-- 196: fu_law_27
def fu_law_27_b0 : List S := [.asg 3 (.cal 10 [.var 0, .var 2, .ite (.cmp .eq (.bin .mod (.var 1) (.lit (.int 16))) (.lit (.int 3))) (.lit (.int 8)) (.lit (.int 6)), .lit (.int 9)]),
    .asg 4 (.cal 21 [.var 3, .cal 190 [.bin .add (.bin .fdiv (.var 1) (.lit (.int 7))) (.var 2), .sub (.var 3) (.lit (.int 0))]]),
    .ife (.or (.cmp .ne (.cal 75 [.var 3, .var 4]) (.cal 191 [.var 3, .var 4, .lst []])) (.cmp .ne (.cal 75 [.var 4, .var 3]) (.cal 191 [.var 4, .var 3, .lst []]))) [.ret (.lit (.bl false))] []]
def fu_law_27 : Fun := ⟨1, 5, [.asg 1 (.bi .abs [.bi .sum [.slc false true (.var 0) (.lit .non) (.lit (.int 63))]]),
    .ife (.or (.not (.cal 192 [.var 1])) (.or (.not (.cal 193 [.var 1])) (.not (.cal 194 [.var 1])))) [.ret (.lit (.bl false))] [],
    .for_ [2] true (.rng (.lit (.int 0)) (.lit (.int 2))) fu_law_27_b0,
    .ret (.cal 195 [])]⟩
-- 198: fu_law_28
def fu_law_28_b0 : List S := [.asg 4 (.cal 10 [.var 0, .var 1, .lit (.int 6), .lit (.int 8)]),
    .par [8, 9] [.cal 45 [.var 4], .comp [10] true (.rng (.lit (.int 0)) (.sub (.var 4) (.lit (.int 0)))) [] (.bin .mod (.bin .add (.var 3) (.var 10)) (.lit (.int 3)))],
    .asg 5 (.cal 33 [.var 4]),
    .asg 2 (.bin .add (.var 2) (.lst [.cal 6 [.var 4], .cal 8 [.var 4], .cal 59 [.var 4], .var 5])),
    .asg 2 (.bin .add (.var 2) (.lst [.cal 34 [.var 4], .cal 111 [.var 4, .var 9], .cal 91 [.var 4], .cal 99 [.var 4]])),
    .ife (.isc (.var 8) [6]) [.asg 2 (.bin .add (.var 2) (.lst [.att (.var 8) "groups", .cal 65 [.var 4], .cal 64 [.var 4, .att (.var 8) "groups"], .cal 112 [.var 4, .att (.var 8) "groups", .var 9]]))] [.mut 2 [] .append [.att (.var 8) "places"]],
    .asg 2 (.bin .add (.var 2) (.lst [.cal 75 [.var 4, .var 4], .cal 18 [.var 4, .bi .lrng [.lit (.int 0), .bin .fdiv (.sub (.var 4) (.lit (.int 0))) (.lit (.int 2))]]])),
    .asg 2 (.bin .add (.var 2) (.lst [.cal 21 [.var 4, .rev (.bi .lrng [.lit (.int 0), .sub (.var 4) (.lit (.int 0))])]])),
    .asg 2 (.bin .add (.var 2) (.lst [.cal 22 [.var 4, .var 4], .cal 118 [.var 4], .cal 119 [.var 4], .cal 124 [.var 4, .lit (.int 3)], .cal 125 [.var 4, .lit (.int 2)]])),
    .ife (.not (.isi (.met (.var 8) [(6, 220), (7, 222)] [.var 4]) .bool)) [.ret (.lit (.bl false))] []]
def fu_law_28 : Fun := ⟨1, 11, [.par [3, 2] [.bi .abs [.bi .sum [.slc false true (.var 0) (.lit .non) (.lit (.int 63))]], .lst []],
    .for_ [1] true (.rng (.lit (.int 0)) (.lit (.int 2))) fu_law_28_b0,
    .par [6, 7] [.tup [.lit (.int 1), .lst []], .tup [.lit (.int 2), .lst [.tup [.lit (.int 0), .lit (.int 1)]]]],
    .asg 2 (.bin .add (.var 2) (.lst [.cal 6 [.var 7], .cal 8 [.var 7], .cal 8 [.var 6]])),
    .asg 2 (.bin .add (.var 2) (.lst [.cal 59 [.tup [.lit (.int 3), .lst [.tup [.lit (.int 0), .lit (.int 1)], .tup [.lit (.int 1), .lit (.int 2)]]]], .cal 65 [.var 7], .cal 64 [.var 7, .lst [.lst [.lit (.int 0), .lit (.int 1)]]]])),
    .asg 2 (.bin .add (.var 2) (.lst [.cal 75 [.var 7, .var 7], .cal 75 [.var 6, .var 6], .cal 112 [.var 7, .lst [.lst [.lit (.int 0), .lit (.int 1)]], .lst [.lit (.int 1), .lit (.int 0)]]])),
    .asg 2 (.bin .add (.var 2) (.lst [.cal 111 [.var 7, .lst [.lit (.int 1), .lit (.int 0)]], .cal 119 [.var 7]])),
    .asg 2 (.bin .add (.var 2) (.lst [.cal 118 [.var 7], .cal 124 [.var 6, .lit (.int 1)]])),
    .ret (.cal 197 [.bin .add (.var 2) (.lst [.cal 125 [.var 7, .lit (.int 1)], .cal 34 [.tup [.lit (.int 3), .lst [.tup [.lit (.int 0), .lit (.int 1)], .tup [.lit (.int 1), .lit (.int 2)]]]]])])]⟩
-- 201: fu_law_29
def fu_law_29_b0 : List S := [.asg 3 (.bin .add (.var 3) (.comp [10] true (.rng (.lit (.int 0)) (.var 4)) [] (.tup [.var 10, .var 4])))]
def fu_law_29 : Fun := ⟨1, 11, [.asg 1 (.bi .abs [.bi .sum [.slc false true (.var 0) (.lit .non) (.lit (.int 63))]]),
    .asg 2 (.bin .add (.lit (.int 5)) (.bin .mod (.var 1) (.lit (.int 4)))),
    .asg 3 (.lst []),
    .for_ [4] true (.rng (.lit (.int 0)) (.var 2)) fu_law_29_b0,
    .ife (.not (.cal 200 [.tup [.var 2, .bi .sorted [.var 3]], .lst [.bi .lrng [.lit (.int 0), .var 2]], .lit (.int 0), .var 1])) [.ret (.lit (.bl false))] [],
    .asg 5 (.tup [.lit (.int 5), .lst [.tup [.lit (.int 0), .lit (.int 1)], .tup [.lit (.int 0), .lit (.int 2)], .tup [.lit (.int 1), .lit (.int 2)], .tup [.lit (.int 2), .lit (.int 3)], .tup [.lit (.int 3), .lit (.int 4)]]]),
    .ife (.not (.cal 200 [.var 5, .lst [.lst [.lit (.int 0), .lit (.int 1), .lit (.int 2)], .lst [.lit (.int 2), .lit (.int 3)], .lst [.lit (.int 3), .lit (.int 4)]], .lit (.int 0), .var 1])) [.ret (.lit (.bl false))] [],
    .asg 6 (.bin .add (.lit (.int 11)) (.bin .mod (.bin .fdiv (.var 1) (.lit (.int 4))) (.lit (.int 14)))),
    .asg 7 (.tup [.var 6, .comp [9] true (.rng (.lit (.int 0)) (.bin .sub (.var 6) (.lit (.int 1)))) [] (.tup [.var 9, .bin .add (.var 9) (.lit (.int 1))])]),
    .ife (.cmp .ne (.cal 59 [.var 7]) (.comp [9] true (.rng (.lit (.int 0)) (.bin .sub (.var 6) (.lit (.int 2)))) [] (.lst [.var 9, .bin .add (.var 9) (.lit (.int 1))]))) [.ret (.lit (.bl false))] [],
    .asg 8 (.tup [.var 6, .comp [9] true (.rng (.lit (.int 1)) (.var 6)) [] (.tup [.lit (.int 0), .var 9])]),
    .ret (.cmp .eq (.cal 59 [.var 8]) (.lst [.bi .lrng [.lit (.int 0), .bin .sub (.var 6) (.lit (.int 1))]]))]⟩
-- 208: fu_law_30
def fu_law_30_b0 : List S := [.ife (.or (.not (.cal 204 [.var 7, .var 8, .var 4])) (.not (.cal 205 [.var 7, .var 8]))) [.ret (.lit (.bl false))] []]
def fu_law_30 : Fun := ⟨1, 10, [.asg 1 (.bi .abs [.bi .sum [.slc false true (.var 0) (.lit .non) (.lit (.int 63))]]),
    .asg 2 (.bin .add (.lit (.int 3)) (.bin .mod (.var 1) (.lit (.int 5)))),
    .par [5, 6] [.tup [.var 2, .comp [9] true (.rng (.lit (.int 0)) (.bin .sub (.var 2) (.lit (.int 1)))) [] (.tup [.var 9, .bin .add (.var 9) (.lit (.int 1))])], .tup [.var 2, .comp [9] true (.rng (.lit (.int 1)) (.var 2)) [] (.tup [.lit (.int 0), .var 9])]],
    .asg 3 (.tup [.var 2, .bi .sorted [.bin .add (.sub (.var 5) (.lit (.int 1))) (.lst [.tup [.lit (.int 0), .bin .sub (.var 2) (.lit (.int 1))]])]]),
    .asg 4 (.tup [.bin .add (.lit (.int 2)) (.bin .mod (.bin .fdiv (.var 1) (.lit (.int 5))) (.lit (.int 3))), .lst [.tup [.lit (.int 0), .lit (.int 1)]]]),
    .for_ [7, 8] false (.seq (.tup [.tup [.var 5, .var 6], .tup [.var 6, .var 3], .tup [.var 3, .var 5]])) fu_law_30_b0,
    .ret (.cal 206 [.var 5])]⟩
-- 210: fu_law_star
def fu_law_star : Fun := ⟨0, 0, [.ret (.tup [.lit (.int 4), .lst [.tup [.lit (.int 0), .lit (.int 3)], .tup [.lit (.int 1), .lit (.int 3)], .tup [.lit (.int 2), .lit (.int 3)]]])]⟩
-- 211: fu_law_three
def fu_law_three : Fun := ⟨0, 0, [.ret (.tup [.lit (.int 3), .lst [.tup [.lit (.int 0), .lit (.int 1)], .tup [.lit (.int 0), .lit (.int 2)], .tup [.lit (.int 1), .lit (.int 2)]]])]⟩
-- 212: fu_law_none_right
def fu_law_none_right : Fun := ⟨0, 2, [.par [0, 1] [.tup [.lit (.int 0), .lst []], .tup [.lit (.int 2), .lst []]],
    .ife (.cmp .ne (.lst [.cal 6 [.var 0], .cal 8 [.var 0], .cal 33 [.var 0], .cal 75 [.var 0, .var 0]]) (.lst [.lst [], .lst [], .var 0, .lst []])) [.ret (.lit (.bl false))] [],
    .ife (.cmp .ne (.lst [.cal 59 [.var 0], .cal 91 [.var 0], .cal 99 [.var 0]]) (.lst [.lst [], .lit .non, .lit .non])) [.ret (.lit (.bl false))] [],
    .ife (.cmp .ne (.lst [.cal 118 [.var 0], .cal 119 [.var 0], .cal 124 [.var 0, .lit (.int 0)]]) (.lst [.lst [.lit (.int 1)], .lst [.lit (.int 1)], .lit (.int 1)])) [.ret (.lit (.bl false))] [],
    .ife (.cmp .ne (.lst [.cal 124 [.var 0, .lit (.int 4)], .cal 125 [.var 0, .lit (.int 0)], .cal 34 [.var 0]]) (.lst [.lit (.int 1), .lit (.int 1), .lit (.int 0)])) [.ret (.lit (.bl false))] [],
    .ife (.or (.cmp .ne (.att (.cal 45 [.var 0]) "groups") (.lst [])) (.cmp .ne (.cal 64 [.var 0, .lst []]) (.tup [.var 0, .lst []]))) [.ret (.lit (.bl false))] [],
    .ife (.cmp .ne (.cal 64 [.var 1, .lst []]) (.tup [.tup [.lit (.int 4), .lst [.tup [.lit (.int 0), .lit (.int 1)], .tup [.lit (.int 2), .lit (.int 3)]]], .lst [.lit (.int 0), .lit (.int 1)]])) [.ret (.lit (.bl false))] [],
    .ife (.cmp .notin (.cal 91 [.var 1]) (.tup [.lst [.lit (.int 0)], .lst [.lit (.int 1)]])) [.ret (.lit (.bl false))] [],
    .ife (.cmp .ne (.lst [.cal 118 [.var 1], .cal 119 [.var 1], .cal 124 [.var 1, .lit (.int 3)], .cal 124 [.var 1, .lit (.int 0)]]) (.lst [.lst [.lit (.int 1), .lit (.int 2), .lit (.int 1)], .lst [.lit (.int 1)], .lit (.int 9), .lit (.int 0)])) [.ret (.lit (.bl false))] [],
    .ife (.or (.cmp .ne (.cal 33 [.var 1]) (.var 0)) (.or (.cmp .ne (.cal 8 [.var 1]) (.lst [.lst [.lit (.int 0)], .lst [.lit (.int 1)]])) (.not (.cmp .is_ (.cal 99 [.var 1]) (.lit .non))))) [.ret (.lit (.bl false))] [],
    .ret (.cmp .eq (.att (.cal 45 [.var 1]) "groups") (.lst []))]⟩
-- 215: fu_law_rings_right_2
def fu_law_rings_right_2 : Fun := ⟨0, 5, [.par [1, 2] [.cal 210 [], .cal 211 []],
    .par [3, 4] [.tup [.lit (.int 5), .lst [.tup [.lit (.int 0), .lit (.int 1)], .tup [.lit (.int 0), .lit (.int 2)], .tup [.lit (.int 1), .lit (.int 2)], .tup [.lit (.int 2), .lit (.int 3)], .tup [.lit (.int 2), .lit (.int 4)], .tup [.lit (.int 3), .lit (.int 4)]]], .tup [.lit (.int 4), .lst [.tup [.lit (.int 0), .lit (.int 1)], .tup [.lit (.int 1), .lit (.int 2)], .tup [.lit (.int 2), .lit (.int 3)]]]],
    .ife (.or (.cmp .ne (.cal 91 [.var 1]) (.lst [.lit (.int 3)])) (.or (.cmp .isnot (.cal 91 [.var 4]) (.lit .non)) (.cmp .ne (.cal 91 [.tup [.lit (.int 3), .lst [.tup [.lit (.int 0), .lit (.int 1)], .tup [.lit (.int 1), .lit (.int 2)]]]]) (.lst [.lit (.int 1)])))) [.ret (.lit (.bl false))] [],
    .ife (.not (.cal 214 [.var 2, .cal 91 [.var 2]])) [.ret (.lit (.bl false))] [],
    .ife (.or (.not (.cal 214 [.var 3, .cal 91 [.var 3]])) (.cmp .ne (.bi .len [.cal 91 [.var 3]]) (.lit (.int 7)))) [.ret (.lit (.bl false))] [],
    .ife (.or (.cmp .isnot (.cal 99 [.tup [.lit (.int 3), .lst [.tup [.lit (.int 0), .lit (.int 1)], .tup [.lit (.int 1), .lit (.int 2)]]]]) (.lit .non)) (.cmp .isnot (.cal 99 [.var 4]) (.lit .non))) [.ret (.lit (.bl false))] [],
    .ife (.or (.not (.cal 100 [.cal 33 [.var 1], .cal 99 [.var 1]])) (.not (.cal 100 [.cal 33 [.var 3], .cal 99 [.var 3]]))) [.ret (.lit (.bl false))] [],
    .ife (.cmp .ne (.cal 33 [.var 1]) (.var 2)) [.ret (.lit (.bl false))] [],
    .asg 0 (.lst [.cal 100 [.tup [.lit (.int 2), .lst [.tup [.lit (.int 0), .lit (.int 1)]]], .lst [.lit (.int 0), .lit (.int 1)]], .cal 100 [.var 2, .lst [.lit (.int 1), .lit (.int 2), .lit (.int 0)]]]),
    .asg 0 (.bin .add (.var 0) (.lst [.cal 100 [.var 2, .lst [.lit (.int 2), .lit (.int 1), .lit (.int 0)]], .cal 100 [.tup [.lit (.int 3), .lst [.tup [.lit (.int 0), .lit (.int 1)], .tup [.lit (.int 1), .lit (.int 2)]]], .lst [.lit (.int 0), .lit (.int 1), .lit (.int 2)]], .cal 100 [.tup [.lit (.int 1), .lst []], .lst [.lit (.int 0)]]])),
    .ife (.cmp .ne (.var 0) (.lst [.lit (.bl false), .lit (.bl true), .lit (.bl true), .lit (.bl false), .lit (.bl false)])) [.ret (.lit (.bl false))] [],
    .ife (.cmp .ne (.cal 59 [.tup [.lit (.int 4), .lst [.tup [.lit (.int 0), .lit (.int 3)], .tup [.lit (.int 1), .lit (.int 2)], .tup [.lit (.int 1), .lit (.int 3)], .tup [.lit (.int 2), .lit (.int 3)]]]]) (.lst [.lst [.lit (.int 0), .lit (.int 2), .lit (.int 3)], .lst [.lit (.int 1), .lit (.int 2)], .lst [.lit (.int 1), .lit (.int 3)]])) [.ret (.lit (.bl false))] [],
    .ret (.cmp .eq (.cal 59 [.var 1]) (.lst [.lst [.lit (.int 0), .lit (.int 1), .lit (.int 2)]]))]⟩
-- 216: fu_law_counts_right_2
def fu_law_counts_right_2_b0 : List S := [.ife (.or (.cmp .ne (.cal 112 [.var 3, .var 1, .var 4]) (.bin .mul (.bin .mul (.lit (.int 2)) (.var 0)) (.var 0))) (.cmp .ne (.cal 112 [.var 3, .var 1, .var 5]) (.cal 111 [.var 3, .var 5]))) [.ret (.lit (.bl false))] []]
def fu_law_counts_right_2 : Fun := ⟨1, 6, [.par [2, 3] [.cal 210 [], .cal 211 []],
    .par [4, 5] [.lst [.var 0, .neg (.var 0), .lit (.int 0)], .lst [.var 0, .bin .add (.var 0) (.lit (.int 1)), .neg (.bin .pow (.lit (.int 10)) (.lit (.int 30)))]],
    .for_ [1] true (.seq (.tup [.lst [.lst [.lit (.int 0), .lit (.int 1), .lit (.int 2)]], .lst [.lst [.lit (.int 0), .lit (.int 1)], .lst [.lit (.int 0), .lit (.int 2)], .lst [.lit (.int 1), .lit (.int 2)]]])) fu_law_counts_right_2_b0,
    .ife (.or (.cmp .ne (.cal 111 [.var 3, .var 4]) (.bin .mul (.bin .mul (.lit (.int 2)) (.var 0)) (.var 0))) (.cmp .ne (.cal 111 [.tup [.lit (.int 2), .lst []], .lst [.var 0, .lit (.int 1)]]) (.bin .add (.bin .mul (.bin .mul (.lit (.int 2)) (.var 0)) (.var 0)) (.lit (.int 2))))) [.ret (.lit (.bl false))] [],
    .ife (.or (.cmp .ne (.cal 112 [.tup [.lit (.int 2), .lst []], .lst [], .lst [.var 0, .lit (.int 1)]]) (.bin .add (.bin .mul (.bin .mul (.lit (.int 2)) (.var 0)) (.var 0)) (.lit (.int 2)))) (.cmp .ne (.cal 111 [.tup [.lit (.int 2), .lst [.tup [.lit (.int 0), .lit (.int 1)]]], .lst [.var 0, .neg (.var 0)]]) (.bin .mul (.bin .mul (.lit (.int 2)) (.var 0)) (.var 0)))) [.ret (.lit (.bl false))] [],
    .ife (.cmp .ne (.lst [.cal 118 [.var 3], .cal 119 [.var 3]]) (.lst [.lst [.lit (.int 1), .lit (.int 3)], .lst [.lit (.int 1), .lit (.int 3)]])) [.ret (.lit (.bl false))] [],
    .ife (.cmp .ne (.lst [.cal 118 [.var 2], .cal 119 [.var 2]]) (.lst [.lst [.lit (.int 1), .lit (.int 4), .lit (.int 3), .lit (.int 1)], .lst [.lit (.int 1), .lit (.int 3)]])) [.ret (.lit (.bl false))] [],
    .ife (.cmp .ne (.lst [.cal 124 [.var 3, .lit (.int 3)], .cal 124 [.var 3, .lit (.int 2)], .cal 125 [.var 2, .lit (.int 3)]]) (.lst [.lit (.int 6), .lit (.int 0), .lit (.int 6)])) [.ret (.lit (.bl false))] [],
    .ife (.cmp .ne (.lst [.cal 125 [.var 2, .lit (.int 2)], .cal 124 [.var 2, .lit (.int 2)], .cal 124 [.var 2, .lit (.int 4)]]) (.lst [.lit (.int 0), .lit (.int 2), .lit (.int 108)])) [.ret (.lit (.bl false))] [],
    .ife (.cmp .ne (.cal 75 [.var 2, .tup [.lit (.int 4), .lst [.tup [.lit (.int 0), .lit (.int 1)], .tup [.lit (.int 0), .lit (.int 2)], .tup [.lit (.int 0), .lit (.int 3)]]]]) (.lst [.lit (.int 3), .lit (.int 0), .lit (.int 1), .lit (.int 2)])) [.ret (.lit (.bl false))] [],
    .ife (.cmp .ne (.cal 21 [.var 2, .lst [.lit (.int 3), .lit (.int 0), .lit (.int 1), .lit (.int 2)]]) (.tup [.lit (.int 4), .lst [.tup [.lit (.int 0), .lit (.int 1)], .tup [.lit (.int 0), .lit (.int 2)], .tup [.lit (.int 0), .lit (.int 3)]]])) [.ret (.lit (.bl false))] [],
    .ife (.cmp .isnot (.cal 75 [.var 3, .tup [.lit (.int 3), .lst [.tup [.lit (.int 0), .lit (.int 1)], .tup [.lit (.int 1), .lit (.int 2)]]]]) (.lit .non)) [.ret (.lit (.bl false))] [],
    .ife (.or (.cmp .ne (.cal 18 [.var 2, .lst []]) (.tup [.lit (.int 0), .lst []])) (.cmp .ne (.cal 18 [.var 2, .lst [.lit (.int 0), .lit (.int 1), .lit (.int 2), .lit (.int 3)]]) (.var 2))) [.ret (.lit (.bl false))] [],
    .ife (.or (.cmp .ne (.cal 18 [.var 2, .lst [.lit (.int 1), .lit (.int 3)]]) (.tup [.lit (.int 2), .lst [.tup [.lit (.int 0), .lit (.int 1)]]])) (.cmp .ne (.cal 75 [.var 3, .var 3]) (.lst [.lit (.int 0), .lit (.int 1), .lit (.int 2)]))) [.ret (.lit (.bl false))] [],
    .ret (.lit (.bl true))]⟩
-- 218: fu_law_31
def fu_law_31 : Fun := ⟨1, 2, [.asg 1 (.bin .add (.lit (.int 1)) (.bin .mod (.bi .abs [.bi .sum [.slc false true (.var 0) (.lit .non) (.lit (.int 2))]]) (.bin .pow (.lit (.int 10)) (.lit (.int 40))))),
    .ife (.or (.not (.cal 212 [])) (.or (.not (.cal 213 [])) (.or (.not (.cal 215 [])) (.not (.cal 216 [.var 1]))))) [.ret (.lit (.bl false))] [],
    .ret (.cal 217 [])]⟩
-- 219: fu_Cover_init
abbrev fu_Cover_init_v : E := .comp [2] true (.seq (.var 1)) [] (.bi .list [.var 2])
def fu_Cover_init : Fun := ⟨2, 3, [.ret fu_Cover_init_v]⟩
-- 220: fu_Cover_shows
def fu_Cover_shows : Fun := ⟨2, 2, [.ret (.cal 39 [.var 1, .att (.var 0) "groups"])]⟩
-- 221: fu_Barred_init
abbrev fu_Barred_init_v : E := .bi .list [.var 1]
def fu_Barred_init : Fun := ⟨2, 2, [.ret fu_Barred_init_v]⟩
-- 222: fu_Barred_shows
def fu_Barred_shows : Fun := ⟨2, 4, [.asg 2 (.att (.var 0) "places"),
    .ife (.or (.not (.cal 17 [.var 1, .var 2])) (.cmp .isnot (.cal 44 [.cal 16 [.var 1, .var 2]]) (.lit .non))) [.ret (.lit (.bl false))] [],
    .ret (.bi .all [.comp [3] true (.rng (.lit (.int 0)) (.bi .len [.var 2])) [] (.cmp .isnot (.cal 44 [.cal 16 [.var 1, .bin .add (.slc false true (.var 2) (.lit .non) (.var 3)) (.slc true false (.var 2) (.bin .add (.var 3) (.lit (.int 1))) (.lit .non))]]) (.lit .non))])]⟩
-- 223: fu_law_right__pieces__law_pieces
def fu_law_right__pieces__law_pieces_b0 : List S := [.mut 6 [.var 7] .append [.lit (.int 0)],
    .ife (.cmp .ne (.slc true false (.var 6) (.bin .add (.var 7) (.lit (.int 1))) (.lit .non)) (.slc true false (.var 5) (.bin .add (.var 7) (.lit (.int 1))) (.lit .non))) [.ret (.lit (.bl false))] []]
def fu_law_right__pieces__law_pieces_b1 : List S := [.asg 6 (.cav (.var 0) 8 [.var 4]),
    .ife (.or (.not (.isi (.var 6) .list)) (.or (.cmp .ne (.var 6) (.var 5)) (.cmp .ne (.var 4) (.var 1)))) [.ret (.lit (.bl false))] [],
    .ife (.not (.bi .all [.comp [8] true (.seq (.var 6)) [] (.isi (.var 8) .list)])) [.ret (.lit (.bl false))] [],
    .for_ [7] true (.rng (.lit (.int 0)) (.bi .len [.var 6])) fu_law_right__pieces__law_pieces_b0,
    .mut 6 [] .append [.lst []]]
def fu_law_right__pieces__law_pieces : Fun := ⟨3, 9, [.par [4, 5] [.cal 12 [.var 1], .cav (.var 2) 13 [.var 1]],
    .for_ [3] true (.rng (.lit (.int 0)) (.lit (.int 2))) fu_law_right__pieces__law_pieces_b1,
    .ife (.cmp .ne (.sub (.var 4) (.lit (.int 1))) (.lst [])) [.mut 4 [.lit (.int 1)] .pop [.bin .fdiv (.bi .len [.sub (.var 4) (.lit (.int 1))]) (.lit (.int 2))]] [],
    .ret (.cmp .eq (.cav (.var 0) 8 [.var 4]) (.cav (.var 2) 13 [.var 4]))]⟩
-- 224: fu_law_right__near__law_near
def fu_law_right__near__law_near_b0 : List S := [.mut 6 [.var 7] .append [.lit (.int 0)],
    .ife (.cmp .ne (.slc true false (.var 6) (.bin .add (.var 7) (.lit (.int 1))) (.lit .non)) (.slc true false (.var 5) (.bin .add (.var 7) (.lit (.int 1))) (.lit .non))) [.ret (.lit (.bl false))] []]
def fu_law_right__near__law_near_b1 : List S := [.asg 6 (.cav (.var 0) 6 [.var 4]),
    .ife (.or (.not (.isi (.var 6) .list)) (.or (.cmp .ne (.var 6) (.var 5)) (.cmp .ne (.var 4) (.var 1)))) [.ret (.lit (.bl false))] [],
    .ife (.not (.bi .all [.comp [8] true (.seq (.var 6)) [] (.isi (.var 8) .list)])) [.ret (.lit (.bl false))] [],
    .for_ [7] true (.rng (.lit (.int 0)) (.bi .len [.var 6])) fu_law_right__near__law_near_b0,
    .mut 6 [] .append [.lst []]]
def fu_law_right__near__law_near : Fun := ⟨3, 9, [.par [4, 5] [.cal 12 [.var 1], .cav (.var 2) 11 [.var 1]],
    .for_ [3] true (.rng (.lit (.int 0)) (.lit (.int 2))) fu_law_right__near__law_near_b1,
    .ife (.cmp .ne (.sub (.var 4) (.lit (.int 1))) (.lst [])) [.mut 4 [.lit (.int 1)] .pop [.bin .fdiv (.bi .len [.sub (.var 4) (.lit (.int 1))]) (.lit (.int 2))]] [],
    .ret (.cmp .eq (.cav (.var 0) 6 [.var 4]) (.cav (.var 2) 11 [.var 4]))]⟩
def GP : List Fun := [fu_is_whole, fu_is_below, fu_is_tie, fu_is_web, fu_check_web, fu_near_of, fu_near, fu_pieces_of, fu_pieces, fu_law_number, fu_law_web, fu_law_near, fu_law_copied, fu_law_pieces, ⟨0, 0, []⟩, fu_law, fu_cut_of, fu_are_places, fu_cut_down, fu_check_order, fu_renamed_by, fu_renamed, fu_beside, ⟨0, 0, []⟩, ⟨0, 0, []⟩, fu_law_whole, fu_law_is_web, fu_law_cut, fu_law_order, fu_law_renamed, fu_law_2, fu_check_few_ties, fu_tie_web_of, fu_tie_web, fu_tied_many, fu_law_tie_web, fu_law_3, fu_check_small, fu_check_places, fu_is_cover_of, fu_all_tied, fu_groups_with, fu_fits, fu_grown, fu_cover_of, fu_covered, fu_law_is_cover, fu_law_has_cover, fu_law_laid, fu_law_says, fu_law_due, fu_law_right_2, fu_law_less, fu_law_4, fu_law_groups_right, fu_law_places_right, fu_law_bent, fu_law_5, fu_wall, fu_groups_at, fu_law_6, fu_check_cover, fu_ends_of, fu_root_by, fu_root_of, fu_root, fu_law_root, fu_law_is_root, fu_law_alone, ⟨0, 0, []⟩, fu_law_ask, fu_law_right_3, fu_law_7, fu_can_go, fu_led_on, fu_led, fu_law_led, fu_law_led_on, fu_law_orders, fu_law_right_4, fu_law_8, fu_law_tidy, fu_law_threes, fu_law_9, fu_meets_all, fu_chosen, fu_gone_round, fu_places_of, fu_ties_of, fu_round_from, fu_trail_of, fu_trail, fu_law_meets, fu_law_is_trail, fu_law_tried, fu_law_goes, fu_law_right_5, fu_law_10, fu_ring_by, fu_ring, fu_is_ring, fu_law_is_ring, fu_law_has_ring, fu_law_rings_on, fu_law_right_6, fu_law_11, ⟨0, 0, []⟩, ⟨0, 0, []⟩, fu_law_round, fu_law_12, fu_check_row, fu_squares, fu_by_groups, fu_law_rows, fu_law_squares, fu_law_13, fu_added, fu_apart_of, fu_places_apart, fu_ties_apart, fu_law_apart, fu_law_14, fu_ways_from, fu_check_colours, fu_colours, fu_tie_colours, fu_law_ways, fu_law_made_one, fu_law_15, fu_law_round_of, fu_law_16, fu_law_17, fu_law_times, fu_law_18, fu_law_covers, fu_law_covers_on, fu_law_all_tied, fu_law_has_two, fu_law_right_7, fu_law_19, fu_law_20, ⟨0, 0, []⟩, ⟨0, 0, []⟩, fu_law_at, fu_law_21, ⟨0, 0, []⟩, ⟨0, 0, []⟩, fu_law_no_webs, fu_law_all_tied_2, ⟨0, 0, []⟩, ⟨0, 0, []⟩, fu_law_with_second, ⟨0, 0, []⟩, fu_law_eleven, fu_law_few_places, fu_law_nine, ⟨0, 0, []⟩, fu_law_many_ties, fu_law_few_ties, fu_law_nine_ties, fu_law_22, fu_law_with_places, fu_law_no_places, fu_law_with_order, fu_law_no_orders, fu_law_with_groups, fu_law_no_groups, fu_law_with_row, fu_law_no_rows, fu_law_with_colours, fu_law_no_colours, fu_law_with_many, fu_law_too_many, fu_law_with_root, fu_law_no_cover, fu_law_23, fu_law_counts_right, ⟨0, 0, []⟩, fu_law_barred_right, fu_law_24, fu_law_webs_right, fu_law_one_twice, fu_law_25, ⟨0, 0, []⟩, fu_law_all_tied_3, ⟨0, 0, []⟩, ⟨0, 0, []⟩, ⟨0, 0, []⟩, ⟨0, 0, []⟩, fu_law_26, fu_law_order_2, fu_law_led_on_2, fu_law_five_right, fu_law_barred_right_2, fu_law_greatest_right, fu_law_rings_right, fu_law_27, ⟨0, 0, []⟩, fu_law_28, ⟨0, 0, []⟩, ⟨0, 0, []⟩, fu_law_29, ⟨0, 0, []⟩, ⟨0, 0, []⟩, ⟨0, 0, []⟩, ⟨0, 0, []⟩, ⟨0, 0, []⟩, ⟨0, 0, []⟩, fu_law_30, ⟨0, 0, []⟩, fu_law_star, fu_law_three, fu_law_none_right, ⟨0, 0, []⟩, ⟨0, 0, []⟩, fu_law_rings_right_2, fu_law_counts_right_2, ⟨0, 0, []⟩, fu_law_31, fu_Cover_init, fu_Cover_shows, fu_Barred_init, fu_Barred_shows, fu_law_right__pieces__law_pieces, fu_law_right__near__law_near, ⟨0, 0, []⟩]
def gat : List (PySem.Str × Option PySem.Str) := ([("is_whole", none), ("is_below", none), ("is_tie", none), ("is_web", none), ("check_web", none), ("near_of", none), ("near", none), ("pieces_of", none), ("pieces", none), ("_law_number", none), ("_law_web", none), ("_law_near", none), ("_law_copied", none), ("_law_pieces", none), ("_law_right", none), ("law", none), ("cut_of", none), ("are_places", none), ("cut_down", none), ("check_order", none), ("renamed_by", none), ("renamed", none), ("beside", none), ("_law_number", none), ("_law_web", none), ("_law_whole", none), ("_law_is_web", none), ("_law_cut", none), ("_law_order", none), ("_law_renamed", none)] : List (PySem.Str × Option PySem.Str)) ++ ([("law", none), ("check_few_ties", none), ("tie_web_of", none), ("tie_web", none), ("tied_many", none), ("_law_tie_web", none), ("law", none), ("check_small", none), ("check_places", none), ("is_cover_of", none), ("all_tied", none), ("groups_with", none), ("fits", none), ("grown", none), ("cover_of", none), ("covered", none), ("_law_is_cover", none), ("_law_has_cover", none), ("_law_laid", none), ("_law_says", none), ("_law_due", none), ("_law_right", none), ("_law_less", none), ("law", none), ("_law_groups_right", none), ("_law_places_right", none), ("_law_bent", none), ("law", none), ("_wall", none), ("groups_at", none)] : List (PySem.Str × Option PySem.Str)) ++ ([("law", none), ("check_cover", none), ("ends_of", none), ("root_by", none), ("root_of", none), ("root", none), ("_law_root", none), ("_law_is_root", none), ("_law_alone", none), ("_law_refused", none), ("_law_ask", none), ("_law_right", none), ("law", none), ("can_go", none), ("led_on", none), ("led", none), ("_law_led", none), ("_law_led_on", none), ("_law_orders", none), ("_law_right", none), ("law", none), ("_law_tidy", none), ("_law_threes", none), ("law", none), ("meets_all", none), ("chosen", none), ("gone_round", none), ("places_of", none), ("ties_of", none), ("round_from", none)] : List (PySem.Str × Option PySem.Str)) ++ ([("trail_of", none), ("trail", none), ("_law_meets", none), ("_law_is_trail", none), ("_law_tried", none), ("_law_goes", none), ("_law_right", none), ("law", none), ("ring_by", none), ("ring", none), ("is_ring", none), ("_law_is_ring", none), ("_law_has_ring", none), ("_law_rings_on", none), ("_law_right", none), ("law", none), ("_law_is_ring", none), ("_law_says", none), ("_law_round", none), ("law", none), ("check_row", none), ("squares", none), ("by_groups", none), ("_law_rows", none), ("_law_squares", none), ("law", none), ("added", none), ("apart_of", none), ("places_apart", none), ("ties_apart", none)] : List (PySem.Str × Option PySem.Str)) ++ ([("_law_apart", none), ("law", none), ("ways_from", none), ("check_colours", none), ("colours", none), ("tie_colours", none), ("_law_ways", none), ("_law_made_one", none), ("law", none), ("_law_round_of", none), ("law", none), ("law", none), ("_law_times", none), ("law", none), ("_law_covers", none), ("_law_covers_on", none), ("_law_all_tied", none), ("_law_has_two", none), ("_law_right", none), ("law", none), ("law", none), ("_law_number", none), ("_law_web", none), ("_law_at", none), ("law", none), ("_law_refused", none), ("_law_all_refused", none), ("_law_no_webs", none), ("_law_all_tied", none), ("_law_with_one", none)] : List (PySem.Str × Option PySem.Str)) ++ ([("_law_with_two", none), ("_law_with_second", none), ("_law_great_places", none), ("_law_eleven", none), ("_law_few_places", none), ("_law_nine", none), ("_law_great_ties", none), ("_law_many_ties", none), ("_law_few_ties", none), ("_law_nine_ties", none), ("law", none), ("_law_with_places", none), ("_law_no_places", none), ("_law_with_order", none), ("_law_no_orders", none), ("_law_with_groups", none), ("_law_no_groups", none), ("_law_with_row", none), ("_law_no_rows", none), ("_law_with_colours", none), ("_law_no_colours", none), ("_law_with_many", none), ("_law_too_many", none), ("_law_with_root", none), ("_law_no_cover", none), ("law", none), ("_law_counts_right", none), ("_law_way_right", none), ("_law_barred_right", none), ("law", none)] : List (PySem.Str × Option PySem.Str)) ++ ([("_law_webs_right", none), ("_law_one_twice", none), ("law", none), ("_law_refused", none), ("_law_all_tied", none), ("_law_webs_right", none), ("_law_web_doors", none), ("_law_rows_right", none), ("_law_groups_right", none), ("law", none), ("_law_order", none), ("_law_led_on", none), ("_law_five_right", none), ("_law_barred_right", none), ("_law_greatest_right", none), ("_law_rings_right", none), ("law", none), ("_law_sound", none), ("law", none), ("_law_refused", none), ("_law_bad_right", none), ("law", none), ("_law_list_right", none), ("_law_door_right", none), ("_law_webs_right", none), ("_law_covers_right", none), ("_law_line_right", none), ("_law_within_right", none), ("law", none), ("_law_word", none)] : List (PySem.Str × Option PySem.Str)) ++ ([("_law_star", none), ("_law_three", none), ("_law_none_right", none), ("_law_covers_right", none), ("_law_is_trail", none), ("_law_rings_right", none), ("_law_counts_right", none), ("_law_beside_right", none), ("law", none), ("Cover", some "__init__"), ("Cover", some "shows"), ("Barred", some "__init__"), ("Barred", some "shows"), ("_law_right", none), ("_law_right", none), ("_law_refused", none)] : List (PySem.Str × Option PySem.Str))
end TW

set_option Elab.async false
set_option linter.all false
set_option maxRecDepth 100000
set_option maxHeartbeats 4000000
namespace TW
open PySem PySem.Spec PyProof.Rows L2

@[simp] theorem bnd_ok {α β : Type} (a : α) (f : α → M β) : bnd (some (.ok a)) f = f a := rfl
@[simp] theorem bnd_err {α β : Type} (C : Nat) (f : α → M β) : bnd (some (.er C)) f = some (.er C) := rfl
@[simp] theorem lift_some {α : Type} (a : α) : lift (some a) = some (.ok a) := rfl
@[simp] theorem boolD_bl (b : Bool) : boolD (.bl b) = some b := rfl
@[simp] theorem intD_int (i : Int) : intD (.int i) = some i := rfl
@[simp] theorem isi_int_int (i : Int) : isiD (.int i) .int = some true := rfl
@[simp] theorem isi_int_bool (i : Int) : isiD (.int i) .bool = some false := rfl
@[simp] theorem isi_tup_tup (ds : List D) : isiD (.tup ds) .tuple = some true := rfl
@[simp] theorem isi_lst_lst (ds : List D) : isiD (.lst ds) .list = some true := rfl
@[simp] theorem scal_int (i : Int) : scal (.int i) = true := rfl
@[simp] theorem scal_bl (i : Bool) : scal (.bl i) = true := rfl
@[simp] theorem scal_non : scal .non = true := rfl
@[simp] theorem scal_lst (ds : List D) : scal (.lst ds) = false := rfl
@[simp] theorem scal_tup (ds : List D) : scal (.tup ds) = false := rfl
@[simp] theorem cmp_le (i j : Int) : cmpD .le (.int i) (.int j) = some (decide (i ≤ j)) := rfl
@[simp] theorem cmp_lt (i j : Int) : cmpD .lt (.int i) (.int j) = some (decide (i < j)) := rfl
@[simp] theorem cmp_gt (i j : Int) : cmpD .gt (.int i) (.int j) = some (decide (j < i)) := rfl
@[simp] theorem cmp_ge (i j : Int) : cmpD .ge (.int i) (.int j) = some (decide (j ≤ i)) := rfl
@[simp] theorem cmp_ltP (p q : Int × Int) : cmpD .lt (eP p) (eP q) = some (ltP2 p q) := rfl
@[simp] theorem cmp_eqI (i j : Int) : cmpD .eq (.int i) (.int j) = some (decide (i = j)) := rfl
@[simp] theorem cmp_neI (i j : Int) : cmpD .ne (.int i) (.int j) = some (!decide (i = j)) := rfl
@[simp] theorem bin_add (i j : Int) : binD .add (.int i) (.int j) = some (.dp, .int (i + j)) := rfl
@[simp] theorem bin_sub (i j : Int) : binD .sub (.int i) (.int j) = some (.dp, .int (i - j)) := rfl
@[simp] theorem bi_lenT (ds : List D) : biD .len [.tup ds] = some (.dp, .int ds.length) := rfl
@[simp] theorem bi_lenL (ds : List D) : biD .len [.lst ds] = some (.dp, .int ds.length) := rfl
@[simp] theorem sub_t0 (a : D) (r : List D) : subD (.tup (a :: r)) (.int 0) = some a := by
  show atI (a :: r) 0 = some a
  exact atI_nat (j := 0) rfl
@[simp] theorem sub_t1 (a b : D) (r : List D) : subD (.tup (a :: b :: r)) (.int 1) = some b := by
  show atI (a :: b :: r) 1 = some b
  exact atI_nat (j := 1) rfl
theorem blsD_map {α : Type} (g : α → Bool) : ∀ xs : List α, blsD (xs.map fun x => .bl (g x)) = some (xs.map g)
  | [] => rfl
  | x :: xs => by simp [blsD, blsD_map g xs]
theorem bi_all {α : Type} (g : α → Bool) (xs : List α) : biD .all [.lst (xs.map fun x => .bl (g x))] = some (.dp, .bl (xs.all g)) := by
  show (blsD (xs.map fun x => .bl (g x))).map _ = _
  rw [blsD_map]
  simp [List.all_map]
theorem bi_any {α : Type} (g : α → Bool) (xs : List α) : biD .any [.lst (xs.map fun x => .bl (g x))] = some (.dp, .bl (xs.any g)) := by
  show (blsD (xs.map fun x => .bl (g x))).map _ = _
  rw [blsD_map]
  simp [List.any_map]
theorem compL_mapE {α : Type} {e : α → D} {f : D → Option (Option (Md × D))} {g : α → Md × D} {xs : List α} (h : ∀ x ∈ xs, f (e x) = some (some (g x))) : compL f (xs.map e) = some (xs.map g) := by
  induction xs with
  | nil => rfl
  | cons x xs ih =>
    simp only [List.map_cons, compL, h x List.mem_cons_self, ih fun y hy => h y (List.mem_cons_of_mem _ hy)]
    rfl

theorem cut_from {α : Type} (xs : List α) (i : Nat) : cutL xs (some (i : Int)) none = xs.drop i := by
  unfold cutL
  rw [HT.sIx_nat, HT.sIx_none]
  rcases Nat.le_total i xs.length with h | h
  · rw [Nat.min_eq_left h, List.take_of_length_le (by rw [List.length_drop]; omega)]
  · rw [Nat.min_eq_right h, List.drop_of_length_le (Nat.le_refl _), List.drop_of_length_le h, List.take_nil]
theorem cut_to {α : Type} (xs : List α) (i : Nat) : cutL xs none (some (i : Int)) = xs.take i := by
  unfold cutL
  rw [HT.sIx_nat, HT.sIx_none, List.drop_zero, Nat.sub_zero]
  rcases Nat.le_total i xs.length with h | h
  · rw [Nat.min_eq_left h]
  · rw [Nat.min_eq_right h, List.take_of_length_le (Nat.le_refl _), List.take_of_length_le h]
theorem zipD_map {α β : Type} (f : α → D) (g : β → D) : ∀ (xs : List α) (ys : List β), zipD (xs.map f) (ys.map g) = (xs.zip ys).map fun p => .tup [f p.1, g p.2]
  | [], ys => by cases ys <;> rfl
  | x :: xs, [] => rfl
  | x :: xs, y :: ys => by simp [zipD, zipD_map f g xs ys]
abbrev webD (n : Int) (ts : List (Int × Int)) : D := .tup [.int n, .lst (ts.map eP)]
structure Web (n : Int) (ts : List (Int × Int)) : Prop where
  lo : 0 ≤ n
  hi : n ≤ 24
  len : ts.length ≤ 66
  ok : ∀ p ∈ ts, 0 ≤ p.1 ∧ p.1 < p.2 ∧ p.2 < n
  ris : ts.Pairwise (fun a b => ltP2 a b = true)
theorem adj_of {α : Type} {r : α → α → Prop} : ∀ {xs : List α}, xs.Pairwise r → ∀ p ∈ xs.zip xs.tail, r p.1 p.2
  | [], _, p, h => by simp at h
  | [x], _, p, h => by simp at h
  | x :: y :: xs, hp, p, h => by
    obtain ⟨h1, h2⟩ := List.pairwise_cons.mp hp
    simp only [List.tail_cons, List.zip_cons_cons, List.mem_cons] at h
    rcases h with rfl | h
    · exact h1 y List.mem_cons_self
    · exact adj_of h2 p (by simpa using h)
end TW

set_option Elab.async false
set_option linter.all false
set_option maxRecDepth 100000
set_option maxHeartbeats 4000000
namespace TW
open PySem PySem.Spec PyProof.Rows L2

def Bd (b : Nat) (i : Int) : Prop := i.natAbs < 2 ^ b
theorem Bd.up {b c : Nat} {i : Int} (h : Bd b i) (hc : b ≤ c) : Bd c i := Nat.lt_of_lt_of_le h (Nat.pow_le_pow_right (by decide) hc)
theorem Bd.add {b : Nat} {i j : Int} (h : Bd b i) (k : Bd b j) : Bd (b + 1) (i + j) := by
  have h1 : i.natAbs < 2 ^ b := h
  have h2 : j.natAbs < 2 ^ b := k
  have h3 := Int.natAbs_add_le i j
  show (i + j).natAbs < 2 ^ (b + 1)
  rw [Nat.pow_succ]
  omega
theorem Bd.mul {b c : Nat} {i j : Int} (h : Bd b i) (k : Bd c j) : Bd (b + c) (i * j) := by
  show (i * j).natAbs < 2 ^ (b + c)
  rw [Int.natAbs_mul, Nat.pow_add]
  exact Nat.mul_lt_mul'' h k
theorem Bd.log2 {b : Nat} {i : Int} (h : Bd b i) : i.natAbs.log2 ≤ b := by
  by_cases e : i.natAbs = 0
  · rw [e]; simp
  · exact Nat.le_of_lt ((Nat.log2_lt e).mpr h)
theorem Bd.of {b : Nat} {i : Int} (h : i.natAbs < 2 ^ b) : Bd b i := h
theorem mul_ok {b c : Nat} {i j : Int} (h : Bd b i) (k : Bd c j) (hb : b + c < 100000000) : binD .mul (.int i) (.int j) = some (.dp, .int (i * j)) := by
  have h1 := h.log2
  have h2 := k.log2
  show (if i.natAbs.log2 + j.natAbs.log2 < 100000000 then some (Md.dp, D.int (i * j)) else none) = _
  rw [if_pos (by omega)]
theorem mod_ok {i j : Int} (h : 0 < j) : binD .mod (.int i) (.int j) = some (.dp, .int (i % j)) := by
  show (if 0 < j then some (Md.dp, D.int (i % j)) else none) = _
  rw [if_pos h]
theorem fdiv_ok {i j : Int} (h : 0 < j) (h2 : j < 1073741824) : binD .fdiv (.int i) (.int j) = some (.dp, .int (i / j)) := by
  show (if 0 < j ∧ j < 1073741824 then some (Md.dp, D.int (i / j)) else none) = _
  rw [if_pos ⟨h, h2⟩]
theorem bits_bd {b : Nat} {i : Int} (h : Builtin.Int.intBits i ≤ b) : Bd b i := by
  unfold Builtin.Int.intBits at h
  by_cases e : i = 0
  · subst e
    exact Nat.pow_pos (by decide)
  · have e2 : (i == 0) = false := by simpa using e
    rw [e2] at h
    have h : i.natAbs.log2 + 1 ≤ b := h
    exact Nat.lt_of_lt_of_le Nat.lt_log2_self (Nat.pow_le_pow_right (by decide) h)
theorem c_number {B : Nat} (hB : B ≤ 2000000) (h30 : 40 ≤ B) {cell at_ whole : Int} (hc : Bd B cell) (ha : Bd 10 at_) (hw : Bd B whole) (k : Nat) : ∃ v m, run GP (k + 1) 9 [.int cell, .int at_, .int whole] = some (.ok (m, .int v)) := by
  show ∃ v m, callF (run GP k) fu_law_number [.int cell, .int at_, .int whole] = _
  have p1 : binD .pow (.int 10) (.int 18) = some (.dp, .int 1000000000000000000) := rfl
  by_cases h : (1000000000000000000 : Int) ≤ cell
  · refine ⟨cell, .sh, ?_⟩
    simp [callF, fu_law_number, exs, ex, ev, evr, evs, start0, p1, h]
  · have m1 : binD .mul (.int 977) (.int at_) = some (.dp, .int (977 * at_)) := mul_ok (b := 10) (Bd.of (by decide)) ha (by decide)
    have b1 : Bd 20 (977 * at_) := Bd.mul (b := 10) (c := 10) (Bd.of (by decide)) ha
    have b2 : Bd (B + 1) (cell + 977 * at_) := hc.add (b1.up (by omega))
    have m2 : binD .mul (.int (cell + 977 * at_)) (.int 48271) = some (.dp, .int ((cell + 977 * at_) * 48271)) := mul_ok (c := 16) b2 (Bd.of (by decide)) (by omega)
    have m3 : ∀ x, binD .mod (.int x) (.int 2147483647) = some (.dp, .int (x % 2147483647)) := fun x => mod_ok (by decide)
    obtain ⟨y, hy⟩ : ∃ y, ((cell + 977 * at_) * 48271 + whole) % 2147483647 = y := ⟨_, rfl⟩
    have by_ : Bd 31 y := by
      have h1 := Int.emod_nonneg ((cell + 977 * at_) * 48271 + whole) (b := 2147483647) (by decide)
      have h2 := Int.emod_lt_of_pos ((cell + 977 * at_) * 48271 + whole) (b := 2147483647) (by decide)
      rw [hy] at h1 h2
      show y.natAbs < 2 ^ 31
      have : (2 : Nat) ^ 31 = 2147483648 := by decide
      omega
    have m4 : binD .mul (.int 31) (.int at_) = some (.dp, .int (31 * at_)) := mul_ok (b := 10) (Bd.of (by decide)) ha (by decide)
    have b4 : Bd 31 (31 * at_) := (Bd.mul (b := 10) (c := 10) (Bd.of (by decide)) ha).up (by decide)
    have b5 : Bd 33 (y + 31 * at_ + 7) := (by_.add b4).add (Bd.of (by decide))
    have m5 : binD .mul (.int y) (.int (y + 31 * at_ + 7)) = some (.dp, .int (y * (y + 31 * at_ + 7))) := mul_ok by_ b5 (by decide)
    have b6 : Bd 64 (y * (y + 31 * at_ + 7)) := by_.mul b5
    have b7 : Bd (B + 1 + 1) (y + cell + 5) := ((by_.up (by omega)).add hc).add ((Bd.of (b := 3) (by decide)).up (by omega))
    have m6 : binD .mul (.int (y * (y + 31 * at_ + 7))) (.int (y + cell + 5)) = some (.dp, .int (y * (y + 31 * at_ + 7) * (y + cell + 5))) := mul_ok b6 b7 (by omega)
    obtain ⟨z, hz⟩ : ∃ z, y * (y + 31 * at_ + 7) * (y + cell + 5) = z := ⟨_, rfl⟩
    have bz : Bd (64 + (B + 1 + 1)) z := by rw [← hz]; exact b6.mul b7
    have b8 : Bd (64 + (B + 1 + 1) + 1) (z + 48271) := bz.add ((Bd.of (b := 16) (by decide)).up (by omega))
    have m7 : binD .mul (.int z) (.int (z + 48271)) = some (.dp, .int (z * (z + 48271))) := mul_ok bz b8 (by omega)
    have m8 : ∀ x, binD .fdiv (.int x) (.int 1009) = some (.dp, .int (x / 1009)) := fun x => fdiv_ok (by decide) (by decide)
    refine ⟨z * (z + 48271) / 1009, .dp, ?_⟩
    simp [callF, fu_law_number, exs, ex, ev, evr, evs, start0, p1, h, m1, m2, m3, hy, m4, m5, m6, hz, m7, m8, give, keep, nm, ownS]

theorem forL_inv {f : D → Dn → M Fl} {P : List D → Dn → Prop} (step : ∀ x xs e, P (x :: xs) e → ∃ e', f x e = some (.ok (.nx e')) ∧ P xs e') : ∀ {xs : List D} {e : Dn}, P xs e → ∃ e', forL f xs e = some (.ok (.nx e')) ∧ P [] e'
  | [], e, h => ⟨e, rfl, h⟩
  | x :: xs, e, h => by
    obtain ⟨e1, h1, h2⟩ := step x xs e h
    obtain ⟨e2, h3, h4⟩ := forL_inv step h2
    refine ⟨e2, ?_, h4⟩
    unfold forL
    rw [h1]
    exact h3
@[simp] theorem intsD_eI : ∀ ns : List Int, intsD (ns.map D.int) = some ns
  | [] => rfl
  | n :: ns => by simp [intsD, intsD_eI ns]
theorem bi_sum (ns : List Int) : biD .sum [.lst (ns.map D.int)] = some (.dp, .int ns.sum) := by
  show ((listD (.lst (ns.map D.int))).bind intsD).map _ = _
  simp [listD]
theorem at_in {α : Type} {xs : List α} {i : Int} (h0 : 0 ≤ i) (h1 : i < xs.length) : ∃ x ∈ xs, atI xs i = some x := by
  have hl : i.toNat < xs.length := by omega
  refine ⟨xs[i.toNat], List.getElem_mem _, ?_⟩
  have := atI_nat (xs := xs) (j := i.toNat) (v := xs[i.toNat]) (List.getElem?_eq_getElem hl)
  rwa [Int.toNat_of_nonneg h0] at this
theorem eqD_P (a b : Int × Int) : eqD (eP a) (eP b) = decide (a = b) := by
  show (a.1 == b.1 && (a.2 == b.2 && true)) = _
  by_cases h1 : a.1 = b.1 <;> by_cases h2 : a.2 = b.2 <;> simp [h1, h2, Prod.ext_iff]
theorem dats_P : ∀ ts : List (Int × Int), dats (ts.map eP) 20 = true
  | [] => rfl
  | t :: ts => by simp [dats, dat, dats_P ts]
theorem in_P (t : Int × Int) (ts : List (Int × Int)) : inD (eP t) (.lst (ts.map eP)) = some (decide (t ∈ ts)) := by
  have h1 : dat (eP t) 20 = true := rfl
  show (if dat (eP t) 20 && dats (ts.map eP) 20 then some ((ts.map eP).any fun z => eqD z (eP t)) else none) = _
  rw [h1, dats_P]
  simp only [Bool.and_self, if_true, List.any_map]
  congr 1
  rw [Bool.eq_iff_iff]
  simp only [List.any_eq_true, Function.comp_apply, decide_eq_true_eq]
  constructor
  · rintro ⟨x, hx, e⟩
    rw [eqD_P] at e
    have := of_decide_eq_true e
    exact this ▸ hx
  · intro h
    exact ⟨t, h, by rw [eqD_P]; exact decide_eq_true rfl⟩
@[simp] theorem prsD_eP : ∀ ps : List (Int × Int), prsD (ps.map eP) = some ps
  | [] => rfl
  | p :: ps => by
    show (prsD (ps.map eP)).map _ = _
    rw [prsD_eP ps]
    rfl
theorem sort_P (ts : List (Int × Int)) : biD .sorted [.lst (ts.map eP)] = some (.dp, .lst ((isortB ltP2 ts).map eP)) := by
  show sortD (ts.map eP) = _
  unfold sortD
  cases ts with
  | nil => rfl
  | cons t ts =>
    have e : intsD ((t :: ts).map eP) = none := rfl
    rw [e, prsD_eP]
theorem ris_strict {ts : List (Int × Int)} (h : Ris ltP2 ts) (n : ts.Nodup) : ts.Pairwise (fun a b => ltP2 a b = true) := by
  have := h.and n
  refine this.imp fun {a b} ⟨h1, h2⟩ => ?_
  cases e : ltP2 a b with
  | true => rfl
  | false => exact absurd (sto_P.tot a b e h1) h2
end TW

set_option Elab.async false
set_option linter.all false
set_option maxRecDepth 100000
set_option maxHeartbeats 4000000
namespace TW
open PySem PySem.Spec PyProof.Rows L2

@[simp] theorem sub_t2 (a b c : D) (r : List D) : subD (.tup (a :: b :: c :: r)) (.int 2) = some c := by
  show atI (a :: b :: c :: r) 2 = some c
  exact atI_nat (j := 2) rfl
@[simp] theorem sub_t3 (a b c d : D) (r : List D) : subD (.tup (a :: b :: c :: d :: r)) (.int 3) = some d := by
  show atI (a :: b :: c :: d :: r) 3 = some d
  exact atI_nat (j := 3) rfl
@[simp] theorem sub_t4 (a b c d e : D) (r : List D) : subD (.tup (a :: b :: c :: d :: e :: r)) (.int 4) = some e := by
  show atI (a :: b :: c :: d :: e :: r) 4 = some e
  exact atI_nat (j := 4) rfl
theorem max_2 (i j : Int) : biD .max [.int i, .int j] = some (.dp, .int (if j > i then j else i)) := rfl
theorem min_2 (i j : Int) : biD .min [.int i, .int j] = some (.dp, .int (if j < i then j else i)) := rfl
theorem notin_P (t : Int × Int) (ts : List (Int × Int)) : cmpD .notin (eP t) (.lst (ts.map eP)) = some (!decide (t ∈ ts)) := by
  show (inD (eP t) (.lst (ts.map eP))).map _ = _
  rw [in_P]
  rfl
@[simp] theorem ite_snd {α β : Type} {c : Prop} [Decidable c] (a b : α) (d : β) : (if c then (a, d) else (b, d)).2 = d := by split <;> rfl
@[simp] theorem closed_dp (d : D) : closed .dp d = true := rfl
@[simp] theorem closed_int (m : Md) (i : Int) : closed m (.int i) = true := by cases m <;> rfl
@[simp] theorem closed_bl (m : Md) (i : Bool) : closed m (.bl i) = true := by cases m <;> rfl
@[simp] theorem closed_non (m : Md) : closed m .non = true := by cases m <;> rfl
@[simp] theorem closed_P (m : Md) (p : Int × Int) : closed m (eP p) = true := by cases m <;> rfl
def cellsOf (ns : List Int) : List Int := if ns = [] then [5] else ns.take 63
theorem cells_pos (ns : List Int) : 0 < (cellsOf ns).length := by
  unfold cellsOf
  split
  · simp
  · rename_i h
    rw [List.length_take]
    have := List.length_pos_iff.mpr h
    omega
structure Fnd (n : Int) (fs : List (Int × Int)) : Prop where
  ok : ∀ p ∈ fs, 0 ≤ p.1 ∧ p.1 < p.2 ∧ p.2 < n
  nd : fs.Nodup
def webTl : List S := [.asg 13 (.tup [.bi .min [.var 11, .var 12], .bi .max [.var 11, .var 12]]), .ife (.and (.cmp .ne (.var 11) (.var 12)) (.cmp .notin (.var 13) (.var 6))) [.mut 6 [] .append [.var 13]] []]
theorem b0_eq : fu_law_web_b0 = [.asg 10 (.bin .fdiv (.cal 9 [.sub (.var 4) (.bin .mod (.bin .add (.var 7) (.var 1)) (.bi .len [.var 4])), .bin .add (.var 7) (.var 1), .var 5]) (.lit (.int 3))),
    .ife (.cmp .gt (.var 8) (.lit (.int 1))) (.asg 11 (.sub (.tup [.bin .mod (.var 10) (.var 8), .bin .mod (.var 7) (.var 8), .lit (.int 0), .bin .mod (.var 10) (.var 8), .bin .mod (.var 7) (.var 8)]) (.var 9)) :: .asg 12 (.sub (.tup [.bin .mod (.bin .fdiv (.var 10) (.lit (.int 61))) (.var 8), .bin .mod (.bin .add (.var 7) (.lit (.int 1))) (.var 8), .bin .add (.lit (.int 1)) (.bin .mod (.var 7) (.bin .sub (.var 8) (.lit (.int 1)))), .bin .mod (.bin .add (.var 11) (.lit (.int 1))) (.var 8), .bin .mod (.var 10) (.var 8)]) (.var 9)) :: webTl) []] := rfl
theorem web_last {T : Tb} {n f o : Int} (hf : 0 ≤ f ∧ f < n) (ho : 0 ≤ o ∧ o < n) {fs : List (Int × Int)} (hF : Fnd n fs) (hl : fs.length < 1000) (s0 s1 s2 s3 s4 s5 s7 s8 s9 s10 x13 : Sl) :
    ∃ fs' x, exs T webTl
      [s0, s1, s2, s3, s4, s5, some (.dp, .lst (fs.map eP)), s7, s8, s9, s10, some (.sh, .int f), some (.sh, .int o), x13] =
        some (.ok (.nx [s0, s1, s2, s3, s4, s5, some (.dp, .lst (fs'.map eP)), s7, s8, s9, s10, some (.sh, .int f), some (.sh, .int o), x])) ∧ Fnd n fs' ∧ fs'.length ≤ fs.length + 1 := by
  have key : ∀ t : Int × Int, t = (if o < f then o else f, if o > f then o else f) → ∃ fs' x, exs T webTl
      [s0, s1, s2, s3, s4, s5, some (.dp, .lst (fs.map eP)), s7, s8, s9, s10, some (.sh, .int f), some (.sh, .int o), x13] =
        some (.ok (.nx [s0, s1, s2, s3, s4, s5, some (.dp, .lst (fs'.map eP)), s7, s8, s9, s10, some (.sh, .int f), some (.sh, .int o), x])) ∧ Fnd n fs' ∧ fs'.length ≤ fs.length + 1 := by
    intro t ht
    have e1 : D.tup [.int (if o < f then o else f), .int (if o > f then o else f)] = eP t := by rw [ht]
    by_cases h : f = o
    · refine ⟨fs, some (.dp, eP t), ?_, hF, by omega⟩
      simp [webTl, exs, ex, ev, evs, max_2, min_2, tupM, closeds, give, keep, nm, nms, ownS, h]
      rw [ht]
      simp [h]
    · by_cases h2 : t ∈ fs
      · refine ⟨fs, some (.dp, eP t), ?_, hF, by omega⟩
        simp [webTl, exs, ex, ev, evs, max_2, min_2, tupM, closeds, give, keep, nm, nms, ownS, h, e1, notin_P, h2]
      · refine ⟨fs ++ [t], some (.dp, eP t), ?_, ⟨fun p hp => ?_, ?_⟩, by simp⟩
        · have hs : fs.length < SZ := by show fs.length < 1000000; omega
          have hm : moL .append (fs.map eP) [eP t] = some ((fs ++ [t]).map eP) := by
            show (if (fs.map eP).length < SZ then some (fs.map eP ++ [eP t]) else none) = _
            rw [List.length_map, if_pos hs, List.map_append]
            rfl
          have hlf : lfree (eP t) = true := rfl
          simp [webTl, exs, ex, ev, evs, max_2, min_2, tupM, closeds, give, gives, keep, nm, nms, ownS, h, e1, notin_P, h2, evP, getP, moS, moP, hm, hlf]
        · rcases List.mem_append.mp hp with hp | hp
          · exact hF.ok p hp
          · rw [List.mem_singleton.mp hp, ht]
            by_cases h3 : o < f
            · rw [if_pos h3, if_neg (show ¬ (o > f) by omega)]
              exact ⟨ho.1, h3, hf.2⟩
            · have h4 : o > f := by omega
              rw [if_neg h3, if_pos h4]
              exact ⟨hf.1, h4, ho.2⟩
        · exact List.nodup_append.mpr ⟨hF.nd, by simp, fun a ha b hb e => h2 (by rw [← List.mem_singleton.mp hb, ← e]; exact ha)⟩
  exact key _ rfl
def WEnv (ns : List Int) (by_ p t whole n kind : Int) (fs : List (Int × Int)) (e : Dn) : Prop :=
  ∃ x7 x10 x11 x12 x13, e = [some (.sh, .scr ns), some (.sh, .int by_), some (.sh, .int p), some (.sh, .int t), some (.dp, .lst ((cellsOf ns).map D.int)), some (.sh, .int whole), some (.dp, .lst (fs.map eP)), x7, some (.sh, .int n), some (.sh, .int kind), x10, x11, x12, x13]
theorem web_step {B : Nat} (hB : B ≤ 2000000) (h40 : 40 ≤ B) {ns : List Int} {by_ p t whole n kind : Int} (hc : ∀ c ∈ cellsOf ns, Bd B c) (hw : Bd B whole) (hby : 0 ≤ by_ ∧ by_ ≤ 100) (hn : 0 ≤ n) (hk : 0 ≤ kind ∧ kind < 5) {fs : List (Int × Int)} (hf : Fnd n fs) (hl : fs.length < 1000) {a : Int} (ha : 0 ≤ a ∧ a ≤ 100) {e : Dn} (he : WEnv ns by_ p t whole n kind fs e) (k : Nat) :
    ∃ e', (match bindT [7] true (.int a) e with | none => none | some e2 => exs (run GP (k + 1)) fu_law_web_b0 e2) = some (.ok (.nx e')) ∧ ∃ fs', WEnv ns by_ p t whole n kind fs' e' ∧ Fnd n fs' ∧ fs'.length ≤ fs.length + 1 := by
  obtain ⟨x7, x10, x11, x12, x13, rfl⟩ := he
  have hL := cells_pos ns
  have hL' : (0 : Int) < ((cellsOf ns).length : Int) := by omega
  have i0 : 0 ≤ (a + by_) % ((cellsOf ns).length : Int) := Int.emod_nonneg _ (by omega)
  have i1 : (a + by_) % ((cellsOf ns).length : Int) < ((cellsOf ns).length : Int) := Int.emod_lt_of_pos _ hL'
  obtain ⟨d, hd, ed⟩ := at_in (xs := (cellsOf ns).map D.int) i0 (by rw [List.length_map]; exact i1)
  obtain ⟨c, hc1, rfl⟩ := List.mem_map.mp hd
  have ed : subD (.lst ((cellsOf ns).map D.int)) (.int ((a + by_) % ((cellsOf ns).length : Int))) = some (.int c) := ed
  have em : binD .mod (.int (a + by_)) (.int ((cellsOf ns).length : Int)) = some (.dp, .int ((a + by_) % ((cellsOf ns).length : Int))) := mod_ok hL'
  obtain ⟨v, m, hv⟩ := c_number hB h40 (hc c hc1) (at_ := a + by_) (Bd.of (show (a + by_).natAbs < 1024 by omega)) hw k
  have e3 : binD .fdiv (.int v) (.int 3) = some (.dp, .int (v / 3)) := fdiv_ok (by decide) (by decide)
  obtain ⟨u, hu⟩ : ∃ u, v / 3 = u := ⟨_, rfl⟩
  by_cases h1 : 1 < n
  · have q1 : ∀ x, binD .mod (.int x) (.int n) = some (.dp, .int (x % n)) := fun x => mod_ok (by omega)
    have q2 : ∀ x, binD .mod (.int x) (.int (n - 1)) = some (.dp, .int (x % (n - 1))) := fun x => mod_ok (by omega)
    have q3 : binD .fdiv (.int u) (.int 61) = some (.dp, .int (u / 61)) := fdiv_ok (by decide) (by decide)
    have r1 : ∀ x, 0 ≤ x % n ∧ x % n < n := fun x => ⟨Int.emod_nonneg _ (by omega), Int.emod_lt_of_pos _ (by omega)⟩
    have r2 : ∀ x, 0 ≤ 1 + x % (n - 1) ∧ 1 + x % (n - 1) < n := fun x => by
      have h1 := Int.emod_nonneg x (b := n - 1) (by omega)
      have h2 := Int.emod_lt_of_pos x (b := n - 1) (by omega)
      omega
    have fin : ∀ f o : Int, (0 ≤ f ∧ f < n) → (0 ≤ o ∧ o < n) → ∃ e', exs (run GP (k + 1)) webTl [some (.sh, .scr ns), some (.sh, .int by_), some (.sh, .int p), some (.sh, .int t), some (.dp, .lst ((cellsOf ns).map D.int)), some (.sh, .int whole), some (.dp, .lst (fs.map eP)), some (.sh, .int a), some (.sh, .int n), some (.sh, .int kind), some (.sh, .int u), some (.sh, .int f), some (.sh, .int o), x13] = some (.ok (.nx e')) ∧ ∃ fs', WEnv ns by_ p t whole n kind fs' e' ∧ Fnd n fs' ∧ fs'.length ≤ fs.length + 1 := by
      intro f o hfo ho
      obtain ⟨fs', x, g1, g2, g3⟩ := web_last (T := run GP (k + 1)) hfo ho hf hl (some (.sh, .scr ns)) (some (.sh, .int by_)) (some (.sh, .int p)) (some (.sh, .int t)) (some (.dp, .lst ((cellsOf ns).map D.int))) (some (.sh, .int whole)) (some (.sh, .int a)) (some (.sh, .int n)) (some (.sh, .int kind)) (some (.sh, .int u)) x13
      exact ⟨_, g1, fs', ⟨_, _, _, _, _, rfl⟩, g2, g3⟩
    have hk5 : kind = 0 ∨ kind = 1 ∨ kind = 2 ∨ kind = 3 ∨ kind = 4 := by omega
    have main : ∃ f o : Int, (0 ≤ f ∧ f < n) ∧ (0 ≤ o ∧ o < n) ∧ ∀ R, exs (run GP (k + 1)) webTl [some (.sh, .scr ns), some (.sh, .int by_), some (.sh, .int p), some (.sh, .int t), some (.dp, .lst ((cellsOf ns).map D.int)), some (.sh, .int whole), some (.dp, .lst (fs.map eP)), some (.sh, .int a), some (.sh, .int n), some (.sh, .int kind), some (.sh, .int u), some (.sh, .int f), some (.sh, .int o), x13] = some (.ok (.nx R)) → exs (run GP (k + 1)) fu_law_web_b0 [some (.sh, .scr ns), some (.sh, .int by_), some (.sh, .int p), some (.sh, .int t), some (.dp, .lst ((cellsOf ns).map D.int)), some (.sh, .int whole), some (.dp, .lst (fs.map eP)), some (.sh, .int a), some (.sh, .int n), some (.sh, .int kind), x10, x11, x12, x13] = some (.ok (.nx R)) := by
      rcases hk5 with rfl | rfl | rfl | rfl | rfl
      · refine ⟨u % n, u / 61 % n, r1 _, r1 _, fun R hR => ?_⟩
        simp [b0_eq, ex, ev, evs, ed, em, hv, e3, hu, h1, closeds, give, keep, nm, nms, ownS, q1, q2, q3, tupM, exs, hR]
      · refine ⟨a % n, (a + 1) % n, r1 _, r1 _, fun R hR => ?_⟩
        simp [b0_eq, ex, ev, evs, ed, em, hv, e3, hu, h1, closeds, give, keep, nm, nms, ownS, q1, q2, q3, tupM, exs, hR]
      · refine ⟨0, 1 + a % (n - 1), ⟨by omega, by omega⟩, r2 _, fun R hR => ?_⟩
        simp [b0_eq, ex, ev, evs, ed, em, hv, e3, hu, h1, closeds, give, keep, nm, nms, ownS, q1, q2, q3, tupM, exs, hR]
      · refine ⟨u % n, (u + 1) % n, r1 _, r1 _, fun R hR => ?_⟩
        simp [b0_eq, ex, ev, evs, ed, em, hv, e3, hu, h1, closeds, give, keep, nm, nms, ownS, q1, q2, q3, tupM, exs, hR]
      · refine ⟨a % n, u % n, r1 _, r1 _, fun R hR => ?_⟩
        simp [b0_eq, ex, ev, evs, ed, em, hv, e3, hu, h1, closeds, give, keep, nm, nms, ownS, q1, q2, q3, tupM, exs, hR]
    obtain ⟨f, o, hf1, ho1, hh⟩ := main
    obtain ⟨e', g1, g2⟩ := fin f o hf1 ho1
    exact ⟨e', hh e' g1, g2⟩
  · refine ⟨_, ?_, fs, ⟨some (.sh, .int a), some (.sh, .int u), x11, x12, x13, rfl⟩, hf, by omega⟩
    show exs (run GP (k + 1)) fu_law_web_b0 _ = _
    simp [fu_law_web_b0, exs, ex, ev, evs, ed, em, hv, e3, hu, h1, closeds, give, keep, nm, nms, ownS]
end TW

set_option Elab.async false
set_option linter.all false
set_option maxRecDepth 100000
set_option maxHeartbeats 4000000
namespace TW
open PySem PySem.Spec PyProof.Rows L2

theorem sum_bd {b : Nat} : ∀ {cs : List Int}, (∀ c ∈ cs, Bd b c) → cs.sum.natAbs + cs.length ≤ cs.length * 2 ^ b
  | [], _ => by simp
  | c :: cs, h => by
    have ih := sum_bd (cs := cs) fun x hx => h x (List.mem_cons_of_mem _ hx)
    have h1 : c.natAbs < 2 ^ b := h c List.mem_cons_self
    have h2 := Int.natAbs_add_le c cs.sum
    rw [List.sum_cons, List.length_cons, Nat.add_mul, Nat.one_mul]
    omega
theorem sum_bd6 {b : Nat} {cs : List Int} (h : ∀ c ∈ cs, Bd b c) (hl : cs.length ≤ 64) : Bd (b + 6) cs.sum := by
  have h1 := sum_bd h
  show cs.sum.natAbs < 2 ^ (b + 6)
  have h2 : cs.length * 2 ^ b ≤ 64 * 2 ^ b := Nat.mul_le_mul_right _ hl
  have h3 : 2 ^ (b + 6) = 64 * 2 ^ b := by rw [Nat.pow_add, Nat.mul_comm]
  have h4 : 0 < 2 ^ b := Nat.pow_pos (by decide)
  rw [h3]
  by_cases e : cs.length = 0
  · rw [e] at h1; omega
  · omega
theorem rng_ok {a b : Int} (h1 : a.natAbs < 1000000000) (h2 : b.natAbs < 1000000000) (h3 : b - a ≤ 1000000) : rngOk a b = true := by
  unfold rngOk smallI
  simp only [Bool.and_eq_true, decide_eq_true_eq]
  refine ⟨⟨h1, h2⟩, ?_⟩
  show (b - a).toNat ≤ 1000000
  omega
theorem rng_mem {a b : Int} {x : D} (h : x ∈ rngD a b) : ∃ i, x = .int i ∧ a ≤ i ∧ i < b := by
  unfold rngD at h
  obtain ⟨j, hj, rfl⟩ := List.mem_map.mp h
  have := List.mem_range.mp hj
  exact ⟨_, rfl, by omega, by omega⟩
theorem rng_len (a b : Int) : (rngD a b).length = (b - a).toNat := by
  unfold rngD
  rw [List.length_map, List.length_range]
theorem scr_ne (ns : List Int) : cmpD .ne (.scr ns) (.lst []) = some (!decide (ns = [])) := by
  cases ns with
  | nil => rfl
  | cons n ns => rfl
theorem scr_cut (ns : List Int) (i : Nat) : slcD (.scr ns) none (some (i : Int)) = some (.dp, .lst ((ns.take i).map D.int)) := by
  show some (Md.dp, D.lst (eI (cutL ns none (some (i : Int))))) = _
  rw [cut_to]
theorem c_web {b : Nat} (hb1 : 40 ≤ b) (hb2 : b ≤ 1900000) {ns : List Int} (hb : ∀ z ∈ ns, Bd b z) {by_ p t : Int} (hby : 0 ≤ by_ ∧ by_ ≤ 100) (hp : 0 ≤ p ∧ p ≤ 24) (ht : 0 ≤ t ∧ t ≤ 66) (k : Nat) :
    ∃ n ts, run GP (k + 2) 10 [.scr ns, .int by_, .int p, .int t] = some (.ok (.dp, webD n ts)) ∧ Web n ts ∧ n ≤ p ∧ (ts.length : Int) ≤ t := by
  have hc : ∀ c ∈ cellsOf ns, Bd b c := fun c hc => by
    unfold cellsOf at hc
    split at hc
    · rw [List.mem_singleton.mp hc]
      exact (Bd.of (b := 3) (by decide)).up (by omega)
    · exact hb c (List.mem_of_mem_take hc)
  have hcl : (cellsOf ns).length ≤ 64 := by
    unfold cellsOf
    split
    · simp
    · rw [List.length_take]; omega
  have hs := sum_bd6 hc hcl
  have hw : Bd (b + 8) ((cellsOf ns).sum + by_) := (hs.add ((Bd.of (b := 7) (show by_.natAbs < 128 by omega)).up (by omega))).up (by omega)
  have hc' : ∀ c ∈ cellsOf ns, Bd (b + 8) c := fun c h => (hc c h).up (by omega)
  obtain ⟨whole, hwh⟩ : ∃ w, (cellsOf ns).sum + by_ = w := ⟨_, rfl⟩
  rw [hwh] at hw
  have n0 := Int.emod_nonneg whole (b := p + 1) (by omega)
  have n1 := Int.emod_lt_of_pos whole (b := p + 1) (by omega)
  have k0 := Int.emod_nonneg (whole / 7) (b := 5) (by omega)
  have k1 := Int.emod_lt_of_pos (whole / 7) (b := 5) (by omega)
  have e1 : binD .mod (.int whole) (.int (p + 1)) = some (.dp, .int (whole % (p + 1))) := mod_ok (by omega)
  have e2 : binD .fdiv (.int whole) (.int 7) = some (.dp, .int (whole / 7)) := fdiv_ok (by decide) (by decide)
  have e3 : binD .mod (.int (whole / 7)) (.int 5) = some (.dp, .int (whole / 7 % 5)) := mod_ok (by decide)
  obtain ⟨n, hn⟩ : ∃ n, whole % (p + 1) = n := ⟨_, rfl⟩
  obtain ⟨kind, hkind⟩ : ∃ n, whole / 7 % 5 = n := ⟨_, rfl⟩
  rw [hn] at n0 n1 e1
  rw [hkind] at k0 k1 e3
  have hr : rngOk 0 t = true := rng_ok (by decide) (by omega) (by omega)
  -- the loop
  have loop : ∀ e, WEnv ns by_ p t whole n kind [] e → ∃ e', forL (fun x e1 => match bindT [7] true x e1 with | none => none | some e2 => exs (run GP (k + 1)) fu_law_web_b0 e2) (rngD 0 t) e = some (.ok (.nx e')) ∧ ∃ fs, WEnv ns by_ p t whole n kind fs e' ∧ Fnd n fs ∧ fs.length ≤ t.toNat := fun e he => by
    obtain ⟨e', g1, fs, g2, g3, g4, _⟩ := forL_inv (f := fun x e1 => match bindT [7] true x e1 with | none => none | some e2 => exs (run GP (k + 1)) fu_law_web_b0 e2) (P := fun xs e => ∃ fs, WEnv ns by_ p t whole n kind fs e ∧ Fnd n fs ∧ fs.length + xs.length ≤ t.toNat ∧ ∀ x ∈ xs, ∃ i, x = .int i ∧ 0 ≤ i ∧ i < t) (fun x xs e h => by
      obtain ⟨fs, h1, h2, h3, h4⟩ := h
      obtain ⟨a, rfl, a0, a1⟩ := h4 x List.mem_cons_self
      rw [List.length_cons] at h3
      obtain ⟨e', g1, fs', g2, g3, g4⟩ := web_step (B := b + 8) (by omega) (by omega) hc' hw hby n0 ⟨k0, k1⟩ h2 (by omega) (a := a) ⟨a0, by omega⟩ h1 k
      exact ⟨e', g1, fs', g2, g3, by omega, fun y hy => h4 y (List.mem_cons_of_mem _ hy)⟩) (xs := rngD 0 t) (e := e) ⟨[], he, ⟨fun _ h => (by cases h), List.nodup_nil⟩, by rw [rng_len]; simp, fun x hx => rng_mem hx⟩
    exact ⟨e', g1, fs, g2, g3, by simpa using g4⟩
  have he0 : WEnv ns by_ p t whole n kind [] [some (.sh, .scr ns), some (.sh, .int by_), some (.sh, .int p), some (.sh, .int t), some (.dp, .lst ((cellsOf ns).map D.int)), some (.sh, .int whole), some (.dp, .lst []), none, some (.sh, .int n), some (.sh, .int kind), none, none, none, none] := ⟨none, none, none, none, none, rfl⟩
  obtain ⟨e', g1, fs, ⟨x7, x10, x11, x12, x13, rfl⟩, g3, g4⟩ := loop _ he0
  have pm : (isortB ltP2 fs).Perm fs := isortB_perm fs
  refine ⟨n, isortB ltP2 fs, ?_, ⟨n0, by omega, ?_, fun q hq => g3.ok q (pm.mem_iff.mp hq), ris_strict (isortB_ris sto_P fs) (pm.nodup_iff.mpr g3.nd)⟩, by omega, ?_⟩
  · show callF (run GP (k + 1)) fu_law_web [.scr ns, .int by_, .int p, .int t] = _
    have c1 : ev (run GP (k + 1)) (.ite (.cmp .ne (.var 0) (.lst [])) (.slc false true (.var 0) (.lit .non) (.lit (.int 63))) (.lst [.lit (.int 5)])) [some (.sh, .scr ns), some (.sh, .int by_), some (.sh, .int p), some (.sh, .int t), none, none, none, none, none, none, none, none, none, none] = some (.ok (.dp, .lst ((cellsOf ns).map D.int))) := by
      have h63 : slcD (.scr ns) none (some 63) = some (.dp, .lst ((ns.take 63).map D.int)) := scr_cut ns 63
      by_cases h : ns = []
      · simp [ev, evs, scr_ne, h, cellsOf, boxM, closeds]
      · simp [ev, evs, scr_ne, h, cellsOf, optI, h63]
    simp only [callF, fu_law_web, exs, ex, start0]
    simp [c1]
    simp [bi_sum, hwh, e1, e2, e3, ev, evs, evr, evrs, mvs, mv, evS, hr, give, gives, keep, nm, nms, ownS, closeds, setAll, boxM, tupM]
    erw [g1]
    simp [sort_P, closeds]
  · rw [pm.length_eq]; omega
  · rw [pm.length_eq]; omega
end TW

set_option Elab.async false
set_option linter.all false
set_option maxRecDepth 100000
set_option maxHeartbeats 4000000
namespace TW
open PySem PySem.Spec PyProof.Rows L2

abbrev rowD (N : Nat) (f : Nat → List Int) : D := .lst ((List.range N).map fun p => eIL (f p))
theorem ixN_ok {N : Nat} {i : Int} (h0 : 0 ≤ i) (h1 : i < N) : ixN N i = some i.toNat := by
  unfold ixN
  rw [if_pos h0, if_pos h1]
theorem range_set {N : Nat} {α : Type} (g : Nat → α) (j : Nat) (x : α) : ((List.range N).map g).set j x = (List.range N).map fun p => if p = j then x else g p := by
  apply List.ext_getElem?
  intro m
  simp only [List.getElem?_set, List.getElem?_map, List.length_map, List.length_range]
  by_cases hm : m < N
  · have e : (List.range N)[m]? = some m := by rw [List.getElem?_range hm]
    by_cases h : j = m
    · subst h
      simp [hm]
    · have h' : ¬ m = j := fun z => h z.symm
      simp [h, h', e]
  · have e : (List.range N)[m]? = none := List.getElem?_eq_none (by rw [List.length_range]; omega)
    by_cases h : j = m
    · subst h
      simp [hm]
    · simp [h, e]
theorem row_app {N : Nat} {f : Nat → List Int} {i b : Int} (h0 : 0 ≤ i) (h1 : i < N) (hl : (f i.toNat).length < 1000000) : moP .append [.int b] [i] (rowD N f) = some (rowD N fun p => if p = i.toNat then f p ++ [b] else f p) := by
  show ((ixN ((List.range N).map fun p => eIL (f p)).length i).bind fun j => (((List.range N).map fun p => eIL (f p))[j]?).bind fun d => (moP .append [.int b] [] d).map fun d' => D.lst (((List.range N).map fun p => eIL (f p)).set j d')) = _
  have hN : i.toNat < N := by omega
  rw [List.length_map, List.length_range, ixN_ok h0 h1, Option.bind_some, List.getElem?_map, List.getElem?_range hN]
  have e : moP .append [.int b] [] (eIL (f i.toNat)) = some (eIL (f i.toNat ++ [b])) := by
    show ((if ((f i.toNat).map D.int).length < SZ then some ((f i.toNat).map D.int ++ [.int b]) else none)).map D.lst = _
    rw [List.length_map, if_pos hl, Option.map_some]
    simp [eIL]
  rw [Option.map_some, Option.bind_some, e, Option.map_some, range_set]
  congr 3
  funext p
  by_cases h : p = i.toNat <;> simp [h]
theorem sort_I (ns : List Int) : biD .sorted [.lst (ns.map D.int)] = some (.dp, .lst ((isortB ltZ ns).map D.int)) := by
  show sortD (ns.map D.int) = _
  unfold sortD
  rw [intsD_eI]
def nb (ts : List (Int × Int)) (p : Int) : List Int := ts.flatMap fun t => if t.1 = p then [t.2] else if t.2 = p then [t.1] else []
theorem nb_cons (t : Int × Int) (ts : List (Int × Int)) (p : Int) : nb (t :: ts) p = (if t.1 = p then [t.2] else if t.2 = p then [t.1] else []) ++ nb ts p := by
  unfold nb
  rw [List.flatMap_cons]
theorem getP_row {N : Nat} {f : Nat → List Int} {i : Int} (h0 : 0 ≤ i) (h1 : i < N) : getP [i] (rowD N f) = some (eIL (f i.toNat)) := by
  show (atI ((List.range N).map fun p => eIL (f p)) i).bind (getP []) = _
  unfold atI
  have hN : i.toNat < N := by omega
  rw [List.length_map, List.length_range, ixN_ok h0 h1, Option.bind_some, List.getElem?_map, List.getElem?_range hN]
  rfl
theorem near_step {T : Tb} {n : Int} {ts : List (Int × Int)} {N : Nat} (hN : (N : Int) = n) {f : Nat → List Int} (hl : ∀ p, (f p).length < 1000) {t : Int × Int} (ht : 0 ≤ t.1 ∧ t.1 < t.2 ∧ t.2 < n) (x2 x3 x4 x5 : Sl) :
    (match bindT [2, 3] false (eP t) [some (.sh, webD n ts), some (.dp, rowD N f), x2, x3, x4, x5] with | none => none | some e2 => exs T fu_near_of_b0 e2) =
      some (.ok (.nx [some (.sh, webD n ts), some (.dp, rowD N fun p => f p ++ (if t.1 = p then [t.2] else if t.2 = p then [t.1] else [])), some (.sh, .int t.1), some (.sh, .int t.2), x4, x5])) := by
  have a1 : moP .append [.int t.2] [t.1] (rowD N f) = some (rowD N fun p => if p = t.1.toNat then f p ++ [t.2] else f p) := row_app ht.1 (by omega) (by have := hl t.1.toNat; omega)
  have a2 : moP .append [.int t.1] [t.2] (rowD N fun p => if p = t.1.toNat then f p ++ [t.2] else f p) = some (rowD N fun p => if p = t.2.toNat then (if p = t.1.toNat then f p ++ [t.2] else f p) ++ [t.1] else (if p = t.1.toNat then f p ++ [t.2] else f p)) := row_app (by omega) (by omega) (by
    have := hl t.2.toNat
    split
    · rw [List.length_append, List.length_singleton]; omega
    · omega)
  have a3 : (fun p : Nat => if p = t.2.toNat then (if p = t.1.toNat then f p ++ [t.2] else f p) ++ [t.1] else (if p = t.1.toNat then f p ++ [t.2] else f p)) = fun p => f p ++ (if t.1 = p then [t.2] else if t.2 = p then [t.1] else []) := by
    funext p
    by_cases h1 : p = t.1.toNat
    · have h2 : ¬ p = t.2.toNat := by omega
      have h3 : t.1 = (p : Int) := by omega
      rw [if_neg h2, if_pos h1, if_pos h3]
    · have h3 : ¬ t.1 = (p : Int) := by omega
      by_cases h2 : p = t.2.toNat
      · have h4 : t.2 = (p : Int) := by omega
        rw [if_pos h2, if_neg h1, if_neg h3, if_pos h4]
      · have h4 : ¬ t.2 = (p : Int) := by omega
        rw [if_neg h2, if_neg h1, if_neg h3, if_neg h4, List.append_nil]
  have b1 := getP_row (N := N) (f := f) (i := t.1) ht.1 (by omega)
  have b2 := getP_row (N := N) (f := fun p => if p = t.1.toNat then f p ++ [t.2] else f p) (i := t.2) (by omega) (by omega)
  rw [a3] at a2
  simp [bindT, fu_near_of_b0, exs, ex, ev, evs, evP, okOnly, b1, b2, gives, nms, nm, ownS, moS, closeds, a1, a2]
theorem near_loop {T : Tb} {n : Int} {us : List (Int × Int)} {N : Nat} (hN : (N : Int) = n) (x4 x5 : Sl) : ∀ {ts : List (Int × Int)} {f : Nat → List Int} {x2 x3 : Sl}, (∀ p, (f p).length + ts.length < 1000) → (∀ t ∈ ts, 0 ≤ t.1 ∧ t.1 < t.2 ∧ t.2 < n) →
    ∃ y2 y3, forL (fun x e1 => match bindT [2, 3] false x e1 with | none => none | some e2 => exs T fu_near_of_b0 e2) (ts.map eP) [some (.sh, webD n us), some (.dp, rowD N f), x2, x3, x4, x5] =
      some (.ok (.nx [some (.sh, webD n us), some (.dp, rowD N fun p => f p ++ nb ts p), y2, y3, x4, x5]))
  | [], f, x2, x3, _, _ => ⟨x2, x3, by simp [forL, nb]⟩
  | t :: ts, f, x2, x3, hl, ht => by
    have h1 := near_step (T := T) (ts := us) hN (f := f) (fun p => by have := hl p; rw [List.length_cons] at this; omega) (ht t List.mem_cons_self) x2 x3 x4 x5
    have hl2 : ∀ p : Nat, (f p ++ (if t.1 = (p : Int) then [t.2] else if t.2 = (p : Int) then [t.1] else [])).length + ts.length < 1000 := fun p => by
      have := hl p
      rw [List.length_cons] at this
      rw [List.length_append]
      have : (if t.1 = (p : Int) then [t.2] else if t.2 = (p : Int) then [t.1] else []).length ≤ 1 := by
        split
        · simp
        · split <;> simp
      omega
    obtain ⟨y2, y3, h2⟩ := near_loop hN x4 x5 (ts := ts) (x2 := some (.sh, .int t.1)) (x3 := some (.sh, .int t.2)) hl2 fun u hu => ht u (List.mem_cons_of_mem _ hu)
    refine ⟨y2, y3, ?_⟩
    rw [List.map_cons]
    unfold forL
    rw [h1, bnd_ok]
    refine h2.trans ?_
    have e : (fun p : Nat => (f p ++ if t.1 = (p : Int) then [t.2] else if t.2 = (p : Int) then [t.1] else []) ++ nb ts (p : Int)) = fun p : Nat => f p ++ nb (t :: ts) (p : Int) := by
      funext p
      rw [nb_cons, List.append_assoc]
    rw [e]
abbrev nearD (n : Int) (ts : List (Int × Int)) : D := rowD n.toNat fun p => isortB ltZ (nb ts p)
theorem rows_nil (N : Nat) : rngD 0 (N : Int) = (List.range N).map fun (p : Nat) => D.int (p : Int) := by
  unfold rngD
  simp
theorem c_near_of {n : Int} {ts : List (Int × Int)} (w : Web n ts) (k : Nat) : run GP (k + 1) 5 [webD n ts] = some (.ok (.dp, nearD n ts)) := by
  show callF (run GP k) fu_near_of [webD n ts] = _
  obtain ⟨N, hN⟩ : ∃ N : Nat, (N : Int) = n := ⟨n.toNat, Int.toNat_of_nonneg w.lo⟩
  have hr : rngOk 0 n = true := rng_ok (by decide) (by have := w.hi; have := w.lo; omega) (by have := w.hi; omega)
  obtain ⟨y2, y3, h⟩ := near_loop (T := run GP k) (us := ts) hN none none (ts := ts) (f := fun _ => []) (x2 := none) (x3 := none) (fun p => by have := w.len; simp; omega) w.ok
  have e1 : ∀ f : D → Option (Option (Md × D)), (∀ p : Nat, f (.int p) = some (some (.dp, .lst []))) → compL f (rngD 0 n) = some ((List.range N).map fun _ => (Md.dp, D.lst [])) := fun f hf => by
    rw [← hN, rows_nil]
    exact compL_mapE fun p _ => hf p
  have e2 : ∀ f : D → Option (Option (Md × D)), (∀ l : List Int, f (eIL l) = some (some (.dp, eIL (isortB ltZ l)))) → compL f ((List.range N).map fun (p : Nat) => eIL ([] ++ nb ts (p : Int))) = some ((List.range N).map fun (p : Nat) => (Md.dp, eIL (isortB ltZ (nb ts (p : Int))))) := fun f hf => by
    refine compL_mapE fun p _ => ?_
    rw [hf]
    rfl
  have cl : ∀ {α : Type} (g : α → D) (xs : List α), closeds (xs.map fun x => (Md.dp, g x)) = true := fun g xs => by
    induction xs with
    | nil => rfl
    | cons x xs ih => simp [closeds, ih]
  simp [callF, fu_near_of, exs, ex, ev, evs, evr, evC, evS, start0, hr]
  rw [e1 _ (fun p => by simp [bindT, okOnly, boxM, closeds])]
  simp [boxM, cl, give, keep, nm, nms, nmS, ownS, itemsD, frz, frzS, Function.comp_def]
  erw [h]
  simp [itemsD]
  erw [e2 _ (fun l => by simp [bindT, okOnly, sort_I])]
  simp [cl, Function.comp_def]
  have : n.toNat = N := by omega
  rw [this]
end TW

set_option Elab.async false
set_option linter.all false
set_option maxRecDepth 100000
set_option maxHeartbeats 4000000
namespace TW
open PySem PySem.Spec PyProof.Rows L2

def shr (a b : Int × Int) : Bool := (decide (b.1 = a.1) || decide (b.2 = a.1)) || (decide (b.1 = a.2) || decide (b.2 = a.2))
end TW

set_option Elab.async false
set_option linter.all false
set_option maxRecDepth 100000
set_option maxHeartbeats 4000000
namespace TW
open PySem PySem.Spec PyProof.Rows L2

def deg (ts : List (Int × Int)) (p : Int) : Nat := ts.countP fun t => decide (t.1 = p) || decide (t.2 = p)
theorem deg_cons (t : Int × Int) (ts : List (Int × Int)) (p : Int) : deg (t :: ts) p = deg ts p + (if (decide (t.1 = p) || decide (t.2 = p)) = true then 1 else 0) := by
  unfold deg
  rw [List.countP_cons]
abbrev two (d : Int) : Int := d * (d - 1) / 2
end TW

set_option Elab.async false
set_option linter.all false
set_option maxRecDepth 100000
set_option maxHeartbeats 4000000
namespace TW
open PySem PySem.Spec PyProof.Rows L2

end TW

set_option Elab.async false
set_option linter.all false
set_option maxRecDepth 100000
set_option maxHeartbeats 4000000
namespace TW
open PySem PySem.Spec PyProof.Rows L2

end TW

set_option Elab.async false
set_option linter.all false
set_option maxRecDepth 100000
set_option maxHeartbeats 4000000
namespace TW
open PySem PySem.Spec PyProof.Rows L2

section
variable (F : Tb) (e : Dn)
theorem q_cnil : evC F [] e = ok true := by first | (simp only [evC]; done) | (simp only [evC]; rfl)
theorem q_ccons (a : E) (as : List E) : evC F (a :: as) e = bnd (ev F a e) fun p => match boolD p.2 with
    | none => none
    | some false => ok false
    | some true => evC F as e := by first | (simp only [evC]; done) | (simp only [evC]; rfl)
end
theorem give_eq (is : List Nat) (m : Md) (d : D) (e : Dn) : give is m d e = if closed m d = true then e else if is.any (fun i => match e[i]? with | some s => ownS s | none => false) = true then frz is e else e := by
  unfold give
  cases closed m d
  · rfl
  · show (if _ then e else e) = e
    split <;> rfl
theorem gives_eq (is : List Nat) (ps : List (Md × D)) (e : Dn) : gives is ps e = if closeds ps = true then e else if is.any (fun i => match e[i]? with | some s => ownS s | none => false) = true then frz is e else e := by
  unfold gives
  cases closeds ps
  · rfl
  · show (if _ then e else e) = e
    split <;> rfl

theorem compL_gen {α : Type} {enc : α → D} {f : D → Option (Option (Md × D))} {p : α → Bool} {g : α → Md × D} : ∀ {xs : List α}, (∀ x ∈ xs, f (enc x) = some (if p x = true then some (g x) else none)) → compL f (xs.map enc) = some ((xs.filter p).map g)
  | [], _ => rfl
  | x :: xs, h => by
    have h1 := h x List.mem_cons_self
    have ih := compL_gen (xs := xs) fun y hy => h y (List.mem_cons_of_mem _ hy)
    rw [List.map_cons, compL, h1, List.filter_cons]
    by_cases hp : p x = true
    · simp only [hp, if_true, ih]
      rfl
    · simp only [hp, if_false, ih]
      simp
theorem ev_comp {F : Tb} {ts : List Nat} {one : Bool} {s : Sr} {cs : List E} {a : E} {e : Dn} {α : Type} {m : Md} (enc : α → D) (xs : List α) (p : α → Bool) (g : α → Md × D)
    (hs : evS F s e = some (.ok (m, xs.map enc)))
    (hb : ∀ x ∈ xs, ∃ e1, bindT ts one (enc x) e = some e1 ∧ evC F cs e1 = some (.ok (p x)) ∧ (p x = true → ev F a e1 = some (.ok (g x)))) :
    ev F (.comp ts one s cs a) e = some (.ok (boxM ((xs.filter p).map g), .lst ((xs.filter p).map fun x => (g x).2))) := by
  simp only [ev, hs, bnd_ok]
  rw [compL_gen (p := p) (g := g) (fun x hx => by
    obtain ⟨e1, h1, h2, h3⟩ := hb x hx
    rw [h1]
    simp only [Option.bind_some, h2, okOnly]
    by_cases hp : p x = true
    · simp [hp, h3 hp, okOnly]
    · simp [hp])]
  simp [List.map_map, Function.comp_def]
theorem closeds_all {ps : List (Md × D)} (h : ∀ p ∈ ps, closed p.1 p.2 = true) : closeds ps = true := by
  induction ps with
  | nil => rfl
  | cons p ps ih => simp [closeds, h p List.mem_cons_self, ih fun q hq => h q (List.mem_cons_of_mem _ hq)]
theorem enuD_map {α : Type} (f : α → D) : ∀ (xs : List α) (a : Nat), enuD a (xs.map f) = (xs.zipIdx a).map fun p => D.tup [.int (p.2 : Int), f p.1]
  | [], a => rfl
  | x :: xs, a => by
    rw [List.map_cons, enuD, enuD_map f xs (a + 1), List.zipIdx_cons, List.map_cons]
end TW

set_option linter.all false
namespace TW
def dn (f : Nat → Nat) : Nat → Nat
  | 0 => 0
  | k + 1 => f k
def Full (xs : List Int) : Prop := 0 < xs.length ∧ 0 < xs.getD (xs.length - 1) 0 ∧ ∀ m, 0 ≤ xs.getD m 0
end TW

set_option Elab.async false
set_option linter.all false
set_option maxRecDepth 100000
set_option maxHeartbeats 4000000
namespace TW
open PySem PySem.Spec PyProof.Rows L2

theorem dats_I : ∀ (xs : List Int) (n : Nat), dats (xs.map D.int) n = true
  | [], _ => rfl
  | x :: xs, n => by
    show (true && dats (xs.map D.int) n) = true
    rw [dats_I xs]
    rfl
theorem in_I (x : Int) (xs : List Int) : inD (.int x) (.lst (xs.map D.int)) = some (decide (x ∈ xs)) := by
  have h1 : dat (.int x) 20 = true := rfl
  show (if dat (.int x) 20 && dats (xs.map D.int) 20 then some ((xs.map D.int).any fun z => eqD z (.int x)) else none) = _
  rw [h1, dats_I]
  simp only [Bool.and_self, if_true, List.any_map]
  congr 1
  rw [Bool.eq_iff_iff]
  simp only [List.any_eq_true, Function.comp_apply, decide_eq_true_eq]
  have e : ∀ a b : Int, eqD (.int a) (.int b) = true ↔ a = b := fun a b => by
    show (a == b) = true ↔ _
    simp
  constructor
  · rintro ⟨y, hy, h⟩
    rw [← (e _ _).mp h]
    exact hy
  · intro h
    exact ⟨x, h, (e _ _).mpr rfl⟩
@[simp] theorem isin_I (x : Int) (xs : List Int) : cmpD .isin (.int x) (.lst (xs.map D.int)) = some (decide (x ∈ xs)) := in_I x xs
@[simp] theorem notin_I (x : Int) (xs : List Int) : cmpD .notin (.int x) (.lst (xs.map D.int)) = some (!decide (x ∈ xs)) := by
  show (inD (.int x) (.lst (xs.map D.int))).map _ = _
  rw [in_I]
  rfl
@[simp] theorem sub_l0 (a : D) (r : List D) : subD (.lst (a :: r)) (.int 0) = some a := by
  show atI (a :: r) 0 = some a
  exact atI_nat (j := 0) rfl
theorem lfrees_I : ∀ xs : List Int, lfrees (xs.map D.int) = true
  | [] => rfl
  | x :: xs => by
    show (true && lfrees (xs.map D.int)) = true
    rw [lfrees_I xs]
    rfl
theorem lfrees_P : ∀ xs : List (Int × Int), lfrees (xs.map eP) = true
  | [] => rfl
  | x :: xs => by
    show (true && lfrees (xs.map eP)) = true
    rw [lfrees_P xs]
    rfl
@[simp] theorem closed_flI (xs : List Int) : closed .fl (.lst (xs.map D.int)) = true := lfrees_I xs
@[simp] theorem closed_flP (xs : List (Int × Int)) : closed .fl (.lst (xs.map eP)) = true := lfrees_P xs
@[simp] theorem closed_flP' (xs : List (Int × Int)) : closed .fl (.lst (xs.map fun p => D.tup [.int p.1, .int p.2])) = true := lfrees_P xs
@[simp] theorem closed_shL (ds : List D) : closed .sh (.lst ds) = false := rfl
theorem evC_one {F : Tb} {a : E} {e : Dn} {m : Md} {b : Bool} (h : ev F a e = some (.ok (m, .bl b))) : evC F [a] e = some (.ok b) := by
  rw [q_ccons, h, bnd_ok]
  cases b <;> simp [q_cnil]
theorem mem_sort (xs : List Int) (x : Int) : x ∈ isortB ltZ xs ↔ x ∈ xs := (isortB_perm xs).mem_iff
end TW

set_option Elab.async false
set_option linter.all false
set_option maxRecDepth 100000
set_option maxHeartbeats 4000000
namespace TW
open PySem PySem.Spec PyProof.Rows L2

def Md.le : Md → Md → Bool
  | .sh, _ => true
  | .fl, .sh => false
  | .fl, _ => true
  | .dp, .dp => true
  | .dp, _ => false
theorem Md.le_refl (m : Md) : Md.le m m = true := by cases m <;> rfl
theorem Md.le_trans {a b c : Md} (h : Md.le a b = true) (k : Md.le b c = true) : Md.le a c = true := by revert h k; cases a <;> cases b <;> cases c <;> decide
theorem Md.dp_le {m : Md} (h : Md.le .dp m = true) : m = .dp := by cases m <;> first | rfl | cases h
def PLe (p q : Md × D) : Prop := p.2 = q.2 ∧ Md.le p.1 q.1 = true
theorem PLe.refl (p : Md × D) : PLe p p := ⟨rfl, Md.le_refl _⟩
theorem PLe.trans {p q r : Md × D} (h : PLe p q) (k : PLe q r) : PLe p r := ⟨h.1.trans k.1, Md.le_trans h.2 k.2⟩
def SLe : Sl → Sl → Prop
  | none, _ => True
  | some p, some q => PLe p q
  | some _, none => False
theorem SLe.refl : ∀ s : Sl, SLe s s
  | none => trivial
  | some p => PLe.refl p
theorem SLe.trans : ∀ {a b c : Sl}, SLe a b → SLe b c → SLe a c
  | none, _, _, _, _ => trivial
  | some p, some q, some r, h, k => PLe.trans h k
  | some p, some q, none, h, k => k.elim
  | some p, none, _, h, _ => h.elim
def ELe : Dn → Dn → Prop
  | [], [] => True
  | g :: Γ, s :: e => SLe g s ∧ ELe Γ e
  | [], _ :: _ => False
  | _ :: _, [] => False
theorem ELe.refl : ∀ e : Dn, ELe e e
  | [] => trivial
  | s :: e => ⟨SLe.refl s, ELe.refl e⟩
theorem ELe.trans : ∀ {a b c : Dn}, ELe a b → ELe b c → ELe a c
  | [], [], [], _, _ => trivial
  | _ :: _, _ :: _, _ :: _, h, k => ⟨h.1.trans k.1, ELe.trans h.2 k.2⟩
  | [], _ :: _, _, h, _ => h.elim
  | _ :: _, [], _, h, _ => h.elim
  | [], [], _ :: _, _, k => k.elim
  | _ :: _, _ :: _, [], _, k => k.elim
theorem ELe.get : ∀ {Γ e : Dn}, ELe Γ e → ∀ (i : Nat) (p : Md × D), Γ[i]? = some (some p) → ∃ q, e[i]? = some (some q) ∧ PLe p q
  | [], [], _, i, p, hp => by simp at hp
  | g :: Γ, s :: e, h, 0, p, hp => by
    simp at hp
    subst hp
    match s, h.1 with
    | some q, hq => exact ⟨q, rfl, hq⟩
    | none, hq => exact hq.elim
  | g :: Γ, s :: e, h, i + 1, p, hp => by
    have := ELe.get h.2 i p (by simpa using hp)
    simpa using this
  | [], _ :: _, h, _, _, _ => h.elim
  | _ :: _, [], h, _, _, _ => h.elim
theorem ELe.set : ∀ {Γ e : Dn}, ELe Γ e → ∀ (i : Nat) {s t : Sl}, SLe s t → ELe (Γ.set i s) (e.set i t)
  | [], [], _, i, s, t, h => trivial
  | g :: Γ, u :: e, h, 0, s, t, k => ⟨k, h.2⟩
  | g :: Γ, u :: e, h, i + 1, s, t, k => ⟨h.1, ELe.set h.2 i k⟩
  | [], _ :: _, h, _, _, _, _ => h.elim
  | _ :: _, [], h, _, _, _, _ => h.elim
theorem ELe.len : ∀ {Γ e : Dn}, ELe Γ e → Γ.length = e.length
  | [], [], _ => rfl
  | g :: Γ, u :: e, h => by rw [List.length_cons, List.length_cons, ELe.len h.2]
  | [], _ :: _, h => h.elim
  | _ :: _, [], h => h.elim
theorem ELe.nth : ∀ {Γ e : Dn}, ELe Γ e → ∀ (i : Nat), (Γ[i]? = none ∧ e[i]? = none) ∨ ∃ s t, Γ[i]? = some s ∧ e[i]? = some t ∧ SLe s t
  | [], [], _, i => .inl ⟨by simp, by simp⟩
  | g :: Γ, u :: e, h, 0 => .inr ⟨g, u, rfl, rfl, h.1⟩
  | g :: Γ, u :: e, h, i + 1 => by
    have := ELe.nth h.2 i
    simpa using this
  | [], _ :: _, h, _ => h.elim
  | _ :: _, [], h, _ => h.elim
def MLe {α β : Type} (R : α → β → Prop) : M α → M β → Prop
  | none, _ => True
  | some (.er C), r => r = some (.er C)
  | some (.ok a), r => ∃ b, r = some (.ok b) ∧ R a b
section
variable {α β γ δ : Type}
theorem MLe.bnd {R : α → β → Prop} {S : γ → δ → Prop} {x : M α} {y : M β} {f : α → M γ} {g : β → M δ} (h : MLe R x y) (k : ∀ a b, R a b → MLe S (f a) (g b)) : MLe S (TW.bnd x f) (TW.bnd y g) := by
  match x, h with
  | none, _ => exact trivial
  | some (.er C), h =>
    have h : y = some (.er C) := h
    subst h
    exact rfl
  | some (.ok a), h =>
    obtain ⟨b, rfl, hb⟩ := h
    exact k a b hb
theorem MLe.lift_ {R : α → β → Prop} {x : Option α} {y : Option β} (h : ∀ a, x = some a → ∃ b, y = some b ∧ R a b) : MLe R (lift x) (lift y) := by
  cases x with
  | none => exact trivial
  | some a =>
    obtain ⟨b, rfl, hb⟩ := h a rfl
    exact ⟨b, rfl, hb⟩
theorem MLe.lift_refl {R : α → α → Prop} (hr : ∀ a, R a a) (x : Option α) : MLe R (lift x) (lift x) := MLe.lift_ fun a h => ⟨a, h, hr a⟩
end
def PsLe : List (Md × D) → List (Md × D) → Prop
  | [], [] => True
  | p :: ps, q :: qs => PLe p q ∧ PsLe ps qs
  | [], _ :: _ => False
  | _ :: _, [] => False
theorem PsLe.snd : ∀ {ps qs : List (Md × D)}, PsLe ps qs → ps.map Prod.snd = qs.map Prod.snd
  | [], [], _ => rfl
  | p :: ps, q :: qs, h => by rw [List.map_cons, List.map_cons, h.1.1, PsLe.snd h.2]
  | [], _ :: _, h => h.elim
  | _ :: _, [], h => h.elim
theorem closed_le {d : D} {m n : Md} (h : Md.le m n = true) (c : closed m d = true) : closed n d = true := by
  cases m <;> cases n <;> first | exact c | rfl | cases h | skip
  have c : lfree d = true := c
  cases d <;> first | exact c | rfl | (simp [lfree] at c)
theorem closed_PLe {p q : Md × D} (h : PLe p q) (c : closed p.1 p.2 = true) : closed q.1 q.2 = true := by
  rw [← h.1]
  exact closed_le h.2 c
theorem closeds_le : ∀ {ps qs : List (Md × D)}, PsLe ps qs → closeds ps = true → closeds qs = true
  | [], [], _, _ => rfl
  | p :: ps, q :: qs, h, c => by
    simp only [closeds, Bool.and_eq_true] at c ⊢
    exact ⟨closed_PLe h.1 c.1, closeds_le h.2 c.2⟩
  | [], _ :: _, h, _ => h.elim
  | _ :: _, [], h, _ => h.elim
theorem boxM_le {ps qs : List (Md × D)} (h : PsLe ps qs) : Md.le (boxM ps) (boxM qs) = true := by
  unfold boxM
  cases e : closeds ps with
  | true => rw [closeds_le h e]; rfl
  | false => cases closeds qs <;> rfl
theorem tupM_le {ps qs : List (Md × D)} (h : PsLe ps qs) : Md.le (tupM ps) (tupM qs) = true := by
  unfold tupM
  cases e : closeds ps with
  | true => rw [closeds_le h e]; rfl
  | false => cases closeds qs <;> rfl
theorem keep_le {p q : Md × D} (h : PLe p q) : PLe (keep p.1 p.2) (keep q.1 q.2) := by
  unfold keep
  rw [← h.1]
  cases scal p.2
  · exact ⟨rfl, h.2⟩
  · exact ⟨rfl, rfl⟩
theorem bindT_le {ts : List Nat} {one : Bool} {x : D} {Γ e : Dn} (h : ELe Γ e) : ∀ Γ1, bindT ts one x Γ = some Γ1 → ∃ e1, bindT ts one x e = some e1 ∧ ELe Γ1 e1 := by
  intro Γ1 hb
  unfold bindT at hb ⊢
  split at hb
  · cases hb
    exact ⟨_, rfl, h.set _ (SLe.refl _)⟩
  · cases hb
    exact ⟨_, rfl, (h.set _ (SLe.refl _)).set _ (SLe.refl _)⟩
  · cases hb
def OOLe : Option (Option (Md × D)) → Option (Option (Md × D)) → Prop
  | none, _ => True
  | some none, r => r = some none
  | some (some p), r => ∃ q, r = some (some q) ∧ PLe p q
theorem compL_le {f g : D → Option (Option (Md × D))} (h : ∀ x, OOLe (f x) (g x)) : ∀ (xs : List D) (ps : List (Md × D)), compL f xs = some ps → ∃ qs, compL g xs = some qs ∧ PsLe ps qs
  | [], ps, hp => by
    cases hp
    exact ⟨[], rfl, trivial⟩
  | x :: xs, ps, hp => by
    have hx := h x
    unfold compL at hp ⊢
    match e : f x, hp, hx with
    | none, hp, _ => cases hp
    | some none, hp, hx =>
      have hx : g x = some none := hx
      rw [hx]
      exact compL_le h xs ps hp
    | some (some p), hp, hx =>
      obtain ⟨q, hq, hl⟩ := hx
      rw [hq]
      cases e2 : compL f xs with
      | none => rw [e2] at hp; cases hp
      | some r =>
        rw [e2] at hp
        cases hp
        obtain ⟨qs, h1, h2⟩ := compL_le h xs r e2
        refine ⟨q :: qs, ?_, hl, h2⟩
        simp only [h1]
        rfl
theorem okOnly_le {α β : Type} {R : α → β → Prop} {x : M α} {y : M β} (h : MLe R x y) {a : α} (ha : okOnly x = some a) : ∃ b, okOnly y = some b ∧ R a b := by
  match x, h, ha with
  | none, _, ha => cases ha
  | some (.er C), _, ha => cases ha
  | some (.ok a'), h, ha =>
    cases ha
    obtain ⟨b, rfl, hb⟩ := h
    exact ⟨b, rfl, hb⟩
def SrLe (p q : Md × List D) : Prop := p.2 = q.2 ∧ Md.le p.1 q.1 = true
section
variable (F : Tb)
mutual
theorem ev_le : ∀ (a : E) {Γ e : Dn}, ELe Γ e → MLe PLe (ev F a Γ) (ev F a e)
  | .var i, Γ, e, h => by
    simp only [ev]
    rcases h.nth i with ⟨h1, h2⟩ | ⟨s, t, h1, h2, h3⟩
    · rw [h1]; exact trivial
    · rw [h1, h2]
      match s, t, h3 with
      | none, _, _ => exact trivial
      | some p, some q, h3 => exact ⟨_, rfl, h3.1, rfl⟩
      | some p, none, h3 => exact h3.elim
  | .lit d, Γ, e, h => by
    simp only [ev]
    split
    · exact ⟨_, rfl, PLe.refl _⟩
    · exact trivial
  | .bin o a b, Γ, e, h => by
    simp only [ev]
    refine (ev_le a h).bnd fun p q h1 => (ev_le b h).bnd fun p2 q2 h2 => ?_
    rw [h1.1, h2.1]
    exact MLe.lift_refl PLe.refl _
  | .cmp o a b, Γ, e, h => by
    simp only [ev]
    refine (ev_le a h).bnd fun p q h1 => (ev_le b h).bnd fun p2 q2 h2 => ?_
    rw [h1.1, h2.1]
    exact MLe.lift_refl PLe.refl _
  | .chn o o2 a b c, Γ, e, h => by
    simp only [ev]
    refine (ev_le a h).bnd fun p q h1 => (ev_le b h).bnd fun p2 q2 h2 => ?_
    rw [h1.1, h2.1]
    split
    · exact trivial
    · exact ⟨_, rfl, PLe.refl _⟩
    · refine (ev_le c h).bnd fun p3 q3 h3 => ?_
      rw [h3.1]
      exact MLe.lift_refl PLe.refl _
  | .chn3 o o2 o3 a b c d, Γ, e, h => by
    simp only [ev]
    refine (ev_le a h).bnd fun p q h1 => (ev_le b h).bnd fun p2 q2 h2 => ?_
    rw [h1.1, h2.1]
    split
    · exact trivial
    · exact ⟨_, rfl, PLe.refl _⟩
    · refine (ev_le c h).bnd fun p3 q3 h3 => ?_
      rw [h3.1]
      split
      · exact trivial
      · exact ⟨_, rfl, PLe.refl _⟩
      · refine (ev_le d h).bnd fun p4 q4 h4 => ?_
        rw [h4.1]
        exact MLe.lift_refl PLe.refl _
  | .neg a, Γ, e, h => by
    simp only [ev]
    refine (ev_le a h).bnd fun p q h1 => ?_
    rw [h1.1]
    exact MLe.lift_refl PLe.refl _
  | .not a, Γ, e, h => by
    simp only [ev]
    refine (ev_le a h).bnd fun p q h1 => ?_
    rw [h1.1]
    exact MLe.lift_refl PLe.refl _
  | .and a b, Γ, e, h => by
    simp only [ev]
    refine (ev_le a h).bnd fun p q h1 => ?_
    rw [h1.1]
    split
    · exact trivial
    · exact ⟨_, rfl, PLe.refl _⟩
    · exact ev_le b h
  | .or a b, Γ, e, h => by
    simp only [ev]
    refine (ev_le a h).bnd fun p q h1 => ?_
    rw [h1.1]
    split
    · exact trivial
    · exact ⟨_, rfl, PLe.refl _⟩
    · exact ev_le b h
  | .ite c a b, Γ, e, h => by
    simp only [ev]
    refine (ev_le c h).bnd fun p q h1 => ?_
    rw [h1.1]
    split
    · exact trivial
    · exact ev_le a h
    · exact ev_le b h
  | .tup es, Γ, e, h => by
    simp only [ev]
    refine (evs_le es h).bnd fun ps qs h1 => ?_
    rw [h1.snd]
    exact ⟨_, rfl, rfl, tupM_le h1⟩
  | .lst es, Γ, e, h => by
    simp only [ev]
    refine (evs_le es h).bnd fun ps qs h1 => ?_
    rw [h1.snd]
    exact ⟨_, rfl, rfl, boxM_le h1⟩
  | .sub a i, Γ, e, h => by
    simp only [ev]
    refine (ev_le a h).bnd fun p q h1 => (ev_le i h).bnd fun p2 q2 h2 => ?_
    rw [h1.1, h2.1]
    exact MLe.lift_refl PLe.refl _
  | .slc pl ph a lo hi, Γ, e, h => by
    simp only [ev]
    refine (ev_le a h).bnd fun p q h1 => (ev_le lo h).bnd fun p2 q2 h2 => ?_
    rw [h1.1, h2.1]
    split
    · exact trivial
    · refine (ev_le hi h).bnd fun p3 q3 h3 => ?_
      rw [h3.1]
      split
      · exact trivial
      · exact MLe.lift_refl PLe.refl _
  | .rev a, Γ, e, h => by
    simp only [ev]
    refine (ev_le a h).bnd fun p q h1 => ?_
    rw [h1.1]
    split
    · exact ⟨_, rfl, PLe.refl _⟩
    · exact trivial
  | .att a f, Γ, e, h => by
    simp only [ev]
    refine (ev_le a h).bnd fun p q h1 => ?_
    rw [h1.1]
    exact MLe.lift_refl PLe.refl _
  | .cal f es, Γ, e, h => by
    simp only [ev]
    refine (evs_le es h).bnd fun ps qs h1 => ?_
    rw [h1.snd]
    refine MLe.bnd (R := Eq) ?_ fun a b hab => ?_
    · match F f (qs.map Prod.snd) with
      | none => exact trivial
      | some (.er C) => exact rfl
      | some (.ok p) => exact ⟨p, rfl, rfl⟩
    · subst hab
      refine ⟨_, rfl, ?_⟩
      by_cases h2 : a.1 = .sh ∧ closeds ps = true ∧ closed .fl a.2 = true
      · have h3 : a.1 = .sh ∧ closeds qs = true ∧ closed .fl a.2 = true := ⟨h2.1, closeds_le h1 h2.2.1, h2.2.2⟩
        rw [if_pos h2, if_pos h3]
        exact PLe.refl _
      · rw [if_neg h2]
        split
        · rename_i h3
          exact ⟨rfl, by rw [h3.1]; rfl⟩
        · exact PLe.refl _
  | .cav a g es, Γ, e, h => by
    simp only [ev]
    refine (ev_le a h).bnd fun p q h0 => ?_
    rw [h0.1]
    split
    · split
      case isFalse => exact trivial
      refine (evs_le es h).bnd fun ps qs h1 => ?_
      rw [h1.snd]
      match F _ (qs.map Prod.snd) with
      | none => exact trivial
      | some (.er C) => exact rfl
      | some (.ok p) => exact ⟨p, rfl, PLe.refl _⟩
    · exact trivial
  | .bi b es, Γ, e, h => by
    simp only [ev]
    refine (evs_le es h).bnd fun ps qs h1 => ?_
    rw [h1.snd]
    exact MLe.lift_refl PLe.refl _
  | .mix a b, Γ, e, h => by
    simp only [ev]
    refine (ev_le a h).bnd fun p q h1 => ?_
    rw [h1.1]
    split
    · refine (ev_le b h).bnd fun p2 q2 h2 => ?_
      rw [h2.1]
      split
      · exact MLe.lift_refl PLe.refl _
      · exact trivial
    · exact trivial
  | .isi a t, Γ, e, h => by
    simp only [ev]
    refine (ev_le a h).bnd fun p q h1 => ?_
    rw [h1.1]
    exact MLe.lift_refl PLe.refl _
  | .comp ts one s cs a, Γ, e, h => by
    simp only [ev]
    refine (evS_le s h).bnd fun p q h1 => ?_
    rw [h1.1]
    split
    · exact trivial
    · rename_i ps hps
      obtain ⟨qs, h2, h3⟩ := compL_le (g := fun x => (bindT ts one x e).bind fun e1 => (okOnly (evC F cs e1)).bind fun b => if b then (okOnly (ev F a e1)).map some else some none) (fun x => by
        cases hb : bindT ts one x Γ with
        | none => exact trivial
        | some Γ1 =>
          obtain ⟨e1, g1, g2⟩ := bindT_le h Γ1 hb
          rw [g1]
          simp only [Option.bind_some]
          cases hc : okOnly (evC F cs Γ1) with
          | none => exact trivial
          | some b =>
            obtain ⟨b', g3, g4⟩ := okOnly_le (evC_le cs g2) hc
            subst g4
            rw [g3]
            simp only [Option.bind_some]
            cases b with
            | false => exact rfl
            | true =>
              simp only [if_true]
              cases ha : okOnly (ev F a Γ1) with
              | none => exact trivial
              | some p =>
                obtain ⟨q, g5, g6⟩ := okOnly_le (ev_le a g2) ha
                rw [g5]
                exact ⟨q, rfl, g6⟩) _ ps hps
      rw [h2]
      refine ⟨_, rfl, ?_, boxM_le h3⟩
      show D.lst _ = D.lst _
      rw [h3.snd]
  | .dnew, Γ, e, h => by
    simp only [ev]
    exact ⟨_, rfl, PLe.refl _⟩
  | .mk C f i es, Γ, e, h => by
    simp only [ev]
    refine (evs_le es h).bnd fun ps qs h1 => ?_
    rw [h1.snd]
    refine MLe.bnd (R := Eq) ?_ fun a b hab => ?_
    · match F i (.non :: qs.map Prod.snd) with
      | none => exact trivial
      | some (.er C) => exact rfl
      | some (.ok p) => exact ⟨p, rfl, rfl⟩
    · subst hab
      exact ⟨_, rfl, PLe.refl _⟩
  | .met a tb es, Γ, e, h => by
    simp only [ev]
    refine (ev_le a h).bnd fun p q h0 => ?_
    rw [h0.1]
    split
    · split
      case isTrue => exact trivial
      split
      · refine (evs_le es h).bnd fun ps qs h1 => ?_
        rw [h1.snd]
        match F _ (_ :: qs.map Prod.snd) with
        | none => exact trivial
        | some (.er C) => exact rfl
        | some (.ok p) => exact ⟨p, rfl, PLe.refl _⟩
      · exact trivial
    · exact trivial
  | .isc a cs, Γ, e, h => by
    simp only [ev]
    refine (ev_le a h).bnd fun p q h1 => ?_
    rw [h1.1]
    exact MLe.lift_refl PLe.refl _
  | .csel gs a es, Γ, e, h => by
    simp only [ev]
    refine (ev_le a h).bnd fun p q h0 => ?_
    rw [h0.1]
    split
    · split
      · refine (evs_le es h).bnd fun ps qs h1 => ?_
        rw [h1.snd]
        match F _ (qs.map Prod.snd) with
        | none => exact trivial
        | some (.er C) => exact rfl
        | some (.ok p) => exact ⟨p, rfl, PLe.refl _⟩
      · exact trivial
    · exact trivial
  | .orv a b, Γ, e, h => by
    simp only [ev]
    refine (ev_le a h).bnd fun p q h0 => ?_
    obtain ⟨m, d⟩ := p
    obtain ⟨n, d'⟩ := q
    obtain ⟨rfl, h2⟩ := h0
    simp only
    split
    · exact ev_le b h
    · exact ev_le b h
    · exact ⟨_, rfl, rfl, h2⟩
    · exact trivial
theorem evs_le : ∀ (as : List E) {Γ e : Dn}, ELe Γ e → MLe PsLe (evs F as Γ) (evs F as e)
  | [], Γ, e, h => by
    simp only [evs]
    exact ⟨_, rfl, trivial⟩
  | a :: as, Γ, e, h => by
    simp only [evs]
    exact (ev_le a h).bnd fun p q h1 => (evs_le as h).bnd fun ps qs h2 => ⟨_, rfl, h1, h2⟩
theorem evC_le : ∀ (as : List E) {Γ e : Dn}, ELe Γ e → MLe Eq (evC F as Γ) (evC F as e)
  | [], Γ, e, h => by
    simp only [evC]
    exact ⟨_, rfl, rfl⟩
  | a :: as, Γ, e, h => by
    simp only [evC]
    refine (ev_le a h).bnd fun p q h1 => ?_
    rw [h1.1]
    split
    · exact trivial
    · exact ⟨_, rfl, rfl⟩
    · exact evC_le as h
theorem evS_le : ∀ (s : Sr) {Γ e : Dn}, ELe Γ e → MLe SrLe (evS F s Γ) (evS F s e)
  | .seq a, Γ, e, h => by
    simp only [evS]
    refine (ev_le a h).bnd fun p q h1 => ?_
    rw [h1.1]
    refine MLe.lift_ fun x hx => ?_
    cases hi : itemsD q.2 with
    | none => rw [hi] at hx; cases hx
    | some ds =>
      rw [hi] at hx
      cases hx
      exact ⟨_, rfl, rfl, h1.2⟩
  | .rng a b, Γ, e, h => by
    simp only [evS]
    refine (ev_le a h).bnd fun p q h1 => (ev_le b h).bnd fun p2 q2 h2 => ?_
    rw [h1.1, h2.1]
    split
    · split
      · exact ⟨_, rfl, rfl, rfl⟩
      · exact trivial
    · exact trivial
  | .enu a, Γ, e, h => by
    simp only [evS]
    refine (ev_le a h).bnd fun p q h1 => ?_
    rw [h1.1]
    split
    · exact ⟨_, rfl, rfl, h1.2⟩
    · exact trivial
  | .zip a b, Γ, e, h => by
    simp only [evS]
    refine (ev_le a h).bnd fun p q h1 => (ev_le b h).bnd fun p2 q2 h2 => ?_
    rw [h1.1, h2.1]
    split
    · exact ⟨_, rfl, rfl, rfl⟩
    · exact trivial
end
end
end TW

set_option Elab.async false
set_option linter.all false
set_option maxRecDepth 100000
set_option maxHeartbeats 4000000
namespace TW
open PySem PySem.Spec PyProof.Rows L2
theorem frzS_le : ∀ s : Sl, SLe (frzS s) s
  | none => trivial
  | some (m, d) => ⟨rfl, rfl⟩
theorem frzS_mono : ∀ {s t : Sl}, SLe s t → SLe (frzS s) (frzS t)
  | none, _, _ => trivial
  | some p, some q, h => ⟨h.1, rfl⟩
  | some p, none, h => h.elim
theorem frz_mono : ∀ (is : List Nat) {Γ e : Dn}, ELe Γ e → ELe (frz is Γ) (frz is e)
  | [], Γ, e, h => h
  | i :: is, Γ, e, h => by
    unfold frz
    refine frz_mono is ?_
    rcases h.nth i with ⟨h1, h2⟩ | ⟨s, t, h1, h2, h3⟩
    · rw [h1, h2]; exact h
    · rw [h1, h2]
      exact h.set i (frzS_mono h3)
theorem set_self : ∀ (e : Dn) (i : Nat) (s : Sl), e[i]? = some s → e.set i s = e
  | [], i, s, h => rfl
  | u :: e, 0, s, h => by
    simp at h
    subst h
    rfl
  | u :: e, i + 1, s, h => by
    have := set_self e i s (by simpa using h)
    simp [this]
theorem frz_le : ∀ (is : List Nat) (e : Dn), ELe (frz is e) e
  | [], e => ELe.refl e
  | i :: is, e => by
    unfold frz
    refine (frz_le is _).trans ?_
    cases h : e[i]? with
    | none => exact ELe.refl e
    | some s =>
      have := (ELe.refl e).set i (frzS_le s)
      rw [set_self e i s h] at this
      exact this
theorem le_frz : ∀ (is : List Nat) {Γ e : Dn}, ELe Γ e → (is.any (fun i => match Γ[i]? with | some s => ownS s | none => false)) = false → ELe Γ (frz is e)
  | [], Γ, e, h, _ => h
  | i :: is, Γ, e, h, n => by
    simp only [List.any_cons, Bool.or_eq_false_iff] at n
    unfold frz
    refine le_frz is ?_ n.2
    rcases h.nth i with ⟨h1, h2⟩ | ⟨s, t, h1, h2, h3⟩
    · rw [h2]; exact h
    · rw [h2]
      have n1 := n.1
      rw [h1] at n1
      have : SLe s (frzS t) := by
        match s, t, h3 with
        | none, _, _ => exact trivial
        | some (.sh, d), some q, h3 => exact ⟨h3.1, rfl⟩
        | some (.fl, d), some q, h3 => cases n1
        | some (.dp, d), some q, h3 => cases n1
        | some p, none, h3 => exact h3.elim
      have z := h.set i this
      rw [set_self Γ i s h1] at z
      exact z
theorem give_le {is : List Nat} {m n : Md} {d : D} {Γ e : Dn} (h : ELe Γ e) (hm : Md.le m n = true) : ELe (give is m d Γ) (give is n d e) := by
  rw [give_eq, give_eq]
  by_cases c : closed m d = true
  · rw [if_pos c, if_pos (closed_le hm c)]
    exact h
  · rw [if_neg c]
    by_cases c2 : closed n d = true
    · rw [if_pos c2]
      split
      · exact (frz_le is Γ).trans h
      · exact h
    · rw [if_neg c2]
      split
      · split
        · exact frz_mono is h
        · exact (frz_le is Γ).trans h
      · rename_i n1
        split
        · exact le_frz is h (by cases hz : (is.any fun i => match Γ[i]? with | some s => ownS s | none => false) with
            | false => rfl
            | true => exact absurd hz n1)
        · exact h
theorem gives_le {is : List Nat} {ps qs : List (Md × D)} {Γ e : Dn} (h : ELe Γ e) (hm : PsLe ps qs) : ELe (gives is ps Γ) (gives is qs e) := by
  rw [gives_eq, gives_eq]
  by_cases c : closeds ps = true
  · rw [if_pos c, if_pos (closeds_le hm c)]
    exact h
  · rw [if_neg c]
    by_cases c2 : closeds qs = true
    · rw [if_pos c2]
      split
      · exact (frz_le is Γ).trans h
      · exact h
    · rw [if_neg c2]
      split
      · split
        · exact frz_mono is h
        · exact (frz_le is Γ).trans h
      · rename_i n1
        split
        · exact le_frz is h (by cases hz : (is.any fun i => match Γ[i]? with | some s => ownS s | none => false) with
            | false => rfl
            | true => exact absurd hz n1)
        · exact h
theorem setAll_le : ∀ (is : List Nat) {ps qs : List (Md × D)} {Γ e : Dn}, ELe Γ e → PsLe ps qs → ∀ Γ1, setAll is ps Γ = some Γ1 → ∃ e1, setAll is qs e = some e1 ∧ ELe Γ1 e1
  | [], [], [], Γ, e, h, _, Γ1, hs => by
    cases hs
    exact ⟨e, rfl, h⟩
  | i :: is, p :: ps, q :: qs, Γ, e, h, hp, Γ1, hs => setAll_le is (ps := ps) (qs := qs) (h.set i (show SLe (some (keep p.1 p.2)) (some (keep q.1 q.2)) from keep_le hp.1)) hp.2 Γ1 hs
  | [], p :: ps, _, Γ, e, h, hp, Γ1, hs => by cases hs
  | i :: is, [], _, Γ, e, h, hp, Γ1, hs => by cases hs
  | [], [], q :: qs, Γ, e, h, hp, Γ1, hs => hp.elim
  | i :: is, p :: ps, [], Γ, e, h, hp, Γ1, hs => hp.elim
theorem setSh_le : ∀ (is : List Nat) {ds : List D} {Γ e : Dn}, ELe Γ e → ∀ Γ1, setSh is ds Γ = some Γ1 → ∃ e1, setSh is ds e = some e1 ∧ ELe Γ1 e1
  | [], [], Γ, e, h, Γ1, hs => by
    cases hs
    exact ⟨e, rfl, h⟩
  | i :: is, d :: ds, Γ, e, h, Γ1, hs => setSh_le is (ds := ds) (h.set i (SLe.refl _)) Γ1 hs
  | [], d :: ds, Γ, e, h, Γ1, hs => by cases hs
  | i :: is, [], Γ, e, h, Γ1, hs => by cases hs
def moF (o : Mo) (is : List Int) (vs : List D) (d : D) : Option (Md × D) := match is, d with
  | [], .lst xs => (moL o xs vs).map fun ys => (.fl, .lst ys)
  | _, _ => none
theorem moS_fl (o : Mo) (is : List Int) (ps : List (Md × D)) (d : D) : moS o is ps (.fl, d) = moF o is (ps.map Prod.snd) d := by
  cases is <;> cases d <;> rfl
theorem moS_dp (o : Mo) (is : List Int) (ps : List (Md × D)) (d : D) : moS o is ps (.dp, d) = if closeds ps = true then (moP o (ps.map Prod.snd) is d).map (fun d' => (.dp, d')) else moF o is (ps.map Prod.snd) d := by
  cases is <;> cases d <;> rfl
theorem moF_some {o : Mo} {is : List Int} {vs : List D} {d : D} {r : Md × D} (h : moF o is vs d = some r) : ∃ xs ys, is = [] ∧ d = .lst xs ∧ moL o xs vs = some ys ∧ r = (.fl, .lst ys) := by
  unfold moF at h
  split at h
  · rename_i xs
    cases e : moL o xs vs with
    | none => rw [e] at h; cases h
    | some ys =>
      rw [e] at h
      cases h
      exact ⟨xs, ys, rfl, rfl, e, rfl⟩
  · cases h
theorem moS_le {o : Mo} {is : List Int} {ps qs : List (Md × D)} {p q : Md × D} (h : PsLe ps qs) (hp : PLe p q) : ∀ r, moS o is ps p = some r → ∃ r', moS o is qs q = some r' ∧ PLe r r' := by
  intro r hr
  obtain ⟨m, d⟩ := p
  obtain ⟨n, d'⟩ := q
  obtain ⟨rfl, hm⟩ := hp
  have hm : Md.le m n = true := hm
  have key : ∀ {n : Md} {r : Md × D}, n ≠ .sh → moF o is (ps.map Prod.snd) d = some r → ∃ r', moS o is qs (n, d) = some r' ∧ PLe r r' := by
    intro n r hn hr
    rw [h.snd] at hr
    cases n with
    | sh => exact absurd rfl hn
    | fl => exact ⟨r, by rw [moS_fl]; exact hr, PLe.refl _⟩
    | dp =>
      rw [moS_dp]
      cases hq : closeds qs with
      | false => exact ⟨r, hr, PLe.refl _⟩
      | true =>
        obtain ⟨xs, ys, rfl, rfl, e, rfl⟩ := moF_some hr
        refine ⟨(.dp, .lst ys), ?_, rfl, rfl⟩
        rw [if_pos rfl]
        simp only [moP, e]
        rfl
  cases m with
  | sh => cases hr
  | fl =>
    rw [moS_fl] at hr
    exact key (fun z => by subst z; cases hm) hr
  | dp =>
    have hn := Md.dp_le hm
    subst hn
    rw [moS_dp] at hr
    cases hc : closeds ps with
    | true =>
      rw [hc, if_pos rfl, h.snd] at hr
      refine ⟨r, ?_, PLe.refl _⟩
      rw [moS_dp, closeds_le h hc, if_pos rfl]
      exact hr
    | false =>
      rw [hc] at hr
      exact key (fun z => by cases z) hr
def FlLe : Fl → Fl → Prop
  | .nx Γ, .nx e => ELe Γ e
  | .rt m d, .rt n d' => PLe (m, d) (n, d')
  | _, _ => False
section
variable (F : Tb)
mutual
theorem evr_le : ∀ (a : E) {Γ e : Dn}, ELe Γ e → MLe PLe (evr F a Γ) (evr F a e)
  | .var i, Γ, e, h => by
    simp only [evr]
    rcases h.nth i with ⟨h1, h2⟩ | ⟨s, t, h1, h2, h3⟩
    · rw [h1]; exact trivial
    · rw [h1, h2]
      match s, t, h3 with
      | none, _, _ => exact trivial
      | some p, some q, h3 => exact ⟨_, rfl, h3⟩
      | some p, none, h3 => exact h3.elim
  | .ite c a b, Γ, e, h => by
    simp only [evr]
    refine (ev_le F c h).bnd fun p q h1 => ?_
    rw [h1.1]
    split
    · exact trivial
    · exact evr_le a h
    · exact evr_le b h
  | .tup es, Γ, e, h => by
    simp only [evr]
    refine (evrs_le es h).bnd fun ps qs h1 => ?_
    rw [h1.snd]
    refine ⟨_, rfl, rfl, ?_⟩
    show Md.le (if (mvs es).Nodup then tupM ps else .sh) (if (mvs es).Nodup then tupM qs else .sh) = true
    split
    · exact tupM_le h1
    · rfl
  | .lit d, Γ, e, h => by simp only [evr]; exact ev_le F _ h
  | .bin o a b, Γ, e, h => by simp only [evr]; exact ev_le F _ h
  | .cmp o a b, Γ, e, h => by simp only [evr]; exact ev_le F _ h
  | .chn o p a b c, Γ, e, h => by simp only [evr]; exact ev_le F _ h
  | .chn3 o p q a b c d, Γ, e, h => by simp only [evr]; exact ev_le F _ h
  | .neg a, Γ, e, h => by simp only [evr]; exact ev_le F _ h
  | .not a, Γ, e, h => by simp only [evr]; exact ev_le F _ h
  | .and a b, Γ, e, h => by simp only [evr]; exact ev_le F _ h
  | .or a b, Γ, e, h => by simp only [evr]; exact ev_le F _ h
  | .lst es, Γ, e, h => by simp only [evr]; exact ev_le F _ h
  | .sub a i, Γ, e, h => by simp only [evr]; exact ev_le F _ h
  | .slc pl ph a lo hi, Γ, e, h => by simp only [evr]; exact ev_le F _ h
  | .rev a, Γ, e, h => by simp only [evr]; exact ev_le F _ h
  | .att a f, Γ, e, h => by simp only [evr]; exact ev_le F _ h
  | .cal f es, Γ, e, h => by simp only [evr]; exact ev_le F _ h
  | .cav a g es, Γ, e, h => by simp only [evr]; exact ev_le F _ h
  | .bi b es, Γ, e, h => by simp only [evr]; exact ev_le F _ h
  | .mix a b, Γ, e, h => by simp only [evr]; exact ev_le F _ h
  | .isi a t, Γ, e, h => by simp only [evr]; exact ev_le F _ h
  | .comp ts one s cs a, Γ, e, h => by simp only [evr]; exact ev_le F _ h
  | .dnew, Γ, e, h => by simp only [evr]; exact ev_le F _ h
  | .mk C f i es, Γ, e, h => by simp only [evr]; exact ev_le F _ h
  | .met a tb es, Γ, e, h => by simp only [evr]; exact ev_le F _ h
  | .isc a cs, Γ, e, h => by simp only [evr]; exact ev_le F _ h
  | .csel gs a es, Γ, e, h => by simp only [evr]; exact ev_le F _ h
  | .orv a b, Γ, e, h => by simp only [evr]; exact ev_le F _ h
theorem evrs_le : ∀ (as : List E) {Γ e : Dn}, ELe Γ e → MLe PsLe (evrs F as Γ) (evrs F as e)
  | [], Γ, e, h => by
    simp only [evrs]
    exact ⟨_, rfl, trivial⟩
  | a :: as, Γ, e, h => by
    simp only [evrs]
    exact (evr_le a h).bnd fun p q h1 => (evrs_le as h).bnd fun ps qs h2 => ⟨_, rfl, h1, h2⟩
end
theorem evP_le : ∀ (as : List E) {Γ e : Dn}, ELe Γ e → MLe Eq (evP F as Γ) (evP F as e)
  | [], Γ, e, h => by
    simp only [evP]
    exact ⟨_, rfl, rfl⟩
  | a :: as, Γ, e, h => by
    simp only [evP]
    refine (evP_le as h).bnd fun is js h1 => ?_
    subst h1
    cases ha : okOnly (ev F a Γ) with
    | none => exact trivial
    | some p =>
      obtain ⟨q, g5, g6⟩ := okOnly_le (ev_le F a h) ha
      rw [g5]
      simp only
      rw [g6.1]
      exact MLe.lift_refl (fun _ => rfl) _
theorem forL_le {f g : D → Dn → M Fl} (h : ∀ x Γ e, ELe Γ e → MLe FlLe (f x Γ) (g x e)) : ∀ (xs : List D) {Γ e : Dn}, ELe Γ e → MLe FlLe (forL f xs Γ) (forL g xs e)
  | [], Γ, e, k => ⟨_, rfl, k⟩
  | x :: xs, Γ, e, k => by
    unfold forL
    refine (h x Γ e k).bnd fun a b hab => ?_
    match a, b, hab with
    | .nx Γ1, .nx e1, hab => exact forL_le h xs hab
    | .rt m d, .rt n d', hab => exact ⟨_, rfl, hab⟩
    | .nx _, .rt _ _, hab => exact hab.elim
    | .rt _ _, .nx _, hab => exact hab.elim
theorem whlL_le {c c' : Dn → M Bool} {b b' : Dn → M Fl} (hc : ∀ Γ e, ELe Γ e → MLe Eq (c Γ) (c' e)) (hb : ∀ Γ e, ELe Γ e → MLe FlLe (b Γ) (b' e)) : ∀ (n : Nat) {Γ e : Dn}, ELe Γ e → MLe FlLe (whlL c b n Γ) (whlL c' b' n e)
  | 0, Γ, e, k => trivial
  | n + 1, Γ, e, k => by
    unfold whlL
    refine (hc Γ e k).bnd fun t t' ht => ?_
    subst ht
    cases t with
    | false => exact ⟨_, rfl, k⟩
    | true =>
      simp only [if_true]
      refine (hb Γ e k).bnd fun a b hab => ?_
      match a, b, hab with
      | .nx Γ1, .nx e1, hab => exact whlL_le hc hb n hab
      | .rt m d, .rt n d', hab => exact ⟨_, rfl, hab⟩
      | .nx _, .rt _ _, hab => exact hab.elim
      | .rt _ _, .nx _, hab => exact hab.elim
theorem extM_le {o : Mo} {ps qs : List (Md × D)} (h : PsLe ps qs) (c : closeds (extM o ps) = true) : closeds (extM o qs) = true := by
  unfold extM at c ⊢
  split at c
  · rename_i m ys
    match qs, h with
    | [(n, d)], h =>
      obtain ⟨⟨e1, _⟩, _⟩ := h
      have e1 : D.lst ys = d := e1
      subst e1
      exact c
  · rename_i x1 x2 hne
    split
    · rename_i m ys
      match ps, h with
      | [(n, d)], h =>
        obtain ⟨⟨e1, _⟩, _⟩ := h
        have e1 : d = D.lst ys := e1
        subst e1
        exact absurd rfl (hne n ys rfl)
    · exact closeds_le h c
theorem eachF_le {i : Nat} {f : Option Str} {q : List Int} {o : Mo} {es : List E} {j : Nat} {Γ e : Dn} (h : ELe Γ e) : MLe ELe (eachF F i f q o es j Γ) (eachF F i f q o es j e) := by
  unfold eachF
  split
  · rename_i d hg
    obtain ⟨q', g1, g2⟩ := h.get i _ hg
    obtain ⟨m', d'⟩ := q'
    obtain ⟨g3, g4⟩ := g2
    simp only at g3 g4
    subst g3
    have := Md.dp_le g4
    subst this
    rw [g1]
    simp only
    split
    · rename_i d0 _
      cases hok : okOnly (evs F es Γ) with
      | none => exact trivial
      | some ps =>
      obtain ⟨qs, hoq, h1⟩ := okOnly_le (evs_le F es h) hok
      rw [hoq]
      simp only
      by_cases c : closeds ps = true
      · rw [if_pos c, if_pos (closeds_le h1 c), h1.snd]
        refine MLe.lift_ fun x hx => ?_
        cases hm : moP o (qs.map Prod.snd) ((j : Int) :: q) d0 with
        | none => rw [hm] at hx; cases hx
        | some r =>
          rw [hm] at hx
          cases hx
          exact ⟨_, rfl, h.set i (SLe.refl _)⟩
      · rw [if_neg c]; exact trivial
    · exact trivial
  · exact trivial
theorem eachL_le {f g : Nat → Dn → M Dn} (h : ∀ j Γ e, ELe Γ e → MLe ELe (f j Γ) (g j e)) : ∀ (n j : Nat) {Γ e : Dn}, ELe Γ e → MLe ELe (eachL f n j Γ) (eachL g n j e)
  | 0, j, Γ, e, k => ⟨_, rfl, k⟩
  | n + 1, j, Γ, e, k => by
    unfold eachL
    exact (h j Γ e k).bnd fun a b hab => eachL_le h n (j + 1) hab
mutual
theorem ex_le : ∀ (s : S) {Γ e : Dn}, ELe Γ e → MLe FlLe (ex F s Γ) (ex F s e)
  | .pass, Γ, e, h => by
    simp only [ex]
    exact ⟨_, rfl, h⟩
  | .asg i a, Γ, e, h => by
    simp only [ex]
    refine (ev_le F a h).bnd fun p q h1 => ⟨_, rfl, ?_⟩
    have g := give_le (is := nm a) (d := p.2) h h1.2
    have k := keep_le h1
    rw [h1.1] at g
    show ELe ((give (nm a) p.1 p.2 Γ).set i _) ((give (nm a) q.1 q.2 e).set i _)
    rw [h1.1]
    rw [h1.1] at k
    exact g.set i k
  | .par is as, Γ, e, h => by
    simp only [ex]
    refine (evs_le F as h).bnd fun ps qs h1 => MLe.lift_ fun x hx => ?_
    cases hs : setAll is ps (gives (nms as) ps Γ) with
    | none => rw [hs] at hx; cases hx
    | some Γ1 =>
      rw [hs] at hx
      cases hx
      obtain ⟨e1, g1, g2⟩ := setAll_le is (gives_le h h1) h1 Γ1 hs
      exact ⟨.nx e1, by rw [g1]; rfl, g2⟩
  | .unp is a, Γ, e, h => by
    simp only [ex]
    refine (ev_le F a h).bnd fun p q h1 => ?_
    have g := give_le (is := nm a) (d := p.2) h h1.2
    obtain ⟨m, d⟩ := p
    obtain ⟨n, d'⟩ := q
    obtain ⟨rfl, h2⟩ := h1
    simp only at g ⊢
    split
    · rename_i ds
      refine MLe.lift_ fun x hx => ?_
      cases hs : setSh is ds (give (nm a) m (.tup ds) Γ) with
      | none => rw [hs] at hx; cases hx
      | some Γ1 =>
        rw [hs] at hx
        cases hx
        obtain ⟨e1, g1, g2⟩ := setSh_le is g Γ1 hs
        exact ⟨.nx e1, by rw [g1]; rfl, g2⟩
    · exact trivial
  | .aug i a, Γ, e, h => by
    simp only [ex]
    rcases h.nth i with ⟨h1, h2⟩ | ⟨s, t, h1, h2, h3⟩
    · rw [h1]; exact trivial
    · rw [h1, h2]
      match s, t, h3 with
      | none, _, _ => exact trivial
      | some p, none, h3 => exact h3.elim
      | some (m, d), some (n, d'), h3 =>
        obtain ⟨rfl, h4⟩ := h3
        cases d with
        | int k =>
          simp only
          refine (ev_le F a h).bnd fun p q h1 => ?_
          rw [h1.1]
          refine MLe.lift_ fun x hx => ?_
          cases hi : intD q.2 with
          | none => rw [hi] at hx; cases hx
          | some j =>
            rw [hi] at hx
            cases hx
            exact ⟨_, rfl, h.set i (SLe.refl _)⟩
        | _ => exact trivial
  | .mut i p o as, Γ, e, h => by
    simp only [ex]
    rcases h.nth i with ⟨h1, h2⟩ | ⟨s, t, h1, h2, h3⟩
    · rw [h1]; exact trivial
    · rw [h1, h2]
      match s, t, h3 with
      | none, _, _ => exact trivial
      | some p, none, h3 => exact h3.elim
      | some q0, some q1, h3 =>
        simp only
        refine (evP_le F p h).bnd fun ri rj hr => ?_
        subst hr
        rw [h3.1]
        split
        · refine (evs_le F as h).bnd fun ps qs h4 => ?_
          have g := gives_le (is := nms as) h h4
          rcases g.nth i with ⟨g1, g2⟩ | ⟨s, t, g1, g2, g3⟩
          · rw [g1]; exact trivial
          · rw [g1, g2]
            match s, t, g3 with
            | none, _, _ => exact trivial
            | some p, none, g3 => exact g3.elim
            | some u0, some u1, g3 =>
              simp only
              refine MLe.lift_ fun x hx => ?_
              cases hm : moS o ri.reverse ps u0 with
              | none => rw [hm] at hx; cases hx
              | some r =>
                rw [hm] at hx
                cases hx
                obtain ⟨r', k1, k2⟩ := moS_le h4 g3 r hm
                exact ⟨.nx ((gives (nms as) qs e).set i (some r')), by rw [k1]; rfl, g.set i (s := some r) (t := some r') k2⟩
        · exact trivial
  | .dput i k v, Γ, e, h => by
    simp only [ex]
    split
    · rename_i ks hg
      obtain ⟨q', g1, g2⟩ := h.get i _ hg
      obtain ⟨m', d'⟩ := q'
      obtain ⟨g3, g4⟩ := g2
      simp only at g3 g4
      subst g3
      have := Md.dp_le g4
      subst this
      rw [g1]
      simp only
      refine (ev_le F k h).bnd fun p q h1 => ?_
      rw [h1.1]
      split
      · split
        · exact ⟨_, rfl, h.set i (SLe.refl _)⟩
        · exact trivial
      · exact trivial
    · exact trivial
  | .exp a, Γ, e, h => by
    simp only [ex]
    exact (ev_le F a h).bnd fun p q h1 => ⟨_, rfl, h⟩
  | .ife c a b, Γ, e, h => by
    simp only [ex]
    refine (ev_le F c h).bnd fun p q h1 => ?_
    rw [h1.1]
    split
    · exact trivial
    · exact exs_le a h
    · exact exs_le b h
  | .ret a, Γ, e, h => by
    simp only [ex]
    exact (evr_le F a h).bnd fun p q h1 => ⟨_, rfl, h1⟩
  | .for_ ts one s b, Γ, e, h => by
    simp only [ex]
    refine (evS_le F s h).bnd fun p q h1 => ?_
    rw [h1.1]
    refine forL_le (fun x Γ e k => ?_) _ ?_
    · cases hb : bindT ts one x Γ with
      | none => exact trivial
      | some Γ1 =>
        obtain ⟨e1, g1, g2⟩ := bindT_le k Γ1 hb
        rw [g1]
        exact exs_le b g2
    · by_cases c : p.1 = .dp
      · have c2 : q.1 = .dp := Md.dp_le (by rw [← c]; exact h1.2)
        rw [if_pos c, if_pos c2]
        exact h
      · rw [if_neg c]
        split
        · exact (frz_le _ Γ).trans h
        · exact frz_mono _ h
  | .whl c b, Γ, e, h => by
    simp only [ex]
    refine whlL_le (fun Γ e k => ?_) (fun Γ e k => exs_le b k) _ h
    refine (ev_le F c k).bnd fun p q h1 => ?_
    rw [h1.1]
    exact MLe.lift_refl (fun _ => rfl) _
  | .rai C, Γ, e, h => by
    simp only [ex]
    exact rfl
  | .mutF i f o as, Γ, e, h => by
    simp only [ex]
    rcases h.nth i with ⟨h1, h2⟩ | ⟨s, t, h1, h2, h3⟩
    · rw [h1]; exact trivial
    · rw [h1, h2]
      match s, t, h3 with
      | none, _, _ => exact trivial
      | some p, none, h3 => exact h3.elim
      | some (m, d), some (n, d'), h3 =>
        obtain ⟨rfl, h4⟩ := h3
        cases d with
        | ins C0 g0 d0 =>
          cases d0 with
          | lst xs0 =>
            simp only
            by_cases hgf : g0 = f ∧ insC C0 = true
            · rw [if_pos hgf, if_pos hgf]
              refine MLe.bnd (S := FlLe) (evs_le F as h) fun ps qs h4 => ?_
              have g := gives_le (is := nms as) h h4
              split
              · rename_i C2 h2 xs hg
                obtain ⟨q', g1, g2⟩ := g.get i _ hg
                obtain ⟨m', d'⟩ := q'
                obtain ⟨g3, g4⟩ := g2
                simp only at g3 g4
                subst g3
                have := Md.dp_le g4
                subst this
                rw [g1]
                simp only
                by_cases c : (closeds ps || closeds (extM o ps)) = true
                · have c2 : (closeds qs || closeds (extM o qs)) = true := by
                    rw [Bool.or_eq_true] at c ⊢
                    exact c.imp (closeds_le h4) (extM_le h4)
                  rw [if_pos c, if_pos c2, h4.snd]
                  refine MLe.lift_ fun x hx => ?_
                  cases hm : moL o xs (qs.map Prod.snd) with
                  | none => rw [hm] at hx; cases hx
                  | some r =>
                    rw [hm] at hx
                    cases hx
                    exact ⟨_, rfl, g.set i (SLe.refl _)⟩
                · rw [if_neg c]; exact trivial
              · exact trivial
            · rw [if_neg hgf]; exact trivial
          | _ => exact trivial
        | _ => exact trivial
  | .each i f x q o es, Γ, e, h => by
    simp only [ex]
    split
    · rename_i d hg
      obtain ⟨q', g1, g2⟩ := h.get i _ hg
      obtain ⟨m', d'⟩ := q'
      obtain ⟨g3, g4⟩ := g2
      simp only at g3 g4
      subst g3
      have := Md.dp_le g4
      subst this
      rw [g1]
      simp only
      split
      · have hle : Γ.length = e.length := h.len
        rw [hle]
        split
        case isTrue => exact trivial
        refine MLe.bnd (S := FlLe) (eachL_le (f := eachF F i f q o es) (g := eachF F i f q o es) (fun j Γ e k => eachF_le F k) _ 0 (h.set x (SLe.refl none))) fun a b hab => ?_
        exact ⟨_, rfl, hab⟩
      · exact trivial
    · exact trivial
  | .tryE a x cs hs, Γ, e, h => by
    simp only [ex]
    have h1 := ev_le F a h
    match hx : ev F a Γ, hy : ev F a e, h1 with
    | none, _, _ => exact trivial
    | some (.ok p), some (.ok q), _ => exact ⟨_, rfl, h⟩
    | some (.er C), some (.er C'), h1 =>
      have : C = C' := by
        have h1 : some (Ex.er C') = some (Ex.er C) := h1
        cases h1; rfl
      subst this
      simp only
      split
      · refine (exs_le hs (h.set x (SLe.refl _))).bnd fun a b hab => ?_
        match a, b, hab with
        | .nx Γ1, .nx e1, hab => exact ⟨_, rfl, hab.set x (SLe.refl none)⟩
        | .rt m d, .rt n d', hab => exact ⟨_, rfl, hab⟩
        | .nx _, .rt _ _, hab => exact hab.elim
        | .rt _ _, .nx _, hab => exact hab.elim
      · exact rfl
    | some (.ok p), none, h1 => obtain ⟨_, z, _⟩ := h1; cases z
    | some (.ok p), some (.er C), h1 => obtain ⟨_, z, _⟩ := h1; cases z
    | some (.er C), none, h1 => cases h1
    | some (.er C), some (.ok q), h1 => cases h1
  | .popA i x, Γ, e, h => by
    simp only [ex]
    rcases h.nth i with ⟨h1, h2⟩ | ⟨s, t, h1, h2, h3⟩
    · rw [h1]; exact trivial
    · rw [h1, h2]
      match s, t, h3 with
      | none, _, _ => exact trivial
      | some p, none, h3 => exact h3.elim
      | some (m, d), some (n, d'), h3 =>
        obtain ⟨rfl, h4⟩ := h3
        have h4 : Md.le m n = true := h4
        cases m with
        | sh => exact trivial
        | fl =>
          cases n with
          | sh => cases h4
          | fl =>
            cases d with
            | lst ds =>
              simp only
              split
              · exact ⟨_, rfl, (h.set i (SLe.refl _)).set x (SLe.refl _)⟩
              · exact trivial
            | _ => exact trivial
          | dp =>
            cases d with
            | lst ds =>
              simp only
              split
              · exact ⟨_, rfl, (h.set i (SLe.refl _)).set x (SLe.refl _)⟩
              · exact trivial
            | _ => exact trivial
        | dp =>
          cases n with
          | sh => cases h4
          | fl => cases h4
          | dp =>
            cases d with
            | lst ds =>
              simp only
              split
              · exact ⟨_, rfl, (h.set i (SLe.refl _)).set x (SLe.refl _)⟩
              · exact trivial
            | _ => exact trivial
theorem exs_le : ∀ (ss : List S) {Γ e : Dn}, ELe Γ e → MLe FlLe (exs F ss Γ) (exs F ss e)
  | [], Γ, e, h => by
    simp only [exs]
    exact ⟨_, rfl, h⟩
  | s :: ss, Γ, e, h => by
    simp only [exs]
    refine (ex_le s h).bnd fun a b hab => ?_
    match a, b, hab with
    | .nx Γ1, .nx e1, hab => exact exs_le ss hab
    | .rt m d, .rt n d', hab => exact ⟨_, rfl, hab⟩
    | .nx _, .rt _ _, hab => exact hab.elim
    | .rt _ _, .nx _, hab => exact hab.elim
end
end
end TW

set_option Elab.async false
set_option linter.all false
set_option maxRecDepth 100000
set_option maxHeartbeats 4000000
namespace TY
open TW PySem PySem.Spec PyProof.Rows L2

abbrev eL {α : Type} (e : α → D) (xs : List α) : D := .lst (xs.map e)
abbrev e2 {α β : Type} (e : α → D) (f : β → D) (p : α × β) : D := .tup [e p.1, f p.2]
abbrev e3 {α β γ : Type} (e : α → D) (f : β → D) (g : γ → D) (p : α × β × γ) : D := .tup [e p.1, f p.2.1, g p.2.2]
abbrev h2 {α β : Type} (e : α → D) (f : β → D) (p : α × β) : D := .lst [e p.1, f p.2]
abbrev h3 {α β γ : Type} (e : α → D) (f : β → D) (g : γ → D) (p : α × β × γ) : D := .lst [e p.1, f p.2.1, g p.2.2]
def eO {α : Type} (e : α → D) : Option α → D
  | none => .non
  | some a => e a
abbrev eN (_ : Unit) : D := .non
abbrev eW : Int × List (Int × Int) → D := e2 D.int (eL (e2 D.int D.int))
structure Dt {α : Type} [DecidableEq α] (n : Nat) (e : α → D) : Prop where
  dat : ∀ a m, n ≤ m → dat (e a) m = true
  eq : ∀ a b, eqD (e a) (e b) = decide (a = b)
theorem dt_int : Dt 0 D.int := ⟨fun _ _ _ => rfl, fun a b => by show (a == b) = _; rw [Bool.eq_iff_iff]; simp⟩
theorem dt_bl : Dt 0 D.bl := ⟨fun _ _ _ => rfl, fun a b => by show (a == b) = _; rw [Bool.eq_iff_iff]; simp⟩
theorem dats_of {α : Type} [DecidableEq α] {n : Nat} {e : α → D} (h : Dt n e) {m : Nat} (hm : n ≤ m) : ∀ xs : List α, dats (xs.map e) m = true
  | [] => rfl
  | x :: xs => by simp only [List.map_cons, dats, h.dat x m hm, dats_of h hm xs, Bool.and_self]
theorem eqvAll_of {α : Type} [DecidableEq α] {n : Nat} {e : α → D} (h : Dt n e) : ∀ xs ys : List α, PyData.eqvAll (toPys (xs.map e)) (toPys (ys.map e)) = decide (xs = ys)
  | [], [] => rfl
  | [], y :: ys => rfl
  | x :: xs, [] => rfl
  | x :: xs, y :: ys => by
    show (eqD (e x) (e y) && PyData.eqvAll (toPys (xs.map e)) (toPys (ys.map e))) = _
    rw [h.eq, eqvAll_of h xs ys, Bool.eq_iff_iff]
    simp
theorem dt_L {α : Type} [DecidableEq α] {n : Nat} {e : α → D} (h : Dt n e) : Dt (n + 1) (eL e) := by
  refine ⟨fun xs m hm => ?_, fun xs ys => eqvAll_of h xs ys⟩
  obtain ⟨k, rfl⟩ : ∃ k, m = k + 1 := ⟨m - 1, by omega⟩
  exact dats_of h (by omega) xs
theorem dt_2 {α β : Type} [DecidableEq α] [DecidableEq β] {n k : Nat} {e : α → D} {f : β → D} (h : Dt n e) (h' : Dt k f) : Dt (max n k + 1) (e2 e f) := by
  refine ⟨fun p m hm => ?_, fun p q => ?_⟩
  · obtain ⟨j, rfl⟩ : ∃ k, m = k + 1 := ⟨m - 1, by omega⟩
    show (dat (e p.1) j && (dat (f p.2) j && true)) = true
    rw [h.dat _ _ (by omega), h'.dat _ _ (by omega)]
    rfl
  · show (eqD (e p.1) (e q.1) && (eqD (f p.2) (f q.2) && true)) = _
    rw [h.eq, h'.eq, Bool.eq_iff_iff]
    simp [Prod.ext_iff]
def Nn {α : Type} (e : α → D) : Prop := ∀ a, isNon (e a) = false
theorem nn_L {α : Type} {e : α → D} : Nn (eL e) := fun _ => rfl
theorem dt_O {α : Type} [DecidableEq α] {n : Nat} {e : α → D} (h : Dt n e) (hn : ∀ a, eqD .non (e a) = false ∧ eqD (e a) .non = false) : Dt n (eO e) := by
  refine ⟨fun a m hm => ?_, fun a b => ?_⟩
  · cases a with
    | none => rfl
    | some a => exact h.dat a m hm
  · cases a with
    | none =>
      cases b with
      | none => rfl
      | some b => exact (hn b).1.trans (by simp)
    | some a =>
      cases b with
      | none => exact (hn a).2.trans (by simp)
      | some b => exact (h.eq a b).trans (by simp)
def Lf {α : Type} (e : α → D) : Prop := ∀ a, lfree (e a) = true
theorem lf_int : Lf D.int := fun _ => rfl
theorem lf_bl : Lf D.bl := fun _ => rfl
theorem lf_N : Lf eN := fun _ => rfl
theorem lf_2 {α β : Type} {e : α → D} {f : β → D} (h : Lf e) (h' : Lf f) : Lf (e2 e f) := fun p => by
  show (lfree (e p.1) && (lfree (f p.2) && true)) = true
  rw [h, h']
  rfl
theorem lfrees_of {α : Type} {e : α → D} (h : Lf e) : ∀ xs : List α, lfrees (xs.map e) = true
  | [] => rfl
  | x :: xs => by simp only [List.map_cons, lfrees, h x, lfrees_of h xs, Bool.and_self]
abbrev Cl (m : Md) (d : D) : Prop := closed m d = true
theorem cl_dp {d : D} : Cl .dp d := rfl
theorem cl_lf {α : Type} {e : α → D} (h : Lf e) {m : Md} {a : α} : Cl m (e a) := closed_le (m := .sh) (by cases m <;> rfl) (h a)
theorem cl_fl {α : Type} {e : α → D} (h : Lf e) {xs : List α} : Cl .fl (eL e xs) := lfrees_of h xs

def Ev (F : Tb) (a : E) (Γ : Dn) (m : Md) (d : D) : Prop := ∃ n, ev F a Γ = some (.ok (n, d)) ∧ Md.le m n = true
def Evr (F : Tb) (a : E) (Γ : Dn) (m : Md) (d : D) : Prop := ∃ n, evr F a Γ = some (.ok (n, d)) ∧ Md.le m n = true
def Evs (F : Tb) (as : List E) (Γ : Dn) (ps : List (Md × D)) : Prop := ∃ qs, evs F as Γ = some (.ok qs) ∧ PsLe ps qs
def EvS (F : Tb) (s : Sr) (Γ : Dn) (m : Md) (ds : List D) : Prop := ∃ n, evS F s Γ = some (.ok (n, ds)) ∧ Md.le m n = true
section
variable {F : Tb} {Γ : Dn} {m n : Md} {a b c : E} {α β γ : Type}
theorem Ev.sh {d : D} (h : Ev F a Γ m d) : Ev F a Γ .sh d := by
  obtain ⟨n, h1, h2⟩ := h
  exact ⟨n, h1, rfl⟩
theorem Ev.le {d : D} (h : Ev F a Γ m d) (k : Md.le n m = true) : Ev F a Γ n d := by
  obtain ⟨q, h1, h2⟩ := h
  exact ⟨q, h1, Md.le_trans k h2⟩
theorem Ev.eq {d d' : D} (h : Ev F a Γ m d) (e : d = d') : Ev F a Γ m d' := e ▸ h
theorem Ev.env {Γ' : Dn} {d : D} (h : Ev F a Γ m d) (k : ELe Γ Γ') : Ev F a Γ' m d := by
  obtain ⟨q, h1, h2⟩ := h
  have := ev_le F a k
  rw [h1] at this
  obtain ⟨b, h3, h4, h5⟩ := this
  obtain ⟨m', d'⟩ := b
  simp only at h4 h5
  subst h4
  exact ⟨m', h3, Md.le_trans h2 h5⟩
theorem ev_var {i : Nat} {d : D} (h : Γ[i]? = some (some (m, d))) : Ev F (.var i) Γ .sh d := ⟨.sh, by simp only [ev, h], rfl⟩
theorem ev_int (i : Int) : Ev F (.lit (.int i)) Γ .dp (.int i) := ⟨.dp, by simp only [ev]; rfl, rfl⟩
theorem ev_bl (i : Bool) : Ev F (.lit (.bl i)) Γ .dp (.bl i) := ⟨.dp, by simp only [ev]; rfl, rfl⟩
theorem ev_non : Ev F (.lit .non) Γ .dp .non := ⟨.dp, by simp only [ev]; rfl, rfl⟩
theorem ev_bin {o : Bop} {x y d : D} {m1 m2 : Md} (ha : Ev F a Γ m1 x) (hb : Ev F b Γ m2 y) (h : binD o x y = some (m, d)) : Ev F (.bin o a b) Γ m d := by
  obtain ⟨n1, h1, _⟩ := ha
  obtain ⟨n2, h2, _⟩ := hb
  exact ⟨m, by simp only [ev, h1, h2, bnd_ok, h]; rfl, Md.le_refl m⟩
theorem ev_add {x y : Int} {m1 m2 : Md} (ha : Ev F a Γ m1 (.int x)) (hb : Ev F b Γ m2 (.int y)) : Ev F (.bin .add a b) Γ .dp (.int (x + y)) := ev_bin ha hb rfl
theorem ev_sub {x y : Int} {m1 m2 : Md} (ha : Ev F a Γ m1 (.int x)) (hb : Ev F b Γ m2 (.int y)) : Ev F (.bin .sub a b) Γ .dp (.int (x - y)) := ev_bin ha hb rfl
theorem ev_mod {x y : Int} {m1 m2 : Md} (ha : Ev F a Γ m1 (.int x)) (hb : Ev F b Γ m2 (.int y)) (h : 0 < y) : Ev F (.bin .mod a b) Γ .dp (.int (x % y)) := ev_bin ha hb (if_pos h)
theorem ev_shl {x y : Int} {m1 m2 : Md} (ha : Ev F a Γ m1 (.int x)) (hb : Ev F b Γ m2 (.int y)) (h : 0 ≤ y ∧ y ≤ 1000 ∧ x.natAbs < 1000) : Ev F (.bin .shl a b) Γ .dp (.int (x * 2 ^ y.toNat)) := ev_bin ha hb (if_pos h)
theorem ev_shr {x y : Int} {m1 m2 : Md} (ha : Ev F a Γ m1 (.int x)) (hb : Ev F b Γ m2 (.int y)) (h : 0 ≤ y) : Ev F (.bin .shr a b) Γ .dp (.int (x / 2 ^ y.toNat)) := ev_bin ha hb (if_pos h)
theorem ev_band {x y : Int} {m1 m2 : Md} (ha : Ev F a Γ m1 (.int x)) (hb : Ev F b Γ m2 (.int y)) : Ev F (.bin .band a b) Γ .dp (.int (Builtin.bitAnd x y)) := ev_bin ha hb rfl
theorem ev_neg {x : Int} {m1 : Md} (ha : Ev F a Γ m1 (.int x)) : Ev F (.neg a) Γ .dp (.int (-x)) := by
  obtain ⟨n1, h1, _⟩ := ha
  exact ⟨.dp, by simp only [ev, h1, bnd_ok]; rfl, rfl⟩
abbrev CatOk {α : Type} (xs ys : List α) : Prop := xs.length + ys.length ≤ 1000000
theorem ev_cat {e : α → D} {xs ys : List α} {m1 m2 : Md} (ha : Ev F a Γ m1 (eL e xs)) (hb : Ev F b Γ m2 (eL e ys)) (h : CatOk xs ys) : Ev F (.bin .add a b) Γ .fl (eL e (xs ++ ys)) := by
  refine ev_bin ha hb ?_
  show (if (xs.map e).length + (ys.map e).length ≤ SZ then some (Md.fl, D.lst (xs.map e ++ ys.map e)) else none) = _
  rw [List.length_map, List.length_map, if_pos h]
  show _ = some (Md.fl, D.lst ((xs ++ ys).map e))
  rw [List.map_append]
abbrev Cm (o : Cop) (x y : D) (c : Bool) : Prop := cmpD o x y = some c
theorem cm_lt (x y : Int) : Cm .lt (.int x) (.int y) (decide (x < y)) := rfl
theorem cm_le (x y : Int) : Cm .le (.int x) (.int y) (decide (x ≤ y)) := rfl
theorem cm_gt (x y : Int) : Cm .gt (.int x) (.int y) (decide (y < x)) := rfl
theorem cm_ge (x y : Int) : Cm .ge (.int x) (.int y) (decide (y ≤ x)) := rfl
theorem cm_ltP (p q : Int × Int) : Cm .lt (e2 D.int D.int p) (e2 D.int D.int q) (ltP2 p q) := rfl
theorem cm_eq [DecidableEq α] {k : Nat} {e : α → D} (h : Dt k e) (hk : k ≤ 20 := by decide) (x y : α) {inst : Decidable (x = y)} : Cm .eq (e x) (e y) (@decide (x = y) inst) := by
  show (if TW.dat (e x) 20 && TW.dat (e y) 20 then some (eqD (e x) (e y)) else none) = _
  rw [h.dat _ _ hk, h.dat _ _ hk, h.eq]
  exact congrArg some (by congr)
theorem cm_ne [DecidableEq α] {k : Nat} {e : α → D} (h : Dt k e) (hk : k ≤ 20 := by decide) (x y : α) {inst : Decidable (x = y)} : Cm .ne (e x) (e y) (!@decide (x = y) inst) := by
  show (if TW.dat (e x) 20 && TW.dat (e y) 20 then some (!eqD (e x) (e y)) else none) = _
  rw [h.dat _ _ hk, h.dat _ _ hk, h.eq]
  exact congrArg (fun b => some (!b)) (by congr)
theorem in_L [DecidableEq α] {k : Nat} {e : α → D} (h : Dt k e) (hk : k ≤ 20) (x : α) (xs : List α) : inD (e x) (eL e xs) = some (decide (x ∈ xs)) := by
  show (if TW.dat (e x) 20 && dats (xs.map e) 20 then some ((xs.map e).any fun z => eqD z (e x)) else none) = _
  rw [h.dat _ _ hk, dats_of h hk]
  simp only [Bool.and_self, if_true, List.any_map]
  congr 1
  rw [Bool.eq_iff_iff]
  simp only [List.any_eq_true, Function.comp_apply, h.eq, decide_eq_true_eq]
  constructor
  · rintro ⟨y, hy, rfl⟩; exact hy
  · intro hx; exact ⟨x, hx, rfl⟩
theorem cm_in [DecidableEq α] {k : Nat} {e : α → D} (h : Dt k e) (hk : k ≤ 20 := by decide) (x : α) (xs : List α) {inst : Decidable (x ∈ xs)} : Cm .isin (e x) (eL e xs) (@decide (x ∈ xs) inst) := (in_L h hk x xs).trans (congrArg some (by congr))
theorem cm_nin [DecidableEq α] {k : Nat} {e : α → D} (h : Dt k e) (hk : k ≤ 20 := by decide) (x : α) (xs : List α) {inst : Decidable (x ∈ xs)} : Cm .notin (e x) (eL e xs) (!@decide (x ∈ xs) inst) := by
  show (inD (e x) (eL e xs)).map _ = _
  rw [in_L h hk]
  exact congrArg (fun b => some (!b)) (by congr)
theorem in_2 (x : Int) (y z : Int) : inD (.int x) (.tup [.int y, .int z]) = some (decide (x = y) || decide (x = z)) := by
  show some (([D.int y, .int z] : List D).any fun w => eqD w (.int x)) = _
  congr 1
  show ((y == x) || ((z == x) || false)) = _
  have e1 : ∀ u v : Int, (u == v) = decide (v = u) := fun u v => by rw [Bool.eq_iff_iff]; simp; exact eq_comm
  rw [e1, e1, Bool.or_false]
theorem cm_in2 (x y z : Int) : Cm .isin (.int x) (.tup [.int y, .int z]) (decide (x = y) || decide (x = z)) := in_2 x y z
theorem cm_is {e : α → D} (h : Nn e) (o : Option α) : Cm .is_ (eO e o) .non o.isNone := by
  show some (isNon (eO e o)) = _
  cases o with
  | none => rfl
  | some a => exact congrArg some (h a)
theorem cm_isnot {e : α → D} (h : Nn e) (o : Option α) : Cm .isnot (eO e o) .non o.isSome := by
  show some (!isNon (eO e o)) = _
  cases o with
  | none => rfl
  | some a =>
    show some (!isNon (e a)) = _
    rw [h a]
    rfl
theorem ev_cmp {o : Cop} {x y : D} {t : Bool} {m1 m2 : Md} (ha : Ev F a Γ m1 x) (hb : Ev F b Γ m2 y) (h : Cm o x y t) : Ev F (.cmp o a b) Γ .dp (.bl t) := by
  obtain ⟨n1, h1, _⟩ := ha
  obtain ⟨n2, h2, _⟩ := hb
  have h : cmpD o x y = some t := h
  exact ⟨.dp, by simp only [ev, h1, h2, bnd_ok, h]; rfl, rfl⟩
theorem ev_chn {o o2 : Cop} {x y z : D} {t u : Bool} {m1 m2 m3 : Md} (ha : Ev F a Γ m1 x) (hb : Ev F b Γ m2 y) (hc : Ev F c Γ m3 z) (h : Cm o x y t) (h' : Cm o2 y z u) : Ev F (.chn o o2 a b c) Γ .dp (.bl (t && u)) := by
  obtain ⟨n1, h1, _⟩ := ha
  obtain ⟨n2, h2, _⟩ := hb
  obtain ⟨n3, h3, _⟩ := hc
  have h : cmpD o x y = some t := h
  have h' : cmpD o2 y z = some u := h'
  refine ⟨.dp, ?_, rfl⟩
  simp only [ev, h1, h2, bnd_ok, h]
  cases t with
  | false => rfl
  | true =>
    simp only [h3, bnd_ok, h']
    rfl
theorem ev_not {t : Bool} {m1 : Md} (ha : Ev F a Γ m1 (.bl t)) : Ev F (.not a) Γ .dp (.bl (!t)) := by
  obtain ⟨n1, h1, _⟩ := ha
  exact ⟨.dp, by simp only [ev, h1, bnd_ok]; rfl, rfl⟩
theorem ev_and {t u : Bool} {m1 m2 : Md} (ha : Ev F a Γ m1 (.bl t)) (hb : t = true → Ev F b Γ m2 (.bl u)) : Ev F (.and a b) Γ .sh (.bl (t && u)) := by
  obtain ⟨n1, h1, _⟩ := ha
  cases t with
  | false => exact ⟨.dp, by simp only [ev, h1, bnd_ok, boolD_bl]; rfl, rfl⟩
  | true =>
    obtain ⟨n2, h2, _⟩ := hb rfl
    exact ⟨n2, by simp only [ev, h1, bnd_ok, boolD_bl, h2]; rfl, rfl⟩
theorem ev_or {t u : Bool} {m1 m2 : Md} (ha : Ev F a Γ m1 (.bl t)) (hb : t = false → Ev F b Γ m2 (.bl u)) : Ev F (.or a b) Γ .sh (.bl (t || u)) := by
  obtain ⟨n1, h1, _⟩ := ha
  cases t with
  | true => exact ⟨.dp, by simp only [ev, h1, bnd_ok, boolD_bl]; rfl, rfl⟩
  | false =>
    obtain ⟨n2, h2, _⟩ := hb rfl
    exact ⟨n2, by simp only [ev, h1, bnd_ok, boolD_bl, h2]; rfl, rfl⟩
theorem ev_ite {t : Bool} {e : α → D} {x y : α} {m1 : Md} (hc : Ev F c Γ m1 (.bl t)) (ha : t = true → Ev F a Γ m (e x)) (hb : t = false → Ev F b Γ m (e y)) : Ev F (.ite c a b) Γ m (e (if t = true then x else y)) := by
  obtain ⟨n1, h1, _⟩ := hc
  cases t with
  | true =>
    obtain ⟨n2, h2, h3⟩ := ha rfl
    exact ⟨n2, by simp only [ev, h1, bnd_ok, boolD_bl, h2]; rfl, h3⟩
  | false =>
    obtain ⟨n2, h2, h3⟩ := hb rfl
    exact ⟨n2, by simp only [ev, h1, bnd_ok, boolD_bl, h2]; rfl, h3⟩
theorem evr_ite {t : Bool} {e : α → D} {x y : α} {m1 : Md} (hc : Ev F c Γ m1 (.bl t)) (ha : t = true → Evr F a Γ m (e x)) (hb : t = false → Evr F b Γ m (e y)) : Evr F (.ite c a b) Γ m (e (if t = true then x else y)) := by
  obtain ⟨n1, h1, _⟩ := hc
  cases t with
  | true =>
    obtain ⟨n2, h2, h3⟩ := ha rfl
    exact ⟨n2, by simp only [evr, h1, bnd_ok, boolD_bl, h2]; rfl, h3⟩
  | false =>
    obtain ⟨n2, h2, h3⟩ := hb rfl
    exact ⟨n2, by simp only [evr, h1, bnd_ok, boolD_bl, h2]; rfl, h3⟩
theorem evs_nil : Evs F [] Γ [] := ⟨[], by simp only [evs], trivial⟩
theorem evs_cons {d : D} {as : List E} {ps : List (Md × D)} (ha : Ev F a Γ m d) (h : Evs F as Γ ps) : Evs F (a :: as) Γ ((m, d) :: ps) := by
  obtain ⟨n1, h1, h2⟩ := ha
  obtain ⟨qs, h3, h4⟩ := h
  exact ⟨(n1, d) :: qs, by simp only [evs, h1, h3, bnd_ok], ⟨rfl, h2⟩, h4⟩
abbrev Cls (ps : List (Md × D)) : Prop := closeds ps = true
theorem cls_nil : Cls [] := rfl
theorem cls_cons {d : D} {ps : List (Md × D)} (h : Cl m d) (k : Cls ps) : Cls ((m, d) :: ps) := by
  show (closed m d && closeds ps) = true
  rw [show closed m d = true from h, show closeds ps = true from k]
  rfl
theorem ev_tupC {as : List E} {ps : List (Md × D)} (h : Evs F as Γ ps) (k : Cls ps) : Ev F (.tup as) Γ .dp (.tup (ps.map Prod.snd)) := by
  obtain ⟨qs, h1, h2⟩ := h
  refine ⟨tupM qs, by simp only [ev, h1, bnd_ok, h2.snd], ?_⟩
  unfold tupM
  rw [closeds_le h2 k]
  rfl
theorem ev_lstC {as : List E} {ps : List (Md × D)} (h : Evs F as Γ ps) (k : Cls ps) : Ev F (.lst as) Γ .dp (.lst (ps.map Prod.snd)) := by
  obtain ⟨qs, h1, h2⟩ := h
  refine ⟨boxM qs, by simp only [ev, h1, bnd_ok, h2.snd], ?_⟩
  unfold boxM
  rw [closeds_le h2 k]
  rfl
def gI {α : Type} [Inhabited α] (xs : List α) (i : Int) : α := (atI xs i).getD default
abbrev IxOk {α : Type} (xs : List α) (i : Int) : Prop := -(xs.length : Int) ≤ i ∧ i < (xs.length : Int)
theorem atI_map {α β : Type} (f : α → β) (xs : List α) (i : Int) : atI (xs.map f) i = (atI xs i).map f := by
  unfold atI
  rw [List.length_map]
  cases ixN xs.length i with
  | none => rfl
  | some j => simp
theorem atI_ok [Inhabited α] {xs : List α} {i : Int} (h : IxOk xs i) : atI xs i = some (gI xs i) := by
  unfold gI
  obtain ⟨h1, h2⟩ := h
  rcases Int.lt_or_le i 0 with hn | hp
  · have : ∃ x, atI xs i = some x := by
      have e : ixN xs.length i = some (i + xs.length).toNat := by
        unfold ixN
        simp only [show ¬ (0 ≤ i) by omega, if_false]
        first | rfl | (split <;> first | rfl | omega)
      refine ⟨xs[(i + xs.length).toNat]'(by omega), ?_⟩
      unfold atI
      rw [e]
      simp
    obtain ⟨x, hx⟩ := this
    rw [hx]; rfl
  · obtain ⟨x, _, hx⟩ := at_in hp h2
    rw [hx]; rfl
theorem gI_nat [Inhabited α] (xs : List α) (i : Nat) : gI xs (i : Int) = xs.getD i default := by
  unfold gI
  rcases Nat.lt_or_ge i xs.length with h | h
  · rw [atI_nat (v := xs[i]) (List.getElem?_eq_getElem h), List.getD_eq_getElem?_getD, List.getElem?_eq_getElem h]
  · rw [List.getD_eq_getElem?_getD, List.getElem?_eq_none h]
    have : atI xs (i : Int) = none := by
      have e : ixN xs.length (i : Int) = none := by
        unfold ixN
        rw [if_pos (by omega), if_neg (by omega)]
      unfold atI
      rw [e]
      rfl
    rw [this]
theorem ev_at [Inhabited α] {e : α → D} {xs : List α} {i : Int} {m1 m2 : Md} (ha : Ev F a Γ m1 (eL e xs)) (hb : Ev F b Γ m2 (.int i)) (h : IxOk xs i) : Ev F (.sub a b) Γ .sh (e (gI xs i)) := by
  obtain ⟨n1, h1, _⟩ := ha
  obtain ⟨n2, h2, _⟩ := hb
  refine ⟨.sh, ?_, rfl⟩
  simp only [ev, h1, h2, bnd_ok]
  show lift ((atI (xs.map e) i).map _) = _
  rw [atI_map, atI_ok h]
  rfl
theorem ev_tat {ds : List D} {i : Int} {d : D} {m1 : Md} (ha : Ev F a Γ m1 (.tup ds)) (h : atI ds i = some d) : Ev F (.sub a (.lit (.int i))) Γ .sh d := by
  obtain ⟨n1, h1, _⟩ := ha
  refine ⟨.sh, ?_, rfl⟩
  simp only [ev, h1, bnd_ok]
  show lift ((atI ds i).map _) = _
  rw [h]
  rfl
theorem cutL_map {α β : Type} (f : α → β) (xs : List α) (l h : Option Int) : cutL (xs.map f) l h = (cutL xs l h).map f := by
  unfold cutL
  rw [List.length_map, ← List.map_drop, ← List.map_take]
theorem ev_slc {pl ph : Bool} {e : α → D} {xs : List α} {u v : D} {l h : Option Int} {m1 m2 m3 : Md} {lo hi : E} (ha : Ev F a Γ m1 (eL e xs)) (hl : Ev F lo Γ m2 u) (hh : Ev F hi Γ m3 v) (el : optI pl u = some l) (eh : optI ph v = some h) : Ev F (.slc pl ph a lo hi) Γ .fl (eL e (cutL xs l h)) := by
  obtain ⟨n1, h1, _⟩ := ha
  obtain ⟨n2, h2, _⟩ := hl
  obtain ⟨n3, h3, _⟩ := hh
  refine ⟨.fl, ?_, rfl⟩
  simp only [ev, h1, h2, h3, bnd_ok, el, eh]
  show some (Ex.ok (Md.fl, D.lst (cutL (xs.map e) l h))) = _
  rw [cutL_map]
theorem ev_slcS {pl ph : Bool} {xs : List Int} {u v : D} {l h : Option Int} {m1 m2 m3 : Md} {lo hi : E} (ha : Ev F a Γ m1 (.scr xs)) (hl : Ev F lo Γ m2 u) (hh : Ev F hi Γ m3 v) (el : optI pl u = some l) (eh : optI ph v = some h) : Ev F (.slc pl ph a lo hi) Γ .dp (eL D.int (cutL xs l h)) := by
  obtain ⟨n1, h1, _⟩ := ha
  obtain ⟨n2, h2, _⟩ := hl
  obtain ⟨n3, h3, _⟩ := hh
  refine ⟨.dp, ?_, rfl⟩
  simp only [ev, h1, h2, h3, bnd_ok, el, eh]
  rfl
def Fn (F : Tb) (f : Nat) (ds : List D) (m : Md) (d : D) : Prop := ∃ n, F f ds = some (.ok (n, d)) ∧ Md.le m n = true
theorem ev_cal {f : Nat} {as : List E} {ps : List (Md × D)} {d : D} (h : Evs F as Γ ps) (k : Fn F f (ps.map Prod.snd) m d) : Ev F (.cal f as) Γ m d := by
  obtain ⟨qs, h1, h2⟩ := h
  obtain ⟨n, h3, h4⟩ := k
  rw [h2.snd] at h3
  by_cases c : n = .sh ∧ closeds qs = true ∧ closed .fl d = true
  · refine ⟨.fl, by simp only [ev, h1, h3, bnd_ok, if_pos c], ?_⟩
    rw [c.1] at h4
    exact Md.le_trans h4 rfl
  · exact ⟨n, by simp only [ev, h1, h3, bnd_ok, if_neg c], h4⟩
theorem ev_bi {f : Bi} {as : List E} {ps : List (Md × D)} {d : D} (h : Evs F as Γ ps) (k : biD f (ps.map Prod.snd) = some (m, d)) : Ev F (.bi f as) Γ m d := by
  obtain ⟨qs, h1, h2⟩ := h
  rw [h2.snd] at k
  exact ⟨m, by simp only [ev, h1, bnd_ok, k]; rfl, Md.le_refl m⟩
theorem evs1 {d : D} (ha : Ev F a Γ m d) : Evs F [a] Γ [(m, d)] := evs_cons ha evs_nil
theorem evs2 {d d' : D} {m' : Md} (ha : Ev F a Γ m d) (hb : Ev F b Γ m' d') : Evs F [a, b] Γ [(m, d), (m', d')] := evs_cons ha (evs_cons hb evs_nil)
theorem ev_len {e : α → D} {xs : List α} {m1 : Md} (ha : Ev F a Γ m1 (eL e xs)) : Ev F (.bi .len [a]) Γ .dp (.int (xs.length : Int)) := ev_bi (evs1 ha) (by show some (Md.dp, D.int ((xs.map e).length : Int)) = _; rw [List.length_map])
theorem ev_lenT {ds : List D} {m1 : Md} (ha : Ev F a Γ m1 (.tup ds)) : Ev F (.bi .len [a]) Γ .dp (.int (ds.length : Int)) := ev_bi (evs1 ha) rfl
theorem ev_sum {xs : List Int} {m1 : Md} (ha : Ev F a Γ m1 (eL D.int xs)) : Ev F (.bi .sum [a]) Γ .dp (.int xs.sum) := ev_bi (evs1 ha) (bi_sum xs)
theorem ev_all {xs : List Bool} {m1 : Md} (ha : Ev F a Γ m1 (eL D.bl xs)) : Ev F (.bi .all [a]) Γ .dp (.bl (xs.all id)) := ev_bi (evs1 ha) (bi_all id xs)
theorem ev_any {xs : List Bool} {m1 : Md} (ha : Ev F a Γ m1 (eL D.bl xs)) : Ev F (.bi .any [a]) Γ .dp (.bl (xs.any id)) := ev_bi (evs1 ha) (bi_any id xs)
theorem ev_max2 {x y : Int} {m1 m2 : Md} (ha : Ev F a Γ m1 (.int x)) (hb : Ev F b Γ m2 (.int y)) : Ev F (.bi .max [a, b]) Γ .dp (.int (max x y)) := ev_bi (evs2 ha hb) (by
  show some (Md.dp, D.int (if y > x then y else x)) = _
  congr 3
  split <;> omega)
theorem ev_min2 {x y : Int} {m1 m2 : Md} (ha : Ev F a Γ m1 (.int x)) (hb : Ev F b Γ m2 (.int y)) : Ev F (.bi .min [a, b]) Γ .dp (.int (min x y)) := ev_bi (evs2 ha hb) (by
  show some (Md.dp, D.int (if y < x then y else x)) = _
  congr 3
  split <;> omega)
theorem ev_sortZ {xs : List Int} {m1 : Md} (ha : Ev F a Γ m1 (eL D.int xs)) : Ev F (.bi .sorted [a]) Γ .dp (eL D.int (isortB ltZ xs)) := ev_bi (evs1 ha) (by
  show sortD (xs.map D.int) = _
  unfold sortD
  rw [intsD_eI])
theorem ev_list {e : α → D} {xs : List α} {m1 : Md} (ha : Ev F a Γ m1 (eL e xs)) : Ev F (.bi .list [a]) Γ .fl (eL e xs) := ev_bi (evs1 ha) rfl
theorem ev_slenP {xs : List (Int × Int)} {m1 : Md} (ha : Ev F a Γ m1 (eL (e2 D.int D.int) xs)) (h : xs.length < 64) : Ev F (.bi .slen [a]) Γ .dp (.int ((dedB xs).length : Int)) := ev_bi (evs1 ha) (by
  show (match prsD (xs.map eP) with | some ps => if ps.length < 64 then some (Md.dp, D.int ((dedB ps).length : Int)) else none | none => none) = _
  rw [prsD_eP]
  exact if_pos h)
def rg (a b : Int) : List Int := (List.range (b - a).toNat).map fun (i : Nat) => a + (i : Int)
theorem rngD_rg (a b : Int) : rngD a b = (rg a b).map D.int := by
  unfold rngD rg
  rw [List.map_map]
  rfl
abbrev RgOk' (a b : Int) : Prop := -100000 ≤ a ∧ a ≤ 100000 ∧ -100000 ≤ b ∧ b ≤ 100000
theorem rngOk_of' {a b : Int} (h : RgOk' a b) : rngOk a b = true := by
  unfold rngOk smallI
  simp only [Bool.and_eq_true, decide_eq_true_eq]
  have : SZ = 1000000 := rfl
  omega
theorem findIdx_enc [DecidableEq α] [BEq α] [LawfulBEq α] {k : Nat} {e : α → D} (h : Dt k e) (x : α) : ∀ xs : List α, (xs.map e).findIdx? (fun z => eqD z (e x)) = if x ∈ xs then some (xs.idxOf x) else none
  | [] => rfl
  | y :: ys => by
    rw [List.map_cons, List.findIdx?_cons, h.eq, findIdx_enc h x ys]
    by_cases c : y = x
    · subst c
      simp
    · have c' : ¬ x = y := fun z => c z.symm
      have c3 : (y == x) = false := by simpa using c
      by_cases c2 : x ∈ ys <;> simp [c, c', c2, c3, List.idxOf_cons]
theorem ev_isi {d : D} {t : Ty} {u : Bool} {m1 : Md} (ha : Ev F a Γ m1 d) (h : isiD d t = some u) : Ev F (.isi a t) Γ .dp (.bl u) := by
  obtain ⟨n1, h1, _⟩ := ha
  exact ⟨.dp, by simp only [ev, h1, bnd_ok, h]; rfl, rfl⟩
theorem es_list {e : α → D} {xs : List α} (ha : Ev F a Γ m (eL e xs)) : EvS F (.seq a) Γ m (xs.map e) := by
  obtain ⟨n1, h1, h2⟩ := ha
  exact ⟨n1, by simp only [evS, h1, bnd_ok]; rfl, h2⟩
theorem es_tup {ds : List D} (ha : Ev F a Γ m (.tup ds)) : EvS F (.seq a) Γ m ds := by
  obtain ⟨n1, h1, h2⟩ := ha
  exact ⟨n1, by simp only [evS, h1, bnd_ok]; rfl, h2⟩
theorem es_rng {x y : Int} {m1 m2 : Md} (ha : Ev F a Γ m1 (.int x)) (hb : Ev F b Γ m2 (.int y)) (h : RgOk' x y) : EvS F (.rng a b) Γ .dp ((rg x y).map D.int) := by
  obtain ⟨n1, h1, _⟩ := ha
  obtain ⟨n2, h2, _⟩ := hb
  refine ⟨.dp, ?_, rfl⟩
  simp only [evS, h1, h2, bnd_ok, if_pos (rngOk_of' h), rngD_rg]
def en {α : Type} (xs : List α) : List (Int × α) := xs.zipIdx.map fun p => ((p.2 : Int), p.1)
theorem es_enu {e : α → D} {xs : List α} (ha : Ev F a Γ m (eL e xs)) : EvS F (.enu a) Γ m ((en xs).map (e2 D.int e)) := by
  obtain ⟨n1, h1, h2⟩ := ha
  refine ⟨n1, ?_, h2⟩
  simp only [evS, h1, bnd_ok]
  rw [enuD_map]
  unfold en
  rw [List.map_map]
  rfl
theorem es_zip {e : α → D} {f : β → D} {xs : List α} {ys : List β} {m1 m2 : Md} (ha : Ev F a Γ m1 (eL e xs)) (hb : Ev F b Γ m2 (eL f ys)) : EvS F (.zip a b) Γ .sh ((xs.zip ys).map (e2 e f)) := by
  obtain ⟨n1, h1, _⟩ := ha
  obtain ⟨n2, h2, _⟩ := hb
  refine ⟨.sh, ?_, rfl⟩
  simp only [evS, h1, h2, bnd_ok]
  rw [zipD_map]
def EvC (F : Tb) (cs : List E) (Γ : Dn) (t : Bool) : Prop := evC F cs Γ = some (.ok t)
theorem evc_one {t : Bool} {m1 : Md} (h : Ev F a Γ m1 (.bl t)) : EvC F [a] Γ t := by
  obtain ⟨n1, h1, _⟩ := h
  exact evC_one h1
theorem ev_compG {ts : List Nat} {one : Bool} {s : Sr} {cs : List E} {m1 m2 : Md} (ei : α → D) (eo : β → D) (xs : List α) (p : α → Bool) (g : α → β)
    (hs : EvS F s Γ m1 (xs.map ei))
    (hb : ∀ x ∈ xs, ∃ Γ1, bindT ts one (ei x) Γ = some Γ1 ∧ EvC F cs Γ1 (p x) ∧ (p x = true → Ev F a Γ1 m2 (eo (g x)))) :
    ∃ ps, ev F (.comp ts one s cs a) Γ = some (.ok (boxM ps, eL eo ((xs.filter p).map g))) ∧ ((∀ x, Cl m2 (eo x)) → Cls ps) := by
  obtain ⟨n1, h1, _⟩ := hs
  classical
  have hm : ∃ md : α → Md, ∀ x ∈ xs, ∃ e1, bindT ts one (ei x) Γ = some e1 ∧ evC F cs e1 = some (.ok (p x)) ∧ (p x = true → ev F a e1 = some (.ok (md x, eo (g x))) ∧ Md.le m2 (md x) = true) := by
    refine ⟨fun x => if h : x ∈ xs ∧ p x = true then Classical.choose ((Classical.choose_spec (hb x h.1)).2.2 h.2) else .dp, fun x hx => ?_⟩
    refine ⟨Classical.choose (hb x hx), (Classical.choose_spec (hb x hx)).1, (Classical.choose_spec (hb x hx)).2.1, fun hp => ?_⟩
    have h : x ∈ xs ∧ p x = true := ⟨hx, hp⟩
    simp only
    rw [dif_pos h]
    exact Classical.choose_spec ((Classical.choose_spec (hb x h.1)).2.2 h.2)
  obtain ⟨md, hm⟩ := hm
  refine ⟨(xs.filter p).map fun x => (md x, eo (g x)), ?_, fun hc => closeds_all fun q hq => ?_⟩
  · rw [ev_comp ei xs p (fun x => (md x, eo (g x))) h1 (fun x hx => by
      obtain ⟨e1, h1, h2, h3⟩ := hm x hx
      exact ⟨e1, h1, h2, fun hp => (h3 hp).1⟩), eL, List.map_map]
    rfl
  · obtain ⟨x, hx, rfl⟩ := List.mem_map.mp hq
    obtain ⟨hx, hp⟩ := List.mem_filter.mp hx
    obtain ⟨e1, g1, g2, g3⟩ := hm x hx
    exact closed_le (g3 hp).2 (hc (g x))
theorem ev_compC {ts : List Nat} {one : Bool} {s : Sr} {cs : List E} {m1 m2 : Md} (ei : α → D) (eo : β → D) (xs : List α) (p : α → Bool) (g : α → β) (hc : ∀ x, Cl m2 (eo x))
    (hs : EvS F s Γ m1 (xs.map ei))
    (hb : ∀ x ∈ xs, ∃ Γ1, bindT ts one (ei x) Γ = some Γ1 ∧ EvC F cs Γ1 (p x) ∧ (p x = true → Ev F a Γ1 m2 (eo (g x)))) :
    Ev F (.comp ts one s cs a) Γ .dp (eL eo ((xs.filter p).map g)) := by
  obtain ⟨ps, h1, h2⟩ := ev_compG ei eo xs p g hs hb
  refine ⟨_, h1, ?_⟩
  unfold boxM
  rw [h2 hc]
  rfl
theorem ev_compC0 {ts : List Nat} {one : Bool} {s : Sr} {m1 m2 : Md} (ei : α → D) (eo : β → D) (xs : List α) (g : α → β) (hc : ∀ x, Cl m2 (eo x))
    (hs : EvS F s Γ m1 (xs.map ei))
    (hb : ∀ x ∈ xs, ∃ Γ1, bindT ts one (ei x) Γ = some Γ1 ∧ Ev F a Γ1 m2 (eo (g x))) :
    Ev F (.comp ts one s [] a) Γ .dp (eL eo (xs.map g)) := by
  have := ev_compC (cs := []) ei eo xs (fun _ => true) g hc hs (fun x hx => by
    obtain ⟨Γ1, h1, h2⟩ := hb x hx
    exact ⟨Γ1, h1, by unfold EvC; simp only [evC], fun _ => h2⟩)
  rwa [List.filter_eq_self.mpr fun _ _ => rfl] at this
end
end TY

set_option Elab.async false
set_option linter.all false
set_option maxRecDepth 100000
set_option maxHeartbeats 4000000
namespace TY
open TW PySem PySem.Spec PyProof.Rows L2

def lett {α : Type} {β : Sort u} (a : α) (f : α → β) : β := f a
def outF {σ ρ : Type} (env : σ → Dn) (m : Md) (e : ρ → D) : σ ⊕ ρ → Fl
  | .inl s => .nx (env s)
  | .inr v => .rt m (e v)
def lett2 {α β : Type} {γ : Sort u} (a : α) (b : β) (f : α → β → γ) : γ := f a b
def nxF {σ : Type} (env : σ → Dn) (s : σ) : Fl := .nx (env s)
def Blk (F : Tb) (ss : List S) (Γ : Dn) (o : Fl) : Prop := ∃ b, exs F ss Γ = some (.ok b) ∧ FlLe o b
section
variable {F : Tb} {Γ Γ1 : Dn} {ss : List S} {o : Fl} {m n : Md} {a b c : E} {α β σ τ ρ : Type}
theorem FlLe.refl : ∀ o : Fl, FlLe o o
  | .nx e => ELe.refl e
  | .rt m d => PLe.refl _
theorem FlLe.trans : ∀ {a b c : Fl}, FlLe a b → FlLe b c → FlLe a c
  | .nx _, .nx _, .nx _, h, k => ELe.trans h k
  | .rt _ _, .rt _ _, .rt _ _, h, k => PLe.trans h k
  | .nx _, .rt _ _, _, h, _ => h.elim
  | .rt _ _, .nx _, _, h, _ => h.elim
  | .nx _, .nx _, .rt _ _, _, k => k.elim
  | .rt _ _, .rt _ _, .nx _, _, k => k.elim
theorem Blk.env {Γ' : Dn} (h : Blk F ss Γ o) (k : ELe Γ Γ') : Blk F ss Γ' o := by
  obtain ⟨b, h1, h2⟩ := h
  have := exs_le F ss k
  rw [h1] at this
  obtain ⟨b', h3, h4⟩ := this
  exact ⟨b', h3, FlLe.trans h2 h4⟩
theorem Blk.step {s : S} {Γ' : Dn} (h : ex F s Γ = some (.ok (.nx Γ'))) (k : ELe Γ1 Γ') (r : Blk F ss Γ1 o) : Blk F (s :: ss) Γ o := by
  obtain ⟨b, h1, h2⟩ := r.env k
  exact ⟨b, by simp only [exs, h, bnd_ok, h1], h2⟩
theorem Blk.eq {o' : Fl} (h : Blk F ss Γ o) (e : o = o') : Blk F ss Γ o' := e ▸ h
theorem blk_nil {env : σ → Dn} {e : ρ → D} {s : σ} (h : ELe (env s) Γ) : Blk F [] Γ (outF env m e (.inl s)) := ⟨.nx Γ, by simp only [exs], h⟩
theorem blk_ret {env : σ → Dn} {e : ρ → D} {v : ρ} (h : Evr F a Γ m (e v)) : Blk F (.ret a :: ss) Γ (outF env m e (.inr v)) := by
  obtain ⟨n, h1, h2⟩ := h
  exact ⟨.rt n (e v), by simp only [exs, ex, h1, bnd_ok], rfl, h2⟩
theorem evr_var {i : Nat} {d : D} (h : Γ[i]? = some (some (m, d))) : Evr F (.var i) Γ m d := ⟨m, by simp only [evr, h], Md.le_refl m⟩
theorem evr_of {d : D} (h : Ev F a Γ m d) (k : evr F a Γ = ev F a Γ := by simp only [evr]) : Evr F a Γ m d := by
  obtain ⟨n, h1, h2⟩ := h
  exact ⟨n, k.trans h1, h2⟩
theorem Evr.le {d : D} (h : Evr F a Γ m d) (k : Md.le n m = true) : Evr F a Γ n d := by
  obtain ⟨q, h1, h2⟩ := h
  exact ⟨q, h1, Md.le_trans k h2⟩
theorem Evr.eq {d d' : D} (h : Evr F a Γ m d) (e : d = d') : Evr F a Γ m d' := e ▸ h
def Evrs (F : Tb) (as : List E) (Γ : Dn) (ps : List (Md × D)) : Prop := ∃ qs, evrs F as Γ = some (.ok qs) ∧ PsLe ps qs
theorem evrs_nil : Evrs F [] Γ [] := ⟨[], by simp only [evrs], trivial⟩
theorem evrs_cons {d : D} {as : List E} {ps : List (Md × D)} (ha : Evr F a Γ m d) (h : Evrs F as Γ ps) : Evrs F (a :: as) Γ ((m, d) :: ps) := by
  obtain ⟨n1, h1, h2⟩ := ha
  obtain ⟨qs, h3, h4⟩ := h
  exact ⟨(n1, d) :: qs, by simp only [evrs, h1, h3, bnd_ok], ⟨rfl, h2⟩, h4⟩
theorem evr_tupC {as : List E} {ps : List (Md × D)} (h : Evrs F as Γ ps) (k : Cls ps) (nd : (mvs as).Nodup) : Evr F (.tup as) Γ .dp (.tup (ps.map Prod.snd)) := by
  obtain ⟨qs, h1, h2⟩ := h
  refine ⟨if (mvs as).Nodup then tupM qs else .sh, by simp only [evr, h1, bnd_ok, h2.snd], ?_⟩
  rw [if_pos nd]
  unfold tupM
  rw [closeds_le h2 k]
  rfl
theorem give_closed {is : List Nat} {d : D} (h : Cl m d) : give is m d Γ = Γ := by rw [give_eq, if_pos h]
theorem frz_give {is : List Nat} {d : D} : ELe (frz is Γ) (give is m d Γ) := by
  rw [give_eq]
  split
  · exact frz_le _ _
  · split
    · exact ELe.refl _
    · exact frz_le _ _
theorem keep_sh {d : D} : PLe (.sh, d) (keep n d) := by
  unfold keep
  split
  · exact PLe.refl _
  · exact ⟨rfl, rfl⟩
theorem blk_asgC {i : Nat} {e : α → D} {v : α} {O : τ → Fl} {K : α → τ} {OK : α → Prop} {Γ1 : α → Dn} (ha : Ev F a Γ m (e v)) (hc : ∀ x, Cl m (e x)) (hΓ : ∀ x, ELe (Γ1 x) (Γ.set i (some (keep m (e x))))) (hr : ∀ x, OK x → Blk F ss (Γ1 x) (O (K x))) (hok : lett v OK) : Blk F (.asg i a :: ss) Γ (O (lett v K)) := by
  obtain ⟨n, h1, h2⟩ := ha
  refine Blk.step (Γ1 := Γ1 v) (Γ' := (give (nm a) n (e v) Γ).set i (some (keep n (e v)))) (by simp only [ex, h1, bnd_ok]) ?_ (hr v hok)
  refine (hΓ v).trans ?_
  rw [give_closed (closed_le h2 (hc v))]
  exact (ELe.refl Γ).set i (s := some (keep m (e v))) (t := some (keep n (e v))) (keep_le (p := (m, e v)) (q := (n, e v)) ⟨rfl, h2⟩)
theorem blk_asgF {i : Nat} {e : α → D} {v : α} {O : τ → Fl} {K : α → τ} {OK : α → Prop} {Γ1 : α → Dn} (ha : Ev F a Γ m (e v)) (hΓ : ∀ x, ELe (Γ1 x) ((frz (nm a) Γ).set i (some (keep m (e x))))) (hr : ∀ x, OK x → Blk F ss (Γ1 x) (O (K x))) (hok : lett v OK) : Blk F (.asg i a :: ss) Γ (O (lett v K)) := by
  obtain ⟨n, h1, h2⟩ := ha
  refine Blk.step (Γ1 := Γ1 v) (Γ' := (give (nm a) n (e v) Γ).set i (some (keep n (e v)))) (by simp only [ex, h1, bnd_ok]) ?_ (hr v hok)
  refine (hΓ v).trans ?_
  exact frz_give.set i (s := some (keep m (e v))) (t := some (keep n (e v))) (keep_le (p := (m, e v)) (q := (n, e v)) ⟨rfl, h2⟩)
theorem blk_parH {is : List Nat} {as : List E} {ps : List (Md × D)} {Γ2 : Dn} (h : Evs F as Γ ps) (hc : Cls ps) (hs : setAll is ps Γ = some Γ2) (hΓ : ELe Γ1 Γ2) (hr : Blk F ss Γ1 o) : Blk F (.par is as :: ss) Γ o := by
  obtain ⟨qs, h1, h2⟩ := h
  obtain ⟨e1, g1, g2⟩ := setAll_le is (ELe.refl Γ) h2 Γ2 hs
  refine Blk.step (Γ' := e1) ?_ (hΓ.trans g2) hr
  simp only [ex, h1, bnd_ok, gives_eq, if_pos (closeds_le h2 hc), g1]
  rfl
section
variable {O : τ → Fl}
theorem blk_par2C {i j : Nat} {a1 a2 : E} {m1 m2 : Md} {e1 : α → D} {e2 : β → D} {v1 : α} {v2 : β} {K : α → β → τ} {OK : α → β → Prop} {Γ1 : α → β → Dn} (h : Evs F [a1, a2] Γ [(m1, e1 v1), (m2, e2 v2)]) (hc : ∀ x y, Cls [(m1, e1 x), (m2, e2 y)]) (hΓ : ∀ x y, ELe (Γ1 x y) ((Γ.set i (some (keep m1 (e1 x)))).set j (some (keep m2 (e2 y))))) (hr : ∀ x y, OK x y → Blk F ss (Γ1 x y) (O (K x y))) (hok : lett2 v1 v2 OK) : Blk F (.par [i, j] [a1, a2] :: ss) Γ (O (lett2 v1 v2 K)) :=
  blk_parH h (hc v1 v2) rfl (hΓ v1 v2) (hr v1 v2 hok)
theorem blk_aug {i : Nat} {x y : Int} {m1 : Md} {K : Int → τ} {OK : Int → Prop} {Γ1 : Int → Dn} (hi : Γ[i]? = some (some (m, .int x))) (h : Ev F a Γ m1 (.int y)) (hΓ : ∀ z, ELe (Γ1 z) (Γ.set i (some (.sh, .int z)))) (hr : ∀ z, OK z → Blk F ss (Γ1 z) (O (K z))) (hok : lett (x + y) OK) : Blk F (.aug i a :: ss) Γ (O (lett (x + y) K)) := by
  obtain ⟨n, h1, h2⟩ := h
  refine Blk.step (Γ' := Γ.set i (some (.sh, .int (x + y)))) ?_ (hΓ _) (hr _ hok)
  simp only [ex, hi, h1, bnd_ok]
  rfl
end
theorem blk_exp {d : D} (h : Ev F a Γ m d) (hr : Blk F ss Γ o) : Blk F (.exp a :: ss) Γ o := by
  obtain ⟨n, h1, h2⟩ := h
  exact Blk.step (by simp only [ex, h1, bnd_ok]) (ELe.refl Γ) hr
theorem exs_app (A : List S) : ∀ Γ, exs F (A ++ ss) Γ = bnd (exs F A Γ) fun r => match r with | .nx e1 => exs F ss e1 | .rt m d => ok (.rt m d) := by
  induction A with
  | nil => intro Γ; simp only [List.nil_append, exs]; rfl
  | cons s A ih =>
    intro Γ
    simp only [List.cons_append, exs]
    match ex F s Γ with
    | none => rfl
    | some (.er C) => rfl
    | some (.ok (.nx e)) => simp only [bnd_ok]; exact ih e
    | some (.ok (.rt m d)) => rfl
theorem blk_if {O : τ → Fl} {r1 r2 : τ} {A B : List S} {t : Bool} {m1 : Md} (h : Ev F c Γ m1 (.bl t)) (h1 : t = true → Blk F (A ++ ss) Γ (O r1)) (h2 : t = false → Blk F (B ++ ss) Γ (O r2)) : Blk F (.ife c A B :: ss) Γ (O (if t = true then r1 else r2)) := by
  obtain ⟨n, g1, _⟩ := h
  cases t with
  | true =>
    obtain ⟨b, k1, k2⟩ := h1 rfl
    rw [exs_app] at k1
    exact ⟨b, by simp only [exs, ex, g1, bnd_ok, boolD_bl]; exact k1, k2⟩
  | false =>
    obtain ⟨b, k1, k2⟩ := h2 rfl
    rw [exs_app] at k1
    exact ⟨b, by simp only [exs, ex, g1, bnd_ok, boolD_bl]; exact k1, k2⟩
theorem blk_if0 {A B : List S} {t : Bool} {m1 : Md} (h : Ev F c Γ m1 (.bl t)) (h1 : t = true → Blk F (A ++ ss) Γ o) (h2 : t = false → Blk F (B ++ ss) Γ o) : Blk F (.ife c A B :: ss) Γ o := by
  obtain ⟨n, g1, _⟩ := h
  cases t with
  | true =>
    obtain ⟨b, k1, k2⟩ := h1 rfl
    rw [exs_app] at k1
    exact ⟨b, by simp only [exs, ex, g1, bnd_ok, boolD_bl]; exact k1, k2⟩
  | false =>
    obtain ⟨b, k1, k2⟩ := h2 rfl
    rw [exs_app] at k1
    exact ⟨b, by simp only [exs, ex, g1, bnd_ok, boolD_bl]; exact k1, k2⟩
theorem exs_one (s : S) : exs F [s] Γ = ex F s Γ := by
  simp only [exs]
  match ex F s Γ with
  | none => rfl
  | some (.er C) => rfl
  | some (.ok (.nx e)) => rfl
  | some (.ok (.rt m d)) => rfl
def andThen {σ τ ρ : Type} (r : σ ⊕ ρ) (k : σ → τ ⊕ ρ) : τ ⊕ ρ := match r with
  | .inl s => k s
  | .inr v => .inr v
def okThen {σ ρ : Type} (r : σ ⊕ ρ) (k : σ → Prop) : Prop := match r with
  | .inl s => k s
  | .inr _ => True
theorem blk_then {s : S} {env : σ → Dn} {env' : τ → Dn} {e : ρ → D} {r : σ ⊕ ρ} {K : σ → τ ⊕ ρ} {OK : σ → Prop} (h : Blk F [s] Γ (outF env m e r)) (hr : ∀ x, OK x → Blk F ss (env x) (outF env' m e (K x))) (hok : okThen r OK) : Blk F (s :: ss) Γ (outF env' m e (andThen r K)) := by
  obtain ⟨b, h1, h2⟩ := h
  rw [exs_one] at h1
  cases r with
  | inl x =>
    match b, h2 with
    | .rt _ _, h2 => exact h2.elim
    | .nx Γ', h2 => exact Blk.step h1 h2 (hr x hok)
  | inr v =>
    match b, h2 with
    | .nx _, h2 => exact h2.elim
    | .rt m' d', h2 => exact ⟨.rt m' d', by simp only [exs, h1, bnd_ok], h2⟩
theorem blk_thenN {s : S} {env : σ → Dn} {x : σ} {OK : σ → Prop} {O : τ → Fl} {K : σ → τ} (h : Blk F [s] Γ (nxF env x)) (hr : ∀ x, OK x → Blk F ss (env x) (O (K x))) (hok : lett x OK) : Blk F (s :: ss) Γ (O (lett x K)) := by
  obtain ⟨b, h1, h2⟩ := h
  rw [exs_one] at h1
  match b, h2 with
  | .rt _ _, h2 => exact h2.elim
  | .nx Γ', h2 => exact Blk.step h1 h2 (hr x hok)
theorem blk_ifS {O : τ → Fl} {r1 r2 : τ} {A B : List S} {t : Bool} {m1 : Md} (h : Ev F c Γ m1 (.bl t)) (h1 : t = true → Blk F A Γ (O r1)) (h2 : t = false → Blk F B Γ (O r2)) : Blk F [.ife c A B] Γ (O (if t = true then r1 else r2)) := blk_if h (fun z => by rw [List.append_nil]; exact h1 z) (fun z => by rw [List.append_nil]; exact h2 z)
theorem blk_nilF {env : σ → Dn} {s : σ} (h : ELe (env s) Γ) : Blk F [] Γ (nxF env s) := ⟨.nx Γ, by simp only [exs], h⟩
theorem blk_ifR {A : List S} {t : Bool} {m1 : Md} (h : Ev F c Γ m1 (.bl t)) (h1 : t = false) (h2 : Blk F ss Γ o) : Blk F (.ife c A [] :: ss) Γ o := by
  subst h1
  exact blk_if0 h (fun z => by cases z) (fun _ => h2)
def forR {α σ ρ : Type} (st : σ → α → σ ⊕ ρ) : List α → σ → σ ⊕ ρ
  | [], s => .inl s
  | x :: xs, s => match st s x with
    | .inl s' => forR st xs s'
    | .inr v => .inr v
def okFor {α σ ρ : Type} (ok : σ → α → Prop) (st : σ → α → σ ⊕ ρ) : List α → σ → Prop
  | [], _ => True
  | x :: xs, s => ok s x ∧ match st s x with
    | .inl s' => okFor ok st xs s'
    | .inr _ => True
def okFold {α σ : Type} (ok : σ → α → Prop) (st : σ → α → σ) : List α → σ → Prop
  | [], _ => True
  | x :: xs, s => ok s x ∧ okFold ok st xs (st s x)
theorem blk_forG {ts : List Nat} {one : Bool} {s : Sr} {body : List S} {m1 : Md} {st : σ → α → σ ⊕ ρ} {OK : σ → α → Prop} {env : σ → Dn} {e : ρ → D} {ei : α → D} {xs : List α} {s0 : σ} (hs : EvS F s Γ m1 (xs.map ei)) (h0 : ELe (env s0) (frz (nmS s) Γ))
    (hb : ∀ s x, OK s x → ∃ Γb, bindT ts one (ei x) (env s) = some Γb ∧ Blk F body Γb (outF env m e (st s x))) (hok : okFor OK st xs s0) : Blk F [.for_ ts one s body] Γ (outF env m e (forR st xs s0)) := by
  obtain ⟨n, h1, _⟩ := hs
  have key : ∀ (xs : List α) (s0 : σ) (e1 : Dn), ELe (env s0) e1 → okFor OK st xs s0 → ∃ b, forL (fun x e1 => match bindT ts one x e1 with | none => none | some e2 => exs F body e2) (xs.map ei) e1 = some (.ok b) ∧ FlLe (outF env m e (forR st xs s0)) b := by
    intro xs
    induction xs with
    | nil => intro s0 e1 h _; exact ⟨.nx e1, rfl, h⟩
    | cons x xs ih =>
      intro s0 e1 h hok
      obtain ⟨o1, o2⟩ := hok
      obtain ⟨Γb, b1, b2⟩ := hb s0 x o1
      obtain ⟨e2, b3, b4⟩ := bindT_le h Γb b1
      obtain ⟨r, r1, r2⟩ := b2.env b4
      rw [List.map_cons]
      unfold forL forR
      simp only [b3, r1, bnd_ok]
      cases hst : st s0 x with
      | inl s' =>
        rw [hst] at r2 o2
        match r, r2 with
        | .rt _ _, r2 => exact r2.elim
        | .nx e3, r2 => exact ih s' e3 r2 o2
      | inr v =>
        rw [hst] at r2
        match r, r2 with
        | .nx _, r2 => exact r2.elim
        | .rt m' d', r2 => exact ⟨_, rfl, r2⟩
  obtain ⟨b, k1, k2⟩ := key xs s0 (if n = .dp then Γ else frz (nmS s) Γ) (h0.trans (by
    split
    · exact frz_le _ _
    · exact ELe.refl _)) hok
  refine ⟨b, ?_, k2⟩
  rw [exs_one]
  simp only [ex, h1, bnd_ok]
  exact k1
theorem okFor_fold {st : σ → α → σ} {ok : σ → α → Prop} : ∀ {xs : List α} {s : σ}, okFold ok st xs s → okFor (ρ := Unit) ok (fun s x => .inl (st s x)) xs s
  | [], _, _ => trivial
  | x :: xs, s, h => ⟨h.1, okFor_fold h.2⟩
theorem forR_fold {st : σ → α → σ} : ∀ {xs : List α} {s : σ}, forR (ρ := Unit) (fun s x => .inl (st s x)) xs s = .inl (xs.foldl st s)
  | [], _ => rfl
  | x :: xs, s => forR_fold (xs := xs)
theorem blk_forF {ts : List Nat} {one : Bool} {s : Sr} {body : List S} {m1 : Md} {st : σ → α → σ} {OK : σ → α → Prop} {env : σ → Dn} {ei : α → D} {xs : List α} {s0 : σ} (hs : EvS F s Γ m1 (xs.map ei)) (h0 : ELe (env s0) (frz (nmS s) Γ))
    (hb : ∀ s x, OK s x → ∃ Γb, bindT ts one (ei x) (env s) = some Γb ∧ Blk F body Γb (nxF env (st s x))) (hok : okFold OK st xs s0) : Blk F [.for_ ts one s body] Γ (nxF env (xs.foldl st s0)) := by
  have := blk_forG (ρ := Unit) (m := .sh) (e := fun _ => D.non) (st := fun s x => .inl (st s x)) hs h0 hb (okFor_fold hok)
  rw [forR_fold] at this
  exact this
def whlV {σ : Type} (c : σ → Bool) (st : σ → σ) : Nat → σ → σ
  | 0, s => s
  | n + 1, s => if c s = true then whlV c st n (st s) else s
def okWhl {σ : Type} (c : σ → Bool) (st : σ → σ) (okc : σ → Prop) (okb : σ → Prop) : Nat → σ → Prop
  | 0, _ => False
  | n + 1, s => okc s ∧ (c s = true → okb s ∧ okWhl c st okc okb n (st s))
theorem blk_whl {c : E} {body : List S} {m1 : Md} {t : σ → Bool} {st : σ → σ} {okc okb : σ → Prop} {env : σ → Dn} {s0 : σ} (h0 : ELe (env s0) Γ) (hc : ∀ s, okc s → Ev F c (env s) m1 (.bl (t s))) (hb : ∀ s, okb s → t s = true → Blk F body (env s) (nxF env (st s))) (hok : okWhl t st okc okb 300 s0) : Blk F [.whl c body] Γ (nxF env (whlV t st 300 s0)) := by
  have key : ∀ (n : Nat) (s0 : σ) (e1 : Dn), ELe (env s0) e1 → okWhl t st okc okb n s0 → ∃ e2, whlL (fun e1 => bnd (ev F c e1) fun p => lift (boolD p.2)) (fun e1 => exs F body e1) n e1 = some (.ok (.nx e2)) ∧ ELe (env (whlV t st n s0)) e2 := by
    intro n
    induction n with
    | zero => intro s0 e1 h hk; exact hk.elim
    | succ n ih =>
      intro s0 e1 h hk
      obtain ⟨k1, k2⟩ := hk
      obtain ⟨q, q1, _⟩ := (hc s0 k1).env h
      unfold whlL whlV
      simp only [q1, bnd_ok, boolD_bl, lift_some]
      cases ht : t s0 with
      | false => exact ⟨e1, rfl, h⟩
      | true =>
        obtain ⟨k3, k4⟩ := k2 ht
        obtain ⟨r, r1, r2⟩ := (hb s0 k3 ht).env h
        simp only [if_true, r1, bnd_ok]
        match r, r2 with
        | .rt _ _, r2 => exact r2.elim
        | .nx e3, r2 => exact ih (st s0) e3 r2 k4
  obtain ⟨e2, k1, k2⟩ := key 300 s0 Γ h0 hok
  refine ⟨.nx e2, ?_, k2⟩
  rw [exs_one]
  simp only [ex]
  exact k1
def EvP (F : Tb) (p : List E) (Γ : Dn) (is : List Int) : Prop := evP F p Γ = some (.ok is.reverse)
theorem evp_nil : EvP F [] Γ [] := by unfold EvP; simp only [evP]; rfl
theorem evp_one {i : Int} {m1 : Md} (h : Ev F a Γ m1 (.int i)) : EvP F [a] Γ [i] := by
  obtain ⟨n, h1, _⟩ := h
  unfold EvP
  simp only [evP, bnd_ok, okOnly, h1]
  rfl
def Chg (o : Mo) (vs : List D) (is : List Int) (d d' : D) : Prop := (∃ xs, getP is d = some (.lst xs)) ∧ moP o vs is d = some d'
theorem chg_nil {o : Mo} {vs xs ys : List D} (h : moL o xs vs = some ys) : Chg o vs [] (.lst xs) (.lst ys) := ⟨⟨xs, rfl⟩, by simp only [moP, h]; rfl⟩
def stI {α : Type} (xs : List α) (i : Int) (y : α) : List α := match ixN xs.length i with
  | some j => xs.set j y
  | none => xs
theorem chg_at [Inhabited α] {o : Mo} {vs : List D} {is : List Int} {e : α → D} {xs : List α} {i : Int} {y : α} (h : IxOk xs i) (k : Chg o vs is (e (gI xs i)) (e y)) : Chg o vs (i :: is) (eL e xs) (eL e (stI xs i y)) := by
  obtain ⟨⟨zs, k1⟩, k2⟩ := k
  have ha := atI_ok h
  have ha' : atI (xs.map e) i = some (e (gI xs i)) := by rw [atI_map, ha]; rfl
  refine ⟨⟨zs, ?_⟩, ?_⟩
  · show (atI (xs.map e) i).bind (getP is) = _
    rw [ha']
    exact k1
  · cases hj : ixN xs.length i with
    | none =>
      unfold atI at ha
      rw [hj] at ha
      cases ha
    | some j =>
      have hj2 : (xs.map e)[j]? = some (e (gI xs i)) := by
        unfold atI at ha'
        rw [List.length_map, hj] at ha'
        exact ha'
      simp only [moP, List.length_map, hj, Option.bind_some, hj2, k2, Option.map_some]
      unfold stI
      rw [hj]
      show _ = some (D.lst ((xs.set j y).map e))
      rw [List.map_set]
theorem chg_t {o : Mo} {vs : List D} {is : List Int} {ds : List D} {i : Int} {j : Nat} {d d' : D} (h : ixN ds.length i = some j) (h2 : ds[j]? = some d) (k : Chg o vs is d d') : Chg o vs (i :: is) (.tup ds) (.tup (ds.set j d')) := by
  obtain ⟨⟨zs, k1⟩, k2⟩ := k
  refine ⟨⟨zs, ?_⟩, ?_⟩
  · show (atI ds i).bind (getP is) = _
    unfold atI
    rw [h]
    simp only [Option.bind_some, h2]
    exact k1
  · simp only [moP, h, Option.bind_some, h2, k2, Option.map_some]
theorem blk_mutD {O : τ → Fl} {i : Nat} {p : List E} {o' : Mo} {as : List E} {ps : List (Md × D)} {is : List Int} {d : D} {e : α → D} {v : α} {K : α → τ} {OK : α → Prop} {Γ1 : α → Dn} (hi : Γ[i]? = some (some (.dp, d))) (hp : EvP F p Γ is) (h : Evs F as Γ ps) (hc : Cls ps) (k : Chg o' (ps.map Prod.snd) is d (e v)) (hΓ : ∀ x, ELe (Γ1 x) (Γ.set i (some (.dp, e x)))) (hr : ∀ x, OK x → Blk F ss (Γ1 x) (O (K x))) (hok : lett v OK) : Blk F (.mut i p o' as :: ss) Γ (O (lett v K)) := by
  obtain ⟨qs, h1, h2⟩ := h
  obtain ⟨⟨zs, k1⟩, k2⟩ := k
  have hp : evP F p Γ = some (.ok is.reverse) := hp
  refine Blk.step (Γ' := Γ.set i (some (.dp, e v))) ?_ (hΓ v) (hr v hok)
  have hc' := closeds_le h2 hc
  simp only [ex, hi, hp, bnd_ok, List.reverse_reverse, k1, h1, gives_eq, if_pos hc']
  rw [moS_dp, if_pos hc', ← h2.snd, k2]
  rfl
theorem map_er {α β : Type} (f : α → β) : ∀ (xs : List α) (i : Nat), (xs.map f).eraseIdx i = (xs.eraseIdx i).map f
  | [], _ => rfl
  | x :: xs, 0 => rfl
  | x :: xs, i + 1 => by simp [map_er f xs i]
theorem mo_append {e : α → D} {xs : List α} {v : α} (h : xs.length < 1000000) : moL .append (xs.map e) [e v] = some ((xs ++ [v]).map e) := by
  show (if (xs.map e).length < SZ then some (xs.map e ++ [e v]) else none) = _
  rw [List.length_map, if_pos h, List.map_append]
  rfl
theorem mo_extend {e : α → D} {xs ys : List α} (h : CatOk xs ys) : moL .extend (xs.map e) [eL e ys] = some ((xs ++ ys).map e) := by
  show (if (xs.map e).length + (ys.map e).length ≤ SZ then some (xs.map e ++ ys.map e) else none) = _
  rw [List.length_map, List.length_map, if_pos h, List.map_append]
theorem mo_pop {e : α → D} {xs : List α} (h : xs ≠ []) : moL .pop (xs.map e) [] = some (xs.dropLast.map e) := by
  cases xs with
  | nil => exact absurd rfl h
  | cons x xs =>
    show some ((List.map e (x :: xs)).dropLast) = _
    rw [List.map_dropLast]
def erI {α : Type} (xs : List α) (i : Int) : List α := match ixN xs.length i with
  | some j => xs.eraseIdx j
  | none => xs
theorem beq_inst {β : Type} (i j : BEq β) (hi : @LawfulBEq β i) (hj : @LawfulBEq β j) : i = j := by
  obtain ⟨f⟩ := i
  obtain ⟨g⟩ := j
  congr 1
  funext x y
  have h1 : f x y = true ↔ x = y := @beq_iff_eq β ⟨f⟩ hi x y
  have h2 : g x y = true ↔ x = y := @beq_iff_eq β ⟨g⟩ hj x y
  cases e1 : f x y <;> cases e2 : g x y <;> first | rfl | skip
  · exact absurd (h1.mpr (h2.mp e2)) (by rw [e1]; exact Bool.false_ne_true)
  · exact absurd (h2.mpr (h1.mp e1)) (by rw [e2]; exact Bool.false_ne_true)
theorem mo_remove0 [DecidableEq α] {k : Nat} {e : α → D} (hd : Dt k e) (hk : k ≤ 20) {xs : List α} {v : α} (h : v ∈ xs) : moL .remove (xs.map e) [e v] = some ((xs.erase v).map e) := by
  show (if TW.dat (e v) 20 && dats (xs.map e) 20 then ((xs.map e).findIdx? fun z => eqD z (e v)).map fun j => (xs.map e).eraseIdx j else none) = _
  rw [hd.dat _ _ hk, dats_of hd hk, findIdx_enc hd, if_pos h]
  simp only [Bool.and_self, if_true, Option.map_some]
  rw [map_er, List.erase_eq_eraseIdx_of_idxOf (i := xs.idxOf v) rfl]
theorem mo_remove [dq : DecidableEq α] [bq : BEq α] [lb : LawfulBEq α] {k : Nat} {e : α → D} (hd : Dt k e) (hk : k ≤ 20) {xs : List α} {v : α} (h : v ∈ xs) : moL .remove (xs.map e) [e v] = some ((@List.erase α bq xs v).map e) := by
  have h0 := mo_remove0 hd hk h
  rw [beq_inst bq instBEqOfDecidableEq lb inferInstance]
  exact h0
theorem fn_nx {P : List Fun} {k f : Nat} {Fu : Fun} {ds : List D} {env : σ → Dn} {s : σ} (hf : P[f]? = some Fu) (hn : ds.length = Fu.np) (h : Blk (run P k) Fu.body (start0 Fu.np Fu.nv ds) (nxF env s)) : Fn (run P (k + 1)) f ds .dp .non := by
  obtain ⟨b, h1, h2⟩ := h
  match b, h2 with
  | .rt _ _, h2 => exact h2.elim
  | .nx e, h2 =>
    refine ⟨.dp, ?_, rfl⟩
    show (match P[f]? with | some F => callF (run P k) F ds | none => none) = _
    rw [hf]
    show callF (run P k) Fu ds = _
    unfold callF
    rw [if_pos hn, h1]
    rfl
end
end TY

set_option Elab.async false
set_option linter.all false
set_option maxRecDepth 100000
set_option maxHeartbeats 4000000
namespace TY
open TW PySem PySem.Spec PyProof.Rows L2
abbrev e4 {α β γ δ : Type} (e : α → D) (f : β → D) (g : γ → D) (i : δ → D) (p : α × β × γ × δ) : D := .tup [e p.1, f p.2.1, g p.2.2.1, i p.2.2.2]
abbrev h4 {α β γ δ : Type} (e : α → D) (f : β → D) (g : γ → D) (i : δ → D) (p : α × β × γ × δ) : D := .lst [e p.1, f p.2.1, g p.2.2.1, i p.2.2.2]
section
variable {F : Tb} {Γ Γ1 : Dn} {ss : List S} {o : Fl} {m n : Md} {a b c : E} {α β σ τ ρ : Type}
def rtF {ρ : Type} (m : Md) (e : ρ → D) (v : ρ) : Fl := .rt m (e v)
theorem blk_retR {e : ρ → D} {v : ρ} (h : Evr F a Γ m (e v)) : Blk F (.ret a :: ss) Γ (rtF m e v) := by
  obtain ⟨n, h1, h2⟩ := h
  exact ⟨.rt n (e v), by simp only [exs, ex, h1, bnd_ok], rfl, h2⟩
def orElse {σ ρ : Type} (r : σ ⊕ ρ) (k : σ → ρ) : ρ := match r with
  | .inl s => k s
  | .inr v => v
theorem blk_thenR {s : S} {env : σ → Dn} {e : ρ → D} {r : σ ⊕ ρ} {K : σ → ρ} {OK : σ → Prop} (h : Blk F [s] Γ (outF env m e r)) (hr : ∀ x, OK x → Blk F ss (env x) (rtF m e (K x))) (hok : okThen r OK) : Blk F (s :: ss) Γ (rtF m e (orElse r K)) := by
  obtain ⟨b, h1, h2⟩ := h
  rw [exs_one] at h1
  cases r with
  | inl x =>
    match b, h2 with
    | .rt _ _, h2 => exact h2.elim
    | .nx Γ', h2 => exact Blk.step h1 h2 (hr x hok)
  | inr v =>
    match b, h2 with
    | .nx _, h2 => exact h2.elim
    | .rt m' d', h2 => exact ⟨.rt m' d', by simp only [exs, h1, bnd_ok], h2⟩
theorem okThen_true (r : σ ⊕ ρ) : okThen r (fun _ => True) := by cases r <;> trivial
theorem okFor_true {st : σ → α → σ ⊕ ρ} : ∀ (xs : List α) (s : σ), okFor (fun _ _ => True) st xs s
  | [], _ => trivial
  | x :: xs, s => ⟨trivial, by
      split
      · exact okFor_true xs _
      · trivial⟩
theorem fn_retR {P : List Fun} {k f : Nat} {Fu : Fun} {ds : List D} {e : ρ → D} {v : ρ} (hf : P[f]? = some Fu) (hn : ds.length = Fu.np) (h : Blk (run P k) Fu.body (start0 Fu.np Fu.nv ds) (rtF m e v)) : Fn (run P (k + 1)) f ds m (e v) := by
  obtain ⟨b, h1, h2⟩ := h
  match b, h2 with
  | .nx _, h2 => exact h2.elim
  | .rt m' d', h2 =>
    obtain ⟨h4, h3⟩ := h2
    have h4 : e v = d' := h4
    subst h4
    refine ⟨m', ?_, h3⟩
    show (match P[f]? with | some F => callF (run P k) F ds | none => none) = _
    rw [hf]
    show callF (run P k) Fu ds = _
    unfold callF
    rw [if_pos hn, h1]
    rfl
theorem evS_dp {s : Sr} {ds : List D} (h : EvS F s Γ .dp ds) : evS F s Γ = some (.ok (.dp, ds)) := by
  obtain ⟨n, h1, h2⟩ := h
  rw [Md.dp_le h2] at h1
  exact h1
theorem blk_forGd {ts : List Nat} {one : Bool} {s : Sr} {body : List S} {st : σ → α → σ ⊕ ρ} {OK : σ → α → Prop} {env : σ → Dn} {e : ρ → D} {ei : α → D} {xs : List α} {s0 : σ} (hs : EvS F s Γ .dp (xs.map ei)) (h0 : ELe (env s0) Γ)
    (hb : ∀ s x, OK s x → ∃ Γb, bindT ts one (ei x) (env s) = some Γb ∧ Blk F body Γb (outF env m e (st s x))) (hok : okFor OK st xs s0) : Blk F [.for_ ts one s body] Γ (outF env m e (forR st xs s0)) := by
  have h1 := evS_dp hs
  have key : ∀ (xs : List α) (s0 : σ) (e1 : Dn), ELe (env s0) e1 → okFor OK st xs s0 → ∃ b, forL (fun x e1 => match bindT ts one x e1 with | none => none | some e2 => exs F body e2) (xs.map ei) e1 = some (.ok b) ∧ FlLe (outF env m e (forR st xs s0)) b := by
    intro xs
    induction xs with
    | nil => intro s0 e1 h _; exact ⟨.nx e1, rfl, h⟩
    | cons x xs ih =>
      intro s0 e1 h hok
      obtain ⟨o1, o2⟩ := hok
      obtain ⟨Γb, b1, b2⟩ := hb s0 x o1
      obtain ⟨e2, b3, b4⟩ := bindT_le h Γb b1
      obtain ⟨r, r1, r2⟩ := b2.env b4
      rw [List.map_cons]
      unfold forL forR
      simp only [b3, r1, bnd_ok]
      cases hst : st s0 x with
      | inl s' =>
        rw [hst] at r2 o2
        match r, r2 with
        | .rt _ _, r2 => exact r2.elim
        | .nx e3, r2 => exact ih s' e3 r2 o2
      | inr v =>
        rw [hst] at r2
        match r, r2 with
        | .nx _, r2 => exact r2.elim
        | .rt m' d', r2 => exact ⟨_, rfl, r2⟩
  obtain ⟨b, k1, k2⟩ := key xs s0 Γ h0 hok
  refine ⟨b, ?_, k2⟩
  rw [exs_one]
  simp only [ex, h1, bnd_ok]
  exact k1
theorem blk_mutFC {O : τ → Fl} {i : Nat} {o' : Mo} {as : List E} {ps : List (Md × D)} {xs : List D} {e : α → D} {ys : List α} {K : List α → τ} {OK : List α → Prop} {Γ1 : List α → Dn} (hi : Γ[i]? = some (some (m, .lst xs))) (hm : Md.le .fl m = true) (h : Evs F as Γ ps) (k : moL o' xs (ps.map Prod.snd) = some (ys.map e)) (hc : Cls ps) (hΓ : ∀ y, ELe (Γ1 y) (Γ.set i (some (.fl, eL e y)))) (hr : ∀ y, OK y → Blk F ss (Γ1 y) (O (K y))) (hok : lett ys OK) : Blk F (.mut i [] o' as :: ss) Γ (O (lett ys K)) := by
  obtain ⟨qs, h1, h2⟩ := h
  have hg : gives (nms as) qs Γ = Γ := by rw [gives_eq, if_pos (closeds_le h2 hc)]
  rw [h2.snd] at k
  have key : ∃ r, moS o' [] qs (m, .lst xs) = some r ∧ PLe (.fl, eL e ys) r := by
    cases m with
    | sh => cases hm
    | fl => exact ⟨(.fl, eL e ys), by rw [moS_fl]; show (moL o' xs _).map _ = _; rw [k]; rfl, PLe.refl _⟩
    | dp =>
      rw [moS_dp]
      split
      · exact ⟨(.dp, eL e ys), by simp only [moP, k]; rfl, rfl, rfl⟩
      · exact ⟨(.fl, eL e ys), by show (moL o' xs _).map _ = _; rw [k]; rfl, PLe.refl _⟩
  obtain ⟨r, r1, r2⟩ := key
  refine Blk.step (Γ' := Γ.set i (some r)) ?_ ((hΓ ys).trans ((ELe.refl Γ).set i (s := some (.fl, eL e ys)) (t := some r) r2)) (hr ys hok)
  simp only [ex, hi, evP, bnd_ok, List.reverse_nil, getP, h1, hg, r1]
  rfl
theorem opt_get [Inhabited α] {e : α → D} {o : Option α} (h : o.isSome = true) : eO e o = e (o.getD default) := by
  cases o with
  | none => cases h
  | some a => rfl
end
end TY

set_option Elab.async false
set_option linter.all false
set_option maxRecDepth 100000
set_option maxHeartbeats 4000000
namespace TY
open TW PySem PySem.Spec PyProof.Rows L2
def v_is_whole (thing_ : Int) : Bool := (true && (!false))
theorem r_is_whole (k : Nat) (hk : 1 ≤ k) (thing_ : Int) : Fn (run GP k) 0 [D.int thing_] .sh (D.bl (v_is_whole thing_)) := by
  obtain ⟨k, rfl⟩ : ∃ j, k = j + 1 := ⟨k - 1, by omega⟩
  exact fn_retR (Fu := fu_is_whole) (e := D.bl) (v := v_is_whole thing_) rfl rfl (show Blk _ _ [some (.sh, D.int thing_)] (rtF _ _ ((true && (!false)))) from (blk_retR (evr_of (ev_and (ev_isi (ev_var rfl) rfl) (fun hq3 => (ev_not (ev_isi (ev_var rfl) rfl)))))))
end TY

set_option Elab.async false
set_option linter.all false
set_option maxRecDepth 100000
set_option maxHeartbeats 4000000
namespace TY
open TW PySem PySem.Spec PyProof.Rows L2
def v_is_below (thing_ : Int) (many_ : Int) : Bool := ((v_is_whole thing_) && ((decide ((0 : Int) ≤ thing_)) && (decide (thing_ < many_))))
theorem r_is_below (k : Nat) (hk : 2 ≤ k) (thing_ : Int) (many_ : Int) : Fn (run GP k) 1 [D.int thing_, D.int many_] .sh (D.bl (v_is_below thing_ many_)) := by
  obtain ⟨k, rfl⟩ : ∃ j, k = j + 1 := ⟨k - 1, by omega⟩
  exact fn_retR (Fu := fu_is_below) (e := D.bl) (v := v_is_below thing_ many_) rfl rfl (show Blk _ _ [some (.sh, D.int thing_), some (.sh, D.int many_)] (rtF _ _ (((v_is_whole thing_) && ((decide ((0 : Int) ≤ thing_)) && (decide (thing_ < many_)))))) from (blk_retR (evr_of (ev_and (ev_cal (evs_cons (ev_var rfl) evs_nil) (r_is_whole k (by omega) thing_)) (fun hq3 => (ev_chn (ev_int _) (ev_var rfl) (ev_var rfl) (cm_le _ _) (cm_lt _ _)))))))
end TY

set_option Elab.async false
set_option linter.all false
set_option maxRecDepth 100000
set_option maxHeartbeats 4000000
namespace TY
open TW PySem PySem.Spec PyProof.Rows L2
def v_is_tie (thing_ : Int × Int) (many_ : Int) : Bool := (if ((!true) || ((!decide ((2 : Int) = (2 : Int))) || (!(v_is_below thing_.1 many_)))) = true then false else ((v_is_below thing_.2 many_) && (decide (thing_.1 < thing_.2))))
theorem r_is_tie (k : Nat) (hk : 3 ≤ k) (thing_ : Int × Int) (many_ : Int) : Fn (run GP k) 2 [(e2 D.int D.int) thing_, D.int many_] .sh (D.bl (v_is_tie thing_ many_)) := by
  obtain ⟨k, rfl⟩ : ∃ j, k = j + 1 := ⟨k - 1, by omega⟩
  exact fn_retR (Fu := fu_is_tie) (e := D.bl) (v := v_is_tie thing_ many_) rfl rfl (show Blk _ _ [some (.sh, (e2 D.int D.int) thing_), some (.sh, D.int many_)] (rtF _ _ ((if ((!true) || ((!decide ((2 : Int) = (2 : Int))) || (!(v_is_below thing_.1 many_)))) = true then false else ((v_is_below thing_.2 many_) && (decide (thing_.1 < thing_.2)))))) from (blk_if (ev_or (ev_not (ev_isi (ev_var rfl) rfl)) (fun hq10 => (ev_or (ev_cmp (ev_lenT (ev_var rfl)) (ev_int _) (cm_ne (e := D.int) dt_int (by decide) (2 : Int) (2 : Int))) (fun hq9 => (ev_not (ev_cal (evs_cons (ev_tat (ev_var rfl) rfl) (evs_cons (ev_var rfl) evs_nil)) (r_is_below k (by omega) thing_.1 many_))))))) (fun hq11 => (blk_retR (Evr.le (evr_of (ev_bl _)) rfl))) (fun hq11 => (blk_retR (evr_of (ev_and (ev_cal (evs_cons (ev_tat (ev_var rfl) rfl) (evs_cons (ev_var rfl) evs_nil)) (r_is_below k (by omega) thing_.2 many_)) (fun hq12 => (ev_cmp (ev_tat (ev_var rfl) rfl) (ev_tat (ev_var rfl) rfl) (cm_lt _ _)))))))))
end TY

set_option Elab.async false
set_option linter.all false
set_option maxRecDepth 100000
set_option maxHeartbeats 4000000
namespace TY
open TW PySem PySem.Spec PyProof.Rows L2
def v_is_web (thing_ : Int × (List (Int × Int))) : Bool := (if ((!true) || ((!decide ((2 : Int) = (2 : Int))) || (!(v_is_below thing_.1 ((24 : Int) + (1 : Int)))))) = true then false else lett thing_.2 fun (ties4 : List (Int × Int)) => (if ((!true) || ((decide ((66 : Int) < (ties4.length : Int))) || (!((ties4.map fun (tie5 : Int × Int) => (v_is_tie tie5 thing_.1)).all id)))) = true then false else (((ties4.zip (cutL ties4 (some (1 : Int)) none)).map fun (it6 : (Int × Int) × (Int × Int)) => (ltP2 it6.1 it6.2)).all id)))
theorem r_is_web (k : Nat) (hk : 4 ≤ k) (thing_ : Int × (List (Int × Int))) : Fn (run GP k) 3 [eW thing_] .dp (D.bl (v_is_web thing_)) := by
  obtain ⟨k, rfl⟩ : ∃ j, k = j + 1 := ⟨k - 1, by omega⟩
  exact fn_retR (Fu := fu_is_web) (e := D.bl) (v := v_is_web thing_) rfl rfl (show Blk _ _ [some (.sh, eW thing_), none, none, none, none] (rtF _ _ ((if ((!true) || ((!decide ((2 : Int) = (2 : Int))) || (!(v_is_below thing_.1 ((24 : Int) + (1 : Int)))))) = true then false else lett thing_.2 fun (ties4 : List (Int × Int)) => (if ((!true) || ((decide ((66 : Int) < (ties4.length : Int))) || (!((ties4.map fun (tie5 : Int × Int) => (v_is_tie tie5 thing_.1)).all id)))) = true then false else (((ties4.zip (cutL ties4 (some (1 : Int)) none)).map fun (it6 : (Int × Int) × (Int × Int)) => (ltP2 it6.1 it6.2)).all id))))) from (blk_if (ev_or (ev_not (ev_isi (ev_var rfl) rfl)) (fun hq14 => (ev_or (ev_cmp (ev_lenT (ev_var rfl)) (ev_int _) (cm_ne (e := D.int) dt_int (by decide) (2 : Int) (2 : Int))) (fun hq13 => (ev_not (ev_cal (evs_cons (ev_tat (ev_var rfl) rfl) (evs_cons (ev_add (ev_int _) (ev_int _)) evs_nil)) (r_is_below k (by omega) thing_.1 ((24 : Int) + (1 : Int))))))))) (fun hq15 => (blk_retR (evr_of (ev_bl _)))) (fun hq15 => (blk_asgF (e := (eL (e2 D.int D.int))) (OK := fun _ => True) (ev_tat (ev_var rfl) rfl) (Γ1 := fun ties4 => [some (.sh, eW thing_), some (.sh, (eL (e2 D.int D.int)) ties4), none, none, none]) (fun ties4 => ⟨⟨rfl, rfl⟩, ⟨rfl, rfl⟩, trivial, trivial, trivial, trivial⟩) (fun ties4 h => (blk_if (ev_or (ev_not (ev_isi (ev_var rfl) rfl)) (fun hq20 => (ev_or (ev_cmp (ev_len (ev_var rfl)) (ev_int _) (cm_gt _ _)) (fun hq19 => (ev_not (ev_all (ev_compC0 (e2 D.int D.int) D.bl ties4 (fun (tie5 : Int × Int) => (v_is_tie tie5 thing_.1)) (fun _ => (cl_lf lf_bl)) (es_list (ev_var rfl)) (fun tie5 hq16 => ⟨_, rfl, (ev_cal (evs_cons (ev_var rfl) (evs_cons (ev_tat (ev_var rfl) rfl) evs_nil)) (r_is_tie k (by omega) tie5 thing_.1))⟩)))))))) (fun hq21 => (blk_retR (evr_of (ev_bl _)))) (fun hq21 => (blk_retR (evr_of (ev_all (ev_compC0 (e2 (e2 D.int D.int) (e2 D.int D.int)) D.bl (ties4.zip (cutL ties4 (some (1 : Int)) none)) (fun (it6 : (Int × Int) × (Int × Int)) => (ltP2 it6.1 it6.2)) (fun _ => cl_dp) (es_zip (ev_var rfl) (ev_slc (ev_var rfl) (ev_int _) ev_non rfl rfl)) (fun it6 hq22 => ⟨_, rfl, (ev_cmp (ev_var rfl) (ev_var rfl) (cm_ltP _ _))⟩)))))))) trivial))))
end TY

set_option Elab.async false
set_option linter.all false
set_option maxRecDepth 100000
set_option maxHeartbeats 4000000
namespace TY
open TW PySem PySem.Spec PyProof.Rows L2
end TY

set_option Elab.async false
set_option linter.all false
set_option maxRecDepth 100000
set_option maxHeartbeats 4000000
namespace TY
open TW PySem PySem.Spec PyProof.Rows L2
def v_near_of (web_ : Int × (List (Int × Int))) : List (List (Int)) := lett ((rg (0 : Int) web_.1).map fun (place9 : Int) => ([] : List (Int))) fun (found10 : List (List (Int))) => lett (web_.2.foldl (fun (s11 : (List (List (Int)))) (x12 : Int × Int) => lett (stI s11 x12.1 ((gI s11 x12.1) ++ [x12.2])) fun (found13 : List (List (Int))) => lett (stI found13 x12.2 ((gI found13 x12.2) ++ [x12.1])) fun (found14 : List (List (Int))) => found14) found10) fun (st15 : (List (List (Int)))) => (st15.map fun (some16 : List (Int)) => (isortB ltZ some16))
def ok_near_of (web_ : Int × (List (Int × Int))) : Prop := (RgOk' (0 : Int) web_.1) ∧ (lett ((rg (0 : Int) web_.1).map fun (place9 : Int) => ([] : List (Int))) fun (found10 : List (List (Int))) => okFold (fun (s11 : (List (List (Int)))) (x12 : Int × Int) => ((gI s11 x12.1).length < 1000000) ∧ (IxOk s11 x12.1) ∧ (lett (stI s11 x12.1 ((gI s11 x12.1) ++ [x12.2])) fun (found13 : List (List (Int))) => ((gI found13 x12.2).length < 1000000) ∧ (IxOk found13 x12.2))) (fun (s11 : (List (List (Int)))) (x12 : Int × Int) => lett (stI s11 x12.1 ((gI s11 x12.1) ++ [x12.2])) fun (found13 : List (List (Int))) => lett (stI found13 x12.2 ((gI found13 x12.2) ++ [x12.1])) fun (found14 : List (List (Int))) => found14) web_.2 found10)
theorem r_near_of (k : Nat) (hk : 1 ≤ k) (web_ : Int × (List (Int × Int))) (h : ok_near_of web_) : Fn (run GP k) 5 [eW web_] .dp ((eL (eL D.int)) (v_near_of web_)) := by
  obtain ⟨k, rfl⟩ : ∃ j, k = j + 1 := ⟨k - 1, by omega⟩
  exact fn_retR (Fu := fu_near_of) (e := (eL (eL D.int))) (v := v_near_of web_) rfl rfl (show Blk _ _ [some (.sh, eW web_), none, none, none, none, none] (rtF _ _ (lett ((rg (0 : Int) web_.1).map fun (place9 : Int) => ([] : List (Int))) fun (found10 : List (List (Int))) => lett (web_.2.foldl (fun (s11 : (List (List (Int)))) (x12 : Int × Int) => lett (stI s11 x12.1 ((gI s11 x12.1) ++ [x12.2])) fun (found13 : List (List (Int))) => lett (stI found13 x12.2 ((gI found13 x12.2) ++ [x12.1])) fun (found14 : List (List (Int))) => found14) found10) fun (st15 : (List (List (Int)))) => (st15.map fun (some16 : List (Int)) => (isortB ltZ some16)))) from (blk_asgC (e := (eL (eL D.int))) (ev_compC0 D.int (eL D.int) (rg (0 : Int) web_.1) (fun (place9 : Int) => ([] : List (Int))) (fun _ => cl_dp) (es_rng (ev_int _) (ev_tat (ev_var rfl) rfl) h.1) (fun place9 hq7 => ⟨_, rfl, (ev_lstC evs_nil cls_nil)⟩)) (fun _ => cl_dp) (Γ1 := fun found10 => [some (.sh, eW web_), some (.dp, (eL (eL D.int)) found10), none, none, none, none]) (fun found10 => ⟨⟨rfl, rfl⟩, ⟨rfl, rfl⟩, trivial, trivial, trivial, trivial, trivial⟩) (fun found10 h => (blk_thenN (env := (fun (st15 : (List (List (Int)))) => [some (.sh, eW web_), some (.dp, (eL (eL D.int)) st15), none, none, none, none])) (OK := fun _ => True) (blk_forF (OK := fun (s11 : (List (List (Int)))) (x12 : Int × Int) => ((gI s11 x12.1).length < 1000000) ∧ (IxOk s11 x12.1) ∧ (lett (stI s11 x12.1 ((gI s11 x12.1) ++ [x12.2])) fun (found13 : List (List (Int))) => ((gI found13 x12.2).length < 1000000) ∧ (IxOk found13 x12.2))) (env := (fun (s11 : (List (List (Int)))) => [some (.sh, eW web_), some (.dp, (eL (eL D.int)) s11), none, none, none, none])) (ei := (e2 D.int D.int)) (es_list (ev_tat (ev_var rfl) rfl)) ⟨⟨rfl, rfl⟩, ⟨rfl, rfl⟩, trivial, trivial, trivial, trivial, trivial⟩ (fun s11 x12 h => ⟨_, rfl, (blk_mutD (e := (eL (eL D.int))) rfl (evp_one (ev_var rfl)) (evs_cons (ev_var rfl) evs_nil) (cls_cons (cl_lf lf_int) cls_nil) (chg_at (e := (eL D.int)) h.2.1 (chg_nil (mo_append (e := D.int) (v := x12.2) h.1))) (Γ1 := fun found13 => [some (.sh, eW web_), some (.dp, (eL (eL D.int)) found13), some (.sh, D.int x12.1), some (.sh, D.int x12.2), none, none]) (fun found13 => ⟨⟨rfl, rfl⟩, ⟨rfl, rfl⟩, ⟨rfl, rfl⟩, ⟨rfl, rfl⟩, trivial, trivial, trivial⟩) (fun found13 h => (blk_mutD (e := (eL (eL D.int))) (OK := fun _ => True) rfl (evp_one (ev_var rfl)) (evs_cons (ev_var rfl) evs_nil) (cls_cons (cl_lf lf_int) cls_nil) (chg_at (e := (eL D.int)) h.2 (chg_nil (mo_append (e := D.int) (v := x12.1) h.1))) (Γ1 := fun found14 => [some (.sh, eW web_), some (.dp, (eL (eL D.int)) found14), some (.sh, D.int x12.1), some (.sh, D.int x12.2), none, none]) (fun found14 => ⟨⟨rfl, rfl⟩, ⟨rfl, rfl⟩, ⟨rfl, rfl⟩, ⟨rfl, rfl⟩, trivial, trivial, trivial⟩) (fun found14 h => (blk_nilF ⟨⟨rfl, rfl⟩, ⟨rfl, rfl⟩, trivial, trivial, trivial, trivial, trivial⟩)) trivial)) h.2.2)⟩) h) (fun st15 h => (blk_retR (evr_of (ev_compC0 (eL D.int) (eL D.int) st15 (fun (some16 : List (Int)) => (isortB ltZ some16)) (fun _ => cl_dp) (es_list (ev_var rfl)) (fun some16 hq10 => ⟨_, rfl, (ev_sortZ (ev_var rfl))⟩))))) trivial)) h.2))
end TY

set_option Elab.async false
set_option linter.all false
set_option maxRecDepth 100000
set_option maxHeartbeats 4000000
namespace TY
open TW PySem PySem.Spec PyProof.Rows L2
end TY

set_option Elab.async false
set_option linter.all false
set_option maxRecDepth 100000
set_option maxHeartbeats 4000000
namespace TY
open TW PySem PySem.Spec PyProof.Rows L2
def v_law_near (web_here_ : Int × (List (Int × Int))) : List (List (Int)) := lett ((rg (0 : Int) web_here_.1).map fun (place9 : Int) => ([] : List (Int))) fun (found10 : List (List (Int))) => lett (web_here_.2.foldl (fun (s11 : (List (List (Int)))) (x12 : Int × Int) => lett (stI s11 x12.1 ((gI s11 x12.1) ++ [x12.2])) fun (found13 : List (List (Int))) => lett (stI found13 x12.2 ((gI found13 x12.2) ++ [x12.1])) fun (found14 : List (List (Int))) => found14) found10) fun (st15 : (List (List (Int)))) => (st15.map fun (some16 : List (Int)) => (isortB ltZ some16))
def ok_law_near (web_here_ : Int × (List (Int × Int))) : Prop := (RgOk' (0 : Int) web_here_.1) ∧ (lett ((rg (0 : Int) web_here_.1).map fun (place9 : Int) => ([] : List (Int))) fun (found10 : List (List (Int))) => okFold (fun (s11 : (List (List (Int)))) (x12 : Int × Int) => ((gI s11 x12.1).length < 1000000) ∧ (IxOk s11 x12.1) ∧ (lett (stI s11 x12.1 ((gI s11 x12.1) ++ [x12.2])) fun (found13 : List (List (Int))) => ((gI found13 x12.2).length < 1000000) ∧ (IxOk found13 x12.2))) (fun (s11 : (List (List (Int)))) (x12 : Int × Int) => lett (stI s11 x12.1 ((gI s11 x12.1) ++ [x12.2])) fun (found13 : List (List (Int))) => lett (stI found13 x12.2 ((gI found13 x12.2) ++ [x12.1])) fun (found14 : List (List (Int))) => found14) web_here_.2 found10)
theorem r_law_near (k : Nat) (hk : 1 ≤ k) (web_here_ : Int × (List (Int × Int))) (h : ok_law_near web_here_) : Fn (run GP k) 11 [eW web_here_] .dp ((eL (eL D.int)) (v_law_near web_here_)) := by
  obtain ⟨k, rfl⟩ : ∃ j, k = j + 1 := ⟨k - 1, by omega⟩
  exact fn_retR (Fu := fu_law_near) (e := (eL (eL D.int))) (v := v_law_near web_here_) rfl rfl (show Blk _ _ [some (.sh, eW web_here_), none, none, none, none, none] (rtF _ _ (lett ((rg (0 : Int) web_here_.1).map fun (place9 : Int) => ([] : List (Int))) fun (found10 : List (List (Int))) => lett (web_here_.2.foldl (fun (s11 : (List (List (Int)))) (x12 : Int × Int) => lett (stI s11 x12.1 ((gI s11 x12.1) ++ [x12.2])) fun (found13 : List (List (Int))) => lett (stI found13 x12.2 ((gI found13 x12.2) ++ [x12.1])) fun (found14 : List (List (Int))) => found14) found10) fun (st15 : (List (List (Int)))) => (st15.map fun (some16 : List (Int)) => (isortB ltZ some16)))) from (blk_asgC (e := (eL (eL D.int))) (ev_compC0 D.int (eL D.int) (rg (0 : Int) web_here_.1) (fun (place9 : Int) => ([] : List (Int))) (fun _ => cl_dp) (es_rng (ev_int _) (ev_tat (ev_var rfl) rfl) h.1) (fun place9 hq7 => ⟨_, rfl, (ev_lstC evs_nil cls_nil)⟩)) (fun _ => cl_dp) (Γ1 := fun found10 => [some (.sh, eW web_here_), some (.dp, (eL (eL D.int)) found10), none, none, none, none]) (fun found10 => ⟨⟨rfl, rfl⟩, ⟨rfl, rfl⟩, trivial, trivial, trivial, trivial, trivial⟩) (fun found10 h => (blk_thenN (env := (fun (st15 : (List (List (Int)))) => [some (.sh, eW web_here_), some (.dp, (eL (eL D.int)) st15), none, none, none, none])) (OK := fun _ => True) (blk_forF (OK := fun (s11 : (List (List (Int)))) (x12 : Int × Int) => ((gI s11 x12.1).length < 1000000) ∧ (IxOk s11 x12.1) ∧ (lett (stI s11 x12.1 ((gI s11 x12.1) ++ [x12.2])) fun (found13 : List (List (Int))) => ((gI found13 x12.2).length < 1000000) ∧ (IxOk found13 x12.2))) (env := (fun (s11 : (List (List (Int)))) => [some (.sh, eW web_here_), some (.dp, (eL (eL D.int)) s11), none, none, none, none])) (ei := (e2 D.int D.int)) (es_list (ev_tat (ev_var rfl) rfl)) ⟨⟨rfl, rfl⟩, ⟨rfl, rfl⟩, trivial, trivial, trivial, trivial, trivial⟩ (fun s11 x12 h => ⟨_, rfl, (blk_mutD (e := (eL (eL D.int))) rfl (evp_one (ev_var rfl)) (evs_cons (ev_var rfl) evs_nil) (cls_cons (cl_lf lf_int) cls_nil) (chg_at (e := (eL D.int)) h.2.1 (chg_nil (mo_append (e := D.int) (v := x12.2) h.1))) (Γ1 := fun found13 => [some (.sh, eW web_here_), some (.dp, (eL (eL D.int)) found13), some (.sh, D.int x12.1), some (.sh, D.int x12.2), none, none]) (fun found13 => ⟨⟨rfl, rfl⟩, ⟨rfl, rfl⟩, ⟨rfl, rfl⟩, ⟨rfl, rfl⟩, trivial, trivial, trivial⟩) (fun found13 h => (blk_mutD (e := (eL (eL D.int))) (OK := fun _ => True) rfl (evp_one (ev_var rfl)) (evs_cons (ev_var rfl) evs_nil) (cls_cons (cl_lf lf_int) cls_nil) (chg_at (e := (eL D.int)) h.2 (chg_nil (mo_append (e := D.int) (v := x12.1) h.1))) (Γ1 := fun found14 => [some (.sh, eW web_here_), some (.dp, (eL (eL D.int)) found14), some (.sh, D.int x12.1), some (.sh, D.int x12.2), none, none]) (fun found14 => ⟨⟨rfl, rfl⟩, ⟨rfl, rfl⟩, ⟨rfl, rfl⟩, ⟨rfl, rfl⟩, trivial, trivial, trivial⟩) (fun found14 h => (blk_nilF ⟨⟨rfl, rfl⟩, ⟨rfl, rfl⟩, trivial, trivial, trivial, trivial, trivial⟩)) trivial)) h.2.2)⟩) h) (fun st15 h => (blk_retR (evr_of (ev_compC0 (eL D.int) (eL D.int) st15 (fun (some16 : List (Int)) => (isortB ltZ some16)) (fun _ => cl_dp) (es_list (ev_var rfl)) (fun some16 hq10 => ⟨_, rfl, (ev_sortZ (ev_var rfl))⟩))))) trivial)) h.2))
end TY

set_option Elab.async false
set_option linter.all false
set_option maxRecDepth 100000
set_option maxHeartbeats 4000000
namespace TY
open TW PySem PySem.Spec PyProof.Rows L2
def v_law_copied (web_here_ : Int × (List (Int × Int))) : Int × (List (Int × Int)) := (web_here_.1, web_here_.2)
theorem r_law_copied (k : Nat) (hk : 1 ≤ k) (web_here_ : Int × (List (Int × Int))) : Fn (run GP k) 12 [eW web_here_] .dp (eW (v_law_copied web_here_)) := by
  obtain ⟨k, rfl⟩ : ∃ j, k = j + 1 := ⟨k - 1, by omega⟩
  exact fn_retR (Fu := fu_law_copied) (e := eW) (v := v_law_copied web_here_) rfl rfl (show Blk _ _ [some (.sh, eW web_here_)] (rtF _ _ ((web_here_.1, web_here_.2))) from (blk_retR (evr_tupC (evrs_cons (evr_of (ev_tat (ev_var rfl) rfl)) (evrs_cons (evr_of (ev_list (ev_tat (ev_var rfl) rfl))) evrs_nil)) (cls_cons (cl_lf lf_int) (cls_cons (cl_fl (lf_2 lf_int lf_int)) cls_nil)) (by decide))))
end TY

set_option Elab.async false
set_option linter.all false
set_option maxRecDepth 100000
set_option maxHeartbeats 4000000
namespace TW
open PySem PySem.Spec PyProof.Rows L2
def TLe (F G : Tb) : Prop := ∀ f ds r, F f ds = some r → G f ds = some r
abbrev QLe {α : Type} (x y : M α) : Prop := ∀ r, x = some r → y = some r
theorem QLe.refl {α : Type} (x : M α) : QLe x x := fun _ h => h
theorem QLe.bnd {α β : Type} {x y : M α} {f g : α → M β} (h : QLe x y) (k : ∀ a, QLe (f a) (g a)) : QLe (TW.bnd x f) (TW.bnd y g) := by
  intro r hr
  match x, h, hr with
  | none, _, hr => cases hr
  | some (.er C), h, hr => rw [h _ rfl]; exact hr
  | some (.ok a), h, hr => rw [h _ rfl]; exact k a r hr
theorem okOnly_up {α : Type} {x y : M α} (h : QLe x y) {a : α} (ha : okOnly x = some a) : okOnly y = some a := by
  match x, h, ha with
  | none, _, ha => cases ha
  | some (.er C), _, ha => cases ha
  | some (.ok a'), h, ha =>
    rw [h _ rfl]
    exact ha
theorem compL_up {f g : D → Option (Option (Md × D))} (h : ∀ x r, f x = some r → g x = some r) : ∀ (xs : List D) (ps : List (Md × D)), compL f xs = some ps → compL g xs = some ps
  | [], ps, hp => hp
  | x :: xs, ps, hp => by
    unfold compL at hp ⊢
    cases e : f x with
    | none => rw [e] at hp; cases hp
    | some r =>
      rw [e] at hp
      rw [h x r e]
      cases r with
      | none => exact compL_up h xs ps hp
      | some p =>
        simp only at hp ⊢
        cases e2 : compL f xs with
        | none => rw [e2] at hp; cases hp
        | some q =>
          rw [e2] at hp
          rw [compL_up h xs q e2]
          exact hp
section
variable {F G : Tb} (hFG : TLe F G)
include hFG
mutual
theorem ev_up : ∀ (a : E) (e : Dn), QLe (ev F a e) (ev G a e)
  | .var i, e => by simp only [ev]; exact QLe.refl _
  | .lit d, e => by simp only [ev]; exact QLe.refl _
  | .bin o a b, e => by simp only [ev]; exact (ev_up a e).bnd fun p => (ev_up b e).bnd fun q => QLe.refl _
  | .cmp o a b, e => by simp only [ev]; exact (ev_up a e).bnd fun p => (ev_up b e).bnd fun q => QLe.refl _
  | .chn o o2 a b c, e => by
    simp only [ev]
    refine (ev_up a e).bnd fun p => (ev_up b e).bnd fun q => ?_
    split
    · exact QLe.refl _
    · exact QLe.refl _
    · exact (ev_up c e).bnd fun r => QLe.refl _
  | .chn3 o o2 o3 a b c d, e => by
    simp only [ev]
    refine (ev_up a e).bnd fun p => (ev_up b e).bnd fun q => ?_
    split
    · exact QLe.refl _
    · exact QLe.refl _
    · refine (ev_up c e).bnd fun r => ?_
      split
      · exact QLe.refl _
      · exact QLe.refl _
      · exact (ev_up d e).bnd fun r => QLe.refl _
  | .neg a, e => by simp only [ev]; exact (ev_up a e).bnd fun p => QLe.refl _
  | .not a, e => by simp only [ev]; exact (ev_up a e).bnd fun p => QLe.refl _
  | .and a b, e => by
    simp only [ev]
    refine (ev_up a e).bnd fun p => ?_
    split
    · exact QLe.refl _
    · exact QLe.refl _
    · exact ev_up b e
  | .or a b, e => by
    simp only [ev]
    refine (ev_up a e).bnd fun p => ?_
    split
    · exact QLe.refl _
    · exact QLe.refl _
    · exact ev_up b e
  | .ite c a b, e => by
    simp only [ev]
    refine (ev_up c e).bnd fun p => ?_
    split
    · exact QLe.refl _
    · exact ev_up a e
    · exact ev_up b e
  | .tup es, e => by simp only [ev]; exact (evs_up es e).bnd fun p => QLe.refl _
  | .lst es, e => by simp only [ev]; exact (evs_up es e).bnd fun p => QLe.refl _
  | .sub a i, e => by simp only [ev]; exact (ev_up a e).bnd fun p => (ev_up i e).bnd fun q => QLe.refl _
  | .slc pl ph a lo hi, e => by
    simp only [ev]
    refine (ev_up a e).bnd fun p => (ev_up lo e).bnd fun q => ?_
    split
    · exact QLe.refl _
    · exact (ev_up hi e).bnd fun q => QLe.refl _
  | .rev a, e => by simp only [ev]; exact (ev_up a e).bnd fun p => QLe.refl _
  | .att a f, e => by simp only [ev]; exact (ev_up a e).bnd fun p => QLe.refl _
  | .cal f es, e => by
    simp only [ev]
    exact (evs_up es e).bnd fun ps => QLe.bnd (fun r hr => hFG _ _ _ hr) fun r => QLe.refl _
  | .cav a g es, e => by
    simp only [ev]
    refine (ev_up a e).bnd fun p => ?_
    split
    · split
      · exact (evs_up es e).bnd fun ps => fun r hr => hFG _ _ _ hr
      · exact QLe.refl _
    · exact QLe.refl _
  | .bi b es, e => by simp only [ev]; exact (evs_up es e).bnd fun p => QLe.refl _
  | .mix a b, e => by
    simp only [ev]
    refine (ev_up a e).bnd fun p => ?_
    split
    · exact (ev_up b e).bnd fun q => QLe.refl _
    · exact QLe.refl _
  | .isi a t, e => by simp only [ev]; exact (ev_up a e).bnd fun p => QLe.refl _
  | .comp ts one s cs a, e => by
    simp only [ev]
    refine (evS_up s e).bnd fun p => ?_
    intro r hr
    split at hr
    · cases hr
    · rename_i ps hps
      rw [compL_up (fun x r hx => ?_) _ ps hps]
      · exact hr
      · cases hb : bindT ts one x e with
        | none => rw [hb] at hx; cases hx
        | some e1 =>
          rw [hb] at hx
          simp only [Option.bind_some] at hx ⊢
          cases hc : okOnly (evC F cs e1) with
          | none => rw [hc] at hx; cases hx
          | some b =>
            rw [hc] at hx
            rw [okOnly_up (evC_up cs e1) hc]
            simp only [Option.bind_some] at hx ⊢
            cases b with
            | false => exact hx
            | true =>
              simp only [if_true] at hx ⊢
              cases ha : okOnly (ev F a e1) with
              | none => rw [ha] at hx; cases hx
              | some p =>
                rw [ha] at hx
                rw [okOnly_up (ev_up a e1) ha]
                exact hx
  | .dnew, e => by simp only [ev]; exact QLe.refl _
  | .mk C f i es, e => by
    simp only [ev]
    exact (evs_up es e).bnd fun ps => QLe.bnd (fun r hr => hFG _ _ _ hr) fun r => QLe.refl _
  | .met a tb es, e => by
    simp only [ev]
    refine (ev_up a e).bnd fun p => ?_
    split
    · split
      case isTrue => exact QLe.refl _
      split
      · exact (evs_up es e).bnd fun ps => fun r hr => hFG _ _ _ hr
      · exact QLe.refl _
    · exact QLe.refl _
  | .isc a cs, e => by simp only [ev]; exact (ev_up a e).bnd fun p => QLe.refl _
  | .csel gs a es, e => by
    simp only [ev]
    refine (ev_up a e).bnd fun p => ?_
    split
    · split
      · exact (evs_up es e).bnd fun ps => fun r hr => hFG _ _ _ hr
      · exact QLe.refl _
    · exact QLe.refl _
  | .orv a b, e => by
    simp only [ev]
    refine (ev_up a e).bnd fun p => ?_
    split
    · exact ev_up b e
    · exact ev_up b e
    · exact QLe.refl _
    · exact QLe.refl _
theorem evs_up : ∀ (as : List E) (e : Dn), QLe (evs F as e) (evs G as e)
  | [], e => by simp only [evs]; exact QLe.refl _
  | a :: as, e => by simp only [evs]; exact (ev_up a e).bnd fun p => (evs_up as e).bnd fun ps => QLe.refl _
theorem evC_up : ∀ (as : List E) (e : Dn), QLe (evC F as e) (evC G as e)
  | [], e => by simp only [evC]; exact QLe.refl _
  | a :: as, e => by
    simp only [evC]
    refine (ev_up a e).bnd fun p => ?_
    split
    · exact QLe.refl _
    · exact QLe.refl _
    · exact evC_up as e
theorem evS_up : ∀ (s : Sr) (e : Dn), QLe (evS F s e) (evS G s e)
  | .seq a, e => by simp only [evS]; exact (ev_up a e).bnd fun p => QLe.refl _
  | .rng a b, e => by simp only [evS]; exact (ev_up a e).bnd fun p => (ev_up b e).bnd fun q => QLe.refl _
  | .enu a, e => by simp only [evS]; exact (ev_up a e).bnd fun p => QLe.refl _
  | .zip a b, e => by simp only [evS]; exact (ev_up a e).bnd fun p => (ev_up b e).bnd fun q => QLe.refl _
end
mutual
theorem evr_up : ∀ (a : E) (e : Dn), QLe (evr F a e) (evr G a e)
  | .var i, e => by simp only [evr]; exact QLe.refl _
  | .ite c a b, e => by
    simp only [evr]
    refine (ev_up hFG c e).bnd fun p => ?_
    split
    · exact QLe.refl _
    · exact evr_up a e
    · exact evr_up b e
  | .tup es, e => by simp only [evr]; exact (evrs_up es e).bnd fun ps => QLe.refl _
  | .lit d, e => by simp only [evr]; exact ev_up hFG _ e
  | .bin o a b, e => by simp only [evr]; exact ev_up hFG _ e
  | .cmp o a b, e => by simp only [evr]; exact ev_up hFG _ e
  | .chn o p a b c, e => by simp only [evr]; exact ev_up hFG _ e
  | .chn3 o p q a b c d, e => by simp only [evr]; exact ev_up hFG _ e
  | .neg a, e => by simp only [evr]; exact ev_up hFG _ e
  | .not a, e => by simp only [evr]; exact ev_up hFG _ e
  | .and a b, e => by simp only [evr]; exact ev_up hFG _ e
  | .or a b, e => by simp only [evr]; exact ev_up hFG _ e
  | .lst es, e => by simp only [evr]; exact ev_up hFG _ e
  | .sub a i, e => by simp only [evr]; exact ev_up hFG _ e
  | .slc pl ph a lo hi, e => by simp only [evr]; exact ev_up hFG _ e
  | .rev a, e => by simp only [evr]; exact ev_up hFG _ e
  | .att a f, e => by simp only [evr]; exact ev_up hFG _ e
  | .cal f es, e => by simp only [evr]; exact ev_up hFG _ e
  | .cav a g es, e => by simp only [evr]; exact ev_up hFG _ e
  | .bi b es, e => by simp only [evr]; exact ev_up hFG _ e
  | .mix a b, e => by simp only [evr]; exact ev_up hFG _ e
  | .isi a t, e => by simp only [evr]; exact ev_up hFG _ e
  | .comp ts one s cs a, e => by simp only [evr]; exact ev_up hFG _ e
  | .dnew, e => by simp only [evr]; exact ev_up hFG _ e
  | .mk C f i es, e => by simp only [evr]; exact ev_up hFG _ e
  | .met a tb es, e => by simp only [evr]; exact ev_up hFG _ e
  | .isc a cs, e => by simp only [evr]; exact ev_up hFG _ e
  | .csel gs a es, e => by simp only [evr]; exact ev_up hFG _ e
  | .orv a b, e => by simp only [evr]; exact ev_up hFG _ e
theorem evrs_up : ∀ (as : List E) (e : Dn), QLe (evrs F as e) (evrs G as e)
  | [], e => by simp only [evrs]; exact QLe.refl _
  | a :: as, e => by simp only [evrs]; exact (evr_up a e).bnd fun p => (evrs_up as e).bnd fun ps => QLe.refl _
end
theorem evP_up : ∀ (as : List E) (e : Dn), QLe (evP F as e) (evP G as e)
  | [], e => by simp only [evP]; exact QLe.refl _
  | a :: as, e => by
    simp only [evP]
    refine (evP_up as e).bnd fun is => ?_
    intro r hr
    cases ha : okOnly (ev F a e) with
    | none => rw [ha] at hr; cases hr
    | some p =>
      rw [ha] at hr
      rw [okOnly_up (ev_up hFG a e) ha]
      exact hr
omit hFG in
theorem forL_up {f g : D → Dn → M Fl} (h : ∀ x e, QLe (f x e) (g x e)) : ∀ (xs : List D) (e : Dn), QLe (forL f xs e) (forL g xs e)
  | [], e => QLe.refl _
  | x :: xs, e => by
    unfold forL
    refine (h x e).bnd fun a => ?_
    cases a with
    | nx e1 => exact forL_up h xs e1
    | rt m d => exact QLe.refl _
omit hFG in
theorem whlL_up {c c' : Dn → M Bool} {b b' : Dn → M Fl} (hc : ∀ e, QLe (c e) (c' e)) (hb : ∀ e, QLe (b e) (b' e)) : ∀ (n : Nat) (e : Dn), QLe (whlL c b n e) (whlL c' b' n e)
  | 0, e => QLe.refl _
  | n + 1, e => by
    unfold whlL
    refine (hc e).bnd fun t => ?_
    cases t with
    | false => exact QLe.refl _
    | true =>
      simp only [if_true]
      refine (hb e).bnd fun a => ?_
      cases a with
      | nx e1 => exact whlL_up hc hb n e1
      | rt m d => exact QLe.refl _
theorem eachF_up {i : Nat} {f : Option Str} {q : List Int} {o : Mo} {es : List E} (j : Nat) (e : Dn) : QLe (eachF F i f q o es j e) (eachF G i f q o es j e) := by
  unfold eachF
  split
  · split
    · intro r hr
      cases hok : okOnly (evs F es e) with
      | none => rw [hok] at hr; cases hr
      | some ps =>
        rw [hok] at hr
        rw [okOnly_up (evs_up hFG es e) hok]
        exact hr
    · exact QLe.refl _
  · exact QLe.refl _
omit hFG in
theorem eachL_up {f g : Nat → Dn → M Dn} (h : ∀ j e, QLe (f j e) (g j e)) : ∀ (n j : Nat) (e : Dn), QLe (eachL f n j e) (eachL g n j e)
  | 0, j, e => QLe.refl _
  | n + 1, j, e => by
    unfold eachL
    exact (h j e).bnd fun a => eachL_up h n (j + 1) a
mutual
theorem ex_up : ∀ (s : S) (e : Dn), QLe (ex F s e) (ex G s e)
  | .pass, e => by simp only [ex]; exact QLe.refl _
  | .asg i a, e => by simp only [ex]; exact (ev_up hFG a e).bnd fun p => QLe.refl _
  | .par is as, e => by simp only [ex]; exact (evs_up hFG as e).bnd fun p => QLe.refl _
  | .unp is a, e => by simp only [ex]; exact (ev_up hFG a e).bnd fun p => QLe.refl _
  | .aug i a, e => by
    simp only [ex]
    split
    · exact (ev_up hFG a e).bnd fun p => QLe.refl _
    · exact QLe.refl _
  | .mut i p o as, e => by
    simp only [ex]
    split
    · refine (evP_up hFG p e).bnd fun ri => ?_
      split
      · exact (evs_up hFG as e).bnd fun ps => QLe.refl _
      · exact QLe.refl _
    · exact QLe.refl _
  | .dput i k v, e => by
    simp only [ex]
    split
    · exact (ev_up hFG k e).bnd fun p => QLe.refl _
    · exact QLe.refl _
  | .exp a, e => by simp only [ex]; exact (ev_up hFG a e).bnd fun p => QLe.refl _
  | .ife c a b, e => by
    simp only [ex]
    refine (ev_up hFG c e).bnd fun p => ?_
    split
    · exact QLe.refl _
    · exact exs_up a e
    · exact exs_up b e
  | .ret a, e => by simp only [ex]; exact (evr_up hFG a e).bnd fun p => QLe.refl _
  | .for_ ts one s b, e => by
    simp only [ex]
    refine (evS_up hFG s e).bnd fun p => forL_up (fun x e => ?_) _ _
    cases hb : bindT ts one x e with
    | none => exact QLe.refl _
    | some e1 => exact exs_up b e1
  | .whl c b, e => by
    simp only [ex]
    exact whlL_up (fun e => (ev_up hFG c e).bnd fun p => QLe.refl _) (fun e => exs_up b e) _ _
  | .rai C, e => by simp only [ex]; exact QLe.refl _
  | .mutF i f o as, e => by
    simp only [ex]
    split
    · split
      · exact (evs_up hFG as e).bnd fun ps => QLe.refl _
      · exact QLe.refl _
    · exact QLe.refl _
  | .each i f x q o es, e => by
    simp only [ex]
    split
    · split
      · split
        · exact QLe.refl _
        · exact (eachL_up (fun j e => eachF_up hFG j e) _ 0 _).bnd fun a => QLe.refl _
      · exact QLe.refl _
    · exact QLe.refl _
  | .tryE a x cs hs, e => by
    simp only [ex]
    intro r hr
    cases hx : ev F a e with
    | none => rw [hx] at hr; cases hr
    | some y =>
      rw [hx] at hr
      rw [ev_up hFG a e y hx]
      cases y with
      | ok p => exact hr
      | er C =>
        simp only at hr ⊢
        by_cases c : cs.contains C = true
        · rw [if_pos c] at hr ⊢
          exact (exs_up hs _).bnd (fun a => QLe.refl _) r hr
        · rw [if_neg c] at hr ⊢
          exact hr
  | .popA i x, e => by simp only [ex]; exact QLe.refl _
theorem exs_up : ∀ (ss : List S) (e : Dn), QLe (exs F ss e) (exs G ss e)
  | [], e => by simp only [exs]; exact QLe.refl _
  | s :: ss, e => by
    simp only [exs]
    refine (ex_up s e).bnd fun a => ?_
    cases a with
    | nx e1 => exact exs_up ss e1
    | rt m d => exact QLe.refl _
end
end
theorem run_le (P : List Fun) : ∀ k, TLe (run P k) (run P (k + 1))
  | 0 => fun f ds r h => by cases h
  | k + 1 => fun f ds r h => by
    unfold run at h ⊢
    cases e : P[f]? with
    | none => rw [e] at h; cases h
    | some Fu =>
      rw [e] at h
      simp only at h ⊢
      unfold callF at h ⊢
      split at h
      · rename_i hn
        rw [if_pos hn]
        exact (exs_up (run_le P k) Fu.body _).bnd (fun a => QLe.refl _) r h
      · cases h
theorem run_up {P : List Fun} {j k f : Nat} {ds : List D} {r : Ex (Md × D)} (hk : j ≤ k) (h : run P j f ds = some r) : run P k f ds = some r := by
  obtain ⟨d, rfl⟩ : ∃ d, k = j + d := ⟨k - j, by omega⟩
  induction d with
  | zero => exact h
  | succ d ih => exact run_le P (j + d) f ds r (ih (by omega))
end TW

set_option Elab.async false
set_option linter.all false
set_option maxRecDepth 100000
set_option maxHeartbeats 4000000
namespace TY
open TW PySem PySem.Spec PyProof.Rows L2
def Bits (ns : List Int) : Prop := ∃ b : Nat, 40 ≤ b ∧ b ≤ 1900000 ∧ ∀ z ∈ ns, Bd b z
def ok_law_web (ns : List Int) (by_ p t : Int) : Prop := Bits ns ∧ (0 ≤ by_ ∧ by_ ≤ 100) ∧ (0 ≤ p ∧ p ≤ 24) ∧ (0 ≤ t ∧ t ≤ 66)
def unW : M (Md × D) → Int × List (Int × Int)
  | some (.ok (_, .tup [.int n, .lst ds])) => (n, (prsD ds).getD [])
  | _ => (0, [])
def v_law_web (ns : List Int) (by_ p t : Int) : Int × List (Int × Int) := unW (run GP 2 10 [.scr ns, .int by_, .int p, .int t])
theorem law_web_all {ns : List Int} {by_ p t : Int} (h : ok_law_web ns by_ p t) : (∀ k, 2 ≤ k → Fn (run GP k) 10 [.scr ns, .int by_, .int p, .int t] .dp (eW (v_law_web ns by_ p t))) ∧ Web (v_law_web ns by_ p t).1 (v_law_web ns by_ p t).2 ∧ (v_law_web ns by_ p t).1 ≤ p ∧ ((v_law_web ns by_ p t).2.length : Int) ≤ t := by
  obtain ⟨⟨b, b1, b2, hb⟩, h1, h2, h3⟩ := h
  obtain ⟨n, ts, e0, w, hn, hl⟩ := c_web b1 b2 hb h1 h2 h3 0
  have ev : v_law_web ns by_ p t = (n, ts) := by
    unfold v_law_web
    rw [e0]
    show (n, (prsD (ts.map eP)).getD []) = _
    rw [prsD_eP]
    rfl
  rw [ev]
  refine ⟨fun k hk => ?_, w, hn, hl⟩
  obtain ⟨k, rfl⟩ : ∃ j, k = j + 2 := ⟨k - 2, by omega⟩
  obtain ⟨n', ts', e1, w', hn', hl'⟩ := c_web b1 b2 hb h1 h2 h3 k
  refine ⟨.dp, ?_, rfl⟩
  -- the web does not hang on how deep a call may go
  exact run_up (j := 2) (by omega) e0
theorem r_law_web (k : Nat) (hk : 2 ≤ k) (ns : List Int) (by_ p t : Int) (h : ok_law_web ns by_ p t) : Fn (run GP k) 10 [.scr ns, .int by_, .int p, .int t] .dp (eW (v_law_web ns by_ p t)) := (law_web_all h).1 k hk
end TY

set_option Elab.async false
set_option linter.all false
set_option maxRecDepth 100000
set_option maxHeartbeats 4000000
namespace TY
open TW PySem PySem.Spec PyProof.Rows L2
section
variable {α σ ρ : Type}
theorem forR_all {st : σ → α → σ ⊕ ρ} {ok : σ → α → Prop} (I : σ → Prop) : ∀ {xs : List α} {s : σ}, I s → (∀ s, ∀ x ∈ xs, I s → ok s x ∧ ∃ s', st s x = .inl s' ∧ I s') → okFor ok st xs s ∧ ∃ s', forR st xs s = .inl s' ∧ I s'
  | [], s, h, _ => ⟨trivial, s, rfl, h⟩
  | x :: xs, s, h, k => by
    obtain ⟨h1, s', h2, h3⟩ := k s x List.mem_cons_self h
    obtain ⟨h4, s2, h5, h6⟩ := forR_all I h3 fun s y hy => k s y (List.mem_cons_of_mem _ hy)
    refine ⟨⟨h1, ?_⟩, s2, ?_, h6⟩
    · rw [h2]; exact h4
    · unfold forR
      rw [h2]
      exact h5
theorem fold_pre {st : σ → α → σ} {ok : σ → α → Prop} (I : List α → σ → Prop) : ∀ {xs pre : List α} {s : σ}, I pre s → (∀ pre' x post s, pre ++ xs = pre' ++ x :: post → I pre' s → ok s x ∧ I (pre' ++ [x]) (st s x)) → okFold ok st xs s ∧ I (pre ++ xs) (xs.foldl st s)
  | [], pre, s, h, _ => ⟨trivial, by rw [List.append_nil]; exact h⟩
  | x :: xs, pre, s, h, k => by
    obtain ⟨h1, h2⟩ := k pre x xs s rfl h
    obtain ⟨h4, h5⟩ := fold_pre I (xs := xs) (pre := pre ++ [x]) h2 fun p y q s e => k p y q s (by rw [← e]; simp)
    refine ⟨⟨h1, h4⟩, ?_⟩
    rw [List.append_assoc] at h5
    exact h5
theorem whl_all {c : σ → Bool} {st : σ → σ} {okc okb : σ → Prop} (I : σ → Prop) (μ : σ → Nat) (h : ∀ s, I s → okc s ∧ (c s = true → okb s ∧ I (st s) ∧ μ (st s) < μ s)) : ∀ (n : Nat) (s : σ), I s → μ s < n → okWhl c st okc okb n s ∧ I (whlV c st n s) ∧ c (whlV c st n s) = false
  | 0, s, _, hn => absurd hn (by omega)
  | n + 1, s, hs, hn => by
    obtain ⟨h1, h2⟩ := h s hs
    unfold okWhl whlV
    cases hc : c s with
    | false => exact ⟨⟨h1, fun z => by cases z⟩, hs, hc⟩
    | true =>
      obtain ⟨h3, h4, h5⟩ := h2 hc
      obtain ⟨k1, k2, k3⟩ := whl_all I μ h n (st s) h4 (by omega)
      exact ⟨⟨h1, fun _ => ⟨h3, k1⟩⟩, k2, k3⟩
end
theorem enc_inj {α : Type} [DecidableEq α] {n : Nat} {e : α → D} (h : Dt n e) {a b : α} (k : e a = e b) : a = b := by
  have h1 := h.eq a b
  rw [k, h.eq b b] at h1
  simpa using h1.symm
theorem fn_val {α : Type} [DecidableEq α] {n : Nat} {e : α → D} {F : Tb} {f : Nat} {ds : List D} {m m' : Md} {a b : α} (h : Dt n e) (k : Fn F f ds m (e a)) (k' : F f ds = some (.ok (m', e b))) : a = b := by
  obtain ⟨q, k1, _⟩ := k
  rw [k1] at k'
  have : (q, e a) = (m', e b) := by
    have := Option.some.inj k'
    exact Ex.ok.inj this
  exact enc_inj h (congrArg Prod.snd this)
section
variable {α : Type}
theorem stI_len (xs : List α) (i : Int) (y : α) : (stI xs i y).length = xs.length := by
  unfold stI
  split
  · rw [List.length_set]
  · rfl
theorem stI_mem {xs : List α} {i : Int} {y z : α} (h : z ∈ stI xs i y) : z ∈ xs ∨ z = y := by
  unfold stI at h
  split at h
  · exact (List.mem_or_eq_of_mem_set h)
  · exact .inl h
theorem gI_mem [Inhabited α] {xs : List α} {i : Int} (h : IxOk xs i) : gI xs i ∈ xs := by
  have := atI_ok h
  unfold atI at this
  cases e : ixN xs.length i with
  | none => rw [e] at this; cases this
  | some j =>
    rw [e] at this
    exact List.mem_of_getElem? this
theorem gI_of {xs : List α} [Inhabited α] {i : Nat} (h : i < xs.length) : gI xs (i : Int) = xs[i] := by
  rw [gI_nat, List.getD_eq_getElem?_getD, List.getElem?_eq_getElem h]
  rfl
theorem ixok_nat {xs : List α} {i : Nat} (h : i < xs.length) : IxOk xs (i : Int) := ⟨by omega, by omega⟩
theorem erI_sub (xs : List α) (i : Int) : (erI xs i).Sublist xs := by
  unfold erI
  split
  · exact List.eraseIdx_sublist _ _
  · exact List.Sublist.refl _
end
theorem rg_mem {a b x : Int} : x ∈ rg a b ↔ a ≤ x ∧ x < b := by
  unfold rg
  rw [List.mem_map]
  constructor
  · rintro ⟨i, hi, rfl⟩
    have := List.mem_range.mp hi
    omega
  · rintro ⟨h1, h2⟩
    exact ⟨(x - a).toNat, List.mem_range.mpr (by omega), by omega⟩
theorem rg_ris (a b : Int) : (rg a b).Pairwise (· < ·) := by
  unfold rg
  rw [List.pairwise_map]
  exact List.pairwise_lt_range.imp fun {x y} h => by omega
theorem rg_len (a b : Int) : (rg a b).length = (b - a).toNat := by simp [rg]
theorem cut1 {α : Type} (xs : List α) : cutL xs (some 1) none = xs.tail := by
  rw [← List.drop_one]
  exact cut_from xs 1
theorem web_is {w : Int × List (Int × Int)} (h : Web w.1 w.2) : v_is_web w = true := by
  obtain ⟨n, ts⟩ := w
  have h1 : (0 : Int) ≤ n := h.lo
  have h2 : n ≤ 24 := h.hi
  have h3 : ts.length ≤ 66 := h.len
  have b1 : v_is_below n (24 + 1) = true := by
    unfold v_is_below v_is_whole
    simp
    omega
  have b2 : ∀ t ∈ ts, v_is_tie t n = true := fun t ht => by
    have hk : 0 ≤ t.1 ∧ t.1 < t.2 ∧ t.2 < n := h.ok t ht
    unfold v_is_tie v_is_below v_is_whole
    simp
    omega
  have b3 : ((ts.map fun t => v_is_tie t n).all id) = true := by
    rw [List.all_map, List.all_eq_true]
    exact fun t ht => b2 t ht
  have b4 : (((ts.zip ts.tail).map fun it => ltP2 it.1 it.2).all id) = true := by
    rw [List.all_map, List.all_eq_true]
    exact fun p hp => adj_of h.ris p hp
  unfold v_is_web
  simp only [lett, cut1, b1, b3, b4]
  simp
  omega
abbrev nearL (w : Int × List (Int × Int)) : List (List Int) := (List.range w.1.toNat).map fun (p : Nat) => isortB ltZ (nb w.2 (p : Int))
theorem nearD_eL (n : Int) (ts : List (Int × Int)) : nearD n ts = eL (eL D.int) (nearL (n, ts)) := by
  show D.lst _ = D.lst _
  rw [List.map_map]
  rfl
theorem near_ok {w : Int × List (Int × Int)} (h : Web w.1 w.2) : ok_near_of w := by
  obtain ⟨n, ts⟩ := w
  have h1 : (0 : Int) ≤ n := h.lo
  have h2 : n ≤ 24 := h.hi
  have h3 : ts.length ≤ 66 := h.len
  refine ⟨⟨by omega, by omega, by simp only; omega, by simp only; omega⟩, ?_⟩
  unfold lett
  have key := fold_pre (st := fun (s11 : List (List Int)) (x12 : Int × Int) => stI (stI s11 x12.1 (gI s11 x12.1 ++ [x12.2])) x12.2 (gI (stI s11 x12.1 (gI s11 x12.1 ++ [x12.2])) x12.2 ++ [x12.1]))
    (ok := fun (s11 : List (List Int)) (x12 : Int × Int) => ((gI s11 x12.1).length < 1000000) ∧ (IxOk s11 x12.1) ∧ (((gI (stI s11 x12.1 (gI s11 x12.1 ++ [x12.2])) x12.2).length < 1000000) ∧ (IxOk (stI s11 x12.1 (gI s11 x12.1 ++ [x12.2])) x12.2)))
    (I := fun pre s => s.length = n.toNat ∧ ∀ r ∈ s, r.length ≤ 2 * pre.length) (xs := ts) (pre := []) (s := (rg 0 n).map fun _ => ([] : List Int)) ⟨by rw [List.length_map, rg_len]; omega, fun r hr => by
      obtain ⟨_, _, rfl⟩ := List.mem_map.mp hr
      simp⟩ (fun pre x post s e hI => by
      obtain ⟨hl, hr⟩ := hI
      have hx : x ∈ ts := by
        rw [List.nil_append] at e
        rw [e]; simp
      have hpl : pre.length ≤ 66 := by
        have := congrArg List.length e
        simp at this
        omega
      have hk : 0 ≤ x.1 ∧ x.1 < x.2 ∧ x.2 < n := h.ok x hx
      have i1 : IxOk s x.1 := ⟨by omega, by omega⟩
      have i2 : IxOk (stI s x.1 (gI s x.1 ++ [x.2])) x.2 := by
        refine ⟨?_, ?_⟩ <;> rw [stI_len] <;> omega
      have r1 := hr _ (gI_mem i1)
      have r2 : ∀ r ∈ stI s x.1 (gI s x.1 ++ [x.2]), r.length ≤ 2 * pre.length + 1 := fun r hm => by
        rcases stI_mem hm with hm | rfl
        · have := hr r hm; omega
        · rw [List.length_append, List.length_singleton]; omega
      have r3 := r2 _ (gI_mem i2)
      refine ⟨⟨by omega, i1, by omega, i2⟩, by rw [stI_len, stI_len]; exact hl, fun r hm => ?_⟩
      rw [List.length_append, List.length_singleton]
      rcases stI_mem hm with hm | rfl
      · have := r2 r hm; omega
      · rw [List.length_append, List.length_singleton]; omega)
  exact key.1
theorem near_val {w : Int × List (Int × Int)} (h : Web w.1 w.2) : v_near_of w = nearL w := by
  obtain ⟨n, ts⟩ := w
  refine fn_val (dt_L (dt_L dt_int)) (r_near_of 1 (by omega) (n, ts) (near_ok h)) (m' := .dp) ?_
  have := c_near_of (n := n) (ts := ts) h 0
  rw [nearD_eL] at this
  exact this
theorem law_near_eq (w : Int × List (Int × Int)) : v_law_near w = v_near_of w := rfl
theorem law_near_ok (w : Int × List (Int × Int)) : ok_law_near w = ok_near_of w := rfl
theorem copied_eq (w : Int × List (Int × Int)) : v_law_copied w = w := rfl
end TY

set_option Elab.async false
set_option linter.all false
set_option maxRecDepth 100000
set_option maxHeartbeats 4000000
namespace TW
open PySem PySem.Spec PyProof.Rows L2

theorem ltP2_irr (a : Int × Int) : ¬ ltP2 a a = true := by rw [sto_P.irr]; simp
def ltRow (ts : List (Int × Int)) (p : (Int × Int) × Nat) : List (Int × Int) := ((List.range p.2).filter fun j => shr (ts.getD j (0, 0)) p.1).map fun (j : Nat) => ((j : Int), (p.2 : Int))
structure LtS where
  m : Md
  fs : List (Int × Int)
  x2 : Sl
  x3 : Sl
def LtS.env (n : Int) (ts : List (Int × Int)) (s : LtS) : Dn := [some (.sh, webD n ts), some (s.m, .lst (s.fs.map eP)), s.x2, s.x3, none]
def LtS.step (ts : List (Int × Int)) (s : LtS) (p : (Int × Int) × Nat) : LtS := ⟨.fl, s.fs ++ ltRow ts p, some (.sh, .int (p.2 : Int)), some (.sh, eP p.1)⟩
end TW

set_option Elab.async false
set_option linter.all false
set_option maxRecDepth 100000
set_option maxHeartbeats 4000000
namespace TW
open PySem PySem.Spec PyProof.Rows L2

theorem mem_nb {ts : List (Int × Int)} (h : ∀ t ∈ ts, t.1 < t.2) (p x : Int) : x ∈ nb ts p ↔ (p, x) ∈ ts ∨ (x, p) ∈ ts := by
  unfold nb
  rw [List.mem_flatMap]
  constructor
  · rintro ⟨t, ht, hx⟩
    split at hx
    · rename_i h1
      have := List.mem_singleton.mp hx
      left
      rw [← h1, this]
      exact ht
    · split at hx
      · rename_i h1 h2
        have := List.mem_singleton.mp hx
        right
        rw [← h2, this]
        exact ht
      · cases hx
  · rintro (ht | ht)
    · exact ⟨_, ht, by simp⟩
    · refine ⟨_, ht, ?_⟩
      have := h _ ht
      have e : ¬ x = p := by simp at this; omega
      simp [e]
structure ApS where
  m3 : Md
  m4 : Md
  ls : List (List Int)
  x1 : Sl
def ApS.env (n : Int) (ts : List (Int × Int)) (s : ApS) : Dn := [some (.sh, webD n ts), s.x1, none, some (s.m3, nearD n ts), some (s.m4, .lst (s.ls.map eIL)), none, none, none]
def ApS.step (na : Int → Int → Bool) (s : ApS) (j : Nat) : ApS := ⟨.sh, .fl, s.ls ++ (s.ls.filter fun u => u.all fun x => na (j : Int) x).map fun u => u ++ [(j : Int)], some (.sh, .int (j : Int))⟩
end TW

set_option Elab.async false
set_option linter.all false
set_option maxRecDepth 100000
set_option maxHeartbeats 4000000
namespace TY
open TW PySem PySem.Spec PyProof.Rows L2
end TY

set_option Elab.async false
set_option linter.all false
set_option maxRecDepth 100000
set_option maxHeartbeats 4000000
namespace TY
open TW PySem PySem.Spec PyProof.Rows L2
end TY

set_option Elab.async false
set_option linter.all false
set_option maxRecDepth 100000
set_option maxHeartbeats 4000000
namespace TY
open TW PySem PySem.Spec PyProof.Rows L2
end TY

set_option Elab.async false
set_option linter.all false
set_option maxRecDepth 100000
set_option maxHeartbeats 4000000
namespace TY
open TW PySem PySem.Spec PyProof.Rows L2
def Adj (ts : List (Int × Int)) (a b : Int) : Prop := (a, b) ∈ ts ∨ (b, a) ∈ ts
inductive Cn (ts : List (Int × Int)) : Int → Int → Prop
  | refl (a : Int) : Cn ts a a
  | step {a b c : Int} : Cn ts a b → Adj ts b c → Cn ts a c
section
variable {ts us : List (Int × Int)} {a b c : Int}
theorem Adj.symm (h : Adj ts a b) : Adj ts b a := Or.comm.mp h
theorem Cn.trans (h : Cn ts a b) (k : Cn ts b c) : Cn ts a c := by
  induction k with
  | refl => exact h
  | step _ e ih => exact .step ih e
theorem Cn.one (h : Adj ts a b) : Cn ts a b := .step (.refl a) h
theorem Cn.symm (h : Cn ts a b) : Cn ts b a := by
  induction h with
  | refl => exact .refl _
  | step _ e ih => exact (Cn.one e.symm).trans ih
theorem Cn.mono (h : Cn ts a b) (k : ∀ t ∈ ts, t ∈ us) : Cn us a b := by
  induction h with
  | refl => exact .refl _
  | step _ e ih => exact .step ih (e.imp (k _) (k _))
end
abbrev InR (n x : Int) : Prop := 0 ≤ x ∧ x < n
theorem rg0 {n x : Int} : x ∈ rg 0 n ↔ InR n x := rg_mem
open Classical in
noncomputable def cls (n : Int) (ts : List (Int × Int)) (p : Int) : List Int := (rg 0 n).filter fun q => decide (Cn ts p q)
def Mk (n : Int) (ts : List (Int × Int)) (m : List Int) : Prop := (m.length : Int) = n ∧ ∀ p, InR n p → InR n (gI m p) ∧ Cn ts p (gI m p) ∧ ∀ q, InR n q → Cn ts p q → gI m p ≤ q
end TY

set_option Elab.async false
set_option linter.all false
set_option maxRecDepth 100000
set_option maxHeartbeats 4000000
namespace TY
open TW PySem PySem.Spec PyProof.Rows L2
theorem nodup_len {α : Type} [DecidableEq α] : ∀ {l m : List α}, l.Nodup → (∀ x ∈ l, x ∈ m) → l.length ≤ m.length
  | [], m, _, _ => Nat.zero_le _
  | x :: l, m, h, k => by
    obtain ⟨h1, h2⟩ := List.nodup_cons.mp h
    have hx := k x List.mem_cons_self
    have ih := nodup_len (m := m.erase x) h2 fun y hy => (List.mem_erase_of_ne (fun e : y = x => h1 (e ▸ hy))).mpr (k y (List.mem_cons_of_mem _ hy))
    rw [List.length_erase_of_mem hx] at ih
    have := List.length_pos_of_mem hx
    rw [List.length_cons]
    omega
theorem near_at {w : Int × List (Int × Int)} (h : Web w.1 w.2) {p : Int} (hp : InR w.1 p) : IxOk (nearL w) p ∧ gI (nearL w) p = isortB ltZ (nb w.2 p) := by
  obtain ⟨k, rfl⟩ : ∃ k : Nat, p = (k : Int) := ⟨p.toNat, by omega⟩
  have hk : k < (nearL w).length := by
    rw [List.length_map, List.length_range]
    omega
  refine ⟨ixok_nat hk, ?_⟩
  rw [gI_of hk]
  simp
section
variable {n : Int} {ts : List (Int × Int)}
structure Wk (n : Int) (ts : List (Int × Int)) (met0 : List Int) (x : Int) (s : List Int × List Int × Int) : Prop where
  nd : s.2.1.Nodup
  inn : ∀ z ∈ s.2.1, InR n z ∧ Cn ts x z
  x0 : x ∈ s.2.1
  met : ∀ z, z ∈ s.1 ↔ z ∈ met0 ∨ z ∈ s.2.1
  ndm : s.1.Nodup
  at0 : 0 ≤ s.2.2
  at1 : s.2.2 ≤ (s.2.1.length : Int)
  done : ∀ j : Nat, (j : Int) < s.2.2 → ∀ h : j < s.2.1.length, ∀ y ∈ nb ts (s.2.1[j]), y ∈ s.1
end
end TY

set_option Elab.async false
set_option linter.all false
set_option maxRecDepth 100000
set_option maxHeartbeats 4000000
namespace TY
open TW PySem PySem.Spec PyProof.Rows L2
end TY

set_option Elab.async false
set_option linter.all false
set_option maxRecDepth 100000
set_option maxHeartbeats 4000000
namespace TY
open TW PySem PySem.Spec PyProof.Rows L2
end TY

set_option Elab.async false
set_option linter.all false
set_option maxRecDepth 100000
set_option maxHeartbeats 4000000
namespace TY
open TW PySem PySem.Spec PyProof.Rows L2
end TY

set_option Elab.async false
set_option linter.all false
set_option maxRecDepth 100000
set_option maxHeartbeats 4000000
namespace TW
open PySem PySem.Spec PyProof.Rows L2

theorem Web.erase {n : Int} {ts : List (Int × Int)} (w : Web n ts) (i : Nat) : Web n (ts.eraseIdx i) := by
  refine ⟨w.lo, w.hi, ?_, fun p hp => w.ok p ((List.eraseIdx_sublist ts i).subset hp), w.ris.sublist (List.eraseIdx_sublist ts i)⟩
  exact Nat.le_trans (List.eraseIdx_sublist ts i).length_le w.len
theorem Web.more {n : Int} {ts : List (Int × Int)} (w : Web n ts) (h : n < 24) : Web (n + 1) ts := ⟨by have := w.lo; omega, by omega, w.len, fun p hp => by have := w.ok p hp; omega, w.ris⟩
end TW

set_option Elab.async false
set_option linter.all false
set_option maxRecDepth 100000
set_option maxHeartbeats 4000000
namespace TY
open TW PySem PySem.Spec PyProof.Rows L2
theorem Web.er {w : Int × List (Int × Int)} (h : Web w.1 w.2) (i : Int) : Web w.1 (erI w.2 i) := by
  have sub := erI_sub w.2 i
  exact ⟨h.lo, h.hi, Nat.le_trans sub.length_le h.len, fun p hp => h.ok p (sub.subset hp), h.ris.sublist sub⟩
end TY

set_option Elab.async false
set_option linter.all false
set_option maxRecDepth 100000
set_option maxHeartbeats 4000000
namespace TY
open TW PySem PySem.Spec PyProof.Rows L2
theorem bits_of {ns : List Int} (hbits : ∀ z ∈ ns, Builtin.Int.intBits z ≤ 1048576) : Bits ns := by
  obtain ⟨b, hb1, hb2, hb3⟩ : ∃ b : Nat, 40 ≤ b ∧ b ≤ 1900000 ∧ b = 1048576 := ⟨1048576, by decide, by decide, rfl⟩
  rw [← hb3] at hbits
  exact ⟨b, hb1, hb2, fun z hz => bits_bd (hbits z hz)⟩
theorem web_ok {ns : List Int} (h : Bits ns) {by_ p t : Int} (h1 : 0 ≤ by_ ∧ by_ ≤ 100) (h2 : 0 ≤ p ∧ p ≤ 24) (h3 : 0 ≤ t ∧ t ≤ 66) : ok_law_web ns by_ p t ∧ Web (v_law_web ns by_ p t).1 (v_law_web ns by_ p t).2 ∧ (v_law_web ns by_ p t).1 ≤ p ∧ ((v_law_web ns by_ p t).2.length : Int) ≤ t :=
  have o : ok_law_web ns by_ p t := ⟨h, h1, h2, h3⟩
  ⟨o, (law_web_all o).2⟩
theorem law_run {f k : Nat} {ns : List Int} {m : Md} {v : Bool} (h : Fn (run GP k) f [.scr ns] m (D.bl v)) (e : v = true) : ∃ m, run GP k f [.scr ns] = some (.ok (m, .bl true)) := by
  obtain ⟨n, h1, _⟩ := h
  rw [e] at h1
  exact ⟨n, h1⟩
end TY

set_option Elab.async false
set_option linter.all false
set_option maxRecDepth 100000
set_option maxHeartbeats 4000000
namespace TY
open TW PySem PySem.Spec PyProof.Rows L2
end TY

set_option Elab.async false
set_option linter.all false
set_option maxRecDepth 100000
set_option maxHeartbeats 4000000
namespace TY
open TW PySem PySem.Spec PyProof.Rows L2
end TY

set_option Elab.async false
set_option linter.all false
set_option maxRecDepth 100000
set_option maxHeartbeats 4000000
namespace TY
open TW PySem PySem.Spec PyProof.Rows L2
end TY

set_option Elab.async false
set_option linter.all false
set_option maxRecDepth 100000
set_option maxHeartbeats 4000000
namespace TY
open TW PySem PySem.Spec PyProof.Rows L2
def v_law_whole (found_ : Int) : Bool := (true && (!false))
theorem r_law_whole (k : Nat) (hk : 1 ≤ k) (found_ : Int) : Fn (run GP k) 25 [D.int found_] .sh (D.bl (v_law_whole found_)) := by
  obtain ⟨k, rfl⟩ : ∃ j, k = j + 1 := ⟨k - 1, by omega⟩
  exact fn_retR (Fu := fu_law_whole) (e := D.bl) (v := v_law_whole found_) rfl rfl (show Blk _ _ [some (.sh, D.int found_)] (rtF _ _ ((true && (!false)))) from (blk_retR (evr_of (ev_and (ev_isi (ev_var rfl) rfl) (fun hq3 => (ev_not (ev_isi (ev_var rfl) rfl)))))))
end TY

set_option Elab.async false
set_option linter.all false
set_option maxRecDepth 100000
set_option maxHeartbeats 4000000
namespace TY
open TW PySem PySem.Spec PyProof.Rows L2
end TY

set_option Elab.async false
set_option linter.all false
set_option maxRecDepth 100000
set_option maxHeartbeats 4000000
namespace TY
open TW PySem PySem.Spec PyProof.Rows L2
end TY

set_option Elab.async false
set_option linter.all false
set_option maxRecDepth 100000
set_option maxHeartbeats 4000000
namespace TY
open TW PySem PySem.Spec PyProof.Rows L2
end TY

set_option Elab.async false
set_option linter.all false
set_option maxRecDepth 100000
set_option maxHeartbeats 4000000
namespace TY
open TW PySem PySem.Spec PyProof.Rows L2
theorem en_mem {α : Type} {xs : List α} {p : Int × α} : p ∈ en xs ↔ ∃ k : Nat, p.1 = (k : Int) ∧ xs[k]? = some p.2 := by
  unfold en
  rw [List.mem_map]
  constructor
  · rintro ⟨⟨x, k⟩, hk, rfl⟩
    exact ⟨k, rfl, List.mk_mem_zipIdx_iff_getElem?.mp hk⟩
  · rintro ⟨k, h1, h2⟩
    refine ⟨(p.2, k), List.mk_mem_zipIdx_iff_getElem?.mpr h2, ?_⟩
    rw [← h1]
section
variable {n : Int} {ts : List (Int × Int)}
def EndAt (ts : List (Int × Int)) (i : Nat) (a : Int) : Prop := ∃ t, ts[i]? = some t ∧ (t.1 = a ∨ t.2 = a)
theorem EndAt.lt {i : Nat} {a : Int} (h : EndAt ts i a) : i < ts.length := by
  obtain ⟨t, h, _⟩ := h
  exact (List.getElem?_eq_some_iff.mp h).1
end
end TY

set_option Elab.async false
set_option linter.all false
set_option maxRecDepth 100000
set_option maxHeartbeats 4000000
namespace TY
open TW PySem PySem.Spec PyProof.Rows L2
theorem law_loop {α σ : Type} {ok : σ → α → Prop} {st : σ → α → σ ⊕ Bool} {xs : List α} {s0 : σ} {OK : σ → Prop} {K : σ → Bool} (I : σ → Prop) (h0 : I s0) (h1 : ∀ s, ∀ x ∈ xs, I s → ok s x ∧ ∃ s', st s x = .inl s' ∧ I s') (h2 : ∀ s, I s → OK s ∧ K s = true) : (okFor ok st xs s0 ∧ okThen (forR st xs s0) OK) ∧ orElse (forR st xs s0) K = true := by
  obtain ⟨q1, s', q2, q3⟩ := forR_all I h0 h1
  rw [q2]
  exact ⟨⟨q1, (h2 s' q3).1⟩, (h2 s' q3).2⟩
theorem ite_no {α : Type} {c : Bool} {A B r : α} (h : c = false) (k : B = r) : (if c = true then A else B) = r := by
  rw [h]
  exact k
theorem ite_any {α : Type} {c : Bool} {A B r : α} (h : c = true → A = r) (k : c = false → B = r) : (if c = true then A else B) = r := by
  cases c
  · exact k rfl
  · exact h rfl
theorem nt {a : Bool} (h : a = true) : (!a) = false := by rw [h]; rfl
theorem or_no {a b : Bool} (h : a = false) (k : b = false) : (a || b) = false := by rw [h, k]; rfl
theorem and_yes {a b : Bool} (h : a = true) (k : b = true) : (a && b) = true := by rw [h, k]; rfl
theorem nd {p : Prop} [Decidable p] (h : p) : (!decide p) = false := nt (decide_eq_true h)
end TY

set_option Elab.async false
set_option linter.all false
set_option maxRecDepth 100000
set_option maxHeartbeats 4000000
namespace TY
open TW PySem PySem.Spec PyProof.Rows L2
end TY

set_option Elab.async false
set_option linter.all false
set_option maxRecDepth 100000
set_option maxHeartbeats 4000000
namespace TY
open TW PySem PySem.Spec PyProof.Rows L2
end TY

set_option Elab.async false
set_option linter.all false
set_option maxRecDepth 100000
set_option maxHeartbeats 4000000
namespace TY
open TW PySem PySem.Spec PyProof.Rows L2
end TY

set_option Elab.async false
set_option linter.all false
set_option maxRecDepth 100000
set_option maxHeartbeats 4000000
namespace TY
open TW PySem PySem.Spec PyProof.Rows L2
end TY

set_option Elab.async false
set_option linter.all false
set_option maxRecDepth 100000
set_option maxHeartbeats 4000000
namespace TY
open TW PySem PySem.Spec PyProof.Rows L2
end TY

set_option Elab.async false
set_option linter.all false
set_option maxRecDepth 100000
set_option maxHeartbeats 4000000
namespace TY
open TW PySem PySem.Spec PyProof.Rows L2
end TY

set_option Elab.async false
set_option linter.all false
set_option maxRecDepth 100000
set_option maxHeartbeats 4000000
namespace TY
open TW PySem PySem.Spec PyProof.Rows L2
end TY

set_option Elab.async false
set_option linter.all false
set_option maxRecDepth 100000
set_option maxHeartbeats 4000000
namespace TY
open TW PySem PySem.Spec PyProof.Rows L2
end TY

set_option Elab.async false
set_option linter.all false
set_option maxRecDepth 100000
set_option maxHeartbeats 4000000
namespace TY
open TW PySem PySem.Spec PyProof.Rows L2
end TY

set_option Elab.async false
set_option linter.all false
set_option maxRecDepth 100000
set_option maxHeartbeats 4000000
namespace TY
open TW PySem PySem.Spec PyProof.Rows L2
end TY

set_option Elab.async false
set_option linter.all false
set_option maxRecDepth 100000
set_option maxHeartbeats 4000000
namespace TY
open TW PySem PySem.Spec PyProof.Rows L2
def nx (o : List Int) : List (Int × Int) := o.zip (o.tail ++ o.take 1)
theorem cut_to {α : Type} (xs : List α) (k : Nat) : cutL xs none (some (k : Int)) = xs.take k := by
  unfold cutL
  rw [HT.sIx_nat, HT.sIx_none, List.drop_zero, Nat.sub_zero]
  exact (List.take_eq_take_min ..).symm
def Ord (n : Int) (o : List Int) : Prop := o.Perm (rg 0 n)
theorem Ord.len {n : Int} {o : List Int} (h : Ord n o) (h0 : 0 ≤ n) : (o.length : Int) = n := by
  rw [h.length_eq, rg_len]
  omega
section
variable {w : Int × List (Int × Int)} {o : List Int}
theorem bool_iff {a b : Bool} (h : a = true ↔ b = true) : a = b := by
  cases a <;> cases b <;> simp_all
end
theorem Ord.mem {n : Int} {o : List Int} (h : Ord n o) {x : Int} (hx : x ∈ o) : 0 ≤ x ∧ x < n := rg_mem.mp (h.mem_iff.mp hx)
theorem Ord.rev {n : Int} {o : List Int} (h : Ord n o) : Ord n o.reverse := (List.reverse_perm o).trans h
theorem Ord.turn {n : Int} {o : List Int} (h : Ord n o) (k : Nat) : Ord n (o.drop k ++ o.take k) := by
  refine List.perm_append_comm.trans ?_
  rw [List.take_append_drop]
  exact h
end TY

set_option Elab.async false
set_option linter.all false
set_option maxRecDepth 100000
set_option maxHeartbeats 4000000
namespace TY
open TW PySem PySem.Spec PyProof.Rows L2
end TY

set_option Elab.async false
set_option linter.all false
set_option maxRecDepth 100000
set_option maxHeartbeats 4000000
namespace TY
open TW PySem PySem.Spec PyProof.Rows L2
end TY

set_option Elab.async false
set_option linter.all false
set_option maxRecDepth 100000
set_option maxHeartbeats 4000000
namespace TY
open TW PySem PySem.Spec PyProof.Rows L2
end TY

set_option Elab.async false
set_option linter.all false
set_option maxRecDepth 100000
set_option maxHeartbeats 4000000
namespace TY
open TW PySem PySem.Spec PyProof.Rows L2
def v_check_few_ties (web_ : Int × (List (Int × Int))) (most_ : Int) : Unit := ()
def ok_check_few_ties (web_ : Int × (List (Int × Int))) (most_ : Int) : Prop := ((!(v_is_web web_)) || (decide (most_ < (web_.2.length : Int)))) = false
theorem r_check_few_ties (k : Nat) (hk : 5 ≤ k) (web_ : Int × (List (Int × Int))) (most_ : Int) (h : ok_check_few_ties web_ most_) : Fn (run GP k) 31 [eW web_, D.int most_] .dp (eN (v_check_few_ties web_ most_)) := by
  obtain ⟨k, rfl⟩ : ∃ j, k = j + 1 := ⟨k - 1, by omega⟩
  exact fn_nx (Fu := fu_check_few_ties) (env := fun _ : Unit => [some (.sh, eW web_), some (.sh, D.int most_)]) (s := ()) rfl rfl (show Blk _ _ [some (.sh, eW web_), some (.sh, D.int most_)] _ from (blk_ifR (ev_or (ev_not (ev_cal (evs_cons (ev_var rfl) evs_nil) (r_is_web k (by omega) web_))) (fun hq1 => (ev_cmp (ev_len (ev_tat (ev_var rfl) rfl)) (ev_var rfl) (cm_gt _ _)))) h (blk_nilF ⟨⟨rfl, rfl⟩, ⟨rfl, rfl⟩, trivial⟩)))
end TY

set_option Elab.async false
set_option linter.all false
set_option maxRecDepth 100000
set_option maxHeartbeats 4000000
namespace TY
open TW PySem PySem.Spec PyProof.Rows L2
end TY

set_option Elab.async false
set_option linter.all false
set_option maxRecDepth 100000
set_option maxHeartbeats 4000000
namespace TY
open TW PySem PySem.Spec PyProof.Rows L2
end TY

set_option Elab.async false
set_option linter.all false
set_option maxRecDepth 100000
set_option maxHeartbeats 4000000
namespace TY
open TW PySem PySem.Spec PyProof.Rows L2
end TY

set_option Elab.async false
set_option linter.all false
set_option maxRecDepth 100000
set_option maxHeartbeats 4000000
namespace TY
open TW PySem PySem.Spec PyProof.Rows L2
end TY

set_option Elab.async false
set_option linter.all false
set_option maxRecDepth 100000
set_option maxHeartbeats 4000000
namespace TY
open TW PySem PySem.Spec PyProof.Rows L2
section
variable {near : List (List Int)} {c : Int}
end
end TY

set_option Elab.async false
set_option linter.all false
set_option maxRecDepth 100000
set_option maxHeartbeats 4000000
namespace TY
open TW PySem PySem.Spec PyProof.Rows L2
section
variable {w : Int × List (Int × Int)} {c : Int}
end
end TY

set_option Elab.async false
set_option linter.all false
set_option maxRecDepth 100000
set_option maxHeartbeats 4000000
namespace TY
open TW PySem PySem.Spec PyProof.Rows L2
end TY

set_option Elab.async false
set_option linter.all false
set_option maxRecDepth 100000
set_option maxHeartbeats 4000000
namespace TY
open TW PySem PySem.Spec PyProof.Rows L2
end TY

set_option Elab.async false
set_option linter.all false
set_option maxRecDepth 100000
set_option maxHeartbeats 4000000
namespace TY
open TW PySem PySem.Spec PyProof.Rows L2
end TY

set_option Elab.async false
set_option linter.all false
set_option maxRecDepth 100000
set_option maxHeartbeats 4000000
namespace TY
open TW PySem PySem.Spec PyProof.Rows L2
end TY

set_option Elab.async false
set_option linter.all false
set_option maxRecDepth 100000
set_option maxHeartbeats 4000000
namespace TY
open TW PySem PySem.Spec PyProof.Rows L2
section
variable {na : Int → Int → Bool}
def prs : List Int → List (Int × Int)
  | [] => []
  | p :: r => (r.map fun q => (p, q)) ++ prs r
end
end TY

set_option Elab.async false
set_option linter.all false
set_option maxRecDepth 100000
set_option maxHeartbeats 4000000
namespace TY
open TW PySem PySem.Spec PyProof.Rows L2
def toS {ρ : Type} : Option ρ → Unit ⊕ ρ
  | none => .inl ()
  | some r => .inr r
theorem forR_find {α ρ : Type} {st : Unit → α → Unit ⊕ ρ} {g : α → Option ρ} : ∀ {xs : List α}, (∀ x ∈ xs, st () x = toS (g x)) → forR st xs () = toS (xs.findSome? g)
  | [], _ => rfl
  | x :: xs, h => by
    have ih := forR_find (g := g) (xs := xs) fun y hy => h y (List.mem_cons_of_mem _ hy)
    have hx := h x List.mem_cons_self
    rw [List.findSome?_cons]
    unfold forR
    rw [hx]
    cases g x with
    | none => exact ih
    | some r => rfl
theorem okFor_of {α σ ρ : Type} {ok : σ → α → Prop} {st : σ → α → σ ⊕ ρ} : ∀ {xs : List α} {s : σ}, (∀ s, ∀ x ∈ xs, ok s x) → okFor ok st xs s
  | [], _, _ => trivial
  | x :: xs, s, h => by
    refine ⟨h s x List.mem_cons_self, ?_⟩
    cases st s x with
    | inl s' => exact okFor_of fun s y hy => h s y (List.mem_cons_of_mem _ hy)
    | inr r => trivial
def gT (_ : List Int) (_ : Int) : Bool := true
theorem Ord.nodup {n : Int} {l : List Int} (h : Ord n l) : l.Nodup := h.nodup_iff.mpr ((rg_ris 0 n).imp fun {a b} h => by omega)
end TY

set_option Elab.async false
set_option linter.all false
set_option maxRecDepth 100000
set_option maxHeartbeats 4000000
namespace TY
open TW PySem PySem.Spec PyProof.Rows L2
end TY

set_option Elab.async false
set_option linter.all false
set_option maxRecDepth 100000
set_option maxHeartbeats 4000000
namespace TY
open TW PySem PySem.Spec PyProof.Rows L2
end TY

set_option Elab.async false
set_option linter.all false
set_option maxRecDepth 100000
set_option maxHeartbeats 4000000
namespace TY
open TW PySem PySem.Spec PyProof.Rows L2
end TY

set_option Elab.async false
set_option linter.all false
set_option maxRecDepth 100000
set_option maxHeartbeats 4000000
namespace TY
open TW PySem PySem.Spec PyProof.Rows L2
def optE {α τ : Type} (v : Option α) (n : τ) (k : α → τ) : τ := match v with
  | none => n
  | some x => k x
variable {α τ : Type} {F : Tb} {Γ : Dn} {m : Md} {a : E} {ss : List S}
theorem blk_asgO {i : Nat} {e : α → D} {v : Option α} {O : τ → Fl} {KN : τ} {K : α → τ} {OKN : Prop} {OK : α → Prop} {ΓN : Dn} {Γ1 : α → Dn} (ha : Ev F a Γ m (eO e v)) (hc : ∀ x, Cl m (e x)) (hn : Cl m .non) (hΓN : ELe ΓN (Γ.set i (some (keep m .non)))) (hΓ : ∀ x, ELe (Γ1 x) (Γ.set i (some (keep m (e x))))) (hrN : OKN → Blk F ss ΓN (O KN)) (hr : ∀ x, OK x → Blk F ss (Γ1 x) (O (K x))) (hok : optE v OKN OK) : Blk F (.asg i a :: ss) Γ (O (optE v KN K)) := by
  cases v with
  | none => exact blk_asgC (α := Unit) (e := fun _ => .non) (v := ()) (K := fun _ => KN) (OK := fun _ => OKN) (Γ1 := fun _ => ΓN) ha (fun _ => hn) (fun _ => hΓN) (fun _ h => hrN h) hok
  | some x => exact blk_asgC (e := e) (v := x) (K := K) (OK := OK) (Γ1 := Γ1) ha hc hΓ hr hok
theorem cm_isN : Cm .is_ .non .non true := rfl
theorem cm_isnotN : Cm .isnot .non .non false := rfl
theorem cm_isL {e : α → D} (h : Nn e) (x : α) : Cm .is_ (e x) .non false := cm_is (e := e) h (some x)
theorem cm_isnotL {e : α → D} (h : Nn e) (x : α) : Cm .isnot (e x) .non true := cm_isnot (e := e) h (some x)
theorem cl_flO {e : α → D} (h : Lf e) (v : Option (List α)) : Cl .fl (eO (eL e) v) := by
  cases v with
  | none => exact cl_lf (e := fun (_ : Unit) => D.non) (a := ()) lf_N
  | some x => exact cl_fl h
theorem blk_ifT {c : E} {o : Fl} {A B : List S} {t : Bool} {m1 : Md} (h : Ev F c Γ m1 (.bl t)) (h1 : t = true) (h2 : Blk F (A ++ ss) Γ o) : Blk F (.ife c A B :: ss) Γ o := by
  subst h1
  exact blk_if (O := fun z => z) (r1 := o) (r2 := o) h (fun _ => h2) (fun z => by cases z)
theorem cl_non {m : Md} : Cl m .non := by cases m <;> rfl
end TY

set_option Elab.async false
set_option linter.all false
set_option maxRecDepth 100000
set_option maxHeartbeats 4000000
namespace TY
open TW PySem PySem.Spec PyProof.Rows L2
end TY

set_option Elab.async false
set_option linter.all false
set_option maxRecDepth 100000
set_option maxHeartbeats 4000000
namespace TY
open TW PySem PySem.Spec PyProof.Rows L2
end TY

set_option Elab.async false
set_option linter.all false
set_option maxRecDepth 100000
set_option maxHeartbeats 4000000
namespace TY
open TW PySem PySem.Spec PyProof.Rows L2
end TY

set_option Elab.async false
set_option linter.all false
set_option maxRecDepth 100000
set_option maxHeartbeats 4000000
namespace TY
open TW PySem PySem.Spec PyProof.Rows L2
end TY

set_option Elab.async false
set_option linter.all false
set_option maxRecDepth 100000
set_option maxHeartbeats 4000000
namespace TY
open TW PySem PySem.Spec PyProof.Rows L2
end TY

set_option Elab.async false
set_option linter.all false
set_option maxRecDepth 100000
set_option maxHeartbeats 4000000
namespace TY
open TW PySem PySem.Spec PyProof.Rows L2
end TY

set_option Elab.async false
set_option linter.all false
set_option maxRecDepth 100000
set_option maxHeartbeats 4000000
namespace TY
open TW PySem PySem.Spec PyProof.Rows L2
abbrev Wb := Int × List (Int × Int)
section
variable {w1 w2 : Wb} (h1 : Web w1.1 w1.2) (h2 : Web w2.1 w2.2) (hn : w1.1 = w2.1)
include h1 h2 hn
end
end TY

set_option Elab.async false
set_option linter.all false
set_option maxRecDepth 100000
set_option maxHeartbeats 4000000
namespace TY
open TW PySem PySem.Spec PyProof.Rows L2
section
variable {n a b : Int} {ts : List (Int × Int)}
end
section
variable {n a b : Int} {r : List (Int × Int)}
end
end TY

set_option Elab.async false
set_option linter.all false
set_option maxRecDepth 100000
set_option maxHeartbeats 4000000
namespace TY
open TW PySem PySem.Spec PyProof.Rows L2
section
variable {n : Int} {o : List Int}
theorem Ord.idx_at (h : Ord n o) (h0 : 0 ≤ n) {i : Int} (hi : InR n i) : (o.idxOf (gI o i) : Int) = i := by
  obtain ⟨k, rfl⟩ : ∃ k : Nat, i = (k : Int) := ⟨i.toNat, by omega⟩
  have hl := Ord.len h h0
  have hk : k < o.length := by omega
  rw [gI_of hk]
  exact congrArg _ (List.Nodup.idxOf_getElem h.nodup k hk)
theorem Ord.at_mem (h : Ord n o) (h0 : 0 ≤ n) {i : Int} (hi : InR n i) : gI o i ∈ o := gI_mem ⟨by have := Ord.len h h0; omega, by have := Ord.len h h0; omega⟩
theorem Ord.at_in (h : Ord n o) (h0 : 0 ≤ n) {i : Int} (hi : InR n i) : InR n (gI o i) := Ord.mem h (h.at_mem h0 hi)
theorem Ord.inj (h : Ord n o) (h0 : 0 ≤ n) {i j : Int} (hi : InR n i) (hj : InR n j) (e : gI o i = gI o j) : i = j := by
  rw [← h.idx_at h0 hi, ← h.idx_at h0 hj, e]
end
theorem _root_.TW.Web.lt {n : Int} {ts : List (Int × Int)} (h : TW.Web n ts) : ∀ t ∈ ts, t.1 < t.2 := fun t ht => (h.ok t ht).2.1
section
variable {w1 w2 : Wb} {o : List Int} (h1 : Web w1.1 w1.2) (h2 : Web w2.1 w2.2) (hn : w1.1 = w2.1) (ho : Ord w1.1 o)
include h1 ho
include h2 hn
end
end TY

set_option Elab.async false
set_option linter.all false
set_option maxRecDepth 100000
set_option maxHeartbeats 4000000
namespace TY
open TW PySem PySem.Spec PyProof.Rows L2
section
variable {w1 w2 : Wb} (h1 : Web w1.1 w1.2) (h2 : Web w2.1 w2.2)
include h1 h2
end
end TY

set_option Elab.async false
set_option linter.all false
set_option maxRecDepth 100000
set_option maxHeartbeats 4000000
namespace TY
open TW PySem PySem.Spec PyProof.Rows L2
theorem Web.sub {w : Wb} (h : Web w.1 w.2) {ts : List (Int × Int)} (hs : ts.Sublist w.2) : Web w.1 ts := ⟨h.lo, h.hi, Nat.le_trans hs.length_le h.len, fun p hp => h.ok p (hs.subset hp), h.ris.sublist hs⟩
end TY

set_option Elab.async false
set_option linter.all false
set_option maxRecDepth 100000
set_option maxHeartbeats 4000000
namespace TY
open TW PySem PySem.Spec PyProof.Rows L2
end TY

set_option Elab.async false
set_option linter.all false
set_option maxRecDepth 100000
set_option maxHeartbeats 4000000
namespace TY
open TW PySem PySem.Spec PyProof.Rows L2
end TY

set_option Elab.async false
set_option linter.all false
set_option maxRecDepth 100000
set_option maxHeartbeats 4000000
namespace TY
open TW PySem PySem.Spec PyProof.Rows L2
end TY

set_option Elab.async false
set_option linter.all false
set_option maxRecDepth 100000
set_option maxHeartbeats 4000000
namespace TY
open TW PySem PySem.Spec PyProof.Rows L2
end TY

set_option Elab.async false
set_option linter.all false
set_option maxRecDepth 100000
set_option maxHeartbeats 4000000
namespace TY
open TW PySem PySem.Spec PyProof.Rows L2
end TY

set_option Elab.async false
set_option linter.all false
set_option maxRecDepth 100000
set_option maxHeartbeats 4000000
namespace TY
open TW PySem PySem.Spec PyProof.Rows L2
end TY

set_option Elab.async false
set_option linter.all false
set_option maxRecDepth 100000
set_option maxHeartbeats 4000000
namespace TY
open TW PySem PySem.Spec PyProof.Rows L2
end TY

set_option Elab.async false
set_option linter.all false
set_option maxRecDepth 100000
set_option maxHeartbeats 4000000
namespace TY
open TW PySem PySem.Spec PyProof.Rows L2
theorem ltP2_iff {a b : Int × Int} : ltP2 a b = true ↔ a.1 < b.1 ∨ (a.1 = b.1 ∧ a.2 < b.2) := by
  unfold ltP2
  rw [Bool.or_eq_true, Bool.and_eq_true, decide_eq_true_iff, decide_eq_true_iff, decide_eq_true_iff]
section
variable {w : Wb} {s : List Int} (h : Web w.1 w.2) (hs : s.Pairwise (· < ·))
include h hs
end
theorem lett_to {α : Type} {a b : α} {f : α → Prop} (e : a = b) (h : f b) : lett a f := by subst e; exact h
theorem lett_val {α β : Type} {a b : α} {f : α → β} {r : β} (e : a = b) (h : f b = r) : lett a f = r := by subst e; exact h
end TY

set_option Elab.async false
set_option linter.all false
set_option maxRecDepth 100000
set_option maxHeartbeats 4000000
namespace TY
open TW PySem PySem.Spec PyProof.Rows L2
end TY

set_option Elab.async false
set_option linter.all false
set_option maxRecDepth 100000
set_option maxHeartbeats 4000000
namespace TY
open TW PySem PySem.Spec PyProof.Rows L2
end TY

set_option Elab.async false
set_option linter.all false
set_option maxRecDepth 100000
set_option maxHeartbeats 4000000
namespace TY
open TW PySem PySem.Spec PyProof.Rows L2
end TY

set_option Elab.async false
set_option linter.all false
set_option maxRecDepth 100000
set_option maxHeartbeats 4000000
namespace TY
open TW PySem PySem.Spec PyProof.Rows L2
end TY

set_option Elab.async false
set_option linter.all false
set_option maxRecDepth 100000
set_option maxHeartbeats 4000000
namespace TY
open TW PySem PySem.Spec PyProof.Rows L2
end TY

set_option Elab.async false
set_option linter.all false
set_option maxRecDepth 100000
set_option maxHeartbeats 4000000
namespace TY
open TW PySem PySem.Spec PyProof.Rows L2
def grs : List Int → List (Int × Int)
  | [] => []
  | a :: g => g.map (fun b => (a, b)) ++ grs g
theorem grs_mem {z : Int × Int} : ∀ {g : List Int}, g.Pairwise (· < ·) → (z ∈ grs g ↔ z.1 ∈ g ∧ z.2 ∈ g ∧ z.1 < z.2)
  | [], _ => by simp [grs]
  | a :: g, h => by
    obtain ⟨h1, h2⟩ := List.pairwise_cons.mp h
    unfold grs
    rw [List.mem_append, grs_mem h2, List.mem_map]
    constructor
    · rintro (⟨b, hb, rfl⟩ | ⟨k1, k2, k3⟩)
      · exact ⟨List.mem_cons_self, List.mem_cons_of_mem _ hb, h1 b hb⟩
      · exact ⟨List.mem_cons_of_mem _ k1, List.mem_cons_of_mem _ k2, k3⟩
    · rintro ⟨k1, k2, k3⟩
      rcases List.mem_cons.mp k1 with e | k1
      · rcases List.mem_cons.mp k2 with e2 | k2
        · omega
        · exact .inl ⟨z.2, k2, by rw [← e]⟩
      · rcases List.mem_cons.mp k2 with e2 | k2
        · have := h1 _ k1
          omega
        · exact .inr ⟨k1, k2, k3⟩
theorem grs_in {z : Int × Int} : ∀ {g : List Int}, z ∈ grs g → z.1 ∈ g ∧ z.2 ∈ g
  | [], h => by simp [grs] at h
  | a :: g, h => by
    unfold grs at h
    rcases List.mem_append.mp h with h | h
    · obtain ⟨b, hb, rfl⟩ := List.mem_map.mp h
      exact ⟨List.mem_cons_self, List.mem_cons_of_mem _ hb⟩
    · exact ⟨List.mem_cons_of_mem _ (grs_in h).1, List.mem_cons_of_mem _ (grs_in h).2⟩
theorem grs_nodup : ∀ {g : List Int}, g.Pairwise (· < ·) → (grs g).Nodup
  | [], _ => by simp [grs]
  | a :: g, h => by
    obtain ⟨h1, h2⟩ := List.pairwise_cons.mp h
    unfold grs
    rw [List.nodup_append]
    refine ⟨?_, grs_nodup h2, ?_⟩
    · rw [List.nodup_iff_pairwise_ne, List.pairwise_map]
      exact h2.imp fun {x y} hxy e => by injection e; omega
    · intro x hx y hy e
      obtain ⟨b, hb, rfl⟩ := List.mem_map.mp hx
      have := (grs_in hy).1
      rw [← e] at this
      have := h1 _ this
      omega
def deg (p : Int) (gs : List (List Int)) : Nat := gs.countP fun g => decide (p ∈ g)
theorem deg_cons (p : Int) (g : List Int) (gs : List (List Int)) : deg p (g :: gs) = (if p ∈ g then 1 else 0) + deg p gs := by
  unfold deg
  rw [List.countP_cons]
  by_cases h : p ∈ g
  · simp [h]; omega
  · simp [h]
theorem deg_perm {p : Int} {gs hs : List (List Int)} (h : gs.Perm hs) : deg p gs = deg p hs := h.countP_eq _
structure Cov (n : Int) (left : List (Int × Int)) (cnt : Int → Int) (gs : List (List Int)) : Prop where
  ris : ∀ g ∈ gs, g.Pairwise (· < ·)
  two : ∀ g ∈ gs, 2 ≤ g.length
  rng : ∀ g ∈ gs, ∀ p ∈ g, InR n p
  tie : (gs.flatMap grs).Perm left
  cnt : ∀ p, InR n p → cnt p + (deg p gs : Int) ≤ 2
theorem flat_perm {gs hs : List (List Int)} (h : gs.Perm hs) : (gs.flatMap grs).Perm (hs.flatMap grs) := h.flatMap_right grs
theorem Cov.perm {n : Int} {left : List (Int × Int)} {cnt : Int → Int} {gs hs : List (List Int)} (c : Cov n left cnt gs) (h : hs.Perm gs) : Cov n left cnt hs where
  ris g hg := c.ris g (h.mem_iff.mp hg)
  two g hg := c.two g (h.mem_iff.mp hg)
  rng g hg := c.rng g (h.mem_iff.mp hg)
  tie := (flat_perm h).trans c.tie
  cnt p hp := by rw [deg_perm h]; exact c.cnt p hp
structure Lft (n : Int) (left : List (Int × Int)) : Prop where
  nd : left.Nodup
  ok : ∀ t ∈ left, 0 ≤ t.1 ∧ t.1 < t.2 ∧ t.2 < n
theorem Lft.filter {n : Int} {left : List (Int × Int)} (h : Lft n left) (p : Int × Int → Bool) : Lft n (left.filter p) := ⟨h.nd.sublist List.filter_sublist, fun t ht => h.ok t (List.mem_filter.mp ht).1⟩
def Full (left : List (Int × Int)) (g : List Int) : Prop := ∀ x ∈ g, ∀ y ∈ g, x < y → (x, y) ∈ left
def both (g : List Int) (t : Int × Int) : Bool := decide (t.1 ∈ g) && decide (t.2 ∈ g)
theorem filter_split {α : Type} (p : α → Bool) : ∀ l : List α, (l.filter p ++ l.filter fun x => !p x).Perm l
  | [] => .refl _
  | x :: l => by
    by_cases h : p x = true
    · rw [List.filter_cons_of_pos h, List.filter_cons_of_neg (by simp [h])]
      exact (filter_split p l).cons x
    · rw [List.filter_cons_of_neg h, List.filter_cons_of_pos (by simp [h])]
      exact List.perm_middle.trans ((filter_split p l).cons x)
theorem grs_left {n : Int} {left : List (Int × Int)} {g : List Int} (hl : Lft n left) (hr : g.Pairwise (· < ·)) (hf : Full left g) : (grs g ++ left.filter fun t => !both g t).Perm left := by
  refine List.Perm.trans (List.Perm.append_right _ ?_) (filter_split (both g) left)
  refine (List.perm_ext_iff_of_nodup (grs_nodup hr) (hl.nd.sublist List.filter_sublist)).mpr fun z => ?_
  rw [grs_mem hr, List.mem_filter]
  unfold both
  simp only [Bool.and_eq_true, decide_eq_true_eq]
  constructor
  · rintro ⟨h1, h2, h3⟩
    exact ⟨hf _ h1 _ h2 h3, h1, h2⟩
  · rintro ⟨h0, h1, h2⟩
    exact ⟨h1, h2, (hl.ok z h0).2.1⟩
theorem Cov.full {n : Int} {left : List (Int × Int)} {cnt : Int → Int} {gs : List (List Int)} (c : Cov n left cnt gs) {g : List Int} (hg : g ∈ gs) : Full left g := fun x hx y hy h => c.tie.mem_iff.mp (List.mem_flatMap.mpr ⟨g, hg, (grs_mem (c.ris g hg)).mpr ⟨hx, hy, h⟩⟩)
theorem Cov.more {n : Int} {left : List (Int × Int)} {cnt : Int → Int} {gs : List (List Int)} {g : List Int} (hl : Lft n left) (hr : g.Pairwise (· < ·)) (h2 : 2 ≤ g.length) (hg : ∀ p ∈ g, InR n p) (hf : Full left g)
    (c : Cov n (left.filter fun t => !both g t) (fun p => cnt p + if p ∈ g then 1 else 0) gs) : Cov n left cnt (g :: gs) where
  ris x hx := by
    rcases List.mem_cons.mp hx with rfl | hx
    · exact hr
    · exact c.ris x hx
  two x hx := by
    rcases List.mem_cons.mp hx with rfl | hx
    · exact h2
    · exact c.two x hx
  rng x hx := by
    rcases List.mem_cons.mp hx with rfl | hx
    · exact hg
    · exact c.rng x hx
  tie := by
    rw [List.flatMap_cons]
    exact (List.Perm.append_left _ c.tie).trans (grs_left hl hr hf)
  cnt p hp := by
    have := c.cnt p hp
    rw [deg_cons]
    by_cases h : p ∈ g
    · simp only [h, if_true] at this ⊢
      omega
    · simp only [h, if_false] at this ⊢
      omega
end TY

set_option Elab.async false
set_option linter.all false
set_option maxRecDepth 100000
set_option maxHeartbeats 4000000
namespace TY
open TW PySem PySem.Spec PyProof.Rows L2
end TY

set_option Elab.async false
set_option linter.all false
set_option maxRecDepth 100000
set_option maxHeartbeats 4000000
namespace TY
open TW PySem PySem.Spec PyProof.Rows L2
end TY

set_option Elab.async false
set_option linter.all false
set_option maxRecDepth 100000
set_option maxHeartbeats 4000000
namespace TY
open TW PySem PySem.Spec PyProof.Rows L2
theorem first_mem {left : List (Int × Int)} (h : left ≠ []) : gI left 0 ∈ left := gI_mem ⟨by omega, by have := List.length_pos_iff.mpr h; omega⟩
theorem Cov.len {n : Int} {left : List (Int × Int)} {cnt : Int → Int} {gs : List (List Int)} (cv : Cov n left cnt gs) : gs.length ≤ left.length := by
  rw [← cv.tie.length_eq]
  have h := cv.two
  clear cv
  induction gs with
  | nil => simp
  | cons g gs ih =>
    rw [List.flatMap_cons, List.length_append, List.length_cons]
    have h1 := ih fun x hx => h x (List.mem_cons_of_mem _ hx)
    have h2 := h g List.mem_cons_self
    have : 0 < (grs g).length := by
      match g, h2 with
      | a :: b :: r, _ => simp [grs]
    omega
theorem web_lft {n : Int} {ts : List (Int × Int)} (w : Web n ts) : Lft n ts := ⟨w.ris.imp fun {a b} h e => by rw [e] at h; exact ltP2_irr _ h, w.ok⟩
end TY

set_option Elab.async false
set_option linter.all false
set_option maxRecDepth 100000
set_option maxHeartbeats 4000000
namespace TY
open TW PySem PySem.Spec PyProof.Rows L2
end TY

set_option Elab.async false
set_option linter.all false
set_option maxRecDepth 100000
set_option maxHeartbeats 4000000
namespace TY
open TW PySem PySem.Spec PyProof.Rows L2
end TY

set_option Elab.async false
set_option linter.all false
set_option maxRecDepth 100000
set_option maxHeartbeats 4000000
namespace TY
open TW PySem PySem.Spec PyProof.Rows L2
end TY

set_option Elab.async false
set_option linter.all false
set_option maxRecDepth 100000
set_option maxHeartbeats 4000000
namespace TY
open TW PySem PySem.Spec PyProof.Rows L2
end TY

set_option Elab.async false
set_option linter.all false
set_option maxRecDepth 100000
set_option maxHeartbeats 4000000
namespace TY
open TW PySem PySem.Spec PyProof.Rows L2
end TY

set_option Elab.async false
set_option linter.all false
set_option maxRecDepth 100000
set_option maxHeartbeats 4000000
namespace TY
open TW PySem PySem.Spec PyProof.Rows L2
section
variable {α σ τ ρ : Type} {F : Tb} {Γ : Dn} {m m1 : Md} {a : E} {ss : List S} {as : List E} {ps : List (Md × D)}
end
theorem Fn.le {F : Tb} {f : Nat} {ds : List D} {m n : Md} {d : D} (h : Fn F f ds m d) (k : Md.le n m = true) : Fn F f ds n d := by
  obtain ⟨a, h1, h2⟩ := h
  exact ⟨a, h1, by cases n <;> cases m <;> cases a <;> first | rfl | exact h2 | exact k⟩
instance : Inhabited (List (List Int) ⊕ List Int) := ⟨.inl []⟩
end TY

set_option Elab.async false
set_option linter.all false
set_option maxRecDepth 100000
set_option maxHeartbeats 4000000
namespace TY
open TW PySem PySem.Spec PyProof.Rows L2
end TY

set_option Elab.async false
set_option linter.all false
set_option maxRecDepth 100000
set_option maxHeartbeats 4000000
namespace TY
open TW PySem PySem.Spec PyProof.Rows L2
theorem idx_at {s : List Int} {x : Int} (h : x ∈ s) : s[s.idxOf x]? = some x := by
  rw [List.getElem?_eq_getElem (List.idxOf_lt_length_of_mem h), List.getElem_idxOf]
end TY

set_option Elab.async false
set_option linter.all false
set_option maxRecDepth 100000
set_option maxHeartbeats 4000000
namespace TY
open TW PySem PySem.Spec PyProof.Rows L2
section
variable {a b : Wb} (ha : Web a.1 a.2) (hb : Web b.1 b.2)
include ha hb
end
end TY

set_option Elab.async false
set_option linter.all false
set_option maxRecDepth 100000
set_option maxHeartbeats 4000000
namespace TY
open TW PySem PySem.Spec PyProof.Rows L2
end TY

set_option Elab.async false
set_option linter.all false
set_option maxRecDepth 100000
set_option maxHeartbeats 4000000
namespace TY
open TW PySem PySem.Spec PyProof.Rows L2
def dnI (f : Nat → Int) : Nat → Int
  | 0 => 0
  | k + 1 => f k
def pm : List Int → (Nat → Int) → Nat → Int
  | [], _, _ => 0
  | x :: a, f, k => x * f k + dnI (pm a f) k
section
variable {a b : Wb} (ha : Web a.1 a.2) (hb : Web b.1 b.2)
include ha hb
end
end TY

set_option Elab.async false
set_option linter.all false
set_option maxRecDepth 100000
set_option maxHeartbeats 4000000
namespace TY
open TW PySem PySem.Spec PyProof.Rows L2
def v_meets_all (web_ : Int × (List (Int × Int))) (places_ : List (Int)) : Bool := ((web_.2.map fun (it2 : Int × Int) => ((decide (it2.1 ∈ places_)) || (decide (it2.2 ∈ places_)))).all id)
theorem r_meets_all (k : Nat) (hk : 1 ≤ k) (web_ : Int × (List (Int × Int))) (places_ : List (Int)) : Fn (run GP k) 84 [eW web_, (eL D.int) places_] .dp (D.bl (v_meets_all web_ places_)) := by
  obtain ⟨k, rfl⟩ : ∃ j, k = j + 1 := ⟨k - 1, by omega⟩
  exact fn_retR (Fu := fu_meets_all) (e := D.bl) (v := v_meets_all web_ places_) rfl rfl (show Blk _ _ [some (.sh, eW web_), some (.sh, (eL D.int) places_), none, none] (rtF _ _ (((web_.2.map fun (it2 : Int × Int) => ((decide (it2.1 ∈ places_)) || (decide (it2.2 ∈ places_)))).all id))) from (blk_retR (evr_of (ev_all (ev_compC0 (e2 D.int D.int) D.bl web_.2 (fun (it2 : Int × Int) => ((decide (it2.1 ∈ places_)) || (decide (it2.2 ∈ places_)))) (fun _ => (cl_lf lf_bl)) (es_list (ev_tat (ev_var rfl) rfl)) (fun it2 hq5 => ⟨_, rfl, (ev_or (ev_cmp (ev_var rfl) (ev_var rfl) (cm_in (e := D.int) dt_int (by decide) it2.1 places_)) (fun hq8 => (ev_cmp (ev_var rfl) (ev_var rfl) (cm_in (e := D.int) dt_int (by decide) it2.2 places_))))⟩))))))
end TY

set_option Elab.async false
set_option linter.all false
set_option maxRecDepth 100000
set_option maxHeartbeats 4000000
namespace TY
open TW PySem PySem.Spec PyProof.Rows L2
def v_chosen (web_ : Int × (List (Int × Int))) (number_ : Int) : List (Int × Int) := (((en web_.2).filter fun (it2 : Int × (Int × Int)) => (decide ((Builtin.bitAnd (number_ / 2 ^ it2.1.toNat) (1 : Int)) = (1 : Int)))).map fun (it2 : Int × (Int × Int)) => it2.2)
def ok_chosen (web_ : Int × (List (Int × Int))) (number_ : Int) : Prop := ∀ it2 ∈ (en web_.2), 0 ≤ it2.1
theorem r_chosen (k : Nat) (hk : 1 ≤ k) (web_ : Int × (List (Int × Int))) (number_ : Int) (h : ok_chosen web_ number_) : Fn (run GP k) 85 [eW web_, D.int number_] .dp ((eL (e2 D.int D.int)) (v_chosen web_ number_)) := by
  obtain ⟨k, rfl⟩ : ∃ j, k = j + 1 := ⟨k - 1, by omega⟩
  exact fn_retR (Fu := fu_chosen) (e := (eL (e2 D.int D.int))) (v := v_chosen web_ number_) rfl rfl (show Blk _ _ [some (.sh, eW web_), some (.sh, D.int number_), none, none] (rtF _ _ ((((en web_.2).filter fun (it2 : Int × (Int × Int)) => (decide ((Builtin.bitAnd (number_ / 2 ^ it2.1.toNat) (1 : Int)) = (1 : Int)))).map fun (it2 : Int × (Int × Int)) => it2.2))) from (blk_retR (evr_of (ev_compC (e2 D.int (e2 D.int D.int)) (e2 D.int D.int) (en web_.2) (fun (it2 : Int × (Int × Int)) => (decide ((Builtin.bitAnd (number_ / 2 ^ it2.1.toNat) (1 : Int)) = (1 : Int)))) (fun (it2 : Int × (Int × Int)) => it2.2) (fun _ => (cl_lf (lf_2 lf_int lf_int))) (es_enu (ev_tat (ev_var rfl) rfl)) (fun it2 hq4 => ⟨_, rfl, (evc_one (ev_cmp (ev_band (ev_shr (ev_var rfl) (ev_var rfl) (h it2 hq4)) (ev_int _)) (ev_int _) (cm_eq (e := D.int) dt_int (by decide) (Builtin.bitAnd (number_ / 2 ^ it2.1.toNat) (1 : Int)) (1 : Int)))), fun hq6 => (ev_var rfl)⟩)))))
end TY

set_option Elab.async false
set_option linter.all false
set_option maxRecDepth 100000
set_option maxHeartbeats 4000000
namespace TY
open TW PySem PySem.Spec PyProof.Rows L2
def v_places_of (ties_ : List (Int × Int)) : List (Int) := lett ([] : List (Int)) fun (found7 : List (Int)) => lett (ties_.foldl (fun (s8 : (List (Int))) (x9 : Int × Int) => lett (s8 ++ ((([x9.1, x9.2]).filter fun (place10 : Int) => (!decide (place10 ∈ s8))).map fun (place10 : Int) => place10)) fun (found11 : List (Int)) => found11) found7) fun (st12 : (List (Int))) => (isortB ltZ st12)
def ok_places_of (ties_ : List (Int × Int)) : Prop := lett ([] : List (Int)) fun (found7 : List (Int)) => okFold (fun (s8 : (List (Int))) (x9 : Int × Int) => CatOk s8 ((([x9.1, x9.2]).filter fun (place10 : Int) => (!decide (place10 ∈ s8))).map fun (place10 : Int) => place10)) (fun (s8 : (List (Int))) (x9 : Int × Int) => lett (s8 ++ ((([x9.1, x9.2]).filter fun (place10 : Int) => (!decide (place10 ∈ s8))).map fun (place10 : Int) => place10)) fun (found11 : List (Int)) => found11) ties_ found7
theorem r_places_of (k : Nat) (hk : 1 ≤ k) (ties_ : List (Int × Int)) (h : ok_places_of ties_) : Fn (run GP k) 87 [(eL (e2 D.int D.int)) ties_] .dp ((eL D.int) (v_places_of ties_)) := by
  obtain ⟨k, rfl⟩ : ∃ j, k = j + 1 := ⟨k - 1, by omega⟩
  exact fn_retR (Fu := fu_places_of) (e := (eL D.int)) (v := v_places_of ties_) rfl rfl (show Blk _ _ [some (.sh, (eL (e2 D.int D.int)) ties_), none, none, none, none] (rtF _ _ (lett ([] : List (Int)) fun (found7 : List (Int)) => lett (ties_.foldl (fun (s8 : (List (Int))) (x9 : Int × Int) => lett (s8 ++ ((([x9.1, x9.2]).filter fun (place10 : Int) => (!decide (place10 ∈ s8))).map fun (place10 : Int) => place10)) fun (found11 : List (Int)) => found11) found7) fun (st12 : (List (Int))) => (isortB ltZ st12))) from (blk_asgC (e := (eL D.int)) (ev_lstC evs_nil cls_nil) (fun _ => cl_dp) (Γ1 := fun found7 => [some (.sh, (eL (e2 D.int D.int)) ties_), some (.dp, (eL D.int) found7), none, none, none]) (fun found7 => ⟨⟨rfl, rfl⟩, ⟨rfl, rfl⟩, trivial, trivial, trivial, trivial⟩) (fun found7 h => (blk_thenN (env := (fun (st12 : (List (Int))) => [some (.sh, (eL (e2 D.int D.int)) ties_), some (.dp, (eL D.int) st12), none, none, none])) (OK := fun _ => True) (blk_forF (OK := fun (s8 : (List (Int))) (x9 : Int × Int) => CatOk s8 ((([x9.1, x9.2]).filter fun (place10 : Int) => (!decide (place10 ∈ s8))).map fun (place10 : Int) => place10)) (env := (fun (s8 : (List (Int))) => [some (.sh, (eL (e2 D.int D.int)) ties_), some (.dp, (eL D.int) s8), none, none, none])) (ei := (e2 D.int D.int)) (es_list (ev_var rfl)) ⟨⟨rfl, rfl⟩, ⟨rfl, rfl⟩, trivial, trivial, trivial, trivial⟩ (fun s8 x9 h => ⟨_, rfl, (blk_mutD (e := (eL D.int)) (OK := fun _ => True) rfl evp_nil (evs_cons (ev_compC D.int D.int ([x9.1, x9.2]) (fun (place10 : Int) => (!decide (place10 ∈ s8))) (fun (place10 : Int) => place10) (fun _ => (cl_lf lf_int)) (es_tup (ev_tupC (evs_cons (ev_var rfl) (evs_cons (ev_var rfl) evs_nil)) (cls_cons (cl_lf lf_int) (cls_cons (cl_lf lf_int) cls_nil)))) (fun place10 hq4 => ⟨_, rfl, (evc_one (ev_cmp (ev_var rfl) (ev_var rfl) (cm_nin (e := D.int) dt_int (by decide) place10 s8))), fun hq6 => (ev_var rfl)⟩)) evs_nil) (cls_cons cl_dp cls_nil) (chg_nil (mo_extend (e := D.int) (ys := ((([x9.1, x9.2]).filter fun (place10 : Int) => (!decide (place10 ∈ s8))).map fun (place10 : Int) => place10)) h)) (Γ1 := fun found11 => [some (.sh, (eL (e2 D.int D.int)) ties_), some (.dp, (eL D.int) found11), some (.sh, D.int x9.1), some (.sh, D.int x9.2), none]) (fun found11 => ⟨⟨rfl, rfl⟩, ⟨rfl, rfl⟩, ⟨rfl, rfl⟩, ⟨rfl, rfl⟩, trivial, trivial⟩) (fun found11 h => (blk_nilF ⟨⟨rfl, rfl⟩, ⟨rfl, rfl⟩, trivial, trivial, trivial, trivial⟩)) trivial)⟩) h) (fun st12 h => (blk_retR (evr_of (ev_sortZ (ev_var rfl))))) trivial)) h))
end TY

set_option Elab.async false
set_option linter.all false
set_option maxRecDepth 100000
set_option maxHeartbeats 4000000
namespace TY
open TW PySem PySem.Spec PyProof.Rows L2
def v_round_from (left_ : List (Int × Int)) (place_ : Int) : List (Int) := lett2 ([place_]) left_ fun (found12 : List (Int)) (rest13 : List (Int × Int)) => lett ((rest13.filter fun (tie14 : Int × Int) => (decide (place_ = tie14.1) || decide (place_ = tie14.2))).map fun (tie14 : Int × Int) => tie14) fun (some15 : List (Int × Int)) => lett (whlV (fun (s16 : Int × (List (Int × Int)) × (List (Int)) × (List (Int × Int))) => (!decide (s16.2.1 = ([] : List (Int × Int))))) (fun (s16 : Int × (List (Int × Int)) × (List (Int)) × (List (Int × Int))) => lett (s16.2.2.2.erase (gI s16.2.1 (0 : Int))) fun (rest17 : List (Int × Int)) => lett (((gI s16.2.1 (0 : Int)).1 + (gI s16.2.1 (0 : Int)).2) - s16.1) fun (place18 : Int) => lett (s16.2.2.1 ++ [place18]) fun (found19 : List (Int)) => lett ((rest17.filter fun (tie20 : Int × Int) => (decide (place18 = tie20.1) || decide (place18 = tie20.2))).map fun (tie20 : Int × Int) => tie20) fun (some21 : List (Int × Int)) => (place18, some21, found19, rest17)) 300 (place_, some15, found12, rest13)) fun (st22 : Int × (List (Int × Int)) × (List (Int)) × (List (Int × Int))) => st22.2.2.1
def ok_round_from (left_ : List (Int × Int)) (place_ : Int) : Prop := lett2 ([place_]) left_ fun (found12 : List (Int)) (rest13 : List (Int × Int)) => lett ((rest13.filter fun (tie14 : Int × Int) => (decide (place_ = tie14.1) || decide (place_ = tie14.2))).map fun (tie14 : Int × Int) => tie14) fun (some15 : List (Int × Int)) => okWhl (fun (s16 : Int × (List (Int × Int)) × (List (Int)) × (List (Int × Int))) => (!decide (s16.2.1 = ([] : List (Int × Int))))) (fun (s16 : Int × (List (Int × Int)) × (List (Int)) × (List (Int × Int))) => lett (s16.2.2.2.erase (gI s16.2.1 (0 : Int))) fun (rest17 : List (Int × Int)) => lett (((gI s16.2.1 (0 : Int)).1 + (gI s16.2.1 (0 : Int)).2) - s16.1) fun (place18 : Int) => lett (s16.2.2.1 ++ [place18]) fun (found19 : List (Int)) => lett ((rest17.filter fun (tie20 : Int × Int) => (decide (place18 = tie20.1) || decide (place18 = tie20.2))).map fun (tie20 : Int × Int) => tie20) fun (some21 : List (Int × Int)) => (place18, some21, found19, rest17)) (fun (s16 : Int × (List (Int × Int)) × (List (Int)) × (List (Int × Int))) => True) (fun (s16 : Int × (List (Int × Int)) × (List (Int)) × (List (Int × Int))) => (IxOk s16.2.1 (0 : Int)) ∧ ((gI s16.2.1 (0 : Int)) ∈ s16.2.2.2) ∧ (lett (s16.2.2.2.erase (gI s16.2.1 (0 : Int))) fun (rest17 : List (Int × Int)) => ((IxOk s16.2.1 (0 : Int)) ∧ (IxOk s16.2.1 (0 : Int))) ∧ (lett (((gI s16.2.1 (0 : Int)).1 + (gI s16.2.1 (0 : Int)).2) - s16.1) fun (place18 : Int) => s16.2.2.1.length < 1000000))) 300 (place_, some15, found12, rest13)
theorem r_round_from (k : Nat) (hk : 1 ≤ k) (left_ : List (Int × Int)) (place_ : Int) (h : ok_round_from left_ place_) : Fn (run GP k) 89 [(eL (e2 D.int D.int)) left_, D.int place_] .dp ((eL D.int) (v_round_from left_ place_)) := by
  obtain ⟨k, rfl⟩ : ∃ j, k = j + 1 := ⟨k - 1, by omega⟩
  exact fn_retR (Fu := fu_round_from) (e := (eL D.int)) (v := v_round_from left_ place_) rfl rfl (show Blk _ _ [some (.sh, (eL (e2 D.int D.int)) left_), some (.sh, D.int place_), none, none, none, none] (rtF _ _ (lett2 ([place_]) left_ fun (found12 : List (Int)) (rest13 : List (Int × Int)) => lett ((rest13.filter fun (tie14 : Int × Int) => (decide (place_ = tie14.1) || decide (place_ = tie14.2))).map fun (tie14 : Int × Int) => tie14) fun (some15 : List (Int × Int)) => lett (whlV (fun (s16 : Int × (List (Int × Int)) × (List (Int)) × (List (Int × Int))) => (!decide (s16.2.1 = ([] : List (Int × Int))))) (fun (s16 : Int × (List (Int × Int)) × (List (Int)) × (List (Int × Int))) => lett (s16.2.2.2.erase (gI s16.2.1 (0 : Int))) fun (rest17 : List (Int × Int)) => lett (((gI s16.2.1 (0 : Int)).1 + (gI s16.2.1 (0 : Int)).2) - s16.1) fun (place18 : Int) => lett (s16.2.2.1 ++ [place18]) fun (found19 : List (Int)) => lett ((rest17.filter fun (tie20 : Int × Int) => (decide (place18 = tie20.1) || decide (place18 = tie20.2))).map fun (tie20 : Int × Int) => tie20) fun (some21 : List (Int × Int)) => (place18, some21, found19, rest17)) 300 (place_, some15, found12, rest13)) fun (st22 : Int × (List (Int × Int)) × (List (Int)) × (List (Int × Int))) => st22.2.2.1)) from (blk_par2C (e1 := (eL D.int)) (e2 := (eL (e2 D.int D.int))) (evs_cons (ev_lstC (evs_cons (ev_var rfl) evs_nil) (cls_cons (cl_lf lf_int) cls_nil)) (evs_cons (ev_list (ev_var rfl)) evs_nil)) (fun _ _ => (cls_cons cl_dp (cls_cons (cl_fl (lf_2 lf_int lf_int)) cls_nil))) (Γ1 := fun found12 rest13 => [some (.sh, (eL (e2 D.int D.int)) left_), some (.sh, D.int place_), none, some (.dp, (eL D.int) found12), some (.fl, (eL (e2 D.int D.int)) rest13), none]) (fun found12 rest13 => ⟨⟨rfl, rfl⟩, ⟨rfl, rfl⟩, trivial, ⟨rfl, rfl⟩, ⟨rfl, rfl⟩, trivial, trivial⟩) (fun found12 rest13 h => (blk_asgC (e := (eL (e2 D.int D.int))) (ev_compC (e2 D.int D.int) (e2 D.int D.int) rest13 (fun (tie14 : Int × Int) => (decide (place_ = tie14.1) || decide (place_ = tie14.2))) (fun (tie14 : Int × Int) => tie14) (fun _ => (cl_lf (lf_2 lf_int lf_int))) (es_list (ev_var rfl)) (fun tie14 hq7 => ⟨_, rfl, (evc_one (ev_cmp (ev_var rfl) (ev_var rfl) (cm_in2 _ _ _))), fun hq9 => (ev_var rfl)⟩)) (fun _ => cl_dp) (Γ1 := fun some15 => [some (.sh, (eL (e2 D.int D.int)) left_), some (.sh, D.int place_), some (.dp, (eL (e2 D.int D.int)) some15), some (.dp, (eL D.int) found12), some (.fl, (eL (e2 D.int D.int)) rest13), none]) (fun some15 => ⟨⟨rfl, rfl⟩, ⟨rfl, rfl⟩, ⟨rfl, rfl⟩, ⟨rfl, rfl⟩, ⟨rfl, rfl⟩, trivial, trivial⟩) (fun some15 h => (blk_thenN (env := (fun (st22 : Int × (List (Int × Int)) × (List (Int)) × (List (Int × Int))) => [some (.sh, (eL (e2 D.int D.int)) left_), some (.sh, D.int st22.1), some (.dp, (eL (e2 D.int D.int)) st22.2.1), some (.dp, (eL D.int) st22.2.2.1), some (.fl, (eL (e2 D.int D.int)) st22.2.2.2), none])) (OK := fun _ => True) (blk_whl (okc := (fun (s16 : Int × (List (Int × Int)) × (List (Int)) × (List (Int × Int))) => True)) (okb := (fun (s16 : Int × (List (Int × Int)) × (List (Int)) × (List (Int × Int))) => (IxOk s16.2.1 (0 : Int)) ∧ ((gI s16.2.1 (0 : Int)) ∈ s16.2.2.2) ∧ (lett (s16.2.2.2.erase (gI s16.2.1 (0 : Int))) fun (rest17 : List (Int × Int)) => ((IxOk s16.2.1 (0 : Int)) ∧ (IxOk s16.2.1 (0 : Int))) ∧ (lett (((gI s16.2.1 (0 : Int)).1 + (gI s16.2.1 (0 : Int)).2) - s16.1) fun (place18 : Int) => s16.2.2.1.length < 1000000)))) (env := (fun (s16 : Int × (List (Int × Int)) × (List (Int)) × (List (Int × Int))) => [some (.sh, (eL (e2 D.int D.int)) left_), some (.sh, D.int s16.1), some (.dp, (eL (e2 D.int D.int)) s16.2.1), some (.dp, (eL D.int) s16.2.2.1), some (.fl, (eL (e2 D.int D.int)) s16.2.2.2), none])) ⟨⟨rfl, rfl⟩, ⟨rfl, rfl⟩, ⟨rfl, rfl⟩, ⟨rfl, rfl⟩, ⟨rfl, rfl⟩, trivial, trivial⟩ (fun s16 h => (ev_cmp (ev_var rfl) (ev_lstC evs_nil cls_nil) (cm_ne (e := (eL (e2 D.int D.int))) (dt_L (dt_2 dt_int dt_int)) (by decide) s16.2.1 ([] : List (Int × Int))))) (fun s16 h ht => (blk_mutFC (e := (e2 D.int D.int)) rfl rfl (evs_cons (ev_at (e := (e2 D.int D.int)) (xs := s16.2.1) (ev_var rfl) (ev_int _) h.1) evs_nil) (mo_remove (e := (e2 D.int D.int)) (dt_2 dt_int dt_int) (by decide) (v := (gI s16.2.1 (0 : Int))) h.2.1) (cls_cons (cl_lf (lf_2 lf_int lf_int)) cls_nil) (Γ1 := fun rest17 => [some (.sh, (eL (e2 D.int D.int)) left_), some (.sh, D.int s16.1), some (.dp, (eL (e2 D.int D.int)) s16.2.1), some (.dp, (eL D.int) s16.2.2.1), some (.fl, (eL (e2 D.int D.int)) rest17), none]) (fun rest17 => ⟨⟨rfl, rfl⟩, ⟨rfl, rfl⟩, ⟨rfl, rfl⟩, ⟨rfl, rfl⟩, ⟨rfl, rfl⟩, trivial, trivial⟩) (fun rest17 h => (blk_asgC (e := D.int) (ev_sub (ev_add (ev_tat (ev_at (e := (e2 D.int D.int)) (xs := s16.2.1) (ev_var rfl) (ev_int _) h.1.1) rfl) (ev_tat (ev_at (e := (e2 D.int D.int)) (xs := s16.2.1) (ev_var rfl) (ev_int _) h.1.2) rfl)) (ev_var rfl)) (fun _ => cl_dp) (Γ1 := fun place18 => [some (.sh, (eL (e2 D.int D.int)) left_), some (.sh, D.int place18), some (.dp, (eL (e2 D.int D.int)) s16.2.1), some (.dp, (eL D.int) s16.2.2.1), some (.fl, (eL (e2 D.int D.int)) rest17), none]) (fun place18 => ⟨⟨rfl, rfl⟩, ⟨rfl, rfl⟩, ⟨rfl, rfl⟩, ⟨rfl, rfl⟩, ⟨rfl, rfl⟩, trivial, trivial⟩) (fun place18 h => (blk_mutD (e := (eL D.int)) (OK := fun _ => True) rfl evp_nil (evs_cons (ev_var rfl) evs_nil) (cls_cons (cl_lf lf_int) cls_nil) (chg_nil (mo_append (e := D.int) (v := place18) h)) (Γ1 := fun found19 => [some (.sh, (eL (e2 D.int D.int)) left_), some (.sh, D.int place18), some (.dp, (eL (e2 D.int D.int)) s16.2.1), some (.dp, (eL D.int) found19), some (.fl, (eL (e2 D.int D.int)) rest17), none]) (fun found19 => ⟨⟨rfl, rfl⟩, ⟨rfl, rfl⟩, ⟨rfl, rfl⟩, ⟨rfl, rfl⟩, ⟨rfl, rfl⟩, trivial, trivial⟩) (fun found19 h => (blk_asgC (e := (eL (e2 D.int D.int))) (OK := fun _ => True) (ev_compC (e2 D.int D.int) (e2 D.int D.int) rest17 (fun (tie20 : Int × Int) => (decide (place18 = tie20.1) || decide (place18 = tie20.2))) (fun (tie20 : Int × Int) => tie20) (fun _ => (cl_lf (lf_2 lf_int lf_int))) (es_list (ev_var rfl)) (fun tie20 hq10 => ⟨_, rfl, (evc_one (ev_cmp (ev_var rfl) (ev_var rfl) (cm_in2 _ _ _))), fun hq12 => (ev_var rfl)⟩)) (fun _ => cl_dp) (Γ1 := fun some21 => [some (.sh, (eL (e2 D.int D.int)) left_), some (.sh, D.int place18), some (.dp, (eL (e2 D.int D.int)) some21), some (.dp, (eL D.int) found19), some (.fl, (eL (e2 D.int D.int)) rest17), none]) (fun some21 => ⟨⟨rfl, rfl⟩, ⟨rfl, rfl⟩, ⟨rfl, rfl⟩, ⟨rfl, rfl⟩, ⟨rfl, rfl⟩, trivial, trivial⟩) (fun some21 h => (blk_nilF ⟨⟨rfl, rfl⟩, ⟨rfl, rfl⟩, ⟨rfl, rfl⟩, ⟨rfl, rfl⟩, ⟨rfl, rfl⟩, trivial, trivial⟩)) trivial)) trivial)) h.2)) h.2.2)) h) (fun st22 h => (blk_retR (evr_var rfl))) trivial)) h)) h))
end TY

set_option Elab.async false
set_option linter.all false
set_option maxRecDepth 100000
set_option maxHeartbeats 4000000
namespace TY
open TW PySem PySem.Spec PyProof.Rows L2
def v_ties_of (way_ : List (Int)) : List (Int × Int) := ((way_.zip (cutL way_ (some (1 : Int)) none)).map fun (it2 : Int × Int) => ((min it2.1 it2.2), (max it2.1 it2.2)))
theorem r_ties_of (k : Nat) (hk : 1 ≤ k) (way_ : List (Int)) : Fn (run GP k) 88 [(eL D.int) way_] .dp ((eL (e2 D.int D.int)) (v_ties_of way_)) := by
  obtain ⟨k, rfl⟩ : ∃ j, k = j + 1 := ⟨k - 1, by omega⟩
  exact fn_retR (Fu := fu_ties_of) (e := (eL (e2 D.int D.int))) (v := v_ties_of way_) rfl rfl (show Blk _ _ [some (.sh, (eL D.int) way_), none, none] (rtF _ _ (((way_.zip (cutL way_ (some (1 : Int)) none)).map fun (it2 : Int × Int) => ((min it2.1 it2.2), (max it2.1 it2.2))))) from (blk_retR (evr_of (ev_compC0 (e2 D.int D.int) (e2 D.int D.int) (way_.zip (cutL way_ (some (1 : Int)) none)) (fun (it2 : Int × Int) => ((min it2.1 it2.2), (max it2.1 it2.2))) (fun _ => cl_dp) (es_zip (ev_var rfl) (ev_slc (ev_var rfl) (ev_int _) ev_non rfl rfl)) (fun it2 hq4 => ⟨_, rfl, (ev_tupC (evs_cons (ev_min2 (ev_var rfl) (ev_var rfl)) (evs_cons (ev_max2 (ev_var rfl) (ev_var rfl)) evs_nil)) (cls_cons cl_dp (cls_cons cl_dp cls_nil)))⟩)))))
end TY

set_option Elab.async false
set_option linter.all false
set_option maxRecDepth 100000
set_option maxHeartbeats 4000000
namespace TY
open TW PySem PySem.Spec PyProof.Rows L2
def v_gone_round (ties_ : List (Int × Int)) : List (Int) := lett2 ties_ ([(gI ties_ (0 : Int)).1]) fun (left1 : List (Int × Int)) (found2 : List (Int)) => (if (((v_places_of ties_).map fun (place3 : Int) => (decide (((((ties_.filter fun (tie4 : Int × Int) => (decide (place3 = tie4.1) || decide (place3 = tie4.2))).map fun (tie4 : Int × Int) => tie4).length : Int) % (2 : Int)) = (1 : Int)))).any id) = true then ([] : List (Int)) else lett (0 : Int) fun (at5 : Int) => lett (whlV (fun (s12 : Int × (List (Int × Int)) × (List (Int))) => (decide (s12.1 < (s12.2.2.length : Int)))) (fun (s12 : Int × (List (Int × Int)) × (List (Int))) => lett (v_round_from s12.2.1 (gI s12.2.2 s12.1)) fun (way13 : List (Int)) => lett ((s12.2.1.filter fun (tie14 : Int × Int) => (!decide (tie14 ∈ (v_ties_of way13)))).map fun (tie14 : Int × Int) => tie14) fun (left15 : List (Int × Int)) => lett (((cutL s12.2.2 none (some s12.1)) ++ way13) ++ (cutL s12.2.2 (some (s12.1 + (1 : Int))) none)) fun (found16 : List (Int)) => lett (s12.1 + (1 : Int)) fun (at17 : Int) => (at17, left15, found16)) 300 (at5, left1, found2)) fun (st18 : Int × (List (Int × Int)) × (List (Int))) => (if (decide (st18.2.1 = ([] : List (Int × Int)))) = true then st18.2.2 else ([] : List (Int))))
def ok_gone_round (ties_ : List (Int × Int)) : Prop := (IxOk ties_ (0 : Int)) ∧ (lett2 ties_ ([(gI ties_ (0 : Int)).1]) fun (left1 : List (Int × Int)) (found2 : List (Int)) => (ok_places_of ties_) ∧ ((((v_places_of ties_).map fun (place3 : Int) => (decide (((((ties_.filter fun (tie4 : Int × Int) => (decide (place3 = tie4.1) || decide (place3 = tie4.2))).map fun (tie4 : Int × Int) => tie4).length : Int) % (2 : Int)) = (1 : Int)))).any id) = false → lett (0 : Int) fun (at5 : Int) => okWhl (fun (s12 : Int × (List (Int × Int)) × (List (Int))) => (decide (s12.1 < (s12.2.2.length : Int)))) (fun (s12 : Int × (List (Int × Int)) × (List (Int))) => lett (v_round_from s12.2.1 (gI s12.2.2 s12.1)) fun (way13 : List (Int)) => lett ((s12.2.1.filter fun (tie14 : Int × Int) => (!decide (tie14 ∈ (v_ties_of way13)))).map fun (tie14 : Int × Int) => tie14) fun (left15 : List (Int × Int)) => lett (((cutL s12.2.2 none (some s12.1)) ++ way13) ++ (cutL s12.2.2 (some (s12.1 + (1 : Int))) none)) fun (found16 : List (Int)) => lett (s12.1 + (1 : Int)) fun (at17 : Int) => (at17, left15, found16)) (fun (s12 : Int × (List (Int × Int)) × (List (Int))) => True) (fun (s12 : Int × (List (Int × Int)) × (List (Int))) => ((IxOk s12.2.2 s12.1) ∧ (ok_round_from s12.2.1 (gI s12.2.2 s12.1))) ∧ (lett (v_round_from s12.2.1 (gI s12.2.2 s12.1)) fun (way13 : List (Int)) => lett ((s12.2.1.filter fun (tie14 : Int × Int) => (!decide (tie14 ∈ (v_ties_of way13)))).map fun (tie14 : Int × Int) => tie14) fun (left15 : List (Int × Int)) => ((CatOk (cutL s12.2.2 none (some s12.1)) way13) ∧ (CatOk ((cutL s12.2.2 none (some s12.1)) ++ way13) (cutL s12.2.2 (some (s12.1 + (1 : Int))) none))) ∧ (lett (((cutL s12.2.2 none (some s12.1)) ++ way13) ++ (cutL s12.2.2 (some (s12.1 + (1 : Int))) none)) fun (found16 : List (Int)) => lett (s12.1 + (1 : Int)) fun (at17 : Int) => True))) 300 (at5, left1, found2)))
theorem r_gone_round (k : Nat) (hk : 2 ≤ k) (ties_ : List (Int × Int)) (h : ok_gone_round ties_) : Fn (run GP k) 86 [(eL (e2 D.int D.int)) ties_] .fl ((eL D.int) (v_gone_round ties_)) := by
  obtain ⟨k, rfl⟩ : ∃ j, k = j + 1 := ⟨k - 1, by omega⟩
  exact fn_retR (Fu := fu_gone_round) (e := (eL D.int)) (v := v_gone_round ties_) rfl rfl (show Blk _ _ [some (.sh, (eL (e2 D.int D.int)) ties_), none, none, none, none, none, none] (rtF _ _ (lett2 ties_ ([(gI ties_ (0 : Int)).1]) fun (left1 : List (Int × Int)) (found2 : List (Int)) => (if (((v_places_of ties_).map fun (place3 : Int) => (decide (((((ties_.filter fun (tie4 : Int × Int) => (decide (place3 = tie4.1) || decide (place3 = tie4.2))).map fun (tie4 : Int × Int) => tie4).length : Int) % (2 : Int)) = (1 : Int)))).any id) = true then ([] : List (Int)) else lett (0 : Int) fun (at5 : Int) => lett (whlV (fun (s12 : Int × (List (Int × Int)) × (List (Int))) => (decide (s12.1 < (s12.2.2.length : Int)))) (fun (s12 : Int × (List (Int × Int)) × (List (Int))) => lett (v_round_from s12.2.1 (gI s12.2.2 s12.1)) fun (way13 : List (Int)) => lett ((s12.2.1.filter fun (tie14 : Int × Int) => (!decide (tie14 ∈ (v_ties_of way13)))).map fun (tie14 : Int × Int) => tie14) fun (left15 : List (Int × Int)) => lett (((cutL s12.2.2 none (some s12.1)) ++ way13) ++ (cutL s12.2.2 (some (s12.1 + (1 : Int))) none)) fun (found16 : List (Int)) => lett (s12.1 + (1 : Int)) fun (at17 : Int) => (at17, left15, found16)) 300 (at5, left1, found2)) fun (st18 : Int × (List (Int × Int)) × (List (Int))) => (if (decide (st18.2.1 = ([] : List (Int × Int)))) = true then st18.2.2 else ([] : List (Int)))))) from (blk_par2C (e1 := (eL (e2 D.int D.int))) (e2 := (eL D.int)) (evs_cons (ev_list (ev_var rfl)) (evs_cons (ev_lstC (evs_cons (ev_tat (ev_at (e := (e2 D.int D.int)) (xs := ties_) (ev_var rfl) (ev_int _) h.1) rfl) evs_nil) (cls_cons (cl_lf lf_int) cls_nil)) evs_nil)) (fun _ _ => (cls_cons (cl_fl (lf_2 lf_int lf_int)) (cls_cons cl_dp cls_nil))) (Γ1 := fun left1 found2 => [some (.sh, (eL (e2 D.int D.int)) ties_), none, some (.fl, (eL (e2 D.int D.int)) left1), some (.dp, (eL D.int) found2), none, none, none]) (fun left1 found2 => ⟨⟨rfl, rfl⟩, trivial, ⟨rfl, rfl⟩, ⟨rfl, rfl⟩, trivial, trivial, trivial, trivial⟩) (fun left1 found2 h => (blk_if (ev_any (ev_compC0 D.int D.bl (v_places_of ties_) (fun (place3 : Int) => (decide (((((ties_.filter fun (tie4 : Int × Int) => (decide (place3 = tie4.1) || decide (place3 = tie4.2))).map fun (tie4 : Int × Int) => tie4).length : Int) % (2 : Int)) = (1 : Int)))) (fun _ => cl_dp) (es_list (ev_cal (evs_cons (ev_var rfl) evs_nil) (r_places_of k (by omega) ties_ h.1))) (fun place3 hq15 => ⟨_, rfl, (ev_cmp (ev_mod (ev_len (ev_compC (e2 D.int D.int) (e2 D.int D.int) ties_ (fun (tie4 : Int × Int) => (decide (place3 = tie4.1) || decide (place3 = tie4.2))) (fun (tie4 : Int × Int) => tie4) (fun _ => (cl_lf (lf_2 lf_int lf_int))) (es_list (ev_var rfl)) (fun tie4 hq18 => ⟨_, rfl, (evc_one (ev_cmp (ev_var rfl) (ev_var rfl) (cm_in2 _ _ _))), fun hq20 => (ev_var rfl)⟩))) (ev_int _) (by decide)) (ev_int _) (cm_eq (e := D.int) dt_int (by decide) ((((ties_.filter fun (tie4 : Int × Int) => (decide (place3 = tie4.1) || decide (place3 = tie4.2))).map fun (tie4 : Int × Int) => tie4).length : Int) % (2 : Int)) (1 : Int)))⟩))) (fun hq21 => (blk_retR (Evr.le (evr_of (ev_lstC evs_nil cls_nil)) rfl))) (fun hq21 => (blk_asgC (e := D.int) (ev_int _) (fun _ => cl_dp) (Γ1 := fun at5 => [some (.sh, (eL (e2 D.int D.int)) ties_), some (.sh, D.int at5), some (.fl, (eL (e2 D.int D.int)) left1), some (.dp, (eL D.int) found2), none, none, none]) (fun at5 => ⟨⟨rfl, rfl⟩, ⟨rfl, rfl⟩, ⟨rfl, rfl⟩, ⟨rfl, rfl⟩, trivial, trivial, trivial, trivial⟩) (fun at5 h => (blk_thenN (env := (fun (st18 : Int × (List (Int × Int)) × (List (Int))) => [some (.sh, (eL (e2 D.int D.int)) ties_), some (.sh, D.int st18.1), some (.fl, (eL (e2 D.int D.int)) st18.2.1), some (.fl, (eL D.int) st18.2.2), none, none, none])) (OK := fun _ => True) (blk_whl (okc := (fun (s12 : Int × (List (Int × Int)) × (List (Int))) => True)) (okb := (fun (s12 : Int × (List (Int × Int)) × (List (Int))) => ((IxOk s12.2.2 s12.1) ∧ (ok_round_from s12.2.1 (gI s12.2.2 s12.1))) ∧ (lett (v_round_from s12.2.1 (gI s12.2.2 s12.1)) fun (way13 : List (Int)) => lett ((s12.2.1.filter fun (tie14 : Int × Int) => (!decide (tie14 ∈ (v_ties_of way13)))).map fun (tie14 : Int × Int) => tie14) fun (left15 : List (Int × Int)) => ((CatOk (cutL s12.2.2 none (some s12.1)) way13) ∧ (CatOk ((cutL s12.2.2 none (some s12.1)) ++ way13) (cutL s12.2.2 (some (s12.1 + (1 : Int))) none))) ∧ (lett (((cutL s12.2.2 none (some s12.1)) ++ way13) ++ (cutL s12.2.2 (some (s12.1 + (1 : Int))) none)) fun (found16 : List (Int)) => lett (s12.1 + (1 : Int)) fun (at17 : Int) => True)))) (env := (fun (s12 : Int × (List (Int × Int)) × (List (Int))) => [some (.sh, (eL (e2 D.int D.int)) ties_), some (.sh, D.int s12.1), some (.fl, (eL (e2 D.int D.int)) s12.2.1), some (.fl, (eL D.int) s12.2.2), none, none, none])) ⟨⟨rfl, rfl⟩, ⟨rfl, rfl⟩, ⟨rfl, rfl⟩, ⟨rfl, rfl⟩, trivial, trivial, trivial, trivial⟩ (fun s12 h => (ev_cmp (ev_var rfl) (ev_len (ev_var rfl)) (cm_lt _ _))) (fun s12 h ht => (blk_asgC (e := (eL D.int)) (ev_cal (evs_cons (ev_var rfl) (evs_cons (ev_at (e := D.int) (xs := s12.2.2) (ev_var rfl) (ev_var rfl) h.1.1) evs_nil)) (r_round_from k (by omega) s12.2.1 (gI s12.2.2 s12.1) h.1.2)) (fun _ => cl_dp) (Γ1 := fun way13 => [some (.sh, (eL (e2 D.int D.int)) ties_), some (.sh, D.int s12.1), some (.fl, (eL (e2 D.int D.int)) s12.2.1), some (.fl, (eL D.int) s12.2.2), some (.dp, (eL D.int) way13), none, none]) (fun way13 => ⟨⟨rfl, rfl⟩, ⟨rfl, rfl⟩, ⟨rfl, rfl⟩, ⟨rfl, rfl⟩, ⟨rfl, rfl⟩, trivial, trivial, trivial⟩) (fun way13 h => (blk_asgC (e := (eL (e2 D.int D.int))) (ev_compC (e2 D.int D.int) (e2 D.int D.int) s12.2.1 (fun (tie14 : Int × Int) => (!decide (tie14 ∈ (v_ties_of way13)))) (fun (tie14 : Int × Int) => tie14) (fun _ => (cl_lf (lf_2 lf_int lf_int))) (es_list (ev_var rfl)) (fun tie14 hq25 => ⟨_, rfl, (evc_one (ev_cmp (ev_var rfl) (ev_cal (evs_cons (ev_var rfl) evs_nil) (r_ties_of k (by omega) way13)) (cm_nin (e := (e2 D.int D.int)) (dt_2 dt_int dt_int) (by decide) tie14 (v_ties_of way13)))), fun hq27 => (ev_var rfl)⟩)) (fun _ => cl_dp) (Γ1 := fun left15 => [some (.sh, (eL (e2 D.int D.int)) ties_), some (.sh, D.int s12.1), some (.dp, (eL (e2 D.int D.int)) left15), some (.fl, (eL D.int) s12.2.2), some (.dp, (eL D.int) way13), none, none]) (fun left15 => ⟨⟨rfl, rfl⟩, ⟨rfl, rfl⟩, ⟨rfl, rfl⟩, ⟨rfl, rfl⟩, ⟨rfl, rfl⟩, trivial, trivial, trivial⟩) (fun left15 h => (blk_asgC (e := (eL D.int)) (ev_cat (ev_cat (ev_slc (ev_var rfl) ev_non (ev_var rfl) rfl rfl) (ev_var rfl) h.1.1) (ev_slc (ev_var rfl) (ev_add (ev_var rfl) (ev_int _)) ev_non rfl rfl) h.1.2) (fun _ => (cl_fl lf_int)) (Γ1 := fun found16 => [some (.sh, (eL (e2 D.int D.int)) ties_), some (.sh, D.int s12.1), some (.dp, (eL (e2 D.int D.int)) left15), some (.fl, (eL D.int) found16), some (.dp, (eL D.int) way13), none, none]) (fun found16 => ⟨⟨rfl, rfl⟩, ⟨rfl, rfl⟩, ⟨rfl, rfl⟩, ⟨rfl, rfl⟩, ⟨rfl, rfl⟩, trivial, trivial, trivial⟩) (fun found16 h => (blk_aug rfl (ev_int _) (Γ1 := fun at17 => [some (.sh, (eL (e2 D.int D.int)) ties_), some (.sh, D.int at17), some (.dp, (eL (e2 D.int D.int)) left15), some (.fl, (eL D.int) found16), some (.dp, (eL D.int) way13), none, none]) (fun at17 => ⟨⟨rfl, rfl⟩, ⟨rfl, rfl⟩, ⟨rfl, rfl⟩, ⟨rfl, rfl⟩, ⟨rfl, rfl⟩, trivial, trivial, trivial⟩) (fun at17 h => (blk_nilF ⟨⟨rfl, rfl⟩, ⟨rfl, rfl⟩, ⟨rfl, rfl⟩, ⟨rfl, rfl⟩, trivial, trivial, trivial, trivial⟩)) h)) h.2)) h)) h.2)) h) (fun st18 h => (blk_retR (evr_ite (e := (eL D.int)) (ev_cmp (ev_var rfl) (ev_lstC evs_nil cls_nil) (cm_eq (e := (eL (e2 D.int D.int))) (dt_L (dt_2 dt_int dt_int)) (by decide) st18.2.1 ([] : List (Int × Int)))) (fun hq28 => (evr_var rfl)) (fun hq28 => (Evr.le (evr_of (ev_lstC evs_nil cls_nil)) rfl))))) trivial)) (h.2 hq21))))) h.2))
end TY

set_option Elab.async false
set_option linter.all false
set_option maxRecDepth 100000
set_option maxHeartbeats 4000000
namespace TY
open TW PySem PySem.Spec PyProof.Rows L2
def v_trail_of (web_ : Int × (List (Int × Int))) : Option (List (Int)) := orElse (forR (fun (s1 : Unit) (x2 : Int) => ((if (v_meets_all web_ ([x2])) = true then Sum.inr (some ([x2])) else Sum.inl ()) : (Unit) ⊕ (Option (List (Int))))) (rg (0 : Int) web_.1) () : (Unit) ⊕ (Option (List (Int)))) fun (st3 : Unit) => orElse (forR (fun (s4 : Unit) (x5 : Int) => (lett (v_chosen web_ x5) fun (ties6 : List (Int × Int)) => andThen ((if ((decide ((2 : Int) < (ties6.length : Int))) && (v_meets_all web_ (v_places_of ties6))) = true then lett (v_gone_round ties6) fun (found7 : List (Int)) => (if (!decide (found7 = ([] : List (Int)))) = true then Sum.inr (some found7) else Sum.inl ()) else Sum.inl ()) : (Unit) ⊕ (Option (List (Int)))) fun (st8 : Unit) => Sum.inl () : (Unit) ⊕ (Option (List (Int))))) (rg (1 : Int) ((1 : Int) * 2 ^ (web_.2.length : Int).toNat)) () : (Unit) ⊕ (Option (List (Int)))) fun (st9 : Unit) => (none : Option (List (Int)))
def ok_trail_of (web_ : Int × (List (Int × Int))) : Prop := (RgOk' (0 : Int) web_.1) ∧ (okThen (forR (fun (s1 : Unit) (x2 : Int) => ((if (v_meets_all web_ ([x2])) = true then Sum.inr (some ([x2])) else Sum.inl ()) : (Unit) ⊕ (Option (List (Int))))) (rg (0 : Int) web_.1) () : (Unit) ⊕ (Option (List (Int)))) fun (st3 : Unit) => ((0 ≤ (web_.2.length : Int) ∧ (web_.2.length : Int) ≤ 1000 ∧ (1 : Int).natAbs < 1000) ∧ (RgOk' (1 : Int) ((1 : Int) * 2 ^ (web_.2.length : Int).toNat))) ∧ (okFor (fun (s4 : Unit) (x5 : Int) => (ok_chosen web_ x5) ∧ (lett (v_chosen web_ x5) fun (ties6 : List (Int × Int)) => ((decide ((2 : Int) < (ties6.length : Int))) = true → ok_places_of ties6) ∧ (((decide ((2 : Int) < (ties6.length : Int))) && (v_meets_all web_ (v_places_of ties6))) = true → ok_gone_round ties6))) (fun (s4 : Unit) (x5 : Int) => (lett (v_chosen web_ x5) fun (ties6 : List (Int × Int)) => andThen ((if ((decide ((2 : Int) < (ties6.length : Int))) && (v_meets_all web_ (v_places_of ties6))) = true then lett (v_gone_round ties6) fun (found7 : List (Int)) => (if (!decide (found7 = ([] : List (Int)))) = true then Sum.inr (some found7) else Sum.inl ()) else Sum.inl ()) : (Unit) ⊕ (Option (List (Int)))) fun (st8 : Unit) => Sum.inl () : (Unit) ⊕ (Option (List (Int))))) (rg (1 : Int) ((1 : Int) * 2 ^ (web_.2.length : Int).toNat)) ()))
theorem r_trail_of (k : Nat) (hk : 3 ≤ k) (web_ : Int × (List (Int × Int))) (h : ok_trail_of web_) : Fn (run GP k) 90 [eW web_] .fl ((eO (eL D.int)) (v_trail_of web_)) := by
  obtain ⟨k, rfl⟩ : ∃ j, k = j + 1 := ⟨k - 1, by omega⟩
  exact fn_retR (Fu := fu_trail_of) (e := (eO (eL D.int))) (v := v_trail_of web_) rfl rfl (show Blk _ _ [some (.sh, eW web_), none, none, none, none] (rtF _ _ (orElse (forR (fun (s1 : Unit) (x2 : Int) => ((if (v_meets_all web_ ([x2])) = true then Sum.inr (some ([x2])) else Sum.inl ()) : (Unit) ⊕ (Option (List (Int))))) (rg (0 : Int) web_.1) () : (Unit) ⊕ (Option (List (Int)))) fun (st3 : Unit) => orElse (forR (fun (s4 : Unit) (x5 : Int) => (lett (v_chosen web_ x5) fun (ties6 : List (Int × Int)) => andThen ((if ((decide ((2 : Int) < (ties6.length : Int))) && (v_meets_all web_ (v_places_of ties6))) = true then lett (v_gone_round ties6) fun (found7 : List (Int)) => (if (!decide (found7 = ([] : List (Int)))) = true then Sum.inr (some found7) else Sum.inl ()) else Sum.inl ()) : (Unit) ⊕ (Option (List (Int)))) fun (st8 : Unit) => Sum.inl () : (Unit) ⊕ (Option (List (Int))))) (rg (1 : Int) ((1 : Int) * 2 ^ (web_.2.length : Int).toNat)) () : (Unit) ⊕ (Option (List (Int)))) fun (st9 : Unit) => (none : Option (List (Int))))) from (blk_thenR (env := (fun (st3 : Unit) => [some (.sh, eW web_), none, none, none, none])) (blk_forGd (OK := fun (s1 : Unit) (x2 : Int) => True) (env := (fun (s1 : Unit) => [some (.sh, eW web_), none, none, none, none])) (ei := D.int) (es_rng (ev_int _) (ev_tat (ev_var rfl) rfl) h.1) ⟨⟨rfl, rfl⟩, trivial, trivial, trivial, trivial, trivial⟩ (fun s1 x2 h => ⟨_, rfl, (blk_if (ev_cal (evs_cons (ev_var rfl) (evs_cons (ev_lstC (evs_cons (ev_var rfl) evs_nil) (cls_cons (cl_lf lf_int) cls_nil)) evs_nil)) (r_meets_all k (by omega) web_ ([x2]))) (fun hq11 => (blk_ret (Evr.le (evr_of (ev_lstC (evs_cons (ev_var rfl) evs_nil) (cls_cons (cl_lf lf_int) cls_nil))) rfl))) (fun hq11 => (blk_nil ⟨⟨rfl, rfl⟩, trivial, trivial, trivial, trivial, trivial⟩)))⟩) (okFor_true _ _)) (fun st3 h => (blk_thenR (env := (fun (st9 : Unit) => [some (.sh, eW web_), none, none, none, none])) (OK := fun _ => True) (blk_forGd (OK := fun (s4 : Unit) (x5 : Int) => (ok_chosen web_ x5) ∧ (lett (v_chosen web_ x5) fun (ties6 : List (Int × Int)) => ((decide ((2 : Int) < (ties6.length : Int))) = true → ok_places_of ties6) ∧ (((decide ((2 : Int) < (ties6.length : Int))) && (v_meets_all web_ (v_places_of ties6))) = true → ok_gone_round ties6))) (env := (fun (s4 : Unit) => [some (.sh, eW web_), none, none, none, none])) (ei := D.int) (es_rng (ev_int _) (ev_shl (ev_int _) (ev_len (ev_tat (ev_var rfl) rfl)) h.1.1) h.1.2) ⟨⟨rfl, rfl⟩, trivial, trivial, trivial, trivial, trivial⟩ (fun s4 x5 h => ⟨_, rfl, (blk_asgC (e := (eL (e2 D.int D.int))) (ev_cal (evs_cons (ev_var rfl) (evs_cons (ev_var rfl) evs_nil)) (r_chosen k (by omega) web_ x5 h.1)) (fun _ => cl_dp) (Γ1 := fun ties6 => [some (.sh, eW web_), none, some (.sh, D.int x5), some (.dp, (eL (e2 D.int D.int)) ties6), none]) (fun ties6 => ⟨⟨rfl, rfl⟩, trivial, ⟨rfl, rfl⟩, ⟨rfl, rfl⟩, trivial, trivial⟩) (fun ties6 h => (blk_then (env := (fun (st8 : Unit) => [some (.sh, eW web_), none, some (.sh, D.int x5), some (.dp, (eL (e2 D.int D.int)) ties6), none])) (OK := fun _ => True) (blk_ifS (ev_and (ev_cmp (ev_len (ev_var rfl)) (ev_int _) (cm_gt _ _)) (fun hq12 => (ev_cal (evs_cons (ev_var rfl) (evs_cons (ev_cal (evs_cons (ev_var rfl) evs_nil) (r_places_of k (by omega) ties6 (h.1 hq12))) evs_nil)) (r_meets_all k (by omega) web_ (v_places_of ties6))))) (fun hq14 => (blk_asgC (e := (eL D.int)) (OK := fun _ => True) (ev_cal (evs_cons (ev_var rfl) evs_nil) (r_gone_round k (by omega) ties6 (h.2 hq14))) (fun _ => (cl_fl lf_int)) (Γ1 := fun found7 => [some (.sh, eW web_), none, some (.sh, D.int x5), some (.dp, (eL (e2 D.int D.int)) ties6), some (.fl, (eL D.int) found7)]) (fun found7 => ⟨⟨rfl, rfl⟩, trivial, ⟨rfl, rfl⟩, ⟨rfl, rfl⟩, ⟨rfl, rfl⟩, trivial⟩) (fun found7 h => (blk_if (ev_cmp (ev_var rfl) (ev_lstC evs_nil cls_nil) (cm_ne (e := (eL D.int)) (dt_L dt_int) (by decide) found7 ([] : List (Int)))) (fun hq15 => (blk_ret (evr_var rfl))) (fun hq15 => (blk_nil ⟨⟨rfl, rfl⟩, trivial, ⟨rfl, rfl⟩, ⟨rfl, rfl⟩, trivial, trivial⟩)))) trivial)) (fun hq14 => (blk_nil ⟨⟨rfl, rfl⟩, trivial, ⟨rfl, rfl⟩, ⟨rfl, rfl⟩, trivial, trivial⟩))) (fun st8 h => (blk_nil ⟨⟨rfl, rfl⟩, trivial, trivial, trivial, trivial, trivial⟩)) (okThen_true _))) h.2)⟩) h.2) (fun st9 h => (blk_retR (Evr.le (evr_of ev_non) rfl))) (okThen_true _))) h.2))
end TY

set_option Elab.async false
set_option linter.all false
set_option maxRecDepth 100000
set_option maxHeartbeats 4000000
namespace TY
open TW PySem PySem.Spec PyProof.Rows L2
abbrev mn (a b : Int) : Int × Int := (min a b, max a b)
def tys : List Int → List (Int × Int)
  | [] => []
  | [_] => []
  | a :: b :: r => mn a b :: tys (b :: r)
theorem ties_val : ∀ way : List Int, v_ties_of way = tys way
  | [] => rfl
  | [a] => rfl
  | a :: b :: r => by
    have ih := ties_val (b :: r)
    unfold v_ties_of at ih ⊢
    rw [cut1] at ih ⊢
    show (((a, b) :: (b :: r).zip r).map _) = _
    rw [List.map_cons]
    show mn a b :: _ = mn a b :: tys (b :: r)
    rw [← ih]
    rfl
theorem tys_app (a : Int) (ys : List Int) : ∀ xs : List Int, tys (xs ++ a :: ys) = tys (xs ++ [a]) ++ tys (a :: ys)
  | [] => by simp [tys]
  | [x] => by simp [tys]
  | x :: y :: xs => by
    have ih := tys_app a ys (y :: xs)
    simp only [List.cons_append] at ih ⊢
    simp only [tys, ih, List.cons_append]
theorem tys_snoc (q : Int) {found : List Int} {l : Int} (h : found.getLast? = some l) : tys (found ++ [q]) = tys found ++ [mn l q] := by
  obtain ⟨ys, rfl⟩ := List.getLast?_eq_some_iff.mp h
  rw [List.append_assoc]
  show tys (ys ++ l :: [q]) = _
  rw [tys_app]
  rfl
theorem tys_len : ∀ way : List Int, (tys way).length = way.length - 1
  | [] => rfl
  | [a] => rfl
  | a :: b :: r => by
    rw [tys, List.length_cons, tys_len (b :: r)]
    simp
def atP (p : Int) (t : Int × Int) : Bool := decide (p = t.1) || decide (p = t.2)
def dg (x : Int) (S : List (Int × Int)) : Nat := (S.filter (atP x)).length
theorem dg_app (x : Int) (S T : List (Int × Int)) : dg x (S ++ T) = dg x S + dg x T := by
  unfold dg
  rw [List.filter_append, List.length_append]
theorem dg_perm {x : Int} {S T : List (Int × Int)} (h : S.Perm T) : dg x S = dg x T := (h.filter _).length_eq
theorem dg_cons (x : Int) (t : Int × Int) (S : List (Int × Int)) : dg x (t :: S) = (if x = t.1 ∨ x = t.2 then 1 else 0) + dg x S := by
  unfold dg
  rw [List.filter_cons]
  by_cases h : x = t.1 ∨ x = t.2
  · rw [if_pos (by simpa [atP] using h), if_pos h, List.length_cons]; omega
  · rw [if_neg (by simpa [atP] using h), if_neg h]; omega
theorem dg_zero {x : Int} {S : List (Int × Int)} : dg x S = 0 ↔ ∀ t ∈ S, x ≠ t.1 ∧ x ≠ t.2 := by
  unfold dg
  rw [List.length_eq_zero_iff, List.filter_eq_nil_iff]
  constructor
  · intro h t ht
    have := h t ht
    simp [atP] at this
    exact this
  · intro h t ht
    have := h t ht
    simp [atP, this]
theorem mn_lt {a b : Int} (h : (mn a b).1 < (mn a b).2) : a ≠ b := by
  simp only [mn] at h
  omega
theorem dg_way (x : Int) : ∀ (r : List Int) (a l : Int), (a :: r).getLast? = some l → (∀ t ∈ tys (a :: r), t.1 < t.2) → dg x (tys (a :: r)) % 2 = ((if x = a then 1 else 0) + (if x = l then 1 else 0)) % 2
  | [], a, l, h, _ => by
    have e : a = l := by simpa using h
    subst e
    show 0 % 2 = _
    split <;> rfl
  | b :: r, a, l, h, k => by
    have hk : a ≠ b := mn_lt (k (mn a b) (by simp [tys]))
    have ih := dg_way x r b l (by simpa using h) fun t ht => k t (by simp only [tys]; exact List.mem_cons_of_mem _ ht)
    rw [tys, dg_cons]
    have e : (if x = (mn a b).1 ∨ x = (mn a b).2 then 1 else 0) = (if x = a then 1 else 0) + (if x = b then 1 else 0) := by
      simp only [mn]
      by_cases h1 : x = a
      · subst h1
        rw [if_pos (by omega), if_pos rfl, if_neg hk]
      · by_cases h2 : x = b
        · subst h2
          rw [if_pos (by omega), if_neg h1, if_pos rfl]
        · rw [if_neg (by omega), if_neg h1, if_neg h2]
    rw [e]
    omega
theorem tys_in : ∀ {way : List Int} {t : Int × Int}, t ∈ tys way → t.1 ∈ way ∧ t.2 ∈ way
  | [], t, h => by simp [tys] at h
  | [a], t, h => by simp [tys] at h
  | a :: b :: r, t, h => by
    rw [tys] at h
    rcases List.mem_cons.mp h with rfl | h
    · simp only [mn]
      constructor
      · rcases Int.le_total a b with k | k
        · rw [Int.min_eq_left k]; simp
        · rw [Int.min_eq_right k]; simp
      · rcases Int.le_total a b with k | k
        · rw [Int.max_eq_right k]; simp
        · rw [Int.max_eq_left k]; simp
    · have := tys_in h
      exact ⟨List.mem_cons_of_mem _ this.1, List.mem_cons_of_mem _ this.2⟩
abbrev RS := Int × List (Int × Int) × List Int × List (Int × Int)
def rfC (s : RS) : Bool := !decide (s.2.1 = ([] : List (Int × Int)))
def rfS (s : RS) : RS := lett (s.2.2.2.erase (gI s.2.1 (0 : Int))) fun (rest : List (Int × Int)) => lett (((gI s.2.1 (0 : Int)).1 + (gI s.2.1 (0 : Int)).2) - s.1) fun (place : Int) => lett (s.2.2.1 ++ [place]) fun (found : List Int) => lett ((rest.filter fun (tie : Int × Int) => (decide (place = tie.1) || decide (place = tie.2))).map fun (tie : Int × Int) => tie) fun (some_ : List (Int × Int)) => (place, some_, found, rest)
structure RI (p0 : Int) (left : List (Int × Int)) (s : RS) : Prop where
  som : s.2.1 = s.2.2.2.filter (atP s.1)
  hd : s.2.2.1.head? = some p0
  ls : s.2.2.1.getLast? = some s.1
  pm : (tys s.2.2.1 ++ s.2.2.2).Perm left
theorem mn_of {t : Int × Int} {p : Int} (h : t.1 < t.2) (k : atP p t = true) : mn p (t.1 + t.2 - p) = t := by
  unfold atP at k
  simp only [Bool.or_eq_true, decide_eq_true_eq] at k
  refine Prod.ext ?_ ?_ <;> simp only [mn] <;> omega
theorem RI.step {p0 : Int} {left : List (Int × Int)} {s : RS} (hl : ∀ t ∈ left, t.1 < t.2) (I : RI p0 left s) (h : rfC s = true) : RI p0 left (rfS s) ∧ (rfS s).2.2.2.length < s.2.2.2.length ∧ IxOk s.2.1 (0 : Int) ∧ gI s.2.1 (0 : Int) ∈ s.2.2.2 := by
  have hne : s.2.1 ≠ [] := by unfold rfC at h; simpa using h
  have h0 := first_mem hne
  have hm := h0
  rw [I.som] at hm
  obtain ⟨h1, h2⟩ := List.mem_filter.mp hm
  rw [← I.som] at h1 h2
  have hlt := hl _ (I.pm.mem_iff.mp (List.mem_append_right _ h1))
  have hmm := mn_of hlt h2
  refine ⟨⟨?_, ?_, ?_, ?_⟩, ?_, ⟨by omega, by have := List.length_pos_iff.mpr hne; omega⟩, h1⟩
  · show ((_ : List (Int × Int)).filter _).map _ = _
    rw [List.map_id']
    rfl
  · show (s.2.2.1 ++ [_]).head? = _
    rw [List.head?_append, I.hd]
    rfl
  · show (s.2.2.1 ++ [_]).getLast? = _
    rw [List.getLast?_append]
    rfl
  · show (tys (s.2.2.1 ++ [(gI s.2.1 0).1 + (gI s.2.1 0).2 - s.1]) ++ s.2.2.2.erase (gI s.2.1 0)).Perm left
    rw [tys_snoc _ I.ls, hmm, List.append_assoc]
    exact ((List.perm_cons_erase h1).symm.append_left _).trans I.pm
  · show (s.2.2.2.erase (gI s.2.1 0)).length < _
    rw [List.length_erase_of_mem h1]
    have := List.length_pos_of_mem h1
    omega
theorem rfrom_all {left : List (Int × Int)} (hl : ∀ t ∈ left, t.1 < t.2) (hn : left.length ≤ 200) (p : Int) : ok_round_from left p ∧ ∃ rest q, (v_round_from left p).head? = some p ∧ (v_round_from left p).getLast? = some q ∧ (tys (v_round_from left p) ++ rest).Perm left ∧ dg q rest = 0 := by
  have s0 : RI p left (p, ((left.filter fun (tie : Int × Int) => (decide (p = tie.1) || decide (p = tie.2))).map fun (tie : Int × Int) => tie), [p], left) := ⟨by rw [List.map_id']; rfl, rfl, rfl, .refl _⟩
  have hw := whl_all (c := rfC) (st := rfS) (okc := fun _ => True) (okb := fun (s : RS) => (IxOk s.2.1 (0 : Int)) ∧ ((gI s.2.1 (0 : Int)) ∈ s.2.2.2) ∧ (lett (s.2.2.2.erase (gI s.2.1 (0 : Int))) fun (rest17 : List (Int × Int)) => ((IxOk s.2.1 (0 : Int)) ∧ (IxOk s.2.1 (0 : Int))) ∧ (lett (((gI s.2.1 (0 : Int)).1 + (gI s.2.1 (0 : Int)).2) - s.1) fun (place18 : Int) => s.2.2.1.length < 1000000)))
    (RI p left) (fun s => s.2.2.2.length) (fun s I => ⟨trivial, fun hc => by
      obtain ⟨a1, a2, a3, a4⟩ := I.step hl hc
      have hlen := I.pm.length_eq
      rw [List.length_append, tys_len] at hlen
      exact ⟨⟨a3, a4, ⟨a3, a3⟩, by show _ < _; omega⟩, a1, a2⟩⟩) 300 _ s0 (by show left.length < 300; omega)
  refine ⟨hw.1, ?_⟩
  obtain ⟨_, I, he⟩ := hw
  generalize hs : whlV rfC rfS 300 (p, ((left.filter fun (tie : Int × Int) => (decide (p = tie.1) || decide (p = tie.2))).map fun (tie : Int × Int) => tie), [p], left) = s at I he
  have hv : v_round_from left p = s.2.2.1 := by
    rw [← hs]
    rfl
  rw [hv]
  refine ⟨s.2.2.2, s.1, I.hd, I.ls, I.pm, ?_⟩
  have : s.2.1 = [] := by
    unfold rfC at he
    simpa using he
  rw [I.som] at this
  unfold dg
  rw [this]
  rfl
def Evn (S : List (Int × Int)) : Prop := ∀ x, dg x S % 2 = 0
theorem rfrom_back {left : List (Int × Int)} (hl : ∀ t ∈ left, t.1 < t.2) (hn : left.length ≤ 200) (he : Evn left) (p : Int) : ∃ rest, (v_round_from left p).head? = some p ∧ (v_round_from left p).getLast? = some p ∧ (tys (v_round_from left p) ++ rest).Perm left ∧ dg p rest = 0 ∧ Evn rest := by
  obtain ⟨_, rest, q, h1, h2, h3, h4⟩ := rfrom_all hl hn p
  have hr : ∀ t ∈ tys (v_round_from left p), t.1 < t.2 := fun t ht => hl t (h3.mem_iff.mp (List.mem_append_left _ ht))
  obtain ⟨r, hr2⟩ : ∃ r, v_round_from left p = p :: r := by
    cases e : v_round_from left p with
    | nil => rw [e] at h1; cases h1
    | cons a r => rw [e] at h1; exact ⟨r, by rw [Option.some.inj h1]⟩
  rw [hr2] at h2 h3 hr
  have par : ∀ x, (dg x (tys (p :: r)) + dg x rest) % 2 = 0 := fun x => by
    rw [← dg_app, dg_perm h3]
    exact he x
  have key := dg_way q r p q h2 hr
  have e1 := par q
  rw [h4] at e1
  have : q = p := by
    by_cases e : q = p
    · exact e
    · rw [if_neg e, if_pos rfl] at key
      omega
  subst this
  refine ⟨rest, h1, by rw [hr2]; exact h2, by rw [hr2]; exact h3, h4, fun x => ?_⟩
  have a1 := par x
  have a2 := dg_way x r q q h2 hr
  split at a2 <;> omega
end TY

set_option Elab.async false
set_option linter.all false
set_option maxRecDepth 100000
set_option maxHeartbeats 4000000
namespace TY
open TW PySem PySem.Spec PyProof.Rows L2
def plS (s : List Int) (t : Int × Int) : List Int := s ++ (([t.1, t.2].filter fun p => !decide (p ∈ s)).map fun p => p)
theorem pl_len (s : List Int) (t : Int × Int) : (plS s t).length ≤ s.length + 2 := by
  unfold plS
  rw [List.length_append, List.length_map]
  have := List.length_filter_le (fun p => !decide (p ∈ s)) [t.1, t.2]
  simp only [List.length_cons, List.length_nil] at this
  omega
theorem pl_mem {s : List Int} {t : Int × Int} {x : Int} : x ∈ plS s t ↔ x ∈ s ∨ x = t.1 ∨ x = t.2 := by
  unfold plS
  rw [List.mem_append, List.map_id', List.mem_filter]
  constructor
  · rintro (h | ⟨h, _⟩)
    · exact .inl h
    · exact .inr (by simpa using h)
  · rintro (h | h)
    · exact .inl h
    · by_cases k : x ∈ s
      · exact .inl k
      · exact .inr ⟨by simpa using h, by simpa using k⟩
theorem pl_fold {x : Int} : ∀ (ts : List (Int × Int)) (s : List Int), x ∈ ts.foldl plS s ↔ x ∈ s ∨ ∃ t ∈ ts, x = t.1 ∨ x = t.2
  | [], s => by simp
  | t :: ts, s => by
    rw [List.foldl_cons, pl_fold ts, pl_mem]
    constructor
    · rintro ((h | h) | ⟨u, hu, h⟩)
      · exact .inl h
      · exact .inr ⟨t, List.mem_cons_self, h⟩
      · exact .inr ⟨u, List.mem_cons_of_mem _ hu, h⟩
    · rintro (h | ⟨u, hu, h⟩)
      · exact .inl (.inl h)
      · rcases List.mem_cons.mp hu with rfl | hu
        · exact .inl (.inr h)
        · exact .inr ⟨u, hu, h⟩
theorem places_mem {x : Int} {ts : List (Int × Int)} : x ∈ v_places_of ts ↔ ∃ t ∈ ts, x = t.1 ∨ x = t.2 := by
  have e : v_places_of ts = isortB ltZ (ts.foldl plS []) := rfl
  rw [e, mem_sort, pl_fold]
  simp
theorem places_ok {ts : List (Int × Int)} (h : ts.length ≤ 1000) : ok_places_of ts := by
  refine lett_to rfl ?_
  refine (fold_pre (fun pre s => s.length ≤ 2 * pre.length) (xs := ts) (pre := []) (s := []) (by simp) fun pre x post s e hI => ⟨?_, ?_⟩).1
  · have := congrArg List.length e
    simp only [List.nil_append, List.length_append, List.length_cons] at this
    simp only [CatOk, List.length_map]
    have := List.length_filter_le (fun p => !decide (p ∈ s)) [x.1, x.2]
    simp only [List.length_cons, List.length_nil] at this
    omega
  · show (plS s x).length ≤ _
    have := pl_len s x
    rw [List.length_append, List.length_singleton]
    omega
theorem cut_short {α : Type} (xs : List α) (l h : Option Int) : (cutL xs l h).length ≤ xs.length := by
  unfold cutL
  rw [List.length_take, List.length_drop]
  omega
theorem odd_iff {ts : List (Int × Int)} : (((v_places_of ts).map fun (p : Int) => (decide (((((ts.filter fun (t : Int × Int) => (decide (p = t.1) || decide (p = t.2))).map fun (t : Int × Int) => t).length : Int) % (2 : Int)) = (1 : Int)))).any id) = false ↔ Evn ts := by
  rw [List.any_map, List.any_eq_false]
  constructor
  · intro h x
    by_cases k : x ∈ v_places_of ts
    · have := h x k
      simp only [Function.comp, id, decide_eq_true_eq, List.map_id'] at this
      have e : ((ts.filter fun (t : Int × Int) => (decide (x = t.1) || decide (x = t.2))).length) = dg x ts := rfl
      rw [e] at this
      omega
    · have : dg x ts = 0 := dg_zero.mpr fun t ht => ⟨fun e => k (places_mem.mpr ⟨t, ht, .inl e⟩), fun e => k (places_mem.mpr ⟨t, ht, .inr e⟩)⟩
      rw [this]
  · intro h x _
    simp only [Function.comp, id, decide_eq_true_eq, List.map_id']
    have e : ((ts.filter fun (t : Int × Int) => (decide (x = t.1) || decide (x = t.2))).length) = dg x ts := rfl
    rw [e]
    have := h x
    omega
abbrev GS := Int × List (Int × Int) × List Int
def grC (s : GS) : Bool := decide (s.1 < (s.2.2.length : Int))
def grT (s : GS) : GS := lett (v_round_from s.2.1 (gI s.2.2 s.1)) fun (way : List Int) => lett ((s.2.1.filter fun (t : Int × Int) => (!decide (t ∈ (v_ties_of way)))).map fun (t : Int × Int) => t) fun (left : List (Int × Int)) => lett (((cutL s.2.2 none (some s.1)) ++ way) ++ (cutL s.2.2 (some (s.1 + (1 : Int))) none)) fun (found : List Int) => lett (s.1 + (1 : Int)) fun (at_ : Int) => (at_, left, found)
structure GI (ts : List (Int × Int)) (p0 : Int) (s : GS) : Prop where
  lo : 0 ≤ s.1
  hi : s.1 ≤ (s.2.2.length : Int)
  hd : s.2.2.head? = some p0
  ls : s.2.2.getLast? = some p0
  pm : (tys s.2.2 ++ s.2.1).Perm ts
  ev : Evn s.2.1
  dn : ∀ x ∈ s.2.2.take s.1.toNat, dg x s.2.1 = 0
theorem GI.step {ts : List (Int × Int)} {p0 : Int} {s : GS} (hl : ∀ t ∈ ts, t.1 < t.2) (nd : ts.Nodup) (hn : ts.length ≤ 200) (I : GI ts p0 s) (h : grC s = true) :
    GI ts p0 (grT s) ∧ IxOk s.2.2 s.1 ∧ ok_round_from s.2.1 (gI s.2.2 s.1) ∧ (v_round_from s.2.1 (gI s.2.2 s.1)).length ≤ 201 ∧ s.2.2.length ≤ 201 := by
  obtain ⟨at_, left, found⟩ := s
  obtain ⟨lo, hi, hd, ls, pm, ev, dn⟩ := I
  simp only at lo hi hd ls pm ev dn
  have h : at_ < (found.length : Int) := of_decide_eq_true h
  obtain ⟨k, rfl⟩ : ∃ k : Nat, at_ = (k : Int) := ⟨at_.toNat, by omega⟩
  have hk : k < found.length := by omega
  have hlen := pm.length_eq
  rw [List.length_append, tys_len] at hlen
  have hll : ∀ t ∈ left, t.1 < t.2 := fun t ht => hl t (pm.mem_iff.mp (List.mem_append_right _ ht))
  have ndl : left.Nodup := (List.nodup_append.mp (pm.nodup_iff.mpr nd)).2.1
  have hp : gI found (k : Int) = found[k] := gI_of hk
  have ok1 := (rfrom_all hll (by omega) (gI found (k : Int))).1
  obtain ⟨rest, w1, w2, w3, w4, w5⟩ := rfrom_back hll (by omega) ev (gI found (k : Int))
  rw [hp] at w1 w2 w3 w4 ok1
  generalize hway : v_round_from left found[k] = way at w1 w2 w3 ok1
  have hwl := w3.length_eq
  rw [List.length_append, tys_len] at hwl
  -- what is left
  have hrest : (left.filter fun t => !decide (t ∈ tys way)).Perm rest := by
    have q1 : (left.filter fun t => !decide (t ∈ tys way)).Perm ((tys way ++ rest).filter fun t => !decide (t ∈ tys way)) := (w3.filter _).symm
    refine q1.trans ?_
    rw [List.filter_append]
    have z1 : ((tys way).filter fun t => !decide (t ∈ tys way)) = [] := List.filter_eq_nil_iff.mpr fun t ht => by simp [ht]
    have nd2 := List.nodup_append.mp (w3.nodup_iff.mpr ndl)
    have z2 : (rest.filter fun t => !decide (t ∈ tys way)) = rest := List.filter_eq_self.mpr fun t ht => by
      have : t ∉ tys way := fun z => nd2.2.2 t z t ht rfl
      simpa using this
    rw [z1, z2, List.nil_append]
  have hst : grT ((k : Int), left, found) = (((k + 1 : Nat) : Int), left.filter (fun t => !decide (t ∈ tys way)), found.take k ++ way ++ found.drop (k + 1)) := by
    unfold grT
    simp only [lett]
    rw [hp, hway, ties_val, List.map_id', cut_to, show (k : Int) + 1 = ((k + 1 : Nat) : Int) by omega, cut_from]
  obtain ⟨r, hr⟩ : ∃ r, way = found[k] :: r := by
    cases e : way with
    | nil => rw [e] at w1; cases w1
    | cons a r => rw [e] at w1; exact ⟨r, by rw [Option.some.inj w1]⟩
  obtain ⟨r2, hr2⟩ := List.getLast?_eq_some_iff.mp w2
  have hf : found = found.take k ++ found[k] :: found.drop (k + 1) := by
    rw [List.getElem_cons_drop, List.take_append_drop]
  have hds : ∀ x S T, (S.Perm T) → dg x S = dg x T := fun x S T h => dg_perm h
  refine ⟨?_, ⟨by simp only; omega, by simp only; omega⟩, by simp only [hp, hway]; exact ok1, by simp only [hp, hway]; omega, by simp only; omega⟩
  rw [hst]
  refine ⟨by simp only; omega, ?_, ?_, ?_, ?_, ?_, ?_⟩
  · simp only [List.length_append, List.length_take, List.length_drop]
    rw [hr]
    simp only [List.length_cons]
    omega
  · show (found.take k ++ way ++ found.drop (k + 1)).head? = some p0
    cases k with
    | zero =>
      rw [List.take_zero, List.nil_append, List.head?_append, w1]
      rw [hf, List.take_zero, List.nil_append, List.head?_cons] at hd
      simpa using hd
    | succ k =>
      cases found with
      | nil => simp at hk
      | cons a f =>
        simp only [List.head?_cons] at hd
        simp [hd]
  · show (found.take k ++ way ++ found.drop (k + 1)).getLast? = some p0
    rw [List.getLast?_append]
    rw [hf, List.getLast?_append, List.getLast?_cons] at ls
    cases e : (found.drop (k + 1)).getLast? with
    | none =>
      rw [e] at ls
      simp at ls
      rw [List.getLast?_append, w2, ls]
      rfl
    | some z =>
      rw [e] at ls
      simp at ls
      rw [ls]
      rfl
  · show (tys (found.take k ++ way ++ found.drop (k + 1)) ++ left.filter (fun t => !decide (t ∈ tys way))).Perm ts
    have t1 : tys (found.take k ++ way ++ found.drop (k + 1)) = tys (found.take k ++ [found[k]]) ++ (tys way ++ tys (found[k] :: found.drop (k + 1))) := by
      have a1 : found.take k ++ way ++ found.drop (k + 1) = found.take k ++ found[k] :: (r ++ found.drop (k + 1)) := by rw [hr]; simp
      rw [a1, tys_app]
      congr 1
      have a2 : found[k] :: (r ++ found.drop (k + 1)) = r2 ++ found[k] :: found.drop (k + 1) := by
        rw [← List.cons_append, ← hr, hr2, List.append_assoc]
        rfl
      rw [a2, tys_app, ← hr2]
    have t2 : tys found = tys (found.take k ++ [found[k]]) ++ tys (found[k] :: found.drop (k + 1)) := by
      conv => lhs; rw [hf]
      rw [tys_app]
    rw [t1]
    rw [t2] at pm
    refine List.Perm.trans ?_ pm
    rw [List.append_assoc, List.append_assoc, List.append_assoc (tys (found.take k ++ [found[k]]))]
    refine List.Perm.append_left _ ?_
    refine ((hrest.append_left _).append_left _).trans ?_
    refine List.perm_append_comm.trans ?_
    rw [List.append_assoc]
    refine List.Perm.append_left _ ?_
    exact List.perm_append_comm.trans w3
  · intro x
    rw [hds x _ _ hrest]
    exact w5 x
  · intro x hx
    rw [hds x _ _ hrest]
    have e : (found.take k ++ way ++ found.drop (k + 1)).take (((k + 1 : Nat) : Int)).toNat = found.take k ++ [found[k]] := by
      rw [show (((k + 1 : Nat) : Int)).toNat = k + 1 by omega, List.append_assoc, List.take_append, List.length_take, show min k found.length = k by omega, List.take_of_length_le (by rw [List.length_take]; omega)]
      rw [hr, show k + 1 - k = 1 by omega]
      rfl
    have hx : x ∈ found.take k ++ [found[k]] := by rw [← e]; exact hx
    rcases List.mem_append.mp hx with hx | hx
    · have := dn x (by rw [show ((k : Int)).toNat = k by omega]; exact hx)
      have q := hds x _ _ w3
      rw [dg_app] at q
      omega
    · rw [List.mem_singleton.mp hx]
      exact w4
def Conn (S : List (Int × Int)) : Prop := ∀ s ∈ S, ∀ t ∈ S, Cn S s.1 t.1
theorem way_cn {S : List (Int × Int)} : ∀ (way : List Int) (a : Int), way.head? = some a → (∀ t ∈ tys way, t ∈ S) → ∀ x ∈ way, Cn S a x
  | [], a, h, _ => by cases h
  | [b], a, h, _ => fun x hx => by
    have e1 : b = a := by simpa using h
    have e2 : x = b := by simpa using hx
    rw [e2, e1]
    exact .refl _
  | b :: c :: r, a, h, k => fun x hx => by
    have e1 : b = a := by simpa using h
    subst e1
    rcases List.mem_cons.mp hx with rfl | hx
    · exact .refl _
    · have ih := way_cn (c :: r) c rfl (fun t ht => k t (by rw [tys]; exact List.mem_cons_of_mem _ ht)) x hx
      have hb := k (mn b c) (by rw [tys]; exact List.mem_cons_self)
      have : Adj S b c := by
        rcases Int.le_total b c with z | z
        · simp only [mn, Int.min_eq_left z, Int.max_eq_right z] at hb
          exact .inl hb
        · simp only [mn, Int.min_eq_right z, Int.max_eq_left z] at hb
          exact .inr hb
      exact (Cn.one this).trans ih
theorem cn_stay {S : List (Int × Int)} {P : Int → Prop} (h : ∀ t ∈ S, P t.1 ↔ P t.2) {a b : Int} (c : Cn S a b) (ha : P a) : P b := by
  induction c with
  | refl => exact ha
  | step _ e ih =>
    rcases e with e | e
    · exact (h _ e).mp ih
    · exact (h _ e).mpr ih
theorem gone_all {ts : List (Int × Int)} (hl : ∀ t ∈ ts, t.1 < t.2) (nd : ts.Nodup) (hn : ts.length ≤ 100) (hne : ts ≠ []) : ok_gone_round ts ∧ (v_gone_round ts ≠ [] ↔ Evn ts ∧ Conn ts) ∧
    (v_gone_round ts ≠ [] → (v_gone_round ts).head? = some (gI ts 0).1 ∧ (v_gone_round ts).getLast? = some (gI ts 0).1 ∧ (tys (v_gone_round ts)).Perm ts) := by
  have h0 := first_mem hne
  have hix : IxOk ts (0 : Int) := ⟨by omega, by have := List.length_pos_iff.mpr hne; omega⟩
  by_cases hev : Evn ts
  · have hodd := odd_iff.mpr hev
    have s0 : GI ts (gI ts 0).1 ((0 : Int), ts, [(gI ts 0).1]) := ⟨by simp only; omega, by simp, rfl, rfl, .refl _, hev, fun x hx => by simp at hx⟩
    have hw := whl_all (c := grC) (st := grT) (okc := fun _ => True) (okb := fun (s : GS) => ((IxOk s.2.2 s.1) ∧ (ok_round_from s.2.1 (gI s.2.2 s.1))) ∧ (lett (v_round_from s.2.1 (gI s.2.2 s.1)) fun (way13 : List Int) => lett ((s.2.1.filter fun (tie14 : Int × Int) => (!decide (tie14 ∈ (v_ties_of way13)))).map fun (tie14 : Int × Int) => tie14) fun (left15 : List (Int × Int)) => ((CatOk (cutL s.2.2 none (some s.1)) way13) ∧ (CatOk ((cutL s.2.2 none (some s.1)) ++ way13) (cutL s.2.2 (some (s.1 + (1 : Int))) none))) ∧ (lett (((cutL s.2.2 none (some s.1)) ++ way13) ++ (cutL s.2.2 (some (s.1 + (1 : Int))) none)) fun (found16 : List Int) => lett (s.1 + (1 : Int)) fun (at17 : Int) => True)))
      (GI ts (gI ts 0).1) (fun s => (ts.length + 1 : Int).toNat - s.1.toNat) (fun s I => ⟨trivial, fun hc => by
        obtain ⟨a1, a2, a3, a4, a5⟩ := I.step hl nd (by omega) hc
        have lo := I.lo
        have hi : s.1 < (s.2.2.length : Int) := of_decide_eq_true hc
        have hlen := I.pm.length_eq
        rw [List.length_append, tys_len] at hlen
        refine ⟨⟨⟨a2, a3⟩, ?_⟩, a1, ?_⟩
        · simp only [lett]
          refine ⟨⟨?_, ?_⟩, trivial⟩
          · have := cut_short s.2.2 none (some s.1)
            simp only [CatOk]
            omega
          · have := cut_short s.2.2 none (some s.1)
            have := cut_short s.2.2 (some (s.1 + (1 : Int))) none
            simp only [CatOk, List.length_append]
            omega
        · have e : (grT s).1 = s.1 + 1 := rfl
          rw [e]
          omega⟩) 300 _ s0 (by show (ts.length + 1 : Int).toNat - (0 : Int).toNat < 300; omega)
    obtain ⟨w1, I, w3⟩ := hw
    refine ⟨⟨hix, places_ok (by omega), fun _ => w1⟩, ?_⟩
    generalize hs : whlV grC grT 300 ((0 : Int), ts, [(gI ts 0).1]) = s at I w3
    have hv : v_gone_round ts = if (decide (s.2.1 = ([] : List (Int × Int)))) = true then s.2.2 else [] := by
      rw [← hs]
      unfold v_gone_round lett2
      rw [hodd]
      rfl
    have hdone : ∀ x ∈ s.2.2, dg x s.2.1 = 0 := fun x hx => by
      have : ¬ s.1 < (s.2.2.length : Int) := of_decide_eq_false w3
      have hi := I.hi
      refine I.dn x ?_
      rw [List.take_of_length_le (by omega)]
      exact hx
    have hfne : s.2.2 ≠ [] := fun e => by have := I.hd; rw [e] at this; cases this
    by_cases hle : s.2.1 = []
    · rw [hv, if_pos (by simpa using hle)]
      have pm := I.pm
      rw [hle, List.append_nil] at pm
      refine ⟨⟨fun _ => ⟨hev, fun a ha b hb => ?_⟩, fun _ => hfne⟩, fun _ => ⟨I.hd, I.ls, pm⟩⟩
      have q := way_cn (S := ts) s.2.2 _ I.hd fun t ht => pm.mem_iff.mp ht
      exact (q _ (tys_in (pm.mem_iff.mpr ha)).1).symm.trans (q _ (tys_in (pm.mem_iff.mpr hb)).1)
    · rw [hv, if_neg (by simpa using hle)]
      refine ⟨⟨fun z => absurd rfl z, fun ⟨_, hc⟩ => ?_⟩, fun z => absurd rfl z⟩
      exfalso
      obtain ⟨t, ht⟩ := List.exists_mem_of_ne_nil _ hle
      have htt : t ∈ ts := I.pm.mem_iff.mp (List.mem_append_right _ ht)
      have c := hc _ h0 _ htt
      have hst : (gI ts 0).1 ∈ s.2.2 := List.mem_of_mem_head? (by rw [I.hd]; rfl)
      have key : t.1 ∈ s.2.2 := cn_stay (P := fun x => x ∈ s.2.2) (fun u hu => by
        rcases List.mem_append.mp (I.pm.mem_iff.mpr hu) with k | k
        · exact ⟨fun _ => (tys_in k).2, fun _ => (tys_in k).1⟩
        · constructor
          · intro z
            exact absurd rfl (dg_zero.mp (hdone _ z) u k).1
          · intro z
            exact absurd rfl (dg_zero.mp (hdone _ z) u k).2) c hst
      exact (dg_zero.mp (hdone _ key) t ht).1 rfl
  · have hodd : (((v_places_of ts).map fun (p : Int) => (decide (((((ts.filter fun (t : Int × Int) => (decide (p = t.1) || decide (p = t.2))).map fun (t : Int × Int) => t).length : Int) % (2 : Int)) = (1 : Int)))).any id) = true := by
      cases e : (((v_places_of ts).map fun (p : Int) => (decide (((((ts.filter fun (t : Int × Int) => (decide (p = t.1) || decide (p = t.2))).map fun (t : Int × Int) => t).length : Int) % (2 : Int)) = (1 : Int)))).any id) with
      | true => rfl
      | false => exact absurd (odd_iff.mp e) hev
    have hv : v_gone_round ts = [] := by
      unfold v_gone_round lett2
      rw [hodd]
      rfl
    rw [hv]
    refine ⟨⟨hix, places_ok (by omega), fun z => ?_⟩, ⟨fun z => absurd rfl z, fun z => absurd z.1 hev⟩, fun z => absurd rfl z⟩
    rw [hodd] at z
    cases z
end TY

set_option Elab.async false
set_option linter.all false
set_option maxRecDepth 100000
set_option maxHeartbeats 4000000
namespace TY
open TW PySem PySem.Spec PyProof.Rows L2
theorem band_one (m : Nat) : Builtin.bitAnd (m : Int) 1 = ((m % 2 : Nat) : Int) := by
  unfold Builtin.bitAnd
  have e1 : decide ((0 : Int) ≤ (m : Int)) = true := decide_eq_true (by omega)
  have e2 : decide ((0 : Int) ≤ 1) = true := rfl
  rw [e1, e2]
  show (((m : Int).toNat &&& (1 : Int).toNat : Nat) : Int) = _
  rw [show ((m : Int)).toNat = m by omega, show ((1 : Int)).toNat = 1 by omega, Nat.and_one_is_mod]
def pk {α : Type} : Nat → List α → List α
  | _, [] => []
  | N, t :: ts => if N % 2 = 1 then t :: pk (N / 2) ts else pk (N / 2) ts
theorem pk_sub {α : Type} : ∀ (N : Nat) (ts : List α), (pk N ts).Sublist ts
  | _, [] => List.Sublist.refl _
  | N, t :: ts => by
    unfold pk
    split
    · exact (pk_sub _ ts).cons_cons t
    · exact (pk_sub _ ts).cons t
theorem pk_zero {α : Type} : ∀ ts : List α, pk 0 ts = []
  | [] => rfl
  | t :: ts => by
    unfold pk
    rw [if_neg (by omega)]
    exact pk_zero ts
theorem pk_all {α : Type} {S ts : List α} (h : S.Sublist ts) : ∃ N, N < 2 ^ ts.length ∧ pk N ts = S := by
  induction h with
  | slnil => exact ⟨0, by simp, rfl⟩
  | @cons l1 l2 a _ ih =>
    obtain ⟨N, h1, h2⟩ := ih
    refine ⟨2 * N, ?_, ?_⟩
    · rw [List.length_cons, Nat.pow_succ]; omega
    · unfold pk
      rw [if_neg (by omega), show 2 * N / 2 = N by omega, h2]
  | @cons_cons l1 l2 a _ ih =>
    obtain ⟨N, h1, h2⟩ := ih
    refine ⟨2 * N + 1, ?_, ?_⟩
    · rw [List.length_cons, Nat.pow_succ]; omega
    · unfold pk
      rw [if_pos (by omega), show (2 * N + 1) / 2 = N by omega, h2]
theorem pk_en (N : Nat) : ∀ (ts : List (Int × Int)) (n : Nat), ((((ts.zipIdx n).map fun p => ((p.2 : Int), p.1)).filter fun (it : Int × (Int × Int)) => (decide ((Builtin.bitAnd ((N : Int) / 2 ^ it.1.toNat) (1 : Int)) = (1 : Int)))).map fun (it : Int × (Int × Int)) => it.2) = pk (N / 2 ^ n) ts
  | [], n => rfl
  | t :: ts, n => by
    rw [List.zipIdx_cons, List.map_cons, List.filter_cons]
    have ih := pk_en N ts (n + 1)
    have e : (N : Int) / 2 ^ ((n : Int)).toNat = ((N / 2 ^ n : Nat) : Int) := by
      rw [show ((n : Int)).toNat = n by omega]
      simp
    simp only [e, band_one]
    unfold pk
    rw [Nat.div_div_eq_div_mul, ← Nat.pow_succ, ← ih]
    by_cases h : N / 2 ^ n % 2 = 1
    · rw [if_pos h, if_pos (by rw [h]; rfl)]
      rfl
    · rw [if_neg h, if_neg (by
        simp only [decide_eq_true_eq]
        omega)]
theorem chosen_val (w : Wb) (N : Nat) : v_chosen w (N : Int) = pk N w.2 := by
  have := pk_en N w.2 0
  rw [Nat.pow_zero, Nat.div_one] at this
  exact this
theorem chosen_ok (w : Wb) (x : Int) : ok_chosen w x := fun it hit => by
  obtain ⟨k, h, _⟩ := en_mem.mp hit
  omega
def Meets (ts : List (Int × Int)) (P : Int → Prop) : Prop := ∀ t ∈ ts, P t.1 ∨ P t.2
theorem meets_iff {w : Wb} {ps : List Int} : v_meets_all w ps = true ↔ Meets w.2 fun x => x ∈ ps := by
  unfold v_meets_all Meets
  rw [List.all_map, List.all_eq_true]
  simp
structure Trl (ts S : List (Int × Int)) : Prop where
  sub : S.Sublist ts
  len : 2 < S.length
  met : Meets ts fun x => ∃ t ∈ S, x = t.1 ∨ x = t.2
  evn : Evn S
  con : Conn S
structure Way (w : Wb) (way : List Int) : Prop where
  alone : way.length = 1 → ∃ p, way = [p] ∧ InR w.1 p ∧ Meets w.2 fun x => x = p
  trail : way.length ≠ 1 → ∃ S p, Trl w.2 S ∧ (tys way).Perm S ∧ way.head? = some p ∧ way.getLast? = some p
def trA (w : Wb) (x : Int) : Option (List Int) := if v_meets_all w [x] = true then some [x] else none
def trB (w : Wb) (x : Int) : Option (List Int) := if (decide ((2 : Int) < ((v_chosen w x).length : Int)) && v_meets_all w (v_places_of (v_chosen w x))) = true then (if v_gone_round (v_chosen w x) = [] then none else some (v_gone_round (v_chosen w x))) else none
theorem trail_val (w : Wb) : v_trail_of w = ((rg 0 w.1).findSome? (trA w)).orElse fun _ => (rg 1 ((1 : Int) * 2 ^ (w.2.length : Int).toNat)).findSome? (trB w) := by
  unfold v_trail_of
  rw [forR_find (g := fun x => (trA w x).map some), forR_find (g := fun x => (trB w x).map some)]
  · have key : ∀ (f : Int → Option (List Int)) (l : List Int), l.findSome? (fun x => (f x).map some) = (l.findSome? f).map some := fun f l => by
      induction l with
      | nil => rfl
      | cons a l ih =>
        rw [List.findSome?_cons, List.findSome?_cons, ih]
        cases f a <;> rfl
    rw [key, key]
    cases (rg 0 w.1).findSome? (trA w) with
    | some y => rfl
    | none =>
      cases (rg 1 ((1 : Int) * 2 ^ (w.2.length : Int).toNat)).findSome? (trB w) <;> rfl
  · intro x _
    unfold trB
    refine lett_val rfl ?_
    by_cases h : (decide ((2 : Int) < ((v_chosen w x).length : Int)) && v_meets_all w (v_places_of (v_chosen w x))) = true
    · rw [if_pos h, if_pos h]
      generalize v_gone_round (v_chosen w x) = g
      by_cases k : g = []
      · subst k
        rfl
      · rw [if_neg k]
        have e : (lett g fun (f : List Int) => (if (!decide (f = ([] : List Int))) = true then (Sum.inr (some f) : Unit ⊕ Option (List Int)) else Sum.inl ())) = Sum.inr (some g) := by
          unfold lett
          simp only
          rw [if_pos (by simpa using k)]
        rw [e]
        rfl
    · rw [if_neg h, if_neg h]
      rfl
  · intro x _
    unfold trA
    split <;> rfl
theorem find_or {α β : Type} {l : List α} {f : α → Option β} {y : β} (h : l.findSome? f = some y) : ∃ x ∈ l, f x = some y := List.exists_of_findSome?_eq_some h
section
variable {w : Wb} (hw : Web w.1 w.2) (hn : w.2.length ≤ 10)
include hw hn
theorem ch_facts {x : Int} (hx : 0 ≤ x) : (v_chosen w x).Sublist w.2 := by
  obtain ⟨N, rfl⟩ : ∃ N : Nat, x = (N : Int) := ⟨x.toNat, by omega⟩
  rw [chosen_val]
  exact pk_sub _ _
theorem ch_gone {x : Int} (hx : 0 ≤ x) (h2 : 2 < (v_chosen w x).length) : ok_gone_round (v_chosen w x) ∧ (v_gone_round (v_chosen w x) ≠ [] ↔ Evn (v_chosen w x) ∧ Conn (v_chosen w x)) ∧
    (v_gone_round (v_chosen w x) ≠ [] → (v_gone_round (v_chosen w x)).head? = some (gI (v_chosen w x) 0).1 ∧ (v_gone_round (v_chosen w x)).getLast? = some (gI (v_chosen w x) 0).1 ∧ (tys (v_gone_round (v_chosen w x))).Perm (v_chosen w x)) := by
  have hs := ch_facts hw hn hx
  exact gone_all (fun t ht => (hw.ok t (hs.subset ht)).2.1) ((web_lft hw).nd.sublist hs) (by have := hs.length_le; omega) (fun e => by rw [e] at h2; simp at h2)
theorem trail_ok : ok_trail_of w := by
  have h0 := hw.lo
  have h24 := hw.hi
  have hp : (2 : Int) ^ (w.2.length : Int).toNat ≤ 1024 := by
    have := Nat.pow_le_pow_right (show 0 < 2 by omega) (show (w.2.length : Int).toNat ≤ 10 by omega)
    exact_mod_cast this
  have hp0 : (0 : Int) ≤ (2 : Int) ^ (w.2.length : Int).toNat := Int.pow_nonneg (by omega)
  refine ⟨⟨by omega, by omega, by omega, by omega⟩, ?_⟩
  cases forR _ (rg (0 : Int) w.1) () with
  | inr r => trivial
  | inl u =>
    refine ⟨⟨⟨by omega, by omega, by decide⟩, ⟨by omega, by omega, by omega, by omega⟩⟩, okFor_of fun _ x hx => ?_⟩
    have hx0 : 0 ≤ x := by have := rg_mem.mp hx; omega
    refine ⟨chosen_ok _ _, lett_to rfl ⟨fun h => places_ok (by have := (ch_facts hw hn hx0).length_le; omega), fun h => ?_⟩⟩
    have h2 : 2 < (v_chosen w x).length := by
      have := of_decide_eq_true (Bool.and_eq_true_iff.mp h).1
      omega
    exact (ch_gone hw hn hx0 h2).1
theorem trail_told {way : List Int} (h : v_trail_of w = some way) : Way w way := by
  rw [trail_val] at h
  cases e : (rg 0 w.1).findSome? (trA w) with
  | some y =>
    rw [e] at h
    have : y = way := by simpa using h
    subst this
    obtain ⟨p, hp, hq⟩ := find_or e
    unfold trA at hq
    split at hq
    · have hm := meets_iff.mp (by assumption)
      have : [p] = y := by simpa using hq
      subst this
      exact ⟨fun _ => ⟨p, rfl, rg_mem.mp hp, fun t ht => by simpa using hm t ht⟩, fun z => absurd rfl z⟩
    · cases hq
  | none =>
    rw [e] at h
    obtain ⟨x, hx, hq⟩ := find_or (show (rg 1 _).findSome? (trB w) = some way from h)
    have hx0 : 0 ≤ x := by have := rg_mem.mp hx; omega
    unfold trB at hq
    split at hq
    · rename_i hc
      obtain ⟨c1, c2⟩ := Bool.and_eq_true_iff.mp hc
      have h2 : 2 < (v_chosen w x).length := by
        have := of_decide_eq_true c1
        omega
      obtain ⟨_, g1, g2⟩ := ch_gone hw hn hx0 h2
      split at hq
      · cases hq
      · rename_i hne
        have : v_gone_round (v_chosen w x) = way := by simpa using hq
        obtain ⟨a1, a2, a3⟩ := g2 hne
        obtain ⟨b1, b2⟩ := g1.mp hne
        rw [this] at a1 a2 a3
        have hm := meets_iff.mp c2
        refine ⟨fun z => ?_, fun _ => ⟨v_chosen w x, _, ⟨ch_facts hw hn hx0, h2, fun t ht => ?_, b1, b2⟩, a3, a1, a2⟩⟩
        · have := a3.length_eq
          rw [tys_len] at this
          omega
        · rcases hm t ht with k | k
          · exact .inl (places_mem.mp k)
          · exact .inr (places_mem.mp k)
    · cases hq
theorem trail_iff : (v_trail_of w).isSome = true ↔ (∃ p, InR w.1 p ∧ Meets w.2 fun x => x = p) ∨ ∃ S, Trl w.2 S := by
  constructor
  · intro h
    obtain ⟨way, h⟩ := Option.isSome_iff_exists.mp h
    have t := trail_told hw hn h
    by_cases k : way.length = 1
    · obtain ⟨p, _, h1, h2⟩ := t.alone k
      exact .inl ⟨p, h1, h2⟩
    · obtain ⟨S, _, h1, _⟩ := t.trail k
      exact .inr ⟨S, h1⟩
  · intro h
    rw [trail_val]
    cases e : (rg 0 w.1).findSome? (trA w) with
    | some y => rfl
    | none =>
      rw [List.findSome?_eq_none_iff] at e
      rcases h with ⟨p, h1, h2⟩ | ⟨S, h⟩
      · have := e p (rg_mem.mpr h1)
        unfold trA at this
        rw [if_pos (meets_iff.mpr fun t ht => by simpa using h2 t ht)] at this
        cases this
      · show ((rg 1 _).findSome? (trB w)).isSome = true
        rw [List.findSome?_isSome_iff]
        obtain ⟨N, hN1, hN2⟩ := pk_all h.sub
        have hN0 : N ≠ 0 := fun z => by
          rw [z, pk_zero] at hN2
          have := h.len
          rw [← hN2] at this
          simp at this
        have hc : v_chosen w (N : Int) = S := by rw [chosen_val, hN2]
        have hp : (2 : Int) ^ (w.2.length : Int).toNat = ((2 ^ w.2.length : Nat) : Int) := by
          rw [show ((w.2.length : Int)).toNat = w.2.length by omega]
          simp
        refine ⟨(N : Int), rg_mem.mpr ⟨by omega, by rw [hp]; omega⟩, ?_⟩
        have hg := ch_gone hw hn (x := (N : Int)) (by omega) (by rw [hc]; exact h.len)
        rw [hc] at hg
        unfold trB
        rw [hc, if_pos, if_neg (hg.2.1.mpr ⟨h.evn, h.con⟩)]
        · rfl
        · have := h.len
          refine and_yes (decide_eq_true (by omega)) (meets_iff.mpr fun t ht => ?_)
          rcases h.met t ht with k | k
          · exact .inl (places_mem.mpr k)
          · exact .inr (places_mem.mpr k)
end
end TY

set_option Elab.async false
set_option linter.all false
set_option maxRecDepth 100000
set_option maxHeartbeats 4000000
namespace TY
open TW PySem PySem.Spec PyProof.Rows L2
end TY

set_option Elab.async false
set_option linter.all false
set_option maxRecDepth 100000
set_option maxHeartbeats 4000000
namespace TY
open TW PySem PySem.Spec PyProof.Rows L2
end TY

set_option Elab.async false
set_option linter.all false
set_option maxRecDepth 100000
set_option maxHeartbeats 4000000
namespace TY
open TW PySem PySem.Spec PyProof.Rows L2
end TY

set_option Elab.async false
set_option linter.all false
set_option maxRecDepth 100000
set_option maxHeartbeats 4000000
namespace TY
open TW PySem PySem.Spec PyProof.Rows L2
end TY

set_option Elab.async false
set_option linter.all false
set_option maxRecDepth 100000
set_option maxHeartbeats 4000000
namespace TY
open TW PySem PySem.Spec PyProof.Rows L2
end TY

set_option Elab.async false
set_option linter.all false
set_option maxRecDepth 100000
set_option maxHeartbeats 4000000
namespace TY
open TW PySem PySem.Spec PyProof.Rows L2
theorem few_ok {w : Wb} (h : Web w.1 w.2) {m : Int} (hn : (w.2.length : Int) ≤ m) : ok_check_few_ties w m := by
  unfold ok_check_few_ties
  exact or_no (nt (web_is h)) (decide_eq_false (by omega))
end TY

set_option Elab.async false
set_option linter.all false
set_option maxRecDepth 100000
set_option maxHeartbeats 4000000
namespace TY
open TW PySem PySem.Spec PyProof.Rows L2
def v_trail (web_ : Int × (List (Int × Int))) : Option (List (Int)) := (v_trail_of web_)
def ok_trail (web_ : Int × (List (Int × Int))) : Prop := (ok_check_few_ties web_ (10 : Int)) ∧ (ok_trail_of web_)
theorem r_trail (k : Nat) (hk : 6 ≤ k) (web_ : Int × (List (Int × Int))) (h : ok_trail web_) : Fn (run GP k) 91 [eW web_] .fl ((eO (eL D.int)) (v_trail web_)) := by
  obtain ⟨k, rfl⟩ : ∃ j, k = j + 1 := ⟨k - 1, by omega⟩
  exact fn_retR (Fu := fu_trail) (e := (eO (eL D.int))) (v := v_trail web_) rfl rfl (show Blk _ _ [some (.sh, eW web_)] (rtF _ _ ((v_trail_of web_))) from (blk_exp (ev_cal (evs_cons (ev_var rfl) (evs_cons (ev_int _) evs_nil)) (r_check_few_ties k (by omega) web_ (10 : Int) h.1)) (blk_retR (evr_of (ev_cal (evs_cons (ev_var rfl) evs_nil) (r_trail_of k (by omega) web_ h.2))))))
end TY

set_option Elab.async false
set_option linter.all false
set_option maxRecDepth 100000
set_option maxHeartbeats 4000000
namespace TY
open TW PySem PySem.Spec PyProof.Rows L2
def v_law_meets (web_here_ : Int × (List (Int × Int))) (places_ : List (Int)) : Bool := ((web_here_.2.map fun (it2 : Int × Int) => ((decide (it2.1 ∈ places_)) || (decide (it2.2 ∈ places_)))).all id)
theorem r_law_meets (k : Nat) (hk : 1 ≤ k) (web_here_ : Int × (List (Int × Int))) (places_ : List (Int)) : Fn (run GP k) 92 [eW web_here_, (eL D.int) places_] .dp (D.bl (v_law_meets web_here_ places_)) := by
  obtain ⟨k, rfl⟩ : ∃ j, k = j + 1 := ⟨k - 1, by omega⟩
  exact fn_retR (Fu := fu_law_meets) (e := D.bl) (v := v_law_meets web_here_ places_) rfl rfl (show Blk _ _ [some (.sh, eW web_here_), some (.sh, (eL D.int) places_), none, none] (rtF _ _ (((web_here_.2.map fun (it2 : Int × Int) => ((decide (it2.1 ∈ places_)) || (decide (it2.2 ∈ places_)))).all id))) from (blk_retR (evr_of (ev_all (ev_compC0 (e2 D.int D.int) D.bl web_here_.2 (fun (it2 : Int × Int) => ((decide (it2.1 ∈ places_)) || (decide (it2.2 ∈ places_)))) (fun _ => (cl_lf lf_bl)) (es_list (ev_tat (ev_var rfl) rfl)) (fun it2 hq5 => ⟨_, rfl, (ev_or (ev_cmp (ev_var rfl) (ev_var rfl) (cm_in (e := D.int) dt_int (by decide) it2.1 places_)) (fun hq8 => (ev_cmp (ev_var rfl) (ev_var rfl) (cm_in (e := D.int) dt_int (by decide) it2.2 places_))))⟩))))))
end TY

set_option Elab.async false
set_option linter.all false
set_option maxRecDepth 100000
set_option maxHeartbeats 4000000
namespace TY
open TW PySem PySem.Spec PyProof.Rows L2
def v_law_goes : Nat → (Int × (List (Int × Int))) → (List (List (Int))) → (List (Int)) → (List (Int × Int)) → Bool
  | 0, _, _, _, _ => default
  | fuel + 1, web_here_, around_, way_, gone_ => (if ((decide ((3 : Int) < (way_.length : Int))) && ((decide ((gI way_ (0 : Int)) = (gI way_ (-(1 : Int))))) && (v_law_meets web_here_ way_))) = true then true else orElse (forR (fun (s1 : Unit) (x2 : Int) => (lett ((min x2 (gI way_ (-(1 : Int)))), (max x2 (gI way_ (-(1 : Int))))) fun (tie3 : Int × Int) => (if ((!decide (tie3 ∈ gone_)) && ((decide ((gI way_ (0 : Int)) ≤ x2)) && (v_law_goes fuel web_here_ around_ (way_ ++ [x2]) (gone_ ++ [tie3])))) = true then Sum.inr true else Sum.inl ()) : (Unit) ⊕ (Bool))) (gI around_ (gI way_ (-(1 : Int)))) () : (Unit) ⊕ (Bool)) fun (st4 : Unit) => false)
def ok_law_goes : Nat → (Int × (List (Int × Int))) → (List (List (Int))) → (List (Int)) → (List (Int × Int)) → Prop
  | 0, _, _, _, _ => False
  | fuel + 1, web_here_, around_, way_, gone_ => ((decide ((3 : Int) < (way_.length : Int))) = true → (IxOk way_ (0 : Int)) ∧ (IxOk way_ (-(1 : Int)))) ∧ (((decide ((3 : Int) < (way_.length : Int))) && ((decide ((gI way_ (0 : Int)) = (gI way_ (-(1 : Int))))) && (v_law_meets web_here_ way_))) = false → ((IxOk way_ (-(1 : Int))) ∧ (IxOk around_ (gI way_ (-(1 : Int))))) ∧ (okFor (fun (s1 : Unit) (x2 : Int) => ((IxOk way_ (-(1 : Int))) ∧ (IxOk way_ (-(1 : Int)))) ∧ (lett ((min x2 (gI way_ (-(1 : Int)))), (max x2 (gI way_ (-(1 : Int))))) fun (tie3 : Int × Int) => (!decide (tie3 ∈ gone_)) = true → (IxOk way_ (0 : Int)) ∧ ((decide ((gI way_ (0 : Int)) ≤ x2)) = true → (CatOk way_ ([x2])) ∧ (CatOk gone_ ([tie3])) ∧ (ok_law_goes fuel web_here_ around_ (way_ ++ [x2]) (gone_ ++ [tie3]))))) (fun (s1 : Unit) (x2 : Int) => (lett ((min x2 (gI way_ (-(1 : Int)))), (max x2 (gI way_ (-(1 : Int))))) fun (tie3 : Int × Int) => (if ((!decide (tie3 ∈ gone_)) && ((decide ((gI way_ (0 : Int)) ≤ x2)) && (v_law_goes fuel web_here_ around_ (way_ ++ [x2]) (gone_ ++ [tie3])))) = true then Sum.inr true else Sum.inl ()) : (Unit) ⊕ (Bool))) (gI around_ (gI way_ (-(1 : Int)))) ()))
theorem r_law_goes : ∀ (fuel k : Nat) (hk : fuel + 2 ≤ k) (web_here_ : Int × (List (Int × Int))) (around_ : List (List (Int))) (way_ : List (Int)) (gone_ : List (Int × Int)) (h : ok_law_goes fuel web_here_ around_ way_ gone_), Fn (run GP k) 95 [eW web_here_, (eL (eL D.int)) around_, (eL D.int) way_, (eL (e2 D.int D.int)) gone_] .dp (D.bl (v_law_goes fuel web_here_ around_ way_ gone_))
  | 0, _, _, _, _, _, _, h => h.elim
  | fuel + 1, k, hk, web_here_, around_, way_, gone_, h => by
    have ih := r_law_goes fuel
    obtain ⟨k, rfl⟩ : ∃ j, k = j + 1 := ⟨k - 1, by omega⟩
    exact fn_retR (Fu := fu_law_goes) (e := D.bl) (v := v_law_goes (fuel + 1) web_here_ around_ way_ gone_) rfl rfl (show Blk _ _ [some (.sh, eW web_here_), some (.sh, (eL (eL D.int)) around_), some (.sh, (eL D.int) way_), some (.sh, (eL (e2 D.int D.int)) gone_), none, none] (rtF _ _ ((if ((decide ((3 : Int) < (way_.length : Int))) && ((decide ((gI way_ (0 : Int)) = (gI way_ (-(1 : Int))))) && (v_law_meets web_here_ way_))) = true then true else orElse (forR (fun (s1 : Unit) (x2 : Int) => (lett ((min x2 (gI way_ (-(1 : Int)))), (max x2 (gI way_ (-(1 : Int))))) fun (tie3 : Int × Int) => (if ((!decide (tie3 ∈ gone_)) && ((decide ((gI way_ (0 : Int)) ≤ x2)) && (v_law_goes fuel web_here_ around_ (way_ ++ [x2]) (gone_ ++ [tie3])))) = true then Sum.inr true else Sum.inl ()) : (Unit) ⊕ (Bool))) (gI around_ (gI way_ (-(1 : Int)))) () : (Unit) ⊕ (Bool)) fun (st4 : Unit) => false))) from (blk_if (ev_and (ev_cmp (ev_len (ev_var rfl)) (ev_int _) (cm_gt _ _)) (fun hq2 => (ev_and (ev_cmp (ev_at (e := D.int) (xs := way_) (ev_var rfl) (ev_int _) (h.1 hq2).1) (ev_at (e := D.int) (xs := way_) (ev_var rfl) (ev_neg (ev_int _)) (h.1 hq2).2) (cm_eq (e := D.int) dt_int (by decide) (gI way_ (0 : Int)) (gI way_ (-(1 : Int))))) (fun hq1 => (ev_cal (evs_cons (ev_var rfl) (evs_cons (ev_var rfl) evs_nil)) (r_law_meets k (by omega) web_here_ way_)))))) (fun hq3 => (blk_retR (evr_of (ev_bl _)))) (fun hq3 => (blk_thenR (env := (fun (st4 : Unit) => [some (.sh, eW web_here_), some (.sh, (eL (eL D.int)) around_), some (.sh, (eL D.int) way_), some (.sh, (eL (e2 D.int D.int)) gone_), none, none])) (OK := fun _ => True) (blk_forG (OK := fun (s1 : Unit) (x2 : Int) => ((IxOk way_ (-(1 : Int))) ∧ (IxOk way_ (-(1 : Int)))) ∧ (lett ((min x2 (gI way_ (-(1 : Int)))), (max x2 (gI way_ (-(1 : Int))))) fun (tie3 : Int × Int) => (!decide (tie3 ∈ gone_)) = true → (IxOk way_ (0 : Int)) ∧ ((decide ((gI way_ (0 : Int)) ≤ x2)) = true → (CatOk way_ ([x2])) ∧ (CatOk gone_ ([tie3])) ∧ (ok_law_goes fuel web_here_ around_ (way_ ++ [x2]) (gone_ ++ [tie3]))))) (env := (fun (s1 : Unit) => [some (.sh, eW web_here_), some (.sh, (eL (eL D.int)) around_), some (.sh, (eL D.int) way_), some (.sh, (eL (e2 D.int D.int)) gone_), none, none])) (ei := D.int) (es_list (ev_at (e := (eL D.int)) (xs := around_) (ev_var rfl) (ev_at (e := D.int) (xs := way_) (ev_var rfl) (ev_neg (ev_int _)) (h.2 hq3).1.1) (h.2 hq3).1.2)) ⟨⟨rfl, rfl⟩, ⟨rfl, rfl⟩, ⟨rfl, rfl⟩, ⟨rfl, rfl⟩, trivial, trivial, trivial⟩ (fun s1 x2 h => ⟨_, rfl, (blk_asgC (e := (e2 D.int D.int)) (ev_tupC (evs_cons (ev_min2 (ev_var rfl) (ev_at (e := D.int) (xs := way_) (ev_var rfl) (ev_neg (ev_int _)) h.1.1)) (evs_cons (ev_max2 (ev_var rfl) (ev_at (e := D.int) (xs := way_) (ev_var rfl) (ev_neg (ev_int _)) h.1.2)) evs_nil)) (cls_cons cl_dp (cls_cons cl_dp cls_nil))) (fun _ => cl_dp) (Γ1 := fun tie3 => [some (.sh, eW web_here_), some (.sh, (eL (eL D.int)) around_), some (.sh, (eL D.int) way_), some (.sh, (eL (e2 D.int D.int)) gone_), some (.sh, D.int x2), some (.dp, (e2 D.int D.int) tie3)]) (fun tie3 => ⟨⟨rfl, rfl⟩, ⟨rfl, rfl⟩, ⟨rfl, rfl⟩, ⟨rfl, rfl⟩, ⟨rfl, rfl⟩, ⟨rfl, rfl⟩, trivial⟩) (fun tie3 h => (blk_if (ev_and (ev_cmp (ev_var rfl) (ev_var rfl) (cm_nin (e := (e2 D.int D.int)) (dt_2 dt_int dt_int) (by decide) tie3 gone_)) (fun hq5 => (ev_and (ev_cmp (ev_var rfl) (ev_at (e := D.int) (xs := way_) (ev_var rfl) (ev_int _) (h hq5).1) (cm_ge _ _)) (fun hq4 => (ev_cal (evs_cons (ev_var rfl) (evs_cons (ev_var rfl) (evs_cons (ev_cat (ev_var rfl) (ev_lstC (evs_cons (ev_var rfl) evs_nil) (cls_cons (cl_lf lf_int) cls_nil)) ((h hq5).2 hq4).1) (evs_cons (ev_cat (ev_var rfl) (ev_lstC (evs_cons (ev_var rfl) evs_nil) (cls_cons (cl_lf (lf_2 lf_int lf_int)) cls_nil)) ((h hq5).2 hq4).2.1) evs_nil)))) (ih k (by omega) web_here_ around_ (way_ ++ [x2]) (gone_ ++ [tie3]) ((h hq5).2 hq4).2.2)))))) (fun hq6 => (blk_ret (evr_of (ev_bl _)))) (fun hq6 => (blk_nil ⟨⟨rfl, rfl⟩, ⟨rfl, rfl⟩, ⟨rfl, rfl⟩, ⟨rfl, rfl⟩, trivial, trivial, trivial⟩)))) h.2)⟩) (h.2 hq3).2) (fun st4 h => (blk_retR (evr_of (ev_bl _)))) (okThen_true _)))))
end TY

set_option Elab.async false
set_option linter.all false
set_option maxRecDepth 100000
set_option maxHeartbeats 4000000
namespace TY
open TW PySem PySem.Spec PyProof.Rows L2
def v_law_tried (web_here_ : Int × (List (Int × Int))) : Bool := (if (((rg (0 : Int) web_here_.1).map fun (place4 : Int) => (v_law_meets web_here_ ([place4]))).any id) = true then true else lett (v_law_near web_here_) fun (around5 : List (List (Int))) => (((rg (0 : Int) web_here_.1).map fun (place6 : Int) => (v_law_goes 40 web_here_ around5 ([place6]) ([] : List (Int × Int)))).any id))
def ok_law_tried (web_here_ : Int × (List (Int × Int))) : Prop := (RgOk' (0 : Int) web_here_.1) ∧ ((((rg (0 : Int) web_here_.1).map fun (place4 : Int) => (v_law_meets web_here_ ([place4]))).any id) = false → (ok_law_near web_here_) ∧ (lett (v_law_near web_here_) fun (around5 : List (List (Int))) => (RgOk' (0 : Int) web_here_.1) ∧ (∀ place6 ∈ (rg (0 : Int) web_here_.1), ok_law_goes 40 web_here_ around5 ([place6]) ([] : List (Int × Int)))))
theorem r_law_tried (k : Nat) (hk : 43 ≤ k) (web_here_ : Int × (List (Int × Int))) (h : ok_law_tried web_here_) : Fn (run GP k) 94 [eW web_here_] .dp (D.bl (v_law_tried web_here_)) := by
  obtain ⟨k, rfl⟩ : ∃ j, k = j + 1 := ⟨k - 1, by omega⟩
  exact fn_retR (Fu := fu_law_tried) (e := D.bl) (v := v_law_tried web_here_) rfl rfl (show Blk _ _ [some (.sh, eW web_here_), none, none] (rtF _ _ ((if (((rg (0 : Int) web_here_.1).map fun (place4 : Int) => (v_law_meets web_here_ ([place4]))).any id) = true then true else lett (v_law_near web_here_) fun (around5 : List (List (Int))) => (((rg (0 : Int) web_here_.1).map fun (place6 : Int) => (v_law_goes 40 web_here_ around5 ([place6]) ([] : List (Int × Int)))).any id)))) from (blk_if (ev_any (ev_compC0 D.int D.bl (rg (0 : Int) web_here_.1) (fun (place4 : Int) => (v_law_meets web_here_ ([place4]))) (fun _ => cl_dp) (es_rng (ev_int _) (ev_tat (ev_var rfl) rfl) h.1) (fun place4 hq8 => ⟨_, rfl, (ev_cal (evs_cons (ev_var rfl) (evs_cons (ev_lstC (evs_cons (ev_var rfl) evs_nil) (cls_cons (cl_lf lf_int) cls_nil)) evs_nil)) (r_law_meets k (by omega) web_here_ ([place4])))⟩))) (fun hq11 => (blk_retR (evr_of (ev_bl _)))) (fun hq11 => (blk_asgC (e := (eL (eL D.int))) (ev_cal (evs_cons (ev_var rfl) evs_nil) (r_law_near k (by omega) web_here_ (h.2 hq11).1)) (fun _ => cl_dp) (Γ1 := fun around5 => [some (.sh, eW web_here_), some (.dp, (eL (eL D.int)) around5), none]) (fun around5 => ⟨⟨rfl, rfl⟩, ⟨rfl, rfl⟩, trivial, trivial⟩) (fun around5 h => (blk_retR (evr_of (ev_any (ev_compC0 D.int D.bl (rg (0 : Int) web_here_.1) (fun (place6 : Int) => (v_law_goes 40 web_here_ around5 ([place6]) ([] : List (Int × Int)))) (fun _ => cl_dp) (es_rng (ev_int _) (ev_tat (ev_var rfl) rfl) h.1) (fun place6 hq12 => ⟨_, rfl, (ev_cal (evs_cons (ev_var rfl) (evs_cons (ev_var rfl) (evs_cons (ev_lstC (evs_cons (ev_var rfl) evs_nil) (cls_cons (cl_lf lf_int) cls_nil)) (evs_cons (ev_lstC evs_nil cls_nil) evs_nil)))) (r_law_goes 40 k (by omega) web_here_ around5 ([place6]) ([] : List (Int × Int)) (h.2 place6 hq12)))⟩)))))) (h.2 hq11).2))))
end TY

set_option Elab.async false
set_option linter.all false
set_option maxRecDepth 100000
set_option maxHeartbeats 4000000
namespace TY
open TW PySem PySem.Spec PyProof.Rows L2
def v_law_is_trail (web_here_ : Int × (List (Int × Int))) (way_ : List (Int)) : Bool := (if ((!true) || (!((way_.map fun (place1 : Int) => ((v_law_whole place1) && ((decide ((0 : Int) ≤ place1)) && (decide (place1 < web_here_.1))))).all id))) = true then false else (if (decide ((way_.length : Int) = (1 : Int))) = true then (v_law_meets web_here_ way_) else lett ((way_.zip (cutL way_ (some (1 : Int)) none)).map fun (it2 : Int × Int) => ((min it2.1 it2.2), (max it2.1 it2.2))) fun (ties3 : List (Int × Int)) => (if ((decide ((ties3.length : Int) < (3 : Int))) || ((!decide ((gI way_ (0 : Int)) = (gI way_ (-(1 : Int))))) || (decide (((dedB ties3).length : Int) < (ties3.length : Int))))) = true then false else (((ties3.map fun (tie4 : Int × Int) => (decide (tie4 ∈ web_here_.2))).all id) && (v_law_meets web_here_ way_)))))
def ok_law_is_trail (web_here_ : Int × (List (Int × Int))) (way_ : List (Int)) : Prop := ((!true) || (!((way_.map fun (place1 : Int) => ((v_law_whole place1) && ((decide ((0 : Int) ≤ place1)) && (decide (place1 < web_here_.1))))).all id))) = false → (decide ((way_.length : Int) = (1 : Int))) = false → lett ((way_.zip (cutL way_ (some (1 : Int)) none)).map fun (it2 : Int × Int) => ((min it2.1 it2.2), (max it2.1 it2.2))) fun (ties3 : List (Int × Int)) => (decide ((ties3.length : Int) < (3 : Int))) = false → ((IxOk way_ (0 : Int)) ∧ (IxOk way_ (-(1 : Int)))) ∧ ((!decide ((gI way_ (0 : Int)) = (gI way_ (-(1 : Int))))) = false → ties3.length < 64)
theorem r_law_is_trail (k : Nat) (hk : 2 ≤ k) (web_here_ : Int × (List (Int × Int))) (way_ : List (Int)) (h : ok_law_is_trail web_here_ way_) : Fn (run GP k) 93 [eW web_here_, (eL D.int) way_] .sh (D.bl (v_law_is_trail web_here_ way_)) := by
  obtain ⟨k, rfl⟩ : ∃ j, k = j + 1 := ⟨k - 1, by omega⟩
  exact fn_retR (Fu := fu_law_is_trail) (e := D.bl) (v := v_law_is_trail web_here_ way_) rfl rfl (show Blk _ _ [some (.sh, eW web_here_), some (.sh, (eL D.int) way_), none, none, none, none, none] (rtF _ _ ((if ((!true) || (!((way_.map fun (place1 : Int) => ((v_law_whole place1) && ((decide ((0 : Int) ≤ place1)) && (decide (place1 < web_here_.1))))).all id))) = true then false else (if (decide ((way_.length : Int) = (1 : Int))) = true then (v_law_meets web_here_ way_) else lett ((way_.zip (cutL way_ (some (1 : Int)) none)).map fun (it2 : Int × Int) => ((min it2.1 it2.2), (max it2.1 it2.2))) fun (ties3 : List (Int × Int)) => (if ((decide ((ties3.length : Int) < (3 : Int))) || ((!decide ((gI way_ (0 : Int)) = (gI way_ (-(1 : Int))))) || (decide (((dedB ties3).length : Int) < (ties3.length : Int))))) = true then false else (((ties3.map fun (tie4 : Int × Int) => (decide (tie4 ∈ web_here_.2))).all id) && (v_law_meets web_here_ way_))))))) from (blk_if (ev_or (ev_not (ev_isi (ev_var rfl) rfl)) (fun hq39 => (ev_not (ev_all (ev_compC0 D.int D.bl way_ (fun (place1 : Int) => ((v_law_whole place1) && ((decide ((0 : Int) ≤ place1)) && (decide (place1 < web_here_.1))))) (fun _ => (cl_lf lf_bl)) (es_list (ev_var rfl)) (fun place1 hq35 => ⟨_, rfl, (ev_and (ev_cal (evs_cons (ev_var rfl) evs_nil) (r_law_whole k (by omega) place1)) (fun hq38 => (ev_chn (ev_int _) (ev_var rfl) (ev_tat (ev_var rfl) rfl) (cm_le _ _) (cm_lt _ _))))⟩)))))) (fun hq40 => (blk_retR (Evr.le (evr_of (ev_bl _)) rfl))) (fun hq40 => (blk_if (ev_cmp (ev_len (ev_var rfl)) (ev_int _) (cm_eq (e := D.int) dt_int (by decide) (way_.length : Int) (1 : Int))) (fun hq41 => (blk_retR (Evr.le (evr_of (ev_cal (evs_cons (ev_var rfl) (evs_cons (ev_var rfl) evs_nil)) (r_law_meets k (by omega) web_here_ way_))) rfl))) (fun hq41 => (blk_asgC (e := (eL (e2 D.int D.int))) (ev_compC0 (e2 D.int D.int) (e2 D.int D.int) (way_.zip (cutL way_ (some (1 : Int)) none)) (fun (it2 : Int × Int) => ((min it2.1 it2.2), (max it2.1 it2.2))) (fun _ => cl_dp) (es_zip (ev_var rfl) (ev_slc (ev_var rfl) (ev_int _) ev_non rfl rfl)) (fun it2 hq42 => ⟨_, rfl, (ev_tupC (evs_cons (ev_min2 (ev_var rfl) (ev_var rfl)) (evs_cons (ev_max2 (ev_var rfl) (ev_var rfl)) evs_nil)) (cls_cons cl_dp (cls_cons cl_dp cls_nil)))⟩)) (fun _ => cl_dp) (Γ1 := fun ties3 => [some (.sh, eW web_here_), some (.sh, (eL D.int) way_), some (.dp, (eL (e2 D.int D.int)) ties3), none, none, none, none]) (fun ties3 => ⟨⟨rfl, rfl⟩, ⟨rfl, rfl⟩, ⟨rfl, rfl⟩, trivial, trivial, trivial, trivial, trivial⟩) (fun ties3 h => (blk_if (ev_or (ev_cmp (ev_len (ev_var rfl)) (ev_int _) (cm_lt _ _)) (fun hq46 => (ev_or (ev_cmp (ev_at (e := D.int) (xs := way_) (ev_var rfl) (ev_int _) (h hq46).1.1) (ev_at (e := D.int) (xs := way_) (ev_var rfl) (ev_neg (ev_int _)) (h hq46).1.2) (cm_ne (e := D.int) dt_int (by decide) (gI way_ (0 : Int)) (gI way_ (-(1 : Int))))) (fun hq45 => (ev_cmp (ev_slenP (ev_var rfl) ((h hq46).2 hq45)) (ev_len (ev_var rfl)) (cm_lt _ _)))))) (fun hq47 => (blk_retR (Evr.le (evr_of (ev_bl _)) rfl))) (fun hq47 => (blk_retR (evr_of (ev_and (ev_all (ev_compC0 (e2 D.int D.int) D.bl ties3 (fun (tie4 : Int × Int) => (decide (tie4 ∈ web_here_.2))) (fun _ => cl_dp) (es_list (ev_var rfl)) (fun tie4 hq48 => ⟨_, rfl, (ev_cmp (ev_var rfl) (ev_tat (ev_var rfl) rfl) (cm_in (e := (e2 D.int D.int)) (dt_2 dt_int dt_int) (by decide) tie4 web_here_.2))⟩))) (fun hq51 => (ev_cal (evs_cons (ev_var rfl) (evs_cons (ev_var rfl) evs_nil)) (r_law_meets k (by omega) web_here_ way_))))))))) ((h hq40) hq41)))))))
end TY

set_option Elab.async false
set_option linter.all false
set_option maxRecDepth 100000
set_option maxHeartbeats 4000000
namespace TY
open TW PySem PySem.Spec PyProof.Rows L2
def v_law_right_5 (web_here_ : Int × (List (Int × Int))) : Bool := lett (v_law_copied web_here_) fun (handed1 : Int × (List (Int × Int))) => optE (v_trail handed1) ((if ((!decide (handed1 = web_here_)) || (!decide (false = (v_law_tried web_here_)))) = true then false else true)) fun (found2 : List (Int)) => (if ((!decide (handed1 = web_here_)) || (!decide (true = (v_law_tried web_here_)))) = true then false else (if (!(v_law_is_trail web_here_ found2)) = true then false else (if (!decide ((((rg (0 : Int) web_here_.1).map fun (place3 : Int) => (v_law_meets web_here_ ([place3]))).any id) = (decide ((found2.length : Int) = (1 : Int))))) = true then false else lett found2 fun (kept4 : List (Int)) => lett (found2 ++ [(0 : Int)]) fun (found5 : List (Int)) => (if (!decide ((v_trail handed1) = some kept4)) = true then false else (if (!decide (handed1.2 = ([] : List (Int × Int)))) = true then lett (handed1.1, handed1.2.dropLast) fun (handed6 : Int × (List (Int × Int))) => lett (v_trail handed6) fun (told7 : Option (List (Int))) => ((decide (told7.isSome = (v_law_tried handed6))) && (told7.isNone || (v_law_is_trail handed6 (told7.getD default)))) else true)))))
def ok_law_right_5 (web_here_ : Int × (List (Int × Int))) : Prop := lett (v_law_copied web_here_) fun (handed1 : Int × (List (Int × Int))) => (ok_trail handed1) ∧ (optE (v_trail handed1) ((!decide (handed1 = web_here_)) = false → ok_law_tried web_here_) fun (found2 : List (Int)) => ((!decide (handed1 = web_here_)) = false → ok_law_tried web_here_) ∧ (((!decide (handed1 = web_here_)) || (!decide (true = (v_law_tried web_here_)))) = false → (ok_law_is_trail web_here_ found2) ∧ ((!(v_law_is_trail web_here_ found2)) = false → (RgOk' (0 : Int) web_here_.1) ∧ ((!decide ((((rg (0 : Int) web_here_.1).map fun (place3 : Int) => (v_law_meets web_here_ ([place3]))).any id) = (decide ((found2.length : Int) = (1 : Int))))) = false → lett found2 fun (kept4 : List (Int)) => (found2.length < 1000000) ∧ (lett (found2 ++ [(0 : Int)]) fun (found5 : List (Int)) => (ok_trail handed1) ∧ ((!decide ((v_trail handed1) = some kept4)) = false → (!decide (handed1.2 = ([] : List (Int × Int)))) = true → (handed1.2 ≠ []) ∧ (lett (handed1.1, handed1.2.dropLast) fun (handed6 : Int × (List (Int × Int))) => (ok_trail handed6) ∧ (lett (v_trail handed6) fun (told7 : Option (List (Int))) => (ok_law_tried handed6) ∧ ((decide (told7.isSome = (v_law_tried handed6))) = true → told7.isNone = false → (told7.isSome = true) ∧ (ok_law_is_trail handed6 (told7.getD default)))))))))))
theorem r_law_right_5 (k : Nat) (hk : 44 ≤ k) (web_here_ : Int × (List (Int × Int))) (h : ok_law_right_5 web_here_) : Fn (run GP k) 96 [eW web_here_] .sh (D.bl (v_law_right_5 web_here_)) := by
  obtain ⟨k, rfl⟩ : ∃ j, k = j + 1 := ⟨k - 1, by omega⟩
  exact fn_retR (Fu := fu_law_right_5) (e := D.bl) (v := v_law_right_5 web_here_) rfl rfl (show Blk _ _ [some (.sh, eW web_here_), none, none, none, none, none] (rtF _ _ (lett (v_law_copied web_here_) fun (handed1 : Int × (List (Int × Int))) => optE (v_trail handed1) ((if ((!decide (handed1 = web_here_)) || (!decide (false = (v_law_tried web_here_)))) = true then false else true)) fun (found2 : List (Int)) => (if ((!decide (handed1 = web_here_)) || (!decide (true = (v_law_tried web_here_)))) = true then false else (if (!(v_law_is_trail web_here_ found2)) = true then false else (if (!decide ((((rg (0 : Int) web_here_.1).map fun (place3 : Int) => (v_law_meets web_here_ ([place3]))).any id) = (decide ((found2.length : Int) = (1 : Int))))) = true then false else lett found2 fun (kept4 : List (Int)) => lett (found2 ++ [(0 : Int)]) fun (found5 : List (Int)) => (if (!decide ((v_trail handed1) = some kept4)) = true then false else (if (!decide (handed1.2 = ([] : List (Int × Int)))) = true then lett (handed1.1, handed1.2.dropLast) fun (handed6 : Int × (List (Int × Int))) => lett (v_trail handed6) fun (told7 : Option (List (Int))) => ((decide (told7.isSome = (v_law_tried handed6))) && (told7.isNone || (v_law_is_trail handed6 (told7.getD default)))) else true))))))) from (blk_asgC (e := eW) (ev_cal (evs_cons (ev_var rfl) evs_nil) (r_law_copied k (by omega) web_here_)) (fun _ => cl_dp) (Γ1 := fun handed1 => [some (.sh, eW web_here_), some (.dp, eW handed1), none, none, none, none]) (fun handed1 => ⟨⟨rfl, rfl⟩, ⟨rfl, rfl⟩, trivial, trivial, trivial, trivial, trivial⟩) (fun handed1 h => (blk_asgO (e := (eL D.int)) (OKN := (!decide (handed1 = web_here_)) = false → ok_law_tried web_here_) (OK := fun (found2 : List (Int)) => ((!decide (handed1 = web_here_)) = false → ok_law_tried web_here_) ∧ (((!decide (handed1 = web_here_)) || (!decide (true = (v_law_tried web_here_)))) = false → (ok_law_is_trail web_here_ found2) ∧ ((!(v_law_is_trail web_here_ found2)) = false → (RgOk' (0 : Int) web_here_.1) ∧ ((!decide ((((rg (0 : Int) web_here_.1).map fun (place3 : Int) => (v_law_meets web_here_ ([place3]))).any id) = (decide ((found2.length : Int) = (1 : Int))))) = false → lett found2 fun (kept4 : List (Int)) => (found2.length < 1000000) ∧ (lett (found2 ++ [(0 : Int)]) fun (found5 : List (Int)) => (ok_trail handed1) ∧ ((!decide ((v_trail handed1) = some kept4)) = false → (!decide (handed1.2 = ([] : List (Int × Int)))) = true → (handed1.2 ≠ []) ∧ (lett (handed1.1, handed1.2.dropLast) fun (handed6 : Int × (List (Int × Int))) => (ok_trail handed6) ∧ (lett (v_trail handed6) fun (told7 : Option (List (Int))) => (ok_law_tried handed6) ∧ ((decide (told7.isSome = (v_law_tried handed6))) = true → told7.isNone = false → (told7.isSome = true) ∧ (ok_law_is_trail handed6 (told7.getD default))))))))))) (ev_cal (evs_cons (ev_var rfl) evs_nil) (r_trail k (by omega) handed1 h.1)) (fun _ => (cl_fl lf_int)) cl_non (ΓN := [some (.sh, eW web_here_), some (.dp, eW handed1), some (.sh, eN ()), none, none, none]) ⟨⟨rfl, rfl⟩, ⟨rfl, rfl⟩, keep_sh, trivial, trivial, trivial, trivial⟩ (Γ1 := fun found2 => [some (.sh, eW web_here_), some (.dp, eW handed1), some (.fl, (eL D.int) found2), none, none, none]) (fun found2 => ⟨⟨rfl, rfl⟩, ⟨rfl, rfl⟩, ⟨rfl, rfl⟩, trivial, trivial, trivial, trivial⟩) (fun h => (blk_if (ev_or (ev_cmp (ev_var rfl) (ev_var rfl) (cm_ne (e := eW) (dt_2 dt_int (dt_L (dt_2 dt_int dt_int))) (by decide) handed1 web_here_)) (fun hq31 => (ev_cmp (ev_cmp (ev_var rfl) ev_non cm_isnotN) (ev_cal (evs_cons (ev_var rfl) evs_nil) (r_law_tried k (by omega) web_here_ (h hq31))) (cm_ne (e := D.bl) dt_bl (by decide) false (v_law_tried web_here_))))) (fun hq32 => (blk_retR (Evr.le (evr_of (ev_bl _)) rfl))) (fun hq32 => (blk_ifT (ev_cmp (ev_var rfl) ev_non cm_isN) rfl (blk_retR (Evr.le (evr_of (ev_bl _)) rfl)))))) (fun found2 h => (blk_if (ev_or (ev_cmp (ev_var rfl) (ev_var rfl) (cm_ne (e := eW) (dt_2 dt_int (dt_L (dt_2 dt_int dt_int))) (by decide) handed1 web_here_)) (fun hq34 => (ev_cmp (ev_cmp (ev_var rfl) ev_non (cm_isnotL (e := (eL D.int)) nn_L _)) (ev_cal (evs_cons (ev_var rfl) evs_nil) (r_law_tried k (by omega) web_here_ (h.1 hq34))) (cm_ne (e := D.bl) dt_bl (by decide) true (v_law_tried web_here_))))) (fun hq35 => (blk_retR (Evr.le (evr_of (ev_bl _)) rfl))) (fun hq35 => (blk_ifR (ev_cmp (ev_var rfl) ev_non (cm_isL (e := (eL D.int)) nn_L _)) rfl (blk_if (ev_not (ev_cal (evs_cons (ev_var rfl) (evs_cons (ev_var rfl) evs_nil)) (r_law_is_trail k (by omega) web_here_ found2 (h.2 hq35).1))) (fun hq37 => (blk_retR (Evr.le (evr_of (ev_bl _)) rfl))) (fun hq37 => (blk_if (ev_cmp (ev_any (ev_compC0 D.int D.bl (rg (0 : Int) web_here_.1) (fun (place3 : Int) => (v_law_meets web_here_ ([place3]))) (fun _ => cl_dp) (es_rng (ev_int _) (ev_tat (ev_var rfl) rfl) ((h.2 hq35).2 hq37).1) (fun place3 hq38 => ⟨_, rfl, (ev_cal (evs_cons (ev_var rfl) (evs_cons (ev_lstC (evs_cons (ev_var rfl) evs_nil) (cls_cons (cl_lf lf_int) cls_nil)) evs_nil)) (r_law_meets k (by omega) web_here_ ([place3])))⟩))) (ev_cmp (ev_len (ev_var rfl)) (ev_int _) (cm_eq (e := D.int) dt_int (by decide) (found2.length : Int) (1 : Int))) (cm_ne (e := D.bl) dt_bl (by decide) (((rg (0 : Int) web_here_.1).map fun (place3 : Int) => (v_law_meets web_here_ ([place3]))).any id) (decide ((found2.length : Int) = (1 : Int))))) (fun hq41 => (blk_retR (Evr.le (evr_of (ev_bl _)) rfl))) (fun hq41 => (blk_asgC (e := (eL D.int)) (ev_list (ev_var rfl)) (fun _ => (cl_fl lf_int)) (Γ1 := fun kept4 => [some (.sh, eW web_here_), some (.dp, eW handed1), some (.fl, (eL D.int) found2), some (.fl, (eL D.int) kept4), none, none]) (fun kept4 => ⟨⟨rfl, rfl⟩, ⟨rfl, rfl⟩, ⟨rfl, rfl⟩, ⟨rfl, rfl⟩, trivial, trivial, trivial⟩) (fun kept4 h => (blk_mutFC (e := D.int) rfl rfl (evs_cons (ev_int _) evs_nil) (mo_append (e := D.int) (v := (0 : Int)) h.1) (cls_cons cl_dp cls_nil) (Γ1 := fun found5 => [some (.sh, eW web_here_), some (.dp, eW handed1), some (.fl, (eL D.int) found5), some (.fl, (eL D.int) kept4), none, none]) (fun found5 => ⟨⟨rfl, rfl⟩, ⟨rfl, rfl⟩, ⟨rfl, rfl⟩, ⟨rfl, rfl⟩, trivial, trivial, trivial⟩) (fun found5 h => (blk_if (ev_cmp (ev_cal (evs_cons (ev_var rfl) evs_nil) (r_trail k (by omega) handed1 h.1)) (ev_var rfl) (cm_ne (e := (eO (eL D.int))) (dt_O (dt_L dt_int) fun _ => ⟨rfl, rfl⟩) (by decide) (v_trail handed1) (some kept4))) (fun hq42 => (blk_retR (Evr.le (evr_of (ev_bl _)) rfl))) (fun hq42 => (blk_if (ev_cmp (ev_tat (ev_var rfl) rfl) (ev_lstC evs_nil cls_nil) (cm_ne (e := (eL (e2 D.int D.int))) (dt_L (dt_2 dt_int dt_int)) (by decide) handed1.2 ([] : List (Int × Int)))) (fun hq43 => (blk_mutD (e := eW) rfl (evp_one (ev_int _)) evs_nil cls_nil (chg_t (j := 1) rfl rfl (chg_nil (mo_pop (e := (e2 D.int D.int)) ((h.2 hq42) hq43).1))) (Γ1 := fun handed6 => [some (.sh, eW web_here_), some (.dp, eW handed6), some (.fl, (eL D.int) found5), some (.fl, (eL D.int) kept4), none, none]) (fun handed6 => ⟨⟨rfl, rfl⟩, ⟨rfl, rfl⟩, ⟨rfl, rfl⟩, ⟨rfl, rfl⟩, trivial, trivial, trivial⟩) (fun handed6 h => (blk_asgC (e := (eO (eL D.int))) (ev_cal (evs_cons (ev_var rfl) evs_nil) (r_trail k (by omega) handed6 h.1)) (fun _ => (cl_flO lf_int _)) (Γ1 := fun told7 => [some (.sh, eW web_here_), some (.dp, eW handed6), some (.fl, (eL D.int) found5), some (.fl, (eL D.int) kept4), some (.sh, (eO (eL D.int)) told7), none]) (fun told7 => ⟨⟨rfl, rfl⟩, ⟨rfl, rfl⟩, ⟨rfl, rfl⟩, ⟨rfl, rfl⟩, keep_sh, trivial, trivial⟩) (fun told7 h => (blk_retR (evr_of (ev_and (ev_cmp (ev_cmp (ev_var rfl) ev_non (cm_isnot (e := (eL D.int)) nn_L _)) (ev_cal (evs_cons (ev_var rfl) evs_nil) (r_law_tried k (by omega) handed6 h.1)) (cm_eq (e := D.bl) dt_bl (by decide) told7.isSome (v_law_tried handed6))) (fun hq45 => (ev_or (ev_cmp (ev_var rfl) ev_non (cm_is (e := (eL D.int)) nn_L _)) (fun hq44 => (ev_cal (evs_cons (ev_var rfl) (evs_cons (Ev.eq (ev_var rfl) (opt_get ((h.2 hq45) hq44).1)) evs_nil)) (r_law_is_trail k (by omega) handed6 (told7.getD default) ((h.2 hq45) hq44).2))))))))) h.2)) ((h.2 hq42) hq43).2)) (fun hq43 => (blk_retR (Evr.le (evr_of (ev_bl _)) rfl))))))) h.2)) (((h.2 hq35).2 hq37).2 hq41)))))))))) h.2)) h))
end TY

set_option Elab.async false
set_option linter.all false
set_option maxRecDepth 100000
set_option maxHeartbeats 4000000
namespace TY
open TW PySem PySem.Spec PyProof.Rows L2
def v_law_10 (script_ : List Int) : Bool := lett ((cutL script_ none (some (63 : Int))).sum) fun (whole1 : Int) => orElse (forR (fun (s2 : Unit) (x3 : Int) => (lett (if (decide ((whole1 % (64 : Int)) = (5 : Int))) = true then (10 : Int) else (7 : Int)) fun (most4 : Int) => lett (v_law_web script_ x3 (7 : Int) most4) fun (web5 : Int × (List (Int × Int))) => lett (v_law_web script_ (x3 + (3 : Int)) (4 : Int) (6 : Int)) fun (plain6 : Int × (List (Int × Int))) => (if ((!(v_law_right_5 web5)) || ((!(v_law_right_5 plain6)) || (!(v_law_right_5 (web5.1, (cutL web5.2 none (some (4 : Int)))))))) = true then Sum.inr false else Sum.inl ()) : (Unit) ⊕ (Bool))) (rg (0 : Int) (2 : Int)) () : (Unit) ⊕ (Bool)) fun (st7 : Unit) => lett ((5 : Int), [((0 : Int), (1 : Int)), ((0 : Int), (2 : Int)), ((1 : Int), (2 : Int)), ((2 : Int), (3 : Int)), ((2 : Int), (4 : Int)), ((3 : Int), (4 : Int))]) fun (bow8 : Int × (List (Int × Int))) => (if ((!decide ((((v_trail bow8).getD default).length : Int) = (7 : Int))) || (v_trail ((4 : Int), [((0 : Int), (1 : Int)), ((1 : Int), (2 : Int)), ((2 : Int), (3 : Int))])).isSome) = true then false else ((decide ((v_trail ((3 : Int), [((0 : Int), (1 : Int)), ((0 : Int), (2 : Int))])) = some ([(0 : Int)]))) && ((v_trail ((0 : Int), ([] : List (Int × Int)))).isNone && (decide ((v_trail ((1 : Int), ([] : List (Int × Int)))) = some ([(0 : Int)]))))))
def ok_law_10 (script_ : List Int) : Prop := lett ((cutL script_ none (some (63 : Int))).sum) fun (whole1 : Int) => (okFor (fun (s2 : Unit) (x3 : Int) => lett (if (decide ((whole1 % (64 : Int)) = (5 : Int))) = true then (10 : Int) else (7 : Int)) fun (most4 : Int) => (ok_law_web script_ x3 (7 : Int) most4) ∧ (lett (v_law_web script_ x3 (7 : Int) most4) fun (web5 : Int × (List (Int × Int))) => (ok_law_web script_ (x3 + (3 : Int)) (4 : Int) (6 : Int)) ∧ (lett (v_law_web script_ (x3 + (3 : Int)) (4 : Int) (6 : Int)) fun (plain6 : Int × (List (Int × Int))) => (ok_law_right_5 web5) ∧ ((!(v_law_right_5 web5)) = false → (ok_law_right_5 plain6) ∧ ((!(v_law_right_5 plain6)) = false → ok_law_right_5 (web5.1, (cutL web5.2 none (some (4 : Int))))))))) (fun (s2 : Unit) (x3 : Int) => (lett (if (decide ((whole1 % (64 : Int)) = (5 : Int))) = true then (10 : Int) else (7 : Int)) fun (most4 : Int) => lett (v_law_web script_ x3 (7 : Int) most4) fun (web5 : Int × (List (Int × Int))) => lett (v_law_web script_ (x3 + (3 : Int)) (4 : Int) (6 : Int)) fun (plain6 : Int × (List (Int × Int))) => (if ((!(v_law_right_5 web5)) || ((!(v_law_right_5 plain6)) || (!(v_law_right_5 (web5.1, (cutL web5.2 none (some (4 : Int)))))))) = true then Sum.inr false else Sum.inl ()) : (Unit) ⊕ (Bool))) (rg (0 : Int) (2 : Int)) ()) ∧ (okThen (forR (fun (s2 : Unit) (x3 : Int) => (lett (if (decide ((whole1 % (64 : Int)) = (5 : Int))) = true then (10 : Int) else (7 : Int)) fun (most4 : Int) => lett (v_law_web script_ x3 (7 : Int) most4) fun (web5 : Int × (List (Int × Int))) => lett (v_law_web script_ (x3 + (3 : Int)) (4 : Int) (6 : Int)) fun (plain6 : Int × (List (Int × Int))) => (if ((!(v_law_right_5 web5)) || ((!(v_law_right_5 plain6)) || (!(v_law_right_5 (web5.1, (cutL web5.2 none (some (4 : Int)))))))) = true then Sum.inr false else Sum.inl ()) : (Unit) ⊕ (Bool))) (rg (0 : Int) (2 : Int)) () : (Unit) ⊕ (Bool)) fun (st7 : Unit) => lett ((5 : Int), [((0 : Int), (1 : Int)), ((0 : Int), (2 : Int)), ((1 : Int), (2 : Int)), ((2 : Int), (3 : Int)), ((2 : Int), (4 : Int)), ((3 : Int), (4 : Int))]) fun (bow8 : Int × (List (Int × Int))) => (((ok_trail bow8) ∧ ((v_trail bow8).isSome = true)) ∧ ((!decide ((((v_trail bow8).getD default).length : Int) = (7 : Int))) = false → ok_trail ((4 : Int), [((0 : Int), (1 : Int)), ((1 : Int), (2 : Int)), ((2 : Int), (3 : Int))]))) ∧ (((!decide ((((v_trail bow8).getD default).length : Int) = (7 : Int))) || (v_trail ((4 : Int), [((0 : Int), (1 : Int)), ((1 : Int), (2 : Int)), ((2 : Int), (3 : Int))])).isSome) = false → (ok_trail ((3 : Int), [((0 : Int), (1 : Int)), ((0 : Int), (2 : Int))])) ∧ ((decide ((v_trail ((3 : Int), [((0 : Int), (1 : Int)), ((0 : Int), (2 : Int))])) = some ([(0 : Int)]))) = true → (ok_trail ((0 : Int), ([] : List (Int × Int)))) ∧ (((v_trail ((0 : Int), ([] : List (Int × Int)))).isNone) = true → ok_trail ((1 : Int), ([] : List (Int × Int)))))))
theorem r_law_10 (k : Nat) (hk : 45 ≤ k) (script_ : List Int) (h : ok_law_10 script_) : Fn (run GP k) 97 [D.scr script_] .sh (D.bl (v_law_10 script_)) := by
  obtain ⟨k, rfl⟩ : ∃ j, k = j + 1 := ⟨k - 1, by omega⟩
  exact fn_retR (Fu := fu_law_10) (e := D.bl) (v := v_law_10 script_) rfl rfl (show Blk _ _ [some (.sh, D.scr script_), none, none, none, none, none, none] (rtF _ _ (lett ((cutL script_ none (some (63 : Int))).sum) fun (whole1 : Int) => orElse (forR (fun (s2 : Unit) (x3 : Int) => (lett (if (decide ((whole1 % (64 : Int)) = (5 : Int))) = true then (10 : Int) else (7 : Int)) fun (most4 : Int) => lett (v_law_web script_ x3 (7 : Int) most4) fun (web5 : Int × (List (Int × Int))) => lett (v_law_web script_ (x3 + (3 : Int)) (4 : Int) (6 : Int)) fun (plain6 : Int × (List (Int × Int))) => (if ((!(v_law_right_5 web5)) || ((!(v_law_right_5 plain6)) || (!(v_law_right_5 (web5.1, (cutL web5.2 none (some (4 : Int)))))))) = true then Sum.inr false else Sum.inl ()) : (Unit) ⊕ (Bool))) (rg (0 : Int) (2 : Int)) () : (Unit) ⊕ (Bool)) fun (st7 : Unit) => lett ((5 : Int), [((0 : Int), (1 : Int)), ((0 : Int), (2 : Int)), ((1 : Int), (2 : Int)), ((2 : Int), (3 : Int)), ((2 : Int), (4 : Int)), ((3 : Int), (4 : Int))]) fun (bow8 : Int × (List (Int × Int))) => (if ((!decide ((((v_trail bow8).getD default).length : Int) = (7 : Int))) || (v_trail ((4 : Int), [((0 : Int), (1 : Int)), ((1 : Int), (2 : Int)), ((2 : Int), (3 : Int))])).isSome) = true then false else ((decide ((v_trail ((3 : Int), [((0 : Int), (1 : Int)), ((0 : Int), (2 : Int))])) = some ([(0 : Int)]))) && ((v_trail ((0 : Int), ([] : List (Int × Int)))).isNone && (decide ((v_trail ((1 : Int), ([] : List (Int × Int)))) = some ([(0 : Int)])))))))) from (blk_asgC (e := D.int) (ev_sum (ev_slcS (ev_var rfl) ev_non (ev_int _) rfl rfl)) (fun _ => cl_dp) (Γ1 := fun whole1 => [some (.sh, D.scr script_), some (.sh, D.int whole1), none, none, none, none, none]) (fun whole1 => ⟨⟨rfl, rfl⟩, ⟨rfl, rfl⟩, trivial, trivial, trivial, trivial, trivial, trivial⟩) (fun whole1 h => (blk_thenR (env := (fun (st7 : Unit) => [some (.sh, D.scr script_), some (.sh, D.int whole1), none, none, none, none, none])) (blk_forGd (OK := fun (s2 : Unit) (x3 : Int) => lett (if (decide ((whole1 % (64 : Int)) = (5 : Int))) = true then (10 : Int) else (7 : Int)) fun (most4 : Int) => (ok_law_web script_ x3 (7 : Int) most4) ∧ (lett (v_law_web script_ x3 (7 : Int) most4) fun (web5 : Int × (List (Int × Int))) => (ok_law_web script_ (x3 + (3 : Int)) (4 : Int) (6 : Int)) ∧ (lett (v_law_web script_ (x3 + (3 : Int)) (4 : Int) (6 : Int)) fun (plain6 : Int × (List (Int × Int))) => (ok_law_right_5 web5) ∧ ((!(v_law_right_5 web5)) = false → (ok_law_right_5 plain6) ∧ ((!(v_law_right_5 plain6)) = false → ok_law_right_5 (web5.1, (cutL web5.2 none (some (4 : Int))))))))) (env := (fun (s2 : Unit) => [some (.sh, D.scr script_), some (.sh, D.int whole1), none, none, none, none, none])) (ei := D.int) (es_rng (ev_int _) (ev_int _) (by decide)) ⟨⟨rfl, rfl⟩, ⟨rfl, rfl⟩, trivial, trivial, trivial, trivial, trivial, trivial⟩ (fun s2 x3 h => ⟨_, rfl, (blk_asgC (e := D.int) (ev_ite (e := D.int) (ev_cmp (ev_mod (ev_var rfl) (ev_int _) (by decide)) (ev_int _) (cm_eq (e := D.int) dt_int (by decide) (whole1 % (64 : Int)) (5 : Int))) (fun hq17 => (ev_int _)) (fun hq17 => (ev_int _))) (fun _ => cl_dp) (Γ1 := fun most4 => [some (.sh, D.scr script_), some (.sh, D.int whole1), some (.sh, D.int x3), none, some (.sh, D.int most4), none, none]) (fun most4 => ⟨⟨rfl, rfl⟩, ⟨rfl, rfl⟩, ⟨rfl, rfl⟩, trivial, ⟨rfl, rfl⟩, trivial, trivial, trivial⟩) (fun most4 h => (blk_asgC (e := eW) (ev_cal (evs_cons (ev_var rfl) (evs_cons (ev_var rfl) (evs_cons (ev_int _) (evs_cons (ev_var rfl) evs_nil)))) (r_law_web k (by omega) script_ x3 (7 : Int) most4 h.1)) (fun _ => cl_dp) (Γ1 := fun web5 => [some (.sh, D.scr script_), some (.sh, D.int whole1), some (.sh, D.int x3), none, some (.sh, D.int most4), some (.dp, eW web5), none]) (fun web5 => ⟨⟨rfl, rfl⟩, ⟨rfl, rfl⟩, ⟨rfl, rfl⟩, trivial, ⟨rfl, rfl⟩, ⟨rfl, rfl⟩, trivial, trivial⟩) (fun web5 h => (blk_asgC (e := eW) (ev_cal (evs_cons (ev_var rfl) (evs_cons (ev_add (ev_var rfl) (ev_int _)) (evs_cons (ev_int _) (evs_cons (ev_int _) evs_nil)))) (r_law_web k (by omega) script_ (x3 + (3 : Int)) (4 : Int) (6 : Int) h.1)) (fun _ => cl_dp) (Γ1 := fun plain6 => [some (.sh, D.scr script_), some (.sh, D.int whole1), some (.sh, D.int x3), none, some (.sh, D.int most4), some (.dp, eW web5), some (.dp, eW plain6)]) (fun plain6 => ⟨⟨rfl, rfl⟩, ⟨rfl, rfl⟩, ⟨rfl, rfl⟩, trivial, ⟨rfl, rfl⟩, ⟨rfl, rfl⟩, ⟨rfl, rfl⟩, trivial⟩) (fun plain6 h => (blk_if (ev_or (ev_not (ev_cal (evs_cons (ev_var rfl) evs_nil) (r_law_right_5 k (by omega) web5 h.1))) (fun hq19 => (ev_or (ev_not (ev_cal (evs_cons (ev_var rfl) evs_nil) (r_law_right_5 k (by omega) plain6 (h.2 hq19).1))) (fun hq18 => (ev_not (ev_cal (evs_cons (ev_tupC (evs_cons (ev_tat (ev_var rfl) rfl) (evs_cons (ev_slc (ev_tat (ev_var rfl) rfl) ev_non (ev_int _) rfl rfl) evs_nil)) (cls_cons (cl_lf lf_int) (cls_cons (cl_fl (lf_2 lf_int lf_int)) cls_nil))) evs_nil) (r_law_right_5 k (by omega) (web5.1, (cutL web5.2 none (some (4 : Int)))) ((h.2 hq19).2 hq18)))))))) (fun hq20 => (blk_ret (Evr.le (evr_of (ev_bl _)) rfl))) (fun hq20 => (blk_nil ⟨⟨rfl, rfl⟩, ⟨rfl, rfl⟩, trivial, trivial, trivial, trivial, trivial, trivial⟩)))) h.2)) h.2)) h)⟩) h.1) (fun st7 h => (blk_asgC (e := eW) (ev_tupC (evs_cons (ev_int _) (evs_cons (ev_lstC (evs_cons (ev_tupC (evs_cons (ev_int _) (evs_cons (ev_int _) evs_nil)) (cls_cons cl_dp (cls_cons cl_dp cls_nil))) (evs_cons (ev_tupC (evs_cons (ev_int _) (evs_cons (ev_int _) evs_nil)) (cls_cons cl_dp (cls_cons cl_dp cls_nil))) (evs_cons (ev_tupC (evs_cons (ev_int _) (evs_cons (ev_int _) evs_nil)) (cls_cons cl_dp (cls_cons cl_dp cls_nil))) (evs_cons (ev_tupC (evs_cons (ev_int _) (evs_cons (ev_int _) evs_nil)) (cls_cons cl_dp (cls_cons cl_dp cls_nil))) (evs_cons (ev_tupC (evs_cons (ev_int _) (evs_cons (ev_int _) evs_nil)) (cls_cons cl_dp (cls_cons cl_dp cls_nil))) (evs_cons (ev_tupC (evs_cons (ev_int _) (evs_cons (ev_int _) evs_nil)) (cls_cons cl_dp (cls_cons cl_dp cls_nil))) evs_nil)))))) (cls_cons cl_dp (cls_cons cl_dp (cls_cons cl_dp (cls_cons cl_dp (cls_cons cl_dp (cls_cons cl_dp cls_nil))))))) evs_nil)) (cls_cons cl_dp (cls_cons cl_dp cls_nil))) (fun _ => cl_dp) (Γ1 := fun bow8 => [some (.sh, D.scr script_), some (.sh, D.int whole1), none, some (.dp, eW bow8), none, none, none]) (fun bow8 => ⟨⟨rfl, rfl⟩, ⟨rfl, rfl⟩, trivial, ⟨rfl, rfl⟩, trivial, trivial, trivial, trivial⟩) (fun bow8 h => (blk_if (ev_or (ev_cmp (ev_len (Ev.eq (ev_cal (evs_cons (ev_var rfl) evs_nil) (r_trail k (by omega) bow8 h.1.1.1)) (opt_get h.1.1.2))) (ev_int _) (cm_ne (e := D.int) dt_int (by decide) (((v_trail bow8).getD default).length : Int) (7 : Int))) (fun hq21 => (ev_cmp (ev_cal (evs_cons (ev_tupC (evs_cons (ev_int _) (evs_cons (ev_lstC (evs_cons (ev_tupC (evs_cons (ev_int _) (evs_cons (ev_int _) evs_nil)) (cls_cons cl_dp (cls_cons cl_dp cls_nil))) (evs_cons (ev_tupC (evs_cons (ev_int _) (evs_cons (ev_int _) evs_nil)) (cls_cons cl_dp (cls_cons cl_dp cls_nil))) (evs_cons (ev_tupC (evs_cons (ev_int _) (evs_cons (ev_int _) evs_nil)) (cls_cons cl_dp (cls_cons cl_dp cls_nil))) evs_nil))) (cls_cons cl_dp (cls_cons cl_dp (cls_cons cl_dp cls_nil)))) evs_nil)) (cls_cons cl_dp (cls_cons cl_dp cls_nil))) evs_nil) (r_trail k (by omega) ((4 : Int), [((0 : Int), (1 : Int)), ((1 : Int), (2 : Int)), ((2 : Int), (3 : Int))]) (h.1.2 hq21))) ev_non (cm_isnot (e := (eL D.int)) nn_L _)))) (fun hq22 => (blk_retR (Evr.le (evr_of (ev_bl _)) rfl))) (fun hq22 => (blk_retR (evr_of (ev_and (ev_cmp (ev_cal (evs_cons (ev_tupC (evs_cons (ev_int _) (evs_cons (ev_lstC (evs_cons (ev_tupC (evs_cons (ev_int _) (evs_cons (ev_int _) evs_nil)) (cls_cons cl_dp (cls_cons cl_dp cls_nil))) (evs_cons (ev_tupC (evs_cons (ev_int _) (evs_cons (ev_int _) evs_nil)) (cls_cons cl_dp (cls_cons cl_dp cls_nil))) evs_nil)) (cls_cons cl_dp (cls_cons cl_dp cls_nil))) evs_nil)) (cls_cons cl_dp (cls_cons cl_dp cls_nil))) evs_nil) (r_trail k (by omega) ((3 : Int), [((0 : Int), (1 : Int)), ((0 : Int), (2 : Int))]) (h.2 hq22).1)) (ev_lstC (evs_cons (ev_int _) evs_nil) (cls_cons cl_dp cls_nil)) (cm_eq (e := (eO (eL D.int))) (dt_O (dt_L dt_int) fun _ => ⟨rfl, rfl⟩) (by decide) (v_trail ((3 : Int), [((0 : Int), (1 : Int)), ((0 : Int), (2 : Int))])) (some ([(0 : Int)])))) (fun hq24 => (ev_and (ev_cmp (ev_cal (evs_cons (ev_tupC (evs_cons (ev_int _) (evs_cons (ev_lstC evs_nil cls_nil) evs_nil)) (cls_cons cl_dp (cls_cons cl_dp cls_nil))) evs_nil) (r_trail k (by omega) ((0 : Int), ([] : List (Int × Int))) ((h.2 hq22).2 hq24).1)) ev_non (cm_is (e := (eL D.int)) nn_L _)) (fun hq23 => (ev_cmp (ev_cal (evs_cons (ev_tupC (evs_cons (ev_int _) (evs_cons (ev_lstC evs_nil cls_nil) evs_nil)) (cls_cons cl_dp (cls_cons cl_dp cls_nil))) evs_nil) (r_trail k (by omega) ((1 : Int), ([] : List (Int × Int))) (((h.2 hq22).2 hq24).2 hq23))) (ev_lstC (evs_cons (ev_int _) evs_nil) (cls_cons cl_dp cls_nil)) (cm_eq (e := (eO (eL D.int))) (dt_O (dt_L dt_int) fun _ => ⟨rfl, rfl⟩) (by decide) (v_trail ((1 : Int), ([] : List (Int × Int)))) (some ([(0 : Int)]))))))))))))) h)) h.2)) h))
end TY

set_option Elab.async false
set_option linter.all false
set_option maxRecDepth 100000
set_option maxHeartbeats 4000000
namespace TY
open TW PySem PySem.Spec PyProof.Rows L2
theorem gI_ends {way : List Int} {p l : Int} (hp : way.head? = some p) (hl : way.getLast? = some l) : IxOk way (0 : Int) ∧ IxOk way (-(1 : Int)) ∧ gI way (0 : Int) = p ∧ gI way (-(1 : Int)) = l := by
  obtain ⟨ys, rfl⟩ := List.getLast?_eq_some_iff.mp hl
  have h1 : ys.length < (ys ++ [l]).length := by rw [List.length_append, List.length_singleton]; omega
  refine ⟨⟨by omega, by omega⟩, ⟨by omega, by omega⟩, ?_, ?_⟩
  · have := gI_of (xs := ys ++ [l]) (i := 0) (by omega)
    rw [show (0 : Int) = ((0 : Nat) : Int) from rfl, this]
    rw [List.head?_eq_getElem?] at hp
    rw [List.getElem?_eq_getElem (by omega)] at hp
    exact Option.some.inj hp
  · have e : ixN (ys ++ [l]).length (-(1 : Int)) = some ys.length := by
      rw [List.length_append, List.length_singleton]
      unfold ixN
      simp
      omega
    unfold gI atI
    rw [e]
    simp
theorem law_meets_iff {w : Wb} {ps : List Int} : v_law_meets w ps = true ↔ Meets w.2 fun x => x ∈ ps := by
  unfold v_law_meets Meets
  simp
structure Rnd (w : Wb) (p : Int) (way : List Int) : Prop where
  len : 3 < way.length
  hd : way.head? = some p
  ls : way.getLast? = some p
  nd : (tys way).Nodup
  sub : ∀ t ∈ tys way, t ∈ w.2
  met : Meets w.2 fun x => x ∈ way
  lst : ∀ x ∈ way, p ≤ x
theorem mn_comm (a b : Int) : (min a b, max a b) = mn b a := by
  show (min a b, max a b) = (min b a, max b a)
  rw [Int.min_comm, Int.max_comm]
theorem near_in {w : Wb} (hw : Web w.1 w.2) {l x : Int} (hl : InR w.1 l) : x ∈ gI (nearL w) l ↔ mn l x ∈ w.2 := by
  rw [(near_at hw hl).2, (isortB_perm _).mem_iff, mem_nb fun t ht => (hw.ok t ht).2.1]
  constructor
  · rintro (h | h)
    · have := (hw.ok _ h)
      simp only at this
      rw [show mn l x = (l, x) from by simp only [mn]; rw [Int.min_eq_left (by omega), Int.max_eq_right (by omega)]]
      exact h
    · have := (hw.ok _ h)
      simp only at this
      rw [show mn l x = (x, l) from by simp only [mn]; rw [Int.min_eq_right (by omega), Int.max_eq_left (by omega)]]
      exact h
  · intro h
    rcases Int.le_total l x with k | k
    · rw [show mn l x = (l, x) from by simp only [mn]; rw [Int.min_eq_left k, Int.max_eq_right k]] at h
      exact .inl h
    · rw [show mn l x = (x, l) from by simp only [mn]; rw [Int.min_eq_right k, Int.max_eq_left k]] at h
      exact .inr h
def goC (w : Wb) (way : List Int) : Bool := (decide ((3 : Int) < (way.length : Int))) && ((decide ((gI way (0 : Int)) = (gI way (-(1 : Int))))) && (v_law_meets w way))
def goF (f : Nat) (w : Wb) (near : List (List Int)) (way : List Int) (gone : List (Int × Int)) (x : Int) : Bool := (!decide (mn (gI way (-(1 : Int))) x ∈ gone)) && ((decide ((gI way (0 : Int)) ≤ x)) && (v_law_goes f w near (way ++ [x]) (gone ++ [mn (gI way (-(1 : Int))) x])))
theorem goes_val (f : Nat) (w : Wb) (near : List (List Int)) (way : List Int) (gone : List (Int × Int)) : v_law_goes (f + 1) w near way gone = (goC w way || (gI near (gI way (-(1 : Int)))).any (goF f w near way gone)) := by
  rw [v_law_goes, forR_find (g := fun x => if goF f w near way gone x = true then some true else none)]
  · show (if goC w way = true then true else _) = _
    cases goC w way with
    | true => rfl
    | false =>
      rw [if_neg (by simp), Bool.false_or]
      generalize gI near (gI way (-(1 : Int))) = xs
      induction xs with
      | nil => rfl
      | cons x xs ih =>
        rw [List.findSome?_cons, List.any_cons]
        cases goF f w near way gone x with
        | true => rfl
        | false => rw [if_neg (by simp), Bool.false_or]; exact ih
  · intro x _
    rw [mn_comm]
    show (if goF f w near way gone x = true then _ else _) = _
    cases goF f w near way gone x <;> rfl
theorem goes_sound {w : Wb} (hw : Web w.1 w.2) {p : Int} : ∀ (f : Nat) (way : List Int) (l : Int), way.head? = some p → way.getLast? = some l → InR w.1 l → (tys way).Nodup → (∀ t ∈ tys way, t ∈ w.2) → (∀ x ∈ way, p ≤ x) → v_law_goes f w (nearL w) way (tys way) = true → ∃ way', Rnd w p way'
  | 0, way, l, _, _, _, _, _, _, h => by cases h
  | f + 1, way, l, hp, hl, hr, nd, sub, lst, h => by
    obtain ⟨i0, i1, g0, g1⟩ := gI_ends hp hl
    rw [goes_val, Bool.or_eq_true, g1] at h
    rcases h with h | h
    · unfold goC at h
      simp only [Bool.and_eq_true, decide_eq_true_eq] at h
      obtain ⟨h1, h2, h3⟩ := h
      rw [g0, g1] at h2
      exact ⟨way, by omega, hp, h2 ▸ hl, nd, sub, law_meets_iff.mp h3, lst⟩
    · obtain ⟨x, hx, k⟩ := List.any_eq_true.mp h
      have hx := (near_in hw hr).mp hx
      unfold goF at k
      rw [g0, g1] at k
      simp only [Bool.and_eq_true, decide_eq_true_eq, Bool.not_eq_true', decide_eq_false_iff_not] at k
      obtain ⟨k1, k2, k3⟩ := k
      have et := tys_snoc x hl
      rw [← et] at k3
      have hxr : InR w.1 x := by
        have := hw.ok _ hx
        simp only [mn] at this
        have hr := hr
        exact ⟨by omega, by omega⟩
      refine goes_sound hw f (way ++ [x]) x (by rw [List.head?_append, hp]; rfl) (by simp) hxr ?_ ?_ ?_ k3
      · rw [et]
        refine List.nodup_append.mpr ⟨nd, by simp, fun a ha b hb e => k1 ?_⟩
        rw [← List.mem_singleton.mp hb, ← e]
        exact ha
      · rw [et]
        intro t ht
        rcases List.mem_append.mp ht with h | h
        · exact sub t h
        · rw [List.mem_singleton.mp h]; exact hx
      · intro y hy
        rcases List.mem_append.mp hy with h | h
        · exact lst y h
        · rw [List.mem_singleton.mp h]; exact k2
theorem goes_complete {w : Wb} (hw : Web w.1 w.2) {p : Int} : ∀ (ext : List Int) (f : Nat) (way : List Int) (l : Int), way.head? = some p → way.getLast? = some l → InR w.1 l → Rnd w p (way ++ ext) → ext.length < f → v_law_goes f w (nearL w) way (tys way) = true
  | ext, 0, way, l, _, _, _, _, h => by omega
  | [], f + 1, way, l, hp, hl, hr, R, h => by
    obtain ⟨i0, i1, g0, g1⟩ := gI_ends hp hl
    rw [List.append_nil] at R
    have e : l = p := Option.some.inj (hl.symm.trans R.ls)
    rw [goes_val]
    refine Bool.or_eq_true_iff.mpr (.inl ?_)
    unfold goC
    rw [g0, g1, e]
    have := R.len
    simp only [Bool.and_eq_true, decide_eq_true_eq, true_and]
    exact ⟨by omega, law_meets_iff.mpr R.met⟩
  | x :: ext, f + 1, way, l, hp, hl, hr, R, h => by
    obtain ⟨i0, i1, g0, g1⟩ := gI_ends hp hl
    have ea : way ++ x :: ext = (way ++ [x]) ++ ext := by simp
    rw [ea] at R
    have et := tys_snoc x hl
    have es : tys ((way ++ [x]) ++ ext) = tys (way ++ [x]) ++ tys (x :: ext) := by
      rw [List.append_assoc]
      exact tys_app x ext way
    have nd := R.nd
    rw [es, et] at nd
    have hm : mn l x ∈ w.2 := R.sub _ (by rw [es, et]; simp)
    rw [goes_val, g1]
    refine Bool.or_eq_true_iff.mpr (.inr (List.any_eq_true.mpr ⟨x, (near_in hw hr).mpr hm, ?_⟩))
    unfold goF
    rw [g0, g1]
    simp only [Bool.and_eq_true, decide_eq_true_eq, Bool.not_eq_true', decide_eq_false_iff_not]
    refine ⟨fun k => ?_, R.lst x (by simp), ?_⟩
    · exact (List.nodup_append.mp (List.nodup_append.mp nd).1).2.2 _ k _ (List.mem_singleton_self _) rfl
    · rw [← et]
      have hxr : InR w.1 x := by
        have := hw.ok _ hm
        simp only [mn] at this
        have hr := hr
        exact ⟨by omega, by omega⟩
      exact goes_complete hw ext f (way ++ [x]) x (by rw [List.head?_append, hp]; rfl) (by simp) hxr R (by simp at h; omega)
theorem goes_ok {w : Wb} (hw : Web w.1 w.2) {p : Int} : ∀ (f : Nat) (way : List Int) (l : Int), way.head? = some p → way.getLast? = some l → InR w.1 l → (tys way).Nodup → (∀ t ∈ tys way, t ∈ w.2) → w.2.length + 1 < f + (tys way).length → ok_law_goes f w (nearL w) way (tys way)
  | 0, way, l, hp, hl, hr, nd, sub, hf => by
    have := nodup_len nd sub
    omega
  | f + 1, way, l, hp, hl, hr, nd, sub, hf => by
    obtain ⟨i0, i1, g0, g1⟩ := gI_ends hp hl
    have hn := nodup_len nd sub
    have h66 := hw.len
    have htl := tys_len way
    refine ⟨fun _ => ⟨i0, i1⟩, fun _ => ⟨⟨i1, ?_⟩, okFor_of fun s x hx => ⟨⟨i1, i1⟩, fun k1 => ⟨i0, fun k2 => ⟨?_, ?_, ?_⟩⟩⟩⟩⟩
    · rw [g1]; exact (near_at hw hr).1
    · show way.length + 1 ≤ _
      omega
    · show (tys way).length + 1 ≤ _
      omega
    · rw [g1] at hx k1
      rw [mn_comm] at k1
      rw [mn_comm, g1]
      have hm := (near_in hw hr).mp hx
      have et := tys_snoc x hl
      rw [← et]
      have hxr : InR w.1 x := by
        have := hw.ok _ hm
        simp only [mn] at this
        have hr := hr
        exact ⟨by omega, by omega⟩
      refine goes_ok hw f (way ++ [x]) x (by rw [List.head?_append, hp]; rfl) (by simp) hxr ?_ ?_ ?_
      · rw [et]
        refine List.nodup_append.mpr ⟨nd, by simp, fun a ha b hb e => ?_⟩
        simp only [Bool.not_eq_true', decide_eq_false_iff_not] at k1
        apply k1
        rw [← List.mem_singleton.mp hb, ← e]
        exact ha
      · rw [et]
        intro t ht
        rcases List.mem_append.mp ht with h | h
        · exact sub t h
        · rw [List.mem_singleton.mp h]; exact hm
      · rw [et, List.length_append, List.length_singleton]
        omega
end TY

set_option Elab.async false
set_option linter.all false
set_option maxRecDepth 100000
set_option maxHeartbeats 4000000
namespace TY
open TW PySem PySem.Spec PyProof.Rows L2
theorem tys_has : ∀ {way : List Int} {x : Int}, 1 < way.length → x ∈ way → ∃ t ∈ tys way, x = t.1 ∨ x = t.2
  | [], x, h, _ => by simp at h
  | [a], x, h, _ => by simp at h
  | a :: b :: r, x, _, hx => by
    have two : ∀ y, y = a ∨ y = b → y = (mn a b).1 ∨ y = (mn a b).2 := fun y hy => by
      simp only [mn]
      omega
    rw [tys]
    rcases List.mem_cons.mp hx with h | hx
    · exact ⟨_, List.mem_cons_self, two x (.inl h)⟩
    · rcases List.mem_cons.mp hx with h | hx
      · exact ⟨_, List.mem_cons_self, two x (.inr h)⟩
      · have : 1 < (b :: r).length := by
          cases r with
          | nil => cases hx
          | cons c r => simp
        obtain ⟨t, ht, k⟩ := tys_has this (List.mem_cons_of_mem _ hx)
        exact ⟨t, List.mem_cons_of_mem _ ht, k⟩
theorem rnd_trl {w : Wb} (hw : Web w.1 w.2) {p : Int} {way : List Int} (R : Rnd w p way) : ∃ S, Trl w.2 S := by
  have ndw : w.2.Nodup := (web_lft hw).nd
  have pm : (tys way).Perm (w.2.filter fun t => decide (t ∈ tys way)) := by
    refine (List.perm_ext_iff_of_nodup R.nd (ndw.sublist List.filter_sublist)).mpr fun t => ?_
    rw [List.mem_filter]
    simp only [decide_eq_true_eq]
    exact ⟨fun h => ⟨R.sub t h, h⟩, fun h => h.2⟩
  have hl := R.len
  have tl := tys_len way
  refine ⟨_, List.filter_sublist, by rw [← pm.length_eq]; omega, ?_, ?_, ?_⟩
  · intro t ht
    have f : ∀ x ∈ way, ∃ u ∈ w.2.filter (fun t => decide (t ∈ tys way)), x = u.1 ∨ x = u.2 := fun x hx => by
      obtain ⟨u, hu, k⟩ := tys_has (by omega) hx
      exact ⟨u, pm.mem_iff.mp hu, k⟩
    rcases R.met t ht with h | h
    · exact .inl (f _ h)
    · exact .inr (f _ h)
  · intro x
    rw [← dg_perm pm]
    obtain ⟨r, rfl⟩ : ∃ r, way = p :: r := by
      have := R.hd
      cases way with
      | nil => cases this
      | cons a r => exact ⟨r, by rw [Option.some.inj this]⟩
    rw [dg_way x r p p R.ls fun t ht => (hw.ok t (R.sub t ht)).2.1]
    split <;> rfl
  · intro s hs t ht
    have c := way_cn (S := w.2.filter fun t => decide (t ∈ tys way)) way p R.hd fun t ht => pm.mem_iff.mp ht
    have a := c s.1 (tys_in (pm.mem_iff.mpr hs)).1
    have b := c t.1 (tys_in (pm.mem_iff.mpr ht)).1
    exact a.symm.trans b
theorem trl_rnd {w : Wb} (hw : Web w.1 w.2) {S : List (Int × Int)} (T : Trl w.2 S) : ∃ p way, InR w.1 p ∧ Rnd w p way ∧ way.length ≤ w.2.length + 1 := by
  have ndw : w.2.Nodup := (web_lft hw).nd
  have lS := T.len
  have lw := hw.len
  have ls := T.sub.length_le
  obtain ⟨s0, r, rfl⟩ : ∃ s0 r, S = s0 :: r := by
    cases S with
    | nil => simp at lS
    | cons a r => exact ⟨a, r, rfl⟩
  obtain ⟨_, h1, h2⟩ := gone_all (ts := s0 :: r) (fun t ht => (hw.ok t (T.sub.subset ht)).2.1) (ndw.sublist T.sub) (by omega) (by simp)
  have hne := h1.mpr ⟨T.evn, T.con⟩
  obtain ⟨k1, k2, k3⟩ := h2 hne
  generalize v_gone_round (s0 :: r) = way at k1 k2 k3
  have g0 : gI (s0 :: r) (0 : Int) = s0 := gI_of (xs := s0 :: r) (i := 0) (by simp)
  rw [g0] at k1 k2
  have tl := tys_len way
  have pl := k3.length_eq
  have hlen : 3 < way.length := by omega
  have ok0 := hw.ok s0 (T.sub.subset List.mem_cons_self)
  refine ⟨s0.1, way, ⟨ok0.1, by omega⟩, ⟨hlen, k1, k2, k3.nodup_iff.mpr (ndw.sublist T.sub), fun t ht => T.sub.subset (k3.mem_iff.mp ht), ?_, ?_⟩, by omega⟩
  · intro t ht
    have f : ∀ x, (∃ u ∈ s0 :: r, x = u.1 ∨ x = u.2) → x ∈ way := fun x ⟨u, hu, k⟩ => by
      have := tys_in (k3.mem_iff.mpr hu)
      rcases k with k | k
      · rw [k]; exact this.1
      · rw [k]; exact this.2
    rcases T.met t ht with h | h
    · exact .inl (f _ h)
    · exact .inr (f _ h)
  · intro x hx
    obtain ⟨t, ht, k⟩ := tys_has (by omega) hx
    have ht := k3.mem_iff.mp ht
    have okt := hw.ok t (T.sub.subset ht)
    have : s0.1 ≤ t.1 := by
      rcases List.mem_cons.mp ht with rfl | ht
      · omega
      · have := (List.pairwise_cons.mp (hw.ris.sublist T.sub)).1 t ht
        unfold ltP2 at this
        simp only [Bool.or_eq_true, Bool.and_eq_true, decide_eq_true_eq] at this
        omega
    omega
theorem one_meets {w : Wb} {p : Int} : v_law_meets w [p] = true ↔ Meets w.2 fun x => x = p := by
  rw [law_meets_iff]
  unfold Meets
  simp
theorem any_meets {w : Wb} : (((rg (0 : Int) w.1).map fun (p : Int) => (v_law_meets w ([p]))).any id) = true ↔ ∃ p, InR w.1 p ∧ Meets w.2 fun x => x = p := by
  rw [List.any_eq_true]
  constructor
  · rintro ⟨b, hb, k⟩
    obtain ⟨p, hp, rfl⟩ := List.mem_map.mp hb
    exact ⟨p, rg0.mp hp, one_meets.mp k⟩
  · rintro ⟨p, hp, k⟩
    exact ⟨_, List.mem_map.mpr ⟨p, rg0.mpr hp, rfl⟩, one_meets.mpr k⟩
theorem tried_all {w : Wb} (hw : Web w.1 w.2) (hl : w.2.length ≤ 10) : ok_law_tried w ∧ v_law_tried w = (v_trail_of w).isSome := by
  have hlo := hw.lo
  have hhi := hw.hi
  have nv : v_law_near w = nearL w := by rw [law_near_eq, near_val hw]
  constructor
  · refine ⟨⟨by omega, by omega, by omega, by omega⟩, fun _ => ⟨by rw [law_near_ok]; exact near_ok hw, ?_⟩⟩
    rw [nv]
    refine ⟨⟨by omega, by omega, by omega, by omega⟩, fun p hp => ?_⟩
    exact goes_ok hw (p := p) 40 [p] p rfl rfl (rg0.mp hp) List.nodup_nil (by simp [tys]) (by simp [tys]; omega)
  · refine bool_iff ?_
    rw [trail_iff hw hl]
    unfold v_law_tried
    cases e : (((rg (0 : Int) w.1).map fun (p : Int) => (v_law_meets w ([p]))).any id) with
    | true =>
      rw [if_pos rfl]
      simp only [true_iff]
      exact .inl (any_meets.mp e)
    | false =>
      rw [if_neg (by simp), nv]
      have no : ¬ ∃ p, InR w.1 p ∧ Meets w.2 fun x => x = p := fun h => by
        rw [any_meets.mpr h] at e
        cases e
      show (((rg (0 : Int) w.1).map fun (p : Int) => (v_law_goes 40 w (nearL w) ([p]) ([] : List (Int × Int)))).any id) = true ↔ _
      rw [List.any_eq_true]
      constructor
      · rintro ⟨b, hb, k⟩
        obtain ⟨p, hp, rfl⟩ := List.mem_map.mp hb
        obtain ⟨way, R⟩ := goes_sound hw (p := p) 40 [p] p rfl rfl (rg0.mp hp) List.nodup_nil (by simp [tys]) (by simp) k
        exact .inr (rnd_trl hw R)
      · rintro (h | ⟨S, T⟩)
        · exact absurd h no
        · obtain ⟨p, way, hp, R, hlen⟩ := trl_rnd hw T
          obtain ⟨r, rfl⟩ : ∃ r, way = p :: r := by
            have := R.hd
            cases way with
            | nil => cases this
            | cons a r => exact ⟨r, by rw [Option.some.inj this]⟩
          refine ⟨_, List.mem_map.mpr ⟨p, rg0.mpr hp, rfl⟩, ?_⟩
          exact goes_complete hw r 40 [p] p rfl rfl hp R (by simp at hlen; omega)
theorem told_is {w : Wb} (hw : Web w.1 w.2) (hl : w.2.length ≤ 10) {way : List Int} (h : v_trail_of w = some way) : ok_law_is_trail w way ∧ v_law_is_trail w way = true ∧ way.length ≤ 11 ∧ (((rg (0 : Int) w.1).map fun (p : Int) => (v_law_meets w ([p]))).any id) = decide ((way.length : Int) = 1) := by
  have W := trail_told hw hl h
  have lens : way.length ≠ 1 → 3 < way.length ∧ way.length ≤ 11 := fun hn => by
    obtain ⟨S, p, T, pm, hd, ls⟩ := W.trail hn
    have := tys_len way
    have := pm.length_eq
    have := T.len
    have := T.sub.length_le
    omega
  have tv : ((way.zip (cutL way (some (1 : Int)) none)).map fun (it2 : Int × Int) => ((min it2.1 it2.2), (max it2.1 it2.2))) = tys way := ties_val way
  have rgs : ∀ x ∈ way, InR w.1 x := fun x hx => by
    by_cases hn : way.length = 1
    · obtain ⟨p, e, hp, _⟩ := W.alone hn
      rw [e] at hx
      rw [List.mem_singleton.mp hx]
      exact hp
    · obtain ⟨S, p, T, pm, hd, ls⟩ := W.trail hn
      obtain ⟨t, ht, k⟩ := tys_has (by have := lens hn; omega) hx
      have := hw.ok t (T.sub.subset (pm.mem_iff.mp ht))
      exact ⟨by omega, by omega⟩
  have c1 : ((!true) || (!((way.map fun (place1 : Int) => ((v_law_whole place1) && ((decide ((0 : Int) ≤ place1)) && (decide (place1 < w.1))))).all id))) = false := by
    simp only [Bool.not_true, Bool.false_or, Bool.not_eq_false', List.all_eq_true]
    intro b hb
    obtain ⟨x, hx, rfl⟩ := List.mem_map.mp hb
    have := rgs x hx
    exact and_yes rfl (and_yes (decide_eq_true this.1) (decide_eq_true this.2))
  refine ⟨?_, ?_, ?_, ?_⟩
  · intro _ hn
    have hn : way.length ≠ 1 := by simp at hn; omega
    obtain ⟨S, p, T, pm, hd, ls⟩ := W.trail hn
    obtain ⟨i0, i1, _, _⟩ := gI_ends hd ls
    rw [tv]
    intro _
    refine ⟨⟨i0, i1⟩, fun _ => ?_⟩
    have := tys_len way
    have := lens hn
    omega
  · unfold v_law_is_trail
    refine ite_no c1 (ite_any (fun hn => ?_) fun hn => ?_)
    · have hn : way.length = 1 := by simp at hn; omega
      obtain ⟨p, e, hp, hm⟩ := W.alone hn
      rw [e]
      exact one_meets.mpr hm
    · have hn : way.length ≠ 1 := by simp at hn; omega
      obtain ⟨S, p, T, pm, hd, ls⟩ := W.trail hn
      obtain ⟨i0, i1, g0, g1⟩ := gI_ends hd ls
      have tl := tys_len way
      have ll := lens hn
      have ndS : (tys way).Nodup := pm.nodup_iff.mpr ((web_lft hw).nd.sublist T.sub)
      rw [tv]
      refine ite_no (or_no (decide_eq_false (by omega)) (or_no (nd (by rw [g0, g1])) (decide_eq_false ?_))) (and_yes ?_ (law_meets_iff.mpr ?_))
      · have := nodup_len ndS (m := dedB (tys way)) fun x hx => (dedB_mem _ _).mpr hx
        omega
      · rw [List.all_eq_true]
        intro b hb
        obtain ⟨t, ht, rfl⟩ := List.mem_map.mp hb
        exact decide_eq_true (T.sub.subset (pm.mem_iff.mp ht))
      · intro t ht
        have f : ∀ x, (∃ u ∈ S, x = u.1 ∨ x = u.2) → x ∈ way := fun x ⟨u, hu, k⟩ => by
          have := tys_in (pm.mem_iff.mpr hu)
          rcases k with k | k
          · rw [k]; exact this.1
          · rw [k]; exact this.2
        rcases T.met t ht with h | h
        · exact .inl (f _ h)
        · exact .inr (f _ h)
  · by_cases hn : way.length = 1
    · omega
    · exact (lens hn).2
  · refine bool_iff ?_
    rw [any_meets, decide_eq_true_eq]
    constructor
    · rintro ⟨p, hp, hm⟩
      rw [trail_val] at h
      cases e : (rg 0 w.1).findSome? (trA w) with
      | none =>
        exfalso
        have := List.findSome?_eq_none_iff.mp e p (rg0.mpr hp)
        unfold trA at this
        rw [if_pos (meets_iff.mpr fun t ht => by simpa using hm t ht)] at this
        cases this
      | some y =>
        rw [e] at h
        obtain ⟨x, _, k⟩ := find_or e
        unfold trA at k
        split at k
        · have : way = y := (Option.some.inj h).symm
          rw [this, ← Option.some.inj k]
          rfl
        · cases k
    · intro hn
      obtain ⟨p, e, hp, hm⟩ := W.alone (by omega)
      exact ⟨p, hp, hm⟩
theorem right5 {w : Wb} (hw : Web w.1 w.2) (hl : w.2.length ≤ 10) : ok_law_right_5 w ∧ v_law_right_5 w = true := by
  have hlo := hw.lo
  have hhi := hw.hi
  have okt : ∀ {v : Wb}, Web v.1 v.2 → v.2.length ≤ 10 → ok_trail v := fun {v} a b => ⟨few_ok a (by omega), trail_ok a b⟩
  obtain ⟨t1, t2⟩ := tried_all hw hl
  unfold ok_law_right_5 v_law_right_5
  rw [copied_eq]
  show (ok_trail w ∧ optE (v_trail_of w) _ _) ∧ optE (v_trail_of w) _ _ = true
  cases e : v_trail_of w with
  | none =>
    rw [e] at t2
    exact ⟨⟨okt hw hl, fun _ => t1⟩, ite_no (or_no (nd rfl) (nd t2.symm)) rfl⟩
  | some way =>
    rw [e] at t2
    obtain ⟨i1, i2, i3, i4⟩ := told_is hw hl e
    have hw' : Web w.1 w.2.dropLast := Web.sub hw (List.dropLast_sublist _)
    have hl' : w.2.dropLast.length ≤ 10 := by rw [List.length_dropLast]; omega
    obtain ⟨s1, s2⟩ := tried_all (w := (w.1, w.2.dropLast)) hw' hl'
    have told : ∀ v, v_trail_of (w.1, w.2.dropLast) = some v → ok_law_is_trail (w.1, w.2.dropLast) v ∧ v_law_is_trail (w.1, w.2.dropLast) v = true := fun v hv => by
      obtain ⟨a, b, _⟩ := told_is (w := (w.1, w.2.dropLast)) hw' hl' hv
      exact ⟨a, b⟩
    constructor
    · refine ⟨okt hw hl, fun _ => t1, fun _ => ⟨i1, fun _ => ⟨⟨by omega, by omega, by omega, by omega⟩, fun _ => ⟨by omega, okt hw hl, fun _ hne => ⟨by simpa using hne, okt hw' hl', s1, fun _ hs => ?_⟩⟩⟩⟩⟩
      show (v_trail_of (w.1, w.2.dropLast)).isSome = true ∧ ok_law_is_trail (w.1, w.2.dropLast) ((v_trail_of (w.1, w.2.dropLast)).getD default)
      have hs : (v_trail_of (w.1, w.2.dropLast)).isNone = false := hs
      cases e2 : v_trail_of (w.1, w.2.dropLast) with
      | none => rw [e2] at hs; cases hs
      | some v => exact ⟨rfl, (told v e2).1⟩
    · refine ite_no (or_no (nd rfl) (nd t2.symm)) (ite_no (nt i2) (ite_no (nd i4) (ite_no (nd e) (ite_any (fun _ => and_yes (decide_eq_true s2.symm) ?_) fun _ => rfl))))
      show ((v_trail_of (w.1, w.2.dropLast)).isNone || v_law_is_trail (w.1, w.2.dropLast) ((v_trail_of (w.1, w.2.dropLast)).getD default)) = true
      cases e2 : v_trail_of (w.1, w.2.dropLast) with
      | none => rfl
      | some v => exact (told v e2).2
theorem k10_all {ns : List Int} (hb : Bits ns) : ok_law_10 ns ∧ v_law_10 ns = true := by
  unfold ok_law_10 v_law_10
  have okt : ∀ {v : Wb}, Web v.1 v.2 → v.2.length ≤ 10 → ok_trail v := fun {v} a b => ⟨few_ok a (by omega), trail_ok a b⟩
  have w1 : Web 5 [((0 : Int), (1 : Int)), (0, 2), (1, 2), (2, 3), (2, 4), (3, 4)] := ⟨by decide, by decide, by decide, by decide, by decide⟩
  have w2 : Web 4 [((0 : Int), (1 : Int)), (1, 2), (2, 3)] := ⟨by decide, by decide, by decide, by decide, by decide⟩
  have w3 : Web 3 [((0 : Int), (1 : Int)), (0, 2)] := ⟨by decide, by decide, by decide, by decide, by decide⟩
  have w4 : Web 0 ([] : List (Int × Int)) := ⟨by decide, by decide, by decide, by decide, by decide⟩
  have w5 : Web 1 ([] : List (Int × Int)) := ⟨by decide, by decide, by decide, by decide, by decide⟩
  have e1 : ((v_trail (5, [((0 : Int), (1 : Int)), (0, 2), (1, 2), (2, 3), (2, 4), (3, 4)])).isSome && decide ((((v_trail (5, [((0 : Int), (1 : Int)), (0, 2), (1, 2), (2, 3), (2, 4), (3, 4)])).getD default).length : Int) = 7)) = true := by decide +kernel
  have e2 : (v_trail (4, [((0 : Int), (1 : Int)), (1, 2), (2, 3)])).isSome = false := by decide +kernel
  have e3 : v_trail (3, [((0 : Int), (1 : Int)), (0, 2)]) = some [0] := by decide +kernel
  have e4 : (v_trail (0, ([] : List (Int × Int)))).isNone = true := by decide +kernel
  have e5 : v_trail (1, ([] : List (Int × Int))) = some [0] := by decide +kernel
  obtain ⟨e1a, e1b⟩ := Bool.and_eq_true_iff.mp e1
  have e1b := of_decide_eq_true e1b
  refine law_loop (I := fun _ => True) trivial (fun s x hx _ => ?_) fun _ _ => ⟨?_, ?_⟩
  rotate_left
  · exact ⟨⟨⟨okt w1 (by decide), e1a⟩, fun _ => okt w2 (by decide)⟩, fun _ => ⟨okt w3 (by decide), fun _ => ⟨okt w4 (by decide), fun _ => okt w5 (by decide)⟩⟩⟩
  · exact lett_val rfl (ite_no (or_no (nd e1b) e2) (and_yes (decide_eq_true e3) (and_yes e4 (decide_eq_true e5))))
  have hx := rg_mem.mp hx
  have hm : (if (decide (((cutL ns none (some (63 : Int))).sum % (64 : Int)) = (5 : Int))) = true then (10 : Int) else (7 : Int)) = 10 ∨ (if (decide (((cutL ns none (some (63 : Int))).sum % (64 : Int)) = (5 : Int))) = true then (10 : Int) else (7 : Int)) = 7 := by
    split
    · exact .inl rfl
    · exact .inr rfl
  generalize hme : (if (decide (((cutL ns none (some (63 : Int))).sum % (64 : Int)) = (5 : Int))) = true then (10 : Int) else (7 : Int)) = most at hm
  obtain ⟨oa, wa, na, la⟩ := web_ok hb (by_ := x) (p := 7) (t := most) (by omega) (by omega) (by omega)
  obtain ⟨ob, wb, nb, lb⟩ := web_ok hb (by_ := x + 3) (p := 4) (t := 6) (by omega) (by omega) (by omega)
  have r1 := right5 wa (by omega)
  have r2 := right5 wb (by omega)
  have r3 := right5 (w := ((v_law_web ns x 7 most).1, cutL (v_law_web ns x 7 most).2 none (some (4 : Int)))) (Web.sub wa (by rw [show (4 : Int) = ((4 : Nat) : Int) from rfl, cut_to]; exact List.take_sublist _ _)) (by rw [show (4 : Int) = ((4 : Nat) : Int) from rfl, cut_to, List.length_take]; omega)
  refine ⟨?_, (), ?_, trivial⟩
  · exact ⟨oa, ob, r1.1, fun _ => ⟨r2.1, fun _ => r3.1⟩⟩
  · exact lett_val rfl (lett_val rfl (lett_val rfl (ite_no (or_no (nt r1.2) (or_no (nt r2.2) (nt r3.2))) rfl)))
theorem k10_true (ns : List Int) (hlen : ns.length ≤ 63) (hbits : ∀ z ∈ ns, Builtin.Int.intBits z ≤ 1048576) : ∃ m, run GP 100 97 [.scr ns] = some (.ok (m, .bl true)) := by
  obtain ⟨o, e⟩ := k10_all (bits_of hbits)
  exact law_run (r_law_10 100 (by omega) ns o) e
end TY

set_option Elab.async false
set_option linter.all false
set_option maxRecDepth 100000
set_option maxHeartbeats 0
namespace k10_whole_trail
open PySem PySem.Spec PyProof.Rows L2 TW
def top (i : Nat) : Stmt := PySem.Challenge.pw_tieweb_k10_whole_trail.main.body.getD i (.Pass ⟨0, 0, 0, 0⟩)
def d0 : He.DefD := ⟨("is_whole", none), "is_whole", "is_whole", defArgs (top 7), defBody (top 7), defScope (top 7), [], []⟩
def d1 : He.DefD := ⟨("is_below", none), "is_below", "is_below", defArgs (top 8), defBody (top 8), defScope (top 8), [], []⟩
def d2 : He.DefD := ⟨("is_tie", none), "is_tie", "is_tie", defArgs (top 9), defBody (top 9), defScope (top 9), [], []⟩
def d3 : He.DefD := ⟨("is_web", none), "is_web", "is_web", defArgs (top 10), defBody (top 10), defScope (top 10), [], []⟩
def d4 : He.DefD := ⟨("check_few_ties", none), "check_few_ties", "check_few_ties", defArgs (top 11), defBody (top 11), defScope (top 11), [], []⟩
def d5 : He.DefD := ⟨("meets_all", none), "meets_all", "meets_all", defArgs (top 13), defBody (top 13), defScope (top 13), [], []⟩
def d6 : He.DefD := ⟨("chosen", none), "chosen", "chosen", defArgs (top 14), defBody (top 14), defScope (top 14), [], []⟩
def d7 : He.DefD := ⟨("gone_round", none), "gone_round", "gone_round", defArgs (top 15), defBody (top 15), defScope (top 15), [], []⟩
def d8 : He.DefD := ⟨("places_of", none), "places_of", "places_of", defArgs (top 16), defBody (top 16), defScope (top 16), [], []⟩
def d9 : He.DefD := ⟨("ties_of", none), "ties_of", "ties_of", defArgs (top 17), defBody (top 17), defScope (top 17), [], []⟩
def d10 : He.DefD := ⟨("round_from", none), "round_from", "round_from", defArgs (top 18), defBody (top 18), defScope (top 18), [], []⟩
def d11 : He.DefD := ⟨("trail_of", none), "trail_of", "trail_of", defArgs (top 19), defBody (top 19), defScope (top 19), [], []⟩
def d12 : He.DefD := ⟨("trail", none), "trail", "trail", defArgs (top 20), defBody (top 20), defScope (top 20), [], []⟩
def d13 : He.DefD := ⟨("_law_number", none), "_law_number", "_law_number", defArgs (top 22), defBody (top 22), defScope (top 22), [], []⟩
def d14 : He.DefD := ⟨("_law_web", none), "_law_web", "_law_web", defArgs (top 23), defBody (top 23), defScope (top 23), [], []⟩
def d15 : He.DefD := ⟨("_law_whole", none), "_law_whole", "_law_whole", defArgs (top 24), defBody (top 24), defScope (top 24), [], []⟩
def d16 : He.DefD := ⟨("_law_near", none), "_law_near", "_law_near", defArgs (top 25), defBody (top 25), defScope (top 25), [], []⟩
def d17 : He.DefD := ⟨("_law_copied", none), "_law_copied", "_law_copied", defArgs (top 26), defBody (top 26), defScope (top 26), [], []⟩
def d18 : He.DefD := ⟨("_law_meets", none), "_law_meets", "_law_meets", defArgs (top 27), defBody (top 27), defScope (top 27), [], []⟩
def d19 : He.DefD := ⟨("_law_is_trail", none), "_law_is_trail", "_law_is_trail", defArgs (top 28), defBody (top 28), defScope (top 28), [], []⟩
def d20 : He.DefD := ⟨("_law_tried", none), "_law_tried", "_law_tried", defArgs (top 29), defBody (top 29), defScope (top 29), [], []⟩
def d21 : He.DefD := ⟨("_law_goes", none), "_law_goes", "_law_goes", defArgs (top 30), defBody (top 30), defScope (top 30), [], []⟩
def d22 : He.DefD := ⟨("_law_right", none), "_law_right", "_law_right", defArgs (top 31), defBody (top 31), defScope (top 31), [], []⟩
def d23 : He.DefD := ⟨("law", none), "law", "law", defArgs (top 32), defBody (top 32), defScope (top 32), [], []⟩
def fn : List He.DefD := [d0, d1, d2, d3, d4, d5, d6, d7, d8, d9, d10, d11, d12, d13, d14, d15, d16, d17, d18, d19, d20, d21, d22, d23]
def fa : List He.Fa := [.glo "is_whole", .glo "is_below", .glo "is_tie", .glo "is_web", .glo "check_few_ties", .glo "meets_all", .glo "chosen", .glo "gone_round", .glo "places_of", .glo "ties_of", .glo "round_from", .glo "trail_of", .glo "trail", .glo "_law_number", .glo "_law_web", .glo "_law_whole", .glo "_law_near", .glo "_law_copied", .glo "_law_meets", .glo "_law_is_trail", .glo "_law_tried", .glo "_law_goes", .glo "_law_right", .glo "law", .free "all", .free "any", .free "bool", .free "enumerate", .free "int", .free "isinstance", .free "len", .free "list", .free "max", .free "min", .free "range", .free "set", .free "sorted", .free "sum", .free "tuple", .free "zip", .int "MOST_PLACES" 24, .int "MOST_TIES" 66, .int "SMALL" 10, .glo "WebError", .exc "WebError", .glo "BadWeb", .exc "BadWeb"]
def fb : List (PySem.W.Frag → Bool) := []
def fad (K : PySem.W.Frag) (n : Nat) : Addr := He.fAd K (gat.getD n ("", none))
def cad (K : PySem.W.Frag) (n : Nat) : Addr := He.ga K (["WebError", "BadWeb", "BadPlaces", "BadOrder", "TooMany", "Answer", "Cover", "Barred", "BadGroups", "BadRow", "BadColours", "NoCover"].getD n "")
abbrev Wof (K : PySem.W.Frag) : Wd := ⟨K, fad K, cad K, none⟩
structure Fx (K : PySem.W.Frag) (mg : Str → Option Value) : Prop where
  g_0 : mg "is_whole" = some (.ref ((Wof K).fa 0))
  g_1 : mg "is_below" = some (.ref ((Wof K).fa 1))
  g_2 : mg "is_tie" = some (.ref ((Wof K).fa 2))
  g_3 : mg "is_web" = some (.ref ((Wof K).fa 3))
  g_4 : mg "check_few_ties" = some (.ref ((Wof K).fa 31))
  g_5 : mg "meets_all" = some (.ref ((Wof K).fa 84))
  g_6 : mg "chosen" = some (.ref ((Wof K).fa 85))
  g_7 : mg "gone_round" = some (.ref ((Wof K).fa 86))
  g_8 : mg "places_of" = some (.ref ((Wof K).fa 87))
  g_9 : mg "ties_of" = some (.ref ((Wof K).fa 88))
  g_10 : mg "round_from" = some (.ref ((Wof K).fa 89))
  g_11 : mg "trail_of" = some (.ref ((Wof K).fa 90))
  g_12 : mg "trail" = some (.ref ((Wof K).fa 91))
  g_13 : mg "_law_number" = some (.ref ((Wof K).fa 9))
  g_14 : mg "_law_web" = some (.ref ((Wof K).fa 10))
  g_15 : mg "_law_whole" = some (.ref ((Wof K).fa 25))
  g_16 : mg "_law_near" = some (.ref ((Wof K).fa 11))
  g_17 : mg "_law_copied" = some (.ref ((Wof K).fa 12))
  g_18 : mg "_law_meets" = some (.ref ((Wof K).fa 92))
  g_19 : mg "_law_is_trail" = some (.ref ((Wof K).fa 93))
  g_20 : mg "_law_tried" = some (.ref ((Wof K).fa 94))
  g_21 : mg "_law_goes" = some (.ref ((Wof K).fa 95))
  g_22 : mg "_law_right" = some (.ref ((Wof K).fa 96))
  g_23 : mg "law" = some (.ref ((Wof K).fa 97))
  m_all : mg "all" = none
  m_any : mg "any" = none
  m_bool : mg "bool" = none
  m_enumerate : mg "enumerate" = none
  m_int : mg "int" = none
  m_isinstance : mg "isinstance" = none
  m_len : mg "len" = none
  m_list : mg "list" = none
  m_max : mg "max" = none
  m_min : mg "min" = none
  m_range : mg "range" = none
  m_set : mg "set" = none
  m_sorted : mg "sorted" = none
  m_sum : mg "sum" = none
  m_tuple : mg "tuple" = none
  m_zip : mg "zip" = none
  i_MOST_PLACES : ∃ t, mg "MOST_PLACES" = some (.int 24 t)
  i_MOST_TIES : ∃ t, mg "MOST_TIES" = some (.int 66 t)
  i_SMALL : ∃ t, mg "SMALL" = some (.int 10 t)
  c_0 : mg "WebError" = some (.ref ((Wof K).ca 0))
  e0_1 : PySem.W.excIn K ((Wof K).ca 0) He.veBase "ValueError.__new__" = true
  e0_2 : PySem.W.keepIn K (.ref ((Wof K).ca 0)) = true
  e0_3 : PySem.W.subIn K (.ref ((Wof K).ca 0)) (.type "BaseException") = some true
  e0_4 : PySem.W.typeIn K (.ref ((Wof K).ca 0)) = some (.type "type")
  c_1 : mg "BadWeb" = some (.ref ((Wof K).ca 1))
  e1_1 : PySem.W.excIn K ((Wof K).ca 1) He.veBase "ValueError.__new__" = true
  e1_2 : PySem.W.keepIn K (.ref ((Wof K).ca 1)) = true
  e1_3 : PySem.W.subIn K (.ref ((Wof K).ca 1)) (.type "BaseException") = some true
  e1_4 : PySem.W.typeIn K (.ref ((Wof K).ca 1)) = some (.type "type")
theorem fx_of {K : PySem.W.Frag} {h : Heap} {mg : Str → Option Value} (X : K.In h) (G : h.Ns mainGlobals mg) (c : SaysX fa fb fn K) : Fx K mg := ⟨He.glo_ok X G (c.fact 0 (f := .glo "is_whole") rfl),
  He.glo_ok X G (c.fact 1 (f := .glo "is_below") rfl),
  He.glo_ok X G (c.fact 2 (f := .glo "is_tie") rfl),
  He.glo_ok X G (c.fact 3 (f := .glo "is_web") rfl),
  He.glo_ok X G (c.fact 4 (f := .glo "check_few_ties") rfl),
  He.glo_ok X G (c.fact 5 (f := .glo "meets_all") rfl),
  He.glo_ok X G (c.fact 6 (f := .glo "chosen") rfl),
  He.glo_ok X G (c.fact 7 (f := .glo "gone_round") rfl),
  He.glo_ok X G (c.fact 8 (f := .glo "places_of") rfl),
  He.glo_ok X G (c.fact 9 (f := .glo "ties_of") rfl),
  He.glo_ok X G (c.fact 10 (f := .glo "round_from") rfl),
  He.glo_ok X G (c.fact 11 (f := .glo "trail_of") rfl),
  He.glo_ok X G (c.fact 12 (f := .glo "trail") rfl),
  He.glo_ok X G (c.fact 13 (f := .glo "_law_number") rfl),
  He.glo_ok X G (c.fact 14 (f := .glo "_law_web") rfl),
  He.glo_ok X G (c.fact 15 (f := .glo "_law_whole") rfl),
  He.glo_ok X G (c.fact 16 (f := .glo "_law_near") rfl),
  He.glo_ok X G (c.fact 17 (f := .glo "_law_copied") rfl),
  He.glo_ok X G (c.fact 18 (f := .glo "_law_meets") rfl),
  He.glo_ok X G (c.fact 19 (f := .glo "_law_is_trail") rfl),
  He.glo_ok X G (c.fact 20 (f := .glo "_law_tried") rfl),
  He.glo_ok X G (c.fact 21 (f := .glo "_law_goes") rfl),
  He.glo_ok X G (c.fact 22 (f := .glo "_law_right") rfl),
  He.glo_ok X G (c.fact 23 (f := .glo "law") rfl),
  He.free_ok X G (c.fact 24 (f := .free "all") rfl),
  He.free_ok X G (c.fact 25 (f := .free "any") rfl),
  He.free_ok X G (c.fact 26 (f := .free "bool") rfl),
  He.free_ok X G (c.fact 27 (f := .free "enumerate") rfl),
  He.free_ok X G (c.fact 28 (f := .free "int") rfl),
  He.free_ok X G (c.fact 29 (f := .free "isinstance") rfl),
  He.free_ok X G (c.fact 30 (f := .free "len") rfl),
  He.free_ok X G (c.fact 31 (f := .free "list") rfl),
  He.free_ok X G (c.fact 32 (f := .free "max") rfl),
  He.free_ok X G (c.fact 33 (f := .free "min") rfl),
  He.free_ok X G (c.fact 34 (f := .free "range") rfl),
  He.free_ok X G (c.fact 35 (f := .free "set") rfl),
  He.free_ok X G (c.fact 36 (f := .free "sorted") rfl),
  He.free_ok X G (c.fact 37 (f := .free "sum") rfl),
  He.free_ok X G (c.fact 38 (f := .free "tuple") rfl),
  He.free_ok X G (c.fact 39 (f := .free "zip") rfl),
  He.int_ok X G (c.fact 40 (f := .int "MOST_PLACES" 24) rfl),
  He.int_ok X G (c.fact 41 (f := .int "MOST_TIES" 66) rfl),
  He.int_ok X G (c.fact 42 (f := .int "SMALL" 10) rfl),
  He.glo_ok X G (c.fact 43 (f := .glo "WebError") rfl),
  (He.exc_ok (c.fact 44 (f := .exc "WebError") rfl)).1,
  (He.exc_ok (c.fact 44 (f := .exc "WebError") rfl)).2.1,
  (He.exc_ok (c.fact 44 (f := .exc "WebError") rfl)).2.2.1,
  (He.exc_ok (c.fact 44 (f := .exc "WebError") rfl)).2.2.2,
  He.glo_ok X G (c.fact 45 (f := .glo "BadWeb") rfl),
  (He.exc_ok (c.fact 46 (f := .exc "BadWeb") rfl)).1,
  (He.exc_ok (c.fact 46 (f := .exc "BadWeb") rfl)).2.1,
  (He.exc_ok (c.fact 46 (f := .exc "BadWeb") rfl)).2.2.1,
  (He.exc_ok (c.fact 46 (f := .exc "BadWeb") rfl)).2.2.2⟩
def sig : List (Nat × Str × List Str) := [(0, "is_whole", ["thing"]), (1, "is_below", ["thing", "many"]), (2, "is_tie", ["thing", "many"]), (3, "is_web", ["thing"]), (31, "check_few_ties", ["web", "most"]), (84, "meets_all", ["web", "places"]), (85, "chosen", ["web", "number"]), (86, "gone_round", ["ties"]), (87, "places_of", ["ties"]), (88, "ties_of", ["way"]), (89, "round_from", ["left", "place"]), (90, "trail_of", ["web"]), (91, "trail", ["web"]), (9, "_law_number", ["_law_cell", "_law_at", "_law_whole_here"]), (10, "_law_web", ["_law_script", "_law_by", "_law_places", "_law_ties"]), (25, "_law_whole", ["_law_found"]), (11, "_law_near", ["_law_web_here"]), (12, "_law_copied", ["_law_web_here"]), (92, "_law_meets", ["_law_web_here", "_law_places"]), (93, "_law_is_trail", ["_law_web_here", "_law_way"]), (94, "_law_tried", ["_law_web_here"]), (95, "_law_goes", ["_law_web_here", "_law_around", "_law_way", "_law_gone"]), (96, "_law_right", ["_law_web_here"]), (97, "law", ["_law_script"])]
def sigM : List (Nat × Nat × List Str) := []
def sigI : List (Nat × Nat × Str × Str × List Str) := []
section
variable {P : Program} {w : World} {K : PySem.W.Frag} {mg : Str → Option Value} {base : Heap} {T : Tb} {k : Nat}
def AllF (P : Program) (w : World) (K : PySem.W.Frag) (mg : Str → Option Value) (base : Heap) (T : Tb) (k : Nat) : Prop := ∀ (p j : Nat) (x : Str) (ps : List Str), sig[p]? = some (j, x, ps) → FnF P w mg base (Wof K) T k x j ps
def AllM (P : Program) (w : World) (K : PySem.W.Frag) (mg : Str → Option Value) (base : Heap) (T : Tb) (k : Nat) : Prop := ∀ (p j C : Nat) (ps : List Str), sigM[p]? = some (j, C, ps) → FnM P w mg base (Wof K) T k "shows" C j ps
def AllI (P : Program) (w : World) (K : PySem.W.Frag) (mg : Str → Option Value) (base : Heap) (T : Tb) : Prop := ∀ (p j C : Nat) (f x : Str) (ps : List Str), sigI[p]? = some (j, C, f, x, ps) → FnI P w mg base (Wof K) T 1 x C f j ps
theorem sc0 : FnScope ["thing"] ["thing"] (defScope (top 7)) := ⟨rfl, rfl, rfl, by decide +kernel, rfl, by decide +kernel, by decide +kernel⟩
theorem b0 (FX : Fx K mg) (hF : AllF P w K mg base T k) (hM : AllM P w K mg base T k) (hI : AllI P w K mg base T) (hk2 : 2 ≤ k) {f : Addr} (cdv : Value) (A : Around) (outer : List Env) (s : Shared) (H : Hp) (E : XK) (hr : Room k (A.deeper (envOfC "is_whole" (defScope (top 7)) s.heap.objs.size f cdv))) :
    PSs (cxOf (L2.CX P w) P w K mg base ["thing"] "is_whole" (defScope (top 7)) f cdv A outer s H E) (defBody (top 7)) (rdSs (Wof K) E T fu_is_whole.body) := by
  have hN : (["thing"] : List Str).Nodup := sc0.nd
  have hu0 : (A.deeper (envOfC "is_whole" (defScope (top 7)) s.heap.objs.size f cdv)).units < cLine := by have := hr.un; omega
  have hu4 : (A.deeper (envOfC "is_whole" (defScope (top 7)) s.heap.objs.size f cdv)).units + 64 < cLine := by have := hr.un; omega
  have hu5 : (A.deeper (envOfC "is_whole" (defScope (top 7)) s.heap.objs.size f cdv)).units + 65 < cLine := by have := hr.un; omega
  have tk : Takes (cxOf (L2.CX P w) P w K mg base ["thing"] "is_whole" (defScope (top 7)) f cdv A outer s H E) (fun cls d _ H => E cls d H) := takes_of rfl rfl rfl rfl
  have px : Passes (L2.CX P w) (cxOf (L2.CX P w) P w K mg base ["thing"] "is_whole" (defScope (top 7)) f cdv A outer s H E) E := passes_call tk fun _ _ _ _ h => h
  have po : PassesOwn (model P w) (cxOf (L2.CX P w) P w K mg base ["thing"] "is_whole" (defScope (top 7)) f cdv A outer s H E).A (cxOf (L2.CX P w) P w K mg base ["thing"] "is_whole" (defScope (top 7)) f cdv A outer s H E).env (cxOf (L2.CX P w) P w K mg base ["thing"] "is_whole" (defScope (top 7)) f cdv A outer s H E).xe := passes_of rfl
  refine s_cons (s_ret (r_of (c_and (c_isi rfl rfl rfl FX.m_isinstance rfl FX.m_int rfl (c_var 0)) (c_one (c_not (c_isi rfl rfl rfl FX.m_isinstance rfl FX.m_bool rfl (c_var 0))))))) ?_
  exact s_nil
theorem sc1 : FnScope ["thing", "many"] ["thing", "many"] (defScope (top 8)) := ⟨rfl, rfl, rfl, by decide +kernel, rfl, by decide +kernel, by decide +kernel⟩
theorem b1 (FX : Fx K mg) (hF : AllF P w K mg base T k) (hM : AllM P w K mg base T k) (hI : AllI P w K mg base T) (hk2 : 2 ≤ k) {f : Addr} (cdv : Value) (A : Around) (outer : List Env) (s : Shared) (H : Hp) (E : XK) (hr : Room k (A.deeper (envOfC "is_below" (defScope (top 8)) s.heap.objs.size f cdv))) :
    PSs (cxOf (L2.CX P w) P w K mg base ["thing", "many"] "is_below" (defScope (top 8)) f cdv A outer s H E) (defBody (top 8)) (rdSs (Wof K) E T fu_is_below.body) := by
  have hN : (["thing", "many"] : List Str).Nodup := sc1.nd
  have hu0 : (A.deeper (envOfC "is_below" (defScope (top 8)) s.heap.objs.size f cdv)).units < cLine := by have := hr.un; omega
  have hu4 : (A.deeper (envOfC "is_below" (defScope (top 8)) s.heap.objs.size f cdv)).units + 64 < cLine := by have := hr.un; omega
  have hu5 : (A.deeper (envOfC "is_below" (defScope (top 8)) s.heap.objs.size f cdv)).units + 65 < cLine := by have := hr.un; omega
  have tk : Takes (cxOf (L2.CX P w) P w K mg base ["thing", "many"] "is_below" (defScope (top 8)) f cdv A outer s H E) (fun cls d _ H => E cls d H) := takes_of rfl rfl rfl rfl
  have px : Passes (L2.CX P w) (cxOf (L2.CX P w) P w K mg base ["thing", "many"] "is_below" (defScope (top 8)) f cdv A outer s H E) E := passes_call tk fun _ _ _ _ h => h
  have po : PassesOwn (model P w) (cxOf (L2.CX P w) P w K mg base ["thing", "many"] "is_below" (defScope (top 8)) f cdv A outer s H E).A (cxOf (L2.CX P w) P w K mg base ["thing", "many"] "is_below" (defScope (top 8)) f cdv A outer s H E).env (cxOf (L2.CX P w) P w K mg base ["thing", "many"] "is_below" (defScope (top 8)) f cdv A outer s H E).xe := passes_of rfl
  refine s_cons (s_ret (r_of (c_and (c_cal rfl (hF 0 _ _ _ rfl) hr rfl px (a_cons (c_var 0) a_nil)) (c_one (c_chn o_le (o_lt hu0) c_int (c_var 0) (c_var 1)))))) ?_
  exact s_nil
theorem sc2 : FnScope ["thing", "many"] ["thing", "many"] (defScope (top 9)) := ⟨rfl, rfl, rfl, by decide +kernel, rfl, by decide +kernel, by decide +kernel⟩
theorem b2 (FX : Fx K mg) (hF : AllF P w K mg base T k) (hM : AllM P w K mg base T k) (hI : AllI P w K mg base T) (hk2 : 2 ≤ k) {f : Addr} (cdv : Value) (A : Around) (outer : List Env) (s : Shared) (H : Hp) (E : XK) (hr : Room k (A.deeper (envOfC "is_tie" (defScope (top 9)) s.heap.objs.size f cdv))) :
    PSs (cxOf (L2.CX P w) P w K mg base ["thing", "many"] "is_tie" (defScope (top 9)) f cdv A outer s H E) (defBody (top 9)) (rdSs (Wof K) E T fu_is_tie.body) := by
  have hN : (["thing", "many"] : List Str).Nodup := sc2.nd
  have hu0 : (A.deeper (envOfC "is_tie" (defScope (top 9)) s.heap.objs.size f cdv)).units < cLine := by have := hr.un; omega
  have hu4 : (A.deeper (envOfC "is_tie" (defScope (top 9)) s.heap.objs.size f cdv)).units + 64 < cLine := by have := hr.un; omega
  have hu5 : (A.deeper (envOfC "is_tie" (defScope (top 9)) s.heap.objs.size f cdv)).units + 65 < cLine := by have := hr.un; omega
  have tk : Takes (cxOf (L2.CX P w) P w K mg base ["thing", "many"] "is_tie" (defScope (top 9)) f cdv A outer s H E) (fun cls d _ H => E cls d H) := takes_of rfl rfl rfl rfl
  have px : Passes (L2.CX P w) (cxOf (L2.CX P w) P w K mg base ["thing", "many"] "is_tie" (defScope (top 9)) f cdv A outer s H E) E := passes_call tk fun _ _ _ _ h => h
  have po : PassesOwn (model P w) (cxOf (L2.CX P w) P w K mg base ["thing", "many"] "is_tie" (defScope (top 9)) f cdv A outer s H E).A (cxOf (L2.CX P w) P w K mg base ["thing", "many"] "is_tie" (defScope (top 9)) f cdv A outer s H E).env (cxOf (L2.CX P w) P w K mg base ["thing", "many"] "is_tie" (defScope (top 9)) f cdv A outer s H E).xe := passes_of rfl
  refine s_cons (s_if (L2.PW.pt (t_or (t_not (t_val (c_isi rfl rfl rfl FX.m_isinstance rfl FX.m_tuple rfl (c_var 0)))) (t_or (t_cmp (o_ne rfl hu4) (c_bi (b_len rfl) rfl FX.m_len rfl (a_cons (c_var 0) a_nil)) c_int (by with_unfolding_all rfl)) (t_or1 (t_not (t_val (c_cal rfl (hF 1 _ _ _ rfl) hr rfl px (a_cons (c_sub rfl (c_var 0) c_int) (a_cons (c_var 1) a_nil))))))))) (s_cons (s_ret (r_of c_bl))
      s_nil) s_nil) ?_
  refine s_cons (s_ret (r_of (c_and (c_cal rfl (hF 1 _ _ _ rfl) hr rfl px (a_cons (c_sub rfl (c_var 0) c_int) (a_cons (c_var 1) a_nil))) (c_one (c_cmp (o_lt hu0) (c_sub rfl (c_var 0) c_int) (c_sub rfl (c_var 0) c_int) (by with_unfolding_all rfl)))))) ?_
  exact s_nil
theorem sc3 : FnScope ["thing", "ties", "one", "other", "tie"] ["thing"] (defScope (top 10)) := ⟨rfl, rfl, rfl, by decide +kernel, rfl, by decide +kernel, by decide +kernel⟩
theorem b3 (FX : Fx K mg) (hF : AllF P w K mg base T k) (hM : AllM P w K mg base T k) (hI : AllI P w K mg base T) (hk2 : 2 ≤ k) {f : Addr} (cdv : Value) (A : Around) (outer : List Env) (s : Shared) (H : Hp) (E : XK) (hr : Room k (A.deeper (envOfC "is_web" (defScope (top 10)) s.heap.objs.size f cdv))) :
    PSs (cxOf (L2.CX P w) P w K mg base ["thing", "ties", "one", "other", "tie"] "is_web" (defScope (top 10)) f cdv A outer s H E) (defBody (top 10)) (rdSs (Wof K) E T fu_is_web.body) := by
  have hN : (["thing", "ties", "one", "other", "tie"] : List Str).Nodup := sc3.nd
  have hu0 : (A.deeper (envOfC "is_web" (defScope (top 10)) s.heap.objs.size f cdv)).units < cLine := by have := hr.un; omega
  have hu4 : (A.deeper (envOfC "is_web" (defScope (top 10)) s.heap.objs.size f cdv)).units + 64 < cLine := by have := hr.un; omega
  have hu5 : (A.deeper (envOfC "is_web" (defScope (top 10)) s.heap.objs.size f cdv)).units + 65 < cLine := by have := hr.un; omega
  have tk : Takes (cxOf (L2.CX P w) P w K mg base ["thing", "ties", "one", "other", "tie"] "is_web" (defScope (top 10)) f cdv A outer s H E) (fun cls d _ H => E cls d H) := takes_of rfl rfl rfl rfl
  have px : Passes (L2.CX P w) (cxOf (L2.CX P w) P w K mg base ["thing", "ties", "one", "other", "tie"] "is_web" (defScope (top 10)) f cdv A outer s H E) E := passes_call tk fun _ _ _ _ h => h
  have po : PassesOwn (model P w) (cxOf (L2.CX P w) P w K mg base ["thing", "ties", "one", "other", "tie"] "is_web" (defScope (top 10)) f cdv A outer s H E).A (cxOf (L2.CX P w) P w K mg base ["thing", "ties", "one", "other", "tie"] "is_web" (defScope (top 10)) f cdv A outer s H E).env (cxOf (L2.CX P w) P w K mg base ["thing", "ties", "one", "other", "tie"] "is_web" (defScope (top 10)) f cdv A outer s H E).xe := passes_of rfl
  refine s_cons (s_if (L2.PW.pt (t_or (t_not (t_val (c_isi rfl rfl rfl FX.m_isinstance rfl FX.m_tuple rfl (c_var 0)))) (t_or (t_cmp (o_ne rfl hu4) (c_bi (b_len rfl) rfl FX.m_len rfl (a_cons (c_var 0) a_nil)) c_int (by with_unfolding_all rfl)) (t_or1 (t_not (t_val (c_cal rfl (hF 1 _ _ _ rfl) hr rfl px (a_cons (c_sub rfl (c_var 0) c_int) (a_cons (c_op o_add (c_gint rfl FX.i_MOST_PLACES) c_int) a_nil))))))))) (s_cons (s_ret (r_of c_bl))
      s_nil) s_nil) ?_
  refine s_cons (s_asg hN (c_sub rfl (c_var 0) c_int)) ?_
  refine s_cons (s_if (L2.PW.pt (t_or (t_not (t_val (c_isi rfl rfl rfl FX.m_isinstance rfl FX.m_list rfl (c_var 1)))) (t_or (t_cmp o_gt (c_bi (b_len rfl) rfl FX.m_len rfl (a_cons (c_var 1) a_nil)) (c_gint rfl FX.i_MOST_TIES) (by with_unfolding_all rfl)) (t_or1 (t_not (t_val (c_bi (b_all rfl rfl) rfl FX.m_all rfl (a_cons (c_comp (own := [("tie", 4)]) rfl hN (i_seq rfl (c_var 1)) (show BlkOk ["thing", "ties", "one", "other", "tie"] (defScope (top 10)) _ _ from blkOk_by (by decide +kernel)) rfl (fun _ _ _ _ _ => (g_one 4 hN)) (fun _ _ _ _ _ => x_nil) (fun _ _ _ _ _ => (c_cal rfl (hF 2 _ _ _ rfl) hr rfl passL (a_cons (c_var 4) (a_cons (c_sub rfl (c_var 0) c_int) a_nil))))) a_nil)))))))) (s_cons (s_ret (r_of c_bl))
      s_nil) s_nil) ?_
  refine s_cons (s_ret (r_of (c_bi (b_all rfl rfl) rfl FX.m_all rfl (a_cons (c_comp (own := [("one", 2), ("other", 3)]) rfl hN (i_zip rfl FX.m_zip (c_var 1) (c_slc rfl (c_var 1) (o_so c_int) o_no)) (show BlkOk ["thing", "ties", "one", "other", "tie"] (defScope (top 10)) _ _ from blkOk_by (by decide +kernel)) rfl (fun _ _ _ _ _ => (g_two 2 3 rfl hN)) (fun _ _ _ _ _ => x_nil) (fun _ _ _ _ _ => (c_cmp (o_lt hu0) (c_var 2) (c_var 3) (by with_unfolding_all rfl)))) a_nil)))) ?_
  exact s_nil
theorem sc4 : FnScope ["web", "most"] ["web", "most"] (defScope (top 11)) := ⟨rfl, rfl, rfl, by decide +kernel, rfl, by decide +kernel, by decide +kernel⟩
theorem b4 (FX : Fx K mg) (hF : AllF P w K mg base T k) (hM : AllM P w K mg base T k) (hI : AllI P w K mg base T) (hk2 : 2 ≤ k) {f : Addr} (cdv : Value) (A : Around) (outer : List Env) (s : Shared) (H : Hp) (E : XK) (hr : Room k (A.deeper (envOfC "check_few_ties" (defScope (top 11)) s.heap.objs.size f cdv))) :
    PSs (cxOf (L2.CX P w) P w K mg base ["web", "most"] "check_few_ties" (defScope (top 11)) f cdv A outer s H E) (defBody (top 11)) (rdSs (Wof K) E T fu_check_few_ties.body) := by
  have hN : (["web", "most"] : List Str).Nodup := sc4.nd
  have hu0 : (A.deeper (envOfC "check_few_ties" (defScope (top 11)) s.heap.objs.size f cdv)).units < cLine := by have := hr.un; omega
  have hu4 : (A.deeper (envOfC "check_few_ties" (defScope (top 11)) s.heap.objs.size f cdv)).units + 64 < cLine := by have := hr.un; omega
  have hu5 : (A.deeper (envOfC "check_few_ties" (defScope (top 11)) s.heap.objs.size f cdv)).units + 65 < cLine := by have := hr.un; omega
  have tk : Takes (cxOf (L2.CX P w) P w K mg base ["web", "most"] "check_few_ties" (defScope (top 11)) f cdv A outer s H E) (fun cls d _ H => E cls d H) := takes_of rfl rfl rfl rfl
  have px : Passes (L2.CX P w) (cxOf (L2.CX P w) P w K mg base ["web", "most"] "check_few_ties" (defScope (top 11)) f cdv A outer s H E) E := passes_call tk fun _ _ _ _ h => h
  have po : PassesOwn (model P w) (cxOf (L2.CX P w) P w K mg base ["web", "most"] "check_few_ties" (defScope (top 11)) f cdv A outer s H E).A (cxOf (L2.CX P w) P w K mg base ["web", "most"] "check_few_ties" (defScope (top 11)) f cdv A outer s H E).env (cxOf (L2.CX P w) P w K mg base ["web", "most"] "check_few_ties" (defScope (top 11)) f cdv A outer s H E).xe := passes_of rfl
  refine s_cons (s_if (L2.PW.pt (t_or (t_not (t_val (c_cal rfl (hF 3 _ _ _ rfl) hr rfl px (a_cons (c_var 0) a_nil)))) (t_or1 (t_cmp o_gt (c_bi (b_len rfl) rfl FX.m_len rfl (a_cons (c_sub rfl (c_var 0) c_int) a_nil)) (c_var 1) (by with_unfolding_all rfl))))) (s_cons (s_rai rfl rfl tk FX.e1_1 FX.c_1 FX.e1_2 FX.e1_3 FX.e1_4 rfl)
      s_nil) s_nil) ?_
  exact s_nil
theorem sc5 : FnScope ["web", "places", "one", "other"] ["web", "places"] (defScope (top 13)) := ⟨rfl, rfl, rfl, by decide +kernel, rfl, by decide +kernel, by decide +kernel⟩
theorem b5 (FX : Fx K mg) (hF : AllF P w K mg base T k) (hM : AllM P w K mg base T k) (hI : AllI P w K mg base T) (hk2 : 2 ≤ k) {f : Addr} (cdv : Value) (A : Around) (outer : List Env) (s : Shared) (H : Hp) (E : XK) (hr : Room k (A.deeper (envOfC "meets_all" (defScope (top 13)) s.heap.objs.size f cdv))) :
    PSs (cxOf (L2.CX P w) P w K mg base ["web", "places", "one", "other"] "meets_all" (defScope (top 13)) f cdv A outer s H E) (defBody (top 13)) (rdSs (Wof K) E T fu_meets_all.body) := by
  have hN : (["web", "places", "one", "other"] : List Str).Nodup := sc5.nd
  have hu0 : (A.deeper (envOfC "meets_all" (defScope (top 13)) s.heap.objs.size f cdv)).units < cLine := by have := hr.un; omega
  have hu4 : (A.deeper (envOfC "meets_all" (defScope (top 13)) s.heap.objs.size f cdv)).units + 64 < cLine := by have := hr.un; omega
  have hu5 : (A.deeper (envOfC "meets_all" (defScope (top 13)) s.heap.objs.size f cdv)).units + 65 < cLine := by have := hr.un; omega
  have tk : Takes (cxOf (L2.CX P w) P w K mg base ["web", "places", "one", "other"] "meets_all" (defScope (top 13)) f cdv A outer s H E) (fun cls d _ H => E cls d H) := takes_of rfl rfl rfl rfl
  have px : Passes (L2.CX P w) (cxOf (L2.CX P w) P w K mg base ["web", "places", "one", "other"] "meets_all" (defScope (top 13)) f cdv A outer s H E) E := passes_call tk fun _ _ _ _ h => h
  have po : PassesOwn (model P w) (cxOf (L2.CX P w) P w K mg base ["web", "places", "one", "other"] "meets_all" (defScope (top 13)) f cdv A outer s H E).A (cxOf (L2.CX P w) P w K mg base ["web", "places", "one", "other"] "meets_all" (defScope (top 13)) f cdv A outer s H E).env (cxOf (L2.CX P w) P w K mg base ["web", "places", "one", "other"] "meets_all" (defScope (top 13)) f cdv A outer s H E).xe := passes_of rfl
  refine s_cons (s_ret (r_of (c_bi (b_all rfl rfl) rfl FX.m_all rfl (a_cons (c_comp (own := [("one", 2), ("other", 3)]) rfl hN (i_seq rfl (c_sub rfl (c_var 0) c_int)) (show BlkOk ["web", "places", "one", "other"] (defScope (top 13)) _ _ from blkOk_by (by decide +kernel)) rfl (fun _ _ _ _ _ => (g_two 2 3 rfl hN)) (fun _ _ _ _ _ => x_nil) (fun _ _ _ _ _ => (c_or (c_cmp (o_in rfl hu5) (c_var 2) (c_var 1) (by with_unfolding_all rfl)) (c_one (c_cmp (o_in rfl hu5) (c_var 3) (c_var 1) (by with_unfolding_all rfl)))))) a_nil)))) ?_
  exact s_nil
theorem sc6 : FnScope ["web", "number", "at", "tie"] ["web", "number"] (defScope (top 14)) := ⟨rfl, rfl, rfl, by decide +kernel, rfl, by decide +kernel, by decide +kernel⟩
theorem b6 (FX : Fx K mg) (hF : AllF P w K mg base T k) (hM : AllM P w K mg base T k) (hI : AllI P w K mg base T) (hk2 : 2 ≤ k) {f : Addr} (cdv : Value) (A : Around) (outer : List Env) (s : Shared) (H : Hp) (E : XK) (hr : Room k (A.deeper (envOfC "chosen" (defScope (top 14)) s.heap.objs.size f cdv))) :
    PSs (cxOf (L2.CX P w) P w K mg base ["web", "number", "at", "tie"] "chosen" (defScope (top 14)) f cdv A outer s H E) (defBody (top 14)) (rdSs (Wof K) E T fu_chosen.body) := by
  have hN : (["web", "number", "at", "tie"] : List Str).Nodup := sc6.nd
  have hu0 : (A.deeper (envOfC "chosen" (defScope (top 14)) s.heap.objs.size f cdv)).units < cLine := by have := hr.un; omega
  have hu4 : (A.deeper (envOfC "chosen" (defScope (top 14)) s.heap.objs.size f cdv)).units + 64 < cLine := by have := hr.un; omega
  have hu5 : (A.deeper (envOfC "chosen" (defScope (top 14)) s.heap.objs.size f cdv)).units + 65 < cLine := by have := hr.un; omega
  have tk : Takes (cxOf (L2.CX P w) P w K mg base ["web", "number", "at", "tie"] "chosen" (defScope (top 14)) f cdv A outer s H E) (fun cls d _ H => E cls d H) := takes_of rfl rfl rfl rfl
  have px : Passes (L2.CX P w) (cxOf (L2.CX P w) P w K mg base ["web", "number", "at", "tie"] "chosen" (defScope (top 14)) f cdv A outer s H E) E := passes_call tk fun _ _ _ _ h => h
  have po : PassesOwn (model P w) (cxOf (L2.CX P w) P w K mg base ["web", "number", "at", "tie"] "chosen" (defScope (top 14)) f cdv A outer s H E).A (cxOf (L2.CX P w) P w K mg base ["web", "number", "at", "tie"] "chosen" (defScope (top 14)) f cdv A outer s H E).env (cxOf (L2.CX P w) P w K mg base ["web", "number", "at", "tie"] "chosen" (defScope (top 14)) f cdv A outer s H E).xe := passes_of rfl
  refine s_cons (s_ret (r_of (c_comp (own := [("at", 2), ("tie", 3)]) rfl hN (i_enu rfl FX.m_enumerate (c_sub rfl (c_var 0) c_int)) (show BlkOk ["web", "number", "at", "tie"] (defScope (top 14)) _ _ from blkOk_by (by decide +kernel)) rfl (fun _ _ _ _ _ => (g_two 2 3 rfl hN)) (fun _ _ _ _ _ => (x_one (t_cmp (o_eq rfl hu4) (c_op o_band (c_op o_shr (c_var 1) (c_var 2)) c_int) c_int (by with_unfolding_all rfl)))) (fun _ _ _ _ _ => (c_var 3))))) ?_
  exact s_nil
theorem sc7 : FnScope ["ties", "at", "left", "found", "way", "place", "tie"] ["ties"] (defScope (top 15)) := ⟨rfl, rfl, rfl, by decide +kernel, rfl, by decide +kernel, by decide +kernel⟩
theorem b7 (FX : Fx K mg) (hF : AllF P w K mg base T k) (hM : AllM P w K mg base T k) (hI : AllI P w K mg base T) (hk2 : 2 ≤ k) {f : Addr} (cdv : Value) (A : Around) (outer : List Env) (s : Shared) (H : Hp) (E : XK) (hr : Room k (A.deeper (envOfC "gone_round" (defScope (top 15)) s.heap.objs.size f cdv))) :
    PSs (cxOf (L2.CX P w) P w K mg base ["ties", "at", "left", "found", "way", "place", "tie"] "gone_round" (defScope (top 15)) f cdv A outer s H E) (defBody (top 15)) (rdSs (Wof K) E T fu_gone_round.body) := by
  have hN : (["ties", "at", "left", "found", "way", "place", "tie"] : List Str).Nodup := sc7.nd
  have hu0 : (A.deeper (envOfC "gone_round" (defScope (top 15)) s.heap.objs.size f cdv)).units < cLine := by have := hr.un; omega
  have hu4 : (A.deeper (envOfC "gone_round" (defScope (top 15)) s.heap.objs.size f cdv)).units + 64 < cLine := by have := hr.un; omega
  have hu5 : (A.deeper (envOfC "gone_round" (defScope (top 15)) s.heap.objs.size f cdv)).units + 65 < cLine := by have := hr.un; omega
  have tk : Takes (cxOf (L2.CX P w) P w K mg base ["ties", "at", "left", "found", "way", "place", "tie"] "gone_round" (defScope (top 15)) f cdv A outer s H E) (fun cls d _ H => E cls d H) := takes_of rfl rfl rfl rfl
  have px : Passes (L2.CX P w) (cxOf (L2.CX P w) P w K mg base ["ties", "at", "left", "found", "way", "place", "tie"] "gone_round" (defScope (top 15)) f cdv A outer s H E) E := passes_call tk fun _ _ _ _ h => h
  have po : PassesOwn (model P w) (cxOf (L2.CX P w) P w K mg base ["ties", "at", "left", "found", "way", "place", "tie"] "gone_round" (defScope (top 15)) f cdv A outer s H E).A (cxOf (L2.CX P w) P w K mg base ["ties", "at", "left", "found", "way", "place", "tie"] "gone_round" (defScope (top 15)) f cdv A outer s H E).env (cxOf (L2.CX P w) P w K mg base ["ties", "at", "left", "found", "way", "place", "tie"] "gone_round" (defScope (top 15)) f cdv A outer s H E).xe := passes_of rfl
  refine s_cons (by first | exact s_par rfl hN (a_cons (c_biT b_list rfl FX.m_list rfl (a_cons (c_var 0) a_nil)) (a_cons (c_lst (a_cons (c_sub rfl (c_sub rfl (c_var 0) c_int) c_int) a_nil)) a_nil)) | exact s_parU rfl hN (a_cons (c_biT b_list rfl FX.m_list rfl (a_cons (c_var 0) a_nil)) (a_cons (c_lst (a_cons (c_sub rfl (c_sub rfl (c_var 0) c_int) c_int) a_nil)) a_nil))) ?_
  refine s_cons (s_if (t_val (c_bi (b_any rfl rfl) rfl FX.m_any rfl (a_cons (c_comp (own := [("place", 5)]) rfl hN (i_seq rfl (c_cal rfl (hF 8 _ _ _ rfl) hr rfl px (a_cons (c_var 0) a_nil))) (show BlkOk ["ties", "at", "left", "found", "way", "place", "tie"] (defScope (top 15)) _ _ from blkOk_by (by decide +kernel)) rfl (fun _ _ _ _ _ => (g_one 5 hN)) (fun _ _ _ _ _ => x_nil) (fun _ _ _ _ _ => (c_cmp (o_eq rfl hu4) (c_op o_mod (c_bi (b_len rfl) rfl FX.m_len rfl (a_cons (c_comp (own := [("tie", 6)]) rfl hN (i_seq rfl (c_var 0)) (blkOk_by (by rfl)) rfl (fun _ _ _ _ _ => (g_one 6 hN)) (fun _ _ _ _ _ => (x_one (t_cmp (o_in rfl hu5) (c_var 5) (c_var 6) (by with_unfolding_all rfl)))) (fun _ _ _ _ _ => (c_var 6))) a_nil)) c_int) c_int (by with_unfolding_all rfl)))) a_nil))) (s_cons (s_ret (r_of (c_lst a_nil)))
      s_nil) s_nil) ?_
  refine s_cons (s_asg hN c_int) ?_
  refine s_cons (s_whl po (t_cmp (o_lt hu0) (c_var 1) (c_bi (b_len rfl) rfl FX.m_len rfl (a_cons (c_var 3) a_nil)) (by with_unfolding_all rfl)) (s_cons (s_asg hN (c_cal rfl (hF 10 _ _ _ rfl) hr rfl px (a_cons (c_var 2) (a_cons (c_sub rfl (c_var 3) (c_var 1)) a_nil))))
      (s_cons (by first | exact s_asg hN (c_comp (own := [("tie", 6)]) rfl hN (i_seq rfl (c_var 2)) (show BlkOk ["ties", "at", "left", "found", "way", "place", "tie"] (defScope (top 15)) _ _ from blkOk_by (by decide +kernel)) rfl (fun _ _ _ _ _ => (g_one 6 hN)) (fun _ _ _ _ _ => (x_one (t_cmp (o_notin rfl hu5) (c_var 6) (c_cal rfl (hF 9 _ _ _ rfl) hr rfl passL (a_cons (c_var 4) a_nil)) (by with_unfolding_all rfl)))) (fun _ _ _ _ _ => (c_var 6))) | exact s_asgLc (own := [("tie", 6)]) rfl hN (i_seq rfl (c_var 2)) (show BlkOk ["ties", "at", "left", "found", "way", "place", "tie"] (defScope (top 15)) _ _ from blkOk_by (by decide +kernel)) rfl (fun _ _ _ _ _ => (g_one 6 hN)) (fun _ _ _ _ _ => (x_one (t_cmp (o_notin rfl hu5) (c_var 6) (c_cal rfl (hF 9 _ _ _ rfl) hr rfl passL (a_cons (c_var 4) a_nil)) (by with_unfolding_all rfl)))) (fun _ _ _ _ _ => (c_var 6)))
      (s_cons (s_asg hN (c_op o_add (c_op o_add (c_slc rfl (c_var 3) o_no (o_so (c_var 1))) (c_var 4)) (c_slc rfl (c_var 3) (o_so (c_op o_add (c_var 1) c_int)) o_no)))
      (s_cons (s_aug hN c_int)
      s_nil))))) ?_
  refine s_cons (s_ret (r_ite (t_cmp (o_eq rfl hu4) (c_var 2) (c_lst a_nil) (by with_unfolding_all rfl)) (r_var 3) (r_of (c_lst a_nil)))) ?_
  exact s_nil
theorem sc8 : FnScope ["ties", "found", "one", "other", "place"] ["ties"] (defScope (top 16)) := ⟨rfl, rfl, rfl, by decide +kernel, rfl, by decide +kernel, by decide +kernel⟩
theorem b8 (FX : Fx K mg) (hF : AllF P w K mg base T k) (hM : AllM P w K mg base T k) (hI : AllI P w K mg base T) (hk2 : 2 ≤ k) {f : Addr} (cdv : Value) (A : Around) (outer : List Env) (s : Shared) (H : Hp) (E : XK) (hr : Room k (A.deeper (envOfC "places_of" (defScope (top 16)) s.heap.objs.size f cdv))) :
    PSs (cxOf (L2.CX P w) P w K mg base ["ties", "found", "one", "other", "place"] "places_of" (defScope (top 16)) f cdv A outer s H E) (defBody (top 16)) (rdSs (Wof K) E T fu_places_of.body) := by
  have hN : (["ties", "found", "one", "other", "place"] : List Str).Nodup := sc8.nd
  have hu0 : (A.deeper (envOfC "places_of" (defScope (top 16)) s.heap.objs.size f cdv)).units < cLine := by have := hr.un; omega
  have hu4 : (A.deeper (envOfC "places_of" (defScope (top 16)) s.heap.objs.size f cdv)).units + 64 < cLine := by have := hr.un; omega
  have hu5 : (A.deeper (envOfC "places_of" (defScope (top 16)) s.heap.objs.size f cdv)).units + 65 < cLine := by have := hr.un; omega
  have tk : Takes (cxOf (L2.CX P w) P w K mg base ["ties", "found", "one", "other", "place"] "places_of" (defScope (top 16)) f cdv A outer s H E) (fun cls d _ H => E cls d H) := takes_of rfl rfl rfl rfl
  have px : Passes (L2.CX P w) (cxOf (L2.CX P w) P w K mg base ["ties", "found", "one", "other", "place"] "places_of" (defScope (top 16)) f cdv A outer s H E) E := passes_call tk fun _ _ _ _ h => h
  have po : PassesOwn (model P w) (cxOf (L2.CX P w) P w K mg base ["ties", "found", "one", "other", "place"] "places_of" (defScope (top 16)) f cdv A outer s H E).A (cxOf (L2.CX P w) P w K mg base ["ties", "found", "one", "other", "place"] "places_of" (defScope (top 16)) f cdv A outer s H E).env (cxOf (L2.CX P w) P w K mg base ["ties", "found", "one", "other", "place"] "places_of" (defScope (top 16)) f cdv A outer s H E).xe := passes_of rfl
  refine s_cons (s_asg hN (c_lst a_nil)) ?_
  refine s_cons (s_for po rfl (i_seq rfl (c_var 0)) (g_two 2 3 rfl hN) (s_cons (s_mut PySem.F.slot_list_extend PySem.F.type_list_extend mt_extend mo_extend rfl (p_nil 1) (a_cons (c_comp (own := [("place", 4)]) rfl hN (i_seq rfl (c_tup (a_cons (c_var 2) (a_cons (c_var 3) a_nil)))) (show BlkOk ["ties", "found", "one", "other", "place"] (defScope (top 16)) _ _ from blkOk_by (by decide +kernel)) rfl (fun _ _ _ _ _ => (g_one 4 hN)) (fun _ _ _ _ _ => (x_one (t_cmp (o_notin rfl hu5) (c_var 4) (c_var 1) (by with_unfolding_all rfl)))) (fun _ _ _ _ _ => (c_var 4))) a_nil))
      s_nil)) ?_
  refine s_cons (s_ret (r_of (c_bi (b_sorted rfl hu4) rfl FX.m_sorted rfl (a_cons (c_var 1) a_nil)))) ?_
  exact s_nil
theorem sc9 : FnScope ["way", "one", "other"] ["way"] (defScope (top 17)) := ⟨rfl, rfl, rfl, by decide +kernel, rfl, by decide +kernel, by decide +kernel⟩
theorem b9 (FX : Fx K mg) (hF : AllF P w K mg base T k) (hM : AllM P w K mg base T k) (hI : AllI P w K mg base T) (hk2 : 2 ≤ k) {f : Addr} (cdv : Value) (A : Around) (outer : List Env) (s : Shared) (H : Hp) (E : XK) (hr : Room k (A.deeper (envOfC "ties_of" (defScope (top 17)) s.heap.objs.size f cdv))) :
    PSs (cxOf (L2.CX P w) P w K mg base ["way", "one", "other"] "ties_of" (defScope (top 17)) f cdv A outer s H E) (defBody (top 17)) (rdSs (Wof K) E T fu_ties_of.body) := by
  have hN : (["way", "one", "other"] : List Str).Nodup := sc9.nd
  have hu0 : (A.deeper (envOfC "ties_of" (defScope (top 17)) s.heap.objs.size f cdv)).units < cLine := by have := hr.un; omega
  have hu4 : (A.deeper (envOfC "ties_of" (defScope (top 17)) s.heap.objs.size f cdv)).units + 64 < cLine := by have := hr.un; omega
  have hu5 : (A.deeper (envOfC "ties_of" (defScope (top 17)) s.heap.objs.size f cdv)).units + 65 < cLine := by have := hr.un; omega
  have tk : Takes (cxOf (L2.CX P w) P w K mg base ["way", "one", "other"] "ties_of" (defScope (top 17)) f cdv A outer s H E) (fun cls d _ H => E cls d H) := takes_of rfl rfl rfl rfl
  have px : Passes (L2.CX P w) (cxOf (L2.CX P w) P w K mg base ["way", "one", "other"] "ties_of" (defScope (top 17)) f cdv A outer s H E) E := passes_call tk fun _ _ _ _ h => h
  have po : PassesOwn (model P w) (cxOf (L2.CX P w) P w K mg base ["way", "one", "other"] "ties_of" (defScope (top 17)) f cdv A outer s H E).A (cxOf (L2.CX P w) P w K mg base ["way", "one", "other"] "ties_of" (defScope (top 17)) f cdv A outer s H E).env (cxOf (L2.CX P w) P w K mg base ["way", "one", "other"] "ties_of" (defScope (top 17)) f cdv A outer s H E).xe := passes_of rfl
  refine s_cons (s_ret (r_of (c_comp (own := [("one", 1), ("other", 2)]) rfl hN (i_zip rfl FX.m_zip (c_var 0) (c_slc rfl (c_var 0) (o_so c_int) o_no)) (show BlkOk ["way", "one", "other"] (defScope (top 17)) _ _ from blkOk_by (by decide +kernel)) rfl (fun _ _ _ _ _ => (g_two 1 2 rfl hN)) (fun _ _ _ _ _ => x_nil) (fun _ _ _ _ _ => (c_tup (a_cons (c_bi (b_min rfl rfl) rfl FX.m_min rfl (a_cons (c_var 1) (a_cons (c_var 2) a_nil))) (a_cons (c_bi (b_max rfl rfl hu4) rfl FX.m_max rfl (a_cons (c_var 1) (a_cons (c_var 2) a_nil))) a_nil))))))) ?_
  exact s_nil
theorem sc10 : FnScope ["left", "place", "some", "found", "rest", "tie"] ["left", "place"] (defScope (top 18)) := ⟨rfl, rfl, rfl, by decide +kernel, rfl, by decide +kernel, by decide +kernel⟩
theorem b10 (FX : Fx K mg) (hF : AllF P w K mg base T k) (hM : AllM P w K mg base T k) (hI : AllI P w K mg base T) (hk2 : 2 ≤ k) {f : Addr} (cdv : Value) (A : Around) (outer : List Env) (s : Shared) (H : Hp) (E : XK) (hr : Room k (A.deeper (envOfC "round_from" (defScope (top 18)) s.heap.objs.size f cdv))) :
    PSs (cxOf (L2.CX P w) P w K mg base ["left", "place", "some", "found", "rest", "tie"] "round_from" (defScope (top 18)) f cdv A outer s H E) (defBody (top 18)) (rdSs (Wof K) E T fu_round_from.body) := by
  have hN : (["left", "place", "some", "found", "rest", "tie"] : List Str).Nodup := sc10.nd
  have hu0 : (A.deeper (envOfC "round_from" (defScope (top 18)) s.heap.objs.size f cdv)).units < cLine := by have := hr.un; omega
  have hu4 : (A.deeper (envOfC "round_from" (defScope (top 18)) s.heap.objs.size f cdv)).units + 64 < cLine := by have := hr.un; omega
  have hu5 : (A.deeper (envOfC "round_from" (defScope (top 18)) s.heap.objs.size f cdv)).units + 65 < cLine := by have := hr.un; omega
  have tk : Takes (cxOf (L2.CX P w) P w K mg base ["left", "place", "some", "found", "rest", "tie"] "round_from" (defScope (top 18)) f cdv A outer s H E) (fun cls d _ H => E cls d H) := takes_of rfl rfl rfl rfl
  have px : Passes (L2.CX P w) (cxOf (L2.CX P w) P w K mg base ["left", "place", "some", "found", "rest", "tie"] "round_from" (defScope (top 18)) f cdv A outer s H E) E := passes_call tk fun _ _ _ _ h => h
  have po : PassesOwn (model P w) (cxOf (L2.CX P w) P w K mg base ["left", "place", "some", "found", "rest", "tie"] "round_from" (defScope (top 18)) f cdv A outer s H E).A (cxOf (L2.CX P w) P w K mg base ["left", "place", "some", "found", "rest", "tie"] "round_from" (defScope (top 18)) f cdv A outer s H E).env (cxOf (L2.CX P w) P w K mg base ["left", "place", "some", "found", "rest", "tie"] "round_from" (defScope (top 18)) f cdv A outer s H E).xe := passes_of rfl
  refine s_cons (by first | exact s_par rfl hN (a_cons (c_lst (a_cons (c_var 1) a_nil)) (a_cons (c_biT b_list rfl FX.m_list rfl (a_cons (c_var 0) a_nil)) a_nil)) | exact s_parU rfl hN (a_cons (c_lst (a_cons (c_var 1) a_nil)) (a_cons (c_biT b_list rfl FX.m_list rfl (a_cons (c_var 0) a_nil)) a_nil))) ?_
  refine s_cons (by first | exact s_asg hN (c_comp (own := [("tie", 5)]) rfl hN (i_seq rfl (c_var 4)) (show BlkOk ["left", "place", "some", "found", "rest", "tie"] (defScope (top 18)) _ _ from blkOk_by (by decide +kernel)) rfl (fun _ _ _ _ _ => (g_one 5 hN)) (fun _ _ _ _ _ => (x_one (t_cmp (o_in rfl hu5) (c_var 1) (c_var 5) (by with_unfolding_all rfl)))) (fun _ _ _ _ _ => (c_var 5))) | exact s_asgLc (own := [("tie", 5)]) rfl hN (i_seq rfl (c_var 4)) (show BlkOk ["left", "place", "some", "found", "rest", "tie"] (defScope (top 18)) _ _ from blkOk_by (by decide +kernel)) rfl (fun _ _ _ _ _ => (g_one 5 hN)) (fun _ _ _ _ _ => (x_one (t_cmp (o_in rfl hu5) (c_var 1) (c_var 5) (by with_unfolding_all rfl)))) (fun _ _ _ _ _ => (c_var 5))) ?_
  refine s_cons (s_whl po (t_cmp (o_ne rfl hu4) (c_var 2) (c_lst a_nil) (by with_unfolding_all rfl)) (s_cons (s_mutW PySem.F.slot_list_remove PySem.F.type_list_remove (mt_removeD hu5) (mo_removeW rfl) rfl (p_nil 4) (a_cons (c_sub rfl (c_var 2) c_int) a_nil))
      (s_cons (s_asg hN (c_op o_sub (c_op o_add (c_sub rfl (c_sub rfl (c_var 2) c_int) c_int) (c_sub rfl (c_sub rfl (c_var 2) c_int) c_int)) (c_var 1)))
      (s_cons (s_mut PySem.F.slot_list_append PySem.F.type_list_append mt_append mo_append rfl (p_nil 3) (a_cons (c_var 1) a_nil))
      (s_cons (by first | exact s_asg hN (c_comp (own := [("tie", 5)]) rfl hN (i_seq rfl (c_var 4)) (show BlkOk ["left", "place", "some", "found", "rest", "tie"] (defScope (top 18)) _ _ from blkOk_by (by decide +kernel)) rfl (fun _ _ _ _ _ => (g_one 5 hN)) (fun _ _ _ _ _ => (x_one (t_cmp (o_in rfl hu5) (c_var 1) (c_var 5) (by with_unfolding_all rfl)))) (fun _ _ _ _ _ => (c_var 5))) | exact s_asgLc (own := [("tie", 5)]) rfl hN (i_seq rfl (c_var 4)) (show BlkOk ["left", "place", "some", "found", "rest", "tie"] (defScope (top 18)) _ _ from blkOk_by (by decide +kernel)) rfl (fun _ _ _ _ _ => (g_one 5 hN)) (fun _ _ _ _ _ => (x_one (t_cmp (o_in rfl hu5) (c_var 1) (c_var 5) (by with_unfolding_all rfl)))) (fun _ _ _ _ _ => (c_var 5)))
      s_nil))))) ?_
  refine s_cons (s_ret (r_var 3)) ?_
  exact s_nil
theorem sc11 : FnScope ["web", "place", "number", "ties", "found"] ["web"] (defScope (top 19)) := ⟨rfl, rfl, rfl, by decide +kernel, rfl, by decide +kernel, by decide +kernel⟩
theorem b11 (FX : Fx K mg) (hF : AllF P w K mg base T k) (hM : AllM P w K mg base T k) (hI : AllI P w K mg base T) (hk2 : 2 ≤ k) {f : Addr} (cdv : Value) (A : Around) (outer : List Env) (s : Shared) (H : Hp) (E : XK) (hr : Room k (A.deeper (envOfC "trail_of" (defScope (top 19)) s.heap.objs.size f cdv))) :
    PSs (cxOf (L2.CX P w) P w K mg base ["web", "place", "number", "ties", "found"] "trail_of" (defScope (top 19)) f cdv A outer s H E) (defBody (top 19)) (rdSs (Wof K) E T fu_trail_of.body) := by
  have hN : (["web", "place", "number", "ties", "found"] : List Str).Nodup := sc11.nd
  have hu0 : (A.deeper (envOfC "trail_of" (defScope (top 19)) s.heap.objs.size f cdv)).units < cLine := by have := hr.un; omega
  have hu4 : (A.deeper (envOfC "trail_of" (defScope (top 19)) s.heap.objs.size f cdv)).units + 64 < cLine := by have := hr.un; omega
  have hu5 : (A.deeper (envOfC "trail_of" (defScope (top 19)) s.heap.objs.size f cdv)).units + 65 < cLine := by have := hr.un; omega
  have tk : Takes (cxOf (L2.CX P w) P w K mg base ["web", "place", "number", "ties", "found"] "trail_of" (defScope (top 19)) f cdv A outer s H E) (fun cls d _ H => E cls d H) := takes_of rfl rfl rfl rfl
  have px : Passes (L2.CX P w) (cxOf (L2.CX P w) P w K mg base ["web", "place", "number", "ties", "found"] "trail_of" (defScope (top 19)) f cdv A outer s H E) E := passes_call tk fun _ _ _ _ h => h
  have po : PassesOwn (model P w) (cxOf (L2.CX P w) P w K mg base ["web", "place", "number", "ties", "found"] "trail_of" (defScope (top 19)) f cdv A outer s H E).A (cxOf (L2.CX P w) P w K mg base ["web", "place", "number", "ties", "found"] "trail_of" (defScope (top 19)) f cdv A outer s H E).env (cxOf (L2.CX P w) P w K mg base ["web", "place", "number", "ties", "found"] "trail_of" (defScope (top 19)) f cdv A outer s H E).xe := passes_of rfl
  refine s_cons (s_for po rfl (i_rng1 rfl FX.m_range (c_sub rfl (c_var 0) c_int)) (g_one 1 hN) (s_cons (s_if (t_val (c_cal rfl (hF 5 _ _ _ rfl) hr rfl px (a_cons (c_var 0) (a_cons (c_lst (a_cons (c_var 1) a_nil)) a_nil)))) (s_cons (s_ret (r_of (c_lst (a_cons (c_var 1) a_nil))))
      s_nil) s_nil)
      s_nil)) ?_
  refine s_cons (s_for po rfl (i_rng2 rfl FX.m_range c_int (c_op o_shl c_int (c_bi (b_len rfl) rfl FX.m_len rfl (a_cons (c_sub rfl (c_var 0) c_int) a_nil)))) (g_one 2 hN) (s_cons (s_asg hN (c_cal rfl (hF 6 _ _ _ rfl) hr rfl px (a_cons (c_var 0) (a_cons (c_var 2) a_nil))))
      (s_cons (s_if (L2.PW.pt (t_and (t_cmp o_gt (c_bi (b_len rfl) rfl FX.m_len rfl (a_cons (c_var 3) a_nil)) c_int (by with_unfolding_all rfl)) (t_and1 (t_val (c_cal rfl (hF 5 _ _ _ rfl) hr rfl px (a_cons (c_var 0) (a_cons (c_cal rfl (hF 8 _ _ _ rfl) hr rfl px (a_cons (c_var 3) a_nil)) a_nil))))))) (s_cons (s_asg hN (c_cal rfl (hF 7 _ _ _ rfl) hr rfl px (a_cons (c_var 3) a_nil)))
      (s_cons (s_if (t_cmp (o_ne rfl hu4) (c_var 4) (c_lst a_nil) (by with_unfolding_all rfl)) (s_cons (s_ret (r_var 4))
      s_nil) s_nil)
      s_nil)) s_nil)
      s_nil))) ?_
  refine s_cons (s_ret (r_of c_non)) ?_
  exact s_nil
theorem sc12 : FnScope ["web"] ["web"] (defScope (top 20)) := ⟨rfl, rfl, rfl, by decide +kernel, rfl, by decide +kernel, by decide +kernel⟩
theorem b12 (FX : Fx K mg) (hF : AllF P w K mg base T k) (hM : AllM P w K mg base T k) (hI : AllI P w K mg base T) (hk2 : 2 ≤ k) {f : Addr} (cdv : Value) (A : Around) (outer : List Env) (s : Shared) (H : Hp) (E : XK) (hr : Room k (A.deeper (envOfC "trail" (defScope (top 20)) s.heap.objs.size f cdv))) :
    PSs (cxOf (L2.CX P w) P w K mg base ["web"] "trail" (defScope (top 20)) f cdv A outer s H E) (defBody (top 20)) (rdSs (Wof K) E T fu_trail.body) := by
  have hN : (["web"] : List Str).Nodup := sc12.nd
  have hu0 : (A.deeper (envOfC "trail" (defScope (top 20)) s.heap.objs.size f cdv)).units < cLine := by have := hr.un; omega
  have hu4 : (A.deeper (envOfC "trail" (defScope (top 20)) s.heap.objs.size f cdv)).units + 64 < cLine := by have := hr.un; omega
  have hu5 : (A.deeper (envOfC "trail" (defScope (top 20)) s.heap.objs.size f cdv)).units + 65 < cLine := by have := hr.un; omega
  have tk : Takes (cxOf (L2.CX P w) P w K mg base ["web"] "trail" (defScope (top 20)) f cdv A outer s H E) (fun cls d _ H => E cls d H) := takes_of rfl rfl rfl rfl
  have px : Passes (L2.CX P w) (cxOf (L2.CX P w) P w K mg base ["web"] "trail" (defScope (top 20)) f cdv A outer s H E) E := passes_call tk fun _ _ _ _ h => h
  have po : PassesOwn (model P w) (cxOf (L2.CX P w) P w K mg base ["web"] "trail" (defScope (top 20)) f cdv A outer s H E).A (cxOf (L2.CX P w) P w K mg base ["web"] "trail" (defScope (top 20)) f cdv A outer s H E).env (cxOf (L2.CX P w) P w K mg base ["web"] "trail" (defScope (top 20)) f cdv A outer s H E).xe := passes_of rfl
  refine s_cons (s_exp (c_cal rfl (hF 4 _ _ _ rfl) hr rfl px (a_cons (c_var 0) (a_cons (c_gint rfl FX.i_SMALL) a_nil)))) ?_
  refine s_cons (s_ret (r_of (c_cal rfl (hF 11 _ _ _ rfl) hr rfl px (a_cons (c_var 0) a_nil)))) ?_
  exact s_nil
theorem sc13 : FnScope ["_law_cell", "_law_at", "_law_whole_here", "_law_mixed", "_law_more"] ["_law_cell", "_law_at", "_law_whole_here"] (defScope (top 22)) := ⟨rfl, rfl, rfl, by decide +kernel, rfl, by decide +kernel, by decide +kernel⟩
theorem b13 (FX : Fx K mg) (hF : AllF P w K mg base T k) (hM : AllM P w K mg base T k) (hI : AllI P w K mg base T) (hk2 : 2 ≤ k) {f : Addr} (cdv : Value) (A : Around) (outer : List Env) (s : Shared) (H : Hp) (E : XK) (hr : Room k (A.deeper (envOfC "_law_number" (defScope (top 22)) s.heap.objs.size f cdv))) :
    PSs (cxOf (L2.CX P w) P w K mg base ["_law_cell", "_law_at", "_law_whole_here", "_law_mixed", "_law_more"] "_law_number" (defScope (top 22)) f cdv A outer s H E) (defBody (top 22)) (rdSs (Wof K) E T fu_law_number.body) := by
  have hN : (["_law_cell", "_law_at", "_law_whole_here", "_law_mixed", "_law_more"] : List Str).Nodup := sc13.nd
  have hu0 : (A.deeper (envOfC "_law_number" (defScope (top 22)) s.heap.objs.size f cdv)).units < cLine := by have := hr.un; omega
  have hu4 : (A.deeper (envOfC "_law_number" (defScope (top 22)) s.heap.objs.size f cdv)).units + 64 < cLine := by have := hr.un; omega
  have hu5 : (A.deeper (envOfC "_law_number" (defScope (top 22)) s.heap.objs.size f cdv)).units + 65 < cLine := by have := hr.un; omega
  have tk : Takes (cxOf (L2.CX P w) P w K mg base ["_law_cell", "_law_at", "_law_whole_here", "_law_mixed", "_law_more"] "_law_number" (defScope (top 22)) f cdv A outer s H E) (fun cls d _ H => E cls d H) := takes_of rfl rfl rfl rfl
  have px : Passes (L2.CX P w) (cxOf (L2.CX P w) P w K mg base ["_law_cell", "_law_at", "_law_whole_here", "_law_mixed", "_law_more"] "_law_number" (defScope (top 22)) f cdv A outer s H E) E := passes_call tk fun _ _ _ _ h => h
  have po : PassesOwn (model P w) (cxOf (L2.CX P w) P w K mg base ["_law_cell", "_law_at", "_law_whole_here", "_law_mixed", "_law_more"] "_law_number" (defScope (top 22)) f cdv A outer s H E).A (cxOf (L2.CX P w) P w K mg base ["_law_cell", "_law_at", "_law_whole_here", "_law_mixed", "_law_more"] "_law_number" (defScope (top 22)) f cdv A outer s H E).env (cxOf (L2.CX P w) P w K mg base ["_law_cell", "_law_at", "_law_whole_here", "_law_mixed", "_law_more"] "_law_number" (defScope (top 22)) f cdv A outer s H E).xe := passes_of rfl
  refine s_cons (s_if (t_cmp o_ge (c_var 0) (c_op o_pow c_int c_int) (by with_unfolding_all rfl)) (s_cons (s_ret (r_var 0))
      s_nil) s_nil) ?_
  refine s_cons (s_asg hN (c_op o_mod (c_op o_add (c_op o_mul (c_op o_add (c_var 0) (c_op o_mul c_int (c_var 1))) c_int) (c_var 2)) c_int)) ?_
  refine s_cons (s_asg hN (c_op o_mul (c_op o_mul (c_var 3) (c_op o_add (c_op o_add (c_var 3) (c_op o_mul c_int (c_var 1))) c_int)) (c_op o_add (c_op o_add (c_var 3) (c_var 0)) c_int))) ?_
  refine s_cons (s_ret (r_of (c_op o_fdiv (c_op o_mul (c_var 4) (c_op o_add (c_var 4) c_int)) c_int))) ?_
  exact s_nil
theorem sc14 : FnScope ["_law_script", "_law_by", "_law_places", "_law_ties", "_law_cells", "_law_whole_here", "_law_found", "_law_at", "_law_many", "_law_kind", "_law_number_here", "_law_first", "_law_other", "_law_tie"] ["_law_script", "_law_by", "_law_places", "_law_ties"] (defScope (top 23)) := ⟨rfl, rfl, rfl, by decide +kernel, rfl, by decide +kernel, by decide +kernel⟩
theorem b14 (FX : Fx K mg) (hF : AllF P w K mg base T k) (hM : AllM P w K mg base T k) (hI : AllI P w K mg base T) (hk2 : 2 ≤ k) {f : Addr} (cdv : Value) (A : Around) (outer : List Env) (s : Shared) (H : Hp) (E : XK) (hr : Room k (A.deeper (envOfC "_law_web" (defScope (top 23)) s.heap.objs.size f cdv))) :
    PSs (cxOf (L2.CX P w) P w K mg base ["_law_script", "_law_by", "_law_places", "_law_ties", "_law_cells", "_law_whole_here", "_law_found", "_law_at", "_law_many", "_law_kind", "_law_number_here", "_law_first", "_law_other", "_law_tie"] "_law_web" (defScope (top 23)) f cdv A outer s H E) (defBody (top 23)) (rdSs (Wof K) E T fu_law_web.body) := by
  have hN : (["_law_script", "_law_by", "_law_places", "_law_ties", "_law_cells", "_law_whole_here", "_law_found", "_law_at", "_law_many", "_law_kind", "_law_number_here", "_law_first", "_law_other", "_law_tie"] : List Str).Nodup := sc14.nd
  have hu0 : (A.deeper (envOfC "_law_web" (defScope (top 23)) s.heap.objs.size f cdv)).units < cLine := by have := hr.un; omega
  have hu4 : (A.deeper (envOfC "_law_web" (defScope (top 23)) s.heap.objs.size f cdv)).units + 64 < cLine := by have := hr.un; omega
  have hu5 : (A.deeper (envOfC "_law_web" (defScope (top 23)) s.heap.objs.size f cdv)).units + 65 < cLine := by have := hr.un; omega
  have tk : Takes (cxOf (L2.CX P w) P w K mg base ["_law_script", "_law_by", "_law_places", "_law_ties", "_law_cells", "_law_whole_here", "_law_found", "_law_at", "_law_many", "_law_kind", "_law_number_here", "_law_first", "_law_other", "_law_tie"] "_law_web" (defScope (top 23)) f cdv A outer s H E) (fun cls d _ H => E cls d H) := takes_of rfl rfl rfl rfl
  have px : Passes (L2.CX P w) (cxOf (L2.CX P w) P w K mg base ["_law_script", "_law_by", "_law_places", "_law_ties", "_law_cells", "_law_whole_here", "_law_found", "_law_at", "_law_many", "_law_kind", "_law_number_here", "_law_first", "_law_other", "_law_tie"] "_law_web" (defScope (top 23)) f cdv A outer s H E) E := passes_call tk fun _ _ _ _ h => h
  have po : PassesOwn (model P w) (cxOf (L2.CX P w) P w K mg base ["_law_script", "_law_by", "_law_places", "_law_ties", "_law_cells", "_law_whole_here", "_law_found", "_law_at", "_law_many", "_law_kind", "_law_number_here", "_law_first", "_law_other", "_law_tie"] "_law_web" (defScope (top 23)) f cdv A outer s H E).A (cxOf (L2.CX P w) P w K mg base ["_law_script", "_law_by", "_law_places", "_law_ties", "_law_cells", "_law_whole_here", "_law_found", "_law_at", "_law_many", "_law_kind", "_law_number_here", "_law_first", "_law_other", "_law_tie"] "_law_web" (defScope (top 23)) f cdv A outer s H E).env (cxOf (L2.CX P w) P w K mg base ["_law_script", "_law_by", "_law_places", "_law_ties", "_law_cells", "_law_whole_here", "_law_found", "_law_at", "_law_many", "_law_kind", "_law_number_here", "_law_first", "_law_other", "_law_tie"] "_law_web" (defScope (top 23)) f cdv A outer s H E).xe := passes_of rfl
  refine s_cons (s_asg hN (c_ite (t_cmp (o_ne rfl hu4) (c_var 0) (c_lst a_nil) (by with_unfolding_all rfl)) (c_slc rfl (c_var 0) o_no (o_so c_int)) (c_lst (a_cons c_int a_nil)))) ?_
  refine s_cons (s_asg hN (c_op o_add (c_bi (b_sum rfl rfl) rfl FX.m_sum rfl (a_cons (c_var 4) a_nil)) (c_var 1))) ?_
  refine s_cons (by first | exact s_par rfl hN (a_cons (c_op o_mod (c_var 5) (c_op o_add (c_var 2) c_int)) (a_cons (c_op o_mod (c_op o_fdiv (c_var 5) c_int) c_int) a_nil)) | exact s_parU rfl hN (a_cons (c_op o_mod (c_var 5) (c_op o_add (c_var 2) c_int)) (a_cons (c_op o_mod (c_op o_fdiv (c_var 5) c_int) c_int) a_nil))) ?_
  refine s_cons (s_asg hN (c_lst a_nil)) ?_
  refine s_cons (s_for po rfl (i_rng1 rfl FX.m_range (c_var 3)) (g_one 7 hN) (s_cons (s_asg hN (c_op o_fdiv (c_cal rfl (hF 13 _ _ _ rfl) hr rfl px (a_cons (c_sub rfl (c_var 4) (c_op o_mod (c_op o_add (c_var 7) (c_var 1)) (c_bi (b_len rfl) rfl FX.m_len rfl (a_cons (c_var 4) a_nil)))) (a_cons (c_op o_add (c_var 7) (c_var 1)) (a_cons (c_var 5) a_nil)))) c_int))
      (s_cons (s_if (t_cmp o_gt (c_var 8) c_int (by with_unfolding_all rfl)) (s_cons (s_asg hN (c_sub rfl (c_tup (a_cons (c_op o_mod (c_var 10) (c_var 8)) (a_cons (c_op o_mod (c_var 7) (c_var 8)) (a_cons c_int (a_cons (c_op o_mod (c_var 10) (c_var 8)) (a_cons (c_op o_mod (c_var 7) (c_var 8)) a_nil)))))) (c_var 9)))
      (s_cons (s_asg hN (c_sub rfl (c_tup (a_cons (c_op o_mod (c_op o_fdiv (c_var 10) c_int) (c_var 8)) (a_cons (c_op o_mod (c_op o_add (c_var 7) c_int) (c_var 8)) (a_cons (c_op o_add c_int (c_op o_mod (c_var 7) (c_op o_sub (c_var 8) c_int))) (a_cons (c_op o_mod (c_op o_add (c_var 11) c_int) (c_var 8)) (a_cons (c_op o_mod (c_var 10) (c_var 8)) a_nil)))))) (c_var 9)))
      (s_cons (s_asg hN (c_tup (a_cons (c_bi (b_min rfl rfl) rfl FX.m_min rfl (a_cons (c_var 11) (a_cons (c_var 12) a_nil))) (a_cons (c_bi (b_max rfl rfl hu4) rfl FX.m_max rfl (a_cons (c_var 11) (a_cons (c_var 12) a_nil))) a_nil))))
      (s_cons (s_if (L2.PW.pt (t_and (t_cmp (o_ne rfl hu4) (c_var 11) (c_var 12) (by with_unfolding_all rfl)) (t_and1 (t_cmp (o_notin rfl hu5) (c_var 13) (c_var 6) (by with_unfolding_all rfl))))) (s_cons (s_mut PySem.F.slot_list_append PySem.F.type_list_append mt_append mo_append rfl (p_nil 6) (a_cons (c_var 13) a_nil))
      s_nil) s_nil)
      s_nil)))) s_nil)
      s_nil))) ?_
  refine s_cons (s_ret (r_tup (ra_cons (r_var 8) (ra_cons (r_of (c_bi (b_sorted rfl hu4) rfl FX.m_sorted rfl (a_cons (c_var 6) a_nil))) ra_nil)))) ?_
  exact s_nil
theorem sc15 : FnScope ["_law_found"] ["_law_found"] (defScope (top 24)) := ⟨rfl, rfl, rfl, by decide +kernel, rfl, by decide +kernel, by decide +kernel⟩
theorem b15 (FX : Fx K mg) (hF : AllF P w K mg base T k) (hM : AllM P w K mg base T k) (hI : AllI P w K mg base T) (hk2 : 2 ≤ k) {f : Addr} (cdv : Value) (A : Around) (outer : List Env) (s : Shared) (H : Hp) (E : XK) (hr : Room k (A.deeper (envOfC "_law_whole" (defScope (top 24)) s.heap.objs.size f cdv))) :
    PSs (cxOf (L2.CX P w) P w K mg base ["_law_found"] "_law_whole" (defScope (top 24)) f cdv A outer s H E) (defBody (top 24)) (rdSs (Wof K) E T fu_law_whole.body) := by
  have hN : (["_law_found"] : List Str).Nodup := sc15.nd
  have hu0 : (A.deeper (envOfC "_law_whole" (defScope (top 24)) s.heap.objs.size f cdv)).units < cLine := by have := hr.un; omega
  have hu4 : (A.deeper (envOfC "_law_whole" (defScope (top 24)) s.heap.objs.size f cdv)).units + 64 < cLine := by have := hr.un; omega
  have hu5 : (A.deeper (envOfC "_law_whole" (defScope (top 24)) s.heap.objs.size f cdv)).units + 65 < cLine := by have := hr.un; omega
  have tk : Takes (cxOf (L2.CX P w) P w K mg base ["_law_found"] "_law_whole" (defScope (top 24)) f cdv A outer s H E) (fun cls d _ H => E cls d H) := takes_of rfl rfl rfl rfl
  have px : Passes (L2.CX P w) (cxOf (L2.CX P w) P w K mg base ["_law_found"] "_law_whole" (defScope (top 24)) f cdv A outer s H E) E := passes_call tk fun _ _ _ _ h => h
  have po : PassesOwn (model P w) (cxOf (L2.CX P w) P w K mg base ["_law_found"] "_law_whole" (defScope (top 24)) f cdv A outer s H E).A (cxOf (L2.CX P w) P w K mg base ["_law_found"] "_law_whole" (defScope (top 24)) f cdv A outer s H E).env (cxOf (L2.CX P w) P w K mg base ["_law_found"] "_law_whole" (defScope (top 24)) f cdv A outer s H E).xe := passes_of rfl
  refine s_cons (s_ret (r_of (c_and (c_isi rfl rfl rfl FX.m_isinstance rfl FX.m_int rfl (c_var 0)) (c_one (c_not (c_isi rfl rfl rfl FX.m_isinstance rfl FX.m_bool rfl (c_var 0))))))) ?_
  exact s_nil
theorem sc16 : FnScope ["_law_web_here", "_law_found", "_law_one", "_law_other", "_law_place", "_law_some"] ["_law_web_here"] (defScope (top 25)) := ⟨rfl, rfl, rfl, by decide +kernel, rfl, by decide +kernel, by decide +kernel⟩
theorem b16 (FX : Fx K mg) (hF : AllF P w K mg base T k) (hM : AllM P w K mg base T k) (hI : AllI P w K mg base T) (hk2 : 2 ≤ k) {f : Addr} (cdv : Value) (A : Around) (outer : List Env) (s : Shared) (H : Hp) (E : XK) (hr : Room k (A.deeper (envOfC "_law_near" (defScope (top 25)) s.heap.objs.size f cdv))) :
    PSs (cxOf (L2.CX P w) P w K mg base ["_law_web_here", "_law_found", "_law_one", "_law_other", "_law_place", "_law_some"] "_law_near" (defScope (top 25)) f cdv A outer s H E) (defBody (top 25)) (rdSs (Wof K) E T fu_law_near.body) := by
  have hN : (["_law_web_here", "_law_found", "_law_one", "_law_other", "_law_place", "_law_some"] : List Str).Nodup := sc16.nd
  have hu0 : (A.deeper (envOfC "_law_near" (defScope (top 25)) s.heap.objs.size f cdv)).units < cLine := by have := hr.un; omega
  have hu4 : (A.deeper (envOfC "_law_near" (defScope (top 25)) s.heap.objs.size f cdv)).units + 64 < cLine := by have := hr.un; omega
  have hu5 : (A.deeper (envOfC "_law_near" (defScope (top 25)) s.heap.objs.size f cdv)).units + 65 < cLine := by have := hr.un; omega
  have tk : Takes (cxOf (L2.CX P w) P w K mg base ["_law_web_here", "_law_found", "_law_one", "_law_other", "_law_place", "_law_some"] "_law_near" (defScope (top 25)) f cdv A outer s H E) (fun cls d _ H => E cls d H) := takes_of rfl rfl rfl rfl
  have px : Passes (L2.CX P w) (cxOf (L2.CX P w) P w K mg base ["_law_web_here", "_law_found", "_law_one", "_law_other", "_law_place", "_law_some"] "_law_near" (defScope (top 25)) f cdv A outer s H E) E := passes_call tk fun _ _ _ _ h => h
  have po : PassesOwn (model P w) (cxOf (L2.CX P w) P w K mg base ["_law_web_here", "_law_found", "_law_one", "_law_other", "_law_place", "_law_some"] "_law_near" (defScope (top 25)) f cdv A outer s H E).A (cxOf (L2.CX P w) P w K mg base ["_law_web_here", "_law_found", "_law_one", "_law_other", "_law_place", "_law_some"] "_law_near" (defScope (top 25)) f cdv A outer s H E).env (cxOf (L2.CX P w) P w K mg base ["_law_web_here", "_law_found", "_law_one", "_law_other", "_law_place", "_law_some"] "_law_near" (defScope (top 25)) f cdv A outer s H E).xe := passes_of rfl
  refine s_cons (by first | exact s_asg hN (c_comp (own := [("_law_place", 4)]) rfl hN (i_rng1 rfl FX.m_range (c_sub rfl (c_var 0) c_int)) (show BlkOk ["_law_web_here", "_law_found", "_law_one", "_law_other", "_law_place", "_law_some"] (defScope (top 25)) _ _ from blkOk_by (by decide +kernel)) rfl (fun _ _ _ _ _ => (g_one 4 hN)) (fun _ _ _ _ _ => x_nil) (fun _ _ _ _ _ => (c_lst a_nil))) | exact s_asgLc (own := [("_law_place", 4)]) rfl hN (i_rng1 rfl FX.m_range (c_sub rfl (c_var 0) c_int)) (show BlkOk ["_law_web_here", "_law_found", "_law_one", "_law_other", "_law_place", "_law_some"] (defScope (top 25)) _ _ from blkOk_by (by decide +kernel)) rfl (fun _ _ _ _ _ => (g_one 4 hN)) (fun _ _ _ _ _ => x_nil) (fun _ _ _ _ _ => (c_lst a_nil))) ?_
  refine s_cons (s_for po rfl (i_seq rfl (c_sub rfl (c_var 0) c_int)) (g_two 2 3 rfl hN) (s_cons (s_mut PySem.F.slot_list_append PySem.F.type_list_append mt_append mo_append rfl (p_cons (p_nil 1) (c_var 2)) (a_cons (c_var 3) a_nil))
      (s_cons (s_mut PySem.F.slot_list_append PySem.F.type_list_append mt_append mo_append rfl (p_cons (p_nil 1) (c_var 3)) (a_cons (c_var 2) a_nil))
      s_nil))) ?_
  refine s_cons (s_ret (r_of (c_comp (own := [("_law_some", 5)]) rfl hN (i_seq rfl (c_var 1)) (show BlkOk ["_law_web_here", "_law_found", "_law_one", "_law_other", "_law_place", "_law_some"] (defScope (top 25)) _ _ from blkOk_by (by decide +kernel)) rfl (fun _ _ _ _ _ => (g_one 5 hN)) (fun _ _ _ _ _ => x_nil) (fun _ _ _ _ _ => (c_bi (b_sorted rfl hu4) rfl FX.m_sorted rfl (a_cons (c_var 5) a_nil)))))) ?_
  exact s_nil
theorem sc17 : FnScope ["_law_web_here"] ["_law_web_here"] (defScope (top 26)) := ⟨rfl, rfl, rfl, by decide +kernel, rfl, by decide +kernel, by decide +kernel⟩
theorem b17 (FX : Fx K mg) (hF : AllF P w K mg base T k) (hM : AllM P w K mg base T k) (hI : AllI P w K mg base T) (hk2 : 2 ≤ k) {f : Addr} (cdv : Value) (A : Around) (outer : List Env) (s : Shared) (H : Hp) (E : XK) (hr : Room k (A.deeper (envOfC "_law_copied" (defScope (top 26)) s.heap.objs.size f cdv))) :
    PSs (cxOf (L2.CX P w) P w K mg base ["_law_web_here"] "_law_copied" (defScope (top 26)) f cdv A outer s H E) (defBody (top 26)) (rdSs (Wof K) E T fu_law_copied.body) := by
  have hN : (["_law_web_here"] : List Str).Nodup := sc17.nd
  have hu0 : (A.deeper (envOfC "_law_copied" (defScope (top 26)) s.heap.objs.size f cdv)).units < cLine := by have := hr.un; omega
  have hu4 : (A.deeper (envOfC "_law_copied" (defScope (top 26)) s.heap.objs.size f cdv)).units + 64 < cLine := by have := hr.un; omega
  have hu5 : (A.deeper (envOfC "_law_copied" (defScope (top 26)) s.heap.objs.size f cdv)).units + 65 < cLine := by have := hr.un; omega
  have tk : Takes (cxOf (L2.CX P w) P w K mg base ["_law_web_here"] "_law_copied" (defScope (top 26)) f cdv A outer s H E) (fun cls d _ H => E cls d H) := takes_of rfl rfl rfl rfl
  have px : Passes (L2.CX P w) (cxOf (L2.CX P w) P w K mg base ["_law_web_here"] "_law_copied" (defScope (top 26)) f cdv A outer s H E) E := passes_call tk fun _ _ _ _ h => h
  have po : PassesOwn (model P w) (cxOf (L2.CX P w) P w K mg base ["_law_web_here"] "_law_copied" (defScope (top 26)) f cdv A outer s H E).A (cxOf (L2.CX P w) P w K mg base ["_law_web_here"] "_law_copied" (defScope (top 26)) f cdv A outer s H E).env (cxOf (L2.CX P w) P w K mg base ["_law_web_here"] "_law_copied" (defScope (top 26)) f cdv A outer s H E).xe := passes_of rfl
  refine s_cons (s_ret (r_tup (ra_cons (r_of (c_sub rfl (c_var 0) c_int)) (ra_cons (r_of (c_biT b_list rfl FX.m_list rfl (a_cons (c_sub rfl (c_var 0) c_int) a_nil))) ra_nil)))) ?_
  exact s_nil
theorem sc18 : FnScope ["_law_web_here", "_law_places", "_law_one", "_law_other"] ["_law_web_here", "_law_places"] (defScope (top 27)) := ⟨rfl, rfl, rfl, by decide +kernel, rfl, by decide +kernel, by decide +kernel⟩
theorem b18 (FX : Fx K mg) (hF : AllF P w K mg base T k) (hM : AllM P w K mg base T k) (hI : AllI P w K mg base T) (hk2 : 2 ≤ k) {f : Addr} (cdv : Value) (A : Around) (outer : List Env) (s : Shared) (H : Hp) (E : XK) (hr : Room k (A.deeper (envOfC "_law_meets" (defScope (top 27)) s.heap.objs.size f cdv))) :
    PSs (cxOf (L2.CX P w) P w K mg base ["_law_web_here", "_law_places", "_law_one", "_law_other"] "_law_meets" (defScope (top 27)) f cdv A outer s H E) (defBody (top 27)) (rdSs (Wof K) E T fu_law_meets.body) := by
  have hN : (["_law_web_here", "_law_places", "_law_one", "_law_other"] : List Str).Nodup := sc18.nd
  have hu0 : (A.deeper (envOfC "_law_meets" (defScope (top 27)) s.heap.objs.size f cdv)).units < cLine := by have := hr.un; omega
  have hu4 : (A.deeper (envOfC "_law_meets" (defScope (top 27)) s.heap.objs.size f cdv)).units + 64 < cLine := by have := hr.un; omega
  have hu5 : (A.deeper (envOfC "_law_meets" (defScope (top 27)) s.heap.objs.size f cdv)).units + 65 < cLine := by have := hr.un; omega
  have tk : Takes (cxOf (L2.CX P w) P w K mg base ["_law_web_here", "_law_places", "_law_one", "_law_other"] "_law_meets" (defScope (top 27)) f cdv A outer s H E) (fun cls d _ H => E cls d H) := takes_of rfl rfl rfl rfl
  have px : Passes (L2.CX P w) (cxOf (L2.CX P w) P w K mg base ["_law_web_here", "_law_places", "_law_one", "_law_other"] "_law_meets" (defScope (top 27)) f cdv A outer s H E) E := passes_call tk fun _ _ _ _ h => h
  have po : PassesOwn (model P w) (cxOf (L2.CX P w) P w K mg base ["_law_web_here", "_law_places", "_law_one", "_law_other"] "_law_meets" (defScope (top 27)) f cdv A outer s H E).A (cxOf (L2.CX P w) P w K mg base ["_law_web_here", "_law_places", "_law_one", "_law_other"] "_law_meets" (defScope (top 27)) f cdv A outer s H E).env (cxOf (L2.CX P w) P w K mg base ["_law_web_here", "_law_places", "_law_one", "_law_other"] "_law_meets" (defScope (top 27)) f cdv A outer s H E).xe := passes_of rfl
  refine s_cons (s_ret (r_of (c_bi (b_all rfl rfl) rfl FX.m_all rfl (a_cons (c_comp (own := [("_law_one", 2), ("_law_other", 3)]) rfl hN (i_seq rfl (c_sub rfl (c_var 0) c_int)) (show BlkOk ["_law_web_here", "_law_places", "_law_one", "_law_other"] (defScope (top 27)) _ _ from blkOk_by (by decide +kernel)) rfl (fun _ _ _ _ _ => (g_two 2 3 rfl hN)) (fun _ _ _ _ _ => x_nil) (fun _ _ _ _ _ => (c_or (c_cmp (o_in rfl hu5) (c_var 2) (c_var 1) (by with_unfolding_all rfl)) (c_one (c_cmp (o_in rfl hu5) (c_var 3) (c_var 1) (by with_unfolding_all rfl)))))) a_nil)))) ?_
  exact s_nil
theorem sc19 : FnScope ["_law_web_here", "_law_way", "_law_ties", "_law_one", "_law_other", "_law_tie", "_law_place"] ["_law_web_here", "_law_way"] (defScope (top 28)) := ⟨rfl, rfl, rfl, by decide +kernel, rfl, by decide +kernel, by decide +kernel⟩
theorem b19 (FX : Fx K mg) (hF : AllF P w K mg base T k) (hM : AllM P w K mg base T k) (hI : AllI P w K mg base T) (hk2 : 2 ≤ k) {f : Addr} (cdv : Value) (A : Around) (outer : List Env) (s : Shared) (H : Hp) (E : XK) (hr : Room k (A.deeper (envOfC "_law_is_trail" (defScope (top 28)) s.heap.objs.size f cdv))) :
    PSs (cxOf (L2.CX P w) P w K mg base ["_law_web_here", "_law_way", "_law_ties", "_law_one", "_law_other", "_law_tie", "_law_place"] "_law_is_trail" (defScope (top 28)) f cdv A outer s H E) (defBody (top 28)) (rdSs (Wof K) E T fu_law_is_trail.body) := by
  have hN : (["_law_web_here", "_law_way", "_law_ties", "_law_one", "_law_other", "_law_tie", "_law_place"] : List Str).Nodup := sc19.nd
  have hu0 : (A.deeper (envOfC "_law_is_trail" (defScope (top 28)) s.heap.objs.size f cdv)).units < cLine := by have := hr.un; omega
  have hu4 : (A.deeper (envOfC "_law_is_trail" (defScope (top 28)) s.heap.objs.size f cdv)).units + 64 < cLine := by have := hr.un; omega
  have hu5 : (A.deeper (envOfC "_law_is_trail" (defScope (top 28)) s.heap.objs.size f cdv)).units + 65 < cLine := by have := hr.un; omega
  have tk : Takes (cxOf (L2.CX P w) P w K mg base ["_law_web_here", "_law_way", "_law_ties", "_law_one", "_law_other", "_law_tie", "_law_place"] "_law_is_trail" (defScope (top 28)) f cdv A outer s H E) (fun cls d _ H => E cls d H) := takes_of rfl rfl rfl rfl
  have px : Passes (L2.CX P w) (cxOf (L2.CX P w) P w K mg base ["_law_web_here", "_law_way", "_law_ties", "_law_one", "_law_other", "_law_tie", "_law_place"] "_law_is_trail" (defScope (top 28)) f cdv A outer s H E) E := passes_call tk fun _ _ _ _ h => h
  have po : PassesOwn (model P w) (cxOf (L2.CX P w) P w K mg base ["_law_web_here", "_law_way", "_law_ties", "_law_one", "_law_other", "_law_tie", "_law_place"] "_law_is_trail" (defScope (top 28)) f cdv A outer s H E).A (cxOf (L2.CX P w) P w K mg base ["_law_web_here", "_law_way", "_law_ties", "_law_one", "_law_other", "_law_tie", "_law_place"] "_law_is_trail" (defScope (top 28)) f cdv A outer s H E).env (cxOf (L2.CX P w) P w K mg base ["_law_web_here", "_law_way", "_law_ties", "_law_one", "_law_other", "_law_tie", "_law_place"] "_law_is_trail" (defScope (top 28)) f cdv A outer s H E).xe := passes_of rfl
  refine s_cons (s_if (L2.PW.pt (t_or (t_not (t_val (c_isi rfl rfl rfl FX.m_isinstance rfl FX.m_list rfl (c_var 1)))) (t_or1 (t_not (t_val (c_bi (b_all rfl rfl) rfl FX.m_all rfl (a_cons (c_comp (own := [("_law_place", 6)]) rfl hN (i_seq rfl (c_var 1)) (show BlkOk ["_law_web_here", "_law_way", "_law_ties", "_law_one", "_law_other", "_law_tie", "_law_place"] (defScope (top 28)) _ _ from blkOk_by (by decide +kernel)) rfl (fun _ _ _ _ _ => (g_one 6 hN)) (fun _ _ _ _ _ => x_nil) (fun _ _ _ _ _ => (c_and (c_cal rfl (hF 15 _ _ _ rfl) hr rfl passL (a_cons (c_var 6) a_nil)) (c_one (c_chn o_le (o_lt hu0) c_int (c_var 6) (c_sub rfl (c_var 0) c_int)))))) a_nil))))))) (s_cons (s_ret (r_of c_bl))
      s_nil) s_nil) ?_
  refine s_cons (s_if (t_cmp (o_eq rfl hu4) (c_bi (b_len rfl) rfl FX.m_len rfl (a_cons (c_var 1) a_nil)) c_int (by with_unfolding_all rfl)) (s_cons (s_ret (r_of (c_cal rfl (hF 18 _ _ _ rfl) hr rfl px (a_cons (c_var 0) (a_cons (c_var 1) a_nil)))))
      s_nil) s_nil) ?_
  refine s_cons (by first | exact s_asg hN (c_comp (own := [("_law_one", 3), ("_law_other", 4)]) rfl hN (i_zip rfl FX.m_zip (c_var 1) (c_slc rfl (c_var 1) (o_so c_int) o_no)) (show BlkOk ["_law_web_here", "_law_way", "_law_ties", "_law_one", "_law_other", "_law_tie", "_law_place"] (defScope (top 28)) _ _ from blkOk_by (by decide +kernel)) rfl (fun _ _ _ _ _ => (g_two 3 4 rfl hN)) (fun _ _ _ _ _ => x_nil) (fun _ _ _ _ _ => (c_tup (a_cons (c_bi (b_min rfl rfl) rfl FX.m_min rfl (a_cons (c_var 3) (a_cons (c_var 4) a_nil))) (a_cons (c_bi (b_max rfl rfl hu4) rfl FX.m_max rfl (a_cons (c_var 3) (a_cons (c_var 4) a_nil))) a_nil))))) | exact s_asgLc (own := [("_law_one", 3), ("_law_other", 4)]) rfl hN (i_zip rfl FX.m_zip (c_var 1) (c_slc rfl (c_var 1) (o_so c_int) o_no)) (show BlkOk ["_law_web_here", "_law_way", "_law_ties", "_law_one", "_law_other", "_law_tie", "_law_place"] (defScope (top 28)) _ _ from blkOk_by (by decide +kernel)) rfl (fun _ _ _ _ _ => (g_two 3 4 rfl hN)) (fun _ _ _ _ _ => x_nil) (fun _ _ _ _ _ => (c_tup (a_cons (c_bi (b_min rfl rfl) rfl FX.m_min rfl (a_cons (c_var 3) (a_cons (c_var 4) a_nil))) (a_cons (c_bi (b_max rfl rfl hu4) rfl FX.m_max rfl (a_cons (c_var 3) (a_cons (c_var 4) a_nil))) a_nil))))) ?_
  refine s_cons (s_if (L2.PW.pt (t_or (t_cmp (o_lt hu0) (c_bi (b_len rfl) rfl FX.m_len rfl (a_cons (c_var 2) a_nil)) c_int (by with_unfolding_all rfl)) (t_or (t_cmp (o_ne rfl hu4) (c_sub rfl (c_var 1) c_int) (c_sub rfl (c_var 1) (c_neg c_int)) (by with_unfolding_all rfl)) (t_or1 (t_cmp (o_lt hu0) (c_slen rfl rfl hu4 rfl FX.m_len rfl FX.m_set (a_cons (c_var 2) a_nil)) (c_bi (b_len rfl) rfl FX.m_len rfl (a_cons (c_var 2) a_nil)) (by with_unfolding_all rfl)))))) (s_cons (s_ret (r_of c_bl))
      s_nil) s_nil) ?_
  refine s_cons (s_ret (r_of (c_and (c_bi (b_all rfl rfl) rfl FX.m_all rfl (a_cons (c_comp (own := [("_law_tie", 5)]) rfl hN (i_seq rfl (c_var 2)) (show BlkOk ["_law_web_here", "_law_way", "_law_ties", "_law_one", "_law_other", "_law_tie", "_law_place"] (defScope (top 28)) _ _ from blkOk_by (by decide +kernel)) rfl (fun _ _ _ _ _ => (g_one 5 hN)) (fun _ _ _ _ _ => x_nil) (fun _ _ _ _ _ => (c_cmp (o_in rfl hu5) (c_var 5) (c_sub rfl (c_var 0) c_int) (by with_unfolding_all rfl)))) a_nil)) (c_one (c_cal rfl (hF 18 _ _ _ rfl) hr rfl px (a_cons (c_var 0) (a_cons (c_var 1) a_nil))))))) ?_
  exact s_nil
theorem sc20 : FnScope ["_law_web_here", "_law_around", "_law_place"] ["_law_web_here"] (defScope (top 29)) := ⟨rfl, rfl, rfl, by decide +kernel, rfl, by decide +kernel, by decide +kernel⟩
theorem b20 (FX : Fx K mg) (hF : AllF P w K mg base T k) (hM : AllM P w K mg base T k) (hI : AllI P w K mg base T) (hk2 : 2 ≤ k) {f : Addr} (cdv : Value) (A : Around) (outer : List Env) (s : Shared) (H : Hp) (E : XK) (hr : Room k (A.deeper (envOfC "_law_tried" (defScope (top 29)) s.heap.objs.size f cdv))) :
    PSs (cxOf (L2.CX P w) P w K mg base ["_law_web_here", "_law_around", "_law_place"] "_law_tried" (defScope (top 29)) f cdv A outer s H E) (defBody (top 29)) (rdSs (Wof K) E T fu_law_tried.body) := by
  have hN : (["_law_web_here", "_law_around", "_law_place"] : List Str).Nodup := sc20.nd
  have hu0 : (A.deeper (envOfC "_law_tried" (defScope (top 29)) s.heap.objs.size f cdv)).units < cLine := by have := hr.un; omega
  have hu4 : (A.deeper (envOfC "_law_tried" (defScope (top 29)) s.heap.objs.size f cdv)).units + 64 < cLine := by have := hr.un; omega
  have hu5 : (A.deeper (envOfC "_law_tried" (defScope (top 29)) s.heap.objs.size f cdv)).units + 65 < cLine := by have := hr.un; omega
  have tk : Takes (cxOf (L2.CX P w) P w K mg base ["_law_web_here", "_law_around", "_law_place"] "_law_tried" (defScope (top 29)) f cdv A outer s H E) (fun cls d _ H => E cls d H) := takes_of rfl rfl rfl rfl
  have px : Passes (L2.CX P w) (cxOf (L2.CX P w) P w K mg base ["_law_web_here", "_law_around", "_law_place"] "_law_tried" (defScope (top 29)) f cdv A outer s H E) E := passes_call tk fun _ _ _ _ h => h
  have po : PassesOwn (model P w) (cxOf (L2.CX P w) P w K mg base ["_law_web_here", "_law_around", "_law_place"] "_law_tried" (defScope (top 29)) f cdv A outer s H E).A (cxOf (L2.CX P w) P w K mg base ["_law_web_here", "_law_around", "_law_place"] "_law_tried" (defScope (top 29)) f cdv A outer s H E).env (cxOf (L2.CX P w) P w K mg base ["_law_web_here", "_law_around", "_law_place"] "_law_tried" (defScope (top 29)) f cdv A outer s H E).xe := passes_of rfl
  refine s_cons (s_if (t_val (c_bi (b_any rfl rfl) rfl FX.m_any rfl (a_cons (c_comp (own := [("_law_place", 2)]) rfl hN (i_rng1 rfl FX.m_range (c_sub rfl (c_var 0) c_int)) (show BlkOk ["_law_web_here", "_law_around", "_law_place"] (defScope (top 29)) _ _ from blkOk_by (by decide +kernel)) rfl (fun _ _ _ _ _ => (g_one 2 hN)) (fun _ _ _ _ _ => x_nil) (fun _ _ _ _ _ => (c_cal rfl (hF 18 _ _ _ rfl) hr rfl passL (a_cons (c_var 0) (a_cons (c_lst (a_cons (c_var 2) a_nil)) a_nil))))) a_nil))) (s_cons (s_ret (r_of c_bl))
      s_nil) s_nil) ?_
  refine s_cons (s_asg hN (c_cal rfl (hF 16 _ _ _ rfl) hr rfl px (a_cons (c_var 0) a_nil))) ?_
  refine s_cons (s_ret (r_of (c_bi (b_any rfl rfl) rfl FX.m_any rfl (a_cons (c_comp (own := [("_law_place", 2)]) rfl hN (i_rng1 rfl FX.m_range (c_sub rfl (c_var 0) c_int)) (show BlkOk ["_law_web_here", "_law_around", "_law_place"] (defScope (top 29)) _ _ from blkOk_by (by decide +kernel)) rfl (fun _ _ _ _ _ => (g_one 2 hN)) (fun _ _ _ _ _ => x_nil) (fun _ _ _ _ _ => (c_cal rfl (hF 21 _ _ _ rfl) hr rfl passL (a_cons (c_var 0) (a_cons (c_var 1) (a_cons (c_lst (a_cons (c_var 2) a_nil)) (a_cons (c_lst a_nil) a_nil))))))) a_nil)))) ?_
  exact s_nil
theorem sc21 : FnScope ["_law_web_here", "_law_around", "_law_way", "_law_gone", "_law_place", "_law_tie"] ["_law_web_here", "_law_around", "_law_way", "_law_gone"] (defScope (top 30)) := ⟨rfl, rfl, rfl, by decide +kernel, rfl, by decide +kernel, by decide +kernel⟩
theorem b21 (FX : Fx K mg) (hF : AllF P w K mg base T k) (hM : AllM P w K mg base T k) (hI : AllI P w K mg base T) (hk2 : 2 ≤ k) {f : Addr} (cdv : Value) (A : Around) (outer : List Env) (s : Shared) (H : Hp) (E : XK) (hr : Room k (A.deeper (envOfC "_law_goes" (defScope (top 30)) s.heap.objs.size f cdv))) :
    PSs (cxOf (L2.CX P w) P w K mg base ["_law_web_here", "_law_around", "_law_way", "_law_gone", "_law_place", "_law_tie"] "_law_goes" (defScope (top 30)) f cdv A outer s H E) (defBody (top 30)) (rdSs (Wof K) E T fu_law_goes.body) := by
  have hN : (["_law_web_here", "_law_around", "_law_way", "_law_gone", "_law_place", "_law_tie"] : List Str).Nodup := sc21.nd
  have hu0 : (A.deeper (envOfC "_law_goes" (defScope (top 30)) s.heap.objs.size f cdv)).units < cLine := by have := hr.un; omega
  have hu4 : (A.deeper (envOfC "_law_goes" (defScope (top 30)) s.heap.objs.size f cdv)).units + 64 < cLine := by have := hr.un; omega
  have hu5 : (A.deeper (envOfC "_law_goes" (defScope (top 30)) s.heap.objs.size f cdv)).units + 65 < cLine := by have := hr.un; omega
  have tk : Takes (cxOf (L2.CX P w) P w K mg base ["_law_web_here", "_law_around", "_law_way", "_law_gone", "_law_place", "_law_tie"] "_law_goes" (defScope (top 30)) f cdv A outer s H E) (fun cls d _ H => E cls d H) := takes_of rfl rfl rfl rfl
  have px : Passes (L2.CX P w) (cxOf (L2.CX P w) P w K mg base ["_law_web_here", "_law_around", "_law_way", "_law_gone", "_law_place", "_law_tie"] "_law_goes" (defScope (top 30)) f cdv A outer s H E) E := passes_call tk fun _ _ _ _ h => h
  have po : PassesOwn (model P w) (cxOf (L2.CX P w) P w K mg base ["_law_web_here", "_law_around", "_law_way", "_law_gone", "_law_place", "_law_tie"] "_law_goes" (defScope (top 30)) f cdv A outer s H E).A (cxOf (L2.CX P w) P w K mg base ["_law_web_here", "_law_around", "_law_way", "_law_gone", "_law_place", "_law_tie"] "_law_goes" (defScope (top 30)) f cdv A outer s H E).env (cxOf (L2.CX P w) P w K mg base ["_law_web_here", "_law_around", "_law_way", "_law_gone", "_law_place", "_law_tie"] "_law_goes" (defScope (top 30)) f cdv A outer s H E).xe := passes_of rfl
  refine s_cons (s_if (L2.PW.pt (t_and (t_cmp o_gt (c_bi (b_len rfl) rfl FX.m_len rfl (a_cons (c_var 2) a_nil)) c_int (by with_unfolding_all rfl)) (t_and (t_cmp (o_eq rfl hu4) (c_sub rfl (c_var 2) c_int) (c_sub rfl (c_var 2) (c_neg c_int)) (by with_unfolding_all rfl)) (t_and1 (t_val (c_cal rfl (hF 18 _ _ _ rfl) hr rfl px (a_cons (c_var 0) (a_cons (c_var 2) a_nil)))))))) (s_cons (s_ret (r_of c_bl))
      s_nil) s_nil) ?_
  refine s_cons (s_for po rfl (i_seq rfl (c_sub rfl (c_var 1) (c_sub rfl (c_var 2) (c_neg c_int)))) (g_one 4 hN) (s_cons (s_asg hN (c_tup (a_cons (c_bi (b_min rfl rfl) rfl FX.m_min rfl (a_cons (c_var 4) (a_cons (c_sub rfl (c_var 2) (c_neg c_int)) a_nil))) (a_cons (c_bi (b_max rfl rfl hu4) rfl FX.m_max rfl (a_cons (c_var 4) (a_cons (c_sub rfl (c_var 2) (c_neg c_int)) a_nil))) a_nil))))
      (s_cons (s_if (L2.PW.pt (t_and (t_cmp (o_notin rfl hu5) (c_var 5) (c_var 3) (by with_unfolding_all rfl)) (t_and (t_cmp o_ge (c_var 4) (c_sub rfl (c_var 2) c_int) (by with_unfolding_all rfl)) (t_and1 (t_val (c_cal rfl (hF 21 _ _ _ rfl) hr rfl px (a_cons (c_var 0) (a_cons (c_var 1) (a_cons (c_op o_add (c_var 2) (c_lst (a_cons (c_var 4) a_nil))) (a_cons (c_op o_add (c_var 3) (c_lst (a_cons (c_var 5) a_nil))) a_nil)))))))))) (s_cons (s_ret (r_of c_bl))
      s_nil) s_nil)
      s_nil))) ?_
  refine s_cons (s_ret (r_of c_bl)) ?_
  exact s_nil
theorem sc22 : FnScope ["_law_web_here", "_law_handed", "_law_found", "_law_kept", "_law_told", "_law_place"] ["_law_web_here"] (defScope (top 31)) := ⟨rfl, rfl, rfl, by decide +kernel, rfl, by decide +kernel, by decide +kernel⟩
theorem b22 (FX : Fx K mg) (hF : AllF P w K mg base T k) (hM : AllM P w K mg base T k) (hI : AllI P w K mg base T) (hk2 : 2 ≤ k) {f : Addr} (cdv : Value) (A : Around) (outer : List Env) (s : Shared) (H : Hp) (E : XK) (hr : Room k (A.deeper (envOfC "_law_right" (defScope (top 31)) s.heap.objs.size f cdv))) :
    PSs (cxOf (L2.CX P w) P w K mg base ["_law_web_here", "_law_handed", "_law_found", "_law_kept", "_law_told", "_law_place"] "_law_right" (defScope (top 31)) f cdv A outer s H E) (defBody (top 31)) (rdSs (Wof K) E T fu_law_right_5.body) := by
  have hN : (["_law_web_here", "_law_handed", "_law_found", "_law_kept", "_law_told", "_law_place"] : List Str).Nodup := sc22.nd
  have hu0 : (A.deeper (envOfC "_law_right" (defScope (top 31)) s.heap.objs.size f cdv)).units < cLine := by have := hr.un; omega
  have hu4 : (A.deeper (envOfC "_law_right" (defScope (top 31)) s.heap.objs.size f cdv)).units + 64 < cLine := by have := hr.un; omega
  have hu5 : (A.deeper (envOfC "_law_right" (defScope (top 31)) s.heap.objs.size f cdv)).units + 65 < cLine := by have := hr.un; omega
  have tk : Takes (cxOf (L2.CX P w) P w K mg base ["_law_web_here", "_law_handed", "_law_found", "_law_kept", "_law_told", "_law_place"] "_law_right" (defScope (top 31)) f cdv A outer s H E) (fun cls d _ H => E cls d H) := takes_of rfl rfl rfl rfl
  have px : Passes (L2.CX P w) (cxOf (L2.CX P w) P w K mg base ["_law_web_here", "_law_handed", "_law_found", "_law_kept", "_law_told", "_law_place"] "_law_right" (defScope (top 31)) f cdv A outer s H E) E := passes_call tk fun _ _ _ _ h => h
  have po : PassesOwn (model P w) (cxOf (L2.CX P w) P w K mg base ["_law_web_here", "_law_handed", "_law_found", "_law_kept", "_law_told", "_law_place"] "_law_right" (defScope (top 31)) f cdv A outer s H E).A (cxOf (L2.CX P w) P w K mg base ["_law_web_here", "_law_handed", "_law_found", "_law_kept", "_law_told", "_law_place"] "_law_right" (defScope (top 31)) f cdv A outer s H E).env (cxOf (L2.CX P w) P w K mg base ["_law_web_here", "_law_handed", "_law_found", "_law_kept", "_law_told", "_law_place"] "_law_right" (defScope (top 31)) f cdv A outer s H E).xe := passes_of rfl
  refine s_cons (s_asg hN (c_cal rfl (hF 17 _ _ _ rfl) hr rfl px (a_cons (c_var 0) a_nil))) ?_
  refine s_cons (s_asg hN (c_cal rfl (hF 12 _ _ _ rfl) hr rfl px (a_cons (c_var 1) a_nil))) ?_
  refine s_cons (s_if (L2.PW.pt (t_or (t_cmp (o_ne rfl hu4) (c_var 1) (c_var 0) (by with_unfolding_all rfl)) (t_or1 (t_cmp (o_ne rfl hu4) (c_cmp o_isnot (c_var 2) c_non (by with_unfolding_all rfl)) (c_cal rfl (hF 20 _ _ _ rfl) hr rfl px (a_cons (c_var 0) a_nil)) (by with_unfolding_all rfl))))) (s_cons (s_ret (r_of c_bl))
      s_nil) s_nil) ?_
  refine s_cons (s_if (t_cmp o_is (c_var 2) c_non (by with_unfolding_all rfl)) (s_cons (s_ret (r_of c_bl))
      s_nil) s_nil) ?_
  refine s_cons (s_if (t_not (t_val (c_cal rfl (hF 19 _ _ _ rfl) hr rfl px (a_cons (c_var 0) (a_cons (c_var 2) a_nil))))) (s_cons (s_ret (r_of c_bl))
      s_nil) s_nil) ?_
  refine s_cons (s_if (t_cmp (o_ne rfl hu4) (c_bi (b_any rfl rfl) rfl FX.m_any rfl (a_cons (c_comp (own := [("_law_place", 5)]) rfl hN (i_rng1 rfl FX.m_range (c_sub rfl (c_var 0) c_int)) (show BlkOk ["_law_web_here", "_law_handed", "_law_found", "_law_kept", "_law_told", "_law_place"] (defScope (top 31)) _ _ from blkOk_by (by decide +kernel)) rfl (fun _ _ _ _ _ => (g_one 5 hN)) (fun _ _ _ _ _ => x_nil) (fun _ _ _ _ _ => (c_cal rfl (hF 18 _ _ _ rfl) hr rfl passL (a_cons (c_var 0) (a_cons (c_lst (a_cons (c_var 5) a_nil)) a_nil))))) a_nil)) (c_cmp (o_eq rfl hu4) (c_bi (b_len rfl) rfl FX.m_len rfl (a_cons (c_var 2) a_nil)) c_int (by with_unfolding_all rfl)) (by with_unfolding_all rfl)) (s_cons (s_ret (r_of c_bl))
      s_nil) s_nil) ?_
  refine s_cons (s_asg hN (c_biT b_list rfl FX.m_list rfl (a_cons (c_var 2) a_nil))) ?_
  refine s_cons (s_mut PySem.F.slot_list_append PySem.F.type_list_append mt_append mo_append rfl (p_nil 2) (a_cons c_int a_nil)) ?_
  refine s_cons (s_if (t_cmp (o_ne rfl hu4) (c_cal rfl (hF 12 _ _ _ rfl) hr rfl px (a_cons (c_var 1) a_nil)) (c_var 3) (by with_unfolding_all rfl)) (s_cons (s_ret (r_of c_bl))
      s_nil) s_nil) ?_
  refine s_cons (s_if (t_cmp (o_ne rfl hu4) (c_sub rfl (c_var 1) c_int) (c_lst a_nil) (by with_unfolding_all rfl)) (s_cons (s_mut0 PySem.F.slot_list_pop PySem.F.type_list_pop mt_pop mo_pop (p_cons (p_nil 1) c_int))
      (s_cons (s_asg hN (c_cal rfl (hF 12 _ _ _ rfl) hr rfl px (a_cons (c_var 1) a_nil)))
      (s_cons (s_ret (r_of (c_and (c_cmp (o_eq rfl hu4) (c_cmp o_isnot (c_var 4) c_non (by with_unfolding_all rfl)) (c_cal rfl (hF 20 _ _ _ rfl) hr rfl px (a_cons (c_var 1) a_nil)) (by with_unfolding_all rfl)) (c_one (c_or (c_cmp o_is (c_var 4) c_non (by with_unfolding_all rfl)) (c_one (c_cal rfl (hF 19 _ _ _ rfl) hr rfl px (a_cons (c_var 1) (a_cons (c_var 4) a_nil)))))))))
      s_nil))) s_nil) ?_
  refine s_cons (s_ret (r_of c_bl)) ?_
  exact s_nil
theorem sc23 : FnScope ["_law_script", "_law_whole_here", "_law_by", "_law_bow", "_law_most", "_law_web_here", "_law_plain"] ["_law_script"] (defScope (top 32)) := ⟨rfl, rfl, rfl, by decide +kernel, rfl, by decide +kernel, by decide +kernel⟩
theorem b23 (FX : Fx K mg) (hF : AllF P w K mg base T k) (hM : AllM P w K mg base T k) (hI : AllI P w K mg base T) (hk2 : 2 ≤ k) {f : Addr} (cdv : Value) (A : Around) (outer : List Env) (s : Shared) (H : Hp) (E : XK) (hr : Room k (A.deeper (envOfC "law" (defScope (top 32)) s.heap.objs.size f cdv))) :
    PSs (cxOf (L2.CX P w) P w K mg base ["_law_script", "_law_whole_here", "_law_by", "_law_bow", "_law_most", "_law_web_here", "_law_plain"] "law" (defScope (top 32)) f cdv A outer s H E) (defBody (top 32)) (rdSs (Wof K) E T fu_law_10.body) := by
  have hN : (["_law_script", "_law_whole_here", "_law_by", "_law_bow", "_law_most", "_law_web_here", "_law_plain"] : List Str).Nodup := sc23.nd
  have hu0 : (A.deeper (envOfC "law" (defScope (top 32)) s.heap.objs.size f cdv)).units < cLine := by have := hr.un; omega
  have hu4 : (A.deeper (envOfC "law" (defScope (top 32)) s.heap.objs.size f cdv)).units + 64 < cLine := by have := hr.un; omega
  have hu5 : (A.deeper (envOfC "law" (defScope (top 32)) s.heap.objs.size f cdv)).units + 65 < cLine := by have := hr.un; omega
  have tk : Takes (cxOf (L2.CX P w) P w K mg base ["_law_script", "_law_whole_here", "_law_by", "_law_bow", "_law_most", "_law_web_here", "_law_plain"] "law" (defScope (top 32)) f cdv A outer s H E) (fun cls d _ H => E cls d H) := takes_of rfl rfl rfl rfl
  have px : Passes (L2.CX P w) (cxOf (L2.CX P w) P w K mg base ["_law_script", "_law_whole_here", "_law_by", "_law_bow", "_law_most", "_law_web_here", "_law_plain"] "law" (defScope (top 32)) f cdv A outer s H E) E := passes_call tk fun _ _ _ _ h => h
  have po : PassesOwn (model P w) (cxOf (L2.CX P w) P w K mg base ["_law_script", "_law_whole_here", "_law_by", "_law_bow", "_law_most", "_law_web_here", "_law_plain"] "law" (defScope (top 32)) f cdv A outer s H E).A (cxOf (L2.CX P w) P w K mg base ["_law_script", "_law_whole_here", "_law_by", "_law_bow", "_law_most", "_law_web_here", "_law_plain"] "law" (defScope (top 32)) f cdv A outer s H E).env (cxOf (L2.CX P w) P w K mg base ["_law_script", "_law_whole_here", "_law_by", "_law_bow", "_law_most", "_law_web_here", "_law_plain"] "law" (defScope (top 32)) f cdv A outer s H E).xe := passes_of rfl
  refine s_cons (s_asg hN (c_bi (b_sum rfl rfl) rfl FX.m_sum rfl (a_cons (c_slc rfl (c_var 0) o_no (o_so c_int)) a_nil))) ?_
  refine s_cons (s_for po rfl (i_rng1 rfl FX.m_range c_int) (g_one 2 hN) (s_cons (s_asg hN (c_ite (t_cmp (o_eq rfl hu4) (c_op o_mod (c_var 1) c_int) c_int (by with_unfolding_all rfl)) c_int c_int))
      (s_cons (s_asg hN (c_cal rfl (hF 14 _ _ _ rfl) hr rfl px (a_cons (c_var 0) (a_cons (c_var 2) (a_cons c_int (a_cons (c_var 4) a_nil))))))
      (s_cons (s_asg hN (c_cal rfl (hF 14 _ _ _ rfl) hr rfl px (a_cons (c_var 0) (a_cons (c_op o_add (c_var 2) c_int) (a_cons c_int (a_cons c_int a_nil))))))
      (s_cons (s_if (L2.PW.pt (t_or (t_not (t_val (c_cal rfl (hF 22 _ _ _ rfl) hr rfl px (a_cons (c_var 5) a_nil)))) (t_or (t_not (t_val (c_cal rfl (hF 22 _ _ _ rfl) hr rfl px (a_cons (c_var 6) a_nil)))) (t_or1 (t_not (t_val (c_cal rfl (hF 22 _ _ _ rfl) hr rfl px (a_cons (c_tup (a_cons (c_sub rfl (c_var 5) c_int) (a_cons (c_slc rfl (c_sub rfl (c_var 5) c_int) o_no (o_so c_int)) a_nil))) a_nil)))))))) (s_cons (s_ret (r_of c_bl))
      s_nil) s_nil)
      s_nil))))) ?_
  refine s_cons (s_asg hN (c_tup (a_cons c_int (a_cons (c_lst (a_cons (c_tup (a_cons c_int (a_cons c_int a_nil))) (a_cons (c_tup (a_cons c_int (a_cons c_int a_nil))) (a_cons (c_tup (a_cons c_int (a_cons c_int a_nil))) (a_cons (c_tup (a_cons c_int (a_cons c_int a_nil))) (a_cons (c_tup (a_cons c_int (a_cons c_int a_nil))) (a_cons (c_tup (a_cons c_int (a_cons c_int a_nil))) a_nil))))))) a_nil)))) ?_
  refine s_cons (s_if (L2.PW.pt (t_or (t_cmp (o_ne rfl hu4) (c_bi (b_len rfl) rfl FX.m_len rfl (a_cons (c_cal rfl (hF 12 _ _ _ rfl) hr rfl px (a_cons (c_var 3) a_nil)) a_nil)) c_int (by with_unfolding_all rfl)) (t_or1 (t_cmp o_isnot (c_cal rfl (hF 12 _ _ _ rfl) hr rfl px (a_cons (c_tup (a_cons c_int (a_cons (c_lst (a_cons (c_tup (a_cons c_int (a_cons c_int a_nil))) (a_cons (c_tup (a_cons c_int (a_cons c_int a_nil))) (a_cons (c_tup (a_cons c_int (a_cons c_int a_nil))) a_nil)))) a_nil))) a_nil)) c_non (by with_unfolding_all rfl))))) (s_cons (s_ret (r_of c_bl))
      s_nil) s_nil) ?_
  refine s_cons (s_ret (r_of (c_and (c_cmp (o_eq rfl hu4) (c_cal rfl (hF 12 _ _ _ rfl) hr rfl px (a_cons (c_tup (a_cons c_int (a_cons (c_lst (a_cons (c_tup (a_cons c_int (a_cons c_int a_nil))) (a_cons (c_tup (a_cons c_int (a_cons c_int a_nil))) a_nil))) a_nil))) a_nil)) (c_lst (a_cons c_int a_nil)) (by with_unfolding_all rfl)) (c_and (c_cmp o_is (c_cal rfl (hF 12 _ _ _ rfl) hr rfl px (a_cons (c_tup (a_cons c_int (a_cons (c_lst a_nil) a_nil))) a_nil)) c_non (by with_unfolding_all rfl)) (c_one (c_cmp (o_eq rfl hu4) (c_cal rfl (hF 12 _ _ _ rfl) hr rfl px (a_cons (c_tup (a_cons c_int (a_cons (c_lst a_nil) a_nil))) a_nil)) (c_lst (a_cons c_int a_nil)) (by with_unfolding_all rfl))))))) ?_
  exact s_nil
end
theorem all_ok {P : Program} {w : World} {K : PySem.W.Frag} {mg : Str → Option Value} {base : Heap} (FX : Fx K mg) (c : SaysX fa fb fn K) : ∀ k, AllF P w K mg base (run GP k) (k + 2) ∧ AllM P w K mg base (run GP k) (k + 2) ∧ AllI P w K mg base (run GP k)
  | 0 => by
    refine ⟨fun p j x ps h => ?_, fun p j C ps h => ?_, fun p j C f x ps h => ?_⟩
    · match p, h with
      | 0, h => cases h; obtain ⟨fd, F⟩ := c.def_ 0 (d := d0) rfl; exact ⟨⟨fd, fn_zero.mono (Nat.zero_le _), FunD.bindsN F fun _ _ _ _ _ _ us hl => match us, hl with | [_], _ => rfl⟩, FX.g_0, F.kp⟩
      | 1, h => cases h; obtain ⟨fd, F⟩ := c.def_ 1 (d := d1) rfl; exact ⟨⟨fd, fn_zero.mono (Nat.zero_le _), FunD.bindsN F fun _ _ _ _ _ _ us hl => match us, hl with | [_, _], _ => rfl⟩, FX.g_1, F.kp⟩
      | 2, h => cases h; obtain ⟨fd, F⟩ := c.def_ 2 (d := d2) rfl; exact ⟨⟨fd, fn_zero.mono (Nat.zero_le _), FunD.bindsN F fun _ _ _ _ _ _ us hl => match us, hl with | [_, _], _ => rfl⟩, FX.g_2, F.kp⟩
      | 3, h => cases h; obtain ⟨fd, F⟩ := c.def_ 3 (d := d3) rfl; exact ⟨⟨fd, fn_zero.mono (Nat.zero_le _), FunD.bindsN F fun _ _ _ _ _ _ us hl => match us, hl with | [_], _ => rfl⟩, FX.g_3, F.kp⟩
      | 4, h => cases h; obtain ⟨fd, F⟩ := c.def_ 4 (d := d4) rfl; exact ⟨⟨fd, fn_zero.mono (Nat.zero_le _), FunD.bindsN F fun _ _ _ _ _ _ us hl => match us, hl with | [_, _], _ => rfl⟩, FX.g_4, F.kp⟩
      | 5, h => cases h; obtain ⟨fd, F⟩ := c.def_ 5 (d := d5) rfl; exact ⟨⟨fd, fn_zero.mono (Nat.zero_le _), FunD.bindsN F fun _ _ _ _ _ _ us hl => match us, hl with | [_, _], _ => rfl⟩, FX.g_5, F.kp⟩
      | 6, h => cases h; obtain ⟨fd, F⟩ := c.def_ 6 (d := d6) rfl; exact ⟨⟨fd, fn_zero.mono (Nat.zero_le _), FunD.bindsN F fun _ _ _ _ _ _ us hl => match us, hl with | [_, _], _ => rfl⟩, FX.g_6, F.kp⟩
      | 7, h => cases h; obtain ⟨fd, F⟩ := c.def_ 7 (d := d7) rfl; exact ⟨⟨fd, fn_zero.mono (Nat.zero_le _), FunD.bindsN F fun _ _ _ _ _ _ us hl => match us, hl with | [_], _ => rfl⟩, FX.g_7, F.kp⟩
      | 8, h => cases h; obtain ⟨fd, F⟩ := c.def_ 8 (d := d8) rfl; exact ⟨⟨fd, fn_zero.mono (Nat.zero_le _), FunD.bindsN F fun _ _ _ _ _ _ us hl => match us, hl with | [_], _ => rfl⟩, FX.g_8, F.kp⟩
      | 9, h => cases h; obtain ⟨fd, F⟩ := c.def_ 9 (d := d9) rfl; exact ⟨⟨fd, fn_zero.mono (Nat.zero_le _), FunD.bindsN F fun _ _ _ _ _ _ us hl => match us, hl with | [_], _ => rfl⟩, FX.g_9, F.kp⟩
      | 10, h => cases h; obtain ⟨fd, F⟩ := c.def_ 10 (d := d10) rfl; exact ⟨⟨fd, fn_zero.mono (Nat.zero_le _), FunD.bindsN F fun _ _ _ _ _ _ us hl => match us, hl with | [_, _], _ => rfl⟩, FX.g_10, F.kp⟩
      | 11, h => cases h; obtain ⟨fd, F⟩ := c.def_ 11 (d := d11) rfl; exact ⟨⟨fd, fn_zero.mono (Nat.zero_le _), FunD.bindsN F fun _ _ _ _ _ _ us hl => match us, hl with | [_], _ => rfl⟩, FX.g_11, F.kp⟩
      | 12, h => cases h; obtain ⟨fd, F⟩ := c.def_ 12 (d := d12) rfl; exact ⟨⟨fd, fn_zero.mono (Nat.zero_le _), FunD.bindsN F fun _ _ _ _ _ _ us hl => match us, hl with | [_], _ => rfl⟩, FX.g_12, F.kp⟩
      | 13, h => cases h; obtain ⟨fd, F⟩ := c.def_ 13 (d := d13) rfl; exact ⟨⟨fd, fn_zero.mono (Nat.zero_le _), FunD.bindsN F fun _ _ _ _ _ _ us hl => match us, hl with | [_, _, _], _ => rfl⟩, FX.g_13, F.kp⟩
      | 14, h => cases h; obtain ⟨fd, F⟩ := c.def_ 14 (d := d14) rfl; exact ⟨⟨fd, fn_zero.mono (Nat.zero_le _), FunD.bindsN F fun _ _ _ _ _ _ us hl => match us, hl with | [_, _, _, _], _ => rfl⟩, FX.g_14, F.kp⟩
      | 15, h => cases h; obtain ⟨fd, F⟩ := c.def_ 15 (d := d15) rfl; exact ⟨⟨fd, fn_zero.mono (Nat.zero_le _), FunD.bindsN F fun _ _ _ _ _ _ us hl => match us, hl with | [_], _ => rfl⟩, FX.g_15, F.kp⟩
      | 16, h => cases h; obtain ⟨fd, F⟩ := c.def_ 16 (d := d16) rfl; exact ⟨⟨fd, fn_zero.mono (Nat.zero_le _), FunD.bindsN F fun _ _ _ _ _ _ us hl => match us, hl with | [_], _ => rfl⟩, FX.g_16, F.kp⟩
      | 17, h => cases h; obtain ⟨fd, F⟩ := c.def_ 17 (d := d17) rfl; exact ⟨⟨fd, fn_zero.mono (Nat.zero_le _), FunD.bindsN F fun _ _ _ _ _ _ us hl => match us, hl with | [_], _ => rfl⟩, FX.g_17, F.kp⟩
      | 18, h => cases h; obtain ⟨fd, F⟩ := c.def_ 18 (d := d18) rfl; exact ⟨⟨fd, fn_zero.mono (Nat.zero_le _), FunD.bindsN F fun _ _ _ _ _ _ us hl => match us, hl with | [_, _], _ => rfl⟩, FX.g_18, F.kp⟩
      | 19, h => cases h; obtain ⟨fd, F⟩ := c.def_ 19 (d := d19) rfl; exact ⟨⟨fd, fn_zero.mono (Nat.zero_le _), FunD.bindsN F fun _ _ _ _ _ _ us hl => match us, hl with | [_, _], _ => rfl⟩, FX.g_19, F.kp⟩
      | 20, h => cases h; obtain ⟨fd, F⟩ := c.def_ 20 (d := d20) rfl; exact ⟨⟨fd, fn_zero.mono (Nat.zero_le _), FunD.bindsN F fun _ _ _ _ _ _ us hl => match us, hl with | [_], _ => rfl⟩, FX.g_20, F.kp⟩
      | 21, h => cases h; obtain ⟨fd, F⟩ := c.def_ 21 (d := d21) rfl; exact ⟨⟨fd, fn_zero.mono (Nat.zero_le _), FunD.bindsN F fun _ _ _ _ _ _ us hl => match us, hl with | [_, _, _, _], _ => rfl⟩, FX.g_21, F.kp⟩
      | 22, h => cases h; obtain ⟨fd, F⟩ := c.def_ 22 (d := d22) rfl; exact ⟨⟨fd, fn_zero.mono (Nat.zero_le _), FunD.bindsN F fun _ _ _ _ _ _ us hl => match us, hl with | [_], _ => rfl⟩, FX.g_22, F.kp⟩
      | 23, h => cases h; obtain ⟨fd, F⟩ := c.def_ 23 (d := d23) rfl; exact ⟨⟨fd, fn_zero.mono (Nat.zero_le _), FunD.bindsN F fun _ _ _ _ _ _ us hl => match us, hl with | [_], _ => rfl⟩, FX.g_23, F.kp⟩
      | j + 24, h => cases h
    · match p, h with
      | j + 0, h => cases h
    · match p, h with
      | j + 0, h => cases h
  | k + 1 => by
    obtain ⟨iF, iM, iI⟩ := all_ok FX c k (P := P) (w := w) (base := base)
    have hk2 : 2 ≤ k + 2 := Nat.le_add_left 2 k
    refine ⟨fun p j x ps h => ?_, fun p j C ps h => ?_, fun p j C f x ps h => ?_⟩
    · match p, h with
      | 0, h => cases h; obtain ⟨fd, F⟩ := c.def_ 0 (d := d0) rfl; exact ⟨⟨fd, fn_runR (W := Wof K) (r := k + 2) F sc0 rfl rfl rfl (by decide) fun cdv A outer s H E hr => b0 FX iF iM iI hk2 cdv A outer s H E hr, FunD.bindsN F fun _ _ _ _ _ _ us hl => match us, hl with | [_], _ => rfl⟩, FX.g_0, F.kp⟩
      | 1, h => cases h; obtain ⟨fd, F⟩ := c.def_ 1 (d := d1) rfl; exact ⟨⟨fd, fn_runR (W := Wof K) (r := k + 2) F sc1 rfl rfl rfl (by decide) fun cdv A outer s H E hr => b1 FX iF iM iI hk2 cdv A outer s H E hr, FunD.bindsN F fun _ _ _ _ _ _ us hl => match us, hl with | [_, _], _ => rfl⟩, FX.g_1, F.kp⟩
      | 2, h => cases h; obtain ⟨fd, F⟩ := c.def_ 2 (d := d2) rfl; exact ⟨⟨fd, fn_runR (W := Wof K) (r := k + 2) F sc2 rfl rfl rfl (by decide) fun cdv A outer s H E hr => b2 FX iF iM iI hk2 cdv A outer s H E hr, FunD.bindsN F fun _ _ _ _ _ _ us hl => match us, hl with | [_, _], _ => rfl⟩, FX.g_2, F.kp⟩
      | 3, h => cases h; obtain ⟨fd, F⟩ := c.def_ 3 (d := d3) rfl; exact ⟨⟨fd, fn_runR (W := Wof K) (r := k + 2) F sc3 rfl rfl rfl (by decide) fun cdv A outer s H E hr => b3 FX iF iM iI hk2 cdv A outer s H E hr, FunD.bindsN F fun _ _ _ _ _ _ us hl => match us, hl with | [_], _ => rfl⟩, FX.g_3, F.kp⟩
      | 4, h => cases h; obtain ⟨fd, F⟩ := c.def_ 4 (d := d4) rfl; exact ⟨⟨fd, fn_runR (W := Wof K) (r := k + 2) F sc4 rfl rfl rfl (by decide) fun cdv A outer s H E hr => b4 FX iF iM iI hk2 cdv A outer s H E hr, FunD.bindsN F fun _ _ _ _ _ _ us hl => match us, hl with | [_, _], _ => rfl⟩, FX.g_4, F.kp⟩
      | 5, h => cases h; obtain ⟨fd, F⟩ := c.def_ 5 (d := d5) rfl; exact ⟨⟨fd, fn_runR (W := Wof K) (r := k + 2) F sc5 rfl rfl rfl (by decide) fun cdv A outer s H E hr => b5 FX iF iM iI hk2 cdv A outer s H E hr, FunD.bindsN F fun _ _ _ _ _ _ us hl => match us, hl with | [_, _], _ => rfl⟩, FX.g_5, F.kp⟩
      | 6, h => cases h; obtain ⟨fd, F⟩ := c.def_ 6 (d := d6) rfl; exact ⟨⟨fd, fn_runR (W := Wof K) (r := k + 2) F sc6 rfl rfl rfl (by decide) fun cdv A outer s H E hr => b6 FX iF iM iI hk2 cdv A outer s H E hr, FunD.bindsN F fun _ _ _ _ _ _ us hl => match us, hl with | [_, _], _ => rfl⟩, FX.g_6, F.kp⟩
      | 7, h => cases h; obtain ⟨fd, F⟩ := c.def_ 7 (d := d7) rfl; exact ⟨⟨fd, fn_runR (W := Wof K) (r := k + 2) F sc7 rfl rfl rfl (by decide) fun cdv A outer s H E hr => b7 FX iF iM iI hk2 cdv A outer s H E hr, FunD.bindsN F fun _ _ _ _ _ _ us hl => match us, hl with | [_], _ => rfl⟩, FX.g_7, F.kp⟩
      | 8, h => cases h; obtain ⟨fd, F⟩ := c.def_ 8 (d := d8) rfl; exact ⟨⟨fd, fn_runR (W := Wof K) (r := k + 2) F sc8 rfl rfl rfl (by decide) fun cdv A outer s H E hr => b8 FX iF iM iI hk2 cdv A outer s H E hr, FunD.bindsN F fun _ _ _ _ _ _ us hl => match us, hl with | [_], _ => rfl⟩, FX.g_8, F.kp⟩
      | 9, h => cases h; obtain ⟨fd, F⟩ := c.def_ 9 (d := d9) rfl; exact ⟨⟨fd, fn_runR (W := Wof K) (r := k + 2) F sc9 rfl rfl rfl (by decide) fun cdv A outer s H E hr => b9 FX iF iM iI hk2 cdv A outer s H E hr, FunD.bindsN F fun _ _ _ _ _ _ us hl => match us, hl with | [_], _ => rfl⟩, FX.g_9, F.kp⟩
      | 10, h => cases h; obtain ⟨fd, F⟩ := c.def_ 10 (d := d10) rfl; exact ⟨⟨fd, fn_runR (W := Wof K) (r := k + 2) F sc10 rfl rfl rfl (by decide) fun cdv A outer s H E hr => b10 FX iF iM iI hk2 cdv A outer s H E hr, FunD.bindsN F fun _ _ _ _ _ _ us hl => match us, hl with | [_, _], _ => rfl⟩, FX.g_10, F.kp⟩
      | 11, h => cases h; obtain ⟨fd, F⟩ := c.def_ 11 (d := d11) rfl; exact ⟨⟨fd, fn_runR (W := Wof K) (r := k + 2) F sc11 rfl rfl rfl (by decide) fun cdv A outer s H E hr => b11 FX iF iM iI hk2 cdv A outer s H E hr, FunD.bindsN F fun _ _ _ _ _ _ us hl => match us, hl with | [_], _ => rfl⟩, FX.g_11, F.kp⟩
      | 12, h => cases h; obtain ⟨fd, F⟩ := c.def_ 12 (d := d12) rfl; exact ⟨⟨fd, fn_runR (W := Wof K) (r := k + 2) F sc12 rfl rfl rfl (by decide) fun cdv A outer s H E hr => b12 FX iF iM iI hk2 cdv A outer s H E hr, FunD.bindsN F fun _ _ _ _ _ _ us hl => match us, hl with | [_], _ => rfl⟩, FX.g_12, F.kp⟩
      | 13, h => cases h; obtain ⟨fd, F⟩ := c.def_ 13 (d := d13) rfl; exact ⟨⟨fd, fn_runR (W := Wof K) (r := k + 2) F sc13 rfl rfl rfl (by decide) fun cdv A outer s H E hr => b13 FX iF iM iI hk2 cdv A outer s H E hr, FunD.bindsN F fun _ _ _ _ _ _ us hl => match us, hl with | [_, _, _], _ => rfl⟩, FX.g_13, F.kp⟩
      | 14, h => cases h; obtain ⟨fd, F⟩ := c.def_ 14 (d := d14) rfl; exact ⟨⟨fd, fn_runR (W := Wof K) (r := k + 2) F sc14 rfl rfl rfl (by decide) fun cdv A outer s H E hr => b14 FX iF iM iI hk2 cdv A outer s H E hr, FunD.bindsN F fun _ _ _ _ _ _ us hl => match us, hl with | [_, _, _, _], _ => rfl⟩, FX.g_14, F.kp⟩
      | 15, h => cases h; obtain ⟨fd, F⟩ := c.def_ 15 (d := d15) rfl; exact ⟨⟨fd, fn_runR (W := Wof K) (r := k + 2) F sc15 rfl rfl rfl (by decide) fun cdv A outer s H E hr => b15 FX iF iM iI hk2 cdv A outer s H E hr, FunD.bindsN F fun _ _ _ _ _ _ us hl => match us, hl with | [_], _ => rfl⟩, FX.g_15, F.kp⟩
      | 16, h => cases h; obtain ⟨fd, F⟩ := c.def_ 16 (d := d16) rfl; exact ⟨⟨fd, fn_runR (W := Wof K) (r := k + 2) F sc16 rfl rfl rfl (by decide) fun cdv A outer s H E hr => b16 FX iF iM iI hk2 cdv A outer s H E hr, FunD.bindsN F fun _ _ _ _ _ _ us hl => match us, hl with | [_], _ => rfl⟩, FX.g_16, F.kp⟩
      | 17, h => cases h; obtain ⟨fd, F⟩ := c.def_ 17 (d := d17) rfl; exact ⟨⟨fd, fn_runR (W := Wof K) (r := k + 2) F sc17 rfl rfl rfl (by decide) fun cdv A outer s H E hr => b17 FX iF iM iI hk2 cdv A outer s H E hr, FunD.bindsN F fun _ _ _ _ _ _ us hl => match us, hl with | [_], _ => rfl⟩, FX.g_17, F.kp⟩
      | 18, h => cases h; obtain ⟨fd, F⟩ := c.def_ 18 (d := d18) rfl; exact ⟨⟨fd, fn_runR (W := Wof K) (r := k + 2) F sc18 rfl rfl rfl (by decide) fun cdv A outer s H E hr => b18 FX iF iM iI hk2 cdv A outer s H E hr, FunD.bindsN F fun _ _ _ _ _ _ us hl => match us, hl with | [_, _], _ => rfl⟩, FX.g_18, F.kp⟩
      | 19, h => cases h; obtain ⟨fd, F⟩ := c.def_ 19 (d := d19) rfl; exact ⟨⟨fd, fn_runR (W := Wof K) (r := k + 2) F sc19 rfl rfl rfl (by decide) fun cdv A outer s H E hr => b19 FX iF iM iI hk2 cdv A outer s H E hr, FunD.bindsN F fun _ _ _ _ _ _ us hl => match us, hl with | [_, _], _ => rfl⟩, FX.g_19, F.kp⟩
      | 20, h => cases h; obtain ⟨fd, F⟩ := c.def_ 20 (d := d20) rfl; exact ⟨⟨fd, fn_runR (W := Wof K) (r := k + 2) F sc20 rfl rfl rfl (by decide) fun cdv A outer s H E hr => b20 FX iF iM iI hk2 cdv A outer s H E hr, FunD.bindsN F fun _ _ _ _ _ _ us hl => match us, hl with | [_], _ => rfl⟩, FX.g_20, F.kp⟩
      | 21, h => cases h; obtain ⟨fd, F⟩ := c.def_ 21 (d := d21) rfl; exact ⟨⟨fd, fn_runR (W := Wof K) (r := k + 2) F sc21 rfl rfl rfl (by decide) fun cdv A outer s H E hr => b21 FX iF iM iI hk2 cdv A outer s H E hr, FunD.bindsN F fun _ _ _ _ _ _ us hl => match us, hl with | [_, _, _, _], _ => rfl⟩, FX.g_21, F.kp⟩
      | 22, h => cases h; obtain ⟨fd, F⟩ := c.def_ 22 (d := d22) rfl; exact ⟨⟨fd, fn_runR (W := Wof K) (r := k + 2) F sc22 rfl rfl rfl (by decide) fun cdv A outer s H E hr => b22 FX iF iM iI hk2 cdv A outer s H E hr, FunD.bindsN F fun _ _ _ _ _ _ us hl => match us, hl with | [_], _ => rfl⟩, FX.g_22, F.kp⟩
      | 23, h => cases h; obtain ⟨fd, F⟩ := c.def_ 23 (d := d23) rfl; exact ⟨⟨fd, fn_runR (W := Wof K) (r := k + 2) F sc23 rfl rfl rfl (by decide) fun cdv A outer s H E hr => b23 FX iF iM iI hk2 cdv A outer s H E hr, FunD.bindsN F fun _ _ _ _ _ _ us hl => match us, hl with | [_], _ => rfl⟩, FX.g_23, F.kp⟩
      | j + 24, h => cases h
    · match p, h with
      | j + 0, h => cases h
    · match p, h with
      | j + 0, h => cases h
abbrev R : PySem.W.OpenRow := PySem.W.OpenLaw.row PySem.Challenge.rw_tieweb_k10_whole_trail
abbrev hk : PySem.W.Hook := hookX 4 fa fb fn
def ob (s : PySem.W.SharedT) : He.AlD := obsXG 4 fa fb fn (HandSHeadRun.getT s)
theorem ob_eq (s : PySem.W.SharedT) : ob s = hk.obs s.abs := obsXG_eq (HandSHeadRun.getT_eq s)
def loose : List PySem.Str := (["is_whole", "is_below", "is_tie", "is_web", "check_few_ties", "meets_all", "chosen", "gone_round", "places_of", "ties_of", "round_from", "trail_of", "trail", "_law_number", "_law_web", "_law_whole", "_law_near", "_law_copied", "_law_meets", "_law_is_trail", "_law_tried", "_law_goes", "_law_right", "MOST_PLACES", "MOST_TIES", "SMALL", "WebError", "BadWeb"] : List PySem.Str)
theorem hrun (w : World) : HandSHeadRun.RunEq R (PySem.W.view R.prog [32]) hk ob 4000 loose w := by
  intro os
  kernel_rfl
end k10_whole_trail
open PySem PySem.W PySem.Calls PyProof.Rows
theorem PySem.Challenge.cw_tieweb_k10_whole_trail_holds : PySem.Challenge.rw_tieweb_k10_whole_trail.Holds := by
  w_on; o_law
  refine HandSHeadRun.head_any (r := OpenLaw.row PySem.Challenge.rw_tieweb_k10_whole_trail) (q := view (OpenLaw.row PySem.Challenge.rw_tieweb_k10_whole_trail).prog [32]) (H := k10_whole_trail.hk) (ob := k10_whole_trail.ob) (M := 4000) (loose := k10_whole_trail.loose) (d := HandSHeadRun.topDef (OpenLaw.row PySem.Challenge.rw_tieweb_k10_whole_trail).prog 32) (kwd := []) k10_whole_trail.ob_eq
    (by kernel_rfl) (fun s => by kernel_rfl) k10_whole_trail.hrun (by kernel_rfl) (by kernel_rfl) (by kernel_rfl) (by rfl) (by first | assumption | decide +kernel) (by decide +kernel) ⟨rfl, rfl, rfl, rfl, rfl, by decide +kernel⟩ ?hw ?hc
  case hw => w_witness2
  case hc =>
    refine TW.walk_twR (l := PySem.Challenge.rw_tieweb_k10_whole_trail) (n := 63) (k := 100) (r := 102) (x := "_law_script") (PR := TW.GP) (i := 97) rfl (by decide) (by kernel_rfl) ⟨rfl, by decide, by decide⟩ ?F TY.k10_true
    intro w mg fa h Y G hmg0
    obtain ⟨K, KX, c⟩ := Y
    have hmg : mg ("law" : PySem.Str) = some (.ref fa) := by
      have e : (HandSHeadRun.topDef (OpenLaw.row PySem.Challenge.rw_tieweb_k10_whole_trail).prog 32).name = ("law" : PySem.Str) := by kernel_rfl
      rw [← e]
      exact hmg0
    have FX := k10_whole_trail.fx_of KX G c
    have e := hmg.symm.trans FX.g_23
    cases e
    obtain ⟨fd, F⟩ := c.def_ 23 (d := k10_whole_trail.d23) rfl
    have b := L2.FunD.bindsA (ps := ["_law_script"]) F fun _ _ _ _ _ _ us hl => match us, hl with | [_], _ => rfl
    refine ⟨k10_whole_trail.Wof K, fd, KX, fun s v => b s [v] rfl, fun base _ _ => ?_⟩
    obtain ⟨iF, iM, iI⟩ := k10_whole_trail.all_ok FX c (P := PySem.W.OpenLaw.prog PySem.Challenge.rw_tieweb_k10_whole_trail) (w := w) (base := base) 99
    exact L2.FnOk.imp (TW.fn_runR (W := k10_whole_trail.Wof K) (PR := TW.GP) (i := 97) (r := 99 + 2) F k10_whole_trail.sc23 rfl rfl rfl (by decide) fun cdv A outer s H E hr => k10_whole_trail.b23 FX iF iM iI (by decide) cdv A outer s H E hr) fun vs H Q E h => h
