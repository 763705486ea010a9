import PyProof.Rows.All
import Wide.All
import OpenK.AllK
import Wide.FinOn
import HandS.ForMost
import HandS.ForExc
import HandS.Zip
import HandS.IsInst
import HandS.Wide
import HandS.TupAny
import HandS.TupMul
import HandS.Small
import HandS.CallSlots
import HandS.EndBits
import HandS.Style
import HandS.Conv
import HandS.TupLen
import HandS.Text
import HandS.Deep
import HandS.SortInts
import HandS.WideBits
import HandS.RaiseMore
import HandS.Exc
import HandS.ExcCtx
import HandS.ExcOwn
import HandS.ExcValue
import HandS.ExcIs
import HandS.ExcInit
import HandS.ExcField
import HandS.Words
import HandS.TryOnly
import KE.KTupSum
import KE.GoesEnum
import HandS.SortRule
import KE.KDictSum
import KE.KDictCopyH
import KE.DataMinMax
import HandS.SortKw
import PySem.Challenge.RW_longproducts_k18_boxes_run
set_option Elab.async false
set_option linter.all false
set_option maxRecDepth 100000
set_option maxHeartbeats 4000000
namespace Ev
/-- a rule: what is wanted, what is enough -/
class Step (P : Prop) (Q : outParam Prop) : Prop where
  step : Q → P
open PySem PySem.Spec PyProof.Rows L2

/-! ## Data, states, steps -/
inductive D where
  | non | bl (b : Bool) | int (i : Int) | str (x : Str)
  | tup (l : List D) | lst (l : List D)
  | dk (k : List Key) (l : List D) | dt (k : List (List Key)) (l : List D)
  | fn (i : Nat) | ex (c : Nat) (l : List D) | scr (l : List Int)

/-- where the defs and the classes of the text stand; the fields of the exceptions -/
structure Glb where
  K : PySem.W.Frag
  fn : Nat → Addr
  cls : Nat → Addr
  fld : Nat → List Str

/-- objects that nobody changes -/
def immO : HO → Bool
  | .tup _ => true
  | .ext _ => true
  | .xd _ => true
  | .frz _ _ => true
  | _ => false

/-- what is known of an exception's object -/
def ExO (C : Addr) (od : Option Addr) (a : Addr) (h : Heap) : Prop := ∃ oe vs, h.get? a = some oe ∧ oe.cls = .ref C ∧ oe.dict = od ∧ oe.data = .fields vs

/-- the script's ints at an address: tracked (and locked), or one of the module's own objects -/
def ScrAt (K : PySem.W.Frag) (H : Hp) (a : Addr) (l : List Int) : Prop := (∃ o, H a = some (.frz o (.lst (l.map V.int)))) ∨
  ∃ (o : Obj) (its : Array Value) (n : Nat), K.lookup a = some o ∧ o.cls = .type "list" ∧ o.dict = none ∧ o.data = .seq its n ∧ its.size ≤ sizeLine ∧ Vals (l.map V.int) its.toList
theorem ScrAt.seq {K : PySem.W.Frag} {H : Hp} {a : Addr} {l : List Int} (h : ScrAt K H a l) : SqL K H a (l.map V.int) := h.elim (fun ⟨o, e⟩ => .inl (.inr ⟨o, e⟩)) .inr

mutual
/-- the value v stands for the data d: lists and dicts within are of the set F -/
def RV (G : Glb) (H : Hp) (F : Addr → Prop) : D → V → Prop
  | .non, v => v = .non
  | .bl b, v => v = .bl b
  | .int i, v => v = .int i
  | .str x, v => v = .str x
  | .tup l, v => ∃ a xs, v = .ref a ∧ H a = some (.tup xs) ∧ RVs G H F l xs
  | .lst l, v => ∃ a xs, v = .ref a ∧ F a ∧ H a = some (.lst xs) ∧ RVs G H F l xs
  | .dk k l, v => ∃ a xs, v = .ref a ∧ F a ∧ Rd H a (.dK (k.zip xs)) ∧ k.length = xs.length ∧ RVs G H F l xs
  | .dt k l, v => ∃ a xs, v = .ref a ∧ F a ∧ Rd H a (.dT (k.zip xs)) ∧ k.length = xs.length ∧ RVs G H F l xs
  | .fn i, v => v = .ref (G.fn i)
  | .ex c l, v => ∃ a φ od ys, v = .ref a ∧ H a = some (.ext φ) ∧ (∀ h, φ h → ExO (G.cls c) od a h) ∧ RVs G H F l ys ∧ ((l = [] ∧ od = none) ∨ ∃ dd, l ≠ [] ∧ od = some dd ∧ H dd = some (.xd ((G.fld c).zip ys)))
  | .scr l, v => ∃ a, v = .ref a ∧ ScrAt G.K H a l
def RVs (G : Glb) (H : Hp) (F : Addr → Prop) : List D → List V → Prop
  | [], xs => xs = []
  | d :: l, xs => ∃ y ys, xs = y :: ys ∧ RV G H F d y ∧ RVs G H F l ys
end

section
variable {G : Glb} {H H' : Hp} {F F' : Addr → Prop}
theorem Rd.mono {a : Addr} {u : HO} (k : ∀ o, H a = some o → H' a = some o) (r : Rd H a u) : Rd H' a u :=
  r.elim (fun e => .inl (k _ e)) fun ⟨o, e⟩ => .inr ⟨o, k _ e⟩
mutual
theorem RV.mono (k1 : ∀ a u, immO u = true → H a = some u → H' a = some u) (k2 : ∀ a u, F a → H a = some u → H' a = some u) (k3 : ∀ a, F a → F' a) :
    ∀ (d : D) (v : V), RV G H F d v → RV G H' F' d v
  | .non, _, h => by unfold RV at *; exact h
  | .bl _, _, h => by unfold RV at *; exact h
  | .int _, _, h => by unfold RV at *; exact h
  | .str _, _, h => by unfold RV at *; exact h
  | .tup l, v, h => by
    unfold RV at *
    obtain ⟨a, xs, e, q, r⟩ := h
    exact ⟨a, xs, e, k1 _ _ rfl q, RVs.mono k1 k2 k3 l xs r⟩
  | .lst l, v, h => by
    unfold RV at *
    obtain ⟨a, xs, e, f, q, r⟩ := h
    exact ⟨a, xs, e, k3 _ f, k2 _ _ f q, RVs.mono k1 k2 k3 l xs r⟩
  | .dk k l, v, h => by
    unfold RV at *
    obtain ⟨a, xs, e, f, q, z, r⟩ := h
    exact ⟨a, xs, e, k3 _ f, Rd.mono (fun o => k2 _ o f) q, z, RVs.mono k1 k2 k3 l xs r⟩
  | .dt k l, v, h => by
    unfold RV at *
    obtain ⟨a, xs, e, f, q, z, r⟩ := h
    exact ⟨a, xs, e, k3 _ f, Rd.mono (fun o => k2 _ o f) q, z, RVs.mono k1 k2 k3 l xs r⟩
  | .fn _, _, h => by unfold RV at *; exact h
  | .ex c l, v, h => by
    unfold RV at *
    obtain ⟨a, φ, od, ys, e, q, p, r, z⟩ := h
    exact ⟨a, φ, od, ys, e, k1 _ _ rfl q, p, RVs.mono k1 k2 k3 l ys r, z.elim .inl fun ⟨dd, n, e1, e2⟩ => .inr ⟨dd, n, e1, k1 _ _ rfl e2⟩⟩
  | .scr l, v, h => by
    unfold RV at *
    obtain ⟨a, e, q⟩ := h
    exact ⟨a, e, q.elim (fun ⟨o, e⟩ => .inl ⟨o, k1 _ _ rfl e⟩) .inr⟩
theorem RVs.mono (k1 : ∀ a u, immO u = true → H a = some u → H' a = some u) (k2 : ∀ a u, F a → H a = some u → H' a = some u) (k3 : ∀ a, F a → F' a) :
    ∀ (l : List D) (xs : List V), RVs G H F l xs → RVs G H' F' l xs
  | [], _, h => by unfold RVs at *; exact h
  | d :: l, xs, h => by
    unfold RVs at *
    obtain ⟨y, ys, e, r, rs⟩ := h
    exact ⟨y, ys, e, RV.mono k1 k2 k3 d y r, RVs.mono k1 k2 k3 l ys rs⟩
end
theorem RVs.len : ∀ {l : List D} {xs : List V}, RVs G H F l xs → l.length = xs.length
  | [], xs, h => by unfold RVs at h; rw [h]; rfl
  | d :: l, xs, h => by
    unfold RVs at h
    obtain ⟨y, ys, e, _, rs⟩ := h
    rw [e, List.length_cons, List.length_cons, RVs.len rs]
theorem RVs.get : ∀ {l : List D} {xs : List V} {i : Nat} {d : D}, RVs G H F l xs → l[i]? = some d → ∃ v, xs[i]? = some v ∧ RV G H F d v
  | [], _, _, _, _, h => by simp at h
  | d :: l, xs, 0, d', h, e => by
    unfold RVs at h
    obtain ⟨y, ys, rfl, r, rs⟩ := h
    simp at e; subst e
    exact ⟨y, rfl, r⟩
  | d :: l, xs, i + 1, d', h, e => by
    unfold RVs at h
    obtain ⟨y, ys, rfl, r, rs⟩ := h
    simp only [List.getElem?_cons_succ] at e ⊢
    exact RVs.get rs e
theorem RVs.got : ∀ {l : List D} {xs : List V} {i : Nat} {v : V}, RVs G H F l xs → xs[i]? = some v → ∃ d, l[i]? = some d ∧ RV G H F d v
  | [], xs, i, v, h, e => by unfold RVs at h; subst h; simp at e
  | d :: l, xs, 0, v, h, e => by
    unfold RVs at h
    obtain ⟨y, ys, rfl, r, rs⟩ := h
    simp at e; subst e
    exact ⟨d, rfl, r⟩
  | d :: l, xs, i + 1, v, h, e => by
    unfold RVs at h
    obtain ⟨y, ys, rfl, r, rs⟩ := h
    simp only [List.getElem?_cons_succ] at e ⊢
    exact RVs.got rs e
theorem RVs.nil : RVs G H F [] [] := by unfold RVs; rfl
theorem RVs.cons {d : D} {l : List D} {v : V} {xs : List V} (r : RV G H F d v) (rs : RVs G H F l xs) : RVs G H F (d :: l) (v :: xs) := by
  unfold RVs; exact ⟨v, xs, rfl, r, rs⟩
theorem RVs.append : ∀ {l m : List D} {xs ys : List V}, RVs G H F l xs → RVs G H F m ys → RVs G H F (l ++ m) (xs ++ ys)
  | [], _, xs, _, h, q => by unfold RVs at h; subst h; exact q
  | d :: l, m, xs, ys, h, q => by
    unfold RVs at h
    obtain ⟨y, zs, rfl, r, rs⟩ := h
    exact RVs.cons r (RVs.append rs q)
theorem RVs.set {d : D} {v : V} (r : RV G H F d v) : ∀ {l : List D} {xs : List V} (i : Nat), RVs G H F l xs → RVs G H F (l.set i d) (xs.set i v)
  | [], xs, _, h => by unfold RVs at h; subst h; exact RVs.nil
  | e :: l, xs, 0, h => by
    unfold RVs at h
    obtain ⟨y, zs, rfl, _, rs⟩ := h
    exact RVs.cons r rs
  | e :: l, xs, i + 1, h => by
    unfold RVs at h
    obtain ⟨y, zs, rfl, q, rs⟩ := h
    exact RVs.cons q (RVs.set r i rs)
theorem RVs.take : ∀ {l : List D} {xs : List V} (n : Nat), RVs G H F l xs → RVs G H F (l.take n) (xs.take n)
  | _, _, 0, _ => by rw [List.take_zero, List.take_zero]; exact RVs.nil
  | [], xs, n + 1, h => by unfold RVs at h; subst h; exact RVs.nil
  | d :: l, xs, n + 1, h => by
    unfold RVs at h
    obtain ⟨y, zs, rfl, r, rs⟩ := h
    exact RVs.cons r (RVs.take n rs)
theorem RVs.drop : ∀ {l : List D} {xs : List V} (n : Nat), RVs G H F l xs → RVs G H F (l.drop n) (xs.drop n)
  | _, _, 0, h => h
  | [], xs, n + 1, h => by unfold RVs at h; subst h; exact RVs.nil
  | d :: l, xs, n + 1, h => by
    unfold RVs at h
    obtain ⟨y, zs, rfl, r, rs⟩ := h
    exact RVs.drop n rs
theorem RVs.reverse : ∀ {l : List D} {xs : List V}, RVs G H F l xs → RVs G H F l.reverse xs.reverse
  | [], xs, h => by unfold RVs at h; subst h; exact RVs.nil
  | d :: l, xs, h => by
    unfold RVs at h
    obtain ⟨y, zs, rfl, r, rs⟩ := h
    rw [List.reverse_cons, List.reverse_cons]
    exact RVs.append (RVs.reverse rs) (RVs.cons r RVs.nil)
theorem RVs.ints : ∀ {ns : List Int} {xs : List V}, RVs G H F (ns.map D.int) xs → xs = ns.map V.int
  | [], xs, h => by simp only [List.map_nil] at h; unfold RVs at h; exact h
  | n :: ns, xs, h => by
    simp only [List.map_cons] at h
    unfold RVs at h
    obtain ⟨y, ys, e, r, rs⟩ := h
    unfold RV at r
    rw [e, r, RVs.ints rs]; rfl
end

/-- a slot: nothing known, data that may be shared, a list or dict that stands in this slot alone (what is in it may be shared), the same of a caller's list or dict -/
inductive Sl where
  | emp | sh (d : D) | ow (d : D) | io (d : D) | tr (d : D)

def RO (G : Glb) (H : Hp) (F : Addr → Prop) : D → Addr → Prop
  | .lst l, a => ∃ xs, H a = some (.lst xs) ∧ RVs G H F l xs
  | .dk k l, a => ∃ xs, H a = some (.dK (k.zip xs)) ∧ k.length = xs.length ∧ RVs G H F l xs
  | .dt k l, a => ∃ xs, H a = some (.dT (k.zip xs)) ∧ k.length = xs.length ∧ RVs G H F l xs
  | _, _ => False

mutual
/-- the value v stands for the data d, all whose lists are of L, each once -/
def DT (G : Glb) (H : Hp) (F : Addr → Prop) : D → V → List Addr → Prop
  | .tup l, v, L => ∃ a xs, v = .ref a ∧ H a = some (.tup xs) ∧ DTs G H F l xs L
  | .lst l, v, L => ∃ a xs L', v = .ref a ∧ H a = some (.lst xs) ∧ L = a :: L' ∧ DTs G H F l xs L'
  | .non, v, L => L = [] ∧ RV G H F .non v
  | .bl b, v, L => L = [] ∧ RV G H F (.bl b) v
  | .int i, v, L => L = [] ∧ RV G H F (.int i) v
  | .str x, v, L => L = [] ∧ RV G H F (.str x) v
  | .dk k l, v, L => L = [] ∧ RV G H F (.dk k l) v
  | .dt k l, v, L => L = [] ∧ RV G H F (.dt k l) v
  | .fn i, v, L => L = [] ∧ RV G H F (.fn i) v
  | .ex c l, v, L => L = [] ∧ RV G H F (.ex c l) v
  | .scr l, v, L => L = [] ∧ RV G H F (.scr l) v
def DTs (G : Glb) (H : Hp) (F : Addr → Prop) : List D → List V → List Addr → Prop
  | [], xs, L => xs = [] ∧ L = []
  | d :: l, xs, L => ∃ y ys L1 L2, xs = y :: ys ∧ L = L1 ++ L2 ∧ DT G H F d y L1 ∧ DTs G H F l ys L2
end
section
variable {G : Glb} {H H' : Hp} {F F' : Addr → Prop}
mutual
theorem DT.mono (k1 : ∀ a u, immO u = true → H a = some u → H' a = some u) (k2 : ∀ a u, F a → H a = some u → H' a = some u) (k3 : ∀ a, F a → F' a) :
    ∀ (d : D) (v : V) (L : List Addr), (∀ a ∈ L, ∀ u, H a = some u → H' a = some u) → DT G H F d v L → DT G H' F' d v L
  | .tup l, v, L, k4, h => by
    unfold DT at *
    obtain ⟨a, xs, e, q, r⟩ := h
    exact ⟨a, xs, e, k1 _ _ rfl q, DTs.mono k1 k2 k3 l xs L k4 r⟩
  | .lst l, v, L, k4, h => by
    unfold DT at *
    obtain ⟨a, xs, L', e, q, rfl, r⟩ := h
    exact ⟨a, xs, L', e, k4 a List.mem_cons_self _ q, rfl, DTs.mono k1 k2 k3 l xs L' (fun b hb => k4 b (List.mem_cons_of_mem _ hb)) r⟩
  | .non, v, L, _, h => by unfold DT at *; exact ⟨h.1, RV.mono k1 k2 k3 _ v h.2⟩
  | .bl b, v, L, _, h => by unfold DT at *; exact ⟨h.1, RV.mono k1 k2 k3 _ v h.2⟩
  | .int i, v, L, _, h => by unfold DT at *; exact ⟨h.1, RV.mono k1 k2 k3 _ v h.2⟩
  | .str x, v, L, _, h => by unfold DT at *; exact ⟨h.1, RV.mono k1 k2 k3 _ v h.2⟩
  | .dk k l, v, L, _, h => by unfold DT at *; exact ⟨h.1, RV.mono k1 k2 k3 _ v h.2⟩
  | .dt k l, v, L, _, h => by unfold DT at *; exact ⟨h.1, RV.mono k1 k2 k3 _ v h.2⟩
  | .fn i, v, L, _, h => by unfold DT at *; exact ⟨h.1, RV.mono k1 k2 k3 _ v h.2⟩
  | .ex c l, v, L, _, h => by unfold DT at *; exact ⟨h.1, RV.mono k1 k2 k3 _ v h.2⟩
  | .scr l, v, L, _, h => by unfold DT at *; exact ⟨h.1, RV.mono k1 k2 k3 _ v h.2⟩
theorem DTs.mono (k1 : ∀ a u, immO u = true → H a = some u → H' a = some u) (k2 : ∀ a u, F a → H a = some u → H' a = some u) (k3 : ∀ a, F a → F' a) :
    ∀ (l : List D) (xs : List V) (L : List Addr), (∀ a ∈ L, ∀ u, H a = some u → H' a = some u) → DTs G H F l xs L → DTs G H' F' l xs L
  | [], xs, L, _, h => by unfold DTs at *; exact h
  | d :: l, xs, L, k4, h => by
    unfold DTs at *
    obtain ⟨y, ys, L1, L2, e, rfl, r, rs⟩ := h
    exact ⟨y, ys, L1, L2, e, rfl, DT.mono k1 k2 k3 d y L1 (fun a ha => k4 a (List.mem_append.mpr (.inl ha))) r, DTs.mono k1 k2 k3 l ys L2 (fun a ha => k4 a (List.mem_append.mpr (.inr ha))) rs⟩
end
mutual
/-- what is owned is shared from now on -/
theorem DT.rv (k3 : ∀ a, F a → F' a) : ∀ (d : D) (v : V) (L : List Addr), (∀ a ∈ L, F' a) → DT G H F d v L → RV G H F' d v
  | .tup l, v, L, k4, h => by
    unfold DT at h
    unfold RV
    obtain ⟨a, xs, e, q, r⟩ := h
    exact ⟨a, xs, e, q, DTs.rvs k3 l xs L k4 r⟩
  | .lst l, v, L, k4, h => by
    unfold DT at h
    unfold RV
    obtain ⟨a, xs, L', e, q, rfl, r⟩ := h
    exact ⟨a, xs, e, k4 a List.mem_cons_self, q, DTs.rvs k3 l xs L' (fun b hb => k4 b (List.mem_cons_of_mem _ hb)) r⟩
  | .non, v, L, _, h => by unfold DT at h; exact RV.mono (fun _ _ _ e => e) (fun _ _ _ e => e) k3 _ v h.2
  | .bl b, v, L, _, h => by unfold DT at h; exact RV.mono (fun _ _ _ e => e) (fun _ _ _ e => e) k3 _ v h.2
  | .int i, v, L, _, h => by unfold DT at h; exact RV.mono (fun _ _ _ e => e) (fun _ _ _ e => e) k3 _ v h.2
  | .str x, v, L, _, h => by unfold DT at h; exact RV.mono (fun _ _ _ e => e) (fun _ _ _ e => e) k3 _ v h.2
  | .dk k l, v, L, _, h => by unfold DT at h; exact RV.mono (fun _ _ _ e => e) (fun _ _ _ e => e) k3 _ v h.2
  | .dt k l, v, L, _, h => by unfold DT at h; exact RV.mono (fun _ _ _ e => e) (fun _ _ _ e => e) k3 _ v h.2
  | .fn i, v, L, _, h => by unfold DT at h; exact RV.mono (fun _ _ _ e => e) (fun _ _ _ e => e) k3 _ v h.2
  | .ex c l, v, L, _, h => by unfold DT at h; exact RV.mono (fun _ _ _ e => e) (fun _ _ _ e => e) k3 _ v h.2
  | .scr l, v, L, _, h => by unfold DT at h; exact RV.mono (fun _ _ _ e => e) (fun _ _ _ e => e) k3 _ v h.2
theorem DTs.rvs (k3 : ∀ a, F a → F' a) : ∀ (l : List D) (xs : List V) (L : List Addr), (∀ a ∈ L, F' a) → DTs G H F l xs L → RVs G H F' l xs
  | [], xs, L, _, h => by unfold DTs at h; unfold RVs; exact h.1
  | d :: l, xs, L, k4, h => by
    unfold DTs at h
    unfold RVs
    obtain ⟨y, ys, L1, L2, e, rfl, r, rs⟩ := h
    exact ⟨y, ys, e, DT.rv k3 d y L1 (fun a ha => k4 a (List.mem_append.mpr (.inl ha))) r, DTs.rvs k3 l ys L2 (fun a ha => k4 a (List.mem_append.mpr (.inr ha))) rs⟩
end
end
def SlR (G : Glb) (H : Hp) (F : Addr → Prop) : Sl → Option V → List Addr → Prop
  | .emp, _, L => L = []
  | .sh d, o, L => L = [] ∧ ∃ v, o = some v ∧ RV G H F d v
  | .ow d, o, L => ∃ a, L = [a] ∧ o = some (.ref a) ∧ RO G H F d a
  | .io d, o, L => ∃ a, L = [a] ∧ o = some (.ref a) ∧ RO G H F d a
  | .tr d, o, L => ∃ v, o = some v ∧ DT G H F d v L

structure St (G : Glb) (β : Nat → Option V) (H : Hp) (F : Addr → Prop) (σ : L2.St) (ρ : List Sl) (L : Nat → List Addr) : Prop where
  len : σ.length = ρ.length
  slot : ∀ i s, ρ[i]? = some s → SlR G H F s (σ.getD i none) (L i)
  out : ∀ i, ρ.length ≤ i → L i = []
  nd : ∀ i, (L i).Nodup
  apart : ∀ i j a, a ∈ L i → a ∈ L j → i = j
  nF : ∀ i a, a ∈ L i → ¬ F a
  aF : ∀ a, F a → ∃ u, H a = some u
  mu : ∀ i a, a ∈ L i → ∃ u, H a = some u ∧ immO u = false
  ios : ∀ i d, ρ[i]? = some (.io d) → σ.getD i none = β i

def Own (L : Nat → List Addr) (a : Addr) : Prop := ∃ i, a ∈ L i

/-- a step: what is not owned stays; what comes new to the shared or the owned was owned or is new -/
structure Stp (H : Hp) (F O : Addr → Prop) (H' : Hp) (F' O' : Addr → Prop) : Prop where
  imm : ∀ a u, immO u = true → H a = some u → H' a = some u
  keep : ∀ a u, ¬ O a → H a = some u → H' a = some u
  there : ∀ a u, H a = some u → ∃ u', H' a = some u'
  mono : ∀ a, F a → F' a
  newF : ∀ a, F' a → F a ∨ O a ∨ H a = none
  newO : ∀ a, O' a → O a ∨ H a = none

theorem Stp.refl (H : Hp) (F O : Addr → Prop) : Stp H F O H F O :=
  ⟨fun _ _ _ e => e, fun _ _ _ e => e, fun _ u e => ⟨u, e⟩, fun _ f => f, fun _ f => .inl f, fun _ o => .inl o⟩
theorem Stp.trans {H H' H'' : Hp} {F F' F'' O O' O'' : Addr → Prop} (a : Stp H F O H' F' O') (b : Stp H' F' O' H'' F'' O'') : Stp H F O H'' F'' O'' where
  imm := fun x u i e => b.imm x u i (a.imm x u i e)
  keep := fun x u n e => b.keep x u (fun o => (a.newO x o).elim n fun z => by rw [z] at e; cases e) (a.keep x u n e)
  there := fun x u e => let ⟨u', e'⟩ := a.there x u e; b.there x u' e'
  mono := fun x f => b.mono x (a.mono x f)
  newF := fun x f => by
    rcases b.newF x f with f | o | n
    · exact a.newF x f
    · exact (a.newO x o).elim (fun z => .inr (.inl z)) fun z => .inr (.inr z)
    · cases e : H x with
      | none => exact .inr (.inr rfl)
      | some u =>
        obtain ⟨u', e'⟩ := a.there x u e
        rw [n] at e'; cases e'
  newO := fun x o => by
    rcases b.newO x o with o | n
    · exact a.newO x o
    · cases e : H x with
      | none => exact .inr rfl
      | some u =>
        obtain ⟨u', e'⟩ := a.there x u e
        rw [n] at e'; cases e'

section
variable {G : Glb} {β : Nat → Option V} {H H' : Hp} {F F' : Addr → Prop} {σ : L2.St} {ρ : List Sl} {L : Nat → List Addr}
theorem St.notF (I : St G β H F σ ρ L) {a : Addr} (f : F a) : ¬ Own L a := fun ⟨i, h⟩ => I.nF i a h f
theorem RO.mono (k1 : ∀ a u, immO u = true → H a = some u → H' a = some u) (k2 : ∀ a u, F a → H a = some u → H' a = some u) (k3 : ∀ a, F a → F' a) {d : D} {a : Addr}
    (k5 : ∀ u, H a = some u → H' a = some u) (r : RO G H F d a) : RO G H' F' d a := by
  cases d with
  | lst l => obtain ⟨xs, q, r⟩ := r; exact ⟨xs, k5 _ q, RVs.mono k1 k2 k3 l xs r⟩
  | dk k l => obtain ⟨xs, q, z, r⟩ := r; exact ⟨xs, k5 _ q, z, RVs.mono k1 k2 k3 l xs r⟩
  | dt k l => obtain ⟨xs, q, z, r⟩ := r; exact ⟨xs, k5 _ q, z, RVs.mono k1 k2 k3 l xs r⟩
  | _ => exact r.elim
theorem SlR.mono (k1 : ∀ a u, immO u = true → H a = some u → H' a = some u) (k2 : ∀ a u, F a → H a = some u → H' a = some u) (k3 : ∀ a, F a → F' a) {s : Sl} {o : Option V} {l : List Addr}
    (k4 : ∀ a ∈ l, ∀ u, H a = some u → H' a = some u) (h : SlR G H F s o l) : SlR G H' F' s o l := by
  cases s with
  | emp => exact h
  | sh d =>
    obtain ⟨e, v, e2, r⟩ := h
    exact ⟨e, v, e2, RV.mono k1 k2 k3 d v r⟩
  | ow d =>
    obtain ⟨a, e, e2, r⟩ := h
    exact ⟨a, e, e2, RO.mono k1 k2 k3 (k4 a (by rw [e]; exact List.mem_cons_self)) r⟩
  | io d =>
    obtain ⟨a, e, e2, r⟩ := h
    exact ⟨a, e, e2, RO.mono k1 k2 k3 (k4 a (by rw [e]; exact List.mem_cons_self)) r⟩
  | tr d =>
    obtain ⟨v, e, r⟩ := h
    exact ⟨v, e, DT.mono k1 k2 k3 d v l k4 r⟩
/-- the heap grows: what stands stays -/
theorem St.grow (I : St G β H F σ ρ L) (k : ∀ a u, H a = some u → H' a = some u) (m : ∀ a, F a → F' a) (n : ∀ a, F' a → F a ∨ H a = none) (al : ∀ a, F' a → ∃ u, H' a = some u) : St G β H' F' σ ρ L where
  len := I.len
  slot := fun i s e => SlR.mono (fun a u _ => k a u) (fun a u _ => k a u) m (fun a _ u => k a u) (I.slot i s e)
  out := I.out
  nd := I.nd
  apart := I.apart
  nF := fun i a h f => (n a f).elim (I.nF i a h) fun z => by obtain ⟨u, e, _⟩ := I.mu i a h; rw [z] at e; cases e
  aF := al
  mu := fun i a h => let ⟨u, e, q⟩ := I.mu i a h; ⟨u, k a u e, q⟩
  ios := I.ios
theorem Stp.grow {O : Addr → Prop} (k : ∀ a u, H a = some u → H' a = some u) (m : ∀ a, F a → F' a) (n : ∀ a, F' a → F a ∨ H a = none) : Stp H F O H' F' O :=
  ⟨fun a u _ => k a u, fun a u _ => k a u, fun a u e => ⟨u, k a u e⟩, m, fun a f => (n a f).elim .inl fun z => .inr (.inr z), fun _ o => .inl o⟩
theorem upd_keep {p : Addr} {o : HO} (hp : H p = none) : ∀ a u, H a = some u → upd H p o a = some u := fun a u e => by rw [upd_ne (ne_of_none e hp)]; exact e
/-- a new object that is not noted as shared -/
theorem St.new (I : St G β H F σ ρ L) {p : Addr} {o : HO} (hp : H p = none) : St G β (upd H p o) F σ ρ L :=
  I.grow (upd_keep hp) (fun _ f => f) (fun _ f => .inl f) fun a f => let ⟨u, e⟩ := I.aF a f; ⟨u, upd_keep hp a u e⟩
def withF (F : Addr → Prop) (p : Addr) : Addr → Prop := fun a => F a ∨ a = p
theorem St.newF (I : St G β H F σ ρ L) {p : Addr} {o : HO} (hp : H p = none) : St G β (upd H p o) (withF F p) σ ρ L :=
  I.grow (upd_keep hp) (fun _ f => .inl f) (fun a f => f.elim .inl fun z => .inr (z ▸ hp)) fun a f => by
    rcases f with f | rfl
    · obtain ⟨u, e⟩ := I.aF a f
      exact ⟨u, upd_keep hp a u e⟩
    · exact ⟨o, upd_same⟩
theorem Stp.new {O : Addr → Prop} {p : Addr} {o : HO} (hp : H p = none) : Stp H F O (upd H p o) F O := Stp.grow (upd_keep hp) (fun _ f => f) fun _ f => .inl f
theorem Stp.newF' {O : Addr → Prop} {p : Addr} {o : HO} (hp : H p = none) : Stp H F O (upd H p o) (withF F p) O :=
  Stp.grow (upd_keep hp) (fun _ f => .inl f) fun a f => f.elim .inl fun z => .inr (z ▸ hp)
/-- data seen ahead of a step -/
theorem RV.step {H' : Hp} {F' O' : Addr → Prop} (I : St G β H F σ ρ L) (t : Stp H F (Own L) H' F' O') {d : D} {v : V} (r : RV G H F d v) : RV G H' F' d v :=
  RV.mono t.imm (fun a u f => t.keep a u (I.notF f)) t.mono d v r
theorem RVs.step {H' : Hp} {F' O' : Addr → Prop} (I : St G β H F σ ρ L) (t : Stp H F (Own L) H' F' O') {d : List D} {v : List V} (r : RVs G H F d v) : RVs G H' F' d v :=
  RVs.mono t.imm (fun a u f => t.keep a u (I.notF f)) t.mono d v r
end
end Ev
namespace Ev
open PySem PySem.Spec PyProof.Rows L2

/-! ## The plain programs and what their ends say -/
inductive R (α : Type) where
  | ok (a : α) (ρ : List Sl) | ex (c : Nat) (l : List D) (ρ : List Sl) | no
abbrev M (α : Type) := List Sl → R α
def bindM {α β : Type} (m : M α) (f : α → M β) : M β := fun ρ => match m ρ with
  | .ok a ρ' => f a ρ'
  | .ex c l ρ' => .ex c l ρ'
  | .no => .no
def retM {α : Type} (a : α) : M α := fun ρ => .ok a ρ
def noM {α : Type} : M α := fun _ => .no
def optM {α : Type} : Option α → M α
  | some a => retM a
  | none => noM

theorem bindM_assoc {α β γ : Type} (m : M α) (f : α → M β) (g : β → M γ) : bindM (bindM m f) g = bindM m fun a => bindM (f a) g := by
  funext ρ
  unfold bindM
  cases m ρ <;> rfl
theorem retM_bind {α β : Type} (a : α) (f : α → M β) : bindM (retM a) f = f a := rfl
/-- an exception's own dict -/
def XR (G : Glb) (H : Hp) (F : Addr → Prop) (c : Nat) (l : List D) (dd : Option Addr) : Prop :=
  (l = [] ∧ dd = none) ∨ ∃ d ys, l ≠ [] ∧ dd = some d ∧ H d = some (.xd ((G.fld c).zip ys)) ∧ RVs G H F l ys

abbrev Bt := Nat → Option V
def Post {α γ : Type} (G : Glb) (β : Bt) (W : WX) (Rel : Hp → (Addr → Prop) → α → γ → Prop) (σ : L2.St) (H : Hp) (F : Addr → Prop) (O : Addr → Prop) (Q : γ → Hp → Prop) : R α → Prop
  | .ok a ρ' => ∀ c H' F' L', St G β H' F' σ ρ' L' → Rel H' F' a c → Stp H F O H' F' (Own L') → Q c H'
  | .ex c l ρ' => ∀ H' F' L' dd, St G β H' F' σ ρ' L' → XR G H' F' c l dd → Stp H F O H' F' (Own L') → W (.ref (G.cls c)) dd σ H'
  | .no => False
def tG {α γ : Type} (G : Glb) (β : Bt) (W : WX) (Rel : Hp → (Addr → Prop) → α → γ → Prop) (m : M α) : L2.St → Hp → (γ → Hp → Prop) → Prop := fun σ H Q =>
  ∃ F ρ L, St G β H F σ ρ L ∧ Post G β W Rel σ H F (Own L) Q (m ρ)
abbrev tE (G : Glb) (β : Bt) (W : WX) (m : M D) : TE := tG G β W (RV G) m
abbrev tT (G : Glb) (β : Bt) (W : WX) (m : M Bool) : TT := tG G β W (fun _ _ a c => c = a) m
abbrev tAs (G : Glb) (β : Bt) (W : WX) (m : M (List D)) : TA := tG G β W (RVs G) m

section
variable {G : Glb} {β : Bt} {W : WX} {σ : L2.St} {H H' : Hp} {F F' : Addr → Prop} {ρ ρ' : List Sl} {L L' : Nat → List Addr} {α γ α' γ' : Type}
  {Rel : Hp → (Addr → Prop) → α → γ → Prop} {Rel' : Hp → (Addr → Prop) → α' → γ' → Prop}
theorem Post.trans {O O' : Addr → Prop} {Q : γ → Hp → Prop} {r : R α} (t : Stp H F O H' F' O') (h : Post G β W Rel σ H F O Q r) : Post G β W Rel σ H' F' O' Q r := by
  cases r with
  | ok a ρ' => exact fun c H2 F2 L2 I r q => h c H2 F2 L2 I r (t.trans q)
  | ex c l ρ' => exact fun H2 F2 L2 dd I r q => h H2 F2 L2 dd I r (t.trans q)
  | no => exact h
theorem Post.imp {O : Addr → Prop} {Q Q' : γ → Hp → Prop} {r : R α} (h : Post G β W Rel σ H F O Q r) (k : ∀ c H, Q c H → Q' c H) : Post G β W Rel σ H F O Q' r := by
  cases r with
  | ok a ρ' => exact fun c H2 F2 L2 I r q => k _ _ (h c H2 F2 L2 I r q)
  | ex c l ρ' => exact h
  | no => exact h
/-- one after the other -/
theorem tG_bind {m : M α} {f : α → M α'} {Q : γ' → Hp → Prop} {K : γ → Hp → Prop} (I : St G β H F σ ρ L) (h : Post G β W Rel' σ H F (Own L) Q (bindM m f ρ))
    (k : ∀ a ρ1 c H1 F1 L1, St G β H1 F1 σ ρ1 L1 → Rel H1 F1 a c → Stp H F (Own L) H1 F1 (Own L1) → Post G β W Rel' σ H1 F1 (Own L1) Q (f a ρ1) → K c H1) : tG G β W Rel m σ H K := by
  refine ⟨F, ρ, L, I, ?_⟩
  unfold bindM at h
  cases e : m ρ with
  | ok a ρ1 =>
    rw [e] at h
    exact fun c H1 F1 L1 I1 r t => k a ρ1 c H1 F1 L1 I1 r t (h.trans t)
  | ex c l ρ1 =>
    rw [e] at h
    exact h
  | no =>
    rw [e] at h
    exact h
theorem St.noteF (I : St G β H F σ ρ L) {a : Addr} (f : F a) : ∃ u, H a = some u := I.aF a f

/-! ## Operands: worked out at once, or read where the operation stands -/
inductive Opd where
  | ev (m : M D) | pk (i : Nat)
def pkD (ρ : List Sl) (i : Nat) : Option D := match ρ[i]? with
  | some (.sh d) => some d
  | some (.ow d) => some d
  | some (.io d) => some d
  | _ => none
def RW (G : Glb) (H : Hp) (F : Addr → Prop) (d : D) (v : V) : Prop := RV G H F d v ∨ ∃ a, v = .ref a ∧ RO G H F d a
def tO (G : Glb) (β : Bt) (W : WX) : Opd → TE
  | .ev m => tE G β W m
  | .pk i => tVar i
def o1 : Opd → M (Option D)
  | .ev m => bindM m fun d => retM (some d)
  | .pk i => fun ρ => match pkD ρ i with | some _ => .ok none ρ | none => .no
def o2 (ρ : List Sl) : Opd → Option D → Option D
  | .ev _, x => x
  | .pk i, _ => pkD ρ i
def OW (G : Glb) (H : Hp) (F : Addr → Prop) (σ : L2.St) : Opd → Option D → V → Prop
  | .ev _, x, v => ∃ d, x = some d ∧ RV G H F d v
  | .pk i, _, v => σ[i]? = some (some v)
theorem getD_some {σ : L2.St} {i : Nat} {v : V} (h : σ.getD i none = some v) : σ[i]? = some (some v) := by
  rw [List.getD_eq_getElem?_getD] at h
  cases e : σ[i]? with
  | none => rw [e] at h; cases h
  | some o => rw [e] at h; simp at h; rw [h]
theorem some_getD {σ : L2.St} {i : Nat} {v : V} (h : σ[i]? = some (some v)) : σ.getD i none = some v := by
  rw [List.getD_eq_getElem?_getD, h]; rfl
theorem St.pk (I : St G β H F σ ρ L) {i : Nat} {d : D} (h : pkD ρ i = some d) : ∃ v, σ[i]? = some (some v) ∧ RW G H F d v := by
  unfold pkD at h
  cases e : ρ[i]? with
  | none => rw [e] at h; cases h
  | some s =>
    rw [e] at h
    have q := I.slot i s e
    cases s with
    | emp => cases h
    | sh d' =>
      cases h
      obtain ⟨_, v, e2, r⟩ := q
      exact ⟨v, getD_some e2, .inl r⟩
    | ow d' =>
      cases h
      obtain ⟨a, _, e2, r⟩ := q
      exact ⟨_, getD_some e2, .inr ⟨a, rfl, r⟩⟩
    | io d' =>
      cases h
      obtain ⟨a, _, e2, r⟩ := q
      exact ⟨_, getD_some e2, .inr ⟨a, rfl, r⟩⟩
    | tr d' => cases h
theorem OW.step {O' : Addr → Prop} {o : Opd} {x : Option D} {v : V} (I : St G β H F σ ρ L) (t : Stp H F (Own L) H' F' O') (w : OW G H F σ o x v) : OW G H' F' σ o x v := by
  cases o with
  | ev m => obtain ⟨d, e, r⟩ := w; exact ⟨d, e, RV.step I t r⟩
  | pk i => exact w
theorem OW.late {o : Opd} {x : Option D} {v : V} {d : D} (I : St G β H F σ ρ L) (w : OW G H F σ o x v) (h : o2 ρ o x = some d) : RW G H F d v := by
  cases o with
  | ev m =>
    obtain ⟨d', e, r⟩ := w
    unfold o2 at h
    rw [e] at h; cases h
    exact .inl r
  | pk i =>
    unfold o2 at h
    obtain ⟨v', e, r⟩ := I.pk h
    unfold OW at w
    rw [w] at e; cases e
    exact r
theorem tO_bind {o : Opd} {f : Option D → M α'} {Q : γ' → Hp → Prop} {K : V → Hp → Prop} (I : St G β H F σ ρ L) (h : Post G β W Rel' σ H F (Own L) Q (bindM (o1 o) f ρ))
    (k : ∀ x ρ1 v H1 F1 L1, St G β H1 F1 σ ρ1 L1 → OW G H1 F1 σ o x v → Stp H F (Own L) H1 F1 (Own L1) → Post G β W Rel' σ H1 F1 (Own L1) Q (f x ρ1) → K v H1) : tO G β W o σ H K := by
  cases o with
  | ev m =>
    show tG G β W (RV G) m σ H K
    have h' : Post G β W Rel' σ H F (Own L) Q (bindM (bindM m fun d => retM (some d)) f ρ) := h
    rw [bindM_assoc] at h'
    exact tG_bind (f := fun d => f (some d)) I h' fun a ρ1 c H1 F1 L1 I1 r t h1 => k (some a) ρ1 c H1 F1 L1 I1 ⟨a, rfl, r⟩ t h1
  | pk i =>
    unfold bindM o1 at h
    dsimp only at h
    cases e : pkD ρ i with
    | none => rw [e] at h; exact h.elim
    | some d =>
      rw [e] at h
      obtain ⟨v, e2, _⟩ := I.pk e
      exact ⟨v, e2, k none ρ v H F L I e2 (Stp.refl _ _ _) h⟩

/-- what a rule may leave: all stands, something new may be there -/
structure Ext (H : Hp) (F : Addr → Prop) (H' : Hp) (F' : Addr → Prop) : Prop where
  keep : ∀ a u, H a = some u → H' a = some u
  mono : ∀ a, F a → F' a
  new : ∀ a, F' a → F a ∨ H a = none
  al : (∀ a, F a → ∃ u, H a = some u) → ∀ a, F' a → ∃ u, H' a = some u
theorem Ext.refl (H : Hp) (F : Addr → Prop) : Ext H F H F := ⟨fun _ _ e => e, fun _ f => f, fun _ f => .inl f, fun z => z⟩
theorem Ext.one {p : Addr} {o : HO} (hp : H p = none) : Ext H F (upd H p o) F := ⟨upd_keep hp, fun _ f => f, fun _ f => .inl f, fun z a f => let ⟨u, e⟩ := z a f; ⟨u, upd_keep hp a u e⟩⟩
theorem Ext.oneF {p : Addr} {o : HO} (hp : H p = none) : Ext H F (upd H p o) (withF F p) :=
  ⟨upd_keep hp, fun _ f => .inl f, fun a f => f.elim .inl fun z => .inr (z ▸ hp), fun z a f => f.elim (fun f => let ⟨u, e⟩ := z a f; ⟨u, upd_keep hp a u e⟩) fun z => ⟨o, by rw [z, upd_same]⟩⟩
theorem Ext.trans {H'' : Hp} {F'' : Addr → Prop} (a : Ext H F H' F') (b : Ext H' F' H'' F'') : Ext H F H'' F'' :=
  ⟨fun x u e => b.keep x u (a.keep x u e), fun x f => b.mono x (a.mono x f), fun x f => (b.new x f).elim (a.new x) (fun n => by
    cases e : H x with
    | none => exact .inr rfl
    | some u => rw [a.keep x u e] at n; cases n), fun z => b.al (a.al z)⟩
theorem St.ext (I : St G β H F σ ρ L) (x : Ext H F H' F') : St G β H' F' σ ρ L := I.grow x.keep x.mono x.new (x.al I.aF)
theorem Stp.ext {O : Addr → Prop} (x : Ext H F H' F') : Stp H F O H' F' O := Stp.grow x.keep x.mono x.new
theorem RV.ext (x : Ext H F H' F') {d : D} {v : V} (r : RV G H F d v) : RV G H' F' d v := RV.mono (fun a u _ => x.keep a u) (fun a u _ => x.keep a u) x.mono d v r
theorem RVs.ext (x : Ext H F H' F') {d : List D} {v : List V} (r : RVs G H F d v) : RVs G H' F' d v := RVs.mono (fun a u _ => x.keep a u) (fun a u _ => x.keep a u) x.mono d v r

/-! ## Operations of two -/
def Ok2 (G : Glb) (r : R2) (g : D → D → Option D) : Prop := ∀ (x y : V) (dx dy d : D) (H : Hp) (F : Addr → Prop) (Q : VK), RW G H F dx x → RW G H F dy y → g dx dy = some d →
  (∀ v H' F', Ext H F H' F' → RV G H' F' d v → Q v H') → r x y H Q
def fin2 (g : D → D → Option D) (oa ob : Opd) (x y : Option D) : M D := fun ρ => match o2 ρ oa x, o2 ρ ob y with
  | some dx, some dy => (match g dx dy with | some d => .ok d ρ | none => .no)
  | _, _ => .no
def mOp2 (g : D → D → Option D) (oa ob : Opd) : M D := bindM (o1 oa) fun x => bindM (o1 ob) fun y => fin2 g oa ob x y
theorem op2_imp {r : R2} {g : D → D → Option D} {oa ob : Opd} {Q : VK} (ok : Ok2 G r g) (h : tE G β W (mOp2 g oa ob) σ H Q) : tOp r (tO G β W oa) (tO G β W ob) σ H Q := by
  obtain ⟨F, ρ, L, I, h⟩ := h
  refine tO_bind I h fun x ρ1 v H1 F1 L1 I1 w1 t1 h1 => ?_
  refine tO_bind I1 h1 fun y ρ2 u H2 F2 L2 I2 w2 t2 h2 => ?_
  unfold fin2 at h2
  cases e1 : o2 ρ2 oa x with
  | none => rw [e1] at h2; exact h2.elim
  | some dx =>
    cases e2 : o2 ρ2 ob y with
    | none => rw [e1, e2] at h2; exact h2.elim
    | some dy =>
      cases e3 : g dx dy with
      | none => rw [e1, e2] at h2; dsimp only at h2; rw [e3] at h2; exact h2.elim
      | some d =>
        rw [e1, e2] at h2; dsimp only at h2; rw [e3] at h2
        exact ok v u dx dy d H2 F2 Q ((w1.step I1 t2).late I2 e1) (w2.late I2 e2) e3 fun v' H' F' x r => h2 v' H' F' L2 (I2.ext x) r (Stp.ext x)

/-! ## Lists of operands -/
def tOs (G : Glb) (β : Bt) (W : WX) : List Opd → TA
  | [] => tNil
  | o :: os => tCons (tO G β W o) (tOs G β W os)
def oL1 : List Opd → M (List (Option D))
  | [] => retM []
  | o :: os => bindM (o1 o) fun x => bindM (oL1 os) fun xs => retM (x :: xs)
def oL2 (ρ : List Sl) : List Opd → List (Option D) → Option (List D)
  | [], _ => some []
  | o :: os, x :: xs => (match o2 ρ o x, oL2 ρ os xs with | some d, some ds => some (d :: ds) | _, _ => none)
  | _ :: _, [] => none
def OWs (G : Glb) (H : Hp) (F : Addr → Prop) (σ : L2.St) : List Opd → List (Option D) → List V → Prop
  | [], _, vs => vs = []
  | o :: os, x :: xs, v :: vs => OW G H F σ o x v ∧ OWs G H F σ os xs vs
  | _, _, _ => False
def RWs (G : Glb) (H : Hp) (F : Addr → Prop) : List D → List V → Prop
  | [], vs => vs = []
  | d :: ds, v :: vs => RW G H F d v ∧ RWs G H F ds vs
  | _, _ => False
theorem OWs.step {O' : Addr → Prop} (I : St G β H F σ ρ L) (t : Stp H F (Own L) H' F' O') : ∀ {os : List Opd} {xs : List (Option D)} {vs : List V}, OWs G H F σ os xs vs → OWs G H' F' σ os xs vs
  | [], _, _, w => w
  | _ :: _, _ :: _, _ :: _, w => ⟨w.1.step I t, OWs.step I t w.2⟩
  | _ :: _, [], _, w => w.elim
  | _ :: _, _ :: _, [], w => w.elim
theorem OWs.late (I : St G β H F σ ρ L) : ∀ {os : List Opd} {xs : List (Option D)} {vs : List V} {ds : List D}, OWs G H F σ os xs vs → oL2 ρ os xs = some ds → RWs G H F ds vs
  | [], _, _, _, w, e => by unfold oL2 at e; cases e; exact w
  | o :: os, x :: xs, v :: vs, ds, w, e => by
    unfold oL2 at e
    cases e1 : o2 ρ o x with
    | none => rw [e1] at e; cases e
    | some d =>
      cases e2 : oL2 ρ os xs with
      | none => rw [e1, e2] at e; cases e
      | some ds' =>
        rw [e1, e2] at e; cases e
        exact ⟨w.1.late I e1, OWs.late I w.2 e2⟩
  | _ :: _, [], _, _, w, _ => w.elim
  | _ :: _, _ :: _, [], _, w, _ => w.elim
theorem RWs.of : ∀ {ds : List D} {vs : List V}, RVs G H F ds vs → RWs G H F ds vs
  | [], _, h => by unfold RVs at h; exact h
  | d :: ds, vs, h => by
    unfold RVs at h
    obtain ⟨y, ys, rfl, r, rs⟩ := h
    exact ⟨.inl r, RWs.of rs⟩
theorem tOs_bind : ∀ {os : List Opd} {f : List (Option D) → M α'} {Q : γ' → Hp → Prop} {K : List V → Hp → Prop} {H : Hp} {F : Addr → Prop} {ρ : List Sl} {L : Nat → List Addr}, St G β H F σ ρ L → Post G β W Rel' σ H F (Own L) Q (bindM (oL1 os) f ρ) →
    (∀ xs ρ1 vs H1 F1 L1, St G β H1 F1 σ ρ1 L1 → OWs G H1 F1 σ os xs vs → Stp H F (Own L) H1 F1 (Own L1) → Post G β W Rel' σ H1 F1 (Own L1) Q (f xs ρ1) → K vs H1) → tOs G β W os σ H K
  | [], f, Q, K, H, F, ρ, L, I, h, k => k [] ρ [] H F L I rfl (Stp.refl _ _ _) h
  | o :: os, f, Q, K, H, F, ρ, L, I, h, k => by
    show tO G β W o σ H fun x H1 => tOs G β W os σ H1 fun xs H2 => K (x :: xs) H2
    have h' : Post G β W Rel' σ H F (Own L) Q (bindM (o1 o) (fun x => bindM (oL1 os) fun xs => f (x :: xs)) ρ) := by
      have e : bindM (oL1 (o :: os)) f = bindM (o1 o) (fun x => bindM (oL1 os) fun xs => f (x :: xs)) := by
        show bindM (bindM (o1 o) fun x => bindM (oL1 os) fun xs => retM (x :: xs)) f = _
        rw [bindM_assoc]
        congr 1
        funext x
        rw [bindM_assoc]
        rfl
      rw [e] at h
      exact h
    refine tO_bind I h' fun x ρ1 v H1 F1 L1 I1 w1 t1 h1 => ?_
    refine tOs_bind I1 h1 fun xs ρ2 vs H2 F2 L2 I2 w2 t2 h2 => ?_
    exact k (x :: xs) ρ2 (v :: vs) H2 F2 L2 I2 ⟨w1.step I1 t2, w2⟩ (t1.trans t2) h2

def OkN (G : Glb) (r : List V → Hp → VK → Prop) (g : List D → Option D) : Prop := ∀ (xs : List V) (ds : List D) (d : D) (H : Hp) (F : Addr → Prop) (Q : VK), RWs G H F ds xs → g ds = some d →
  (∀ v H' F', Ext H F H' F' → RV G H' F' d v → Q v H') → r xs H Q
def finN (g : List D → Option D) (os : List Opd) (xs : List (Option D)) : M D := fun ρ => match oL2 ρ os xs with
  | some ds => (match g ds with | some d => .ok d ρ | none => .no)
  | none => .no
def mOpN (g : List D → Option D) (os : List Opd) : M D := bindM (oL1 os) fun xs => finN g os xs
theorem opN_imp {r : List V → Hp → VK → Prop} {g : List D → Option D} {os : List Opd} {Q : VK} (ok : OkN G r g) (h : tE G β W (mOpN g os) σ H Q) : tCB r (tOs G β W os) σ H Q := by
  obtain ⟨F, ρ, L, I, h⟩ := h
  refine tOs_bind I h fun xs ρ1 vs H1 F1 L1 I1 w1 t1 h1 => ?_
  unfold finN at h1
  cases e1 : oL2 ρ1 os xs with
  | none => rw [e1] at h1; exact h1.elim
  | some ds =>
    cases e3 : g ds with
    | none => rw [e1] at h1; dsimp only at h1; rw [e3] at h1; exact h1.elim
    | some d =>
      rw [e1] at h1; dsimp only at h1; rw [e3] at h1
      exact ok vs ds d H1 F1 Q (w1.late I1 e1) e3 fun v' H' F' x r => h1 v' H' F' L1 (I1.ext x) r (Stp.ext x)
end
end Ev
namespace Ev
open PySem PySem.Spec PyProof.Rows L2

/-! ## What is done with data -/
abbrev LIM : Nat := 16777216
theorem LIM_eq : (sizeLine : Nat) = LIM := sizeLine_eq
section
variable {G : Glb} {H H' : Hp} {F F' : Addr → Prop}
theorem RW.int {i : Int} {v : V} (h : RW G H F (.int i) v) : v = .int i := by
  rcases h with h | ⟨a, _, r⟩
  · unfold RV at h; exact h
  · exact r.elim
theorem RW.bl {i : Bool} {v : V} (h : RW G H F (.bl i) v) : v = .bl i := by
  rcases h with h | ⟨a, _, r⟩
  · unfold RV at h; exact h
  · exact r.elim
theorem RW.str {i : Str} {v : V} (h : RW G H F (.str i) v) : v = .str i := by
  rcases h with h | ⟨a, _, r⟩
  · unfold RV at h; exact h
  · exact r.elim
theorem RW.non {v : V} (h : RW G H F .non v) : v = .non := by
  rcases h with h | ⟨a, _, r⟩
  · unfold RV at h; exact h
  · exact r.elim
theorem RW.lst {l : List D} {v : V} (h : RW G H F (.lst l) v) : ∃ a xs, v = .ref a ∧ H a = some (.lst xs) ∧ RVs G H F l xs := by
  rcases h with h | ⟨a, e, xs, q, r⟩
  · unfold RV at h
    obtain ⟨a, xs, e, f, q, r⟩ := h
    exact ⟨a, xs, e, q, r⟩
  · exact ⟨a, xs, e, q, r⟩
theorem RW.tup {l : List D} {v : V} (h : RW G H F (.tup l) v) : ∃ a xs, v = .ref a ∧ H a = some (.tup xs) ∧ RVs G H F l xs := by
  rcases h with h | ⟨a, e, r⟩
  · unfold RV at h; exact h
  · exact r.elim
theorem RW.dk {k : List Key} {l : List D} {v : V} (h : RW G H F (.dk k l) v) : ∃ a xs, v = .ref a ∧ Rd H a (.dK (k.zip xs)) ∧ k.length = xs.length ∧ RVs G H F l xs := by
  rcases h with h | ⟨a, e, xs, q, z, r⟩
  · unfold RV at h
    obtain ⟨a, xs, e, f, q, z, r⟩ := h
    exact ⟨a, xs, e, q, z, r⟩
  · exact ⟨a, xs, e, .inl q, z, r⟩
theorem RW.dt {k : List (List Key)} {l : List D} {v : V} (h : RW G H F (.dt k l) v) : ∃ a xs, v = .ref a ∧ Rd H a (.dT (k.zip xs)) ∧ k.length = xs.length ∧ RVs G H F l xs := by
  rcases h with h | ⟨a, e, xs, q, z, r⟩
  · unfold RV at h
    obtain ⟨a, xs, e, f, q, z, r⟩ := h
    exact ⟨a, xs, e, q, z, r⟩
  · exact ⟨a, xs, e, .inl q, z, r⟩
theorem RW.scr {l : List Int} {v : V} (h : RW G H F (.scr l) v) : ∃ a, v = .ref a ∧ ScrAt G.K H a l := by
  rcases h with h | ⟨a, e, r⟩
  · unfold RV at h; exact h
  · exact r.elim
theorem RV.int (i : Int) : RV G H F (.int i) (.int i) := by unfold RV; rfl
theorem RV.bl (i : Bool) : RV G H F (.bl i) (.bl i) := by unfold RV; rfl
theorem RV.str (i : Str) : RV G H F (.str i) (.str i) := by unfold RV; rfl
theorem RV.non : RV G H F .non .non := by unfold RV; rfl
theorem RV.tup {l : List D} {a : Addr} {xs : List V} (e : H a = some (.tup xs)) (r : RVs G H F l xs) : RV G H F (.tup l) (.ref a) := by
  unfold RV; exact ⟨a, xs, rfl, e, r⟩
theorem RV.lst {l : List D} {a : Addr} {xs : List V} (f : F a) (e : H a = some (.lst xs)) (r : RVs G H F l xs) : RV G H F (.lst l) (.ref a) := by
  unfold RV; exact ⟨a, xs, rfl, f, e, r⟩
/-- a new tuple of data -/
theorem new_tup {l : List D} {xs : List V} {p : Addr} {Q : VK} (hp : H p = none) (r : RVs G H F l xs) (q : ∀ v H' F', Ext H F H' F' → RV G H' F' (.tup l) v → Q v H') : Q (.ref p) (upd H p (.tup xs)) :=
  q _ _ F (Ext.one hp) (RV.tup upd_same (RVs.ext (Ext.one hp) r))
/-- a new list of data, shared from now on -/
theorem new_lst {l : List D} {xs : List V} {p : Addr} {Q : VK} (hp : H p = none) (r : RVs G H F l xs) (q : ∀ v H' F', Ext H F H' F' → RV G H' F' (.lst l) v → Q v H') : Q (.ref p) (upd H p (.lst xs)) :=
  q _ _ (withF F p) (Ext.oneF hp) (RV.lst (.inr rfl) upd_same (RVs.ext (Ext.oneF hp) r))
theorem done {d : D} {v : V} {Q : VK} (r : RV G H F d v) (q : ∀ v H' F', Ext H F H' F' → RV G H' F' d v → Q v H') : Q v H := q v H F (Ext.refl _ _) r
end

/-- an operation of data that lays a new list -/
def OkA2 (G : Glb) (r : R2) (g : D → D → Option D) : Prop := ∀ (x y : V) (dx dy d : D) (H : Hp) (F : Addr → Prop) (Q : VK), RW G H F dx x → RW G H F dy y → g dx dy = some d →
  (∀ p xs l, H p = none → d = .lst l → RVs G H F l xs → Q (.ref p) (upd H p (.lst xs))) → r x y H Q
theorem OkA2.ok {G : Glb} {r : R2} {g : D → D → Option D} (h : OkA2 G r g) : Ok2 G r g := fun x y dx dy d H F Q hx hy e q =>
  h x y dx dy d H F Q hx hy e fun p xs l hp ed rs => by subst ed; exact new_lst hp rs q
theorem Ok2.or {G : Glb} {r r' : R2} {g : D → D → Option D} (h : ∀ (x y : V) (dx dy d : D) (H : Hp) (F : Addr → Prop) (Q : VK), RW G H F dx x → RW G H F dy y → g dx dy = some d →
  (∀ v H' F', Ext H F H' F' → RV G H' F' d v → Q v H') → r x y H Q ∨ r' x y H Q) : Ok2 G (fun x y H Q => r x y H Q ∨ r' x y H Q) g := h

/-! ### + - * // % ** -/
def dAdd : D → D → Option D
  | .int i, .int j => some (.int (i + j))
  | .int i, .bl k => some (.int (i + b2i k))
  | .str a, .str b => if a.length + b.length ≤ LIM then some (.str (a ++ b)) else none
  | .tup a, .tup b => if a.length + b.length ≤ LIM then some (.tup (a ++ b)) else none
  | .lst a, .lst b => if a.length + b.length ≤ LIM then some (.lst (a ++ b)) else none
  | _, _ => none
def rAdd5 (K : PySem.W.Frag) : R2 := fun x y H Q => (∃ i j, x = .int i ∧ y = .int j ∧ Q (.int (i + j)) H) ∨ (∃ i k, x = .int i ∧ y = .bl k ∧ Q (.int (i + b2i k)) H) ∨
  (∃ i j, x = .str i ∧ y = .str j ∧ i.length + j.length ≤ sizeLine ∧ Q (.str (i ++ j)) H) ∨ rCatA K x y H Q ∨ rCat x y H Q
theorem op_add5 {X : Cx} : OpR X (binaryOp .Add) (rAdd5 X.K) := OpR.or op_add (OpR.or op_add_ib (OpR.or op_add_str (OpR.or op_catA op_cat)))
theorem ok_add (G : Glb) (K : PySem.W.Frag) : Ok2 G (rAdd5 K) dAdd := by
  intro x y dx dy d H F Q hx hy e q
  unfold dAdd at e
  split at e
  · cases e
    exact .inl ⟨_, _, hx.int, hy.int, done (.int _) q⟩
  · cases e
    exact .inr (.inl ⟨_, _, hx.int, hy.bl, done (.int _) q⟩)
  · split at e
    · cases e
      exact .inr (.inr (.inl ⟨_, _, hx.str, hy.str, by rw [LIM_eq]; assumption, done (.str _) q⟩))
    · cases e
  · split at e
    · cases e
      obtain ⟨p, xs, rfl, hp, rx⟩ := hx.tup
      obtain ⟨p', ys, rfl, hp', ry⟩ := hy.tup
      have el := rx.len
      have el' := ry.len
      have er := RVs.append rx ry
      refine .inr (.inr (.inr (.inl ⟨p, p', xs, ys, rfl, rfl, SqT.of hp, SqT.of hp', by rw [LIM_eq]; omega, fun z => ?_, fun _ z => ?_, fun _ _ t ht => new_tup ht er q⟩)))
      · subst z
        exact done (RV.tup hp' er) q
      · subst z
        exact done (RV.tup hp (by rw [List.append_nil] at er; exact er)) q
    · cases e
  · split at e
    · cases e
      obtain ⟨p, xs, rfl, hp, rx⟩ := hx.lst
      obtain ⟨p', ys, rfl, hp', ry⟩ := hy.lst
      have el := rx.len
      have el' := ry.len
      exact .inr (.inr (.inr (.inr ⟨p, p', xs, ys, rfl, rfl, hp, hp', by rw [LIM_eq]; omega, fun t ht => new_lst ht (RVs.append rx ry) q⟩)))
    · cases e
  · cases e
def dAddL : D → D → Option D
  | .lst a, .lst b => if a.length + b.length ≤ LIM then some (.lst (a ++ b)) else none
  | _, _ => none
theorem ok_addL (G : Glb) : OkA2 G rCat dAddL := by
  intro x y dx dy d H F Q hx hy e q
  unfold dAddL at e
  split at e
  · split at e
    · cases e
      obtain ⟨p, xs, rfl, hp, rx⟩ := hx.lst
      obtain ⟨p', ys, rfl, hp', ry⟩ := hy.lst
      have el := rx.len
      have el' := ry.len
      exact ⟨p, p', xs, ys, rfl, rfl, hp, hp', by rw [LIM_eq]; omega, fun t ht => q t _ _ ht rfl (RVs.append rx ry)⟩
    · cases e
  · cases e
def dSub : D → D → Option D
  | .int i, .int j => some (.int (i - j))
  | _, _ => none
theorem ok_sub (G : Glb) : Ok2 G (rI0 fun i j => .int (i - j)) dSub := by
  intro x y dx dy d H F Q hx hy e q
  unfold dSub at e
  split at e
  · cases e
    exact ⟨_, _, hx.int, hy.int, done (.int _) q⟩
  · cases e
def dMul : D → D → Option D
  | .int i, .int j => if i.natAbs.log2 + j.natAbs.log2 < 1000000 then some (.int (i * j)) else none
  | .lst l, .int k => if 0 ≤ k ∧ k ≤ 1000 ∧ l.length ≤ 1000 then some (.lst (List.replicate k.toNat l).flatten) else none
  | .tup l, .int k => if 2 ≤ k ∧ k ≤ 1000 ∧ l.length ≤ 1000 ∧ l.isEmpty = false then some (.tup (List.replicate k.toNat l).flatten) else none
  | _, _ => none
theorem RVs.rep {G : Glb} {H : Hp} {F : Addr → Prop} {l : List D} {xs : List V} (r : RVs G H F l xs) : ∀ n : Nat, RVs G H F (List.replicate n l).flatten (List.replicate n xs).flatten
  | 0 => RVs.nil
  | n + 1 => by
    rw [List.replicate_succ, List.replicate_succ, List.flatten_cons, List.flatten_cons]
    exact RVs.append r (RVs.rep r n)
theorem rep_size {n : Nat} {k : Int} (h1 : n ≤ 1000) (h2 : k ≤ 1000) : n * k.toNat ≤ sizeLine := by
  rw [LIM_eq]
  have z2 : k.toNat ≤ 1000 := by omega
  exact Nat.le_trans (Nat.mul_le_mul h1 z2) (by decide)
def rMul3 (K : PySem.W.Frag) : R2 := fun x y H Q => rI CMulW (fun i j => .int (i * j)) x y H Q ∨ rRep x y H Q ∨ rRepT K x y H Q
theorem op_mul3 {X : Cx} : OpR X (binaryOp .Mult) (rMul3 X.K) := OpR.or op_mulW (OpR.or op_rep op_repT)
theorem ok_mul (G : Glb) (K : PySem.W.Frag) : Ok2 G (rMul3 K) dMul := by
  intro x y dx dy d H F Q hx hy e q
  unfold dMul at e
  split at e
  · split at e
    · cases e
      exact .inl ⟨_, _, hx.int, hy.int, by assumption, done (.int _) q⟩
    · cases e
  · split at e
    · rename_i h
      cases e
      obtain ⟨p, xs, rfl, hp, rx⟩ := hx.lst
      have el := rx.len
      obtain ⟨h1, h2, h3⟩ := h
      refine .inr (.inl ⟨p, _, xs, rfl, hy.int, hp, by omega, by omega, ?_, fun t ht => new_lst ht (RVs.rep rx _) q⟩)
      exact rep_size (by omega) h2
    · cases e
  · split at e
    · rename_i h
      cases e
      obtain ⟨p, xs, rfl, hp, rx⟩ := hx.tup
      have el := rx.len
      obtain ⟨h1, h2, h3, h4⟩ := h
      refine .inr (.inr ⟨p, _, xs, rfl, hy.int, SqT.of hp, fun z => ?_, h1, h2, by omega, fun t ht => new_tup ht (RVs.rep rx _) q⟩)
      subst z
      have z : _ = 0 := el
      rw [List.length_eq_zero_iff] at z
      subst z
      cases h4
    · cases e
  · cases e
def dMod : D → D → Option D
  | .int i, .int j => if 0 < j then some (.int (i % j)) else none
  | _, _ => none
theorem ok_mod (G : Glb) : Ok2 G (rI (fun _ j => 0 < j) fun i j => .int (i % j)) dMod := by
  intro x y dx dy d H F Q hx hy e q
  unfold dMod at e
  split at e
  · split at e
    · cases e
      exact ⟨_, _, hx.int, hy.int, by assumption, done (.int _) q⟩
    · cases e
  · cases e
def dDiv : D → D → Option D
  | .int i, .int j => if 0 < j ∧ j.natAbs.log2 < 9000 then some (.int (i / j)) else none
  | _, _ => none
theorem ok_div (G : Glb) : Ok2 G (rI CDivW fun i j => .int (i / j)) dDiv := by
  intro x y dx dy d H F Q hx hy e q
  unfold dDiv at e
  split at e
  · split at e
    · cases e
      exact ⟨_, _, hx.int, hy.int, by assumption, done (.int _) q⟩
    · cases e
  · cases e
def dPow : D → D → Option D
  | .int i, .int j => if 0 ≤ j ∧ j ≤ 1000000 ∧ i.natAbs < 2 ^ 64 then some (.int (i ^ j.toNat)) else none
  | _, _ => none
theorem ok_pow (G : Glb) : Ok2 G (rI CPow fun i j => .int (i ^ j.toNat)) dPow := by
  intro x y dx dy d H F Q hx hy e q
  unfold dPow at e
  split at e
  · split at e
    · cases e
      exact ⟨_, _, hx.int, hy.int, by assumption, done (.int _) q⟩
    · cases e
  · cases e

/-! ### comparisons -/
def dLt : D → D → Option D
  | .int i, .int j => some (.bl (decide (i < j)))
  | .str a, .str b => some (.bl (decide (a.cps.toList < b.cps.toList)))
  | _, _ => none
def rLt2 : R2 := fun x y H Q => rI0 (fun i j => .bl (decide (i < j))) x y H Q ∨ ∃ i j, x = .str i ∧ y = .str j ∧ Q (.bl (decide (i.cps.toList < j.cps.toList))) H
theorem op_lt2 {X : Cx} : OpR X (compareOp .Lt) rLt2 := OpR.or op_lt op_lt_str
theorem ok_lt (G : Glb) : Ok2 G rLt2 dLt := by
  intro x y dx dy d H F Q hx hy e q
  unfold dLt at e
  split at e
  · cases e
    exact .inl ⟨_, _, hx.int, hy.int, done (.bl _) q⟩
  · cases e
    exact .inr ⟨_, _, hx.str, hy.str, done (.bl _) q⟩
  · cases e
def dLe : D → D → Option D
  | .int i, .int j => some (.bl (decide (i ≤ j)))
  | _, _ => none
theorem ok_le (G : Glb) : Ok2 G (rI0 fun i j => .bl (decide (i ≤ j))) dLe := by
  intro x y dx dy d H F Q hx hy e q
  unfold dLe at e
  split at e
  · cases e
    exact ⟨_, _, hx.int, hy.int, done (.bl _) q⟩
  · cases e
def dGt : D → D → Option D
  | .int i, .int j => some (.bl (decide (j < i)))
  | _, _ => none
theorem ok_gt (G : Glb) : Ok2 G (rI0 fun i j => .bl (decide (j < i))) dGt := by
  intro x y dx dy d H F Q hx hy e q
  unfold dGt at e
  split at e
  · cases e
    exact ⟨_, _, hx.int, hy.int, done (.bl _) q⟩
  · cases e
def dGe : D → D → Option D
  | .int i, .int j => some (.bl (decide (j ≤ i)))
  | _, _ => none
theorem ok_ge (G : Glb) : Ok2 G (rI0 fun i j => .bl (decide (j ≤ i))) dGe := by
  intro x y dx dy d H F Q hx hy e q
  unfold dGe at e
  split at e
  · cases e
    exact ⟨_, _, hx.int, hy.int, done (.bl _) q⟩
  · cases e
mutual
/-- the library's data, of those that are compared -/
def D.py : D → PyData
  | .non => .none
  | .bl b => .bool b
  | .int i => .int i
  | .str x => .str x
  | .tup l => .tuple (D.pys l)
  | .lst l => .list (D.pys l)
  | _ => .dict []
def D.pys : List D → List PyData
  | [] => []
  | d :: l => D.py d :: D.pys l
end
def D.plain (d : D) : Bool := SeqAt.shaped (D.py d)
mutual
theorem dp_of {G : Glb} {K : PySem.W.Frag} {H : Hp} {F : Addr → Prop} : ∀ (d : D) (v : V), RV G H F d v → (D.py d).canLay0 = true → Dp K H v (D.py d)
  | .non, v, h, _ => by unfold RV at h; subst h; exact .non
  | .bl b, v, h, _ => by unfold RV at h; subst h; exact .bl b
  | .int b, v, h, _ => by unfold RV at h; subst h; exact .int b
  | .str b, v, h, _ => by unfold RV at h; subst h; exact .str b
  | .tup l, v, h, c => by
    unfold RV at h
    obtain ⟨a, xs, rfl, q, r⟩ := h
    exact .tup (SqT.of q) (dps_of l xs r (by simpa [D.py, PyData.canLay0] using c))
  | .lst l, v, h, c => by
    unfold RV at h
    obtain ⟨a, xs, rfl, _, q, r⟩ := h
    exact .lst (SqL.of q) (dps_of l xs r (by simpa [D.py, PyData.canLay0] using c))
  | .dk _ _, _, _, c => by simp [D.py, PyData.canLay0] at c
  | .dt _ _, _, _, c => by simp [D.py, PyData.canLay0] at c
  | .fn _, _, _, c => by simp [D.py, PyData.canLay0] at c
  | .ex _ _, _, _, c => by simp [D.py, PyData.canLay0] at c
  | .scr _, _, _, c => by simp [D.py, PyData.canLay0] at c
theorem dps_of {G : Glb} {K : PySem.W.Frag} {H : Hp} {F : Addr → Prop} : ∀ (l : List D) (xs : List V), RVs G H F l xs → PyData.canLayAll0 (D.pys l) = true → DpAll K H xs (D.pys l)
  | [], xs, h, _ => by unfold RVs at h; subst h; exact .nil
  | d :: l, xs, h, c => by
    unfold RVs at h
    obtain ⟨y, ys, rfl, r, rs⟩ := h
    have c' : (D.py d).canLay0 = true ∧ PyData.canLayAll0 (D.pys l) = true := by simpa [D.pys, PyData.canLayAll0] using c
    exact .cons (dp_of d y r c'.1) (dps_of l ys rs c'.2)
end
theorem RW.dp {G : Glb} {K : PySem.W.Frag} {H : Hp} {F : Addr → Prop} {d : D} {v : V} (h : RW G H F d v) (c : D.plain d = true) : Dp K H v (D.py d) := by
  have c' := SeqAt.canLay_of_shaped c
  rcases h with h | ⟨a, rfl, r⟩
  · exact dp_of d v h c'
  · cases d with
    | lst l =>
      obtain ⟨xs, q, r⟩ := r
      exact .lst (SqL.of q) (dps_of l xs r (by simpa [D.py, PyData.canLay0] using c'))
    | dk _ _ => simp [D.py, PyData.canLay0] at c'
    | dt _ _ => simp [D.py, PyData.canLay0] at c'
    | _ => exact r.elim
def dEqB (a b : D) : Bool := PyData.eqv (D.py a) (D.py b)
def dEq (a b : D) : Option D := if D.plain a = true ∧ D.plain b = true then some (.bl (dEqB a b)) else none
def dNe (a b : D) : Option D := if D.plain a = true ∧ D.plain b = true then some (.bl (!dEqB a b)) else none
theorem ok_eq (G : Glb) (K : PySem.W.Frag) : Ok2 G (rEqD K) dEq := by
  intro x y dx dy d H F Q hx hy e q
  unfold dEq at e
  split at e
  · rename_i h
    cases e
    exact ⟨_, _, hx.dp h.1, hy.dp h.2, h.1, h.2, done (.bl _) q⟩
  · cases e
theorem ok_ne (G : Glb) (K : PySem.W.Frag) : Ok2 G (rNeD K) dNe := by
  intro x y dx dy d H F Q hx hy e q
  unfold dNe at e
  split at e
  · rename_i h
    cases e
    exact ⟨_, _, hx.dp h.1, hy.dp h.2, h.1, h.2, done (.bl _) q⟩
  · cases e
def D.isNon : D → Bool
  | .non => true
  | _ => false
theorem RW.isNon {G : Glb} {H : Hp} {F : Addr → Prop} {d : D} {v : V} (h : RW G H F d v) : decide (v = .non) = D.isNon d := by
  rcases h with h | ⟨a, rfl, r⟩
  · cases d <;> unfold RV at h
    case non => subst h; rfl
    case bl => subst h; rfl
    case int => subst h; rfl
    case str => subst h; rfl
    case tup => obtain ⟨a, xs, rfl, _⟩ := h; rfl
    case lst => obtain ⟨a, xs, rfl, _⟩ := h; rfl
    case dk => obtain ⟨a, xs, rfl, _⟩ := h; rfl
    case dt => obtain ⟨a, xs, rfl, _⟩ := h; rfl
    case fn => subst h; rfl
    case ex => obtain ⟨a, φ, od, ys, rfl, _⟩ := h; rfl
    case scr => obtain ⟨a, rfl, _⟩ := h; rfl
  · cases d <;> first | rfl | exact r.elim
def dIs : D → D → Option D
  | a, .non => some (.bl (D.isNon a))
  | _, _ => none
def dIsNot : D → D → Option D
  | a, .non => some (.bl (!D.isNon a))
  | _, _ => none
theorem ok_is (G : Glb) : Ok2 G (fun x y H Q => y = .non ∧ Q (.bl (decide (x = .non))) H) dIs := by
  intro x y dx dy d H F Q hx hy e q
  unfold dIs at e
  split at e
  · cases e
    exact ⟨hy.non, by rw [hx.isNon]; exact done (.bl _) q⟩
  · cases e
theorem ok_isNot (G : Glb) : Ok2 G (fun x y H Q => y = .non ∧ Q (.bl (!decide (x = .non))) H) dIsNot := by
  intro x y dx dy d H F Q hx hy e q
  unfold dIsNot at e
  split at e
  · cases e
    exact ⟨hy.non, by rw [hx.isNon]; exact done (.bl _) q⟩
  · cases e

/-! ### places -/
def dIx : D → D → Option D
  | .lst l, .int i => atI l i
  | .tup l, .int i => atI l i
  | .scr l, .int i => (atI l i).map .int
  | .str z, .int i => if z.length ≤ LIM then (atI z.cps.toList i).map fun c => .str ⟨#[c]⟩ else none
  | _, _ => none
theorem RVs.at {G : Glb} {H : Hp} {F : Addr → Prop} {l : List D} {xs : List V} {i : Int} {d : D} (r : RVs G H F l xs) (e : atI l i = some d) : ∃ v, atI xs i = some v ∧ RV G H F d v := by
  unfold atI at *
  rw [← r.len]
  cases e1 : ixN l.length i with
  | none => rw [e1] at e; cases e
  | some j =>
    rw [e1] at e
    obtain ⟨v, e2, rv⟩ := r.get e
    exact ⟨v, e2, rv⟩
theorem ok_ix (G : Glb) : Ok2 G (rIx G.K) dIx := by
  intro x y dx dy d H F Q hx hy e q
  unfold dIx at e
  split at e
  · obtain ⟨p, xs, rfl, hp, rx⟩ := hx.lst
    obtain ⟨v, ev, rv⟩ := rx.at e
    exact .inl ⟨p, xs, _, v, rfl, hy.int, SqL.of hp, ev, done rv q⟩
  · obtain ⟨p, xs, rfl, hp, rx⟩ := hx.tup
    obtain ⟨v, ev, rv⟩ := rx.at e
    exact .inr (.inl ⟨p, xs, _, v, rfl, hy.int, SqT.of hp, ev, done rv q⟩)
  · rename_i l i
    obtain ⟨p, rfl, hp⟩ := hx.scr
    obtain ⟨n, en, rfl⟩ := Option.map_eq_some_iff.mp e
    refine .inl ⟨p, l.map V.int, _, .int n, rfl, hy.int, hp.seq, ?_, done (.int _) q⟩
    unfold atI at en ⊢
    rw [List.length_map]
    cases e1 : ixN l.length i with
    | none => rw [e1] at en; cases en
    | some j =>
      rw [e1] at en
      show (l.map V.int)[j]? = _
      rw [List.getElem?_map, show l[j]? = some n from en]
      rfl
  · split at e
    · obtain ⟨n, en, rfl⟩ := Option.map_eq_some_iff.mp e
      exact .inr (.inr ⟨_, _, n, hx.str, hy.int, by rw [LIM_eq]; assumption, en, done (.str _) q⟩)
    · cases e
  · cases e

/-! ### built-in functions -/
theorem RWs.one {G : Glb} {H : Hp} {F : Addr → Prop} {d : D} {xs : List V} (h : RWs G H F [d] xs) : ∃ v, xs = [v] ∧ RW G H F d v := by
  match xs, h with
  | [v], h => exact ⟨v, rfl, h.1⟩
  | [], h => exact h.elim
  | _ :: _ :: _, h => exact absurd h.2 (by intro z; cases z)
theorem RWs.two {G : Glb} {H : Hp} {F : Addr → Prop} {d e : D} {xs : List V} (h : RWs G H F [d, e] xs) : ∃ v w, xs = [v, w] ∧ RW G H F d v ∧ RW G H F e w := by
  match xs, h with
  | [v, w], h => exact ⟨v, w, rfl, h.1, h.2.1⟩
  | [], h => exact h.elim
  | [_], h => exact h.2.elim
  | _ :: _ :: _ :: _, h => exact absurd h.2.2 (by intro z; cases z)
def dLen : List D → Option D
  | [.lst l] => some (.int l.length)
  | [.tup l] => some (.int l.length)
  | [.scr l] => some (.int l.length)
  | [.str z] => if z.length ≤ LIM then some (.int z.length) else none
  | _ => none
theorem ok_len (G : Glb) : OkN G (fun xs H Q => ∃ x n, xs = [x] ∧ LenV G.K x H n ∧ Q (.int n) H) dLen := by
  intro xs ds d H F Q hx e q
  unfold dLen at e
  split at e
  · cases e
    obtain ⟨v, rfl, h⟩ := hx.one
    obtain ⟨p, xs, rfl, hp, rx⟩ := h.lst
    exact ⟨_, xs.length, rfl, .inl ⟨xs, SqL.of hp, rfl⟩, by rw [← rx.len]; exact done (.int _) q⟩
  · cases e
    obtain ⟨v, rfl, h⟩ := hx.one
    obtain ⟨p, xs, rfl, hp, rx⟩ := h.tup
    exact ⟨_, xs.length, rfl, .inr ⟨xs, SqT.of hp, rfl⟩, by rw [← rx.len]; exact done (.int _) q⟩
  · cases e
    rename_i l
    obtain ⟨v, rfl, h⟩ := hx.one
    obtain ⟨p, rfl, hp⟩ := h.scr
    exact ⟨_, l.length, rfl, .inl ⟨_, hp.seq, by rw [List.length_map]⟩, done (.int _) q⟩
  · split at e
    · cases e
      obtain ⟨v, rfl, h⟩ := hx.one
      exact ⟨_, _, rfl, by rw [h.str]; exact ⟨by rw [LIM_eq]; assumption, rfl⟩, done (.int _) q⟩
    · cases e
  · cases e
def dAbs : List D → Option D
  | [.int i] => some (.int (if i < 0 then -i else i))
  | _ => none
theorem ok_abs (G : Glb) : OkN G (fun xs H Q => ∃ i, xs = [.int i] ∧ Q (.int (if i < 0 then -i else i)) H) dAbs := by
  intro xs ds d H F Q hx e q
  unfold dAbs at e
  split at e
  · cases e
    obtain ⟨v, rfl, h⟩ := hx.one
    exact ⟨_, by rw [h.int], done (.int _) q⟩
  · cases e
def dMax2 : List D → Option D
  | [.int i, .int j] => some (.int (if j > i then j else i))
  | _ => none
theorem ok_max2 (G : Glb) : OkN G (fun xs H Q => ∃ i j, xs = [.int i, .int j] ∧ Q (.int (if j > i then j else i)) H) dMax2 := by
  intro xs ds d H F Q hx e q
  unfold dMax2 at e
  split at e
  · cases e
    obtain ⟨v, w, rfl, h, h'⟩ := hx.two
    exact ⟨_, _, by rw [h.int, h'.int], done (.int _) q⟩
  · cases e
def dMin2 : List D → Option D
  | [.int i, .int j] => some (.int (if j < i then j else i))
  | _ => none
theorem ok_min2 (G : Glb) : OkN G (fun xs H Q => ∃ i j, xs = [.int i, .int j] ∧ Q (.int (if j < i then j else i)) H) dMin2 := by
  intro xs ds d H F Q hx e q
  unfold dMin2 at e
  split at e
  · cases e
    obtain ⟨v, w, rfl, h, h'⟩ := hx.two
    exact ⟨_, _, by rw [h.int, h'.int], done (.int _) q⟩
  · cases e
def dInt1 : List D → Option D
  | [.int i] => some (.int i)
  | [.bl k] => some (.int (if k then 1 else 0))
  | _ => none
theorem ok_int1 (G : Glb) : OkN G (fun xs H Q => (∃ i, xs = [.int i] ∧ Q (.int i) H) ∨ ∃ k, xs = [.bl k] ∧ Q (.int (if k then 1 else 0)) H) dInt1 := by
  intro xs ds d H F Q hx e q
  unfold dInt1 at e
  split at e
  · cases e
    obtain ⟨v, rfl, h⟩ := hx.one
    exact .inl ⟨_, by rw [h.int], done (.int _) q⟩
  · cases e
    obtain ⟨v, rfl, h⟩ := hx.one
    exact .inr ⟨_, by rw [h.bl], done (.int _) q⟩
  · cases e
end Ev
namespace Ev
open PySem PySem.Spec PyProof.Rows L2

/-! ## Names, operations, tests -/
section
variable {X : Cx} {G : Glb} {β : Bt} {W : WX} {e a b c : Expr} {pos : Pos} {α' γ' : Type}
theorem PE.imp {t t' : TE} (h : PE X e t) (k : ∀ σ H Q, t' σ H Q → t σ H Q) : PE X e t' := ⟨fun pins s σ H Q I q => h.run pins s σ H Q I (k σ H Q q)⟩
theorem PT.imp {t t' : TT} (h : PT X e t) (k : ∀ σ H Q, t' σ H Q → t σ H Q) : PT X e t' := ⟨fun pins s σ H Q I q => h.run pins s σ H Q I (k σ H Q q)⟩
theorem PA.imp {es : List Expr} {t t' : TA} (h : PA X es t) (k : ∀ σ H Q, t' σ H Q → t σ H Q) : PA X es t' := ⟨fun p pins s σ H Q I q => h.run p pins s σ H Q I (k σ H Q q)⟩
theorem PS.imp {st : Stmt} {t t' : TS} (h : PS X st t) (k : ∀ D σ H, t' D σ H → t D σ H) : PS X st t' := ⟨fun pins s σ H D I q => h.run pins s σ H D I (k D σ H q)⟩
theorem PSs.imp {st : List Stmt} {t t' : TS} (h : PSs X st t) (k : ∀ D σ H, t' D σ H → t D σ H) : PSs X st t' := ⟨fun pins s σ H D I q => h.run pins s σ H D I (k D σ H q)⟩

theorem so_ev {m : M D} (h : PE X e (tE G β W m)) : PE X e (tO G β W (.ev m)) := h
theorem so_pk {i : Nat} (h : PE X e (tVar i)) : PE X e (tO G β W (.pk i)) := h

def setL (L : Nat → List Addr) (i : Nat) (l : List Addr) : Nat → List Addr := fun j => if j = i then l else L j
theorem setL_same {L : Nat → List Addr} {i : Nat} {l : List Addr} : setL L i l i = l := if_pos rfl
theorem setL_ne {L : Nat → List Addr} {i j : Nat} {l : List Addr} (h : j ≠ i) : setL L i l j = L j := if_neg h
theorem own_setL {L : Nat → List Addr} {i : Nat} {l : List Addr} {a : Addr} (h : Own (setL L i l) a) : Own L a ∨ a ∈ l := by
  obtain ⟨j, h⟩ := h
  by_cases e : j = i
  · subst e; rw [setL_same] at h; exact .inr h
  · rw [setL_ne e] at h; exact .inl ⟨j, h⟩
section
variable {σ : L2.St} {H H' : Hp} {F F' : Addr → Prop} {ρ : List Sl} {L : Nat → List Addr} {i : Nat}
theorem getD_set_same {σ : L2.St} {o : Option V} (h : i < σ.length) : (σ.set i o).getD i none = o := by
  rw [List.getD_eq_getElem?_getD, List.getElem?_set_self h]; rfl
theorem getD_set_ne {σ : L2.St} {o : Option V} {j : Nat} (h : j ≠ i) : (σ.set i o).getD j none = σ.getD j none := by
  rw [List.getD_eq_getElem?_getD, List.getElem?_set_ne (Ne.symm h), ← List.getD_eq_getElem?_getD]
/-- a slot is changed: its place in the frame, what is known of it -/
theorem St.set (I : St G β H F σ ρ L) {s : Sl} {o : Option V} {l : List Addr} (hi : i < ρ.length) (r : SlR G H F s o l) (nd : l.Nodup) (ap : ∀ a ∈ l, ∀ j, j ≠ i → a ∉ L j) (nF : ∀ a ∈ l, ¬ F a)
    (mu : ∀ a ∈ l, ∃ u, H a = some u ∧ immO u = false) (io : ∀ d, s = .io d → o = β i) : St G β H F (σ.set i o) (ρ.set i s) (setL L i l) where
  len := by rw [List.length_set, List.length_set]; exact I.len
  slot := fun j t e => by
    by_cases q : j = i
    · subst q
      rw [List.getElem?_set_self hi] at e
      cases e
      rw [getD_set_same (by rw [I.len]; exact hi), setL_same]
      exact r
    · rw [List.getElem?_set_ne (Ne.symm q)] at e
      rw [getD_set_ne q, setL_ne q]
      exact I.slot j t e
  out := fun j h => by
    rw [List.length_set] at h
    rw [setL_ne (by omega)]
    exact I.out j h
  nd := fun j => by
    by_cases q : j = i
    · subst q; rw [setL_same]; exact nd
    · rw [setL_ne q]; exact I.nd j
  apart := fun j k x hj hk => by
    by_cases q : j = i
    · by_cases q' : k = i
      · rw [q, q']
      · subst q
        rw [setL_same] at hj
        rw [setL_ne q'] at hk
        exact absurd hk (ap x hj k q')
    · by_cases q' : k = i
      · subst q'
        rw [setL_same] at hk
        rw [setL_ne q] at hj
        exact absurd hj (ap x hk j q)
      · rw [setL_ne q] at hj
        rw [setL_ne q'] at hk
        exact I.apart j k x hj hk
  nF := fun j x h => by
    by_cases q : j = i
    · subst q; rw [setL_same] at h; exact nF x h
    · rw [setL_ne q] at h; exact I.nF j x h
  aF := I.aF
  mu := fun j x h => by
    by_cases q : j = i
    · subst q; rw [setL_same] at h; exact mu x h
    · rw [setL_ne q] at h; exact I.mu j x h
  ios := fun j d e => by
    by_cases q : j = i
    · subst q
      rw [List.getElem?_set_self hi] at e
      cases e
      rw [getD_set_same (by rw [I.len]; exact hi)]
      exact io d rfl
    · rw [List.getElem?_set_ne (Ne.symm q)] at e
      rw [getD_set_ne q]
      exact I.ios j d e
theorem St.setSh (I : St G β H F σ ρ L) {d : D} {v : V} (hi : i < ρ.length) (r : RV G H F d v) : St G β H F (σ.set i (some v)) (ρ.set i (.sh d)) (setL L i []) :=
  I.set hi ⟨rfl, v, rfl, r⟩ List.nodup_nil (fun _ h => nomatch h) (fun _ h => nomatch h) (fun _ h => nomatch h) (fun _ h => nomatch h)
theorem St.setEmp (I : St G β H F σ ρ L) {o : Option V} (hi : i < ρ.length) : St G β H F (σ.set i o) (ρ.set i .emp) (setL L i []) :=
  I.set hi rfl List.nodup_nil (fun _ h => nomatch h) (fun _ h => nomatch h) (fun _ h => nomatch h) (fun _ h => nomatch h)
theorem Stp.setL0 : Stp H F (Own L) H F (Own (setL L i [])) :=
  ⟨fun _ _ _ e => e, fun _ _ _ e => e, fun _ u e => ⟨u, e⟩, fun _ f => f, fun _ f => .inl f, fun _ o => (own_setL o).elim .inl fun z => nomatch z⟩
theorem set_getD {σ : L2.St} (h : i < σ.length) : σ.set i (σ.getD i none) = σ := by
  apply List.ext_getElem?
  intro j
  by_cases q : j = i
  · subst q
    rw [List.getElem?_set_self h, List.getD_eq_getElem?_getD, List.getElem?_eq_getElem h]
    simp
  · rw [List.getElem?_set_ne (Ne.symm q)]
/-- a slot's own list or dict becomes shared -/
theorem St.freeze (I : St G β H F σ ρ L) {d : D} (e : ρ[i]? = some (.ow d)) : ∃ a, σ[i]? = some (some (.ref a)) ∧ St G β H (withF F a) σ (ρ.set i (.sh d)) (setL L i []) ∧ RV G H (withF F a) d (.ref a) ∧
    Stp H F (Own L) H (withF F a) (Own (setL L i [])) := by
  have hi : i < ρ.length := (List.getElem?_eq_some_iff.mp e).1
  obtain ⟨a, hl, ho, r⟩ := I.slot i _ e
  have ha : a ∈ L i := by rw [hl]; exact List.mem_cons_self
  have mF : ∀ x, F x → withF F a x := fun x f => .inl f
  have rv : RV G H (withF F a) d (.ref a) := by
    cases d with
    | lst l => obtain ⟨xs, q, r⟩ := r; exact RV.lst (.inr rfl) q (RVs.mono (fun _ _ _ q => q) (fun _ _ _ q => q) mF _ _ r)
    | dk k l => obtain ⟨xs, q, z, r⟩ := r; unfold RV; exact ⟨a, xs, rfl, .inr rfl, .inl q, z, RVs.mono (fun _ _ _ q => q) (fun _ _ _ q => q) mF _ _ r⟩
    | dt k l => obtain ⟨xs, q, z, r⟩ := r; unfold RV; exact ⟨a, xs, rfl, .inr rfl, .inl q, z, RVs.mono (fun _ _ _ q => q) (fun _ _ _ q => q) mF _ _ r⟩
    | _ => exact r.elim
  have I1 := I.setEmp (o := some (.ref a)) hi
  have es : σ.set i (some (.ref a)) = σ := by rw [← ho]; exact set_getD (by rw [I.len]; exact hi)
  rw [es] at I1
  have I2 : St G β H (withF F a) σ (ρ.set i .emp) (setL L i []) :=
    { I1 with
      slot := fun j t q => SlR.mono (fun _ _ _ q => q) (fun _ _ _ q => q) mF (fun _ _ _ q => q) (I1.slot j t q)
      nF := fun j x h f => by
        rcases f with f | rfl
        · exact I1.nF j x h f
        · by_cases q : j = i
          · subst q; rw [setL_same] at h; cases h
          · rw [setL_ne q] at h; exact q (I.apart j i _ h ha)
      aF := fun x f => by
        rcases f with f | rfl
        · exact I.aF x f
        · obtain ⟨u, e, _⟩ := I.mu i _ ha; exact ⟨u, e⟩ }
  refine ⟨a, getD_some ho, ?_, rv, ⟨fun _ _ _ e => e, fun _ _ _ e => e, fun _ u e => ⟨u, e⟩, mF, fun x f => f.elim .inl fun z => .inr (.inl ⟨i, by rw [z]; exact ha⟩), fun _ o => (own_setL o).elim .inl fun z => nomatch z⟩⟩
  have I3 := I2.setSh (i := i) (by rw [List.length_set]; exact hi) rv
  rw [es, List.set_set] at I3
  have el : setL (setL L i []) i [] = setL L i [] := by
    funext j
    unfold setL
    split <;> rfl
  rw [el] at I3
  exact I3
def withL (F : Addr → Prop) (ls : List Addr) : Addr → Prop := fun a => F a ∨ a ∈ ls
/-- all that a slot owns becomes shared -/
theorem St.freezeT (I : St G β H F σ ρ L) {d : D} (e : ρ[i]? = some (.tr d)) : ∃ v, σ[i]? = some (some v) ∧ St G β H (withL F (L i)) σ (ρ.set i (.sh d)) (setL L i []) ∧ RV G H (withL F (L i)) d v ∧
    Stp H F (Own L) H (withL F (L i)) (Own (setL L i [])) := by
  have hi : i < ρ.length := (List.getElem?_eq_some_iff.mp e).1
  obtain ⟨v, ho, r⟩ := I.slot i _ e
  have mF : ∀ x, F x → withL F (L i) x := fun x f => .inl f
  have rv : RV G H (withL F (L i)) d v := DT.rv mF d v (L i) (fun a ha => .inr ha) r
  have I1 := I.setEmp (o := some v) hi
  have es : σ.set i (some v) = σ := by rw [← ho]; exact set_getD (by rw [I.len]; exact hi)
  rw [es] at I1
  have I2 : St G β H (withL F (L i)) σ (ρ.set i .emp) (setL L i []) :=
    { I1 with
      slot := fun j t q => SlR.mono (fun _ _ _ q => q) (fun _ _ _ q => q) mF (fun _ _ _ q => q) (I1.slot j t q)
      nF := fun j x h f => by
        rcases f with f | ha
        · exact I1.nF j x h f
        · by_cases q : j = i
          · subst q; rw [setL_same] at h; cases h
          · rw [setL_ne q] at h; exact q (I.apart j i _ h ha)
      aF := fun x f => by
        rcases f with f | ha
        · exact I.aF x f
        · obtain ⟨u, e, _⟩ := I.mu i _ ha; exact ⟨u, e⟩ }
  refine ⟨v, getD_some ho, ?_, rv, ⟨fun _ _ _ e => e, fun _ _ _ e => e, fun _ u e => ⟨u, e⟩, mF, fun x f => f.elim .inl fun z => .inr (.inl ⟨i, z⟩), fun _ o => (own_setL o).elim .inl fun z => nomatch z⟩⟩
  have I3 := I2.setSh (i := i) (by rw [List.length_set]; exact hi) rv
  rw [es, List.set_set] at I3
  have el : setL (setL L i []) i [] = setL L i [] := by
    funext j
    unfold setL
    split <;> rfl
  rw [el] at I3
  exact I3
end
/-- the value of a name: what stood in the slot alone is shared from now on -/
def mVar (i : Nat) : M D := fun ρ => match ρ[i]? with
  | some (.sh d) => .ok d ρ
  | some (.ow d) => .ok d (ρ.set i (.sh d))
  | some (.tr d) => .ok d (ρ.set i (.sh d))
  | _ => .no
theorem se_var {i : Nat} (h : PE X e (tVar i)) : PE X e (tE G β W (mVar i)) := by
  refine PE.imp h fun σ H Q q => ?_
  obtain ⟨F, ρ, L, I, q⟩ := q
  unfold mVar at q
  cases e1 : ρ[i]? with
  | none => rw [e1] at q; exact q.elim
  | some s =>
    cases s with
    | emp => rw [e1] at q; exact q.elim
    | io d => rw [e1] at q; exact q.elim
    | sh d =>
      rw [e1] at q
      obtain ⟨_, v, ev, r⟩ := I.slot i _ e1
      exact ⟨v, getD_some ev, q v H F L I r (Stp.refl _ _ _)⟩
    | ow d =>
      rw [e1] at q
      obtain ⟨a, ea, I2, rv, t⟩ := I.freeze e1
      exact ⟨_, ea, q _ _ _ _ I2 rv t⟩
    | tr d =>
      rw [e1] at q
      obtain ⟨a, ea, I2, rv, t⟩ := I.freezeT e1
      exact ⟨_, ea, q _ _ _ _ I2 rv t⟩
def mC (d : D) : M D := retM d
theorem tE_ret {d : D} {v : V} {σ : L2.St} {H : Hp} {Q : VK} (q : tE G β W (mC d) σ H Q) (r : ∀ F, RV G H F d v) : Q v H := by
  obtain ⟨F, ρ, L, I, q⟩ := q
  exact q v H F L I (r F) (Stp.refl _ _ _)
theorem se_int {i : Int} {j : Nat} : PE X (.Constant (.int i) j pos) (tE G β W (mC (.int i))) := PE.imp pe_int fun _ _ _ q => tE_ret q fun _ => RV.int i
theorem se_bl {i : Bool} {j : Nat} : PE X (.Constant (.bool i) j pos) (tE G β W (mC (.bl i))) := PE.imp pe_bl fun _ _ _ q => tE_ret q fun _ => RV.bl i
theorem se_non {j : Nat} : PE X (.Constant .none j pos) (tE G β W (mC .non)) := PE.imp pe_non fun _ _ _ q => tE_ret q fun _ => RV.non
theorem se_str {x : Str} {j : Nat} : PE X (.Constant (.str x) j pos) (tE G β W (mC (.str x))) := PE.imp pe_str fun _ _ _ q => tE_ret q fun _ => RV.str x
/-- a constant of the module (a number, a text) -/
theorem se_glob {x : Str} {d : D} {v : V} {u : Value} (hm : X.mg x = some u) (r : RelV v u) (rv : ∀ H F, RV G H F d v) (hg : Gl X x := by rfl) (hd : (x == ("__debug__" : Str)) = false := by decide) : PE X (.Name x pos) (tE G β W (mC d)) :=
  PE.imp (pe_glob hg hm r hd) fun _ H _ q => tE_ret q fun F => rv H F

section
variable {oa ob : Opd}
theorem se_bin {op : Operator} {r : R2} {g : D → D → Option D} (ho : OpR X (binaryOp op) r) (ok : Ok2 G r g) (ha : PE X a (tO G β W oa)) (hb : PE X b (tO G β W ob)) : PE X (.BinOp a op b pos) (tE G β W (mOp2 g oa ob)) :=
  PE.imp (pe_op ho ha hb) fun _ _ _ q => op2_imp ok q
theorem se_add (ha : PE X a (tO G β W oa)) (hb : PE X b (tO G β W ob)) : PE X (.BinOp a .Add b pos) (tE G β W (mOp2 dAdd oa ob)) := se_bin op_add5 (ok_add G X.K) ha hb
theorem se_sub (ha : PE X a (tO G β W oa)) (hb : PE X b (tO G β W ob)) : PE X (.BinOp a .Sub b pos) (tE G β W (mOp2 dSub oa ob)) := se_bin op_sub (ok_sub G) ha hb
theorem se_mul (ha : PE X a (tO G β W oa)) (hb : PE X b (tO G β W ob)) : PE X (.BinOp a .Mult b pos) (tE G β W (mOp2 dMul oa ob)) := se_bin op_mul3 (ok_mul G X.K) ha hb
theorem se_mod (ha : PE X a (tO G β W oa)) (hb : PE X b (tO G β W ob)) : PE X (.BinOp a .Mod b pos) (tE G β W (mOp2 dMod oa ob)) := se_bin op_mod (ok_mod G) ha hb
theorem se_div (ha : PE X a (tO G β W oa)) (hb : PE X b (tO G β W ob)) : PE X (.BinOp a .FloorDiv b pos) (tE G β W (mOp2 dDiv oa ob)) := se_bin op_fdivW (ok_div G) ha hb
theorem se_pow (ha : PE X a (tO G β W oa)) (hb : PE X b (tO G β W ob)) : PE X (.BinOp a .Pow b pos) (tE G β W (mOp2 dPow oa ob)) := se_bin op_pow (ok_pow G) ha hb
theorem se_ix (ha : PE X a (tO G β W oa)) (hb : PE X b (tO G β W ob)) (hs : PlainIx b := by exact fun _ _ => rfl) (hK : G.K = X.K := by rfl) : PE X (.Subscript a b pos) (tE G β W (mOp2 dIx oa ob)) :=
  PE.imp (pe_ix ix_seq ha hb hs) fun _ _ _ q => op2_imp (by rw [← hK]; exact ok_ix G) q
def dNeg : D → Option D
  | .int i => some (.int (-i))
  | _ => none
def mOp1 (g : D → Option D) (m : M D) : M D := bindM m fun d => optM (g d)
theorem se_neg {m : M D} (ha : PE X a (tE G β W m)) : PE X (.UnaryOp .USub a pos) (tE G β W (mOp1 dNeg m)) := by
  refine PE.imp (pe_un un_neg ha) fun σ H Q q => ?_
  obtain ⟨F, ρ, L, I, q⟩ := q
  refine tG_bind I q fun d ρ1 v H1 F1 L1 I1 r t q1 => ?_
  cases d with
  | int i => unfold RV at r; exact ⟨i, r, q1 _ _ _ _ I1 (RV.int _) (Stp.refl _ _ _)⟩
  | _ => exact q1.elim

/-! ### comparisons as values and as tests -/
def mB (m : M D) : M Bool := bindM m fun d => match d with | .bl k => retM k | _ => noM
theorem mB_imp {m : M D} {σ : L2.St} {H : Hp} {Q : Bool → Hp → Prop} (q : tT G β W (mB m) σ H Q) : tE G β W m σ H fun x H' => ∃ k, x = .bl k ∧ Q k H' := by
  obtain ⟨F, ρ, L, I, q⟩ := q
  refine tG_bind I q fun d ρ1 v H1 F1 L1 I1 r t q1 => ?_
  cases d with
  | bl k => unfold RV at r; exact ⟨k, r, q1 k H1 F1 L1 I1 rfl (Stp.refl _ _ _)⟩
  | _ => exact q1.elim
theorem se_cmp {op : CmpOp} {r : R2} {g : D → D → Option D} (ho : OpR X (compareOp op) r) (ok : Ok2 G r g) (ha : PE X a (tO G β W oa)) (hb : PE X b (tO G β W ob)) (hm : behindInMarks op b = false) : PE X (.Compare a [op] [b] pos) (tE G β W (mOp2 g oa ob)) :=
  PE.imp (pe_cmpR ho ha hb hm) fun _ _ _ q => op2_imp ok q
theorem st_cmp {op : CmpOp} {r : R2} {g : D → D → Option D} (ho : OpR X (compareOp op) r) (ok : Ok2 G r g) (ha : PE X a (tO G β W oa)) (hb : PE X b (tO G β W ob)) (hm : behindInMarks op b = false) : PT X (.Compare a [op] [b] pos) (tT G β W (mB (mOp2 g oa ob))) :=
  PT.imp (pt_cmpR ho ha hb hm) fun _ _ _ q => op2_imp ok (mB_imp q)
end
def mTru (m : M D) : M Bool := bindM m fun d => match d with
  | .non => retM false
  | .bl k => retM k
  | .int i => retM (i != 0)
  | .str z => if z.length ≤ LIM then retM ((z.length : Int) != 0) else noM
  | .lst l => retM (!l.isEmpty)
  | .tup l => retM (!l.isEmpty)
  | _ => noM
theorem isEmpty_len {α γ : Type} {l : List α} {m : List γ} (h : l.length = m.length) : l.isEmpty = m.isEmpty := by
  cases l <;> cases m <;> first | rfl | simp at h
theorem zip_isEmpty {κ α γ : Type} {k : List κ} {l : List α} {m : List γ} (h : l.length = m.length) : (k.zip l).isEmpty = (k.zip m).isEmpty := by
  cases k <;> cases l <;> cases m <;> first | rfl | simp at h
theorem st_tru {m : M D} (ha : PE X a (tE G β W m)) (he : ∀ whole, isTrue a X.env whole = (do let v ← whole; standAt a.pos; holding [v] (truthy v)) := by intro _; rfl) : PT X a (tT G β W (mTru m)) := by
  refine PT.imp (pt_truth ha he) fun σ H Q q => ?_
  obtain ⟨F, ρ, L, I, q⟩ := q
  refine tG_bind I q fun d ρ1 v H1 F1 L1 I1 r t q1 => ?_
  have fin : ∀ {k : Bool}, Post G β W (fun _ _ a c => c = a) σ H1 F1 (Own L1) Q (retM k ρ1) → Q k H1 := fun {k} q => q k H1 F1 L1 I1 rfl (Stp.refl _ _ _)
  cases d with
  | non => unfold RV at r; subst r; exact ⟨false, rfl, fin q1⟩
  | bl k => unfold RV at r; subst r; exact ⟨k, rfl, fin q1⟩
  | int i => unfold RV at r; subst r; exact ⟨_, rfl, fin q1⟩
  | str z =>
    unfold RV at r; subst r
    dsimp only at q1
    split at q1
    · exact ⟨_, ⟨by rw [LIM_eq]; assumption, rfl⟩, fin q1⟩
    · exact q1.elim
  | lst l =>
    unfold RV at r
    obtain ⟨p, xs, rfl, f, e, rs⟩ := r
    exact ⟨_, .inl ⟨xs, SqL.of e, by rw [isEmpty_len rs.len.symm]⟩, fin q1⟩
  | tup l =>
    unfold RV at r
    obtain ⟨p, xs, rfl, e, rs⟩ := r
    exact ⟨_, .inr (.inl ⟨xs, SqT.of e, by rw [isEmpty_len rs.len.symm]⟩), fin q1⟩
  | _ => exact q1.elim
/-- a op b op' c -/
def mChain (g g' : D → D → Option D) (oa ob oc : Opd) : M D := bindM (o1 oa) fun x => bindM (o1 ob) fun y => bindM (mB (fin2 g oa ob x y)) fun k =>
  if k = true then bindM (o1 oc) fun z => fin2 g' ob oc y z else retM (.bl false)
theorem fin2_imp {g : D → D → Option D} {r : R2} {oa ob : Opd} {x y : Option D} {f : D → M α'} {Q : γ' → Hp → Prop} {K : V → Hp → Prop} {Rel' : Hp → (Addr → Prop) → α' → γ' → Prop} {σ : L2.St} {H : Hp} {F : Addr → Prop} {ρ : List Sl} {L : Nat → List Addr} {v u : V}
    (ok : Ok2 G r g) (I : St G β H F σ ρ L) (w1 : OW G H F σ oa x v) (w2 : OW G H F σ ob y u) (h : Post G β W Rel' σ H F (Own L) Q (bindM (fin2 g oa ob x y) f ρ))
    (k : ∀ d v' H' F', St G β H' F' σ ρ L → RV G H' F' d v' → Stp H F (Own L) H' F' (Own L) → Post G β W Rel' σ H' F' (Own L) Q (f d ρ) → K v' H') : r v u H K := by
  unfold bindM fin2 at h
  cases e1 : o2 ρ oa x with
  | none => rw [e1] at h; exact h.elim
  | some dx =>
    cases e2 : o2 ρ ob y with
    | none => rw [e1, e2] at h; exact h.elim
    | some dy =>
      cases e3 : g dx dy with
      | none => rw [e1, e2] at h; dsimp only at h; rw [e3] at h; exact h.elim
      | some d =>
        rw [e1, e2] at h; dsimp only at h; rw [e3] at h
        exact ok v u dx dy d H F K (w1.late I e1) (w2.late I e2) e3 fun v' H' F' x r => k d v' H' F' (I.ext x) r (Stp.ext x) (Post.trans (Stp.ext x) h)
theorem chain_imp {r r' : R2} {g g' : D → D → Option D} {oa ob oc : Opd} {σ : L2.St} {H : Hp} {Q : VK} (ok : Ok2 G r g) (ok' : Ok2 G r' g') (h : tE G β W (mChain g g' oa ob oc) σ H Q) : tChain r r' (tO G β W oa) (tO G β W ob) (tO G β W oc) σ H Q := by
  obtain ⟨F, ρ, L, I, h⟩ := h
  refine tO_bind I h fun x ρ1 v H1 F1 L1 I1 w1 t1 h1 => ?_
  refine tO_bind I1 h1 fun y ρ2 u H2 F2 L2 I2 w2 t2 h2 => ?_
  unfold mB at h2
  rw [bindM_assoc] at h2
  refine fin2_imp ok I2 (w1.step I1 t2) w2 h2 fun d v' H3 F3 I3 r3 t3 h3 => ?_
  have w2' := w2.step I2 t3
  cases d with
  | bl k =>
    unfold RV at r3; subst r3
    refine ⟨k, rfl, ?_⟩
    cases k with
    | false =>
      rw [if_neg Bool.false_ne_true]
      exact h3 _ H3 F3 L2 I3 (RV.bl false) (Stp.refl _ _ _)
    | true =>
      rw [if_pos rfl]
      refine tO_bind I3 h3 fun z ρ4 w H4 F4 L4 I4 w4 t4 h4 => ?_
      have h4' : Post G β W (RV G) σ H4 F4 (Own L4) Q (bindM (fin2 g' ob oc y z) retM ρ4) := by
        have e : bindM (fin2 g' ob oc y z) retM = fin2 g' ob oc y z := by
          funext ρ
          unfold bindM retM
          cases fin2 g' ob oc y z ρ <;> rfl
        rw [e]
        exact h4
      exact fin2_imp ok' I4 (w2'.step I3 t4) w4 h4' fun d' v5 H5 F5 I5 r5 t5 h5 => h5 v5 H5 F5 L4 I5 r5 (Stp.refl _ _ _)
  | _ => exact h3.elim
theorem se_chain {op op' : CmpOp} {r r' : R2} {g g' : D → D → Option D} {oa ob oc : Opd} (ho : OpR X (compareOp op) r) (ok : Ok2 G r g) (ho' : OpR X (compareOp op') r') (ok' : Ok2 G r' g')
    (ha : PE X a (tO G β W oa)) (hb : PE X b (tO G β W ob)) (hc : PE X c (tO G β W oc)) (hm : lastMarks [op, op'] [b, c] = false := by with_unfolding_all rfl) : PE X (.Compare a [op, op'] [b, c] pos) (tE G β W (mChain g g' oa ob oc)) :=
  PE.imp (pe_chain ho ho' ha hb hc hm) fun _ _ _ q => chain_imp ok ok' q
theorem st_chain {op op' : CmpOp} {r r' : R2} {g g' : D → D → Option D} {oa ob oc : Opd} (ho : OpR X (compareOp op) r) (ok : Ok2 G r g) (ho' : OpR X (compareOp op') r') (ok' : Ok2 G r' g')
    (ha : PE X a (tO G β W oa)) (hb : PE X b (tO G β W ob)) (hc : PE X c (tO G β W oc)) (hm : lastMarks [op, op'] [b, c] = false := by with_unfolding_all rfl) : PT X (.Compare a [op, op'] [b, c] pos) (tT G β W (mB (mChain g g' oa ob oc))) :=
  PT.imp (pt_chain ho ho' ha hb hc hm) fun _ _ _ q => chain_imp ok ok' (mB_imp q)

/-! ### and, or, not, if else -/
section
variable {ma mb : M Bool} {m m' : M D} {rest : List Expr}
def mAnd (a b : M Bool) : M Bool := bindM a fun k => if k = true then b else retM false
def mOr (a b : M Bool) : M Bool := bindM a fun k => if k = true then retM true else b
def mNot (a : M Bool) : M Bool := bindM a fun k => retM (!k)
theorem sw_and1 (ha : PT X a (tT G β W ma)) : PW X (.BoolOp .And [a] pos) (tT G β W ma) := pw_and1 ha
theorem sw_or1 (ha : PT X a (tT G β W ma)) : PW X (.BoolOp .Or [a] pos) (tT G β W ma) := pw_or1 ha
theorem PW.imp {t t' : TT} (h : PW X e t) (k : ∀ σ H Q, t' σ H Q → t σ H Q) : PW X e t' := ⟨fun w pins s σ H Q I q => h.run w pins s σ H Q I (k σ H Q q)⟩
theorem sw_and (ha : PT X a (tT G β W ma)) (hb : PW X (.BoolOp .And (b :: rest) pos) (tT G β W mb)) : PW X (.BoolOp .And (a :: b :: rest) pos) (tT G β W (mAnd ma mb)) := by
  refine PW.imp (pw_and ha hb) fun σ H Q q => ?_
  obtain ⟨F, ρ, L, I, q⟩ := q
  refine tG_bind I q fun k ρ1 c H1 F1 L1 I1 r t q1 => ?_
  subst r
  cases c with
  | true => exact iteT ⟨F1, ρ1, L1, I1, q1⟩
  | false => exact iteF (q1 false H1 F1 L1 I1 rfl (Stp.refl _ _ _))
theorem sw_or (ha : PT X a (tT G β W ma)) (hb : PW X (.BoolOp .Or (b :: rest) pos) (tT G β W mb)) : PW X (.BoolOp .Or (a :: b :: rest) pos) (tT G β W (mOr ma mb)) := by
  refine PW.imp (pw_or ha hb) fun σ H Q q => ?_
  obtain ⟨F, ρ, L, I, q⟩ := q
  refine tG_bind I q fun k ρ1 c H1 F1 L1 I1 r t q1 => ?_
  subst r
  cases c with
  | false => exact iteF ⟨F1, ρ1, L1, I1, q1⟩
  | true => exact iteT (q1 true H1 F1 L1 I1 rfl (Stp.refl _ _ _))
theorem st_bool (h : PW X e (tT G β W ma)) : PT X e (tT G β W ma) := h.pt
theorem st_not (ha : PT X a (tT G β W ma)) : PT X (.UnaryOp .Not a pos) (tT G β W (mNot ma)) := by
  refine PT.imp (pt_not ha) fun σ H Q q => ?_
  obtain ⟨F, ρ, L, I, q⟩ := q
  refine tG_bind I q fun k ρ1 c H1 F1 L1 I1 r t q1 => ?_
  subst r
  exact q1 _ H1 F1 L1 I1 rfl (Stp.refl _ _ _)
/-- .. as values (all but the last are bools) -/
def mAndV (a b : M D) : M D := bindM (mB a) fun k => if k = true then b else retM (.bl false)
def mOrV (a b : M D) : M D := bindM (mB a) fun k => if k = true then retM (.bl true) else b
def mNotV (a : M D) : M D := bindM (mB a) fun k => retM (.bl (!k))
theorem se_one {op : PySem.BoolOp} (h : PE X a (tE G β W m)) : PE X (.BoolOp op [a] pos) (tE G β W m) := pe_one h
theorem mB_bind {f : Bool → M α'} {Q : γ' → Hp → Prop} {K : V → Hp → Prop} {Rel' : Hp → (Addr → Prop) → α' → γ' → Prop} {σ : L2.St} {H : Hp} {F : Addr → Prop} {ρ : List Sl} {L : Nat → List Addr} (I : St G β H F σ ρ L)
    (h : Post G β W Rel' σ H F (Own L) Q (bindM (mB m) f ρ)) (k : ∀ c ρ1 H1 F1 L1, St G β H1 F1 σ ρ1 L1 → Stp H F (Own L) H1 F1 (Own L1) → Post G β W Rel' σ H1 F1 (Own L1) Q (f c ρ1) → K (.bl c) H1) : tE G β W m σ H K := by
  unfold mB at h
  rw [bindM_assoc] at h
  refine tG_bind I h fun d ρ1 v H1 F1 L1 I1 r t q1 => ?_
  cases d with
  | bl c => unfold RV at r; subst r; exact k c ρ1 H1 F1 L1 I1 t q1
  | _ => exact q1.elim
theorem se_and (ha : PE X a (tE G β W m)) (hb : PE X (.BoolOp .And (b :: rest) pos) (tE G β W m')) : PE X (.BoolOp .And (a :: b :: rest) pos) (tE G β W (mAndV m m')) := by
  refine PE.imp (pe_and ha hb) fun σ H Q q => ?_
  obtain ⟨F, ρ, L, I, q⟩ := q
  refine mB_bind I q fun c ρ1 H1 F1 L1 I1 t q1 => ⟨c, rfl, ?_⟩
  cases c with
  | true => exact iteT ⟨F1, ρ1, L1, I1, q1⟩
  | false => exact iteF (q1 _ H1 F1 L1 I1 (RV.bl _) (Stp.refl _ _ _))
theorem se_or (ha : PE X a (tE G β W m)) (hb : PE X (.BoolOp .Or (b :: rest) pos) (tE G β W m')) : PE X (.BoolOp .Or (a :: b :: rest) pos) (tE G β W (mOrV m m')) := by
  refine PE.imp (pe_or ha hb) fun σ H Q q => ?_
  obtain ⟨F, ρ, L, I, q⟩ := q
  refine mB_bind I q fun c ρ1 H1 F1 L1 I1 t q1 => ⟨c, rfl, ?_⟩
  cases c with
  | false => exact iteF ⟨F1, ρ1, L1, I1, q1⟩
  | true => exact iteT (q1 _ H1 F1 L1 I1 (RV.bl _) (Stp.refl _ _ _))
theorem se_not (ha : PE X a (tE G β W m)) : PE X (.UnaryOp .Not a pos) (tE G β W (mNotV m)) := by
  refine PE.imp (pe_not ha) fun σ H Q q => ?_
  obtain ⟨F, ρ, L, I, q⟩ := q
  exact mB_bind I q fun c ρ1 H1 F1 L1 I1 t q1 => ⟨c, rfl, q1 _ H1 F1 L1 I1 (RV.bl _) (Stp.refl _ _ _)⟩
def mIf {α : Type} (t : M Bool) (a b : M α) : M α := bindM t fun k => if k = true then a else b
theorem se_if (hc : PT X c (tT G β W ma)) (ha : PE X a (tE G β W m)) (hb : PE X b (tE G β W m')) : PE X (.IfExp c a b pos) (tE G β W (mIf ma m m')) := by
  refine PE.imp (pe_ifExp hc ha hb) fun σ H Q q => ?_
  obtain ⟨F, ρ, L, I, q⟩ := q
  refine tG_bind I q fun k ρ1 c H1 F1 L1 I1 r t q1 => ?_
  subst r
  cases c with
  | true => exact iteT ⟨F1, ρ1, L1, I1, q1⟩
  | false => exact iteF ⟨F1, ρ1, L1, I1, q1⟩
end

/-! ### lists of operands, displays, built-in functions -/
theorem sa_nil : PA X [] (tOs G β W []) := pa_nil
theorem sa_cons {es : List Expr} {o : Opd} {os : List Opd} (ha : PE X e (tO G β W o)) (hr : PA X es (tOs G β W os)) (hs : starEach (e :: es) X.env = (false, eval e X.env) :: starEach es X.env := by rfl) : PA X (e :: es) (tOs G β W (o :: os)) := pa_cons ha hr hs
/-- values as they are worked out, from the left -/
def mEach : List (M D) → M (List D)
  | [] => retM []
  | m :: ms => bindM m fun d => bindM (mEach ms) fun ds => retM (d :: ds)
theorem sl_nil : PA X [] (tAs G β W (mEach [])) := PA.imp pa_nil fun _ H _ ⟨F, _, L, I, q⟩ => q [] H F L I RVs.nil (Stp.refl _ _ _)
theorem sl_cons {es : List Expr} {m : M D} {ms : List (M D)} (ha : PE X e (tE G β W m)) (hr : PA X es (tAs G β W (mEach ms))) (hs : starEach (e :: es) X.env = (false, eval e X.env) :: starEach es X.env := by rfl) :
    PA X (e :: es) (tAs G β W (mEach (m :: ms))) := by
  refine PA.imp (pa_cons ha hr hs) fun σ H Q q => ?_
  obtain ⟨F, ρ, L, I, q⟩ := q
  refine tG_bind I q fun d ρ1 v H1 F1 L1 I1 r t q1 => ?_
  refine tG_bind I1 q1 fun ds ρ2 vs H2 F2 L2 I2 rs t2 q2 => ?_
  exact q2 _ H2 F2 L2 I2 (RVs.cons (RV.step I1 t2 r) rs) (Stp.refl _ _ _)
def mTup (ms : M (List D)) : M D := bindM ms fun l => if l.length ≤ LIM then retM (.tup l) else noM
theorem se_tup {es : List Expr} {x1 : Nat} {ms : M (List D)} (h : PA X es (tAs G β W ms)) : PE X (.Tuple es x1 pos) (tE G β W (mTup ms)) := by
  refine PE.imp (pe_tup h) fun σ H Q q => ?_
  obtain ⟨F, ρ, L, I, q⟩ := q
  refine tG_bind I q fun d ρ1 v H1 F1 L1 I1 r t q1 => ?_
  have el := r.len
  split at q1
  · exact ⟨by rw [LIM_eq]; omega, fun p hp => new_tup hp r fun v' H' F' x r' => q1 v' H' F' L1 (I1.ext x) r' (Stp.ext x)⟩
  · exact q1.elim
def mLst (ms : M (List D)) : M D := bindM ms fun l => if l.length ≤ LIM then retM (.lst l) else noM
theorem se_lst {es : List Expr} {ms : M (List D)} (h : PA X es (tAs G β W ms)) : PE X (.List es pos) (tE G β W (mLst ms)) := by
  refine PE.imp (pe_lst h) fun σ H Q q => ?_
  obtain ⟨F, ρ, L, I, q⟩ := q
  refine tG_bind I q fun d ρ1 v H1 F1 L1 I1 r t q1 => ?_
  have el := r.len
  split at q1
  · exact ⟨by rw [LIM_eq]; omega, fun p hp => new_lst hp r fun v' H' F' x r' => q1 v' H' F' L1 (I1.ext x) r' (Stp.ext x)⟩
  · exact q1.elim
theorem se_callB {x : Str} {id : String} {r : List V → Hp → VK → Prop} {g : List D → Option D} {o : Opd} {os : List Opd} {es : List Expr} {p : Pos} (hc : CallR X (.builtin id) r) (ok : OkN G r g) (hm : X.mg x = none) (hv : bootBuiltins x = some (.builtin id)) (ha : PA X (e :: es) (tOs G β W (o :: os)))
    (hg : Gl X x := by rfl) (hn : x ≠ "__name__" := by decide) (hdb : (x == ("__debug__" : Str)) = false := by decide)
    (he : starEach (e :: es) X.env = (false, eval e X.env) :: starEach es X.env := by rfl) (hpl : (backTo pos (starEach es X.env)).any (·.1) = false := by rfl) : PE X (.Call (.Name x p) (e :: es) [] pos) (tE G β W (mOpN g (o :: os))) :=
  PE.imp (pe_callB hc hg hm hv ha hn hdb he hpl) fun _ _ _ q => opN_imp ok q
theorem se_callTy {x : Str} {T : String} {r : List V → Hp → VK → Prop} {g : List D → Option D} {o : Opd} {os : List Opd} {es : List Expr} {p : Pos} (hc : CallR X (.type T) r) (ok : OkN G r g) (hm : X.mg x = none) (hv : bootBuiltins x = some (.type T)) (ha : PA X (e :: es) (tOs G β W (o :: os)))
    (hg : Gl X x := by rfl) (hn : x ≠ "__name__" := by decide) (hdb : (x == ("__debug__" : Str)) = false := by decide)
    (he : starEach (e :: es) X.env = (false, eval e X.env) :: starEach es X.env := by rfl) (hpl : (backTo pos (starEach es X.env)).any (·.1) = false := by rfl) : PE X (.Call (.Name x p) (e :: es) [] pos) (tE G β W (mOpN g (o :: os))) :=
  PE.imp (pe_callTy hc hg hm hv ha hn hdb he hpl) fun _ _ _ q => opN_imp ok q
end
end Ev
namespace Ev
open PySem PySem.Spec PyProof.Rows L2

/-! ## What is new and nobody else's -/
inductive Flw where
  | nx | bk | ct | rt (s : Sl)

/-- v, with what it owns (lr), stands beside the frame's slots -/
structure Res (G : Glb) (H : Hp) (F : Addr → Prop) (L : Nat → List Addr) (s : Sl) (v : V) (lr : List Addr) : Prop where
  rel : SlR G H F s (some v) lr
  nd : lr.Nodup
  ap : ∀ a ∈ lr, ∀ i, a ∉ L i
  nF : ∀ a ∈ lr, ¬ F a
  mu : ∀ a ∈ lr, ∃ u, H a = some u ∧ immO u = false
def Ow2 (L : Nat → List Addr) (lr : List Addr) : Addr → Prop := fun a => Own L a ∨ a ∈ lr
def PostA (G : Glb) (β : Bt) (W : WX) (σ : L2.St) (H : Hp) (F O : Addr → Prop) (Q : VK) : R Sl → Prop
  | .ok s ρ' => ∀ v H' F' L' lr, St G β H' F' σ ρ' L' → Res G H' F' L' s v lr → Stp H F O H' F' (Ow2 L' lr) → Q v H'
  | .ex c l ρ' => ∀ H' F' L' dd, St G β H' F' σ ρ' L' → XR G H' F' c l dd → Stp H F O H' F' (Own L') → W (.ref (G.cls c)) dd σ H'
  | .no => False
def tA (G : Glb) (β : Bt) (W : WX) (m : M Sl) : TE := fun σ H Q => ∃ F ρ L, St G β H F σ ρ L ∧ PostA G β W σ H F (Own L) Q (m ρ)
section
variable {X : Cx} {G : Glb} {β : Bt} {W : WX} {σ : L2.St} {H H' : Hp} {F F' : Addr → Prop} {ρ ρ' : List Sl} {L L' : Nat → List Addr} {e a b : Expr} {pos : Pos}
theorem PostA.trans {O O' : Addr → Prop} {Q : VK} {r : R Sl} (t : Stp H F O H' F' O') (h : PostA G β W σ H F O Q r) : PostA G β W σ H' F' O' Q r := by
  cases r with
  | ok a ρ' => exact fun c H2 F2 L2 lr I r q => h c H2 F2 L2 lr I r (t.trans q)
  | ex c l ρ' => exact fun H2 F2 L2 dd I r q => h H2 F2 L2 dd I r (t.trans q)
  | no => exact h
theorem Res.sh {d : D} {v : V} (r : RV G H F d v) : Res G H F L (.sh d) v [] := ⟨⟨rfl, v, rfl, r⟩, List.nodup_nil, (fun _ h => nomatch h), (fun _ h => nomatch h), (fun _ h => nomatch h)⟩
theorem ow2_nil : Ow2 L [] = Own L := by
  funext a
  exact propext ⟨fun h => h.elim id (fun z => nomatch z), fun h => Or.inl h⟩
theorem tG_bindA {α γ : Type} {Rel : Hp → (Addr → Prop) → α → γ → Prop} {m : M α} {f : α → M Sl} {Q : VK} {K : γ → Hp → Prop} (I : St G β H F σ ρ L) (h : PostA G β W σ H F (Own L) Q (bindM m f ρ))
    (k : ∀ a ρ1 c H1 F1 L1, St G β H1 F1 σ ρ1 L1 → Rel H1 F1 a c → Stp H F (Own L) H1 F1 (Own L1) → PostA G β W σ H1 F1 (Own L1) Q (f a ρ1) → K c H1) : tG G β W Rel m σ H K := by
  refine ⟨F, ρ, L, I, ?_⟩
  unfold bindM at h
  cases e : m ρ with
  | ok a ρ1 =>
    rw [e] at h
    exact fun c H1 F1 L1 I1 r t => k a ρ1 c H1 F1 L1 I1 r t (h.trans t)
  | ex c l ρ1 =>
    rw [e] at h
    exact h
  | no =>
    rw [e] at h
    exact h
def shM (m : M D) : M Sl := bindM m fun d => retM (.sh d)
theorem sa_sh {m : M D} (h : PE X e (tE G β W m)) : PE X e (tA G β W (shM m)) := PE.imp h fun σ H Q q => by
  obtain ⟨F, ρ, L, I, q⟩ := q
  refine tG_bindA I q fun d ρ1 v H1 F1 L1 I1 r t q1 => ?_
  refine q1 v H1 F1 L1 [] I1 (Res.sh r) ?_
  rw [ow2_nil]
  exact Stp.refl _ _ _
/-- a result that nobody else has becomes shared data -/
def vaM (m : M Sl) : M D := bindM m fun s => match s with
  | .sh d => retM d
  | .ow d => retM d
  | .tr d => retM d
  | _ => noM
theorem RO.rv {d : D} {a : Addr} {F' : Addr → Prop} (r : RO G H F d a) (m : ∀ x, F x → F' x) (f : F' a) : RV G H F' d (.ref a) := by
  cases d with
  | lst l => obtain ⟨xs, q, r⟩ := r; exact RV.lst f q (RVs.mono (fun _ _ _ q => q) (fun _ _ _ q => q) m _ _ r)
  | dk k l => obtain ⟨xs, q, z, r⟩ := r; unfold RV; exact ⟨a, xs, rfl, f, .inl q, z, RVs.mono (fun _ _ _ q => q) (fun _ _ _ q => q) m _ _ r⟩
  | dt k l => obtain ⟨xs, q, z, r⟩ := r; unfold RV; exact ⟨a, xs, rfl, f, .inl q, z, RVs.mono (fun _ _ _ q => q) (fun _ _ _ q => q) m _ _ r⟩
  | _ => exact r.elim
/-- an object beside the frame is noted as shared -/
theorem St.note (I : St G β H F σ ρ L) {a : Addr} (ap : ∀ i, a ∉ L i) (al : ∃ u, H a = some u) : St G β H (withF F a) σ ρ L :=
  { I with
    slot := fun j t q => SlR.mono (fun _ _ _ q => q) (fun _ _ _ q => q) (fun _ f => .inl f) (fun _ _ _ q => q) (I.slot j t q)
    nF := fun j x h f => by
      rcases f with f | rfl
      · exact I.nF j x h f
      · exact ap j h
    aF := fun x f => by
      rcases f with f | rfl
      · exact I.aF x f
      · exact al }
theorem St.notes (I : St G β H F σ ρ L) {ls : List Addr} (ap : ∀ a ∈ ls, ∀ i, a ∉ L i) (al : ∀ a ∈ ls, ∃ u, H a = some u) : St G β H (withL F ls) σ ρ L :=
  { I with
    slot := fun j t q => SlR.mono (fun _ _ _ q => q) (fun _ _ _ q => q) (fun _ f => .inl f) (fun _ _ _ q => q) (I.slot j t q)
    nF := fun j x h f => by
      rcases f with f | hx
      · exact I.nF j x h f
      · exact ap x hx j h
    aF := fun x f => by
      rcases f with f | hx
      · exact I.aF x f
      · exact al x hx }
theorem se_va {m : M Sl} (h : PE X e (tA G β W m)) : PE X e (tE G β W (vaM m)) := PE.imp h fun σ H Q q => by
  obtain ⟨F, ρ, L, I, q⟩ := q
  refine ⟨F, ρ, L, I, ?_⟩
  unfold vaM bindM at q
  cases em : m ρ with
  | no => rw [em] at q; exact q
  | ex c l ρ' => rw [em] at q; exact q
  | ok s ρ' =>
    rw [em] at q
    intro v H' F' L' lr I' r t
    cases s with
    | emp => exact q.elim
    | io d => exact q.elim
    | sh d =>
      obtain ⟨el, v', ev, rv⟩ := r.rel
      cases ev
      rw [el, ow2_nil] at t
      exact q v H' F' L' I' rv t
    | ow d =>
      obtain ⟨p, el, ev, ro⟩ := r.rel
      cases ev
      have hp : p ∈ lr := by rw [el]; exact List.mem_cons_self
      obtain ⟨u, eu, _⟩ := r.mu p hp
      refine q _ H' (withF F' p) L' (I'.note (r.ap p hp) ⟨u, eu⟩) (ro.rv (fun _ f => .inl f) (.inr rfl)) (t.trans ?_)
      exact ⟨fun _ _ _ e => e, fun _ _ _ e => e, fun _ u e => ⟨u, e⟩, fun _ f => .inl f, fun x f => f.elim .inl fun z => .inr (.inl (.inr (by rw [z]; exact hp))), fun _ o => .inl (.inl o)⟩
    | tr d =>
      obtain ⟨v', ev, dt⟩ := r.rel
      cases ev
      refine q _ H' (withL F' lr) L' (I'.notes (fun a ha => r.ap a ha) (fun a ha => let ⟨u, eu, _⟩ := r.mu a ha; ⟨u, eu⟩)) (DT.rv (fun _ f => .inl f) d v lr (fun a ha => .inr ha) dt) (t.trans ?_)
      exact ⟨fun _ _ _ e => e, fun _ _ _ e => e, fun _ u e => ⟨u, e⟩, fun _ f => .inl f, fun x f => f.elim .inl fun z => .inr (.inl (.inr z)), fun _ o => .inl (.inl o)⟩
/-- a new list -/
theorem new_own (I : St G β H F σ ρ L) {l : List D} {xs : List V} {p : Addr} {Q : VK} (hp : H p = none) (r : RVs G H F l xs) (q : PostA G β W σ H F (Own L) Q (.ok (.ow (.lst l)) ρ)) : Q (.ref p) (upd H p (.lst xs)) := by
  have np : ∀ i, p ∉ L i := fun i h => by obtain ⟨u, e, _⟩ := I.mu i p h; rw [hp] at e; cases e
  refine q _ _ F L [p] (I.new hp) ⟨⟨p, rfl, rfl, xs, upd_same, RVs.ext (Ext.one hp) r⟩, by simp, fun a h => ?_, fun a h f => ?_, fun a h => ?_⟩ ?_
  · rw [List.mem_singleton.mp h]; exact np
  · rw [List.mem_singleton.mp h] at f
    obtain ⟨u, e⟩ := I.aF p f
    rw [hp] at e; cases e
  · rw [List.mem_singleton.mp h]; exact ⟨_, upd_same, rfl⟩
  · refine ⟨fun a u _ => upd_keep hp a u, fun a u _ => upd_keep hp a u, fun a u e => ⟨u, upd_keep hp a u e⟩, fun _ f => f, fun _ f => .inl f, fun x o => o.elim .inl fun z => .inr ?_⟩
    rw [List.mem_singleton.mp z]; exact hp
def aLst (ms : M (List D)) : M Sl := bindM ms fun l => if l.length ≤ LIM then retM (.ow (.lst l)) else noM
theorem sa_lst {es : List Expr} {ms : M (List D)} (h : PA X es (tAs G β W ms)) : PE X (.List es pos) (tA G β W (aLst ms)) := by
  refine PE.imp (pe_lst h) fun σ H Q q => ?_
  obtain ⟨F, ρ, L, I, q⟩ := q
  refine tG_bindA I q fun d ρ1 v H1 F1 L1 I1 r t q1 => ?_
  have el := r.len
  split at q1
  · exact ⟨by rw [LIM_eq]; omega, fun p hp => new_own I1 hp r q1⟩
  · exact q1.elim
theorem tO_bindA {o : Opd} {f : Option D → M Sl} {Q : VK} {K : V → Hp → Prop} (I : St G β H F σ ρ L) (h : PostA G β W σ H F (Own L) Q (bindM (o1 o) f ρ))
    (k : ∀ x ρ1 v H1 F1 L1, St G β H1 F1 σ ρ1 L1 → OW G H1 F1 σ o x v → Stp H F (Own L) H1 F1 (Own L1) → PostA G β W σ H1 F1 (Own L1) Q (f x ρ1) → K v H1) : tO G β W o σ H K := by
  cases o with
  | ev m =>
    show tG G β W (RV G) m σ H K
    have h' : PostA G β W σ H F (Own L) Q (bindM (bindM m fun d => retM (some d)) f ρ) := h
    rw [bindM_assoc] at h'
    exact tG_bindA (f := fun d => f (some d)) I h' fun a ρ1 c H1 F1 L1 I1 r t h1 => k (some a) ρ1 c H1 F1 L1 I1 ⟨a, rfl, r⟩ t h1
  | pk i =>
    unfold bindM o1 at h
    dsimp only at h
    cases e : pkD ρ i with
    | none => rw [e] at h; exact h.elim
    | some d =>
      rw [e] at h
      obtain ⟨v, e2, _⟩ := I.pk e
      exact ⟨v, e2, k none ρ v H F L I e2 (Stp.refl _ _ _) h⟩
def finA2 (g : D → D → Option D) (oa ob : Opd) (x y : Option D) : M Sl := fun ρ => match o2 ρ oa x, o2 ρ ob y with
  | some dx, some dy => (match g dx dy with | some d => .ok (.ow d) ρ | none => .no)
  | _, _ => .no
def aOp2 (g : D → D → Option D) (oa ob : Opd) : M Sl := bindM (o1 oa) fun x => bindM (o1 ob) fun y => finA2 g oa ob x y
theorem opA2_imp {r : R2} {g : D → D → Option D} {oa ob : Opd} {Q : VK} (ok : OkA2 G r g) (h : tA G β W (aOp2 g oa ob) σ H Q) : tOp r (tO G β W oa) (tO G β W ob) σ H Q := by
  obtain ⟨F, ρ, L, I, h⟩ := h
  refine tO_bindA I h fun x ρ1 v H1 F1 L1 I1 w1 t1 h1 => ?_
  refine tO_bindA I1 h1 fun y ρ2 u H2 F2 L2 I2 w2 t2 h2 => ?_
  unfold finA2 at h2
  cases e1 : o2 ρ2 oa x with
  | none => rw [e1] at h2; exact h2.elim
  | some dx =>
    cases e2 : o2 ρ2 ob y with
    | none => rw [e1, e2] at h2; exact h2.elim
    | some dy =>
      cases e3 : g dx dy with
      | none => rw [e1, e2] at h2; dsimp only at h2; rw [e3] at h2; exact h2.elim
      | some d =>
        rw [e1, e2] at h2; dsimp only at h2; rw [e3] at h2
        exact ok v u dx dy d H2 F2 Q ((w1.step I1 t2).late I2 e1) (w2.late I2 e2) e3 fun p xs l hp ed rs => by subst ed; exact new_own I2 hp rs h2
theorem sa_add {oa ob : Opd} (ha : PE X a (tO G β W oa)) (hb : PE X b (tO G β W ob)) : PE X (.BinOp a .Add b pos) (tA G β W (aOp2 dAddL oa ob)) := PE.imp (pe_op op_cat ha hb) fun _ _ _ q => opA2_imp (ok_addL G) q
/-- a call of a built-in that lays a new list -/
def OkAN (G : Glb) (r : List V → Hp → VK → Prop) (g : List D → Option D) : Prop := ∀ (xs : List V) (ds : List D) (d : D) (H : Hp) (F : Addr → Prop) (Q : VK), RWs G H F ds xs → g ds = some d →
  (∀ p xs l, H p = none → d = .lst l → RVs G H F l xs → Q (.ref p) (upd H p (.lst xs))) → r xs H Q
theorem OkAN.ok {r : List V → Hp → VK → Prop} {g : List D → Option D} (h : OkAN G r g) : OkN G r g := fun xs ds d H F Q hx e q => h xs ds d H F Q hx e fun p xs l hp ed rs => by subst ed; exact new_lst hp rs q
theorem tOs_bindA : ∀ {os : List Opd} {f : List (Option D) → M Sl} {Q : VK} {K : List V → Hp → Prop} {H : Hp} {F : Addr → Prop} {ρ : List Sl} {L : Nat → List Addr}, St G β H F σ ρ L → PostA G β W σ H F (Own L) Q (bindM (oL1 os) f ρ) →
    (∀ xs ρ1 vs H1 F1 L1, St G β H1 F1 σ ρ1 L1 → OWs G H1 F1 σ os xs vs → Stp H F (Own L) H1 F1 (Own L1) → PostA G β W σ H1 F1 (Own L1) Q (f xs ρ1) → K vs H1) → tOs G β W os σ H K
  | [], f, Q, K, H, F, ρ, L, I, h, k => k [] ρ [] H F L I rfl (Stp.refl _ _ _) h
  | o :: os, f, Q, K, H, F, ρ, L, I, h, k => by
    show tO G β W o σ H fun x H1 => tOs G β W os σ H1 fun xs H2 => K (x :: xs) H2
    have h' : PostA G β W σ H F (Own L) Q (bindM (o1 o) (fun x => bindM (oL1 os) fun xs => f (x :: xs)) ρ) := by
      have e : bindM (oL1 (o :: os)) f = bindM (o1 o) (fun x => bindM (oL1 os) fun xs => f (x :: xs)) := by
        show bindM (bindM (o1 o) fun x => bindM (oL1 os) fun xs => retM (x :: xs)) f = _
        rw [bindM_assoc]
        congr 1
        funext x
        rw [bindM_assoc]
        rfl
      rw [e] at h
      exact h
    refine tO_bindA I h' fun x ρ1 v H1 F1 L1 I1 w1 t1 h1 => ?_
    refine tOs_bindA I1 h1 fun xs ρ2 vs H2 F2 L2 I2 w2 t2 h2 => ?_
    exact k (x :: xs) ρ2 (v :: vs) H2 F2 L2 I2 ⟨w1.step I1 t2, w2⟩ (t1.trans t2) h2
def finAN (g : List D → Option D) (os : List Opd) (xs : List (Option D)) : M Sl := fun ρ => match oL2 ρ os xs with
  | some ds => (match g ds with | some d => .ok (.ow d) ρ | none => .no)
  | none => .no
def aOpN (g : List D → Option D) (os : List Opd) : M Sl := bindM (oL1 os) fun xs => finAN g os xs
theorem opAN_imp {r : List V → Hp → VK → Prop} {g : List D → Option D} {os : List Opd} {Q : VK} (ok : OkAN G r g) (h : tA G β W (aOpN g os) σ H Q) : tCB r (tOs G β W os) σ H Q := by
  obtain ⟨F, ρ, L, I, h⟩ := h
  refine tOs_bindA I h fun xs ρ1 vs H1 F1 L1 I1 w1 t1 h1 => ?_
  unfold finAN at h1
  cases e1 : oL2 ρ1 os xs with
  | none => rw [e1] at h1; exact h1.elim
  | some ds =>
    cases e3 : g ds with
    | none => rw [e1] at h1; dsimp only at h1; rw [e3] at h1; exact h1.elim
    | some d =>
      rw [e1] at h1; dsimp only at h1; rw [e3] at h1
      exact ok vs ds d H1 F1 Q (w1.late I1 e1) e3 fun p xs l hp ed rs => by subst ed; exact new_own I1 hp rs h1
/-- the name's list goes out of its slot (in a return) -/
def aVar (i : Nat) : M Sl := fun ρ => match ρ[i]? with
  | some (.sh d) => .ok (.sh d) ρ
  | some (.ow d) => .ok (.ow d) (ρ.set i .emp)
  | some (.tr d) => .ok (.tr d) (ρ.set i .emp)
  | _ => .no
theorem sa_var {i : Nat} (h : PE X e (tVar i)) : PE X e (tA G β W (aVar i)) := by
  refine PE.imp h fun σ H Q q => ?_
  obtain ⟨F, ρ, L, I, q⟩ := q
  unfold aVar at q
  cases e1 : ρ[i]? with
  | none => rw [e1] at q; exact q.elim
  | some s =>
    have hi : i < ρ.length := (List.getElem?_eq_some_iff.mp e1).1
    cases s with
    | emp => rw [e1] at q; exact q.elim
    | io d => rw [e1] at q; exact q.elim
    | sh d =>
      rw [e1] at q
      obtain ⟨_, v, ev, r⟩ := I.slot i _ e1
      refine ⟨v, getD_some ev, q v H F L [] I (Res.sh r) ?_⟩
      rw [ow2_nil]
      exact Stp.refl _ _ _
    | ow d =>
      rw [e1] at q
      obtain ⟨p, el, ev, ro⟩ := I.slot i _ e1
      have hp : p ∈ L i := by rw [el]; exact List.mem_cons_self
      have I1 := I.setEmp (o := some (.ref p)) hi
      have es : σ.set i (some (.ref p)) = σ := by rw [← ev]; exact set_getD (by rw [I.len]; exact hi)
      rw [es] at I1
      refine ⟨_, getD_some ev, q _ H F _ [p] I1 ⟨⟨p, rfl, rfl, ro⟩, by simp, fun x h j hj => ?_, fun x h => ?_, fun x h => ?_⟩ ?_⟩
      · rw [List.mem_singleton.mp h] at hj
        by_cases q' : j = i
        · subst q'; rw [setL_same] at hj; cases hj
        · rw [setL_ne q'] at hj; exact q' (I.apart j i p hj hp)
      · rw [List.mem_singleton.mp h]; exact I.nF i p hp
      · rw [List.mem_singleton.mp h]; exact I.mu i p hp
      · refine ⟨fun _ _ _ e => e, fun _ _ _ e => e, fun _ u e => ⟨u, e⟩, fun _ f => f, fun _ f => .inl f, fun x o => .inl ?_⟩
        rcases o with o | o
        · exact (own_setL o).elim id fun z => nomatch z
        · rw [List.mem_singleton.mp o]; exact ⟨i, hp⟩
    | tr d =>
      rw [e1] at q
      obtain ⟨v, ev, dt⟩ := I.slot i _ e1
      have I1 := I.setEmp (o := some v) hi
      have es : σ.set i (some v) = σ := by rw [← ev]; exact set_getD (by rw [I.len]; exact hi)
      rw [es] at I1
      refine ⟨v, getD_some ev, q v H F _ (L i) I1 ⟨⟨v, rfl, dt⟩, I.nd i, fun x h j hj => ?_, fun x h => I.nF i x h, fun x h => I.mu i x h⟩ ?_⟩
      · by_cases q' : j = i
        · subst q'; rw [setL_same] at hj; cases hj
        · rw [setL_ne q'] at hj; exact q' (I.apart j i x hj h)
      · refine ⟨fun _ _ _ e => e, fun _ _ _ e => e, fun _ u e => ⟨u, e⟩, fun _ f => f, fun _ f => .inl f, fun x o => .inl ?_⟩
        rcases o with o | o
        · exact (own_setL o).elim id fun z => nomatch z
        · exact ⟨i, o⟩
end

/-! ## Statements -/
def PostS (G : Glb) (β : Bt) (W : WX) (H : Hp) (F O : Addr → Prop) (D : Ends) : R Flw → Prop
  | .ok .nx ρ' => ∀ σ' H' F' L', St G β H' F' σ' ρ' L' → Stp H F O H' F' (Own L') → D.nx σ' H'
  | .ok .bk ρ' => ∀ σ' H' F' L', St G β H' F' σ' ρ' L' → Stp H F O H' F' (Own L') → D.bk σ' H'
  | .ok .ct ρ' => ∀ σ' H' F' L', St G β H' F' σ' ρ' L' → Stp H F O H' F' (Own L') → D.ct σ' H'
  | .ok (.rt s) ρ' => ∀ v σ' H' F' L' lr, St G β H' F' σ' ρ' L' → Res G H' F' L' s v lr → Stp H F O H' F' (Ow2 L' lr) → D.rt v H'
  | .ex c l ρ' => ∀ σ' H' F' L' dd, St G β H' F' σ' ρ' L' → XR G H' F' c l dd → Stp H F O H' F' (Own L') → W (.ref (G.cls c)) dd σ' H'
  | .no => False
def tS (G : Glb) (β : Bt) (W : WX) (m : M Flw) : TS := fun D σ H => ∃ F ρ L, St G β H F σ ρ L ∧ PostS G β W H F (Own L) D (m ρ)
def seqM (a b : M Flw) : M Flw := bindM a fun f => match f with | .nx => b | f => retM f
section
variable {X : Cx} {G : Glb} {β : Bt} {W : WX} {σ : L2.St} {H H' : Hp} {F F' : Addr → Prop} {ρ ρ' : List Sl} {L L' : Nat → List Addr} {e a b : Expr} {pos : Pos} {st : Stmt} {rest : List Stmt}
theorem PostS.trans {O O' : Addr → Prop} {D : Ends} {r : R Flw} (t : Stp H F O H' F' O') (h : PostS G β W H F O D r) : PostS G β W H' F' O' D r := by
  cases r with
  | ok f ρ' =>
    cases f with
    | nx => exact fun s H2 F2 L2 I q => h s H2 F2 L2 I (t.trans q)
    | bk => exact fun s H2 F2 L2 I q => h s H2 F2 L2 I (t.trans q)
    | ct => exact fun s H2 F2 L2 I q => h s H2 F2 L2 I (t.trans q)
    | rt x => exact fun v s H2 F2 L2 lr I r q => h v s H2 F2 L2 lr I r (t.trans q)
  | ex c l ρ' => exact fun s H2 F2 L2 dd I r q => h s H2 F2 L2 dd I r (t.trans q)
  | no => exact h
theorem tG_bindS {α γ : Type} {Rel : Hp → (Addr → Prop) → α → γ → Prop} {m : M α} {f : α → M Flw} {D : Ends} {K : γ → Hp → Prop} (I : St G β H F σ ρ L) (h : PostS G β W H F (Own L) D (bindM m f ρ))
    (k : ∀ a ρ1 c H1 F1 L1, St G β H1 F1 σ ρ1 L1 → Rel H1 F1 a c → Stp H F (Own L) H1 F1 (Own L1) → PostS G β W H1 F1 (Own L1) D (f a ρ1) → K c H1) : tG G β W Rel m σ H K := by
  refine ⟨F, ρ, L, I, ?_⟩
  unfold bindM at h
  cases e : m ρ with
  | ok a ρ1 =>
    rw [e] at h
    exact fun c H1 F1 L1 I1 r t => k a ρ1 c H1 F1 L1 I1 r t (h.trans t)
  | ex c l ρ1 =>
    rw [e] at h
    exact fun H' F' L' dd I r t => h σ H' F' L' dd I r t
  | no =>
    rw [e] at h
    exact h
theorem tA_bindS {m : M Sl} {f : Sl → M Flw} {D : Ends} {K : VK} (I : St G β H F σ ρ L) (h : PostS G β W H F (Own L) D (bindM m f ρ))
    (k : ∀ s ρ1 v H1 F1 L1 lr, m ρ = .ok s ρ1 → St G β H1 F1 σ ρ1 L1 → Res G H1 F1 L1 s v lr → Stp H F (Own L) H1 F1 (Ow2 L1 lr) → PostS G β W H F (Own L) D (f s ρ1) → K v H1) : tA G β W m σ H K := by
  refine ⟨F, ρ, L, I, ?_⟩
  unfold bindM at h
  cases e : m ρ with
  | ok a ρ1 =>
    rw [e] at h
    exact fun c H1 F1 L1 lr I1 r t => k a ρ1 c H1 F1 L1 lr e I1 r t h
  | ex c l ρ1 =>
    rw [e] at h
    exact fun H' F' L' dd I r t => h σ H' F' L' dd I r t
  | no =>
    rw [e] at h
    exact h
theorem ss_nil : PSs X [] (tS G β W (retM .nx)) := PSs.imp pss_nil fun D σ H ⟨F, ρ, L, I, q⟩ => q σ H F L I (Stp.refl _ _ _)
theorem seq_imp {D : Ends} {ma mb : M Flw} (q : tS G β W (seqM ma mb) D σ H) : tS G β W ma { D with nx := tS G β W mb D } σ H := by
  obtain ⟨F, ρ, L, I, q⟩ := q
  refine ⟨F, ρ, L, I, ?_⟩
  unfold seqM bindM at q
  cases e : ma ρ with
  | no => rw [e] at q; exact q
  | ex c l ρ' => rw [e] at q; exact q
  | ok f ρ' =>
    rw [e] at q
    cases f with
    | nx => exact fun s H' F' L' I' t => ⟨F', ρ', L', I', PostS.trans t q⟩
    | bk => exact q
    | ct => exact q
    | rt s => exact q
theorem ss_cons {ma mb : M Flw} (h1 : PS X st (tS G β W ma)) (h2 : PSs X rest (tS G β W mb)) : PSs X (st :: rest) (tS G β W (seqM ma mb)) :=
  PSs.imp (pss_cons h1 h2) fun _ _ _ q => seq_imp q
theorem ss_one {ma : M Flw} (h1 : PS X st (tS G β W ma)) : PSs X [st] (tS G β W ma) := pss_one h1
theorem ss_pass : PS X (.Pass pos) (tS G β W (retM .nx)) := PS.imp ps_pass fun D σ H ⟨F, ρ, L, I, q⟩ => q σ H F L I (Stp.refl _ _ _)
theorem ss_break : PS X (.Break pos) (tS G β W (retM .bk)) := PS.imp ps_break fun D σ H ⟨F, ρ, L, I, q⟩ => q σ H F L I (Stp.refl _ _ _)
theorem ss_continue : PS X (.Continue pos) (tS G β W (retM .ct)) := PS.imp ps_continue fun D σ H ⟨F, ρ, L, I, q⟩ => q σ H F L I (Stp.refl _ _ _)
def mRet (m : M Sl) : M Flw := bindM m fun s => retM (.rt s)
theorem ss_ret {m : M Sl} (he : PE X e (tA G β W m)) : PS X (.Return (some e) pos) (tS G β W (mRet m)) := PS.imp (ps_ret he) fun D σ H ⟨F, ρ, L, I, q⟩ =>
  tA_bindS I q fun s ρ1 v H1 F1 L1 lr _ I1 r t q1 => q1 v σ H1 F1 L1 lr I1 r t
theorem ss_retN : PS X (.Return none pos) (tS G β W (retM (.rt (.sh .non)))) := PS.imp ps_retN fun D σ H ⟨F, ρ, L, I, q⟩ => by
  refine q .non σ H F L [] I (Res.sh RV.non) ?_
  rw [ow2_nil]
  exact Stp.refl _ _ _
def mDo (m : M D) : M Flw := bindM m fun _ => retM .nx
theorem ss_expr {m : M D} (he : PE X e (tE G β W m)) (hs : swapsWith e none pos.line X.env = pure false := by rfl) : PS X (.Expr e pos) (tS G β W (mDo m)) := PS.imp (ps_expr he hs) fun D σ H ⟨F, ρ, L, I, q⟩ =>
  tG_bindS I q fun d ρ1 v H1 F1 L1 I1 r t q1 => q1 σ H1 F1 L1 I1 (Stp.refl _ _ _)
theorem ss_doc {x : Str} {j : Nat} {pos' : Pos} : PS X (.Expr (.Constant (.str x) j pos) pos') (tS G β W (retM .nx)) := PS.imp ps_doc fun D σ H ⟨F, ρ, L, I, q⟩ => q σ H F L I (Stp.refl _ _ _)
theorem ss_if {c : Expr} {sa sb : List Stmt} {t : M Bool} {ma mb : M Flw} (hc : PT X c (tT G β W t)) (ha : PSs X sa (tS G β W ma)) (hb : PSs X sb (tS G β W mb)) : PS X (.If c sa sb pos) (tS G β W (mIf t ma mb)) :=
  PS.imp (ps_if hc ha hb) fun D σ H ⟨F, ρ, L, I, q⟩ => tG_bindS I q fun k ρ1 c H1 F1 L1 I1 r t q1 => by
    subst r
    cases c with
    | true => exact iteT ⟨F1, ρ1, L1, I1, q1⟩
    | false => exact iteF ⟨F1, ρ1, L1, I1, q1⟩
/-- name = value -/
def putS (i : Nat) (s : Sl) : M Flw := fun ρ => if i < ρ.length then (match s with
  | .sh d => .ok .nx (ρ.set i (.sh d))
  | .ow d => .ok .nx (ρ.set i (.ow d))
  | .tr d => .ok .nx (ρ.set i (.tr d))
  | _ => .no) else .no
def mSet (i : Nat) (m : M Sl) : M Flw := bindM m (putS i)
theorem putS_post {D : Ends} {i : Nat} {s : Sl} {v : V} {lr : List Addr} {O : Addr → Prop} {H0 : Hp} {F0 : Addr → Prop} (I : St G β H F σ ρ L) (r : Res G H F L s v lr) (t : Stp H0 F0 O H F (Ow2 L lr)) (q : PostS G β W H0 F0 O D (putS i s ρ)) : D.nx (σ.set i (some v)) H := by
  unfold putS at q
  split at q
  · rename_i hi
    cases s with
    | emp => exact q.elim
    | io d => exact q.elim
    | sh d =>
      obtain ⟨el, v', ev, rv⟩ := r.rel
      cases ev
      rw [el, ow2_nil] at t
      exact q _ H F _ (I.setSh hi rv) (t.trans Stp.setL0)
    | ow d =>
      refine q _ H F _ (I.set hi r.rel r.nd (fun a h j _ => r.ap a h j) r.nF r.mu (fun _ z => nomatch z)) (t.trans ?_)
      exact ⟨fun _ _ _ e => e, fun _ _ _ e => e, fun _ u e => ⟨u, e⟩, fun _ f => f, fun _ f => .inl f, fun _ o => .inl (own_setL o)⟩
    | tr d =>
      refine q _ H F _ (I.set hi r.rel r.nd (fun a h j _ => r.ap a h j) r.nF r.mu (fun _ z => nomatch z)) (t.trans ?_)
      exact ⟨fun _ _ _ e => e, fun _ _ _ e => e, fun _ u e => ⟨u, e⟩, fun _ f => f, fun _ f => .inl f, fun _ o => .inl (own_setL o)⟩
  · exact q.elim
theorem ss_set {i : Nat} {x : Str} {m : M Sl} {pos' : Pos} (hN : X.N.Nodup) (hi : X.N[i]? = some x) (hx : Loc X.env.scope x) (he : PE X e (tA G β W m)) (hs : swapsWith e (some (.Name x pos')) pos.line X.env = pure false := by rfl)
    (hf : X.fn x = true ∨ X.env.scope.names.lookup x = some .local := by first | exact .inl rfl | exact .inr rfl | assumption) : PS X (.Assign [.Name x pos'] e pos) (tS G β W (mSet i m)) :=
  PS.imp (ps_set hN hi hx he hs hf) fun D σ H ⟨F, ρ, L, I, q⟩ => tA_bindS I q fun s ρ1 v H1 F1 L1 lr _ I1 r t q1 => putS_post I1 r t q1
/-- while, by a number of turns that is enough -/
def mWhile (c : M Bool) (b : M Flw) : Nat → M Flw
  | 0 => noM
  | n + 1 => bindM c fun k => if k = true then bindM b (fun f => match f with
      | .nx => mWhile c b n
      | .ct => mWhile c b n
      | .bk => retM .nx
      | .rt s => retM (.rt s)) else retM .nx
theorem ss_while {c : Expr} {body : List Stmt} {t : M Bool} {mb : M Flw} {n : Nat} (hp : PassesOwn (model X.prog X.w) X.A X.env X.xe) (hc : PT X c (tT G β W t)) (hb : PSs X body (tS G β W mb)) : PS X (.While c body [] pos) (tS G β W (mWhile t mb n)) := by
  refine PS.imp (ps_while hp hc hb) fun D σ H q => ?_
  refine ⟨fun n σ H => tS G β W (mWhile t mb n) D σ H, ⟨n, q⟩, fun m σ H q => ?_⟩
  obtain ⟨F, ρ, L, I, q⟩ := q
  cases m with
  | zero => exact q.elim
  | succ m =>
    refine tG_bindS I q fun k ρ1 c H1 F1 L1 I1 r t1 q1 => ?_
    subst r
    cases c with
    | false => exact iteF (q1 σ H1 F1 L1 I1 (Stp.refl _ _ _))
    | true =>
      rw [if_pos rfl] at q1
      refine iteT ⟨tS G β W (mWhile t mb m) D, fun σ' H' z => ⟨m, Nat.lt_succ_self m, z⟩, F1, ρ1, L1, I1, ?_⟩
      unfold bindM at q1
      cases e : mb ρ1 with
      | no => rw [e] at q1; exact q1
      | ex c l ρ' => rw [e] at q1; exact q1
      | ok f ρ' =>
        rw [e] at q1
        cases f with
        | nx => exact fun s H' F' L' I' t => ⟨F', ρ', L', I', PostS.trans t q1⟩
        | ct => exact fun s H' F' L' I' t => ⟨F', ρ', L', I', PostS.trans t q1⟩
        | bk => exact fun s H' F' L' I' t => q1 s H' F' L' I' t
        | rt s => exact q1

/-! ### a slot's own list or dict is changed -/
def Sl.own? : Sl → Option D
  | .ow d => some d
  | .io d => some d
  | _ => none
def Sl.re : Sl → D → Sl
  | .ow _, d => .ow d
  | .io _, d => .io d
  | s, _ => s
theorem St.wr (I : St G β H F σ ρ L) {i : Nat} {s : Sl} {d : D} (e : ρ[i]? = some s) (eo : s.own? = some d) : ∃ a, σ[i]? = some (some (.ref a)) ∧ RO G H F d a ∧ (∀ b u, immO u = true → H b = some u → b ≠ a) ∧ (∀ b, F b → b ≠ a) ∧
    ∀ o' d', immO o' = false → RO G (upd H a o') F d' a → St G β (upd H a o') F σ (ρ.set i (s.re d')) L ∧ Stp H F (Own L) (upd H a o') F (Own L) := by
  have hi : i < ρ.length := (List.getElem?_eq_some_iff.mp e).1
  have key : ∃ a, L i = [a] ∧ σ.getD i none = some (.ref a) ∧ RO G H F d a := by
    have q := I.slot i s e
    cases s with
    | ow d' => cases eo; exact q
    | io d' => cases eo; exact q
    | emp => cases eo
    | sh d' => cases eo
    | tr d' => cases eo
  obtain ⟨a, el, ev, ro⟩ := key
  have ha : a ∈ L i := by rw [el]; exact List.mem_cons_self
  obtain ⟨u0, eu, mu⟩ := I.mu i a ha
  have n1 : ∀ b u, immO u = true → H b = some u → b ≠ a := fun b u iu eb z => by subst z; rw [eu] at eb; cases eb; rw [mu] at iu; cases iu
  have n2 : ∀ b, F b → b ≠ a := fun b f z => by subst z; exact I.nF i b ha f
  refine ⟨a, getD_some ev, ro, n1, n2, fun o' d' im ro' => ⟨?_, ?_⟩⟩
  · have k1 : ∀ b u, immO u = true → H b = some u → upd H a o' b = some u := fun b u iu eb => by rw [upd_ne (n1 b u iu eb)]; exact eb
    have k2 : ∀ b u, F b → H b = some u → upd H a o' b = some u := fun b u f eb => by rw [upd_ne (n2 b f)]; exact eb
    refine ⟨by rw [List.length_set]; exact I.len, fun j t q => ?_, fun j h => I.out j (by rw [List.length_set] at h; exact h), I.nd, I.apart, I.nF, fun b f => ?_, fun j b h => ?_, fun j dd q => ?_⟩
    · by_cases q' : j = i
      · subst q'
        rw [List.getElem?_set_self hi] at q
        cases q
        cases s with
        | ow d'' => exact ⟨a, el, ev, ro'⟩
        | io d'' => exact ⟨a, el, ev, ro'⟩
        | emp => cases eo
        | sh d' => cases eo
        | tr d' => cases eo
      · rw [List.getElem?_set_ne (Ne.symm q')] at q
        refine SlR.mono k1 k2 (fun _ f => f) (fun b hb u eb => ?_) (I.slot j t q)
        rw [upd_ne (fun z => q' (by rw [z] at hb; exact I.apart j i a hb ha))]
        exact eb
    · obtain ⟨u, q⟩ := I.aF b f
      exact ⟨u, k2 b u f q⟩
    · by_cases q' : b = a
      · subst q'; exact ⟨o', upd_same, im⟩
      · rw [upd_ne q']; exact I.mu j b h
    · by_cases q' : j = i
      · subst q'
        rw [List.getElem?_set_self hi] at q
        cases s with
        | ow d'' => cases q
        | io d'' => exact I.ios j _ e
        | emp => cases eo
        | sh d' => cases eo
        | tr d' => cases eo
      · rw [List.getElem?_set_ne (Ne.symm q')] at q
        exact I.ios j dd q
  · refine ⟨fun b u iu eb => by rw [upd_ne (n1 b u iu eb)]; exact eb, fun b u nb eb => ?_, fun b u eb => ?_, fun _ f => f, fun _ f => .inl f, fun _ o => .inl o⟩
    · rw [upd_ne (fun z => nb ⟨i, by rw [z]; exact ha⟩)]; exact eb
    · by_cases q' : b = a
      · subst q'; exact ⟨o', upd_same⟩
      · rw [upd_ne q']; exact ⟨u, eb⟩
theorem RVs.upd {l : List D} {xs : List V} {p : Addr} {o' : HO} (n1 : ∀ b u, immO u = true → H b = some u → b ≠ p) (n2 : ∀ b, F b → b ≠ p) (r : RVs G H F l xs) : RVs G (upd H p o') F l xs :=
  RVs.mono (fun b u iu eb => by rw [upd_ne (n1 b u iu eb)]; exact eb) (fun b u f eb => by rw [upd_ne (n2 b f)]; exact eb) (fun _ f => f) l xs r
/-- the slot's own list through f; what is told -/
def ownM {α : Type} (i : Nat) (f : D → Option (D × α)) : M α := fun ρ => match ρ[i]? with
  | some s => (match s.own? with
    | some d => (match f d with
      | some (d', x) => .ok x (ρ.set i (s.re d'))
      | none => .no)
    | none => .no)
  | none => .no
theorem ownM_some {α : Type} {i : Nat} {f : D → Option (D × α)} {r : R α} (h : ownM i f ρ = r) (n : r ≠ .no) : ∃ s d d' x, ρ[i]? = some s ∧ s.own? = some d ∧ f d = some (d', x) ∧ r = .ok x (ρ.set i (s.re d')) := by
  unfold ownM at h
  split at h
  · split at h
    · split at h
      · exact ⟨_, _, _, _, by assumption, by assumption, by assumption, h.symm⟩
      · exact absurd h.symm n
    · exact absurd h.symm n
  · exact absurd h.symm n
theorem Post.ne {α γ : Type} {Rel : Hp → (Addr → Prop) → α → γ → Prop} {Q : γ → Hp → Prop} {O : Addr → Prop} {r : R α} (h : Post G β W Rel σ H F O Q r) : r ≠ .no := fun z => by rw [z] at h; exact h
def ownIs (p : D → Bool) (ρ : List Sl) (i : Nat) : Bool := match ρ[i]? with
  | some s => (match s.own? with | some d => p d | none => false)
  | none => false
theorem ownIs_some {p : D → Bool} {i : Nat} (h : ownIs p ρ i = true) : ∃ s d, ρ[i]? = some s ∧ s.own? = some d ∧ p d = true := by
  unfold ownIs at h
  split at h
  · split at h
    · exact ⟨_, _, by assumption, by assumption, h⟩
    · cases h
  · cases h
def D.isL : D → Bool
  | .lst _ => true
  | _ => false
def D.isD : D → Bool
  | .dk _ _ => true
  | .dt _ _ => true
  | _ => false
/-- a method of a list or a dict: x.append(e) and its like -/
def OkM (G : Glb) (r : V → List V → Hp → VK → Prop) (f : List D → D → Option (D × D)) : Prop := ∀ (a : Addr) (xs : List V) (ds : List D) (d d' e : D) (H : Hp) (F : Addr → Prop) (Q : VK),
  (∀ b u, immO u = true → H b = some u → b ≠ a) → (∀ b, F b → b ≠ a) → RO G H F d a → RVs G H F ds xs → f ds d = some (d', e) →
  (∀ v o', immO o' = false → RO G (upd H a o') F d' a → RV G (upd H a o') F e v → Q v (upd H a o')) → r (.ref a) xs H Q
def mMeth (p : D → Bool) (i : Nat) (ms : M (List D)) (f : List D → D → Option (D × D)) : M D := fun ρ => if ownIs p ρ i = true then bindM ms (fun ds => ownM i (f ds)) ρ else .no
theorem meth_imp {p : D → Bool} {i : Nat} {ms : M (List D)} {f : List D → D → Option (D × D)} {r : V → List V → Hp → VK → Prop} {T : String} {Q : VK} (ok : OkM G r f)
    (hT : ∀ (d : D) (a : Addr) (H : Hp) (F : Addr → Prop), p d = true → RO G H F d a → tyV X.K T (.ref a) H) (q : tE G β W (mMeth p i ms f) σ H Q) : tBM X.K T r (tVar i) (tAs G β W ms) σ H Q := by
  obtain ⟨F, ρ, L, I, q⟩ := q
  unfold mMeth at q
  split at q
  · rename_i h
    obtain ⟨s, d, e1, e2, e3⟩ := ownIs_some h
    obtain ⟨a, ea, ro, _⟩ := I.wr e1 e2
    refine ⟨_, ea, hT d a H F e3 ro, tG_bind I q fun ds ρ1 vs H1 F1 L1 I1 rs t q1 => ?_⟩
    obtain ⟨s1, d1, d1', x, f1, f2, f3, f4⟩ := ownM_some rfl q1.ne
    rw [f4] at q1
    obtain ⟨a', ea', ro', n1, n2, w⟩ := I1.wr f1 f2
    rw [ea] at ea'
    cases ea'
    exact ok a vs ds d1 d1' x H1 F1 Q n1 n2 ro' rs f3 fun v o' im ro2 rv => by
      obtain ⟨I2, t2⟩ := w o' d1' im ro2
      exact q1 v _ _ _ I2 rv t2
  · exact q.elim
theorem tyL {K : PySem.W.Frag} (d : D) (a : Addr) (H : Hp) (F : Addr → Prop) (h : D.isL d = true) (r : RO G H F d a) : tyV K "list" (.ref a) H := by
  cases d with
  | lst l => obtain ⟨xs, e, _⟩ := r; exact .inl ⟨rfl, xs, SqL.of e⟩
  | _ => cases h
theorem ty1 {i : Nat} {ms : M (List D)} {f : List D → D → Option (D × D)} {r : V → List V → Hp → VK → Prop} {o : Expr} {es : List Expr} {name : Str} {apos cpos : Pos} {id : String} (ok : OkM G r f)
    (slot : Slot "list" name id) (hty : typeOf (.builtin id) = pure (.type "method_descriptor")) (hm : MtR X id r) (ho : PE X o (tVar i)) (ha : PA X (e :: es) (tAs G β W ms))
    (hbase : attributeBase o name X.env (eval o X.env) = eval o X.env := by rfl)
    (hfew : ((backTo cpos (starEach (e :: es) X.env)).all (fun x => !x.1) && (backToKw cpos (keywordEach [] X.env)).all (fun x => x.1.isSome)
      && decide ((e :: es).length + ([] : List Keyword).length + (if ([] : List Keyword).isEmpty then 0 else 1) < 30)) = true := by rfl)
    (hline : (apos.endLine == cpos.line) = true := by rfl) (hs : starEach (e :: es) X.env = (false, eval e X.env) :: starEach es X.env := by rfl) (hplain : (backTo cpos (starEach es X.env)).any (·.1) = false := by rfl) :
    PE X (.Call (.Attribute o name apos) (e :: es) [] cpos) (tE G β W (mMeth D.isL i ms f)) :=
  PE.imp (pe_bm PySem.F.plainAttrs_list slot hty hm ho ha hbase hfew hline hs hplain) fun _ _ _ q => meth_imp ok tyL q
theorem ty0 {i : Nat} {f : List D → D → Option (D × D)} {r : V → List V → Hp → VK → Prop} {o : Expr} {name : Str} {apos cpos : Pos} {id : String} (ok : OkM G r f)
    (slot : Slot "list" name id) (hty : typeOf (.builtin id) = pure (.type "method_descriptor")) (hm : MtR X id r) (ho : PE X o (tVar i))
    (hbase : attributeBase o name X.env (eval o X.env) = eval o X.env := by rfl) (hline : (apos.endLine == cpos.line) = true := by rfl) :
    PE X (.Call (.Attribute o name apos) [] [] cpos) (tE G β W (mMeth D.isL i (mEach []) f)) :=
  PE.imp (pe_bm0 PySem.F.plainAttrs_list slot hty hm ho hbase hline) fun σ H Q q => by
    obtain ⟨v, ev, ty, F, ρ, L, I, q⟩ := meth_imp (X := X) ok tyL q
    exact ⟨v, ev, ty, q [] H F L I RVs.nil (Stp.refl _ _ _)⟩

def fApp : List D → D → Option (D × D)
  | [x], .lst l => if l.length < LIM then some (.lst (l ++ [x]), .non) else none
  | _, _ => none
theorem ok_append : OkM G rAppend fApp := by
  intro a xs ds d d' e H F Q n1 n2 ro rs h q
  unfold fApp at h
  split at h
  · split at h
    · cases h
      obtain ⟨zs, eh, r⟩ := ro
      unfold RVs at rs
      obtain ⟨y, ys, rfl, ry, rn⟩ := rs
      unfold RVs at rn
      subst rn
      exact ⟨a, zs, y, rfl, rfl, eh, by rw [LIM_eq, ← r.len]; assumption, q _ _ rfl ⟨_, upd_same, RVs.upd n1 n2 (RVs.append r (RVs.cons ry RVs.nil))⟩ RV.non⟩
    · cases h
  · cases h
def fExt : List D → D → Option (D × D)
  | [.lst m], .lst l => if l.length + m.length ≤ LIM then some (.lst (l ++ m), .non) else none
  | _, _ => none
theorem ok_extend : OkM G rExtend fExt := by
  intro a xs ds d d' e H F Q n1 n2 ro rs h q
  unfold fExt at h
  split at h
  · split at h
    · cases h
      obtain ⟨zs, eh, r⟩ := ro
      unfold RVs at rs
      obtain ⟨y, ys, rfl, ry, rn⟩ := rs
      unfold RVs at rn
      subst rn
      unfold RV at ry
      obtain ⟨p, ws, rfl, fp, ep, rp⟩ := ry
      exact ⟨a, p, zs, ws, rfl, rfl, eh, ep, by rw [LIM_eq, ← r.len, ← rp.len]; assumption, q _ _ rfl ⟨_, upd_same, RVs.upd n1 n2 (RVs.append r rp)⟩ RV.non⟩
    · cases h
  · cases h
theorem RVs.dropLast {l : List D} {xs : List V} (r : RVs G H F l xs) : RVs G H F l.dropLast xs.dropLast := by
  rw [List.dropLast_eq_take, List.dropLast_eq_take, ← r.len]
  exact r.take _
theorem RVs.eraseIdx : ∀ {l : List D} {xs : List V} (i : Nat), RVs G H F l xs → RVs G H F (l.eraseIdx i) (xs.eraseIdx i)
  | [], xs, i, h => by unfold RVs at h; subst h; exact RVs.nil
  | d :: l, xs, 0, h => by
    unfold RVs at h
    obtain ⟨y, ys, rfl, r, rs⟩ := h
    exact rs
  | d :: l, xs, i + 1, h => by
    unfold RVs at h
    obtain ⟨y, ys, rfl, r, rs⟩ := h
    exact RVs.cons r (RVs.eraseIdx i rs)
def fPop : List D → D → Option (D × D)
  | [], .lst l => l[l.length - 1]?.map fun x => (.lst l.dropLast, x)
  | _, _ => none
theorem ok_pop : OkM G rPop fPop := by
  intro a xs ds d d' e H F Q n1 n2 ro rs h q
  unfold fPop at h
  split at h
  · obtain ⟨x, ex, e2⟩ := Option.map_eq_some_iff.mp h
    cases e2
    obtain ⟨zs, eh, r⟩ := ro
    unfold RVs at rs
    subst rs
    obtain ⟨v, ev, rv⟩ := r.get ex
    refine ⟨a, zs, v, rfl, rfl, eh, by rw [← r.len]; exact ev, q _ _ rfl ⟨_, upd_same, RVs.upd n1 n2 r.dropLast⟩ ?_⟩
    exact RV.mono (fun b u iu eb => by rw [upd_ne (n1 b u iu eb)]; exact eb) (fun b u f eb => by rw [upd_ne (n2 b f)]; exact eb) (fun _ f => f) _ _ rv
  · cases h
def fPopAt : List D → D → Option (D × D)
  | [.int i], .lst l => if l.length ≤ LIM then (ixN l.length i).bind fun k => l[k]?.map fun x => (.lst (l.eraseIdx k), x) else none
  | _, _ => none
theorem ok_popAt : OkM G rPopAt fPopAt := by
  intro a xs ds d d' e H F Q n1 n2 ro rs h q
  unfold fPopAt at h
  split at h
  · split at h
    · rename_i hlen
      obtain ⟨k, ek, e1⟩ := Option.bind_eq_some_iff.mp h
      obtain ⟨x, ex, e2⟩ := Option.map_eq_some_iff.mp e1
      cases e2
      obtain ⟨zs, eh, r⟩ := ro
      unfold RVs at rs
      obtain ⟨y, ys, rfl, ry, rn⟩ := rs
      unfold RVs at rn
      subst rn
      unfold RV at ry
      subst ry
      obtain ⟨v, ev, rv⟩ := r.get ex
      obtain ⟨s1, s2, s3, s4⟩ := ixN_seq ek
      have hL : (LIM : Nat) = 16777216 := rfl
      refine ⟨a, zs, _, k, v, rfl, rfl, eh, by omega, by omega, by rw [← r.len]; exact s1, ev, q _ _ rfl ⟨_, upd_same, RVs.upd n1 n2 (r.eraseIdx k)⟩ ?_⟩
      exact RV.mono (fun b u iu eb => by rw [upd_ne (n1 b u iu eb)]; exact eb) (fun b u f eb => by rw [upd_ne (n2 b f)]; exact eb) (fun _ f => f) _ _ rv
    · cases h
  · cases h
def fRev : List D → D → Option (D × D)
  | [], .lst l => some (.lst l.reverse, .non)
  | _, _ => none
theorem ok_reverse : OkM G rReverse fRev := by
  intro a xs ds d d' e H F Q n1 n2 ro rs h q
  unfold fRev at h
  split at h
  · cases h
    obtain ⟨zs, eh, r⟩ := ro
    unfold RVs at rs
    subst rs
    exact ⟨a, zs, rfl, rfl, eh, q _ _ rfl ⟨_, upd_same, RVs.upd n1 n2 r.reverse⟩ RV.non⟩
  · cases h
def fClear : List D → D → Option (D × D)
  | [], .lst _ => some (.lst [], .non)
  | _, _ => none
theorem ok_clear : OkM G rClear fClear := by
  intro a xs ds d d' e H F Q n1 n2 ro rs h q
  unfold fClear at h
  split at h
  · cases h
    obtain ⟨zs, eh, r⟩ := ro
    unfold RVs at rs
    subst rs
    exact ⟨a, zs, rfl, rfl, eh, q _ _ rfl ⟨_, upd_same, RVs.nil⟩ RV.non⟩
  · cases h
section
variable {i : Nat} {o : Expr} {apos cpos : Pos} {m : M D}
theorem se_append (ho : PE X o (tVar i)) (he : PE X e (tE G β W m)) (hs : starEach [e] X.env = (false, eval e X.env) :: starEach [] X.env := by rfl) (hbase : attributeBase o "append" X.env (eval o X.env) = eval o X.env := by rfl)
    (hfew : ((backTo cpos (starEach [e] X.env)).all (fun x => !x.1) && (backToKw cpos (keywordEach [] X.env)).all (fun x => x.1.isSome)
      && decide ([e].length + ([] : List Keyword).length + (if ([] : List Keyword).isEmpty then 0 else 1) < 30)) = true := by rfl) (hline : (apos.endLine == cpos.line) = true := by rfl) :
    PE X (.Call (.Attribute o "append" apos) [e] [] cpos) (tE G β W (mMeth D.isL i (mEach [m]) fApp)) :=
  ty1 ok_append PySem.F.slot_list_append PySem.F.type_list_append mt_append ho (sl_cons he sl_nil hs) hbase hfew hline hs rfl
theorem se_extend (ho : PE X o (tVar i)) (he : PE X e (tE G β W m)) (hs : starEach [e] X.env = (false, eval e X.env) :: starEach [] X.env := by rfl) (hbase : attributeBase o "extend" X.env (eval o X.env) = eval o X.env := by rfl)
    (hfew : ((backTo cpos (starEach [e] X.env)).all (fun x => !x.1) && (backToKw cpos (keywordEach [] X.env)).all (fun x => x.1.isSome)
      && decide ([e].length + ([] : List Keyword).length + (if ([] : List Keyword).isEmpty then 0 else 1) < 30)) = true := by rfl) (hline : (apos.endLine == cpos.line) = true := by rfl) :
    PE X (.Call (.Attribute o "extend" apos) [e] [] cpos) (tE G β W (mMeth D.isL i (mEach [m]) fExt)) :=
  ty1 ok_extend PySem.F.slot_list_extend PySem.F.type_list_extend mt_extend ho (sl_cons he sl_nil hs) hbase hfew hline hs rfl
theorem se_popAt (ho : PE X o (tVar i)) (he : PE X e (tE G β W m)) (hs : starEach [e] X.env = (false, eval e X.env) :: starEach [] X.env := by rfl) (hbase : attributeBase o "pop" X.env (eval o X.env) = eval o X.env := by rfl)
    (hfew : ((backTo cpos (starEach [e] X.env)).all (fun x => !x.1) && (backToKw cpos (keywordEach [] X.env)).all (fun x => x.1.isSome)
      && decide ([e].length + ([] : List Keyword).length + (if ([] : List Keyword).isEmpty then 0 else 1) < 30)) = true := by rfl) (hline : (apos.endLine == cpos.line) = true := by rfl) :
    PE X (.Call (.Attribute o "pop" apos) [e] [] cpos) (tE G β W (mMeth D.isL i (mEach [m]) fPopAt)) :=
  ty1 ok_popAt PySem.F.slot_list_pop PySem.F.type_list_pop mt_popAt ho (sl_cons he sl_nil hs) hbase hfew hline hs rfl
theorem se_pop (ho : PE X o (tVar i)) (hbase : attributeBase o "pop" X.env (eval o X.env) = eval o X.env := by rfl) (hline : (apos.endLine == cpos.line) = true := by rfl) :
    PE X (.Call (.Attribute o "pop" apos) [] [] cpos) (tE G β W (mMeth D.isL i (mEach []) fPop)) := ty0 ok_pop PySem.F.slot_list_pop PySem.F.type_list_pop mt_pop ho hbase hline
theorem se_reverse (ho : PE X o (tVar i)) (hbase : attributeBase o "reverse" X.env (eval o X.env) = eval o X.env := by rfl) (hline : (apos.endLine == cpos.line) = true := by rfl) :
    PE X (.Call (.Attribute o "reverse" apos) [] [] cpos) (tE G β W (mMeth D.isL i (mEach []) fRev)) := ty0 ok_reverse PySem.F.slot_list_reverse PySem.F.type_list_reverse mt_reverse ho hbase hline
theorem se_clear (ho : PE X o (tVar i)) (hbase : attributeBase o "clear" X.env (eval o X.env) = eval o X.env := by rfl) (hline : (apos.endLine == cpos.line) = true := by rfl) :
    PE X (.Call (.Attribute o "clear" apos) [] [] cpos) (tE G β W (mMeth D.isL i (mEach []) fClear)) := ty0 ok_clear PySem.F.slot_list_clear PySem.F.type_list_clear mt_clear ho hbase hline
end

/-! ### x[k] = e -/
theorem PSet.or {t t' : TSet} (h : PSet X t) (h' : PSet X t') : PSet X (fun o i v H Q => t o i v H Q ∨ t' o i v H Q) := by
  intro pins s σ H o i v ov iv u Q I ro ri rv q
  rcases q with q | q
  · exact h pins s σ H o i v ov iv u Q I ro ri rv q
  · exact h' pins s σ H o i v ov iv u Q I ro ri rv q
def OkSet (G : Glb) (t : TSet) (f : D → D → D → Option D) : Prop := ∀ (a : Addr) (kv v : V) (dk d c c' : D) (H : Hp) (F : Addr → Prop) (Q : Hp → Prop),
  (∀ b u, immO u = true → H b = some u → b ≠ a) → (∀ b, F b → b ≠ a) → RO G H F c a → RV G H F dk kv → RV G H F d v → f dk d c = some c' →
  (∀ o', immO o' = false → RO G (upd H a o') F c' a → Q (upd H a o')) → t (.ref a) kv v H Q
def mPut (i : Nat) (mk : M D) (m : M D) (f : D → D → D → Option D) : M Flw := bindM m fun d => fun ρ => if ownIs (fun _ => true) ρ i = true then bindM mk (fun k => bindM (ownM i fun c => (f k d c).map fun c' => (c', ())) fun _ => retM .nx) ρ else .no
theorem put_imp {i : Nat} {mk m : M D} {f : D → D → D → Option D} {t : TSet} {D : Ends} (ok : OkSet G t f) (q : tS G β W (mPut i mk m f) D σ H) : tAsg (tE G β W m) (gSub (tVar i) (tE G β W mk) t) D σ H := by
  obtain ⟨F, ρ, L, I, q⟩ := q
  refine tG_bindS I q fun d ρ1 v H1 F1 L1 I1 rv t1 q1 => ?_
  split at q1
  · rename_i h
    obtain ⟨s, c, e1, e2, _⟩ := ownIs_some h
    obtain ⟨a, ea, _, _⟩ := I1.wr e1 e2
    refine ⟨_, ea, tG_bindS I1 q1 fun k ρ2 kv H2 F2 L2 I2 rk t2 q2 => ?_⟩
    have ne : ownM i (fun c => (f k d c).map fun c' => (c', ())) ρ2 ≠ .no := fun z => by unfold bindM at q2; rw [z] at q2; exact q2
    obtain ⟨s1, c1, c1', x, f1, f2, f3, f4⟩ := ownM_some rfl ne
    unfold bindM at q2
    rw [f4] at q2
    obtain ⟨c2, f5, f6⟩ := Option.map_eq_some_iff.mp f3
    cases f6
    obtain ⟨a', ea', ro', n1, n2, w⟩ := I2.wr f1 f2
    rw [ea] at ea'
    cases ea'
    exact ok a kv v k d c1 c1' H2 F2 _ n1 n2 ro' rk (RV.step I1 t2 rv) f5 fun o' im ro2 => by
      obtain ⟨I3, t3⟩ := w o' c1' im ro2
      exact q2 σ _ _ _ I3 t3
  · exact q1.elim
end
end Ev
namespace Ev
open PySem PySem.Spec PyProof.Rows L2

/-! ## What is walked -/
/-- what was seen at H0 is still so -/
structure Per (H0 : Hp) (F0 : Addr → Prop) (H : Hp) (F : Addr → Prop) : Prop where
  k1 : ∀ a u, immO u = true → H0 a = some u → H a = some u
  k2 : ∀ a u, F0 a → H0 a = some u → H a = some u
  k3 : ∀ a, F0 a → F a
theorem Per.refl (H : Hp) (F : Addr → Prop) : Per H F H F := ⟨fun _ _ _ e => e, fun _ _ _ e => e, fun _ f => f⟩
theorem Per.rv {G : Glb} {H H' : Hp} {F F' : Addr → Prop} (p : Per H F H' F') {d : D} {v : V} (r : RV G H F d v) : RV G H' F' d v := RV.mono p.k1 p.k2 p.k3 d v r
theorem Per.rvs {G : Glb} {H H' : Hp} {F F' : Addr → Prop} (p : Per H F H' F') {d : List D} {v : List V} (r : RVs G H F d v) : RVs G H' F' d v := RVs.mono p.k1 p.k2 p.k3 d v r
theorem Per.step {G : Glb} {β : Bt} {σ : L2.St} {ρ : List Sl} {L : Nat → List Addr} {H0 H H' : Hp} {F0 F F' O' : Addr → Prop} (p : Per H0 F0 H F) (I : St G β H F σ ρ L) (t : Stp H F (Own L) H' F' O') : Per H0 F0 H' F' :=
  ⟨fun a u i e => t.imm a u i (p.k1 a u i e), fun a u f e => t.keep a u (I.notF (p.k3 a f)) (p.k2 a u f e), fun a f => t.mono a (p.k3 a f)⟩
theorem Per.ext {H0 H H' : Hp} {F0 F F' : Addr → Prop} (p : Per H0 F0 H F) (x : Ext H F H' F') : Per H0 F0 H' F' :=
  ⟨fun a u i e => x.keep a u (p.k1 a u i e), fun a u f e => x.keep a u (p.k2 a u f e), fun a f => x.mono a (p.k3 a f)⟩
/-- the walked thing yields these data -/
structure ItD (G : Glb) (J : It) (ds : List D) (H0 : Hp) (F0 : Addr → Prop) : Prop where
  go : ∀ i d H F, Per H0 F0 H F → ds[i]? = some d → J.go i H ∧ ∀ x H', J.yld i H x H' → ∃ F', Ext H F H' F' ∧ RV G H' F' d x
  stop : ∀ H F, Per H0 F0 H F → J.stop ds.length H
abbrev tI (G : Glb) (β : Bt) (W : WX) (m : M (List D)) : TI := fun σ H R => tG G β W (fun H F ds J => ItD G J ds H F) m σ H R
section
variable {G : Glb} {H : Hp} {F : Addr → Prop}
theorem itD_list {K : PySem.W.Frag} {a : Addr} {xs : List V} {l : List D} (f : F a) (e : H a = some (.lst xs)) (r : RVs G H F l xs) : ItD G (Itl K a) l H F where
  go := fun i d H' F' p ed => by
    obtain ⟨v, ev, _⟩ := r.get ed
    have e' := SqL.of (K := K) (p.k2 a _ f e)
    refine ⟨⟨xs, v, e', ev⟩, fun x H2 y => ?_⟩
    obtain ⟨rfl, y⟩ := y
    obtain ⟨v', ev', rv⟩ := (p.rvs r).get ed
    have z := y xs e'
    rw [ev'] at z; cases z
    exact ⟨F', Ext.refl _ _, rv⟩
  stop := fun H' F' p => ⟨xs, SqL.of (p.k2 a _ f e), by rw [r.len]; exact Nat.le_refl _⟩
theorem itD_tup {K : PySem.W.Frag} {a : Addr} {xs : List V} {l : List D} (e : H a = some (.tup xs)) (r : RVs G H F l xs) : ItD G (Itt K a) l H F where
  go := fun i d H' F' p ed => by
    obtain ⟨v, ev, _⟩ := r.get ed
    have e' := SqT.of (K := K) (p.k1 a _ rfl e)
    refine ⟨⟨xs, v, e', ev⟩, fun x H2 y => ?_⟩
    obtain ⟨rfl, y⟩ := y
    obtain ⟨v', ev', rv⟩ := (p.rvs r).get ed
    have z := y xs e'
    rw [ev'] at z; cases z
    exact ⟨F', Ext.refl _ _, rv⟩
  stop := fun H' F' p => ⟨xs, SqT.of (p.k1 a _ rfl e), by rw [r.len]; exact Nat.le_refl _⟩
/-- lo, lo + 1, .. -/
def rngD (lo : Int) : Nat → List D
  | 0 => []
  | n + 1 => .int lo :: rngD (lo + 1) n
theorem rngD_len : ∀ (lo : Int) (n : Nat), (rngD lo n).length = n
  | _, 0 => rfl
  | lo, n + 1 => by rw [rngD, List.length_cons, rngD_len]
theorem rngD_get : ∀ (lo : Int) (n i : Nat), i < n → (rngD lo n)[i]? = some (.int (lo + i))
  | lo, n + 1, 0, _ => by simp [rngD]
  | lo, n + 1, i + 1, h => by
    rw [rngD, List.getElem?_cons_succ, rngD_get (lo + 1) n i (by omega)]
    congr 2
    omega
theorem itD_rng (lo : Int) (n : Nat) : ItD G (Itr lo n) (rngD lo n) H F where
  go := fun i d H' F' p ed => by
    have hi : i < n := by
      have q := (List.getElem?_eq_some_iff.mp ed).1
      rw [rngD_len] at q
      exact q
    rw [rngD_get lo n i hi] at ed
    cases ed
    refine ⟨hi, fun x H2 y => ?_⟩
    obtain ⟨rfl, rfl⟩ := y
    exact ⟨F', Ext.refl _ _, by unfold RV; rfl⟩
  stop := fun H' F' p => by rw [rngD_len]; exact Nat.le_refl _
end

section
variable {X : Cx} {G : Glb} {β : Bt} {W : WX} {e a b : Expr} {pos : Pos} {tg : Expr}
theorem PI.imp {t t' : TI} (h : PI X tg e t) (k : ∀ σ H R, t' σ H R → t σ H R) : PI X tg e t' := ⟨fun pins s σ H R I q => h.run pins s σ H R I (k σ H R q)⟩
/-- walked by its value: a list or a tuple, a text -/
def ItV (X : Cx) (tg : Expr) (r : V → Hp → (It → Hp → Prop) → Prop) : Prop := ∀ (pins : List (Addr × Obj)) (s : Shared) (σ : L2.St) (H : Hp) (x : V) (v : Value) (R : It → Hp → Prop), Inv X pins σ H s → RelV x v → r x H R →
  wpAny (model X.prog X.w) X.A (pyIter v) (PIE X pins σ tg R) X.xe s
theorem pi_val {r : V → Hp → (It → Hp → Prop) → Prop} {te : TE} (h : ItV X tg r) (he : PE X e te) : PI X tg e (fun σ H R => te σ H fun x H1 => r x H1 R) :=
  ⟨fun pins s σ H R I q => thn (he.run pins s σ H _ I q) fun v s1 ⟨x, H1, I1, r1, q1⟩ => h pins s1 σ H1 x v R I1 r1 q1⟩
theorem ItV.or {r r' : V → Hp → (It → Hp → Prop) → Prop} (h : ItV X tg r) (h' : ItV X tg r') : ItV X tg (fun x H R => r x H R ∨ r' x H R) := by
  intro pins s σ H x v R I rv q
  rcases q with q | q
  · exact h pins s σ H x v R I rv q
  · exact h' pins s σ H x v R I rv q
theorem itv_list : ItV X tg (fun x H R => ∃ p ys, x = .ref p ∧ SqL X.K H p ys ∧ R (Itl X.K p) H) := by
  rintro pins s σ H x v R I rv ⟨p, ys, rfl, hq, q⟩
  cases (show v = Value.ref p from rv)
  obtain ⟨its, _, pl, _⟩ := I.list hq
  exact wpAny_pyIter_list pl.isList (pi_one (tk := s.toks) I _ (turn_list p _) ⟨_, Heap.get?_push_size _ rfl, rfl, rfl⟩ q)
theorem itv_tup : ItV X tg (fun x H R => ∃ p ys, x = .ref p ∧ SqT X.K H p ys ∧ R (Itt X.K p) H) := by
  rintro pins s σ H x v R I rv ⟨p, ys, rfl, hq, q⟩
  cases (show v = Value.ref p from rv)
  obtain ⟨its, _, pl, _⟩ := I.tuple hq
  exact wpAny_pyIter_tuple (show s.heap.IsTuple p its.toArray from pl) (pi_one (tk := s.toks) I _ (turn_tuple p _) ⟨_, Heap.get?_push_size _ rfl, rfl, rfl⟩ q)
theorem itv_str : ItV X tg (fun x H R => ∃ z, x = .str z ∧ R (Its z) H) := by
  rintro pins s σ H x v R I rv ⟨z, rfl, q⟩
  obtain ⟨t, rfl⟩ := rv
  cases ha : z.cps.all (· < 128)
  · exact wpAny_pyIter_wide ha (pi_one (tk := s.toks) I _ (turn_str _ z t "str_iterator" (.inr rfl)) ⟨_, Heap.get?_push_size _ rfl, rfl, rfl⟩ q)
  · exact wpAny_pyIter_ascii ha (pi_one (tk := s.toks) I _ (turn_str _ z t "str_ascii_iterator" (.inl rfl)) ⟨_, Heap.get?_push_size _ rfl, rfl, rfl⟩ q)
def itemsOf : D → Option (List D)
  | .lst l => some l
  | .tup l => some l
  | .str z => some (z.cps.toList.map fun c => .str ⟨#[c]⟩)
  | _ => none
def mIter (m : M D) : M (List D) := bindM m fun d => optM (itemsOf d)
theorem itD_str {H : Hp} {F : Addr → Prop} (z : Str) : ItD G (Its z) (z.cps.toList.map fun c => .str ⟨#[c]⟩) H F where
  go := fun i d H' F' p ed => by
    rw [List.getElem?_map] at ed
    obtain ⟨c, ec, rfl⟩ := Option.map_eq_some_iff.mp ed
    have hc : z.cps[i]? = some c := by simpa using ec
    have hi : i < z.cps.size := (Array.getElem?_eq_some_iff.mp hc).1
    refine ⟨hi, fun x H2 y => ?_⟩
    obtain ⟨rfl, c', ec', rfl⟩ := y
    rw [hc] at ec'; cases ec'
    exact ⟨F', Ext.refl _ _, by unfold RV; rfl⟩
  stop := fun H' F' p => by
    show z.cps.size ≤ _
    rw [List.length_map, Array.length_toList]
    exact Nat.le_refl _
theorem si_val {m : M D} (he : PE X e (tE G β W m)) : PI X tg e (tI G β W (mIter m)) := by
  refine PI.imp (pi_val (ItV.or itv_list (ItV.or itv_tup itv_str)) he) fun σ H R q => ?_
  obtain ⟨F, ρ, L, I, q⟩ := q
  refine tG_bind I q fun d ρ1 v H1 F1 L1 I1 r t q1 => ?_
  have fin : ∀ {ds : List D} {J : It}, Post G β W (fun H F ds J => ItD G J ds H F) σ H1 F1 (Own L1) R (retM ds ρ1) → ItD G J ds H1 F1 → R J H1 := fun q i => q _ H1 F1 L1 I1 i (Stp.refl _ _ _)
  cases d with
  | lst l =>
    unfold RV at r
    obtain ⟨p, xs, rfl, f, e, rs⟩ := r
    exact .inl ⟨p, xs, rfl, SqL.of e, fin q1 (itD_list f e rs)⟩
  | tup l =>
    unfold RV at r
    obtain ⟨p, xs, rfl, e, rs⟩ := r
    exact .inr (.inl ⟨p, xs, rfl, SqT.of e, fin q1 (itD_tup e rs)⟩)
  | str z =>
    unfold RV at r
    subst r
    exact .inr (.inr ⟨z, rfl, fin q1 (itD_str z)⟩)
  | _ => exact q1.elim
theorem optM_post {α γ : Type} {Rel : Hp → (Addr → Prop) → α → γ → Prop} {σ : L2.St} {H : Hp} {F O : Addr → Prop} {Q : γ → Hp → Prop} {o : Option α} {ρ : List Sl} (h : Post G β W Rel σ H F O Q (optM o ρ)) : ∃ x, o = some x ∧ Post G β W Rel σ H F O Q (retM x ρ) := by
  cases o with
  | none => exact h.elim
  | some x => exact ⟨x, rfl, h⟩
def rng1 (l : List D) : Option (List D) := match l with
  | [.int j] => if j < 4611686018427387904 ∧ -4611686018427387904 ≤ j then some (rngD 0 j.toNat) else none
  | _ => none
def rng2 (l : List D) : Option (List D) := match l with
  | [.int i, .int j] => if (j < 4611686018427387904 ∧ -4611686018427387904 ≤ j) ∧ i < 4611686018427387904 ∧ -4611686018427387904 ≤ i then some (rngD i (j - i).toNat) else none
  | _ => none
def mRng (f : List D → Option (List D)) (ms : M (List D)) : M (List D) := bindM ms fun l => optM (f l)
theorem si_rng1 {m : M D} {p : Pos} (hm : X.mg "range" = none) (ha : PE X a (tE G β W m)) (hg : Gl X "range" := by rfl) (hs0 : starEach [a] X.env = (false, eval a X.env) :: starEach [] X.env := by rfl) (hs : starEach [a] X.env = [(false, eval a X.env)] := by rfl) :
    PI X tg (.Call (.Name "range" p) [a] [] pos) (tI G β W (mRng rng1 (mEach [m]))) := by
  refine PI.imp (pi_range1 hg hm (sl_cons ha sl_nil hs0) hs) fun σ H R q => ?_
  obtain ⟨F, ρ, L, I, q⟩ := q
  refine tG_bind I q fun ds ρ1 vs H1 F1 L1 I1 r t q1 => ?_
  obtain ⟨ds', h, q1⟩ := optM_post q1
  · unfold rng1 at h
    split at h
    · split at h
      · rename_i j hj
        cases h
        unfold RVs at r
        obtain ⟨y, ys, rfl, ry, rn⟩ := r
        unfold RVs at rn
        unfold RV at ry
        subst rn ry
        exact ⟨j, rfl, by omega, by omega, q1 _ H1 F1 L1 I1 (itD_rng _ _) (Stp.refl _ _ _)⟩
      · cases h
    · cases h
theorem si_rng2 {m m' : M D} {p : Pos} (hm : X.mg "range" = none) (ha : PE X a (tE G β W m)) (hb : PE X b (tE G β W m')) (hg : Gl X "range" := by rfl) (hs0 : starEach [b] X.env = (false, eval b X.env) :: starEach [] X.env := by rfl)
    (hs1 : starEach [a, b] X.env = (false, eval a X.env) :: starEach [b] X.env := by rfl)
    (hs : starEach [a, b] X.env = [(false, eval a X.env), (false, eval b X.env)] := by rfl) (hs2 : starEach [b] X.env = [(false, eval b X.env)] := by rfl) :
    PI X tg (.Call (.Name "range" p) [a, b] [] pos) (tI G β W (mRng rng2 (mEach [m, m']))) := by
  refine PI.imp (pi_range2 hg hm (sl_cons ha (sl_cons hb sl_nil hs0) hs1) hs hs2) fun σ H R q => ?_
  obtain ⟨F, ρ, L, I, q⟩ := q
  refine tG_bind I q fun ds ρ1 vs H1 F1 L1 I1 r t q1 => ?_
  obtain ⟨ds', h, q1⟩ := optM_post q1
  · unfold rng2 at h
    split at h
    · split at h
      · rename_i i j hj
        cases h
        unfold RVs at r
        obtain ⟨y, ys, rfl, ry, rn⟩ := r
        unfold RVs at rn
        obtain ⟨y', ys', rfl, ry', rn'⟩ := rn
        unfold RVs at rn'
        unfold RV at ry ry'
        subst rn' ry ry'
        exact ⟨i, j, rfl, by omega, q1 _ H1 F1 L1 I1 (itD_rng _ _) (Stp.refl _ _ _)⟩
      · cases h
    · cases h

/-! ## Targets -/
theorem wipe_set {σ : L2.St} {i : Nat} {o : Option V} : ∀ {vs : List Nat}, i ∈ vs → wipe (σ.set i o) vs = wipe σ vs
  | v :: vs, h => by
    unfold wipe
    by_cases q : i ∈ vs
    · rw [wipe_set q]
    · have e : i = v := (List.mem_cons.mp h).resolve_right q
      subst e
      rw [wipe_out' q, List.set_set]
where
  wipe_out' : ∀ {vs : List Nat}, i ∉ vs → wipe (σ.set i o) vs = (wipe σ vs).set i o
    | [], _ => rfl
    | v :: vs, h => by
      unfold wipe
      rw [wipe_out' fun z => h (List.mem_cons_of_mem _ z)]
      exact List.set_comm _ _ (fun z => h (by rw [z]; exact List.mem_cons_self))
/-- a target takes a datum; only slots of vs are changed -/
def tGt (G : Glb) (β : Bt) (vs : List Nat) (f : D → M Unit) : TG := fun v σ H Q => ∃ F ρ L d ρ', St G β H F σ ρ L ∧ RV G H F d v ∧ f d ρ = .ok () ρ' ∧ ∀ σ' H' F' L', St G β H' F' σ' ρ' L' → Stp H F (Own L) H' F' (Own L') → wipe σ' vs = wipe σ vs → Q σ' H'
theorem PG.imp {t t' : TG} (h : PG X tg t) (k : ∀ v σ H Q, t' v σ H Q → t v σ H Q) : PG X tg t' := ⟨fun pins s σ H v u Q I r q => h.run pins s σ H v u Q I r (k v σ H Q q)⟩
def toName (i : Nat) : D → M Unit := fun d ρ => if i < ρ.length then .ok () (ρ.set i (.sh d)) else .no
theorem name_imp {i : Nat} {ws : List Nat} (hv : i ∈ ws) {v : V} {σ : L2.St} {H : Hp} {Q : L2.St → Hp → Prop} (q : tGt G β ws (toName i) v σ H Q) : gName i v σ H Q := by
  obtain ⟨F, ρ, L, d, ρ', I, r, e, q⟩ := q
  unfold toName at e
  split at e
  · rename_i hi
    cases e
    exact q _ H F _ (I.setSh hi r) Stp.setL0 (wipe_set hv)
  · cases e
theorem sg_name {i : Nat} {ws : List Nat} {x : Str} (hN : X.N.Nodup) (hi : X.N[i]? = some x) (hx : Loc X.env.scope x) (hf : X.fn x = true ∨ X.env.scope.names.lookup x = some .local := by first | exact .inl rfl | exact .inr rfl | assumption) (hv : i ∈ ws := by decide) : PG X (.Name x pos) (tGt G β ws (toName i)) :=
  PG.imp (pg_name hN hi hx hf) fun _ _ _ _ q => name_imp hv q
def toNames : List (D → M Unit) → List D → M Unit
  | [], [] => retM ()
  | f :: fs, d :: ds => bindM (f d) fun _ => toNames fs ds
  | _, _ => noM
def tGts (G : Glb) (β : Bt) (ws : List Nat) (fs : List (D → M Unit)) : TGs := fun vs σ H Q => ∃ F ρ L ds ρ', St G β H F σ ρ L ∧ RVs G H F ds vs ∧ toNames fs ds ρ = .ok () ρ' ∧ ∀ σ' H' F' L', St G β H' F' σ' ρ' L' → Stp H F (Own L) H' F' (Own L') → wipe σ' ws = wipe σ ws → Q σ' H'
theorem PGs.imp {es : List Expr} {t t' : TGs} (h : PGs X es t) (k : ∀ v σ H Q, t' v σ H Q → t v σ H Q) : PGs X es t' := ⟨fun pins s σ H v u Q I r q => h.run pins s σ H v u Q I r (k v σ H Q q)⟩
theorem sg_nil {ws : List Nat} : PGs X [] (tGts G β ws []) := PGs.imp pgs_nil fun vs σ H Q q => by
  obtain ⟨F, ρ, L, ds, ρ', I, r, e, q⟩ := q
  cases ds with
  | cons d ds => cases e
  | nil =>
    cases e
    unfold RVs at r
    exact ⟨r, q σ H F L I (Stp.refl _ _ _) rfl⟩
theorem sg_cons {ws : List Nat} {e : Expr} {es : List Expr} {f : D → M Unit} {fs : List (D → M Unit)} (h1 : PG X e (tGt G β ws f)) (h2 : PGs X es (tGts G β ws fs))
    (hs : (assignEach (e :: es) X.env).map (·.2) = assign e X.env :: (assignEach es X.env).map (·.2) := by rfl) : PGs X (e :: es) (tGts G β ws (f :: fs)) := PGs.imp (pgs_cons h1 h2 hs) fun vs σ H Q q => by
  obtain ⟨F, ρ, L, ds, ρ', I, r, e, q⟩ := q
  cases ds with
  | nil => cases e
  | cons d ds =>
    unfold RVs at r
    obtain ⟨y, ys, rfl, ry, rs⟩ := r
    have e' : bindM (f d) (fun _ => toNames fs ds) ρ = .ok () ρ' := e
    unfold bindM at e'
    cases ef : f d ρ with
    | no => rw [ef] at e'; cases e'
    | ex c l r => rw [ef] at e'; cases e'
    | ok u ρ1 =>
      rw [ef] at e'
      exact ⟨y, ys, rfl, F, ρ, L, d, ρ1, I, ry, ef, fun σ1 H1 F1 L1 I1 t1 z1 => ⟨F1, ρ1, L1, ds, ρ', I1, RVs.step I t1 rs, e', fun σ2 H2 F2 L2 I2 t2 z2 => q σ2 H2 F2 L2 I2 (t1.trans t2) (z2.trans z1)⟩⟩
def toTup (fs : List (D → M Unit)) : D → M Unit
  | .tup l => toNames fs l
  | _ => noM
theorem toNames_len : ∀ {fs : List (D → M Unit)} {ds : List D} {ρ ρ' : List Sl}, toNames fs ds ρ = .ok () ρ' → ds.length = fs.length
  | [], [], _, _, _ => rfl
  | [], _ :: _, _, _, h => by cases h
  | _ :: _, [], _, _, h => by cases h
  | f :: fs, d :: ds, ρ, ρ', h => by
    have h' : bindM (f d) (fun _ => toNames fs ds) ρ = .ok () ρ' := h
    unfold bindM at h'
    cases ef : f d ρ with
    | no => rw [ef] at h'; cases h'
    | ex c l r => rw [ef] at h'; cases h'
    | ok u ρ1 => rw [ef] at h'; rw [List.length_cons, List.length_cons, toNames_len h']
theorem sg_tup {ws : List Nat} {es : List Expr} {k : Nat} {fs : List (D → M Unit)} (hc : X.calm = true) (h : PGs X es (tGts G β ws fs)) (hn : (assignEach es X.env).length = fs.length := by rfl) (hst : (assignEach es X.env).findIdx? (·.1) = none := by rfl) :
    PG X (.Tuple es k pos) (tGt G β ws (toTup fs)) := PG.imp (pg_tup hc h hn hst) fun v σ H Q q => by
  obtain ⟨F, ρ, L, d, ρ', I, r, e, q⟩ := q
  unfold toTup at e
  split at e
  · unfold RV at r
    obtain ⟨p, xs, rfl, ep, rs⟩ := r
    refine ⟨p, xs, rfl, SqT.of ep, ?_, F, ρ, L, _, ρ', I, rs, e, q⟩
    rw [← rs.len]
    exact toNames_len e
  · cases e
/-- target = value, the target several names -/
def mAsg (f : D → M Unit) (m : M D) : M Flw := bindM m fun d => bindM (f d) fun _ => retM .nx
theorem tg_okS {ws : List Nat} {f : D → M Unit} {g : Unit → M Flw} {D : Ends} {d : Ev.D} {v : V} {σ : L2.St} {H : Hp} {F : Addr → Prop} {ρ : List Sl} {L : Nat → List Addr} {K : L2.St → Hp → Prop} (I : St G β H F σ ρ L) (r : RV G H F d v) (nr : ∀ c l ρ', f d ρ ≠ .ex c l ρ')
    (h : PostS G β W H F (Own L) D (bindM (f d) g ρ)) (k : ∀ σ1 ρ1 H1 F1 L1, St G β H1 F1 σ1 ρ1 L1 → Stp H F (Own L) H1 F1 (Own L1) → PostS G β W H1 F1 (Own L1) D (g () ρ1) → K σ1 H1) : tGt G β ws f v σ H K := by
  unfold bindM at h
  cases e : f d ρ with
  | no => rw [e] at h; exact h.elim
  | ex c l ρ' => exact absurd e (nr c l ρ')
  | ok u ρ1 =>
    rw [e] at h
    exact ⟨F, ρ, L, d, ρ1, I, r, e, fun σ1 H1 F1 L1 I1 t1 _ => k σ1 ρ1 H1 F1 L1 I1 t1 (h.trans t1)⟩
/-- a target that raises nothing -/
def Calm (f : D → M Unit) : Prop := ∀ d ρ c l ρ', f d ρ ≠ .ex c l ρ'
theorem calm_name (i : Nat) : Calm (toName i) := fun d ρ c l ρ' z => by
  unfold toName at z
  split at z <;> cases z
theorem calm_names : ∀ {fs : List (D → M Unit)}, (∀ f ∈ fs, Calm f) → ∀ ds ρ c l ρ', toNames fs ds ρ ≠ .ex c l ρ'
  | [], _, [], _, _, _, _, z => by cases z
  | [], _, _ :: _, _, _, _, _, z => by cases z
  | _ :: _, _, [], _, _, _, _, z => by cases z
  | f :: fs, h, d :: ds, ρ, c, l, ρ', z => by
    have z' : bindM (f d) (fun _ => toNames fs ds) ρ = .ex c l ρ' := z
    unfold bindM at z'
    cases ef : f d ρ with
    | no => rw [ef] at z'; cases z'
    | ex c l r => exact h f List.mem_cons_self d ρ c l r ef
    | ok u ρ1 => rw [ef] at z'; exact calm_names (fun g hg => h g (List.mem_cons_of_mem _ hg)) ds ρ1 c l ρ' z'
theorem calm_tup {fs : List (D → M Unit)} (h : ∀ f ∈ fs, Calm f) : Calm (toTup fs) := fun d ρ c l ρ' z => by
  unfold toTup at z
  split at z
  · exact calm_names h _ _ _ _ _ z
  · cases z
theorem ss_asg {ws : List Nat} {f : D → M Unit} {m : M D} (he : PE X e (tE G β W m)) (hg : PG X tg (tGt G β ws f)) (hc : Calm f) (hs : swapsWithSole [tg] e pos.line X.env = pure false := by rfl) (hw : swappedStores [tg] e X.env = pure none := by rfl)
    (h1 : (assignEach [tg] X.env).map (·.2) = [assign tg X.env] := by rfl) : PS X (.Assign [tg] e pos) (tS G β W (mAsg f m)) :=
  PS.imp (ps_asg he hg hs hw h1) fun D σ H ⟨F, ρ, L, I, q⟩ => tG_bindS I q fun d ρ1 v H1 F1 L1 I1 r t q1 =>
    tg_okS I1 r (hc d ρ1) q1 fun σ2 ρ2 H2 F2 L2 I2 t2 q2 => q2 σ2 H2 F2 L2 I2 (Stp.refl _ _ _)

/-! ## for -/
def forL (f : D → M Unit) (b : M Flw) : List D → M Flw
  | [] => retM .nx
  | d :: ds => bindM (f d) fun _ => bindM b fun w => match w with
    | .nx => forL f b ds
    | .ct => forL f b ds
    | .bk => retM .nx
    | .rt s => retM (.rt s)
def mFor (it : M (List D)) (f : D → M Unit) (b : M Flw) : M Flw := bindM it (forL f b)
theorem for_core {ws : List Nat} {f : D → M Unit} {b : M Flw} {D : Ends} {σ : L2.St} {H1 : Hp} {F1 : Addr → Prop} {ρ1 : List Sl} {L1 : Nat → List Addr} {J : It} {ds : List Ev.D} (hc : Calm f) (I1 : St G β H1 F1 σ ρ1 L1) (r : ItD G J ds H1 F1)
    (q1 : PostS G β W H1 F1 (Own L1) D (forL f b ds ρ1)) : ∃ W' : Nat → Nat → L2.St → Hp → Prop, (∃ m, W' 0 m σ H1) ∧ ∀ i m σ H, W' i m σ H →
      (J.stop i H ∧ D.nx σ H) ∨ (J.go i H ∧ ∃ N : L2.St → Hp → Prop, (∀ σ' H', N σ' H' → ∃ m', m' < m ∧ W' (i + 1) m' σ' H') ∧ ∀ x H', J.yld i H x H' → tGt G β ws f x σ H' fun σ2 H2 => tS G β W b { D with nx := N, ct := N, bk := D.nx } σ2 H2) := by
  refine ⟨fun i m σ H => ∃ F ρ L, m + i = ds.length ∧ St G β H F σ ρ L ∧ Per H1 F1 H F ∧ PostS G β W H F (Own L) D (forL f b (ds.drop i) ρ), ⟨ds.length, F1, ρ1, L1, rfl, I1, Per.refl _ _, q1⟩, ?_⟩
  rintro i m σ2 H2 ⟨F2, ρ2, L2, em, I2, p2, q2⟩
  cases m with
  | zero =>
    have ei : i = ds.length := by omega
    subst ei
    rw [List.drop_length] at q2
    exact .inl ⟨r.stop H2 F2 p2, q2 σ2 H2 F2 L2 I2 (Stp.refl _ _ _)⟩
  | succ m =>
    have hi : i < ds.length := by omega
    rw [List.drop_eq_getElem_cons hi] at q2
    obtain ⟨g1, g2⟩ := r.go i ds[i] H2 F2 p2 (List.getElem?_eq_getElem hi)
    refine .inr ⟨g1, fun σ' H' => ∃ F ρ L, m + (i + 1) = ds.length ∧ St G β H' F σ' ρ L ∧ Per H1 F1 H' F ∧ PostS G β W H' F (Own L) D (forL f b (ds.drop (i + 1)) ρ), fun σ' H' z => ⟨m, Nat.lt_succ_self m, z⟩, fun x H3 y => ?_⟩
    obtain ⟨F3, x3, rx⟩ := g2 x H3 y
    have I3 := I2.ext x3
    have q3 := PostS.trans (Stp.ext (O := Own L2) x3) q2
    refine tg_okS I3 rx (hc _ _) q3 fun σ4 ρ4 H4 F4 L4 I4 t4 q4 => ?_
    have p4 := (p2.ext x3).step I3 t4
    refine ⟨F4, ρ4, L4, I4, ?_⟩
    unfold bindM at q4
    cases eb : b ρ4 with
    | no => rw [eb] at q4; exact q4
    | ex c l ρ' => rw [eb] at q4; exact q4
    | ok w ρ5 =>
      rw [eb] at q4
      cases w with
      | nx => exact fun s H5 F5 L5 I5 t5 => ⟨F5, ρ5, L5, by omega, I5, p4.step I4 t5, PostS.trans t5 q4⟩
      | ct => exact fun s H5 F5 L5 I5 t5 => ⟨F5, ρ5, L5, by omega, I5, p4.step I4 t5, PostS.trans t5 q4⟩
      | bk => exact fun s H5 F5 L5 I5 t5 => q4 s H5 F5 L5 I5 t5
      | rt s => exact q4
theorem for_imp {ws : List Nat} {it : M (List D)} {f : D → M Unit} {b : M Flw} {D : Ends} {σ : L2.St} {H : Hp} (hc : Calm f) (q : tS G β W (mFor it f b) D σ H) : tFor (tI G β W it) (tGt G β ws f) (tS G β W b) D σ H := by
  obtain ⟨F, ρ, L, I, q⟩ := q
  exact tG_bindS I q fun ds ρ1 J H1 F1 L1 I1 r t q1 => for_core hc I1 r q1
theorem ss_for {ws : List Nat} {iter : Expr} {body : List Stmt} {it : M (List D)} {f : D → M Unit} {b : M Flw} (hp : PassesOwn (model X.prog X.w) X.A X.env X.xe) (hcal : X.calm = true) (hi : PI X tg iter (tI G β W it)) (hg : PG X tg (tGt G β ws f)) (hc : Calm f) (hb : PSs X body (tS G β W b))
    (hs : ∀ x, foldedSetIterable iter X.env x = pure x := by intro _; rfl) : PS X (.For tg iter body [] pos) (tS G β W (mFor it f b)) :=
  PS.imp (ps_for hp hcal hi hg hb hs) fun _ _ _ q => for_imp hc q
end
end Ev
namespace Ev
open PySem PySem.Spec PyProof.Rows L2

/-! ## Defs -/
inductive FR where
  | ok (r : Sl) (outs : List Sl) | ex (c : Nat) (l : List D) (outs : List Sl) | no
/-- what is left of the parameters behind a call: a caller's list or dict, or nothing -/
def outsOf : List Sl → List Sl → Option (List Sl)
  | [], _ => some []
  | .io _ :: ss, .io d :: ρ => (outsOf ss ρ).map (.io d :: ·)
  | .io _ :: _, _ => none
  | _ :: ss, _ :: ρ => (outsOf ss ρ).map (.emp :: ·)
  | _ :: _, [] => none
def finF (ss : List Sl) : R Flw → FR
  | .ok (.rt s) ρ => (match outsOf ss ρ with | some o => .ok s o | none => .no)
  | .ok .nx ρ => (match outsOf ss ρ with | some o => .ok (.sh .non) o | none => .no)
  | .ex c l ρ => (match outsOf ss ρ with | some o => .ex c l o | none => .no)
  | _ => .no
/-- a def's plain program: its parameters' slots, n further names -/
def runF (n : Nat) (m : M Flw) : List Sl → FR := fun ss => finF ss (m (ss ++ List.replicate n .emp))
def βOf (vs : List V) : Bt := fun i => vs[i]?
/-- a caller's list or dict is one behind the call -/
def Mtch (ss outs : List Sl) : Prop := ∀ j : Nat, (∃ d, ss[j]? = some (Sl.io d)) ↔ ∃ d, outs[j]? = some (Sl.io d)
def PostF (G : Glb) (ss : List Sl) (vs : List V) (H : Hp) (F O : Addr → Prop) (Q : VK) (E : XK) : FR → Prop
  | .ok s outs => Mtch ss outs → ∀ v H' F' L' lr, St G (βOf vs) H' F' (vs.map some) outs L' → Res G H' F' L' s v lr → Stp H F O H' F' (Ow2 L' lr) → Q v H'
  | .ex c l outs => Mtch ss outs → ∀ H' F' L' dd, St G (βOf vs) H' F' (vs.map some) outs L' → XR G H' F' c l dd → Stp H F O H' F' (Own L') → E (.ref (G.cls c)) dd H'
  | .no => False
/-- the promise: called with slots ss it does what S says of ss -/
def spD (G : Glb) (n : Nat) (S : List Sl → FR) : Sp := fun vs H Q E => vs.length = n ∧ ∃ F ss L, St G (βOf vs) H F (vs.map some) ss L ∧ PostF G ss vs H F (Own L) Q E (S ss)

/-- as FnOk, where no repr is under way -/
structure FnG (P : Program) (w : World) (K : PySem.W.Frag) (mg : Str → Option Value) (base : Heap) (k : Nat) (f : Addr) (fd : FuncData) (ps : List Str) (sp : Sp) : Prop where
  len : ∀ vs H Q E, sp vs H Q E → vs.length = ps.length
  run : ∀ (A : Around) (outer : List Env) (s : Shared) (H : Hp) (args : Args) (us : List Value) (vs : List V) (Q : VK) (E : XK), A.guards = some [] → Room k A → Env0 P w K mg base A outer s H → BindsTo s fd args (ps.zip us) → Vals vs us → sp vs H Q E →
    codeAny (model P w) A (.call (.ref f) args) (L2.CR (L2.CX P w) outer P w H s Q E) s
theorem FnG.mono {P : Program} {w : World} {K : PySem.W.Frag} {mg : Str → Option Value} {base : Heap} {j k : Nat} {f : Addr} {fd : FuncData} {ps : List Str} {sp : Sp} (F : FnG P w K mg base j f fd ps sp) (h : j ≤ k) : FnG P w K mg base k f fd ps sp :=
  ⟨F.len, fun A outer s H args us vs Q E g hr => F.run A outer s H args us vs Q E g (hr.mono h)⟩

section
variable {G : Glb} {H H' : Hp} {F F' : Addr → Prop} {σ : L2.St} {ρ : List Sl} {L L' : Nat → List Addr} {vs : List V} {ss : List Sl}
theorem getD_map_some {i : Nat} : (vs.map some).getD i none = vs[i]? := by
  rw [List.getD_eq_getElem?_getD, List.getElem?_map]
  cases vs[i]? <;> rfl
/-- the frame at its start -/
theorem St.start (I : St G (βOf vs) H F (vs.map some) ss L) (n : Nat) : St G (βOf vs) H F (vs.map some ++ List.replicate n none) (ss ++ List.replicate n .emp) L := by
  have hl : vs.length = ss.length := by have := I.len; rw [List.length_map] at this; exact this
  have gD : ∀ i, i < ss.length → (vs.map some ++ List.replicate n none).getD i none = (vs.map some).getD i none := fun i h => by
    rw [List.getD_eq_getElem?_getD, List.getD_eq_getElem?_getD, List.getElem?_append_left (by rw [List.length_map]; omega)]
  refine ⟨by simp [hl], fun i s e => ?_, fun i h => I.out i (by rw [List.length_append] at h; omega), I.nd, I.apart, I.nF, I.aF, I.mu, fun i d e => ?_⟩
  · by_cases hi : i < ss.length
    · rw [List.getElem?_append_left hi] at e
      rw [gD i hi]
      exact I.slot i s e
    · rw [List.getElem?_append_right (by omega), List.getElem?_replicate] at e
      split at e
      · cases e; exact I.out i (by omega)
      · cases e
  · by_cases hi : i < ss.length
    · rw [List.getElem?_append_left hi] at e
      rw [gD i hi]
      exact I.ios i d e
    · rw [List.getElem?_append_right (by omega), List.getElem?_replicate] at e
      split at e <;> cases e
theorem outsOf_get : ∀ {ss ρ outs : List Sl}, outsOf ss ρ = some outs → outs.length = ss.length ∧ (∀ (i : Nat) (s : Sl), outs[i]? = some s → s = Sl.emp ∨ ∃ d d', s = Sl.io d ∧ ρ[i]? = some (Sl.io d) ∧ ss[i]? = some (Sl.io d')) ∧ Mtch ss outs
  | [], _, outs, h => by
    unfold outsOf at h
    cases h
    exact ⟨rfl, fun i s e => by simp at e, fun j => Iff.rfl⟩
  | s0 :: ss, [], outs, h => by
    cases s0 <;> simp [outsOf] at h
  | s0 :: ss, r0 :: ρ, outs, h => by
    have key : ∃ o, outsOf ss ρ = some o ∧ ((outs = .emp :: o ∧ ∀ d, s0 ≠ .io d) ∨ ∃ d d', s0 = .io d' ∧ r0 = .io d ∧ outs = .io d :: o) := by
      cases s0 with
      | io d' =>
        cases r0 with
        | io d =>
          unfold outsOf at h
          obtain ⟨o, e1, e2⟩ := Option.map_eq_some_iff.mp h
          exact ⟨o, e1, .inr ⟨d, d', rfl, rfl, e2.symm⟩⟩
        | _ => simp [outsOf] at h
      | _ =>
        unfold outsOf at h
        obtain ⟨o, e1, e2⟩ := Option.map_eq_some_iff.mp h
        exact ⟨o, e1, .inl ⟨e2.symm, fun d z => by cases z⟩⟩
    obtain ⟨o, eo, k⟩ := key
    obtain ⟨l, q, mt⟩ := outsOf_get eo
    rcases k with ⟨rfl, ni⟩ | ⟨d, d', rfl, rfl, rfl⟩
    · refine ⟨by simp [l], fun i s e => ?_, fun j => ?_⟩
      · cases i with
        | zero => simp at e; exact .inl e.symm
        | succ i => simp only [List.getElem?_cons_succ] at e ⊢; exact q i s e
      · cases j with
        | zero => simp only [List.getElem?_cons_zero]; exact ⟨fun ⟨d, z⟩ => absurd (Option.some.inj z) (ni d), fun ⟨d, z⟩ => by cases z⟩
        | succ j => simp only [List.getElem?_cons_succ]; exact mt j
    · refine ⟨by simp [l], fun i s e => ?_, fun j => ?_⟩
      · cases i with
        | zero => simp at e; exact .inr ⟨d, d', e.symm, by simp, by simp⟩
        | succ i => simp only [List.getElem?_cons_succ] at e ⊢; exact q i s e
      · cases j with
        | zero => exact ⟨fun _ => ⟨d, rfl⟩, fun _ => ⟨d', rfl⟩⟩
        | succ j => simp only [List.getElem?_cons_succ]; exact mt j
/-- what the callers' lists and dicts are behind the body -/
theorem St.outs {outs : List Sl} (hn : vs.length = ss.length) (I : St G (βOf vs) H F σ ρ L) (e : outsOf ss ρ = some outs) : ∃ L', St G (βOf vs) H F (vs.map some) outs L' ∧ (∀ i a, a ∈ L' i → a ∈ L i) ∧ Mtch ss outs := by
  obtain ⟨hl, q, mt⟩ := outsOf_get e
  have sub : ∀ i a, a ∈ (match outs[i]? with | some (.io _) => L i | _ => []) → a ∈ L i := fun i a h => by
    split at h
    · exact h
    · cases h
  refine ⟨fun i => match outs[i]? with | some (.io _) => L i | _ => [], ⟨by rw [List.length_map, hl, hn], fun i s ei => ?_, fun i h => ?_, fun i => ?_, fun i j a hi hj => I.apart i j a (sub i a hi) (sub j a hj), fun i a h => I.nF i a (sub i a h), I.aF,
    fun i a h => I.mu i a (sub i a h), fun i d ei => getD_map_some⟩, sub, mt⟩
  · rcases q i s ei with rfl | ⟨d, d', rfl, er, es⟩
    · simp only [ei]; rfl
    · simp only [ei]
      have b := I.ios i d er
      have r := I.slot i _ er
      rw [getD_map_some]
      rw [b] at r
      exact r
  · have : outs[i]? = none := List.getElem?_eq_none h
    simp only [this]
  · split
    · exact I.nd i
    · exact List.nodup_nil
end

section
variable {P : Program} {w : World} {K : PySem.W.Frag} {mg : Str → Option Value} {base : Heap} {G : Glb}
theorem CX_mono {outer : List Env} {H : Hp} {s : Shared} {E : XK} {e : Value} {s' : Shared} (h : L2.CX P w outer H s E e s') : L2.CX P w outer H s E e s' := h
/-- a def by its body's plain program -/
theorem fnG_of {x qual : Str} {st : Stmt} {f : Addr} {fd : FuncData} {N ps : List Str} {k n : Nat} {S : List Sl → FR} {m : M Flw} (T : Fun K x qual st f fd) (S0 : FnScope N ps (defScope st)) (hn : N.length = ps.length + n) (hS : ∀ ss, S ss = runF n m ss)
    (hbody : ∀ (cdv : Value) (A : Around) (outer : List Env) (s : Shared) (H : Hp) (vs : List V) (E : XK), A.guards = some [] → Room k (A.deeper (envOfC qual (defScope st) s.heap.objs.size f cdv)) →
      PSs (cxOf (L2.CX P w) P w K mg base N qual (defScope st) f cdv A outer s H E) (defBody st) (tS G (βOf vs) (fun cls d _ H => E cls d H) m)) : FnG P w K mg base (k + 1) f fd ps (spD G ps.length S) := by
  obtain ⟨oc, od, kV, doc, pm, an, cdv, ct, osl, rfl, lk, hcd⟩ := T.ex
  refine ⟨fun vs H Q E q => q.1, fun A outer s H args us vs Q E hg hr e0 hb r hsp => ?_⟩
  obtain ⟨hl, F, ss, L, I, q⟩ := hsp
  have kx : K.In s.heap := e0.mod.kin.keeps fun b o z => (e0.bs b o z).1
  have nl : s.heap.NoLimit := e0.mod.nolimit.keeps fun b o z => (e0.bs b o z).1
  have kinds : ∀ y ∈ ps.zip us, (defScope st).names.lookup y.1 = some .local ∨ ((defScope st).names.lookup y.1 = some .cell ∧ ((cellsFrom (s.heap.objs.size + 1) (defScope st).names []).lookup y.1).isSome = true) := by
    rintro ⟨y, v⟩ hy
    rcases S0.par y (List.of_mem_zip hy).1 with z | z
    · exact .inl z
    · exact .inr ⟨z, PySem.W.cellsFrom_some _ _ _ (.inl z)⟩
  refine codeAny_call_function hr.depth (kx _ _ lk) rfl S0.co S0.gen rfl (PySem.W.codeRec_of kx hcd) (hb _ _ _ _ ?_)
  refine wpAny_newFunctionEnv_cells S0.kind kinds fun env he s1 ic => ?_
  subst he
  refine ⟨nl.keeps ic.toInCall.keep, codeAny_func ?_⟩
  have J := inv_start (CX := L2.CX P w) (N := N) (qual := qual) (scope := defScope st) (f := f) (cd := cdv) (E := E) S0 hr.hd e0 hl r ic
  have st0 : L2.start N vs = vs.map some ++ List.replicate n none := by
    unfold L2.start
    rw [hn, hl]
    congr 2
    omega
  have hvs : vs.length = ss.length := by have := I.len; rw [List.length_map] at this; exact this
  rw [st0] at J
  have fin : ∀ {s1 : Shared} {v : V} {u : Value} {H' : Hp} {σ' : L2.St}, Inv (cxOf (L2.CX P w) P w K mg base N qual (defScope st) f cdv A outer s H E) [] σ' H' s1 → RelV v u → Q v H' → CE outer P w H s Q u s1 := fun {s1 v u H' σ'} J' rv q' => ⟨v, H', J'.os, J'.bare, J'.base, J'.hok, rv, q'⟩
  rw [hS] at q
  have main := (hbody cdv A outer s H vs E hg (hr.deeper _)).run [] s1 _ H { nx := fun _ H' => Q .non H', rt := Q } J ⟨F, _, L, I.start n, ?_⟩
  · refine wpAny_mono main (fun fl s2 hs => ?_) fun e s2 hs => hs
    cases fl with
    | ret u =>
      obtain ⟨v, σ', H', J', rv, q'⟩ := hs
      exact fin J' rv q'
    | next =>
      obtain ⟨σ', H', J', q'⟩ := hs
      exact fin (v := V.non) (u := Value.none) J' rfl q'
    | brk =>
      obtain ⟨_, _, _, q'⟩ := hs
      exact q'.elim
    | cont =>
      obtain ⟨_, _, _, q'⟩ := hs
      exact q'.elim
  · unfold runF finF at q
    cases em : m (ss ++ List.replicate n .emp) with
    | no => rw [em] at q; exact q
    | ex c l ρ' =>
      rw [em] at q
      dsimp only at q
      cases eo : outsOf ss ρ' with
      | none => rw [eo] at q; exact q.elim
      | some o =>
        rw [eo] at q
        intro σ' H' F' L' dd I' xr t
        obtain ⟨L2, I2, sub, mt⟩ := I'.outs hvs eo
        exact q mt H' F' L2 dd I2 xr (t.trans ⟨fun _ _ _ e => e, fun _ _ _ e => e, fun _ u e => ⟨u, e⟩, fun _ f => f, fun _ f => .inl f, fun _ ⟨i, h⟩ => .inl ⟨i, sub i _ h⟩⟩)
    | ok fl ρ' =>
      rw [em] at q
      cases fl with
      | bk => exact q.elim
      | ct => exact q.elim
      | nx =>
        dsimp only at q
        cases eo : outsOf ss ρ' with
        | none => rw [eo] at q; exact q.elim
        | some o =>
          rw [eo] at q
          intro σ' H' F' L' I' t
          obtain ⟨L2, I2, sub, mt⟩ := I'.outs hvs eo
          refine q mt .non H' F' L2 [] I2 (Res.sh RV.non) ?_
          rw [ow2_nil]
          exact t.trans ⟨fun _ _ _ e => e, fun _ _ _ e => e, fun _ u e => ⟨u, e⟩, fun _ f => f, fun _ f => .inl f, fun _ ⟨i, h⟩ => .inl ⟨i, sub i _ h⟩⟩
      | rt s =>
        dsimp only at q
        cases eo : outsOf ss ρ' with
        | none => rw [eo] at q; exact q.elim
        | some o =>
          rw [eo] at q
          intro v σ' H' F' L' lr I' rs t
          obtain ⟨L2, I2, sub, mt⟩ := I'.outs hvs eo
          refine q mt v H' F' L2 lr I2 ⟨rs.rel, rs.nd, fun a h i hi => rs.ap a h i (sub i a hi), rs.nF, rs.mu⟩ ?_
          exact t.trans ⟨fun _ _ _ e => e, fun _ _ _ e => e, fun _ u e => ⟨u, e⟩, fun _ f => f, fun _ f => .inl f, fun _ o => o.elim (fun ⟨i, h⟩ => .inl (.inl ⟨i, sub i _ h⟩)) fun h => .inl (.inr h)⟩
end
end Ev
namespace Ev
open PySem PySem.Spec PyProof.Rows L2

/-! ## Calls -/
def pks : List Opd → List Nat
  | [] => []
  | .ev _ :: os => pks os
  | .pk i :: os => i :: pks os
def argS (ρ : List Sl) : List Opd → List (Option D) → Option (List Sl)
  | [], _ => some []
  | .ev _ :: os, some d :: xs => (argS ρ os xs).map (.sh d :: ·)
  | .pk i :: os, _ :: xs => (match ρ[i]? with
    | some (.sh d) => (argS ρ os xs).map (.sh d :: ·)
    | some (.ow d) => (argS ρ os xs).map (.io d :: ·)
    | some (.io d) => (argS ρ os xs).map (.io d :: ·)
    | _ => none)
  | _, _ => none
def putBack : List Opd → List Sl → List Sl → List Sl
  | .pk i :: os, .io d :: outs, ρ => putBack os outs (match ρ[i]? with | some s => ρ.set i (s.re d) | none => ρ)
  | _ :: os, _ :: outs, ρ => putBack os outs ρ
  | _, _, ρ => ρ
def callFin (S : List Sl → FR) (os : List Opd) (xs : List (Option D)) : M Sl := fun ρ => if (pks os).Nodup then (match argS ρ os xs with
  | some ss => (match S ss with
    | .ok r outs => .ok r (putBack os outs ρ)
    | .ex c l outs => .ex c l (putBack os outs ρ)
    | .no => .no)
  | none => .no) else .no
def callM (S : List Sl → FR) (os : List Opd) : M Sl := bindM (oL1 os) (callFin S os)

section
variable {G : Glb} {β : Bt} {W : WX} {H H' : Hp} {F F' : Addr → Prop} {σ : L2.St} {ρ : List Sl} {L L' : Nat → List Addr} {vs : List V} {ss : List Sl}
theorem pks_mem : ∀ {os : List Opd} {j i : Nat}, os[j]? = some (.pk i) → i ∈ pks os
  | [], _, _, h => by simp at h
  | .ev _ :: os, 0, _, h => by simp at h
  | .pk k :: os, 0, i, h => by simp at h; subst h; exact List.mem_cons_self
  | .ev _ :: os, j + 1, i, h => pks_mem (os := os) (by simpa using h)
  | .pk k :: os, j + 1, i, h => List.mem_cons_of_mem _ (pks_mem (os := os) (by simpa using h))
theorem pks_inj : ∀ {os : List Opd} {j k i : Nat}, (pks os).Nodup → os[j]? = some (.pk i) → os[k]? = some (.pk i) → j = k
  | [], _, _, _, _, h, _ => by simp at h
  | .ev _ :: os, 0, _, _, _, h, _ => by simp at h
  | .ev _ :: os, _ + 1, 0, _, _, _, h => by simp at h
  | .ev _ :: os, j + 1, k + 1, i, n, h, h' => congrArg (· + 1) (pks_inj (os := os) (i := i) n (by simpa using h) (by simpa using h'))
  | .pk q :: os, 0, 0, _, _, _, _ => rfl
  | .pk q :: os, 0, k + 1, i, n, h, h' => by
    simp at h; subst h
    exact absurd (pks_mem (os := os) (by simpa using h')) (List.nodup_cons.mp n).1
  | .pk q :: os, j + 1, 0, i, n, h, h' => by
    simp at h'; subst h'
    exact absurd (pks_mem (os := os) (by simpa using h)) (List.nodup_cons.mp n).1
  | .pk q :: os, j + 1, k + 1, i, n, h, h' => congrArg (· + 1) (pks_inj (os := os) (i := i) (List.nodup_cons.mp n).2 (by simpa using h) (by simpa using h'))
/-- the slot goes into the call as the caller's own -/
def Lent (σ : L2.St) (ρ : List Sl) (o : Opd) (s : Sl) (v : V) : Prop := ∃ i d s', o = .pk i ∧ ρ[i]? = some s' ∧ s'.own? = some d ∧ s = .io d ∧ σ[i]? = some (some v)
theorem arg_get (I : St G β H F σ ρ L) : ∀ {os : List Opd} {xs : List (Option D)} {vs : List V} {ss : List Sl}, OWs G H F σ os xs vs → argS ρ os xs = some ss → ss.length = os.length ∧ vs.length = os.length ∧
    ∀ (j : Nat) (s : Sl), ss[j]? = some s → ∃ o v, os[j]? = some o ∧ vs[j]? = some v ∧ ((∃ d, s = .sh d ∧ RV G H F d v) ∨ Lent σ ρ o s v)
  | [], xs, vs, ss, w, e => by
    unfold argS at e
    cases e
    unfold OWs at w
    subst w
    exact ⟨rfl, rfl, fun j s h => by simp at h⟩
  | o :: os, [], vs, ss, w, e => w.elim
  | o :: os, x :: xs, [], ss, w, e => w.elim
  | o :: os, x :: xs, v :: vs, ss, w, e => by
    obtain ⟨w1, w2⟩ := w
    have key : ∃ s0 ss', argS ρ os xs = some ss' ∧ ss = s0 :: ss' ∧ ((∃ d, s0 = .sh d ∧ RV G H F d v) ∨ Lent σ ρ o s0 v) := by
      cases o with
      | ev m =>
        obtain ⟨d, rfl, r⟩ := w1
        unfold argS at e
        obtain ⟨ss', e1, e2⟩ := Option.map_eq_some_iff.mp e
        exact ⟨_, ss', e1, e2.symm, .inl ⟨d, rfl, r⟩⟩
      | pk i =>
        have w1 : σ[i]? = some (some v) := w1
        unfold argS at e
        cases er : ρ[i]? with
        | none => rw [er] at e; cases e
        | some s' =>
          rw [er] at e
          cases s' with
          | emp => cases e
          | sh d =>
            obtain ⟨ss', e1, e2⟩ := Option.map_eq_some_iff.mp e
            obtain ⟨_, v', ev, r⟩ := I.slot i _ er
            rw [some_getD w1] at ev
            cases ev
            exact ⟨_, ss', e1, e2.symm, .inl ⟨d, rfl, r⟩⟩
          | ow d =>
            obtain ⟨ss', e1, e2⟩ := Option.map_eq_some_iff.mp e
            exact ⟨_, ss', e1, e2.symm, .inr ⟨i, d, _, rfl, er, rfl, rfl, w1⟩⟩
          | io d =>
            obtain ⟨ss', e1, e2⟩ := Option.map_eq_some_iff.mp e
            exact ⟨_, ss', e1, e2.symm, .inr ⟨i, d, _, rfl, er, rfl, rfl, w1⟩⟩
          | tr d => cases e
    obtain ⟨s0, ss', e1, rfl, k⟩ := key
    obtain ⟨l1, l2, q⟩ := arg_get I w2 e1
    refine ⟨by simp [l1], by simp [l2], fun j s h => ?_⟩
    cases j with
    | zero => simp at h; subst h; exact ⟨o, v, rfl, rfl, k⟩
    | succ j => simp only [List.getElem?_cons_succ] at h ⊢; exact q j s h
theorem putBack_len : ∀ (os : List Opd) (outs ρ : List Sl), (putBack os outs ρ).length = ρ.length
  | [], outs, ρ => by unfold putBack; rfl
  | o :: os, [], ρ => by cases o <;> (unfold putBack; rfl)
  | .ev m :: os, s :: outs, ρ => by unfold putBack; exact putBack_len os outs ρ
  | .pk i :: os, .io d :: outs, ρ => by
    unfold putBack
    rw [putBack_len]
    split <;> simp
  | .pk i :: os, .emp :: outs, ρ => by unfold putBack; exact putBack_len os outs ρ
  | .pk i :: os, .sh d :: outs, ρ => by unfold putBack; exact putBack_len os outs ρ
  | .pk i :: os, .ow d :: outs, ρ => by unfold putBack; exact putBack_len os outs ρ
  | .pk i :: os, .tr d :: outs, ρ => by unfold putBack; exact putBack_len os outs ρ
theorem putBack_get : ∀ (os : List Opd) (outs ρ : List Sl), (pks os).Nodup → ∀ i : Nat,
    (∃ (j : Nat) (d : D), os[j]? = some (Opd.pk i) ∧ outs[j]? = some (Sl.io d) ∧ (putBack os outs ρ)[i]? = ρ[i]?.map fun s => s.re d) ∨ ((∀ (j : Nat) (d : D), os[j]? = some (Opd.pk i) → outs[j]? ≠ some (Sl.io d)) ∧ (putBack os outs ρ)[i]? = ρ[i]?)
  | [], outs, ρ, _, i => .inr ⟨fun j d h => by simp at h, by unfold putBack; rfl⟩
  | o :: os, [], ρ, _, i => .inr ⟨fun j d _ h => by simp at h, by cases o <;> (unfold putBack; rfl)⟩
  | o :: os, s :: outs, ρ, n, i => by
    have nd : (pks os).Nodup := by
      cases o with
      | ev m => exact n
      | pk k => exact (List.nodup_cons.mp n).2
    have skip : putBack (o :: os) (s :: outs) ρ = putBack os outs ρ → (∀ d, o = .pk i → s ≠ .io d) → (∃ (j : Nat) (d : D), (o :: os)[j]? = some (Opd.pk i) ∧ (s :: outs)[j]? = some (Sl.io d) ∧ (putBack (o :: os) (s :: outs) ρ)[i]? = ρ[i]?.map fun s => s.re d) ∨
        ((∀ (j : Nat) (d : D), (o :: os)[j]? = some (Opd.pk i) → (s :: outs)[j]? ≠ some (Sl.io d)) ∧ (putBack (o :: os) (s :: outs) ρ)[i]? = ρ[i]?) := fun e z => by
      rw [e]
      rcases putBack_get os outs ρ nd i with ⟨j, d, h1, h2, h3⟩ | ⟨h1, h2⟩
      · exact .inl ⟨j + 1, d, by simpa using h1, by simpa using h2, h3⟩
      · refine .inr ⟨fun j d q => ?_, h2⟩
        cases j with
        | zero => simp at q ⊢; exact z d q
        | succ j => simp only [List.getElem?_cons_succ] at q ⊢; exact h1 j d q
    cases o with
    | ev m => exact skip (by first | rfl | simp [putBack]) fun d q => by cases q
    | pk k =>
      cases s with
      | emp => exact skip (by first | rfl | simp [putBack]) fun d _ q => by cases q
      | sh d => exact skip (by first | rfl | simp [putBack]) fun d _ q => by cases q
      | ow d => exact skip (by first | rfl | simp [putBack]) fun d _ q => by cases q
      | tr d => exact skip (by first | rfl | simp [putBack]) fun d _ q => by cases q
      | io d =>
        have hk : k ∉ pks os := (List.nodup_cons.mp n).1
        unfold putBack
        by_cases q : k = i
        · subst q
          refine .inl ⟨0, d, by simp, by simp, ?_⟩
          rcases putBack_get os outs (match ρ[k]? with | some s => ρ.set k (s.re d) | none => ρ) nd k with ⟨j, d', h1, _, _⟩ | ⟨_, h2⟩
          · exact absurd (pks_mem h1) hk
          · rw [h2]
            cases e : ρ[k]? with
            | none => simp [e]
            | some s =>
              simp only [Option.map_some]
              rw [List.getElem?_set_self (List.getElem?_eq_some_iff.mp e).1]
        · have same : (match ρ[k]? with | some s => ρ.set k (s.re d) | none => ρ)[i]? = ρ[i]? := by
            cases e : ρ[k]? with
            | none => rfl
            | some s => exact List.getElem?_set_ne q
          rcases putBack_get os outs (match ρ[k]? with | some s => ρ.set k (s.re d) | none => ρ) nd i with ⟨j, d', h1, h2, h3⟩ | ⟨h1, h2⟩
          · exact .inl ⟨j + 1, d', by simpa using h1, by simpa using h2, by rw [h3, same]⟩
          · refine .inr ⟨fun j d' z => ?_, by rw [h2, same]⟩
            cases j with
            | zero => simp at z; exact absurd z q
            | succ j => simp only [List.getElem?_cons_succ] at z ⊢; exact h1 j d' z
/-- what the callee's slots own -/
def lentL (ss : List Sl) (os : List Opd) (L : Nat → List Addr) : Nat → List Addr := fun j => match ss[j]?, os[j]? with
  | some (.io _), some (.pk i) => L i
  | _, _ => []
theorem lentL_mem {os : List Opd} {j : Nat} {a : Addr} (h : a ∈ lentL ss os L j) : ∃ i d, os[j]? = some (.pk i) ∧ ss[j]? = some (.io d) ∧ a ∈ L i := by
  unfold lentL at h
  split at h
  · exact ⟨_, _, by assumption, by assumption, h⟩
  · cases h
theorem lent_start (I : St G β H F σ ρ L) {os : List Opd} {xs : List (Option D)} (nd : (pks os).Nodup) (w : OWs G H F σ os xs vs) (e : argS ρ os xs = some ss) : St G (βOf vs) H F (vs.map some) ss (lentL ss os L) := by
  obtain ⟨l1, l2, q⟩ := arg_get I w e
  refine ⟨by rw [List.length_map]; omega, fun j s es => ?_, fun j h => ?_, fun j => ?_, fun j k a hj hk => ?_, fun j a h => ?_, I.aF, fun j a h => ?_, fun j d _ => getD_map_some⟩
  · obtain ⟨o, v, eo, ev, k⟩ := q j s es
    rw [getD_map_some, ev]
    rcases k with ⟨d, rfl, r⟩ | ⟨i, d, s', rfl, er, eo', rfl, eσ⟩
    · refine ⟨?_, v, rfl, r⟩
      unfold lentL
      rw [es]
    · have hL : lentL ss os L j = L i := by
        unfold lentL
        rw [es, eo]
      rw [hL]
      have r := I.slot i _ er
      rw [some_getD eσ] at r
      cases s' with
      | ow d' => cases eo'; exact r
      | io d' => cases eo'; exact r
      | emp => cases eo'
      | sh d' => cases eo'
      | tr d' => cases eo'
  · unfold lentL
    rw [List.getElem?_eq_none h]
  · unfold lentL
    split
    · exact I.nd _
    · exact List.nodup_nil
  · obtain ⟨i, _, e1, _, h1⟩ := lentL_mem hj
    obtain ⟨i', _, e2, _, h2⟩ := lentL_mem hk
    have z := I.apart i i' a h1 h2
    subst z
    exact pks_inj nd e1 e2
  · obtain ⟨i, _, _, _, h1⟩ := lentL_mem h
    exact I.nF i a h1
  · obtain ⟨i, _, _, _, h1⟩ := lentL_mem h
    exact I.mu i a h1
theorem own_lent {os : List Opd} {a : Addr} (h : Own (lentL ss os L) a) : Own L a := by
  obtain ⟨j, h⟩ := h
  obtain ⟨i, _, _, _, h1⟩ := lentL_mem h
  exact ⟨i, h1⟩
/-- the caller's slots behind the call -/
theorem lent_back (I : St G β H F σ ρ L) {os : List Opd} {xs : List (Option D)} {outs : List Sl} {O' : Addr → Prop} {L' : Nat → List Addr} (nd : (pks os).Nodup) (w : OWs G H F σ os xs vs) (e : argS ρ os xs = some ss)
    (I' : St G (βOf vs) H' F' (vs.map some) outs L') (t : Stp H F (Own (lentL ss os L)) H' F' O') (mt : Mtch ss outs) :
    St G β H' F' σ (putBack os outs ρ) L ∧ ∀ (i j : Nat) (d : D), os[j]? = some (Opd.pk i) → ss[j]? = some (Sl.io d) → L' j = L i := by
  obtain ⟨l1, l2, q⟩ := arg_get I w e
  -- a lent slot: the same address, what the callee left there
  have lent : ∀ (j i : Nat) (d : D), os[j]? = some (Opd.pk i) → ss[j]? = some (Sl.io d) → ∃ a d' s', ρ[i]? = some s' ∧ s'.own? = some d ∧ outs[j]? = some (Sl.io d') ∧ L i = [a] ∧ L' j = [a] ∧ σ.getD i none = some (.ref a) ∧ RO G H' F' d' a := by
    intro j i d eo es
    obtain ⟨d', ed⟩ := (mt j).mp ⟨d, es⟩
    obtain ⟨o, v, eo', ev, k⟩ := q j _ es
    rw [eo] at eo'; cases eo'
    rcases k with ⟨d2, z, _⟩ | ⟨i2, d2, s', z, er, ew, z2, eσ⟩
    · cases z
    · cases z; cases z2
      have r := I.slot i _ er
      rw [some_getD eσ] at r
      have r2 := I'.slot j _ ed
      rw [getD_map_some, ev] at r2
      obtain ⟨a2, hL2, ea2, ro2⟩ := r2
      have r3 : ∃ a, L i = [a] ∧ some v = some (.ref a) ∧ RO G H F d a := by
        cases s' with
        | ow d3 => cases ew; exact r
        | io d3 => cases ew; exact r
        | emp => cases ew
        | sh d3 => cases ew
        | tr d3 => cases ew
      obtain ⟨a, hL, ea, _⟩ := r3
      rw [ea2] at ea
      cases ea
      exact ⟨a2, d', s', er, ew, ed, hL, hL2, by rw [some_getD eσ, ea2], ro2⟩
  have back : ∀ (i j : Nat) (d : D), os[j]? = some (Opd.pk i) → ss[j]? = some (Sl.io d) → L' j = L i := fun i j d eo es => by
    obtain ⟨a, _, _, _, _, _, h1, h2, _⟩ := lent j i d eo es
    rw [h1, h2]
  -- each slot: lent or not
  have two : ∀ i : Nat, (∃ (j : Nat) (d d' : D), os[j]? = some (Opd.pk i) ∧ ss[j]? = some (Sl.io d) ∧ outs[j]? = some (Sl.io d') ∧ (putBack os outs ρ)[i]? = ρ[i]?.map fun s => s.re d') ∨
      ((∀ (j : Nat) (d : D), os[j]? = some (Opd.pk i) → ss[j]? ≠ some (Sl.io d)) ∧ (putBack os outs ρ)[i]? = ρ[i]?) := fun i => by
    rcases putBack_get os outs ρ nd i with ⟨j, d', h1, h2, h3⟩ | ⟨h1, h2⟩
    · obtain ⟨d, es⟩ := (mt j).mpr ⟨d', h2⟩
      exact .inl ⟨j, d, d', h1, es, h2, h3⟩
    · exact .inr ⟨fun j d eo es => by
        obtain ⟨d', ed⟩ := (mt j).mp ⟨d, es⟩
        exact h1 j d' eo ed, h2⟩
  -- what an unlent slot owns the callee doesn't
  have nown : ∀ i : Nat, (∀ (j : Nat) (d : D), os[j]? = some (Opd.pk i) → ss[j]? ≠ some (Sl.io d)) → ∀ a ∈ L i, ¬ Own (lentL ss os L) a := fun i h a ha ⟨j, hj⟩ => by
    obtain ⟨i2, d, e1, e2, h1⟩ := lentL_mem hj
    have z := I.apart i i2 a ha h1
    subst z
    exact h j d e1 e2
  refine ⟨⟨by rw [putBack_len]; exact I.len, fun i s es => ?_, fun i h => I.out i (by rw [putBack_len] at h; exact h), I.nd, I.apart, fun i a h f => ?_, I'.aF, fun i a h => ?_, fun i d es => ?_⟩, back⟩
  · rcases two i with ⟨j, d, d', h1, h2, h3, h4⟩ | ⟨h1, h2⟩
    · obtain ⟨a, d2, s', er, ew, ed, hL, hL', eσ, ro⟩ := lent j i d h1 h2
      rw [h3] at ed
      cases ed
      rw [h4, er] at es
      cases es
      cases s' with
      | ow d3 => exact ⟨a, hL, eσ, ro⟩
      | io d3 => exact ⟨a, hL, eσ, ro⟩
      | emp => cases ew
      | sh d3 => cases ew
      | tr d3 => cases ew
    · rw [h2] at es
      exact SlR.mono t.imm (fun a u f => t.keep a u fun ho => I.notF f (own_lent ho)) t.mono (fun a h u eu => t.keep a u (nown i h1 a h) eu) (I.slot i s es)
  · rcases two i with ⟨j, d, d', h1, h2, h3, h4⟩ | ⟨h1, h2⟩
    · rw [← back i j d h1 h2] at h
      exact I'.nF j a h f
    · rcases t.newF a f with f | o | n
      · exact I.nF i a h f
      · exact nown i h1 a h o
      · obtain ⟨u, eu, _⟩ := I.mu i a h
        rw [n] at eu; cases eu
  · rcases two i with ⟨j, d, d', h1, h2, h3, h4⟩ | ⟨h1, h2⟩
    · rw [← back i j d h1 h2] at h
      exact I'.mu j a h
    · obtain ⟨u, eu, im⟩ := I.mu i a h
      exact ⟨u, t.keep a u (nown i h1 a h) eu, im⟩
  · rcases two i with ⟨j, d1, d', h1, h2, h3, h4⟩ | ⟨h1, h2⟩
    · obtain ⟨a, d2, s', er, ew, ed, hL, hL', eσ, ro⟩ := lent j i d1 h1 h2
      rw [h4, er] at es
      cases s' with
      | ow d3 => cases es
      | io d3 => exact I.ios i _ er
      | emp => cases ew
      | sh d3 => cases ew
      | tr d3 => cases ew
    · rw [h2] at es
      exact I.ios i d es
/-- f(..): the operands, then the promise -/
def tCallX (G : Glb) (β : Bt) (W : WX) (n : Nat) (S : List Sl → FR) (os : List Opd) : TE := fun σ H Q => tOs G β W os σ H fun vs H1 => spD G n S vs H1 Q fun cls d H' => W cls d σ H'
theorem call_imp {n : Nat} {S : List Sl → FR} {os : List Opd} {Q : VK} (hn : os.length = n) (q : tA G β W (callM S os) σ H Q) : tCallX G β W n S os σ H Q := by
  obtain ⟨F, ρ, L, I, q⟩ := q
  refine tOs_bindA I q fun xs ρ1 vs H1 F1 L1 I1 w1 t1 q1 => ?_
  unfold callFin at q1
  split at q1
  · rename_i nd
    cases ea : argS ρ1 os xs with
    | none => rw [ea] at q1; exact q1.elim
    | some ss =>
      rw [ea] at q1
      dsimp only at q1
      obtain ⟨l1, l2, _⟩ := arg_get I1 w1 ea
      have I0 := lent_start I1 nd w1 ea
      refine ⟨by omega, F1, ss, _, I0, ?_⟩
      have stp : ∀ {H' : Hp} {F' O' O'' : Addr → Prop}, Stp H1 F1 (Own (lentL ss os L1)) H' F' O' → (∀ a, O'' a → Own L1 a ∨ H1 a = none) → Stp H1 F1 (Own L1) H' F' O'' := fun {H' F' O' O''} t z =>
        ⟨t.imm, fun a u n e => t.keep a u (fun o => n (own_lent o)) e, t.there, t.mono, fun a f => (t.newF a f).elim .inl fun q => q.elim (fun o => .inr (.inl (own_lent o))) fun n => .inr (.inr n), z⟩
      cases es : S ss with
      | no => rw [es] at q1; exact q1
      | ex c l outs =>
        rw [es] at q1
        intro mt H' F' L' dd I' xr t
        obtain ⟨I2, _⟩ := lent_back I1 nd w1 ea I' t mt
        exact q1 H' F' L1 dd I2 xr (stp t fun a o => .inl o)
      | ok r outs =>
        rw [es] at q1
        intro mt v H' F' L' lr I' rs t
        obtain ⟨I2, back⟩ := lent_back I1 nd w1 ea I' t mt
        have nw : ∀ a ∈ lr, Own (lentL ss os L1) a ∨ H1 a = none := fun a h => t.newO a (.inr h)
        refine q1 v H' F' L1 lr I2 ⟨rs.rel, rs.nd, fun a h i hi => ?_, rs.nF, rs.mu⟩ (stp t fun a o => o.elim .inl fun h => (nw a h).elim (fun o => .inl (own_lent o)) .inr)
        rcases nw a h with ⟨j, o⟩ | n
        · obtain ⟨i2, d, e1, e2, h1⟩ := lentL_mem o
          rw [← back i2 j d e1 e2] at h1
          exact rs.ap a h j h1
        · obtain ⟨u, eu, _⟩ := I1.mu i a hi
          rw [n] at eu; cases eu
  · exact q1.elim
end
section
variable {X : Cx} {G : Glb} {β : Bt} {W : WX} {e : Expr} {es : List Expr} {pos p : Pos} {x : Str} {f : Addr} {fd : FuncData} {ps : List Str} {k : Nat} {S : List Sl → FR} {o : Opd} {os : List Opd}
/-- f(e, ..), f a def of the text that stands at the name x -/
theorem run_fnG {n : Nat} {pins : List (Addr × Obj)} {s : Shared} {σ : L2.St} {H : Hp} {Q : VK} {us : List Value} {vs : List V} (T : FnG X.prog X.w X.K X.mg X.base k f fd ps (spD G n S)) (hg : X.A.guards = some []) (hr : Room k X.A) (hb : Binds X.K fd ps []) (tk : Takes X W)
    (I : Inv X pins σ H s) (r : Vals vs us) (h : spD G n S vs H Q fun cls d H' => W cls d σ H') : wpAny (model X.prog X.w) X.A (call (.ref f) us) (EP X pins σ Q) X.xe s := by
  have hl : us.length = ps.length := r.length.symm.trans (T.len _ _ _ _ h)
  have bt := hb s us I.kIn (by rw [List.append_nil]; exact hl)
  rw [List.append_nil] at bt
  refine wpAny_call (codeAny_mono (T.run X.A X.stack s H ⟨us, []⟩ us vs Q _ hg hr I.env0 bt r h) fun r s' hq => ?_)
  rcases r with err | fl
  · exact tk err s' (XE.of_call I (fun cls d H' z => z) hq)
  · cases fl with
    | ret u => exact I.after hq
    | next => exact hq.elim
    | brk => exact hq.elim
    | cont => exact hq.elim
theorem se_call (T : FnG X.prog X.w X.K X.mg X.base k f fd ps (spD G (os.length + 1) S)) (hr : Room k X.A) (hb : Binds X.K fd ps []) (hm : X.mg x = some (.ref f)) (hk : PySem.W.keepIn X.K (.ref f) = true) (tk : Takes X W) (hg : X.A.guards = some [])
    (ha : PA X (e :: es) (tOs G β W (o :: os))) (hgl : Gl X x := by rfl) (hdb : (x == ("__debug__" : Str)) = false := by decide) (he : starEach (e :: es) X.env = (false, eval e X.env) :: starEach es X.env := by rfl) (hpl : (backTo pos (starEach es X.env)).any (·.1) = false := by rfl) :
    PE X (.Call (.Name x p) (e :: es) [] pos) (tA G β W (callM S (o :: os))) := by
  refine PE.imp (t := tCallX G β W (os.length + 1) S (o :: os)) ⟨fun pins s σ H Q I h => ?_⟩ fun σ H Q q => call_imp rfl q
  refine wpAny_Call_Name_kw (ld_glob I hgl hm ?_ hdb)
  exact PySem.W.callWith_K (h₀ := X.base) I.ok.mod.kin hk (thn (ha.run pos pins s σ H _ I h) fun us s1 ⟨vs, H1, I1, r, q⟩ => ⟨I1.kIn, run_fnG T hg hr hb tk I1 r q⟩) he hpl
end
end Ev
namespace Ev
open PySem PySem.Spec PyProof.Rows L2

/-! ## Comprehensions -/
def wipeS : List Nat → List Sl → List Sl
  | [], ρ => ρ
  | v :: vs, ρ => (wipeS vs ρ).set v .emp
def unwipe : List Nat → List Sl → List Sl → List Sl
  | [], _, ρ => ρ
  | v :: vs, ρ0, ρ => (unwipe vs ρ0 ρ).set v (match ρ0[v]? with | some (.sh d) => .sh d | _ => .emp)
def wipeM (vs : List Nat) : M Unit := fun ρ => .ok () (wipeS vs ρ)
def compL (vs : List Nat) (f : D → M Unit) (t : M Bool) (m : M D) : List D → M (List D)
  | [] => retM []
  | d :: ds => bindM (f d) fun _ => bindM t fun k => if k = true then bindM m fun x => bindM (wipeM vs) fun _ => bindM (compL vs f t m ds) fun xs => retM (x :: xs) else bindM (wipeM vs) fun _ => compL vs f t m ds
def compM (vs : List Nat) (it : M (List D)) (f : D → M Unit) (t : M Bool) (m : M D) : M Sl := bindM it fun ds => fun ρ => if ds.length ≤ LIM then (match compL vs f t m ds (wipeS vs ρ) with
  | .ok l ρ' => .ok (.ow (.lst l)) (unwipe vs ρ ρ')
  | _ => .no) else .no
abbrev W0 : WX := fun _ _ _ _ => False
section
variable {X : Cx} {G : Glb} {β : Bt} {W : WX} {σ σ' : L2.St} {H H' : Hp} {F F' : Addr → Prop} {ρ ρ' : List Sl} {L L' : Nat → List Addr} {e a b : Expr} {pos : Pos}
theorem wipeS_len : ∀ (vs : List Nat) (ρ : List Sl), (wipeS vs ρ).length = ρ.length
  | [], _ => rfl
  | v :: vs, ρ => by unfold wipeS; rw [List.length_set, wipeS_len vs ρ]
theorem unwipe_len : ∀ (vs : List Nat) (ρ0 ρ : List Sl), (unwipe vs ρ0 ρ).length = ρ.length
  | [], _, _ => rfl
  | v :: vs, ρ0, ρ => by unfold unwipe; rw [List.length_set, unwipe_len vs ρ0 ρ]
theorem wipeS_in : ∀ {vs : List Nat} {ρ : List Sl} {j : Nat}, j ∈ vs → (wipeS vs ρ)[j]? = some .emp ∨ (wipeS vs ρ)[j]? = none
  | v :: vs, ρ, j, h => by
    unfold wipeS
    by_cases q : v = j
    · subst q
      by_cases hv : v < (wipeS vs ρ).length
      · exact .inl (List.getElem?_set_self hv)
      · exact .inr (List.getElem?_eq_none (by simpa using hv))
    · rw [List.getElem?_set_ne q]
      exact wipeS_in ((List.mem_cons.mp h).resolve_left fun z => q z.symm)
theorem unwipe_in : ∀ {vs : List Nat} {ρ0 ρ : List Sl} {j : Nat}, j ∈ vs → (∃ d, ρ0[j]? = some (.sh d) ∧ (unwipe vs ρ0 ρ)[j]? = some (.sh d)) ∨ (unwipe vs ρ0 ρ)[j]? = some .emp ∨ (unwipe vs ρ0 ρ)[j]? = none
  | v :: vs, ρ0, ρ, j, h => by
    unfold unwipe
    by_cases q : v = j
    · subst q
      by_cases hv : v < (unwipe vs ρ0 ρ).length
      · rw [List.getElem?_set_self hv]
        split
        · exact .inl ⟨_, by assumption, rfl⟩
        · exact .inr (.inl rfl)
      · exact .inr (.inr (List.getElem?_eq_none (by simpa using hv)))
    · rw [List.getElem?_set_ne q]
      exact unwipe_in ((List.mem_cons.mp h).resolve_left fun z => q z.symm)
theorem unwipe_out : ∀ {vs : List Nat} {ρ0 ρ : List Sl} {j : Nat}, j ∉ vs → (unwipe vs ρ0 ρ)[j]? = ρ[j]?
  | [], _, _, _, _ => rfl
  | v :: vs, ρ0, ρ, j, h => by
    unfold unwipe
    rw [List.getElem?_set_ne (fun z => h (by rw [z]; exact List.mem_cons_self))]
    exact unwipe_out fun z => h (List.mem_cons_of_mem _ z)
theorem wipe_outD : ∀ {vs : List Nat} {σ : L2.St} {j : Nat}, j ∉ vs → (wipe σ vs).getD j none = σ.getD j none
  | [], _, _, _ => rfl
  | v :: vs, σ, j, h => by
    unfold wipe
    rw [getD_set_ne (fun z => h (by rw [z]; exact List.mem_cons_self))]
    exact wipe_outD fun z => h (List.mem_cons_of_mem _ z)
theorem St.wipe (I : St G β H F σ ρ L) : ∀ vs : List Nat, ∃ L', St G β H F (wipe σ vs) (wipeS vs ρ) L' ∧ ∀ a, Own L' a → Own L a
  | [] => ⟨L, I, fun _ h => h⟩
  | v :: vs => by
    obtain ⟨L1, I1, s1⟩ := St.wipe I vs
    unfold L2.wipe wipeS
    by_cases hv : v < (wipeS vs ρ).length
    · exact ⟨_, I1.setEmp hv, fun a h => s1 a ((own_setL h).resolve_right fun z => nomatch z)⟩
    · have e1 : (L2.wipe σ vs).set v none = L2.wipe σ vs := List.set_eq_of_length_le (by rw [I1.len]; omega)
      have e2 : (wipeS vs ρ).set v .emp = wipeS vs ρ := List.set_eq_of_length_le (by omega)
      rw [e1, e2]
      exact ⟨L1, I1, s1⟩
theorem wipe_wipe {σ : L2.St} : ∀ vs : List Nat, wipe (wipe σ vs) vs = wipe σ vs := fun vs => by
  apply List.ext_getElem?
  intro j
  by_cases hj : j ∈ vs
  · rw [wipe_at hj, wipe_at hj, wipe_length]
  · rw [wipe_off hj]
where
  wipe_at : ∀ {vs : List Nat} {σ : L2.St} {j : Nat}, j ∈ vs → (wipe σ vs)[j]? = if j < σ.length then some none else none
    | v :: vs, σ, j, h => by
      unfold wipe
      by_cases q : v = j
      · subst q
        split
        · exact List.getElem?_set_self (by rw [wipe_length]; assumption)
        · exact List.getElem?_eq_none (by rw [List.length_set, wipe_length]; omega)
      · rw [List.getElem?_set_ne q]
        exact wipe_at ((List.mem_cons.mp h).resolve_left fun z => q z.symm)
  wipe_off : ∀ {vs : List Nat} {σ : L2.St} {j : Nat}, j ∉ vs → (wipe σ vs)[j]? = σ[j]?
    | [], _, _, _ => rfl
    | v :: vs, σ, j, h => by
      unfold wipe
      rw [List.getElem?_set_ne (fun z => h (by rw [z]; exact List.mem_cons_self))]
      exact wipe_off fun z => h (List.mem_cons_of_mem _ z)
/-- other places, other knowledge of slots that own nothing -/
theorem St.swap (I : St G β H F σ' ρ' L) (hl : σ.length = σ'.length) (hr : ρ.length = ρ'.length)
    (h : ∀ j : Nat, (σ.getD j none = σ'.getD j none ∧ ρ[j]? = ρ'[j]?) ∨ (L j = [] ∧ ((∃ d v, ρ[j]? = some (.sh d) ∧ σ.getD j none = some v ∧ RV G H F d v) ∨ ρ[j]? = some .emp ∨ ρ[j]? = none))) : St G β H F σ ρ L := by
  refine ⟨by rw [hl, hr]; exact I.len, fun j s e => ?_, fun j q => I.out j (by omega), I.nd, I.apart, I.nF, I.aF, I.mu, fun j d e => ?_⟩
  · rcases h j with ⟨h1, h2⟩ | ⟨h1, h2⟩
    · rw [h2] at e
      rw [h1]
      exact I.slot j s e
    · rcases h2 with ⟨d, v, e1, e2, r⟩ | e1 | e1
      · rw [e1] at e; cases e
        exact ⟨h1, v, e2, r⟩
      · rw [e1] at e; cases e
        exact h1
      · rw [e1] at e; cases e
  · rcases h j with ⟨h1, h2⟩ | ⟨h1, h2⟩
    · rw [h2] at e
      rw [h1]
      exact I.ios j d e
    · rcases h2 with ⟨d, v, e1, e2, r⟩ | e1 | e1
      · rw [e1] at e; cases e
      · rw [e1] at e; cases e
      · rw [e1] at e; cases e
/-- a list that is nobody's yet is written -/
theorem St.updFree (I : St G β H F σ ρ L) {p : Addr} {u o : HO} (e : H p = some u) (im : immO u = false) (np : ¬ F p) (no : ¬ Own L p) : St G β (upd H p o) F σ ρ L := by
  have n1 : ∀ b u, immO u = true → H b = some u → b ≠ p := fun b u' iu eb z => by subst z; rw [e] at eb; cases eb; rw [im] at iu; cases iu
  have n2 : ∀ b, F b → b ≠ p := fun b f z => np (z ▸ f)
  refine ⟨I.len, fun j s es => SlR.mono (fun b u iu eb => by rw [upd_ne (n1 b u iu eb)]; exact eb) (fun b u f eb => by rw [upd_ne (n2 b f)]; exact eb) (fun _ f => f) (fun b hb u eb => by rw [upd_ne (fun z => no ⟨j, by rw [z] at hb; exact hb⟩)]; exact eb) (I.slot j s es),
    I.out, I.nd, I.apart, I.nF, fun b f => ?_, fun j b hb => ?_, I.ios⟩
  · obtain ⟨u', q⟩ := I.aF b f
    exact ⟨u', by rw [upd_ne (n2 b f)]; exact q⟩
  · obtain ⟨u', q, i⟩ := I.mu j b hb
    exact ⟨u', by rw [upd_ne (fun z => no ⟨j, by rw [z] at hb; exact hb⟩)]; exact q, i⟩
theorem Per.updFree {H0 : Hp} {F0 : Addr → Prop} (p : Per H0 F0 H F) {q : Addr} {u o : HO} (e : H q = some u) (im : immO u = false) (np : ¬ F q) : Per H0 F0 (upd H q o) F :=
  ⟨fun b u' iu eb => by
    have z := p.k1 b u' iu eb
    rw [upd_ne (fun y => by subst y; rw [e] at z; cases z; rw [im] at iu; cases iu)]
    exact z, fun b u' f eb => by
    rw [upd_ne (fun y => by subst y; exact np (p.k3 b f))]
    exact p.k2 b u' f eb, p.k3⟩
/-- the new list D beside all that is owned -/
structure Beside (H1 : Hp) (F1 O1 : Addr → Prop) (H : Hp) (F : Addr → Prop) (L : Nat → List Addr) (p : Addr) : Prop where
  stp : Stp H1 F1 O1 H F (Ow2 L [p])
  new : H1 p = none
  nF : ¬ F p
  nO : ¬ Own L p
theorem Beside.step {H1 : Hp} {F1 O1 : Addr → Prop} {p : Addr} {u : HO} (B : Beside H1 F1 O1 H F L p) (e : H p = some u) (t : Stp H F (Own L) H' F' (Own L')) : Beside H1 F1 O1 H' F' L' p ∧ H' p = some u := by
  have gone : ∀ a, H a = none → H1 a = none := fun a n => by
    cases q : H1 a with
    | none => rfl
    | some u => obtain ⟨u', z⟩ := B.stp.there a u q; rw [n] at z; cases z
  have oL : ∀ a, Own L a → O1 a ∨ H1 a = none := fun a o => B.stp.newO a (.inl o)
  refine ⟨⟨⟨fun a u i q => t.imm a u i (B.stp.imm a u i q), fun a u n q => t.keep a u (fun o => (oL a o).elim n fun z => by rw [z] at q; cases q) (B.stp.keep a u n q), fun a u q => let ⟨u', z⟩ := B.stp.there a u q; t.there a u' z, fun a f => t.mono a (B.stp.mono a f), fun a f => ?_, fun a o => ?_⟩,
    B.new, fun f => ?_, fun o => ?_⟩, t.keep p u B.nO e⟩
  · rcases t.newF a f with f | o | n
    · exact B.stp.newF a f
    · exact (oL a o).elim (fun z => .inr (.inl z)) fun z => .inr (.inr z)
    · exact .inr (.inr (gone a n))
  · rcases o with o | o
    · exact (t.newO a o).elim (oL a) fun n => .inr (gone a n)
    · rw [List.mem_singleton.mp o]; exact .inr B.new
  · rcases t.newF p f with f | o | n
    · exact B.nF f
    · exact B.nO o
    · rw [n] at e; cases e
  · rcases t.newO p o with o | n
    · exact B.nO o
    · rw [n] at e; cases e
theorem Beside.upd {H1 : Hp} {F1 O1 : Addr → Prop} {p : Addr} {u o : HO} (B : Beside H1 F1 O1 H F L p) (e : H p = some u) (im : immO u = false) : Beside H1 F1 O1 (L2.upd H p o) F L p :=
  ⟨⟨fun a u' i q => by
    have n : a ≠ p := fun z => by rw [z, B.new] at q; cases q
    rw [upd_ne n]; exact B.stp.imm a u' i q, fun a u' n q => by
    have n' : a ≠ p := fun z => by rw [z, B.new] at q; cases q
    rw [upd_ne n']; exact B.stp.keep a u' n q, fun a u' q => by
    have n' : a ≠ p := fun z => by rw [z, B.new] at q; cases q
    rw [upd_ne n']; exact B.stp.there a u' q, B.stp.mono, B.stp.newF, B.stp.newO⟩, B.new, B.nF, B.nO⟩
theorem bindM_ok {α γ : Type} {m : M α} {f : α → M γ} {x : γ} (h : bindM m f ρ = .ok x ρ') : ∃ a ρ1, m ρ = .ok a ρ1 ∧ f a ρ1 = .ok x ρ' := by
  unfold bindM at h
  cases e : m ρ with
  | ok a ρ1 => rw [e] at h; exact ⟨a, ρ1, rfl, h⟩
  | ex c l r => rw [e] at h; cases h
  | no => rw [e] at h; cases h
theorem compL_step {vs : List Nat} {f : D → M Unit} {t : M Bool} {m : M D} {d : D} {ds xs : List D} (h : compL vs f t m (d :: ds) ρ = .ok xs ρ') : ∃ ρ1 k ρ2, f d ρ = .ok () ρ1 ∧ t ρ1 = .ok k ρ2 ∧
    ((k = true ∧ ∃ x ρ3 ys, m ρ2 = .ok x ρ3 ∧ compL vs f t m ds (wipeS vs ρ3) = .ok ys ρ' ∧ xs = x :: ys) ∨ (k = false ∧ compL vs f t m ds (wipeS vs ρ2) = .ok xs ρ')) := by
  unfold compL at h
  obtain ⟨u, ρ1, e1, h⟩ := bindM_ok h
  obtain ⟨k, ρ2, e2, h⟩ := bindM_ok h
  refine ⟨ρ1, k, ρ2, e1, e2, ?_⟩
  cases k with
  | false =>
    rw [if_neg Bool.false_ne_true] at h
    obtain ⟨_, _, e3, h⟩ := bindM_ok h
    cases e3
    exact .inr ⟨rfl, h⟩
  | true =>
    rw [if_pos rfl] at h
    obtain ⟨x, ρ3, e3, h⟩ := bindM_ok h
    obtain ⟨_, _, e4, h⟩ := bindM_ok h
    cases e4
    obtain ⟨ys, ρ5, e5, h⟩ := bindM_ok h
    cases h
    exact .inl ⟨rfl, x, ρ3, ys, e3, e5, rfl⟩
/-- where a plain program comes through its reading is what is wanted of its value -/
theorem tG_ok {α γ : Type} {Rel : Hp → (Addr → Prop) → α → γ → Prop} {m : M α} {x : α} {K : γ → Hp → Prop} (I : St G β H F σ ρ L) (e : m ρ = .ok x ρ')
    (k : ∀ c H' F' L', St G β H' F' σ ρ' L' → Rel H' F' x c → Stp H F (Own L) H' F' (Own L') → K c H') : tG G β W Rel m σ H K := ⟨F, ρ, L, I, by rw [e]; exact k⟩
theorem comp_imp {vs : List Nat} {it : M (List D)} {f : D → M Unit} {t : M Bool} {m : M D} {Q : VK} (q : tA G β W (compM vs it f t m) σ H Q) :
    tLc (tI G β W it) (tGt G β vs f) (tT G β W0 t) (tE G β W0 m) vs σ H Q := by
  obtain ⟨F, ρ, L, I, q⟩ := q
  refine tG_bindA I q fun ds ρ1 J H1 F1 L1 I1 r t1 q1 p hp => ?_
  split at q1
  · rename_i hlen
    cases ec : compL vs f t m ds (wipeS vs ρ1) with
    | no => rw [ec] at q1; exact q1.elim
    | ex c l ρe => rw [ec] at q1; exact q1.elim
    | ok l ρe =>
      rw [ec] at q1
      dsimp only at q1
      obtain ⟨Lw, Iw, sw⟩ := I1.wipe vs
      have hpL : ¬ Own L1 p := fun ⟨i, h⟩ => by obtain ⟨u, eu, _⟩ := I1.mu i p h; rw [hp] at eu; cases eu
      have hpF : ¬ F1 p := fun h => by obtain ⟨u, eu⟩ := I1.aF p h; rw [hp] at eu; cases eu
      -- the word between the turns
      refine ⟨fun i n H => ∃ F ρ L acc accD xs, n + i = ds.length ∧ St G β H F (wipe σ vs) ρ L ∧ Per H1 F1 H F ∧ Beside H1 F1 (Own L1) H F L p ∧ H p = some (.lst acc) ∧ RVs G H F accD acc ∧ accD.length ≤ i ∧
        compL vs f t m (ds.drop i) ρ = .ok xs ρe ∧ accD ++ xs = l ∧ ∀ j ∈ vs, ρ[j]? = some .emp ∨ ρ[j]? = none, ⟨ds.length, F1, wipeS vs ρ1, Lw, [], [], l, rfl, Iw.new hp, ⟨fun a u _ => upd_keep hp a u, fun a u _ => upd_keep hp a u, fun _ f => f⟩, ⟨?_, hp, hpF, fun o => hpL (sw p o)⟩, upd_same, RVs.nil, Nat.zero_le _, ec, rfl,
        fun j hj => wipeS_in hj⟩, ?_⟩
      · refine ⟨fun a u _ => upd_keep hp a u, fun a u _ => upd_keep hp a u, fun a u e => ⟨u, upd_keep hp a u e⟩, fun _ f => f, fun _ f => .inl f, fun a o => ?_⟩
        rcases o with o | o
        · exact .inl (sw a o)
        · rw [List.mem_singleton.mp o]; exact .inr hp
      rintro i n H2 ⟨F2, ρ2, L2, acc, accD, xs, en, I2, p2, B2, ep, ra, la, ek, el, wi⟩
      cases n with
      | zero =>
        have ei : i = ds.length := by omega
        subst ei
        rw [List.drop_length] at ek
        cases ek
        rw [List.append_nil] at el
        subst el
        refine .inl ⟨r.stop H2 F2 p2, ?_⟩
        -- the names of the block go, those of the frame come back
        have I3 : St G β H2 F2 σ (unwipe vs ρ1 ρe) L2 := by
          refine I2.swap (by rw [wipe_length]) (unwipe_len _ _ _) fun j => ?_
          by_cases hj : j ∈ vs
          · have own0 : L2 j = [] := by
              rcases wi j hj with e | e
              · exact I2.slot j _ e
              · exact I2.out j (List.getElem?_eq_none_iff.mp e)
            refine .inr ⟨own0, ?_⟩
            rcases unwipe_in (ρ0 := ρ1) hj with ⟨d, e1, e2⟩ | e | e
            · obtain ⟨_, v, ev, rv⟩ := I1.slot j _ e1
              exact .inl ⟨d, v, e2, ev, p2.rv rv⟩
            · exact .inr (.inl e)
            · exact .inr (.inr e)
          · exact .inl ⟨(wipe_outD hj).symm, unwipe_out hj⟩
        refine q1 _ H2 F2 L2 [p] I3 ⟨⟨p, rfl, rfl, acc, ep, ra⟩, by simp, fun a h j hj => ?_, fun a h => ?_, fun a h => ?_⟩ B2.stp
        · rw [List.mem_singleton.mp h] at hj; exact B2.nO ⟨j, hj⟩
        · rw [List.mem_singleton.mp h]; exact B2.nF
        · rw [List.mem_singleton.mp h]; exact ⟨_, ep, rfl⟩
      | succ n =>
        have hi : i < ds.length := by omega
        rw [List.drop_eq_getElem_cons hi] at ek
        obtain ⟨g1, g2⟩ := r.go i ds[i] H2 F2 p2 (List.getElem?_eq_getElem hi)
        obtain ⟨ρ3, k, ρ4, e3, e4, e5⟩ := compL_step ek
        refine .inr ⟨g1, fun H => ∃ F ρ L acc accD xs, n + (i + 1) = ds.length ∧ St G β H F (wipe σ vs) ρ L ∧ Per H1 F1 H F ∧ Beside H1 F1 (Own L1) H F L p ∧ H p = some (.lst acc) ∧ RVs G H F accD acc ∧ accD.length ≤ i + 1 ∧
          compL vs f t m (ds.drop (i + 1)) ρ = .ok xs ρe ∧ accD ++ xs = l ∧ ∀ j ∈ vs, ρ[j]? = some .emp ∨ ρ[j]? = none, fun H' z => ⟨n, Nat.lt_succ_self n, z⟩, fun x H3 y => ?_⟩
        obtain ⟨F3, x3, rx⟩ := g2 x H3 y
        have I3 := I2.ext x3
        obtain ⟨B3, ep3⟩ := B2.step ep (Stp.ext (O := Own L2) x3)
        refine ⟨F3, ρ2, L2, ds[i], ρ3, I3, rx, e3, fun σ4 H4 F4 L4 I4 t4 w4 => ?_⟩
        obtain ⟨B4, ep4⟩ := B3.step ep3 t4
        have wself : wipe (wipe σ vs) vs = wipe σ vs := wipe_wipe vs
        refine ⟨by rw [w4, wself], tG_ok I4 e4 fun c H5 F5 L5 I5 rc t5 => ?_⟩
        subst rc
        obtain ⟨B5, ep5⟩ := B4.step ep4 t5
        have p5 := ((p2.ext x3).step I3 t4).step I4 t5
        have ra5 := RVs.step I4 t5 (RVs.step I3 t4 (RVs.ext x3 ra))
        -- the block's state behind the turn
        have back : ∀ {H' : Hp} {F' : Addr → Prop} {L' : Nat → List Addr} {ρ' : List Sl}, St G β H' F' σ4 ρ' L' → ∃ L'', St G β H' F' (wipe σ vs) (wipeS vs ρ') L'' ∧ ∀ a, Own L'' a → Own L' a := fun {H' F' L' ρ'} I' => by
          obtain ⟨L'', I'', s''⟩ := I'.wipe vs
          rw [w4, wself] at I''
          exact ⟨L'', I'', s''⟩
        have less : ∀ {H' : Hp} {F' : Addr → Prop} {L' L'' : Nat → List Addr}, Beside H1 F1 (Own L1) H' F' L' p → (∀ a, Own L'' a → Own L' a) → Beside H1 F1 (Own L1) H' F' L'' p := fun {H' F' L' L''} B s =>
          ⟨⟨B.stp.imm, B.stp.keep, B.stp.there, B.stp.mono, B.stp.newF, fun a o => B.stp.newO a (o.elim (fun o => .inl (s a o)) .inr)⟩, B.new, B.nF, fun o => B.nO (s p o)⟩
        rcases e5 with ⟨rfl, z, ρ6, ys, e6, e7, rfl⟩ | ⟨rfl, e7⟩
        · refine iteT (tG_ok I5 e6 fun y' H6 F6 L6 I6 ry t6 => ?_)
          obtain ⟨B6, ep6⟩ := B5.step ep5 t6
          have ra6 := RVs.step I5 t6 ra5
          have lacc : acc.length = accD.length := ra6.len.symm
          refine ⟨acc, ep6, by rw [LIM_eq]; omega, ?_⟩
          obtain ⟨L7, I7, s7⟩ := back I6
          have B7 := less B6 s7
          have n1 : ∀ b u, immO u = true → H6 b = some u → b ≠ p := fun b u iu eb z => by subst z; rw [ep6] at eb; cases eb; cases iu
          have n2 : ∀ b, F6 b → b ≠ p := fun b f z => B6.nF (z ▸ f)
          refine ⟨F6, _, L7, _, accD ++ [z], ys, by omega, I7.updFree ep6 rfl B7.nF B7.nO, (p5.step I5 t6).updFree ep6 rfl B6.nF, B7.upd ep6 rfl, upd_same, RVs.upd n1 n2 (RVs.append ra6 (RVs.cons ry RVs.nil)), by rw [List.length_append]; show accD.length + 1 ≤ i + 1; omega, e7, by rw [List.append_assoc]; exact el, fun j hj => wipeS_in hj⟩
        · refine iteF ?_
          obtain ⟨L7, I7, s7⟩ := back I5
          exact ⟨F5, _, L7, acc, accD, xs, by omega, I7, p5, less B5 s7, ep5, ra5, by omega, e7, el, fun j hj => wipeS_in hj⟩
  · exact q1.elim
end
section
variable {X : Cx} {G : Glb} {β : Bt} {W : WX} {elt tg iter : Expr} {ifs : List Expr} {scope : Scope} {own : List (Str × Nat)} {pos : Pos} {it : M (List D)} {f : D → M Unit} {t : M Bool} {m : M D}
theorem sts_nil {X : Cx} : PTs X [] (tT G β W0 (retM true)) := ⟨fun pins s σ H Q I ⟨F, ρ, L, I', q⟩ => pts_nil.run pins s σ H Q I (q true H F L I' rfl (Stp.refl _ _ _))⟩
theorem sts_one {X : Cx} {c : Expr} (h : PT X c (tT G β W0 t)) : PTs X [c] (tT G β W0 t) := pts_one h
/-- [e for x in it if t] -/
theorem sa_lc (hc : X.calm = true) (hN : X.N.Nodup) (hi : PI X tg iter (tI G β W it)) (ok : BlkOk X.N X.env.scope scope own)
    (hg : ∀ (s : Shared) (H : Hp) (C : Addr) (cl : List (Str × Addr)) (fp : List Addr), PG (X.blk s H scope (compEnvC scope cl C X.env) fp) tg (tGt G β (own.map (·.2)) f)) (ht : ∀ (s : Shared) (H : Hp) (C : Addr) (cl : List (Str × Addr)) (fp : List Addr), PTs (X.blk s H scope (compEnvC scope cl C X.env) fp) ifs (tT G β W0 t))
    (he : ∀ (s : Shared) (H : Hp) (C : Addr) (cl : List (Str × Addr)) (fp : List Addr), PE (X.blk s H scope (compEnvC scope cl C X.env) fp) elt (tE G β W0 m)) (hs : ∀ x, foldedSetIterable iter X.env x = pure x := by intro _; rfl) :
    PE X (.ListComp elt [⟨tg, iter, ifs, 0⟩] scope pos) (tA G β W (compM (own.map (·.2)) it f t m)) := PE.imp (pe_lc hc hN hi ok hg ht he hs) fun _ _ _ q => comp_imp q
/-- y = [..] -/
theorem ss_setLc {i : Nat} {y : Str} {py spos : Pos} (hc : X.calm = true) (hN : X.N.Nodup) (hy : X.N[i]? = some y) (hyl : X.env.scope.names.lookup y = some .local)
    (hsw : swapsWith (.ListComp elt [⟨tg, iter, ifs, 0⟩] scope pos) (some (.Name y py)) spos.line X.env = pure true) (hi : PI X tg iter (tI G β W it)) (ok : BlkOk X.N X.env.scope scope own)
    (hg : ∀ (s : Shared) (H : Hp) (C : Addr) (cl : List (Str × Addr)) (fp : List Addr), PG (X.blk s H scope (compEnvC scope cl C X.env) fp) tg (tGt G β (own.map (·.2)) f)) (ht : ∀ (s : Shared) (H : Hp) (C : Addr) (cl : List (Str × Addr)) (fp : List Addr), PTs (X.blk s H scope (compEnvC scope cl C X.env) fp) ifs (tT G β W0 t))
    (he : ∀ (s : Shared) (H : Hp) (C : Addr) (cl : List (Str × Addr)) (fp : List Addr), PE (X.blk s H scope (compEnvC scope cl C X.env) fp) elt (tE G β W0 m)) (hs : ∀ x, foldedSetIterable iter X.env x = pure x := by intro _; rfl) :
    PS X (.Assign [.Name y py] (.ListComp elt [⟨tg, iter, ifs, 0⟩] scope pos) spos) (tS G β W (mSet i (compM (own.map (·.2)) it f t m))) :=
  PS.imp (ps_setLc hc hN hy hyl hsw hi ok hg ht he hs) fun D σ H ⟨F, ρ, L, I, q⟩ => comp_imp (tA_bindS I q fun s ρ1 v H1 F1 L1 lr _ I1 r t q1 => putS_post I1 r t q1)
end
end Ev
namespace Ev
open PySem PySem.Spec PyProof.Rows L2

/-! ## The law's own call -/
section
variable {P : Program} {w : World} {K : PySem.W.Frag} {mg mb : Str → Option Value}
/-- what a heap looks like to a def that is called from outside, the script at a -/
theorem outside {s : Shared} {H : Hp} {a : Addr} {vs : List Value} (kx : K.In s.heap) (hns : s.heap.Ns mainGlobals mg) (hb : s.heap.Ns builtinsNs mb) (hbb : ∀ x : Str, x ≠ "__name__" → mb x = bootBuiltins x) (hlim : s.heap.NoLimit) (hg : s.gens = #[])
    (ha : s.heap.get? a = some { cls := .type "list", data := .seq vs.toArray }) (hok : HOk P w H s.heap) (only : ∀ b, H b ≠ none → b = a ∧ K.lookup b = none) : Env0 P w K mg (hidT s.heap H) callerA [] s H := by
  have free : ∀ {b : Addr} {o : Obj}, s.heap.get? b = some o → (b = a → False) → H b = none := fun {b o} _ h => Classical.byContradiction fun n => h (only b n).1
  have nsq : ∀ {b : Addr} {m : Str → Option Value}, s.heap.Ns b m → (hidT s.heap H).Ns b m := fun {b m} ⟨o, es, ep, e, d, r⟩ =>
    ⟨o, es, ep, hidT_get e (free e fun z => by subst z; rw [ha] at e; cases e; cases d), d, r⟩
  obtain ⟨mc, n1, n2⟩ := hlim
  exact ⟨rfl, ⟨(fun b o e => hidT_get (kx b o e) (Classical.byContradiction fun n => by rw [(only b n).2] at e; cases e)), nsq hns, ⟨mb, nsq hb, hbb⟩, ⟨mc, nsq n1, n2⟩⟩, fun b o => of_hidT, by rw [hidT_size]; exact Nat.le_refl _, trivial,
    (fun b z => by cases z), hok, .of_eq hg⟩
theorem law_callG {k : Nat} {fa a : Addr} {fd : FuncData} {x : Str} {sp : Sp} {s : Shared} {vs : List Value} {ns : List Int} (kx : K.In s.heap) (hns : s.heap.Ns mainGlobals mg) (hb : s.heap.Ns builtinsNs mb) (hbb : ∀ x : Str, x ≠ "__name__" → mb x = bootBuiltins x)
    (hlim : s.heap.NoLimit) (hg : s.gens = #[]) (ha : s.heap.get? a = some { cls := .type "list", data := .seq vs.toArray }) (hi : IntsAre vs ns) (hl : ns.length ≤ sizeLine) (hr : Room k callerA)
    (T : ∀ base : Heap, K.In base → base.Ns mainGlobals mg → FnG P w K mg base k fa fd [x] sp) (hbind : ∀ (s : Shared) (u : Value), BindsTo s fd ⟨[u], []⟩ [(x, u)])
    (hsp : ∀ H : Hp, ScrAt K H a ns → sp [.ref a] H (fun v _ => v = .bl true) fun _ _ _ => False) :
    codeAny (model P w) callerA (.call (.ref fa) ⟨[.ref a], []⟩) (fun r s' => r = .ok (.ret (.bool true)) ∧ OldK s.heap s'.heap ∧ s'.os = s.os ∧ AllBare s'.gens) s := by
  have two : ∃ H : Hp, ScrAt K H a ns ∧ HOk P w H s.heap ∧ (∀ b, H b ≠ none → b = a ∧ K.lookup b = none) ∧ ∀ b u, H b = some u → ∃ o l, u = .frz o (.lst l) := by
    cases q : K.lookup a with
    | some o =>
      have e := kx a o q
      rw [ha] at e
      cases e
      refine ⟨fun _ => none, .inr ⟨_, vs.toArray, _, q, rfl, rfl, rfl, ?_, by simpa using vals_ints hi⟩, (fun b u z => by cases z), (fun b z => absurd rfl z), (fun b u z => by cases z)⟩
      rw [List.size_toArray, hi.length]
      exact hl
    | none =>
      refine ⟨upd (fun _ => none) a (.frz { cls := .type "list", data := .seq vs.toArray } (.lst (ns.map V.int))), .inl ⟨_, upd_same⟩, fun b u z => ?_, fun b z => ?_, fun b u z => ?_⟩
      · by_cases e : b = a
        · subst e
          rw [upd_same] at z
          cases z
          exact ⟨ha, by rw [List.length_map]; exact hl, vs, _, vals_ints hi, ha⟩
        · rw [upd_ne e] at z; cases z
      · by_cases e : b = a
        · subst e; exact ⟨rfl, q⟩
        · rw [upd_ne e] at z; exact absurd rfl z
      · by_cases e : b = a
        · subst e
          rw [upd_same] at z
          cases z
          exact ⟨_, _, rfl⟩
        · rw [upd_ne e] at z; cases z
  obtain ⟨H, sc, hok, only, frz⟩ := two
  have e0 := outside (P := P) (w := w) kx hns hb hbb hlim hg ha hok only
  refine codeAny_mono ((T _ e0.mod.kin e0.mod.glob).run callerA [] s H ⟨[.ref a], []⟩ [.ref a] [.ref a] _ _ rfl hr e0 (hbind s (.ref a)) (.cons rfl .nil) (hsp H sc)) fun r s' q => ?_
  rcases r with err | fl
  · obtain ⟨_, _, _, _, _, _, _, _, _, _, _, _, z⟩ := q
    exact z.elim
  · cases fl with
    | next => exact q.elim
    | brk => exact q.elim
    | cont => exact q.elim
    | ret u =>
      obtain ⟨v, H', os, bare, un, hok', rv, ev⟩ := q
      have ev' : v = .bl true := ev
      subst ev'
      cases (show u = Value.bool true from rv)
      refine ⟨rfl, .of_keep fun b o e => ?_, os, bare⟩
      cases q : H b with
      | none => exact un.keep b o e q (fun z => by cases z) fun z => by cases z
      | some u =>
        obtain ⟨ob, l, rfl⟩ := frz b u q
        have z1 := (hok b _ q).1
        have z2 := (hok' b _ (un.frzs b ob _ q)).1
        rw [e] at z1
        cases z1
        exact z2
end
/-- the goal that the head leaves: the law's promise over every base -/
theorem walkG {l : PySem.W.OpenLaw} {n k : Nat} {q : Program} {loose : List Str} {XP : (Str → Option Value) → Heap → Prop} {YP : World → Heap → Prop} {d : DefRec} {K : Params → PySem.W.Frag} {x : Str} (hn : l.most = some n) (hn2 : n ≤ sizeLine) (hdf : d.params.defaults = []) (hr : Room k callerA)
    (hY : ∀ (w : World) (h : Heap), YP w h → (K w.params).In h)
    (T : ∀ (w : World) (mg : Str → Option Value) (fa : Addr) (h : Heap), (K w.params).In h → h.Ns mainGlobals mg → mg d.name = some (.ref fa) → ∃ (fd : FuncData) (G : Glb) (S : List Sl → FR), G.K = K w.params ∧ (∀ (s : Shared) (u : Value), BindsTo s fd ⟨[u], []⟩ [(x, u)]) ∧
      (∀ base : Heap, (K w.params).In base → base.Ns mainGlobals mg → FnG l.prog w (K w.params) mg base k fa fd [x] (spD G 1 S)) ∧ ∀ ns : List Int, ns.length ≤ n → ∃ o, S [.sh (.scr ns)] = .ok (.sh (.bl true)) o) :
    PySem.W.WalkO q loose XP YP l.row.toRowW d [] (fun f vs => PySem.call f vs) := by
  refine Att.attach_call hn hdf fun w s₀ s₁ mg mb fa o pm cd doc a vs ns Gr Y ho hd hcd hmg hobj hints hlen hg => ?_
  have kx := hY w _ Y
  obtain ⟨fd, G, S, gk, hb, hF, law⟩ := T w mg fa _ kx Gr.T.g hmg
  refine law_callG kx Gr.T.g Gr.T.b Gr.T.builtins Gr.T.nolimit hg hobj hints (Nat.le_trans hlen hn2) hr hF hb fun H sc => ?_
  obtain ⟨outs, el⟩ := law ns hlen
  refine ⟨rfl, fun _ => False, [.sh (.scr ns)], fun _ => [], ⟨rfl, fun i s e => ?_, fun _ _ => rfl, fun _ => List.nodup_nil, (fun _ _ _ h => nomatch h), (fun _ _ h => nomatch h), fun _ f => f.elim, (fun _ _ h => nomatch h), fun i d e => ?_⟩, ?_⟩
  · cases i with
    | zero =>
      cases e
      refine ⟨rfl, .ref a, rfl, ?_⟩
      unfold RV
      exact ⟨a, rfl, by rw [gk]; exact sc⟩
    | succ i => simp at e
  · cases i with
    | zero => cases e
    | succ i => simp at e
  · rw [el]
    intro mt v H' F' L' lr I' r t
    obtain ⟨_, v', ev, rv⟩ := r.rel
    cases ev
    unfold RV at rv
    exact rv
end Ev
namespace Ev
open PySem PySem.Spec PyProof.Rows L2

/-! ## Slices -/
def dCut {α : Type} (l : List α) (lo hi : Option Int) : List α := (l.drop (HT.sIx l.length 0 lo)).take (HT.sIx l.length l.length hi - HT.sIx l.length 0 lo)
def dSlice (d : D) (lo hi : Option Int) : Option D := match d with
  | .lst l => some (.lst (dCut l lo hi))
  | .tup l => some (.tup (dCut l lo hi))
  | .str z => if z.length ≤ LIM then some (.str (cutS z lo hi)) else none
  | _ => none
def mPart : Option (M D) → M (Option Int)
  | none => retM none
  | some m => bindM m fun d => match d with | .int i => retM (some i) | _ => noM
def finSl (o : Opd) (x : Option D) (lo hi : Option Int) : M D := fun ρ => match o2 ρ o x with
  | some d => (match dSlice d lo hi with | some r => .ok r ρ | none => .no)
  | none => .no
def mSlice (o : Opd) (lo hi : Option (M D)) : M D := bindM (o1 o) fun x => bindM (mPart lo) fun l => bindM (mPart hi) fun h => finSl o x l h
section
variable {X : Cx} {G : Glb} {β : Bt} {W : WX} {σ : L2.St} {H H' : Hp} {F F' : Addr → Prop} {ρ ρ' : List Sl} {L L' : Nat → List Addr} {e a b : Expr} {pos p2 : Pos} {α' γ' : Type} {Rel' : Hp → (Addr → Prop) → α' → γ' → Prop}
theorem RVs.cut {l : List D} {xs : List V} (r : RVs G H F l xs) (lo hi : Option Int) : RVs G H F (dCut l lo hi) (cutV xs lo hi) := by
  unfold dCut cutV
  rw [← r.len]
  exact (r.drop _).take _
def rSl3 (K : PySem.W.Frag) : V → Option Int → Option Int → Hp → VK → Prop := fun x lo hi H Q => rSlL K x lo hi H Q ∨ rSlA K x lo hi H Q ∨ rSlS x lo hi H Q
theorem sl_3 : L2.SlR X (rSl3 X.K) := SlR.or sl_list (SlR.or sl_tupA sl_str)
theorem cut_all {l : List D} {lo hi : Option Int} (h : HT.sIx l.length 0 lo = 0 ∧ HT.sIx l.length l.length hi = l.length) : dCut l lo hi = l := by
  unfold dCut
  rw [h.1, h.2, List.drop_zero, Nat.sub_zero, List.take_length]
theorem slice_ok {K : PySem.W.Frag} {x : V} {d r : D} {lo hi : Option Int} {Q : VK} (hx : RW G H F d x) (e : dSlice d lo hi = some r) (q : ∀ v H' F', Ext H F H' F' → RV G H' F' r v → Q v H') : rSl3 K x lo hi H Q := by
  cases d with
  | lst l =>
    cases e
    obtain ⟨p, xs, rfl, ep, rs⟩ := hx.lst
    exact .inl ⟨p, xs, rfl, SqL.of ep, fun t ht => new_lst ht (rs.cut lo hi) q⟩
  | tup l =>
    cases e
    obtain ⟨p, xs, rfl, ep, rs⟩ := hx.tup
    refine .inr (.inl ⟨p, xs, rfl, SqT.of ep, fun z => ?_, fun _ t ht => new_tup ht (rs.cut lo hi) q⟩)
    rw [← rs.len] at z
    rw [cut_all z] at q
    exact done (RV.tup ep rs) q
  | str z =>
    unfold dSlice at e
    dsimp only at e
    split at e
    · cases e
      rw [hx.str]
      exact .inr (.inr ⟨z, rfl, by rw [LIM_eq]; assumption, done (.str _) q⟩)
    · cases e
  | _ => cases e
def tPo (G : Glb) (β : Bt) (W : WX) : Option (M D) → L2.TO
  | none => tNoPart
  | some m => tPart (tE G β W m)
theorem part_bind {o : Option (M D)} {f : Option Int → M α'} {Q : γ' → Hp → Prop} {K : Option Int → Hp → Prop} (I : St G β H F σ ρ L) (h : Post G β W Rel' σ H F (Own L) Q (bindM (mPart o) f ρ))
    (k : ∀ i ρ1 H1 F1 L1, St G β H1 F1 σ ρ1 L1 → Stp H F (Own L) H1 F1 (Own L1) → Post G β W Rel' σ H1 F1 (Own L1) Q (f i ρ1) → K i H1) : tPo G β W o σ H K := by
  cases o with
  | none => exact k none ρ H F L I (Stp.refl _ _ _) h
  | some m =>
    show tE G β W m σ H fun x H1 => ∃ i, x = .int i ∧ K (some i) H1
    have h' : Post G β W Rel' σ H F (Own L) Q (bindM (bindM m fun d => match d with | .int i => retM (some i) | _ => noM) f ρ) := h
    rw [bindM_assoc] at h'
    refine tG_bind I h' fun d ρ1 v H1 F1 L1 I1 r t q => ?_
    cases d with
    | int i => unfold RV at r; exact ⟨i, r, k (some i) ρ1 H1 F1 L1 I1 t q⟩
    | _ => exact q.elim
theorem sp_none : L2.PO X none (tPo G β W none) := po_none
theorem sp_some {m : M D} (h : PE X e (tE G β W m)) : L2.PO X (some e) (tPo G β W (some m)) := po_some h
theorem se_slice {o : Opd} {lo hi : Option (M D)} {el eh : Option Expr} (ho : PE X e (tO G β W o)) (hl : L2.PO X el (tPo G β W lo)) (hh : L2.PO X eh (tPo G β W hi)) : PE X (.Subscript e (.Slice el eh none p2) pos) (tE G β W (mSlice o lo hi)) := by
  refine PE.imp (pe_slice sl_3 ho hl hh) fun σ H Q q => ?_
  obtain ⟨F, ρ, L, I, q⟩ := q
  refine tO_bind I q fun x ρ1 v H1 F1 L1 I1 w1 t1 q1 => ?_
  refine part_bind I1 q1 fun l ρ2 H2 F2 L2 I2 t2 q2 => ?_
  refine part_bind I2 q2 fun h ρ3 H3 F3 L3 I3 t3 q3 => ?_
  unfold finSl at q3
  cases e1 : o2 ρ3 o x with
  | none => rw [e1] at q3; exact q3.elim
  | some d =>
    rw [e1] at q3
    dsimp only at q3
    cases e2 : dSlice d l h with
    | none => rw [e2] at q3; exact q3.elim
    | some r =>
      rw [e2] at q3
      exact slice_ok ((w1.step I1 t2).step I2 t3 |>.late I3 e1) e2 fun v' H' F' x r => q3 v' H' F' L3 (I3.ext x) r (Stp.ext x)
/-- xs[::-1] of a list -/
def dRev : D → Option D
  | .lst l => some (.lst l.reverse)
  | _ => none
theorem se_revL {m : M D} {k : Nat} {p1 p2 p3 : Pos} (he : PE X e (tE G β W m)) : PE X (.Subscript e (.Slice none none (some (.UnaryOp .USub (.Constant (.int 1) k p1) p2)) p3) pos) (tE G β W (mOp1 dRev m)) := by
  refine PE.imp (pe_revL he) fun σ H Q q => ?_
  obtain ⟨F, ρ, L, I, q⟩ := q
  refine tG_bind I q fun d ρ1 v H1 F1 L1 I1 r t1 q1 => ?_
  obtain ⟨x, ex, q1⟩ := optM_post q1
  cases d with
  | lst l =>
    cases ex
    unfold RV at r
    obtain ⟨p, xs, rfl, f, ep, rs⟩ := r
    exact ⟨p, xs, rfl, SqL.of ep, fun t ht => new_lst ht rs.reverse fun v' H' F' x r => q1 v' H' F' L1 (I1.ext x) r (Stp.ext x)⟩
  | _ => cases ex

/-! ## list(..), tuple(..), of sequences and of ranges -/
def dList : List D → Option D
  | [.lst l] => some (.lst l)
  | [.tup l] => some (.lst l)
  | _ => none
theorem ok_list (K : PySem.W.Frag) : OkAN G (fun xs H Q => ∃ p ys, xs = [.ref p] ∧ (SqL K H p ys ∨ SqT K H p ys) ∧ ∀ l, H l = none → Q (.ref l) (upd H l (.lst ys))) dList := by
  intro xs ds d H F Q hx e q
  unfold dList at e
  split at e
  · cases e
    obtain ⟨v, rfl, h⟩ := hx.one
    obtain ⟨p, ys, rfl, ep, rs⟩ := h.lst
    exact ⟨p, ys, rfl, .inl (SqL.of ep), fun t ht => q t _ _ ht rfl rs⟩
  · cases e
    obtain ⟨v, rfl, h⟩ := hx.one
    obtain ⟨p, ys, rfl, ep, rs⟩ := h.tup
    exact ⟨p, ys, rfl, .inr (SqT.of ep), fun t ht => q t _ _ ht rfl rs⟩
  · cases e
def dTuple : List D → Option D
  | [.lst l] => some (.tup l)
  | [.tup l] => some (.tup l)
  | _ => none
theorem ok_tuple (K : PySem.W.Frag) : OkN G (fun xs H Q => ∃ p ys, xs = [.ref p] ∧ ((SqL K H p ys ∧ ∀ l, H l = none → Q (.ref l) (upd H l (.tup ys))) ∨ (SqT K H p ys ∧ Q (.ref p) H))) dTuple := by
  intro xs ds d H F Q hx e q
  unfold dTuple at e
  split at e
  · cases e
    obtain ⟨v, rfl, h⟩ := hx.one
    obtain ⟨p, ys, rfl, ep, rs⟩ := h.lst
    exact ⟨p, ys, rfl, .inl ⟨SqL.of ep, fun t ht => new_tup ht rs q⟩⟩
  · cases e
    obtain ⟨v, rfl, h⟩ := hx.one
    obtain ⟨p, ys, rfl, ep, rs⟩ := h.tup
    exact ⟨p, ys, rfl, .inr ⟨SqT.of ep, done (RV.tup ep rs) q⟩⟩
  · cases e
theorem sa_callTy {x : Str} {T : String} {r : List V → Hp → VK → Prop} {g : List D → Option D} {o : Opd} {os : List Opd} {es : List Expr} {p : Pos} (hc : CallR X (.type T) r) (ok : OkAN G r g) (hm : X.mg x = none) (hv : bootBuiltins x = some (.type T)) (ha : PA X (e :: es) (tOs G β W (o :: os)))
    (hg : Gl X x := by rfl) (hn : x ≠ "__name__" := by decide) (hdb : (x == ("__debug__" : Str)) = false := by decide)
    (he : starEach (e :: es) X.env = (false, eval e X.env) :: starEach es X.env := by rfl) (hpl : (backTo pos (starEach es X.env)).any (·.1) = false := by rfl) : PE X (.Call (.Name x p) (e :: es) [] pos) (tA G β W (aOpN g (o :: os))) :=
  PE.imp (pe_callTy hc hg hm hv ha hn hdb he hpl) fun _ _ _ q => opAN_imp ok q
/-- a range's ends -/
def mRg (ms : M (List D)) : M (Int × Int) := bindM ms fun l => match l with
  | [.int j] => retM (0, j)
  | [.int i, .int j] => retM (i, j)
  | _ => noM
abbrev tRg (G : Glb) (β : Bt) (W : WX) (m : M (Int × Int)) : L2.St → Hp → (Int → Int → Hp → Prop) → Prop := fun σ H Q => tG G β W (fun _ _ a c => c = a) m σ H fun c H' => Q c.1 c.2 H'
theorem PRg.imp {t t' : L2.St → Hp → (Int → Int → Hp → Prop) → Prop} (h : PRg X e t) (k : ∀ σ H Q, t' σ H Q → t σ H Q) : PRg X e t' := fun pins s σ H Q I q => h pins s σ H Q I (k σ H Q q)
theorem sr_1 {m : M D} {p : Pos} (hm : X.mg "range" = none) (ha : PE X a (tE G β W m)) (hg : Gl X "range" := by rfl) (na : starEach [a] X.env = (false, eval a X.env) :: starEach [] X.env := by rfl) : PRg X (.Call (.Name "range" p) [a] [] pos) (tRg G β W (mRg (mEach [m]))) := by
  refine PRg.imp (prg_1 hg hm ha na) fun σ H Q q => ?_
  obtain ⟨F, ρ, L, I, q⟩ := q
  have q' : Post G β W (fun _ _ a c => c = a) σ H F (Own L) (fun (c : Int × Int) H' => Q c.1 c.2 H') (bindM m (fun d => match [d] with | [.int j] => retM (0, j) | [.int i, .int j] => retM (i, j) | _ => noM) ρ) := by
    have e : mRg (mEach [m]) = bindM m (fun d => match [d] with | [.int j] => retM (0, j) | [.int i, .int j] => retM (i, j) | _ => noM) := by
      unfold mRg mEach mEach
      rw [bindM_assoc]
      rfl
    rw [← e]
    exact q
  refine tG_bind I q' fun d ρ1 v H1 F1 L1 I1 r t1 q1 => ?_
  cases d with
  | int j => unfold RV at r; exact ⟨j, r, q1 (0, j) H1 F1 L1 I1 rfl (Stp.refl _ _ _)⟩
  | _ => exact q1.elim
theorem sr_2 {m m' : M D} {p : Pos} (hm : X.mg "range" = none) (ha : PE X a (tE G β W m)) (hb : PE X b (tE G β W m')) (hg : Gl X "range" := by rfl) (na : starEach [a, b] X.env = (false, eval a X.env) :: starEach [b] X.env := by rfl)
    (nb : starEach [b] X.env = (false, eval b X.env) :: starEach [] X.env := by rfl) (hp : (backTo pos (starEach [b] X.env)).any (·.1) = false := by rfl) : PRg X (.Call (.Name "range" p) [a, b] [] pos) (tRg G β W (mRg (mEach [m, m']))) := by
  refine PRg.imp (prg_2 hg hm ha hb na nb (hp := hp)) fun σ H Q q => ?_
  obtain ⟨F, ρ, L, I, q⟩ := q
  have e : mRg (mEach [m, m']) = bindM m fun d => bindM m' fun d' => match [d, d'] with | [.int j] => retM (0, j) | [.int i, .int j] => retM (i, j) | _ => noM := by
    unfold mRg mEach mEach mEach
    rw [bindM_assoc]
    congr 1
    funext d
    rw [bindM_assoc, bindM_assoc]
    rfl
  rw [e] at q
  refine tG_bind I q fun d ρ1 v H1 F1 L1 I1 r t1 q1 => ?_
  refine tG_bind I1 q1 fun d' ρ2 v' H2 F2 L2 I2 r' t2 q2 => ?_
  cases d with
  | int i =>
    cases d' with
    | int j =>
      unfold RV at r r'
      exact ⟨i, j, r, r', q2 (i, j) H2 F2 L2 I2 rfl (Stp.refl _ _ _)⟩
    | _ => exact q2.elim
  | _ => exact q2.elim
def rgOk (a b : Int) : Bool := decide (-4611686018427387904 ≤ a ∧ a < 4611686018427387904 ∧ -4611686018427387904 ≤ b ∧ b < 4611686018427387904 ∧ b - a ≤ 16777216)
theorem rgD_eq (a : Int) : ∀ n : Nat, ∀ k : Int, RVs G H F (rngD (a + k) n) ((List.range n).map fun i => V.int (a + k + (i : Nat)))
  | 0, k => RVs.nil
  | n + 1, k => by
    rw [rngD, List.range_succ_eq_map, List.map_cons, List.map_map]
    refine RVs.cons (by unfold RV; simp) ?_
    have e : a + k + 1 = a + (k + 1) := by omega
    rw [e]
    have h := rgD_eq a n (k + 1)
    have e2 : ((fun i : Nat => V.int (a + k + (i : Nat))) ∘ Nat.succ) = fun i : Nat => V.int (a + (k + 1) + (i : Nat)) := by
      funext i
      show V.int (a + k + ((i + 1 : Nat) : Int)) = _
      congr 1
      omega
    rw [e2]
    exact h
theorem rgV_ok (a b : Int) : RVs G H F (rngD a (b - a).toNat) (rgV a b) := by
  have h := rgD_eq (G := G) (H := H) (F := F) a (b - a).toNat 0
  simp only [Int.add_zero] at h
  exact h
def aListRg (m : M (Int × Int)) : M Sl := bindM m fun c => if rgOk c.1 c.2 = true then retM (.ow (.lst (rngD c.1 (c.2 - c.1).toNat))) else noM
theorem sa_listRg {m : M (Int × Int)} {p : Pos} (hc : X.calm = true) (hm : X.mg "list" = none) (he : PRg X e (tRg G β W m)) (hg : Gl X "list" := by rfl) (na : starEach [e] X.env = (false, eval e X.env) :: starEach [] X.env := by rfl) :
    PE X (.Call (.Name "list" p) [e] [] pos) (tA G β W (aListRg m)) := by
  refine PE.imp (pe_listRg hc hg hm he na) fun σ H Q q => ?_
  obtain ⟨F, ρ, L, I, q⟩ := q
  refine tG_bindA I q fun c ρ1 c' H1 F1 L1 I1 r t1 q1 => ?_
  subst r
  split at q1
  · rename_i h
    have h' := of_decide_eq_true h
    exact ⟨⟨by omega, by omega, by omega, by omega, by omega⟩, fun t ht => new_own I1 ht (rgV_ok _ _) q1⟩
  · exact q1.elim
def mTupRg (m : M (Int × Int)) : M D := bindM m fun c => if rgOk c.1 c.2 = true then retM (.tup (rngD c.1 (c.2 - c.1).toNat)) else noM
theorem se_tupRg {m : M (Int × Int)} {p : Pos} (hc : X.calm = true) (hm : X.mg "tuple" = none) (he : PRg X e (tRg G β W m)) (hg : Gl X "tuple" := by rfl) (na : starEach [e] X.env = (false, eval e X.env) :: starEach [] X.env := by rfl) :
    PE X (.Call (.Name "tuple" p) [e] [] pos) (tE G β W (mTupRg m)) := by
  refine PE.imp (pe_tupRg hc hg hm he na) fun σ H Q q => ?_
  obtain ⟨F, ρ, L, I, q⟩ := q
  refine tG_bind I q fun c ρ1 c' H1 F1 L1 I1 r t1 q1 => ?_
  subst r
  split at q1
  · rename_i h
    have h' := of_decide_eq_true h
    exact ⟨⟨by omega, by omega, by omega, by omega, by omega⟩, fun t ht => new_tup ht (rgV_ok _ _) fun v' H' F' x r => q1 v' H' F' L1 (I1.ext x) r (Stp.ext x)⟩
  · exact q1.elim
end

/-! ## Dicts -/
def kvGet {κ : Type} [DecidableEq κ] : List κ → List D → κ → Option D
  | k :: ks, d :: ds, x => if k = x then some d else kvGet ks ds x
  | _, _, _ => none
def kvMap {κ : Type} [DecidableEq κ] : List κ → List D → κ → D → List D
  | k :: ks, d :: ds, x, e => (if k = x then e else d) :: kvMap ks ds x e
  | _, ds, _, _ => ds
def kvPut {κ : Type} [DecidableEq κ] (ks : List κ) (ds : List D) (x : κ) (e : D) : List κ × List D := if x ∈ ks then (ks, kvMap ks ds x e) else (ks ++ [x], ds ++ [e])
/-- a key of ints and texts, a tuple of such -/
def D.key : D → Option Key
  | .int i => some (.inl i)
  | .str x => some (.inr x)
  | _ => none
def D.keys : List D → Option (List Key)
  | [] => some []
  | d :: l => (D.key d).bind fun k => (D.keys l).map (k :: ·)
def D.tkey : D → Option (List Key)
  | .tup l => D.keys l
  | _ => none
section
variable {G : Glb} {H : Hp} {F : Addr → Prop} {κ : Type} [DecidableEq κ]
theorem kvGet_rel : ∀ {ks : List κ} {ds : List D} {xs : List V} {x : κ}, RVs G H F ds xs → (∀ d, kvGet ks ds x = some d → ∃ v, valV (ks.zip xs) x = some v ∧ RV G H F d v) ∧ (kvGet ks ds x = none → valV (ks.zip xs) x = none)
  | [], _, _, _, _ => ⟨fun d e => by simp [kvGet] at e, fun _ => by simp [valV]⟩
  | k :: ks, [], xs, x, r => by
    unfold RVs at r
    subst r
    exact ⟨fun d e => by simp [kvGet] at e, fun _ => by simp [valV]⟩
  | k :: ks, d :: ds, xs, x, r => by
    unfold RVs at r
    obtain ⟨y, ys, rfl, ry, rs⟩ := r
    rw [List.zip_cons_cons]
    by_cases e : k = x
    · rw [valV_pos (p := (k, y)) e]
      unfold kvGet
      rw [if_pos e]
      exact ⟨fun d' q => by cases q; exact ⟨y, rfl, ry⟩, fun q => by cases q⟩
    · rw [valV_neg (p := (k, y)) e]
      unfold kvGet
      rw [if_neg e]
      exact kvGet_rel rs
theorem kvMap_rel {v : V} {e : D} (rv : RV G H F e v) : ∀ {ks : List κ} {ds : List D} {xs : List V} {x : κ}, ks.length = xs.length → RVs G H F ds xs →
    ∃ zs, (ks.zip xs).map (fun kv => if kv.1 = x then (kv.1, v) else kv) = ks.zip zs ∧ ks.length = zs.length ∧ RVs G H F (kvMap ks ds x e) zs
  | [], ds, xs, x, hl, r => by
    have : xs = [] := List.length_eq_zero_iff.mp hl.symm
    subst this
    refine ⟨[], rfl, rfl, ?_⟩
    unfold kvMap
    exact r
  | k :: ks, [], xs, x, hl, r => by
    unfold RVs at r
    subst r
    simp at hl
  | k :: ks, d :: ds, xs, x, hl, r => by
    unfold RVs at r
    obtain ⟨y, ys, rfl, ry, rs⟩ := r
    obtain ⟨zs, e1, e2, e3⟩ := kvMap_rel rv (ks := ks) (x := x) (by simpa using hl) rs
    unfold kvMap
    by_cases q : k = x
    · refine ⟨v :: zs, ?_, by simp [e2], RVs.cons (by rw [if_pos q]; exact rv) e3⟩
      rw [List.zip_cons_cons, List.map_cons, if_pos q, e1, List.zip_cons_cons]
    · refine ⟨y :: zs, ?_, by simp [e2], RVs.cons (by rw [if_neg q]; exact ry) e3⟩
      rw [List.zip_cons_cons, List.map_cons, if_neg q, e1, List.zip_cons_cons]
theorem any_zip {ks : List κ} {xs : List V} {x : κ} (hl : ks.length = xs.length) : ((ks.zip xs).any fun kv => decide (kv.1 = x)) = decide (x ∈ ks) := by
  induction ks generalizing xs with
  | nil => simp
  | cons k ks ih =>
    cases xs with
    | nil => simp at hl
    | cons y ys =>
      rw [List.zip_cons_cons, List.any_cons, ih (by simpa using hl)]
      by_cases e : k = x
      · simp [e]
      · have e' : ¬ x = k := fun z => e z.symm
        simp [e, e']
theorem kvPut_rel {v : V} {e : D} (rv : RV G H F e v) {ks : List κ} {ds : List D} {xs : List V} {x : κ} (hl : ks.length = xs.length) (r : RVs G H F ds xs) :
    ∃ zs, putK (ks.zip xs) x v = (kvPut ks ds x e).1.zip zs ∧ (kvPut ks ds x e).1.length = zs.length ∧ RVs G H F (kvPut ks ds x e).2 zs := by
  unfold putK kvPut
  rw [any_zip hl]
  by_cases q : x ∈ ks
  · rw [if_pos q, if_pos (decide_eq_true q)]
    exact kvMap_rel rv hl r
  · rw [if_neg q, if_neg (by simp [q])]
    refine ⟨xs ++ [v], ?_, by simp [hl], RVs.append r (RVs.cons rv RVs.nil)⟩
    rw [List.zip_append hl]
    rfl
theorem key_rel {d : D} {k : Key} {v : V} (r : RW G H F d v) (e : D.key d = some k) : v = kV k := by
  cases d with
  | int i => cases e; exact r.int
  | str x => cases e; exact r.str
  | _ => cases e
theorem keys_rel : ∀ {l : List D} {ks : List Key} {xs : List V}, RVs G H F l xs → D.keys l = some ks → xs = ks.map kV
  | [], ks, xs, r, e => by
    cases e
    unfold RVs at r
    exact r
  | d :: l, ks, xs, r, e => by
    unfold RVs at r
    obtain ⟨y, ys, rfl, ry, rs⟩ := r
    unfold D.keys at e
    obtain ⟨k, e1, e2⟩ := Option.bind_eq_some_iff.mp e
    obtain ⟨ks', e3, rfl⟩ := Option.map_eq_some_iff.mp e2
    rw [key_rel (.inl ry) e1, keys_rel rs e3]
    rfl
theorem tkey_rel {d : D} {k : List Key} {v : V} (r : RW G H F d v) (e : D.tkey d = some k) : ∃ b, v = .ref b ∧ H b = some (.tup (k.map kV)) := by
  cases d with
  | tup l =>
    obtain ⟨a, xs, rfl, ea, rs⟩ := r.tup
    exact ⟨a, rfl, by rw [ea, keys_rel rs e]⟩
  | _ => cases e
/-- d[k], that is there; perhaps -/
def dGet : D → D → Option (Option D)
  | .dk ks ds, x => (D.key x).map fun k => kvGet ks ds k
  | .dt ks ds, x => (D.tkey x).map fun k => kvGet ks ds k
  | _, _ => none
def OptR (G : Glb) (H : Hp) (F : Addr → Prop) : Option D → Option V → Prop
  | some d, some v => RV G H F d v
  | none, none => True
  | _, _ => False
theorem get_rel {c x : D} {o : Option D} {a y : V} (rc : RW G H F c a) (rx : RW G H F x y) (e : dGet c x = some o) : ∃ p o', a = .ref p ∧ DGet H p y o' ∧ OptR G H F o o' := by
  cases c with
  | dk ks ds =>
    obtain ⟨k, e1, rfl⟩ := Option.map_eq_some_iff.mp e
    obtain ⟨p, xs, rfl, hp, hl, rs⟩ := rc.dk
    have ey := key_rel rx e1
    obtain ⟨k1, k2⟩ := kvGet_rel (ks := ks) (x := k) rs
    refine ⟨p, valV (ks.zip xs) k, rfl, .inl ⟨_, k, hp, ey, rfl⟩, ?_⟩
    cases q : kvGet ks ds k with
    | none => rw [k2 q]; exact trivial
    | some d => obtain ⟨v, ev, rv⟩ := k1 d q; rw [ev]; exact rv
  | dt ks ds =>
    obtain ⟨k, e1, rfl⟩ := Option.map_eq_some_iff.mp e
    obtain ⟨p, xs, rfl, hp, hl, rs⟩ := rc.dt
    obtain ⟨b, ey, eb⟩ := tkey_rel rx e1
    obtain ⟨k1, k2⟩ := kvGet_rel (ks := ks) (x := k) rs
    refine ⟨p, valV (ks.zip xs) k, rfl, .inr ⟨_, k, b, hp, ey, eb, rfl⟩, ?_⟩
    cases q : kvGet ks ds k with
    | none => rw [k2 q]; exact trivial
    | some d => obtain ⟨v, ev, rv⟩ := k1 d q; rw [ev]; exact rv
  | _ => cases e
def dIxD (c x : D) : Option D := (dGet c x).bind id
def rIxD : R2 := fun x y H Q => ∃ a v, x = .ref a ∧ DGet H a y (some v) ∧ Q v H
theorem ok_ixD (G : Glb) : Ok2 G rIxD dIxD := by
  intro x y dx dy d H F Q hx hy e q
  obtain ⟨o, e1, e2⟩ := Option.bind_eq_some_iff.mp e
  cases e2
  obtain ⟨p, o', rfl, g, m⟩ := get_rel hx hy e1
  cases o' with
  | none => exact m.elim
  | some v => exact ⟨p, v, rfl, g, done m q⟩
def dPut (x d c : D) : Option D := match c with
  | .dk ks ds => if ks.length < LIM then (D.key x).map fun k => .dk (kvPut ks ds k d).1 (kvPut ks ds k d).2 else none
  | .dt ks ds => if ks.length < LIM then (D.tkey x).map fun k => .dt (kvPut ks ds k d).1 (kvPut ks ds k d).2 else none
  | .lst l => (match x with | .int i => (ixN l.length i).map fun j => .lst (l.set j d) | _ => none)
  | _ => none
def rSet2 : TSet := fun o i v H Q => rSetL o i v H Q ∨ rSetD o i v H Q
theorem ok_put (G : Glb) : OkSet G rSet2 dPut := by
  intro a kv v dk d c c' H F Q n1 n2 ro rk rd e q
  unfold dPut at e
  split at e
  · split at e
    · rename_i hlen
      obtain ⟨k, e1, rfl⟩ := Option.map_eq_some_iff.mp e
      obtain ⟨xs, hp, hl, rs⟩ := ro
      have ey := key_rel (.inl rk) e1
      obtain ⟨zs, z1, z2, z3⟩ := kvPut_rel rd hl rs (x := k)
      refine .inr ⟨a, _, rfl, .inl ⟨_, k, hp, ey, ?_, rfl⟩, q _ rfl ⟨zs, by rw [z1, upd_same], z2, RVs.upd n1 n2 z3⟩⟩
      rw [LIM_eq, List.length_zip]
      omega
    · cases e
  · split at e
    · rename_i hlen
      obtain ⟨k, e1, rfl⟩ := Option.map_eq_some_iff.mp e
      obtain ⟨xs, hp, hl, rs⟩ := ro
      obtain ⟨b, ey, eb⟩ := tkey_rel (.inl rk) e1
      obtain ⟨zs, z1, z2, z3⟩ := kvPut_rel rd hl rs (x := k)
      refine .inr ⟨a, _, rfl, .inr ⟨_, k, b, hp, ey, eb, ?_, rfl⟩, q _ rfl ⟨zs, by rw [z1, upd_same], z2, RVs.upd n1 n2 z3⟩⟩
      rw [LIM_eq, List.length_zip]
      omega
    · cases e
  · split at e
    · obtain ⟨j, e1, rfl⟩ := Option.map_eq_some_iff.mp e
      obtain ⟨xs, hp, rs⟩ := ro
      unfold RV at rk
      exact .inl ⟨a, xs, _, j, rfl, rk, hp, by rw [← rs.len]; exact e1, q _ rfl ⟨_, upd_same, RVs.upd n1 n2 (RVs.set rd j rs)⟩⟩
    · cases e
  · cases e
end
section
variable {X : Cx} {G : Glb} {β : Bt} {W : WX} {σ : L2.St} {H H' : Hp} {F F' : Addr → Prop} {ρ ρ' : List Sl} {L L' : Nat → List Addr} {e a b : Expr} {pos pos' : Pos} {oa ob : Opd} {m mk : M D}
/-- o[k] of a dict -/
theorem se_ixD (hu : X.A.units + 1 < cLine) (ha : PE X a (tO G β W oa)) (hb : PE X b (tO G β W ob)) (hs : NoSl b := by exact fun _ _ => rfl) : PE X (.Subscript a b pos) (tE G β W (mOp2 dIxD oa ob)) :=
  PE.imp (pe_dget hu ha hb hs) fun _ _ _ q => op2_imp (ok_ixD G) q
/-- x[k] = e, x a list or a dict of the frame's own -/
theorem ss_put {i : Nat} {o : Expr} (hu : X.A.units + 1 < cLine) (he : PE X e (tE G β W m)) (ho : PE X o (tVar i)) (hk : PE X b (tE G β W mk)) (hs : swapsWithSole [.Subscript o b pos'] e pos.line X.env = pure false := by rfl) (hw : swappedStores [.Subscript o b pos'] e X.env = pure none := by rfl)
    (h1 : (assignEach [.Subscript o b pos'] X.env).map (·.2) = [assign (.Subscript o b pos') X.env] := by rfl)
    (hx : ∀ v, assign (.Subscript o b pos') X.env v = (do
      let ov ← holding [v] (eval o X.env)
      let iv ← holding [v, ov] (eval b X.env)
      standAt pos'
      holding [v, ov, iv] (setItem ov iv v)
      release [v, ov, iv] []) := by intro _; rfl) : PS X (.Assign [.Subscript o b pos'] e pos) (tS G β W (mPut i mk m dPut)) :=
  PS.imp (ps_asg he (pg_sub ho hk (PSet.or set_list (set_dict hu)) hx) hs hw h1) fun _ _ _ q => put_imp (ok_put G) q
/-- d.get(k, x) -/
def dGet2 (d k x : D) : Option D := (dGet d k).map fun o => o.getD x
def mGet2 (oa : Opd) (mk mx : M D) : M D := bindM (o1 oa) fun x => fun ρ => match o2 ρ oa x with
  | some c => if D.isD c = true then bindM mk (fun k => bindM mx fun z => fun ρ => match o2 ρ oa x with
    | some c => (match dGet2 c k z with | some r => .ok r ρ | none => .no)
    | none => .no) ρ else .no
  | none => .no
theorem isD_of {c : D} {a : V} (rc : RW G H F c a) (h : D.isD c = true) : ∃ p, a = .ref p ∧ IsD H p := by
  cases c with
  | dk ks ds => obtain ⟨p, xs, rfl, hp, _⟩ := rc.dk; exact ⟨p, rfl, .inl ⟨_, hp⟩⟩
  | dt ks ds => obtain ⟨p, xs, rfl, hp, _⟩ := rc.dt; exact ⟨p, rfl, .inr ⟨_, hp⟩⟩
  | _ => cases h
theorem se_get2 {o f : Expr} {mx : M D} {apos cpos : Pos} (hu : X.A.units + 1 < cLine) (ho : PE X o (tO G β W oa)) (he : PE X e (tE G β W mk)) (hf : PE X f (tE G β W mx)) (hm : M2 X o "get" apos e f cpos := by exact ⟨rfl, rfl, rfl, rfl⟩) :
    PE X (.Call (.Attribute o "get" apos) [e, f] [] cpos) (tE G β W (mGet2 oa mk mx)) := by
  refine PE.imp (pe_dget2 hu ho he hf hm) fun σ H Q q => ?_
  obtain ⟨F, ρ, L, I, q⟩ := q
  refine tO_bind I q fun x ρ1 v H1 F1 L1 I1 w1 t1 q1 => ?_
  cases e1 : o2 ρ1 oa x with
  | none => rw [e1] at q1; exact q1.elim
  | some c =>
    rw [e1] at q1
    dsimp only at q1
    split at q1
    · rename_i hd
      obtain ⟨p, rfl, isd⟩ := isD_of (w1.late I1 e1) hd
      refine ⟨p, rfl, isd, tG_bind I1 q1 fun k ρ2 kv H2 F2 L2 I2 rk t2 q2 => tG_bind I2 q2 fun z ρ3 zv H3 F3 L3 I3 rz t3 q3 => ?_⟩
      cases e2 : o2 ρ3 oa x with
      | none => rw [e2] at q3; exact q3.elim
      | some c3 =>
        rw [e2] at q3
        dsimp only at q3
        cases e3 : dGet2 c3 k z with
        | none => rw [e3] at q3; exact q3.elim
        | some r =>
          rw [e3] at q3
          obtain ⟨og, e4, rfl⟩ := Option.map_eq_some_iff.mp e3
          obtain ⟨p', o', e5, g, mt⟩ := get_rel (((w1.step I1 t2).step I2 t3).late I3 e2) (.inl (RV.step I2 t3 rk)) e4
          cases e5
          refine ⟨o', g, q3 _ H3 F3 L3 I3 ?_ (Stp.refl _ _ _)⟩
          cases og with
          | none => cases o' with
            | none => exact rz
            | some v => exact mt.elim
          | some d => cases o' with
            | none => exact mt.elim
            | some v => exact mt
    · exact q1.elim
/-- k in d, k not in d -/
def dInD (k c : D) : Option D := (dGet c k).map fun o => .bl o.isSome
def dNotInD (k c : D) : Option D := (dGet c k).map fun o => .bl (!o.isSome)
end
end Ev
namespace Ev
open PySem PySem.Spec PyProof.Rows L2
section
variable {X : Cx} {G : Glb} {β : Bt} {W : WX} {σ σ' : L2.St} {H H' : Hp} {F F' : Addr → Prop} {ρ ρ' : List Sl} {L L' : Nat → List Addr} {e a b : Expr} {pos pos' : Pos} {oa ob : Opd} {m mk : M D}
/-- a new object of the asker's own -/
theorem new_ownD (I : St G β H F σ ρ L) {d : D} {o : HO} {p : Addr} {Q : VK} (hp : H p = none) (im : immO o = false) (r : RO G (upd H p o) F d p) (q : PostA G β W σ H F (Own L) Q (.ok (.ow d) ρ)) : Q (.ref p) (upd H p o) := by
  have np : ∀ i, p ∉ L i := fun i h => by obtain ⟨u, e, _⟩ := I.mu i p h; rw [hp] at e; cases e
  refine q _ _ F L [p] (I.new hp) ⟨⟨p, rfl, rfl, r⟩, by simp, fun a h => ?_, fun a h f => ?_, fun a h => ?_⟩ ?_
  · rw [List.mem_singleton.mp h]; exact np
  · rw [List.mem_singleton.mp h] at f
    obtain ⟨u, e⟩ := I.aF p f
    rw [hp] at e; cases e
  · rw [List.mem_singleton.mp h]; exact ⟨_, upd_same, im⟩
  · refine ⟨fun a u _ => upd_keep hp a u, fun a u _ => upd_keep hp a u, fun a u e => ⟨u, upd_keep hp a u e⟩, fun _ f => f, fun _ f => .inl f, fun x o => o.elim .inl fun z => .inr ?_⟩
    rw [List.mem_singleton.mp z]; exact hp
def aNewK : M Sl := retM (.ow (.dk [] []))
def aNewT : M Sl := retM (.ow (.dt [] []))
theorem sa_newK : PE X (.Dict [] [] pos) (tA G β W aNewK) := PE.imp pe_dnewK fun σ H Q ⟨F, ρ, L, I, q⟩ p hp => new_ownD (d := .dk [] []) I hp rfl ⟨[], upd_same, rfl, RVs.nil⟩ q
theorem sa_newT : PE X (.Dict [] [] pos) (tA G β W aNewT) := PE.imp pe_dnewT fun σ H Q ⟨F, ρ, L, I, q⟩ p hp => new_ownD (d := .dt [] []) I hp rfl ⟨[], upd_same, rfl, RVs.nil⟩ q
/-- {k: v, ..} -/
def pairsM : List (M D × M D) → M (List (D × D))
  | [] => retM []
  | (mk, mv) :: r => bindM mk fun k => bindM mv fun v => bindM (pairsM r) fun l => retM ((k, v) :: l)
def kvAll : List (D × D) → Option (List (Key × D))
  | [] => some []
  | (k, v) :: r => (D.key k).bind fun k => (kvAll r).map ((k, v) :: ·)
def kvMerge {κ : Type} [DecidableEq κ] : List κ × List D → List (κ × D) → List κ × List D
  | a, [] => a
  | a, (k, v) :: r => kvMerge (kvPut a.1 a.2 k v) r
def aDisp (trs : List (M D × M D)) : M Sl := bindM (pairsM trs) fun l => match kvAll l with
  | some r => if r.length ≤ 15 then retM (.ow (.dk (kvMerge ([], []) r).1 (kvMerge ([], []) r).2)) else noM
  | none => noM
def RVp (G : Glb) (H : Hp) (F : Addr → Prop) : List (D × D) → List (V × V) → Prop
  | [], l => l = []
  | (k, v) :: r, l => ∃ x y l', l = (x, y) :: l' ∧ RV G H F k x ∧ RV G H F v y ∧ RVp G H F r l'
def tPrs (G : Glb) (β : Bt) (W : WX) (trs : List (M D × M D)) : List (TE × TE) := trs.map fun p => (tE G β W p.1, tE G β W p.2)
theorem tG_bindA0 {α γ : Type} {Rel : Hp → (Addr → Prop) → α → γ → Prop} {m : M α} {f : α → M Sl} {Q : VK} {K : γ → Hp → Prop} {H0 : Hp} {F0 O0 : Addr → Prop} (I : St G β H F σ ρ L) (t0 : Stp H0 F0 O0 H F (Own L)) (h : PostA G β W σ H0 F0 O0 Q (bindM m f ρ))
    (k : ∀ a ρ1 c H1 F1 L1, St G β H1 F1 σ ρ1 L1 → Rel H1 F1 a c → Stp H F (Own L) H1 F1 (Own L1) → PostA G β W σ H0 F0 O0 Q (f a ρ1) → K c H1) : tG G β W Rel m σ H K := by
  refine ⟨F, ρ, L, I, ?_⟩
  unfold bindM at h
  cases e : m ρ with
  | ok a ρ1 =>
    rw [e] at h
    exact fun c H1 F1 L1 I1 r t => k a ρ1 c H1 F1 L1 I1 r t h
  | ex c l ρ1 =>
    rw [e] at h
    exact fun H' F' L' dd I' xr t => h H' F' L' dd I' xr (t0.trans t)
  | no =>
    rw [e] at h
    exact h
theorem pairs_bindA {H0 : Hp} {F0 O0 : Addr → Prop} : ∀ {trs : List (M D × M D)} {f : List (D × D) → M Sl} {Q : VK} {K : List (V × V) → Hp → Prop} {H : Hp} {F : Addr → Prop} {ρ : List Sl} {L : Nat → List Addr}, St G β H F σ ρ L → Stp H0 F0 O0 H F (Own L) → PostA G β W σ H0 F0 O0 Q (bindM (pairsM trs) f ρ) →
    (∀ l ρ1 ps H1 F1 L1, St G β H1 F1 σ ρ1 L1 → RVp G H1 F1 l ps → Stp H F (Own L) H1 F1 (Own L1) → PostA G β W σ H0 F0 O0 Q (f l ρ1) → K ps H1) → tPairs (tPrs G β W trs) σ H K
  | [], f, Q, K, H, F, ρ, L, I, _, h, k => k [] ρ [] H F L I rfl (Stp.refl _ _ _) h
  | (mk, mv) :: r, f, Q, K, H, F, ρ, L, I, t0, h, k => by
    show tE G β W mk σ H fun x H1 => tE G β W mv σ H1 fun y H2 => tPairs (tPrs G β W r) σ H2 fun ps H3 => K ((x, y) :: ps) H3
    have e : bindM (pairsM ((mk, mv) :: r)) f = bindM mk fun x => bindM mv fun y => bindM (pairsM r) fun l => f ((x, y) :: l) := by
      show bindM (bindM mk fun k => bindM mv fun v => bindM (pairsM r) fun l => retM ((k, v) :: l)) f = _
      rw [bindM_assoc]
      congr 1
      funext x
      rw [bindM_assoc]
      congr 1
      funext y
      rw [bindM_assoc]
      rfl
    rw [e] at h
    refine tG_bindA0 I t0 h fun x ρ1 vx H1 F1 L1 I1 rx t1 h1 => ?_
    refine tG_bindA0 I1 (t0.trans t1) h1 fun y ρ2 vy H2 F2 L2 I2 ry t2 h2 => ?_
    refine pairs_bindA I2 ((t0.trans t1).trans t2) h2 fun l ρ3 ps H3 F3 L3 I3 rl t3 h3 => ?_
    exact k ((x, y) :: l) ρ3 _ H3 F3 L3 I3 ⟨vx, vy, ps, rfl, RV.step I2 t3 (RV.step I1 t2 rx), RV.step I2 t3 ry, rl⟩ ((t1.trans t2).trans t3) h3
theorem kvAll_rel : ∀ {l : List (D × D)} {r : List (Key × D)} {ps : List (V × V)}, RVp G H F l ps → kvAll l = some r → ∃ kvs : List (Key × V), ps = kvs.map (fun kv => (kV kv.1, kv.2)) ∧ kvs.length = r.length ∧ kvs.map (·.1) = r.map (·.1) ∧ RVs G H F (r.map (·.2)) (kvs.map (·.2))
  | [], r, ps, h, e => by
    cases e
    exact ⟨[], h, rfl, rfl, RVs.nil⟩
  | (k, v) :: l, r, ps, h, e => by
    obtain ⟨x, y, l', rfl, rx, ry, rl⟩ := h
    unfold kvAll at e
    obtain ⟨k', e1, e2⟩ := Option.bind_eq_some_iff.mp e
    obtain ⟨r', e3, rfl⟩ := Option.map_eq_some_iff.mp e2
    obtain ⟨kvs, q1, q2, q3, q4⟩ := kvAll_rel rl e3
    refine ⟨(k', y) :: kvs, ?_, by simp [q2], by simp [q3], RVs.cons ry q4⟩
    rw [q1, key_rel (.inl rx) e1]
    rfl
theorem merge_rel : ∀ {r : List (Key × D)} {kvs : List (Key × V)} {ks : List Key} {ds : List D} {xs : List V}, kvs.map (·.1) = r.map (·.1) → RVs G H F (r.map (·.2)) (kvs.map (·.2)) → ks.length = xs.length → RVs G H F ds xs →
    ∃ zs, mergeK (ks.zip xs) kvs = (kvMerge (ks, ds) r).1.zip zs ∧ (kvMerge (ks, ds) r).1.length = zs.length ∧ RVs G H F (kvMerge (ks, ds) r).2 zs
  | [], kvs, ks, ds, xs, e, _, hl, rs => by
    have : kvs = [] := by simpa using e
    subst this
    exact ⟨xs, rfl, hl, rs⟩
  | (k, d) :: r, kvs, ks, ds, xs, e, rv, hl, rs => by
    cases kvs with
    | nil => simp at e
    | cons p kvs =>
      obtain ⟨k', v⟩ := p
      simp only [List.map_cons, List.cons.injEq] at e
      obtain ⟨rfl, e⟩ := e
      simp only [List.map_cons] at rv
      unfold RVs at rv
      obtain ⟨y, ys, q, ry, rr⟩ := rv
      cases q
      obtain ⟨zs, z1, z2, z3⟩ := kvPut_rel ry hl rs (x := k')
      have key := merge_rel (r := r) (kvs := kvs) e rr z2 z3
      show ∃ ws, mergeK (putK (ks.zip xs) k' v) kvs = _ ∧ _
      rw [z1]
      exact key
theorem spp_nil : PPs X pos [] [] (tPrs G β W []) := pps_nil
theorem spp_cons {k v : Expr} {ks : List (Option Expr)} {vs : List Expr} {trs : List (M D × M D)} (hk : PE X k (tE G β W mk)) (hv : PE X v (tE G β W m)) (hr : PPs X pos ks vs (tPrs G β W trs)) : PPs X pos (some k :: ks) (v :: vs) (tPrs G β W ((mk, m) :: trs)) := pps_cons hk hv hr
theorem sa_disp {keys : List (Option Expr)} {values : List Expr} {trs : List (M D × M D)} (h : PPs X pos keys values (tPrs G β W trs)) (hall : keys.all (·.isSome) = true := by rfl) (hl : keys.length = values.length := by rfl) (h0 : keys ≠ [] := by exact fun z => by cases z)
    (h15 : keys.length ≤ 15 := by decide) : PE X (.Dict keys values pos) (tA G β W (aDisp trs)) := PE.imp (pe_disp h hall hl h0 h15) fun σ H Q q p hp => by
  obtain ⟨F, ρ, L, I, q⟩ := q
  have I0 : St G β (upd H p (.dK [])) F σ ρ L := I.new hp
  have npL : ¬ Own L p := fun ⟨i, h⟩ => by obtain ⟨u, e, _⟩ := I.mu i p h; rw [hp] at e; cases e
  have npF : ¬ F p := fun f => by obtain ⟨u, e⟩ := I.aF p f; rw [hp] at e; cases e
  have t0 : Stp H F (Own L) (upd H p (.dK [])) F (Own L) := Stp.new hp
  -- the pairs are worked out while the new dict stands empty
  refine pairs_bindA (Q := Q) I0 t0 q fun l ρ1 ps H1 F1 L1 I1 rl t1 q3 => ?_
  have e1 : H1 p = some (.dK []) := t1.keep p _ npL upd_same
  have nF1 : ¬ F1 p := fun f => by
    rcases t1.newF p f with f | o | n
    · exact npF f
    · exact npL o
    · rw [upd_same] at n; cases n
  have nO1 : ¬ Own L1 p := fun o => by
    rcases t1.newO p o with o | n
    · exact npL o
    · rw [upd_same] at n; cases n
  refine ⟨e1, ?_⟩
  cases ek : kvAll l with
  | none => simp only [ek] at q3; exact q3.elim
  | some r =>
    simp only [ek] at q3
    obtain ⟨kvs, z1, z2, z3, z4⟩ := kvAll_rel rl ek
    split at q3
    · rename_i h15
      refine ⟨kvs, z1, by omega, ?_⟩
      obtain ⟨zs, y1, y2, y3⟩ := merge_rel (ks := []) (ds := []) (xs := []) z3 z4 rfl RVs.nil
      have n1 : ∀ b u, immO u = true → H1 b = some u → b ≠ p := fun b u iu eb z => by subst z; rw [e1] at eb; cases eb; cases iu
      have n2 : ∀ b, F1 b → b ≠ p := fun b f z => nF1 (z ▸ f)
      have ty : ([] : List (Key × V)) = ([] : List Key).zip ([] : List V) := rfl
      have B : Beside H F (Own L) H1 F1 L1 p := ⟨?_, hp, nF1, nO1⟩
      · refine q3 _ _ F1 L1 [p] (I1.updFree e1 rfl nF1 nO1) ⟨⟨p, rfl, rfl, zs, by rw [upd_same, ty, y1], y2, RVs.upd n1 n2 y3⟩, by simp, fun a h i hi => ?_, fun a h => ?_, fun a h => ?_⟩ (B.upd e1 rfl).stp
        · rw [List.mem_singleton.mp h] at hi; exact nO1 ⟨i, hi⟩
        · rw [List.mem_singleton.mp h]; exact nF1
        · rw [List.mem_singleton.mp h]; exact ⟨_, upd_same, rfl⟩
      · have t := t0.trans t1
        exact ⟨t.imm, t.keep, t.there, t.mono, t.newF, fun a o => o.elim (t.newO a) fun z => .inr (by rw [List.mem_singleton.mp z]; exact hp)⟩
    · exact q3.elim

/-! ## for k in d -/
/-- a dict is locked: what is known of all else stays -/
theorem Rd.lock {p : Addr} {u o : HO} {od : Obj} (e : H p = some u) {a : Addr} (r : Rd H a o) (h : a = p → u = o) : Rd (upd H p (.frz od u)) a o := by
  by_cases q : a = p
  · subst q
    rw [h rfl]
    exact .inr ⟨od, upd_same⟩
  · rcases r with r | ⟨o', r⟩
    · exact .inl (by rw [upd_ne q]; exact r)
    · exact .inr ⟨o', by rw [upd_ne q]; exact r⟩
def isDict : HO → Bool
  | .dK _ => true
  | .dT _ => true
  | _ => false
mutual
theorem RV.lock {p : Addr} {u : HO} {od : Obj} (e : H p = some u) (du : isDict u = true) : ∀ (d : D) (v : V), RV G H F d v → RV G (upd H p (.frz od u)) F d v
  | .non, _, h => by unfold RV at *; exact h
  | .bl _, _, h => by unfold RV at *; exact h
  | .int _, _, h => by unfold RV at *; exact h
  | .str _, _, h => by unfold RV at *; exact h
  | .tup l, v, h => by
    unfold RV at *
    obtain ⟨a, xs, ev, q, r⟩ := h
    have n : a ≠ p := fun z => by subst z; rw [e] at q; cases q; cases du
    exact ⟨a, xs, ev, by rw [upd_ne n]; exact q, RVs.lock e du l xs r⟩
  | .lst l, v, h => by
    unfold RV at *
    obtain ⟨a, xs, ev, f, q, r⟩ := h
    have n : a ≠ p := fun z => by subst z; rw [e] at q; cases q; cases du
    exact ⟨a, xs, ev, f, by rw [upd_ne n]; exact q, RVs.lock e du l xs r⟩
  | .dk k l, v, h => by
    unfold RV at *
    obtain ⟨a, xs, ev, f, q, z, r⟩ := h
    refine ⟨a, xs, ev, f, Rd.lock e q fun w => ?_, z, RVs.lock e du l xs r⟩
    subst w
    rcases q with q | ⟨o', q⟩
    · rw [e] at q; cases q; rfl
    · rw [e] at q; cases q; cases du
  | .dt k l, v, h => by
    unfold RV at *
    obtain ⟨a, xs, ev, f, q, z, r⟩ := h
    refine ⟨a, xs, ev, f, Rd.lock e q fun w => ?_, z, RVs.lock e du l xs r⟩
    subst w
    rcases q with q | ⟨o', q⟩
    · rw [e] at q; cases q; rfl
    · rw [e] at q; cases q; cases du
  | .fn _, _, h => by unfold RV at *; exact h
  | .ex c l, v, h => by
    unfold RV at *
    obtain ⟨a, φ, od', ys, ev, q, pp, r, z⟩ := h
    have n : a ≠ p := fun w => by subst w; rw [e] at q; cases q; cases du
    refine ⟨a, φ, od', ys, ev, by rw [upd_ne n]; exact q, pp, RVs.lock e du l ys r, ?_⟩
    rcases z with z | ⟨dd, nn, e1, e2⟩
    · exact .inl z
    have n' : dd ≠ p := fun w => by subst w; rw [e] at e2; cases e2; cases du
    exact .inr ⟨dd, nn, e1, by rw [upd_ne n']; exact e2⟩
  | .scr l, v, h => by
    unfold RV at *
    obtain ⟨a, ev, q⟩ := h
    refine ⟨a, ev, q.elim (fun ⟨o, q⟩ => .inl ⟨o, ?_⟩) .inr⟩
    have n : a ≠ p := fun z => by subst z; rw [e] at q; cases q; cases du
    rw [upd_ne n]; exact q
theorem RVs.lock {p : Addr} {u : HO} {od : Obj} (e : H p = some u) (du : isDict u = true) : ∀ (l : List D) (xs : List V), RVs G H F l xs → RVs G (upd H p (.frz od u)) F l xs
  | [], _, h => by unfold RVs at *; exact h
  | d :: l, xs, h => by
    unfold RVs at *
    obtain ⟨y, ys, ev, r, rs⟩ := h
    exact ⟨y, ys, ev, RV.lock e du d y r, RVs.lock e du l ys rs⟩
end
/-- .. and is opened again -/
theorem Rd.unlock {p : Addr} {u o : HO} {od : Obj} (e : H p = some (.frz od u)) {a : Addr} (r : Rd H a o) (no : ∀ od' w, o ≠ .frz od' w) : Rd (upd H p u) a o := by
  by_cases q : a = p
  · subst q
    rcases r with r | ⟨o', r⟩
    · rw [e] at r; exact absurd (Option.some.inj r).symm (no _ _)
    · rw [e] at r; cases r; exact .inl upd_same
  · rcases r with r | ⟨o', r⟩
    · exact .inl (by rw [upd_ne q]; exact r)
    · exact .inr ⟨o', by rw [upd_ne q]; exact r⟩
mutual
theorem RV.unlock {p : Addr} {u : HO} {od : Obj} (e : H p = some (.frz od u)) (du : isDict u = true) : ∀ (d : D) (v : V), RV G H F d v → RV G (upd H p u) F d v
  | .non, _, h => by unfold RV at *; exact h
  | .bl _, _, h => by unfold RV at *; exact h
  | .int _, _, h => by unfold RV at *; exact h
  | .str _, _, h => by unfold RV at *; exact h
  | .tup l, v, h => by
    unfold RV at *
    obtain ⟨a, xs, ev, q, r⟩ := h
    have n : a ≠ p := fun z => by subst z; rw [e] at q; cases q
    exact ⟨a, xs, ev, by rw [upd_ne n]; exact q, RVs.unlock e du l xs r⟩
  | .lst l, v, h => by
    unfold RV at *
    obtain ⟨a, xs, ev, f, q, r⟩ := h
    have n : a ≠ p := fun z => by subst z; rw [e] at q; cases q
    exact ⟨a, xs, ev, f, by rw [upd_ne n]; exact q, RVs.unlock e du l xs r⟩
  | .dk k l, v, h => by
    unfold RV at *
    obtain ⟨a, xs, ev, f, q, z, r⟩ := h
    exact ⟨a, xs, ev, f, Rd.unlock e q (fun _ _ z => by cases z), z, RVs.unlock e du l xs r⟩
  | .dt k l, v, h => by
    unfold RV at *
    obtain ⟨a, xs, ev, f, q, z, r⟩ := h
    exact ⟨a, xs, ev, f, Rd.unlock e q (fun _ _ z => by cases z), z, RVs.unlock e du l xs r⟩
  | .fn _, _, h => by unfold RV at *; exact h
  | .ex c l, v, h => by
    unfold RV at *
    obtain ⟨a, φ, od', ys, ev, q, pp, r, z⟩ := h
    have n : a ≠ p := fun w => by subst w; rw [e] at q; cases q
    refine ⟨a, φ, od', ys, ev, by rw [upd_ne n]; exact q, pp, RVs.unlock e du l ys r, ?_⟩
    rcases z with z | ⟨dd, nn, e1, e2⟩
    · exact .inl z
    have n' : dd ≠ p := fun w => by subst w; rw [e] at e2; cases e2
    exact .inr ⟨dd, nn, e1, by rw [upd_ne n']; exact e2⟩
  | .scr l, v, h => by
    unfold RV at *
    obtain ⟨a, ev, q⟩ := h
    refine ⟨a, ev, q.elim (fun ⟨o, q⟩ => .inl ⟨o, ?_⟩) .inr⟩
    have n : a ≠ p := fun z => by subst z; rw [e] at q; cases q; cases du
    rw [upd_ne n]; exact q
theorem RVs.unlock {p : Addr} {u : HO} {od : Obj} (e : H p = some (.frz od u)) (du : isDict u = true) : ∀ (l : List D) (xs : List V), RVs G H F l xs → RVs G (upd H p u) F l xs
  | [], _, h => by unfold RVs at *; exact h
  | d :: l, xs, h => by
    unfold RVs at *
    obtain ⟨y, ys, ev, r, rs⟩ := h
    exact ⟨y, ys, ev, RV.unlock e du d y r, RVs.unlock e du l ys rs⟩
end
theorem RO.map {d : D} {a : Addr} (ha : H' a = H a) (k : ∀ l xs, RVs G H F l xs → RVs G H' F l xs) (r : RO G H F d a) : RO G H' F d a := by
  cases d with
  | lst l => obtain ⟨xs, q, r⟩ := r; exact ⟨xs, by rw [ha]; exact q, k _ _ r⟩
  | dk ks l => obtain ⟨xs, q, z, r⟩ := r; exact ⟨xs, by rw [ha]; exact q, z, k _ _ r⟩
  | dt ks l => obtain ⟨xs, q, z, r⟩ := r; exact ⟨xs, by rw [ha]; exact q, z, k _ _ r⟩
  | _ => exact r.elim
mutual
theorem DT.map (kt : ∀ a xs, H a = some (.tup xs) → H' a = some (.tup xs)) (k1 : ∀ d v, RV G H F d v → RV G H' F d v) : ∀ (d : D) (v : V) (L : List Addr), (∀ a ∈ L, H' a = H a) → DT G H F d v L → DT G H' F d v L
  | .tup l, v, L, ha, h => by
    unfold DT at *
    obtain ⟨a, xs, e, q, r⟩ := h
    exact ⟨a, xs, e, kt a xs q, DTs.map kt k1 l xs L ha r⟩
  | .lst l, v, L, ha, h => by
    unfold DT at *
    obtain ⟨a, xs, L', e, q, rfl, r⟩ := h
    exact ⟨a, xs, L', e, by rw [ha a List.mem_cons_self]; exact q, rfl, DTs.map kt k1 l xs L' (fun b hb => ha b (List.mem_cons_of_mem _ hb)) r⟩
  | .non, v, L, _, h => by unfold DT at *; exact ⟨h.1, k1 _ v h.2⟩
  | .bl b, v, L, _, h => by unfold DT at *; exact ⟨h.1, k1 _ v h.2⟩
  | .int i, v, L, _, h => by unfold DT at *; exact ⟨h.1, k1 _ v h.2⟩
  | .str x, v, L, _, h => by unfold DT at *; exact ⟨h.1, k1 _ v h.2⟩
  | .dk k l, v, L, _, h => by unfold DT at *; exact ⟨h.1, k1 _ v h.2⟩
  | .dt k l, v, L, _, h => by unfold DT at *; exact ⟨h.1, k1 _ v h.2⟩
  | .fn i, v, L, _, h => by unfold DT at *; exact ⟨h.1, k1 _ v h.2⟩
  | .ex c l, v, L, _, h => by unfold DT at *; exact ⟨h.1, k1 _ v h.2⟩
  | .scr l, v, L, _, h => by unfold DT at *; exact ⟨h.1, k1 _ v h.2⟩
theorem DTs.map (kt : ∀ a xs, H a = some (.tup xs) → H' a = some (.tup xs)) (k1 : ∀ d v, RV G H F d v → RV G H' F d v) : ∀ (l : List D) (xs : List V) (L : List Addr), (∀ a ∈ L, H' a = H a) → DTs G H F l xs L → DTs G H' F l xs L
  | [], xs, L, _, h => by unfold DTs at *; exact h
  | d :: l, xs, L, ha, h => by
    unfold DTs at *
    obtain ⟨y, ys, L1, L2, e, rfl, r, rs⟩ := h
    exact ⟨y, ys, L1, L2, e, rfl, DT.map kt k1 d y L1 (fun a q => ha a (List.mem_append.mpr (.inl q))) r, DTs.map kt k1 l ys L2 (fun a q => ha a (List.mem_append.mpr (.inr q))) rs⟩
end
theorem St.map {p : Addr} {o : HO} (I : St G β H F σ ρ L) (nO : ¬ Own L p) (k1 : ∀ d v, RV G H F d v → RV G (upd H p o) F d v) (k : ∀ l xs, RVs G H F l xs → RVs G (upd H p o) F l xs) (kt : ∀ a xs, H a = some (.tup xs) → upd H p o a = some (.tup xs)) : St G β (upd H p o) F σ ρ L where
  len := I.len
  slot := fun i s e => by
    have r := I.slot i s e
    cases s with
    | emp => exact r
    | sh d => obtain ⟨el, v, ev, rv⟩ := r; exact ⟨el, v, ev, k1 d v rv⟩
    | ow d =>
      obtain ⟨a, el, ev, ro⟩ := r
      exact ⟨a, el, ev, RO.map (upd_ne fun z => nO ⟨i, by rw [el, z]; exact List.mem_cons_self⟩) k ro⟩
    | io d =>
      obtain ⟨a, el, ev, ro⟩ := r
      exact ⟨a, el, ev, RO.map (upd_ne fun z => nO ⟨i, by rw [el, z]; exact List.mem_cons_self⟩) k ro⟩
    | tr d =>
      obtain ⟨v, ev, dt⟩ := r
      exact ⟨v, ev, DT.map kt k1 d v (L i) (fun a ha => upd_ne fun z => nO ⟨i, by rw [← z]; exact ha⟩) dt⟩
  out := I.out
  nd := I.nd
  apart := I.apart
  nF := I.nF
  aF := fun a f => by
    by_cases q : a = p
    · rw [q, upd_same]; exact ⟨_, rfl⟩
    · rw [upd_ne q]; exact I.aF a f
  mu := fun i a h => by
    rw [upd_ne fun z => nO ⟨i, by rw [← z]; exact h⟩]
    exact I.mu i a h
  ios := I.ios
/-- the keys as data -/
def keyD : Key → D
  | .inl i => .int i
  | .inr x => .str x
def keysOf : D → Option (List D)
  | .dk ks ds => if ks.length = ds.length then some (ks.map keyD) else none
  | .dt ks ds => if ks.length = ds.length then some (ks.map fun k => .tup (k.map keyD)) else none
  | _ => none
theorem rv_key (k : Key) : RV G H F (keyD k) (kV k) := by
  cases k with
  | inl i => exact RV.int i
  | inr x => exact RV.str x
theorem rvs_keys : ∀ ks : List Key, RVs G H F (ks.map keyD) (ks.map kV)
  | [] => RVs.nil
  | k :: ks => RVs.cons (rv_key k) (rvs_keys ks)
theorem itD_keys {p : Addr} {od : Obj} {ks : List Key} {xs : List V} (hl : ks.length = xs.length) (e : H p = some (.frz od (.dK (ks.zip xs)))) : ItD G (Itk p od (ks.zip xs)) (ks.map keyD) H F where
  go := fun i d H' F' per ed => by
    rw [List.getElem?_map] at ed
    obtain ⟨k, ek, rfl⟩ := Option.map_eq_some_iff.mp ed
    have hi : i < ks.length := (List.getElem?_eq_some_iff.mp ek).1
    refine ⟨⟨per.k1 p _ rfl e, by rw [List.length_zip]; omega⟩, fun x H2 y => ?_⟩
    obtain ⟨rfl, k', v', e1, rfl⟩ := y
    have z : k' = k := by
      rw [List.getElem?_zip_eq_some] at e1
      rw [ek] at e1
      exact (Option.some.inj e1.1).symm
    subst z
    exact ⟨F', Ext.refl _ _, rv_key k'⟩
  stop := fun H' F' per => ⟨per.k1 p _ rfl e, by rw [List.length_zip, List.length_map]; omega⟩
theorem itD_keysT {p : Addr} {od : Obj} {ks : List (List Key)} {xs : List V} (hl : ks.length = xs.length) (e : H p = some (.frz od (.dT (ks.zip xs)))) : ItD G (Itkt p od (ks.zip xs)) (ks.map fun k => .tup (k.map keyD)) H F where
  go := fun i d H' F' per ed => by
    rw [List.getElem?_map] at ed
    obtain ⟨k, ek, rfl⟩ := Option.map_eq_some_iff.mp ed
    have hi : i < ks.length := (List.getElem?_eq_some_iff.mp ek).1
    refine ⟨⟨per.k1 p _ rfl e, by rw [List.length_zip]; omega⟩, fun x H2 y => ?_⟩
    obtain ⟨rfl, k', v', b, e1, rfl, eb⟩ := y
    have z : k' = k := by
      rw [List.getElem?_zip_eq_some] at e1
      rw [ek] at e1
      exact (Option.some.inj e1.1).symm
    subst z
    exact ⟨F', Ext.refl _ _, RV.tup eb (rvs_keys k')⟩
  stop := fun H' F' per => ⟨per.k1 p _ rfl e, by rw [List.length_zip, List.length_map]; omega⟩
def mForD (i : Nat) (f : D → M Unit) (b : M Flw) : M Flw := bindM (mVar i) fun d => match keysOf d with
  | some ds => fun ρ => (match forL f b ds ρ with
    | .ok w ρ' => .ok w ρ'
    | _ => .no)
  | none => noM
theorem ps_lockOr {st : Stmt} {t : TS} (h : PS X st t) : PS X st (fun D σ H => tLock t D σ H ∨ t D σ H) := ⟨fun pins s σ H D I q => q.elim ((ps_lock h).run pins s σ H D I) (h.run pins s σ H D I)⟩
theorem Stp.unlock {p : Addr} {u : HO} {od : Obj} (e : H p = some u) (du : isDict u = true) {O O' : Addr → Prop} (nO : ¬ O p) (t : Stp (upd H p (.frz od u)) F O H' F' O') : Stp H F O (upd H' p u) F' O' where
  imm := fun a w i q => by
    have n : a ≠ p := fun z => by subst z; rw [e] at q; cases q; cases u <;> first | (cases du; done) | (cases i; done)
    rw [upd_ne n]
    exact t.imm a w i (by rw [upd_ne n]; exact q)
  keep := fun a w n q => by
    by_cases z : a = p
    · subst z; rw [upd_same, ← e]; exact q
    · rw [upd_ne z]; exact t.keep a w n (by rw [upd_ne z]; exact q)
  there := fun a w q => by
    by_cases z : a = p
    · subst z; exact ⟨u, upd_same⟩
    · rw [upd_ne z]; exact t.there a w (by rw [upd_ne z]; exact q)
  mono := t.mono
  newF := fun a f => by
    rcases t.newF a f with f | o | n
    · exact .inl f
    · exact .inr (.inl o)
    · by_cases z : a = p
      · subst z; rw [upd_same] at n; cases n
      · rw [upd_ne z] at n; exact .inr (.inr n)
  newO := fun a o => by
    rcases t.newO a o with o | n
    · exact .inl o
    · by_cases z : a = p
      · subst z; rw [upd_same] at n; cases n
      · rw [upd_ne z] at n; exact .inr n
theorem keysOf_some {d : D} {ds : List D} {v : V} (r : RV G H F d v) (e : keysOf d = some ds) : ∃ p, v = .ref p ∧ F p ∧ ∃ u, isDict u = true ∧ Mut (some u) ∧ Rd H p u ∧ ∀ (H' : Hp) (od : Obj), H' p = some (.frz od u) →
    (∃ kvs, H' p = some (.frz od (.dK kvs)) ∧ ItD G (Itk p od kvs) ds H' F) ∨ (∃ kvs, H' p = some (.frz od (.dT kvs)) ∧ ItD G (Itkt p od kvs) ds H' F) := by
  cases d with
  | dk ks l =>
    unfold keysOf at e
    dsimp only at e
    split at e
    · cases e
      unfold RV at r
      obtain ⟨p, xs, rfl, f, q, z, rs⟩ := r
      exact ⟨p, rfl, f, .dK (ks.zip xs), rfl, True.intro, q, fun H' od e' => .inl ⟨_, e', itD_keys z e'⟩⟩
    · cases e
  | dt ks l =>
    unfold keysOf at e
    dsimp only at e
    split at e
    · cases e
      unfold RV at r
      obtain ⟨p, xs, rfl, f, q, z, rs⟩ := r
      exact ⟨p, rfl, f, .dT (ks.zip xs), rfl, True.intro, q, fun H' od e' => .inr ⟨_, e', itD_keysT z e'⟩⟩
    · cases e
  | _ => cases e
theorem ss_forD {i : Nat} {ws : List Nat} {tg iter : Expr} {body : List Stmt} {f : D → M Unit} {b : M Flw} (hp : PassesOwn (model X.prog X.w) X.A X.env X.xe) (hcal : X.calm = true) (ho : PE X iter (tVar i)) (hg : PG X tg (tGt G β ws f)) (hc : Calm f) (hb : PSs X body (tS G β W b))
    (hs : ∀ x, foldedSetIterable iter X.env x = pure x := by intro _; rfl) : PS X (.For tg iter body [] pos) (tS G β W (mForD i f b)) := by
  refine PS.imp (ps_lockOr (ps_for hp hcal (pi_keys ho) hg hb hs)) fun D σ H q => ?_
  obtain ⟨F, ρ, L, I, q⟩ := q
  -- the dict's name is read; what it holds is shared from now on
  have rd : ∃ d ρ1 v F1 L1, mVar i ρ = .ok d ρ1 ∧ σ[i]? = some (some v) ∧ St G β H F1 σ ρ1 L1 ∧ RV G H F1 d v ∧ Stp H F (Own L) H F1 (Own L1) := by
    unfold mVar
    unfold mForD bindM mVar at q
    cases e1 : ρ[i]? with
    | none => rw [e1] at q; exact q.elim
    | some s =>
      cases s with
      | emp => rw [e1] at q; exact q.elim
      | io d => rw [e1] at q; exact q.elim
      | sh d =>
        obtain ⟨_, v, ev, r⟩ := I.slot i _ e1
        exact ⟨d, ρ, v, F, L, rfl, getD_some ev, I, r, Stp.refl _ _ _⟩
      | ow d =>
        obtain ⟨a, ea, I2, rv, t⟩ := I.freeze e1
        exact ⟨d, _, _, _, _, rfl, ea, I2, rv, t⟩
      | tr d =>
        obtain ⟨a, ea, I2, rv, t⟩ := I.freezeT e1
        exact ⟨d, _, _, _, _, rfl, ea, I2, rv, t⟩
  obtain ⟨d, ρ1, v, F1, L1, em, ev, I1, rv, t1⟩ := rd
  unfold mForD bindM at q
  rw [em] at q
  dsimp only at q
  cases ek : keysOf d with
  | none => rw [ek] at q; exact q.elim
  | some ds =>
    rw [ek] at q
    dsimp only at q
    cases el : forL f b ds ρ1 with
    | no => rw [el] at q; exact q.elim
    | ex c l r => rw [el] at q; exact q.elim
    | ok w ρe =>
      rw [el] at q
      dsimp only at q
      have q1 := PostS.trans t1 q
      obtain ⟨p, rfl, fp, u, du, mu, r, its⟩ := keysOf_some rv ek
      rcases r with e | ⟨od, e⟩
      · -- it is locked here
        refine .inl ⟨p, u, e, mu, fun od => ⟨_, ev, p, od, rfl, ?_⟩⟩
        have nO : ¬ Own L1 p := I1.notF fp
        have I2 : St G β (upd H p (.frz od u)) F1 σ ρ1 L1 := I1.map nO (fun d v r => RV.lock e du d v r) (fun l xs r => RVs.lock e du l xs r) (fun a xs q => by rw [upd_ne (fun z => by subst z; rw [e] at q; cases q; cases du)]; exact q)
        have fin : ∀ {σ' : L2.St} {H' : Hp} {F' : Addr → Prop} {L' : Nat → List Addr} {O' : Addr → Prop}, St G β H' F' σ' ρe L' → Stp (upd H p (.frz od u)) F1 (Own L1) H' F' O' → H' p = some (.frz od u) ∧ St G β (upd H' p u) F' σ' ρe L' ∧ Stp H F1 (Own L1) (upd H' p u) F' O' := fun {σ' H' F' L' O'} I' t => by
          have e' : H' p = some (.frz od u) := t.imm p _ rfl upd_same
          have nO' : ¬ Own L' p := I'.notF (t.mono p fp)
          exact ⟨e', I'.map nO' (fun d v r => RV.unlock e' du d v r) (fun l xs r => RVs.unlock e' du l xs r) (fun a xs q => by rw [upd_ne (fun z => by subst z; rw [e'] at q; cases q)]; exact q), t.unlock e du nO⟩
        have q2 : PostS G β W (upd H p (.frz od u)) F1 (Own L1) ⟨fun σ' H' => H' p = some (.frz od u) ∧ D.nx σ' (upd H' p u), fun v H' => H' p = some (.frz od u) ∧ D.rt v (upd H' p u), fun σ' H' => H' p = some (.frz od u) ∧ D.bk σ' (upd H' p u), fun σ' H' => H' p = some (.frz od u) ∧ D.ct σ' (upd H' p u)⟩ (forL f b ds ρ1) := by
          rw [el]
          cases w with
          | nx => exact fun σ' H' F' L' I' t => let ⟨a, b, c⟩ := fin I' t; ⟨a, q1 σ' _ F' L' b c⟩
          | bk => exact fun σ' H' F' L' I' t => let ⟨a, b, c⟩ := fin I' t; ⟨a, q1 σ' _ F' L' b c⟩
          | ct => exact fun σ' H' F' L' I' t => let ⟨a, b, c⟩ := fin I' t; ⟨a, q1 σ' _ F' L' b c⟩
          | rt s =>
            intro v σ' H' F' L' lr I' rs t
            obtain ⟨a, b, c⟩ := fin I' t
            have np : ∀ x ∈ lr, x ≠ p := fun x h z => rs.nF x h (by rw [z]; exact t.mono p fp)
            refine ⟨a, q1 v σ' _ F' L' lr b ⟨?_, rs.nd, rs.ap, rs.nF, fun x h => by rw [upd_ne (np x h)]; exact rs.mu x h⟩ c⟩
            have rl := rs.rel
            cases s with
            | emp => exact rl
            | sh d => obtain ⟨el, v, ev, rv⟩ := rl; exact ⟨el, v, ev, RV.unlock a du d v rv⟩
            | ow d =>
              obtain ⟨y, el, ev, ro⟩ := rl
              exact ⟨y, el, ev, RO.map (upd_ne (np y (by rw [el]; exact List.mem_cons_self))) (fun l xs r => RVs.unlock a du l xs r) ro⟩
            | io d =>
              obtain ⟨y, el, ev, ro⟩ := rl
              exact ⟨y, el, ev, RO.map (upd_ne (np y (by rw [el]; exact List.mem_cons_self))) (fun l xs r => RVs.unlock a du l xs r) ro⟩
            | tr d =>
              obtain ⟨v', ev, dt⟩ := rl
              exact ⟨v', ev, DT.map (fun b xs q => by rw [upd_ne (fun z => by subst z; rw [a] at q; cases q)]; exact q) (fun d v r => RV.unlock a du d v r) d v' lr (fun b hb => upd_ne (np b hb)) dt⟩
        rcases its (upd H p (.frz od u)) od upd_same with ⟨kvs, e2, it⟩ | ⟨kvs, e2, it⟩
        · exact .inl ⟨kvs, e2, for_core hc I2 it q2⟩
        · exact .inr ⟨kvs, e2, for_core hc I2 it q2⟩
      · -- it is locked already
        refine .inr ⟨_, ev, p, od, rfl, ?_⟩
        have q2 : PostS G β W H F1 (Own L1) D (forL f b ds ρ1) := by rw [el]; exact q1
        rcases its H od e with ⟨kvs, e2, it⟩ | ⟨kvs, e2, it⟩
        · exact .inl ⟨kvs, e2, for_core hc I1 it q2⟩
        · exact .inr ⟨kvs, e2, for_core hc I1 it q2⟩
end
end Ev
namespace Ev
open PySem PySem.Spec PyProof.Rows L2

/-! ## isinstance, of the built-in types -/
theorem bt_isinstance : bootBuiltins "isinstance" = some (.builtin "isinstance") := by decide +kernel
theorem bt_len : bootBuiltins "len" = some (.builtin "len") := by decide +kernel
theorem bt_abs : bootBuiltins "abs" = some (.builtin "abs") := by decide +kernel
theorem bt_min : bootBuiltins "min" = some (.builtin "min") := by decide +kernel
theorem bt_max : bootBuiltins "max" = some (.builtin "max") := by decide +kernel
theorem bt_sum : bootBuiltins "sum" = some (.builtin "sum") := by decide +kernel
theorem bt_any : bootBuiltins "any" = some (.builtin "any") := by decide +kernel
theorem bt_all : bootBuiltins "all" = some (.builtin "all") := by decide +kernel
theorem bt_sorted : bootBuiltins "sorted" = some (.builtin "sorted") := by decide +kernel
theorem bt_repr : bootBuiltins "repr" = some (.builtin "repr") := by decide +kernel
theorem bt_divmod : bootBuiltins "divmod" = some (.builtin "divmod") := by decide +kernel
theorem bt_range : bootBuiltins "range" = some (.type "range") := by decide +kernel
theorem bt_list : bootBuiltins "list" = some (.type "list") := by decide +kernel
theorem bt_tuple : bootBuiltins "tuple" = some (.type "tuple") := by decide +kernel
theorem bt_dict : bootBuiltins "dict" = some (.type "dict") := by decide +kernel
theorem bt_str : bootBuiltins "str" = some (.type "str") := by decide +kernel
theorem bt_int : bootBuiltins "int" = some (.type "int") := by decide +kernel
theorem bt_bool : bootBuiltins "bool" = some (.type "bool") := by decide +kernel
theorem bt_set : bootBuiltins "set" = some (.type "set") := by decide +kernel
theorem bt_zip : bootBuiltins "zip" = some (.type "zip") := by decide +kernel
theorem bt_enumerate : bootBuiltins "enumerate" = some (.type "enumerate") := by decide +kernel
inductive Ty where
  | int | bool | str | tup | lst | dct
def Ty.nm : Ty → String
  | .int => "int" | .bool => "bool" | .str => "str" | .tup => "tuple" | .lst => "list" | .dct => "dict"
def D.tyN : D → Option String
  | .non => some "NoneType" | .bl _ => some "bool" | .int _ => some "int" | .str _ => some "str" | .tup _ => some "tuple" | .lst _ => some "list" | .dk _ _ => some "dict" | .scr _ => some "list" | _ => none
/-- isinstance(d, T) -/
def D.isA : D → Ty → Option Bool
  | .int _, .int => some true
  | .bl _, .int => some true
  | .bl _, .bool => some true
  | .str _, .str => some true
  | .tup _, .tup => some true
  | .lst _, .lst => some true
  | .dk _ _, .dct => some true
  | .scr _, .lst => some true
  | .dt _ _, _ => none
  | .fn _, _ => none
  | .ex _ _, _ => none
  | _, _ => some false
theorem isA_tyN {d : D} {t : Ty} {b : Bool} (h : D.isA d t = some b) : ∃ s, D.tyN d = some s ∧ kitB s t.nm = some b := by
  cases d <;> cases t <;> first
    | (cases h; done)
    | (cases h; exact ⟨_, rfl, by decide +kernel⟩)
section
variable {G : Glb} {H : Hp} {F : Addr → Prop}
theorem tyx_of {d : D} {v : V} {s : String} (r : RW G H F d v) (e : D.tyN d = some s) : TyX G.K H v (.type s) := by
  cases d with
  | non => cases e; rw [r.non]; exact .base .non
  | bl b => cases e; rw [r.bl]; exact .base (.bl b)
  | int b => cases e; rw [r.int]; exact .base (.int b)
  | str b => cases e; rw [r.str]; exact .base (.str b)
  | tup l =>
    cases e
    obtain ⟨p, xs, rfl, ep, rs⟩ := r.tup
    exact .base (.tup ep)
  | lst l =>
    cases e
    obtain ⟨p, xs, rfl, ep, rs⟩ := r.lst
    exact .base (.lst ep)
  | dk k l =>
    cases e
    obtain ⟨p, xs, rfl, ep, _, rs⟩ := r.dk
    rcases ep with ep | ⟨o, ep⟩
    · exact .base (.dK ep)
    · exact .fDict ep
  | scr l =>
    cases e
    obtain ⟨p, rfl, hp⟩ := r.scr
    rcases hp with ⟨o, e⟩ | ⟨o, its, n, e, c, _⟩
    · exact .base (.frz e)
    · exact .kList e c
  | _ => cases e
end
def dIsi (t : Ty) : List D → Option D
  | [d] => (D.isA d t).map .bl
  | _ => none
def rIsi1 (K : PySem.W.Frag) (t : Ty) : List V → Hp → VK → Prop := fun xs H Q => rIsi K (xs ++ [.ty t.nm]) H Q
theorem ok_isi {G : Glb} (t : Ty) : OkN G (rIsi1 G.K t) (dIsi t) := by
  intro xs ds d H F Q hx e q
  unfold dIsi at e
  split at e
  · obtain ⟨v, rfl, h⟩ := hx.one
    obtain ⟨b, e1, rfl⟩ := Option.map_eq_some_iff.mp e
    obtain ⟨s, e2, e3⟩ := isA_tyN e1
    exact ⟨v, .ty t.nm, .type s, .type t.nm, b, rfl, .ty _, tyx_of h e2, kit_ty e3, done (.bl _) q⟩
  · cases e
/-- isinstance(d, (T, U)) -/
def dIsi2 (t u : Ty) : List D → Option D
  | [d] => (match D.isA d t, D.isA d u with | some a, some b => some (.bl (a || b)) | _, _ => none)
  | _ => none
def rIsi2 (K : PySem.W.Frag) (t u : Ty) : List V → Hp → VK → Prop := fun xs H Q => [V.ty t.nm, V.ty u.nm].length ≤ sizeLine ∧ ∀ p, H p = none → rIsiT K (xs ++ [.ref p]) (upd H p (.tup [.ty t.nm, .ty u.nm])) Q
theorem ok_isi2 {G : Glb} (t u : Ty) : OkN G (rIsi2 G.K t u) (dIsi2 t u) := by
  intro xs ds d H F Q hx e q
  refine ⟨by rw [sizeLine_eq]; exact (by decide : 2 ≤ 16777216), fun p hp => ?_⟩
  unfold dIsi2 at e
  split at e
  · obtain ⟨v, rfl, h⟩ := hx.one
    rename_i d0
    cases e1 : D.isA d0 t with
    | none => rw [e1] at e; cases e
    | some a =>
      cases e2 : D.isA d0 u with
      | none => rw [e1, e2] at e; cases e
      | some b =>
        rw [e1, e2] at e
        cases e
        obtain ⟨s, e3, e4⟩ := isA_tyN e1
        obtain ⟨s', e5, e6⟩ := isA_tyN e2
        rw [e3] at e5
        cases e5
        have h' : RW G (upd H p (.tup [.ty t.nm, .ty u.nm])) F d0 v := by
          rcases h with h | ⟨a, rfl, r⟩
          · exact .inl (RV.ext (Ext.one hp) h)
          · refine .inr ⟨a, rfl, ?_⟩
            cases d0 with
            | lst l => obtain ⟨xs, q, r⟩ := r; exact ⟨xs, upd_keep hp _ _ q, RVs.ext (Ext.one hp) r⟩
            | dk k l => obtain ⟨xs, q, z, r⟩ := r; exact ⟨xs, upd_keep hp _ _ q, z, RVs.ext (Ext.one hp) r⟩
            | dt k l => obtain ⟨xs, q, z, r⟩ := r; exact ⟨xs, upd_keep hp _ _ q, z, RVs.ext (Ext.one hp) r⟩
            | _ => exact r.elim
        refine ⟨v, p, [.ty t.nm, .ty u.nm], .type s, [.type t.nm, .type u.nm], a || b, rfl, upd_same, .cons (.ty _) (.cons (.ty _) .nil), tyx_of h' e3, ?_, q _ _ _ (Ext.one hp) (by unfold RV; rfl)⟩
        refine kitAny_cons (kit_ty e4) (fun z => ?_) fun z => by rw [z]; rfl
        rw [z]
        refine kitAny_cons (kit_ty e6) (fun z => ?_) fun z => by rw [z]; rfl
        rw [z]
        exact kitAny_nil
  · cases e
section
variable {X : Cx} {G : Glb} {β : Bt} {W : WX} {σ : L2.St} {H H' : Hp} {F F' : Addr → Prop} {ρ ρ' : List Sl} {L L' : Nat → List Addr} {e a b : Expr} {pos pos' p p2 p3 : Pos} {oa ob : Opd} {m mk : M D} {x y : Str}
theorem pe_tyn {t : Ty} (hm : X.mg x = none) (hv : bootBuiltins x = some (.type t.nm)) (hg : Gl X x := by rfl) (hn : x ≠ "__name__" := by decide) (hd : (x == ("__debug__" : Str)) = false := by decide) : PE X (.Name x p) (tC (.ty t.nm)) :=
  pe_bltn hg hm hv rfl hn hd
theorem se_isi {t : Ty} {o : Opd} (hI : X.mg "isinstance" = none) (hm : X.mg x = none) (hv : bootBuiltins x = some (.type t.nm)) (ho : PE X a (tO G β W o)) (hg : Gl X x := by rfl) (hn : x ≠ "__name__" := by decide) (hd : (x == ("__debug__" : Str)) = false := by decide)
    (hgI : Gl X "isinstance" := by rfl)
    (hs : starEach [a, .Name x p2] X.env = (false, eval a X.env) :: starEach [.Name x p2] X.env := by rfl) (hs2 : starEach [.Name x p2] X.env = (false, eval (.Name x p2) X.env) :: starEach [] X.env := by rfl)
    (hpl : (backTo pos (starEach [.Name x p2] X.env)).any (·.1) = false := by rfl) (hK : G.K = X.K := by rfl) : PE X (.Call (.Name "isinstance" p) [a, .Name x p2] [] pos) (tE G β W (mOpN (dIsi t) [o])) := by
  refine PE.imp (pe_callB call_isi hgI hI bt_isinstance (pa_cons ho (pa_cons (pe_tyn hm hv hg hn hd) pa_nil hs2) hs) (by decide) (by decide) hs hpl) fun σ H Q q => ?_
  have q' := opN_imp (ok_isi t) q
  rw [hK] at q'
  exact q'
theorem se_isi2 {t u : Ty} {o : Opd} {k : Nat} (hI : X.mg "isinstance" = none) (hm : X.mg x = none) (hv : bootBuiltins x = some (.type t.nm)) (hm' : X.mg y = none) (hv' : bootBuiltins y = some (.type u.nm)) (ho : PE X a (tO G β W o))
    (hg : Gl X x := by rfl) (hn : x ≠ "__name__" := by decide) (hd : (x == ("__debug__" : Str)) = false := by decide) (hg' : Gl X y := by rfl) (hn' : y ≠ "__name__" := by decide) (hd' : (y == ("__debug__" : Str)) = false := by decide)
    (hgI : Gl X "isinstance" := by rfl)
    (hs : starEach [a, .Tuple [.Name x p2, .Name y p3] k pos'] X.env = (false, eval a X.env) :: starEach [.Tuple [.Name x p2, .Name y p3] k pos'] X.env := by rfl) (hs2 : starEach [.Tuple [.Name x p2, .Name y p3] k pos'] X.env = (false, eval (.Tuple [.Name x p2, .Name y p3] k pos') X.env) :: starEach [] X.env := by rfl)
    (hs3 : starEach [.Name x p2, .Name y p3] X.env = (false, eval (.Name x p2) X.env) :: starEach [.Name y p3] X.env := by rfl) (hs4 : starEach [.Name y p3] X.env = (false, eval (.Name y p3) X.env) :: starEach [] X.env := by rfl)
    (hpl : (backTo pos (starEach [.Tuple [.Name x p2, .Name y p3] k pos'] X.env)).any (·.1) = false := by rfl) (hK : G.K = X.K := by rfl) :
    PE X (.Call (.Name "isinstance" p) [a, .Tuple [.Name x p2, .Name y p3] k pos'] [] pos) (tE G β W (mOpN (dIsi2 t u) [o])) := by
  refine PE.imp (pe_callB call_isiT hgI hI bt_isinstance (pa_cons ho (pa_cons (pe_tup (pa_cons (pe_tyn hm hv hg hn hd) (pa_cons (pe_tyn hm' hv' hg' hn' hd') pa_nil hs4) hs3)) pa_nil hs2) hs) (by decide) (by decide) hs hpl) fun σ H Q q => ?_
  have q' := opN_imp (ok_isi2 t u) q
  rw [hK] at q'
  exact q'
end
end Ev
namespace Ev
open PySem PySem.Spec PyProof.Rows L2

/-! ## sum, any, all, min, max, sorted, divmod -/
def D.ints : List D → Option (List Int)
  | [] => some []
  | .int i :: l => (D.ints l).map (i :: ·)
  | _ :: _ => none
theorem ints_map : ∀ {l : List D} {ns : List Int}, D.ints l = some ns → l = ns.map D.int
  | [], ns, h => by cases h; rfl
  | .int i :: l, ns, h => by
    obtain ⟨m, e, rfl⟩ := Option.map_eq_some_iff.mp h
    rw [ints_map e]; rfl
  | .non :: _, _, h => by cases h
  | .bl _ :: _, _, h => by cases h
  | .str _ :: _, _, h => by cases h
  | .tup _ :: _, _, h => by cases h
  | .lst _ :: _, _, h => by cases h
  | .dk _ _ :: _, _, h => by cases h
  | .dt _ _ :: _, _, h => by cases h
  | .fn _ :: _, _, h => by cases h
  | .ex _ _ :: _, _, h => by cases h
  | .scr _ :: _, _, h => by cases h
def D.bls : List D → Option (List Bool)
  | [] => some []
  | .bl i :: l => (D.bls l).map (i :: ·)
  | _ :: _ => none
theorem bls_map : ∀ {l : List D} {ns : List Bool}, D.bls l = some ns → l = ns.map D.bl
  | [], ns, h => by cases h; rfl
  | .bl i :: l, ns, h => by
    obtain ⟨m, e, rfl⟩ := Option.map_eq_some_iff.mp h
    rw [bls_map e]; rfl
  | .non :: _, _, h => by cases h
  | .int _ :: _, _, h => by cases h
  | .str _ :: _, _, h => by cases h
  | .tup _ :: _, _, h => by cases h
  | .lst _ :: _, _, h => by cases h
  | .dk _ _ :: _, _, h => by cases h
  | .dt _ _ :: _, _, h => by cases h
  | .fn _ :: _, _, h => by cases h
  | .ex _ _ :: _, _, h => by cases h
  | .scr _ :: _, _, h => by cases h
def maxL : Int → List Int → Int
  | m, [] => m
  | m, x :: l => maxL (if m < x then x else m) l
def minL : Int → List Int → Int
  | m, [] => m
  | m, x :: l => minL (if x < m then x else m) l
theorem maxL_ge : ∀ (m : Int) (l : List Int), m ≤ maxL m l ∧ ∀ y ∈ l, y ≤ maxL m l
  | m, [] => ⟨Int.le_refl _, fun y h => by cases h⟩
  | m, x :: l => by
    obtain ⟨h1, h2⟩ := maxL_ge (if m < x then x else m) l
    unfold maxL
    refine ⟨?_, fun y hy => ?_⟩
    · split at h1 <;> rename_i z
      · rw [if_pos z]; omega
      · rw [if_neg z]; exact h1
    · rcases List.mem_cons.mp hy with rfl | hy
      · split at h1 <;> rename_i z
        · rw [if_pos z]; exact h1
        · rw [if_neg z]; omega
      · exact h2 y hy
theorem maxL_mem : ∀ (m : Int) (l : List Int), maxL m l = m ∨ maxL m l ∈ l
  | m, [] => .inl rfl
  | m, x :: l => by
    unfold maxL
    rcases maxL_mem (if m < x then x else m) l with h | h
    · split at h <;> rename_i z
      · rw [if_pos z]; exact .inr (by rw [h]; exact List.mem_cons_self)
      · rw [if_neg z]; exact .inl h
    · exact .inr (List.mem_cons_of_mem _ h)
theorem minL_le : ∀ (m : Int) (l : List Int), minL m l ≤ m ∧ ∀ y ∈ l, minL m l ≤ y
  | m, [] => ⟨Int.le_refl _, fun y h => by cases h⟩
  | m, x :: l => by
    obtain ⟨h1, h2⟩ := minL_le (if x < m then x else m) l
    unfold minL
    refine ⟨?_, fun y hy => ?_⟩
    · split at h1 <;> rename_i z
      · rw [if_pos z]; omega
      · rw [if_neg z]; exact h1
    · rcases List.mem_cons.mp hy with rfl | hy
      · split at h1 <;> rename_i z
        · rw [if_pos z]; exact h1
        · rw [if_neg z]; omega
      · exact h2 y hy
theorem minL_mem : ∀ (m : Int) (l : List Int), minL m l = m ∨ minL m l ∈ l
  | m, [] => .inl rfl
  | m, x :: l => by
    unfold minL
    rcases minL_mem (if x < m then x else m) l with h | h
    · split at h <;> rename_i z
      · rw [if_pos z]; exact .inr (by rw [h]; exact List.mem_cons_self)
      · rw [if_neg z]; exact .inl h
    · exact .inr (List.mem_cons_of_mem _ h)
theorem exts_eq {ns : List Int} {m m' : Int} (h1 : m ∈ ns) (h2 : ∀ y, y ∈ ns → y ≤ m) (h1' : m' ∈ ns) (h2' : ∀ y, y ∈ ns → y ≤ m') : m = m' := Int.le_antisymm (h2' _ h1) (h2 _ h1')
theorem exti_eq {ns : List Int} {m m' : Int} (h1 : m ∈ ns) (h2 : ∀ y, y ∈ ns → m ≤ y) (h1' : m' ∈ ns) (h2' : ∀ y, y ∈ ns → m' ≤ y) : m = m' := Int.le_antisymm (h2 _ h1') (h2' _ h1)
def dInts (f : List Int → Option D) : List D → Option D
  | [.lst l] => (D.ints l).bind f
  | _ => none
theorem dInts_some {G : Glb} {H : Hp} {F : Addr → Prop} {f : List Int → Option D} {ds : List D} {d : D} {xs : List V} (hx : RWs G H F ds xs) (e : dInts f ds = some d) : ∃ a ns, xs = [.ref a] ∧ H a = some (.lst (ns.map V.int)) ∧ f ns = some d := by
  unfold dInts at e
  split at e
  · obtain ⟨ns, e1, e2⟩ := Option.bind_eq_some_iff.mp e
    obtain ⟨v, rfl, h⟩ := hx.one
    obtain ⟨p, ys, rfl, ep, rs⟩ := h.lst
    rw [ints_map e1] at rs
    rw [rs.ints] at ep
    exact ⟨p, ns, rfl, ep, e2⟩
  · cases e
def dSum : List D → Option D := dInts fun ns => some (.int ns.sum)
theorem ok_sum (G : Glb) (K : PySem.W.Frag) : OkN G (rSum K) dSum := by
  intro xs ds d H F Q hx e q
  obtain ⟨a, ns, rfl, ep, e2⟩ := dInts_some hx e
  cases e2
  exact ⟨a, ns, rfl, SqL.of ep, done (.int _) q⟩
def dMaxL : List D → Option D := dInts fun ns => match ns with | [] => none | n :: l => some (.int (maxL n l))
theorem ok_maxL (G : Glb) (K : PySem.W.Frag) : OkN G (rMax K) dMaxL := by
  intro xs ds d H F Q hx e q
  obtain ⟨a, ns, rfl, ep, e2⟩ := dInts_some hx e
  cases ns with
  | nil => cases e2
  | cons n l =>
    cases e2
    refine ⟨a, n :: l, rfl, SqL.of ep, Nat.succ_pos _, fun m h1 h2 => ?_⟩
    have : m = maxL n l := exts_eq h1 h2 (by rcases maxL_mem n l with h | h <;> simp [h]) fun y hy => by
      rcases List.mem_cons.mp hy with rfl | hy
      · exact (maxL_ge _ l).1
      · exact (maxL_ge n l).2 y hy
    subst this
    exact done (.int _) q
def dMinL : List D → Option D := dInts fun ns => match ns with | [] => none | n :: l => some (.int (minL n l))
theorem ok_minL (G : Glb) (K : PySem.W.Frag) : OkN G (rMin K) dMinL := by
  intro xs ds d H F Q hx e q
  obtain ⟨a, ns, rfl, ep, e2⟩ := dInts_some hx e
  cases ns with
  | nil => cases e2
  | cons n l =>
    cases e2
    refine ⟨a, n :: l, rfl, SqL.of ep, Nat.succ_pos _, fun m h1 h2 => ?_⟩
    have : m = minL n l := exti_eq h1 h2 (by rcases minL_mem n l with h | h <;> simp [h]) fun y hy => by
      rcases List.mem_cons.mp hy with rfl | hy
      · exact (minL_le _ l).1
      · exact (minL_le n l).2 y hy
    subst this
    exact done (.int _) q
def dBls (f : List Bool → D) : List D → Option D
  | [.lst l] => (D.bls l).map f
  | _ => none
theorem bls_rel {G : Glb} {H : Hp} {F : Addr → Prop} : ∀ {ns : List Bool} {xs : List V}, RVs G H F (ns.map D.bl) xs → xs = ns.map V.bl
  | [], xs, h => by simp only [List.map_nil] at h; unfold RVs at h; exact h
  | n :: ns, xs, h => by
    simp only [List.map_cons] at h
    unfold RVs at h
    obtain ⟨y, ys, e, r, rs⟩ := h
    unfold RV at r
    rw [e, r, bls_rel rs]; rfl
theorem dBls_some {G : Glb} {H : Hp} {F : Addr → Prop} {f : List Bool → D} {ds : List D} {d : D} {xs : List V} (hx : RWs G H F ds xs) (e : dBls f ds = some d) : ∃ a ns, xs = [.ref a] ∧ H a = some (.lst (ns.map V.bl)) ∧ f ns = d := by
  unfold dBls at e
  split at e
  · obtain ⟨ns, e1, e2⟩ := Option.map_eq_some_iff.mp e
    obtain ⟨v, rfl, h⟩ := hx.one
    obtain ⟨p, ys, rfl, ep, rs⟩ := h.lst
    rw [bls_map e1] at rs
    rw [bls_rel rs] at ep
    exact ⟨p, ns, rfl, ep, e2⟩
  · cases e
def dAny : List D → Option D := dBls fun bs => .bl (bs.any id)
def dAll : List D → Option D := dBls fun bs => .bl (bs.all id)
theorem ok_any (G : Glb) (K : PySem.W.Frag) : OkN G (rAny K) dAny := by
  intro xs ds d H F Q hx e q
  obtain ⟨a, ns, rfl, ep, rfl⟩ := dBls_some hx e
  exact ⟨a, ns, rfl, SqL.of ep, done (.bl _) q⟩
theorem ok_all (G : Glb) (K : PySem.W.Frag) : OkN G (rAll K) dAll := by
  intro xs ds d H F Q hx e q
  obtain ⟨a, ns, rfl, ep, rfl⟩ := dBls_some hx e
  exact ⟨a, ns, rfl, SqL.of ep, done (.bl _) q⟩
def insI (x : Int) : List Int → List Int
  | [] => [x]
  | y :: l => if x ≤ y then x :: y :: l else y :: insI x l
def isort : List Int → List Int
  | [] => []
  | x :: l => insI x (isort l)
theorem insI_perm (x : Int) : ∀ l : List Int, (insI x l).Perm (x :: l)
  | [] => .refl _
  | y :: l => by
    unfold insI
    split
    · exact .refl _
    · exact ((insI_perm x l).cons y).trans (.swap x y l)
theorem insI_sorted (x : Int) : ∀ l : List Int, l.Pairwise (· ≤ ·) → (insI x l).Pairwise (· ≤ ·)
  | [], _ => by simp [insI]
  | y :: l, h => by
    unfold insI
    rw [List.pairwise_cons] at h
    split
    · rename_i z
      rw [List.pairwise_cons, List.pairwise_cons]
      exact ⟨fun a ha => by rcases List.mem_cons.mp ha with rfl | ha; exact z; exact Int.le_trans z (h.1 a ha), h⟩
    · rename_i z
      rw [List.pairwise_cons]
      refine ⟨fun a ha => ?_, insI_sorted x l h.2⟩
      rcases List.mem_cons.mp ((insI_perm x l).mem_iff.mp ha) with rfl | ha
      · omega
      · exact h.1 a ha
theorem isort_perm : ∀ l : List Int, (isort l).Perm l
  | [] => .refl _
  | x :: l => (insI_perm x _).trans ((isort_perm l).cons x)
theorem isort_sorted : ∀ l : List Int, (isort l).Pairwise (· ≤ ·)
  | [] => .nil
  | x :: l => insI_sorted x _ (isort_sorted l)
theorem sorted_uniq : ∀ {a b : List Int}, a.Perm b → a.Pairwise (· ≤ ·) → b.Pairwise (· ≤ ·) → a = b
  | [], b, p, _, _ => (p.nil_eq)
  | x :: a, [], p, _, _ => absurd p.length_eq (by simp)
  | x :: a, y :: b, p, ha, hb => by
    rw [List.pairwise_cons] at ha hb
    have e : x = y := by
      have h1 : x ∈ y :: b := p.mem_iff.mp List.mem_cons_self
      have h2 : y ∈ x :: a := p.mem_iff.mpr List.mem_cons_self
      rcases List.mem_cons.mp h1 with h1 | h1
      · exact h1
      · rcases List.mem_cons.mp h2 with h2 | h2
        · exact h2.symm
        · exact Int.le_antisymm (ha.1 y h2) (hb.1 x h1)
    subst e
    rw [sorted_uniq (p.cons_inv) ha.2 hb.2]
theorem rvs_ints {G : Glb} {H : Hp} {F : Addr → Prop} : ∀ (ns : List Int), RVs G H F (ns.map D.int) (ns.map V.int)
  | [] => RVs.nil
  | n :: ns => RVs.cons (by unfold RV; rfl) (rvs_ints ns)
def dSorted : List D → Option D := dInts fun ns => some (.lst ((isort ns).map D.int))
theorem ok_sorted (G : Glb) (K : PySem.W.Frag) : OkAN G (rSortedI K) dSorted := by
  intro xs ds d H F Q hx e q
  obtain ⟨a, ns, rfl, ep, e2⟩ := dInts_some hx e
  cases e2
  refine ⟨a, ns, rfl, SqL.of ep, fun ns' p h1 h2 hp => ?_⟩
  rw [sorted_uniq (h1.trans (isort_perm ns).symm) h2 (isort_sorted ns)]
  exact q p _ _ hp rfl (rvs_ints _)
def dDivmod : List D → Option D
  | [.int i, .int j] => if 0 < j ∧ Builtin.divisionGoesByPylong i j = false then some (.tup [.int (i / j), .int (i % j)]) else none
  | _ => none
theorem ok_divmod (G : Glb) : OkN G (fun xs H Q => ∃ i j, xs = [.int i, .int j] ∧ CDivP i j ∧ ∀ p, H p = none → Q (.ref p) (upd H p (.tup [.int (i / j), .int (i % j)]))) dDivmod := by
  intro xs ds d H F Q hx e q
  unfold dDivmod at e
  split at e
  · split at e
    · cases e
      obtain ⟨v, w, rfl, h, h'⟩ := hx.two
      exact ⟨_, _, by rw [h.int, h'.int], by assumption, fun p hp => new_tup hp (RVs.cons (by unfold RV; rfl) (RVs.cons (by unfold RV; rfl) RVs.nil)) q⟩
    · cases e
  · cases e

/-! ## in, is -/
def rInDict : R2 := fun x y H Q => ∃ a o, y = .ref a ∧ DGet H a x o ∧ Q (.bl o.isSome) H
def rNotInDict : R2 := fun x y H Q => ∃ a o, y = .ref a ∧ DGet H a x o ∧ Q (.bl (!o.isSome)) H
section
variable {X : Cx}
theorem op_inDict (hu : X.A.units + 1 < cLine) : OpR X (compareOp .In) rInDict := by
  intro pins s σ H x y v u Q I rx ry h
  obtain ⟨a, o, rfl, g, q⟩ := h
  obtain rfl : u = Value.ref a := ry
  exact d_in hu I g rx fun s' I' => ⟨.bl _, H, I', rfl, q⟩
theorem op_notInDict (hu : X.A.units + 1 < cLine) : OpR X (compareOp .NotIn) rNotInDict := by
  intro pins s σ H x y v u Q I rx ry h
  obtain ⟨a, o, rfl, g, q⟩ := h
  obtain rfl : u = Value.ref a := ry
  exact d_notIn hu I g rx fun s' I' => ⟨.bl _, H, I', rfl, q⟩
end
def D.flat : D → Bool
  | .non => true | .bl _ => true | .int _ => true | .str _ => true | _ => false
def flatEq : D → D → Bool
  | a, b => dEqB a b
def dIn (x c : D) : Option D := match c with
  | .lst l => if D.plain x = true ∧ D.plain (.lst l) = true then some (.bl (l.any fun z => dEqB z x)) else none
  | .tup l => if D.flat x = true ∧ l.all D.flat = true then some (.bl (l.any fun z => dEqB z x)) else none
  | _ => (dGet c x).map fun o => .bl o.isSome
def dNotIn (x c : D) : Option D := match c with
  | .lst l => if D.plain x = true ∧ D.plain (.lst l) = true then some (.bl (!l.any fun z => dEqB z x)) else none
  | .tup l => if D.flat x = true ∧ l.all D.flat = true then some (.bl (!l.any fun z => dEqB z x)) else none
  | _ => (dGet c x).map fun o => .bl (!o.isSome)
def rIn3 (K : PySem.W.Frag) : R2 := fun x y H Q => rInD K x y H Q ∨ rIn K false x y H Q ∨ rInDict x y H Q
def rNotIn3 (K : PySem.W.Frag) : R2 := fun x y H Q => rNotInD K x y H Q ∨ rIn K true x y H Q ∨ rNotInDict x y H Q
theorem op_in3 {X : Cx} (h1 : X.A.units + 65 < cLine) : OpR X (compareOp .In) (rIn3 X.K) := OpR.or (op_inD h1) (OpR.or op_in_seq (op_inDict (by omega)))
theorem op_notIn3 {X : Cx} (h1 : X.A.units + 65 < cLine) : OpR X (compareOp .NotIn) (rNotIn3 X.K) := OpR.or (op_notInD h1) (OpR.or op_notIn_seq (op_notInDict (by omega)))
section
variable {G : Glb} {H : Hp} {F : Addr → Prop}
theorem pys_any (x : D) : ∀ l : List D, ((D.pys l).any fun z => PyData.eqv z (D.py x)) = l.any fun z => dEqB z x
  | [] => by simp [D.pys]
  | d :: l => by
    rw [D.pys, List.any_cons, List.any_cons, pys_any x l]
    rfl
theorem dp_list {l : List D} (h : D.plain (.lst l) = true) : SeqAt.shaped (.list (D.pys l)) = true := by
  unfold D.plain at h
  rw [D.py] at h
  exact h
theorem flat_rel {d : D} {v : V} (r : RW G H F d v) (h : D.flat d = true) : flatV v = true := by
  cases d with
  | non => rw [r.non]; rfl
  | bl b => rw [r.bl]; rfl
  | int b => rw [r.int]; rfl
  | str b => rw [r.str]; rfl
  | _ => cases h
theorem flats_rel : ∀ {l : List D} {xs : List V}, RVs G H F l xs → l.all D.flat = true → xs.all flatV = true
  | [], xs, r, _ => by unfold RVs at r; subst r; rfl
  | d :: l, xs, r, h => by
    unfold RVs at r
    obtain ⟨y, ys, rfl, ry, rs⟩ := r
    rw [List.all_cons, Bool.and_eq_true] at h
    rw [List.all_cons, flat_rel (.inl ry) h.1, flats_rel rs h.2]
    rfl
theorem flat_eq {d e : D} {v w : V} (r : RW G H F d v) (r' : RW G H F e w) (h : D.flat d = true) (h' : D.flat e = true) : eqV v w = dEqB d e := by
  have hd : (d = .non ∧ v = .non) ∨ (∃ b, d = .bl b ∧ v = .bl b) ∨ (∃ b, d = .int b ∧ v = .int b) ∨ ∃ b, d = .str b ∧ v = .str b := by
    cases d with
    | non => exact .inl ⟨rfl, r.non⟩
    | bl b => exact .inr (.inl ⟨b, rfl, r.bl⟩)
    | int b => exact .inr (.inr (.inl ⟨b, rfl, r.int⟩))
    | str b => exact .inr (.inr (.inr ⟨b, rfl, r.str⟩))
    | _ => cases h
  have he : (e = .non ∧ w = .non) ∨ (∃ b, e = .bl b ∧ w = .bl b) ∨ (∃ b, e = .int b ∧ w = .int b) ∨ ∃ b, e = .str b ∧ w = .str b := by
    cases e with
    | non => exact .inl ⟨rfl, r'.non⟩
    | bl b => exact .inr (.inl ⟨b, rfl, r'.bl⟩)
    | int b => exact .inr (.inr (.inl ⟨b, rfl, r'.int⟩))
    | str b => exact .inr (.inr (.inr ⟨b, rfl, r'.str⟩))
    | _ => cases h'
  rcases hd with ⟨rfl, rfl⟩ | ⟨b, rfl, rfl⟩ | ⟨b, rfl, rfl⟩ | ⟨b, rfl, rfl⟩ <;> rcases he with ⟨rfl, rfl⟩ | ⟨c, rfl, rfl⟩ | ⟨c, rfl, rfl⟩ | ⟨c, rfl, rfl⟩ <;> simp [dEqB, D.py, eqV, PyData.eqv]
theorem flat_any {x : D} {v : V} (rx : RW G H F x v) (hx : D.flat x = true) : ∀ {l : List D} {xs : List V}, RVs G H F l xs → l.all D.flat = true → inV v xs = l.any fun z => dEqB z x
  | [], xs, r, _ => by unfold RVs at r; subst r; rfl
  | d :: l, xs, r, h => by
    unfold RVs at r
    obtain ⟨y, ys, rfl, ry, rs⟩ := r
    rw [List.all_cons, Bool.and_eq_true] at h
    show (eqV y v || inV v ys) = _
    rw [List.any_cons, flat_any rx hx rs h.2, flat_eq (.inl ry) rx h.1 hx]
theorem ok_in (G : Glb) (K : PySem.W.Frag) : Ok2 G (rIn3 K) dIn := by
  intro x y dx dy d H F Q hx hy e q
  unfold dIn at e
  split at e
  · split at e
    · rename_i l h
      cases e
      refine .inl ⟨D.py dx, D.pys l, hx.dp h.1, ?_, h.1, dp_list h.2, ?_⟩
      · have z := hy.dp (K := K) h.2
        rw [D.py] at z
        exact z
      · rw [pys_any]; exact done (.bl _) q
    · cases e
  · split at e
    · rename_i l h
      cases e
      obtain ⟨p, xs, rfl, ep, rs⟩ := hy.tup
      refine .inr (.inl ⟨p, xs, rfl, .inr (SqT.of ep), flat_rel hx h.1, flats_rel rs h.2, ?_⟩)
      rw [if_neg (by decide), flat_any hx h.1 rs h.2]
      exact done (.bl _) q
    · cases e
  · obtain ⟨o, e1, rfl⟩ := Option.map_eq_some_iff.mp e
    obtain ⟨p, o', rfl, g, m⟩ := get_rel hy hx e1
    refine .inr (.inr ⟨p, o', rfl, g, ?_⟩)
    cases o <;> cases o' <;> first | exact m.elim | exact done (.bl _) q
theorem ok_notIn (G : Glb) (K : PySem.W.Frag) : Ok2 G (rNotIn3 K) dNotIn := by
  intro x y dx dy d H F Q hx hy e q
  unfold dNotIn at e
  split at e
  · split at e
    · rename_i l h
      cases e
      refine .inl ⟨D.py dx, D.pys l, hx.dp h.1, ?_, h.1, dp_list h.2, ?_⟩
      · have z := hy.dp (K := K) h.2
        rw [D.py] at z
        exact z
      · rw [pys_any]; exact done (.bl _) q
    · cases e
  · split at e
    · rename_i l h
      cases e
      obtain ⟨p, xs, rfl, ep, rs⟩ := hy.tup
      refine .inr (.inl ⟨p, xs, rfl, .inr (SqT.of ep), flat_rel hx h.1, flats_rel rs h.2, ?_⟩)
      rw [if_pos rfl, flat_any hx h.1 rs h.2]
      exact done (.bl _) q
    · cases e
  · obtain ⟨o, e1, rfl⟩ := Option.map_eq_some_iff.mp e
    obtain ⟨p, o', rfl, g, m⟩ := get_rel hy hx e1
    refine .inr (.inr ⟨p, o', rfl, g, ?_⟩)
    cases o <;> cases o' <;> first | exact m.elim | exact done (.bl _) q
end
/-- a is b, b None or both bools -/
def dIsB : D → D → Option D
  | a, .non => some (.bl (D.isNon a))
  | .bl a, .bl b => some (.bl (decide (a = b)))
  | _, _ => none
def dIsNotB : D → D → Option D
  | a, .non => some (.bl (!D.isNon a))
  | .bl a, .bl b => some (.bl (!decide (a = b)))
  | _, _ => none
def rIs3 : R2 := fun x y H Q => (y = .non ∧ Q (.bl (decide (x = .non))) H) ∨ rIsB x y H Q
def rIsNot3 : R2 := fun x y H Q => (y = .non ∧ Q (.bl (!decide (x = .non))) H) ∨ rNotB x y H Q
theorem op_is3 {X : Cx} : OpR X (compareOp .Is) rIs3 := OpR.or op_isN op_isBl
theorem op_isNot3 {X : Cx} : OpR X (compareOp .IsNot) rIsNot3 := OpR.or op_notN op_notBl
theorem ok_is3 (G : Glb) : Ok2 G rIs3 dIsB := by
  intro x y dx dy d H F Q hx hy e q
  unfold dIsB at e
  split at e
  · cases e
    exact .inl ⟨hy.non, by rw [hx.isNon]; exact done (.bl _) q⟩
  · cases e
    exact .inr ⟨_, _, hx.bl, hy.bl, done (.bl _) q⟩
  · cases e
theorem ok_isNot3 (G : Glb) : Ok2 G rIsNot3 dIsNotB := by
  intro x y dx dy d H F Q hx hy e q
  unfold dIsNotB at e
  split at e
  · cases e
    exact .inl ⟨hy.non, by rw [hx.isNon]; exact done (.bl _) q⟩
  · cases e
    exact .inr ⟨_, _, hx.bl, hy.bl, done (.bl _) q⟩
  · cases e

/-! ## dict(pairs) -/
def kvPairs : List D → Option (List (Key × D))
  | [] => some []
  | .tup [k, v] :: r => (D.key k).bind fun k => (kvPairs r).map ((k, v) :: ·)
  | _ :: _ => none
/-- new data of the asker's own -/
def OkAD (G : Glb) (r : List V → Hp → VK → Prop) (g : List D → Option D) : Prop := ∀ (xs : List V) (ds : List D) (d : D) (H : Hp) (F : Addr → Prop) (Q : VK), RWs G H F ds xs → g ds = some d →
  (∀ p o, H p = none → immO o = false → RO G (upd H p o) F d p → Q (.ref p) (upd H p o)) → r xs H Q
def dDictP : List D → Option D
  | [.lst l] => (kvPairs l).map fun r => .dk (kvMerge ([], []) r).1 (kvMerge ([], []) r).2
  | _ => none
theorem kvPairs_rel {G : Glb} {H : Hp} {F : Addr → Prop} {K : PySem.W.Frag} : ∀ {l : List D} {r : List (Key × D)} {xs : List V}, RVs G H F l xs → kvPairs l = some r →
    ∃ (ps : List Addr) (kvs : List (Key × V)), xs = ps.map V.ref ∧ Paired (fun p kv => SqT K H p [kV kv.1, kv.2]) ps kvs ∧ kvs.map (·.1) = r.map (·.1) ∧ RVs G H F (r.map (·.2)) (kvs.map (·.2))
  | [], r, xs, h, e => by
    cases e
    unfold RVs at h
    subst h
    exact ⟨[], [], rfl, .nil, rfl, RVs.nil⟩
  | d :: l, r, xs, h, e => by
    unfold kvPairs at e
    split at e
    · cases ‹d :: l = []›
    · rename_i k v r' heq
      cases heq
      obtain ⟨k', e1, e2⟩ := Option.bind_eq_some_iff.mp e
      obtain ⟨r2, e3, rfl⟩ := Option.map_eq_some_iff.mp e2
      unfold RVs at h
      obtain ⟨y, ys, rfl, ry, rs⟩ := h
      obtain ⟨ps, kvs, rfl, h1, h2, h3⟩ := kvPairs_rel (K := K) rs e3
      unfold RV at ry
      obtain ⟨a, zs, rfl, ea, rz⟩ := ry
      unfold RVs at rz
      obtain ⟨z1, zs1, rfl, rk, rz⟩ := rz
      unfold RVs at rz
      obtain ⟨z2, zs2, rfl, rv, rz⟩ := rz
      unfold RVs at rz
      subst rz
      rw [key_rel (.inl rk) e1] at ea
      exact ⟨a :: ps, (k', z2) :: kvs, rfl, .cons (SqT.of ea) h1, by simp [h2], RVs.cons rv h3⟩
    · cases e
theorem ok_dictP (G : Glb) (K : PySem.W.Frag) : OkAD G (fun xs H Q => ∃ (a : Addr) (ps : List Addr) (kvs : List (Key × V)), xs = [.ref a] ∧ SqL K H a (ps.map V.ref) ∧ Paired (fun p kv => SqT K H p [kV kv.1, kv.2]) ps kvs ∧
    ∀ p, H p = none → Q (.ref p) (upd H p (.dK (mergeK [] kvs)))) dDictP := by
  intro xs ds d H F Q hx e q
  unfold dDictP at e
  split at e
  · obtain ⟨r, e1, rfl⟩ := Option.map_eq_some_iff.mp e
    obtain ⟨v, rfl, h⟩ := hx.one
    obtain ⟨p, ys, rfl, ep, rs⟩ := h.lst
    obtain ⟨ps, kvs, rfl, h1, h2, h3⟩ := kvPairs_rel (K := K) rs e1
    refine ⟨p, ps, kvs, rfl, SqL.of ep, h1, fun t ht => ?_⟩
    obtain ⟨zs, z1, z2, z3⟩ := merge_rel (ks := []) (ds := []) (xs := []) h2 h3 rfl RVs.nil
    rw [List.zip_nil_left] at z1
    exact q t _ ht rfl ⟨zs, by rw [z1, upd_same], z2, RVs.ext (Ext.one ht) z3⟩
  · cases e
section
variable {X : Cx} {G : Glb} {β : Bt} {W : WX} {σ : L2.St} {H H' : Hp} {F F' : Addr → Prop} {ρ ρ' : List Sl} {L L' : Nat → List Addr} {e a b : Expr} {pos pos' p : Pos}
def finAD (g : List D → Option D) (os : List Opd) (xs : List (Option D)) : M Sl := fun ρ => match oL2 ρ os xs with
  | some ds => (match g ds with | some d => .ok (.ow d) ρ | none => .no)
  | none => .no
def aOpD (g : List D → Option D) (os : List Opd) : M Sl := bindM (oL1 os) fun xs => finAD g os xs
theorem opAD_imp {r : List V → Hp → VK → Prop} {g : List D → Option D} {os : List Opd} {Q : VK} (ok : OkAD G r g) (h : tA G β W (aOpD g os) σ H Q) : tCB r (tOs G β W os) σ H Q := by
  obtain ⟨F, ρ, L, I, h⟩ := h
  refine tOs_bindA I h fun xs ρ1 vs H1 F1 L1 I1 w1 t1 h1 => ?_
  unfold finAD at h1
  cases e1 : oL2 ρ1 os xs with
  | none => rw [e1] at h1; exact h1.elim
  | some ds =>
    cases e3 : g ds with
    | none => rw [e1] at h1; dsimp only at h1; rw [e3] at h1; exact h1.elim
    | some d =>
      rw [e1] at h1; dsimp only at h1; rw [e3] at h1
      exact ok vs ds d H1 F1 Q (OWs.late I1 w1 e1) e3 fun p o hp im ro => new_ownD I1 hp im ro h1
theorem sa_callTyD {x : Str} {T : String} {r : List V → Hp → VK → Prop} {g : List D → Option D} {o : Opd} {os : List Opd} {es : List Expr} {p : Pos} (hc : CallR X (.type T) r) (ok : OkAD G r g) (hm : X.mg x = none) (hv : bootBuiltins x = some (.type T)) (ha : PA X (e :: es) (tOs G β W (o :: os)))
    (hg : Gl X x := by rfl) (hn : x ≠ "__name__" := by decide) (hdb : (x == ("__debug__" : Str)) = false := by decide)
    (he : starEach (e :: es) X.env = (false, eval e X.env) :: starEach es X.env := by rfl) (hpl : (backTo pos (starEach es X.env)).any (·.1) = false := by rfl) : PE X (.Call (.Name x p) (e :: es) [] pos) (tA G β W (aOpD g (o :: os))) :=
  PE.imp (pe_callTy hc hg hm hv ha hn hdb he hpl) fun _ _ _ q => opAD_imp ok q
theorem sa_callB {x : Str} {id : String} {r : List V → Hp → VK → Prop} {g : List D → Option D} {o : Opd} {os : List Opd} {es : List Expr} {p : Pos} (hc : CallR X (.builtin id) r) (ok : OkAN G r g) (hm : X.mg x = none) (hv : bootBuiltins x = some (.builtin id)) (ha : PA X (e :: es) (tOs G β W (o :: os)))
    (hg : Gl X x := by rfl) (hn : x ≠ "__name__" := by decide) (hdb : (x == ("__debug__" : Str)) = false := by decide)
    (he : starEach (e :: es) X.env = (false, eval e X.env) :: starEach es X.env := by rfl) (hpl : (backTo pos (starEach es X.env)).any (·.1) = false := by rfl) : PE X (.Call (.Name x p) (e :: es) [] pos) (tA G β W (aOpN g (o :: os))) :=
  PE.imp (pe_callB hc hg hm hv ha hn hdb he hpl) fun _ _ _ q => opAN_imp ok q
end
end Ev
namespace Ev
open PySem PySem.Spec PyProof.Rows L2

/-! ## x[k], len, of lists, tuples, texts and dicts -/
section
variable {X : Cx}
theorem ix_dict (hu : X.A.units + 1 < cLine) : IxR X rIxD := by
  intro value slice pins s σ H x y v u Q I rx ry h hs
  obtain ⟨a, z, rfl, g, q⟩ := h
  obtain rfl : v = Value.ref a := rx
  exact tail_any (dict_typeIs I g) PySem.F.slot_dict_getitem.lookup (d_getItem hu I g ry fun w' s' I' r => ⟨z, H, I', r, q⟩) hs
end
def rIxA (K : PySem.W.Frag) : R2 := fun x y H Q => rIx K x y H Q ∨ rIxD x y H Q
def D.isDct : D → Bool
  | .dk _ _ => true
  | .dt _ _ => true
  | _ => false
def dIxA (c x : D) : Option D := if D.isDct c = true then dIxD c x else dIx c x
theorem ok_ixA (G : Glb) : Ok2 G (rIxA G.K) dIxA := by
  intro x y dx dy d H F Q hx hy e q
  unfold dIxA at e
  split at e
  · exact .inr (ok_ixD G x y dx dy d H F Q hx hy e q)
  · exact .inl (ok_ix G x y dx dy d H F Q hx hy e q)
def rLenA (K : PySem.W.Frag) : List V → Hp → VK → Prop := fun xs H Q => (∃ x n, xs = [x] ∧ LenV K x H n ∧ Q (.int n) H) ∨ (∃ a kvs, xs = [V.ref a] ∧ Rd H a (.dK kvs) ∧ Q (.int kvs.length) H) ∨ ∃ a kvs, xs = [V.ref a] ∧ Rd H a (.dT kvs) ∧ Q (.int kvs.length) H
theorem call_lenA {X : Cx} : CallR X (.builtin "len") (rLenA X.K) := by
  intro pins s σ H xs us Q I r h
  rcases h with h | h | h
  · exact call_len pins s σ H xs us Q I r h
  · obtain ⟨a, kvs, rfl, ha, q⟩ := h
    obtain ⟨u, rfl, ru⟩ := vals1 r
    cases ru
    exact d_len I ha fun t s' I' => ⟨.int kvs.length, H, I', ⟨t, rfl⟩, q⟩
  · obtain ⟨p, kvs, rfl, hp, q⟩ := h
    obtain ⟨u, rfl, rx⟩ := vals1 r
    obtain rfl : u = .ref p := rx
    obtain ⟨z, hd, ys, rel, dd⟩ := dt_rd I.hok hp
    have hl : kvs.length = ys.length := Paired.length rel
    refine call_len_dictH hd dd (by rw [← hl]; rw [sizeLine_eq] at z; omega) ?_
    rw [← hl]
    exact ⟨.int ((kvs.length : Nat) : Int), H, I.tok _, ⟨_, rfl⟩, q⟩
def dLenA (l : List D) : Option D := match l with
  | [.dk ks ds] => some (.int ks.length)
  | [.dt ks ds] => some (.int ks.length)
  | l => dLen l
theorem ok_lenA (G : Glb) : OkN G (rLenA G.K) dLenA := by
  intro xs ds d H F Q hx e q
  unfold dLenA at e
  split at e
  · cases e
    obtain ⟨v, rfl, h⟩ := hx.one
    obtain ⟨p, xs, rfl, hp, hl, rs⟩ := h.dk
    refine .inr (.inl ⟨p, _, rfl, hp, ?_⟩)
    rw [List.length_zip, ← hl, Nat.min_self]
    exact done (.int _) q
  · cases e
    obtain ⟨v, rfl, h⟩ := hx.one
    obtain ⟨p, xs, rfl, hp, hl, rs⟩ := h.dt
    refine .inr (.inr ⟨p, _, rfl, hp, ?_⟩)
    rw [List.length_zip, ← hl, Nat.min_self]
    exact done (.int _) q
  · exact .inl (ok_len G xs _ d H F Q hx e q)
section
variable {X : Cx} {G : Glb} {β : Bt} {W : WX} {σ : L2.St} {H H' : Hp} {F F' : Addr → Prop} {ρ ρ' : List Sl} {L L' : Nat → List Addr} {e a b : Expr} {pos pos' p : Pos} {oa ob : Opd}
theorem se_ixA (hu : X.A.units + 1 < cLine) (ha : PE X a (tO G β W oa)) (hb : PE X b (tO G β W ob)) (hs : PlainIx b := by exact fun _ _ => rfl) (hK : G.K = X.K := by rfl) : PE X (.Subscript a b pos) (tE G β W (mOp2 dIxA oa ob)) :=
  PE.imp (pe_ix (IxR.or ix_seq (ix_dict hu)) ha hb hs) fun _ _ _ q => op2_imp (by rw [← hK]; exact ok_ixA G) q
theorem se_lenA {o : Opd} (hm : X.mg "len" = none) (ha : PE X a (tO G β W o)) (hg : Gl X "len" := by rfl) (he : starEach [a] X.env = (false, eval a X.env) :: starEach [] X.env := by rfl) (hpl : (backTo pos (starEach [] X.env)).any (·.1) = false := by rfl) (hK : G.K = X.K := by rfl) :
    PE X (.Call (.Name "len" p) [a] [] pos) (tE G β W (mOpN dLenA [o])) :=
  PE.imp (pe_callB call_lenA hg hm bt_len (pa_cons ha pa_nil he) (by decide) (by decide) he hpl) fun _ _ _ q => opN_imp (os := [o]) (by rw [← hK]; exact ok_lenA G) q

/-! ## One of two ways -/
def altM {α : Type} (c : List Sl → Bool) (m1 m2 : M α) : M α := fun ρ => if c ρ = true then m1 ρ else m2 ρ
theorem PS.alt {st : Stmt} {t1 t2 : TS} (h1 : PS X st t1) (h2 : PS X st t2) : PS X st (fun D σ H => t1 D σ H ∨ t2 D σ H) := ⟨fun pins s σ H D I q => q.elim (h1.run pins s σ H D I) (h2.run pins s σ H D I)⟩
theorem PE.alt {t1 t2 : TE} (h1 : PE X e t1) (h2 : PE X e t2) : PE X e (fun σ H Q => t1 σ H Q ∨ t2 σ H Q) := ⟨fun pins s σ H Q I q => q.elim (h1.run pins s σ H Q I) (h2.run pins s σ H Q I)⟩
theorem ss_alt {st : Stmt} {c : List Sl → Bool} {m1 m2 : M Flw} (h1 : PS X st (tS G β W m1)) (h2 : PS X st (tS G β W m2)) : PS X st (tS G β W (altM c m1 m2)) := PS.imp (PS.alt h1 h2) fun D σ H ⟨F, ρ, L, I, q⟩ => by
  unfold altM at q
  split at q
  · exact .inl ⟨F, ρ, L, I, q⟩
  · exact .inr ⟨F, ρ, L, I, q⟩
theorem sa_alt {c : List Sl → Bool} {m1 m2 : M Sl} (h1 : PE X e (tA G β W m1)) (h2 : PE X e (tA G β W m2)) : PE X e (tA G β W (altM c m1 m2)) := PE.imp (PE.alt h1 h2) fun σ H Q ⟨F, ρ, L, I, q⟩ => by
  unfold altM at q
  split at q
  · exact .inl ⟨F, ρ, L, I, q⟩
  · exact .inr ⟨F, ρ, L, I, q⟩
theorem se_alt {c : List Sl → Bool} {m1 m2 : M D} (h1 : PE X e (tE G β W m1)) (h2 : PE X e (tE G β W m2)) : PE X e (tE G β W (altM c m1 m2)) := PE.imp (PE.alt h1 h2) fun σ H Q ⟨F, ρ, L, I, q⟩ => by
  unfold altM at q
  split at q
  · exact .inl ⟨F, ρ, L, I, q⟩
  · exact .inr ⟨F, ρ, L, I, q⟩

/-! ## for over a list of the frame's own: it is lent to the loop -/
def βup (β : Bt) (i : Nat) (a : Addr) : Bt := fun j => if j = i then some (.ref a) else β j
theorem St.lend (I : St G β H F σ ρ L) {i : Nat} {d : D} {a : Addr} (e : ρ[i]? = some (.ow d)) (ea : σ.getD i none = some (.ref a)) : St G (βup β i a) H F σ (ρ.set i (.io d)) L := by
  have hi : i < ρ.length := (List.getElem?_eq_some_iff.mp e).1
  refine ⟨by rw [List.length_set]; exact I.len, fun j s ej => ?_, fun j h => I.out j (by rw [List.length_set] at h; exact h), I.nd, I.apart, I.nF, I.aF, I.mu, fun j d' ej => ?_⟩
  · by_cases q : j = i
    · subst q
      rw [List.getElem?_set_self hi] at ej
      cases ej
      have z : SlR G H F (.ow d) _ _ := I.slot j _ e
      exact z
    · rw [List.getElem?_set_ne (Ne.symm q)] at ej
      exact I.slot j s ej
  · by_cases q : j = i
    · subst q
      rw [ea]
      exact (if_pos rfl).symm
    · rw [List.getElem?_set_ne (Ne.symm q)] at ej
      rw [I.ios j d' ej]
      exact (if_neg q).symm
def unIo (i : Nat) (ρ : List Sl) : List Sl := match ρ[i]? with
  | some (.io d) => ρ.set i (.ow d)
  | _ => ρ
theorem St.unlend {i : Nat} {a : Addr} (I : St G (βup β i a) H F σ ρ L) : St G β H F σ (unIo i ρ) L := by
  unfold unIo
  split
  · rename_i d e
    have hi : i < ρ.length := (List.getElem?_eq_some_iff.mp e).1
    refine ⟨by rw [List.length_set]; exact I.len, fun j s ej => ?_, fun j h => I.out j (by rw [List.length_set] at h; exact h), I.nd, I.apart, I.nF, I.aF, I.mu, fun j d' ej => ?_⟩
    · by_cases q : j = i
      · subst q
        rw [List.getElem?_set_self hi] at ej
        cases ej
        have z : SlR G H F (.io d) _ _ := I.slot j _ e
        exact z
      · rw [List.getElem?_set_ne (Ne.symm q)] at ej
        exact I.slot j s ej
    · by_cases q : j = i
      · subst q
        rw [List.getElem?_set_self hi] at ej
        cases ej
      · rw [List.getElem?_set_ne (Ne.symm q)] at ej
        rw [I.ios j d' ej]
        exact if_neg q
  · rename_i hn
    refine ⟨I.len, I.slot, I.out, I.nd, I.apart, I.nF, I.aF, I.mu, fun j d' ej => ?_⟩
    rw [I.ios j d' ej]
    refine if_neg fun q => ?_
    subst q
    exact hn d' ej
/-- the list in slot i is read as it stands -/
def liveF (i : Nat) (f : D → M Unit) (b : M Flw) : Nat → Nat → M Flw
  | 0, _ => noM
  | n + 1, k => fun ρ => match ρ[i]? with
    | some (.io (.lst l)) => (match l[k]? with
      | none => .ok .nx ρ
      | some d => bindM (f d) (fun _ => bindM b fun w => match w with
        | .nx => liveF i f b n (k + 1)
        | .ct => liveF i f b n (k + 1)
        | .bk => retM .nx
        | .rt s => retM (.rt s)) ρ)
    | _ => .no
def mapS (g : List Sl → List Sl) : R Flw → R Flw
  | .ok w ρ => .ok w (g ρ)
  | .ex c l ρ => .ex c l (g ρ)
  | .no => .no
def mForL (i : Nat) (f : D → M Unit) (b : M Flw) : M Flw := fun ρ => match ρ[i]? with
  | some (.ow (.lst l)) => mapS (unIo i) (liveF i f b (l.length + 1000) 0 (ρ.set i (.io (.lst l))))
  | some (.io (.lst l)) => liveF i f b (l.length + 1000) 0 ρ
  | _ => .no
theorem live_core {i : Nat} {ws : List Nat} {f : D → M Unit} {b : M Flw} {D : Ends} {σ : L2.St} {H : Hp} {F : Addr → Prop} {ρ : List Sl} {L : Nat → List Addr} {a : Addr} {n : Nat} {K : PySem.W.Frag} (hc : Calm f) (hβ : β i = some (.ref a)) (I : St G β H F σ ρ L)
    (q : PostS G β W H F (Own L) D (liveF i f b n 0 ρ)) : ∃ W' : Nat → Nat → L2.St → Hp → Prop, (∃ m, W' 0 m σ H) ∧ ∀ k m σ H, W' k m σ H →
      ((Itl K a).stop k H ∧ D.nx σ H) ∨ ((Itl K a).go k H ∧ ∃ N : L2.St → Hp → Prop, (∀ σ' H', N σ' H' → ∃ m', m' < m ∧ W' (k + 1) m' σ' H') ∧ ∀ x H', (Itl K a).yld k H x H' → tGt G β ws f x σ H' fun σ2 H2 => tS G β W b { D with nx := N, ct := N, bk := D.nx } σ2 H2) := by
  refine ⟨fun k m σ H => ∃ F ρ L, St G β H F σ ρ L ∧ PostS G β W H F (Own L) D (liveF i f b m k ρ), ⟨n, F, ρ, L, I, q⟩, ?_⟩
  rintro k m σ2 H2 ⟨F2, ρ2, L2, I2, q2⟩
  cases m with
  | zero => exact q2.elim
  | succ m =>
    unfold liveF at q2
    cases e1 : ρ2[i]? with
    | none => rw [e1] at q2; exact q2.elim
    | some s =>
      cases s with
      | emp => rw [e1] at q2; exact q2.elim
      | sh d => rw [e1] at q2; exact q2.elim
      | ow d => rw [e1] at q2; exact q2.elim
      | tr d => rw [e1] at q2; exact q2.elim
      | io d =>
        cases d with
        | lst l =>
          rw [e1] at q2
          dsimp only at q2
          obtain ⟨a', _, ev, ro⟩ := I2.slot i _ e1
          rw [I2.ios i _ e1, hβ] at ev
          cases ev
          obtain ⟨xs, ex, rs⟩ := ro
          have sq : SqL K H2 a xs := SqL.of ex
          cases e2 : l[k]? with
          | none =>
            rw [e2] at q2
            refine .inl ⟨⟨xs, sq, ?_⟩, q2 σ2 H2 F2 L2 I2 (Stp.refl _ _ _)⟩
            rw [← rs.len]
            exact List.getElem?_eq_none_iff.mp e2
          | some d =>
            rw [e2] at q2
            obtain ⟨v, ev, rv⟩ := rs.get e2
            refine .inr ⟨⟨xs, v, sq, ev⟩, fun σ' H' => ∃ F ρ L, St G β H' F σ' ρ L ∧ PostS G β W H' F (Own L) D (liveF i f b m (k + 1) ρ), fun σ' H' z => ⟨m, Nat.lt_succ_self m, z⟩, fun x H3 y => ?_⟩
            obtain ⟨rfl, y⟩ := y
            have z := y xs sq
            rw [ev] at z
            cases z
            refine tg_okS I2 rv (hc _ _) q2 fun σ4 ρ4 H4 F4 L4 I4 t4 q4 => ?_
            refine ⟨F4, ρ4, L4, I4, ?_⟩
            unfold bindM at q4
            cases eb : b ρ4 with
            | no => rw [eb] at q4; exact q4
            | ex c l ρ' => rw [eb] at q4; exact q4
            | ok w ρ5 =>
              rw [eb] at q4
              cases w with
              | nx => exact fun s H5 F5 L5 I5 t5 => ⟨F5, ρ5, L5, I5, PostS.trans t5 q4⟩
              | ct => exact fun s H5 F5 L5 I5 t5 => ⟨F5, ρ5, L5, I5, PostS.trans t5 q4⟩
              | bk => exact fun s H5 F5 L5 I5 t5 => q4 s H5 F5 L5 I5 t5
              | rt s => exact q4
        | _ => rw [e1] at q2; exact q2.elim
theorem PostS.unlend {i : Nat} {a : Addr} {O : Addr → Prop} {D : Ends} {r : R Flw} (q : PostS G β W H F O D (mapS (unIo i) r)) : PostS G (βup β i a) W H F O D r := by
  cases r with
  | no => exact q
  | ex c l ρ' => exact fun σ' H' F' L' dd I' => q σ' H' F' L' dd I'.unlend
  | ok w ρ' =>
    cases w with
    | nx => exact fun σ' H' F' L' I' => q σ' H' F' L' I'.unlend
    | bk => exact fun σ' H' F' L' I' => q σ' H' F' L' I'.unlend
    | ct => exact fun σ' H' F' L' I' => q σ' H' F' L' I'.unlend
    | rt s => exact fun v σ' H' F' L' lr I' rs => q v σ' H' F' L' lr I'.unlend rs
theorem ss_forL {i : Nat} {ws : List Nat} {tg iter : Expr} {body : List Stmt} {f : D → M Unit} {b : M Flw} (hp : PassesOwn (model X.prog X.w) X.A X.env X.xe) (hcal : X.calm = true) (ho : PE X iter (tVar i)) (hg : ∀ β, PG X tg (tGt G β ws f)) (hc : Calm f) (hb : ∀ β, PSs X body (tS G β W b))
    (hs : ∀ x, foldedSetIterable iter X.env x = pure x := by intro _; rfl) : PS X (.For tg iter body [] pos) (tS G β W (mForL i f b)) := by
  refine ⟨fun pins s σ H D I q => ?_⟩
  obtain ⟨F, ρ, L, J, q⟩ := q
  unfold mForL at q
  cases e1 : ρ[i]? with
  | none => rw [e1] at q; exact q.elim
  | some sl =>
    cases sl with
    | emp => rw [e1] at q; exact q.elim
    | tr d => rw [e1] at q; exact q.elim
    | sh d => rw [e1] at q; exact q.elim
    | ow d =>
      cases d with
      | lst l =>
        rw [e1] at q
        dsimp only at q
        obtain ⟨a, _, ev, ro⟩ := J.slot i _ e1
        obtain ⟨xs, ex, rs⟩ := ro
        refine (ps_for hp hcal (pi_val itv_list ho) (hg (βup β i a)) (hb (βup β i a)) hs).run pins s σ H D I ⟨_, getD_some ev, a, xs, rfl, SqL.of ex, ?_⟩
        exact live_core hc (if_pos rfl) (J.lend e1 ev) q.unlend
      | _ => rw [e1] at q; exact q.elim
    | io d =>
      cases d with
      | lst l =>
        rw [e1] at q
        dsimp only at q
        obtain ⟨a, _, ev, ro⟩ := J.slot i _ e1
        obtain ⟨xs, ex, rs⟩ := ro
        refine (ps_for hp hcal (pi_val itv_list ho) (hg β) (hb β) hs).run pins s σ H D I ⟨_, getD_some ev, a, xs, rfl, SqL.of ex, ?_⟩
        exact live_core hc (by rw [← J.ios i _ e1]; exact ev) J q
      | _ => rw [e1] at q; exact q.elim
/-- for over what a name holds: a dict, a list of its own, or shared data -/
def isDctAt (i : Nat) (ρ : List Sl) : Bool := match pkD ρ i with
  | some d => D.isDct d
  | none => false
def isOwnL (i : Nat) (ρ : List Sl) : Bool := match ρ[i]? with
  | some (.ow (.lst _)) => true
  | some (.io (.lst _)) => true
  | _ => false
def mForN (i : Nat) (f : D → M Unit) (b : M Flw) : M Flw := altM (isDctAt i) (mForD i f b) (altM (isOwnL i) (mForL i f b) (mFor (mIter (mVar i)) f b))
theorem ss_forN {i : Nat} {ws : List Nat} {tg iter : Expr} {body : List Stmt} {f : D → M Unit} {b : M Flw} (hp : PassesOwn (model X.prog X.w) X.A X.env X.xe) (hcal : X.calm = true) (ho : PE X iter (tVar i)) (hc : Calm f) (hg : ∀ β, PG X tg (tGt G β ws f)) (hb : ∀ β, PSs X body (tS G β W b))
    (hs : ∀ x, foldedSetIterable iter X.env x = pure x := by intro _; rfl) : PS X (.For tg iter body [] pos) (tS G β W (mForN i f b)) :=
  ss_alt (ss_forD hp hcal ho (hg β) hc (hb β) hs) (ss_alt (ss_forL hp hcal ho hg hc hb hs) (ss_for hp hcal (si_val (se_var ho)) (hg β) hc (hb β) hs))
end

/-! ## Calls, in short -/
def Cal (P : Program) (w : World) (K : PySem.W.Frag) (mg : Str → Option Value) (base : Heap) (k : Nat) (x : Str) (ps : List Str) (G : Glb) (S : List Sl → FR) : Prop :=
  ∃ (f : Addr) (fd : FuncData), FnG P w K mg base k f fd ps (spD G ps.length S) ∧ Binds K fd ps [] ∧ mg x = some (.ref f) ∧ PySem.W.keepIn K (.ref f) = true
section
variable {X : Cx} {G : Glb} {β : Bt} {W : WX} {e : Expr} {es : List Expr} {o : Opd} {os : List Opd} {pos p : Pos} {x : Str} {k : Nat} {ps : List Str} {S : List Sl → FR}
theorem se_callC (C : Cal X.prog X.w X.K X.mg X.base k x ps G S) (hr : Room k X.A) (tk : Takes X W) (hg : X.A.guards = some []) (ha : PA X (e :: es) (tOs G β W (o :: os))) (hl : ps.length = os.length + 1 := by rfl) (hgl : Gl X x := by rfl) (hdb : (x == ("__debug__" : Str)) = false := by decide)
    (he : starEach (e :: es) X.env = (false, eval e X.env) :: starEach es X.env := by rfl) (hpl : (backTo pos (starEach es X.env)).any (·.1) = false := by rfl) : PE X (.Call (.Name x p) (e :: es) [] pos) (tA G β W (callM S (o :: os))) := by
  obtain ⟨f, fd, T, hb, hm, hk⟩ := C
  rw [hl] at T
  exact se_call T hr hb hm hk tk hg ha hgl hdb he hpl
end
theorem fnG_no {P : Program} {w : World} {K : PySem.W.Frag} {mg : Str → Option Value} {base : Heap} {k : Nat} {f : Addr} {fd : FuncData} {ps : List Str} {G : Glb} {n : Nat} (h : n = ps.length) : FnG P w K mg base k f fd ps (spD G n fun _ => .no) :=
  ⟨fun vs H Q E q => q.1.trans h, fun A outer s H args us vs Q E _ _ _ _ _ q => by
    obtain ⟨_, F, ss, L, I, q⟩ := q
    exact q.elim⟩
theorem hu65_of {A : Around} {k : Nat} (hr : Room k A) : A.units + 65 < cLine := by have := hr.un; omega
end Ev
namespace Ev
open PySem PySem.Spec PyProof.Rows L2
section
variable {X : Cx} {G : Glb} {β : Bt} {W : WX} {σ : L2.St} {H H' : Hp} {F F' : Addr → Prop} {ρ ρ' : List Sl} {L L' : Nat → List Addr} {e a b : Expr} {pos p2 p : Pos} {oa ob : Opd}
theorem postSh {O : Addr → Prop} {Q : VK} {d : D} (I : St G β H F σ ρ L) (q : PostA G β W σ H F (Own L) Q (.ok (.sh d) ρ)) : ∀ v H' F', Ext H F H' F' → RV G H' F' d v → Q v H' := fun v H' F' x r => by
  refine q v H' F' L [] (I.ext x) (Res.sh r) ?_
  rw [ow2_nil]
  exact Stp.ext x
/-- a + b: a new list of the asker's own, or a number, a text, a tuple -/
def finAddX (oa ob : Opd) (x y : Option D) : M Sl := fun ρ => match o2 ρ oa x, o2 ρ ob y with
  | some dx, some dy => (match dAddL dx dy with
    | some d => .ok (.ow d) ρ
    | none => (match dAdd dx dy with | some d => .ok (.sh d) ρ | none => .no))
  | _, _ => .no
def aAddX (oa ob : Opd) : M Sl := bindM (o1 oa) fun x => bindM (o1 ob) fun y => finAddX oa ob x y
theorem sa_addX (ha : PE X a (tO G β W oa)) (hb : PE X b (tO G β W ob)) : PE X (.BinOp a .Add b pos) (tA G β W (aAddX oa ob)) := by
  refine PE.imp (pe_op op_add5 ha hb) fun σ H Q q => ?_
  obtain ⟨F, ρ, L, I, h⟩ := q
  refine tO_bindA I h fun x ρ1 v H1 F1 L1 I1 w1 t1 h1 => ?_
  refine tO_bindA I1 h1 fun y ρ2 u H2 F2 L2 I2 w2 t2 h2 => ?_
  unfold finAddX at h2
  cases e1 : o2 ρ2 oa x with
  | none => rw [e1] at h2; exact h2.elim
  | some dx =>
    cases e2 : o2 ρ2 ob y with
    | none => rw [e1, e2] at h2; exact h2.elim
    | some dy =>
      rw [e1, e2] at h2; dsimp only at h2
      have k1 := (w1.step I1 t2).late I2 e1
      have k2 := w2.late I2 e2
      cases e3 : dAddL dx dy with
      | some d =>
        rw [e3] at h2
        exact .inr (.inr (.inr (.inr (ok_addL G v u dx dy d H2 F2 Q k1 k2 e3 fun p xs l hp ed rs => by subst ed; exact new_own I2 hp rs h2))))
      | none =>
        rw [e3] at h2; dsimp only at h2
        cases e4 : dAdd dx dy with
        | none => rw [e4] at h2; exact h2.elim
        | some d =>
          rw [e4] at h2
          exact ok_add G X.K v u dx dy d H2 F2 Q k1 k2 e4 (postSh (O := Own L2) I2 h2)
/-- x[i:j]: a new list of the asker's own, or a tuple, a text -/
def slD : D → Sl
  | .lst l => .ow (.lst l)
  | d => .sh d
def finSlX (o : Opd) (x : Option D) (lo hi : Option Int) : M Sl := fun ρ => match o2 ρ o x with
  | some d => (match dSlice d lo hi with | some r => .ok (slD r) ρ | none => .no)
  | none => .no
def aSliceX (o : Opd) (lo hi : Option (M D)) : M Sl := bindM (o1 o) fun x => bindM (mPart lo) fun l => bindM (mPart hi) fun h => finSlX o x l h
theorem part_bindA {o : Option (M D)} {f : Option Int → M Sl} {Q : VK} {K : Option Int → Hp → Prop} (I : St G β H F σ ρ L) (h : PostA G β W σ H F (Own L) Q (bindM (mPart o) f ρ))
    (k : ∀ i ρ1 H1 F1 L1, St G β H1 F1 σ ρ1 L1 → Stp H F (Own L) H1 F1 (Own L1) → PostA G β W σ H1 F1 (Own L1) Q (f i ρ1) → K i H1) : tPo G β W o σ H K := by
  cases o with
  | none => exact k none ρ H F L I (Stp.refl _ _ _) h
  | some m =>
    show tE G β W m σ H fun x H1 => ∃ i, x = .int i ∧ K (some i) H1
    have h' : PostA G β W σ H F (Own L) Q (bindM (bindM m fun d => match d with | .int i => retM (some i) | _ => noM) f ρ) := h
    rw [bindM_assoc] at h'
    refine tG_bindA I h' fun d ρ1 v H1 F1 L1 I1 r t q => ?_
    cases d with
    | int i => unfold RV at r; exact ⟨i, r, k (some i) ρ1 H1 F1 L1 I1 t q⟩
    | _ => exact q.elim
theorem sa_sliceX {o : Opd} {lo hi : Option (M D)} {el eh : Option Expr} (ho : PE X e (tO G β W o)) (hl : L2.PO X el (tPo G β W lo)) (hh : L2.PO X eh (tPo G β W hi)) : PE X (.Subscript e (.Slice el eh none p2) pos) (tA G β W (aSliceX o lo hi)) := by
  refine PE.imp (pe_slice sl_3 ho hl hh) fun σ H Q q => ?_
  obtain ⟨F, ρ, L, I, q⟩ := q
  refine tO_bindA I q fun x ρ1 v H1 F1 L1 I1 w1 t1 q1 => ?_
  refine part_bindA I1 q1 fun l ρ2 H2 F2 L2 I2 t2 q2 => ?_
  refine part_bindA I2 q2 fun h ρ3 H3 F3 L3 I3 t3 q3 => ?_
  unfold finSlX at q3
  cases e1 : o2 ρ3 o x with
  | none => rw [e1] at q3; exact q3.elim
  | some d =>
    rw [e1] at q3
    dsimp only at q3
    have k1 := (w1.step I1 t2).step I2 t3 |>.late I3 e1
    cases e2 : dSlice d l h with
    | none => rw [e2] at q3; exact q3.elim
    | some r =>
      rw [e2] at q3
      cases d with
      | lst ds =>
        cases e2
        obtain ⟨p, xs, rfl, ep, rs⟩ := k1.lst
        exact .inl ⟨p, xs, rfl, SqL.of ep, fun t ht => new_own I3 ht (rs.cut l h) q3⟩
      | tup ds =>
        have q4 : PostA G β W σ H3 F3 (Own L3) Q (.ok (.sh r) ρ3) := by
          cases e2
          exact q3
        exact slice_ok k1 e2 (postSh (O := Own L3) I3 q4)
      | str z =>
        have q4 : PostA G β W σ H3 F3 (Own L3) Q (.ok (.sh r) ρ3) := by
          unfold dSlice at e2
          dsimp only at e2
          split at e2
          · cases e2
            exact q3
          · cases e2
        exact slice_ok k1 e2 (postSh (O := Own L3) I3 q4)
      | _ => cases e2
def aRevL (m : M D) : M Sl := bindM m fun d => match d with
  | .lst l => retM (.ow (.lst l.reverse))
  | _ => noM
theorem sa_revL {m : M D} {k : Nat} {p1 p2 p3 : Pos} (he : PE X e (tE G β W m)) : PE X (.Subscript e (.Slice none none (some (.UnaryOp .USub (.Constant (.int 1) k p1) p2)) p3) pos) (tA G β W (aRevL m)) := by
  refine PE.imp (pe_revL he) fun σ H Q q => ?_
  obtain ⟨F, ρ, L, I, q⟩ := q
  refine tG_bindA I q fun d ρ1 v H1 F1 L1 I1 r t1 q1 => ?_
  cases d with
  | lst l =>
    unfold RV at r
    obtain ⟨p, xs, rfl, f, ep, rs⟩ := r
    exact ⟨p, xs, rfl, SqL.of ep, fun t ht => new_own I1 ht rs.reverse q1⟩
  | _ => exact q1.elim
end
end Ev
namespace Ev
open PySem PySem.Spec PyProof.Rows L2

/-! ## What a plain program comes to -/
def Sat {α : Type} (r : R α) (P : α → List Sl → Prop) : Prop := match r with
  | .ok a ρ => P a ρ
  | _ => False
def SatF (r : FR) (P : Sl → List Sl → Prop) : Prop := match r with
  | .ok s o => P s o
  | _ => False
section
variable {α γ : Type}
theorem Sat_ok {a : α} {ρ : List Sl} {P : α → List Sl → Prop} : Sat (.ok a ρ) P = P a ρ := rfl
theorem Sat_no {P : α → List Sl → Prop} : Sat .no P = False := rfl
theorem Sat_bind {m : M α} {f : α → M γ} {ρ : List Sl} {P : γ → List Sl → Prop} : Sat (bindM m f ρ) P = Sat (m ρ) fun a ρ' => Sat (f a ρ') P := by
  unfold bindM Sat
  cases m ρ <;> rfl
theorem Sat_ret {a : α} {ρ : List Sl} {P : α → List Sl → Prop} : Sat (retM a ρ) P = P a ρ := rfl
theorem Sat_mono {r : R α} {P Q : α → List Sl → Prop} (h : Sat r P) (k : ∀ a ρ, P a ρ → Q a ρ) : Sat r Q := by
  cases r with
  | ok a ρ => exact k _ _ h
  | _ => exact h
theorem SatF_mono {r : FR} {P Q : Sl → List Sl → Prop} (h : SatF r P) (k : ∀ a ρ, P a ρ → Q a ρ) : SatF r Q := by
  cases r with
  | ok a ρ => exact k _ _ h
  | _ => exact h
theorem Sat_ex {r : R α} {P : α → List Sl → Prop} (h : Sat r P) : ∃ a ρ, r = .ok a ρ ∧ P a ρ := by
  cases r with
  | ok a ρ => exact ⟨a, ρ, rfl, h⟩
  | _ => exact h.elim
theorem SatF_ex {r : FR} {P : Sl → List Sl → Prop} (h : SatF r P) : ∃ a ρ, r = .ok a ρ ∧ P a ρ := by
  cases r with
  | ok a ρ => exact ⟨a, ρ, rfl, h⟩
  | _ => exact h.elim
theorem Sat_seq {a b : M Flw} {ρ : List Sl} {P : Flw → List Sl → Prop} : Sat (seqM a b ρ) P = Sat (a ρ) fun f ρ' => match f with | .nx => Sat (b ρ') P | f => P f ρ' := by
  unfold seqM
  rw [Sat_bind]
  congr 1
  funext f ρ'
  cases f <;> rfl
theorem Sat_if {t : M Bool} {a b : M α} {ρ : List Sl} {P : α → List Sl → Prop} : Sat (mIf t a b ρ) P = Sat (t ρ) fun k ρ' => if k = true then Sat (a ρ') P else Sat (b ρ') P := by
  unfold mIf
  rw [Sat_bind]
  congr 1
  funext k ρ'
  cases k <;> rfl
theorem Sat_runF {n : Nat} {m : M Flw} {ss : List Sl} {P : Sl → List Sl → Prop} : SatF (runF n m ss) P = Sat (m (ss ++ List.replicate n .emp)) fun f ρ => match f with
    | .rt s => (match outsOf ss ρ with | some o => P s o | none => False)
    | .nx => (match outsOf ss ρ with | some o => P (.sh .non) o | none => False)
    | _ => False := by
  unfold runF finF
  cases m (ss ++ List.replicate n .emp) with
  | ok f ρ =>
    cases f with
    | rt s => show SatF (match outsOf ss ρ with | some o => .ok s o | none => .no) P = _; simp only [Sat]; cases e : outsOf ss ρ <;> rfl
    | nx => show SatF (match outsOf ss ρ with | some o => .ok (.sh .non) o | none => .no) P = _; simp only [Sat]; cases e : outsOf ss ρ <;> rfl
    | bk => rfl
    | ct => rfl
  | ex c l ρ => show SatF (match outsOf ss ρ with | some o => .ex c l o | none => .no) P = _; cases e : outsOf ss ρ <;> rfl
  | no => rfl
/-- a call -/
theorem Sat_call {S : List Sl → FR} {os : List Opd} {ρ : List Sl} {P : Sl → List Sl → Prop} : Sat (callM S os ρ) P = Sat (oL1 os ρ) fun xs ρ' => (pks os).Nodup ∧ (match argS ρ' os xs with | some ss => SatF (S ss) fun s outs => P s (putBack os outs ρ') | none => False) := by
  unfold callM
  rw [Sat_bind]
  congr 1
  funext xs ρ'
  unfold callFin
  split
  · rename_i h
    cases e : argS ρ' os xs with
    | none => simp [Sat, h]
    | some ss =>
      dsimp only
      cases e2 : S ss <;> simp [Sat, SatF, h]
  · rename_i h
    simp [Sat, h]
end

/-! ## the rules, as equations -/
def On {α : Type} (o : Option α) (K : α → Prop) : Prop := match o with
  | some a => K a
  | none => False
section
variable {α γ : Type}
theorem On_some {a : α} {K : α → Prop} : On (some a) K = K a := rfl
theorem On_none {K : α → Prop} : On none K = False := rfl
theorem On_ite {c : Prop} [Decidable c] {a : Option α} {K : α → Prop} : On (if c then a else none) K = (c ∧ On a K) := by
  by_cases h : c
  · rw [if_pos h]; exact propext ⟨fun q => ⟨h, q⟩, fun q => q.2⟩
  · rw [if_neg h]; exact propext ⟨fun q => q.elim, fun q => (h q.1).elim⟩
theorem On_map {f : α → γ} {o : Option α} {K : γ → Prop} : On (o.map f) K = On o fun a => K (f a) := by cases o <;> rfl
theorem On_bind {f : α → Option γ} {o : Option α} {K : γ → Prop} : On (o.bind f) K = On o fun a => On (f a) K := by cases o <;> rfl
theorem On_ex {o : Option α} {K : α → Prop} (h : On o K) : ∃ a, o = some a ∧ K a := by
  cases o with
  | none => exact h.elim
  | some a => exact ⟨a, rfl, h⟩
theorem Sat_opt {o : Option α} {ρ : List Sl} {P : α → List Sl → Prop} : Sat (optM o ρ) P = On o fun a => P a ρ := by cases o <;> rfl
theorem Sat_match {o : Option α} {ρ : List Sl} {P : α → List Sl → Prop} : Sat (match o with | some a => .ok a ρ | none => .no) P = On o fun a => P a ρ := by cases o <;> rfl
theorem Sat_ite {c : Prop} [Decidable c] {r : R α} {P : α → List Sl → Prop} : Sat (if c then r else .no) P = (c ∧ Sat r P) := by
  by_cases h : c
  · rw [if_pos h]; exact propext ⟨fun q => ⟨h, q⟩, fun q => q.2⟩
  · rw [if_neg h]; exact propext ⟨fun q => q.elim, fun q => (h q.1).elim⟩
end
def SlV : Sl → Option D
  | .sh d => some d
  | .ow d => some d
  | .io d => some d
  | _ => none
theorem pkD_eq {ρ : List Sl} {i : Nat} : pkD ρ i = ρ[i]?.bind SlV := by
  unfold pkD
  cases ρ[i]? with
  | none => rfl
  | some s => cases s <;> rfl
section
variable {ρ : List Sl} {P : D → List Sl → Prop} {PA : Sl → List Sl → Prop} {PB : Bool → List Sl → Prop} {PF : Flw → List Sl → Prop} {PL : List D → List Sl → Prop} {PU : Unit → List Sl → Prop} {i : Nat} {m : M D} {a : M Sl}
theorem Sat_mC {d : D} : Sat (mC d ρ) P = P d ρ := rfl
def mVarK (s : Sl) (i : Nat) (ρ : List Sl) (P : D → List Sl → Prop) : Prop := match s with
  | .sh d => P d ρ
  | .ow d => P d (ρ.set i (.sh d))
  | .tr d => P d (ρ.set i (.sh d))
  | _ => False
theorem Sat_mVar : Sat (mVar i ρ) P = On ρ[i]? fun s => mVarK s i ρ P := by
  unfold mVar
  cases ρ[i]? with
  | none => rfl
  | some s => cases s <;> rfl
theorem mVarK_sh {d : D} : mVarK (.sh d) i ρ P = P d ρ := rfl
theorem mVarK_ow {d : D} : mVarK (.ow d) i ρ P = P d (ρ.set i (.sh d)) := rfl
theorem mVarK_tr {d : D} : mVarK (.tr d) i ρ P = P d (ρ.set i (.sh d)) := rfl
def aVarK (s : Sl) (i : Nat) (ρ : List Sl) (P : Sl → List Sl → Prop) : Prop := match s with
  | .sh d => P (.sh d) ρ
  | .ow d => P (.ow d) (ρ.set i .emp)
  | .tr d => P (.tr d) (ρ.set i .emp)
  | _ => False
theorem Sat_aVar : Sat (aVar i ρ) PA = On ρ[i]? fun s => aVarK s i ρ PA := by
  unfold aVar
  cases ρ[i]? with
  | none => rfl
  | some s => cases s <;> rfl
theorem aVarK_sh {d : D} : aVarK (.sh d) i ρ PA = PA (.sh d) ρ := rfl
theorem aVarK_ow {d : D} : aVarK (.ow d) i ρ PA = PA (.ow d) (ρ.set i .emp) := rfl
theorem Sat_shM : Sat (shM m ρ) PA = Sat (m ρ) fun d ρ' => PA (.sh d) ρ' := Sat_bind
def vaK (s : Sl) (ρ : List Sl) (P : D → List Sl → Prop) : Prop := match s with
  | .sh d => P d ρ
  | .ow d => P d ρ
  | .tr d => P d ρ
  | _ => False
theorem Sat_vaM : Sat (vaM a ρ) P = Sat (a ρ) fun s ρ' => vaK s ρ' P := by
  unfold vaM
  rw [Sat_bind]
  congr 1
  funext s ρ'
  cases s <;> rfl
theorem vaK_sh {d : D} : vaK (.sh d) ρ P = P d ρ := rfl
theorem vaK_ow {d : D} : vaK (.ow d) ρ P = P d ρ := rfl
theorem Sat_ev {PO : Option D → List Sl → Prop} : Sat (o1 (.ev m) ρ) PO = Sat (m ρ) fun d ρ' => PO (some d) ρ' := Sat_bind
theorem Sat_pk {PO : Option D → List Sl → Prop} : Sat (o1 (.pk i) ρ) PO = On (pkD ρ i) fun _ => PO none ρ := by
  show Sat (match pkD ρ i with | some _ => .ok none ρ | none => .no) PO = _
  cases pkD ρ i <;> rfl
theorem o2_ev {x : Option D} : o2 ρ (.ev m) x = x := rfl
theorem o2_pk {x : Option D} : o2 ρ (.pk i) x = pkD ρ i := rfl
theorem pkD_s {s : Sl} : pkD (s :: ρ) (i + 1) = pkD ρ i := by rw [pkD_eq, pkD_eq, List.getElem?_cons_succ]
theorem pkD_sh {d : D} : pkD (.sh d :: ρ) 0 = some d := rfl
theorem pkD_ow {d : D} : pkD (.ow d :: ρ) 0 = some d := rfl
theorem pkD_io {d : D} : pkD (.io d :: ρ) 0 = some d := rfl
theorem Sat_op2 {g : D → D → Option D} {oa ob : Opd} : Sat (mOp2 g oa ob ρ) P = Sat (o1 oa ρ) fun x ρ1 => Sat (o1 ob ρ1) fun y ρ2 => On (o2 ρ2 oa x) fun dx => On (o2 ρ2 ob y) fun dy => On (g dx dy) fun d => P d ρ2 := by
  unfold mOp2
  rw [Sat_bind]
  congr 1
  funext x ρ1
  rw [Sat_bind]
  congr 1
  funext y ρ2
  unfold fin2
  cases o2 ρ2 oa x with
  | none => rfl
  | some dx =>
    cases o2 ρ2 ob y with
    | none => rfl
    | some dy =>
      show Sat (match g dx dy with | some d => .ok d ρ2 | none => .no) P = On (g dx dy) _
      cases g dx dy <;> rfl
theorem Sat_oL_nil {PX : List (Option D) → List Sl → Prop} : Sat (oL1 [] ρ) PX = PX [] ρ := rfl
theorem Sat_oL_cons {o : Opd} {os : List Opd} {PX : List (Option D) → List Sl → Prop} : Sat (oL1 (o :: os) ρ) PX = Sat (o1 o ρ) fun x ρ1 => Sat (oL1 os ρ1) fun xs ρ2 => PX (x :: xs) ρ2 := by
  show Sat (bindM (o1 o) (fun x => bindM (oL1 os) fun xs => retM (x :: xs)) ρ) PX = _
  rw [Sat_bind]
  congr 1
  funext x ρ1
  rw [Sat_bind]
  rfl
theorem On_oL_nil {xs : List (Option D)} {K : List D → Prop} : On (oL2 ρ [] xs) K = K [] := rfl
theorem On_oL_cons {o : Opd} {os : List Opd} {x : Option D} {xs : List (Option D)} {K : List D → Prop} : On (oL2 ρ (o :: os) (x :: xs)) K = On (o2 ρ o x) fun d => On (oL2 ρ os xs) fun ds => K (d :: ds) := by
  show On (match o2 ρ o x, oL2 ρ os xs with | some d, some ds => some (d :: ds) | _, _ => none) K = _
  cases o2 ρ o x with
  | none => rfl
  | some d => cases oL2 ρ os xs <;> rfl
theorem Sat_opN {g : List D → Option D} {os : List Opd} : Sat (mOpN g os ρ) P = Sat (oL1 os ρ) fun xs ρ1 => On (oL2 ρ1 os xs) fun ds => On (g ds) fun d => P d ρ1 := by
  unfold mOpN
  rw [Sat_bind]
  congr 1
  funext x ρ1
  unfold finN
  cases oL2 ρ1 os x with
  | none => rfl
  | some dx =>
    show Sat (match g dx with | some d => .ok d ρ1 | none => .no) P = On (g dx) _
    cases g dx <;> rfl
def slL : D → Option Sl
  | .lst l => some (.ow (.lst l))
  | _ => none
theorem Sat_aOpN {g : List D → Option D} {os : List Opd} : Sat (aOpN g os ρ) PA = Sat (oL1 os ρ) fun xs ρ1 => On (oL2 ρ1 os xs) fun ds => On (g ds) fun d => PA (.ow d) ρ1 := by
  unfold aOpN
  rw [Sat_bind]
  congr 1
  funext x ρ1
  unfold finAN
  cases oL2 ρ1 os x with
  | none => rfl
  | some dx =>
    show Sat (match g dx with | some d => .ok (.ow d) ρ1 | none => .no) PA = On (g dx) _
    cases g dx <;> rfl
theorem Sat_aOpD {g : List D → Option D} {os : List Opd} : Sat (aOpD g os ρ) PA = Sat (oL1 os ρ) fun xs ρ1 => On (oL2 ρ1 os xs) fun ds => On (g ds) fun d => PA (.ow d) ρ1 := by
  unfold aOpD
  rw [Sat_bind]
  congr 1
  funext x ρ1
  unfold finAD
  cases oL2 ρ1 os x with
  | none => rfl
  | some dx =>
    show Sat (match g dx with | some d => .ok (.ow d) ρ1 | none => .no) PA = On (g dx) _
    cases g dx <;> rfl
theorem Sat_op1 {g : D → Option D} : Sat (mOp1 g m ρ) P = Sat (m ρ) fun d ρ' => On (g d) fun x => P x ρ' := by
  unfold mOp1
  rw [Sat_bind]
  congr 1
  funext d ρ'
  exact Sat_opt
theorem Sat_each_nil : Sat (mEach [] ρ) PL = PL [] ρ := rfl
theorem Sat_each_cons {ms : List (M D)} : Sat (mEach (m :: ms) ρ) PL = Sat (m ρ) fun d ρ1 => Sat (mEach ms ρ1) fun ds ρ2 => PL (d :: ds) ρ2 := by
  show Sat (bindM m (fun x => bindM (mEach ms) fun xs => retM (x :: xs)) ρ) PL = _
  rw [Sat_bind]
  congr 1
  funext x ρ1
  rw [Sat_bind]
  rfl
theorem Sat_tup {ms : M (List D)} : Sat (mTup ms ρ) P = Sat (ms ρ) fun l ρ' => l.length ≤ LIM ∧ P (.tup l) ρ' := by
  unfold mTup
  rw [Sat_bind]
  congr 1
  funext l ρ'
  split
  · rename_i h; simp [Sat_ret, h]
  · rename_i h; simp [noM, Sat_no, h]
theorem Sat_lst {ms : M (List D)} : Sat (mLst ms ρ) P = Sat (ms ρ) fun l ρ' => l.length ≤ LIM ∧ P (.lst l) ρ' := by
  unfold mLst
  rw [Sat_bind]
  congr 1
  funext l ρ'
  split
  · rename_i h; simp [Sat_ret, h]
  · rename_i h; simp [noM, Sat_no, h]
theorem Sat_aLst {ms : M (List D)} : Sat (aLst ms ρ) PA = Sat (ms ρ) fun l ρ' => l.length ≤ LIM ∧ PA (.ow (.lst l)) ρ' := by
  unfold aLst
  rw [Sat_bind]
  congr 1
  funext l ρ'
  split
  · rename_i h; simp [Sat_ret, h]
  · rename_i h; simp [noM, Sat_no, h]
def D.asB : D → Option Bool
  | .bl k => some k
  | _ => none
theorem asB_bl {k : Bool} : D.asB (.bl k) = some k := rfl
theorem Sat_mB : Sat (mB m ρ) PB = Sat (m ρ) fun d ρ' => On d.asB fun k => PB k ρ' := by
  unfold mB
  rw [Sat_bind]
  congr 1
  funext d ρ'
  cases d <;> rfl
def D.tru : D → Option Bool
  | .non => some false
  | .bl k => some k
  | .int i => some (i != 0)
  | .str z => if z.length ≤ LIM then some ((z.length : Int) != 0) else none
  | .lst l => some (!l.isEmpty)
  | .tup l => some (!l.isEmpty)
  | _ => none
theorem tru_bl {k : Bool} : D.tru (.bl k) = some k := rfl
theorem Sat_mTru : Sat (mTru m ρ) PB = Sat (m ρ) fun d ρ' => On d.tru fun k => PB k ρ' := by
  unfold mTru
  rw [Sat_bind]
  congr 1
  funext d ρ'
  cases d <;> try rfl
  rename_i z
  show Sat ((if z.length ≤ LIM then retM ((z.length : Int) != 0) else noM) ρ') PB = On (if z.length ≤ LIM then some ((z.length : Int) != 0) else none) _
  rw [On_ite]
  split
  · rename_i h; simp [Sat_ret, On_some, h]
  · rename_i h; simp [noM, Sat_no, h]
theorem Sat_and {x y : M Bool} : Sat (mAnd x y ρ) PB = Sat (x ρ) fun k ρ' => if k = true then Sat (y ρ') PB else PB false ρ' := by
  unfold mAnd
  rw [Sat_bind]
  congr 1
  funext k ρ'
  cases k <;> rfl
theorem Sat_or {x y : M Bool} : Sat (mOr x y ρ) PB = Sat (x ρ) fun k ρ' => if k = true then PB true ρ' else Sat (y ρ') PB := by
  unfold mOr
  rw [Sat_bind]
  congr 1
  funext k ρ'
  cases k <;> rfl
theorem Sat_not {x : M Bool} : Sat (mNot x ρ) PB = Sat (x ρ) fun k ρ' => PB (!k) ρ' := Sat_bind
theorem Sat_andV {x y : M D} : Sat (mAndV x y ρ) P = Sat (x ρ) fun d ρ' => On d.asB fun k => if k = true then Sat (y ρ') P else P (.bl false) ρ' := by
  unfold mAndV
  rw [Sat_bind, Sat_mB]
  congr 1
  funext d ρ'
  congr 1
  funext k
  cases k <;> rfl
theorem Sat_orV {x y : M D} : Sat (mOrV x y ρ) P = Sat (x ρ) fun d ρ' => On d.asB fun k => if k = true then P (.bl true) ρ' else Sat (y ρ') P := by
  unfold mOrV
  rw [Sat_bind, Sat_mB]
  congr 1
  funext d ρ'
  congr 1
  funext k
  cases k <;> rfl
theorem Sat_notV {x : M D} : Sat (mNotV x ρ) P = Sat (x ρ) fun d ρ' => On d.asB fun k => P (.bl !k) ρ' := by
  unfold mNotV
  rw [Sat_bind, Sat_mB]
  rfl
def putSK (s : Sl) (i : Nat) (ρ : List Sl) (P : Flw → List Sl → Prop) : Prop := match s with
  | .sh d => P .nx (ρ.set i (.sh d))
  | .ow d => P .nx (ρ.set i (.ow d))
  | .tr d => P .nx (ρ.set i (.tr d))
  | _ => False
theorem Sat_set : Sat (mSet i a ρ) PF = Sat (a ρ) fun s ρ' => i < ρ'.length ∧ putSK s i ρ' PF := by
  unfold mSet
  rw [Sat_bind]
  congr 1
  funext s ρ'
  unfold putS
  split
  · rename_i h
    cases s <;> simp [h, putSK, Sat]
  · rename_i h; simp [Sat_no, h]
theorem putSK_sh {d : D} : putSK (.sh d) i ρ PF = PF .nx (ρ.set i (.sh d)) := rfl
theorem putSK_ow {d : D} : putSK (.ow d) i ρ PF = PF .nx (ρ.set i (.ow d)) := rfl
theorem Sat_mRet : Sat (mRet a ρ) PF = Sat (a ρ) fun s ρ' => PF (.rt s) ρ' := Sat_bind
theorem Sat_mDo : Sat (mDo m ρ) PF = Sat (m ρ) fun _ ρ' => PF .nx ρ' := Sat_bind
theorem Sat_own {α : Type} {f : D → Option (D × α)} {Q : α → List Sl → Prop} : Sat (ownM i f ρ) Q = On ρ[i]? fun s => On s.own? fun d => On (f d) fun x => Q x.2 (ρ.set i (s.re x.1)) := by
  unfold ownM
  cases ρ[i]? with
  | none => rfl
  | some s =>
    show Sat (match s.own? with | some d => (match f d with | some (d', x) => .ok x (ρ.set i (s.re d')) | none => .no) | none => .no) Q = On s.own? _
    cases s.own? with
    | none => rfl
    | some d =>
      show Sat (match f d with | some (d', x) => .ok x (ρ.set i (s.re d')) | none => .no) Q = On (f d) _
      cases f d <;> rfl
theorem own_ow {d : D} : Sl.own? (.ow d) = some d := rfl
theorem own_io {d : D} : Sl.own? (.io d) = some d := rfl
theorem re_ow {d e : D} : Sl.re (.ow d) e = .ow e := rfl
theorem re_io {d e : D} : Sl.re (.io d) e = .io e := rfl
theorem ownIs_s {p : D → Bool} {s : Sl} : ownIs p (s :: ρ) (i + 1) = ownIs p ρ i := by
  unfold ownIs
  rw [List.getElem?_cons_succ]
theorem ownIs_ow {p : D → Bool} {d : D} : ownIs p (.ow d :: ρ) 0 = p d := rfl
theorem ownIs_io {p : D → Bool} {d : D} : ownIs p (.io d :: ρ) 0 = p d := rfl
theorem Sat_meth {p : D → Bool} {ms : M (List D)} {f : List D → D → Option (D × D)} : Sat (mMeth p i ms f ρ) P = (ownIs p ρ i = true ∧ Sat (ms ρ) fun ds ρ1 => Sat (ownM i (f ds) ρ1) P) := by
  unfold mMeth
  rw [Sat_ite, Sat_bind]
theorem Sat_put {mk : M D} {f : D → D → D → Option D} : Sat (mPut i mk m f ρ) PF = Sat (m ρ) fun d ρ1 => ownIs (fun _ => true) ρ1 i = true ∧ Sat (mk ρ1) fun k ρ2 => On ρ2[i]? fun s => On s.own? fun c => On (f k d c) fun c' => PF .nx (ρ2.set i (s.re c')) := by
  unfold mPut
  rw [Sat_bind]
  congr 1
  funext d ρ1
  rw [Sat_ite, Sat_bind]
  congr 2
  funext k ρ2
  rw [Sat_bind, Sat_own]
  congr 1
  funext s
  congr 1
  funext c
  rw [On_map]
  rfl
theorem Sat_chain {g g' : D → D → Option D} {oa ob oc : Opd} : Sat (mChain g g' oa ob oc ρ) P = Sat (o1 oa ρ) fun x ρ1 => Sat (o1 ob ρ1) fun y ρ2 => On (o2 ρ2 oa x) fun dx => On (o2 ρ2 ob y) fun dy => On (g dx dy) fun d => On d.asB fun k =>
    if k = true then Sat (o1 oc ρ2) fun z ρ3 => On (o2 ρ3 ob y) fun dy => On (o2 ρ3 oc z) fun dz => On (g' dy dz) fun d => P d ρ3 else P (.bl false) ρ2 := by
  have fin : ∀ {g : D → D → Option D} {oa ob : Opd} {x y : Option D} {ρ : List Sl} {P : D → List Sl → Prop}, Sat (fin2 g oa ob x y ρ) P = On (o2 ρ oa x) fun dx => On (o2 ρ ob y) fun dy => On (g dx dy) fun d => P d ρ := by
    intro g oa ob x y ρ P
    unfold fin2
    cases o2 ρ oa x with
    | none => rfl
    | some dx =>
      cases o2 ρ ob y with
      | none => rfl
      | some dy =>
        show Sat (match g dx dy with | some d => .ok d ρ | none => .no) P = On (g dx dy) _
        cases g dx dy <;> rfl
  unfold mChain
  rw [Sat_bind]
  congr 1
  funext x ρ1
  rw [Sat_bind]
  congr 1
  funext y ρ2
  rw [Sat_bind, Sat_mB, fin]
  congr 1
  funext dx
  congr 1
  funext dy
  congr 1
  funext d
  congr 1
  funext k
  cases k with
  | false => rfl
  | true =>
    show Sat (bindM (o1 oc) (fun z => fin2 g' ob oc y z) ρ2) P = _
    rw [Sat_bind]
    rw [if_pos rfl]
    congr 1
    funext z ρ3
    exact fin
theorem Sat_addX {oa ob : Opd} : Sat (aAddX oa ob ρ) PA = Sat (o1 oa ρ) fun x ρ1 => Sat (o1 ob ρ1) fun y ρ2 => On (o2 ρ2 oa x) fun dx => On (o2 ρ2 ob y) fun dy => On (match dAddL dx dy with | some d => some (Sl.ow d) | none => (dAdd dx dy).map Sl.sh) fun s => PA s ρ2 := by
  unfold aAddX
  rw [Sat_bind]
  congr 1
  funext x ρ1
  rw [Sat_bind]
  congr 1
  funext y ρ2
  unfold finAddX
  cases o2 ρ2 oa x with
  | none => rfl
  | some dx =>
    cases o2 ρ2 ob y with
    | none => rfl
    | some dy =>
      show Sat (match dAddL dx dy with | some d => .ok (.ow d) ρ2 | none => (match dAdd dx dy with | some d => .ok (.sh d) ρ2 | none => .no)) PA = On (match dAddL dx dy with | some d => some (Sl.ow d) | none => (dAdd dx dy).map Sl.sh) _
      cases dAddL dx dy with
      | some d => rfl
      | none =>
        dsimp only
        cases dAdd dx dy <;> rfl
theorem Sat_part_none {PO : Option Int → List Sl → Prop} : Sat (mPart none ρ) PO = PO none ρ := rfl
def D.asI : D → Option Int
  | .int i => some i
  | _ => none
theorem asI_int {k : Int} : D.asI (.int k) = some k := rfl
theorem Sat_part_some {PO : Option Int → List Sl → Prop} : Sat (mPart (some m) ρ) PO = Sat (m ρ) fun d ρ' => On d.asI fun i => PO (some i) ρ' := by
  show Sat (bindM m (fun d => match d with | .int i => retM (some i) | _ => noM) ρ) PO = _
  rw [Sat_bind]
  congr 1
  funext d ρ'
  cases d <;> rfl
theorem Sat_slice {o : Opd} {lo hi : Option (M D)} : Sat (mSlice o lo hi ρ) P = Sat (o1 o ρ) fun x ρ1 => Sat (mPart lo ρ1) fun l ρ2 => Sat (mPart hi ρ2) fun h ρ3 => On (o2 ρ3 o x) fun d => On (dSlice d l h) fun r => P r ρ3 := by
  unfold mSlice
  rw [Sat_bind]
  congr 1
  funext x ρ1
  rw [Sat_bind]
  congr 1
  funext l ρ2
  rw [Sat_bind]
  congr 1
  funext h ρ3
  unfold finSl
  cases o2 ρ3 o x with
  | none => rfl
  | some d =>
    show Sat (match dSlice d l h with | some r => .ok r ρ3 | none => .no) P = On (dSlice d l h) _
    cases dSlice d l h <;> rfl
theorem Sat_sliceX {o : Opd} {lo hi : Option (M D)} : Sat (aSliceX o lo hi ρ) PA = Sat (o1 o ρ) fun x ρ1 => Sat (mPart lo ρ1) fun l ρ2 => Sat (mPart hi ρ2) fun h ρ3 => On (o2 ρ3 o x) fun d => On (dSlice d l h) fun r => PA (slD r) ρ3 := by
  unfold aSliceX
  rw [Sat_bind]
  congr 1
  funext x ρ1
  rw [Sat_bind]
  congr 1
  funext l ρ2
  rw [Sat_bind]
  congr 1
  funext h ρ3
  unfold finSlX
  cases o2 ρ3 o x with
  | none => rfl
  | some d =>
    show Sat (match dSlice d l h with | some r => .ok (slD r) ρ3 | none => .no) PA = On (dSlice d l h) _
    cases dSlice d l h <;> rfl
def D.asL : D → Option (List D)
  | .lst l => some l
  | _ => none
theorem asL_lst {l : List D} : D.asL (.lst l) = some l := rfl
theorem Sat_revL : Sat (aRevL m ρ) PA = Sat (m ρ) fun d ρ' => On d.asL fun l => PA (.ow (.lst l.reverse)) ρ' := by
  unfold aRevL
  rw [Sat_bind]
  congr 1
  funext d ρ'
  cases d <;> rfl
theorem Sat_asg {f : D → M Unit} : Sat (mAsg f m ρ) PF = Sat (m ρ) fun d ρ1 => Sat (f d ρ1) fun _ ρ2 => PF .nx ρ2 := by
  unfold mAsg
  rw [Sat_bind]
  congr 1
  funext d ρ1
  rw [Sat_bind]
  rfl
theorem Sat_name {d : D} : Sat (toName i d ρ) PU = (i < ρ.length ∧ PU () (ρ.set i (.sh d))) := by
  unfold toName
  exact Sat_ite
theorem Sat_toTup {fs : List (D → M Unit)} {l : List D} : Sat (toTup fs (.tup l) ρ) PU = Sat (toNames fs l ρ) PU := rfl
theorem Sat_names_nil : Sat (toNames [] [] ρ) PU = PU () ρ := rfl
theorem Sat_names_cons {f : D → M Unit} {fs : List (D → M Unit)} {d : D} {ds : List D} : Sat (toNames (f :: fs) (d :: ds) ρ) PU = Sat (f d ρ) fun _ ρ1 => Sat (toNames fs ds ρ1) PU := Sat_bind
theorem Sat_rng {f : List D → Option (List D)} {ms : M (List D)} : Sat (mRng f ms ρ) PL = Sat (ms ρ) fun l ρ' => On (f l) fun ds => PL ds ρ' := by
  unfold mRng
  rw [Sat_bind]
  congr 1
  funext l ρ'
  exact Sat_opt
theorem Sat_iter : Sat (mIter m ρ) PL = Sat (m ρ) fun d ρ' => On (itemsOf d) fun ds => PL ds ρ' := by
  unfold mIter
  rw [Sat_bind]
  congr 1
  funext l ρ'
  exact Sat_opt
def rgI (l : List D) : Option (Int × Int) := match l with
  | [.int j] => some (0, j)
  | [.int i, .int j] => some (i, j)
  | _ => none
theorem Sat_rg {ms : M (List D)} {PI : Int × Int → List Sl → Prop} : Sat (mRg ms ρ) PI = Sat (ms ρ) fun l ρ' => On (rgI l) fun c => PI c ρ' := by
  unfold mRg
  rw [Sat_bind]
  congr 1
  funext l ρ'
  unfold rgI
  split <;> simp_all [Sat_ret, On_some, noM, Sat_no, On_none]
theorem Sat_listRg {mr : M (Int × Int)} : Sat (aListRg mr ρ) PA = Sat (mr ρ) fun c ρ' => rgOk c.1 c.2 = true ∧ PA (.ow (.lst (rngD c.1 (c.2 - c.1).toNat))) ρ' := by
  unfold aListRg
  rw [Sat_bind]
  congr 1
  funext c ρ'
  split
  · rename_i h; simp [Sat_ret, h]
  · rename_i h; simp [noM, Sat_no, h]
theorem Sat_tupRg {mr : M (Int × Int)} : Sat (mTupRg mr ρ) P = Sat (mr ρ) fun c ρ' => rgOk c.1 c.2 = true ∧ P (.tup (rngD c.1 (c.2 - c.1).toNat)) ρ' := by
  unfold mTupRg
  rw [Sat_bind]
  congr 1
  funext c ρ'
  split
  · rename_i h; simp [Sat_ret, h]
  · rename_i h; simp [noM, Sat_no, h]
/-! ### loops -/
theorem Sat_for {it : M (List D)} {f : D → M Unit} {b : M Flw} : Sat (mFor it f b ρ) PF = Sat (it ρ) fun ds ρ' => Sat (forL f b ds ρ') PF := Sat_bind
def stepK (w : Flw) (ρ : List Sl) (more : List Sl → Prop) (P : Flw → List Sl → Prop) : Prop := match w with
  | .nx => more ρ
  | .ct => more ρ
  | .bk => P .nx ρ
  | .rt s => P (.rt s) ρ
theorem stepK_nx {more : List Sl → Prop} : stepK .nx ρ more PF = more ρ := rfl
theorem stepK_ct {more : List Sl → Prop} : stepK .ct ρ more PF = more ρ := rfl
theorem stepK_bk {more : List Sl → Prop} : stepK .bk ρ more PF = PF .nx ρ := rfl
theorem stepK_rt {more : List Sl → Prop} {s : Sl} : stepK (.rt s) ρ more PF = PF (.rt s) ρ := rfl
theorem Sat_forL_nil {f : D → M Unit} {b : M Flw} : Sat (forL f b [] ρ) PF = PF .nx ρ := rfl
theorem Sat_forL_cons {f : D → M Unit} {b : M Flw} {d : D} {ds : List D} : Sat (forL f b (d :: ds) ρ) PF = Sat (f d ρ) fun _ ρ1 => Sat (b ρ1) fun w ρ2 => stepK w ρ2 (fun ρ => Sat (forL f b ds ρ) PF) PF := by
  show Sat (bindM (f d) _ ρ) PF = _
  rw [Sat_bind]
  congr 1
  funext u ρ1
  rw [Sat_bind]
  congr 1
  funext w ρ2
  cases w <;> rfl
/-- a loop by its invariant: ds is what is left -/
theorem forL_inv {f : D → M Unit} {b : M Flw} {P : Flw → List Sl → Prop} (I : List D → List Sl → Prop) (step : ∀ d ds ρ, I (d :: ds) ρ → Sat (f d ρ) fun _ ρ1 => Sat (b ρ1) fun w ρ2 => stepK w ρ2 (I ds) P) (fin : ∀ ρ, I [] ρ → P .nx ρ) : ∀ (ds : List D) (ρ : List Sl), I ds ρ → Sat (forL f b ds ρ) P
  | [], ρ, h => fin ρ h
  | d :: ds, ρ, h => by
    rw [Sat_forL_cons]
    refine Sat_mono (step d ds ρ h) fun u ρ1 h1 => Sat_mono h1 fun w ρ2 h2 => ?_
    cases w with
    | nx => exact forL_inv I step fin ds ρ2 h2
    | ct => exact forL_inv I step fin ds ρ2 h2
    | bk => exact h2
    | rt s => exact h2
/-- a while by its invariant: n is more than the turns that are left -/
theorem while_inv {c : M Bool} {b : M Flw} {P : Flw → List Sl → Prop} (I : Nat → List Sl → Prop) (step : ∀ n ρ, I n ρ → Sat (c ρ) fun k ρ1 => if k = true then Sat (b ρ1) fun w ρ2 => stepK w ρ2 (fun ρ3 => ∃ n', n' < n ∧ I n' ρ3) P else P .nx ρ1) : ∀ (N n : Nat) (ρ : List Sl), n < N → I n ρ → Sat (mWhile c b N ρ) P
  | 0, n, ρ, h, _ => absurd h (Nat.not_lt_zero _)
  | N + 1, n, ρ, h, hI => by
    show Sat (bindM c _ ρ) P
    rw [Sat_bind]
    refine Sat_mono (step n ρ hI) fun k ρ1 q => ?_
    cases k with
    | false => exact q
    | true =>
      rw [if_pos rfl] at q
      rw [if_pos rfl, Sat_bind]
      refine Sat_mono q fun w ρ2 q2 => ?_
      cases w with
      | nx => obtain ⟨n', hn, q3⟩ := q2; exact while_inv I step N n' ρ2 (by omega) q3
      | ct => obtain ⟨n', hn, q3⟩ := q2; exact while_inv I step N n' ρ2 (by omega) q3
      | bk => exact q2
      | rt s => exact q2
theorem compL_inv {vs : List Nat} {f : D → M Unit} {t : M Bool} {m : M D} {P : List D → List Sl → Prop} (I : List D → List D → List Sl → Prop)
    (step : ∀ d ds xs ρ, I (d :: ds) xs ρ → Sat (f d ρ) fun _ ρ1 => Sat (t ρ1) fun k ρ2 => if k = true then Sat (m ρ2) fun x ρ3 => I ds (xs ++ [x]) (wipeS vs ρ3) else I ds xs (wipeS vs ρ2)) (fin : ∀ xs ρ, I [] xs ρ → P xs ρ) :
    ∀ (ds xs : List D) (ρ : List Sl), I ds xs ρ → Sat (compL vs f t m ds ρ) fun l ρ' => P (xs ++ l) ρ'
  | [], xs, ρ, h => by
    show P (xs ++ []) ρ
    rw [List.append_nil]
    exact fin xs ρ h
  | d :: ds, xs, ρ, h => by
    show Sat (bindM (f d) _ ρ) _
    rw [Sat_bind]
    refine Sat_mono (step d ds xs ρ h) fun u ρ1 h1 => ?_
    rw [Sat_bind]
    refine Sat_mono h1 fun k ρ2 h2 => ?_
    cases k with
    | true =>
      rw [if_pos rfl] at h2
      rw [if_pos rfl, Sat_bind]
      refine Sat_mono h2 fun x ρ3 h3 => ?_
      rw [Sat_bind]
      show Sat (bindM (compL vs f t m ds) _ (wipeS vs ρ3)) _
      rw [Sat_bind]
      refine Sat_mono (compL_inv I step fin ds (xs ++ [x]) _ h3) fun l ρ4 h4 => ?_
      rw [List.append_assoc] at h4
      exact h4
    | false =>
      rw [if_neg (by decide)] at h2
      rw [if_neg (by decide), Sat_bind]
      exact compL_inv I step fin ds xs _ h2
theorem Sat_comp {vs : List Nat} {it : M (List D)} {f : D → M Unit} {t : M Bool} {m : M D} : Sat (compM vs it f t m ρ) PA = Sat (it ρ) fun ds ρ0 => ds.length ≤ LIM ∧ Sat (compL vs f t m ds (wipeS vs ρ0)) fun l ρ' => PA (.ow (.lst l)) (unwipe vs ρ0 ρ') := by
  unfold compM
  rw [Sat_bind]
  congr 1
  funext ds ρ0
  rw [Sat_ite]
  congr 1
  cases compL vs f t m ds (wipeS vs ρ0) <;> rfl
end
/-! ## the pens of the laws -/
def b_pen : M Flw :=
  (seqM (mSet 2 (aAddX (.ev (mOp2 dMul (.ev (mC (.int 7919))) (.pk 1))) (.ev (mC (.int 11)))))
  (seqM (mIf (mB (mOp2 dLt (.pk 1) (.ev (mOpN dMin2 [(.ev (mOpN dLenA [(.pk 0)])), (.ev (mC (.int 63)))])))) (mSet 2 (shM (mOp2 dIxA (.pk 0) (.pk 1)))) (mIf (mB (mOp2 dGt (.ev (mOpN dLenA [(.pk 0)])) (.ev (mC (.int 0))))) (mSet 2 (aAddX (.ev (mOp2 dMod (.ev (mOp2 dIxA (.pk 0) (.ev (mOp2 dMod (.pk 1) (.ev (mOpN dMin2 [(.ev (mOpN dLenA [(.pk 0)])), (.ev (mC (.int 63)))])))))) (.ev (mOp2 dPow (.ev (mC (.int 10))) (.ev (mC (.int 15))))))) (.ev (mOp2 dMul (.ev (mC (.int 48271))) (.pk 1))))) (retM .nx)))
  (seqM (mIf (mB (mOp2 dGe (.ev (mOpN dAbs [(.pk 2)])) (.ev (mOp2 dPow (.ev (mC (.int 10))) (.ev (mC (.int 18))))))) (mRet (aLst (mEach [(mC (.int 1)), (mOpN dAbs [(.pk 2)]), (mC (.int 0))]))) (retM .nx))
  (mRet (aLst (mEach [(mC (.int 0)), (mOp2 dAdd (.ev (mOp2 dMod (.pk 2) (.ev (mC (.int 2147483587))))) (.ev (mOp2 dMul (.ev (mC (.int 40009))) (.pk 1)))), (mC (.int 0))]))))))
def S_pen : List Sl → FR := runF 1 b_pen
def b_draw : M Flw :=
  (seqM (mPut 0 (mC (.int 2)) (mOp2 dAdd (.ev (mOp2 dIxA (.pk 0) (.ev (mC (.int 2))))) (.ev (mC (.int 1)))) dPut)
  (seqM (mIf (mB (mOp2 dEq (.ev (mOp2 dIxA (.pk 0) (.ev (mC (.int 0))))) (.ev (mC (.int 1))))) (seqM (mSet 2 (shM (mOp2 dMod (.ev (mOp2 dIxA (.pk 0) (.ev (mC (.int 1))))) (.pk 1))))
    (seqM (mPut 0 (mC (.int 1)) (mOp2 dDiv (.ev (mOp2 dIxA (.pk 0) (.ev (mC (.int 1))))) (.pk 1)) dPut)
    (mRet (aVar 2)))) (retM .nx))
  (seqM (mSet 3 (shM (mOp2 dMod (.ev (mOp2 dMul (.ev (mOp2 dAdd (.ev (mOp2 dAdd (.ev (mOp2 dIxA (.pk 0) (.ev (mC (.int 1))))) (.ev (mOp2 dMul (.ev (mC (.int 40503))) (.ev (mOp2 dIxA (.pk 0) (.ev (mC (.int 2))))))))) (.ev (mC (.int 1))))) (.ev (mC (.int 48271))))) (.ev (mC (.int 2147483647))))))
  (seqM (mSet 3 (shM (mOp2 dMod (.ev (mOp2 dMul (.pk 3) (.ev (mOp2 dAdd (.ev (mOp2 dAdd (.ev (mOp2 dMod (.pk 3) (.ev (mC (.int 65521))))) (.ev (mOp2 dIxA (.pk 0) (.ev (mC (.int 2))))))) (.ev (mC (.int 3))))))) (.ev (mC (.int 2147483629))))))
  (mRet (shM (mOp2 dMod (.ev (mOp2 dDiv (.ev (mOp2 dMod (.ev (mOp2 dMul (.pk 3) (.ev (mOp2 dAdd (.ev (mOp2 dMod (.pk 3) (.ev (mC (.int 8191))))) (.ev (mC (.int 7))))))) (.ev (mC (.int 2147483563))))) (.ev (mC (.int 64))))) (.pk 1))))))))
def S_draw : List Sl → FR := runF 2 b_draw
end Ev
namespace Ev
open PySem PySem.Spec PyProof.Rows L2

/-! ## The rules, one step each -/
/-- the state with slot i changed -/
def updK (i : Nat) (s : Sl) (ρ acc : List Sl) (Q : List Sl → Prop) : Prop := Q (acc.reverse ++ ρ.set i s)
def revK (acc ρ : List Sl) (Q : List Sl → Prop) : Prop := Q (acc.reverse ++ ρ)
def seqK (f : Flw) (ρ : List Sl) (b : M Flw) (P : Flw → List Sl → Prop) : Prop := match f with
  | .nx => Sat (b ρ) P
  | f => P f ρ
def ifK (k : Bool) (A B : Prop) : Prop := if k = true then A else B
def endK (ss : List Sl) (f : Flw) (ρ : List Sl) (P : Sl → List Sl → Prop) : Prop := match f with
  | .rt s => On (outsOf ss ρ) fun o => P s o
  | .nx => On (outsOf ss ρ) fun o => P (.sh .non) o
  | _ => False
def outK (ss ρ acc : List Sl) (Q : List Sl → Prop) : Prop := On (outsOf ss ρ) fun o => Q (acc.reverse ++ o)
section
variable {α γ : Type} {ρ acc : List Sl} {P : D → List Sl → Prop} {PA : Sl → List Sl → Prop} {PB : Bool → List Sl → Prop} {PF : Flw → List Sl → Prop} {PL : List D → List Sl → Prop} {PU : Unit → List Sl → Prop} {Q : List Sl → Prop} {i : Nat} {m m' : M D} {a : M Sl} {s t : Sl} {d : D}
theorem k_u0 (h : revK acc (s :: ρ) Q) : updK 0 s (t :: ρ) acc Q := h
instance i_k_u0  : Step (updK 0 s (t :: ρ) acc Q) (revK acc (s :: ρ) Q) := ⟨fun h => k_u0 h⟩
theorem k_us (h : updK i s ρ (t :: acc) Q) : updK (i + 1) s (t :: ρ) acc Q := by
  unfold updK at *
  rw [List.set_cons_succ]
  simpa using h
instance i_k_us  : Step (updK (i + 1) s (t :: ρ) acc Q) (updK i s ρ (t :: acc) Q) := ⟨fun h => k_us h⟩
theorem k_r0 (h : Q ρ) : revK [] ρ Q := h
instance i_k_r0  : Step (revK [] ρ Q) (Q ρ) := ⟨fun h => k_r0 h⟩
theorem k_rs (h : revK acc (t :: ρ) Q) : revK (t :: acc) ρ Q := by
  unfold revK at *
  simpa using h
instance i_k_rs  : Step (revK (t :: acc) ρ Q) (revK acc (t :: ρ) Q) := ⟨fun h => k_rs h⟩
theorem k_snx {b : M Flw} (h : Sat (b ρ) PF) : seqK .nx ρ b PF := h
instance i_k_snx {b : M Flw} : Step (seqK .nx ρ b PF) (Sat (b ρ) PF) := ⟨fun h => k_snx h⟩
theorem k_srt {b : M Flw} (h : PF (.rt s) ρ) : seqK (.rt s) ρ b PF := h
instance i_k_srt {b : M Flw} : Step (seqK (.rt s) ρ b PF) (PF (.rt s) ρ) := ⟨fun h => k_srt h⟩
theorem k_sbk {b : M Flw} (h : PF .bk ρ) : seqK .bk ρ b PF := h
instance i_k_sbk {b : M Flw} : Step (seqK .bk ρ b PF) (PF .bk ρ) := ⟨fun h => k_sbk h⟩
theorem k_sct {b : M Flw} (h : PF .ct ρ) : seqK .ct ρ b PF := h
instance i_k_sct {b : M Flw} : Step (seqK .ct ρ b PF) (PF .ct ρ) := ⟨fun h => k_sct h⟩
theorem k_ift {A B : Prop} (h : A) : ifK true A B := h
instance i_k_ift {A B : Prop} : Step (ifK true A B) (A) := ⟨fun h => k_ift h⟩
theorem k_iff {A B : Prop} (h : B) : ifK false A B := h
instance i_k_iff {A B : Prop} : Step (ifK false A B) (B) := ⟨fun h => k_iff h⟩
theorem k_ifd {A B : Prop} {p : Prop} [Decidable p] (h : p → A) (h' : ¬ p → B) : ifK (decide p) A B := by
  unfold ifK
  by_cases q : p
  · rw [if_pos (decide_eq_true q)]; exact h q
  · rw [if_neg (by simp [q])]; exact h' q
theorem k_ifdt {A B : Prop} {p : Prop} [Decidable p] (hp : p) (h : A) : ifK (decide p) A B := k_ifd (fun _ => h) fun n => absurd hp n
theorem k_ifdf {A B : Prop} {p : Prop} [Decidable p] (hp : ¬ p) (h : B) : ifK (decide p) A B := k_ifd (fun n => absurd n hp) fun _ => h
theorem k_ifn {A B : Prop} {k : Bool} (h : ifK k B A) : ifK (!k) A B := by cases k <;> exact h
instance i_k_ifn {A B : Prop} {k : Bool} : Step (ifK (!k) A B) (ifK k B A) := ⟨fun h => k_ifn h⟩
theorem k_ifb {A B : Prop} {k : Bool} (h : k = true → A) (h' : k = false → B) : ifK k A B := by
  cases k with
  | true => exact h rfl
  | false => exact h' rfl
theorem k_ifeq {A B : Prop} {k k' : Bool} (e : k = k') (h : ifK k' A B) : ifK k A B := e ▸ h
theorem k_on {o : Option α} {K : α → Prop} {x : α} (e : o = some x) (h : K x) : On o K := by rw [e]; exact h
theorem r_runF {n : Nat} {m : M Flw} {ss : List Sl} {P : Sl → List Sl → Prop} (h : Sat (m (ss ++ List.replicate n .emp)) fun f ρ => endK ss f ρ P) : SatF (runF n m ss) P := by
  rw [Sat_runF]
  refine Sat_mono h fun f ρ q => ?_
  cases f with
  | rt s =>
    obtain ⟨o, e, q⟩ := On_ex q
    dsimp only
    rw [e]
    exact q
  | nx =>
    obtain ⟨o, e, q⟩ := On_ex q
    dsimp only
    rw [e]
    exact q
  | bk => exact q
  | ct => exact q
instance i_r_runF {n : Nat} {m : M Flw} {ss : List Sl} {P : Sl → List Sl → Prop} : Step (SatF (runF n m ss) P) (Sat (m (ss ++ List.replicate n .emp)) fun f ρ => endK ss f ρ P) := ⟨fun h => r_runF h⟩
theorem k_end {ss : List Sl} {P : Sl → List Sl → Prop} (h : outK ss ρ [] (P s)) : endK ss (.rt s) ρ P := h
instance i_k_end {ss : List Sl} {P : Sl → List Sl → Prop} : Step (endK ss (.rt s) ρ P) (outK ss ρ [] (P s)) := ⟨fun h => k_end h⟩
theorem k_endn {ss : List Sl} {P : Sl → List Sl → Prop} (h : outK ss ρ [] (P (.sh .non))) : endK ss .nx ρ P := h
instance i_k_endn {ss : List Sl} {P : Sl → List Sl → Prop} : Step (endK ss .nx ρ P) (outK ss ρ [] (P (.sh .non))) := ⟨fun h => k_endn h⟩
theorem k_o0 (h : revK acc [] Q) : outK [] ρ acc Q := by
  unfold outK revK at *
  unfold outsOf
  exact h
instance i_k_o0  : Step (outK [] ρ acc Q) (revK acc [] Q) := ⟨fun h => k_o0 h⟩
theorem k_osh {ss : List Sl} (h : outK ss ρ (.emp :: acc) Q) : outK (.sh d :: ss) (t :: ρ) acc Q := by
  unfold outK at *
  unfold outsOf
  rw [On_map]
  simpa using h
instance i_k_osh {ss : List Sl} : Step (outK (.sh d :: ss) (t :: ρ) acc Q) (outK ss ρ (.emp :: acc) Q) := ⟨fun h => k_osh h⟩
theorem k_oow {ss : List Sl} (h : outK ss ρ (.emp :: acc) Q) : outK (.ow d :: ss) (t :: ρ) acc Q := by
  unfold outK at *
  unfold outsOf
  rw [On_map]
  simpa using h
instance i_k_oow {ss : List Sl} : Step (outK (.ow d :: ss) (t :: ρ) acc Q) (outK ss ρ (.emp :: acc) Q) := ⟨fun h => k_oow h⟩
theorem k_oio {ss : List Sl} {e : D} (h : outK ss ρ (.io e :: acc) Q) : outK (.io d :: ss) (.io e :: ρ) acc Q := by
  unfold outK at *
  unfold outsOf
  rw [On_map]
  simpa using h
instance i_k_oio {ss : List Sl} {e : D} : Step (outK (.io d :: ss) (.io e :: ρ) acc Q) (outK ss ρ (.io e :: acc) Q) := ⟨fun h => k_oio h⟩
theorem r_seq {x y : M Flw} (h : Sat (x ρ) fun f ρ' => seqK f ρ' y PF) : Sat (seqM x y ρ) PF := by
  rw [Sat_seq]
  refine Sat_mono h fun f ρ' q => ?_
  cases f <;> exact q
instance i_r_seq {x y : M Flw} : Step (Sat (seqM x y ρ) PF) (Sat (x ρ) fun f ρ' => seqK f ρ' y PF) := ⟨fun h => r_seq h⟩
theorem r_if {β : Type} {t : M Bool} {x y : M β} {P : β → List Sl → Prop} (h : Sat (t ρ) fun k ρ' => ifK k (Sat (x ρ') P) (Sat (y ρ') P)) : Sat (mIf t x y ρ) P := by
  rw [Sat_if]
  exact h
instance i_r_if {β : Type} {t : M Bool} {x y : M β} {P : β → List Sl → Prop} : Step (Sat (mIf t x y ρ) P) (Sat (t ρ) fun k ρ' => ifK k (Sat (x ρ') P) (Sat (y ρ') P)) := ⟨fun h => r_if h⟩
theorem r_ret {β : Type} {x : β} {P : β → List Sl → Prop} (h : P x ρ) : Sat (retM x ρ) P := h
instance i_r_ret {β : Type} {x : β} {P : β → List Sl → Prop} : Step (Sat (retM x ρ) P) (P x ρ) := ⟨fun h => r_ret h⟩
theorem r_mC (h : P d ρ) : Sat (mC d ρ) P := h
instance i_r_mC  : Step (Sat (mC d ρ) P) (P d ρ) := ⟨fun h => r_mC h⟩
theorem r_bind {β δ : Type} {m : M β} {f : β → M δ} {P : δ → List Sl → Prop} (h : Sat (m ρ) fun a ρ' => Sat (f a ρ') P) : Sat (bindM m f ρ) P := by rw [Sat_bind]; exact h
instance i_r_bind {β δ : Type} {m : M β} {f : β → M δ} {P : δ → List Sl → Prop} : Step (Sat (bindM m f ρ) P) (Sat (m ρ) fun a ρ' => Sat (f a ρ') P) := ⟨fun h => r_bind h⟩
def slQ (ρ : List Sl) (i : Nat) (K : Sl → Prop) : Prop := On ρ[i]? K
theorem k_sl0 {K : Sl → Prop} (h : K s) : slQ (s :: ρ) 0 K := h
instance i_k_sl0 {K : Sl → Prop} : Step (slQ (s :: ρ) 0 K) (K s) := ⟨fun h => k_sl0 h⟩
theorem k_sls {K : Sl → Prop} (h : slQ ρ i K) : slQ (s :: ρ) (i + 1) K := by
  unfold slQ at *
  rw [List.getElem?_cons_succ]
  exact h
instance i_k_sls {K : Sl → Prop} : Step (slQ (s :: ρ) (i + 1) K) (slQ ρ i K) := ⟨fun h => k_sls h⟩
def svK (s : Sl) (K : D → Prop) : Prop := On (SlV s) K
theorem k_svs {K : D → Prop} (h : K d) : svK (.sh d) K := h
instance i_k_svs {K : D → Prop} : Step (svK (.sh d) K) (K d) := ⟨fun h => k_svs h⟩
theorem k_svo {K : D → Prop} (h : K d) : svK (.ow d) K := h
instance i_k_svo {K : D → Prop} : Step (svK (.ow d) K) (K d) := ⟨fun h => k_svo h⟩
theorem k_svi {K : D → Prop} (h : K d) : svK (.io d) K := h
instance i_k_svi {K : D → Prop} : Step (svK (.io d) K) (K d) := ⟨fun h => k_svi h⟩
theorem on_pk {K : D → Prop} (h : slQ ρ i fun s => svK s K) : On (pkD ρ i) K := by
  obtain ⟨s, e, h⟩ := On_ex h
  obtain ⟨d, e2, h⟩ := On_ex h
  rw [pkD_eq, e]
  show On (SlV s) K
  rw [e2]
  exact h
theorem r_mVar (h : slQ ρ i fun s => mVarK s i ρ P) : Sat (mVar i ρ) P := by rw [Sat_mVar]; exact h
instance i_r_mVar  : Step (Sat (mVar i ρ) P) (slQ ρ i fun s => mVarK s i ρ P) := ⟨fun h => r_mVar h⟩
theorem k_vsh (h : P d ρ) : mVarK (.sh d) i ρ P := h
instance i_k_vsh  : Step (mVarK (.sh d) i ρ P) (P d ρ) := ⟨fun h => k_vsh h⟩
theorem k_vow (h : updK i (.sh d) ρ [] (P d)) : mVarK (.ow d) i ρ P := h
instance i_k_vow  : Step (mVarK (.ow d) i ρ P) (updK i (.sh d) ρ [] (P d)) := ⟨fun h => k_vow h⟩
theorem k_vtr (h : updK i (.sh d) ρ [] (P d)) : mVarK (.tr d) i ρ P := h
instance i_k_vtr  : Step (mVarK (.tr d) i ρ P) (updK i (.sh d) ρ [] (P d)) := ⟨fun h => k_vtr h⟩
theorem r_aVar (h : slQ ρ i fun s => aVarK s i ρ PA) : Sat (aVar i ρ) PA := by rw [Sat_aVar]; exact h
instance i_r_aVar  : Step (Sat (aVar i ρ) PA) (slQ ρ i fun s => aVarK s i ρ PA) := ⟨fun h => r_aVar h⟩
theorem k_ash (h : PA (.sh d) ρ) : aVarK (.sh d) i ρ PA := h
instance i_k_ash  : Step (aVarK (.sh d) i ρ PA) (PA (.sh d) ρ) := ⟨fun h => k_ash h⟩
theorem k_aow (h : updK i .emp ρ [] (PA (.ow d))) : aVarK (.ow d) i ρ PA := h
instance i_k_aow  : Step (aVarK (.ow d) i ρ PA) (updK i .emp ρ [] (PA (.ow d))) := ⟨fun h => k_aow h⟩
theorem k_atr (h : updK i .emp ρ [] (PA (.tr d))) : aVarK (.tr d) i ρ PA := h
instance i_k_atr  : Step (aVarK (.tr d) i ρ PA) (updK i .emp ρ [] (PA (.tr d))) := ⟨fun h => k_atr h⟩
theorem r_shM (h : Sat (m ρ) fun d ρ' => PA (.sh d) ρ') : Sat (shM m ρ) PA := by rw [Sat_shM]; exact h
instance i_r_shM  : Step (Sat (shM m ρ) PA) (Sat (m ρ) fun d ρ' => PA (.sh d) ρ') := ⟨fun h => r_shM h⟩
theorem r_vaM (h : Sat (a ρ) fun s ρ' => vaK s ρ' P) : Sat (vaM a ρ) P := by rw [Sat_vaM]; exact h
instance i_r_vaM  : Step (Sat (vaM a ρ) P) (Sat (a ρ) fun s ρ' => vaK s ρ' P) := ⟨fun h => r_vaM h⟩
theorem k_vash (h : P d ρ) : vaK (.sh d) ρ P := h
instance i_k_vash  : Step (vaK (.sh d) ρ P) (P d ρ) := ⟨fun h => k_vash h⟩
theorem k_vaow (h : P d ρ) : vaK (.ow d) ρ P := h
instance i_k_vaow  : Step (vaK (.ow d) ρ P) (P d ρ) := ⟨fun h => k_vaow h⟩
theorem k_vatr (h : P d ρ) : vaK (.tr d) ρ P := h
instance i_k_vatr  : Step (vaK (.tr d) ρ P) (P d ρ) := ⟨fun h => k_vatr h⟩
theorem r_ev {PO : Option D → List Sl → Prop} (h : Sat (m ρ) fun d ρ' => PO (some d) ρ') : Sat (o1 (.ev m) ρ) PO := by rw [Sat_ev]; exact h
instance i_r_ev {PO : Option D → List Sl → Prop} : Step (Sat (o1 (.ev m) ρ) PO) (Sat (m ρ) fun d ρ' => PO (some d) ρ') := ⟨fun h => r_ev h⟩
theorem r_pk {PO : Option D → List Sl → Prop} (h : slQ ρ i fun s => svK s fun _ => PO none ρ) : Sat (o1 (.pk i) ρ) PO := by rw [Sat_pk]; exact on_pk h
instance i_r_pk {PO : Option D → List Sl → Prop} : Step (Sat (o1 (.pk i) ρ) PO) (slQ ρ i fun s => svK s fun _ => PO none ρ) := ⟨fun h => r_pk h⟩
theorem r_op2 {g : D → D → Option D} {oa ob : Opd} (h : Sat (o1 oa ρ) fun x ρ1 => Sat (o1 ob ρ1) fun y ρ2 => On (o2 ρ2 oa x) fun dx => On (o2 ρ2 ob y) fun dy => On (g dx dy) fun d => P d ρ2) : Sat (mOp2 g oa ob ρ) P := by rw [Sat_op2]; exact h
instance i_r_op2 {g : D → D → Option D} {oa ob : Opd} : Step (Sat (mOp2 g oa ob ρ) P) (Sat (o1 oa ρ) fun x ρ1 => Sat (o1 ob ρ1) fun y ρ2 => On (o2 ρ2 oa x) fun dx => On (o2 ρ2 ob y) fun dy => On (g dx dy) fun d => P d ρ2) := ⟨fun h => r_op2 h⟩
theorem k_o2e {x : D} {K : D → Prop} (h : K x) : On (o2 ρ (.ev m) (some x)) K := h
instance i_k_o2e {x : D} {K : D → Prop} : Step (On (o2 ρ (.ev m) (some x)) K) (K x) := ⟨fun h => k_o2e h⟩
theorem k_o2p {y : Option D} {K : D → Prop} (h : slQ ρ i fun s => svK s K) : On (o2 ρ (.pk i) y) K := on_pk h
instance i_k_o2p {y : Option D} {K : D → Prop} : Step (On (o2 ρ (.pk i) y) K) (slQ ρ i fun s => svK s K) := ⟨fun h => k_o2p h⟩
theorem r_oL0 {PX : List (Option D) → List Sl → Prop} (h : PX [] ρ) : Sat (oL1 [] ρ) PX := h
instance i_r_oL0 {PX : List (Option D) → List Sl → Prop} : Step (Sat (oL1 [] ρ) PX) (PX [] ρ) := ⟨fun h => r_oL0 h⟩
theorem r_oLs {o : Opd} {os : List Opd} {PX : List (Option D) → List Sl → Prop} (h : Sat (o1 o ρ) fun x ρ1 => Sat (oL1 os ρ1) fun xs ρ2 => PX (x :: xs) ρ2) : Sat (oL1 (o :: os) ρ) PX := by rw [Sat_oL_cons]; exact h
instance i_r_oLs {o : Opd} {os : List Opd} {PX : List (Option D) → List Sl → Prop} : Step (Sat (oL1 (o :: os) ρ) PX) (Sat (o1 o ρ) fun x ρ1 => Sat (oL1 os ρ1) fun xs ρ2 => PX (x :: xs) ρ2) := ⟨fun h => r_oLs h⟩
theorem k_oL0 {xs : List (Option D)} {K : List D → Prop} (h : K []) : On (oL2 ρ [] xs) K := h
instance i_k_oL0 {xs : List (Option D)} {K : List D → Prop} : Step (On (oL2 ρ [] xs) K) (K []) := ⟨fun h => k_oL0 h⟩
theorem k_oLs {o : Opd} {os : List Opd} {x : Option D} {xs : List (Option D)} {K : List D → Prop} (h : On (o2 ρ o x) fun d => On (oL2 ρ os xs) fun ds => K (d :: ds)) : On (oL2 ρ (o :: os) (x :: xs)) K := by rw [On_oL_cons]; exact h
instance i_k_oLs {o : Opd} {os : List Opd} {x : Option D} {xs : List (Option D)} {K : List D → Prop} : Step (On (oL2 ρ (o :: os) (x :: xs)) K) (On (o2 ρ o x) fun d => On (oL2 ρ os xs) fun ds => K (d :: ds)) := ⟨fun h => k_oLs h⟩
theorem r_opN {g : List D → Option D} {os : List Opd} (h : Sat (oL1 os ρ) fun xs ρ1 => On (oL2 ρ1 os xs) fun ds => On (g ds) fun d => P d ρ1) : Sat (mOpN g os ρ) P := by rw [Sat_opN]; exact h
instance i_r_opN {g : List D → Option D} {os : List Opd} : Step (Sat (mOpN g os ρ) P) (Sat (oL1 os ρ) fun xs ρ1 => On (oL2 ρ1 os xs) fun ds => On (g ds) fun d => P d ρ1) := ⟨fun h => r_opN h⟩
theorem r_aOpN {g : List D → Option D} {os : List Opd} (h : Sat (oL1 os ρ) fun xs ρ1 => On (oL2 ρ1 os xs) fun ds => On (g ds) fun d => PA (.ow d) ρ1) : Sat (aOpN g os ρ) PA := by rw [Sat_aOpN]; exact h
instance i_r_aOpN {g : List D → Option D} {os : List Opd} : Step (Sat (aOpN g os ρ) PA) (Sat (oL1 os ρ) fun xs ρ1 => On (oL2 ρ1 os xs) fun ds => On (g ds) fun d => PA (.ow d) ρ1) := ⟨fun h => r_aOpN h⟩
theorem r_aOpD {g : List D → Option D} {os : List Opd} (h : Sat (oL1 os ρ) fun xs ρ1 => On (oL2 ρ1 os xs) fun ds => On (g ds) fun d => PA (.ow d) ρ1) : Sat (aOpD g os ρ) PA := by rw [Sat_aOpD]; exact h
instance i_r_aOpD {g : List D → Option D} {os : List Opd} : Step (Sat (aOpD g os ρ) PA) (Sat (oL1 os ρ) fun xs ρ1 => On (oL2 ρ1 os xs) fun ds => On (g ds) fun d => PA (.ow d) ρ1) := ⟨fun h => r_aOpD h⟩
theorem r_op1 {g : D → Option D} (h : Sat (m ρ) fun d ρ' => On (g d) fun x => P x ρ') : Sat (mOp1 g m ρ) P := by rw [Sat_op1]; exact h
instance i_r_op1 {g : D → Option D} : Step (Sat (mOp1 g m ρ) P) (Sat (m ρ) fun d ρ' => On (g d) fun x => P x ρ') := ⟨fun h => r_op1 h⟩
theorem r_each0 (h : PL [] ρ) : Sat (mEach [] ρ) PL := h
instance i_r_each0  : Step (Sat (mEach [] ρ) PL) (PL [] ρ) := ⟨fun h => r_each0 h⟩
theorem r_eachs {ms : List (M D)} (h : Sat (m ρ) fun d ρ1 => Sat (mEach ms ρ1) fun ds ρ2 => PL (d :: ds) ρ2) : Sat (mEach (m :: ms) ρ) PL := by rw [Sat_each_cons]; exact h
instance i_r_eachs {ms : List (M D)} : Step (Sat (mEach (m :: ms) ρ) PL) (Sat (m ρ) fun d ρ1 => Sat (mEach ms ρ1) fun ds ρ2 => PL (d :: ds) ρ2) := ⟨fun h => r_eachs h⟩
def limK (l : List D) (A : Prop) : Prop := l.length ≤ LIM ∧ A
theorem k_lim {l : List D} {A : Prop} (h : l.length ≤ 1000000) (a : A) : limK l A := ⟨Nat.le_trans h (by decide), a⟩
theorem r_tup {ms : M (List D)} (h : Sat (ms ρ) fun l ρ' => limK l (P (.tup l) ρ')) : Sat (mTup ms ρ) P := by rw [Sat_tup]; exact h
instance i_r_tup {ms : M (List D)} : Step (Sat (mTup ms ρ) P) (Sat (ms ρ) fun l ρ' => limK l (P (.tup l) ρ')) := ⟨fun h => r_tup h⟩
theorem r_lst {ms : M (List D)} (h : Sat (ms ρ) fun l ρ' => limK l (P (.lst l) ρ')) : Sat (mLst ms ρ) P := by rw [Sat_lst]; exact h
instance i_r_lst {ms : M (List D)} : Step (Sat (mLst ms ρ) P) (Sat (ms ρ) fun l ρ' => limK l (P (.lst l) ρ')) := ⟨fun h => r_lst h⟩
theorem r_aLst {ms : M (List D)} (h : Sat (ms ρ) fun l ρ' => limK l (PA (.ow (.lst l)) ρ')) : Sat (aLst ms ρ) PA := by rw [Sat_aLst]; exact h
instance i_r_aLst {ms : M (List D)} : Step (Sat (aLst ms ρ) PA) (Sat (ms ρ) fun l ρ' => limK l (PA (.ow (.lst l)) ρ')) := ⟨fun h => r_aLst h⟩
theorem r_mB (h : Sat (m ρ) fun d ρ' => On d.asB fun k => PB k ρ') : Sat (mB m ρ) PB := by rw [Sat_mB]; exact h
instance i_r_mB  : Step (Sat (mB m ρ) PB) (Sat (m ρ) fun d ρ' => On d.asB fun k => PB k ρ') := ⟨fun h => r_mB h⟩
theorem r_tru (h : Sat (m ρ) fun d ρ' => On d.tru fun k => PB k ρ') : Sat (mTru m ρ) PB := by rw [Sat_mTru]; exact h
instance i_r_tru  : Step (Sat (mTru m ρ) PB) (Sat (m ρ) fun d ρ' => On d.tru fun k => PB k ρ') := ⟨fun h => r_tru h⟩
theorem k_asB {k : Bool} {K : Bool → Prop} (h : K k) : On (D.asB (.bl k)) K := h
instance i_k_asB {k : Bool} {K : Bool → Prop} : Step (On (D.asB (.bl k)) K) (K k) := ⟨fun h => k_asB h⟩
theorem k_tru {k : Bool} {K : Bool → Prop} (h : K k) : On (D.tru (.bl k)) K := h
instance i_k_tru {k : Bool} {K : Bool → Prop} : Step (On (D.tru (.bl k)) K) (K k) := ⟨fun h => k_tru h⟩
theorem r_and {x y : M Bool} (h : Sat (x ρ) fun k ρ' => ifK k (Sat (y ρ') PB) (PB false ρ')) : Sat (mAnd x y ρ) PB := by rw [Sat_and]; exact h
instance i_r_and {x y : M Bool} : Step (Sat (mAnd x y ρ) PB) (Sat (x ρ) fun k ρ' => ifK k (Sat (y ρ') PB) (PB false ρ')) := ⟨fun h => r_and h⟩
theorem r_or {x y : M Bool} (h : Sat (x ρ) fun k ρ' => ifK k (PB true ρ') (Sat (y ρ') PB)) : Sat (mOr x y ρ) PB := by rw [Sat_or]; exact h
instance i_r_or {x y : M Bool} : Step (Sat (mOr x y ρ) PB) (Sat (x ρ) fun k ρ' => ifK k (PB true ρ') (Sat (y ρ') PB)) := ⟨fun h => r_or h⟩
theorem r_not {x : M Bool} (h : Sat (x ρ) fun k ρ' => PB (!k) ρ') : Sat (mNot x ρ) PB := by rw [Sat_not]; exact h
instance i_r_not {x : M Bool} : Step (Sat (mNot x ρ) PB) (Sat (x ρ) fun k ρ' => PB (!k) ρ') := ⟨fun h => r_not h⟩
theorem r_andV (h : Sat (m ρ) fun d ρ' => On d.asB fun k => ifK k (Sat (m' ρ') P) (P (.bl false) ρ')) : Sat (mAndV m m' ρ) P := by rw [Sat_andV]; exact h
instance i_r_andV  : Step (Sat (mAndV m m' ρ) P) (Sat (m ρ) fun d ρ' => On d.asB fun k => ifK k (Sat (m' ρ') P) (P (.bl false) ρ')) := ⟨fun h => r_andV h⟩
theorem r_orV (h : Sat (m ρ) fun d ρ' => On d.asB fun k => ifK k (P (.bl true) ρ') (Sat (m' ρ') P)) : Sat (mOrV m m' ρ) P := by rw [Sat_orV]; exact h
instance i_r_orV  : Step (Sat (mOrV m m' ρ) P) (Sat (m ρ) fun d ρ' => On d.asB fun k => ifK k (P (.bl true) ρ') (Sat (m' ρ') P)) := ⟨fun h => r_orV h⟩
theorem r_notV (h : Sat (m ρ) fun d ρ' => On d.asB fun k => P (.bl !k) ρ') : Sat (mNotV m ρ) P := by rw [Sat_notV]; exact h
instance i_r_notV  : Step (Sat (mNotV m ρ) P) (Sat (m ρ) fun d ρ' => On d.asB fun k => P (.bl !k) ρ') := ⟨fun h => r_notV h⟩
def putQ (s : Sl) (i : Nat) (ρ : List Sl) (P : Flw → List Sl → Prop) : Prop := i < ρ.length ∧ putSK s i ρ P
theorem r_set (h : Sat (a ρ) fun s ρ' => putQ s i ρ' PF) : Sat (mSet i a ρ) PF := by rw [Sat_set]; exact h
instance i_r_set  : Step (Sat (mSet i a ρ) PF) (Sat (a ρ) fun s ρ' => putQ s i ρ' PF) := ⟨fun h => r_set h⟩
theorem k_psh (hi : i < ρ.length) (h : updK i (.sh d) ρ [] (PF .nx)) : putQ (.sh d) i ρ PF := ⟨hi, h⟩
theorem k_pow (hi : i < ρ.length) (h : updK i (.ow d) ρ [] (PF .nx)) : putQ (.ow d) i ρ PF := ⟨hi, h⟩
theorem k_ptr (hi : i < ρ.length) (h : updK i (.tr d) ρ [] (PF .nx)) : putQ (.tr d) i ρ PF := ⟨hi, h⟩
theorem r_mRet (h : Sat (a ρ) fun s ρ' => PF (.rt s) ρ') : Sat (mRet a ρ) PF := by rw [Sat_mRet]; exact h
instance i_r_mRet  : Step (Sat (mRet a ρ) PF) (Sat (a ρ) fun s ρ' => PF (.rt s) ρ') := ⟨fun h => r_mRet h⟩
theorem r_mDo (h : Sat (m ρ) fun _ ρ' => PF .nx ρ') : Sat (mDo m ρ) PF := by rw [Sat_mDo]; exact h
instance i_r_mDo  : Step (Sat (mDo m ρ) PF) (Sat (m ρ) fun _ ρ' => PF .nx ρ') := ⟨fun h => r_mDo h⟩
/-- what the slot's own list or dict becomes -/
def ownK {α : Type} (s : Sl) (i : Nat) (f : D → Option (D × α)) (ρ : List Sl) (Q : α → List Sl → Prop) : Prop := On s.own? fun d => On (f d) fun x => Q x.2 (ρ.set i (s.re x.1))
theorem k_ownO {f : D → Option (D × α)} {Q : α → List Sl → Prop} (h : On (f d) fun x => updK i (.ow x.1) ρ [] (Q x.2)) : ownK (.ow d) i f ρ Q := h
instance i_k_ownO {f : D → Option (D × α)} {Q : α → List Sl → Prop} : Step (ownK (.ow d) i f ρ Q) (On (f d) fun x => updK i (.ow x.1) ρ [] (Q x.2)) := ⟨fun h => k_ownO h⟩
theorem k_ownI {f : D → Option (D × α)} {Q : α → List Sl → Prop} (h : On (f d) fun x => updK i (.io x.1) ρ [] (Q x.2)) : ownK (.io d) i f ρ Q := h
instance i_k_ownI {f : D → Option (D × α)} {Q : α → List Sl → Prop} : Step (ownK (.io d) i f ρ Q) (On (f d) fun x => updK i (.io x.1) ρ [] (Q x.2)) := ⟨fun h => k_ownI h⟩
def isQ (p : D → Bool) (s : Sl) (A : Prop) : Prop := (On s.own? fun d => p d = true) ∧ A
theorem k_isLo {A : Prop} {l : List D} (h : A) : isQ D.isL (.ow (.lst l)) A := ⟨rfl, h⟩
instance i_k_isLo {A : Prop} {l : List D} : Step (isQ D.isL (.ow (.lst l)) A) (A) := ⟨fun h => k_isLo h⟩
theorem k_isLi {A : Prop} {l : List D} (h : A) : isQ D.isL (.io (.lst l)) A := ⟨rfl, h⟩
instance i_k_isLi {A : Prop} {l : List D} : Step (isQ D.isL (.io (.lst l)) A) (A) := ⟨fun h => k_isLi h⟩
theorem k_isAo {A : Prop} (h : A) : isQ (fun _ => true) (.ow d) A := ⟨rfl, h⟩
instance i_k_isAo {A : Prop} : Step (isQ (fun _ => true) (.ow d) A) (A) := ⟨fun h => k_isAo h⟩
theorem k_isAi {A : Prop} (h : A) : isQ (fun _ => true) (.io d) A := ⟨rfl, h⟩
instance i_k_isAi {A : Prop} : Step (isQ (fun _ => true) (.io d) A) (A) := ⟨fun h => k_isAi h⟩
theorem isQ_of {p : D → Bool} {A : Prop} (h : slQ ρ i fun s => isQ p s A) : ownIs p ρ i = true ∧ A := by
  obtain ⟨s, e, h1, h2⟩ := On_ex h
  obtain ⟨d, e2, h3⟩ := On_ex h1
  refine ⟨?_, h2⟩
  unfold ownIs
  rw [e]
  dsimp only
  rw [e2]
  exact h3
theorem r_meth {p : D → Bool} {ms : M (List D)} {f : List D → D → Option (D × D)} (h : slQ ρ i fun s => isQ p s (Sat (ms ρ) fun ds ρ1 => slQ ρ1 i fun s => ownK s i (f ds) ρ1 P)) : Sat (mMeth p i ms f ρ) P := by
  obtain ⟨h1, h2⟩ := isQ_of h
  rw [Sat_meth]
  refine ⟨h1, Sat_mono h2 fun ds ρ1 q => ?_⟩
  rw [Sat_own]
  exact q
instance i_r_meth {p : D → Bool} {ms : M (List D)} {f : List D → D → Option (D × D)} : Step (Sat (mMeth p i ms f ρ) P) (slQ ρ i fun s => isQ p s (Sat (ms ρ) fun ds ρ1 => slQ ρ1 i fun s => ownK s i (f ds) ρ1 P)) := ⟨fun h => r_meth h⟩
def putF (f : D → D → D → Option D) (k d c : D) : Option (D × Unit) := (f k d c).map fun c' => (c', ())
theorem r_put {mk : M D} {f : D → D → D → Option D} (h : Sat (m ρ) fun d ρ1 => slQ ρ1 i fun s => isQ (fun _ => true) s (Sat (mk ρ1) fun k ρ2 => slQ ρ2 i fun s => ownK s i (putF f k d) ρ2 fun _ ρ3 => PF .nx ρ3)) : Sat (mPut i mk m f ρ) PF := by
  rw [Sat_put]
  refine Sat_mono h fun d ρ1 q => ?_
  obtain ⟨q1, q2⟩ := isQ_of q
  refine ⟨q1, Sat_mono q2 fun k ρ2 q3 => ?_⟩
  obtain ⟨s, e1, q3⟩ := On_ex q3
  rw [e1]
  obtain ⟨c, e2, q3⟩ := On_ex q3
  show On s.own? _
  rw [e2]
  show On (f k d c) _
  unfold putF at q3
  rw [On_map] at q3
  exact q3
instance i_r_put {mk : M D} {f : D → D → D → Option D} : Step (Sat (mPut i mk m f ρ) PF) (Sat (m ρ) fun d ρ1 => slQ ρ1 i fun s => isQ (fun _ => true) s (Sat (mk ρ1) fun k ρ2 => slQ ρ2 i fun s => ownK s i (putF f k d) ρ2 fun _ ρ3 => PF .nx ρ3)) := ⟨fun h => r_put h⟩
theorem k_putF {f : D → D → D → Option D} {k d c : D} {K : D × Unit → Prop} (h : On (f k d c) fun c' => K (c', ())) : On (putF f k d c) K := by
  unfold putF
  rw [On_map]
  exact h
instance i_k_putF {f : D → D → D → Option D} {k d c : D} {K : D × Unit → Prop} : Step (On (putF f k d c) K) (On (f k d c) fun c' => K (c', ())) := ⟨fun h => k_putF h⟩
theorem r_chain {g g' : D → D → Option D} {oa ob oc : Opd} (h : Sat (o1 oa ρ) fun x ρ1 => Sat (o1 ob ρ1) fun y ρ2 => On (o2 ρ2 oa x) fun dx => On (o2 ρ2 ob y) fun dy => On (g dx dy) fun d => On d.asB fun k =>
    ifK k (Sat (o1 oc ρ2) fun z ρ3 => On (o2 ρ3 ob y) fun dy => On (o2 ρ3 oc z) fun dz => On (g' dy dz) fun d => P d ρ3) (P (.bl false) ρ2)) : Sat (mChain g g' oa ob oc ρ) P := by rw [Sat_chain]; exact h
instance i_r_chain {g g' : D → D → Option D} {oa ob oc : Opd} : Step (Sat (mChain g g' oa ob oc ρ) P) (Sat (o1 oa ρ) fun x ρ1 => Sat (o1 ob ρ1) fun y ρ2 => On (o2 ρ2 oa x) fun dx => On (o2 ρ2 ob y) fun dy => On (g dx dy) fun d => On d.asB fun k =>
    ifK k (Sat (o1 oc ρ2) fun z ρ3 => On (o2 ρ3 ob y) fun dy => On (o2 ρ3 oc z) fun dz => On (g' dy dz) fun d => P d ρ3) (P (.bl false) ρ2)) := ⟨fun h => r_chain h⟩
def addX (x y : D) : Option Sl := match dAddL x y with
  | some d => some (Sl.ow d)
  | none => (dAdd x y).map Sl.sh
theorem r_addX {oa ob : Opd} (h : Sat (o1 oa ρ) fun x ρ1 => Sat (o1 ob ρ1) fun y ρ2 => On (o2 ρ2 oa x) fun dx => On (o2 ρ2 ob y) fun dy => On (addX dx dy) fun s => PA s ρ2) : Sat (aAddX oa ob ρ) PA := by rw [Sat_addX]; exact h
instance i_r_addX {oa ob : Opd} : Step (Sat (aAddX oa ob ρ) PA) (Sat (o1 oa ρ) fun x ρ1 => Sat (o1 ob ρ1) fun y ρ2 => On (o2 ρ2 oa x) fun dx => On (o2 ρ2 ob y) fun dy => On (addX dx dy) fun s => PA s ρ2) := ⟨fun h => r_addX h⟩
theorem r_part0 {PO : Option Int → List Sl → Prop} (h : PO none ρ) : Sat (mPart none ρ) PO := h
instance i_r_part0 {PO : Option Int → List Sl → Prop} : Step (Sat (mPart none ρ) PO) (PO none ρ) := ⟨fun h => r_part0 h⟩
theorem r_parts {PO : Option Int → List Sl → Prop} (h : Sat (m ρ) fun d ρ' => On d.asI fun i => PO (some i) ρ') : Sat (mPart (some m) ρ) PO := by rw [Sat_part_some]; exact h
instance i_r_parts {PO : Option Int → List Sl → Prop} : Step (Sat (mPart (some m) ρ) PO) (Sat (m ρ) fun d ρ' => On d.asI fun i => PO (some i) ρ') := ⟨fun h => r_parts h⟩
theorem k_asI {k : Int} {K : Int → Prop} (h : K k) : On (D.asI (.int k)) K := h
instance i_k_asI {k : Int} {K : Int → Prop} : Step (On (D.asI (.int k)) K) (K k) := ⟨fun h => k_asI h⟩
theorem r_slice {o : Opd} {lo hi : Option (M D)} (h : Sat (o1 o ρ) fun x ρ1 => Sat (mPart lo ρ1) fun l ρ2 => Sat (mPart hi ρ2) fun h ρ3 => On (o2 ρ3 o x) fun d => On (dSlice d l h) fun r => P r ρ3) : Sat (mSlice o lo hi ρ) P := by rw [Sat_slice]; exact h
instance i_r_slice {o : Opd} {lo hi : Option (M D)} : Step (Sat (mSlice o lo hi ρ) P) (Sat (o1 o ρ) fun x ρ1 => Sat (mPart lo ρ1) fun l ρ2 => Sat (mPart hi ρ2) fun h ρ3 => On (o2 ρ3 o x) fun d => On (dSlice d l h) fun r => P r ρ3) := ⟨fun h => r_slice h⟩
theorem r_sliceX {o : Opd} {lo hi : Option (M D)} (h : Sat (o1 o ρ) fun x ρ1 => Sat (mPart lo ρ1) fun l ρ2 => Sat (mPart hi ρ2) fun h ρ3 => On (o2 ρ3 o x) fun d => On (dSlice d l h) fun r => PA (slD r) ρ3) : Sat (aSliceX o lo hi ρ) PA := by rw [Sat_sliceX]; exact h
instance i_r_sliceX {o : Opd} {lo hi : Option (M D)} : Step (Sat (aSliceX o lo hi ρ) PA) (Sat (o1 o ρ) fun x ρ1 => Sat (mPart lo ρ1) fun l ρ2 => Sat (mPart hi ρ2) fun h ρ3 => On (o2 ρ3 o x) fun d => On (dSlice d l h) fun r => PA (slD r) ρ3) := ⟨fun h => r_sliceX h⟩
theorem r_revL (h : Sat (m ρ) fun d ρ' => On d.asL fun l => PA (.ow (.lst l.reverse)) ρ') : Sat (aRevL m ρ) PA := by rw [Sat_revL]; exact h
instance i_r_revL  : Step (Sat (aRevL m ρ) PA) (Sat (m ρ) fun d ρ' => On d.asL fun l => PA (.ow (.lst l.reverse)) ρ') := ⟨fun h => r_revL h⟩
theorem k_asL {l : List D} {K : List D → Prop} (h : K l) : On (D.asL (.lst l)) K := h
instance i_k_asL {l : List D} {K : List D → Prop} : Step (On (D.asL (.lst l)) K) (K l) := ⟨fun h => k_asL h⟩
theorem r_asg {f : D → M Unit} (h : Sat (m ρ) fun d ρ1 => Sat (f d ρ1) fun _ ρ2 => PF .nx ρ2) : Sat (mAsg f m ρ) PF := by rw [Sat_asg]; exact h
instance i_r_asg {f : D → M Unit} : Step (Sat (mAsg f m ρ) PF) (Sat (m ρ) fun d ρ1 => Sat (f d ρ1) fun _ ρ2 => PF .nx ρ2) := ⟨fun h => r_asg h⟩
theorem r_name (hi : i < ρ.length) (h : updK i (.sh d) ρ [] (PU ())) : Sat (toName i d ρ) PU := by rw [Sat_name]; exact ⟨hi, h⟩
theorem r_toTup {fs : List (D → M Unit)} {l : List D} (h : Sat (toNames fs l ρ) PU) : Sat (toTup fs (.tup l) ρ) PU := h
instance i_r_toTup {fs : List (D → M Unit)} {l : List D} : Step (Sat (toTup fs (.tup l) ρ) PU) (Sat (toNames fs l ρ) PU) := ⟨fun h => r_toTup h⟩
theorem r_names0 (h : PU () ρ) : Sat (toNames [] [] ρ) PU := h
instance i_r_names0  : Step (Sat (toNames [] [] ρ) PU) (PU () ρ) := ⟨fun h => r_names0 h⟩
theorem r_namess {f : D → M Unit} {fs : List (D → M Unit)} {ds : List D} (h : Sat (f d ρ) fun _ ρ1 => Sat (toNames fs ds ρ1) PU) : Sat (toNames (f :: fs) (d :: ds) ρ) PU := by rw [Sat_names_cons]; exact h
instance i_r_namess {f : D → M Unit} {fs : List (D → M Unit)} {ds : List D} : Step (Sat (toNames (f :: fs) (d :: ds) ρ) PU) (Sat (f d ρ) fun _ ρ1 => Sat (toNames fs ds ρ1) PU) := ⟨fun h => r_namess h⟩
theorem r_rng {f : List D → Option (List D)} {ms : M (List D)} (h : Sat (ms ρ) fun l ρ' => On (f l) fun ds => PL ds ρ') : Sat (mRng f ms ρ) PL := by rw [Sat_rng]; exact h
instance i_r_rng {f : List D → Option (List D)} {ms : M (List D)} : Step (Sat (mRng f ms ρ) PL) (Sat (ms ρ) fun l ρ' => On (f l) fun ds => PL ds ρ') := ⟨fun h => r_rng h⟩
theorem r_iter (h : Sat (m ρ) fun d ρ' => On (itemsOf d) fun ds => PL ds ρ') : Sat (mIter m ρ) PL := by rw [Sat_iter]; exact h
instance i_r_iter  : Step (Sat (mIter m ρ) PL) (Sat (m ρ) fun d ρ' => On (itemsOf d) fun ds => PL ds ρ') := ⟨fun h => r_iter h⟩
theorem r_rg {ms : M (List D)} {PI : Int × Int → List Sl → Prop} (h : Sat (ms ρ) fun l ρ' => On (rgI l) fun c => PI c ρ') : Sat (mRg ms ρ) PI := by rw [Sat_rg]; exact h
instance i_r_rg {ms : M (List D)} {PI : Int × Int → List Sl → Prop} : Step (Sat (mRg ms ρ) PI) (Sat (ms ρ) fun l ρ' => On (rgI l) fun c => PI c ρ') := ⟨fun h => r_rg h⟩
theorem r_listRg {mr : M (Int × Int)} (h : Sat (mr ρ) fun c ρ' => rgOk c.1 c.2 = true ∧ PA (.ow (.lst (rngD c.1 (c.2 - c.1).toNat))) ρ') : Sat (aListRg mr ρ) PA := by rw [Sat_listRg]; exact h
theorem r_tupRg {mr : M (Int × Int)} (h : Sat (mr ρ) fun c ρ' => rgOk c.1 c.2 = true ∧ P (.tup (rngD c.1 (c.2 - c.1).toNat)) ρ') : Sat (mTupRg mr ρ) P := by rw [Sat_tupRg]; exact h
theorem r_for {it : M (List D)} {f : D → M Unit} {b : M Flw} (h : Sat (it ρ) fun ds ρ' => Sat (forL f b ds ρ') PF) : Sat (mFor it f b ρ) PF := by rw [Sat_for]; exact h
instance i_r_for {it : M (List D)} {f : D → M Unit} {b : M Flw} : Step (Sat (mFor it f b ρ) PF) (Sat (it ρ) fun ds ρ' => Sat (forL f b ds ρ') PF) := ⟨fun h => r_for h⟩
theorem k_stn {more : List Sl → Prop} (h : more ρ) : stepK .nx ρ more PF := h
instance i_k_stn {more : List Sl → Prop} : Step (stepK .nx ρ more PF) (more ρ) := ⟨fun h => k_stn h⟩
theorem k_stc {more : List Sl → Prop} (h : more ρ) : stepK .ct ρ more PF := h
instance i_k_stc {more : List Sl → Prop} : Step (stepK .ct ρ more PF) (more ρ) := ⟨fun h => k_stc h⟩
theorem k_stb {more : List Sl → Prop} (h : PF .nx ρ) : stepK .bk ρ more PF := h
instance i_k_stb {more : List Sl → Prop} : Step (stepK .bk ρ more PF) (PF .nx ρ) := ⟨fun h => k_stb h⟩
theorem k_str {more : List Sl → Prop} (h : PF (.rt s) ρ) : stepK (.rt s) ρ more PF := h
instance i_k_str {more : List Sl → Prop} : Step (stepK (.rt s) ρ more PF) (PF (.rt s) ρ) := ⟨fun h => k_str h⟩
theorem r_fL0 {f : D → M Unit} {b : M Flw} (h : PF .nx ρ) : Sat (forL f b [] ρ) PF := h
instance i_r_fL0 {f : D → M Unit} {b : M Flw} : Step (Sat (forL f b [] ρ) PF) (PF .nx ρ) := ⟨fun h => r_fL0 h⟩
theorem r_fLs {f : D → M Unit} {b : M Flw} {ds : List D} (h : Sat (f d ρ) fun _ ρ1 => Sat (b ρ1) fun w ρ2 => stepK w ρ2 (fun ρ => Sat (forL f b ds ρ) PF) PF) : Sat (forL f b (d :: ds) ρ) PF := by rw [Sat_forL_cons]; exact h
/-- a call: args, then the callee's promise -/
def lendK (s : Sl) (K : Sl → Prop) : Prop := match s with
  | .sh d => K (.sh d)
  | .ow d => K (.io d)
  | .io d => K (.io d)
  | _ => False
theorem k_lsh {K : Sl → Prop} (h : K (.sh d)) : lendK (.sh d) K := h
instance i_k_lsh {K : Sl → Prop} : Step (lendK (.sh d) K) (K (.sh d)) := ⟨fun h => k_lsh h⟩
theorem k_low {K : Sl → Prop} (h : K (.io d)) : lendK (.ow d) K := h
instance i_k_low {K : Sl → Prop} : Step (lendK (.ow d) K) (K (.io d)) := ⟨fun h => k_low h⟩
theorem k_lio {K : Sl → Prop} (h : K (.io d)) : lendK (.io d) K := h
instance i_k_lio {K : Sl → Prop} : Step (lendK (.io d) K) (K (.io d)) := ⟨fun h => k_lio h⟩
def argK (os : List Opd) (xs : List (Option D)) (ρ acc : List Sl) (Q : List Sl → Prop) : Prop := On (argS ρ os xs) fun ss => Q (acc.reverse ++ ss)
theorem k_a0 {xs : List (Option D)} (h : revK acc [] Q) : argK [] xs ρ acc Q := h
instance i_k_a0 {xs : List (Option D)} : Step (argK [] xs ρ acc Q) (revK acc [] Q) := ⟨fun h => k_a0 h⟩
theorem k_aev {os : List Opd} {xs : List (Option D)} (h : argK os xs ρ (.sh d :: acc) Q) : argK (.ev m :: os) (some d :: xs) ρ acc Q := by
  unfold argK at *
  show On ((argS ρ os xs).map (.sh d :: ·)) _
  rw [On_map]
  simpa using h
instance i_k_aev {os : List Opd} {xs : List (Option D)} : Step (argK (.ev m :: os) (some d :: xs) ρ acc Q) (argK os xs ρ (.sh d :: acc) Q) := ⟨fun h => k_aev h⟩
theorem k_apk {os : List Opd} {x : Option D} {xs : List (Option D)} (h : slQ ρ i fun s => lendK s fun t => argK os xs ρ (t :: acc) Q) : argK (.pk i :: os) (x :: xs) ρ acc Q := by
  obtain ⟨s, e, h⟩ := On_ex h
  unfold argK at *
  unfold argS
  rw [e]
  cases s with
  | emp => exact h.elim
  | sh d => dsimp only; rw [On_map]; simpa [lendK] using h
  | ow d => dsimp only; rw [On_map]; simpa [lendK] using h
  | io d => dsimp only; rw [On_map]; simpa [lendK] using h
  | tr d => exact h.elim
instance i_k_apk {os : List Opd} {x : Option D} {xs : List (Option D)} : Step (argK (.pk i :: os) (x :: xs) ρ acc Q) (slQ ρ i fun s => lendK s fun t => argK os xs ρ (t :: acc) Q) := ⟨fun h => k_apk h⟩
def backK (os : List Opd) (outs ρ : List Sl) (Q : List Sl → Prop) : Prop := Q (putBack os outs ρ)
def callS (S : List Sl → FR) (ss : List Sl) (os : List Opd) (ρ : List Sl) (P : Sl → List Sl → Prop) : Prop := SatF (S ss) fun s outs => backK os outs ρ (P s)
theorem r_call {S : List Sl → FR} {os : List Opd} (nd : (pks os).Nodup) (h : Sat (oL1 os ρ) fun xs ρ' => argK os xs ρ' [] fun ss => callS S ss os ρ' PA) : Sat (callM S os ρ) PA := by
  rw [Sat_call]
  refine Sat_mono h fun xs ρ' q => ⟨nd, ?_⟩
  obtain ⟨ss, e, q2⟩ := On_ex q
  rw [e]
  exact q2
/-- the promise of the callee at these slots -/
theorem k_call {S : List Sl → FR} {os : List Opd} {ss : List Sl} {R : Sl → List Sl → Prop} (sp : SatF (S ss) R) (h : ∀ s outs, R s outs → backK os outs ρ (PA s)) : callS S ss os ρ PA := SatF_mono sp h
/-- the callee gives just this -/
theorem k_callE {S : List Sl → FR} {os : List Opd} {ss outs : List Sl} (sp : S ss = .ok s outs) (h : backK os outs ρ (PA s)) : callS S ss os ρ PA := by
  unfold callS
  rw [sp]
  exact h
theorem k_b0 {outs : List Sl} (h : Q ρ) : backK [] outs ρ Q := by
  unfold backK putBack
  exact h
instance i_k_b0 {outs : List Sl} : Step (backK [] outs ρ Q) (Q ρ) := ⟨fun h => k_b0 h⟩
theorem k_bev {os : List Opd} {outs : List Sl} (h : backK os outs ρ Q) : backK (.ev m :: os) (s :: outs) ρ Q := by
  unfold backK at *
  unfold putBack
  exact h
instance i_k_bev {os : List Opd} {outs : List Sl} : Step (backK (.ev m :: os) (s :: outs) ρ Q) (backK os outs ρ Q) := ⟨fun h => k_bev h⟩
theorem k_bpe {os : List Opd} {outs : List Sl} (h : backK os outs ρ Q) : backK (.pk i :: os) (.emp :: outs) ρ Q := by
  unfold backK at *
  unfold putBack
  exact h
instance i_k_bpe {os : List Opd} {outs : List Sl} : Step (backK (.pk i :: os) (.emp :: outs) ρ Q) (backK os outs ρ Q) := ⟨fun h => k_bpe h⟩
def bkS (s : Sl) (d : D) (i : Nat) (ρ : List Sl) (Q : List Sl → Prop) : Prop := Q (ρ.set i (s.re d))
theorem k_bso {e : D} (h : updK i (.ow d) ρ [] Q) : bkS (.ow e) d i ρ Q := h
instance i_k_bso {e : D} : Step (bkS (.ow e) d i ρ Q) (updK i (.ow d) ρ [] Q) := ⟨fun h => k_bso h⟩
theorem k_bsi {e : D} (h : updK i (.io d) ρ [] Q) : bkS (.io e) d i ρ Q := h
instance i_k_bsi {e : D} : Step (bkS (.io e) d i ρ Q) (updK i (.io d) ρ [] Q) := ⟨fun h => k_bsi h⟩
theorem k_bpk {os : List Opd} {outs : List Sl} (h : slQ ρ i fun s => bkS s d i ρ fun ρ' => backK os outs ρ' Q) : backK (.pk i :: os) (.io d :: outs) ρ Q := by
  obtain ⟨s, e, h⟩ := On_ex h
  unfold backK
  unfold putBack
  rw [e]
  exact h
instance i_k_bpk {os : List Opd} {outs : List Sl} : Step (backK (.pk i :: os) (.io d :: outs) ρ Q) (slQ ρ i fun s => bkS s d i ρ fun ρ' => backK os outs ρ' Q) := ⟨fun h => k_bpk h⟩
def wipQ (vs : List Nat) (ρ : List Sl) (Q : List Sl → Prop) : Prop := Q (wipeS vs ρ)
theorem k_w0 (h : Q ρ) : wipQ [] ρ Q := h
instance i_k_w0  : Step (wipQ [] ρ Q) (Q ρ) := ⟨fun h => k_w0 h⟩
theorem k_ws {v : Nat} {vs : List Nat} (h : wipQ vs ρ fun ρ1 => updK v .emp ρ1 [] Q) : wipQ (v :: vs) ρ Q := h
instance i_k_ws {v : Nat} {vs : List Nat} : Step (wipQ (v :: vs) ρ Q) (wipQ vs ρ fun ρ1 => updK v .emp ρ1 [] Q) := ⟨fun h => k_ws h⟩
def kpK (s : Sl) (K : Sl → Prop) : Prop := K (match s with | .sh d => .sh d | _ => .emp)
theorem k_kps {K : Sl → Prop} (h : K (.sh d)) : kpK (.sh d) K := h
instance i_k_kps {K : Sl → Prop} : Step (kpK (.sh d) K) (K (.sh d)) := ⟨fun h => k_kps h⟩
theorem k_kpe {K : Sl → Prop} (h : K .emp) : kpK .emp K := h
instance i_k_kpe {K : Sl → Prop} : Step (kpK .emp K) (K .emp) := ⟨fun h => k_kpe h⟩
theorem k_kpo {K : Sl → Prop} (h : K .emp) : kpK (.ow d) K := h
instance i_k_kpo {K : Sl → Prop} : Step (kpK (.ow d) K) (K .emp) := ⟨fun h => k_kpo h⟩
def unwQ (vs : List Nat) (ρ0 ρ : List Sl) (Q : List Sl → Prop) : Prop := Q (unwipe vs ρ0 ρ)
theorem k_n0 {ρ0 : List Sl} (h : Q ρ) : unwQ [] ρ0 ρ Q := h
instance i_k_n0 {ρ0 : List Sl} : Step (unwQ [] ρ0 ρ Q) (Q ρ) := ⟨fun h => k_n0 h⟩
theorem k_ns {v : Nat} {vs : List Nat} {ρ0 : List Sl} (h : unwQ vs ρ0 ρ fun ρ1 => slQ ρ0 v fun s => kpK s fun t => updK v t ρ1 [] Q) : unwQ (v :: vs) ρ0 ρ Q := by
  unfold unwQ at *
  obtain ⟨s, e, h⟩ := On_ex h
  show Q ((unwipe vs ρ0 ρ).set v (match ρ0[v]? with | some (.sh d) => .sh d | _ => .emp))
  rw [e]
  cases s <;> exact h
instance i_k_ns {v : Nat} {vs : List Nat} {ρ0 : List Sl} : Step (unwQ (v :: vs) ρ0 ρ Q) (unwQ vs ρ0 ρ fun ρ1 => slQ ρ0 v fun s => kpK s fun t => updK v t ρ1 [] Q) := ⟨fun h => k_ns h⟩
theorem r_comp {vs : List Nat} {it : M (List D)} {f : D → M Unit} {t : M Bool} {m : M D} (h : Sat (it ρ) fun ds ρ0 => limK ds (wipQ vs ρ0 fun ρw => Sat (compL vs f t m ds ρw) fun l ρ' => unwQ vs ρ0 ρ' (PA (.ow (.lst l))))) : Sat (compM vs it f t m ρ) PA := by rw [Sat_comp]; exact h
instance i_r_comp {vs : List Nat} {it : M (List D)} {f : D → M Unit} {t : M Bool} {m : M D} : Step (Sat (compM vs it f t m ρ) PA) (Sat (it ρ) fun ds ρ0 => limK ds (wipQ vs ρ0 fun ρw => Sat (compL vs f t m ds ρw) fun l ρ' => unwQ vs ρ0 ρ' (PA (.ow (.lst l))))) := ⟨fun h => r_comp h⟩
theorem r_get2 {oa : Opd} {mk mx : M D} (h : Sat (o1 oa ρ) fun x ρ1 => On (o2 ρ1 oa x) fun c => D.isD c = true ∧ Sat (mk ρ1) fun k ρ2 => Sat (mx ρ2) fun z ρ3 => On (o2 ρ3 oa x) fun c => On (dGet2 c k z) fun r => P r ρ3) : Sat (mGet2 oa mk mx ρ) P := by
  unfold mGet2
  rw [Sat_bind]
  refine Sat_mono h fun x ρ1 q => ?_
  obtain ⟨c, e, q1, q2⟩ := On_ex q
  try dsimp only
  rw [e]
  try dsimp only
  rw [if_pos q1, Sat_bind]
  refine Sat_mono q2 fun k ρ2 q3 => ?_
  rw [Sat_bind]
  refine Sat_mono q3 fun z ρ3 q4 => ?_
  obtain ⟨c', e', q5⟩ := On_ex q4
  try dsimp only
  rw [e']
  obtain ⟨r, e2, q6⟩ := On_ex q5
  try dsimp only
  rw [e2]
  exact q6
instance i_r_get2 {oa : Opd} {mk mx : M D} : Step (Sat (mGet2 oa mk mx ρ) P) (Sat (o1 oa ρ) fun x ρ1 => On (o2 ρ1 oa x) fun c => D.isD c = true ∧ Sat (mk ρ1) fun k ρ2 => Sat (mx ρ2) fun z ρ3 => On (o2 ρ3 oa x) fun c => On (dGet2 c k z) fun r => P r ρ3) := ⟨fun h => r_get2 h⟩
theorem r_newK (h : PA (.ow (.dk [] [])) ρ) : Sat (aNewK ρ) PA := h
instance i_r_newK  : Step (Sat (aNewK ρ) PA) (PA (.ow (.dk [] [])) ρ) := ⟨fun h => r_newK h⟩
theorem r_newT (h : PA (.ow (.dt [] [])) ρ) : Sat (aNewT ρ) PA := h
instance i_r_newT  : Step (Sat (aNewT ρ) PA) (PA (.ow (.dt [] [])) ρ) := ⟨fun h => r_newT h⟩
theorem r_pr0 {PP : List (D × D) → List Sl → Prop} (h : PP [] ρ) : Sat (pairsM [] ρ) PP := h
instance i_r_pr0 {PP : List (D × D) → List Sl → Prop} : Step (Sat (pairsM [] ρ) PP) (PP [] ρ) := ⟨fun h => r_pr0 h⟩
theorem r_prs {mk mv : M D} {r : List (M D × M D)} {PP : List (D × D) → List Sl → Prop} (h : Sat (mk ρ) fun k ρ1 => Sat (mv ρ1) fun v ρ2 => Sat (pairsM r ρ2) fun l ρ3 => PP ((k, v) :: l) ρ3) : Sat (pairsM ((mk, mv) :: r) ρ) PP := by
  show Sat (bindM mk (fun k => bindM mv fun v => bindM (pairsM r) fun l => retM ((k, v) :: l)) ρ) PP
  rw [Sat_bind]
  refine Sat_mono h fun k ρ1 h1 => ?_
  rw [Sat_bind]
  refine Sat_mono h1 fun v ρ2 h2 => ?_
  rw [Sat_bind]
  exact h2
instance i_r_prs {mk mv : M D} {r : List (M D × M D)} {PP : List (D × D) → List Sl → Prop} : Step (Sat (pairsM ((mk, mv) :: r) ρ) PP) (Sat (mk ρ) fun k ρ1 => Sat (mv ρ1) fun v ρ2 => Sat (pairsM r ρ2) fun l ρ3 => PP ((k, v) :: l) ρ3) := ⟨fun h => r_prs h⟩
theorem r_disp {trs : List (M D × M D)} (h : Sat (pairsM trs ρ) fun l ρ' => On (kvAll l) fun r => r.length ≤ 15 ∧ PA (.ow (.dk (kvMerge ([], []) r).1 (kvMerge ([], []) r).2)) ρ') : Sat (aDisp trs ρ) PA := by
  unfold aDisp
  rw [Sat_bind]
  refine Sat_mono h fun l ρ1 h1 => ?_
  obtain ⟨r, e, h2, h3⟩ := On_ex h1
  rw [e]
  dsimp only
  rw [if_pos h2]
  exact h3
instance i_r_disp {trs : List (M D × M D)} : Step (Sat (aDisp trs ρ) PA) (Sat (pairsM trs ρ) fun l ρ' => On (kvAll l) fun r => r.length ≤ 15 ∧ PA (.ow (.dk (kvMerge ([], []) r).1 (kvMerge ([], []) r).2)) ρ') := ⟨fun h => r_disp h⟩
/-! for over what a name holds -/
def fndK (s : Sl) (i : Nat) (f : D → M Unit) (b : M Flw) (ρ : List Sl) (P : Flw → List Sl → Prop) : Prop := match s with
  | .sh (.dk ks l) => On (keysOf (.dk ks l)) fun ds => Sat (forL f b ds ρ) P
  | .sh (.dt ks l) => On (keysOf (.dt ks l)) fun ds => Sat (forL f b ds ρ) P
  | .ow (.dk ks l) => On (keysOf (.dk ks l)) fun ds => Sat (forL f b ds (ρ.set i (.sh (.dk ks l)))) P
  | .ow (.dt ks l) => On (keysOf (.dt ks l)) fun ds => Sat (forL f b ds (ρ.set i (.sh (.dt ks l)))) P
  | .ow (.lst l) => Sat (liveF i f b (l.length + 1000) 0 (ρ.set i (.io (.lst l)))) fun w ρ' => P w (unIo i ρ')
  | .io (.lst l) => Sat (liveF i f b (l.length + 1000) 0 ρ) P
  | .sh d => On (itemsOf d) fun ds => Sat (forL f b ds ρ) P
  | _ => False
theorem forD_sat {i : Nat} {f : D → M Unit} {b : M Flw} {ds : List D} {d : D} {ρ' : List Sl} (e : mVar i ρ = .ok d ρ') (ek : keysOf d = some ds) (h : Sat (forL f b ds ρ') PF) : Sat (mForD i f b ρ) PF := by
  unfold mForD bindM
  rw [e]
  dsimp only
  rw [ek]
  dsimp only
  cases q : forL f b ds ρ' with
  | ok w r => rw [q] at h; exact h
  | ex c l r => rw [q] at h; exact h.elim
  | no => rw [q] at h; exact h.elim
theorem r_forN {i : Nat} {f : D → M Unit} {b : M Flw} (h : slQ ρ i fun s => fndK s i f b ρ PF) : Sat (mForN i f b ρ) PF := by
  obtain ⟨s, e, h⟩ := On_ex h
  have e1 : ∀ d, s = .sh d → mVar i ρ = .ok d ρ := fun d q => by unfold mVar; rw [e, q]
  have e2 : ∀ d, s = .ow d → mVar i ρ = .ok d (ρ.set i (.sh d)) := fun d q => by unfold mVar; rw [e, q]
  have hd : ∀ {d}, pkD ρ i = some d → isDctAt i ρ = D.isDct d := fun {d} q => by unfold isDctAt; rw [q]
  have pk : pkD ρ i = SlV s := by rw [pkD_eq, e]; rfl
  have it : ∀ {d}, s = .sh d → isOwnL i ρ = false := fun {d} q => by unfold isOwnL; rw [e, q]
  unfold mForN altM
  have plain : ∀ d, s = .sh d → D.isDct d = false → (On (itemsOf d) fun ds => Sat (forL f b ds ρ) PF) → Sat (if isDctAt i ρ = true then mForD i f b ρ else if isOwnL i ρ = true then mForL i f b ρ else mFor (mIter (mVar i)) f b ρ) PF := fun d q nd hh => by
    rw [hd (d := d) (by rw [pk, q]; rfl), nd, if_neg (by decide), it q, if_neg (by decide), Sat_for, Sat_iter, Sat_mVar, e, q]
    exact hh
  cases s with
  | emp => exact h.elim
  | tr d => exact h.elim
  | sh d =>
    cases d with
    | dk ks l =>
      obtain ⟨ds, ek, h⟩ := On_ex h
      rw [if_pos (show isDctAt i ρ = true from hd (d := .dk ks l) (by rw [pk]; rfl))]
      exact forD_sat (e1 _ rfl) ek h
    | dt ks l =>
      obtain ⟨ds, ek, h⟩ := On_ex h
      rw [if_pos (show isDctAt i ρ = true from hd (d := .dt ks l) (by rw [pk]; rfl))]
      exact forD_sat (e1 _ rfl) ek h
    | _ => exact plain _ rfl rfl h
  | ow d =>
    cases d with
    | dk ks l =>
      obtain ⟨ds, ek, h⟩ := On_ex h
      rw [if_pos (show isDctAt i ρ = true from hd (d := .dk ks l) (by rw [pk]; rfl))]
      exact forD_sat (e2 _ rfl) ek h
    | dt ks l =>
      obtain ⟨ds, ek, h⟩ := On_ex h
      rw [if_pos (show isDctAt i ρ = true from hd (d := .dt ks l) (by rw [pk]; rfl))]
      exact forD_sat (e2 _ rfl) ek h
    | lst l =>
      rw [hd (d := .lst l) (by rw [pk]; rfl)]
      rw [if_neg (show ¬ (D.lst l).isDct = true from fun z => by cases z), if_pos (show isOwnL i ρ = true by unfold isOwnL; rw [e])]
      unfold mForL
      rw [e]
      dsimp only
      have h : Sat (liveF i f b (l.length + 1000) 0 (ρ.set i (.io (.lst l)))) fun w ρ' => PF w (unIo i ρ') := h
      cases q : liveF i f b (l.length + 1000) 0 (ρ.set i (.io (.lst l))) with
      | ok w r => rw [q] at h; exact h
      | ex c l r => rw [q] at h; exact h.elim
      | no => rw [q] at h; exact h.elim
    | _ => exact h.elim
  | io d =>
    cases d with
    | lst l =>
      rw [hd (d := .lst l) (by rw [pk]; rfl)]
      rw [if_neg (show ¬ (D.lst l).isDct = true from fun z => by cases z), if_pos (show isOwnL i ρ = true by unfold isOwnL; rw [e])]
      unfold mForL
      rw [e]
      exact h
    | _ => exact h.elim
instance i_r_forN {i : Nat} {f : D → M Unit} {b : M Flw} : Step (Sat (mForN i f b ρ) PF) (slQ ρ i fun s => fndK s i f b ρ PF) := ⟨fun h => r_forN h⟩
theorem k_fsL {f : D → M Unit} {b : M Flw} {l : List D} (h : Sat (forL f b l ρ) PF) : fndK (.sh (.lst l)) i f b ρ PF := h
instance i_k_fsL {f : D → M Unit} {b : M Flw} {l : List D} : Step (fndK (.sh (.lst l)) i f b ρ PF) (Sat (forL f b l ρ) PF) := ⟨fun h => k_fsL h⟩
theorem k_fsT {f : D → M Unit} {b : M Flw} {l : List D} (h : Sat (forL f b l ρ) PF) : fndK (.sh (.tup l)) i f b ρ PF := h
instance i_k_fsT {f : D → M Unit} {b : M Flw} {l : List D} : Step (fndK (.sh (.tup l)) i f b ρ PF) (Sat (forL f b l ρ) PF) := ⟨fun h => k_fsT h⟩
theorem k_fsK {f : D → M Unit} {b : M Flw} {ks : List Key} {l : List D} (h : On (keysOf (.dk ks l)) fun ds => Sat (forL f b ds ρ) PF) : fndK (.sh (.dk ks l)) i f b ρ PF := h
instance i_k_fsK {f : D → M Unit} {b : M Flw} {ks : List Key} {l : List D} : Step (fndK (.sh (.dk ks l)) i f b ρ PF) (On (keysOf (.dk ks l)) fun ds => Sat (forL f b ds ρ) PF) := ⟨fun h => k_fsK h⟩
theorem k_foK {f : D → M Unit} {b : M Flw} {ks : List Key} {l : List D} (h : updK i (.sh (.dk ks l)) ρ [] fun ρ' => On (keysOf (.dk ks l)) fun ds => Sat (forL f b ds ρ') PF) : fndK (.ow (.dk ks l)) i f b ρ PF := h
instance i_k_foK {f : D → M Unit} {b : M Flw} {ks : List Key} {l : List D} : Step (fndK (.ow (.dk ks l)) i f b ρ PF) (updK i (.sh (.dk ks l)) ρ [] fun ρ' => On (keysOf (.dk ks l)) fun ds => Sat (forL f b ds ρ') PF) := ⟨fun h => k_foK h⟩
theorem k_foL {f : D → M Unit} {b : M Flw} {l : List D} (h : updK i (.io (.lst l)) ρ [] fun ρ' => Sat (liveF i f b (l.length + 1000) 0 ρ') fun w ρ2 => PF w (unIo i ρ2)) : fndK (.ow (.lst l)) i f b ρ PF := h
instance i_k_foL {f : D → M Unit} {b : M Flw} {l : List D} : Step (fndK (.ow (.lst l)) i f b ρ PF) (updK i (.io (.lst l)) ρ [] fun ρ' => Sat (liveF i f b (l.length + 1000) 0 ρ') fun w ρ2 => PF w (unIo i ρ2)) := ⟨fun h => k_foL h⟩
theorem k_fiL {f : D → M Unit} {b : M Flw} {l : List D} (h : Sat (liveF i f b (l.length + 1000) 0 ρ) PF) : fndK (.io (.lst l)) i f b ρ PF := h
instance i_k_fiL {f : D → M Unit} {b : M Flw} {l : List D} : Step (fndK (.io (.lst l)) i f b ρ PF) (Sat (liveF i f b (l.length + 1000) 0 ρ) PF) := ⟨fun h => k_fiL h⟩
/-- a loop over a list that the body leaves as it is: ds is what is left -/
theorem live_inv {f : D → M Unit} {b : M Flw} {l : List D} (I : List D → List Sl → Prop) (at_ : ∀ ds ρ, I ds ρ → ρ[i]? = some (.io (.lst l))) (step : ∀ d ds ρ, I (d :: ds) ρ → Sat (f d ρ) fun _ ρ1 => Sat (b ρ1) fun w ρ2 => stepK w ρ2 (I ds) PF) (fin : ∀ ρ, I [] ρ → PF .nx ρ) : ∀ (n k : Nat) (ρ : List Sl), l.length < n + k → k ≤ l.length → I (l.drop k) ρ → Sat (liveF i f b n k ρ) PF
  | 0, k, ρ, h, hk, hI => absurd h (by omega)
  | n + 1, k, ρ, h, hk, hI => by
    unfold liveF
    rw [at_ _ _ hI]
    dsimp only
    cases e : l[k]? with
    | none =>
      rw [List.drop_eq_nil_of_le (List.getElem?_eq_none_iff.mp e)] at hI
      exact fin ρ hI
    | some d =>
      obtain ⟨hk, ed⟩ := List.getElem?_eq_some_iff.mp e
      rw [List.drop_eq_getElem_cons hk, ed] at hI
      dsimp only
      rw [Sat_bind]
      refine Sat_mono (step _ _ _ hI) fun u ρ1 h1 => ?_
      rw [Sat_bind]
      refine Sat_mono h1 fun w ρ2 h2 => ?_
      cases w with
      | nx => exact live_inv I at_ step fin n (k + 1) ρ2 (by omega) (by omega) h2
      | ct => exact live_inv I at_ step fin n (k + 1) ρ2 (by omega) (by omega) h2
      | bk => exact h2
      | rt s => exact h2
/-! values -/
theorem v_mod {x y : Int} {K : D → Prop} (h : 0 < y) (k : K (.int (x % y))) : On (dMod (.int x) (.int y)) K := k_on (if_pos h) k
theorem v_eqI {x y : Int} {K : D → Prop} (k : K (.bl (decide (x = y)))) : On (dEq (.int x) (.int y)) K := by
  have e : dEq (.int x) (.int y) = some (.bl (x == y)) := rfl
  rw [e]
  exact k
instance i_v_eqI {x y : Int} {K : D → Prop} : Step (On (dEq (.int x) (.int y)) K) (K (.bl (decide (x = y)))) := ⟨fun h => v_eqI h⟩
theorem v_neI {x y : Int} {K : D → Prop} (k : K (.bl (!decide (x = y)))) : On (dNe (.int x) (.int y)) K := by
  have e : dNe (.int x) (.int y) = some (.bl (!(x == y))) := rfl
  rw [e]
  exact k
instance i_v_neI {x y : Int} {K : D → Prop} : Step (On (dNe (.int x) (.int y)) K) (K (.bl (!decide (x = y)))) := ⟨fun h => v_neI h⟩
theorem v_div {x y : Int} {K : D → Prop} (h : 0 < y) (h2 : y.natAbs.log2 < 9000) (k : K (.int (x / y))) : On (dDiv (.int x) (.int y)) K := k_on (if_pos ⟨h, h2⟩) k
theorem v_mul {x y : Int} {K : D → Prop} (h : x.natAbs.log2 + y.natAbs.log2 < 1000000) (k : K (.int (x * y))) : On (dMul (.int x) (.int y)) K := k_on (if_pos h) k
theorem log_lt {x : Int} {k : Nat} (h1 : -(2 ^ k : Nat) < x) (h2 : x < (2 ^ k : Nat)) : x.natAbs.log2 ≤ k := by
  by_cases e : x.natAbs = 0
  · rw [e]; simp
  · have : x.natAbs < 2 ^ k := by omega
    exact Nat.le_of_lt ((Nat.log2_lt e).mpr this)
theorem v_mulB {x y : Int} {K : D → Prop} {k l : Nat} (h : k + l < 1000000) (h1 : -(2 ^ k : Nat) < x) (h2 : x < (2 ^ k : Nat)) (h3 : -(2 ^ l : Nat) < y) (h4 : y < (2 ^ l : Nat)) (q : K (.int (x * y))) : On (dMul (.int x) (.int y)) K :=
  v_mul (Nat.lt_of_le_of_lt (Nat.add_le_add (log_lt h1 h2) (log_lt h3 h4)) h) q
theorem v_divB {x y : Int} {K : D → Prop} (h : 0 < y) (h2 : y < (2 ^ 100 : Nat)) (k : K (.int (x / y))) : On (dDiv (.int x) (.int y)) K :=
  v_div h (Nat.lt_of_le_of_lt (log_lt (k := 100) (by omega) h2) (by decide)) k
theorem v_mulS {x y : Int} {K : D → Prop} (h1 : -(2 ^ 100 : Nat) < x) (h2 : x < (2 ^ 100 : Nat)) (h3 : -(2 ^ 100 : Nat) < y) (h4 : y < (2 ^ 100 : Nat)) (q : K (.int (x * y))) : On (dMul (.int x) (.int y)) K :=
  v_mulB (k := 100) (l := 100) (by decide) h1 h2 h3 h4 q
theorem v_addI {x y : Int} {K : D → Prop} (k : K (.int (x + y))) : On (dAdd (.int x) (.int y)) K := k
instance i_v_addI {x y : Int} {K : D → Prop} : Step (On (dAdd (.int x) (.int y)) K) (K (.int (x + y))) := ⟨fun h => v_addI h⟩
theorem v_addXI {x y : Int} {K : Sl → Prop} (k : K (.sh (.int (x + y)))) : On (addX (.int x) (.int y)) K := k
instance i_v_addXI {x y : Int} {K : Sl → Prop} : Step (On (addX (.int x) (.int y)) K) (K (.sh (.int (x + y)))) := ⟨fun h => v_addXI h⟩
theorem v_subI {x y : Int} {K : D → Prop} (k : K (.int (x - y))) : On (dSub (.int x) (.int y)) K := k
instance i_v_subI {x y : Int} {K : D → Prop} : Step (On (dSub (.int x) (.int y)) K) (K (.int (x - y))) := ⟨fun h => v_subI h⟩
theorem v_ltI {x y : Int} {K : D → Prop} (k : K (.bl (decide (x < y)))) : On (dLt (.int x) (.int y)) K := k
instance i_v_ltI {x y : Int} {K : D → Prop} : Step (On (dLt (.int x) (.int y)) K) (K (.bl (decide (x < y)))) := ⟨fun h => v_ltI h⟩
theorem v_leI {x y : Int} {K : D → Prop} (k : K (.bl (decide (x ≤ y)))) : On (dLe (.int x) (.int y)) K := k
instance i_v_leI {x y : Int} {K : D → Prop} : Step (On (dLe (.int x) (.int y)) K) (K (.bl (decide (x ≤ y)))) := ⟨fun h => v_leI h⟩
theorem v_gtI {x y : Int} {K : D → Prop} (k : K (.bl (decide (y < x)))) : On (dGt (.int x) (.int y)) K := k
instance i_v_gtI {x y : Int} {K : D → Prop} : Step (On (dGt (.int x) (.int y)) K) (K (.bl (decide (y < x)))) := ⟨fun h => v_gtI h⟩
theorem v_geI {x y : Int} {K : D → Prop} (k : K (.bl (decide (y ≤ x)))) : On (dGe (.int x) (.int y)) K := k
instance i_v_geI {x y : Int} {K : D → Prop} : Step (On (dGe (.int x) (.int y)) K) (K (.bl (decide (y ≤ x)))) := ⟨fun h => v_geI h⟩
theorem v_negI {x : Int} {K : D → Prop} (k : K (.int (-x))) : On (dNeg (.int x)) K := k
instance i_v_negI {x : Int} {K : D → Prop} : Step (On (dNeg (.int x)) K) (K (.int (-x))) := ⟨fun h => v_negI h⟩
theorem v_absI {x : Int} {K : D → Prop} (k : K (.int (if x < 0 then -x else x))) : On (dAbs [.int x]) K := k
instance i_v_absI {x : Int} {K : D → Prop} : Step (On (dAbs [.int x]) K) (K (.int (if x < 0 then -x else x))) := ⟨fun h => v_absI h⟩
theorem v_max2 {x y : Int} {K : D → Prop} (k : K (.int (if y > x then y else x))) : On (dMax2 [.int x, .int y]) K := k
instance i_v_max2 {x y : Int} {K : D → Prop} : Step (On (dMax2 [.int x, .int y]) K) (K (.int (if y > x then y else x))) := ⟨fun h => v_max2 h⟩
theorem v_min2 {x y : Int} {K : D → Prop} (k : K (.int (if y < x then y else x))) : On (dMin2 [.int x, .int y]) K := k
instance i_v_min2 {x y : Int} {K : D → Prop} : Step (On (dMin2 [.int x, .int y]) K) (K (.int (if y < x then y else x))) := ⟨fun h => v_min2 h⟩
theorem v_lenL {l : List D} {K : D → Prop} (k : K (.int l.length)) : On (dLenA [.lst l]) K := k
instance i_v_lenL {l : List D} {K : D → Prop} : Step (On (dLenA [.lst l]) K) (K (.int l.length)) := ⟨fun h => v_lenL h⟩
theorem v_lenT {l : List D} {K : D → Prop} (k : K (.int l.length)) : On (dLenA [.tup l]) K := k
instance i_v_lenT {l : List D} {K : D → Prop} : Step (On (dLenA [.tup l]) K) (K (.int l.length)) := ⟨fun h => v_lenT h⟩
theorem v_lenS {l : List Int} {K : D → Prop} (k : K (.int l.length)) : On (dLenA [.scr l]) K := k
instance i_v_lenS {l : List Int} {K : D → Prop} : Step (On (dLenA [.scr l]) K) (K (.int l.length)) := ⟨fun h => v_lenS h⟩
theorem v_lenD {ks : List Key} {l : List D} {K : D → Prop} (k : K (.int ks.length)) : On (dLenA [.dk ks l]) K := k
instance i_v_lenD {ks : List Key} {l : List D} {K : D → Prop} : Step (On (dLenA [.dk ks l]) K) (K (.int ks.length)) := ⟨fun h => v_lenD h⟩
theorem v_isNI {x : Int} {K : D → Prop} (k : K (.bl false)) : On (dIsB (.int x) .non) K := k
instance i_v_isNI {x : Int} {K : D → Prop} : Step (On (dIsB (.int x) .non) K) (K (.bl false)) := ⟨fun h => v_isNI h⟩
theorem v_isNN {K : D → Prop} (k : K (.bl true)) : On (dIsB .non .non) K := k
instance i_v_isNN {K : D → Prop} : Step (On (dIsB .non .non) K) (K (.bl true)) := ⟨fun h => v_isNN h⟩
theorem v_isNT {l : List D} {K : D → Prop} (k : K (.bl false)) : On (dIsB (.tup l) .non) K := k
instance i_v_isNT {l : List D} {K : D → Prop} : Step (On (dIsB (.tup l) .non) K) (K (.bl false)) := ⟨fun h => v_isNT h⟩
theorem v_isNL {l : List D} {K : D → Prop} (k : K (.bl false)) : On (dIsB (.lst l) .non) K := k
instance i_v_isNL {l : List D} {K : D → Prop} : Step (On (dIsB (.lst l) .non) K) (K (.bl false)) := ⟨fun h => v_isNL h⟩
theorem v_notNI {x : Int} {K : D → Prop} (k : K (.bl true)) : On (dIsNotB (.int x) .non) K := k
instance i_v_notNI {x : Int} {K : D → Prop} : Step (On (dIsNotB (.int x) .non) K) (K (.bl true)) := ⟨fun h => v_notNI h⟩
theorem v_notNN {K : D → Prop} (k : K (.bl false)) : On (dIsNotB .non .non) K := k
instance i_v_notNN {K : D → Prop} : Step (On (dIsNotB .non .non) K) (K (.bl false)) := ⟨fun h => v_notNN h⟩
theorem v_notNT {l : List D} {K : D → Prop} (k : K (.bl true)) : On (dIsNotB (.tup l) .non) K := k
instance i_v_notNT {l : List D} {K : D → Prop} : Step (On (dIsNotB (.tup l) .non) K) (K (.bl true)) := ⟨fun h => v_notNT h⟩
theorem v_notNL {l : List D} {K : D → Prop} (k : K (.bl true)) : On (dIsNotB (.lst l) .non) K := k
instance i_v_notNL {l : List D} {K : D → Prop} : Step (On (dIsNotB (.lst l) .non) K) (K (.bl true)) := ⟨fun h => v_notNL h⟩
theorem v_isBB {a b : Bool} {K : D → Prop} (k : K (.bl (decide (a = b)))) : On (dIsB (.bl a) (.bl b)) K := k
instance i_v_isBB {a b : Bool} {K : D → Prop} : Step (On (dIsB (.bl a) (.bl b)) K) (K (.bl (decide (a = b)))) := ⟨fun h => v_isBB h⟩
theorem v_notBB {a b : Bool} {K : D → Prop} (k : K (.bl (!decide (a = b)))) : On (dIsNotB (.bl a) (.bl b)) K := k
instance i_v_notBB {a b : Bool} {K : D → Prop} : Step (On (dIsNotB (.bl a) (.bl b)) K) (K (.bl (!decide (a = b)))) := ⟨fun h => v_notBB h⟩
theorem v_int1 {x : Int} {K : D → Prop} (k : K (.int x)) : On (dInt1 [.int x]) K := k
instance i_v_int1 {x : Int} {K : D → Prop} : Step (On (dInt1 [.int x]) K) (K (.int x)) := ⟨fun h => v_int1 h⟩
theorem v_int1B {x : Bool} {K : D → Prop} (k : K (.int (if x then 1 else 0))) : On (dInt1 [.bl x]) K := k
instance i_v_int1B {x : Bool} {K : D → Prop} : Step (On (dInt1 [.bl x]) K) (K (.int (if x then 1 else 0))) := ⟨fun h => v_int1B h⟩
theorem v_isi {d : D} {t : Ty} {b : Bool} {K : D → Prop} (e : D.isA d t = some b) (k : K (.bl b)) : On (dIsi t [d]) K := by
  refine k_on ?_ k
  show (D.isA d t).map D.bl = _
  rw [e]
  rfl
theorem v_isi2 {d : D} {t u : Ty} {a b : Bool} {K : D → Prop} (e : D.isA d t = some a) (e0 : D.isA d u = some b) (k : K (.bl (a || b))) : On (dIsi2 t u [d]) K := by
  refine k_on ?_ k
  show (match D.isA d t, D.isA d u with | some a, some b => some (D.bl (a || b)) | _, _ => none) = _
  rw [e, e0]
theorem v_ix {c i x : D} {K : D → Prop} (e : dIxA c i = some x) (k : K x) : On (dIxA c i) K := k_on e k
theorem v_tupT {l : List D} {K : D → Prop} (k : K (.tup l)) : On (dTuple [.tup l]) K := k
instance i_v_tupT {l : List D} {K : D → Prop} : Step (On (dTuple [.tup l]) K) (K (.tup l)) := ⟨fun h => v_tupT h⟩
theorem v_tupL {l : List D} {K : D → Prop} (k : K (.tup l)) : On (dTuple [.lst l]) K := k
instance i_v_tupL {l : List D} {K : D → Prop} : Step (On (dTuple [.lst l]) K) (K (.tup l)) := ⟨fun h => v_tupL h⟩
theorem v_lstT {l : List D} {K : D → Prop} (k : K (.lst l)) : On (dList [.tup l]) K := k
instance i_v_lstT {l : List D} {K : D → Prop} : Step (On (dList [.tup l]) K) (K (.lst l)) := ⟨fun h => v_lstT h⟩
theorem v_lstL {l : List D} {K : D → Prop} (k : K (.lst l)) : On (dList [.lst l]) K := k
instance i_v_lstL {l : List D} {K : D → Prop} : Step (On (dList [.lst l]) K) (K (.lst l)) := ⟨fun h => v_lstL h⟩
theorem v_itL {l : List D} {K : List D → Prop} (k : K l) : On (itemsOf (.lst l)) K := k
instance i_v_itL {l : List D} {K : List D → Prop} : Step (On (itemsOf (.lst l)) K) (K l) := ⟨fun h => v_itL h⟩
theorem v_itT {l : List D} {K : List D → Prop} (k : K l) : On (itemsOf (.tup l)) K := k
instance i_v_itT {l : List D} {K : List D → Prop} : Step (On (itemsOf (.tup l)) K) (K l) := ⟨fun h => v_itT h⟩
theorem v_rgI1 {j : Int} {K : Int × Int → Prop} (k : K (0, j)) : On (rgI [.int j]) K := k
instance i_v_rgI1 {j : Int} {K : Int × Int → Prop} : Step (On (rgI [.int j]) K) (K (0, j)) := ⟨fun h => v_rgI1 h⟩
theorem v_rgI2 {i j : Int} {K : Int × Int → Prop} (k : K (i, j)) : On (rgI [.int i, .int j]) K := k
instance i_v_rgI2 {i j : Int} {K : Int × Int → Prop} : Step (On (rgI [.int i, .int j]) K) (K (i, j)) := ⟨fun h => v_rgI2 h⟩
theorem v_pow {x y : Int} {K : D → Prop} (h : 0 ≤ y ∧ y ≤ 1000000 ∧ x.natAbs < 2 ^ 64) (k : K (.int (x ^ y.toNat))) : On (dPow (.int x) (.int y)) K := k_on (if_pos h) k
theorem v_rng2 {i j : Int} {K : List D → Prop} (h1 : j < 4611686018427387904) (h2 : -4611686018427387904 ≤ j) (h3 : i < 4611686018427387904) (h4 : -4611686018427387904 ≤ i) (k : K (rngD i (j - i).toNat)) : On (rng2 [.int i, .int j]) K := k_on (if_pos ⟨⟨h1, h2⟩, h3, h4⟩) k
theorem v_rng1 {j : Int} {K : List D → Prop} (h1 : j < 4611686018427387904) (h2 : -4611686018427387904 ≤ j) (k : K (rngD 0 j.toNat)) : On (rng1 [.int j]) K := k_on (if_pos ⟨h1, h2⟩) k
theorem v_revL {l : List D} {K : D → Prop} (k : K (.lst l.reverse)) : On (dRev (.lst l)) K := k
instance i_v_revL {l : List D} {K : D → Prop} : Step (On (dRev (.lst l)) K) (K (.lst l.reverse)) := ⟨fun h => v_revL h⟩
theorem v_app {x : D} {l : List D} {K : D × D → Prop} (h : l.length < 1000000) (k : K (.lst (l ++ [x]), .non)) : On (fApp [x] (.lst l)) K := k_on (if_pos (Nat.lt_of_lt_of_le h (by decide))) k
theorem v_ext {l l' : List D} {K : D × D → Prop} (h : l.length + l'.length < 1000000) (k : K (.lst (l ++ l'), .non)) : On (fExt [.lst l'] (.lst l)) K := k_on (if_pos (Nat.le_of_lt (Nat.lt_of_lt_of_le h (by decide)))) k
theorem v_clear {l : List D} {K : D × D → Prop} (k : K (.lst [], .non)) : On (fClear [] (.lst l)) K := k
instance i_v_clear {l : List D} {K : D × D → Prop} : Step (On (fClear [] (.lst l)) K) (K (.lst [], .non)) := ⟨fun h => v_clear h⟩
theorem v_rev {l : List D} {K : D × D → Prop} (k : K (.lst l.reverse, .non)) : On (fRev [] (.lst l)) K := k
instance i_v_rev {l : List D} {K : D × D → Prop} : Step (On (fRev [] (.lst l)) K) (K (.lst l.reverse, .non)) := ⟨fun h => v_rev h⟩
theorem v_ix0 {x : D} {l : List D} {K : D → Prop} (k : K x) : On (dIxA (.lst (x :: l)) (.int 0)) K := by
  refine k_on (o := atI (x :: l) 0) ?_ k
  have h : (0 : Int) < (l.length : Int) + 1 := by omega
  simp [atI, ixN, h]
instance i_v_ix0 {x : D} {l : List D} {K : D → Prop} : Step (On (dIxA (.lst (x :: l)) (.int 0)) K) (K x) := ⟨fun h => v_ix0 h⟩
theorem v_ix1 {x y : D} {l : List D} {K : D → Prop} (k : K y) : On (dIxA (.lst (x :: y :: l)) (.int 1)) K := by
  refine k_on (o := atI (x :: y :: l) 1) ?_ k
  have h : (1 : Int) < (l.length : Int) + 1 + 1 := by omega
  simp [atI, ixN, h]
instance i_v_ix1 {x y : D} {l : List D} {K : D → Prop} : Step (On (dIxA (.lst (x :: y :: l)) (.int 1)) K) (K y) := ⟨fun h => v_ix1 h⟩
theorem v_ix2 {x y z : D} {l : List D} {K : D → Prop} (k : K z) : On (dIxA (.lst (x :: y :: z :: l)) (.int 2)) K := by
  refine k_on (o := atI (x :: y :: z :: l) 2) ?_ k
  have h : (2 : Int) < (l.length : Int) + 1 + 1 + 1 := by omega
  simp [atI, ixN, h]
instance i_v_ix2 {x y z : D} {l : List D} {K : D → Prop} : Step (On (dIxA (.lst (x :: y :: z :: l)) (.int 2)) K) (K z) := ⟨fun h => v_ix2 h⟩
theorem v_ix3 {x y z u : D} {l : List D} {K : D → Prop} (k : K u) : On (dIxA (.lst (x :: y :: z :: u :: l)) (.int 3)) K := by
  refine k_on (o := atI (x :: y :: z :: u :: l) 3) ?_ k
  have h : (3 : Int) < (l.length : Int) + 1 + 1 + 1 + 1 := by omega
  simp [atI, ixN, h]
instance i_v_ix3 {x y z u : D} {l : List D} {K : D → Prop} : Step (On (dIxA (.lst (x :: y :: z :: u :: l)) (.int 3)) K) (K u) := ⟨fun h => v_ix3 h⟩
theorem v_ix4 {x y z u t : D} {l : List D} {K : D → Prop} (k : K t) : On (dIxA (.lst (x :: y :: z :: u :: t :: l)) (.int 4)) K := by
  refine k_on (o := atI (x :: y :: z :: u :: t :: l) 4) ?_ k
  have h : (4 : Int) < (l.length : Int) + 1 + 1 + 1 + 1 + 1 := by omega
  simp [atI, ixN, h]
instance i_v_ix4 {x y z u t : D} {l : List D} {K : D → Prop} : Step (On (dIxA (.lst (x :: y :: z :: u :: t :: l)) (.int 4)) K) (K t) := ⟨fun h => v_ix4 h⟩
theorem v_ix0T {x : D} {l : List D} {K : D → Prop} (k : K x) : On (dIxA (.tup (x :: l)) (.int 0)) K := by
  refine k_on (o := atI (x :: l) 0) ?_ k
  have h : (0 : Int) < (l.length : Int) + 1 := by omega
  simp [atI, ixN, h]
instance i_v_ix0T {x : D} {l : List D} {K : D → Prop} : Step (On (dIxA (.tup (x :: l)) (.int 0)) K) (K x) := ⟨fun h => v_ix0T h⟩
theorem v_ix1T {x y : D} {l : List D} {K : D → Prop} (k : K y) : On (dIxA (.tup (x :: y :: l)) (.int 1)) K := by
  refine k_on (o := atI (x :: y :: l) 1) ?_ k
  have h : (1 : Int) < (l.length : Int) + 1 + 1 := by omega
  simp [atI, ixN, h]
instance i_v_ix1T {x y : D} {l : List D} {K : D → Prop} : Step (On (dIxA (.tup (x :: y :: l)) (.int 1)) K) (K y) := ⟨fun h => v_ix1T h⟩
theorem v_ix2T {x y z : D} {l : List D} {K : D → Prop} (k : K z) : On (dIxA (.tup (x :: y :: z :: l)) (.int 2)) K := by
  refine k_on (o := atI (x :: y :: z :: l) 2) ?_ k
  have h : (2 : Int) < (l.length : Int) + 1 + 1 + 1 := by omega
  simp [atI, ixN, h]
instance i_v_ix2T {x y z : D} {l : List D} {K : D → Prop} : Step (On (dIxA (.tup (x :: y :: z :: l)) (.int 2)) K) (K z) := ⟨fun h => v_ix2T h⟩
theorem v_ix3T {x y z u : D} {l : List D} {K : D → Prop} (k : K u) : On (dIxA (.tup (x :: y :: z :: u :: l)) (.int 3)) K := by
  refine k_on (o := atI (x :: y :: z :: u :: l) 3) ?_ k
  have h : (3 : Int) < (l.length : Int) + 1 + 1 + 1 + 1 := by omega
  simp [atI, ixN, h]
instance i_v_ix3T {x y z u : D} {l : List D} {K : D → Prop} : Step (On (dIxA (.tup (x :: y :: z :: u :: l)) (.int 3)) K) (K u) := ⟨fun h => v_ix3T h⟩
theorem v_ix4T {x y z u t : D} {l : List D} {K : D → Prop} (k : K t) : On (dIxA (.tup (x :: y :: z :: u :: t :: l)) (.int 4)) K := by
  refine k_on (o := atI (x :: y :: z :: u :: t :: l) 4) ?_ k
  have h : (4 : Int) < (l.length : Int) + 1 + 1 + 1 + 1 + 1 := by omega
  simp [atI, ixN, h]
instance i_v_ix4T {x y z u t : D} {l : List D} {K : D → Prop} : Step (On (dIxA (.tup (x :: y :: z :: u :: t :: l)) (.int 4)) K) (K t) := ⟨fun h => v_ix4T h⟩
theorem v_put0 {x d : D} {l : List D} {K : D → Prop} (k : K (.lst (d :: l))) : On (dPut (.int 0) d (.lst (x :: l))) K := by
  refine k_on (o := (ixN (x :: l).length 0).map fun j => D.lst ((x :: l).set j d)) ?_ k
  have h : (0 : Int) < (l.length : Int) + 1 := by omega
  simp [ixN, h]
instance i_v_put0 {x d : D} {l : List D} {K : D → Prop} : Step (On (dPut (.int 0) d (.lst (x :: l))) K) (K (.lst (d :: l))) := ⟨fun h => v_put0 h⟩
theorem v_put1 {x y d : D} {l : List D} {K : D → Prop} (k : K (.lst (x :: d :: l))) : On (dPut (.int 1) d (.lst (x :: y :: l))) K := by
  refine k_on (o := (ixN (x :: y :: l).length 1).map fun j => D.lst ((x :: y :: l).set j d)) ?_ k
  have h : (1 : Int) < (l.length : Int) + 1 + 1 := by omega
  simp [ixN, h]
instance i_v_put1 {x y d : D} {l : List D} {K : D → Prop} : Step (On (dPut (.int 1) d (.lst (x :: y :: l))) K) (K (.lst (x :: d :: l))) := ⟨fun h => v_put1 h⟩
theorem v_put2 {x y z d : D} {l : List D} {K : D → Prop} (k : K (.lst (x :: y :: d :: l))) : On (dPut (.int 2) d (.lst (x :: y :: z :: l))) K := by
  refine k_on (o := (ixN (x :: y :: z :: l).length 2).map fun j => D.lst ((x :: y :: z :: l).set j d)) ?_ k
  have h : (2 : Int) < (l.length : Int) + 1 + 1 + 1 := by omega
  simp [ixN, h]
instance i_v_put2 {x y z d : D} {l : List D} {K : D → Prop} : Step (On (dPut (.int 2) d (.lst (x :: y :: z :: l))) K) (K (.lst (x :: y :: d :: l))) := ⟨fun h => v_put2 h⟩
theorem v_isNint {K : D → Prop} (k : K (.bl false)) : On (dIsi .int [.non]) K := k
instance i_v_isNint {K : D → Prop} : Step (On (dIsi .int [.non]) K) (K (.bl false)) := ⟨fun h => v_isNint h⟩
theorem v_isNbool {K : D → Prop} (k : K (.bl false)) : On (dIsi .bool [.non]) K := k
instance i_v_isNbool {K : D → Prop} : Step (On (dIsi .bool [.non]) K) (K (.bl false)) := ⟨fun h => v_isNbool h⟩
theorem v_isNstr {K : D → Prop} (k : K (.bl false)) : On (dIsi .str [.non]) K := k
instance i_v_isNstr {K : D → Prop} : Step (On (dIsi .str [.non]) K) (K (.bl false)) := ⟨fun h => v_isNstr h⟩
theorem v_isNtup {K : D → Prop} (k : K (.bl false)) : On (dIsi .tup [.non]) K := k
instance i_v_isNtup {K : D → Prop} : Step (On (dIsi .tup [.non]) K) (K (.bl false)) := ⟨fun h => v_isNtup h⟩
theorem v_isNlst {K : D → Prop} (k : K (.bl false)) : On (dIsi .lst [.non]) K := k
instance i_v_isNlst {K : D → Prop} : Step (On (dIsi .lst [.non]) K) (K (.bl false)) := ⟨fun h => v_isNlst h⟩
theorem v_isNdct {K : D → Prop} (k : K (.bl false)) : On (dIsi .dct [.non]) K := k
instance i_v_isNdct {K : D → Prop} : Step (On (dIsi .dct [.non]) K) (K (.bl false)) := ⟨fun h => v_isNdct h⟩
theorem v_is2N {K : D → Prop} (k : K (.bl false)) : On (dIsi2 .lst .tup [.non]) K := k
instance i_v_is2N {K : D → Prop} : Step (On (dIsi2 .lst .tup [.non]) K) (K (.bl false)) := ⟨fun h => v_is2N h⟩
theorem v_isBint {b : Bool} {K : D → Prop} (k : K (.bl true)) : On (dIsi .int [(.bl b)]) K := k
instance i_v_isBint {b : Bool} {K : D → Prop} : Step (On (dIsi .int [(.bl b)]) K) (K (.bl true)) := ⟨fun h => v_isBint h⟩
theorem v_isBbool {b : Bool} {K : D → Prop} (k : K (.bl true)) : On (dIsi .bool [(.bl b)]) K := k
instance i_v_isBbool {b : Bool} {K : D → Prop} : Step (On (dIsi .bool [(.bl b)]) K) (K (.bl true)) := ⟨fun h => v_isBbool h⟩
theorem v_isBstr {b : Bool} {K : D → Prop} (k : K (.bl false)) : On (dIsi .str [(.bl b)]) K := k
instance i_v_isBstr {b : Bool} {K : D → Prop} : Step (On (dIsi .str [(.bl b)]) K) (K (.bl false)) := ⟨fun h => v_isBstr h⟩
theorem v_isBtup {b : Bool} {K : D → Prop} (k : K (.bl false)) : On (dIsi .tup [(.bl b)]) K := k
instance i_v_isBtup {b : Bool} {K : D → Prop} : Step (On (dIsi .tup [(.bl b)]) K) (K (.bl false)) := ⟨fun h => v_isBtup h⟩
theorem v_isBlst {b : Bool} {K : D → Prop} (k : K (.bl false)) : On (dIsi .lst [(.bl b)]) K := k
instance i_v_isBlst {b : Bool} {K : D → Prop} : Step (On (dIsi .lst [(.bl b)]) K) (K (.bl false)) := ⟨fun h => v_isBlst h⟩
theorem v_isBdct {b : Bool} {K : D → Prop} (k : K (.bl false)) : On (dIsi .dct [(.bl b)]) K := k
instance i_v_isBdct {b : Bool} {K : D → Prop} : Step (On (dIsi .dct [(.bl b)]) K) (K (.bl false)) := ⟨fun h => v_isBdct h⟩
theorem v_is2B {b : Bool} {K : D → Prop} (k : K (.bl false)) : On (dIsi2 .lst .tup [(.bl b)]) K := k
instance i_v_is2B {b : Bool} {K : D → Prop} : Step (On (dIsi2 .lst .tup [(.bl b)]) K) (K (.bl false)) := ⟨fun h => v_is2B h⟩
theorem v_isIint {b : Int} {K : D → Prop} (k : K (.bl true)) : On (dIsi .int [(.int b)]) K := k
instance i_v_isIint {b : Int} {K : D → Prop} : Step (On (dIsi .int [(.int b)]) K) (K (.bl true)) := ⟨fun h => v_isIint h⟩
theorem v_isIbool {b : Int} {K : D → Prop} (k : K (.bl false)) : On (dIsi .bool [(.int b)]) K := k
instance i_v_isIbool {b : Int} {K : D → Prop} : Step (On (dIsi .bool [(.int b)]) K) (K (.bl false)) := ⟨fun h => v_isIbool h⟩
theorem v_isIstr {b : Int} {K : D → Prop} (k : K (.bl false)) : On (dIsi .str [(.int b)]) K := k
instance i_v_isIstr {b : Int} {K : D → Prop} : Step (On (dIsi .str [(.int b)]) K) (K (.bl false)) := ⟨fun h => v_isIstr h⟩
theorem v_isItup {b : Int} {K : D → Prop} (k : K (.bl false)) : On (dIsi .tup [(.int b)]) K := k
instance i_v_isItup {b : Int} {K : D → Prop} : Step (On (dIsi .tup [(.int b)]) K) (K (.bl false)) := ⟨fun h => v_isItup h⟩
theorem v_isIlst {b : Int} {K : D → Prop} (k : K (.bl false)) : On (dIsi .lst [(.int b)]) K := k
instance i_v_isIlst {b : Int} {K : D → Prop} : Step (On (dIsi .lst [(.int b)]) K) (K (.bl false)) := ⟨fun h => v_isIlst h⟩
theorem v_isIdct {b : Int} {K : D → Prop} (k : K (.bl false)) : On (dIsi .dct [(.int b)]) K := k
instance i_v_isIdct {b : Int} {K : D → Prop} : Step (On (dIsi .dct [(.int b)]) K) (K (.bl false)) := ⟨fun h => v_isIdct h⟩
theorem v_is2I {b : Int} {K : D → Prop} (k : K (.bl false)) : On (dIsi2 .lst .tup [(.int b)]) K := k
instance i_v_is2I {b : Int} {K : D → Prop} : Step (On (dIsi2 .lst .tup [(.int b)]) K) (K (.bl false)) := ⟨fun h => v_is2I h⟩
theorem v_isSint {b : Str} {K : D → Prop} (k : K (.bl false)) : On (dIsi .int [(.str b)]) K := k
instance i_v_isSint {b : Str} {K : D → Prop} : Step (On (dIsi .int [(.str b)]) K) (K (.bl false)) := ⟨fun h => v_isSint h⟩
theorem v_isSbool {b : Str} {K : D → Prop} (k : K (.bl false)) : On (dIsi .bool [(.str b)]) K := k
instance i_v_isSbool {b : Str} {K : D → Prop} : Step (On (dIsi .bool [(.str b)]) K) (K (.bl false)) := ⟨fun h => v_isSbool h⟩
theorem v_isSstr {b : Str} {K : D → Prop} (k : K (.bl true)) : On (dIsi .str [(.str b)]) K := k
instance i_v_isSstr {b : Str} {K : D → Prop} : Step (On (dIsi .str [(.str b)]) K) (K (.bl true)) := ⟨fun h => v_isSstr h⟩
theorem v_isStup {b : Str} {K : D → Prop} (k : K (.bl false)) : On (dIsi .tup [(.str b)]) K := k
instance i_v_isStup {b : Str} {K : D → Prop} : Step (On (dIsi .tup [(.str b)]) K) (K (.bl false)) := ⟨fun h => v_isStup h⟩
theorem v_isSlst {b : Str} {K : D → Prop} (k : K (.bl false)) : On (dIsi .lst [(.str b)]) K := k
instance i_v_isSlst {b : Str} {K : D → Prop} : Step (On (dIsi .lst [(.str b)]) K) (K (.bl false)) := ⟨fun h => v_isSlst h⟩
theorem v_isSdct {b : Str} {K : D → Prop} (k : K (.bl false)) : On (dIsi .dct [(.str b)]) K := k
instance i_v_isSdct {b : Str} {K : D → Prop} : Step (On (dIsi .dct [(.str b)]) K) (K (.bl false)) := ⟨fun h => v_isSdct h⟩
theorem v_is2S {b : Str} {K : D → Prop} (k : K (.bl false)) : On (dIsi2 .lst .tup [(.str b)]) K := k
instance i_v_is2S {b : Str} {K : D → Prop} : Step (On (dIsi2 .lst .tup [(.str b)]) K) (K (.bl false)) := ⟨fun h => v_is2S h⟩
theorem v_isTint {b : List D} {K : D → Prop} (k : K (.bl false)) : On (dIsi .int [(.tup b)]) K := k
instance i_v_isTint {b : List D} {K : D → Prop} : Step (On (dIsi .int [(.tup b)]) K) (K (.bl false)) := ⟨fun h => v_isTint h⟩
theorem v_isTbool {b : List D} {K : D → Prop} (k : K (.bl false)) : On (dIsi .bool [(.tup b)]) K := k
instance i_v_isTbool {b : List D} {K : D → Prop} : Step (On (dIsi .bool [(.tup b)]) K) (K (.bl false)) := ⟨fun h => v_isTbool h⟩
theorem v_isTstr {b : List D} {K : D → Prop} (k : K (.bl false)) : On (dIsi .str [(.tup b)]) K := k
instance i_v_isTstr {b : List D} {K : D → Prop} : Step (On (dIsi .str [(.tup b)]) K) (K (.bl false)) := ⟨fun h => v_isTstr h⟩
theorem v_isTtup {b : List D} {K : D → Prop} (k : K (.bl true)) : On (dIsi .tup [(.tup b)]) K := k
instance i_v_isTtup {b : List D} {K : D → Prop} : Step (On (dIsi .tup [(.tup b)]) K) (K (.bl true)) := ⟨fun h => v_isTtup h⟩
theorem v_isTlst {b : List D} {K : D → Prop} (k : K (.bl false)) : On (dIsi .lst [(.tup b)]) K := k
instance i_v_isTlst {b : List D} {K : D → Prop} : Step (On (dIsi .lst [(.tup b)]) K) (K (.bl false)) := ⟨fun h => v_isTlst h⟩
theorem v_isTdct {b : List D} {K : D → Prop} (k : K (.bl false)) : On (dIsi .dct [(.tup b)]) K := k
instance i_v_isTdct {b : List D} {K : D → Prop} : Step (On (dIsi .dct [(.tup b)]) K) (K (.bl false)) := ⟨fun h => v_isTdct h⟩
theorem v_is2T {b : List D} {K : D → Prop} (k : K (.bl true)) : On (dIsi2 .lst .tup [(.tup b)]) K := k
instance i_v_is2T {b : List D} {K : D → Prop} : Step (On (dIsi2 .lst .tup [(.tup b)]) K) (K (.bl true)) := ⟨fun h => v_is2T h⟩
theorem v_isLint {b : List D} {K : D → Prop} (k : K (.bl false)) : On (dIsi .int [(.lst b)]) K := k
instance i_v_isLint {b : List D} {K : D → Prop} : Step (On (dIsi .int [(.lst b)]) K) (K (.bl false)) := ⟨fun h => v_isLint h⟩
theorem v_isLbool {b : List D} {K : D → Prop} (k : K (.bl false)) : On (dIsi .bool [(.lst b)]) K := k
instance i_v_isLbool {b : List D} {K : D → Prop} : Step (On (dIsi .bool [(.lst b)]) K) (K (.bl false)) := ⟨fun h => v_isLbool h⟩
theorem v_isLstr {b : List D} {K : D → Prop} (k : K (.bl false)) : On (dIsi .str [(.lst b)]) K := k
instance i_v_isLstr {b : List D} {K : D → Prop} : Step (On (dIsi .str [(.lst b)]) K) (K (.bl false)) := ⟨fun h => v_isLstr h⟩
theorem v_isLtup {b : List D} {K : D → Prop} (k : K (.bl false)) : On (dIsi .tup [(.lst b)]) K := k
instance i_v_isLtup {b : List D} {K : D → Prop} : Step (On (dIsi .tup [(.lst b)]) K) (K (.bl false)) := ⟨fun h => v_isLtup h⟩
theorem v_isLlst {b : List D} {K : D → Prop} (k : K (.bl true)) : On (dIsi .lst [(.lst b)]) K := k
instance i_v_isLlst {b : List D} {K : D → Prop} : Step (On (dIsi .lst [(.lst b)]) K) (K (.bl true)) := ⟨fun h => v_isLlst h⟩
theorem v_isLdct {b : List D} {K : D → Prop} (k : K (.bl false)) : On (dIsi .dct [(.lst b)]) K := k
instance i_v_isLdct {b : List D} {K : D → Prop} : Step (On (dIsi .dct [(.lst b)]) K) (K (.bl false)) := ⟨fun h => v_isLdct h⟩
theorem v_is2L {b : List D} {K : D → Prop} (k : K (.bl true)) : On (dIsi2 .lst .tup [(.lst b)]) K := k
instance i_v_is2L {b : List D} {K : D → Prop} : Step (On (dIsi2 .lst .tup [(.lst b)]) K) (K (.bl true)) := ⟨fun h => v_is2L h⟩
theorem v_isKint {c : List Key} {b : List D} {K : D → Prop} (k : K (.bl false)) : On (dIsi .int [(.dk c b)]) K := k
instance i_v_isKint {c : List Key} {b : List D} {K : D → Prop} : Step (On (dIsi .int [(.dk c b)]) K) (K (.bl false)) := ⟨fun h => v_isKint h⟩
theorem v_isKbool {c : List Key} {b : List D} {K : D → Prop} (k : K (.bl false)) : On (dIsi .bool [(.dk c b)]) K := k
instance i_v_isKbool {c : List Key} {b : List D} {K : D → Prop} : Step (On (dIsi .bool [(.dk c b)]) K) (K (.bl false)) := ⟨fun h => v_isKbool h⟩
theorem v_isKstr {c : List Key} {b : List D} {K : D → Prop} (k : K (.bl false)) : On (dIsi .str [(.dk c b)]) K := k
instance i_v_isKstr {c : List Key} {b : List D} {K : D → Prop} : Step (On (dIsi .str [(.dk c b)]) K) (K (.bl false)) := ⟨fun h => v_isKstr h⟩
theorem v_isKtup {c : List Key} {b : List D} {K : D → Prop} (k : K (.bl false)) : On (dIsi .tup [(.dk c b)]) K := k
instance i_v_isKtup {c : List Key} {b : List D} {K : D → Prop} : Step (On (dIsi .tup [(.dk c b)]) K) (K (.bl false)) := ⟨fun h => v_isKtup h⟩
theorem v_isKlst {c : List Key} {b : List D} {K : D → Prop} (k : K (.bl false)) : On (dIsi .lst [(.dk c b)]) K := k
instance i_v_isKlst {c : List Key} {b : List D} {K : D → Prop} : Step (On (dIsi .lst [(.dk c b)]) K) (K (.bl false)) := ⟨fun h => v_isKlst h⟩
theorem v_isKdct {c : List Key} {b : List D} {K : D → Prop} (k : K (.bl true)) : On (dIsi .dct [(.dk c b)]) K := k
instance i_v_isKdct {c : List Key} {b : List D} {K : D → Prop} : Step (On (dIsi .dct [(.dk c b)]) K) (K (.bl true)) := ⟨fun h => v_isKdct h⟩
theorem v_is2K {c : List Key} {b : List D} {K : D → Prop} (k : K (.bl false)) : On (dIsi2 .lst .tup [(.dk c b)]) K := k
instance i_v_is2K {c : List Key} {b : List D} {K : D → Prop} : Step (On (dIsi2 .lst .tup [(.dk c b)]) K) (K (.bl false)) := ⟨fun h => v_is2K h⟩
end
end Ev
namespace Ev
open PySem PySem.Spec PyProof.Rows L2
theorem hu67_of {A : Around} {k : Nat} (hr : Room k A) : A.units + 67 < cLine := by have := hr.un; omega

/-! ## repr, str -/
section
variable {X : Cx}
def rReprD (K : PySem.W.Frag) : List V → Hp → VK → Prop := fun xs H Q => ∃ v d, xs = [v] ∧ Dp K H v d ∧ SeqAt.shaped d = true ∧ d.showable = true ∧ d.shown.length ≤ sizeLine ∧ Q (.str d.shown) H
theorem call_reprD (hg : X.A.guards = some []) (hu : X.A.units + 65 < cLine) : CallR X (.builtin "repr") (rReprD X.K) := by
  intro pins s σ H xs us Q I r h
  obtain ⟨v, d, rfl, hd, hs, hw, hz, q⟩ := h
  obtain ⟨u, rfl, rv⟩ := vals1 r
  obtain ⟨as, rd⟩ := Dp.reads I d v u hd rv
  have ref : ∀ a, u = .ref a → wpAny (model X.prog X.w) X.A (call (.builtin "repr") [u]) (EP X pins σ Q) X.xe s := fun a e => by
    subst e
    refine repr_of_reads' rd hw (PyData.noDict_hsm (PyData.hasDict_of_canLay _ (SeqAt.canLay_of_shaped hs))) hg (by have := SeqAt.depth_of_shaped hs; omega) (fun _ _ e => e) (fun h' u' tk hk => ?_) hz
    exact ⟨.str _, H, I.kept (t' := tk) hk, ⟨_, rfl⟩, q⟩
  cases hd with
  | non => cases rv; exact PySem.P.repr_of_none ⟨.str _, H, I.tok _, ⟨_, rfl⟩, q⟩
  | bl b => cases rv; exact PySem.P.repr_of_bool ⟨.str _, H, I.tok _, ⟨_, rfl⟩, q⟩
  | int i =>
    obtain ⟨t, rfl⟩ := rv
    exact PySem.P.repr_of_int (by simpa [PyData.showable] using hw) ⟨.str _, H, I.tok _, ⟨_, rfl⟩, q⟩
  | str x =>
    obtain ⟨t, rfl⟩ := rv
    exact PySem.P.repr_of_str ⟨.str _, H, I.tok _, ⟨_, rfl⟩, q⟩ hz
  | lst _ _ => exact ref _ rv
  | tup _ _ => exact ref _ rv
def D.shw (d : D) : Str := (D.py d).shown
def D.canShow (d : D) : Bool := D.plain d && ((D.py d).showable && decide ((D.shw d).length ≤ sizeLine))
def dRepr : List D → Option D
  | [d] => if D.canShow d = true then some (.str (D.shw d)) else none
  | _ => none
theorem ok_repr (G : Glb) (K : PySem.W.Frag) : OkN G (rReprD K) dRepr := by
  intro xs ds d H F Q hx e q
  unfold dRepr at e
  split at e
  · rename_i d'
    split at e
    · rename_i hc
      cases e
      obtain ⟨v, rfl, h⟩ := hx.one
      unfold D.canShow at hc
      simp only [Bool.and_eq_true, decide_eq_true_eq] at hc
      exact ⟨v, D.py d', rfl, h.dp hc.1, hc.1, hc.2.1, hc.2.2, done (.str _) q⟩
    · cases e
  · cases e
def rStrD (K : PySem.W.Frag) : List V → Hp → VK → Prop := fun xs H Q => (∃ x, xs = [.str x] ∧ Q (.str x) H) ∨ rReprD K xs H (fun v H => (∀ x, xs ≠ [.str x]) ∧ Q v H)
theorem call_strD (hg : X.A.guards = some []) (hu : X.A.units + 67 < cLine) : CallR X (.type "str") (rStrD X.K) := by
  intro pins s σ H xs us Q I r h
  rcases h with ⟨x, rfl, q⟩ | ⟨v, d, rfl, hd, hs, hw, hz, hne, q⟩
  · obtain ⟨u, rfl, t, rfl⟩ := vals1 r
    exact PySem.P.str_of_str ⟨.str _, H, I, ⟨_, rfl⟩, q⟩
  obtain ⟨u, rfl, rv⟩ := vals1 r
  obtain ⟨as, rd⟩ := Dp.reads I d v u hd rv
  have ref : ∀ a, u = .ref a → wpAny (model X.prog X.w) X.A (call (.type "str") [u]) (EP X pins σ Q) X.xe s := fun a e => by
    subst e
    refine str_of_reads rd hw (PyData.noDict_hsm (PyData.hasDict_of_canLay _ (SeqAt.canLay_of_shaped hs))) hg (by have := SeqAt.depth_of_shaped hs; omega) (fun _ _ e => e) (fun h' u' tk hk => ?_) hz
    exact ⟨.str _, H, I.kept (t' := tk) hk, ⟨_, rfl⟩, q⟩
  cases hd with
  | non => cases rv; exact PySem.P.str_of_none ⟨.str _, H, I.tok _, ⟨_, rfl⟩, q⟩
  | bl b => cases rv; exact PySem.P.str_of_bool ⟨.str _, H, I.tok _, ⟨_, rfl⟩, q⟩
  | int i =>
    obtain ⟨t, rfl⟩ := rv
    exact PySem.P.str_of_int (by simpa [PyData.showable] using hw) ⟨.str _, H, I.tok _, ⟨_, rfl⟩, q⟩
  | str x => exact (hne x rfl).elim
  | lst _ _ => exact ref _ rv
  | tup _ _ => exact ref _ rv
def D.isStr : D → Bool
  | .str _ => true
  | _ => false
def dStr1 : List D → Option D
  | [d] => if D.isStr d = true then some d else if D.canShow d = true then some (.str (D.shw d)) else none
  | _ => none
theorem RW.notStr {G : Glb} {H : Hp} {F : Addr → Prop} {d : D} {v : V} (h : RW G H F d v) (n : ¬ D.isStr d = true) : ∀ x, v ≠ .str x := by
  intro x e
  subst e
  rcases h with h | ⟨a, e, _⟩
  · cases d <;> unfold RV at h
    case str => exact n rfl
    all_goals simp at h
  · cases e
theorem ok_str1 (G : Glb) (K : PySem.W.Frag) : OkN G (rStrD K) dStr1 := by
  intro xs ds d H F Q hx e q
  unfold dStr1 at e
  split at e
  · rename_i d'
    split at e
    · rename_i hc
      cases e
      cases d <;> first | cases hc | skip
      rename_i z
      obtain ⟨v, rfl, h⟩ := hx.one
      have e2 : v = .str z := by
        rcases h with h | ⟨a, _, r⟩
        · unfold RV at h; exact h
        · exact r.elim
      subst e2
      exact .inl ⟨z, rfl, done (.str z) q⟩
    · rename_i nst
      split at e
      · rename_i hc
        cases e
        obtain ⟨v, rfl, h⟩ := hx.one
        unfold D.canShow at hc
        simp only [Bool.and_eq_true, decide_eq_true_eq] at hc
        refine .inr ⟨v, D.py d', rfl, h.dp hc.1, hc.1, hc.2.1, hc.2.2, fun x z => h.notStr nst x (by cases z; rfl), done (.str _) q⟩
      · cases e
  · cases e
end

/-! ## what is not told: statements and values that no walk comes to -/
section
variable {X : Cx} {G : Glb} {β : Bt} {W : WX}
theorem ss_no {st : Stmt} : PS X st (tS G β W noM) := ⟨fun pins s σ H D I ⟨F, ρ, L, _, q⟩ => q.elim⟩
theorem se_no {e : Expr} : PE X e (tE G β W noM) := ⟨fun pins s σ H D I ⟨F, ρ, L, _, q⟩ => q.elim⟩
theorem sa_no {e : Expr} : PE X e (tA G β W noM) := ⟨fun pins s σ H D I ⟨F, ρ, L, _, q⟩ => q.elim⟩
/-- a name of the module that holds an int -/
theorem se_globI {x : Str} {i : Int} {pos : Pos} (hm : ∃ t, X.mg x = some (.int i t)) (hg : Gl X x := by rfl) (hd : (x == ("__debug__" : Str)) = false := by decide) : PE X (.Name x pos) (tE G β W (mC (.int i))) := by
  obtain ⟨t, hm⟩ := hm
  exact se_glob (v := .int i) hm ⟨t, rfl⟩ (fun _ _ => RV.int i) hg hd
end

/-! ## zip, enumerate -/
def zipD : List D → List D → List D
  | a :: l, b :: m => .tup [a, b] :: zipD l m
  | _, _ => []
theorem zipD_get : ∀ {l m : List D} {i : Nat} {d : D}, (zipD l m)[i]? = some d → ∃ a b, l[i]? = some a ∧ m[i]? = some b ∧ d = .tup [a, b]
  | [], _, _, _, h => by simp [zipD] at h
  | _ :: _, [], _, _, h => by simp [zipD] at h
  | a :: l, b :: m, 0, d, h => by simp [zipD] at h; exact ⟨a, b, rfl, rfl, h.symm⟩
  | a :: l, b :: m, i + 1, d, h => by
    simp only [zipD, List.getElem?_cons_succ] at h ⊢
    exact zipD_get h
theorem zipD_len : ∀ (l m : List D), (zipD l m).length = min l.length m.length
  | [], _ => by simp [zipD]
  | _ :: _, [] => by simp [zipD]
  | _ :: l, _ :: m => by simp [zipD, zipD_len l m]
def enuD : Nat → List D → List D
  | _, [] => []
  | n, a :: l => .tup [.int (n : Nat), a] :: enuD (n + 1) l
theorem enuD_get : ∀ {l : List D} {n i : Nat} {d : D}, (enuD n l)[i]? = some d → ∃ a, l[i]? = some a ∧ d = .tup [.int ((n + i : Nat) : Int), a]
  | [], _, _, _, h => by simp [enuD] at h
  | a :: l, n, 0, d, h => by simp [enuD] at h; exact ⟨a, rfl, h.symm⟩
  | a :: l, n, i + 1, d, h => by
    simp only [enuD, List.getElem?_cons_succ] at h ⊢
    obtain ⟨b, h1, h2⟩ := enuD_get h
    exact ⟨b, h1, by rw [h2]; congr 4; omega⟩
theorem enuD_len : ∀ (l : List D) (n : Nat), (enuD n l).length = l.length
  | [], _ => rfl
  | _ :: l, n => by simp [enuD, enuD_len l]
section
variable {X : Cx} {G : Glb} {β : Bt} {W : WX} {a b : Expr} {pos : Pos} {H : Hp} {F : Addr → Prop}
theorem RV.pair {H : Hp} {F : Addr → Prop} {d e : D} {x y : V} {T : Addr} (hT : H T = none) (r1 : RV G H F d x) (r2 : RV G H F e y) : Ext H F (upd H T (.tup [x, y])) F ∧ RV G (upd H T (.tup [x, y])) F (.tup [d, e]) (.ref T) := by
  refine ⟨Ext.one hT, ?_⟩
  unfold RV
  exact ⟨T, [x, y], rfl, upd_same, RVs.cons (r1.ext (Ext.one hT)) (RVs.cons (r2.ext (Ext.one hT)) RVs.nil)⟩
theorem itD_zip {K : PySem.W.Frag} {p q : Addr} {xs ys : List V} {l m : List D} (f : F p) (e : H p = some (.lst xs)) (r : RVs G H F l xs) (f' : F q) (e' : H q = some (.lst ys)) (r' : RVs G H F m ys) : ItD G (Itz K p q) (zipD l m) H F where
  go := fun i d H' F' pr ed => by
    obtain ⟨da, db, h1, h2, rfl⟩ := zipD_get ed
    obtain ⟨x, ex, rx⟩ := (pr.rvs r).get h1
    obtain ⟨y, ey, ry⟩ := (pr.rvs r').get h2
    have z1 := SqL.of (K := K) (pr.k2 p _ f e)
    have z2 := SqL.of (K := K) (pr.k2 q _ f' e')
    refine ⟨⟨xs, ys, x, y, z1, z2, ex, ey⟩, fun v H2 w => ?_⟩
    obtain ⟨T, x', y', rfl, hT, rfl, w1, w2⟩ := w
    have i1 := w1 xs z1
    have i2 := w2 ys z2
    rw [ex] at i1; rw [ey] at i2
    cases i1; cases i2
    exact ⟨F', RV.pair hT rx ry⟩
  stop := fun H' F' pr => ⟨xs, ys, SqL.of (pr.k2 p _ f e), SqL.of (pr.k2 q _ f' e'), by rw [zipD_len, r.len, r'.len]; omega⟩
theorem itD_zipT {K : PySem.W.Frag} {p q : Addr} {xs ys : List V} {l m : List D} (e : H p = some (.tup xs)) (r : RVs G H F l xs) (e' : H q = some (.tup ys)) (r' : RVs G H F m ys) : ItD G (RZ.ItzT K p q) (zipD l m) H F where
  go := fun i d H' F' pr ed => by
    obtain ⟨da, db, h1, h2, rfl⟩ := zipD_get ed
    obtain ⟨x, ex, rx⟩ := (pr.rvs r).get h1
    obtain ⟨y, ey, ry⟩ := (pr.rvs r').get h2
    have z1 := SqT.of (K := K) (pr.k1 p _ rfl e)
    have z2 := SqT.of (K := K) (pr.k1 q _ rfl e')
    refine ⟨⟨xs, ys, x, y, z1, z2, ex, ey⟩, fun v H2 w => ?_⟩
    obtain ⟨T, x', y', rfl, hT, rfl, w1, w2⟩ := w
    have i1 := w1 xs z1
    have i2 := w2 ys z2
    rw [ex] at i1; rw [ey] at i2
    cases i1; cases i2
    exact ⟨F', RV.pair hT rx ry⟩
  stop := fun H' F' pr => ⟨xs, ys, SqT.of (pr.k1 p _ rfl e), SqT.of (pr.k1 q _ rfl e'), by rw [zipD_len, r.len, r'.len]; omega⟩
theorem itD_enu {K : PySem.W.Frag} {p : Addr} {xs : List V} {l : List D} (f : F p) (e : H p = some (.lst xs)) (r : RVs G H F l xs) : ItD G (Ite K p) (enuD 0 l) H F where
  go := fun i d H' F' pr ed => by
    obtain ⟨da, h1, rfl⟩ := enuD_get ed
    obtain ⟨x, ex, rx⟩ := (pr.rvs r).get h1
    have z1 := SqL.of (K := K) (pr.k2 p _ f e)
    refine ⟨⟨xs, x, z1, ex⟩, fun v H2 w => ?_⟩
    obtain ⟨T, x', rfl, hT, rfl, w1⟩ := w
    have i1 := w1 xs z1
    rw [ex] at i1
    cases i1
    rw [Nat.zero_add]
    exact ⟨F', RV.pair hT (by unfold RV; rfl) rx⟩
  stop := fun H' F' pr => ⟨xs, SqL.of (pr.k2 p _ f e), by rw [enuD_len, r.len]; omega⟩
def zipOf : List D → Option (List D)
  | [.lst l, .lst m] => some (zipD l m)
  | [.tup l, .tup m] => some (zipD l m)
  | _ => none
def enuOf : List D → Option (List D)
  | [.lst l] => some (enuD 0 l)
  | _ => none
theorem si_zip {m m' : M D} {p tpos : Pos} {elts : List Expr} {kk : Nat} (hm : X.mg "zip" = none) (ha : PE X a (tE G β W m)) (hb : PE X b (tE G β W m')) (hg : Gl X "zip" := by rfl) (hs0 : starEach [b] X.env = (false, eval b X.env) :: starEach [] X.env := by rfl)
    (hs1 : starEach [a, b] X.env = (false, eval a X.env) :: starEach [b] X.env := by rfl) (hpl : (backTo pos (starEach [b] X.env)).any (·.1) = false := by rfl) :
    PI X (.Tuple elts kk tpos) (.Call (.Name "zip" p) [a, b] [] pos) (tI G β W (mRng zipOf (mEach [m, m']))) := by
  refine PI.imp (RZ.pi_zipA hg hm (sl_cons ha (sl_cons hb sl_nil hs0) hs1) hs1 hpl) fun σ H R q => ?_
  obtain ⟨F, ρ, L, I, q⟩ := q
  refine tG_bind I q fun ds ρ1 vs H1 F1 L1 I1 r t q1 => ?_
  obtain ⟨ds', h, q1⟩ := optM_post q1
  unfold zipOf at h
  split at h
  · cases h
    unfold RVs at r
    obtain ⟨y, ys, rfl, ry, rn⟩ := r
    unfold RVs at rn
    obtain ⟨y', ys', rfl, ry', rn'⟩ := rn
    unfold RVs at rn'
    subst rn'
    unfold RV at ry ry'
    obtain ⟨p, xs, rfl, f, e, r⟩ := ry
    obtain ⟨p', xs', rfl, f', e', r'⟩ := ry'
    exact ⟨p, p', xs, xs', rfl, .inl ⟨SqL.of e, SqL.of e', q1 _ H1 F1 L1 I1 (itD_zip f e r f' e' r') (Stp.refl _ _ _)⟩⟩
  · cases h
    unfold RVs at r
    obtain ⟨y, ys, rfl, ry, rn⟩ := r
    unfold RVs at rn
    obtain ⟨y', ys', rfl, ry', rn'⟩ := rn
    unfold RVs at rn'
    subst rn'
    unfold RV at ry ry'
    obtain ⟨p, xs, rfl, e, r⟩ := ry
    obtain ⟨p', xs', rfl, e', r'⟩ := ry'
    exact ⟨p, p', xs, xs', rfl, .inr ⟨SqT.of e, SqT.of e', q1 _ H1 F1 L1 I1 (itD_zipT e r e' r') (Stp.refl _ _ _)⟩⟩
  · cases h
theorem si_enu {m : M D} {p tpos : Pos} {elts : List Expr} {kk : Nat} (hm : X.mg "enumerate" = none) (ha : PE X a (tE G β W m)) (hg : Gl X "enumerate" := by rfl) (hs0 : starEach [a] X.env = (false, eval a X.env) :: starEach [] X.env := by rfl)
    (hs1 : starEach [a] X.env = [(false, eval a X.env)] := by rfl) :
    PI X (.Tuple elts kk tpos) (.Call (.Name "enumerate" p) [a] [] pos) (tI G β W (mRng enuOf (mEach [m]))) := by
  refine PI.imp (pi_enum hg hm (sl_cons ha sl_nil hs0) hs1) fun σ H R q => ?_
  obtain ⟨F, ρ, L, I, q⟩ := q
  refine tG_bind I q fun ds ρ1 vs H1 F1 L1 I1 r t q1 => ?_
  obtain ⟨ds', h, q1⟩ := optM_post q1
  unfold enuOf at h
  split at h
  · cases h
    unfold RVs at r
    obtain ⟨y, ys, rfl, ry, rn⟩ := r
    unfold RVs at rn
    subst rn
    unfold RV at ry
    obtain ⟨p, xs, rfl, f, e, r⟩ := ry
    exact ⟨p, xs, rfl, SqL.of e, q1 _ H1 F1 L1 I1 (itD_enu f e r) (Stp.refl _ _ _)⟩
  · cases h
end
end Ev
namespace Ev
open PySem PySem.Spec PyProof.Rows L2

/-! ## t[::-1] of a tuple -/
section
variable {prog : Program} {w : World} {A : Around} {E : Value → Shared → Prop} {s : Shared}
theorem back_places (n : Nat) : Builtin.Slice.slicePlaces ((n : Int) - 1) (-1) (-1) = n := by
  unfold Builtin.Slice.slicePlaces
  rw [if_neg (by decide)]
  split
  · rw [show -(-1 : Int) = 1 by decide, Int.ediv_one]; omega
  · omega
theorem sliceApplied_back {sl : Addr} {vl vu vs : Value} {n : Nat} {Q : Int × Int × Nat → Shared → Prop} (hs : s.heap.IsSliceOf sl vl vu vs) (pl : IsPart vl none) (pu : IsPart vu none) (ps : IsPart vs (some (-1)))
    (h : Q ((n : Int) - 1, -1, n) s) : wpAny (model prog w) A (Builtin.Slice.sliceApplied (.ref sl) (pure (n : Int))) Q E s := by
  obtain ⟨o, h1, h2, h3⟩ := id hs
  unfold Builtin.Slice.sliceApplied Builtin.Slice.sliceFields
  refine wpAny_bind (wpAny_bind (wpAny_field h1 h3 (x := vl) rfl (wpAny_bind (wpAny_field h1 h3 (x := vu) rfl (wpAny_bind (wpAny_field h1 h3 (x := vs) rfl (wpAny_pure ?_)))))))
  refine wpAny_bind (HT.slicePart_ ps ?_)
  show wpAny _ _ (if ((-1 : Int) == 0) = true then _ else _) _ _ s
  rw [if_neg (by decide)]
  refine wpAny_bind (HT.slicePart_ pl (wpAny_bind (HT.slicePart_ pu (wpAny_bind (wpAny_pure ?_)))))
  show wpAny _ _ (pure ((n : Int) - 1, (-1 : Int), Builtin.Slice.slicePlaces ((n : Int) - 1) (-1) (-1))) _ _ s
  rw [back_places]
  exact wpAny_pure h
theorem back_pick (xs : Array Value) : ((List.range xs.size).filterMap fun (k : Nat) => xs[((xs.size : Int) - 1 + (k : Int) * -1).toNat]?).toArray = xs.toList.reverse.toArray := by
  congr 1
  have e : ∀ l : List Nat, (∀ k ∈ l, k < xs.size) → (l.filterMap fun (k : Nat) => xs[((xs.size : Int) - 1 + (k : Int) * -1).toNat]?) = l.map fun k => xs.toList.reverse.getD k .none := by
    intro l
    induction l with
    | nil => intro _; rfl
    | cons k l ih =>
      intro hk
      have k1 := hk k List.mem_cons_self
      have e1 : ((xs.size : Int) - 1 + (k : Int) * -1).toNat = xs.size - 1 - k := by omega
      have e2 : xs[((xs.size : Int) - 1 + (k : Int) * -1).toNat]? = some (xs.toList.reverse.getD k .none) := by
        rw [e1, List.getD_eq_getElem?_getD, List.getElem?_reverse (by simpa using k1)]
        simp only [Array.length_toList]
        rw [Array.getElem?_eq_getElem (by omega), Array.getElem?_toList, Array.getElem?_eq_getElem (by omega)]
        rfl
      rw [List.filterMap_cons, e2, ih fun k h => hk k (List.mem_cons_of_mem _ h)]
      rfl
  rw [e _ fun k h => List.mem_range.mp h]
  apply List.ext_getElem
  · simp
  · intro i h1 h2
    have : i < xs.toList.reverse.length := h2
    rw [List.getElem_map, List.getElem_range, List.getD_eq_getElem?_getD, List.getElem?_eq_getElem this]
    rfl
theorem getItem_back {t sl : Addr} {items : Array Value} {vl vu vs : Value} {Q : Value → Shared → Prop} (ht : IsTup s.heap t items) (hs : s.heap.IsSliceOf sl vl vu vs) (pl : IsPart vl none) (pu : IsPart vu none) (ps : IsPart vs (some (-1)))
    (h : Q (.ref s.heap.objs.size) { s with heap := s.heap.push { cls := .type "tuple", data := .seq items.toList.reverse.toArray } }) (hsz : items.size ≤ sizeLine) : wpAny (model prog w) A (getItem (.ref t) (.ref sl)) Q E s := by
  have hok : sizeOk (.seq items.toList.reverse.toArray) := by
    show items.toList.reverse.toArray.size ≤ sizeLine
    rw [List.size_toArray, List.length_reverse, Array.length_toList]; exact hsz
  obtain ⟨o, h1, h2, h3⟩ := id hs
  have tS : s.TypeIs (.ref sl) "slice" := ⟨o, h1, h2⟩
  unfold getItem
  try with_reducible refine wpAny_holding ?_
  first | refine wpAny_bind (wpAny_pure ?_) | skip
  refine wpAny_bind (wpAny_sequenceKey ht.typeIs (by decide) ?_)
  refine wpAny_bind (wpAny_callSpecial?_slot (name := Str.ofString "__getitem__") ht.typeIs PyProof.Rows.slot_tuple_getitem (wpAny_call_entry PyProof.Rows.slot_tuple_getitem ht.typeIs entry_tuple_getitem ?_ (args_tuple_getitem _ _)))
  show wpAny _ _ (Builtin.Tuple.tupleItemsOf (.ref t) >>= _) _ _ s
  refine wpAny_bind (tupleItemsOf_ ht ?_)
  refine wpAny_bind (wpAny_typeOf tS ?_)
  rw [if_pos (by decide)]
  refine wpAny_bind (sliceApplied_back hs pl pu ps ?_)
  show wpAny _ _ (if ((items.size : Int) - 1 == 0 && (-1 : Int) == 1 && items.size == items.size) = true then _ else _) _ _ s
  rw [if_neg (by rw [show ((-1 : Int) == 1) = false by decide, Bool.and_false, Bool.false_and]; exact Bool.false_ne_true), back_pick]
  first
    | exact wpAny_bind (m := Builtin.Tuple.tupleExact _) (wpAny_newObj_type (wpAny_pure ⟨_, rfl, wpAny_pure h⟩) hok)
    | exact wpAny_bind (m := Builtin.Tuple.tupleExact _) (wpAny_newObj_type (wpAny_bind (wpAny_pure (wpAny_pure ⟨_, rfl, wpAny_pure h⟩))) hok)
    | exact wpAny_bind (wpAny_bind (m := Builtin.Tuple.tupleExact _) (wpAny_newObj_type (wpAny_pure (wpAny_pure ⟨_, rfl, wpAny_pure h⟩)) hok))
    | exact wpAny_bind (wpAny_bind (m := Builtin.Tuple.tupleExact _) (wpAny_newObj_type (wpAny_pure ⟨_, rfl, wpAny_pure h⟩) hok))
end
section
variable {X : Cx} {G : Glb} {β : Bt} {W : WX} {e : Expr}
def tBack (K : PySem.W.Frag) (te : TE) : TE := fun σ H Q => te σ H fun x H1 => ∃ a xs, x = .ref a ∧ SqT K H1 a xs ∧ ∀ p, H1 p = none → Q (.ref p) (upd H1 p (.tup xs.reverse))
theorem pe_back {te : TE} {k : Nat} {p1 p2 p3 pos : Pos} (he : PE X e te) : PE X (.Subscript e (.Slice none none (some (.UnaryOp .USub (.Constant (.int 1) k p1) p2)) p3) pos) (tBack X.K te) := by
  refine ⟨fun pins s σ H Q I h => ?_⟩
  refine Subscript_ (thn (he.run pins s σ H _ I h) fun v s1 ⟨x, H1, I1, r1, q1⟩ => ?_)
  obtain ⟨a, xs, ex, hx, q⟩ := q1
  subst ex; cases r1
  have step : L2.PO X (some (.UnaryOp .USub (.Constant (.int 1) k p1) p2)) (tPart (tUn (rU fun i => .int (-i)) (tC (.int 1)))) := po_some (pe_un un_neg pe_int)
  refine wpAny_Slice (thn (po_none.run pins s1 σ H1 (fun o H2 => o = none ∧ H2 = H1) I1 ⟨rfl, rfl⟩) fun vl s2 ⟨l, H2, I2, pl, el, e2⟩ => ?_)
  subst el e2
  refine thn (po_none.run pins s2 σ H2 (fun o H3 => o = none ∧ H3 = H2) I2 ⟨rfl, rfl⟩) fun vu s3 ⟨u, H3, I3, pu, eu, e3⟩ => ?_
  subst eu e3
  refine thn (step.run pins s3 σ H3 (fun o H4 => o = some (-1) ∧ H4 = H3) I3 ⟨1, rfl, -1, rfl, rfl, rfl⟩) fun vs s4 ⟨o, H4, I4, ps, eo, e4⟩ => ?_
  subst eo e4
  have I5 : Inv X pins σ H4 { s4 with heap := s4.heap.push { cls := .type "slice", data := .fields #[vl, vu, vs] } } := I4.kept (t' := s4.toks) fun b ob q => Heap.get?_push_of_some _ q
  obtain ⟨its, r, ht, hz⟩ := I5.tuple hx
  have hlen := r.length
  show wpAny (model X.prog X.w) X.A (subscriptTail e (.Slice none none (some (.UnaryOp .USub (.Constant (.int 1) k p1) p2)) p3) (.ref a) (.ref s4.heap.objs.size)) (EP X pins σ Q) X.xe { s4 with heap := s4.heap.push { cls := .type "slice", data := .fields #[vl, vu, vs] } }
  refine tail_any (ops := [.ref a, .ref s4.heap.objs.size]) ht.typeIs PyProof.Rows.slot_tuple_getitem.lookup ?_ (by with_unfolding_all rfl)
  refine getItem_back ht (Heap.IsSliceOf.new _ vl vu vs) pl pu ps ?_ (by rw [List.size_toArray]; omega)
  refine ⟨.ref _, _, I5.laid (t' := s4.toks) (o := .tup xs.reverse) (fun b ob q => Heap.get?_push_of_some _ q) (Nat.le_refl _) ?_, rfl, q _ (I5.hok.fresh (Nat.le_refl _))⟩
  exact ⟨by rw [List.length_reverse]; exact hz, _, r.reverse, IsTup.new _ _⟩
def dRevT : D → Option D
  | .tup l => some (.tup l.reverse)
  | _ => none
theorem se_revT {m : M D} {k : Nat} {p1 p2 p3 pos : Pos} (he : PE X e (tE G β W m)) : PE X (.Subscript e (.Slice none none (some (.UnaryOp .USub (.Constant (.int 1) k p1) p2)) p3) pos) (tE G β W (mOp1 dRevT m)) := by
  refine PE.imp (pe_back he) fun σ H Q q => ?_
  obtain ⟨F, ρ, L, I, q⟩ := q
  refine tG_bind I q fun d ρ1 v H1 F1 L1 I1 r t1 q1 => ?_
  obtain ⟨x, ex, q1⟩ := optM_post q1
  cases d with
  | tup l =>
    cases ex
    unfold RV at r
    obtain ⟨p, xs, rfl, ep, rs⟩ := r
    refine ⟨p, xs, rfl, SqT.of ep, fun t ht => ?_⟩
    have x := Ext.one (F := F1) (o := HO.tup xs.reverse) ht
    refine q1 _ _ F1 L1 (I1.ext x) ?_ (Stp.ext x)
    unfold RV
    exact ⟨t, xs.reverse, rfl, upd_same, (rs.ext x).reverse⟩
  | _ => cases ex
/-! the same of an operand -/
def on1 {α : Type} (f : α → Hp → Prop) : List α → Hp → Prop := fun vs H => match vs with
  | [x] => f x H
  | _ => True
def dRevL1 : List D → Option D
  | [.lst l] => some (.lst l.reverse)
  | _ => none
def dRevT1 : List D → Option D
  | [.tup l] => some (.tup l.reverse)
  | _ => none
theorem se_revTO {o : Opd} {k : Nat} {p1 p2 p3 pos : Pos} (he : PE X e (tO G β W o)) : PE X (.Subscript e (.Slice none none (some (.UnaryOp .USub (.Constant (.int 1) k p1) p2)) p3) pos) (tE G β W (mOpN dRevT1 [o])) := by
  refine PE.imp (pe_back he) fun σ H Q q => ?_
  obtain ⟨F, ρ, L, I, q⟩ := q
  refine tOs_bind (os := [o]) (K := on1 fun x H1 => ∃ a xs, x = .ref a ∧ SqT X.K H1 a xs ∧ ∀ p, H1 p = none → Q (.ref p) (upd H1 p (.tup xs.reverse))) I q fun xs ρ1 vs H1 F1 L1 I1 w1 t1 h1 => ?_
  unfold finN at h1
  cases e1 : oL2 ρ1 [o] xs with
  | none => rw [e1] at h1; exact h1.elim
  | some ds =>
    have w2 := w1.late I1 e1
    rw [e1] at h1
    dsimp only at h1
    unfold dRevT1 at h1
    split at h1
    · rename_i d hd
      split at hd
      · cases hd
        obtain ⟨v, rfl, hv⟩ := w2.one
        obtain ⟨a, xs, rfl, ep, rs⟩ := hv.tup
        refine ⟨a, xs, rfl, SqT.of ep, fun t ht => ?_⟩
        have x := Ext.one (F := F1) (o := HO.tup xs.reverse) ht
        refine h1 _ _ F1 L1 (I1.ext x) ?_ (Stp.ext x)
        unfold RV
        exact ⟨t, xs.reverse, rfl, upd_same, (rs.ext x).reverse⟩
      · cases hd
    · exact h1.elim
theorem se_revLO {o : Opd} {k : Nat} {p1 p2 p3 pos : Pos} (he : PE X e (tO G β W o)) : PE X (.Subscript e (.Slice none none (some (.UnaryOp .USub (.Constant (.int 1) k p1) p2)) p3) pos) (tE G β W (mOpN dRevL1 [o])) := by
  refine PE.imp (pe_revL he) fun σ H Q q => ?_
  obtain ⟨F, ρ, L, I, q⟩ := q
  refine tOs_bind (os := [o]) (K := on1 fun x H1 => ∃ a xs, x = .ref a ∧ SqL X.K H1 a xs ∧ ∀ p, H1 p = none → Q (.ref p) (upd H1 p (.lst xs.reverse))) I q fun xs ρ1 vs H1 F1 L1 I1 w1 t1 h1 => ?_
  unfold finN at h1
  cases e1 : oL2 ρ1 [o] xs with
  | none => rw [e1] at h1; exact h1.elim
  | some ds =>
    have w2 := w1.late I1 e1
    rw [e1] at h1
    dsimp only at h1
    unfold dRevL1 at h1
    split at h1
    · rename_i d hd
      split at hd
      · cases hd
        obtain ⟨v, rfl, hv⟩ := w2.one
        obtain ⟨a, xs, rfl, ep, rs⟩ := hv.lst
        exact ⟨a, xs, rfl, SqL.of ep, fun t ht => new_lst ht rs.reverse fun v' H' F' x r => h1 v' H' F' L1 (I1.ext x) r (Stp.ext x)⟩
      · cases hd
    · exact h1.elim
theorem sa_revLO {o : Opd} {k : Nat} {p1 p2 p3 pos : Pos} (he : PE X e (tO G β W o)) : PE X (.Subscript e (.Slice none none (some (.UnaryOp .USub (.Constant (.int 1) k p1) p2)) p3) pos) (tA G β W (aOpN dRevL1 [o])) := by
  refine PE.imp (pe_revL he) fun σ H Q q => ?_
  obtain ⟨F, ρ, L, I, q⟩ := q
  refine tOs_bindA (os := [o]) (K := on1 fun x H1 => ∃ a xs, x = .ref a ∧ SqL X.K H1 a xs ∧ ∀ p, H1 p = none → Q (.ref p) (upd H1 p (.lst xs.reverse))) I q fun xs ρ1 vs H1 F1 L1 I1 w1 t1 h1 => ?_
  unfold finAN at h1
  cases e1 : oL2 ρ1 [o] xs with
  | none => rw [e1] at h1; exact h1.elim
  | some ds =>
    have w2 := w1.late I1 e1
    rw [e1] at h1
    dsimp only at h1
    unfold dRevL1 at h1
    split at h1
    · rename_i d hd
      split at hd
      · cases hd
        obtain ⟨v, rfl, hv⟩ := w2.one
        obtain ⟨a, xs, rfl, ep, rs⟩ := hv.lst
        exact ⟨a, xs, rfl, SqL.of ep, fun t ht => new_own I1 ht rs.reverse h1⟩
      · cases hd
    · exact h1.elim
/-- the slot at i holds a tuple -/
def isTupAt (i : Nat) (ρ : List Sl) : Bool := match ρ[i]? with
  | some (.sh (.tup _)) => true
  | _ => false
end
theorem calm_cons {f : D → M Unit} {fs : List (D → M Unit)} (h : Calm f) (hs : ∀ g ∈ fs, Calm g) : ∀ g ∈ f :: fs, Calm g := fun g hg => (List.mem_cons.mp hg).elim (fun e => e ▸ h) (hs g)
/-! == and != of texts -/
def dEqS : D → D → Option D
  | .str x, .str y => some (.bl (decide (x = y)))
  | _, _ => none
def dNeS : D → D → Option D
  | .str x, .str y => some (.bl (!decide (x = y)))
  | _, _ => none
theorem RW.strD {G : Glb} {H : Hp} {F : Addr → Prop} {x : Str} {v : V} (h : RW G H F (.str x) v) : v = .str x := by
  rcases h with h | ⟨a, _, r⟩
  · unfold RV at h; exact h
  · exact r.elim
theorem dec_strV {x y : Str} : decide (V.str x = V.str y) = decide (x = y) := by
  rw [Bool.eq_iff_iff]
  simp
theorem ok_eqS (G : Glb) : Ok2 G rEq dEqS := by
  intro x y dx dy d H F Q hx hy e q
  unfold dEqS at e
  split at e
  · cases e
    cases hx.strD
    cases hy.strD
    exact ⟨rfl, by rw [dec_strV]; exact done (.bl _) q⟩
  · cases e
theorem ok_neS (G : Glb) : Ok2 G rNe dNeS := by
  intro x y dx dy d H F Q hx hy e q
  unfold dNeS at e
  split at e
  · cases e
    cases hx.strD
    cases hy.strD
    exact ⟨rfl, by rw [dec_strV]; exact done (.bl _) q⟩
  · cases e
theorem v_eqS {x y : Str} {K : D → Prop} (k : K (.bl (decide (x = y)))) : On (dEqS (.str x) (.str y)) K := k
theorem v_neS {x y : Str} {K : D → Prop} (k : K (.bl (!decide (x = y)))) : On (dNeS (.str x) (.str y)) K := k
theorem v_eqSS {x : Str} {K : D → Prop} (k : K (.bl true)) : On (dEqS (.str x) (.str x)) K := by
  refine v_eqS ?_
  rw [decide_eq_true rfl]; exact k
instance i_v_eqSS {x : Str} {K : D → Prop} : Step (On (dEqS (.str x) (.str x)) K) (K (.bl true)) := ⟨fun h => v_eqSS h⟩
theorem v_neSS {x : Str} {K : D → Prop} (k : K (.bl false)) : On (dNeS (.str x) (.str x)) K := by
  refine v_neS ?_
  rw [decide_eq_true rfl]; exact k
instance i_v_neSS {x : Str} {K : D → Prop} : Step (On (dNeS (.str x) (.str x)) K) (K (.bl false)) := ⟨fun h => v_neSS h⟩
section
variable {α : Type} {c : List Sl → Bool} {m1 m2 : M α} {ρ : List Sl} {P : α → List Sl → Prop}
theorem r_altT (hc : c ρ = true) (h : Sat (m1 ρ) P) : Sat (altM c m1 m2 ρ) P := by unfold altM; rw [if_pos hc]; exact h
theorem r_altF (hc : c ρ = false) (h : Sat (m2 ρ) P) : Sat (altM c m1 m2 ρ) P := by unfold altM; rw [if_neg (by rw [hc]; exact Bool.false_ne_true)]; exact h
theorem v_revT {l : List D} {K : D → Prop} (k : K (.tup l.reverse)) : On (dRevT (.tup l)) K := k
instance i_v_revT {l : List D} {K : D → Prop} : Step (On (dRevT (.tup l)) K) (K (.tup l.reverse)) := ⟨fun h => v_revT h⟩
theorem v_revT1 {l : List D} {K : D → Prop} (k : K (.tup l.reverse)) : On (dRevT1 [.tup l]) K := k
instance i_v_revT1 {l : List D} {K : D → Prop} : Step (On (dRevT1 [.tup l]) K) (K (.tup l.reverse)) := ⟨fun h => v_revT1 h⟩
theorem v_revL1 {l : List D} {K : D → Prop} (k : K (.lst l.reverse)) : On (dRevL1 [.lst l]) K := k
instance i_v_revL1 {l : List D} {K : D → Prop} : Step (On (dRevL1 [.lst l]) K) (K (.lst l.reverse)) := ⟨fun h => v_revL1 h⟩
end
end Ev
namespace Ev
open PySem PySem.Spec PyProof.Rows L2

/-! ## try: body, except C as n: suite, the caught exception tracked as a value -/
theorem exoOk {P : Program} {w : World} {H : Hp} {h : Heap} {a C : Addr} {d : Option Addr} {oe : Obj} {vs : Array Value} (e : h.get? a = some oe) (z : Zc (.ref C) d oe) (dt : oe.data = .fields vs) : ObjOk P w H h a (.ext (ExO C d a)) :=
  ⟨⟨oe, vs, e, z.1, z.2, dt⟩, ⟨oe, e⟩, fun _ _ ⟨o, v, q, r⟩ k => ⟨o, v, k o q, r⟩⟩
section
variable {X : Cx} {pins : List (Addr × Obj)} {σ : L2.St} {H : Hp} {s : Shared}
/-- an object of ours that stands untracked is tracked from now on -/
theorem track {a C : Addr} {d : Option Addr} {oe : Obj} {vs : Array Value} (I : Inv X pins σ H s) (e : s.heap.get? a = some oe) (z : Zc (.ref C) d oe) (dt : oe.data = .fields vs) (na : H a = none) (nL : a ≠ X.env.locals) (n0 : X.s_0.heap.get? a = none)
    (np : ∀ p ∈ X.pn ++ pins, p.1 ≠ a) : Inv X pins σ (upd H a (.ext (ExO C d a))) s := by
  have up : ∀ b, b ≠ a → upd H a (.ext (ExO C d a)) b = H b := fun b h => upd_ne h
  have ne : ∀ b u, H b = some u → b ≠ a := fun b u q r => by rw [r, na] at q; cases q
  refine ⟨I.ok, I.os, I.bare, ⟨I.base.keep, I.base.slot, fun b o q n hx => ?_, I.base.there, fun b xs q => ?_, fun b o u q => ?_, fun b ps q => ?_⟩, I.loc, I.cell, ?_, fun x c q => ?_, fun p hp => ?_, I.hok.laidN (fun _ _ q => q) na (exoOk e z dt), I.len⟩
  · rw [up b fun r => by rw [r, n0] at q; cases q]; exact I.base.free b o q n hx
  · have r := I.base.tups b xs q
    rw [up b (ne b _ r)]; exact r
  · have r := I.base.frzs b o u q
    rw [up b (ne b _ r)]; exact r
  · obtain ⟨m, r⟩ := I.base.tbls b ps q
    exact ⟨m, by rw [up b (ne b _ r)]; exact r⟩
  · rw [up _ (Ne.symm nL)]; exact I.free
  · obtain ⟨v, o, ho, hd⟩ := I.cell x c q
    rw [up c fun r => by rw [r, e] at ho; cases ho; rw [dt] at hd; cases hd]
    exact I.freeC x c q
  · obtain ⟨q1, q2, q3⟩ := I.pin p hp
    exact ⟨q1, by rw [up _ (np p hp)]; exact q2, q3⟩
theorem toSuite {a : Addr} (I : Inv X pins σ H s) : Inv (X.suite a (X.pn ++ pins)) [] σ H s :=
  ⟨I.ok.suite _ _, I.os, I.bare, I.base, I.loc, I.cell, I.free, I.freeC, fun p hp => I.pin p (by rw [List.append_nil] at hp; exact hp), I.hok, I.len⟩
theorem ofSuite {a : Addr} (I : Inv (X.suite a (X.pn ++ pins)) [] σ H s) (ok : X.Ok) : Inv X pins σ H s :=
  ⟨ok, I.os, I.bare, I.base, I.loc, I.cell, I.free, I.freeC, fun p hp => I.pin p (by rw [List.append_nil]; exact hp), I.hok, I.len⟩
end
/-- what the clause wishes of an exception of the body -/
def wVal (K : PySem.W.Frag) (c : Value) (i : Nat) (ts : TS) (Wout : WX) (D : Ends) : WX := fun cls d σ H =>
  ∃ (C : Addr) (b : Bool), cls = .ref C ∧ PySem.W.exmOne K cls c = some b ∧ (b = true → ∀ a, H a = none → ts { nx := fun σ' H' => D.nx (σ'.set i none) H', rt := D.rt, bk := fun σ' H' => D.bk (σ'.set i none) H', ct := fun σ' H' => D.ct (σ'.set i none) H' } (σ.set i (some (.ref a))) (upd H a (.ext (ExO C d a)))) ∧
    (b = false → Wout cls d σ H)
section
variable {X : Cx} {x n : Str} {c : Value} {i : Nat} {body suite : List Stmt} {b₀ : Stmt} {np pos pos' : Pos} {tb : WX → TS} {ts : TS} {Wout : WX}
theorem ps_tryV (hs : X.stack = X.env :: X.outer) (hf : X.env.frame = some X.env.locals) (hex : X.ex = []) (hN : X.N.Nodup) (hi : X.N[i]? = some n) (hln : X.env.kindOf n = some .local) (hc : Names X x c) (tk : Takes X Wout)
    (hb : ∀ (W : WX) (pn : List (Addr × Obj)) (xe : Value → Shared → Prop), Takes (X.tr pn xe) W → PassesOwn (model X.prog X.w) X.A X.env xe → PSs (X.tr pn xe) body (tb W))
    (hsu : ∀ (a : Addr) (pn : List (Addr × Obj)), PSs (X.suite a pn) (b₀ :: suite) ts) :
    PS X (.Try body [.ExceptHandler (some (.Name x np)) (some n) (b₀ :: suite) pos'] [] [] pos) (fun D σ H => tb (wVal X.K c i ts Wout D) D σ H) := by
  refine ⟨fun pins s σ H D I h => ?_⟩
  have ok := I.ok
  have frm : X.A.frames = some (X.env :: X.outer) := by rw [ok.frames, hs]
  refine wpAny_Try_except ?_
  refine wpAny_mono ((hb (wVal X.K c i ts Wout D) (X.pn ++ pins) (fun e s₁ => wpAny (model X.prog X.w) X.A (noteFrame e X.env) (fun _ s₂ => wpAny (model X.prog X.w) X.A (setFlight e none) (fun _ s₃ => wpAny (model X.prog X.w) X.A (handleBy e X.env [.ExceptHandler (some (.Name x np)) (some n) (b₀ :: suite) pos']) (SP X pins D) X.xe s₃) X.xe s₂) X.xe s₁) (fun u s' xx => ?_) PassesOwn.looking).run [] s σ H D (I.toTry _) h) (fun f s1 hsp => ?_) (fun e s1 he => he)
  · obtain ⟨a, B, sI, pins', σ', H', cls, d, rfl, J', nb, up, sky, na, os, ag, C, b, rfl, hb1, hyes, hno⟩ := xx
    have J : Inv X pins σ' H' sI := J'.ofTry ok
    have sk : Sky B (X.env :: X.outer) a (Zc (.ref C) d) X.env.locals s'.heap := by rw [← hs]; exact sky
    show wpAny (model X.prog X.w) X.A (noteFrame (.ref a) X.env) _ _ _
    refine Sky.land Zc.steady frm hf sk fun h3 f3 u3 => ?_
    have J3 : Inv X pins σ' H' { s' with heap := h3 } := J.landed nb f3.1 (up.trans u3) os ag
    obtain ⟨o3, v3, g3, z3, d3⟩ := f3.there
    have out : ∀ {h : Heap} {o : Obj} {vs : Array Value}, h.FunFrames B (X.env :: X.outer) → h.get? a = some o → o.data = .fields vs → a ∉ frs (X.env :: X.outer) := fun {h o vs} ff e dd hm => by
      obtain ⟨_, o', e', hnf⟩ := ff.mem hm
      rw [e] at e'; cases e'; exact hnf _ dd
    have nfr := out f3.2.2.1 g3 d3
    have nL : a ≠ X.env.locals := fun z => nfr (List.mem_filterMap.mpr ⟨X.env, List.mem_cons_self, by rw [hf, z]⟩)
    have nF : a ∉ X.fs := fun hm => by
      obtain ⟨e, he, q⟩ := List.mem_filterMap.mp hm
      exact nfr (List.mem_filterMap.mpr ⟨e, List.mem_cons_of_mem _ he, q⟩)
    have nfs : a ∉ frs X.stack := by rw [hs]; exact nfr
    have nB : B.get? a = none := f3.2.1
    have nI : sI.heap.get? a = none := by
      cases q : sI.heap.get? a with
      | none => rfl
      | some o => rw [nb a o q nfs] at nB; cases nB
    have n0 : X.s_0.heap.get? a = none := by
      cases q : X.s_0.heap.get? a with
      | none => rfl
      | some o =>
        obtain ⟨o', q'⟩ := J.base.there a o q (by rw [hex]; exact List.not_mem_nil)
        rw [nI] at q'; cases q'
    have np' : ∀ p ∈ X.pn ++ pins, p.1 ≠ a := fun p hp z => by
      have q := (J.pin p hp).1
      rw [z, nI] at q; cases q
    have T3 : Inv X pins σ' (upd H' a (.ext (ExO C d a))) { s' with heap := h3 } := track J3 g3 z3 d3 na nL n0 np'
    refine wpAny_handleBy_cons (codeAny_handlers_test ?_) (by intro q; cases q)
    have LT : PySem.W.Looks (model X.prog X.w) h3 (typeOf (.ref a)) (.ref C) := fun A Q E s k q => wpAny_typeOf_ref (k _ _ g3) (by rw [z3.1]; exact q)
    have LM := PySem.W.exm_one (M := model X.prog X.w) (J3.kIn) LT hb1
    have asks : ∀ {Q : Value → Shared → Prop} {E : Value → Shared → Prop}, Q c { s' with heap := h3 } → wpAny (model X.prog X.w) (X.A.mark (some (.ref a))) (eval (.Name x np) X.env) Q E { s' with heap := h3 } := fun {Q E} q => by
      obtain ⟨hg, hdbg, hm | ⟨hm, hv, hnn⟩⟩ := hc
      · exact ld_glob (X := X.suite a (X.pn ++ pins)) (toSuite T3) hg hm q hdbg
      · exact ld_blt (X := X.suite a (X.pn ++ pins)) (toSuite T3) hg hm hv q hnn hdbg
    refine asks (LM.here ?_)
    cases b with
    | true =>
      refine codeAny_handlers_suite_as ?_
      refine HandSPX.lands_againZ f3 fun h4 f4 u4 => ?_
      have J4 : Inv X pins σ' H' { s' with heap := h4 } := J.landed nb f4.1 ((up.trans u3).trans u4) os ag
      obtain ⟨o4, v4, g4, z4, d4⟩ := f4.there
      have T4 : Inv X pins σ' (upd H' a (.ext (ExO C d a))) { s' with heap := h4 } := track J4 g4 z4 d4 na nL n0 np'
      refine store_ok (X := X.suite a (X.pn ++ pins)) (v := .ref a) (toSuite T4) hN hi (.inl hln) rfl (fun s5 S5 => ?_) (.inr hln)
      refine wpAny_mono ((hsu a (X.pn ++ pins)).run [] s5 _ _ _ S5 (hyes rfl a na)) (fun f s6 hsp => ?_) (fun _ _ z => False.elim z)
      have fin : ∀ {σ6 : L2.St} {H6 : Hp} {Q : Shared → Prop}, Inv (X.suite a (X.pn ++ pins)) [] σ6 H6 s6 → (∀ s7, Inv X pins (σ6.set i none) H6 s7 → Q s7) → wpAny (model X.prog X.w) X.A (do bindName X.env n .none; unbindBehindTheSuite X.env n pos') (fun _ s7 => Q s7) X.xe s6 := fun {σ6 H6 Q} S6 hq => gone_ok (ofSuite S6 ok) hN hi hln hq
      cases f with
      | next => obtain ⟨σ6, H6, S6, q6⟩ := hsp; exact fin S6 fun s7 J7 => ⟨_, _, J7, q6⟩
      | brk => obtain ⟨σ6, H6, S6, q6⟩ := hsp; exact fin S6 fun s7 J7 => ⟨_, _, J7, q6⟩
      | cont => obtain ⟨σ6, H6, S6, q6⟩ := hsp; exact fin S6 fun s7 J7 => ⟨_, _, J7, q6⟩
      | ret u => obtain ⟨v6, σ6, H6, S6, r6, q6⟩ := hsp; exact fin S6 fun s7 J7 => ⟨_, _, _, J7, r6, q6⟩
    | false =>
      show wpAny _ X.A (handleBy (.ref a) X.env []) _ _ _
      refine wpAny_handleBy_nil ?_
      obtain ⟨k1, k2, k3, oe, vs, T, oT, tt, he, hz, hd, h1, hr⟩ := id f3
      unfold PySem.passOn
      refine wpAny_bind (wpAny_field he hd h1 ?_)
      rw [if_neg (show ¬ ((Value.ref T == Value.none) = true) from by simp)]
      have go : wpAny (model X.prog X.w) X.A (setFlight (.ref a) X.env.frame) (fun _ s4 => wpAny (model X.prog X.w) X.A (throw (.ref a) : Sem Flow) (SP X pins D) X.xe s4) X.xe { s' with heap := h3 } := by
        rw [hf]
        refine HandSPX.setFlight_upZ f3 fun h4 hh4 up4 => wpAny_throw (tk _ _ ?_)
        exact ⟨a, B, sI, pins, σ', H', .ref C, d, rfl, J, nb, (up.trans u3).trans up4, .inr (.inr (by rw [hs]; exact hh4)), na, os, ag, hno rfl⟩
      first
        | exact wpAny_bind (wpAny_pure (wpAny_bind go))
        | exact wpAny_bind go
  · cases f with
    | next => obtain ⟨σ', H', J', q⟩ := hsp; exact wpAny_execs_nil ⟨σ', H', J'.ofTry ok, q⟩
    | brk => obtain ⟨σ', H', J', q⟩ := hsp; exact ⟨σ', H', J'.ofTry ok, q⟩
    | cont => obtain ⟨σ', H', J', q⟩ := hsp; exact ⟨σ', H', J'.ofTry ok, q⟩
    | ret u => obtain ⟨v, σ', H', J', r, q⟩ := hsp; exact ⟨v, σ', H', J'.ofTry ok, r, q⟩
end
/-! ## the plain try -/
def mTry (nc i : Nat) (mb ms : M Flw) : M Flw := fun ρ => match mb ρ with
  | .ex c l ρ1 => if c < nc ∧ i < ρ1.length then (match ms (ρ1.set i (.sh (.ex c l))) with
    | .ok .nx ρ2 => if i < ρ2.length then .ok .nx (ρ2.set i .emp) else .no
    | _ => .no) else .no
  | r => r
section
variable {X : Cx} {G : Glb} {β : Bt} {Wout : WX} {x n : Str} {i nc : Nat} {body suite : List Stmt} {b₀ : Stmt} {np pos pos' : Pos} {mb ms : M Flw} {C0 : Addr}
theorem rv_exc {H : Hp} {F : Addr → Prop} {c : Nat} {l : List D} {dd : Option Addr} {a : Addr} (ha : H a = none) (r : XR G H F c l dd) : RV G (upd H a (.ext (ExO (G.cls c) dd a))) F (.ex c l) (.ref a) := by
  have x : Ext H F (upd H a (.ext (ExO (G.cls c) dd a))) F := Ext.one ha
  unfold RV
  rcases r with ⟨rfl, rfl⟩ | ⟨d, ys, hl, rfl, e, rs⟩
  · exact ⟨a, _, none, [], rfl, upd_same, fun h q => q, RVs.nil, .inl ⟨rfl, rfl⟩⟩
  · exact ⟨a, _, some d, ys, rfl, upd_same, fun h q => q, rs.ext x, .inr ⟨d, hl, rfl, x.keep _ _ e⟩⟩
theorem ss_try (hs : X.stack = X.env :: X.outer) (hf : X.env.frame = some X.env.locals) (hex : X.ex = []) (hN : X.N.Nodup) (hi : X.N[i]? = some n) (hln : X.env.kindOf n = some .local) (hc : Names X x (.ref C0)) (tk : Takes X Wout)
    (hE : ∀ c, c < nc → PySem.W.exmOne X.K (.ref (G.cls c)) (.ref C0) = some true)
    (hb : ∀ (W : WX) (pn : List (Addr × Obj)) (xe : Value → Shared → Prop), Takes (X.tr pn xe) W → PassesOwn (model X.prog X.w) X.A X.env xe → PSs (X.tr pn xe) body (tS G β W mb))
    (hsu : ∀ (a : Addr) (pn : List (Addr × Obj)), PSs (X.suite a pn) (b₀ :: suite) (tS G β Wout ms)) :
    PS X (.Try body [.ExceptHandler (some (.Name x np)) (some n) (b₀ :: suite) pos'] [] [] pos) (tS G β Wout (mTry nc i mb ms)) := by
  refine PS.imp (ps_tryV hs hf hex hN hi hln hc tk hb hsu) fun D σ H q => ?_
  obtain ⟨F, ρ, L, I, q⟩ := q
  refine ⟨F, ρ, L, I, ?_⟩
  unfold mTry at q
  cases e : mb ρ with
  | no => rw [e] at q; exact q
  | ok w ρ1 => rw [e] at q; cases w <;> exact q
  | ex c l ρ1 =>
    rw [e] at q
    dsimp only at q
    split at q
    · rename_i hcl
      intro σ' H' F' L' dd I' xr t
      refine ⟨G.cls c, true, rfl, hE c hcl.1, fun _ a ha => ?_, fun z => nomatch z⟩
      have xt : Ext H' F' (upd H' a (.ext (ExO (G.cls c) dd a))) F' := Ext.one ha
      have I1 := (I'.ext xt).setSh (i := i) hcl.2 (rv_exc ha xr)
      refine ⟨F', _, _, I1, ?_⟩
      have t1 : Stp H F (Own L) (upd H' a (.ext (ExO (G.cls c) dd a))) F' (Own (setL L' i [])) := t.trans ((Stp.ext xt).trans Stp.setL0)
      cases e2 : ms (ρ1.set i (.sh (.ex c l))) with
      | no => rw [e2] at q; exact q
      | ex _ _ _ => rw [e2] at q; exact q.elim
      | ok w ρ2 =>
        rw [e2] at q
        cases w with
        | nx =>
          dsimp only at q
          split at q
          · rename_i hi2
            intro σ2 H2 F2 L2 I2 t2
            exact q _ H2 F2 _ (I2.setEmp hi2) ((t1.trans t2).trans Stp.setL0)
          · exact q.elim
        | bk => exact q.elim
        | ct => exact q.elim
        | rt _ => exact q.elim
    · exact q.elim
end
/-! ## raise -/
def mRaise (c : Nat) : M Flw := fun ρ => .ex c [] ρ
def mRaise1 (c : Nat) (m : M D) : M Flw := bindM m fun d ρ => .ex c [d] ρ
section
variable {X : Cx} {G : Glb} {β : Bt} {W : WX} {x m : Str} {c j : Nat} {p p2 pos pos' : Pos} {C : Addr} {bmB : List Value} {B newId initId : String}
/-- raise X('m'), X an own class without own __init__ -/
theorem ss_raise (hc : X.calm = true) (tk : Takes X W) (F : ExcBaseFacts B newId initId bmB) (q : PySem.W.excIn X.K (G.cls c) bmB newId = true) (gC : X.mg x = some (.ref (G.cls c))) (kC : PySem.W.keepIn X.K (.ref (G.cls c)) = true) (r : Raises X (.ref (G.cls c))) (hg : Gl X x := by rfl) (hdb : (x == ("__debug__" : Str)) = false := by decide) :
    PS X (.Raise (some (.Call (.Name x p) [.Constant (.str m) j p2] [] pos)) none pos') (tS G β W (mRaise c)) :=
  PS.imp (ps_raise hc tk (pmk_own F q gC kC r hg hdb)) fun D σ H ⟨F, ρ, L, I, q⟩ => q σ H F L none I (.inl ⟨rfl, rfl⟩) (Stp.refl _ _ _)
end
/-! ## isinstance of a caught exception -/
section
variable {K : PySem.W.Frag} {x D : Addr} {ox : Obj} {od : Option Obj}
open PySem.W PySem.Calls in
theorem kin_cls {prog : Program} {w : World} {A : Around} {E : Value → Shared → Prop} {s : Shared} {Q : Option Value → Shared → Prop} (C : ExcC K D) (X : K.In s.heap) (I : PySem.W.InstAt s.heap x ox D od) (h : Q (some (.ref D)) { s with toks := s.toks + 1 }) : wpAny (model prog w) A (getAttr? (.ref x) "__class__") Q E s := by
  have hf : PySem.W.findObj K D od "__class__" = some (.bind (.builtin "getset_descriptor.__get__") (.builtin "object.__class__")) := by
    obtain ⟨cd, hc, _⟩ := any_some C.hd
    unfold PySem.W.findObj
    rw [hc, Option.bind_some, C.ha, Option.bind_some]
    simp [C.hn, C.ht]
  obtain ⟨hp, g, d, t, os⟩ := s
  have L0 := I.type (M := model prog w)
  have La := looks_findIn (M := model prog w) X C.hg
  have Lb := looks_findIn (M := model prog w) X C.hk
  have Lc := looks_find (M := model prog w) X I hf
  have below : Looks (model prog w) hp (isInstance (.ref x) (.type "BaseException")) true := L0.andThen (looks_subIn X C.hs)
  have z0 : (false && onTheHeap (Value.builtin "BaseException.__getattribute__")) = false := rfl
  have z2 : (Value.builtin "BaseException.__getattribute__" == Value.builtin "object.__getattribute__") = false := by decide +kernel
  have z1 : (onTheHeap (Value.ref D) && Value.builtin "BaseException.__getattribute__" == Value.builtin "object.__getattribute__") = false := by rw [z2]; rfl
  unfold getAttr? getAttrBy? getAttrBy
  refine wpAny_bind (wpAny_mkText (wpAny_bind (wpAny_attempt (wpAny_holding (wpAny_bind (L0.at (wpAny_bind (La.at ?_))))))))
  show wpAny _ _ (if (onTheHeap (Value.ref D) && Value.builtin "BaseException.__getattribute__" == Value.builtin "object.__getattribute__") = true then _ else _) _ _ _
  rw [z1, if_neg Bool.false_ne_true]
  unfold getAttrByItsOwn hookBefore
  refine wpAny_bind ?_
  rw [if_pos (show onTheHeap (Value.ref D) = true from rfl)]
  refine Lb.at ?_
  refine wpAny_bind (wpAny_attempt (wpAny_holding ?_))
  unfold callGetattribute
  rw [z0, if_neg Bool.false_ne_true]
  unfold boundAndCalled
  rw [PySem.F.excAttr_ValueError.ga.bind (.ref x)]
  refine wpAny_bind (wpAny_pure ?_)
  show wpAny _ _ (call (.builtin "BaseException.__getattribute__") [.ref x, .str "__class__" t]) _ _ _
  refine wpAny_call (codeAny_call_builtin PySem.F.excAttr_ValueError.ga.plain PySem.F.entry_bexc_ga ?_)
  refine @check_slot (model prog w) _ _ ⟨hp, g, d, t + 1, os⟩ "BaseException.__getattribute__" "BaseException" "__getattribute__" (.ref x) [.str "__class__" t] [] _ (by decide +kernel) (by decide +kernel) below (PySem.F.args_bexc_ga (.ref x) (.str "__class__" t)) ?_
  unfold Builtin.«object.__getattribute__»
  refine wpAny_bind (wpAny_of_eq (a := ((Value.ref x : Value), [Value.str "__class__" t])) (by first | rfl | (simp only [slotArgs]; rfl)) ?_)
  refine wpAny_bind (wpAny_pure (wpAny_bind (L0.at (wpAny_bind (Lc.at ?_)))))
  show wpAny _ _ (holding [Value.builtin "object.__class__"] (call (.builtin "getset_descriptor.__get__") [.builtin "object.__class__", .ref x, .ref D]) >>= ret) _ _ _
  refine wpAny_bind (wpAny_holding (wpAny_call (class_get (s := ⟨hp, g, d, t + 1, os⟩) (ox := ox) (od := od) X I C.hm ?_)))
  refine wpAny_pure ?_
  show wpAny _ _ (handedOut (.ref D)) _ _ _
  rw [handedOut_of (v := .ref D) rfl]
  first
    | exact wpAny_pure (wpAny_pure h)
    | exact wpAny_pure h
    | exact wpAny_pure (wpAny_bind (wpAny_pure (wpAny_pure h)))
open PySem.W PySem.Calls in
theorem kitx_obj (C : ExcC K D) : PySem.W.KitX K (.ref x) (.ref D) (fun h => PySem.W.InstAt h x ox D od) where
  ty := fun _ _ _ I => I.type
  it := fun _ _ X _ => by
    obtain ⟨cdD, hcD, _⟩ := any_some C.hd
    unfold clsIn at hcD
    split at hcD
    · rename_i c' d' cd' sl' ho; intro A' Q' E' s' k q; unfold isType loadHead
      exact wpAny_bind (wpAny_loadPart (k _ _ (X _ _ ho)) (wpAny_pure q))
    · cases hcD
  ne := fun h tp dd its n sl X htp => by
    obtain ⟨cdD, hcD, _⟩ := any_some C.hd
    refine Bool.eq_false_iff.mpr fun q => ?_
    have e : D = tp := Value.ref.inj (beq_iff_eq.mp q)
    subst e
    unfold clsIn at hcD
    split at hcD
    · rename_i c' d' cd' sl' ho; cases (X _ _ ho).symm.trans htp
    · cases hcD
  ca := fun X I k => kin_cls C X I k
end
/-- own classes below the first one; none: ValueError -/
def subB (c c' : Nat) : Bool := c == c' || c' == 0
structure ExcG (G : Glb) (nc : Nat) : Prop where
  one : ∀ c, c < nc → ExcC G.K (G.cls c)
  kit : ∀ c c', c < nc → c' < nc → PySem.W.kitOne G.K (.ref (G.cls c)) (.ref (G.cls c')) = some (subB c c')
  kitV : ∀ c, c < nc → PySem.W.kitOne G.K (.ref (G.cls c)) (.type "ValueError") = some true
  kitN : ∀ c, c < nc → PySem.W.kitOne G.K (.type "NoneType") (.ref (G.cls c)) = some false
def clV (G : Glb) : Option Nat → V
  | some c => .ref (G.cls c)
  | none => .ty "ValueError"
def clU (G : Glb) : Option Nat → Value
  | some c => .ref (G.cls c)
  | none => .type "ValueError"
theorem cl_ok (G : Glb) (k : Option Nat) : ClsV (clV G k) (clU G k) := by
  cases k with
  | none => exact .ty _
  | some c => exact .own _
theorem cls_ok (G : Glb) : ∀ ks : List (Option Nat), Paired ClsV (ks.map (clV G)) (ks.map (clU G))
  | [] => .nil
  | k :: ks => .cons (cl_ok G k) (cls_ok G ks)
def isE (nc : Nat) : D → Option Nat → Option Bool
  | .ex c _, some c' => if c < nc ∧ c' < nc then some (subB c c') else none
  | .ex c _, none => if c < nc then some true else none
  | .non, some c' => if c' < nc then some false else none
  | .non, none => some false
  | _, _ => none
def isEs (nc : Nat) (d : D) : List (Option Nat) → Option Bool
  | [] => some false
  | k :: ks => match isE nc d k with
    | some true => some true
    | some false => isEs nc d ks
    | none => none
/-- what isinstance asks of the value -/
def AskX (G : Glb) (nc : Nat) (X : Cx) (d : D) (s : Shared) (u : Value) : Prop := ∃ (t : Value) (P : Heap → Prop), PySem.W.KitX X.K u t P ∧ P s.heap ∧ u ≠ .builtin "__main__.__loader__#opaque" ∧ ∀ k b, isE nc d k = some b → PySem.W.kitOne X.K t (clU G k) = some b
section
variable {X : Cx} {G : Glb} {nc : Nat} {pins : List (Addr × Obj)} {σ : L2.St} {H : Hp} {F : Addr → Prop} {s : Shared}
theorem ask_of (T : ExcG G nc) (hK : G.K = X.K) (I : Inv X pins σ H s) {d : D} {v : V} {u : Value} (rv : RV G H F d v) (r : RelV v u) (hd : isE nc d none ≠ none) : AskX G nc X d s u := by
  cases d with
  | non =>
    unfold RV at rv
    subst rv
    obtain ⟨P, Z, p, hx⟩ := kit_of I r (.base .non)
    refine ⟨_, P, Z, p, hx, fun k b e => ?_⟩
    cases k with
    | none => cases e; exact kit_ty (by decide +kernel)
    | some c =>
      have e : (if c < nc then some false else none) = some b := e
      split at e
      · rename_i h; cases e; rw [← hK]; exact T.kitN c h
      · cases e
  | ex c l =>
    have hc : c < nc := by
      have hd : (if c < nc then some true else none) ≠ none := hd
      by_cases h : c < nc
      · exact h
      · rw [if_neg h] at hd; exact absurd rfl hd
    unfold RV at rv
    obtain ⟨a, φ, od, ys, rfl, e, p, rs, hl⟩ := rv
    cases (show u = Value.ref a from r)
    obtain ⟨q, _, _⟩ := (show ObjOk X.prog X.w H s.heap a (.ext φ) from I.hok a _ e)
    obtain ⟨oe, vs, e1, e2, e3, e4⟩ := p _ q
    have hno : PySem.W.notCls oe = true := by unfold PySem.W.notCls; rw [e4]
    have C : ExcC X.K (G.cls c) := hK ▸ T.one c hc
    have fin : ∀ k b, isE nc (.ex c l) k = some b → PySem.W.kitOne X.K (.ref (G.cls c)) (clU G k) = some b := fun k b e => by
      rw [← hK]
      cases k with
      | none =>
        have e : (if c < nc then some true else none) = some b := e
        rw [if_pos hc] at e
        cases e; exact T.kitV c hc
      | some c' =>
        have e : (if c < nc ∧ c' < nc then some (subB c c') else none) = some b := e
        split at e
        · rename_i h; cases e; exact T.kit c c' hc h.2
        · cases e
    rcases hl with ⟨_, rfl⟩ | ⟨dd, _, rfl, ea⟩
    · exact ⟨_, _, kitx_obj (x := a) (ox := oe) (od := none) C, ⟨e1, e2, hno, by rw [e3]; trivial⟩, (fun z => nomatch z), fin⟩
    · obtain ⟨mA, hns, _⟩ := (show ObjOk X.prog X.w H s.heap dd (.xd _) from I.hok dd _ ea)
      obtain ⟨o, ho, _⟩ := lookIn_ns hns
      exact ⟨_, _, kitx_obj (x := a) (ox := oe) (od := some o) C, ⟨e1, e2, hno, by rw [e3]; exact ho⟩, (fun z => nomatch z), fin⟩
  | _ => exact absurd rfl hd
end
section
variable {X : Cx} {G : Glb} {nc : Nat}
def rIsE (G : Glb) (nc : Nat) (k : Option Nat) : List V → Hp → VK → Prop := fun xs H Q => ∃ x d F b, xs = [x, clV G k] ∧ RV G H F d x ∧ isE nc d none ≠ none ∧ isE nc d k = some b ∧ Q (.bl b) H
theorem call_isE1 (T : ExcG G nc) (hK : G.K = X.K) (k : Option Nat) : CallR X (.builtin "isinstance") (rIsE G nc k) := by
  intro pins s σ H xs us Q I r h
  obtain ⟨x, d, F, b, rfl, rv, hd, e, q⟩ := h
  obtain ⟨u1, u2, rfl, r1, r2⟩ := vals2 r
  have e2 := (cl_ok G k).eq r2
  subst e2
  obtain ⟨t, P, Z, p, hx, a⟩ := ask_of T hK I rv r1 hd
  exact PySem.W.kia_one Z I.kIn p (a k b e) hx fun tk => ⟨.bl b, H, I.tok tk, rfl, q⟩
def rIsEs (G : Glb) (nc : Nat) (ks : List (Option Nat)) : List V → Hp → VK → Prop := fun xs H Q => ∃ x p d F b, xs = [x, .ref p] ∧ H p = some (.tup (ks.map (clV G))) ∧ RV G H F d x ∧ isE nc d none ≠ none ∧ isEs nc d ks = some b ∧ Q (.bl b) H
theorem any_isE {nc : Nat} {d : D} {t : Value} {K : PySem.W.Frag} (a : ∀ k b, isE nc d k = some b → PySem.W.kitOne K t (clU G k) = some b) : ∀ {ks : List (Option Nat)} {b : Bool}, isEs nc d ks = some b → PySem.W.kitAny K t (ks.map (clU G)) = some b
  | [], b, e => by cases e; exact kitAny_nil
  | k :: ks, b, e => by
    unfold isEs at e
    cases e1 : isE nc d k with
    | none => rw [e1] at e; cases e
    | some v =>
      rw [e1] at e
      show (match PySem.W.kitOne K t (clU G k) with | some true => some true | some false => PySem.W.kitAny K t (ks.map (clU G)) | none => none) = some b
      rw [a k v e1]
      cases v with
      | true => exact e
      | false => exact any_isE a e
theorem call_isE2 (T : ExcG G nc) (hK : G.K = X.K) (ks : List (Option Nat)) : CallR X (.builtin "isinstance") (rIsEs G nc ks) := by
  intro pins s σ H xs us Q I r h
  obtain ⟨x, tp, d, F, b, rfl, hT, rv, hd, e, q⟩ := h
  obtain ⟨u1, u2, rfl, r1, r2⟩ := vals2 r
  cases (show u2 = Value.ref tp from r2)
  obtain ⟨t, P, Z, p, hx, a⟩ := ask_of T hK I rv r1 hd
  obtain ⟨_, its, ri, o, h1, h2, n, h3⟩ := (show ObjOk X.prog X.w H s.heap tp (.tup _) from I.hok tp _ hT)
  have e3 := ClsV.all (cls_ok G ks) ri
  subst e3
  obtain ⟨oc, od, dt, sl⟩ := o
  simp only at h2 h3
  subst h2 h3
  exact PySem.W.kia_tup Z I.kIn p h1 (any_isE a e) hx fun tk => ⟨.bl b, H, I.tok tk, rfl, q⟩
def dIsE (nc : Nat) (k : Option Nat) : List D → Option D
  | [d] => if (isE nc d none).isSome then (isE nc d k).map .bl else none
  | _ => none
def dIsEs (nc : Nat) (ks : List (Option Nat)) : List D → Option D
  | [d] => if (isE nc d none).isSome then (isEs nc d ks).map .bl else none
  | _ => none
theorem RW.isE {H : Hp} {F : Addr → Prop} {d : D} {v : V} (h : RW G H F d v) (hd : (Ev.isE nc d none).isSome = true) : RV G H F d v := by
  rcases h with h | ⟨a, _, r⟩
  · exact h
  · cases d with
    | lst l => cases hd
    | dk k l => cases hd
    | dt k l => cases hd
    | _ => exact r.elim
theorem some_ne {α : Type} {o : Option α} (h : o.isSome = true) : o ≠ none := fun z => by rw [z] at h; cases h
theorem ok_isE (k : Option Nat) : OkN G (fun xs H Q => rIsE G nc k (xs ++ [clV G k]) H Q) (dIsE nc k) := by
  intro xs ds d H F Q hx e q
  unfold dIsE at e
  split at e
  · split at e
    · rename_i d0 hs
      obtain ⟨v, rfl, h⟩ := hx.one
      obtain ⟨b, e1, rfl⟩ := Option.map_eq_some_iff.mp e
      exact ⟨v, d0, F, b, rfl, h.isE hs, some_ne hs, e1, done (.bl _) q⟩
    · cases e
  · cases e
theorem ok_isEs (ks : List (Option Nat)) (hl : ks.length ≤ 1000) : OkN G (fun xs H Q => (ks.map (clV G)).length ≤ sizeLine ∧ ∀ p, H p = none → rIsEs G nc ks (xs ++ [.ref p]) (upd H p (.tup (ks.map (clV G)))) Q) (dIsEs nc ks) := by
  intro xs ds d H F Q hx e q
  refine ⟨by rw [List.length_map, sizeLine_eq]; omega, fun p hp => ?_⟩
  unfold dIsEs at e
  split at e
  · split at e
    · rename_i d0 hs
      obtain ⟨v, rfl, h⟩ := hx.one
      obtain ⟨b, e1, rfl⟩ := Option.map_eq_some_iff.mp e
      exact ⟨v, p, d0, F, b, rfl, upd_same, RV.ext (Ext.one hp) (h.isE hs), some_ne hs, e1, q _ _ _ (Ext.one hp) (by unfold RV; rfl)⟩
    · cases e
  · cases e
end
section
variable {X : Cx} {G : Glb} {β : Bt} {W : WX} {nc j : Nat} {a b : Expr} {es : List Expr} {pos pos' p : Pos} {o : Opd} {x : Str}
/-- a class's name -/
theorem pe_own {c : Nat} (hm : X.mg x = some (.ref (G.cls c))) (hg : Gl X x := by rfl) (hd : (x == ("__debug__" : Str)) = false := by decide) : PE X (.Name x p) (tC (clV G (some c))) := pe_glob hg hm rfl hd
theorem pe_verr (hm : X.mg "ValueError" = none) (hg : Gl X "ValueError" := by rfl) : PE X (.Name "ValueError" p) (tC (clV G none)) := pe_bltn hg hm PyProof.Rows.Boot.«ValueError» rfl (by decide) (by decide)
theorem se_isE (T : ExcG G nc) (k : Option Nat) (hI : X.mg "isinstance" = none) (hb : PE X b (tC (clV G k))) (ho : PE X a (tO G β W o)) (hK : G.K = X.K := by rfl) (hgI : Gl X "isinstance" := by rfl)
    (hs : starEach [a, b] X.env = (false, eval a X.env) :: starEach [b] X.env := by rfl) (hs2 : starEach [b] X.env = (false, eval b X.env) :: starEach [] X.env := by rfl)
    (hpl : (backTo pos (starEach [b] X.env)).any (·.1) = false := by rfl) : PE X (.Call (.Name "isinstance" p) [a, b] [] pos) (tE G β W (mOpN (dIsE nc k) [o])) :=
  PE.imp (pe_callB (call_isE1 T hK k) hgI hI bt_isinstance (pa_cons ho (pa_cons hb pa_nil hs2) hs) (by decide) (by decide) hs hpl) fun σ H Q q => opN_imp (ok_isE k) q
/-- names of classes in a row -/
def tCs : List V → TA
  | [] => tNil
  | v :: vs => tCons (tC v) (tCs vs)
theorem tCs_eq : ∀ ks : List V, tCs ks = fun _ H K => K ks H
  | [] => rfl
  | k :: ks => by
    show tCons (tC k) (tCs ks) = _
    rw [tCs_eq ks]
    rfl
theorem pa_own {k : Option Nat} {ks : List (Option Nat)} (h : PE X a (tC (clV G k))) (hr : PA X es (tCs (ks.map (clV G)))) (hs : starEach (a :: es) X.env = (false, eval a X.env) :: starEach es X.env := by rfl) : PA X (a :: es) (tCs ((k :: ks).map (clV G))) := pa_cons h hr hs
theorem pa_own0 : PA X [] (tCs ((([] : List (Option Nat))).map (clV G))) := pa_nil
theorem se_isEs (T : ExcG G nc) (ks : List (Option Nat)) (hl : ks.length ≤ 1000) (hI : X.mg "isinstance" = none) (hb : PA X es (tCs (ks.map (clV G)))) (ho : PE X a (tO G β W o)) (hK : G.K = X.K := by rfl) (hgI : Gl X "isinstance" := by rfl)
    (hs : starEach [a, .Tuple es j pos'] X.env = (false, eval a X.env) :: starEach [.Tuple es j pos'] X.env := by rfl) (hs2 : starEach [.Tuple es j pos'] X.env = (false, eval (.Tuple es j pos') X.env) :: starEach [] X.env := by rfl)
    (hpl : (backTo pos (starEach [.Tuple es j pos'] X.env)).any (·.1) = false := by rfl) : PE X (.Call (.Name "isinstance" p) [a, .Tuple es j pos'] [] pos) (tE G β W (mOpN (dIsEs nc ks) [o])) :=
  PE.imp (pe_callB (call_isE2 T hK ks) hgI hI bt_isinstance (pa_cons ho (pa_cons (pe_tup hb) pa_nil hs2) hs) (by decide) (by decide) hs hpl) fun σ H Q q => by
    have q' := opN_imp (ok_isEs (nc := nc) ks hl) q
    rw [tCs_eq]
    exact q'
end
end Ev
namespace Ev
open PySem PySem.Spec PyProof.Rows L2

/-! ## B.__init__(self, ..), B an own class below ValueError without own __init__ -/
structure BaseI (K : PySem.W.Frag) (B : Addr) : Prop where
  ga : PySem.W.specialIn K (.ref B) "__getattribute__" = some (some (.builtin "type.__getattribute__"))
  rd : PySem.W.readsIn K B (.type "type") = true
  fi : PySem.W.findCls K (.ref B) (.type "type") "__init__" = some (.val (.builtin "ValueError.__init__"))
section
variable {X : Cx} {e : Expr} {es : List Expr} {ta : TA} {x : Str} {B : Addr} {p1 p2 pos : Pos}
theorem pe_baseInit {pl : Sem Bool} (T0 : BaseI X.K B) (hm : X.mg x = some (.ref B)) (ha : PA X (e :: es) ta) (hg : Gl X x := by rfl) (hdb : (x == ("__debug__" : Str)) = false := by decide)
    (hc : eval (.Call (.Attribute (.Name x p1) "__init__" p2) (e :: es) [] pos) X.env = (do
      let ov ← eval (.Name x p1) X.env; standAt p2.atName; let (f, first) ← holding [ov] (getMethod ov "__init__" pl); callWith pos f first (backTo pos (starEach (e :: es) X.env)) (backToKw pos (keywordEach [] X.env))) := by rfl)
    (he : starEach (e :: es) X.env = (false, eval e X.env) :: starEach es X.env := by rfl) (hpl : (backTo pos (starEach es X.env)).any (·.1) = false := by rfl) :
    PE X (.Call (.Attribute (.Name x p1) "__init__" p2) (e :: es) [] pos) (tVeI X.K ta) := by
  refine ⟨fun pins s σ H Q I h => ?_⟩
  refine PySem.W.methodCall_KW (ld_glob I hg hm ?_ hdb) hc
  refine PySem.W.method_cls I.kIn T0.ga (PySem.W.cls_value (mc := .type "type") I.kIn T0.rd T0.fi (by decide +kernel) ?_)
  show wpAny _ _ (callWith pos (Value.builtin "ValueError.__init__") [] (backTo pos (starEach (e :: es) X.env)) []) _ _ _
  refine PyProof.Rows.callWith_method1 (thn (ha.run pos pins _ σ H _ (I.tok _) h) fun us s1 ⟨vs, H1, I1, r1, a, C, ws, ev, hl, T, ea, q⟩ => ?_) he hpl
  subst ev
  cases r1 with
  | @cons _ u0 _ ur ra rw' =>
    obtain rfl : u0 = Value.ref a := ra
    exact oinit_ok T I1 ea (by rw [← Paired.length rw', sizeLine_eq]; omega) fun s' J => ⟨.non, H1, J, rfl, q⟩
end
/-! ## class C(B): def __init__(self, y): B.__init__(self, 'm'); self.f = y -/
def spInit (K : PySem.W.Frag) (C : Addr) (f : Str) : Sp := fun vs H Q _ => ∃ a y, vs = [.ref a, y] ∧ OexC K C ∧ PySem.W.findIn K (.ref C) f = some none ∧ H a = some (exo a C none) ∧ ∀ dx, H dx = none → dx ≠ a → Q .non (upd (upd H dx (exd dx [(f, y)])) a (exo a C (some dx)))
section
variable {P : Program} {w : World} {K : PySem.W.Frag} {mg : Str → Option Value} {base : Heap} {C B f : Addr} {fd : FuncData} {st : Stmt} {qual x fld me ar m : Str} {j : Nat} {p1 p2 p3 p4 p5 p6 p7 p8 p9 : Pos}
theorem ok_initE (F : Fun K "__init__" qual st f fd) (S : FnScope [me, ar] [me, ar] (defScope st)) (T0 : BaseI K B) (hm : mg x = some (.ref B))
    (hb : ∀ (cdv : Value) (A : Around) (outer : List Env) (s : Shared) (H : Hp) (vs : List V) (E : XK), Room 0 (A.deeper (envOfC qual (defScope st) s.heap.objs.size f cdv)) →
      PSs (cxOf L2.CX0 P w K mg base [me, ar] qual (defScope st) f cdv A outer s H E).nox (defBody st) (tSeq (tDrop (tVeI K (tCons (tVar 0) (tCons (tC (.str m)) tNil)))) (tOst K fld (tVar 0) (tVar 1)))) :
    FnOk P w K mg base L2.CX0 1 f fd [me, ar] (spInit K C fld) := by
  refine F.ok S (fun vs H Q E h => ?_) (fun cdv A outer s H vs Q E hr h => ⟨_, hb cdv A outer s H vs E hr, ?_⟩)
  · obtain ⟨a, y, rfl, _⟩ := h; rfl
  · obtain ⟨a, y, rfl, T, hno, ea, q⟩ := h
    have e0 : (L2.start [me, ar] [V.ref a, y])[0]? = some (some (V.ref a)) := rfl
    have e1 : (L2.start [me, ar] [V.ref a, y])[1]? = some (some y) := rfl
    refine ⟨.ref a, e0, a, C, [.str m], rfl, (by show 1 ≤ 1000; decide), T, ea, ?_⟩
    refine ⟨y, e1, .ref a, e0, a, C, rfl, T, hno, .inl ⟨ea, fun dx n ne => q dx n ne⟩⟩

end
/-! ## raise C(e), C with such an __init__ -/
theorem upd_del {H : Hp} {a d : Addr} {o1 o2 o3 o4 : HO} (ha : H a = none) (hd : d ≠ a) : upd (L2.del (upd (upd (upd H a o1) d o2) a o3) a) d o4 = upd H d o4 := by
  funext b
  by_cases hb : b = d
  · rw [hb, upd_same, upd_same]
  · rw [upd_ne hb, upd_ne hb]
    by_cases hba : b = a
    · rw [hba, del_same, ha]
    · rw [del_ne hba, upd_ne hba, upd_ne hb, upd_ne hba]
section
variable {X : Cx} {G : Glb} {β : Bt} {W : WX} {x fld me ar : Str} {c k : Nat} {e : Expr} {p pos pos' : Pos} {C fI : Addr} {fd : FuncData} {m : M D}
theorem ss_raise1 (hc : X.calm = true) (tk : Takes X W) (T : OexC X.K (G.cls c)) (iC : PySem.W.findIn X.K (.ref (G.cls c)) "__init__" = some (some (.ref fI))) (tI : PySem.W.typeIn X.K (.ref fI) = some (.type "function")) (hno : PySem.W.findIn X.K (.ref (G.cls c)) fld = some none)
    (F1 : FnOk X.prog X.w X.K X.mg X.base L2.CX0 k fI fd [me, ar] (spInit X.K (G.cls c) fld)) (hr : Room (k + 1) X.A) (hb : Binds X.K fd [me, ar] []) (hf : G.fld c = [fld]) (gC : X.mg x = some (.ref (G.cls c))) (he : PE X e (tE G β W m)) (hg : Gl X x := by rfl)
    (hdb : (x == ("__debug__" : Str)) = false := by decide) (hs : starEach [e] X.env = (false, eval e X.env) :: starEach [] X.env := by rfl) (hpl : (backTo pos (starEach [] X.env)).any (·.1) = false := by rfl) :
    PS X (.Raise (some (.Call (.Name x p) [e] [] pos)) none pos') (tS G β W (mRaise1 c m)) := by
  refine PS.imp (ps_raise hc tk (pmk_oex (dvs := []) T iC tI F1 hr hb .nil (fun _ _ _ _ _ _ _ z => z.elim) hg gC (pa_cons he pa_nil hs) hdb hs hpl)) fun D σ H ⟨F, ρ, L, I, q⟩ => ?_
  refine tG_bindS I q fun d ρ1 v H1 F1 L1 I1 r t q1 => ?_
  refine ⟨by show 1 ≤ 1000; decide, fun a ha => ?_⟩
  refine ⟨a, v, rfl, T, hno, upd_same, fun dx hdx hne => ⟨rfl, dx, [(fld, v)], upd_same, ?_, ?_, ?_⟩⟩
  · rw [upd_ne hne, upd_same]
  · rw [upd_ne hne] at hdx; exact hdx
  · rw [upd_ne hne] at hdx
    rw [upd_del ha hne]
    have x : Ext H1 F1 (upd H1 dx (.xd [(fld, v)])) F1 := Ext.one hdx
    refine q1 σ _ F1 L1 (some dx) (I1.ext x) (.inr ⟨dx, [v], by simp, rfl, ?_, RVs.cons (r.ext x) RVs.nil⟩) (Stp.ext x)
    rw [hf, upd_same]
    rfl
end
/-! ## err.f -/
def dFld (c : Nat) : List D → Option D
  | [.ex c' [d]] => if c' = c then some d else none
  | _ => none
section
variable {X : Cx} {G : Glb} {β : Bt} {W : WX} {n : Str} {c : Nat} {e : Expr} {pos : Pos} {o : Opd}
def rFldE (K : PySem.W.Frag) (C : Addr) (n : Str) (x : V) (H : Hp) (Q : VK) : Prop := ∃ a φ dd y, x = .ref a ∧ H a = some (.ext φ) ∧ (∀ h, φ h → ExO C (some dd) a h) ∧ H dd = some (.xd [(n, y)]) ∧ Q y H
theorem pe_fldE {te : TE} (T : XfC X.K (G.cls c)) (hno : PySem.W.findIn X.K (.ref (G.cls c)) n = some none) (he : PE X e te) (hb : attributeBase e n X.env (eval e X.env) = eval e X.env := by rfl) : PE X (.Attribute e n pos) (fun σ H Q => te σ H fun x H1 => rFldE X.K (G.cls c) n x H1 Q) := by
  refine ⟨fun pins s σ H Q I h => ?_⟩
  refine attr_of hb (thn (he.run pins s σ H _ I h) fun u s1 hh => ?_)
  obtain ⟨x, H1, I1, rx, a, φ, dd, y, rfl, ea, pp, ed, q⟩ := hh
  obtain rfl : u = Value.ref a := rx
  obtain ⟨hφ, _, _⟩ := (show ObjOk X.prog X.w H1 s1.heap a (.ext φ) from I1.hok a _ ea)
  obtain ⟨oe, vs, e1, e2, e3, e4⟩ := pp _ hφ
  obtain ⟨mA, hns, hr⟩ := (show ObjOk X.prog X.w H1 s1.heap dd (.xd _) from I1.hok dd _ ed)
  obtain ⟨od, ho, hl⟩ := lookIn_ns hns
  have lk : ([(n, y)] : List (Str × V)).lookup n = some y := by simp [List.lookup]
  obtain ⟨u, hu, ru⟩ := RelO.some_of (v := y) (o := mA n) (by rw [← lk]; exact hr n)
  have J : PySem.W.InstAt s1.heap a oe (G.cls c) (some od) := ⟨e1, e2, by unfold PySem.W.notCls; rw [e4], by rw [e3]; exact ho⟩
  exact HandSPX.exc_get I1.kIn J T.ga T.gg T.exC (PySem.W.findObj_own T.hdC hno rfl (by rw [hl, hu])) (handed_of ru) ⟨y, H1, I1.tok _, ru, q⟩
theorem se_fldE (T : XfC X.K (G.cls c)) (hno : PySem.W.findIn X.K (.ref (G.cls c)) n = some none) (hf : G.fld c = [n]) (he : PE X e (tO G β W o)) (hb : attributeBase e n X.env (eval e X.env) = eval e X.env := by rfl) : PE X (.Attribute e n pos) (tE G β W (mOpN (dFld c) [o])) := by
  refine PE.imp (pe_fldE T hno he hb) fun σ H Q q => ?_
  obtain ⟨F, ρ, L, I, q⟩ := q
  refine tOs_bind (os := [o]) (K := on1 fun x H1 => rFldE X.K (G.cls c) n x H1 Q) I q fun xs ρ1 vs H1 F1 L1 I1 w1 t1 h1 => ?_
  unfold finN at h1
  cases e1 : oL2 ρ1 [o] xs with
  | none => rw [e1] at h1; exact h1.elim
  | some ds =>
    have w2 := w1.late I1 e1
    rw [e1] at h1
    dsimp only at h1
    unfold dFld at h1
    split at h1
    · rename_i d hd
      split at hd
      · rename_i c' d'
        split at hd
        · rename_i hcc
          cases hd
          subst hcc
          obtain ⟨v, rfl, hv⟩ := w2.one
          have hv : RV G H1 F1 (.ex c' [d]) v := by
            rcases hv with hv | ⟨a, _, r⟩
            · exact hv
            · exact r.elim
          unfold RV at hv
          obtain ⟨a, φ, od, ys, rfl, ea, pp, rs, hl⟩ := hv
          rcases hl with ⟨z, _⟩ | ⟨dd, _, rfl, ed⟩
          · cases z
          · unfold RVs at rs
            obtain ⟨y, ys', rfl, ry, rn⟩ := rs
            unfold RVs at rn
            subst rn
            rw [hf] at ed
            exact ⟨a, φ, dd, y, rfl, ea, pp, ed, h1 y H1 F1 L1 I1 ry (Stp.refl _ _ _)⟩
        · cases hd
      · cases hd
    · exact h1.elim
end
end Ev
namespace Ev
open PySem PySem.Spec PyProof.Rows L2

/-! ## plain programs that may raise -/
def SatX {α : Type} (r : R α) (P : α → List Sl → Prop) (E : Nat → List D → List Sl → Prop) : Prop := match r with
  | .ok a ρ => P a ρ
  | .ex c l ρ => E c l ρ
  | .no => False
def SatFX (r : FR) (P : Sl → List Sl → Prop) (E : Nat → List D → List Sl → Prop) : Prop := match r with
  | .ok s o => P s o
  | .ex c l o => E c l o
  | .no => False
def seqX (f : Flw) (ρ : List Sl) (b : M Flw) (P : Flw → List Sl → Prop) (E : Nat → List D → List Sl → Prop) : Prop := match f with
  | .nx => SatX (b ρ) P E
  | f => P f ρ
section
variable {α : Type} {ρ : List Sl} {P : α → List Sl → Prop} {PF : Flw → List Sl → Prop} {E : Nat → List D → List Sl → Prop} {a b : M Flw} {r : R α} {ss : List Sl} {R : Sl → List Sl → Prop}
theorem SatX_mono {Q : α → List Sl → Prop} {E' : Nat → List D → List Sl → Prop} (h : SatX r P E) (k : ∀ a ρ, P a ρ → Q a ρ) (k' : ∀ c l ρ, E c l ρ → E' c l ρ) : SatX r Q E' := by
  cases r with
  | ok a ρ => exact k _ _ h
  | ex c l ρ => exact k' _ _ _ h
  | no => exact h
theorem SatFX_mono {f : FR} {Q R : Sl → List Sl → Prop} {E' : Nat → List D → List Sl → Prop} (h : SatFX f R E) (k : ∀ a ρ, R a ρ → Q a ρ) (k' : ∀ c l ρ, E c l ρ → E' c l ρ) : SatFX f Q E' := by
  cases f with
  | ok a ρ => exact k _ _ h
  | ex c l ρ => exact k' _ _ _ h
  | no => exact h
theorem SatFX_of {f : FR} (h : SatF f R) : SatFX f R E := by
  cases f with
  | ok a ρ => exact h
  | ex c l ρ => exact h.elim
  | no => exact h
theorem SatF_ofX {f : FR} (h : SatFX f R fun _ _ _ => False) : SatF f R := by
  cases f with
  | ok a ρ => exact h
  | ex c l ρ => exact h.elim
  | no => exact h
/-- nothing is raised here -/
theorem x_sat (h : Sat r P) : SatX r P E := by
  cases r with
  | ok a ρ => exact h
  | ex c l ρ => exact h.elim
  | no => exact h
/-- the first statement raises nothing -/
theorem x_seq (h : Sat (a ρ) fun w ρ1 => seqX w ρ1 b PF E) : SatX (seqM a b ρ) PF E := by
  show SatX (bindM a _ ρ) PF E
  unfold bindM
  cases e : a ρ with
  | ok w ρ1 =>
    rw [e] at h
    cases w <;> exact h
  | ex c l ρ1 => rw [e] at h; exact h.elim
  | no => rw [e] at h; exact h
/-- the first statement may raise -/
theorem x_seqX (h : SatX (a ρ) (fun w ρ1 => seqX w ρ1 b PF E) E) : SatX (seqM a b ρ) PF E := by
  show SatX (bindM a _ ρ) PF E
  unfold bindM
  cases e : a ρ with
  | ok w ρ1 =>
    rw [e] at h
    cases w <;> exact h
  | ex c l ρ1 => rw [e] at h; exact h
  | no => rw [e] at h; exact h
instance i_x_seqX  : Step (SatX (seqM a b ρ) PF E) (SatX (a ρ) (fun w ρ1 => seqX w ρ1 b PF E) E) := ⟨fun h => x_seqX h⟩
theorem kx_nx (h : SatX (b ρ) PF E) : seqX .nx ρ b PF E := h
instance i_kx_nx  : Step (seqX .nx ρ b PF E) (SatX (b ρ) PF E) := ⟨fun h => kx_nx h⟩
theorem kx_rt {s : Sl} (h : PF (.rt s) ρ) : seqX (.rt s) ρ b PF E := h
instance i_kx_rt {s : Sl} : Step (seqX (.rt s) ρ b PF E) (PF (.rt s) ρ) := ⟨fun h => kx_rt h⟩
theorem kx_bk (h : PF .bk ρ) : seqX .bk ρ b PF E := h
instance i_kx_bk  : Step (seqX .bk ρ b PF E) (PF .bk ρ) := ⟨fun h => kx_bk h⟩
theorem kx_ct (h : PF .ct ρ) : seqX .ct ρ b PF E := h
instance i_kx_ct  : Step (seqX .ct ρ b PF E) (PF .ct ρ) := ⟨fun h => kx_ct h⟩
theorem x_if {t : M Bool} {x y : M α} (h : Sat (t ρ) fun k ρ' => ifK k (SatX (x ρ') P E) (SatX (y ρ') P E)) : SatX (mIf t x y ρ) P E := by
  show SatX (bindM t _ ρ) P E
  unfold bindM
  cases e : t ρ with
  | ok k ρ1 =>
    rw [e] at h
    have h' : ifK k (SatX (x ρ1) P E) (SatX (y ρ1) P E) := h
    cases k with
    | true => exact h'
    | false => exact h'
  | ex c l ρ1 => rw [e] at h; exact h.elim
  | no => rw [e] at h; exact h
instance i_x_if {t : M Bool} {x y : M α} : Step (SatX (mIf t x y ρ) P E) (Sat (t ρ) fun k ρ' => ifK k (SatX (x ρ') P E) (SatX (y ρ') P E)) := ⟨fun h => x_if h⟩
theorem x_raise {c : Nat} (h : E c [] ρ) : SatX (mRaise c ρ) PF E := h
instance i_x_raise {c : Nat} : Step (SatX (mRaise c ρ) PF E) (E c [] ρ) := ⟨fun h => x_raise h⟩
theorem x_raise1 {c : Nat} {m : M D} (h : Sat (m ρ) fun d ρ1 => E c [d] ρ1) : SatX (mRaise1 c m ρ) PF E := by
  show SatX (bindM m _ ρ) PF E
  unfold bindM
  cases e : m ρ with
  | ok k ρ1 => rw [e] at h; exact h
  | ex c l ρ1 => rw [e] at h; exact h.elim
  | no => rw [e] at h; exact h
instance i_x_raise1 {c : Nat} {m : M D} : Step (SatX (mRaise1 c m ρ) PF E) (Sat (m ρ) fun d ρ1 => E c [d] ρ1) := ⟨fun h => x_raise1 h⟩
/-- a loop whose body may raise: here an invariant is wanted (forX_inv) -/
def forXK (f : D → M Unit) (b : M Flw) (ds : List D) (ρ : List Sl) (P : Flw → List Sl → Prop) (E : Nat → List D → List Sl → Prop) : Prop := SatX (forL f b ds ρ) P E
theorem x_for {it : M (List D)} {f : D → M Unit} (h : Sat (it ρ) fun ds ρ' => forXK f b ds ρ' PF E) : SatX (mFor it f b ρ) PF E := by
  show SatX (bindM it _ ρ) PF E
  unfold bindM
  cases e : it ρ with
  | ok k ρ1 => rw [e] at h; exact h
  | ex c l ρ1 => rw [e] at h; exact h.elim
  | no => rw [e] at h; exact h
instance i_x_for {it : M (List D)} {f : D → M Unit} : Step (SatX (mFor it f b ρ) PF E) (Sat (it ρ) fun ds ρ' => forXK f b ds ρ' PF E) := ⟨fun h => x_for h⟩
theorem forX_inv {f : D → M Unit} (I : List D → List Sl → Prop) (step : ∀ d ds ρ, I (d :: ds) ρ → Sat (f d ρ) fun _ ρ1 => SatX (b ρ1) (fun w ρ2 => stepK w ρ2 (I ds) PF) E) (fin : ∀ ρ, I [] ρ → PF .nx ρ) : ∀ (ds : List D) (ρ : List Sl), I ds ρ → forXK f b ds ρ PF E
  | [], ρ, h => fin ρ h
  | d :: ds, ρ, h => by
    have q := step d ds ρ h
    show SatX (bindM (f d) _ ρ) PF E
    unfold bindM
    cases e : f d ρ with
    | ex c l ρ1 => rw [e] at q; exact q.elim
    | no => rw [e] at q; exact q
    | ok u ρ1 =>
      rw [e] at q
      have q1 : SatX (b ρ1) (fun w ρ2 => stepK w ρ2 (I ds) PF) E := q
      dsimp only
      cases e2 : b ρ1 with
      | ex c l ρ2 => rw [e2] at q1; exact q1
      | no => rw [e2] at q1; exact q1
      | ok w ρ2 =>
        rw [e2] at q1
        cases w with
        | nx => exact forX_inv I step fin ds ρ2 q1
        | ct => exact forX_inv I step fin ds ρ2 q1
        | bk => exact q1
        | rt s => exact q1
theorem x_runF {n : Nat} {m : M Flw} (h : SatX (m (ss ++ List.replicate n .emp)) (fun f ρ => endK ss f ρ R) fun c l ρ => endK ss (.rt (.sh .non)) ρ fun _ o => E c l o) : SatFX (runF n m ss) R E := by
  unfold runF
  cases e : m (ss ++ List.replicate n .emp) with
  | no => rw [e] at h; exact h
  | ex c l ρ =>
    rw [e] at h
    obtain ⟨o, e1, q⟩ := On_ex (show On (outsOf ss ρ) fun o => E c l o from h)
    show SatFX (match outsOf ss ρ with | some o => FR.ex c l o | none => FR.no) R E
    rw [e1]
    exact q
  | ok f ρ =>
    rw [e] at h
    cases f with
    | nx =>
      obtain ⟨o, e1, q⟩ := On_ex (show On (outsOf ss ρ) fun o => R (.sh .non) o from h)
      show SatFX (match outsOf ss ρ with | some o => FR.ok (.sh .non) o | none => FR.no) R E
      rw [e1]
      exact q
    | rt s =>
      obtain ⟨o, e1, q⟩ := On_ex (show On (outsOf ss ρ) fun o => R s o from h)
      show SatFX (match outsOf ss ρ with | some o => FR.ok s o | none => FR.no) R E
      rw [e1]
      exact q
    | bk => exact h.elim
    | ct => exact h.elim
/-- a call that may raise: what comes of it -/
def callX (S : List Sl → FR) (ss : List Sl) (os : List Opd) (ρ : List Sl) (P : Sl → List Sl → Prop) (E : Nat → List D → List Sl → Prop) : Prop := SatFX (S ss) (fun s outs => backK os outs ρ (P s)) fun c l outs => backK os outs ρ (E c l)
theorem x_call {S : List Sl → FR} {os : List Opd} {PA : Sl → List Sl → Prop} (nd : (pks os).Nodup) (h : Sat (oL1 os ρ) fun xs ρ' => argK os xs ρ' [] fun ss => callX S ss os ρ' PA E) : SatX (callM S os ρ) PA E := by
  unfold callM bindM
  cases e : oL1 os ρ with
  | ex c l ρ1 => rw [e] at h; exact h.elim
  | no => rw [e] at h; exact h
  | ok xs ρ1 =>
    rw [e] at h
    have h : argK os xs ρ1 [] fun ss => callX S ss os ρ1 PA E := h
    obtain ⟨ss, e1, q⟩ := On_ex h
    have q : SatFX (S ss) _ _ := q
    show SatX (callFin S os xs ρ1) PA E
    unfold callFin
    rw [if_pos nd, e1]
    dsimp only
    cases e2 : S ss with
    | ok r outs => rw [e2] at q; exact q
    | ex c l outs => rw [e2] at q; exact q
    | no => rw [e2] at q; exact q
theorem kx_call {S : List Sl → FR} {os : List Opd} {PA : Sl → List Sl → Prop} {R' : Nat → List D → List Sl → Prop} (sp : SatFX (S ss) R R') (h : ∀ s outs, R s outs → backK os outs ρ (PA s)) (h' : ∀ c l outs, R' c l outs → backK os outs ρ (E c l)) : callX S ss os ρ PA E := SatFX_mono sp h h'
theorem x_set {i : Nat} {m : M Sl} (h : SatX (m ρ) (fun s ρ' => putQ s i ρ' PF) E) : SatX (mSet i m ρ) PF E := by
  unfold mSet bindM
  cases e : m ρ with
  | ex c l ρ1 => rw [e] at h; exact h
  | no => rw [e] at h; exact h
  | ok s ρ1 =>
    rw [e] at h
    have h : i < ρ1.length ∧ putSK s i ρ1 PF := h
    show SatX (putS i s ρ1) PF E
    unfold putS
    rw [if_pos h.1]
    cases s with
    | sh d => exact h.2
    | ow d => exact h.2
    | tr d => exact h.2
    | emp => exact h.2.elim
    | io d => exact h.2.elim
instance i_x_set {i : Nat} {m : M Sl} : Step (SatX (mSet i m ρ) PF E) (SatX (m ρ) (fun s ρ' => putQ s i ρ' PF) E) := ⟨fun h => x_set h⟩
theorem x_va {m : M Sl} {P : D → List Sl → Prop} (h : SatX (m ρ) (fun s ρ' => vaK s ρ' P) E) : SatX (vaM m ρ) P E := by
  unfold vaM bindM
  cases e : m ρ with
  | ex c l ρ1 => rw [e] at h; exact h
  | no => rw [e] at h; exact h
  | ok s ρ1 =>
    rw [e] at h
    have h : vaK s ρ1 P := h
    cases s <;> exact h
instance i_x_va {m : M Sl} {P : D → List Sl → Prop} : Step (SatX (vaM m ρ) P E) (SatX (m ρ) (fun s ρ' => vaK s ρ' P) E) := ⟨fun h => x_va h⟩
theorem x_do {m : M D} (h : SatX (m ρ) (fun _ ρ' => PF .nx ρ') E) : SatX (mDo m ρ) PF E := by
  unfold mDo bindM
  cases e : m ρ with
  | ex c l ρ1 => rw [e] at h; exact h
  | no => rw [e] at h; exact h
  | ok s ρ1 => rw [e] at h; exact h
instance i_x_do {m : M D} : Step (SatX (mDo m ρ) PF E) (SatX (m ρ) (fun _ ρ' => PF .nx ρ') E) := ⟨fun h => x_do h⟩
theorem x_mret {m : M Sl} (h : SatX (m ρ) (fun s ρ' => PF (.rt s) ρ') E) : SatX (mRet m ρ) PF E := by
  unfold mRet bindM
  cases e : m ρ with
  | ex c l ρ1 => rw [e] at h; exact h
  | no => rw [e] at h; exact h
  | ok s ρ1 => rw [e] at h; exact h
instance i_x_mret {m : M Sl} : Step (SatX (mRet m ρ) PF E) (SatX (m ρ) (fun s ρ' => PF (.rt s) ρ') E) := ⟨fun h => x_mret h⟩
/-- try -/
theorem r_try {nc i : Nat} {mb ms : M Flw} (h : SatX (mb ρ) PF fun c l ρ1 => c < nc ∧ i < ρ1.length ∧ updK i (.sh (.ex c l)) ρ1 [] fun ρ2 => Sat (ms ρ2) fun w ρ3 => w = .nx ∧ i < ρ3.length ∧ updK i .emp ρ3 [] fun ρ4 => PF .nx ρ4) : Sat (mTry nc i mb ms ρ) PF := by
  unfold mTry
  cases e : mb ρ with
  | ok w ρ1 => rw [e] at h; exact h
  | no => rw [e] at h; exact h
  | ex c l ρ1 =>
    rw [e] at h
    obtain ⟨h1, h2, h3⟩ := h
    have h3 : Sat (ms (ρ1.set i (.sh (.ex c l)))) fun w ρ3 => w = .nx ∧ i < ρ3.length ∧ updK i .emp ρ3 [] fun ρ4 => PF .nx ρ4 := h3
    dsimp only
    rw [if_pos ⟨h1, h2⟩]
    cases e2 : ms (ρ1.set i (.sh (.ex c l))) with
    | no => rw [e2] at h3; exact h3
    | ex _ _ _ => rw [e2] at h3; exact h3.elim
    | ok w ρ3 =>
      rw [e2] at h3
      obtain ⟨rfl, q1, q2⟩ := h3
      dsimp only
      rw [if_pos q1]
      exact q2
end
/-! ## the table of the exception classes -/
def excRow (K : PySem.W.Frag) (cs : List Addr) (i : Nat) : Bool :=
  let C := cs.getD i 0
  decide (PySem.W.findIn K (.ref C) "__getattribute__" = some (some (.builtin "BaseException.__getattribute__"))) && (decide (PySem.W.findIn K (.ref C) "__getattr__" = some none) && (decide (PySem.W.subIn K (.ref C) (.type "BaseException") = some true) &&
    (PySem.W.hasDictIn K C && (decide (PySem.W.findIn K (.ref C) "__class__" = some (some (.builtin "object.__class__"))) && (decide (PySem.W.mroIn K C (.type "object") = some true) && (decide (PySem.W.typeIn K (.ref C) = some (.type "type")) &&
    (PySem.W.keepIn K (.ref C) && (decide (PySem.W.kitOne K (.ref C) (.type "ValueError") = some true) && (decide (PySem.W.kitOne K (.type "NoneType") (.ref C) = some false) && (decide (PySem.W.exmOne K (.ref C) (.ref (cs.getD 0 0)) = some true) &&
    ((List.range cs.length).all fun j => decide (PySem.W.kitOne K (.ref C) (.ref (cs.getD j 0)) = some (subB i j)))))))))))))
def excTab (K : PySem.W.Frag) (cs : List Addr) : Bool :=
  decide (PySem.W.specialIn K (.builtin "object.__class__") "__get__" = some (some (.builtin "getset_descriptor.__get__"))) && (decide (PySem.W.takesIn K (.builtin "object.__class__") = some true) && ((List.range cs.length).all fun i => excRow K cs i))
structure RaiseK (K : PySem.W.Frag) (C : Addr) : Prop where
  sb : PySem.W.subIn K (.ref C) (.type "BaseException") = some true
  ty : PySem.W.typeIn K (.ref C) = some (.type "type")
  kp : PySem.W.keepIn K (.ref C) = true
  xf : XfC K C
theorem excTab_ok {G : Glb} {cs : List Addr} (hc : ∀ c, G.cls c = cs.getD c 0) (h : excTab G.K cs = true) :
    ExcG G cs.length ∧ (∀ c, c < cs.length → RaiseK G.K (G.cls c)) ∧ ∀ c, c < cs.length → PySem.W.exmOne G.K (.ref (G.cls c)) (.ref (G.cls 0)) = some true := by
  unfold excTab at h
  simp only [Bool.and_eq_true, decide_eq_true_eq, List.all_eq_true, List.mem_range] at h
  obtain ⟨g1, g2, g3⟩ := h
  have row : ∀ c, c < cs.length → excRow G.K cs c = true := g3
  have rw' : ∀ c, c < cs.length → _ := fun c hcl => by
    have q := row c hcl
    unfold excRow at q
    dsimp only at q
    simp only [Bool.and_eq_true, decide_eq_true_eq, List.all_eq_true, List.mem_range] at q
    rw [← hc c, ← hc 0] at q
    exact q
  refine ⟨⟨fun c l => ?_, fun c c' l l' => ?_, fun c l => ?_, fun c l => ?_⟩, fun c l => ?_, fun c l => ?_⟩
  · obtain ⟨q1, q2, q3, q4, q5, q6, q7, q8, q9, q10, q11, q12⟩ := rw' c l
    exact ⟨q1, q2, q3, q4, q5, g1, g2, q6⟩
  · obtain ⟨q1, q2, q3, q4, q5, q6, q7, q8, q9, q10, q11, q12⟩ := rw' c l
    rw [hc c']
    exact q12 c' l'
  · exact (rw' c l).2.2.2.2.2.2.2.2.1
  · exact (rw' c l).2.2.2.2.2.2.2.2.2.1
  · obtain ⟨q1, q2, q3, q4, q5, q6, q7, q8, q9, q10, q11, q12⟩ := rw' c l
    exact ⟨q3, q7, q8, ⟨q1, q2, q3, q4⟩⟩
  · exact (rw' c l).2.2.2.2.2.2.2.2.2.2.1
/-- the class of an own __init__ -/
def oexB (K : PySem.W.Frag) (C : Addr) : Bool := (match K.lookup C with
  | some ⟨.type "type", _, .cls cd, sl⟩ => (match cd.mro, sl.toList with
    | .ref C' :: bm, [_, _, _, _, some (.builtin n), _] => C' == C && (n == "ValueError.__new__" && (!cd.hasDel && (cd.hasDict && PySem.HandSPX.refsVE bm)))
    | _, _ => false)
  | _ => false) && decide (PySem.W.findIn K (.ref C) "__setattr__" = some (some (.builtin "object.__setattr__")))
theorem oexB_ok {K : PySem.W.Frag} {C : Addr} (R : RaiseK K C) (h : oexB K C = true) : OexC K C := by
  unfold oexB at h
  rw [Bool.and_eq_true, decide_eq_true_eq] at h
  obtain ⟨h, hs⟩ := h
  refine ⟨?_, hs, R.sb, R.ty, R.kp⟩
  split at h
  · rename_i dd cd sl ho
    split at h
    · rename_i C' bm k0 k1 k2 k3 n k5 hm hl
      simp only [Bool.and_eq_true, beq_iff_eq, Bool.not_eq_true'] at h
      obtain ⟨rfl, rfl, hdel, hdct, hr⟩ := h
      obtain ⟨nm, bs, mro, ns, qn, hd, sn, sub, ab, col, del⟩ := cd
      dsimp only at hm hdel hdct
      subst hm hdel hdct
      have hsl : sl = #[k0, k1, k2, k3, some (.builtin "ValueError.__new__"), k5] := by
        obtain ⟨l⟩ := sl
        simp only at hl
        rw [hl]
      subst hsl
      exact ⟨nm, qn, ns, bs, bm, sn, sub, ab, col, dd, k0, k1, k2, k3, k5, ho, hr⟩
    · cases h
  · cases h
/-- a class with such an __init__ may be made -/
def InitE (P : Program) (w : World) (mg : Str → Option Value) (base : Heap) (G : Glb) (c : Nat) (fld : Str) : Prop := OexC G.K (G.cls c) ∧ PySem.W.findIn G.K (.ref (G.cls c)) fld = some none ∧ G.fld c = [fld] ∧
  ∃ (fI : Addr) (fd : FuncData) (me ar : Str), PySem.W.findIn G.K (.ref (G.cls c)) "__init__" = some (some (.ref fI)) ∧ PySem.W.typeIn G.K (.ref fI) = some (.type "function") ∧ FnOk P w G.K mg base L2.CX0 1 fI fd [me, ar] (spInit G.K (G.cls c) fld) ∧ Binds G.K fd [me, ar] []
section
variable {X : Cx} {G : Glb} {β : Bt} {W : WX} {x fld : Str} {c : Nat} {e : Expr} {p pos pos' : Pos} {m : M D}
theorem ss_raiseI (hc : X.calm = true) (tk : Takes X W) (Ie : InitE X.prog X.w X.mg X.base G c fld) (gC : X.mg x = some (.ref (G.cls c))) (hr : Room 2 X.A) (he : PE X e (tE G β W m)) (hK : G.K = X.K := by rfl) (hg : Gl X x := by rfl)
    (hdb : (x == ("__debug__" : Str)) = false := by decide) (hs : starEach [e] X.env = (false, eval e X.env) :: starEach [] X.env := by rfl) (hpl : (backTo pos (starEach [] X.env)).any (·.1) = false := by rfl) :
    PS X (.Raise (some (.Call (.Name x p) [e] [] pos)) none pos') (tS G β W (mRaise1 c m)) := by
  unfold InitE at Ie
  rw [hK] at Ie
  obtain ⟨T, hno, hf, fI, fd, me, ar, iC, tI, F1, hb⟩ := Ie
  exact ss_raise1 hc tk T iC tI hno F1 hr hb hf gC he hg hdb hs hpl
end
/-- the statements of a class -/
def clsStmt (s : Stmt) (j : Nat) : Stmt := (match s with
  | .ClassDef (body := b) .. => b
  | _ => []).getD j (.Pass ⟨0, 0, 0, 0⟩)
end Ev
namespace Ev
open PySem PySem.Spec PyProof.Rows L2

/-! ## [e for x in xs if t], xs a list of the frame's own or a caller's, read as it stands -/
def lstAt (i : Nat) (ρ : List Sl) : Option (List D) := match ρ[i]? with
  | some (.ow (.lst l)) => some l
  | some (.io (.lst l)) => some l
  | _ => none
def compV (i : Nat) (vs : List Nat) (f : D → M Unit) (t : M Bool) (m : M D) : Nat → Nat → M (List D)
  | 0, _ => noM
  | n + 1, k => fun ρ => match lstAt i ρ with
    | none => .no
    | some l => match l[k]? with
      | none => .ok [] ρ
      | some d => (bindM (f d) fun _ => bindM t fun c => if c = true then bindM m fun x => bindM (wipeM vs) fun _ => bindM (compV i vs f t m n (k + 1)) fun xs => retM (x :: xs) else bindM (wipeM vs) fun _ => compV i vs f t m n (k + 1)) ρ
def compN (i : Nat) (vs : List Nat) (f : D → M Unit) (t : M Bool) (m : M D) : M Sl := fun ρ => match lstAt i ρ with
  | none => .no
  | some l => if l.length < 1000000 ∧ i ∉ vs then (match compV i vs f t m (l.length + 1) 0 (wipeS vs ρ) with
    | .ok l' ρ' => .ok (.ow (.lst l')) (unwipe vs ρ ρ')
    | _ => .no) else .no
section
variable {G : Glb} {β : Bt} {σ : L2.St} {H : Hp} {F : Addr → Prop} {ρ ρ' : List Sl} {L : Nat → List Addr} {i : Nat}
theorem St.lstAt (I : St G β H F σ ρ L) {l : List D} (e : lstAt i ρ = some l) : ∃ a xs, σ.getD i none = some (.ref a) ∧ H a = some (.lst xs) ∧ RVs G H F l xs := by
  unfold Ev.lstAt at e
  split at e
  · rename_i l' e'
    cases e
    obtain ⟨a, _, ev, xs, ex, rs⟩ := I.slot i _ e'
    exact ⟨a, xs, ev, ex, rs⟩
  · rename_i l' e'
    cases e
    obtain ⟨a, _, ev, xs, ex, rs⟩ := I.slot i _ e'
    exact ⟨a, xs, ev, ex, rs⟩
  · cases e
theorem compV_step {vs : List Nat} {f : D → M Unit} {t : M Bool} {m : M D} {n k : Nat} {xs : List D} (h : compV i vs f t m (n + 1) k ρ = .ok xs ρ') : ∃ l, Ev.lstAt i ρ = some l ∧ ((l[k]? = none ∧ xs = [] ∧ ρ' = ρ) ∨ ∃ d, l[k]? = some d ∧ ∃ ρ1 c ρ2, f d ρ = .ok () ρ1 ∧ t ρ1 = .ok c ρ2 ∧
    ((c = true ∧ ∃ x ρ3 ys, m ρ2 = .ok x ρ3 ∧ compV i vs f t m n (k + 1) (wipeS vs ρ3) = .ok ys ρ' ∧ xs = x :: ys) ∨ (c = false ∧ compV i vs f t m n (k + 1) (wipeS vs ρ2) = .ok xs ρ'))) := by
  unfold compV at h
  cases e : Ev.lstAt i ρ with
  | none => rw [e] at h; cases h
  | some l =>
    rw [e] at h
    dsimp only at h
    refine ⟨l, rfl, ?_⟩
    cases e2 : l[k]? with
    | none => rw [e2] at h; cases h; exact .inl ⟨rfl, rfl, rfl⟩
    | some d =>
      rw [e2] at h
      dsimp only at h
      refine .inr ⟨d, rfl, ?_⟩
      obtain ⟨u, ρ1, e1, h⟩ := bindM_ok h
      obtain ⟨c, ρ2, e2, h⟩ := bindM_ok h
      refine ⟨ρ1, c, ρ2, e1, e2, ?_⟩
      cases c with
      | false =>
        rw [if_neg Bool.false_ne_true] at h
        obtain ⟨_, _, e3, h⟩ := bindM_ok h
        cases e3
        exact .inr ⟨rfl, h⟩
      | true =>
        rw [if_pos rfl] at h
        obtain ⟨x, ρ3, e3, h⟩ := bindM_ok h
        obtain ⟨_, _, e4, h⟩ := bindM_ok h
        cases e4
        obtain ⟨ys, ρ5, e5, h⟩ := bindM_ok h
        cases h
        exact .inl ⟨rfl, x, ρ3, ys, e3, e5, rfl⟩
theorem compN_imp {W : WX} {K : PySem.W.Frag} {vs : List Nat} {f : D → M Unit} {t : M Bool} {m : M D} {Q : VK} (q : tA G β W (compN i vs f t m) σ H Q) :
    tLc (fun σ H R => tVar i σ H fun x H1 => ∃ p ys, x = .ref p ∧ SqL K H1 p ys ∧ R (Itl K p) H1) (tGt G β vs f) (tT G β W0 t) (tE G β W0 m) vs σ H Q := by
  obtain ⟨F1, ρ1, L1, I1, q1⟩ := q
  unfold compN at q1
  cases el0 : Ev.lstAt i ρ1 with
  | none => rw [el0] at q1; exact q1.elim
  | some l0 =>
  rw [el0] at q1
  dsimp only at q1
  split at q1
  · rename_i hlen
    obtain ⟨a, xs0, ea, eH, rs0⟩ := I1.lstAt el0
    refine ⟨.ref a, getD_some ea, a, xs0, rfl, SqL.of eH, fun p hp => ?_⟩
    cases ec : compV i vs f t m (l0.length + 1) 0 (wipeS vs ρ1) with
    | no => rw [ec] at q1; exact q1.elim
    | ex c l ρe => rw [ec] at q1; exact q1.elim
    | ok l ρe =>
      rw [ec] at q1
      dsimp only at q1
      obtain ⟨Lw, Iw, sw⟩ := I1.wipe vs
      have hpL : ¬ Own L1 p := fun ⟨i, h⟩ => by obtain ⟨u, eu, _⟩ := I1.mu i p h; rw [hp] at eu; cases eu
      have hpF : ¬ F1 p := fun h => by obtain ⟨u, eu⟩ := I1.aF p h; rw [hp] at eu; cases eu
      have at_ : ∀ {H2 : Hp} {F2 : Addr → Prop} {ρ2 : List Sl} {L2 : Nat → List Addr} {l2 : List D}, St G β H2 F2 (wipe σ vs) ρ2 L2 → Ev.lstAt i ρ2 = some l2 → ∃ xs, H2 a = some (.lst xs) ∧ RVs G H2 F2 l2 xs := fun {H2 F2 ρ2 L2 l2} I2 e => by
        obtain ⟨a', xs, e1, e2, e3⟩ := I2.lstAt e
        rw [wipe_outD hlen.2, ea] at e1
        cases e1
        exact ⟨xs, e2, e3⟩
      refine ⟨fun k n Hk => ∃ Fk ρ L acc accD xs, k + n = l0.length + 1 ∧ St G β Hk Fk (wipe σ vs) ρ L ∧ Per H F1 Hk Fk ∧ Beside H F1 (Own L1) Hk Fk L p ∧ Hk p = some (.lst acc) ∧ RVs G Hk Fk accD acc ∧ accD.length ≤ k ∧
        compV i vs f t m n k ρ = .ok xs ρe ∧ accD ++ xs = l ∧ ∀ j ∈ vs, ρ[j]? = some .emp ∨ ρ[j]? = none, ⟨l0.length + 1, F1, wipeS vs ρ1, Lw, [], [], l, by omega, Iw.new hp, ⟨fun a u _ => upd_keep hp a u, fun a u _ => upd_keep hp a u, fun _ f => f⟩, ⟨?_, hp, hpF, fun o => hpL (sw p o)⟩, upd_same, RVs.nil, Nat.zero_le _, ec, rfl, fun j hj => wipeS_in hj⟩, ?_⟩
      · refine ⟨fun a u _ => upd_keep hp a u, fun a u _ => upd_keep hp a u, fun a u e => ⟨u, upd_keep hp a u e⟩, fun _ f => f, fun _ f => .inl f, fun a o => ?_⟩
        rcases o with o | o
        · exact .inl (sw a o)
        · rw [List.mem_singleton.mp o]; exact .inr hp
      rintro k n H2 ⟨F2, ρ2, L2, acc, accD, xs, en, I2, p2, B2, ep, ra, la, ek, el, wi⟩
      cases n with
      | zero => unfold compV at ek; cases ek
      | succ n =>
        obtain ⟨l2, e2, ek⟩ := compV_step ek
        obtain ⟨ys2, ey, ry⟩ := at_ I2 e2
        have sq : SqL K H2 a ys2 := SqL.of ey
        rcases ek with ⟨eg, rfl, rfl⟩ | ⟨d, eg, ρ3, c, ρ4, e3, e4, e5⟩
        · rw [List.append_nil] at el
          subst el
          refine .inl ⟨⟨ys2, sq, by rw [← ry.len]; exact List.getElem?_eq_none_iff.mp eg⟩, ?_⟩
          have I3 : St G β H2 F2 σ (unwipe vs ρ1 ρe) L2 := by
            refine I2.swap (by rw [wipe_length]) (unwipe_len _ _ _) fun j => ?_
            by_cases hj : j ∈ vs
            · have own0 : L2 j = [] := (wi j hj).elim (fun e => I2.slot j _ e) fun e => I2.out j (List.getElem?_eq_none_iff.mp e)
              refine .inr ⟨own0, ?_⟩
              rcases unwipe_in (ρ0 := ρ1) hj with ⟨d, e1, e2⟩ | e | e
              · obtain ⟨_, v, ev, rv⟩ := I1.slot j _ e1
                exact .inl ⟨d, v, e2, ev, p2.rv rv⟩
              · exact .inr (.inl e)
              · exact .inr (.inr e)
            · exact .inl ⟨(wipe_outD hj).symm, unwipe_out hj⟩
          refine q1 _ H2 F2 L2 [p] I3 ⟨⟨p, rfl, rfl, acc, ep, ra⟩, by simp, fun a h j hj => ?_, fun a h => ?_, fun a h => ?_⟩ B2.stp
          · rw [List.mem_singleton.mp h] at hj; exact B2.nO ⟨j, hj⟩
          · rw [List.mem_singleton.mp h]; exact B2.nF
          · rw [List.mem_singleton.mp h]; exact ⟨_, ep, rfl⟩
        · obtain ⟨v, ev, rv⟩ := ry.get eg
          refine .inr ⟨⟨ys2, v, sq, ev⟩, fun Hk => ∃ Fk ρ L acc accD xs, k + 1 + n = l0.length + 1 ∧ St G β Hk Fk (wipe σ vs) ρ L ∧ Per H F1 Hk Fk ∧ Beside H F1 (Own L1) Hk Fk L p ∧ Hk p = some (.lst acc) ∧ RVs G Hk Fk accD acc ∧ accD.length ≤ k + 1 ∧
            compV i vs f t m n (k + 1) ρ = .ok xs ρe ∧ accD ++ xs = l ∧ ∀ j ∈ vs, ρ[j]? = some .emp ∨ ρ[j]? = none, fun H' z => ⟨n, Nat.lt_succ_self n, z⟩, fun x H3 y => ?_⟩
          obtain ⟨rfl, y⟩ := y
          have z := y ys2 sq
          rw [ev] at z; cases z
          refine ⟨F2, ρ2, L2, d, ρ3, I2, rv, e3, fun σ4 H4 F4 L4 I4 t4 w4 => ?_⟩
          obtain ⟨B4, ep4⟩ := B2.step ep t4
          have ww : wipe (wipe σ vs) vs = wipe σ vs := wipe_wipe vs
          refine ⟨by rw [w4, ww], tG_ok I4 e4 fun c' H5 F5 L5 I5 rc t5 => ?_⟩
          subst rc
          obtain ⟨B5, ep5⟩ := B4.step ep4 t5
          have p5 := (p2.step I2 t4).step I4 t5
          have ra5 := RVs.step I4 t5 (RVs.step I2 t4 ra)
          have back : ∀ {H' : Hp} {F' : Addr → Prop} {L' : Nat → List Addr} {ρ' : List Sl}, St G β H' F' σ4 ρ' L' → ∃ L'', St G β H' F' (wipe σ vs) (wipeS vs ρ') L'' ∧ ∀ a, Own L'' a → Own L' a := fun {H' F' L' ρ'} I' => by
            obtain ⟨L'', I'', s''⟩ := I'.wipe vs
            rw [w4, ww] at I''
            exact ⟨L'', I'', s''⟩
          have less : ∀ {H' : Hp} {F' : Addr → Prop} {L' L'' : Nat → List Addr}, Beside H F1 (Own L1) H' F' L' p → (∀ a, Own L'' a → Own L' a) → Beside H F1 (Own L1) H' F' L'' p := fun {H' F' L' L''} B s =>
            ⟨⟨B.stp.imm, B.stp.keep, B.stp.there, B.stp.mono, B.stp.newF, fun a o => B.stp.newO a (o.elim (fun o => .inl (s a o)) .inr)⟩, B.new, B.nF, fun o => B.nO (s p o)⟩
          rcases e5 with ⟨rfl, z, ρ6, ys, e6, e7, rfl⟩ | ⟨rfl, e7⟩
          · refine iteT (tG_ok I5 e6 fun y' H6 F6 L6 I6 ry' t6 => ?_)
            obtain ⟨B6, ep6⟩ := B5.step ep5 t6
            have ra6 := RVs.step I5 t6 ra5
            have lacc : acc.length = accD.length := ra6.len.symm
            refine ⟨acc, ep6, by rw [sizeLine_eq]; omega, ?_⟩
            obtain ⟨L7, I7, s7⟩ := back I6
            have B7 := less B6 s7
            have n1 : ∀ b u, immO u = true → H6 b = some u → b ≠ p := fun b u iu eb z => by subst z; rw [ep6] at eb; cases eb; cases iu
            have n2 : ∀ b, F6 b → b ≠ p := fun b f z => B6.nF (z ▸ f)
            refine ⟨F6, _, L7, _, accD ++ [z], ys, by omega, I7.updFree ep6 rfl B7.nF B7.nO, (p5.step I5 t6).updFree ep6 rfl B6.nF, B7.upd ep6 rfl, upd_same, RVs.upd n1 n2 (RVs.append ra6 (RVs.cons ry' RVs.nil)), by rw [List.length_append]; show accD.length + 1 ≤ k + 1; omega, e7, by rw [List.append_assoc]; exact el, fun j hj => wipeS_in hj⟩
          · refine iteF ?_
            obtain ⟨L7, I7, s7⟩ := back I5
            exact ⟨F5, _, L7, acc, accD, xs, by omega, I7, p5, less B5 s7, ep5, ra5, by omega, e7, el, fun j hj => wipeS_in hj⟩
  · exact q1.elim
end
section
variable {X : Cx} {G : Glb} {β : Bt} {W : WX} {elt tg iter : Expr} {ifs : List Expr} {scope : Scope} {own : List (Str × Nat)} {pos : Pos} {f : D → M Unit} {t : M Bool} {m : M D} {i : Nat}
theorem sa_lcN (hc : X.calm = true) (hN : X.N.Nodup) (ho : PE X iter (tVar i)) (ok : BlkOk X.N X.env.scope scope own)
    (hg : ∀ (s : Shared) (H : Hp) (C : Addr) (cl : List (Str × Addr)) (fp : List Addr), PG (X.blk s H scope (compEnvC scope cl C X.env) fp) tg (tGt G β (own.map (·.2)) f)) (ht : ∀ (s : Shared) (H : Hp) (C : Addr) (cl : List (Str × Addr)) (fp : List Addr), PTs (X.blk s H scope (compEnvC scope cl C X.env) fp) ifs (tT G β W0 t))
    (he : ∀ (s : Shared) (H : Hp) (C : Addr) (cl : List (Str × Addr)) (fp : List Addr), PE (X.blk s H scope (compEnvC scope cl C X.env) fp) elt (tE G β W0 m)) (hs : ∀ x, foldedSetIterable iter X.env x = pure x := by intro _; rfl) :
    PE X (.ListComp elt [⟨tg, iter, ifs, 0⟩] scope pos) (tA G β W (altM (isOwnL i) (compN i (own.map (·.2)) f t m) (compM (own.map (·.2)) (mIter (mVar i)) f t m))) :=
  sa_alt (PE.imp (pe_lc hc hN (pi_val itv_list ho) ok hg ht he hs) fun _ _ _ q => compN_imp q) (sa_lc hc hN (si_val (se_var ho)) ok hg ht he hs)
end
section
variable {X : Cx} {G : Glb} {β : Bt} {W : WX} {elt tg iter : Expr} {ifs : List Expr} {scope : Scope} {own : List (Str × Nat)} {pos : Pos} {f : D → M Unit} {t : M Bool} {m : M D} {i : Nat}
theorem ss_setLcN {j : Nat} {y : Str} {py spos : Pos} (hc : X.calm = true) (hN : X.N.Nodup) (hy : X.N[j]? = some y) (hyl : X.env.scope.names.lookup y = some .local)
    (hsw : swapsWith (.ListComp elt [⟨tg, iter, ifs, 0⟩] scope pos) (some (.Name y py)) spos.line X.env = pure true) (ho : PE X iter (tVar i)) (ok : BlkOk X.N X.env.scope scope own)
    (hg : ∀ (s : Shared) (H : Hp) (C : Addr) (cl : List (Str × Addr)) (fp : List Addr), PG (X.blk s H scope (compEnvC scope cl C X.env) fp) tg (tGt G β (own.map (·.2)) f)) (ht : ∀ (s : Shared) (H : Hp) (C : Addr) (cl : List (Str × Addr)) (fp : List Addr), PTs (X.blk s H scope (compEnvC scope cl C X.env) fp) ifs (tT G β W0 t))
    (he : ∀ (s : Shared) (H : Hp) (C : Addr) (cl : List (Str × Addr)) (fp : List Addr), PE (X.blk s H scope (compEnvC scope cl C X.env) fp) elt (tE G β W0 m)) (hs : ∀ x, foldedSetIterable iter X.env x = pure x := by intro _; rfl) :
    PS X (.Assign [.Name y py] (.ListComp elt [⟨tg, iter, ifs, 0⟩] scope pos) spos) (tS G β W (altM (isOwnL i) (mSet j (compN i (own.map (·.2)) f t m)) (mSet j (compM (own.map (·.2)) (mIter (mVar i)) f t m)))) :=
  ss_alt (PS.imp (ps_setLc hc hN hy hyl hsw (pi_val itv_list ho) ok hg ht he hs) fun D σ H ⟨F, ρ, L, I, q⟩ => compN_imp (tA_bindS I q fun s ρ1 v H1 F1 L1 lr _ I1 r t q1 => putS_post I1 r t q1))
    (ss_setLc hc hN hy hyl hsw (si_val (se_var ho)) ok hg ht he hs)
end
/-! rules for the plain program -/
section
variable {α : Type} {i : Nat} {vs : List Nat} {f : D → M Unit} {t : M Bool} {m : M D} {ρ : List Sl} {PA : Sl → List Sl → Prop}
theorem r_compN {l : List D} (hl : lstAt i ρ = some l) (hn : l.length < 1000000) (hi : i ∉ vs) (h : wipQ vs ρ fun ρw => Sat (compV i vs f t m (l.length + 1) 0 ρw) fun l' ρ' => unwQ vs ρ ρ' (PA (.ow (.lst l')))) : Sat (compN i vs f t m ρ) PA := by
  unfold compN
  rw [hl]
  dsimp only
  rw [if_pos ⟨hn, hi⟩]
  have h : Sat (compV i vs f t m (l.length + 1) 0 (wipeS vs ρ)) fun l' ρ' => PA (.ow (.lst l')) (unwipe vs ρ ρ') := h
  cases e : compV i vs f t m (l.length + 1) 0 (wipeS vs ρ) with
  | ok l' ρ' => rw [e] at h; exact h
  | ex _ _ _ => rw [e] at h; exact h.elim
  | no => rw [e] at h; exact h
theorem compV_st {l : List D} (J : Nat → List Sl → Prop) (g : Nat → D → Prop) (hJ : ∀ k ρ, J k ρ → lstAt i ρ = some l)
    (st : ∀ (k : Nat) (d : D) (ρ : List Sl), l[k]? = some d → J k ρ → Sat (f d ρ) fun _ ρ1 => Sat (t ρ1) fun c ρ2 => c = true ∧ Sat (m ρ2) fun x ρ3 => g k x ∧ J (k + 1) (wipeS vs ρ3)) :
    ∀ (n k : Nat) (ρ : List Sl), l.length < k + n → k ≤ l.length → J k ρ → Sat (compV i vs f t m n k ρ) fun l' ρ' => (l'.length = l.length - k ∧ ∀ j x, l'[j]? = some x → g (k + j) x) ∧ J l.length ρ'
  | 0, k, ρ, h1, h2, _ => absurd h1 (by omega)
  | n + 1, k, ρ, h1, h2, hj => by
    unfold compV
    rw [hJ k ρ hj]
    dsimp only
    cases e : l[k]? with
    | none =>
      have hk : l.length ≤ k := List.getElem?_eq_none_iff.mp e
      have : k = l.length := by omega
      subst this
      exact ⟨⟨by simp, fun j x z => by simp at z⟩, hj⟩
    | some d =>
      dsimp only
      have hk : k < l.length := (List.getElem?_eq_some_iff.mp e).1
      rw [Sat_bind]
      refine Sat_mono (st k d ρ e hj) fun u ρ1 q1 => ?_
      rw [Sat_bind]
      refine Sat_mono q1 fun c ρ2 q2 => ?_
      obtain ⟨rfl, q2⟩ := q2
      rw [if_pos rfl, Sat_bind]
      refine Sat_mono q2 fun x ρ3 q3 => ?_
      obtain ⟨gx, j3⟩ := q3
      rw [Sat_bind]
      show Sat (bindM (compV i vs f t m n (k + 1)) _ (wipeS vs ρ3)) _
      rw [Sat_bind]
      refine Sat_mono (compV_st J g hJ st n (k + 1) _ (by omega) (by omega) j3) fun l' ρ' q => ?_
      obtain ⟨⟨z1, z2⟩, z3⟩ := q
      show (_ ∧ _) ∧ _
      refine ⟨⟨by rw [List.length_cons, z1]; omega, fun j x' e' => ?_⟩, z3⟩
      cases j with
      | zero => simp at e'; subst e'; exact gx
      | succ j => rw [show k + (j + 1) = k + 1 + j by omega]; exact z2 j x' (by simpa using e')
/-- .. over items of one kind, the state as it was -/
theorem compV_map {enc : α → D} (g : α → D) (as : List α) (hl : lstAt i ρ = some (as.map enc)) (h : ∀ a ∈ as, Sat (f (enc a) ρ) fun _ ρ1 => Sat (t ρ1) fun k ρ2 => k = true ∧ Sat (m ρ2) fun x ρ3 => x = g a ∧ wipeS vs ρ3 = ρ) :
    Sat (compV i vs f t m ((as.map enc).length + 1) 0 ρ) fun l ρ' => l = as.map g ∧ ρ' = ρ := by
  refine Sat_mono (compV_st (l := as.map enc) (fun _ ρ' => ρ' = ρ) (fun k x => ∃ a, as[k]? = some a ∧ x = g a) (fun k ρ' e => by rw [e]; exact hl) (fun k d ρ' e e2 => ?_) _ 0 ρ (by omega) (by omega) rfl) fun l ρ' q => ?_
  · subst e2
    rw [List.getElem?_map] at e
    obtain ⟨a, ea, rfl⟩ := Option.map_eq_some_iff.mp e
    refine Sat_mono (h a (List.mem_of_getElem? ea)) fun u ρ1 q1 => Sat_mono q1 fun c ρ2 q2 => ?_
    obtain ⟨h1, q2⟩ := q2
    refine ⟨h1, Sat_mono q2 fun x ρ3 q3 => ?_⟩
    exact ⟨⟨a, ea, q3.1⟩, q3.2⟩
  · obtain ⟨⟨q1, q2⟩, q3⟩ := q
    refine ⟨?_, q3⟩
    rw [List.length_map] at q1
    apply List.ext_getElem?
    intro j
    by_cases hj : j < as.length
    · have hj' : j < l.length := by omega
      rw [List.getElem?_eq_getElem hj', List.getElem?_map, List.getElem?_eq_getElem hj]
      obtain ⟨a, ea, ex⟩ := q2 j l[j] (List.getElem?_eq_getElem hj')
      rw [Nat.zero_add, List.getElem?_eq_getElem hj] at ea
      cases ea
      rw [ex]; rfl
    · rw [List.getElem?_eq_none (by omega), List.getElem?_eq_none (by rw [List.length_map]; omega)]
end
section
variable {nc c : Nat} {l : List D} {d : D} {k : Option Nat} {K : D → Prop}
theorem v_isXN (q : K (.bl false)) : On (dIsB (.ex c l) .non) K := q
instance i_v_isXN  : Step (On (dIsB (.ex c l) .non) K) (K (.bl false)) := ⟨fun h => v_isXN h⟩
theorem v_notXN (q : K (.bl true)) : On (dIsNotB (.ex c l) .non) K := q
instance i_v_notXN  : Step (On (dIsNotB (.ex c l) .non) K) (K (.bl true)) := ⟨fun h => v_notXN h⟩
theorem v_isET (h1 : (isE nc d none).isSome = true) (h2 : isE nc d k = some true) (q : K (.bl true)) : On (dIsE nc k [d]) K := by
  refine k_on ?_ q
  show (if (isE nc d none).isSome then (isE nc d k).map D.bl else none) = _
  rw [if_pos h1, h2]; rfl
theorem v_isEF (h1 : (isE nc d none).isSome = true) (h2 : isE nc d k = some false) (q : K (.bl false)) : On (dIsE nc k [d]) K := by
  refine k_on ?_ q
  show (if (isE nc d none).isSome then (isE nc d k).map D.bl else none) = _
  rw [if_pos h1, h2]; rfl
theorem v_isEsT {ks : List (Option Nat)} (h1 : (isE nc d none).isSome = true) (h2 : isEs nc d ks = some true) (q : K (.bl true)) : On (dIsEs nc ks [d]) K := by
  refine k_on ?_ q
  show (if (isE nc d none).isSome then (isEs nc d ks).map D.bl else none) = _
  rw [if_pos h1, h2]; rfl
theorem v_isEsF {ks : List (Option Nat)} (h1 : (isE nc d none).isSome = true) (h2 : isEs nc d ks = some false) (q : K (.bl false)) : On (dIsEs nc ks [d]) K := by
  refine k_on ?_ q
  show (if (isE nc d none).isSome then (isEs nc d ks).map D.bl else none) = _
  rw [if_pos h1, h2]; rfl
theorem v_fldX (q : K d) : On (dFld c [.ex c [d]]) K := k_on (if_pos rfl) q
instance i_v_fldX  : Step (On (dFld c [.ex c [d]]) K) (K d) := ⟨fun h => v_fldX h⟩
end
/-! a, b = [..] -/
def toLst (fs : List (D → M Unit)) : D → M Unit
  | .lst l => toNames fs l
  | _ => noM
section
variable {X : Cx} {G : Glb} {β : Bt} {pos : Pos}
theorem sg_lst {ws : List Nat} {es : List Expr} {k : Nat} {fs : List (D → M Unit)} (hc : X.calm = true) (h : PGs X es (tGts G β ws fs)) (hn : (assignEach es X.env).length = fs.length := by rfl) (hst : (assignEach es X.env).findIdx? (·.1) = none := by rfl) :
    PG X (.Tuple es k pos) (tGt G β ws (toLst fs)) := PG.imp (pg_lst hc h hn hst) fun v σ H Q q => by
  obtain ⟨F, ρ, L, d, ρ', I, r, e, q⟩ := q
  unfold toLst at e
  split at e
  · unfold RV at r
    obtain ⟨p, xs, rfl, f, ep, rs⟩ := r
    refine ⟨p, xs, rfl, SqL.of ep, ?_, F, ρ, L, _, ρ', I, rs, e, q⟩
    rw [← rs.len]
    exact toNames_len e
  · cases e
theorem calm_lst {fs : List (D → M Unit)} (h : ∀ f ∈ fs, Calm f) : Calm (toLst fs) := fun d ρ c l ρ' z => by
  unfold toLst at z
  split at z
  · exact calm_names h _ _ _ _ _ z
  · cases z
theorem r_toLst {fs : List (D → M Unit)} {l : List D} {ρ : List Sl} {P : Unit → List Sl → Prop} (h : Sat (toNames fs l ρ) P) : Sat (toLst fs (.lst l) ρ) P := h
instance i_r_toLst {fs : List (D → M Unit)} {l : List D} {ρ : List Sl} {P : Unit → List Sl → Prop} : Step (Sat (toLst fs (.lst l) ρ) P) (Sat (toNames fs l ρ) P) := ⟨fun h => r_toLst h⟩
end
/-- a callee that raises nothing -/
theorem kx_callF {ρ ss : List Sl} {E : Nat → List D → List Sl → Prop} {R : Sl → List Sl → Prop} {S : List Sl → FR} {os : List Opd} {PA : Sl → List Sl → Prop} (sp : SatF (S ss) R) (h : ∀ s outs, R s outs → backK os outs ρ (PA s)) : callX S ss os ρ PA E :=
  kx_call (R' := fun _ _ _ => False) (SatFX_of sp) h fun _ _ _ z => z.elim
end Ev
namespace Ev
open PySem PySem.Spec PyProof.Rows L2

/-! ## sum of a tuple -/
section
variable {X : Cx}
theorem sumT_raw {prog : Program} {w : World} {A : Around} {E Q : Value → Shared → Prop} {s : Shared} {t : Addr} {its : List Value} {ns : List Int} (hh : A.handled = none) (hl : s.heap.IsTuple t its.toArray) (hi : IntsAre its ns)
    (h : ∀ h' tk t', (∀ b o, s.heap.get? b = some o → h'.get? b = some o) → Q (.int ns.sum t') { s with heap := h', toks := tk }) : wpAny (model prog w) A (call (.builtin "sum") [.ref t]) Q E s := by
  obtain ⟨xs, e⟩ := hi.allInts.items
  have hn : numsOf (intItems xs).toList = ns := by rw [← e]; exact hi.numsOf
  rw [nums_intItems] at hn
  rw [e] at hl
  refine PySem.W.ktm_sumG hh hl fun h' tk t' hk => ?_
  have := h h' tk t' hk
  rw [preSum_eq, List.take_of_length_le (by simp), hn]; exact this
def rSumA (K : PySem.W.Frag) : List V → Hp → VK → Prop := fun vs H Q => ∃ (a : Addr) (ns : List Int), vs = [V.ref a] ∧ (SqL K H a (ns.map V.int) ∨ SqT K H a (ns.map V.int)) ∧ Q (.int ns.sum) H
theorem cr_sumA (hc : X.calm = true) : CallR X (.builtin "sum") (rSumA X.K) := by
  intro pins s σ H vs us Q I r h
  obtain ⟨a, ns, rfl, hs | hs, q⟩ := h
  · exact cr_sum hc pins s σ H _ us Q I r ⟨a, ns, rfl, hs, q⟩
  · obtain ⟨its, rv, ⟨o, ho, hcl, n, hd⟩, _⟩ := I.tuple hs
    rw [Vals.ref1 r]
    exact sumT_raw (I.ok.hd hc) ⟨o, ho, hcl, n, hd⟩ rv.ints fun h' tk t' hk => ⟨.int _, H, I.kept hk, ⟨_, rfl⟩, q⟩
def dSumA : List D → Option D
  | [.tup l] => (D.ints l).map fun ns => .int ns.sum
  | ds => dSum ds
theorem ok_sumA (G : Glb) (K : PySem.W.Frag) : OkN G (rSumA K) dSumA := by
  intro xs ds d H F Q hx e q
  unfold dSumA at e
  split at e
  · obtain ⟨ns, e1, e2⟩ := Option.map_eq_some_iff.mp e
    subst e2
    obtain ⟨v, rfl, h⟩ := hx.one
    obtain ⟨p, ys, rfl, ep, rs⟩ := h.tup
    rw [ints_map e1] at rs
    rw [rs.ints] at ep
    exact ⟨p, ns, rfl, .inr (SqT.of ep), done (.int _) q⟩
  · obtain ⟨a, ns, h1, h2, h3⟩ := ok_sum G K xs ds d H F Q hx e q
    exact ⟨a, ns, h1, .inl h2, h3⟩
end

/-! ## repr of lists and tuples that hold dicts -/
mutual
inductive Rq (h : Heap) : Value → PyData → Prop
  | leaf {v : Value} {d : PyData} {as : List Addr} : Reads h v d as → (d.hasDict = true → sysModules ∉ as) → Rq h v d
  | list {a : Addr} {o : Obj} {vs : Array Value} {n : Nat} {xs : List PyData} : h.get? a = some o → o.cls = .type "list" → o.data = .seq vs n → RqAll h vs.toList xs → Rq h (.ref a) (.list xs)
  | tuple {a : Addr} {o : Obj} {vs : Array Value} {n : Nat} {xs : List PyData} : h.get? a = some o → o.cls = .type "tuple" → o.data = .seq vs n → RqAll h vs.toList xs → Rq h (.ref a) (.tuple xs)
inductive RqAll (h : Heap) : List Value → List PyData → Prop
  | nil : RqAll h [] []
  | cons {v : Value} {vs : List Value} {d : PyData} {ds : List PyData} : Rq h v d → RqAll h vs ds → RqAll h (v :: vs) (d :: ds)
end
mutual
theorem Rq.reads {h : Heap} : ∀ {v : Value} {d : PyData}, Rq h v d → ∃ as, Reads h v d as
  | _, _, .leaf r _ => ⟨_, r⟩
  | _, _, .list h1 h2 h3 h4 => let ⟨_, r⟩ := RqAll.reads h4; ⟨_, .list h1 h2 h3 r⟩
  | _, _, .tuple h1 h2 h3 h4 => let ⟨_, r⟩ := RqAll.reads h4; ⟨_, .tuple h1 h2 h3 r⟩
theorem RqAll.reads {h : Heap} : ∀ {vs : List Value} {ds : List PyData}, RqAll h vs ds → ∃ as, ReadsAll h vs ds as
  | _, _, .nil => ⟨_, .nil⟩
  | _, _, .cons r rs => let ⟨_, q⟩ := Rq.reads r; let ⟨_, qs⟩ := RqAll.reads rs; ⟨_, .cons q qs⟩
end
section
variable {prog : Program} {w : World} {h : Heap}
theorem atMost_mono {n m : Nat} {bs : List Addr} (x : ReadAtMost h n bs) (hn : n ≤ m) : ReadAtMost h m bs := x.mono hn
mutual
theorem Rq.k : ∀ {v : Value} {d : PyData}, Rq h v d → d.showable = true → d.shown.length ≤ sizeLine → ∃ bs, ReadAtMost h d.depth bs ∧ ReprK prog w bs h d.depth v d.shown
  | _, _, .leaf r m, hs, hz => ReprK.of_reads r hs m hz
  | _, _, .list (a := a) (vs := vs) (xs := xs) h1 h2 h3 h4, hs, hz => by
    obtain ⟨as, r⟩ := RqAll.reads h4
    rw [PyData.shown] at hz ⊢
    rw [PyData.showable] at hs
    obtain ⟨bs, hb, hk⟩ := RqAll.k h4 hs fun t ht => Nat.le_trans (listText_mem_le ht) hz
    have rl : Reads h (.ref a) (.list xs) _ := .list h1 h2 h3 r
    have hna : a ∉ bs := not_mem_of_deeper rl (by rw [PyData.depth]; omega) hb
    refine ⟨a :: bs, ReadAtMost.cons rl (by rw [PyData.depth]; omega) hb, ?_⟩
    rw [PyData.depth]
    obtain ⟨l⟩ := vs
    cases l with
    | nil =>
      have r' : RqAll h [] xs := h4
      cases r'
      rw [PyData.shownAll, listText_nil]
      exact ReprK.listEmpty h1 h2 h3
    | cons x l => exact ReprK.list h1 h2 h3 hna (by rw [hk.length_eq]; simp) fun i y e => hk.item i y (by simpa using e)
  | _, _, .tuple (a := a) (xs := xs) h1 h2 h3 h4, hs, hz => by
    obtain ⟨as, r⟩ := RqAll.reads h4
    rw [PyData.shown] at hz ⊢
    rw [PyData.showable] at hs
    obtain ⟨bs, hb, hk⟩ := RqAll.k h4 hs fun t ht => Nat.le_trans (tupleText_mem_le ht) hz
    have rl : Reads h (.ref a) (.tuple xs) _ := .tuple h1 h2 h3 r
    have hna : a ∉ bs := not_mem_of_deeper rl (by rw [PyData.depth]; omega) hb
    refine ⟨a :: bs, ReadAtMost.cons rl (by rw [PyData.depth]; omega) hb, ?_⟩
    rw [PyData.depth]
    exact ReprK.tuple h1 h2 h3 hna hk
theorem RqAll.k : ∀ {vs : List Value} {ds : List PyData}, RqAll h vs ds → PyData.showableAll ds = true → (∀ t ∈ PyData.shownAll ds, t.length ≤ sizeLine) → ∃ bs, ReadAtMost h (PyData.depthAll ds) bs ∧ ReprAllK prog w bs h (PyData.depthAll ds) vs (PyData.shownAll ds)
  | _, _, .nil, _, _ => ⟨[], (fun _ z => nomatch z), by rw [PyData.shownAll]; exact .nil⟩
  | _, _, .cons (d := d) (ds := ds) r rs, hs, hz => by
    rw [PyData.showableAll, Bool.and_eq_true] at hs
    rw [PyData.shownAll] at hz ⊢
    obtain ⟨b1, hb1, k1⟩ := Rq.k r hs.1 (hz _ List.mem_cons_self)
    obtain ⟨b2, hb2, k2⟩ := RqAll.k rs hs.2 fun t ht => hz t (List.mem_cons_of_mem _ ht)
    rw [PyData.depthAll]
    exact ⟨b1 ++ b2, (hb1.mono (Nat.le_max_left _ _)).append (hb2.mono (Nat.le_max_right _ _)),
      .cons ((k1.more fun b hb => List.mem_append_left _ hb).level_le (Nat.le_max_left _ _)) (k2.more_le (fun b hb => List.mem_append_right _ hb) (Nat.le_max_right _ _))⟩
end
theorem Rq.shows {a : Addr} {d : PyData} (r : Rq h (.ref a) d) (hs : d.showable = true) (hz : d.shown.length ≤ sizeLine) : ∃ T idr, ShowsBy prog w h a d T idr := by
  cases r with
  | leaf r m => exact showsBy_of_reads r hs m hz
  | list h1 h2 h3 h4 =>
    rename_i o vs n xs
    obtain ⟨as, r⟩ := RqAll.reads h4
    have hz' : (listText (PyData.shownAll xs)).length ≤ sizeLine := by rw [PyData.shown] at hz; exact hz
    rw [PyData.showable] at hs
    obtain ⟨bs, hb, hk⟩ := RqAll.k (prog := prog) (w := w) h4 hs fun t ht => Nat.le_trans (listText_mem_le ht) hz'
    have hna : a ∉ bs := not_mem_of_deeper (Reads.list h1 h2 h3 r) (by rw [PyData.depth]; omega) hb
    refine ⟨"list", "list.__repr__", F.slot_list_repr.toG, F.slot_list_str, F.slot_list_format, fun s k0 => ⟨o, k0 _ _ h1, h2⟩, fun A E s Q hg hu k0 hQ => ?_⟩
    rw [PyData.depth] at hu
    rw [PyData.shown] at hQ
    obtain ⟨l⟩ := vs
    cases l with
    | nil =>
      have r' : RqAll h [] xs := h4
      cases r'
      rw [PyData.shownAll, listText_nil] at hQ
      exact call_list_repr_empty ⟨o, k0 _ _ h1, h2⟩ (k0 _ _ h1) h3 (hQ s.heap _ _ fun _ _ e => e)
    | cons x l => exact call_list_reprK h1 h2 h3 hna (by rw [hk.length_eq]; simp) (fun i y e => hk.item i y (by simpa using e)) hg (fun b _ => Clear.nil b) hu k0 hQ hz'
  | tuple h1 h2 h3 h4 =>
    rename_i o vs n xs
    obtain ⟨as, r⟩ := RqAll.reads h4
    have hz' : (tupleText (PyData.shownAll xs)).length ≤ sizeLine := by rw [PyData.shown] at hz; exact hz
    rw [PyData.showable] at hs
    obtain ⟨bs, hb, hk⟩ := RqAll.k (prog := prog) (w := w) h4 hs fun t ht => Nat.le_trans (tupleText_mem_le ht) hz'
    have hna : a ∉ bs := not_mem_of_deeper (Reads.tuple h1 h2 h3 r) (by rw [PyData.depth]; omega) hb
    refine ⟨"tuple", "tuple.__repr__", F.slot_tuple_repr, F.slot_tuple_str, F.slot_tuple_format, fun s k0 => ⟨o, k0 _ _ h1, h2⟩, fun A E s Q hg hu k0 hQ => ?_⟩
    rw [PyData.depth] at hu
    rw [PyData.shown] at hQ
    exact call_tuple_reprK h1 h2 h3 hna hk hg (fun b _ => Clear.nil b) hu k0 hQ hz'
end

def keyPd : Key → PyData
  | .inl i => .int i
  | .inr x => .str x
mutual
def D.pq : D → PyData
  | .tup l => .tuple (D.pqs l)
  | .lst l => .list (D.pqs l)
  | .dk k l => .dict (List.zip (k.map keyPd) (D.pys l))
  | d => D.py d
def D.pqs : List D → List PyData
  | [] => []
  | d :: l => D.pq d :: D.pqs l
end
mutual
/-- neither lists nor dicts within -/
def D.noL : D → Bool
  | .tup l => D.noLs l
  | .lst _ => false
  | d => (D.py d).canLay0
def D.noLs : List D → Bool
  | [] => true
  | d :: l => D.noL d && D.noLs l
end
mutual
def D.okQ : D → Bool
  | .tup l => D.okQs l
  | .lst l => D.okQs l
  | .dk k l => D.noLs l && decide (k.length = l.length)
  | d => (D.py d).canLay0
def D.okQs : List D → Bool
  | [] => true
  | d :: l => D.okQ d && D.okQs l
end
theorem pys_len : ∀ l : List D, (D.pys l).length = l.length
  | [] => rfl
  | d :: l => by rw [D.pys, List.length_cons, List.length_cons, pys_len l]
section
variable {X : Cx} {G : Glb} {F : Addr → Prop} {pins : List (Addr × Obj)} {σ : L2.St} {H : Hp} {s : Shared}
mutual
theorem reads0 (I : Inv X pins σ H s) : ∀ (d : D) (v : V) (u : Value), RV G H F d v → D.noL d = true → RelV v u → Reads s.heap u (D.py d) []
  | .non, v, u, h, _, r => by unfold RV at h; subst h; cases r; exact .none
  | .bl b, v, u, h, _, r => by unfold RV at h; subst h; cases r; exact .bool b
  | .int i, v, u, h, _, r => by unfold RV at h; subst h; obtain ⟨t, rfl⟩ := r; exact .int i t
  | .str x, v, u, h, _, r => by unfold RV at h; subst h; obtain ⟨t, rfl⟩ := r; exact .str x t
  | .tup l, v, u, h, n, r => by
    unfold RV at h
    obtain ⟨a, xs, rfl, q, rs⟩ := h
    cases r
    obtain ⟨its, rv, ⟨o, ho, hc, n', hd⟩, _⟩ := I.tuple (SqT.of q)
    rw [D.noL] at n
    rw [D.py]
    exact .tuple ho hc hd (reads0s I l xs its rs n rv)
  | .lst _, _, _, _, n, _ => by simp [D.noL] at n
  | .dk _ _, _, _, _, n, _ => by simp [D.noL, D.py, PyData.canLay0] at n
  | .dt _ _, _, _, _, n, _ => by simp [D.noL, D.py, PyData.canLay0] at n
  | .fn _, _, _, _, n, _ => by simp [D.noL, D.py, PyData.canLay0] at n
  | .ex _ _, _, _, _, n, _ => by simp [D.noL, D.py, PyData.canLay0] at n
  | .scr _, _, _, _, n, _ => by simp [D.noL, D.py, PyData.canLay0] at n
theorem reads0s (I : Inv X pins σ H s) : ∀ (l : List D) (xs : List V) (us : List Value), RVs G H F l xs → D.noLs l = true → Vals xs us → ReadsAll s.heap us (D.pys l) []
  | [], xs, us, h, _, r => by unfold RVs at h; subst h; cases r; rw [D.pys]; exact .nil
  | d :: l, xs, us, h, n, r => by
    unfold RVs at h
    obtain ⟨y, ys, rfl, h1, h2⟩ := h
    rw [D.noLs, Bool.and_eq_true] at n
    cases r with
    | cons r1 r2 =>
      rw [D.pys]
      exact ReadsAll.cons (as := []) (bs := []) (reads0 I d y _ h1 n.1 r1) (reads0s I l ys _ h2 n.2 r2)
end
theorem pairs_keys {knd : PySem.KeyKind X.prog X.w Key} (hk : knd = mixKind X.prog X.w) : ∀ {es : List DictEntry} {vs : List (Key × Value)}, Pairs knd es vs → ReadsAll s.heap (es.map (·.key)) ((vs.map (·.1)).map keyPd) [] ∧ es.map (·.val) = vs.map (·.2)
  | _, _, .nil => ⟨.nil, rfl⟩
  | _, _, .cons (e := e) (kv := kv) h1 h2 h3 => by
    obtain ⟨q1, q2⟩ := pairs_keys hk h3
    subst hk
    refine ⟨?_, ?_⟩
    · have : Reads s.heap e.key (keyPd kv.1) [] := by
        rcases keyIs_shape h1 with ⟨i, t, e1, e2⟩ | ⟨x, t, e1, e2⟩
        · rw [e1, e2]; exact .int i t
        · rw [e1, e2]; exact .str x t
      exact ReadsAll.cons (as := []) (bs := []) this q1
    · rw [List.map_cons, List.map_cons, q2, h2]
theorem ex_cls {o : Obj} (h : o.ExactDict) : o.cls = .type "dict" := by
  first | exact h.1 | (obtain ⟨c, d, dt, sl⟩ := o; exact h.1) | exact h
theorem kv_split : ∀ {k : List Key} {xs : List V} {vs : List (Key × Value)}, k.length = xs.length → KV (k.zip xs) vs → vs.map (·.1) = k ∧ Vals xs (vs.map (·.2))
  | [], xs, vs, z, r => by
    cases xs with
    | nil => cases r; exact ⟨rfl, .nil⟩
    | cons _ _ => cases z
  | k :: ks, xs, vs, z, r => by
    cases xs with
    | nil => cases z
    | cons x xs =>
      rw [List.zip_cons_cons] at r
      cases r with
      | cons h1 h2 =>
        obtain ⟨q1, q2⟩ := kv_split (by simpa using z) h2
        exact ⟨by rw [List.map_cons, q1, ← h1.1], .cons h1.2 q2⟩
theorem rq_dk (I : Inv X pins σ H s) {k : List Key} {l : List D} {xs : List V} {a : Addr} (e : Rd H a (.dK (k.zip xs))) (z : k.length = xs.length) (r : RVs G H F l xs) (n : D.noLs l = true) : Rq s.heap (.ref a) (D.pq (.dk k l)) := by
  obtain ⟨_, hsm, vs, kv, o, es, ep, ho, hex, hd, hko, hp, _⟩ := dk_rd I.hok e
  obtain ⟨q1, q2⟩ := kv_split z kv
  obtain ⟨p1, p2⟩ := pairs_keys (s := s) rfl hp
  have hl : l.length = xs.length := r.len
  rw [D.pq]
  have f1 : (List.zip (k.map keyPd) (D.pys l)).map (·.1) = k.map keyPd := by
    rw [List.map_fst_zip]; rw [List.length_map, pys_len, z, hl]; exact Nat.le_refl _
  have f2 : (List.zip (k.map keyPd) (D.pys l)).map (·.2) = D.pys l := by
    rw [List.map_snd_zip]; rw [List.length_map, pys_len, z, hl]; exact Nat.le_refl _
  refine Rq.leaf (as := [a]) (Reads.dict (as := []) (bs := []) ho (ex_cls hex) hd ?_ ?_) fun _ hm => ?_
  · rw [f1, ← q1]; exact p1
  · rw [f2, p2]; exact reads0s I l xs _ r n q2
  · rw [List.mem_singleton] at hm
    rw [← hm] at hsm
    simp at hsm
mutual
theorem rq_of (I : Inv X pins σ H s) : ∀ (d : D) (v : V) (u : Value), RV G H F d v → D.okQ d = true → RelV v u → Rq s.heap u (D.pq d)
  | .non, v, u, h, _, r => .leaf (reads0 I .non v u h rfl r) fun z => by simp [D.pq, D.py, PyData.hasDict] at z
  | .bl b, v, u, h, _, r => .leaf (reads0 I (.bl b) v u h rfl r) fun z => by simp [D.pq, D.py, PyData.hasDict] at z
  | .int i, v, u, h, _, r => .leaf (reads0 I (.int i) v u h rfl r) fun z => by simp [D.pq, D.py, PyData.hasDict] at z
  | .str x, v, u, h, n, r => .leaf (reads0 I (.str x) v u h (by simpa [D.okQ, D.noL] using n) r) fun z => by simp [D.pq, D.py, PyData.hasDict] at z
  | .tup l, v, u, h, n, r => by
    unfold RV at h
    obtain ⟨a, xs, rfl, q, rs⟩ := h
    cases r
    obtain ⟨its, rv, ⟨o, ho, hc, n', hd⟩, _⟩ := I.tuple (SqT.of q)
    rw [D.okQ] at n
    rw [D.pq]
    exact .tuple ho hc hd (rqs_of I l xs its rs n rv)
  | .lst l, v, u, h, n, r => by
    unfold RV at h
    obtain ⟨a, xs, rfl, _, q, rs⟩ := h
    cases r
    obtain ⟨its, rv, ⟨o, n', ho, hc, _, hd⟩, _⟩ := I.list (SqL.of q)
    rw [D.okQ] at n
    rw [D.pq]
    exact .list ho hc hd (rqs_of I l xs its rs n rv)
  | .dk k l, v, u, h, n, r => by
    unfold RV at h
    obtain ⟨a, xs, rfl, _, q, z, rs⟩ := h
    cases r
    rw [D.okQ, Bool.and_eq_true] at n
    exact rq_dk I q z rs n.1
  | .dt _ _, _, _, _, n, _ => by simp [D.okQ, D.py, PyData.canLay0] at n
  | .fn _, _, _, _, n, _ => by simp [D.okQ, D.py, PyData.canLay0] at n
  | .ex _ _, _, _, _, n, _ => by simp [D.okQ, D.py, PyData.canLay0] at n
  | .scr _, _, _, _, n, _ => by simp [D.okQ, D.py, PyData.canLay0] at n
theorem rqs_of (I : Inv X pins σ H s) : ∀ (l : List D) (xs : List V) (us : List Value), RVs G H F l xs → D.okQs l = true → Vals xs us → RqAll s.heap us (D.pqs l)
  | [], xs, us, h, _, r => by unfold RVs at h; subst h; cases r; rw [D.pqs]; exact .nil
  | d :: l, xs, us, h, n, r => by
    unfold RVs at h
    obtain ⟨y, ys, rfl, h1, h2⟩ := h
    rw [D.okQs, Bool.and_eq_true] at n
    cases r with
    | cons r1 r2 =>
      rw [D.pqs]
      exact .cons (rq_of I d y _ h1 n.1 r1) (rqs_of I l ys _ h2 n.2 r2)
end
theorem RW.rq (I : Inv X pins σ H s) {d : D} {v : V} {u : Value} (h : RW G H F d v) (n : D.okQ d = true) (r : RelV v u) : Rq s.heap u (D.pq d) := by
  rcases h with h | ⟨a, rfl, q⟩
  · exact rq_of I d v u h n r
  · cases r
    cases d with
    | lst l =>
      obtain ⟨xs, q, rs⟩ := q
      obtain ⟨its, rv, ⟨o, n', ho, hc, _, hd⟩, _⟩ := I.list (SqL.of q)
      rw [D.okQ] at n
      rw [D.pq]
      exact .list ho hc hd (rqs_of I l xs its rs n rv)
    | dk k l =>
      obtain ⟨xs, q, z, rs⟩ := q
      rw [D.okQ, Bool.and_eq_true] at n
      exact rq_dk I (.inl q) z rs n.1
    | dt k l => simp [D.okQ, D.py, PyData.canLay0] at n
    | _ => exact q.elim
end
section
variable {X : Cx}
def rReprQ (X : Cx) : List V → Hp → VK → Prop := fun xs H Q => rReprD X.K xs H Q ∨
  ∃ a d, xs = [.ref a] ∧ (∀ (pins : List (Addr × Obj)) (σ : L2.St) (s : Shared), Inv X pins σ H s → Rq s.heap (.ref a) d) ∧ d.showable = true ∧ d.depth ≤ 64 ∧ d.shown.length ≤ sizeLine ∧ Q (.str d.shown) H
theorem call_reprQ (hg : X.A.guards = some []) (hu : X.A.units + 65 < cLine) : CallR X (.builtin "repr") (rReprQ X) := by
  intro pins s σ H xs us Q I r h
  rcases h with h | ⟨a, d, rfl, hq, hs, hp, hz, q⟩
  · exact call_reprD hg hu pins s σ H xs us Q I r h
  rw [Vals.ref1 r]
  obtain ⟨T, idr, S⟩ := (hq pins σ s I).shows (prog := X.prog) (w := X.w) hs hz
  exact call_repr_slot (by omega) (S.typeIs s fun _ _ e => e) S.slotRepr (S.call X.A.in1 _ s _ hg (by show X.A.units + 1 + d.depth < cLine; omega) (fun _ _ e => e) fun h' u tk hk => ⟨_, _, rfl, ⟨.str _, H, I.kept (t' := tk) hk, ⟨_, rfl⟩, q⟩⟩)
def D.isRef : D → Bool
  | .tup _ => true
  | .lst _ => true
  | .dk _ _ => true
  | _ => false
def D.canShowQ (d : D) : Bool := D.isRef d && (D.okQ d && ((D.pq d).showable && (decide ((D.pq d).depth ≤ 64) && decide ((D.pq d).shown.length ≤ sizeLine))))
def dReprA : List D → Option D
  | [d] => if D.canShow d = true then some (.str (D.shw d)) else if D.canShowQ d = true then some (.str (D.pq d).shown) else none
  | _ => none
theorem RW.isRef {G : Glb} {H : Hp} {F : Addr → Prop} {d : D} {v : V} (h : RW G H F d v) (n : D.isRef d = true) : ∃ a, v = .ref a := by
  rcases h with h | ⟨a, e, _⟩
  · cases d <;> first | cases n | skip
    all_goals
      unfold RV at h
      obtain ⟨a, _, e, _⟩ := h
      exact ⟨a, e⟩
  · exact ⟨a, e⟩
theorem ok_reprA (G : Glb) : OkN G (rReprQ X) dReprA := by
  intro xs ds d H F Q hx e q
  unfold dReprA at e
  split at e
  · rename_i d'
    split at e
    · rename_i hc
      refine .inl (ok_repr G X.K xs _ d H F Q hx ?_ q)
      exact (if_pos hc).trans e
    · split at e
      · rename_i hc
        cases e
        obtain ⟨v, rfl, h⟩ := hx.one
        unfold D.canShowQ at hc
        simp only [Bool.and_eq_true, decide_eq_true_eq] at hc
        obtain ⟨c1, c2, c3, c4, c5⟩ := hc
        obtain ⟨a, rfl⟩ := h.isRef c1
        exact .inr ⟨a, D.pq d', rfl, fun pins σ s I => h.rq I c2 rfl, c3, c4, c5, done (.str _) q⟩
      · cases e
  · cases e
end

/-! ## == and != of a list of whatever and an empty one -/
section
variable {X : Cx}
def rEqZ (K : PySem.W.Frag) (n : Bool) : R2 := fun x y H Q => ∃ a b xs, x = .ref a ∧ y = .ref b ∧ SqL K H a xs ∧ SqL K H b [] ∧ Q (.bl (n ^^ xs.isEmpty)) H
theorem op_eqZ (hu : X.A.units + 64 < cLine) : OpR X (compareOp .Eq) (rEqZ X.K false) := by
  intro pins s σ H x y v u Q I rx ry h
  obtain ⟨a, b, xs, rfl, rfl, ha, hb, q⟩ := h
  cases rx
  cases ry
  obtain ⟨its, rv, ⟨o, n, ho, hc, _, hd⟩, _⟩ := I.list ha
  obtain ⟨its', rv', ⟨o', n', ho', hc', _, hd'⟩, _⟩ := I.list hb
  cases rv'
  have l1 : s.heap.IsList a its.toArray := ⟨_, ho, hc, _, hd⟩
  have l2 : s.heap.IsList b ([] : List Value).toArray := ⟨_, ho', hc', _, hd'⟩
  have hlen := rv.length
  cases xs with
  | nil =>
    cases its with
    | cons _ _ => cases hlen
    | nil => exact PySem.SeqAt.RcAt.lists (e := fun _ => true) l1 l2 rfl (by omega) (fun j j1 => by simp at j1) X.prog X.w _ _ ⟨.bl _, H, I, rfl, q⟩
  | cons z zs => exact PySem.SeqAt.RcAt.lists_lengths l1 l2 (by simp at hlen ⊢; intro e; rw [e] at hlen; simp at hlen) (by omega) X.prog X.w _ _ ⟨.bl _, H, I, rfl, q⟩
theorem op_neZ (hu : X.A.units + 64 < cLine) : OpR X (compareOp .NotEq) (rEqZ X.K true) := by
  intro pins s σ H x y v u Q I rx ry h
  obtain ⟨a, b, xs, rfl, rfl, ha, hb, q⟩ := h
  cases rx
  cases ry
  obtain ⟨its, rv, ⟨o, n, ho, hc, _, hd⟩, _⟩ := I.list ha
  obtain ⟨its', rv', ⟨o', n', ho', hc', _, hd'⟩, _⟩ := I.list hb
  cases rv'
  have l1 : s.heap.IsList a its.toArray := ⟨_, ho, hc, _, hd⟩
  have l2 : s.heap.IsList b ([] : List Value).toArray := ⟨_, ho', hc', _, hd'⟩
  have hlen := rv.length
  cases xs with
  | nil =>
    cases its with
    | cons _ _ => cases hlen
    | nil => exact PySem.SeqAt.RcNeAt.lists (e := fun _ => true) l1 l2 rfl (by omega) (fun j j1 => by simp at j1) X.prog X.w _ _ ⟨.bl _, H, I, rfl, q⟩
  | cons z zs => exact PySem.SeqAt.RcNeAt.lists_lengths l1 l2 (by simp at hlen ⊢; intro e; rw [e] at hlen; simp at hlen) (by omega) X.prog X.w _ _ ⟨.bl _, H, I, rfl, q⟩
def rEqB (K : PySem.W.Frag) : R2 := fun x y H Q => rEqZ K false x y H Q ∨ rEqD K x y H Q
def rNeB (K : PySem.W.Frag) : R2 := fun x y H Q => rEqZ K true x y H Q ∨ rNeD K x y H Q
theorem op_eqB (hu : X.A.units + 64 < cLine) : OpR X (compareOp .Eq) (rEqB X.K) := fun pins s σ H x y v u Q I rx ry h =>
  h.elim (op_eqZ hu pins s σ H x y v u Q I rx ry) (op_eqD hu pins s σ H x y v u Q I rx ry)
theorem op_neB (hu : X.A.units + 64 < cLine) : OpR X (compareOp .NotEq) (rNeB X.K) := fun pins s σ H x y v u Q I rx ry h =>
  h.elim (op_neZ hu pins s σ H x y v u Q I rx ry) (op_neD hu pins s σ H x y v u Q I rx ry)
def twoZ : D → D → Option Bool
  | .lst l, .lst [] => some l.isEmpty
  | _, _ => none
def dEqZ (a b : D) : Option D := match twoZ a b with
  | some k => some (.bl k)
  | none => dEq a b
def dNeZ (a b : D) : Option D := match twoZ a b with
  | some k => some (.bl (!k))
  | none => dNe a b
theorem emp_len {α β : Type} {l : List α} {m : List β} (h : l.length = m.length) : m.isEmpty = l.isEmpty := by
  cases l <;> cases m <;> simp at h ⊢
theorem twoZ_some {G : Glb} {H : Hp} {F : Addr → Prop} {a b : D} {x y : V} {k : Bool} {K : PySem.W.Frag} (hx : RW G H F a x) (hy : RW G H F b y) (e : twoZ a b = some k) : ∃ p p' xs, x = .ref p ∧ y = .ref p' ∧ SqL K H p xs ∧ SqL K H p' [] ∧ xs.isEmpty = k := by
  unfold twoZ at e
  split at e
  · cases e
    obtain ⟨p, xs, rfl, ep, rs⟩ := hx.lst
    obtain ⟨p', ys, rfl, ep', rs'⟩ := hy.lst
    unfold RVs at rs'
    subst rs'
    exact ⟨p, p', xs, rfl, rfl, SqL.of ep, SqL.of ep', emp_len rs.len⟩
  · cases e
theorem ok_eqB (G : Glb) (K : PySem.W.Frag) : Ok2 G (rEqB K) dEqZ := by
  intro x y dx dy d H F Q hx hy e q
  unfold dEqZ at e
  split at e
  · rename_i k hk
    cases e
    obtain ⟨p, p', xs, h1, h2, h3, h4, h5⟩ := twoZ_some (K := K) hx hy hk
    refine .inl ⟨p, p', xs, h1, h2, h3, h4, ?_⟩
    rw [h5, Bool.false_xor]
    exact done (.bl _) q
  · exact .inr (ok_eq G K x y dx dy d H F Q hx hy e q)
theorem ok_neB (G : Glb) (K : PySem.W.Frag) : Ok2 G (rNeB K) dNeZ := by
  intro x y dx dy d H F Q hx hy e q
  unfold dNeZ at e
  split at e
  · rename_i k hk
    cases e
    obtain ⟨p, p', xs, h1, h2, h3, h4, h5⟩ := twoZ_some (K := K) hx hy hk
    refine .inl ⟨p, p', xs, h1, h2, h3, h4, ?_⟩
    rw [h5, Bool.true_xor]
    exact done (.bl _) q
  · exact .inr (ok_ne G K x y dx dy d H F Q hx hy e q)
theorem v_eqZ {l : List D} {K : D → Prop} (q : K (.bl l.isEmpty)) : On (dEqZ (.lst l) (.lst [])) K := q
instance i_v_eqZ {l : List D} {K : D → Prop} : Step (On (dEqZ (.lst l) (.lst [])) K) (K (.bl l.isEmpty)) := ⟨fun h => v_eqZ h⟩
theorem v_neZ {l : List D} {K : D → Prop} (q : K (.bl (!l.isEmpty))) : On (dNeZ (.lst l) (.lst [])) K := q
instance i_v_neZ {l : List D} {K : D → Prop} : Step (On (dNeZ (.lst l) (.lst [])) K) (K (.bl (!l.isEmpty))) := ⟨fun h => v_neZ h⟩
end

/-! ## tuple * 1, tuple * 0 -/
theorem tuple_mul1 (l : Addr) (items : Array Value) (n : Nat) (dd : Option Addr) (sl : Array (Option Value)) (u : Tok) :
    Meets (Builtin.«tuple.__mul__» ⟨[.ref l, .int 1 u], []⟩) (fun _ R s => s.heap.get? l = some { cls := .type "tuple", dict := dd, data := .seq items n, slots := sl } ∧ R (.ok (.ret (Value.ref l))) s) :=
  .of_wp fun prog w A R s h => by
    obtain ⟨hp, g, d, tk, os⟩ := s
    obtain ⟨hl, h⟩ := h
    have f1 := AutoSeq1.idx_int
    have c0 : (decide ((1 : Int) < -(2 ^ 63)) || decide ((1 : Int) ≥ 2 ^ 63)) = false := by decide
    have c1 : (items.isEmpty || (1 : Int) == 1) = true := by simp
    wp_walk using wpAny_loadPart' hl
    repeat (first
      | (refine wpAny_ite_false (decide_eq_false (by rw [c0]; exact Bool.false_ne_true)) ?_; wp_walk using wpAny_loadPart' hl)
      | (refine wpAny_ite_true (decide_eq_true c1) ?_; wp_walk using wpAny_loadPart' hl))
    exact ⟨_, rfl, h⟩
theorem tuple_mul0 (l : Addr) (items : Array Value) (n : Nat) (dd : Option Addr) (sl : Array (Option Value)) (u : Tok) (hi : items.isEmpty = false) :
    Meets (Builtin.«tuple.__mul__» ⟨[.ref l, .int 0 u], []⟩) (fun _ R s => s.heap.get? l = some { cls := .type "tuple", dict := dd, data := .seq items n, slots := sl } ∧
      R (.ok (.ret (Value.ref s.heap.objs.size))) { s with heap := s.heap.push { cls := Value.type "tuple", data := Data.seq #[] }, toks := s.toks }) :=
  .of_wp fun prog w A R s h => by
    obtain ⟨hp, g, d, tk, os⟩ := s
    obtain ⟨hl, h⟩ := h
    have f1 := AutoSeq1.idx_int
    have c0 : (decide ((0 : Int) < -(2 ^ 63)) || decide ((0 : Int) ≥ 2 ^ 63)) = false := by decide
    have c1 : (items.isEmpty || (0 : Int) == 1) = false := by rw [hi]; rfl
    have c2 : (decide ((0 : Int) ≤ 0) || items.isEmpty) = true := by rw [hi]; rfl
    wp_walk using wpAny_loadPart' hl
    repeat (first
      | (refine wpAny_ite_false (decide_eq_false (by rw [c0]; exact Bool.false_ne_true)) ?_; wp_walk using wpAny_loadPart' hl)
      | (refine wpAny_ite_false (decide_eq_false (by rw [c1]; exact Bool.false_ne_true)) ?_; wp_walk using wpAny_loadPart' hl)
      | (refine wpAny_ite_true (decide_eq_true c2) ?_; wp_walk using wpAny_loadPart' hl))
    exact ⟨_, rfl, h⟩
def rRepU (K : PySem.W.Frag) : R2 := fun x y H Q => ∃ l k xs, x = .ref l ∧ y = .int k ∧ SqT K H l xs ∧ xs ≠ [] ∧ ((k = 1 ∧ Q (.ref l) H) ∨ (k = 0 ∧ ∀ p, H p = none → Q (.ref p) (upd H p (.tup []))))
section
variable {X : Cx}
theorem op_repU : OpR X (binaryOp .Mult) (rRepU X.K) := by
  intro pins s σ H x y v u Q I rx ry h
  obtain ⟨l, k, xs, rfl, rfl, hT, hne, h⟩ := h
  cases rx
  obtain ⟨t, rfl⟩ := ry
  obtain ⟨its, r, ⟨⟨cls, dd, data, sl⟩, ho, hc, n, hd⟩, hs⟩ := I.tuple hT
  simp only at hc hd
  subst hc hd
  have hi : its.toArray.isEmpty = false := by
    cases its with
    | nil => cases r; exact absurd rfl hne
    | cons a b => rfl
  rcases h with ⟨rfl, q⟩ | ⟨rfl, q⟩
  · exact wpAny_binaryOp_repeat_ref (T := "tuple") (U := "int") (by decide) ⟨_, ho, rfl⟩ (fun s' => typeIs_int s' 1 t) noFill_tuple_mul F.fills_int_mul F.slot_int_rmul repeat_tuple F.slot_int_index.lookup
      (call_meets F.slot_int_rmul (typeIs_int s 1 t) F.entry_int_rmul (F.args_int_rmul_2 _ _) (int_rmul_tuple 1 t l its.toArray n dd sl)
        ⟨ho, rfl, ⟨_, ho, rfl⟩, call_meets F.slot_tuple_mul ⟨_, ho, rfl⟩ F.entry_tuple_mul (F.args_tuple_mul_2 _ _) (tuple_mul1 l its.toArray n dd sl t) ⟨ho, ⟨.ref l, H, I, rfl, q⟩⟩⟩)
  · refine wpAny_binaryOp_repeat_ref (T := "tuple") (U := "int") (by decide) ⟨_, ho, rfl⟩ (fun s' => typeIs_int s' 0 t) noFill_tuple_mul F.fills_int_mul F.slot_int_rmul repeat_tuple F.slot_int_index.lookup
      (call_meets F.slot_int_rmul (typeIs_int s 0 t) F.entry_int_rmul (F.args_int_rmul_2 _ _) (int_rmul_tuple 0 t l its.toArray n dd sl)
        ⟨ho, rfl, ⟨_, ho, rfl⟩, call_meets F.slot_tuple_mul ⟨_, ho, rfl⟩ F.entry_tuple_mul (F.args_tuple_mul_2 _ _) (tuple_mul0 l its.toArray n dd sl t hi) ⟨ho, ?_⟩⟩)
    refine ⟨.ref s.heap.objs.size, _, I.laid (t' := s.toks) (o := .tup []) (fun b ob q => Heap.get?_push_of_some _ q) (Nat.le_refl _) ?_, rfl, q _ (I.hok.fresh (Nat.le_refl _))⟩
    exact ⟨Nat.zero_le _, [], .nil, IsTup.new _ _⟩
def rMul4 (K : PySem.W.Frag) : R2 := fun x y H Q => rMul3 K x y H Q ∨ rRepU K x y H Q
theorem op_mul4 : OpR X (binaryOp .Mult) (rMul4 X.K) := OpR.or op_mul3 op_repU
def dMulT : D → D → Option D
  | .tup (a :: l), .int 0 => some (.tup [])
  | .tup (a :: l), .int 1 => some (.tup (a :: l))
  | x, y => dMul x y
theorem ok_mul4 (G : Glb) (K : PySem.W.Frag) : Ok2 G (rMul4 K) dMulT := by
  intro x y dx dy d H F Q hx hy e q
  unfold dMulT at e
  split at e
  · cases e
    obtain ⟨p, xs, rfl, hp, rx⟩ := hx.tup
    refine .inr ⟨p, 0, xs, rfl, hy.int, SqT.of hp, fun z => ?_, .inr ⟨rfl, fun t ht => new_tup ht RVs.nil q⟩⟩
    subst z; cases rx.len
  · cases e
    obtain ⟨p, xs, rfl, hp, rx⟩ := hx.tup
    refine .inr ⟨p, 1, xs, rfl, hy.int, SqT.of hp, fun z => ?_, .inl ⟨rfl, q _ H F (Ext.refl _ _) (by unfold RV; exact ⟨p, xs, rfl, hp, rx⟩)⟩⟩
    subst z; cases rx.len
  · exact .inl (ok_mul G K x y dx dy d H F Q hx hy e q)
end
section
variable {X : Cx} {G : Glb} {β : Bt} {W : WX} {a b : Expr} {oa ob : Opd} {pos : Pos}
theorem se_mulT (ha : PE X a (tO G β W oa)) (hb : PE X b (tO G β W ob)) : PE X (.BinOp a .Mult b pos) (tE G β W (mOp2 dMulT oa ob)) := se_bin op_mul4 (ok_mul4 G X.K) ha hb
end
/-! == and != where one side may be a text -/
def rEqT (K : PySem.W.Frag) : R2 := fun x y H Q => rEq x y H Q ∨ rEqD K x y H Q
def rNeT (K : PySem.W.Frag) : R2 := fun x y H Q => rNe x y H Q ∨ rNeD K x y H Q
def dEqT (a b : D) : Option D := match a, b with
  | .str x, .str y => some (.bl (decide (x = y)))
  | a, b => dEq a b
def dNeT (a b : D) : Option D := match a, b with
  | .str x, .str y => some (.bl (!decide (x = y)))
  | a, b => dNe a b
section
variable {X : Cx}
theorem op_eqT (hu : X.A.units + 64 < cLine) : OpR X (compareOp .Eq) (rEqT X.K) := OpR.or op_eq (op_eqD hu)
theorem op_neT (hu : X.A.units + 64 < cLine) : OpR X (compareOp .NotEq) (rNeT X.K) := OpR.or op_ne (op_neD hu)
theorem ok_eqT (G : Glb) (K : PySem.W.Frag) : Ok2 G (rEqT K) dEqT := by
  intro x y dx dy d H F Q hx hy e q
  unfold dEqT at e
  split at e
  · exact .inl (ok_eqS G x y _ _ d H F Q hx hy e q)
  · exact .inr (ok_eq G K x y _ _ d H F Q hx hy e q)
theorem ok_neT (G : Glb) (K : PySem.W.Frag) : Ok2 G (rNeT K) dNeT := by
  intro x y dx dy d H F Q hx hy e q
  unfold dNeT at e
  split at e
  · exact .inl (ok_neS G x y _ _ d H F Q hx hy e q)
  · exact .inr (ok_ne G K x y _ _ d H F Q hx hy e q)
theorem v_neTT {x : Str} {K : D → Prop} (k : K (.bl false)) : On (dNeT (.str x) (.str x)) K := v_neSS k
instance i_v_neTT {x : Str} {K : D → Prop} : Step (On (dNeT (.str x) (.str x)) K) (K (.bl false)) := ⟨fun h => v_neTT h⟩
theorem v_eqTT {x : Str} {K : D → Prop} (k : K (.bl true)) : On (dEqT (.str x) (.str x)) K := v_eqSS k
instance i_v_eqTT {x : Str} {K : D → Prop} : Step (On (dEqT (.str x) (.str x)) K) (K (.bl true)) := ⟨fun h => v_eqTT h⟩
end
end Ev
namespace PySem
open Sem (wp)
/-! enumerate(v) over whatever begins -/
theorem meets_enum1B {v : Value} {o : Obj} {H : Heap → Prop} (B : Begins v o H) :
    Meets (Builtin.«enumerate.__new__» ⟨[.type "enumerate", v], []⟩) (fun _ R s => H s.heap ∧
      R (.ok (.ret (.ref (s.heap.push o).objs.size))) { s with heap := (s.heap.push o).push { cls := .type "enumerate", data := .fields #[.none, .bool false, .ref s.heap.objs.size, rawInt 0, .none, .none] } }) :=
  .of_wp fun prog w A R s h => by
    obtain ⟨hp, g, d, tk, os⟩ := s; obtain ⟨h1, h⟩ := h
    have hsub := sub_enumerate
    have q1 : ∀ {A' : Around} {E : Value → Shared → Prop} {Q : Value → Shared → Prop}, Q (.ref hp.objs.size) ⟨hp.push o, g, d, tk, os⟩ → wpAny (model prog w) A' (pyIter v) Q E ⟨hp, g, d, tk, os⟩ :=
      fun q => B.iter prog w _ _ ⟨hp, g, d, tk, os⟩ _ h1 q
    wp_walk using q1
    refine wpAny_stack_any fun st => wpAny_pure ?_
    split
    · rename_i c _ _ _ _ _
      cases (c == Value.type "enumerate")
      · wp_walk using q1
        exact ⟨_, rfl, h⟩
      · wp_walk using q1
        exact ⟨_, rfl, h⟩
    · wp_walk using q1
      exact ⟨_, rfl, h⟩
theorem enum1_begins {prog : Program} {w : World} {A : Around} {E : Value → Shared → Prop} {s : Shared} {v : Value} {o : Obj} {H : Heap → Prop} {Q : Value → Shared → Prop} (B : Begins v o H) (h1 : H s.heap)
    (h : ∀ h', IsEnum h' (s.heap.objs.size + 1) s.heap.objs.size 0 .none → h'.get? s.heap.objs.size = some o → (∀ b o, s.heap.get? b = some o → h'.get? b = some o) → Q (.ref (s.heap.objs.size + 1)) { s with heap := h' }) :
    wpAny (model prog w) A (call (.type "enumerate") [v]) Q E s := by
  refine callType_new F.called_enumerate (by decide) (F.typeCall_enumerate_1 _) (F.newCall_enumerate_1 _) (fun obj => F.args_object_init_2 obj _) F.entry_enumerate_new
    (meets_enum1B B) ⟨h1, ?_⟩
  have hz : (s.heap.push o).objs.size = s.heap.objs.size + 1 := Heap.size_push ..
  show _ ∧ _
  rw [hz]
  have he : IsEnum ((s.heap.push o).push { cls := .type "enumerate", data := .fields #[.none, .bool false, .ref s.heap.objs.size, rawInt 0, .none, .none] }) (s.heap.objs.size + 1) s.heap.objs.size 0 .none := by
    have := Heap.get?_push_size (s.heap.push o) (o := { cls := .type "enumerate", data := .fields #[.none, .bool false, .ref s.heap.objs.size, rawInt 0, .none, .none] }) rfl
    rw [hz] at this; exact this
  exact ⟨⟨_, he, rfl⟩, h _ he (Heap.get?_push_of_some _ (Heap.get?_push_size _ B.free)) fun b o x => Heap.get?_push_of_some _ (Heap.get?_push_of_some _ x)⟩
end PySem
namespace Ev
open PySem PySem.Spec PyProof.Rows L2
/-! ## enumerate, zip: of a list or a tuple each (k: it is a list) -/
def SqB (K : PySem.W.Frag) (k : Bool) (H : Hp) (a : Addr) (xs : List V) : Prop := match k with
  | true => SqL K H a xs
  | false => SqT K H a xs
def ItrB (k : Bool) (h : Heap) (it a : Addr) (i : Nat) : Prop := match k with
  | true => h.IsListIter it a i
  | false => h.IsTupleIter it a i
def IsB (k : Bool) (h : Heap) (a : Addr) (items : Array Value) : Prop := match k with
  | true => h.IsList a items
  | false => h.IsTuple a items
def objB (k : Bool) (a : Addr) : Obj := match k with
  | true => { cls := .type "list_iterator", data := .fields #[.ref a, .int 0 0] }
  | false => { cls := .type "tuple_iterator", data := .fields #[.ref a, .int 0 0] }
theorem seqB {X : Cx} {pins : List (Addr × Obj)} {σ : L2.St} {H : Hp} {s : Shared} {k : Bool} {a : Addr} {xs : List V} (I : L2.Inv X pins σ H s) (h : SqB X.K k H a xs) : ∃ its : List Value, Vals xs its ∧ IsB k s.heap a its.toArray ∧ a < s.heap.objs.size := by
  cases k with
  | true =>
    obtain ⟨its, rv, p, _⟩ := I.list h
    exact ⟨its, rv, p.isList, p.lt⟩
  | false =>
    obtain ⟨its, rv, p, _⟩ := I.tuple h
    obtain ⟨o, ho, _⟩ := id p
    exact ⟨its, rv, p, Heap.lt_size ho⟩
theorem seqB_inj {X : Cx} {pins : List (Addr × Obj)} {σ : L2.St} {H : Hp} {s : Shared} {k : Bool} {a : Addr} {xs ys : List V} (I : L2.Inv X pins σ H s) (h : SqB X.K k H a xs) (h' : SqB X.K k H a ys) : xs = ys := by
  cases k with
  | true => exact I.list_inj h h'
  | false => exact I.tuple_inj h h'
theorem drawsB {prog : Program} {w : World} {A : Around} (hh : A.handled = none) (k : Bool) (it a : Addr) (hne : a ≠ it) (items : Array Value) :
    Draws prog w A it [it, a] items.size (fun i v => items[i]? = some v) (fun i h => ItrB k h it a i ∧ IsB k h a items) := by
  cases k with
  | true => exact Draws.list hh it a hne items
  | false => exact Draws.tuple hh it a hne items
theorem beginsB (k : Bool) (a : Addr) (items : Array Value) : Begins (.ref a) (objB k a) fun h => IsB k h a items := by
  cases k with
  | true => exact begins_list a items
  | false => exact begins_tuple a items
theorem itrB_obj {k : Bool} {h : Heap} {it a : Addr} {i : Nat} (st : ItrB k h it a i) : ∃ o, h.get? it = some o ∧ ∀ v, o.data ≠ .cell v := by
  cases k with
  | true => obtain ⟨o, ho, hc, hd⟩ := st; exact ⟨o, ho, fun v q => by rw [hd] at q; cases q⟩
  | false => obtain ⟨o, ho, hc, hd⟩ := st; exact ⟨o, ho, fun v q => by rw [hd] at q; cases q⟩
theorem itrB_at {k : Bool} {h h' : Heap} {it a : Addr} {i : Nat} (st : ItrB k h it a i) (q : ∀ o, h.get? it = some o → h'.get? it = some o) : ItrB k h' it a i := by
  cases k with
  | true => exact Heap.IsListIter.at st q
  | false => exact Heap.IsTupleIter.at st q
theorem itrB_new {k : Bool} {h : Heap} {it a : Addr} (q : h.get? it = some (objB k a)) : ItrB k h it a 0 := by
  cases k with
  | true => exact ⟨_, q, rfl, rfl⟩
  | false => exact ⟨_, q, rfl, rfl⟩
def IteB (K : PySem.W.Frag) (k : Bool) (a : Addr) : It :=
  ⟨fun i H => ∃ (xs : List V) (x : V), SqB K k H a xs ∧ xs[i]? = some x, fun i H v H' => ∃ T x, v = .ref T ∧ H T = none ∧ H' = upd H T (.tup [.int (i : Nat), x]) ∧ ∀ xs, SqB K k H a xs → xs[i]? = some x, fun i H => ∃ xs : List V, SqB K k H a xs ∧ xs.length = i⟩
theorem turn_enumB {P : Program} {w : World} {K : PySem.W.Frag} {elts : List Expr} {kk : Nat} {tpos : Pos} (k : Bool) (a e it : Addr) :
    Turn P w K (.Tuple elts kk tpos) (IteB K k a) [e, it] e (fun i h => (∃ old, IsEnum h e it ((i : Nat) : Int) old) ∧ ItrB k h it a i ∧ e ≠ it ∧ e ≠ a ∧ a ≠ it) where
  mem := by simp
  obj := fun i h st b hb => by
    obtain ⟨⟨old, he⟩, hi, _⟩ := st
    have e' : b = e ∨ b = it := by simpa using hb
    rcases e' with z | z
    · rw [z]; exact ⟨_, he, fun v q => nomatch q⟩
    · rw [z]; exact itrB_obj hi
  keep := fun i h h' st k => let ⟨⟨old, he⟩, hi, hne⟩ := st; ⟨⟨old, k e (by simp) _ he⟩, itrB_at hi fun o q => k it (by simp) o q, hne⟩
  item := by
    intro X hP hw hK hc i pins s σ H E I hf st hg
    subst hP hw hK
    obtain ⟨⟨old, he⟩, hit, hne, hea, hai⟩ := st
    obtain ⟨xs, x, hq, hx⟩ := hg
    obtain ⟨its, rv, p, _⟩ := seqB I hq
    obtain ⟨u, hu, ru⟩ := rv.get hx
    have hlt : i < its.toArray.size := by
      rw [List.size_toArray]
      exact (List.getElem?_eq_some_iff.mp hu).1
    have hel : e < s.heap.objs.size := Heap.lt_size he
    have hil : it < s.heap.objs.size := by obtain ⟨_, q, _⟩ := itrB_obj hit; exact Heap.lt_size q
    refine wpAny_pyNext_enum_itemC (c := (i : Nat)) (drawsB (show X.A.in1.handled = none from I.ok.hd hc) k it a hai its.toArray) he ⟨hit, p⟩ hlt hne (by simp [hne, hea]) fun u' h' tk hu' ho hit' hT hsz hk => ?_
    have eu : u' = u := by
      have e1 : its[i]? = some u' := by simpa using hu'
      rw [hu] at e1
      exact (Option.some.inj e1).symm
    subst eu
    refine ⟨_, rfl, wpAny_letOwnedTupleGo_enum (s := { s with heap := h', toks := tk + 1 }) ho fun h'' he' sb => ?_⟩
    have hT2 : h''.get? s.heap.objs.size = some { cls := .type "tuple", data := .seq #[.int i tk, u'] } := (sb.2 _ (Nat.ne_of_gt hel)).trans hT
    have new : ObjOk X.prog X.w (upd H s.heap.objs.size (.tup [.int (i : Nat), x])) h'' s.heap.objs.size (.tup [.int (i : Nat), x]) :=
      ⟨by show 2 ≤ sizeLine; decide, [.int i tk, u'], .cons ⟨_, rfl⟩ (.cons ru .nil), ⟨_, hT2, rfl, _, rfl⟩⟩
    have I1 : L2.Inv X pins σ (upd H s.heap.objs.size (.tup [.int (i : Nat), x])) { s with heap := h'', toks := tk + 1 } :=
      I.turnedNew (ch := [e, it]) (fun b ob hb q => (sb.2 b (fun z => hb (by simp [z]))).trans (hk b ob (fun z => hb (by simp [z])) (fun z => hb (by simp [z])) q)) hf (Nat.le_refl _) new
    refine ⟨.ref s.heap.objs.size, _, I1, rfl, ⟨_, x, rfl, I.hok.fresh (Nat.le_refl _), rfl, fun ys hy => by rw [seqB_inj I hy hq]; exact hx⟩, ⟨⟨u', ?_⟩, itrB_at hit'.1 fun o q => (sb.2 it (Ne.symm hne)).trans q, hne, hea, hai⟩, fun b hb => ?_⟩
    · have e1 : ((i + 1 : Nat) : Int) = (i : Int) + 1 := by omega
      rw [e1]; exact he'
    · have hb' : b < s.heap.objs.size := by
        have e' : b = e ∨ b = it := by simpa using hb
        rcases e' with z | z
        · rw [z]; exact hel
        · rw [z]; exact hil
      rw [upd_ne (Nat.ne_of_lt hb')]
      exact (hf b hb).1
  done := by
    intro X hP hw hK hc i pins s σ H E I hf st hg
    subst hP hw hK
    obtain ⟨⟨old, he⟩, hit, hne, hea, hai⟩ := st
    obtain ⟨xs, hq, hx⟩ := hg
    obtain ⟨its, rv, p, _⟩ := seqB I hq
    obtain ⟨f0, f1, f2, f3, f4, f5⟩ := hf it (by simp)
    have hl := rv.length
    have hn : i = its.toArray.size := by rw [List.size_toArray]; omega
    subst hn
    exact wpAny_pyNext_enum_endD (drawsB (show X.A.in1.handled = none from I.ok.hd hc) k it a hai its.toArray) he ⟨hit, p⟩ fun h' eb => ⟨rfl, I.turned (t' := s.toks) (fun b o hb q => eb b o hb q) f0 f1 f3 f4 f5⟩
  self := fun A i s Q E st h => let ⟨⟨_, he⟩, _⟩ := st; wpAny_pyIter_enum he h
def iEnumB (K : PySem.W.Frag) (ta : TA) : TI := fun σ H R => ta σ H fun vs H1 => ∃ k a xs, vs = [.ref a] ∧ SqB K k H1 a xs ∧ R (IteB K k a) H1
theorem pi_enumB {X : Cx} {e : Expr} {ta : TA} {p pos tpos : Pos} {elts : List Expr} {kk : Nat} (hg : Gl X "enumerate") (hm : X.mg "enumerate" = none) (ha : PA X [e] ta) (hs : starEach [e] X.env = [(false, eval e X.env)] := by rfl) :
    PI X (.Tuple elts kk tpos) (.Call (.Name "enumerate" p) [e] [] pos) (iEnumB X.K ta) := by
  refine ⟨fun pins s σ H R I h => ?_⟩
  refine Call_ (ld_blt I hg hm boot_enumerate (PyProof.Rows.callWith_type1 (thn (ha.run pos pins s σ H _ I h) fun us s1 ⟨vs, H1, I1, r1, q1⟩ => ?_) hs rfl))
  obtain ⟨k, a, xs, ex, hq, q⟩ := q1
  subst ex
  cases r1 with
  | cons r rr =>
    cases rr
    cases r
    obtain ⟨its, rv, p', hal⟩ := seqB I1 hq
    refine enum1_begins (beginsB k a its.toArray) p' fun h' he hit hk => wpAny_pyIter_enum he ?_
    have I2 : L2.Inv X pins σ H1 { s1 with heap := h' } := I1.kept (t' := s1.toks) hk
    refine ⟨s1.heap.objs.size + 1, [s1.heap.objs.size + 1, s1.heap.objs.size], _, _, H1, rfl, I2, turn_enumB k a (s1.heap.objs.size + 1) s1.heap.objs.size, ⟨⟨.none, he⟩, itrB_new hit, Nat.succ_ne_self _, Nat.ne_of_gt (Nat.lt_succ_of_lt hal), Nat.ne_of_lt hal⟩, fun b hb => ?_, q⟩
    have e' : b = s1.heap.objs.size + 1 ∨ b = s1.heap.objs.size := by simpa using hb
    have hle : s1.heap.objs.size ≤ b := by
      rcases e' with z | z
      · rw [z]; exact Nat.le_add_right _ _
      · rw [z]; exact Nat.le_refl _
    exact I1.fpOk hle (I1.hok.fresh hle)
def ItzB (K : PySem.W.Frag) (k1 k2 : Bool) (a b : Addr) : It :=
  ⟨fun i H => ∃ (xs ys : List V) (x y : V), SqB K k1 H a xs ∧ SqB K k2 H b ys ∧ xs[i]? = some x ∧ ys[i]? = some y,
    fun i H v H' => ∃ T x y, v = .ref T ∧ H T = none ∧ H' = upd H T (.tup [x, y]) ∧ (∀ xs, SqB K k1 H a xs → xs[i]? = some x) ∧ ∀ ys, SqB K k2 H b ys → ys[i]? = some y,
    fun i H => ∃ xs ys : List V, SqB K k1 H a xs ∧ SqB K k2 H b ys ∧ i = min xs.length ys.length⟩
theorem turn_zipB {P : Program} {w : World} {K : PySem.W.Frag} {elts : List Expr} {kk : Nat} {tpos : Pos} {k1 k2 : Bool} {a b z TI TO i1 i2 : Addr} (S : ZipSep2 z TI TO i1 i2 [i1, a] [i2, b]) (ha1 : a ≠ i1) (hb2 : b ≠ i2) :
    Turn P w K (.Tuple elts kk tpos) (ItzB K k1 k2 a b) [z, TI, TO, i1, i2] z (fun i h => IsZip h z TI TO .none ∧ IsTupOf2 h TI (.ref i1) (.ref i2) ∧ (∃ x y, IsTupOf2 h TO x y) ∧ ItrB k1 h i1 a i ∧ ItrB k2 h i2 b i) where
  mem := by simp
  obj := fun i h st c hc => by
    obtain ⟨hz, hTI, ⟨x, y, hTO⟩, h1, h2⟩ := st
    have e' : c = z ∨ c = TI ∨ c = TO ∨ c = i1 ∨ c = i2 := by simpa using hc
    rcases e' with q | q | q | q | q
    · rw [q]; exact ⟨_, hz, fun v q => nomatch q⟩
    · rw [q]; exact ⟨_, hTI, fun v q => nomatch q⟩
    · rw [q]; exact ⟨_, hTO, fun v q => nomatch q⟩
    · rw [q]; exact itrB_obj h1
    · rw [q]; exact itrB_obj h2
  keep := fun i h h' st k => by
    obtain ⟨hz, hTI, ⟨x, y, hTO⟩, h1, h2⟩ := st
    exact ⟨k z (by simp) _ hz, k TI (by simp) _ hTI, ⟨x, y, k TO (by simp) _ hTO⟩, itrB_at h1 fun o q => k i1 (by simp) o q, itrB_at h2 fun o q => k i2 (by simp) o q⟩
  item := by
    intro X hP hw hK hc i pins s σ H E I hf st hg
    subst hP hw hK
    obtain ⟨hz, hTI, ⟨x0, y0, hTO⟩, h1, h2⟩ := st
    obtain ⟨xs, ys, x, y, hqx, hqy, hx, hy⟩ := hg
    obtain ⟨its, rv, p, _⟩ := seqB I hqx
    obtain ⟨its2, rv2, p2, _⟩ := seqB I hqy
    obtain ⟨u, hu, ru⟩ := rv.get hx
    obtain ⟨u2, hu2, ru2⟩ := rv2.get hy
    have hlt : i < its.toArray.size := by rw [List.size_toArray]; exact (List.getElem?_eq_some_iff.mp hu).1
    have hlt2 : i < its2.toArray.size := by rw [List.size_toArray]; exact (List.getElem?_eq_some_iff.mp hu2).1
    have hh : X.A.in1.handled = none := I.ok.hd hc
    have hzl : z < s.heap.objs.size := Heap.lt_size hz
    refine wpAny_pyNext_zipD2_item S (drawsB hh k1 i1 a ha1 its.toArray) (drawsB hh k2 i2 b hb2 its2.toArray) hz hTI hTO ⟨h1, p⟩ ⟨h2, p2⟩ hlt hlt2 fun v v2 h' tk ev ev2 z' TO' h1' h2' hT hsz hk => ?_
    have eu : v = u := by
      have e1 : its[i]? = some v := by simpa using ev
      rw [hu] at e1
      exact (Option.some.inj e1).symm
    have eu2 : v2 = u2 := by
      have e1 : its2[i]? = some v2 := by simpa using ev2
      rw [hu2] at e1
      exact (Option.some.inj e1).symm
    subst eu eu2
    refine ⟨_, rfl, wpAny_letOwnedTupleGo_zip (s := { s with heap := h', toks := tk }) z' fun h'' z'' sb => ?_⟩
    have hT2 : h''.get? s.heap.objs.size = some { cls := .type "tuple", data := .seq #[v, v2] } := (sb.2 _ (Nat.ne_of_gt hzl)).trans hT
    have new : ObjOk X.prog X.w (upd H s.heap.objs.size (.tup [x, y])) h'' s.heap.objs.size (.tup [x, y]) :=
      ⟨by show 2 ≤ sizeLine; decide, [v, v2], .cons ru (.cons ru2 .nil), ⟨_, hT2, rfl, _, rfl⟩⟩
    have I1 : L2.Inv X pins σ (upd H s.heap.objs.size (.tup [x, y])) { s with heap := h'', toks := tk } :=
      I.turnedNew (t' := tk) (ch := [z, TI, TO, i1, i2]) (fun c o hb q => (sb.2 c (fun q' => hb (by simp [q']))).trans (hk c o (fun q' => hb (by simp [q'])) (fun q' => hb (by simp [q'])) (fun q' => hb (by simp [q'])) (fun q' => hb (by simp [q'])) q)) hf (Nat.le_refl _) new
    refine ⟨.ref s.heap.objs.size, _, I1, rfl, ⟨_, x, y, rfl, I.hok.fresh (Nat.le_refl _), rfl, fun l hl => by rw [seqB_inj I hl hqx]; exact hx, fun l hl => by rw [seqB_inj I hl hqy]; exact hy⟩, ⟨z'', ?_, ⟨v, v2, ?_⟩, ?_, ?_⟩, fun c hcm => ?_⟩
    · exact (sb.2 _ S.TIz).trans (hk _ _ S.TIz S.TITO S.TIi1 S.TIi2 hTI)
    · exact (sb.2 _ S.TOz).trans TO'
    · exact itrB_at h1'.1 fun o q => (sb.2 _ (Ne.symm S.zi1)).trans q
    · exact itrB_at h2'.1 fun o q => (sb.2 _ (Ne.symm S.zi2)).trans q
    · have hlt : c < s.heap.objs.size := by
        have e' : c = z ∨ c = TI ∨ c = TO ∨ c = i1 ∨ c = i2 := by simpa using hcm
        rcases e' with q | q | q | q | q
        · rw [q]; exact hzl
        · rw [q]; exact Heap.lt_size hTI
        · rw [q]; exact Heap.lt_size hTO
        · rw [q]; obtain ⟨_, e1, _⟩ := itrB_obj h1; exact Heap.lt_size e1
        · rw [q]; obtain ⟨_, e2, _⟩ := itrB_obj h2; exact Heap.lt_size e2
      rw [upd_ne (Nat.ne_of_lt hlt)]
      exact (hf c hcm).1
  done := by
    intro X hP hw hK hc i pins s σ H E I hf st hg
    subst hP hw hK
    obtain ⟨hz, hTI, ⟨x0, y0, hTO⟩, h1, h2⟩ := st
    obtain ⟨xs, ys, hqx, hqy, hend⟩ := hg
    obtain ⟨its, rv, p, _⟩ := seqB I hqx
    obtain ⟨its2, rv2, p2, _⟩ := seqB I hqy
    have l1 := rv.length
    have l2 := rv2.length
    have hh : X.A.in1.handled = none := I.ok.hd hc
    exact wpAny_pyNext_zipD2_end S (drawsB hh k1 i1 a ha1 its.toArray) (drawsB hh k2 i2 b hb2 its2.toArray) hz hTI hTO ⟨h1, p⟩ ⟨h2, p2⟩ (by rw [List.size_toArray]; omega) (by rw [List.size_toArray]; omega) (by rw [List.size_toArray, List.size_toArray]; omega) fun h' tk hk => ⟨rfl, I.turnedL (t' := tk) (ch := [z, TI, TO, i1, i2]) (fun c o hb q =>
      hk c o (fun q' => hb (by simp [q'])) (fun q' => hb (by simp [q'])) (fun q' => hb (by simp [q'])) (fun q' => hb (by simp [q'])) q) hf⟩
  self := fun A i s Q E st h => wpAny_pyIter_zip st.1 h
def iZipB (K : PySem.W.Frag) (ta : TA) : TI := fun σ H R => ta σ H fun vs H1 => ∃ k1 k2 a b xs ys, vs = [.ref a, .ref b] ∧ SqB K k1 H1 a xs ∧ SqB K k2 H1 b ys ∧ R (ItzB K k1 k2 a b) H1
theorem pi_zipB {X : Cx} {e e2 : Expr} {ta : TA} {p pos tpos : Pos} {elts : List Expr} {kk : Nat} (hg : Gl X "zip") (hm : X.mg "zip" = none) (ha : PA X [e, e2] ta)
    (hs : starEach [e, e2] X.env = (false, eval e X.env) :: starEach [e2] X.env := by rfl) (hpl : (backTo pos (starEach [e2] X.env)).any (·.1) = false := by rfl) :
    PI X (.Tuple elts kk tpos) (.Call (.Name "zip" p) [e, e2] [] pos) (iZipB X.K ta) := by
  refine ⟨fun pins s σ H R I h => ?_⟩
  refine Call_ (ld_blt I hg hm PyProof.Rows.boot_zip (PyProof.Rows.callWith_type1 (thn (ha.run pos pins s σ H _ I h) fun us s1 ⟨vs, H1, I1, r1, q1⟩ => ?_) hs hpl))
  obtain ⟨k1, k2, a, b, xs, ys, ex, hqx, hqy, q⟩ := q1
  subst ex
  cases r1 with
  | cons r rr =>
    cases rr with
    | cons r' rr =>
      cases rr
      cases r
      cases r'
      obtain ⟨its, rv, p1, la⟩ := seqB I1 hqx
      obtain ⟨its2, rv2, p2, lb⟩ := seqB I1 hqy
      refine zip_begins2 (beginsB k1 a its.toArray) (beginsB k2 b its2.toArray) p1 p2 fun h' hz hTI hTO h1 h2 hsz hk => wpAny_pyIter_zip hz ?_
      have I2 : L2.Inv X pins σ H1 { s1 with heap := h' } := I1.kept (t' := s1.toks) hk
      refine ⟨s1.heap.objs.size + 4, [s1.heap.objs.size + 4, s1.heap.objs.size + 2, s1.heap.objs.size + 3, s1.heap.objs.size, s1.heap.objs.size + 1], _, _, H1, rfl, I2, turn_zipB (k1 := k1) (k2 := k2) (a := a) (b := b) (zip_sep2 (fun c hc => by rw [List.mem_singleton.mp hc]; exact la) (fun c hc => by rw [List.mem_singleton.mp hc]; exact lb)) (Nat.ne_of_lt la) (Nat.ne_of_lt (Nat.lt_succ_of_lt lb)), ⟨hz, hTI, ⟨_, _, hTO⟩, itrB_new h1, itrB_new h2⟩, fun c hcm => ?_, q⟩
      have e' : c = s1.heap.objs.size + 4 ∨ c = s1.heap.objs.size + 2 ∨ c = s1.heap.objs.size + 3 ∨ c = s1.heap.objs.size ∨ c = s1.heap.objs.size + 1 := by simpa using hcm
      have hle : s1.heap.objs.size ≤ c := by
        rcases e' with z | z | z | z | z
        · rw [z]; exact Nat.le_add_right _ _
        · rw [z]; exact Nat.le_add_right _ _
        · rw [z]; exact Nat.le_add_right _ _
        · rw [z]; exact Nat.le_refl _
        · rw [z]; exact Nat.le_add_right _ _
      exact I1.fpOk hle (I1.hok.fresh hle)
/-! ### in the hand of Ev -/
def D.seqB : D → Option (Bool × List D)
  | .lst l => some (true, l)
  | .tup l => some (false, l)
  | _ => none
section
variable {X : Cx} {G : Glb} {β : Bt} {W : WX} {a b : Expr} {pos : Pos} {H : Hp} {F : Addr → Prop}
theorem RV.seqB {d : D} {v : V} {k : Bool} {l : List D} (r : RV G H F d v) (e : D.seqB d = some (k, l)) : ∃ p xs, v = .ref p ∧ (∀ K H' F', Per H F H' F' → SqB K k H' p xs) ∧ RVs G H F l xs := by
  cases d with
  | lst m =>
    cases e
    unfold RV at r
    obtain ⟨p, xs, rfl, f, e, r⟩ := r
    exact ⟨p, xs, rfl, fun K H' F' pr => SqL.of (pr.k2 p _ f e), r⟩
  | tup m =>
    cases e
    unfold RV at r
    obtain ⟨p, xs, rfl, e, r⟩ := r
    exact ⟨p, xs, rfl, fun K H' F' pr => SqT.of (pr.k1 p _ rfl e), r⟩
  | _ => cases e
theorem itD_zipB {K : PySem.W.Frag} {k1 k2 : Bool} {p q : Addr} {xs ys : List V} {l m : List D} (e : ∀ H' F', Per H F H' F' → SqB K k1 H' p xs) (r : RVs G H F l xs) (e' : ∀ H' F', Per H F H' F' → SqB K k2 H' q ys) (r' : RVs G H F m ys) : ItD G (ItzB K k1 k2 p q) (zipD l m) H F where
  go := fun i d H' F' pr ed => by
    obtain ⟨da, db, h1, h2, rfl⟩ := zipD_get ed
    obtain ⟨x, ex, rx⟩ := (pr.rvs r).get h1
    obtain ⟨y, ey, ry⟩ := (pr.rvs r').get h2
    have z1 := e H' F' pr
    have z2 := e' H' F' pr
    refine ⟨⟨xs, ys, x, y, z1, z2, ex, ey⟩, fun v H2 w => ?_⟩
    obtain ⟨T, x', y', rfl, hT, rfl, w1, w2⟩ := w
    have i1 := w1 xs z1
    have i2 := w2 ys z2
    rw [ex] at i1; rw [ey] at i2
    cases i1; cases i2
    exact ⟨F', RV.pair hT rx ry⟩
  stop := fun H' F' pr => ⟨xs, ys, e H' F' pr, e' H' F' pr, by rw [zipD_len, r.len, r'.len]⟩
theorem itD_enuB {K : PySem.W.Frag} {k : Bool} {p : Addr} {xs : List V} {l : List D} (e : ∀ H' F', Per H F H' F' → SqB K k H' p xs) (r : RVs G H F l xs) : ItD G (IteB K k p) (enuD 0 l) H F where
  go := fun i d H' F' pr ed => by
    obtain ⟨da, h1, rfl⟩ := enuD_get ed
    obtain ⟨x, ex, rx⟩ := (pr.rvs r).get h1
    have z1 := e H' F' pr
    refine ⟨⟨xs, x, z1, ex⟩, fun v H2 w => ?_⟩
    obtain ⟨T, x', rfl, hT, rfl, w1⟩ := w
    have i1 := w1 xs z1
    rw [ex] at i1
    cases i1
    rw [Nat.zero_add]
    exact ⟨F', RV.pair hT (by unfold RV; rfl) rx⟩
  stop := fun H' F' pr => ⟨xs, e H' F' pr, by rw [enuD_len, r.len]⟩
def zipB : List D → Option (List D)
  | [x, y] => match D.seqB x, D.seqB y with
    | some (_, l), some (_, m) => some (zipD l m)
    | _, _ => none
  | _ => none
def enuB : List D → Option (List D)
  | [x] => (D.seqB x).map fun p => enuD 0 p.2
  | _ => none
theorem si_zipB {m m' : M D} {p tpos : Pos} {elts : List Expr} {kk : Nat} (hm : X.mg "zip" = none) (ha : PE X a (tE G β W m)) (hb : PE X b (tE G β W m')) (hg : Gl X "zip" := by rfl) (hs0 : starEach [b] X.env = (false, eval b X.env) :: starEach [] X.env := by rfl)
    (hs1 : starEach [a, b] X.env = (false, eval a X.env) :: starEach [b] X.env := by rfl) (hpl : (backTo pos (starEach [b] X.env)).any (·.1) = false := by rfl) :
    PI X (.Tuple elts kk tpos) (.Call (.Name "zip" p) [a, b] [] pos) (tI G β W (mRng zipB (mEach [m, m']))) := by
  refine PI.imp (pi_zipB hg hm (sl_cons ha (sl_cons hb sl_nil hs0) hs1) hs1 hpl) fun σ H R q => ?_
  obtain ⟨F, ρ, L, I, q⟩ := q
  refine tG_bind I q fun ds ρ1 vs H1 F1 L1 I1 r t q1 => ?_
  obtain ⟨ds', h, q1⟩ := optM_post q1
  unfold zipB at h
  split at h
  · rename_i x y
    split at h
    · rename_i k1 l k2 m e1 e2
      cases h
      unfold RVs at r
      obtain ⟨y, ys, rfl, ry, rn⟩ := r
      unfold RVs at rn
      obtain ⟨y', ys', rfl, ry', rn'⟩ := rn
      unfold RVs at rn'
      subst rn'
      obtain ⟨p, xs, rfl, e, r⟩ := ry.seqB e1
      obtain ⟨p', xs', rfl, e', r'⟩ := ry'.seqB e2
      exact ⟨k1, k2, p, p', xs, xs', rfl, e _ _ _ (Per.refl _ _), e' _ _ _ (Per.refl _ _), q1 _ H1 F1 L1 I1 (itD_zipB (e _) r (e' _) r') (Stp.refl _ _ _)⟩
    · cases h
  · cases h
theorem si_enuB {m : M D} {p tpos : Pos} {elts : List Expr} {kk : Nat} (hm : X.mg "enumerate" = none) (ha : PE X a (tE G β W m)) (hg : Gl X "enumerate" := by rfl) (hs0 : starEach [a] X.env = (false, eval a X.env) :: starEach [] X.env := by rfl)
    (hs1 : starEach [a] X.env = [(false, eval a X.env)] := by rfl) :
    PI X (.Tuple elts kk tpos) (.Call (.Name "enumerate" p) [a] [] pos) (tI G β W (mRng enuB (mEach [m]))) := by
  refine PI.imp (pi_enumB hg hm (sl_cons ha sl_nil hs0) hs1) fun σ H R q => ?_
  obtain ⟨F, ρ, L, I, q⟩ := q
  refine tG_bind I q fun ds ρ1 vs H1 F1 L1 I1 r t q1 => ?_
  obtain ⟨ds', h, q1⟩ := optM_post q1
  unfold enuB at h
  split at h
  · rename_i x
    cases e1 : D.seqB x with
    | none => rw [e1] at h; cases h
    | some kl =>
      obtain ⟨k, l⟩ := kl
      rw [e1] at h
      cases h
      unfold RVs at r
      obtain ⟨y, ys, rfl, ry, rn⟩ := r
      unfold RVs at rn
      subst rn
      obtain ⟨p, xs, rfl, e, r⟩ := ry.seqB e1
      exact ⟨k, p, xs, rfl, e _ _ _ (Per.refl _ _), q1 _ H1 F1 L1 I1 (itD_enuB (e _) r) (Stp.refl _ _ _)⟩
  · cases h
end
/-! truths told -/
section
variable {K : D → Prop}
theorem v_isbTT (k : K (.bl true)) : On (dIsB (.bl true) (.bl true)) K := v_isBB k
instance i_v_isbTT  : Step (On (dIsB (.bl true) (.bl true)) K) (K (.bl true)) := ⟨fun h => v_isbTT h⟩
theorem v_isbFF (k : K (.bl true)) : On (dIsB (.bl false) (.bl false)) K := v_isBB k
instance i_v_isbFF  : Step (On (dIsB (.bl false) (.bl false)) K) (K (.bl true)) := ⟨fun h => v_isbFF h⟩
theorem v_isbTF (k : K (.bl false)) : On (dIsB (.bl true) (.bl false)) K := v_isBB k
instance i_v_isbTF  : Step (On (dIsB (.bl true) (.bl false)) K) (K (.bl false)) := ⟨fun h => v_isbTF h⟩
theorem v_isbFT (k : K (.bl false)) : On (dIsB (.bl false) (.bl true)) K := v_isBB k
instance i_v_isbFT  : Step (On (dIsB (.bl false) (.bl true)) K) (K (.bl false)) := ⟨fun h => v_isbFT h⟩
theorem v_nobTT (k : K (.bl false)) : On (dIsNotB (.bl true) (.bl true)) K := v_notBB k
instance i_v_nobTT  : Step (On (dIsNotB (.bl true) (.bl true)) K) (K (.bl false)) := ⟨fun h => v_nobTT h⟩
theorem v_nobFF (k : K (.bl false)) : On (dIsNotB (.bl false) (.bl false)) K := v_notBB k
instance i_v_nobFF  : Step (On (dIsNotB (.bl false) (.bl false)) K) (K (.bl false)) := ⟨fun h => v_nobFF h⟩
theorem v_nobTF (k : K (.bl true)) : On (dIsNotB (.bl true) (.bl false)) K := v_notBB k
instance i_v_nobTF  : Step (On (dIsNotB (.bl true) (.bl false)) K) (K (.bl true)) := ⟨fun h => v_nobTF h⟩
theorem v_nobFT (k : K (.bl true)) : On (dIsNotB (.bl false) (.bl true)) K := v_notBB k
instance i_v_nobFT  : Step (On (dIsNotB (.bl false) (.bl true)) K) (K (.bl true)) := ⟨fun h => v_nobFT h⟩
end
end Ev
namespace Ev
open PySem PySem.Spec PyProof.Rows L2
/-! ## sorted, of pairs -/
def D.prs : List D → Option (List (Int × Int))
  | [] => some []
  | .tup [.int i, .int j] :: l => (D.prs l).map ((i, j) :: ·)
  | _ => none
def pairD (p : Int × Int) : D := .tup [.int p.1, .int p.2]
def insP (x : Int × Int) : List (Int × Int) → List (Int × Int)
  | [] => [x]
  | y :: l => if SrtO.lexB y x = true then y :: insP x l else x :: y :: l
def isortP : List (Int × Int) → List (Int × Int)
  | [] => []
  | x :: l => insP x (isortP l)
theorem insP_perm (x : Int × Int) : ∀ l, (insP x l).Perm (x :: l)
  | [] => .refl _
  | y :: l => by
    unfold insP
    split
    · exact ((insP_perm x l).cons y).trans (.swap x y l)
    · exact .refl _
theorem isortP_perm : ∀ l, (isortP l).Perm l
  | [] => .refl _
  | x :: l => (insP_perm x _).trans ((isortP_perm l).cons x)
abbrev SrtdP (l : List (Int × Int)) : Prop := SrtO.Srtd SrtO.lexB l
theorem insP_sorted (x : Int × Int) : ∀ l, SrtdP l → SrtdP (insP x l)
  | [], _ => by unfold insP; exact List.pairwise_singleton _ _
  | y :: l, h => by
    have h' := List.pairwise_cons.mp h
    unfold insP
    split
    · rename_i z
      refine List.pairwise_cons.mpr ⟨fun a ha => ?_, insP_sorted x l h'.2⟩
      rcases List.mem_cons.mp ((insP_perm x l).mem_iff.mp ha) with rfl | ha
      · have := SrtO.lexB_iff.mp z
        refine SrtO.lexB_no.mpr ?_
        omega
      · exact h'.1 a ha
    · rename_i z
      refine List.pairwise_cons.mpr ⟨fun a ha => ?_, h⟩
      have z' : SrtO.lexB y x = false := by simpa using z
      rcases List.mem_cons.mp ha with rfl | ha
      · exact z'
      · have a1 := SrtO.lexB_no.mp (h'.1 a ha)
        have a2 := SrtO.lexB_no.mp z'
        refine SrtO.lexB_no.mpr ?_
        omega
theorem isortP_sorted : ∀ l, SrtdP (isortP l)
  | [] => .nil
  | x :: l => insP_sorted x _ (isortP_sorted l)
theorem sortedP_uniq : ∀ {a b : List (Int × Int)}, a.Perm b → SrtdP a → SrtdP b → a = b
  | [], b, p, _, _ => (p.nil_eq)
  | x :: a, [], p, _, _ => absurd p.length_eq (by simp)
  | x :: a, y :: b, p, ha, hb => by
    have ha' := List.pairwise_cons.mp ha
    have hb' := List.pairwise_cons.mp hb
    have e : x = y := by
      have h1 : x ∈ y :: b := p.mem_iff.mp List.mem_cons_self
      have h2 : y ∈ x :: a := p.mem_iff.mpr List.mem_cons_self
      rcases List.mem_cons.mp h1 with h1 | h1
      · exact h1
      · rcases List.mem_cons.mp h2 with h2 | h2
        · exact h2.symm
        · have q1 := SrtO.lexB_no.mp (ha'.1 y h2)
          have q2 := SrtO.lexB_no.mp (hb'.1 x h1)
          obtain ⟨x1, x2⟩ := x
          obtain ⟨y1, y2⟩ := y
          simp only at q1 q2
          have : x1 = y1 ∧ x2 = y2 := by omega
          rw [this.1, this.2]
    subst e
    rw [sortedP_uniq (p.cons_inv) ha'.2 hb'.2]
def pairOf (H : Hp) : V → Int × Int
  | .ref t => match H t with
    | some (.tup [.int i, .int j]) => (i, j)
    | _ => (0, 0)
  | _ => (0, 0)
section
variable {G : Glb} {H : Hp} {F : Addr → Prop}
theorem prs_rel : ∀ {l : List D} {ys : List V} {ps : List (Int × Int)}, RVs G H F l ys → D.prs l = some ps → ys.map (pairOf H) = ps ∧ ∀ y ∈ ys, ∃ t, y = V.ref t ∧ H t = some (.tup [.int (pairOf H y).1, .int (pairOf H y).2])
  | [], ys, ps, r, e => by
    unfold RVs at r
    subst r
    cases e
    exact ⟨rfl, fun y hy => by cases hy⟩
  | d :: l, ys, ps, r, e => by
    unfold RVs at r
    obtain ⟨y, zs, rfl, ry, rs⟩ := r
    unfold D.prs at e
    split at e
    · rename_i e'
      cases e'
    · rename_i i j l' e'
      cases e'
      obtain ⟨qs, e1, rfl⟩ := Option.map_eq_some_iff.mp e
      obtain ⟨h1, h2⟩ := prs_rel rs e1
      unfold RV at ry
      obtain ⟨t, xs, rfl, ht, rx⟩ := ry
      unfold RVs at rx
      obtain ⟨v1, xs1, rfl, r1, rx⟩ := rx
      unfold RVs at rx
      obtain ⟨v2, xs2, rfl, r2, rx⟩ := rx
      unfold RVs at rx
      subst rx
      unfold RV at r1 r2
      subst r1 r2
      have ek : pairOf H (V.ref t) = (i, j) := by simp only [pairOf, ht]
      refine ⟨by rw [List.map_cons, ek, h1], fun y hy => ?_⟩
      rcases List.mem_cons.mp hy with rfl | hy
      · exact ⟨t, rfl, by rw [ek]; exact ht⟩
      · exact h2 y hy
    · cases e
theorem pairs_rel : ∀ {ys : List V}, (∀ y ∈ ys, ∃ t, y = V.ref t ∧ H t = some (.tup [.int (pairOf H y).1, .int (pairOf H y).2])) → RVs G H F ((ys.map (pairOf H)).map pairD) ys
  | [], _ => RVs.nil
  | y :: ys, h => by
    obtain ⟨t, e, ht⟩ := h y List.mem_cons_self
    refine RVs.cons ?_ (pairs_rel fun z hz => h z (List.mem_cons_of_mem _ hz))
    unfold pairD RV
    exact ⟨t, _, e, ht, RVs.cons (by unfold RV; rfl) (RVs.cons (by unfold RV; rfl) RVs.nil)⟩
end
def dSortedP : List D → Option D
  | [.lst l] => (D.prs l).map fun ps => .lst ((isortP ps).map pairD)
  | _ => none
theorem ok_sortedP (G : Glb) (K : PySem.W.Frag) : OkAN G (rSortedPO K) dSortedP := by
  intro xs ds d H F Q hx e q
  unfold dSortedP at e
  split at e
  · obtain ⟨ps, e1, rfl⟩ := Option.map_eq_some_iff.mp e
    obtain ⟨v, rfl, h⟩ := hx.one
    obtain ⟨p, ys, rfl, ep, rs⟩ := h.lst
    obtain ⟨h1, h2⟩ := prs_rel rs e1
    refine ⟨p, ys, pairOf H, rfl, SqL.of ep, h2, fun zs p' hs hb hp => ?_⟩
    have hz : ∀ z ∈ zs, ∃ t, z = V.ref t ∧ H t = some (.tup [.int (pairOf H z).1, .int (pairOf H z).2]) := fun z m => h2 z (hb.perm.mem_iff.mp m)
    have ez : zs.map (pairOf H) = isortP ps := by
      refine sortedP_uniq ?_ (SrtO.srtd_map hs) (isortP_sorted ps)
      rw [← h1]
      exact (hb.perm.map _).trans (isortP_perm _).symm
    have r := pairs_rel (G := G) (F := F) hz
    rw [ez] at r
    exact q p' _ _ hp rfl r
  · cases e
def rSortedA (K : PySem.W.Frag) : List V → Hp → VK → Prop := fun vs H Q => rSortedI K vs H Q ∨ rSortedPO K vs H Q
theorem cr_sortedA {X : Cx} : CallR X (.builtin "sorted") (rSortedA X.K) := by
  intro pins s σ H vs us Q I r h
  rcases h with h | h
  · exact cr_sortedI pins s σ H vs us Q I r h
  · exact cr_sortedPO pins s σ H vs us Q I r h
def dSortedA (ds : List D) : Option D := match dSorted ds with
  | some d => some d
  | none => dSortedP ds
theorem ok_sortedA (G : Glb) (K : PySem.W.Frag) : OkAN G (rSortedA K) dSortedA := by
  intro xs ds d H F Q hx e q
  unfold dSortedA at e
  split at e
  · rename_i d' e'
    cases e
    exact .inl (ok_sorted G K xs ds _ H F Q hx e' q)
  · exact .inr (ok_sortedP G K xs ds d H F Q hx e q)
end Ev
namespace PySem
open Sem (wp)
/-! max of four -/
section
variable {prog : Program} {w : World} {A : Around} {E : Value → Shared → Prop} {s : Shared}
theorem args_maxFour (a b c d : Value) : argsOk "max" ⟨[a, b, c, d], []⟩ := by unfold argsOk; kernel_rfl
theorem call_maxFour {a b c d : Value} {Q : Value → Shared → Prop}
    (h : wpAny (model prog w) A.in1 (pyIter (.ref s.heap.objs.size)) (fun it s₂ => ∃ I fp wr n P St bt, it = .ref I ∧ Walks prog w A.in1 I fp wr n P St ∧ St 0 s₂.heap ∧ (∀ b ∈ fp, b < s₂.heap.objs.size) ∧ 0 < n ∧ CmpOf prog w A.in1 .Gt P bt ∧
      ∀ v h' tk, P (argBest bt (n - 1)) v → (∀ b o, b ∉ wr → s₂.heap.get? b = some o → h'.get? b = some o) → Q v { s₂ with heap := h', toks := tk }) E
      { s with heap := s.heap.push { cls := .type "tuple", data := .seq #[a, b, c, d] } }) :
    wpAny (model prog w) A (call (.builtin "max") [a, b, c, d]) Q E s := by
  have hname : (toString "max" ++ toString ".loop" : String) = "max.loop" := by decide
  refine call_function_tree F.kind_max F.plain_max F.entry_max (args_maxFour _ _ _ _) ?_
  show wpAny _ A.in1 (Builtin.Builtins.bindParams "max" ["key", "default"] 0 ⟨[], []⟩ >>= _) _ _ s
  refine wpAny_bind (wpAny_of_eq (show Builtin.Builtins.bindParams "max" ["key", "default"] 0 ⟨[], []⟩ = pure [none, none] from rfl) ?_)
  show wpAny _ A.in1 (newTuple [a, b, c, d] >>= _) _ _ s
  refine wpAny_bind (wpAny_newObj_type ?_)
  refine wpAny_bind (wpAny_mono h (fun it s₂ h₂ => ?_) fun _ _ e => e)
  obtain ⟨I, fp, wr, n, P, St, bt, rfl, W, hst, hfp, hn, hcmp, hQ⟩ := h₂
  refine wpAny_bind (wpAny_newObj_type ?_)
  have hSf : s₂.heap.objs.size ∉ fp := fun hm => Nat.lt_irrefl _ (hfp _ hm)
  rw [hname]
  refine wpAny_pure ⟨plainId_quiet F.plain_max_loop _, codeAny_max_loop_first W bt hcmp s₂.heap.objs.size hSf hn (W.frame _ _ _ hst fun b _ o e => Heap.get?_push_of_some _ e) (Heap.get?_push_size _ rfl) fun v h' tk hP hk => ?_⟩
  exact hQ v h' tk hP fun b o hbw e => hk b o hbw (Nat.ne_of_lt (Heap.lt_size e)) (Heap.get?_push_of_some _ e)
def maxI (a b : Int) : Int := if b > a then b else a
theorem maxFour_ints {a b c d : Int} {t u v y : Tok} {Q : Value → Shared → Prop} (hh : A.handled = none)
    (h : ∀ h' tk z, (∀ e o, s.heap.get? e = some o → h'.get? e = some o) → Q (.int (maxI (maxI (maxI a b) c) d) z) { s with heap := h', toks := tk }) :
    wpAny (model prog w) A (call (.builtin "max") [.int a t, .int b u, .int c v, .int d y]) Q E s := by
  obtain ⟨X, eX⟩ : ∃ X : Array (Int × Tok), X = #[(a, t), (b, u), (c, v), (d, y)] := ⟨_, rfl⟩
  have hT : (s.heap.push { cls := .type "tuple", data := .seq #[.int a t, .int b u, .int c v, .int d y] }).IsTuple s.heap.objs.size (intItems X) := ⟨_, Heap.get?_push_size _ rfl, rfl, 0, by rw [eX]; simp [intItems]⟩
  refine call_maxFour (wpAny_pyIter_tuple hT ?_)
  have hsz : (s.heap.push { cls := .type "tuple", data := .seq #[.int a t, .int b u, .int c v, .int d y] }).objs.size = s.heap.objs.size + 1 := Heap.size_push ..
  refine ⟨_, [_, s.heap.objs.size], [_], _, _, _, _, rfl, Walks.tuple (A := A.in1) hh _ s.heap.objs.size (by rw [hsz]; exact Nat.ne_of_lt (Nat.lt_succ_self _)) (intItems X),
    ⟨⟨_, Heap.get?_push_size _ rfl, rfl, rfl⟩, hT.push _⟩, fun e he => ?_, by rw [eX]; simp [intItems], CmpOf.ints_gt (numAt X) (fun _ _ => intItems_at), fun r h' tk hP hk => ?_⟩
  · show e < ((s.heap.push _).push _).objs.size
    rw [Heap.size_push, hsz]
    rcases List.mem_cons.mp he with rfl | he
    · rw [hsz]; exact Nat.lt_succ_self _
    · rcases List.mem_cons.mp he with rfl | he
      · exact Nat.lt_succ_of_lt (Nat.lt_succ_self _)
      · cases he
  · have hold : ∀ e o, s.heap.get? e = some o → h'.get? e = some o := fun e o q => by
      refine hk e o (fun hm => ?_) (Heap.get?_push_of_some _ (Heap.get?_push_of_some _ q))
      rcases List.mem_cons.mp hm with e1 | hm
      · have := Heap.lt_size q; rw [e1, hsz] at this; exact Nat.lt_irrefl _ (Nat.lt_of_succ_lt this)
      · cases hm
    have hv : ∃ z, r = .int (maxI (maxI (maxI a b) c) d) z := by
      have e3 : (intItems X).size - 1 = 3 := by rw [eX]; simp [intItems]
      rw [e3, eX] at hP
      unfold maxI
      by_cases h1 : a < b
      · by_cases h2 : b < c
        · by_cases h3 : c < d <;> simp [argBest, numAt, intItems, h1, h2, h3] at hP ⊢ <;> exact ⟨_, hP.symm⟩
        · by_cases h3 : b < d <;> simp [argBest, numAt, intItems, h1, h2, h3] at hP ⊢ <;> exact ⟨_, hP.symm⟩
      · by_cases h2 : a < c
        · by_cases h3 : c < d <;> simp [argBest, numAt, intItems, h1, h2, h3] at hP ⊢ <;> exact ⟨_, hP.symm⟩
        · by_cases h3 : a < d <;> simp [argBest, numAt, intItems, h1, h2, h3] at hP ⊢ <;> exact ⟨_, hP.symm⟩
    obtain ⟨z, rfl⟩ := hv
    exact h h' tk z hold
end
end PySem
namespace Ev
open PySem PySem.Spec PyProof.Rows L2
theorem vals4 {x y z w : V} {us : List Value} (r : Vals [x, y, z, w] us) : ∃ a b c d, us = [a, b, c, d] ∧ RelV x a ∧ RelV y b ∧ RelV z c ∧ RelV w d := by
  cases r with
  | cons r1 r => cases r with
    | cons r2 r => cases r with
      | cons r3 r => cases r with
        | cons r4 r => cases r; exact ⟨_, _, _, _, rfl, r1, r2, r3, r4⟩
theorem call_max4 {X : Cx} (hc : X.calm = true) : CallR X (.builtin "max") (fun xs H Q => ∃ i j k l, xs = [.int i, .int j, .int k, .int l] ∧ Q (.int (maxI (maxI (maxI i j) k) l)) H) := by
  intro pins s σ H xs us Q I r h
  obtain ⟨i, j, k, l, rfl, q⟩ := h
  obtain ⟨a, b, c, d, rfl, ⟨t1, rfl⟩, ⟨t2, rfl⟩, ⟨t3, rfl⟩, ⟨t4, rfl⟩⟩ := vals4 r
  exact maxFour_ints (I.ok.hd hc) fun h' tk z k' => ⟨.int _, H, I.kept k', ⟨z, rfl⟩, q⟩
def dMax4 : List D → Option D
  | [.int i, .int j, .int k, .int l] => some (.int (maxI (maxI (maxI i j) k) l))
  | _ => none
theorem RWs.four {G : Glb} {H : Hp} {F : Addr → Prop} {d e f g : D} {xs : List V} (h : RWs G H F [d, e, f, g] xs) : ∃ v w x y, xs = [v, w, x, y] ∧ RW G H F d v ∧ RW G H F e w ∧ RW G H F f x ∧ RW G H F g y := by
  match xs, h with
  | [v, w, x, y], h => exact ⟨v, w, x, y, rfl, h.1, h.2.1, h.2.2.1, h.2.2.2.1⟩
  | [], h => exact h.elim
  | [_], h => exact h.2.elim
  | [_, _], h => exact h.2.2.elim
  | [_, _, _], h => exact h.2.2.2.elim
  | _ :: _ :: _ :: _ :: _ :: _, h => exact absurd h.2.2.2.2 (by intro z; cases z)
theorem ok_max4 (G : Glb) : OkN G (fun xs H Q => ∃ i j k l, xs = [.int i, .int j, .int k, .int l] ∧ Q (.int (maxI (maxI (maxI i j) k) l)) H) dMax4 := by
  intro xs ds d H F Q hx e q
  unfold dMax4 at e
  split at e
  · cases e
    obtain ⟨v, w, x, y, rfl, h, h', h2, h3⟩ := hx.four
    exact ⟨_, _, _, _, by rw [h.int, h'.int, h2.int, h3.int], done (.int _) q⟩
  · cases e
theorem v_max4 {i j k l : Int} {K : D → Prop} (q : K (.int (maxI (maxI (maxI i j) k) l))) : On (dMax4 [.int i, .int j, .int k, .int l]) K := q
instance i_v_max4 {i j k l : Int} {K : D → Prop} : Step (On (dMax4 [.int i, .int j, .int k, .int l]) K) (K (.int (maxI (maxI (maxI i j) k) l))) := ⟨fun h => v_max4 h⟩
theorem maxI_lt {a b c : Int} : maxI a b < c ↔ a < c ∧ b < c := by unfold maxI; split <;> omega
end Ev
namespace L2
open PySem PySem.Spec PyProof.Rows
/-! ## dict(pairs), keys that are tuples -/
def mergeT (kvs more : List (List Key × V)) : List (List Key × V) := more.foldl (fun acc kv => putK acc kv.1 kv.2) kvs
theorem length_mergeT : ∀ (more kvs : List (List Key × V)), (mergeT kvs more).length ≤ kvs.length + more.length
  | [], kvs => by show kvs.length ≤ kvs.length + 0; omega
  | p :: r, kvs => by
    have h1 := length_mergeT r (putK kvs p.1 p.2)
    have h2 := length_putK kvs p.1 p.2
    show (mergeT (putK kvs p.1 p.2) r).length ≤ _
    rw [List.length_cons]
    omega
theorem KT.merge {H : Hp} : ∀ {more : List (List Key × V)} {rs : List (List Key × Addr × Value)} {kvs : List (List Key × V)} {xs : List (List Key × Addr × Value)}, KT H more rs → KT H kvs xs → KT H (mergeT kvs more) (storedAllH xs rs) := by
  intro more rs kvs xs r
  unfold KT at r
  induction r generalizing kvs xs with
  | nil => intro q; exact q
  | @cons p q ps qs h t ih =>
    intro z
    obtain ⟨h1, h2, h3⟩ := h
    have key := ih (kvs := putK kvs p.1 p.2) (xs := storedH xs q.1 q.2.1 q.2.2) (by rw [h1]; exact z.put q.1 (by rw [← h1]; exact h2) h3)
    exact key
theorem tuple_stay {P : Program} {w : World} {h h' : Heap} {ks : List Key} {a : Addr} (x : (tupleKind (mixKind P w)).is h ks a) (k : ∀ o, h.get? a = some o → h'.get? a = some o) : (tupleKind (mixKind P w)).is h' ks a := by
  obtain ⟨o, its, n, h1, r⟩ := x
  exact ⟨o, its, n, k o h1, r⟩
section
variable {X : Cx}
theorem pairsT_of {pins : List (Addr × Obj)} {σ : St} {H : Hp} {s : Shared} (I : Inv X pins σ H s) : ∀ {ps : List Addr} {kvs : List (List Key × V)}, Paired (fun p kv => ∃ b, SqT X.K H p [V.ref b, kv.2] ∧ H b = some (.tup (kv.1.map kV))) ps kvs →
    ∃ xs : List (List Key × Addr × Value), KT H kvs xs ∧ xs.length = ps.length ∧ ∀ (j : Nat) (q : List Key × Addr × Value), xs[j]? = some q → ∃ (p : Addr), ps[j]? = some p ∧ s.heap.IsTuple p #[.ref q.2.1, q.2.2]
  | _, _, .nil => ⟨[], .nil, rfl, fun j q e => by simp at e⟩
  | _, _, .cons (a := p) (b := kv) h t => by
    obtain ⟨xs, r, hl, hp⟩ := pairsT_of I t
    obtain ⟨b, h, hb⟩ := h
    obtain ⟨its, rv, ht, _⟩ := I.tuple h
    obtain ⟨u, y, ei, ru, ry⟩ := vals2 rv
    subst ei
    obtain rfl : u = Value.ref b := ru
    refine ⟨(kv.1, b, y) :: xs, .cons ⟨rfl, hb, ry⟩ r, by rw [List.length_cons, List.length_cons, hl], fun j q e => ?_⟩
    cases j with
    | zero =>
      have e' : (kv.1, b, y) = q := Option.some.inj e
      subst e'
      exact ⟨p, rfl, ht⟩
    | succ j =>
      obtain ⟨c, e1, e2⟩ := hp j q (by simpa using e)
      exact ⟨c, by simpa using e1, e2⟩
def rDictT (K : PySem.W.Frag) : List V → Hp → VK → Prop := fun xs H Q => ∃ (a : Addr) (ps : List Addr) (kvs : List (List Key × V)), xs = [.ref a] ∧ SqL K H a (ps.map V.ref) ∧ Paired (fun p kv => ∃ b, SqT K H p [V.ref b, kv.2] ∧ H b = some (.tup (kv.1.map kV))) ps kvs ∧
    ∀ p, H p = none → Q (.ref p) (upd H p (.dT (mergeT [] kvs)))
theorem call_dictT (hcalm : X.calm = true) (hu : X.A.units + 2 < cLine) : CallR X (.type "dict") (rDictT X.K) := by
  intro pins s σ H xs us Q I r q
  obtain ⟨a, ps, kvs, ex, hq, hp, q⟩ := q
  subst ex
  obtain ⟨u, eu, rx⟩ := vals1 r
  subst eu
  cases rx
  obtain ⟨its, rv, pl, hz⟩ := I.list hq
  have ei := refs_at rv
  subst ei
  rw [List.length_map] at hz
  obtain ⟨x3, rel, hl, hpr⟩ := pairsT_of I hp
  have hn : (x3.map fun x => ((Value.ref x.2.1, x.2.2) : Value × Value)).length = x3.length := List.length_map ..
  refine call_dict_pairsH (knd := tupleKind (mixKind X.prog X.w)) (ps := x3) (PairArg.list a (ps.map Value.ref).toArray (fun j => ps.getD j 0) (x3.map fun x => (Value.ref x.2.1, x.2.2))) (I.ok.hd hcalm) (tupleKind_room_in1 (A := X.A.in1) hu) ⟨pl, by simp [hl], fun j k v e => ?_⟩ ⟨hn.symm, fun i k v e => ?_⟩ ?_ (by rw [hn, hl]; exact hz) fun h' tk hd' k => ?_
  · rw [List.getElem?_map] at e
    obtain ⟨z, e1, e2⟩ := Option.map_eq_some_iff.mp e
    obtain ⟨rfl, rfl⟩ := Prod.mk.inj e2
    obtain ⟨c, h1, h2⟩ := hpr j z e1
    have eg : ps.getD j 0 = c := by rw [List.getD_eq_getElem?_getD, h1]; rfl
    show (ps.map Value.ref).toArray[j]? = some (.ref (ps.getD j 0)) ∧ PairAt _ (ps.getD j 0) _ _
    rw [eg]
    refine ⟨?_, .inl h2⟩
    simp [h1]
  · have e' : (x3.map fun x => ((Value.ref x.2.1, x.2.2) : Value × Value))[i]? = some (k, v) := e
    rw [List.getElem?_map] at e'
    obtain ⟨z, e1, e2⟩ := Option.map_eq_some_iff.mp e'
    obtain ⟨rfl, rfl⟩ := Prod.mk.inj e2
    exact ⟨z.1, z.2.1, e1, rfl⟩
  · have all : ∀ {l : List (List Key × V)} {m : List (List Key × Addr × Value)}, KT H l m → ∀ x ∈ m, (tupleKind (mixKind X.prog X.w)).is s.heap x.1 x.2.1 := by
      intro l m q
      unfold KT at q
      induction q with
      | nil => intro x hx; exact nomatch hx
      | @cons p q ps qs hq t ih =>
        intro x hx
        rcases List.mem_cons.mp hx with e | hx
        · subst e
          exact key_of I.hok (by rw [← hq.1]; exact hq.2.1)
        · exact ih x hx
    intro h' hk x hx
    exact tuple_stay (all rel x hx) fun o e => hk _ o (Nat.ne_of_lt (Heap.lt_size e)) (by simp) e
  · have hm : (s.heap.objs.size == sysModules) = false := beq_eq_false_iff_ne.mpr (Nat.ne_of_gt I.big)
    have hlen : (mergeT [] kvs).length ≤ sizeLine := by
      refine Nat.le_trans (length_mergeT kvs []) ?_
      rw [List.length_nil, Nat.zero_add, Paired.length rel, hl]
      exact hz
    have hno := I.hok.fresh (Nat.le_refl s.heap.objs.size)
    obtain ⟨o, es, ep, h1, h2, h3, h4, _, h5⟩ := hd'
    refine ⟨.ref s.heap.objs.size, upd H s.heap.objs.size (.dT (mergeT [] kvs)), I.laid (t' := tk) (fun b o e => k b o (by simp) e) (Nat.le_refl _) (show ObjOk X.prog X.w _ _ _ (.dT (mergeT [] kvs)) from ⟨hlen, hm, _, (KT.merge rel .nil).keeps fun c ys ec => ?_, o, es, ep, h1, h2, h3, h4, h5⟩), rfl, q _ hno⟩
    rw [upd_ne (fun z => by rw [z, hno] at ec; cases ec)]
    exact ec
end
/-! ## sorted(d), the keys pairs of ints -/
def pairOf (H : Hp) : V → Int × Int
  | .ref t => match H t with
    | some (.tup [.int i, .int j]) => (i, j)
    | _ => (0, 0)
  | _ => (0, 0)
open PySem.Calls in
/-- the keys of a dict gathered; the heap has grown -/
theorem gather_keys {prog : Program} {w : World} {A : Around} {E : Value → Shared → Prop} {s : Shared} {R : List Value → Shared → Prop} {T : String} {r d : Addr} {n : Nat} {P : Nat → Value → Prop} {OK : Heap → Prop} (S : PySem.W.KdlSrc prog w T r d n P OK) (hh : A.handled = none) (hok : OK s.heap) (hn : n ≤ sizeLine)
    (h : ∀ (h' : Heap) (tk : Nat) (acc : Array Value), (∀ b o, s.heap.get? b = some o → h'.get? b = some o) → s.heap.objs.size < h'.objs.size → ItemsOf P acc n → R acc.toList { s with heap := h', toks := tk }) :
    wpAny (model prog w) A (collect (.ref r)) R E s := by
  obtain ⟨z, ez⟩ : ∃ z, s.heap.objs.size = z := ⟨_, rfl⟩
  have old := S.there _ hok
  have grown : ∀ b o, s.heap.get? b = some o → (s.heap.push { cls := .type "list", data := .seq #[] }).get? b = some o := fun b o e => Heap.get?_push_of_some _ e
  have fresh : (s.heap.push { cls := .type "list", data := .seq #[] }).get? z = some { cls := .type "list", data := .seq #[] } := by rw [← ez]; exact Heap.get?_push_size _ rfl
  have run := PySem.W.kdl_extend (A := A) (s := { s with heap := s.heap.push { cls := .type "list", data := .seq #[] } })
    (R := fun q s' => ∃ (h' : Heap) (tk : Nat) (acc : Array Value) (c : Nat), q = .ok (.ret (.ref z)) ∧ s' = { s with heap := h', toks := tk } ∧ (∀ b o, s.heap.get? b = some o → h'.get? b = some o) ∧ h'.get? z = some { cls := .type "list", dict := none, data := .seq acc c, slots := #[] } ∧ ItemsOf P acc n)
    S hh (S.keep _ _ hok fun b _ o e => grown b o e) z (by rw [← ez]; exact Nat.ne_of_gt old.1) (by rw [← ez]; exact Nat.ne_of_gt old.2) (.ref z) 0 fresh
    (fun h' tk acc c k e it => ⟨h', tk, acc, c, rfl, rfl, fun b o q => k b o (by rw [← ez]; exact Nat.ne_of_lt (Heap.lt_size q)) (grown b o q), e, it⟩) hn
  unfold collect
  refine wpAny_bind (wpAny_runValue (codeAny_builtin entry_proto_collect' ?_))
  rw [Around.under_plainId PySem.F.plain_proto_collect _]
  refine wpAny_bind (wpAny_newObj_type ?_)
  refine wpAny_pure ⟨plainId_quiet PySem.F.plain_list_iadd _, codeAny_builtin entry_list_iadd' ?_⟩
  rw [Around.under_plainId PySem.F.plain_list_iadd _, ez]
  refine wpAny_mono run (fun fin s' x => ?_) fun e s' ⟨_, _, _, _, e', _⟩ => nomatch e'
  cases fin with
  | done f =>
    obtain ⟨h', tk, acc, c, e, rfl, k, e3, it⟩ := x
    cases e
    refine wpAny_bind (wpAny_load e3 ?_)
    exact wpAny_pure (h h' tk acc k (by rw [ez]; exact Heap.lt_size e3) it)
  | again c₁ =>
    refine ⟨x.1, codeAny_mono x.2 fun q s₂ ⟨h', tk, acc, c, e1, e2, k, e3, it⟩ => ?_⟩
    subst e1 e2
    refine wpAny_bind (wpAny_load e3 ?_)
    exact wpAny_pure (h h' tk acc k (by rw [ez]; exact Heap.lt_size e3) it)
def rSortedDT : List V → Hp → VK → Prop := fun vs H Q => ∃ (d : Addr) (kvs : List (List Key × V)), vs = [V.ref d] ∧ Rd H d (.dT kvs) ∧ (∀ kv ∈ kvs, ∃ i j : Int, kv.1 = [.inl i, .inl j]) ∧
  ∀ bs ys p, IsKeys H kvs bs → SrtO.Srtd (ltP (pairOf H)) ys → SrtO.Stb (ltP (pairOf H)) ys (bs.map V.ref) → H p = none → Q (.ref p) (upd H p (.lst ys))
open PySem.Calls SrtO Srt in
theorem cr_sortedDT {X : Cx} (hc : X.calm = true) : CallR X (.builtin "sorted") rSortedDT := by
  intro pins s σ H xs us Q I r h
  obtain ⟨d, kvs, rfl, hd, hk2, q⟩ := h
  obtain ⟨u, rfl, rx⟩ := r.one
  cases rx
  obtain ⟨z, hs, ks, pr, o, es, ep, ho, hx, hdt, he, hn⟩ := (show ObjOk X.prog X.w H s.heap d (.dT kvs) from hd.ok I.hok)
  have l1 : es.size = ks.length := size_of_entries he
  have l2 : kvs.length = ks.length := Paired.length pr
  refine call_function_entry kind_sorted plain_sorted entry_sorted (args_sorted1 _) ?_
  unfold Builtin.«sorted»
  refine wpAny_bind (m := checkCount "sorted" 1 1 _) (wpAny_pure ?_)
  refine wpAny_bind (gather_keys (A := X.A.in1) (kdl_raw hs hx hdt) (I.ok.hd hc) ho (by omega) fun h' tk acc' kp hgt it => ?_)
  have ea : acc'.toList = ks.map fun x => Value.ref x.2.1 := by
    have hl : acc'.toList.length = ks.length := by rw [Array.length_toList, it.1]; exact l1
    apply List.ext_getElem?
    intro j
    rw [List.getElem?_map]
    cases hj : acc'.toList[j]? with
    | none =>
      have h1 := List.getElem?_eq_none_iff.mp hj
      rw [List.getElem?_eq_none (by omega)]
      all_goals rfl
    | some v =>
      obtain ⟨en, hen, hv⟩ := it.2 j v (by rw [← Array.getElem?_toList]; exact hj)
      have qe := entry_at he j
      rw [hen] at qe
      cases hb : ks[j]? with
      | none =>
        rw [hb] at qe
        exact nomatch (show some en = none from qe)
      | some b =>
        rw [hb] at qe
        have e2 : en = entryOfKey (tupleKind (mixKind X.prog X.w)) b := Option.some.inj qe
        rw [hv, e2]
        all_goals rfl
  obtain ⟨bs, ebs⟩ : ∃ bs, (ks.map fun x => x.2.1) = bs := ⟨_, rfl⟩
  have eb : acc'.toList = bs.map Value.ref := by rw [ea, ← ebs, List.map_map]; rfl
  have hbl : bs.length ≤ sizeLine := by rw [← ebs, List.length_map]; omega
  have hik : IsKeys H kvs bs := by rw [← ebs]; exact isKeys_of pr
  rw [eb]
  refine wpAny_bind (wpAny_newList ?_ (by rw [List.length_map]; exact hbl))
  have hoL : (h'.push (seqObj "list" (bs.map Value.ref).toArray 0)).get? h'.objs.size = some (seqObj "list" (bs.map Value.ref).toArray 0) := Heap.get?_push_size _ rfl
  have hpr : ∀ v ∈ bs.map Value.ref, IsPair s.heap v (pairOf H (backV v)).1 (pairOf H (backV v)).2 := fun v hv => by
    obtain ⟨b, hb, rfl⟩ := List.mem_map.mp hv
    obtain ⟨kv, hkv, hH⟩ : ∃ kv ∈ kvs, H b = some (.tup (kv.1.map kV)) := by
      clear q ebs eb hoL hbl
      unfold IsKeys at hik
      clear hk2 hd pr l2 z
      induction hik with
      | nil => cases hb
      | cons h t ih =>
        rcases List.mem_cons.mp hb with rfl | hb
        · exact ⟨_, List.mem_cons_self, h⟩
        · obtain ⟨kv, m, e⟩ := ih hb (List.mem_map.mpr ⟨_, hb, rfl⟩)
          exact ⟨kv, List.mem_cons_of_mem _ m, e⟩
    obtain ⟨i, j, e⟩ := hk2 kv hkv
    rw [e] at hH
    have e2 : pairOf H (backV (Value.ref b)) = (i, j) := by
      show pairOf H (V.ref b) = (i, j)
      have hH' : H b = some (.tup [.int i, .int j]) := hH
      simp only [pairOf, hH']
    rw [e2]
    obtain ⟨_, its2, r2, o2, ho2, hc2, n2, hd2⟩ := I.hok _ _ hH
    obtain ⟨u1, u2, rfl, ri, rj⟩ := vals2 r2
    obtain ⟨t1, rfl⟩ := ri
    obtain ⟨t2, rfl⟩ := rj
    exact ⟨b, o2, t1, t2, n2, rfl, ho2, hc2, hd2⟩
  show wpAny _ _ _ _ _ { s with heap := h'.push (seqObj "list" (bs.map Value.ref).toArray 0), toks := tk }
  refine wpAny_bind (wpAny_holding (wpAny_call_entry slot_list_sort ⟨_, hoL, rfl⟩ entry_list_sort (list_sort_ord (ltv := fun v u => lexB (pairOf H (backV v)) (pairOf H (backV u))) (swo_lex _) hoL (by rw [List.length_map]; exact hbl) (fun h2 => ?_) fun out hs hb => ⟨_, rfl, ?_⟩) (args_list_sort _)))
  · refine pairs_sortableO (by omega) (fun v hm => (hpr v hm).keeps fun b o e _ => Heap.get?_push_of_some _ (kp b o e)) fun o e => ?_
    have e' := e.symm.trans hoL
    cases e'
    intro c
    exact absurd (Value.type.inj c) (by decide)
  · refine wpAny_pure ⟨_, rfl, ?_⟩
    have h3 : ∀ u ∈ out, ∃ a, u = Value.ref a := fun u hu => by
      obtain ⟨b, _, e⟩ := List.mem_map.mp (hb.perm.mem_iff.mp hu)
      exact ⟨b, e.symm⟩
    have hsz : s.heap.objs.size ≤ h'.objs.size := Nat.le_of_lt hgt
    have hlen : out.length = bs.length := by rw [hb.len, List.length_map]
    have hb2 : Stb (ltP (pairOf H)) (out.map backV) (bs.map V.ref) := by
      have e1 : bs.map V.ref = (bs.map Value.ref).map backV := by rw [List.map_map]; rfl
      rw [e1]
      exact Stb.map (ltP_swo (pairOf H)) backV hb
    obtain ⟨n, hn2⟩ := sortedHeap_at (vs := bs.map Value.ref) (out := out.toArray) hoL
    refine ⟨.ref h'.objs.size, upd H h'.objs.size (.lst (out.map backV)), I.laid (t' := tk) (fun b o e => ?_) hsz ⟨?_, out, n, vals_back h3, hn2⟩, rfl, q bs _ _ hik (srtd_map hs) hb2 (I.hok.fresh hsz)⟩
    · have hb3 : b < h'.objs.size := Heap.lt_size (kp b o e)
      rw [sortedHeap_old (Nat.ne_of_lt hb3) (by rw [size_push']; exact Nat.lt_succ_of_lt hb3)]
      exact Heap.get?_push_of_some _ (kp b o e)
    · rw [List.length_map, hlen]
      exact hbl
end L2
namespace Ev
open PySem PySem.Spec PyProof.Rows L2
/-! ## of data -/
def kvPairsT : List D → Option (List (List Key × D))
  | [] => some []
  | .tup [k, v] :: r => (D.tkey k).bind fun k => (kvPairsT r).map ((k, v) :: ·)
  | _ :: _ => none
def dDictT : List D → Option D
  | [.lst l] => (kvPairsT l).map fun r => .dt (kvMerge ([], []) r).1 (kvMerge ([], []) r).2
  | _ => none
section
variable {G : Glb} {H : Hp} {F : Addr → Prop}
theorem merge_relT : ∀ {r : List (List Key × D)} {kvs : List (List Key × V)} {ks : List (List Key)} {ds : List D} {xs : List V}, kvs.map (·.1) = r.map (·.1) → RVs G H F (r.map (·.2)) (kvs.map (·.2)) → ks.length = xs.length → RVs G H F ds xs →
    ∃ zs, mergeT (ks.zip xs) kvs = (kvMerge (ks, ds) r).1.zip zs ∧ (kvMerge (ks, ds) r).1.length = zs.length ∧ RVs G H F (kvMerge (ks, ds) r).2 zs
  | [], kvs, ks, ds, xs, e, _, hl, rs => by
    have : kvs = [] := by simpa using e
    subst this
    exact ⟨xs, rfl, hl, rs⟩
  | (k, d) :: r, kvs, ks, ds, xs, e, rv, hl, rs => by
    cases kvs with
    | nil => simp at e
    | cons p kvs =>
      obtain ⟨k', v⟩ := p
      simp only [List.map_cons, List.cons.injEq] at e
      obtain ⟨rfl, e⟩ := e
      simp only [List.map_cons] at rv
      unfold RVs at rv
      obtain ⟨y, ys, q, ry, rr⟩ := rv
      cases q
      obtain ⟨zs, z1, z2, z3⟩ := kvPut_rel ry hl rs (x := k')
      have key := merge_relT (r := r) (kvs := kvs) e rr z2 z3
      show ∃ ws, mergeT (putK (ks.zip xs) k' v) kvs = _ ∧ _
      rw [z1]
      exact key
theorem kvPairsT_rel {K : PySem.W.Frag} : ∀ {l : List D} {r : List (List Key × D)} {xs : List V}, RVs G H F l xs → kvPairsT l = some r →
    ∃ (ps : List Addr) (kvs : List (List Key × V)), xs = ps.map V.ref ∧ Paired (fun p kv => ∃ b, SqT K H p [V.ref b, kv.2] ∧ H b = some (.tup (kv.1.map kV))) ps kvs ∧ kvs.map (·.1) = r.map (·.1) ∧ RVs G H F (r.map (·.2)) (kvs.map (·.2))
  | [], r, xs, h, e => by
    cases e
    unfold RVs at h
    subst h
    exact ⟨[], [], rfl, .nil, rfl, RVs.nil⟩
  | d :: l, r, xs, h, e => by
    unfold kvPairsT at e
    split at e
    · cases ‹d :: l = []›
    · rename_i k v r' heq
      cases heq
      obtain ⟨k', e1, e2⟩ := Option.bind_eq_some_iff.mp e
      obtain ⟨r2, e3, rfl⟩ := Option.map_eq_some_iff.mp e2
      unfold RVs at h
      obtain ⟨y, ys, rfl, ry, rs⟩ := h
      obtain ⟨ps, kvs, rfl, h1, h2, h3⟩ := kvPairsT_rel (K := K) rs e3
      unfold RV at ry
      obtain ⟨a, zs, rfl, ea, rz⟩ := ry
      unfold RVs at rz
      obtain ⟨z1, zs1, rfl, rk, rz⟩ := rz
      unfold RVs at rz
      obtain ⟨z2, zs2, rfl, rv, rz⟩ := rz
      unfold RVs at rz
      subst rz
      obtain ⟨b, rfl, hb⟩ := tkey_rel (.inl rk) e1
      exact ⟨a :: ps, (k', z2) :: kvs, rfl, .cons ⟨b, SqT.of ea, hb⟩ h1, by simp [h2], RVs.cons rv h3⟩
    · cases e
end
theorem ok_dictT (G : Glb) (K : PySem.W.Frag) : OkAD G (rDictT K) dDictT := by
  intro xs ds d H F Q hx e q
  unfold dDictT at e
  split at e
  · obtain ⟨r, e1, rfl⟩ := Option.map_eq_some_iff.mp e
    obtain ⟨v, rfl, h⟩ := hx.one
    obtain ⟨p, ys, rfl, ep, rs⟩ := h.lst
    obtain ⟨ps, kvs, rfl, h1, h2, h3⟩ := kvPairsT_rel (K := K) rs e1
    refine ⟨p, ps, kvs, rfl, SqL.of ep, h1, fun t ht => ?_⟩
    obtain ⟨zs, z1, z2, z3⟩ := merge_relT (ks := []) (ds := []) (xs := []) h2 h3 rfl RVs.nil
    rw [List.zip_nil_left] at z1
    exact q t _ ht rfl ⟨zs, by rw [z1, upd_same], z2, RVs.ext (Ext.one ht) z3⟩
  · cases e
/-- dict(pairs), the keys ints and texts or tuples of such -/
def rDictA (K : PySem.W.Frag) : List V → Hp → VK → Prop := fun xs H Q => (∃ (a : Addr) (ps : List Addr) (kvs : List (Key × V)), xs = [.ref a] ∧ SqL K H a (ps.map V.ref) ∧ Paired (fun p kv => SqT K H p [kV kv.1, kv.2]) ps kvs ∧
    ∀ p, H p = none → Q (.ref p) (upd H p (.dK (mergeK [] kvs)))) ∨ rDictT K xs H Q
theorem call_dictA {X : Cx} (hc : X.calm = true) (hu : X.A.units + 2 < cLine) : CallR X (.type "dict") (rDictA X.K) := by
  intro pins s σ H vs us Q I r h
  rcases h with h | h
  · exact call_dictP hc pins s σ H vs us Q I r h
  · exact call_dictT hc hu pins s σ H vs us Q I r h
def dDictA (ds : List D) : Option D := match dDictP ds with
  | some d => some d
  | none => dDictT ds
theorem ok_dictA (G : Glb) (K : PySem.W.Frag) : OkAD G (rDictA K) dDictA := by
  intro xs ds d H F Q hx e q
  unfold dDictA at e
  split at e
  · rename_i d' e'
    cases e
    exact .inl (ok_dictP G K xs ds _ H F Q hx e' q)
  · exact .inr (ok_dictT G K xs ds d H F Q hx e q)
/-! ## sorted(d), the keys pairs -/
def kPair : List Key → Option (Int × Int)
  | [.inl i, .inl j] => some (i, j)
  | _ => none
def kPairs : List (List Key) → Option (List (Int × Int))
  | [] => some []
  | k :: l => (kPair k).bind fun p => (kPairs l).map (p :: ·)
def dSortedDT : List D → Option D
  | [.dt ks ds] => (kPairs ks).map fun ps => .lst ((isortP ps).map pairD)
  | _ => none
theorem kPairs_all : ∀ {ks : List (List Key)} {ps : List (Int × Int)}, kPairs ks = some ps → ks = ps.map fun p => [.inl p.1, .inl p.2]
  | [], ps, e => by cases e; rfl
  | k :: ks, ps, e => by
    unfold kPairs at e
    obtain ⟨p, e1, e2⟩ := Option.bind_eq_some_iff.mp e
    obtain ⟨qs, e3, rfl⟩ := Option.map_eq_some_iff.mp e2
    rw [List.map_cons, ← kPairs_all e3]
    unfold kPair at e1
    split at e1
    · cases e1; rfl
    · cases e1
theorem pairOf_eq (H : Hp) : Ev.pairOf H = L2.pairOf H := by
  funext v
  unfold Ev.pairOf L2.pairOf
  rfl
theorem ok_sortedDT (G : Glb) : OkAN G rSortedDT dSortedDT := by
  intro xs ds d H F Q hx e q
  unfold dSortedDT at e
  split at e
  · rename_i ks ds'
    obtain ⟨ps, e1, rfl⟩ := Option.map_eq_some_iff.mp e
    obtain ⟨v, rfl, h⟩ := hx.one
    obtain ⟨p, ys, rfl, ep, hl, rs⟩ := h.dt
    have ek := kPairs_all e1
    refine ⟨p, _, rfl, ep, fun kv hkv => ?_, fun bs zs p' hb h1 h2 hp => ?_⟩
    · have := (List.of_mem_zip (show (kv.1, kv.2) ∈ ks.zip ys from hkv)).1
      rw [ek] at this
      obtain ⟨z, _, e⟩ := List.mem_map.mp this
      exact ⟨_, _, e.symm⟩
    · have all : ∀ {ks : List (List Key)} {ys : List V} {ps : List (Int × Int)} {bs : List Addr}, ks = ps.map (fun p => [.inl p.1, .inl p.2]) → ks.length = ys.length → IsKeys H (ks.zip ys) bs →
          (bs.map V.ref).map (Ev.pairOf H) = ps ∧ ∀ y ∈ bs.map V.ref, ∃ t, y = V.ref t ∧ H t = some (.tup [.int (Ev.pairOf H y).1, .int (Ev.pairOf H y).2]) := by
        intro ks
        induction ks with
        | nil =>
          intro ys ps bs e hl hb
          cases ps with
          | cons _ _ => cases e
          | nil =>
            rw [List.zip_nil_left] at hb
            cases hb
            exact ⟨rfl, fun y hy => by cases hy⟩
        | cons k ks ih =>
          intro ys ps bs e hl hb
          cases ps with
          | nil => cases e
          | cons p ps =>
            cases ys with
            | nil => cases hl
            | cons y ys =>
              rw [List.zip_cons_cons] at hb
              cases hb with
              | @cons _ b _ bs' h t =>
                obtain ⟨e8, e9⟩ := List.cons.inj e
                subst e8
                obtain ⟨i1, i2⟩ := ih e9 (by simpa using hl) t
                have hb2 : H b = some (.tup [.int p.1, .int p.2]) := h
                have e5 : Ev.pairOf H (V.ref b) = p := by simp only [Ev.pairOf, hb2]
                refine ⟨by rw [List.map_cons, List.map_cons, i1, e5], fun y hy => ?_⟩
                rw [List.map_cons] at hy
                rcases List.mem_cons.mp hy with rfl | hy
                · exact ⟨b, rfl, by rw [e5]; exact hb2⟩
                · exact i2 y hy
      obtain ⟨a1, a2⟩ := all ek hl hb
      rw [← pairOf_eq] at h1 h2
      have hz : ∀ z ∈ zs, ∃ t, z = V.ref t ∧ H t = some (.tup [.int (Ev.pairOf H z).1, .int (Ev.pairOf H z).2]) := fun z m => a2 z (h2.perm.mem_iff.mp m)
      have ez : zs.map (Ev.pairOf H) = isortP ps := by
        refine sortedP_uniq ?_ (SrtO.srtd_map h1) (isortP_sorted ps)
        rw [← a1]
        exact (h2.perm.map _).trans (isortP_perm _).symm
      have r := pairs_rel (G := G) (F := F) hz
      rw [ez] at r
      exact q p' _ _ hp rfl r
  · cases e
def rSortedB (K : PySem.W.Frag) : List V → Hp → VK → Prop := fun vs H Q => rSortedA K vs H Q ∨ rSortedDT vs H Q
theorem cr_sortedB {X : Cx} (hc : X.calm = true) : CallR X (.builtin "sorted") (rSortedB X.K) := by
  intro pins s σ H vs us Q I r h
  rcases h with h | h
  · exact cr_sortedA pins s σ H vs us Q I r h
  · exact cr_sortedDT hc pins s σ H vs us Q I r h
def dSortedB (ds : List D) : Option D := match dSortedDT ds with
  | some d => some d
  | none => dSortedA ds
theorem ok_sortedB (G : Glb) (K : PySem.W.Frag) : OkAN G (rSortedB K) dSortedB := by
  intro xs ds d H F Q hx e q
  unfold dSortedB at e
  split at e
  · rename_i d' e'
    cases e
    exact .inr (ok_sortedDT G xs ds _ H F Q hx e' q)
  · exact .inl (ok_sortedA G K xs ds d H F Q hx e q)
/-! ## min(x, default=0), x.index(k) -/
def rMin0 (K : PySem.W.Frag) : List V → List V → Hp → VK → Prop := fun xs zs H Q => ∃ (a : Addr) (ns : List Int), xs = [.ref a] ∧ zs = [.int 0] ∧ SqL K H a (ns.map V.int) ∧ Q (.int (match ns with | [] => 0 | n :: l => minL n l)) H
theorem alike_ints (ns : List Int) : PySem.W.AlikeAll (ns.map .int) := ⟨fun x hx y hy => by
  obtain ⟨i, _, rfl⟩ := List.mem_map.mp hx
  obtain ⟨j, _, rfl⟩ := List.mem_map.mp hy
  rfl, fun x hx => by
  obtain ⟨i, _, rfl⟩ := List.mem_map.mp hx
  intro z
  cases z⟩
theorem depth_ints : ∀ ns : List Int, PyData.depthAll (ns.map .int) ≤ 1
  | [] => by decide
  | n :: ns => by
    have := depth_ints ns
    show max _ _ ≤ 1
    exact Nat.max_le.mpr ⟨by simp [PyData.depth], this⟩
theorem foldl_min (n : Int) : ∀ l : List Int, l.foldl min n = minL n l := by
  intro l
  induction l generalizing n with
  | nil => rfl
  | cons x l ih =>
    rw [List.foldl_cons, ih]
    show minL (min n x) l = minL (if x < n then x else n) l
    congr 1
    rw [Int.min_def]
    by_cases h : x < n
    · rw [if_pos h, if_neg (by omega)]
    · rw [if_neg h, if_pos (by omega)]
theorem cr_min0 {X : Cx} (hc : X.calm = true) (hu : X.A.units + 2 < cLine) : CallRK X (.builtin "min") [Str.ofString "default"] (rMin0 X.K) := by
  intro pins s σ H xs zs us ws Q I r rz h
  obtain ⟨a, ns, rfl, rfl, hs, q⟩ := h
  obtain ⟨its, rv, hl, _⟩ := I.list hs
  obtain ⟨u, rfl, ru⟩ := rz.one
  obtain ⟨t0, rfl⟩ := ru
  rw [Vals.ref1 r]
  show wpAny _ _ (call (.builtin "min") [.ref a] [(Str.ofString "default", .int 0 t0)]) _ _ _
  have hI := rv.ints
  refine PySem.W.min_list_default (I.ok.hd hc) hl.isList (xs := ns.map .int) (by simpa using hI.reads s.heap) (alike_ints ns) (by have := depth_ints ns; omega) (fun e h' tk k => ?_) (fun y ys i v h' tk bs e _ hv k => ?_)
  · have e' : ns = [] := by simpa using e
    subst e'
    exact ⟨.int 0, H, I.kept k, ⟨_, rfl⟩, q⟩
  · cases ns with
    | nil => cases e
    | cons n l =>
      rw [List.map_cons] at e
      obtain ⟨e1, e2⟩ := List.cons.inj e
      subst e1 e2
      rw [PySem.W.minD_ints, foldl_min] at hv
      cases hv
      exact ⟨.int _, H, I.kept k, ⟨_, rfl⟩, q⟩
def dMin0 : List D → Option D := dInts fun ns => some (.int (match ns with | [] => 0 | n :: l => minL n l))
theorem ok_min0 (G : Glb) (K : PySem.W.Frag) : OkN G (fun xs H Q => rMin0 K xs [.int 0] H Q) dMin0 := by
  intro xs ds d H F Q hx e q
  obtain ⟨a, ns, rfl, ep, e2⟩ := dInts_some hx e
  cases e2
  exact ⟨a, ns, rfl, rfl, SqL.of ep, done (.int _) q⟩
section
variable {X : Cx} {G : Glb} {β : Bt} {W : WX} {e b : Expr} {pos : Pos}
theorem se_min0 {o : Opd} {j : Nat} {p p2 p3 : Pos} (hc : X.calm = true) (hu : X.A.units + 2 < cLine) (hm : X.mg "min" = none) (hv : bootBuiltins "min" = some (.builtin "min")) (ha : PA X [e] (tOs G β W [o])) (hg : Gl X "min" := by rfl)
    (he : backTo pos (starEach [e] X.env) = (false, eval e X.env) :: backTo pos (starEach [] X.env) := by rfl) (hpl : (backTo pos (starEach [e] X.env)).any (·.1) = false := by rfl)
    (hall : (backToKw pos (keywordEach [⟨some "default", .Constant (.int 0) j p2, p3⟩] X.env)).all (·.1.isSome) = true := by rfl) (hnone : (backToKw pos (keywordEach [⟨some "default", .Constant (.int 0) j p2, p3⟩] X.env)).any (·.1.isNone) = false := by rfl)
    (hks : (backToKw pos (keywordEach [⟨some "default", .Constant (.int 0) j p2, p3⟩] X.env)).filterMap (·.1) = [Str.ofString "default"] := by rfl) :
    PE X (.Call (.Name "min" p) [e] [⟨some "default", .Constant (.int 0) j p2, p3⟩] pos) (tE G β W (mOpN dMin0 [o])) :=
  PE.imp (pe_callBK (cr_min0 hc hu) hg hm hv ha (pk_cons pe_int pk_nil) (by decide) (by decide) he hpl hall hnone hks) fun σ H Q q => opN_imp (ok_min0 G X.K) q
end
/-- the first place of a number -/
def idxI (k : Int) : List Int → Option Nat
  | [] => none
  | n :: l => if n = k then some 0 else (idxI k l).map (· + 1)
def dIndexL (c k : D) : Option D := match c, k with
  | .lst l, .int k => (D.ints l).bind fun ns => (idxI k ns).map fun (j : Nat) => .int j
  | _, _ => none
theorem idxI_some {k : Int} : ∀ {l : List Int} {j : Nat}, idxI k l = some j → l[j]? = some k ∧ ∀ (m : Nat) (z : Int), m < j → l[m]? = some z → z ≠ k
  | [], j, e => by cases e
  | n :: l, j, e => by
    unfold idxI at e
    split at e
    · rename_i h
      cases e
      exact ⟨by rw [h]; rfl, fun m z hm => absurd hm (Nat.not_lt_zero _)⟩
    · rename_i h
      obtain ⟨i, e1, rfl⟩ := Option.map_eq_some_iff.mp e
      obtain ⟨h1, h2⟩ := idxI_some e1
      refine ⟨h1, fun m z hm hz => ?_⟩
      cases m with
      | zero => cases hz; exact h
      | succ m => exact h2 m z (by omega) hz
def mIndexL (oa : Opd) (mk : M D) : M D := bindM (o1 oa) fun x => fun ρ => match o2 ρ oa x with
  | some c => if D.isL c = true then bindM mk (fun k => fun ρ => match o2 ρ oa x with
    | some c => (match dIndexL c k with | some r => .ok r ρ | none => .no)
    | none => .no) ρ else .no
  | none => .no
section
variable {X : Cx} {G : Glb} {β : Bt} {W : WX} {e b : Expr} {pos : Pos} {mk : M D} {oa : Opd}
theorem se_index {o : Expr} {apos cpos : Pos} (ho : PE X o (tO G β W oa)) (he : PE X e (tE G β W mk))
    (hbase : attributeBase o "index" X.env (eval o X.env) = eval o X.env := by rfl)
    (hfew : ((backTo cpos (starEach [e] X.env)).all (fun x => !x.1) && (backToKw cpos (keywordEach [] X.env)).all (fun x => x.1.isSome)
      && decide ([e].length + ([] : List Keyword).length + (if ([] : List Keyword).isEmpty then 0 else 1) < 30)) = true := by rfl)
    (hline : (apos.endLine == cpos.line) = true := by rfl) (hs : starEach [e] X.env = (false, eval e X.env) :: starEach [] X.env := by rfl) (hplain : (backTo cpos (starEach [] X.env)).any (·.1) = false := by rfl) :
    PE X (.Call (.Attribute o "index" apos) [e] [] cpos) (tE G β W (mIndexL oa mk)) := by
  refine PE.imp (pe_bm PySem.F.plainAttrs_list PySem.F.slot_list_index rfl mt_index ho (pa_cons he pa_nil hs) hbase hfew hline hs hplain) fun σ H Q q => ?_
  obtain ⟨F, ρ, L, I, q⟩ := q
  refine tO_bind I q fun x ρ1 v H1 F1 L1 I1 w1 t1 q1 => ?_
  cases e1 : o2 ρ1 oa x with
  | none => rw [e1] at q1; exact q1.elim
  | some c =>
    rw [e1] at q1
    dsimp only at q1
    split at q1
    · rename_i hd
      obtain ⟨l, rfl⟩ : ∃ l, c = .lst l := by
        cases c with
        | lst l => exact ⟨l, rfl⟩
        | _ => cases hd
      obtain ⟨p, xs, rfl, hp, rs⟩ := (w1.late I1 e1).lst
      refine ⟨.inl ⟨rfl, xs, SqL.of hp⟩, tG_bind I1 q1 fun k ρ2 kv H2 F2 L2 I2 rk t2 q2 => ?_⟩
      cases e2 : o2 ρ2 oa x with
      | none => rw [e2] at q2; exact q2.elim
      | some c2 =>
        rw [e2] at q2
        dsimp only at q2
        cases e3 : dIndexL c2 k with
        | none => rw [e3] at q2; exact q2.elim
        | some r =>
          rw [e3] at q2
          unfold dIndexL at e3
          split at e3
          · rename_i l2 k2
            obtain ⟨ns, e4, e5⟩ := Option.bind_eq_some_iff.mp e3
            obtain ⟨j, e6, rfl⟩ := Option.map_eq_some_iff.mp e5
            obtain ⟨p2, ys, e7, hp2, rs2⟩ := ((w1.step I1 t2).late I2 e2).lst
            cases e7
            obtain ⟨h1, h2⟩ := idxI_some e6
            rw [ints_map e4] at rs2
            rw [rs2.ints] at hp2
            unfold RV at rk
            subst rk
            refine ⟨p, ns.map V.int, .int k2, j, .int k2, rfl, rfl, SqL.of hp2, rfl, by rw [List.all_map]; exact List.all_eq_true.mpr fun _ _ => rfl, by rw [List.getElem?_map, h1]; rfl, by simp [eqV], fun m z' hm hz => ?_, q2 (.int (j : Nat)) H2 F2 L2 I2 (RV.int _) (Stp.refl _ _ _)⟩
            rw [List.getElem?_map] at hz
            obtain ⟨z, hz2, e9⟩ := Option.map_eq_some_iff.mp hz
            subst e9
            have := h2 m z hm hz2
            simp [eqV, this]
          · cases e3
    · exact q1.elim
end
theorem hu2_of {A : Around} {k : Nat} (hr : Room k A) : A.units + 2 < cLine := by have := hr.un; omega
/-! ## in the plain programs -/
section
variable {ρ : List Sl} {P : D → List Sl → Prop}
theorem r_index {oa : Opd} {mk : M D} (h : Sat (o1 oa ρ) fun x ρ1 => On (o2 ρ1 oa x) fun c => D.isL c = true ∧ Sat (mk ρ1) fun k ρ2 => On (o2 ρ2 oa x) fun c => On (dIndexL c k) fun r => P r ρ2) : Sat (mIndexL oa mk ρ) P := by
  unfold mIndexL
  rw [Sat_bind]
  refine Sat_mono h fun x ρ1 q => ?_
  obtain ⟨c, e, q1, q2⟩ := On_ex q
  try dsimp only
  rw [e]
  try dsimp only
  rw [if_pos q1, Sat_bind]
  refine Sat_mono q2 fun k ρ2 q3 => ?_
  obtain ⟨c', e', q4⟩ := On_ex q3
  try dsimp only
  rw [e']
  try dsimp only
  obtain ⟨r, e2, q5⟩ := On_ex q4
  rw [e2]
  exact q5
instance i_r_index {oa : Opd} {mk : M D} : Step (Sat (mIndexL oa mk ρ) P) (Sat (o1 oa ρ) fun x ρ1 => On (o2 ρ1 oa x) fun c => D.isL c = true ∧ Sat (mk ρ1) fun k ρ2 => On (o2 ρ2 oa x) fun c => On (dIndexL c k) fun r => P r ρ2) := ⟨fun h => r_index h⟩
end
end Ev
namespace Ev
open PySem PySem.Spec PyProof.Rows L2
/-! ## f(g(..), ..): what g tells, nobody else's, is lent to f -/
abbrev dumO : Opd := .ev (mC .non)
def callFinT (S : List Sl → FR) (os : List Opd) (d : D) (xs : List (Option D)) : M Sl := fun ρ => if (pks os).Nodup then (match argS ρ os xs with
  | some ss => (match S (.io d :: ss) with
    | .ok r outs => .ok r (putBack (dumO :: os) outs ρ)
    | .ex c l outs => .ex c l (putBack (dumO :: os) outs ρ)
    | .no => .no)
  | none => .no) else .no
def callT (S : List Sl → FR) (a : M Sl) (os : List Opd) : M Sl := bindM a fun s => match s with
  | .ow d => bindM (oL1 os) (callFinT S os d)
  | _ => fun _ => .no
section
variable {G : Glb} {β : Bt} {W : WX} {H H' : Hp} {F F' : Addr → Prop} {σ : L2.St} {ρ : List Sl} {L L' : Nat → List Addr} {vs : List V} {ss : List Sl}
theorem pks_lt : ∀ {os : List Opd} {xs : List (Option D)} {ss : List Sl}, argS ρ os xs = some ss → ∀ i ∈ pks os, i < ρ.length
  | [], _, _, _, _, h => by cases h
  | .ev m :: os, [], _, e, i, h => by unfold argS at e; cases e
  | .ev m :: os, none :: xs, _, e, i, h => by unfold argS at e; cases e
  | .ev m :: os, some d :: xs, _, e, i, h => by
    unfold argS at e
    obtain ⟨ss', e1, _⟩ := Option.map_eq_some_iff.mp e
    exact pks_lt e1 i h
  | .pk k :: os, [], _, e, i, h => by unfold argS at e; cases e
  | .pk k :: os, x :: xs, _, e, i, h => by
    unfold argS at e
    cases ek : ρ[k]? with
    | none => rw [ek] at e; cases e
    | some s =>
      rw [ek] at e
      have rest : ∃ ss', argS ρ os xs = some ss' := by
        cases s with
        | emp => cases e
        | tr d => cases e
        | sh d => obtain ⟨ss', e1, _⟩ := Option.map_eq_some_iff.mp e; exact ⟨_, e1⟩
        | ow d => obtain ⟨ss', e1, _⟩ := Option.map_eq_some_iff.mp e; exact ⟨_, e1⟩
        | io d => obtain ⟨ss', e1, _⟩ := Option.map_eq_some_iff.mp e; exact ⟨_, e1⟩
      obtain ⟨ss', e1⟩ := rest
      rcases List.mem_cons.mp h with rfl | h
      · exact (List.getElem?_eq_some_iff.mp ek).1
      · exact pks_lt e1 i h
theorem argS_ext (t : List Sl) : ∀ {os : List Opd} {xs : List (Option D)}, (∀ i ∈ pks os, i < ρ.length) → argS (ρ ++ t) os xs = argS ρ os xs
  | [], _, _ => by unfold argS; rfl
  | .ev m :: os, [], _ => by unfold argS; rfl
  | .ev m :: os, none :: xs, _ => by unfold argS; rfl
  | .ev m :: os, some d :: xs, h => by unfold argS; rw [argS_ext t (os := os) h]
  | .pk k :: os, [], _ => by unfold argS; rfl
  | .pk k :: os, x :: xs, h => by
    unfold argS
    rw [List.getElem?_append_left (h k List.mem_cons_self), argS_ext t (os := os) fun i hi => h i (List.mem_cons_of_mem _ hi)]
theorem putBack_ext (t : List Sl) : ∀ {os : List Opd} {outs ρ : List Sl}, (∀ i ∈ pks os, i < ρ.length) → putBack os outs (ρ ++ t) = putBack os outs ρ ++ t
  | [], _, _, _ => by unfold putBack; rfl
  | .ev m :: os, [], _, _ => by unfold putBack; rfl
  | .ev m :: os, s :: outs, ρ, h => by
    unfold putBack
    exact putBack_ext t (os := os) h
  | .pk k :: os, [], _, _ => by unfold putBack; rfl
  | .pk k :: os, .io d :: outs, ρ, h => by
    unfold putBack
    have hk := h k List.mem_cons_self
    rw [List.getElem?_append_left hk, List.getElem?_eq_getElem hk]
    dsimp only
    rw [List.set_append_left _ _ hk]
    exact putBack_ext t (os := os) fun i hi => by rw [List.length_set]; exact h i (List.mem_cons_of_mem _ hi)
  | .pk k :: os, .emp :: outs, ρ, h => by unfold putBack; exact putBack_ext t (os := os) fun i hi => h i (List.mem_cons_of_mem _ hi)
  | .pk k :: os, .sh d :: outs, ρ, h => by unfold putBack; exact putBack_ext t (os := os) fun i hi => h i (List.mem_cons_of_mem _ hi)
  | .pk k :: os, .tr d :: outs, ρ, h => by unfold putBack; exact putBack_ext t (os := os) fun i hi => h i (List.mem_cons_of_mem _ hi)
  | .pk k :: os, .ow d :: outs, ρ, h => by unfold putBack; exact putBack_ext t (os := os) fun i hi => h i (List.mem_cons_of_mem _ hi)
def orP (O : Addr → Prop) (p : Addr) : Addr → Prop := fun a => O a ∨ a = p
theorem Stp.frame {O O' : Addr → Prop} {p : Addr} (t : Stp H F O H' F' O') : Stp H F (orP O p) H' F' (orP O' p) :=
  ⟨t.imm, fun a u n e => t.keep a u (fun o => n (.inl o)) e, t.there, t.mono, fun a f => (t.newF a f).elim .inl fun q => q.elim (fun o => .inr (.inl (.inl o))) fun n => .inr (.inr n), fun a o => o.elim (fun o => (t.newO a o).elim (fun q => .inl (.inl q)) .inr) fun e => .inl (.inr e)⟩
theorem Stp.wide {O O2 O' : Addr → Prop} (t : Stp H F O H' F' O') (h : ∀ a, O a → O2 a) : Stp H F O2 H' F' O' :=
  ⟨t.imm, fun a u n e => t.keep a u (fun o => n (h a o)) e, t.there, t.mono, fun a f => (t.newF a f).elim .inl fun q => q.elim (fun o => .inr (.inl (h a o))) fun n => .inr (.inr n), fun a o => (t.newO a o).elim (fun q => .inl (h a q)) .inr⟩
theorem tG_bindP {α γ : Type} {Rel : Hp → (Addr → Prop) → α → γ → Prop} {m : M α} {f : α → M Sl} {Q : VK} {K : γ → Hp → Prop} {p : Addr} (I : St G β H F σ ρ L) (h : PostA G β W σ H F (orP (Own L) p) Q (bindM m f ρ))
    (k : ∀ a ρ1 c H1 F1 L1, St G β H1 F1 σ ρ1 L1 → Rel H1 F1 a c → Stp H F (Own L) H1 F1 (Own L1) → PostA G β W σ H1 F1 (orP (Own L1) p) Q (f a ρ1) → K c H1) : tG G β W Rel m σ H K := by
  refine ⟨F, ρ, L, I, ?_⟩
  unfold bindM at h
  cases e : m ρ with
  | ok a ρ1 =>
    rw [e] at h
    exact fun c H1 F1 L1 I1 r t => k a ρ1 c H1 F1 L1 I1 r t (h.trans t.frame)
  | ex c l ρ1 =>
    rw [e] at h
    exact fun H2 F2 L2 dd I2 x t => h H2 F2 L2 dd I2 x (t.wide fun a o => .inl o)
  | no =>
    rw [e] at h
    exact h
theorem tO_bindP {o : Opd} {f : Option D → M Sl} {Q : VK} {K : V → Hp → Prop} {p : Addr} (I : St G β H F σ ρ L) (h : PostA G β W σ H F (orP (Own L) p) Q (bindM (o1 o) f ρ))
    (k : ∀ x ρ1 v H1 F1 L1, St G β H1 F1 σ ρ1 L1 → OW G H1 F1 σ o x v → Stp H F (Own L) H1 F1 (Own L1) → PostA G β W σ H1 F1 (orP (Own L1) p) Q (f x ρ1) → K v H1) : tO G β W o σ H K := by
  cases o with
  | ev m =>
    show tG G β W (RV G) m σ H K
    have h' : PostA G β W σ H F (orP (Own L) p) Q (bindM (bindM m fun d => retM (some d)) f ρ) := h
    rw [bindM_assoc] at h'
    exact tG_bindP (f := fun d => f (some d)) I h' fun a ρ1 c H1 F1 L1 I1 r t h1 => k (some a) ρ1 c H1 F1 L1 I1 ⟨a, rfl, r⟩ t h1
  | pk i =>
    unfold bindM o1 at h
    dsimp only at h
    cases e : pkD ρ i with
    | none => rw [e] at h; exact h.elim
    | some d =>
      rw [e] at h
      obtain ⟨v, e2, _⟩ := I.pk e
      exact ⟨v, e2, k none ρ v H F L I e2 (Stp.refl _ _ _) h⟩
theorem tOs_bindP {p : Addr} : ∀ {os : List Opd} {f : List (Option D) → M Sl} {Q : VK} {K : List V → Hp → Prop} {H : Hp} {F : Addr → Prop} {ρ : List Sl} {L : Nat → List Addr}, St G β H F σ ρ L → PostA G β W σ H F (orP (Own L) p) Q (bindM (oL1 os) f ρ) →
    (∀ xs ρ1 vs H1 F1 L1, St G β H1 F1 σ ρ1 L1 → OWs G H1 F1 σ os xs vs → Stp H F (Own L) H1 F1 (Own L1) → PostA G β W σ H1 F1 (orP (Own L1) p) Q (f xs ρ1) → K vs H1) → tOs G β W os σ H K
  | [], f, Q, K, H, F, ρ, L, I, h, k => k [] ρ [] H F L I rfl (Stp.refl _ _ _) h
  | o :: os, f, Q, K, H, F, ρ, L, I, h, k => by
    show tO G β W o σ H fun x H1 => tOs G β W os σ H1 fun xs H2 => K (x :: xs) H2
    have h' : PostA G β W σ H F (orP (Own L) p) Q (bindM (o1 o) (fun x => bindM (oL1 os) fun xs => f (x :: xs)) ρ) := by
      have e : bindM (oL1 (o :: os)) f = bindM (o1 o) (fun x => bindM (oL1 os) fun xs => f (x :: xs)) := by
        show bindM (bindM (o1 o) fun x => bindM (oL1 os) fun xs => retM (x :: xs)) f = _
        rw [bindM_assoc]
        congr 1
        funext x
        rw [bindM_assoc]
        rfl
      rw [e] at h
      exact h
    refine tO_bindP I h' fun x ρ1 v H1 F1 L1 I1 w1 t1 h1 => ?_
    refine tOs_bindP I1 h1 fun xs ρ2 vs H2 F2 L2 I2 w2 t2 h2 => ?_
    exact k (x :: xs) ρ2 (v :: vs) H2 F2 L2 I2 ⟨w1.step I1 t2, w2⟩ (t1.trans t2) h2
theorem OWs.more {x : Option V} : ∀ {os : List Opd} {xs : List (Option D)} {vs : List V}, OWs G H F σ os xs vs → OWs G H F (σ ++ [x]) os xs vs
  | [], _, _, h => h
  | o :: os, [], _, h => h.elim
  | o :: os, _ :: _, [], h => h.elim
  | o :: os, y :: xs, v :: vs, h => by
    refine ⟨?_, OWs.more h.2⟩
    cases o with
    | ev m => exact h.1
    | pk i =>
      have h1 : σ[i]? = some (some v) := h.1
      show (σ ++ [x])[i]? = some (some v)
      rw [List.getElem?_append_left (List.getElem?_eq_some_iff.mp h1).1]
      exact h1
def moreL (n : Nat) (p : Addr) (L : Nat → List Addr) : Nat → List Addr := fun i => if i = n then [p] else L i
theorem own_more {n : Nat} {p a : Addr} (h : Own (moreL n p L) a) : orP (Own L) p a := by
  obtain ⟨i, h⟩ := h
  unfold moreL at h
  split at h
  · exact .inr (List.mem_singleton.mp h)
  · exact .inl ⟨i, h⟩
theorem St.more (I : St G β H F σ ρ L) {p : Addr} {d : D} (ro : RO G H F d p) (np : ∀ i, p ∉ L i) (nf : ¬ F p) (mu : ∃ u, H p = some u ∧ immO u = false) : St G β H F (σ ++ [some (.ref p)]) (ρ ++ [.ow d]) (moreL ρ.length p L) := by
  have len := I.len
  have low : ∀ i, i ≠ ρ.length → moreL ρ.length p L i = L i := fun i h => if_neg h
  have top : moreL ρ.length p L ρ.length = [p] := if_pos rfl
  have two : ∀ i a, a ∈ moreL ρ.length p L i → (i = ρ.length ∧ a = p) ∨ (i ≠ ρ.length ∧ a ∈ L i) := fun i a h => by
    by_cases e : i = ρ.length
    · subst e; rw [top] at h; exact .inl ⟨rfl, List.mem_singleton.mp h⟩
    · rw [low i e] at h; exact .inr ⟨e, h⟩
  refine ⟨by simp [len], fun i s es => ?_, fun i h => ?_, fun i => ?_, fun i j a hi hj => ?_, fun i a h => ?_, I.aF, fun i a h => ?_, fun i e es => ?_⟩
  · by_cases e : i = ρ.length
    · subst e
      rw [List.getElem?_append_right (Nat.le_refl _), Nat.sub_self] at es
      cases es
      rw [top]
      refine ⟨p, rfl, ?_, ro⟩
      rw [List.getD_eq_getElem?_getD, List.getElem?_append_right (by omega), len, Nat.sub_self]
      rfl
    · have hi : i < ρ.length := by
        have := (List.getElem?_eq_some_iff.mp es).1
        rw [List.length_append, List.length_singleton] at this
        omega
      rw [low i e]
      rw [List.getElem?_append_left hi] at es
      have r := I.slot i s es
      rw [List.getD_eq_getElem?_getD, List.getElem?_append_left (by omega), ← List.getD_eq_getElem?_getD]
      exact r
  · rw [List.length_append, List.length_singleton] at h
    rw [low i (by omega)]
    exact I.out i (by omega)
  · by_cases e : i = ρ.length
    · subst e; rw [top]; simp
    · rw [low i e]; exact I.nd i
  · rcases two i a hi with ⟨e1, e2⟩ | ⟨e1, e2⟩ <;> rcases two j a hj with ⟨e3, e4⟩ | ⟨e3, e4⟩
    · rw [e1, e3]
    · rw [e2] at e4; exact absurd e4 (np j)
    · rw [e4] at e2; exact absurd e2 (np i)
    · exact I.apart i j a e2 e4
  · rcases two i a h with ⟨_, e2⟩ | ⟨_, e2⟩
    · rw [e2]; exact nf
    · exact I.nF i a e2
  · rcases two i a h with ⟨_, e2⟩ | ⟨_, e2⟩
    · rw [e2]; exact mu
    · exact I.mu i a e2
  · have hi : i < ρ.length := by
      rcases Nat.lt_trichotomy i ρ.length with h | h | h
      · exact h
      · subst h
        rw [List.getElem?_append_right (Nat.le_refl _), Nat.sub_self] at es
        cases es
      · rw [List.getElem?_eq_none (by rw [List.length_append, List.length_singleton]; omega)] at es
        cases es
    rw [List.getElem?_append_left hi] at es
    rw [List.getD_eq_getElem?_getD, List.getElem?_append_left (by omega), ← List.getD_eq_getElem?_getD]
    exact I.ios i e es
theorem St.less {x : Option V} {s : Sl} {p : Addr} (hn : L ρ.length = []) (I : St G β H F (σ ++ [x]) (ρ ++ [s]) (moreL ρ.length p L)) : St G β H F σ ρ L := by
  have len : σ.length = ρ.length := by have := I.len; simpa using this
  have sub : ∀ i a, a ∈ L i → a ∈ moreL ρ.length p L i := fun i a h => by
    unfold moreL
    split
    · rename_i e; rw [e, hn] at h; cases h
    · exact h
  have lt : ∀ {i : Nat} {t : Sl}, ρ[i]? = some t → i < ρ.length := fun h => (List.getElem?_eq_some_iff.mp h).1
  have gd : ∀ {i : Nat}, i < ρ.length → (σ ++ [x]).getD i none = σ.getD i none := fun {i} h => by
    rw [List.getD_eq_getElem?_getD, List.getElem?_append_left (by omega), ← List.getD_eq_getElem?_getD]
  refine ⟨len, fun i t e => ?_, fun i h => ?_, fun i => ?_, fun i j a hi hj => I.apart i j a (sub i a hi) (sub j a hj), fun i a h => I.nF i a (sub i a h), I.aF, fun i a h => I.mu i a (sub i a h), fun i d e => ?_⟩
  · have r := I.slot i t (by rw [List.getElem?_append_left (lt e)]; exact e)
    rw [gd (lt e)] at r
    have : moreL ρ.length p L i = L i := if_neg (by have := lt e; omega)
    rw [this] at r
    exact r
  · by_cases e : i = ρ.length
    · rw [e]; exact hn
    · have := I.out i (by rw [List.length_append, List.length_singleton]; omega)
      unfold moreL at this
      rw [if_neg e] at this
      exact this
  · by_cases e : i = ρ.length
    · rw [e, hn]; exact List.nodup_nil
    · have := I.nd i
      unfold moreL at this
      rw [if_neg e] at this
      exact this
  · have r := I.ios i d (by rw [List.getElem?_append_left (lt e)]; exact e)
    rw [gd (lt e)] at r
    exact r
/-- the callee's own start, behind what was lent -/
theorem callT_imp {n : Nat} {S : List Sl → FR} {a : M Sl} {os : List Opd} {Q : VK} (hn : os.length + 1 = n) (q : tA G β W (callT S a os) σ H Q) : tCons (tA G β W a) (tOs G β W os) σ H fun vs H1 => spD G n S vs H1 Q fun cls d H' => W cls d σ H' := by
  obtain ⟨F, ρ, L, I, q⟩ := q
  refine ⟨F, ρ, L, I, ?_⟩
  unfold callT bindM at q
  cases e : a ρ with
  | no => rw [e] at q; exact q
  | ex c l ρ1 => rw [e] at q; exact q
  | ok s ρ1 =>
    rw [e] at q
    intro v H1 F1 L1 lr I1 r1 t1
    cases s with
    | emp => exact q.elim
    | sh d => exact q.elim
    | io d => exact q.elim
    | tr d => exact q.elim
    | ow d =>
      obtain ⟨p, rfl, ev, ro⟩ := r1.rel
      cases ev
      have np : ∀ i, p ∉ L1 i := r1.ap p List.mem_cons_self
      have nf : ¬ F1 p := r1.nF p List.mem_cons_self
      have mu := r1.mu p List.mem_cons_self
      have nO : ¬ Own L1 p := fun ⟨i, h⟩ => np i h
      have q1 : PostA G β W σ H1 F1 (orP (Own L1) p) Q (bindM (oL1 os) (callFinT S os d) ρ1) := by
        refine PostA.trans (O := Own L) ?_ q
        refine ⟨t1.imm, t1.keep, t1.there, t1.mono, t1.newF, fun b o => t1.newO b (o.elim .inl fun z => .inr (by rw [z]; exact List.mem_cons_self))⟩
      refine tOs_bindP I1 q1 fun xs ρ2 vs H2 F2 L2 I2 w2 t2 q2 => ?_
      have ro2 : RO G H2 F2 d p := by
        have := SlR.mono (s := .ow d) (o := some (V.ref p)) t2.imm (fun a u f => t2.keep a u fun ho => I1.notF f ho) t2.mono (fun a h u eu => t2.keep a u (by rw [List.mem_singleton.mp h]; exact nO) eu) ⟨p, rfl, rfl, ro⟩
        obtain ⟨p', e1, _, r⟩ := this
        cases e1
        exact r
      obtain ⟨u, eu, im⟩ := mu
      have np2 : ∀ i, p ∉ L2 i := fun i h => (t2.newO p ⟨i, h⟩).elim nO fun z => by rw [z] at eu; cases eu
      have nf2 : ¬ F2 p := fun f => (t2.newF p f).elim nf fun z => z.elim nO fun z => by rw [z] at eu; cases eu
      have mu2 : ∃ u, H2 p = some u ∧ immO u = false := ⟨u, t2.keep p u nO eu, im⟩
      unfold callFinT at q2
      split at q2
      · rename_i nd
        cases ea : argS ρ2 os xs with
        | none => rw [ea] at q2; exact q2.elim
        | some ss =>
          rw [ea] at q2
          dsimp only at q2
          have lt := pks_lt ea
          have Ix := I2.more ro2 np2 nf2 mu2
          have len := I2.len
          have nin : ρ2.length ∉ pks os := fun h => Nat.lt_irrefl _ (lt _ h)
          have ndx : (pks (.pk ρ2.length :: os)).Nodup := List.nodup_cons.mpr ⟨nin, nd⟩
          have wx : OWs G H2 F2 (σ ++ [some (V.ref p)]) (.pk ρ2.length :: os) (none :: xs) (V.ref p :: vs) := ⟨by
            show (σ ++ [some (V.ref p)])[ρ2.length]? = some (some (V.ref p))
            rw [List.getElem?_append_right (by omega), len, Nat.sub_self]
            rfl, w2.more⟩
          have ex : argS (ρ2 ++ [.ow d]) (.pk ρ2.length :: os) (none :: xs) = some (.io d :: ss) := by
            unfold argS
            rw [List.getElem?_append_right (Nat.le_refl _), Nat.sub_self, argS_ext _ lt, ea]
            rfl
          obtain ⟨l1, l2, _⟩ := arg_get Ix wx ex
          have I0 := lent_start Ix ndx wx ex
          refine ⟨by rw [l2]; simp; omega, F2, .io d :: ss, _, I0, ?_⟩
          have hL0 : L2 ρ2.length = [] := I2.out _ (Nat.le_refl _)
          have lx : ∀ a, Own (lentL (.io d :: ss) (.pk ρ2.length :: os) (moreL ρ2.length p L2)) a → orP (Own L2) p a := fun a h => own_more (own_lent h)
          have pb : ∀ d' outs', putBack (.pk ρ2.length :: os) (.io d' :: outs') (ρ2 ++ [.ow d]) = putBack (dumO :: os) (.io d' :: outs') ρ2 ++ [.ow d'] := fun d' outs' => by
            unfold dumO
            unfold putBack
            rw [List.getElem?_append_right (Nat.le_refl _), Nat.sub_self]
            dsimp only [List.getElem?_cons_zero]
            rw [List.set_append_right _ _ (Nat.le_refl _), Nat.sub_self]
            exact putBack_ext [.ow d'] lt
          have pl : ∀ outs, (putBack (dumO :: os) outs ρ2).length = ρ2.length := fun outs => putBack_len _ _ _
          have stp : ∀ {H' : Hp} {F' O' O'' : Addr → Prop}, Stp H2 F2 (Own (lentL (.io d :: ss) (.pk ρ2.length :: os) (moreL ρ2.length p L2))) H' F' O' → (∀ a, O'' a → orP (Own L2) p a ∨ H2 a = none) → Stp H2 F2 (orP (Own L2) p) H' F' O'' := fun {H' F' O' O''} t z =>
            ⟨t.imm, fun a u n e => t.keep a u (fun o => n (lx a o)) e, t.there, t.mono, fun a f => (t.newF a f).elim .inl fun q => q.elim (fun o => .inr (.inl (lx a o))) fun n => .inr (.inr n), z⟩
          have out0 : ∀ {outs : List Sl}, Mtch (.io d :: ss) outs → ∃ d' outs', outs = .io d' :: outs' := fun {outs} mt => by
            obtain ⟨d', h⟩ := (mt 0).mp ⟨d, rfl⟩
            cases outs with
            | nil => cases h
            | cons o outs' => cases h; exact ⟨d', outs', rfl⟩
          have back2 : ∀ {H' F' outs}, Mtch (.io d :: ss) outs → St G β H' F' (σ ++ [some (V.ref p)]) (putBack (.pk ρ2.length :: os) outs (ρ2 ++ [.ow d])) (moreL ρ2.length p L2) → St G β H' F' σ (putBack (dumO :: os) outs ρ2) L2 := fun {H' F' outs} mt I' => by
            obtain ⟨d', outs', rfl⟩ := out0 mt
            rw [pb] at I'
            have e := pl (.io d' :: outs')
            have I4 : St G β H' F' (σ ++ [some (V.ref p)]) (putBack (dumO :: os) (.io d' :: outs') ρ2 ++ [.ow d']) (moreL (putBack (dumO :: os) (.io d' :: outs') ρ2).length p L2) := by rw [e]; exact I'
            exact St.less (by rw [e]; exact hL0) I4
          cases es : S (.io d :: ss) with
          | no => rw [es] at q2; exact q2
          | ex c l outs =>
            rw [es] at q2
            intro mt H' F' L' dd I' xr t
            obtain ⟨I3, _⟩ := lent_back Ix ndx wx ex I' t mt
            exact q2 H' F' L2 dd (back2 mt I3) xr (stp t fun a o => .inl (.inl o))
          | ok r outs =>
            rw [es] at q2
            intro mt v H' F' L' lr I' rs t
            obtain ⟨I3, back⟩ := lent_back Ix ndx wx ex I' t mt
            have nw : ∀ a ∈ lr, Own (lentL (.io d :: ss) (.pk ρ2.length :: os) (moreL ρ2.length p L2)) a ∨ H2 a = none := fun a h => t.newO a (.inr h)
            refine q2 v H' F' L2 lr (back2 mt I3) ⟨rs.rel, rs.nd, fun a h i hi => ?_, rs.nF, rs.mu⟩ (stp t fun a o => o.elim (fun o => .inl (.inl o)) fun h => (nw a h).elim (fun o => .inl (lx a o)) .inr)
            rcases nw a h with ⟨j, o⟩ | n
            · obtain ⟨i2, d2, e1, e2, h1⟩ := lentL_mem o
              rw [← back i2 j d2 e1 e2] at h1
              exact rs.ap a h j h1
            · obtain ⟨u, eu, _⟩ := I2.mu i a hi
              rw [n] at eu; cases eu
      · exact q2.elim
end
section
variable {X : Cx} {G : Glb} {β : Bt} {W : WX} {e : Expr} {es : List Expr} {pos p : Pos} {x : Str} {f : Addr} {fd : FuncData} {ps : List Str} {k : Nat} {S : List Sl → FR} {a : M Sl} {os : List Opd}
theorem se_callT (T : FnG X.prog X.w X.K X.mg X.base k f fd ps (spD G (os.length + 1) S)) (hr : Room k X.A) (hb : Binds X.K fd ps []) (hm : X.mg x = some (.ref f)) (hk : PySem.W.keepIn X.K (.ref f) = true) (tk : Takes X W) (hg : X.A.guards = some [])
    (ha : PA X (e :: es) (tCons (tA G β W a) (tOs G β W os))) (hgl : Gl X x := by rfl) (hdb : (x == ("__debug__" : Str)) = false := by decide) (he : starEach (e :: es) X.env = (false, eval e X.env) :: starEach es X.env := by rfl) (hpl : (backTo pos (starEach es X.env)).any (·.1) = false := by rfl) :
    PE X (.Call (.Name x p) (e :: es) [] pos) (tA G β W (callT S a os)) := by
  refine PE.imp (t := fun σ H Q => tCons (tA G β W a) (tOs G β W os) σ H fun vs H1 => spD G (os.length + 1) S vs H1 Q fun cls d H' => W cls d σ H') ⟨fun pins s σ H Q I h => ?_⟩ fun σ H Q q => callT_imp rfl q
  refine wpAny_Call_Name_kw (ld_glob I hgl hm ?_ hdb)
  exact PySem.W.callWith_K (h₀ := X.base) I.ok.mod.kin hk (thn (ha.run pos pins s σ H _ I h) fun us s1 ⟨vs, H1, I1, r, q⟩ => ⟨I1.kIn, run_fnG T hg hr hb tk I1 r q⟩) he hpl
theorem se_callTC (C : Cal X.prog X.w X.K X.mg X.base k x ps G S) (hr : Room k X.A) (tk : Takes X W) (hg : X.A.guards = some []) (ha : PE X e (tA G β W a)) (has : PA X es (tOs G β W os)) (hl : ps.length = os.length + 1 := by rfl) (hs : starEach (e :: es) X.env = (false, eval e X.env) :: starEach es X.env := by rfl) (hgl : Gl X x := by rfl) (hdb : (x == ("__debug__" : Str)) = false := by decide)
    (hpl : (backTo pos (starEach es X.env)).any (·.1) = false := by rfl) : PE X (.Call (.Name x p) (e :: es) [] pos) (tA G β W (callT S a os)) := by
  obtain ⟨f, fd, T, hb, hm, hk⟩ := C
  rw [hl] at T
  exact se_callT T hr hb hm hk tk hg (pa_cons ha has hs) hgl hdb hs hpl
end
/-! ## in the plain programs -/
def tmpK (s : Sl) (K : D → Prop) : Prop := match s with
  | .ow d => K d
  | _ => False
section
variable {ρ : List Sl} {PA : Sl → List Sl → Prop}
theorem k_tmp {d : D} {K : D → Prop} (h : K d) : tmpK (.ow d) K := h
instance i_k_tmp {d : D} {K : D → Prop} : Step (tmpK (.ow d) K) (K d) := ⟨fun h => k_tmp h⟩
theorem r_callT {S : List Sl → FR} {a : M Sl} {os : List Opd} (nd : (pks os).Nodup) (h : Sat (a ρ) fun s ρ1 => tmpK s fun d => Sat (oL1 os ρ1) fun xs ρ2 => argK os xs ρ2 [.io d] fun ss => callS S ss (dumO :: os) ρ2 PA) : Sat (callT S a os ρ) PA := by
  unfold callT
  rw [Sat_bind]
  refine Sat_mono h fun s ρ1 q => ?_
  cases s with
  | emp => exact q.elim
  | sh d => exact q.elim
  | io d => exact q.elim
  | tr d => exact q.elim
  | ow d =>
    show Sat (bindM (oL1 os) (callFinT S os d) ρ1) PA
    rw [Sat_bind]
    refine Sat_mono q fun xs ρ2 q2 => ?_
    obtain ⟨ss, e, q3⟩ := On_ex q2
    unfold callFinT
    rw [if_pos nd, e]
    dsimp only
    have q4 : SatF (S (.io d :: ss)) fun s outs => PA s (putBack (dumO :: os) outs ρ2) := q3
    cases e2 : S (.io d :: ss) with
    | no => rw [e2] at q4; exact q4.elim
    | ex c l outs => rw [e2] at q4; exact q4.elim
    | ok r outs => rw [e2] at q4; exact q4
end
end Ev
namespace Ev
open PySem PySem.Spec PyProof.Rows L2
/-! ## l.count(x), data of any depth -/
section
variable {X : Cx}
def rCountD (K : PySem.W.Frag) : V → List V → Hp → VK → Prop := fun x xs H Q => ∃ (a : Addr) (y : V) (d : PyData) (ds : List PyData), x = V.ref a ∧ xs = [y] ∧ Dp K H (V.ref a) (.list ds) ∧ Dp K H y d ∧
  SeqAt.shaped (.list ds) = true ∧ SeqAt.shaped d = true ∧ Q (.int (ds.countP (fun z => PyData.eqv z d) : Nat)) H
theorem mt_countD (hu : X.A.units + 65 < cLine) : MtR X "list.count" (rCountD X.K) := by
  intro pins s σ H x xs v us Q I rx rxs h
  obtain ⟨a, y, d, ds, rfl, rfl, hl, hy, sl, sd, q⟩ := h
  cases rx
  cases rxs with
  | cons ry rt =>
    rename_i uy ut
    cases rt
    obtain ⟨bs, r1⟩ := Dp.reads I d y uy hy ry
    have hxs : PyData.canLayAll0 ds = true := SeqAt.canLay_of_shaped sl
    have hroom : X.A.units + 1 + min (PyData.depthAll ds) d.depth < cLine := room_in_shaped sd hu
    cases hl with
    | lst hs ha =>
      obtain ⟨its, rv, ⟨⟨cls, dd, data, sls⟩, n, ho, hc, hdn, hdt⟩, hlen⟩ := I.list hs
      simp only at hc hdt
      subst hc hdt
      obtain ⟨as, h4⟩ := Dp.readsAll I ds _ its ha rv
      have hmap : its.map (SeqAt.readOf s.heap) = ds := SeqAt.readsAll_map ds its as hxs h4
      have ec : its.toArray.toList.countP (fun u => PyData.eqv (SeqAt.readOf s.heap u) d) = ds.countP (fun z => PyData.eqv z d) := by
        rw [← hmap, List.countP_map]
        rfl
      refine call_meets PySem.F.slot_list_count ⟨_, ho, rfl⟩ PySem.F.entry_list_count (PySem.F.args_list_count_2 _ _)
        (SeqAt.list_countAt a its.toArray n dd sls uy (fun u => PyData.eqv (SeqAt.readOf s.heap u) d)) ⟨ho, SeqAt.items_eqAt (vs := its.toArray) (show ReadsAll s.heap its.toArray.toList ds as from h4) r1 hxs (SeqAt.canLay_of_shaped sd) hroom, ?_⟩
      refine ⟨.int (ds.countP (fun z => PyData.eqv z d) : Nat), H, I.tok _, ⟨s.toks, ?_⟩, q⟩
      show Value.int ((its.toArray.toList.countP (fun u => PyData.eqv (SeqAt.readOf s.heap u) d) : Nat) : Int) s.toks = _
      rw [ec]
end
theorem pys_countP (x : D) : ∀ l : List D, (D.pys l).countP (fun z => PyData.eqv z (D.py x)) = l.countP fun z => dEqB z x
  | [] => by simp [D.pys]
  | d :: l => by
    rw [D.pys, List.countP_cons, List.countP_cons, pys_countP x l]
    rfl
def dCountL (c k : D) : Option D := match c with
  | .lst l => if D.plain k = true ∧ D.plain (.lst l) = true then some (.int (l.countP (fun z => dEqB z k) : Nat)) else none
  | _ => none
def mCountL (oa : Opd) (mk : M D) : M D := bindM (o1 oa) fun x => fun ρ => match o2 ρ oa x with
  | some c => if D.isL c = true then bindM mk (fun k => fun ρ => match o2 ρ oa x with
    | some c => (match dCountL c k with | some r => .ok r ρ | none => .no)
    | none => .no) ρ else .no
  | none => .no
section
variable {X : Cx} {G : Glb} {β : Bt} {W : WX} {e b : Expr} {pos : Pos} {mk : M D} {oa : Opd}
theorem se_count {o : Expr} {apos cpos : Pos} (hu : X.A.units + 65 < cLine) (ho : PE X o (tO G β W oa)) (he : PE X e (tE G β W mk))
    (hbase : attributeBase o "count" X.env (eval o X.env) = eval o X.env := by rfl)
    (hfew : ((backTo cpos (starEach [e] X.env)).all (fun x => !x.1) && (backToKw cpos (keywordEach [] X.env)).all (fun x => x.1.isSome)
      && decide ([e].length + ([] : List Keyword).length + (if ([] : List Keyword).isEmpty then 0 else 1) < 30)) = true := by rfl)
    (hline : (apos.endLine == cpos.line) = true := by rfl) (hs : starEach [e] X.env = (false, eval e X.env) :: starEach [] X.env := by rfl) (hplain : (backTo cpos (starEach [] X.env)).any (·.1) = false := by rfl) :
    PE X (.Call (.Attribute o "count" apos) [e] [] cpos) (tE G β W (mCountL oa mk)) := by
  refine PE.imp (pe_bm PySem.F.plainAttrs_list PySem.F.slot_list_count rfl (mt_countD hu) ho (pa_cons he pa_nil hs) hbase hfew hline hs hplain) fun σ H Q q => ?_
  obtain ⟨F, ρ, L, I, q⟩ := q
  refine tO_bind I q fun x ρ1 v H1 F1 L1 I1 w1 t1 q1 => ?_
  cases e1 : o2 ρ1 oa x with
  | none => rw [e1] at q1; exact q1.elim
  | some c =>
    rw [e1] at q1
    dsimp only at q1
    split at q1
    · rename_i hd
      obtain ⟨l, rfl⟩ : ∃ l, c = .lst l := by
        cases c with
        | lst l => exact ⟨l, rfl⟩
        | _ => cases hd
      obtain ⟨p, xs, rfl, hp, rs⟩ := (w1.late I1 e1).lst
      refine ⟨.inl ⟨rfl, xs, SqL.of hp⟩, tG_bind I1 q1 fun k ρ2 kv H2 F2 L2 I2 rk t2 q2 => ?_⟩
      cases e2 : o2 ρ2 oa x with
      | none => rw [e2] at q2; exact q2.elim
      | some c2 =>
        rw [e2] at q2
        dsimp only at q2
        cases e3 : dCountL c2 k with
        | none => rw [e3] at q2; exact q2.elim
        | some r =>
          rw [e3] at q2
          unfold dCountL at e3
          split at e3
          · rename_i l2
            split at e3
            · rename_i h
              cases e3
              have w2 := (w1.step I1 t2).late I2 e2
              have z := w2.dp (K := X.K) h.2
              rw [D.py] at z
              refine ⟨p, kv, D.py k, D.pys l2, rfl, rfl, z, (show RW _ _ _ k kv from .inl rk).dp (K := X.K) h.1, dp_list h.2, h.1, ?_⟩
              rw [pys_countP]
              exact q2 (.int _) H2 F2 L2 I2 (RV.int _) (Stp.refl _ _ _)
            · cases e3
          · cases e3
    · exact q1.elim
end
/-! ## l.extend(t) of a tuple -/
theorem meets_extendT (l : Addr) (items : Array Value) (n : Nat) (b : Addr) (items2 : Array Value) (n2 : Nat) (hlong : ¬(!items.isEmpty && Builtin.List.listTooLong (items.size + items2.size)) = true) (hz : items.size ≤ sizeLine) (hz2 : items.size + items2.size ≤ sizeLine + 1) :
    Meets (Builtin.«list.extend» ⟨[.ref l, .ref b], []⟩) (fun _ R s => ∃ o, s.heap.get? l = some { cls := .type "list", dict := none, data := .seq items n, slots := #[] } ∧ s.heap.get? b = some o ∧ o.cls = .type "tuple" ∧ o.data = .seq items2 n2 ∧ R (.ok (.ret Value.none)) { s with heap := s.heap.update l (Obj.mapSeq fun x => x ++ items2) }) :=
  .of_wp fun prog w A R s h => by
    obtain ⟨o, hl, ho, hc, hd, h⟩ := h
    have hz' : (items ++ items2).size ≤ sizeLine + 1 := by rw [Array.size_append]; exact hz2
    show wpAny _ _ (Builtin.List.listExtendWith (.ref l) (.ref b) .none) _ _ s
    unfold Builtin.List.listExtendWith
    refine wpAny_bind (wpAny_typeOf ⟨o, ho, hc⟩ ?_)
    have h1 : (Builtin.List.listSameRef (.ref l) (.ref b) || Value.type "tuple" == Value.type "list" || Value.type "tuple" == Value.type "tuple") = true := by simp
    simp only [h1, if_true]
    refine wpAny_bind ?_
    unfold Builtin.List.listItems
    refine wpAny_bind (wpAny_seqItems ho hd (wpAny_pure ?_))
    refine wpAny_bind ?_
    refine wpAny_bind (wpAny_seqItems hl rfl (wpAny_pure ?_))
    rw [if_neg hlong]
    show wpAny _ _ (updateSeq l (· ++ items2) >>= fun _ => ret .none) _ _ s
    refine wpAny_bind (wpAny_updateSeq hl rfl ?_ (hz := hz) (_hz' := hz'))
    exact wpAny_pure ⟨_, rfl, h⟩
def rExtendT (K : PySem.W.Frag) : V → List V → Hp → VK → Prop := fun x vs H Q => rExtend x vs H Q ∨ ∃ l b xs zs, x = .ref l ∧ vs = [.ref b] ∧ H l = some (.lst xs) ∧ SqT K H b zs ∧ xs.length + zs.length ≤ sizeLine ∧ Q .non (upd H l (.lst (xs ++ zs)))
theorem mt_extendT {X : Cx} : MtM X "list.extend" (rExtendT X.K) := by
  intro pins s σ H x vs v us Q I rx rv h
  rcases h with h | h
  · exact mt_extend pins s σ H x vs v us Q I rx rv h
  obtain ⟨l, b, xs, zs, rfl, rfl, hH, hB, hz, q⟩ := h
  cases rx
  obtain ⟨u, rfl, ru⟩ := rv.one
  cases ru
  obtain ⟨z, its, n, r, hl, e⟩ := I.lstM hH
  obtain ⟨its2, r2, ⟨o, ho, hc, n2, hd⟩, hl2⟩ := I.tuple hB
  have hn2 := r2.length
  have hsz : its.toArray.size + its2.toArray.size ≤ sizeLine := by rw [List.size_toArray, List.size_toArray]; omega
  have hlong : ¬ (!its.toArray.isEmpty && Builtin.List.listTooLong (its.toArray.size + its2.toArray.size)) = true := by
    rw [notLongL hsz, Bool.and_false]
    exact Bool.false_ne_true
  refine call_meets PySem.F.slot_list_extend ⟨_, e, rfl⟩ PySem.F.entry_list_extend (PySem.F.args_list_extend_2 _ _)
    (meets_extendT l its.toArray n b its2.toArray n2 hlong (by rw [List.size_toArray]; omega) (by omega)) ⟨o, e, ho, hc, hd, ?_⟩
  refine ⟨.non, _, I.lset (its' := its ++ its2) hH e (by simp) (r.append r2) ?_, rfl, q⟩
  rw [List.length_append]
  omega
def fExtA : List D → D → Option (D × D)
  | [.tup m], .lst l => if l.length + m.length ≤ LIM then some (.lst (l ++ m), .non) else none
  | xs, c => fExt xs c
theorem ok_extendT {G : Glb} (K : PySem.W.Frag) : OkM G (rExtendT K) fExtA := by
  intro a xs ds d d' e H F Q n1 n2 ro rs h q
  unfold fExtA at h
  split at h
  · split at h
    · cases h
      obtain ⟨zs, eh, r⟩ := ro
      unfold RVs at rs
      obtain ⟨y, ys, rfl, ry, rn⟩ := rs
      unfold RVs at rn
      subst rn
      unfold RV at ry
      obtain ⟨p, ws, rfl, ep, rp⟩ := ry
      exact .inr ⟨a, p, zs, ws, rfl, rfl, eh, SqT.of ep, by rw [LIM_eq, ← r.len, ← rp.len]; assumption, q _ _ rfl ⟨_, upd_same, RVs.upd n1 n2 (RVs.append r rp)⟩ RV.non⟩
    · cases h
  · exact .inl (ok_extend a xs ds _ d' e H F Q n1 n2 ro rs h q)
section
variable {X : Cx} {G : Glb} {β : Bt} {W : WX} {e : Expr} {i : Nat} {o : Expr} {apos cpos : Pos} {m : M D}
theorem se_extendT (ho : PE X o (tVar i)) (he : PE X e (tE G β W m)) (hs : starEach [e] X.env = (false, eval e X.env) :: starEach [] X.env := by rfl) (hbase : attributeBase o "extend" X.env (eval o X.env) = eval o X.env := by rfl)
    (hfew : ((backTo cpos (starEach [e] X.env)).all (fun x => !x.1) && (backToKw cpos (keywordEach [] X.env)).all (fun x => x.1.isSome)
      && decide ([e].length + ([] : List Keyword).length + (if ([] : List Keyword).isEmpty then 0 else 1) < 30)) = true := by rfl) (hline : (apos.endLine == cpos.line) = true := by rfl) :
    PE X (.Call (.Attribute o "extend" apos) [e] [] cpos) (tE G β W (mMeth D.isL i (mEach [m]) fExtA)) :=
  ty1 (ok_extendT X.K) PySem.F.slot_list_extend PySem.F.type_list_extend mt_extendT ho (sl_cons he sl_nil hs) hbase hfew hline hs rfl
end
theorem v_extT {l l' : List D} {K : D × D → Prop} (h : l.length + l'.length < 1000000) (k : K (.lst (l ++ l'), .non)) : On (fExtA [.tup l'] (.lst l)) K := k_on (if_pos (Nat.le_of_lt (Nat.lt_of_lt_of_le h (by decide)))) k
section
variable {ρ : List Sl} {P : D → List Sl → Prop}
theorem r_count {oa : Opd} {mk : M D} (h : Sat (o1 oa ρ) fun x ρ1 => On (o2 ρ1 oa x) fun c => D.isL c = true ∧ Sat (mk ρ1) fun k ρ2 => On (o2 ρ2 oa x) fun c => On (dCountL c k) fun r => P r ρ2) : Sat (mCountL oa mk ρ) P := by
  unfold mCountL
  rw [Sat_bind]
  refine Sat_mono h fun x ρ1 q => ?_
  obtain ⟨c, e, q1, q2⟩ := On_ex q
  try dsimp only
  rw [e]
  try dsimp only
  rw [if_pos q1, Sat_bind]
  refine Sat_mono q2 fun k ρ2 q3 => ?_
  obtain ⟨c', e', q4⟩ := On_ex q3
  try dsimp only
  rw [e']
  try dsimp only
  obtain ⟨r, e2, q5⟩ := On_ex q4
  rw [e2]
  exact q5
instance i_r_count {oa : Opd} {mk : M D} : Step (Sat (mCountL oa mk ρ) P) (Sat (o1 oa ρ) fun x ρ1 => On (o2 ρ1 oa x) fun c => D.isL c = true ∧ Sat (mk ρ1) fun k ρ2 => On (o2 ρ2 oa x) fun c => On (dCountL c k) fun r => P r ρ2) := ⟨fun h => r_count h⟩
end
end Ev
namespace Ev
open PySem PySem.Spec PyProof.Rows L2
/-! ## lists within a list or a tuple, all of them one's own -/
mutual
/-- no list within -/
def D.own0 : D → Bool
  | .lst _ => false
  | .tup l => D.own0s l
  | _ => true
def D.own0s : List D → Bool
  | [] => true
  | d :: l => D.own0 d && D.own0s l
end
section
variable {G : Glb} {H H' : Hp} {F F' : Addr → Prop}
mutual
theorem RV.dt : ∀ (d : D) (v : V), D.own0 d = true → RV G H F d v → DT G H F d v []
  | .tup l, v, o, h => by
    unfold RV at h
    unfold DT
    obtain ⟨a, xs, e, q, r⟩ := h
    exact ⟨a, xs, e, q, RVs.dts l xs (by rw [D.own0] at o; exact o) r⟩
  | .lst l, v, o, h => by rw [D.own0] at o; cases o
  | .non, v, _, h => by unfold DT; exact ⟨rfl, h⟩
  | .bl b, v, _, h => by unfold DT; exact ⟨rfl, h⟩
  | .int i, v, _, h => by unfold DT; exact ⟨rfl, h⟩
  | .str x, v, _, h => by unfold DT; exact ⟨rfl, h⟩
  | .dk k l, v, _, h => by unfold DT; exact ⟨rfl, h⟩
  | .dt k l, v, _, h => by unfold DT; exact ⟨rfl, h⟩
  | .fn i, v, _, h => by unfold DT; exact ⟨rfl, h⟩
  | .ex c l, v, _, h => by unfold DT; exact ⟨rfl, h⟩
  | .scr l, v, _, h => by unfold DT; exact ⟨rfl, h⟩
theorem RVs.dts : ∀ (l : List D) (xs : List V), D.own0s l = true → RVs G H F l xs → DTs G H F l xs []
  | [], xs, _, h => by unfold RVs at h; unfold DTs; exact ⟨h, rfl⟩
  | d :: l, xs, o, h => by
    unfold RVs at h
    unfold DTs
    rw [D.own0s, Bool.and_eq_true] at o
    obtain ⟨y, ys, e, r, rs⟩ := h
    exact ⟨y, ys, [], [], e, rfl, RV.dt d y o.1 r, RVs.dts l ys o.2 rs⟩
end
mutual
theorem DT.rv0 : ∀ (d : D) (v : V) (L : List Addr), D.own0 d = true → DT G H F d v L → L = [] ∧ RV G H F d v
  | .tup l, v, L, o, h => by
    unfold DT at h
    unfold RV
    obtain ⟨a, xs, e, q, r⟩ := h
    obtain ⟨e2, r2⟩ := DTs.rvs0 l xs L (by rw [D.own0] at o; exact o) r
    exact ⟨e2, a, xs, e, q, r2⟩
  | .lst l, v, L, o, h => by rw [D.own0] at o; cases o
  | .non, v, L, _, h => by unfold DT at h; exact h
  | .bl b, v, L, _, h => by unfold DT at h; exact h
  | .int i, v, L, _, h => by unfold DT at h; exact h
  | .str x, v, L, _, h => by unfold DT at h; exact h
  | .dk k l, v, L, _, h => by unfold DT at h; exact h
  | .dt k l, v, L, _, h => by unfold DT at h; exact h
  | .fn i, v, L, _, h => by unfold DT at h; exact h
  | .ex c l, v, L, _, h => by unfold DT at h; exact h
  | .scr l, v, L, _, h => by unfold DT at h; exact h
theorem DTs.rvs0 : ∀ (l : List D) (xs : List V) (L : List Addr), D.own0s l = true → DTs G H F l xs L → L = [] ∧ RVs G H F l xs
  | [], xs, L, _, h => by unfold DTs at h; unfold RVs; exact ⟨h.2, h.1⟩
  | d :: l, xs, L, o, h => by
    unfold DTs at h
    unfold RVs
    rw [D.own0s, Bool.and_eq_true] at o
    obtain ⟨y, ys, L1, L2, e, rfl, r, rs⟩ := h
    obtain ⟨e1, r1⟩ := DT.rv0 d y L1 o.1 r
    obtain ⟨e2, r2⟩ := DTs.rvs0 l ys L2 o.2 rs
    subst e1 e2
    exact ⟨rfl, y, ys, e, r1, r2⟩
end
theorem DTs.len : ∀ {l : List D} {xs : List V} {L : List Addr}, DTs G H F l xs L → l.length = xs.length
  | [], xs, L, h => by unfold DTs at h; rw [h.1]; rfl
  | d :: l, xs, L, h => by
    unfold DTs at h
    obtain ⟨y, ys, L1, L2, e, _, _, rs⟩ := h
    rw [e, List.length_cons, List.length_cons, DTs.len rs]
theorem DTs.append : ∀ {l m : List D} {xs ys : List V} {L K : List Addr}, DTs G H F l xs L → DTs G H F m ys K → DTs G H F (l ++ m) (xs ++ ys) (L ++ K)
  | [], m, xs, ys, L, K, h, q => by unfold DTs at h; obtain ⟨rfl, rfl⟩ := h; exact q
  | d :: l, m, xs, ys, L, K, h, q => by
    unfold DTs at h
    obtain ⟨y, zs, L1, L2, rfl, rfl, r, rs⟩ := h
    show DTs G H F (d :: (l ++ m)) (y :: (zs ++ ys)) (L1 ++ L2 ++ K)
    unfold DTs
    exact ⟨y, zs ++ ys, L1, L2 ++ K, rfl, by rw [List.append_assoc], r, DTs.append rs q⟩
theorem DTs.upd {l : List D} {xs : List V} {L : List Addr} {b : Addr} {o' : HO} (n1 : ∀ c u, immO u = true → H c = some u → c ≠ b) (n2 : ∀ c, F c → c ≠ b) (nL : b ∉ L) (h : DTs G H F l xs L) : DTs G (L2.upd H b o') F l xs L :=
  DTs.mono (fun c u iu e => by rw [upd_ne (n1 c u iu e)]; exact e) (fun c u f e => by rw [upd_ne (n2 c f)]; exact e) (fun _ f => f) l xs L (fun c hc u e => by rw [upd_ne (fun z => nL (by rw [← z]; exact hc))]; exact e) h
theorem DT.upd {d : D} {v : V} {L : List Addr} {b : Addr} {o' : HO} (n1 : ∀ c u, immO u = true → H c = some u → c ≠ b) (n2 : ∀ c, F c → c ≠ b) (nL : b ∉ L) (h : DT G H F d v L) : DT G (L2.upd H b o') F d v L :=
  DT.mono (fun c u iu e => by rw [upd_ne (n1 c u iu e)]; exact e) (fun c u f e => by rw [upd_ne (n2 c f)]; exact e) (fun _ f => f) d v L (fun c hc u e => by rw [upd_ne (fun z => nL (by rw [← z]; exact hc))]; exact e) h
/-- the list at a place of an own list or tuple is one's own: it may be changed there -/
theorem DTs.at_ : ∀ {l : List D} {xs : List V} {L : List Addr} {j : Nat} {m : List D}, DTs G H F l xs L → L.Nodup → l[j]? = some (.lst m) → D.own0s m = true →
    ∃ b ys, xs[j]? = some (.ref b) ∧ b ∈ L ∧ H b = some (.lst ys) ∧ RVs G H F m ys ∧ ∀ (o' : HO) (m' : List D), (∀ c u, immO u = true → H c = some u → c ≠ b) → (∀ c, F c → c ≠ b) → D.own0s m' = true → RO G (L2.upd H b o') F (.lst m') b → DTs G (L2.upd H b o') F (l.set j (.lst m')) xs L
  | [], xs, L, j, m, h, nd, e, o => by simp at e
  | d :: l, xs, L, 0, m, h, nd, e, o => by
    simp at e
    subst e
    unfold DTs at h
    obtain ⟨y, zs, L1, L2, rfl, rfl, r, rs⟩ := h
    unfold DT at r
    obtain ⟨b, ys, L', rfl, hb, rfl, rm⟩ := r
    obtain ⟨rfl, rv⟩ := DTs.rvs0 m ys L' o rm
    have nd' : b ∉ L2 := fun z => by
      rw [List.nodup_append] at nd
      exact nd.2.2 b List.mem_cons_self b z rfl
    refine ⟨b, ys, rfl, List.mem_append.mpr (.inl List.mem_cons_self), hb, rv, fun o' m' n1 n2 om ro => ?_⟩
    rw [List.set_cons_zero]
    unfold DTs
    obtain ⟨zs', ez, rz⟩ := ro
    refine ⟨.ref b, zs, [b], L2, rfl, rfl, ?_, DTs.upd n1 n2 nd' rs⟩
    unfold DT
    exact ⟨b, zs', [], rfl, ez, rfl, RVs.dts m' zs' om rz⟩
  | d :: l, xs, L, j + 1, m, h, nd, e, o => by
    unfold DTs at h
    obtain ⟨y, zs, L1, L2, rfl, rfl, r, rs⟩ := h
    rw [List.nodup_append] at nd
    obtain ⟨b, ys, e1, e2, e3, e4, k⟩ := DTs.at_ rs nd.2.1 (by simpa using e) o
    refine ⟨b, ys, by simpa using e1, List.mem_append.mpr (.inr e2), e3, e4, fun o' m' n1 n2 om ro => ?_⟩
    rw [List.set_cons_succ]
    unfold DTs
    exact ⟨y, zs, L1, L2, rfl, rfl, DT.upd n1 n2 (fun z => nd.2.2 b z b e2 rfl) r, k o' m' n1 n2 om ro⟩
end
def nestM (d k : D) : Option (Nat × List D) := match d, k with
  | .lst l, .int j => (ixN l.length j).bind fun i => match l[i]? with | some (.lst m) => if D.own0s m = true then some (i, m) else none | _ => none
  | .tup l, .int j => (ixN l.length j).bind fun i => match l[i]? with | some (.lst m) => if D.own0s m = true then some (i, m) else none | _ => none
  | _, _ => none
def nestPut (d : D) (i : Nat) (m : List D) : D := match d with
  | .lst l => .lst (l.set i (.lst m))
  | .tup l => .tup (l.set i (.lst m))
  | d => d
def mMethN (i : Nat) (mk : M D) (ms : M (List D)) (f : List D → D → Option (D × D)) : M D := fun ρ => match ρ[i]? with
  | some (.tr d) => (match mk (ρ.set i .emp) with
    | .ok k ρ1 => (match ms ρ1 with
      | .ok ds ρ2 => (match ρ1[i]?, ρ2[i]? with
        | some .emp, some .emp => (match nestM d k with
          | some (j, m) => (match f ds (.lst m) with
            | some (.lst m', e) => if D.own0s m' = true then .ok e (ρ2.set i (.tr (nestPut d j m'))) else .no
            | _ => .no)
          | none => .no)
        | _, _ => .no)
      | _ => .no)
    | _ => .no)
  | _ => .no
theorem DT.at_ {G : Glb} {H : Hp} {F : Addr → Prop} {d k : D} {v : V} {L : List Addr} {j : Nat} {m : List D} (h : DT G H F d v L) (nd : L.Nodup) (e : nestM d k = some (j, m)) :
    ∃ a xs n b ys, v = .ref a ∧ k = .int n ∧ ((H a = some (.lst xs) ∧ a ∈ L) ∨ H a = some (.tup xs)) ∧ atI xs n = some (.ref b) ∧ b ∈ L ∧ H b = some (.lst ys) ∧ RVs G H F m ys ∧ ∀ (o' : HO) (m' : List D), (∀ c u, immO u = true → H c = some u → c ≠ b) → (∀ c, F c → c ≠ b) → D.own0s m' = true → RO G (L2.upd H b o') F (.lst m') b → DT G (L2.upd H b o') F (nestPut d j m') v L := by
  have ixat : ∀ {l : List D} {xs : List V} {n : Int} {i : Nat} {w : V}, l.length = xs.length → ixN l.length n = some i → xs[i]? = some w → atI xs n = some w := fun {l xs n i w} hl hi hw => by
    unfold atI
    rw [← hl, hi]
    exact hw
  cases d with
  | lst l =>
    cases k with
    | int n =>
      obtain ⟨i, ei, e⟩ := Option.bind_eq_some_iff.mp (show (ixN l.length n).bind _ = _ from e)
      unfold DT at h
      obtain ⟨a, xs, L', rfl, ha, rfl, r⟩ := h
      have nd' := List.nodup_cons.mp nd
      split at e
      · rename_i m0 em
        split at e
        · rename_i om
          cases e
          obtain ⟨b, ys, e1, e2, e3, e4, kk⟩ := DTs.at_ r nd'.2 em om
          refine ⟨a, xs, n, b, ys, rfl, rfl, .inl ⟨ha, List.mem_cons_self⟩, ixat r.len ei e1, List.mem_cons_of_mem _ e2, e3, e4, fun o' m' n1 n2 om ro => ?_⟩
          show DT G _ F (.lst (l.set j (.lst m'))) _ _
          unfold DT
          exact ⟨a, xs, L', rfl, by rw [upd_ne (fun z => nd'.1 (by rw [z]; exact e2))]; exact ha, rfl, kk o' m' n1 n2 om ro⟩
        · cases e
      · cases e
    | _ => cases e
  | tup l =>
    cases k with
    | int n =>
      obtain ⟨i, ei, e⟩ := Option.bind_eq_some_iff.mp (show (ixN l.length n).bind _ = _ from e)
      unfold DT at h
      obtain ⟨a, xs, rfl, ha, r⟩ := h
      split at e
      · rename_i m0 em
        split at e
        · rename_i om
          cases e
          obtain ⟨b, ys, e1, e2, e3, e4, kk⟩ := DTs.at_ r nd em om
          refine ⟨a, xs, n, b, ys, rfl, rfl, .inr ha, ixat r.len ei e1, e2, e3, e4, fun o' m' n1 n2 om ro => ?_⟩
          show DT G _ F (.tup (l.set j (.lst m'))) _ _
          unfold DT
          exact ⟨a, xs, rfl, by rw [upd_ne (n1 a _ rfl ha)]; exact ha, kk o' m' n1 n2 om ro⟩
        · cases e
      · cases e
    | _ => cases e
  | _ => cases k <;> cases e
section
variable {X : Cx} {G : Glb} {β : Bt} {W : WX} {σ : L2.St} {H H' : Hp} {F F' : Addr → Prop} {ρ ρ' : List Sl} {L L' : Nat → List Addr}
/-- what a slot gave out of its hands is nobody's, and stays -/
theorem aside {i : Nat} (I : St G β H F σ ρ L) {F1 : Addr → Prop} {H1 : Hp} {L1 : Nat → List Addr} (t : Stp H F (Own (setL L i [])) H1 F1 (Own L1)) : ∀ a ∈ L i, (∀ u, H a = some u → H1 a = some u) ∧ ¬ F1 a ∧ ¬ Own L1 a := fun a ha => by
  have no : ¬ Own (setL L i []) a := fun ⟨j, hj⟩ => by
    by_cases q : j = i
    · subst q; rw [setL_same] at hj; cases hj
    · rw [setL_ne q] at hj; exact q (I.apart j i a hj ha)
  obtain ⟨u0, e0, _⟩ := I.mu i a ha
  refine ⟨fun u e => t.keep a u no e, fun f => ?_, fun o => ?_⟩
  · rcases t.newF a f with f | o | n
    · exact I.nF i a ha f
    · exact no o
    · rw [n] at e0; cases e0
  · rcases t.newO a o with o | n
    · exact no o
    · rw [n] at e0; cases e0
theorem methN_imp {K : PySem.W.Frag} {i : Nat} {mk : M D} {ms : M (List D)} {f : List D → D → Option (D × D)} {r : V → List V → Hp → VK → Prop} {Q : VK} (ok : OkM G r f)
    (q : tE G β W (mMethN i mk ms f) σ H Q) : tBM K "list" r (tOp (rIx K) (tVar i) (tE G β W mk)) (tAs G β W ms) σ H Q := by
  obtain ⟨F, ρ, L, I, q⟩ := q
  unfold mMethN at q
  cases e1 : ρ[i]? with
  | none => rw [e1] at q; exact q.elim
  | some s =>
    have hi : i < ρ.length := (List.getElem?_eq_some_iff.mp e1).1
    rw [e1] at q
    cases s with
    | emp => exact q.elim
    | sh d => exact q.elim
    | ow d => exact q.elim
    | io d => exact q.elim
    | tr d =>
      dsimp only at q
      cases em : mk (ρ.set i .emp) with
      | no => rw [em] at q; exact q.elim
      | ex c l r => rw [em] at q; exact q.elim
      | ok k ρ1 =>
        rw [em] at q
        dsimp only at q
        cases es : ms ρ1 with
        | no => rw [es] at q; exact q.elim
        | ex c l r => rw [es] at q; exact q.elim
        | ok ds ρ2 =>
          rw [es] at q
          dsimp only at q
          split at q
          · rename_i x1 x2 z1 z2
            cases en : nestM d k with
            | none => rw [en] at q; exact q.elim
            | some jm =>
              obtain ⟨j, m⟩ := jm
              rw [en] at q
              dsimp only at q
              cases ef : f ds (.lst m) with
              | none => rw [ef] at q; exact q.elim
              | some de =>
                obtain ⟨d', e⟩ := de
                rw [ef] at q
                cases d' with
                | lst m' =>
                  dsimp only at q
                  split at q
                  · rename_i om
                    obtain ⟨v, ev, dt⟩ := I.slot i _ e1
                    have I1 := I.setEmp (o := some v) hi
                    have eσ : σ.set i (some v) = σ := by rw [← ev]; exact set_getD (by rw [I.len]; exact hi)
                    rw [eσ] at I1
                    refine ⟨v, getD_some ev, tG_ok I1 em fun kv H1 F1 L1 I2 rk t1 => ?_⟩
                    have as1 := aside I t1
                    have dt1 : DT G H1 F1 d v (L i) := DT.mono t1.imm (fun a u fa => t1.keep a u fun ⟨jj, hj⟩ => I1.nF jj a hj fa) t1.mono d v (L i) (fun a ha u => (as1 a ha).1 u) dt
                    obtain ⟨a, xs, n, b, ys, rfl, rfl, sq, ea, hb, eb, _, _⟩ := DT.at_ dt1 (I.nd i) en
                    unfold RV at rk
                    subst rk
                    have rest : tyV K "list" (.ref b) H1 ∧ tAs G β W ms σ H1 fun vs H2 => r (.ref b) vs H2 Q := by
                      refine ⟨.inl ⟨rfl, ys, SqL.of eb⟩, tG_ok I2 es fun vs H2 F2 L2 I3 rs t2 => ?_⟩
                      have t12 := t1.trans t2
                      have as2 := aside I t12
                      have dt2 : DT G H2 F2 d (.ref a) (L i) := DT.mono t2.imm (fun c u fa => t2.keep c u fun ⟨jj, hj⟩ => I2.nF jj c hj fa) t2.mono d (.ref a) (L i) (fun c hc u => t2.keep c u (as1 c hc).2.2) dt1
                      obtain ⟨a2, xs2, n2, b2, ys2, q1, q2, sq2, ea2, hb2, eb2, rm2, kk⟩ := DT.at_ dt2 (I.nd i) en
                      cases q1
                      cases q2
                      have ex : xs2 = xs := by
                        have st : H2 a = H1 a := by
                          rcases sq with ⟨z, za⟩ | z
                          · rw [z]; exact t2.keep a _ (as1 a za).2.2 z
                          · rw [z]; exact t2.imm a _ rfl z
                        rcases sq with ⟨z, _⟩ | z <;> rcases sq2 with ⟨w, _⟩ | w <;> rw [st, z] at w <;> cases w <;> rfl
                      subst ex
                      rw [ea] at ea2
                      cases ea2
                      have n1 : ∀ c u, immO u = true → H2 c = some u → c ≠ b := fun c u iu e z => by subst z; rw [eb2] at e; cases e; cases iu
                      have n2' : ∀ c, F2 c → c ≠ b := fun c fc z => (as2 b hb2).2.1 (z ▸ fc)
                      refine ok b vs ds (.lst m) (.lst m') e H2 F2 Q n1 n2' ⟨ys2, eb2, rm2⟩ rs ef fun w o' im ro rw' => ?_
                      have hi2 : i < ρ2.length := by
                        have := (List.getElem?_eq_some_iff.mp z2).1
                        exact this
                      have I4 := I3.updFree (o := o') eb2 rfl (as2 b hb2).2.1 (as2 b hb2).2.2
                      have I5 := I4.set (s := .tr (nestPut d j m')) (o := some (.ref a)) (l := L i) hi2 ⟨.ref a, rfl, kk o' m' n1 n2' om ro⟩ (I.nd i) (fun c hc jj _ hj => (as2 c hc).2.2 ⟨jj, hj⟩) (fun c hc => (as2 c hc).2.1) (fun c hc => ?_) (fun _ z => nomatch z)
                      · rw [eσ] at I5
                        refine q w _ F2 _ I5 rw' ?_
                        have nb : ∀ c u, H c = some u → immO u = true → c ≠ b := fun c u e iu z => by
                          subst z
                          obtain ⟨u0, e0, i0⟩ := I.mu i _ hb2
                          rw [e0] at e; cases e; rw [i0] at iu; cases iu
                        have less : ∀ {c}, Own (setL L i []) c → Own L c := fun {c} o => (own_setL o).elim id fun z => nomatch z
                        refine ⟨fun c u iu e => ?_, fun c u no e => ?_, fun c u e => ?_, t12.mono, fun c fc => ?_, fun c o => ?_⟩
                        · rw [upd_ne (nb c u e iu)]; exact t12.imm c u iu e
                        · rw [upd_ne (fun z => no ⟨i, by rw [z]; exact hb2⟩)]; exact t12.keep c u (fun o => no (less o)) e
                        · by_cases hcb : c = b
                          · subst hcb; exact ⟨o', upd_same⟩
                          · rw [upd_ne hcb]; exact t12.there c u e
                        · exact (t12.newF c fc).elim .inl fun z => z.elim (fun o => .inr (.inl (less o))) fun n => .inr (.inr n)
                        · rcases own_setL o with o | o
                          · exact (t12.newO c o).elim (fun o => .inl (less o)) .inr
                          · exact .inl ⟨i, o⟩
                      · by_cases hcb : c = b
                        · subst hcb; exact ⟨o', upd_same, im⟩
                        · obtain ⟨u0, e0, i0⟩ := I.mu i c hc
                          exact ⟨u0, by rw [upd_ne hcb]; exact (as2 c hc).1 u0 e0, i0⟩
                    rcases sq with ⟨sq, _⟩ | sq
                    · exact .inl ⟨a, xs, n, .ref b, rfl, rfl, SqL.of sq, ea, rest⟩
                    · exact .inr (.inl ⟨a, xs, n, .ref b, rfl, rfl, SqT.of sq, ea, rest⟩)
                  · exact q.elim
                | _ => exact q.elim
          · exact q.elim
end
/-! ## [e for x in it if t], each e one's own -/
def Sl.tree : Sl → Option D
  | .tr d => some d
  | .ow (.lst m) => if D.own0s m = true then some (.lst m) else none
  | .sh d => if D.own0 d = true then some d else none
  | _ => none
theorem SlR.tree {G : Glb} {H : Hp} {F : Addr → Prop} {s : Sl} {v : V} {lr : List Addr} {d : D} (h : SlR G H F s (some v) lr) (e : s.tree = some d) : DT G H F d v lr := by
  unfold Sl.tree at e
  split at e
  · cases e
    obtain ⟨v', ev, r⟩ := h
    cases ev
    exact r
  · split at e
    · rename_i om
      cases e
      obtain ⟨a, rfl, ev, xs, q, r⟩ := h
      cases ev
      unfold DT
      exact ⟨a, xs, [], rfl, q, rfl, RVs.dts _ _ om r⟩
    · cases e
  · split at e
    · rename_i om
      cases e
      obtain ⟨rfl, v', ev, r⟩ := h
      cases ev
      exact RV.dt _ _ om r
    · cases e
  · cases e
def compOL (vs : List Nat) (f : D → M Unit) (t : M Bool) (m : M Sl) : List D → M (List D)
  | [] => retM []
  | d :: ds => bindM (f d) fun _ => bindM t fun k => if k = true then bindM m fun s => (match s.tree with
      | some x => bindM (wipeM vs) fun _ => bindM (compOL vs f t m ds) fun xs => retM (x :: xs)
      | none => noM) else bindM (wipeM vs) fun _ => compOL vs f t m ds
def compO (vs : List Nat) (it : M (List D)) (f : D → M Unit) (t : M Bool) (m : M Sl) : M Sl := bindM it fun ds => fun ρ => if ds.length ≤ LIM then (match compOL vs f t m ds (wipeS vs ρ) with
  | .ok l ρ' => .ok (.tr (.lst l)) (unwipe vs ρ ρ')
  | _ => .no) else .no
section
variable {X : Cx} {G : Glb} {β : Bt} {W : WX} {σ σ' : L2.St} {H H' : Hp} {F F' : Addr → Prop} {ρ ρ' : List Sl} {L L' : Nat → List Addr}
theorem compOL_step {vs : List Nat} {f : D → M Unit} {t : M Bool} {m : M Sl} {d : D} {ds xs : List D} (h : compOL vs f t m (d :: ds) ρ = .ok xs ρ') : ∃ ρ1 k ρ2, f d ρ = .ok () ρ1 ∧ t ρ1 = .ok k ρ2 ∧
    ((k = true ∧ ∃ s x ρ3 ys, m ρ2 = .ok s ρ3 ∧ s.tree = some x ∧ compOL vs f t m ds (wipeS vs ρ3) = .ok ys ρ' ∧ xs = x :: ys) ∨ (k = false ∧ compOL vs f t m ds (wipeS vs ρ2) = .ok xs ρ')) := by
  unfold compOL at h
  obtain ⟨u, ρ1, e1, h⟩ := bindM_ok h
  obtain ⟨k, ρ2, e2, h⟩ := bindM_ok h
  refine ⟨ρ1, k, ρ2, e1, e2, ?_⟩
  cases k with
  | false =>
    rw [if_neg Bool.false_ne_true] at h
    obtain ⟨_, _, e3, h⟩ := bindM_ok h
    cases e3
    exact .inr ⟨rfl, h⟩
  | true =>
    rw [if_pos rfl] at h
    obtain ⟨s, ρ3, e3, h⟩ := bindM_ok h
    cases et : s.tree with
    | none => rw [et] at h; cases h
    | some x =>
      rw [et] at h
      obtain ⟨_, _, e4, h⟩ := bindM_ok h
      cases e4
      obtain ⟨ys, ρ5, e5, h⟩ := bindM_ok h
      cases h
      exact .inl ⟨rfl, s, x, ρ3, ys, e3, et, e5, rfl⟩
/-- the new list p and what it owns beside all that is owned -/
structure BesideL (H1 : Hp) (F1 O1 : Addr → Prop) (H : Hp) (F : Addr → Prop) (L : Nat → List Addr) (p : Addr) (ls : List Addr) : Prop where
  stp : Stp H1 F1 O1 H F (Ow2 L (p :: ls))
  new : H1 p = none
  nF : ∀ a ∈ p :: ls, ¬ F a
  nO : ∀ a ∈ p :: ls, ¬ Own L a
  nd : (p :: ls).Nodup
  mu : ∀ a ∈ p :: ls, ∃ u, H a = some u ∧ immO u = false
theorem BesideL.add {H1 : Hp} {F1 O1 : Addr → Prop} {p : Addr} {ls lr : List Addr} {s : Sl} {v : V} (B : BesideL H1 F1 O1 H F L p ls) (r : Res G H' F' L' s v lr) (t : Stp H F (Own L) H' F' (Ow2 L' lr)) :
    BesideL H1 F1 O1 H' F' L' p (ls ++ lr) ∧ ∀ a ∈ p :: ls, ∀ u, H a = some u → H' a = some u := by
  have gone : ∀ a, H a = none → H1 a = none := fun a n => by
    cases q : H1 a with
    | none => rfl
    | some u => obtain ⟨u', z⟩ := B.stp.there a u q; rw [n] at z; cases z
  have oL : ∀ a, Own L a → O1 a ∨ H1 a = none := fun a o => B.stp.newO a (.inl o)
  have kp : ∀ a ∈ p :: ls, ∀ u, H a = some u → H' a = some u := fun a ha u e => t.keep a u (B.nO a ha) e
  have nl : ∀ a ∈ p :: ls, a ∉ lr := fun a ha hr => by
    obtain ⟨u, e, _⟩ := B.mu a ha
    rcases t.newO a (.inr hr) with o | n
    · exact B.nO a ha o
    · rw [n] at e; cases e
  refine ⟨⟨⟨fun a u i q => t.imm a u i (B.stp.imm a u i q), fun a u n q => t.keep a u (fun o => (oL a o).elim n fun z => by rw [z] at q; cases q) (B.stp.keep a u n q), fun a u q => let ⟨u', z⟩ := B.stp.there a u q; t.there a u' z, fun a f => t.mono a (B.stp.mono a f), fun a f => ?_, fun a o => ?_⟩,
    B.new, fun a ha f => ?_, fun a ha o => ?_, ?_, fun a ha => ?_⟩, kp⟩
  · rcases t.newF a f with f | o | n
    · exact B.stp.newF a f
    · exact (oL a o).elim (fun z => .inr (.inl z)) fun z => .inr (.inr z)
    · exact .inr (.inr (gone a n))
  · have two : Ow2 L' lr a ∨ a ∈ p :: ls := by
      rcases o with o | o
      · exact .inl (.inl o)
      · rw [← List.cons_append] at o
        exact (List.mem_append.mp o).elim .inr fun z => .inl (.inr z)
    rcases two with o | o
    · exact (t.newO a o).elim (oL a) fun n => .inr (gone a n)
    · exact B.stp.newO a (.inr o)
  · rw [← List.cons_append] at ha
    rcases List.mem_append.mp ha with ha | ha
    · obtain ⟨u, e, _⟩ := B.mu a ha
      rcases t.newF a f with f | o | n
      · exact B.nF a ha f
      · exact B.nO a ha o
      · rw [n] at e; cases e
    · exact r.nF a ha f
  · rw [← List.cons_append] at ha
    rcases List.mem_append.mp ha with ha | ha
    · obtain ⟨u, e, _⟩ := B.mu a ha
      rcases t.newO a (.inl o) with o | n
      · exact B.nO a ha o
      · rw [n] at e; cases e
    · obtain ⟨j, hj⟩ := o
      exact r.ap a ha j hj
  · rw [← List.cons_append, List.nodup_append]
    exact ⟨B.nd, r.nd, fun a ha b hb e => nl a ha (e ▸ hb)⟩
  · rw [← List.cons_append] at ha
    rcases List.mem_append.mp ha with ha | ha
    · obtain ⟨u, e, i⟩ := B.mu a ha
      exact ⟨u, kp a ha u e, i⟩
    · exact r.mu a ha
theorem BesideL.step {H1 : Hp} {F1 O1 : Addr → Prop} {p : Addr} {ls : List Addr} (B : BesideL H1 F1 O1 H F L p ls) (t : Stp H F (Own L) H' F' (Own L')) :
    BesideL H1 F1 O1 H' F' L' p ls ∧ ∀ a ∈ p :: ls, ∀ u, H a = some u → H' a = some u := by
  have r : Res (⟨[], fun _ => 0, fun _ => 0, fun _ => []⟩ : Glb) H' F' L' (.sh .non) .non [] := Res.sh RV.non
  have q := B.add r (by rw [ow2_nil]; exact t)
  rw [List.append_nil] at q
  exact q
theorem BesideL.upd {H1 : Hp} {F1 O1 : Addr → Prop} {p : Addr} {ls : List Addr} {u o : HO} (B : BesideL H1 F1 O1 H F L p ls) (e : H p = some u) (im : immO o = false) : BesideL H1 F1 O1 (L2.upd H p o) F L p ls :=
  ⟨⟨fun a u' i q => by
    have n : a ≠ p := fun z => by rw [z, B.new] at q; cases q
    rw [upd_ne n]; exact B.stp.imm a u' i q, fun a u' n q => by
    have n' : a ≠ p := fun z => by rw [z, B.new] at q; cases q
    rw [upd_ne n']; exact B.stp.keep a u' n q, fun a u' q => by
    have n' : a ≠ p := fun z => by rw [z, B.new] at q; cases q
    rw [upd_ne n']; exact B.stp.there a u' q, B.stp.mono, B.stp.newF, B.stp.newO⟩, B.new, B.nF, B.nO, B.nd, fun a ha => by
    by_cases q : a = p
    · rw [q, upd_same]; exact ⟨o, rfl, im⟩
    · rw [upd_ne q]; exact B.mu a ha⟩
theorem dts_step {l : List D} {xs : List V} {ls : List Addr} {O' : Addr → Prop} (I : St G β H F σ ρ L) (t : Stp H F (Own L) H' F' O') (k : ∀ a ∈ ls, ∀ u, H a = some u → H' a = some u) (h : DTs G H F l xs ls) : DTs G H' F' l xs ls :=
  DTs.mono t.imm (fun a u f => t.keep a u (I.notF f)) t.mono l xs ls k h
theorem tA_ok {m : M Sl} {x : Sl} {K : VK} (I : St G β H F σ ρ L) (e : m ρ = .ok x ρ')
    (k : ∀ v H' F' L' lr, St G β H' F' σ ρ' L' → Res G H' F' L' x v lr → Stp H F (Own L) H' F' (Ow2 L' lr) → K v H') : tA G β W m σ H K := ⟨F, ρ, L, I, by rw [e]; exact k⟩
theorem compO_imp {vs : List Nat} {it : M (List D)} {f : D → M Unit} {t : M Bool} {m : M Sl} {Q : VK} (q : tA G β W (compO vs it f t m) σ H Q) :
    tLc (tI G β W it) (tGt G β vs f) (tT G β W0 t) (tA G β W0 m) vs σ H Q := by
  obtain ⟨F, ρ, L, I, q⟩ := q
  refine tG_bindA I q fun ds ρ1 J H1 F1 L1 I1 r t1 q1 p hp => ?_
  split at q1
  · rename_i hlen
    cases ec : compOL vs f t m ds (wipeS vs ρ1) with
    | no => rw [ec] at q1; exact q1.elim
    | ex c l ρe => rw [ec] at q1; exact q1.elim
    | ok l ρe =>
      rw [ec] at q1
      dsimp only at q1
      obtain ⟨Lw, Iw, sw⟩ := I1.wipe vs
      have hpL : ¬ Own L1 p := fun ⟨i, h⟩ => by obtain ⟨u, eu, _⟩ := I1.mu i p h; rw [hp] at eu; cases eu
      have hpF : ¬ F1 p := fun h => by obtain ⟨u, eu⟩ := I1.aF p h; rw [hp] at eu; cases eu
      -- the word between the turns
      refine ⟨fun i n H => ∃ F ρ L acc accD xs ls, n + i = ds.length ∧ St G β H F (wipe σ vs) ρ L ∧ Per H1 F1 H F ∧ BesideL H1 F1 (Own L1) H F L p ls ∧ H p = some (.lst acc) ∧ DTs G H F accD acc ls ∧ accD.length ≤ i ∧
        compOL vs f t m (ds.drop i) ρ = .ok xs ρe ∧ accD ++ xs = l ∧ ∀ j ∈ vs, ρ[j]? = some .emp ∨ ρ[j]? = none, ⟨ds.length, F1, wipeS vs ρ1, Lw, [], [], l, [], rfl, Iw.new hp, ⟨fun a u _ => upd_keep hp a u, fun a u _ => upd_keep hp a u, fun _ f => f⟩, ⟨?_, hp, fun a ha => by rw [List.mem_singleton.mp ha]; exact hpF, fun a ha => by rw [List.mem_singleton.mp ha]; exact fun o => hpL (sw p o), by simp, fun a ha => by rw [List.mem_singleton.mp ha]; exact ⟨_, upd_same, rfl⟩⟩, upd_same, (by unfold DTs; exact ⟨rfl, rfl⟩), Nat.zero_le _, ec, rfl,
        fun j hj => wipeS_in hj⟩, ?_⟩
      · refine ⟨fun a u _ => upd_keep hp a u, fun a u _ => upd_keep hp a u, fun a u e => ⟨u, upd_keep hp a u e⟩, fun _ f => f, fun _ f => .inl f, fun a o => ?_⟩
        rcases o with o | o
        · exact .inl (sw a o)
        · rw [List.mem_singleton.mp o]; exact .inr hp
      rintro i n H2 ⟨F2, ρ2, L2, acc, accD, xs, ls, en, I2, p2, B2, ep, ra, la, ek, el, wi⟩
      cases n with
      | zero =>
        have ei : i = ds.length := by omega
        subst ei
        rw [List.drop_length] at ek
        cases ek
        rw [List.append_nil] at el
        subst el
        refine .inl ⟨r.stop H2 F2 p2, ?_⟩
        -- the names of the block go, those of the frame come back
        have I3 : St G β H2 F2 σ (unwipe vs ρ1 ρe) L2 := by
          refine I2.swap (by rw [wipe_length]) (unwipe_len _ _ _) fun j => ?_
          by_cases hj : j ∈ vs
          · have own0 : L2 j = [] := by
              rcases wi j hj with e | e
              · exact I2.slot j _ e
              · exact I2.out j (List.getElem?_eq_none_iff.mp e)
            refine .inr ⟨own0, ?_⟩
            rcases unwipe_in (ρ0 := ρ1) hj with ⟨d, e1, e2⟩ | e | e
            · obtain ⟨_, v, ev, rv⟩ := I1.slot j _ e1
              exact .inl ⟨d, v, e2, ev, p2.rv rv⟩
            · exact .inr (.inl e)
            · exact .inr (.inr e)
          · exact .inl ⟨(wipe_outD hj).symm, unwipe_out hj⟩
        exact q1 _ H2 F2 L2 (p :: ls) I3 ⟨⟨.ref p, rfl, by unfold DT; exact ⟨p, acc, ls, rfl, ep, rfl, ra⟩⟩, B2.nd, fun a h j hj => B2.nO a h ⟨j, hj⟩, B2.nF, B2.mu⟩ B2.stp
      | succ n =>
        have hi : i < ds.length := by omega
        rw [List.drop_eq_getElem_cons hi] at ek
        obtain ⟨g1, g2⟩ := r.go i ds[i] H2 F2 p2 (List.getElem?_eq_getElem hi)
        obtain ⟨ρ3, k, ρ4, e3, e4, e5⟩ := compOL_step ek
        refine .inr ⟨g1, fun H => ∃ F ρ L acc accD xs ls, n + (i + 1) = ds.length ∧ St G β H F (wipe σ vs) ρ L ∧ Per H1 F1 H F ∧ BesideL H1 F1 (Own L1) H F L p ls ∧ H p = some (.lst acc) ∧ DTs G H F accD acc ls ∧ accD.length ≤ i + 1 ∧
          compOL vs f t m (ds.drop (i + 1)) ρ = .ok xs ρe ∧ accD ++ xs = l ∧ ∀ j ∈ vs, ρ[j]? = some .emp ∨ ρ[j]? = none, fun H' z => ⟨n, Nat.lt_succ_self n, z⟩, fun x H3 y => ?_⟩
        obtain ⟨F3, x3, rx⟩ := g2 x H3 y
        have I3 := I2.ext x3
        have k3 := B2.step (Stp.ext (O := Own L2) x3)
        obtain ⟨B3, st3⟩ := k3
        have ep3 := st3 p List.mem_cons_self _ ep
        refine ⟨F3, ρ2, L2, ds[i], ρ3, I3, rx, e3, fun σ4 H4 F4 L4 I4 t4 w4 => ?_⟩
        obtain ⟨B4, st4⟩ := B3.step t4
        have ep4 := st4 p List.mem_cons_self _ ep3
        have wself : wipe (wipe σ vs) vs = wipe σ vs := wipe_wipe vs
        refine ⟨by rw [w4, wself], tG_ok I4 e4 fun c H5 F5 L5 I5 rc t5 => ?_⟩
        subst rc
        obtain ⟨B5, st5⟩ := B4.step t5
        have ep5 := st5 p List.mem_cons_self _ ep4
        have p5 := ((p2.ext x3).step I3 t4).step I4 t5
        have ra5 : DTs G H5 F5 accD acc ls := dts_step I4 t5 (fun a ha => st5 a (List.mem_cons_of_mem _ ha)) (dts_step I3 t4 (fun a ha => st4 a (List.mem_cons_of_mem _ ha)) (dts_step I2 (Stp.ext (O := Own L2) x3) (fun a ha => st3 a (List.mem_cons_of_mem _ ha)) ra))
        -- the block's state behind the turn
        have back : ∀ {H' : Hp} {F' : Addr → Prop} {L' : Nat → List Addr} {ρ' : List Sl}, St G β H' F' σ4 ρ' L' → ∃ L'', St G β H' F' (wipe σ vs) (wipeS vs ρ') L'' ∧ ∀ a, Own L'' a → Own L' a := fun {H' F' L' ρ'} I' => by
          obtain ⟨L'', I'', s''⟩ := I'.wipe vs
          rw [w4, wself] at I''
          exact ⟨L'', I'', s''⟩
        have less : ∀ {H' : Hp} {F' : Addr → Prop} {L' L'' : Nat → List Addr} {ls' : List Addr}, BesideL H1 F1 (Own L1) H' F' L' p ls' → (∀ a, Own L'' a → Own L' a) → BesideL H1 F1 (Own L1) H' F' L'' p ls' := fun {H' F' L' L'' ls'} B s =>
          ⟨⟨B.stp.imm, B.stp.keep, B.stp.there, B.stp.mono, B.stp.newF, fun a o => B.stp.newO a (o.elim (fun o => .inl (s a o)) .inr)⟩, B.new, B.nF, fun a ha o => B.nO a ha (s a o), B.nd, B.mu⟩
        rcases e5 with ⟨rfl, s, z, ρ6, ys, e6, ez, e7, rfl⟩ | ⟨rfl, e7⟩
        · refine iteT (tA_ok I5 e6 fun y' H6 F6 L6 lr I6 ry t6 => ?_)
          have dz := SlR.tree ry.rel ez
          obtain ⟨B6, st6⟩ := B5.add ry t6
          have ep6 := st6 p List.mem_cons_self _ ep5
          have ra6 : DTs G H6 F6 accD acc ls := dts_step I5 t6 (fun a ha => st6 a (List.mem_cons_of_mem _ ha)) ra5
          have lacc : acc.length = accD.length := ra6.len.symm
          refine ⟨acc, ep6, by rw [LIM_eq]; omega, ?_⟩
          obtain ⟨L7, I7, s7⟩ := back I6
          have B7 := less B6 s7
          have n1 : ∀ b u, immO u = true → H6 b = some u → b ≠ p := fun b u iu eb z => by subst z; rw [ep6] at eb; cases eb; cases iu
          have n2 : ∀ b, F6 b → b ≠ p := fun b f z => B6.nF p List.mem_cons_self (z ▸ f)
          have npl : p ∉ ls ++ lr := (List.nodup_cons.mp B6.nd).1
          have dall : DTs G H6 F6 (accD ++ [z]) (acc ++ [y']) (ls ++ lr) := DTs.append ra6 (by unfold DTs; exact ⟨y', [], lr, [], rfl, by rw [List.append_nil], dz, by unfold DTs; exact ⟨rfl, rfl⟩⟩)
          refine ⟨F6, _, L7, _, accD ++ [z], ys, ls ++ lr, by omega, I7.updFree ep6 rfl (B7.nF p List.mem_cons_self) (B7.nO p List.mem_cons_self), (p5.step I5 t6).updFree ep6 rfl (B6.nF p List.mem_cons_self), B7.upd ep6 rfl, upd_same, DTs.upd n1 n2 npl dall, by rw [List.length_append]; show accD.length + 1 ≤ i + 1; omega, e7, by rw [List.append_assoc]; exact el, fun j hj => wipeS_in hj⟩
        · refine iteF ?_
          obtain ⟨L7, I7, s7⟩ := back I5
          exact ⟨F5, _, L7, acc, accD, xs, ls, by omega, I7, p5, less B5 s7, ep5, ra5, by omega, e7, el, fun j hj => wipeS_in hj⟩
  · exact q1.elim
end
section
variable {X : Cx} {G : Glb} {β : Bt} {W : WX} {elt tg iter : Expr} {ifs : List Expr} {scope : Scope} {own : List (Str × Nat)} {pos : Pos} {it : M (List D)} {f : D → M Unit} {t : M Bool} {m : M Sl}
/-- [e for x in it if t] -/
theorem sa_lcO (hc : X.calm = true) (hN : X.N.Nodup) (hi : PI X tg iter (tI G β W it)) (ok : BlkOk X.N X.env.scope scope own)
    (hg : ∀ (s : Shared) (H : Hp) (C : Addr) (cl : List (Str × Addr)) (fp : List Addr), PG (X.blk s H scope (compEnvC scope cl C X.env) fp) tg (tGt G β (own.map (·.2)) f)) (ht : ∀ (s : Shared) (H : Hp) (C : Addr) (cl : List (Str × Addr)) (fp : List Addr), PTs (X.blk s H scope (compEnvC scope cl C X.env) fp) ifs (tT G β W0 t))
    (he : ∀ (s : Shared) (H : Hp) (C : Addr) (cl : List (Str × Addr)) (fp : List Addr), PE (X.blk s H scope (compEnvC scope cl C X.env) fp) elt (tA G β W0 m)) (hs : ∀ x, foldedSetIterable iter X.env x = pure x := by intro _; rfl) :
    PE X (.ListComp elt [⟨tg, iter, ifs, 0⟩] scope pos) (tA G β W (compO (own.map (·.2)) it f t m)) := PE.imp (pe_lc hc hN hi ok hg ht he hs) fun _ _ _ q => compO_imp q
/-- y = [..] -/
theorem ss_setLcO {i : Nat} {y : Str} {py spos : Pos} (hc : X.calm = true) (hN : X.N.Nodup) (hy : X.N[i]? = some y) (hyl : X.env.scope.names.lookup y = some .local)
    (hsw : swapsWith (.ListComp elt [⟨tg, iter, ifs, 0⟩] scope pos) (some (.Name y py)) spos.line X.env = pure true) (hi : PI X tg iter (tI G β W it)) (ok : BlkOk X.N X.env.scope scope own)
    (hg : ∀ (s : Shared) (H : Hp) (C : Addr) (cl : List (Str × Addr)) (fp : List Addr), PG (X.blk s H scope (compEnvC scope cl C X.env) fp) tg (tGt G β (own.map (·.2)) f)) (ht : ∀ (s : Shared) (H : Hp) (C : Addr) (cl : List (Str × Addr)) (fp : List Addr), PTs (X.blk s H scope (compEnvC scope cl C X.env) fp) ifs (tT G β W0 t))
    (he : ∀ (s : Shared) (H : Hp) (C : Addr) (cl : List (Str × Addr)) (fp : List Addr), PE (X.blk s H scope (compEnvC scope cl C X.env) fp) elt (tA G β W0 m)) (hs : ∀ x, foldedSetIterable iter X.env x = pure x := by intro _; rfl) :
    PS X (.Assign [.Name y py] (.ListComp elt [⟨tg, iter, ifs, 0⟩] scope pos) spos) (tS G β W (mSet i (compO (own.map (·.2)) it f t m))) :=
  PS.imp (ps_setLc hc hN hy hyl hsw hi ok hg ht he hs) fun D σ H ⟨F, ρ, L, I, q⟩ => compO_imp (tA_bindS I q fun s ρ1 v H1 F1 L1 lr _ I1 r t q1 => putS_post I1 r t q1)
end
section
variable {X : Cx} {G : Glb} {β : Bt} {W : WX} {i : Nat} {o b e : Expr} {es : List Expr} {apos cpos ipos : Pos} {mk m : M D} {ms : M (List D)}
/-- x[k].name(..): the list at a place of an own list or tuple -/
theorem tyN1 {f : List D → D → Option (D × D)} {r : V → List V → Hp → VK → Prop} {name : Str} {id : String} (ok : OkM G r f)
    (slot : Slot "list" name id) (hty : typeOf (.builtin id) = pure (.type "method_descriptor")) (hm : MtR X id r) (ho : PE X o (tVar i)) (hb : PE X b (tE G β W mk)) (ha : PA X (e :: es) (tAs G β W ms)) (hx : PlainIx b := by exact fun _ _ => rfl)
    (hbase : attributeBase (.Subscript o b ipos) name X.env (eval (.Subscript o b ipos) X.env) = eval (.Subscript o b ipos) X.env := by rfl)
    (hfew : ((backTo cpos (starEach (e :: es) X.env)).all (fun x => !x.1) && (backToKw cpos (keywordEach [] X.env)).all (fun x => x.1.isSome)
      && decide ((e :: es).length + ([] : List Keyword).length + (if ([] : List Keyword).isEmpty then 0 else 1) < 30)) = true := by rfl)
    (hline : (apos.endLine == cpos.line) = true := by rfl) (hs : starEach (e :: es) X.env = (false, eval e X.env) :: starEach es X.env := by rfl) (hplain : (backTo cpos (starEach es X.env)).any (·.1) = false := by rfl) :
    PE X (.Call (.Attribute (.Subscript o b ipos) name apos) (e :: es) [] cpos) (tE G β W (mMethN i mk ms f)) :=
  PE.imp (pe_bm PySem.F.plainAttrs_list slot hty hm (pe_ix ix_seq ho hb hx) ha hbase hfew hline hs hplain) fun _ _ _ q => methN_imp ok q
theorem se_appendN (ho : PE X o (tVar i)) (hb : PE X b (tE G β W mk)) (he : PE X e (tE G β W m)) (hs : starEach [e] X.env = (false, eval e X.env) :: starEach [] X.env := by rfl) (hx : PlainIx b := by exact fun _ _ => rfl)
    (hbase : attributeBase (.Subscript o b ipos) "append" X.env (eval (.Subscript o b ipos) X.env) = eval (.Subscript o b ipos) X.env := by rfl)
    (hfew : ((backTo cpos (starEach [e] X.env)).all (fun x => !x.1) && (backToKw cpos (keywordEach [] X.env)).all (fun x => x.1.isSome)
      && decide ([e].length + ([] : List Keyword).length + (if ([] : List Keyword).isEmpty then 0 else 1) < 30)) = true := by rfl) (hline : (apos.endLine == cpos.line) = true := by rfl) :
    PE X (.Call (.Attribute (.Subscript o b ipos) "append" apos) [e] [] cpos) (tE G β W (mMethN i mk (mEach [m]) fApp)) :=
  tyN1 ok_append PySem.F.slot_list_append PySem.F.type_list_append mt_append ho hb (sl_cons he sl_nil hs) hx hbase hfew hline hs rfl
end
/-! ## in the plain programs -/
def trK (s : Sl) (K : D → Prop) : Prop := match s with
  | .tr d => K d
  | _ => False
def emQ (ρ : List Sl) (i : Nat) (A : Prop) : Prop := ρ[i]? = some .emp ∧ A
def nestK (f : List D → D → Option (D × D)) (d k : D) (ds : List D) (K : D → D → Prop) : Prop := ∃ j m m' e, nestM d k = some (j, m) ∧ f ds (.lst m) = some (.lst m', e) ∧ D.own0s m' = true ∧ K (nestPut d j m') e
section
variable {ρ : List Sl} {P : D → List Sl → Prop} {PA : Sl → List Sl → Prop} {A : Prop} {s : Sl} {i : Nat} {d : D}
theorem k_tr {K : D → Prop} (h : K d) : trK (.tr d) K := h
instance i_k_tr {K : D → Prop} : Step (trK (.tr d) K) (K d) := ⟨fun h => k_tr h⟩
theorem k_em0 (h : A) : emQ (.emp :: ρ) 0 A := ⟨rfl, h⟩
instance i_k_em0  : Step (emQ (.emp :: ρ) 0 A) (A) := ⟨fun h => k_em0 h⟩
theorem k_ems (h : emQ ρ i A) : emQ (s :: ρ) (i + 1) A := ⟨by rw [List.getElem?_cons_succ]; exact h.1, h.2⟩
instance i_k_ems  : Step (emQ (s :: ρ) (i + 1) A) (emQ ρ i A) := ⟨fun h => k_ems h⟩
theorem r_methN {mk : M D} {ms : M (List D)} {f : List D → D → Option (D × D)} (h : slQ ρ i fun s => trK s fun d => updK i .emp ρ [] fun ρ0 => Sat (mk ρ0) fun k ρ1 => emQ ρ1 i (Sat (ms ρ1) fun ds ρ2 => emQ ρ2 i (nestK f d k ds fun d' e => updK i (.tr d') ρ2 [] (P e)))) : Sat (mMethN i mk ms f ρ) P := by
  obtain ⟨s, e, h⟩ := On_ex h
  unfold mMethN
  rw [e]
  cases s with
  | tr d =>
    have h : Sat (mk (ρ.set i .emp)) _ := h
    dsimp only
    cases em : mk (ρ.set i .emp) with
    | no => rw [em] at h; exact h.elim
    | ex c l r => rw [em] at h; exact h.elim
    | ok k ρ1 =>
      rw [em] at h
      obtain ⟨h1, h⟩ := h
      dsimp only
      cases es : ms ρ1 with
      | no => rw [es] at h; exact h.elim
      | ex c l r => rw [es] at h; exact h.elim
      | ok ds ρ2 =>
        rw [es] at h
        obtain ⟨h2, j, m, m', e, q1, q2, q3, q4⟩ := h
        dsimp only
        rw [h1, h2]
        dsimp only
        rw [q1]
        dsimp only
        rw [q2]
        dsimp only
        rw [if_pos q3]
        exact q4
  | _ => exact h.elim
instance i_r_methN {mk : M D} {ms : M (List D)} {f : List D → D → Option (D × D)} : Step (Sat (mMethN i mk ms f ρ) P) (slQ ρ i fun s => trK s fun d => updK i .emp ρ [] fun ρ0 => Sat (mk ρ0) fun k ρ1 => emQ ρ1 i (Sat (ms ρ1) fun ds ρ2 => emQ ρ2 i (nestK f d k ds fun d' e => updK i (.tr d') ρ2 [] (P e)))) := ⟨fun h => r_methN h⟩
theorem r_compO {vs : List Nat} {it : M (List D)} {f : D → M Unit} {t : M Bool} {m : M Sl} (h : Sat (it ρ) fun ds ρ0 => limK ds (wipQ vs ρ0 fun ρw => Sat (compOL vs f t m ds ρw) fun l ρ' => unwQ vs ρ0 ρ' (PA (.tr (.lst l))))) : Sat (compO vs it f t m ρ) PA := by
  unfold compO
  rw [Sat_bind]
  refine Sat_mono h fun ds ρ0 q => ?_
  obtain ⟨q1, q2⟩ := q
  rw [Sat_ite]
  refine ⟨q1, ?_⟩
  have q2 : Sat (compOL vs f t m ds (wipeS vs ρ0)) _ := q2
  cases e : compOL vs f t m ds (wipeS vs ρ0) with
  | ok l ρ' => rw [e] at q2; exact q2
  | ex c l r => rw [e] at q2; exact q2.elim
  | no => rw [e] at q2; exact q2
instance i_r_compO {vs : List Nat} {it : M (List D)} {f : D → M Unit} {t : M Bool} {m : M Sl} : Step (Sat (compO vs it f t m ρ) PA) (Sat (it ρ) fun ds ρ0 => limK ds (wipQ vs ρ0 fun ρw => Sat (compOL vs f t m ds ρw) fun l ρ' => unwQ vs ρ0 ρ' (PA (.tr (.lst l))))) := ⟨fun h => r_compO h⟩
theorem compOL_map {α : Type} {enc : α → D} {vs : List Nat} {f : D → M Unit} {t : M Bool} {m : M Sl} (g : α → D) : ∀ (as : List α), (∀ a ∈ as, Sat (f (enc a) ρ) fun _ ρ1 => Sat (t ρ1) fun k ρ2 => k = true ∧ Sat (m ρ2) fun s ρ3 => s.tree = some (g a) ∧ wipeS vs ρ3 = ρ) → Sat (compOL vs f t m (as.map enc) ρ) fun l ρ' => l = as.map g ∧ ρ' = ρ
  | [], h => ⟨rfl, rfl⟩
  | a :: as, h => by
    rw [List.map_cons]
    unfold compOL
    rw [Sat_bind]
    refine Sat_mono (h a List.mem_cons_self) fun _ ρ1 h1 => ?_
    rw [Sat_bind]
    refine Sat_mono h1 fun k ρ2 h2 => ?_
    obtain ⟨rfl, h2⟩ := h2
    rw [if_pos rfl, Sat_bind]
    refine Sat_mono h2 fun s ρ3 h3 => ?_
    obtain ⟨es, ew⟩ := h3
    rw [es]
    dsimp only
    rw [Sat_bind]
    show Sat (bindM (compOL vs f t m (as.map enc)) (fun xs => retM (g a :: xs)) (wipeS vs ρ3)) _
    rw [ew, Sat_bind]
    refine Sat_mono (compOL_map g as fun b hb => h b (List.mem_cons_of_mem _ hb)) fun l ρ' q => ?_
    obtain ⟨rfl, rfl⟩ := q
    exact ⟨rfl, rfl⟩
end
end Ev
namespace Ev
open PySem PySem.Spec PyProof.Rows L2
/-! ## a tuple given back with a list of one's own in it; looks at what owns its lists -/
section
variable {X : Cx} {G : Glb} {β : Bt} {W : WX} {σ : L2.St} {H H' : Hp} {F F' : Addr → Prop} {ρ ρ' : List Sl} {L L' : Nat → List Addr} {e b : Expr} {pos : Pos} {i x1 : Nat} {m : M D}
def aTupE (m : M D) (i : Nat) : M Sl := bindM m fun d ρ => match ρ[i]? with
  | some (.ow (.lst l)) => if (D.own0 d && D.own0s l) = true then .ok (.tr (.tup [d, .lst l])) (ρ.set i .emp) else .no
  | _ => .no
theorem sa_tupE (ha : PE X e (tE G β W m)) (hb : PE X b (tVar i)) (hs : starEach [e, b] X.env = (false, eval e X.env) :: starEach [b] X.env := by rfl) (hs2 : starEach [b] X.env = (false, eval b X.env) :: starEach [] X.env := by rfl) :
    PE X (.Tuple [e, b] x1 pos) (tA G β W (aTupE m i)) := by
  refine PE.imp (pe_tup (pa_cons ha (pa_cons hb pa_nil hs2) hs)) fun σ H Q q => ?_
  obtain ⟨F, ρ, L, I, q⟩ := q
  refine tG_bindA I q fun d ρ1 v H1 F1 L1 I1 r t q1 => ?_
  cases e1 : ρ1[i]? with
  | none => rw [e1] at q1; exact q1.elim
  | some s =>
    have hi : i < ρ1.length := (List.getElem?_eq_some_iff.mp e1).1
    rw [e1] at q1
    cases s with
    | emp => exact q1.elim
    | sh d => exact q1.elim
    | io d => exact q1.elim
    | tr d => exact q1.elim
    | ow d' =>
      cases d' with
      | lst l =>
        dsimp only at q1
        split at q1
        · rename_i ho
          rw [Bool.and_eq_true] at ho
          obtain ⟨a, el, ev, ys, ea, rs⟩ := I1.slot i _ e1
          have ha : a ∈ L1 i := by rw [el]; exact List.mem_cons_self
          have I2 := I1.setEmp (o := some (.ref a)) hi
          have es : σ.set i (some (.ref a)) = σ := by rw [← ev]; exact set_getD (by rw [I1.len]; exact hi)
          rw [es] at I2
          refine ⟨.ref a, getD_some ev, (show 2 ≤ sizeLine by decide), fun p hp => ?_⟩
          have x1 : Ext H1 F1 (upd H1 p (.tup [v, .ref a])) F1 := Ext.one hp
          refine q1 (.ref p) _ F1 _ [a] (I2.new hp) ⟨⟨.ref p, rfl, ?_⟩, by simp, fun c hc j hj => ?_, fun c hc => ?_, fun c hc => ?_⟩ ?_
          · unfold DT
            refine ⟨p, [v, .ref a], rfl, upd_same, ?_⟩
            unfold DTs
            refine ⟨v, [.ref a], [], [a], rfl, rfl, RV.dt d v ho.1 (r.ext x1), ?_⟩
            unfold DTs
            refine ⟨.ref a, [], [a], [], rfl, rfl, ?_, ?_⟩
            · unfold DT
              exact ⟨a, ys, [], rfl, upd_keep hp _ _ ea, rfl, RVs.dts l ys ho.2 (rs.ext x1)⟩
            · unfold DTs
              exact ⟨rfl, rfl⟩
          · rw [List.mem_singleton.mp hc] at hj
            by_cases q' : j = i
            · subst q'; rw [setL_same] at hj; cases hj
            · rw [setL_ne q'] at hj; exact q' (I1.apart j i a hj ha)
          · rw [List.mem_singleton.mp hc]; exact I1.nF i a ha
          · rw [List.mem_singleton.mp hc]; exact ⟨_, upd_keep hp _ _ ea, rfl⟩
          · refine ⟨fun c u _ => upd_keep hp c u, fun c u _ => upd_keep hp c u, fun c u e => ⟨u, upd_keep hp c u e⟩, fun _ f => f, fun _ f => .inl f, fun c o => .inl ?_⟩
            rcases o with o | o
            · exact (own_setL o).elim id fun z => nomatch z
            · rw [List.mem_singleton.mp o]; exact ⟨i, ha⟩
        · exact q1.elim
      | _ => exact q1.elim
/-- no list and no dict within, nor a tuple -/
def D.flat0 : D → Bool
  | .non => true
  | .bl _ => true
  | .int _ => true
  | .str _ => true
  | _ => false
theorem RV.flat0 {d : D} {v : V} (h : D.flat0 d = true) (r : RV G H F d v) : RV G H' F' d v := by
  cases d with
  | non => unfold RV at *; exact r
  | bl b => unfold RV at *; exact r
  | int i => unfold RV at *; exact r
  | str x => unfold RV at *; exact r
  | _ => cases h
def mOp1T (g : List D → Option D) (i : Nat) : M D := fun ρ => match ρ[i]? with
  | some (.tr d) => (match g [d] with | some x => if D.flat0 x = true then .ok x ρ else .no | none => .no)
  | _ => mOpN g [.pk i] ρ
theorem op1T_imp {r : List V → Hp → VK → Prop} {g : List D → Option D} {Q : VK} (ok : OkN G r g) (h : tE G β W (mOp1T g i) σ H Q) : tCB r (tOs G β W [.pk i]) σ H Q := by
  obtain ⟨F, ρ, L, I, h⟩ := h
  unfold mOp1T at h
  split at h
  · rename_i d e1
    cases eg : g [d] with
    | none => rw [eg] at h; exact h.elim
    | some x =>
      rw [eg] at h
      dsimp only at h
      split at h
      · rename_i hf
        obtain ⟨v, ev, dt⟩ := I.slot i _ e1
        refine ⟨v, getD_some ev, ok [v] [d] x H (withL F (L i)) Q ⟨.inl (DT.rv (fun _ f => .inl f) d v (L i) (fun a ha => .inr ha) dt), rfl⟩ eg fun v' H' F' ext rv => ?_⟩
        exact h v' H' F L (I.grow ext.keep (fun _ f => f) (fun _ f => .inl f) fun a f => let ⟨u, eu⟩ := I.aF a f; ⟨u, ext.keep a u eu⟩) (RV.flat0 hf rv) (Stp.grow ext.keep (fun _ f => f) fun _ f => .inl f)
      · exact h.elim
  · exact opN_imp ok ⟨F, ρ, L, I, h⟩
theorem se_callB1T {x : Str} {id : String} {r : List V → Hp → VK → Prop} {g : List D → Option D} {p : Pos} (hc : CallR X (.builtin id) r) (ok : OkN G r g) (hm : X.mg x = none) (hv : bootBuiltins x = some (.builtin id)) (ha : PA X [e] (tOs G β W [.pk i]))
    (hg : Gl X x := by rfl) (hn : x ≠ "__name__" := by decide) (hdb : (x == ("__debug__" : Str)) = false := by decide)
    (he : starEach [e] X.env = (false, eval e X.env) :: starEach [] X.env := by rfl) (hpl : (backTo pos (starEach [] X.env)).any (·.1) = false := by rfl) : PE X (.Call (.Name x p) [e] [] pos) (tE G β W (mOp1T g i)) :=
  PE.imp (pe_callB hc hg hm hv ha hn hdb he hpl) fun _ _ _ q => op1T_imp ok q
end
section
variable {X : Cx} {G : Glb} {β : Bt} {W : WX} {i : Nat} {o b e : Expr} {es : List Expr} {apos cpos ipos : Pos} {mk m : M D} {ms : M (List D)}
theorem tG_mono {α γ : Type} {Rel : Hp → (Addr → Prop) → α → γ → Prop} {m : M α} {σ : L2.St} {H : Hp} {Q Q' : γ → Hp → Prop} (h : tG G β W Rel m σ H Q) (k : ∀ c H, Q c H → Q' c H) : tG G β W Rel m σ H Q' :=
  let ⟨F, ρ, L, I, q⟩ := h
  ⟨F, ρ, L, I, q.imp k⟩
theorem rIx_mono {K : PySem.W.Frag} {x y : V} {H : Hp} {Q Q' : VK} (h : rIx K x y H Q) (k : ∀ v H, Q v H → Q' v H) : rIx K x y H Q' := by
  rcases h with ⟨a, xs, n, v, e1, e2, e3, e4, q⟩ | ⟨a, xs, n, v, e1, e2, e3, e4, q⟩ | h
  · exact .inl ⟨a, xs, n, v, e1, e2, e3, e4, k _ _ q⟩
  · exact .inr (.inl ⟨a, xs, n, v, e1, e2, e3, e4, k _ _ q⟩)
  · refine .inr (.inr ?_)
    unfold rIxS at *
    obtain ⟨z, n, c, e1, e2, e3, e4, q⟩ := h
    exact ⟨z, n, c, e1, e2, e3, e4, k _ _ q⟩
/-- x[k].clear() -/
theorem se_clearN (ho : PE X o (tVar i)) (hb : PE X b (tE G β W mk)) (hx : PlainIx b := by exact fun _ _ => rfl)
    (hbase : attributeBase (.Subscript o b ipos) "clear" X.env (eval (.Subscript o b ipos) X.env) = eval (.Subscript o b ipos) X.env := by rfl) (hline : (apos.endLine == cpos.line) = true := by rfl) :
    PE X (.Call (.Attribute (.Subscript o b ipos) "clear" apos) [] [] cpos) (tE G β W (mMethN i mk (mEach []) fClear)) :=
  PE.imp (pe_bm0 PySem.F.plainAttrs_list PySem.F.slot_list_clear PySem.F.type_list_clear mt_clear (pe_ix ix_seq ho hb hx) hbase hline) fun σ H Q q => by
    obtain ⟨v, ev, q1⟩ := methN_imp (K := X.K) ok_clear q
    exact ⟨v, ev, tG_mono q1 fun k H1 q2 => rIx_mono q2 fun w H2 ⟨ty, F, ρ, L, I, q3⟩ => ⟨ty, q3 [] H2 F L I RVs.nil (Stp.refl _ _ _)⟩⟩
end
/-! ## in the plain programs -/
def flatK (x : D) (A : Prop) : Prop := D.flat0 x = true ∧ A
def lstK (s : Sl) (K : List D → Prop) : Prop := match s with
  | .ow (.lst l) => K l
  | _ => False
def ownQ (d : D) (l : List D) (A : Prop) : Prop := (D.own0 d && D.own0s l) = true ∧ A
section
variable {ρ : List Sl} {P : D → List Sl → Prop} {PA : Sl → List Sl → Prop} {A : Prop} {s : Sl} {i : Nat} {d : D}
theorem k_flatS {x : Str} (h : A) : flatK (.str x) A := ⟨rfl, h⟩
instance i_k_flatS {x : Str} : Step (flatK (.str x) A) (A) := ⟨fun h => k_flatS h⟩
theorem k_flatB {x : Bool} (h : A) : flatK (.bl x) A := ⟨rfl, h⟩
instance i_k_flatB {x : Bool} : Step (flatK (.bl x) A) (A) := ⟨fun h => k_flatB h⟩
theorem k_flatI {x : Int} (h : A) : flatK (.int x) A := ⟨rfl, h⟩
instance i_k_flatI {x : Int} : Step (flatK (.int x) A) (A) := ⟨fun h => k_flatI h⟩
theorem k_lst {l : List D} {K : List D → Prop} (h : K l) : lstK (.ow (.lst l)) K := h
instance i_k_lst {l : List D} {K : List D → Prop} : Step (lstK (.ow (.lst l)) K) (K l) := ⟨fun h => k_lst h⟩
theorem r_op1T {g : List D → Option D} (h : slQ ρ i fun s => trK s fun d => On (g [d]) fun x => flatK x (P x ρ)) : Sat (mOp1T g i ρ) P := by
  obtain ⟨s, e, h⟩ := On_ex h
  unfold mOp1T
  rw [e]
  cases s with
  | tr d =>
    obtain ⟨x, ex, hf, h⟩ := On_ex (show On (g [d]) fun x => flatK x (P x ρ) from h)
    dsimp only
    rw [ex]
    dsimp only
    rw [if_pos hf]
    exact h
  | _ => exact h.elim
instance i_r_op1T {g : List D → Option D} : Step (Sat (mOp1T g i ρ) P) (slQ ρ i fun s => trK s fun d => On (g [d]) fun x => flatK x (P x ρ)) := ⟨fun h => r_op1T h⟩
theorem r_tupE {m : M D} (h : Sat (m ρ) fun d ρ1 => slQ ρ1 i fun s => lstK s fun l => ownQ d l (updK i .emp ρ1 [] (PA (.tr (.tup [d, .lst l]))))) : Sat (aTupE m i ρ) PA := by
  unfold aTupE
  rw [Sat_bind]
  refine Sat_mono h fun d ρ1 h => ?_
  obtain ⟨s, e, h⟩ := On_ex h
  rw [e]
  cases s with
  | ow d' =>
    cases d' with
    | lst l =>
      obtain ⟨ho, h⟩ := (show ownQ d l _ from h)
      dsimp only
      rw [if_pos ho]
      exact h
    | _ => exact h.elim
  | _ => exact h.elim
instance i_r_tupE {m : M D} : Step (Sat (aTupE m i ρ) PA) (Sat (m ρ) fun d ρ1 => slQ ρ1 i fun s => lstK s fun l => ownQ d l (updK i .emp ρ1 [] (PA (.tr (.tup [d, .lst l]))))) := ⟨fun h => r_tupE h⟩
end
end Ev
namespace Ev
open PySem PySem.Spec PyProof.Rows L2
local macro_rules | `(tactic| walk_at "ev go") => `(tactic| (repeat (first | (with_reducible refine Step.step ?_) | ((with_reducible refine r_altT ?_ ?_); (focus ((rfl); done))) | ((with_reducible refine r_altF ?_ ?_); (focus ((rfl); done))) | ((with_reducible refine r_call ?_ ?_); (focus ((decide); done))) | ((with_reducible refine r_callT ?_ ?_); (focus ((decide); done))) | ((with_reducible refine x_call ?_ ?_); (focus ((decide); done))) | ((with_reducible refine v_isET ?_ ?_ ?_); (focus ((rfl); done)); (focus ((rfl); done))) | ((with_reducible refine v_isEF ?_ ?_ ?_); (focus ((rfl); done)); (focus ((rfl); done))) | ((with_reducible refine v_isEsT ?_ ?_ ?_); (focus ((rfl); done)); (focus ((rfl); done))) | ((with_reducible refine v_isEsF ?_ ?_ ?_); (focus ((rfl); done)); (focus ((rfl); done))) | ((with_reducible refine k_psh ?_ ?_); (focus ((simp <;> omega); done))) | ((with_reducible refine k_pow ?_ ?_); (focus ((simp <;> omega); done))) | ((with_reducible refine k_ptr ?_ ?_); (focus ((simp <;> omega); done))) | ((with_reducible refine r_name ?_ ?_); (focus ((simp <;> omega); done))) | ((with_reducible refine k_lim ?_ ?_); (focus ((simp [rngD_len] <;> omega); done))) | ((with_reducible refine v_mod ?_ ?_); (focus ((first | assumption | decide | omega); done))) | ((with_reducible refine v_div ?_ ?_ ?_); (focus ((first | assumption | decide | omega); done)); (focus ((decide +kernel); done))) | ((with_reducible refine v_mul ?_ ?_); (focus ((decide +kernel); done))) | ((with_reducible refine v_mulS ?_ ?_ ?_ ?_ ?_); (focus ((omega); done)); (focus ((omega); done)); (focus ((omega); done)); (focus ((omega); done))) | ((with_reducible refine v_divB ?_ ?_ ?_); (focus ((omega); done)); (focus ((omega); done))) | ((with_reducible refine v_rng1 ?_ ?_ ?_); (focus ((omega); done)); (focus ((omega); done))) | ((with_reducible refine v_rng2 ?_ ?_ ?_ ?_ ?_); (focus ((omega); done)); (focus ((omega); done)); (focus ((omega); done)); (focus ((omega); done))) | ((with_reducible refine v_pow ?_ ?_); (focus ((decide); done))) | ((with_reducible refine v_app ?_ ?_); (focus ((simp <;> omega); done))) | with_reducible refine x_sat ?_)))
local macro_rules | `(tactic| walk_at "ev start") => `(tactic| ((with_reducible refine r_runF ?_); simp only [List.cons_append, List.nil_append, List.replicate]))
local macro_rules | `(tactic| walk_at "ev startx") => `(tactic| ((with_reducible refine x_runF ?_); simp only [List.cons_append, List.nil_append, List.replicate]))
theorem lim_pos {n : Nat} (h : n ≤ 1000000) : n ≤ LIM := Nat.le_trans h (by decide)
theorem ixA_lst {l : List D} {i : Int} : dIxA (.lst l) (.int i) = atI l i := rfl
theorem ixA_tup {l : List D} {i : Int} : dIxA (.tup l) (.int i) = atI l i := rfl
theorem ixA_scr {l : List Int} {i : Int} : dIxA (.scr l) (.int i) = (atI l i).map .int := rfl
theorem atI_nat {α : Type} {l : List α} {n : Nat} : atI l (n : Int) = l[n]? := by
  unfold atI ixN
  rw [if_pos (by omega)]
  by_cases h : n < l.length
  · rw [if_pos (by omega)]
    rfl
  · rw [if_neg (by omega), List.getElem?_eq_none (by omega)]
    rfl
theorem atI_of {α : Type} {l : List α} {i : Int} {a : α} (h0 : 0 ≤ i) (h : l[i.toNat]? = some a) : atI l i = some a := by
  have : i = ((i.toNat : Nat) : Int) := by omega
  rw [this, atI_nat]
  exact h
theorem compL_pure {vs : List Nat} {f : D → M Unit} {t : M Bool} {m : M D} {ρ : List Sl} (g : D → D) : ∀ (ds : List D), (∀ d ∈ ds, Sat (f d ρ) fun _ ρ1 => Sat (t ρ1) fun k ρ2 => k = true ∧ Sat (m ρ2) fun x ρ3 => x = g d ∧ wipeS vs ρ3 = ρ) → Sat (compL vs f t m ds ρ) fun l ρ' => l = ds.map g ∧ ρ' = ρ := by
  intro ds h
  have q := compL_inv (vs := vs) (f := f) (t := t) (m := m) (P := fun l ρ' => l = ds.map g ∧ ρ' = ρ) (fun ds' xs ρ' => ρ' = ρ ∧ ∃ pre, ds = pre ++ ds' ∧ xs = pre.map g) ?_ ?_ ds [] ρ ⟨rfl, [], rfl, rfl⟩
  · exact q
  · rintro d ds' xs ρ' ⟨rfl, pre, e, rfl⟩
    refine Sat_mono (h d (by rw [e]; simp)) fun _ ρ1 h1 => Sat_mono h1 fun k ρ2 h2 => ?_
    obtain ⟨rfl, h2⟩ := h2
    rw [if_pos rfl]
    refine Sat_mono h2 fun x ρ3 h3 => ?_
    obtain ⟨rfl, h3⟩ := h3
    exact ⟨h3, pre ++ [d], by rw [e]; simp, by simp⟩
  · rintro xs ρ' ⟨rfl, pre, e, rfl⟩
    rw [List.append_nil] at e
    rw [e]
    exact ⟨rfl, rfl⟩
theorem rngD_eq : ∀ (n : Nat) (a : Int), rngD a n = (List.range n).map fun i => D.int (a + (i : Nat))
  | 0, a => rfl
  | n + 1, a => by
    rw [rngD, List.range_succ_eq_map, List.map_cons, List.map_map, rngD_eq n]
    congr 1
    · simp
    · apply List.map_congr_left
      intro i _
      show D.int (a + 1 + (i : Nat)) = D.int (a + ((i + 1 : Nat) : Int))
      congr 1
      omega
theorem rng2_ok {i j : Int} (h1 : j < 4611686018427387904) (h2 : -4611686018427387904 ≤ j) (h3 : i < 4611686018427387904) (h4 : -4611686018427387904 ≤ i) : rng2 [.int i, .int j] = some (rngD i (j - i).toNat) := if_pos ⟨⟨h1, h2⟩, h3, h4⟩
theorem rng1_ok {j : Int} (h1 : j < 4611686018427387904) (h2 : -4611686018427387904 ≤ j) : rng1 [.int j] = some (rngD 0 j.toNat) := if_pos ⟨h1, h2⟩
theorem ints_of (ns : List Int) : D.ints (ns.map D.int) = some ns := by
  induction ns with
  | nil => rfl
  | cons n ns ih => show (D.ints (ns.map D.int)).map (n :: ·) = _; rw [ih]; rfl
theorem v_sum {ns : List Int} {K : D → Prop} (k : K (.int ns.sum)) : On (dSumA [.lst (ns.map D.int)]) K := by
  refine k_on ?_ k
  show (D.ints (ns.map D.int)).bind _ = _
  rw [ints_of]
  rfl
theorem v_sumT {ns : List Int} {K : D → Prop} (k : K (.int ns.sum)) : On (dSumA [.tup (ns.map D.int)]) K := by
  refine k_on ?_ k
  show (D.ints (ns.map D.int)).map _ = _
  rw [ints_of]
  rfl
theorem v_ixI {ns : List Int} {i : Int} {K : D → Prop} (h0 : 0 ≤ i) (h1 : i < ns.length) (k : K (.int (ns.getD i.toNat 0))) : On (dIxA (.lst (ns.map D.int)) (.int i)) K := by
  refine k_on ?_ k
  rw [ixA_lst, atI_of (a := D.int (ns.getD i.toNat 0)) h0]
  rw [List.getElem?_map, List.getD_eq_getElem?_getD, List.getElem?_eq_getElem (show i.toNat < ns.length by omega)]
  rfl
/-! data that can be compared, by depth -/
def Pl (k : Nat) (d : D) : Prop := (D.py d).canLay0 = true ∧ (D.py d).depth ≤ k
theorem Pl.plain {k : Nat} {d : D} (h : Pl k d) (hk : k ≤ 64 := by decide) : D.plain d = true := by
  unfold D.plain SeqAt.shaped
  rw [h.1]
  simp only [Bool.true_and, decide_eq_true_eq]
  exact Nat.le_trans h.2 hk
theorem Pl.mono {k l : Nat} {d : D} (h : Pl k d) (hk : k ≤ l) : Pl l d := ⟨h.1, Nat.le_trans h.2 hk⟩
theorem Pl.int {k : Nat} {i : Int} : Pl k (.int i) := ⟨rfl, Nat.zero_le _⟩
theorem Pl.bl {k : Nat} {i : Bool} : Pl k (.bl i) := ⟨rfl, Nat.zero_le _⟩
theorem Pl.non {k : Nat} : Pl k .non := ⟨rfl, Nat.zero_le _⟩
theorem pls_of {k : Nat} : ∀ {l : List D}, (∀ x ∈ l, Pl k x) → PyData.canLayAll0 (D.pys l) = true ∧ PyData.depthAll (D.pys l) ≤ k
  | [], _ => ⟨rfl, Nat.zero_le _⟩
  | d :: l, h => by
    obtain ⟨h1, h2⟩ := h d List.mem_cons_self
    obtain ⟨q1, q2⟩ := pls_of fun x hx => h x (List.mem_cons_of_mem _ hx)
    rw [D.pys]
    refine ⟨?_, ?_⟩
    · rw [PyData.canLayAll0, h1, q1]; rfl
    · rw [PyData.depthAll]; exact Nat.max_le.mpr ⟨h2, q2⟩
theorem Pl.lst {k : Nat} {l : List D} (h : ∀ x ∈ l, Pl k x) : Pl (k + 1) (.lst l) := by
  obtain ⟨h1, h2⟩ := pls_of h
  unfold Pl
  rw [D.py]
  exact ⟨h1, Nat.succ_le_succ h2⟩
theorem Pl.tup {k : Nat} {l : List D} (h : ∀ x ∈ l, Pl k x) : Pl (k + 1) (.tup l) := by
  obtain ⟨h1, h2⟩ := pls_of h
  unfold Pl
  rw [D.py]
  exact ⟨h1, Nat.succ_le_succ h2⟩
theorem Pl.ints {ns : List Int} : Pl 1 (.lst (ns.map D.int)) := Pl.lst fun x hx => by
  obtain ⟨n, _, rfl⟩ := List.mem_map.mp hx
  exact Pl.int
theorem Pl.intsT {ns : List Int} : Pl 1 (.tup (ns.map D.int)) := Pl.tup fun x hx => by
  obtain ⟨n, _, rfl⟩ := List.mem_map.mp hx
  exact Pl.int
theorem v_eq {a b : D} {k : Nat} {K : D → Prop} (ha : Pl k a) (hb : Pl k b) (hk : k ≤ 64) (q : K (.bl (dEqB a b))) : On (dEq a b) K := k_on (if_pos ⟨ha.plain hk, hb.plain hk⟩) q
theorem v_ne {a b : D} {k : Nat} {K : D → Prop} (ha : Pl k a) (hb : Pl k b) (hk : k ≤ 64) (q : K (.bl (!dEqB a b))) : On (dNe a b) K := k_on (if_pos ⟨ha.plain hk, hb.plain hk⟩) q
mutual
theorem eqv_self : ∀ d : PyData, d.canLay0 = true → PyData.eqv d d = true
  | .none, _ => rfl
  | .bool b, _ => by simp [PyData.eqv]
  | .int b, _ => by simp [PyData.eqv]
  | .str b, _ => by simp [PyData.eqv]
  | .list l, h => by rw [PyData.eqv]; exact eqvs_self l (by rw [PyData.canLay0] at h; exact h)
  | .tuple l, h => by rw [PyData.eqv]; exact eqvs_self l (by rw [PyData.canLay0] at h; exact h)
  | .dict _, h => by rw [PyData.canLay0] at h; cases h
theorem eqvs_self : ∀ l : List PyData, PyData.canLayAll0 l = true → PyData.eqvAll l l = true
  | [], _ => by rw [PyData.eqvAll]
  | d :: l, h => by
    rw [PyData.canLayAll0, Bool.and_eq_true] at h
    rw [PyData.eqvAll, eqv_self d h.1, eqvs_self l h.2]
    rfl
end
theorem eqB_self {k : Nat} {d : D} (h : Pl k d) : dEqB d d = true := eqv_self _ h.1
theorem eqB_ints {ns ms : List Int} : dEqB (.lst (ns.map D.int)) (.lst (ms.map D.int)) = decide (ns = ms) := by
  unfold dEqB
  rw [D.py, D.py, PyData.eqv]
  induction ns generalizing ms with
  | nil => cases ms with
    | nil => rfl
    | cons m ms => rfl
  | cons n ns ih => cases ms with
    | nil => rfl
    | cons m ms =>
      rw [List.map_cons, List.map_cons, D.pys, D.pys, PyData.eqvAll, ih, D.py, D.py, PyData.eqv]
      by_cases h : n = m <;> simp [h]
theorem atI_map {ns : List Int} {i : Int} (h0 : 0 ≤ i) (h1 : i < ns.length) : atI (ns.map D.int) i = some (.int (ns.getD i.toNat 0)) := by
  rw [atI_of h0]
  rw [List.getElem?_map, List.getD_eq_getElem?_getD, List.getElem?_eq_getElem (show i.toNat < ns.length by omega)]
  rfl
theorem erase_map {α β : Type} (f : α → β) : ∀ (l : List α) (j : Nat), (l.map f).eraseIdx j = (l.eraseIdx j).map f
  | [], _ => rfl
  | x :: l, 0 => rfl
  | x :: l, j + 1 => by
    show f x :: (l.map f).eraseIdx j = f x :: (l.eraseIdx j).map f
    rw [erase_map f l j]
/-- xs.pop(i) of ints -/
theorem v_popAt {ns : List Int} {i : Int} {K : D × D → Prop} (h0 : 0 ≤ i) (h1 : i < ns.length) (hl : ns.length ≤ 1000000) (k : K (.lst ((ns.eraseIdx i.toNat).map D.int), .int (ns.getD i.toNat 0))) : On (fPopAt [.int i] (.lst (ns.map D.int))) K := by
  refine k_on ?_ k
  show (if (ns.map D.int).length ≤ LIM then (ixN (ns.map D.int).length i).bind fun k => ((ns.map D.int)[k]?).map fun x => (D.lst ((ns.map D.int).eraseIdx k), x) else none) = _
  rw [if_pos (by rw [List.length_map]; exact Nat.le_trans hl (by decide))]
  unfold ixN
  rw [if_pos h0, if_pos (by rw [List.length_map]; exact h1)]
  show ((ns.map D.int)[i.toNat]?).map _ = _
  rw [List.getElem?_map, List.getD_eq_getElem?_getD, List.getElem?_eq_getElem (show i.toNat < ns.length by omega)]
  simp [erase_map]
theorem erase_perm {α : Type} : ∀ (l : List α) (j : Nat) (h : j < l.length), (l[j] :: l.eraseIdx j).Perm l
  | x :: l, 0, _ => .refl _
  | x :: l, j + 1, h => by
    have h' : j < l.length := Nat.lt_of_succ_lt_succ h
    have q := erase_perm l j h'
    show (l[j] :: x :: l.eraseIdx j).Perm (x :: l)
    exact (List.Perm.swap x _ _).trans (q.cons x)

theorem draw_at (a b c m : Int) (h : 0 < m) (hm : m < 10000000000000) (hb : 0 ≤ b) (hc : 0 ≤ c) (hcc : c ≤ 10000000000000) (hbb : a ≠ 1 → b < 10000000000000) : SatF (S_draw [.io (.lst [.int a, .int b, .int c]), .sh (.int m)]) fun s o => ∃ r b', s = .sh (.int r) ∧ (0 ≤ r ∧ r < m) ∧ (0 ≤ b' ∧ (a ≠ 1 → b' < 10000000000000)) ∧ o = [.io (.lst [.int a, .int b', .int (c + 1)]), .emp] := by
  unfold S_draw
  walk_at "ev start"
  unfold b_draw
  walk_at "ev go"
  refine k_ifd (fun ha => ?_) (fun ha => ?_)
  · walk_at "ev go"
    exact ⟨_, _, rfl, ⟨Int.emod_nonneg _ (by omega), Int.emod_lt_of_pos _ h⟩, ⟨Int.ediv_nonneg hb (by omega), fun z => absurd ha z⟩, rfl⟩
  · have hb2 := hbb ha
    walk_at "ev go"
    exact ⟨_, _, rfl, ⟨Int.emod_nonneg _ (by omega), Int.emod_lt_of_pos _ h⟩, ⟨hb, fun _ => hb2⟩, rfl⟩
def Pen (n : Nat) (d : D) : Prop := ∃ a b c : Int, d = .lst [.int a, .int b, .int c] ∧ 0 ≤ b ∧ 0 ≤ c ∧ c ≤ n ∧ (a ≠ 1 → b < 10000000000000)
theorem Pen.mono {n n' : Nat} {d : D} (h : Pen n d) (l : n ≤ n') : Pen n' d := by
  obtain ⟨a, b, c, e, h1, h2, h3, h4⟩ := h
  exact ⟨a, b, c, e, h1, h2, by omega, h4⟩
theorem draw_ok {n : Nat} {p : D} {m : Int} (hp : Pen n p) (hn : n ≤ 1000000000000) (h0 : 0 < m) (hm : m < 10000000000000) : SatF (S_draw [.io p, .sh (.int m)]) fun s o => ∃ r p', s = .sh (.int r) ∧ 0 ≤ r ∧ r < m ∧ Pen (n + 1) p' ∧ o = [.io p', .emp] := by
  obtain ⟨a, b, c, rfl, h1, h2, h3, h4⟩ := hp
  refine SatF_mono (draw_at a b c m h0 hm h1 h2 (by omega) h4) fun s o q => ?_
  obtain ⟨r, b', rfl, ⟨k1, k2⟩, ⟨k3, k4⟩, rfl⟩ := q
  exact ⟨r, _, rfl, k1, k2, ⟨a, b', c + 1, rfl, k3, by omega, by omega, k4⟩, rfl⟩

theorem v_ixS {l : List Int} {i : Int} {K : D → Prop} (h0 : 0 ≤ i) (h1 : i < l.length) (k : K (.int (l.getD i.toNat 0))) : On (dIxA (.scr l) (.int i)) K := by
  refine k_on ?_ k
  rw [ixA_scr, atI_of (a := l.getD i.toNat 0) h0 ?_]
  · rfl
  · rw [List.getD_eq_getElem?_getD, List.getElem?_eq_getElem (show i.toNat < l.length by omega)]
    rfl
theorem pen_ok (ns : List Int) (k : Int) (h0 : 0 ≤ k) (h1 : k < 1000000) : SatF (S_pen [.sh (.scr ns), .sh (.int k)]) fun s o => ∃ p, s = .ow p ∧ Pen 0 p ∧ o = [.emp, .emp] := by
  unfold S_pen
  walk_at "ev start"
  unfold b_pen
  walk_at "ev go"
  refine k_ifd (fun ha => ?_) (fun ha => ?_)
  · walk_at "ev go"
    refine v_ixS h0 (by split at ha <;> omega) ?_
    walk_at "ev go"
    refine k_ifd (fun hz => ?_) (fun hz => ?_)
    · walk_at "ev go"
      exact ⟨_, rfl, ⟨_, _, _, rfl, by split <;> omega, by decide, by decide, fun z => absurd rfl z⟩, rfl⟩
    · walk_at "ev go"
      exact ⟨_, rfl, ⟨_, _, _, rfl, by omega, by decide, by decide, fun _ => by omega⟩, rfl⟩
  · walk_at "ev go"
    refine k_ifd (fun hb => ?_) (fun hb => ?_)
    · walk_at "ev go"
      refine v_ixS (Int.emod_nonneg _ (by split <;> omega)) ?_ ?_
      · have q1 : (if 63 < (ns.length : Int) then (63 : Int) else (ns.length : Int)) ≤ ns.length := by split <;> omega
        have q2 : 0 < (if 63 < (ns.length : Int) then (63 : Int) else (ns.length : Int)) := by split <;> omega
        exact Int.lt_of_lt_of_le (Int.emod_lt_of_pos k q2) q1
      walk_at "ev go"
      refine k_ifd (fun hz => ?_) (fun hz => ?_)
      · walk_at "ev go"
        exact ⟨_, rfl, ⟨_, _, _, rfl, by split <;> omega, by decide, by decide, fun z => absurd rfl z⟩, rfl⟩
      · walk_at "ev go"
        exact ⟨_, rfl, ⟨_, _, _, rfl, by omega, by decide, by decide, fun _ => by omega⟩, rfl⟩
    · walk_at "ev go"
      refine k_ifd (fun hz => ?_) (fun hz => ?_)
      · walk_at "ev go"
        exact ⟨_, rfl, ⟨_, _, _, rfl, by split <;> omega, by decide, by decide, fun z => absurd rfl z⟩, rfl⟩
      · walk_at "ev go"
        exact ⟨_, rfl, ⟨_, _, _, rfl, by omega, by decide, by decide, fun _ => by omega⟩, rfl⟩

/-- a comprehension that keeps no item out: what each turn keeps and gives -/
theorem compL_st {vs : List Nat} {f : D → M Unit} {t : M Bool} {m : M D} (J : Nat → List Sl → Prop) (g : Nat → D → Prop) : ∀ (ds : List D) (k : Nat) (ρ : List Sl), J k ρ →
    (∀ (i : Nat) (d : D) (ρ : List Sl), ds[i]? = some d → J (k + i) ρ → Sat (f d ρ) fun _ ρ1 => Sat (t ρ1) fun c ρ2 => c = true ∧ Sat (m ρ2) fun x ρ3 => g (k + i) x ∧ J (k + i + 1) (wipeS vs ρ3)) →
    Sat (compL vs f t m ds ρ) fun l ρ' => (l.length = ds.length ∧ ∀ i x, l[i]? = some x → g (k + i) x) ∧ J (k + ds.length) ρ'
  | [], k, ρ, h, _ => ⟨⟨rfl, fun i x e => by simp at e⟩, h⟩
  | d :: ds, k, ρ, h, st => by
    show Sat (bindM (f d) _ ρ) _
    rw [Sat_bind]
    refine Sat_mono (st 0 d ρ rfl h) fun u ρ1 h1 => ?_
    rw [Sat_bind]
    refine Sat_mono h1 fun c ρ2 h2 => ?_
    obtain ⟨rfl, h2⟩ := h2
    rw [if_pos rfl, Sat_bind]
    refine Sat_mono h2 fun x ρ3 h3 => ?_
    obtain ⟨h3, h4⟩ := h3
    rw [Sat_bind]
    show Sat (bindM (compL vs f t m ds) _ (wipeS vs ρ3)) _
    rw [Sat_bind]
    refine Sat_mono (compL_st J g ds (k + 1) _ h4 fun i d' ρ' e j => ?_) fun l ρ' q => ?_
    · have q := st (i + 1) d' ρ' e (by rw [show k + (i + 1) = k + 1 + i by omega]; exact j)
      rw [show k + (i + 1) = k + 1 + i by omega] at q
      exact q
    · obtain ⟨⟨q1, q2⟩, q3⟩ := q
      show (_ ∧ _) ∧ _
      refine ⟨⟨by rw [List.length_cons, List.length_cons, q1], fun i x' e => ?_⟩, ?_⟩
      · cases i with
        | zero => simp at e; subst e; exact h3
        | succ i =>
          have := q2 i x' (by simpa using e)
          rw [show k + (i + 1) = k + 1 + i by omega]
          exact this
      · rw [List.length_cons, show k + (ds.length + 1) = k + 1 + ds.length by omega]
        exact q3
/-- the ints of such a list -/
theorem ints_from {l : List D} {A : Nat → Int → Prop} {n : Nat} (hl : l.length = n) (h : ∀ i x, l[i]? = some x → ∃ z, x = .int z ∧ A i z) : ∃ zs : List Int, zs.length = n ∧ l = zs.map D.int ∧ ∀ (i : Nat) (z : Int), zs[i]? = some z → A i z := by
  subst hl
  induction l generalizing A with
  | nil => exact ⟨[], rfl, rfl, fun i z e => by simp at e⟩
  | cons d l ih =>
    obtain ⟨z, rfl, hz⟩ := h 0 d rfl
    obtain ⟨zs, e1, e2, e3⟩ := ih (A := fun i => A (i + 1)) fun i x e => h (i + 1) x e
    refine ⟨z :: zs, by simp [e1], by rw [List.map_cons, ← e2], fun i w e => ?_⟩
    cases i with
    | zero => simp at e; subst e; exact hz
    | succ i => exact e3 i w (by simpa using e)
theorem list_from {α : Type} {l : List D} {enc : α → D} {A : Nat → α → Prop} {n : Nat} (hl : l.length = n) (h : ∀ i x, l[i]? = some x → ∃ z, x = enc z ∧ A i z) : ∃ zs : List α, zs.length = n ∧ l = zs.map enc ∧ ∀ (i : Nat) (z : α), zs[i]? = some z → A i z := by
  subst hl
  induction l generalizing A with
  | nil => exact ⟨[], rfl, rfl, fun i z e => by simp at e⟩
  | cons d l ih =>
    obtain ⟨z, rfl, hz⟩ := h 0 d rfl
    obtain ⟨zs, e1, e2, e3⟩ := ih (A := fun i => A (i + 1)) fun i x e => h (i + 1) x e
    refine ⟨z :: zs, by simp [e1], by rw [List.map_cons, ← e2], fun i w e => ?_⟩
    cases i with
    | zero => simp at e; subst e; exact hz
    | succ i => exact e3 i w (by simpa using e)
theorem get_of_mem {α : Type} {l : List α} {A : α → Prop} (h : ∀ (i : Nat) x, l[i]? = some x → A x) : ∀ x ∈ l, A x := fun x hx => by
  obtain ⟨i, hi, rfl⟩ := List.getElem_of_mem hx
  exact h i _ (List.getElem?_eq_getElem hi)
/-- a comprehension over items of one kind -/
theorem compL_map {α : Type} {enc : α → D} {vs : List Nat} {f : D → M Unit} {t : M Bool} {m : M D} {ρ : List Sl} (g : α → D) : ∀ (as : List α), (∀ a ∈ as, Sat (f (enc a) ρ) fun _ ρ1 => Sat (t ρ1) fun k ρ2 => k = true ∧ Sat (m ρ2) fun x ρ3 => x = g a ∧ wipeS vs ρ3 = ρ) → Sat (compL vs f t m (as.map enc) ρ) fun l ρ' => l = as.map g ∧ ρ' = ρ := by
  intro as h
  have q := compL_inv (vs := vs) (f := f) (t := t) (m := m) (P := fun l ρ' => l = as.map g ∧ ρ' = ρ) (fun ds' xs ρ' => ρ' = ρ ∧ ∃ pre post, as = pre ++ post ∧ ds' = post.map enc ∧ xs = pre.map g) ?_ ?_ (as.map enc) [] ρ ⟨rfl, [], as, rfl, rfl, rfl⟩
  · exact q
  · rintro d ds' xs ρ' ⟨rfl, pre, post, e, e2, rfl⟩
    cases post with
    | nil => cases e2
    | cons a post =>
      cases e2
      refine Sat_mono (h a (by rw [e]; simp)) fun _ ρ1 h1 => Sat_mono h1 fun k ρ2 h2 => ?_
      obtain ⟨rfl, h2⟩ := h2
      rw [if_pos rfl]
      refine Sat_mono h2 fun x ρ3 h3 => ?_
      obtain ⟨rfl, h3⟩ := h3
      exact ⟨h3, pre ++ [a], post, by rw [e]; simp, rfl, by simp⟩
  · rintro xs ρ' ⟨rfl, pre, post, e, e2, rfl⟩
    cases post with
    | nil =>
      rw [List.append_nil] at e
      rw [e]
      exact ⟨rfl, rfl⟩
    | cons a post => cases e2

/-! data that can be shown, by depth and length of the text -/
def Sh (k w : Nat) (d : D) : Prop := Pl k d ∧ (D.py d).showable = true ∧ (D.shw d).length ≤ w
theorem Sh.pl {k w : Nat} {d : D} (h : Sh k w d) : Pl k d := h.1
theorem Sh.mono {k w k' w' : Nat} {d : D} (h : Sh k w d) (hk : k ≤ k') (hw : w ≤ w') : Sh k' w' d := ⟨h.1.mono hk, h.2.1, Nat.le_trans h.2.2 hw⟩
theorem Sh.int {k : Nat} {i : Int} (h : i.natAbs < 2 ^ 1900) : Sh k 1930 (.int i) := by
  have q : i.natAbs.log2 < 1900 := by
    by_cases z : i.natAbs = 0
    · rw [z]; decide
    · exact (Nat.log2_lt z).mpr h
  refine ⟨Pl.int, ?_, ?_⟩
  · show decide (i.natAbs.log2 < 1920) = true
    rw [decide_eq_true_eq]; omega
  · show (Str.ofString (toString i)).length ≤ 1930
    rw [PySem.ofString_length]
    exact Nat.le_trans (int_text_length_le (by decide) q) (by decide)
theorem Sh.non {k : Nat} : Sh k 4 .non := ⟨Pl.non, rfl, by decide⟩
theorem Sh.bl {k : Nat} {b : Bool} : Sh k 5 (.bl b) := ⟨Pl.bl, rfl, by cases b <;> decide⟩
theorem shs_of {w : Nat} : ∀ {l : List D}, (∀ x ∈ l, (D.py x).showable = true ∧ (D.shw x).length ≤ w) → PyData.showableAll (D.pys l) = true ∧ ((PyData.shownAll (D.pys l)).map (·.length)).sum ≤ l.length * w ∧ (PyData.shownAll (D.pys l)).length = l.length
  | [], _ => ⟨rfl, Nat.zero_le _, rfl⟩
  | d :: l, h => by
    obtain ⟨h1, h2⟩ := h d List.mem_cons_self
    obtain ⟨q1, q2, q3⟩ := shs_of fun x hx => h x (List.mem_cons_of_mem _ hx)
    rw [D.pys]
    refine ⟨?_, ?_, ?_⟩
    · rw [PyData.showableAll, h1, q1]; rfl
    · rw [PyData.shownAll, List.map_cons, List.sum_cons, List.length_cons, Nat.succ_mul]
      have : ((D.py d).shown).length ≤ w := h2
      omega
    · rw [PyData.shownAll, List.length_cons, q3, List.length_cons]
theorem Sh.tup {k w n : Nat} {l : List D} (h : ∀ x ∈ l, Sh k w x) (hn : l.length ≤ n) : Sh (k + 1) (n * (w + 2) + 3) (.tup l) := by
  obtain ⟨q1, q2, q3⟩ := shs_of (w := w) fun x hx => (h x hx).2
  refine ⟨Pl.tup fun x hx => (h x hx).1, ?_, ?_⟩
  · rw [D.py, PyData.showable]; exact q1
  · unfold D.shw
    rw [D.py, PyData.shown]
    refine Nat.le_trans (tupleText_len_le _) ?_
    rw [q3]
    have e : l.length * (w + 2) ≤ n * (w + 2) := Nat.mul_le_mul_right _ hn
    rw [Nat.mul_add] at e
    omega
theorem Sh.lst {k w n : Nat} {l : List D} (h : ∀ x ∈ l, Sh k w x) (hn : l.length ≤ n) : Sh (k + 1) (n * (w + 2) + 3) (.lst l) := by
  obtain ⟨q1, q2, q3⟩ := shs_of (w := w) fun x hx => (h x hx).2
  refine ⟨Pl.lst fun x hx => (h x hx).1, ?_, ?_⟩
  · rw [D.py, PyData.showable]; exact q1
  · unfold D.shw
    rw [D.py, PyData.shown]
    refine Nat.le_trans (listText_len_le _) ?_
    rw [q3]
    have e : l.length * (w + 2) ≤ n * (w + 2) := Nat.mul_le_mul_right _ hn
    rw [Nat.mul_add] at e
    omega
theorem v_repr {k w : Nat} {d : D} {K : D → Prop} (h : Sh k w d) (hk : k ≤ 64) (hw : w ≤ 16777216) (q : K (.str (D.shw d))) : On (dReprA [d]) K := by
  refine k_on (if_pos ?_) q
  unfold D.canShow
  rw [h.1.plain hk, h.2.1]
  simp only [Bool.true_and, decide_eq_true_eq]
  exact Nat.le_trans h.2.2 (Nat.le_trans hw (by decide))
theorem v_neRefl {k : Nat} {a : D} {K : D → Prop} (ha : Pl k a) (hk : k ≤ 64) (q : K (.bl false)) : On (dNe a a) K := by
  refine v_ne ha ha hk ?_
  rw [eqB_self ha]
  exact q
theorem v_eqRefl {k : Nat} {a : D} {K : D → Prop} (ha : Pl k a) (hk : k ≤ 64) (q : K (.bl true)) : On (dEq a a) K := by
  refine v_eq ha ha hk ?_
  rw [eqB_self ha]
  exact q

theorem v_ixTI {ns : List Int} {i : Int} {K : D → Prop} (h0 : 0 ≤ i) (h1 : i < ns.length) (k : K (.int (ns.getD i.toNat 0))) : On (dIxA (.tup (ns.map D.int)) (.int i)) K := by
  refine k_on ?_ k
  rw [ixA_tup, atI_map h0 h1]
theorem v_ixTt {l : List D} {i : Int} {x : D} {K : D → Prop} (h0 : 0 ≤ i) (h1 : l[i.toNat]? = some x) (k : K x) : On (dIxA (.tup l) (.int i)) K := k_on (by rw [ixA_tup]; exact atI_of h0 h1) k
theorem v_ixLt {l : List D} {i : Int} {x : D} {K : D → Prop} (h0 : 0 ≤ i) (h1 : l[i.toNat]? = some x) (k : K x) : On (dIxA (.lst l) (.int i)) K := k_on (by rw [ixA_lst]; exact atI_of h0 h1) k
/-! boxes -/
def encR (r : List Int) : D := .tup (r.map D.int)
def encB (b : List (List Int)) : D := .tup (b.map encR)
def BoxOk (h w : Nat) (b : List (List Int)) : Prop := b.length = h ∧ ∀ r ∈ b, r.length = w
def turnB (b : List (List Int)) : List (List Int) := (List.range (b.headD []).length).map fun c => b.map fun r => r.getD c 0
theorem turnB_ok {h w : Nat} {b : List (List Int)} (k : BoxOk h w b) (h0 : 0 < h) : BoxOk w h (turnB b) := by
  obtain ⟨k1, k2⟩ := k
  cases b with
  | nil => simp at k1; omega
  | cons r b =>
    have e : ((r :: b).headD []).length = w := k2 r List.mem_cons_self
    refine ⟨by unfold turnB; rw [List.length_map, List.length_range, e], fun x hx => ?_⟩
    obtain ⟨c, _, rfl⟩ := List.mem_map.mp hx
    rw [List.length_map, k1]
theorem turnB_get {h w : Nat} {b : List (List Int)} (k : BoxOk h w b) (h0 : 0 < h) {i : Nat} (hi : i < w) : (turnB b)[i]? = some (b.map fun r => r.getD i 0) := by
  obtain ⟨k1, k2⟩ := k
  cases b with
  | nil => simp at k1; omega
  | cons r b =>
    have e : ((r :: b).headD []).length = w := k2 r List.mem_cons_self
    unfold turnB
    rw [e, List.getElem?_map, List.getElem?_range hi]
    rfl
theorem turnB_turnB {h w : Nat} {b : List (List Int)} (k : BoxOk h w b) (h0 : 0 < h) (w0 : 0 < w) : turnB (turnB b) = b := by
  have k' := turnB_ok k h0
  have k'' := turnB_ok k' w0
  apply List.ext_getElem?
  intro i
  by_cases hi : i < h
  · rw [turnB_get k' w0 hi]
    have hb : i < b.length := by rw [k.1]; exact hi
    rw [List.getElem?_eq_getElem hb]
    congr 1
    have hr := k.2 b[i] (List.getElem_mem hb)
    apply List.ext_getElem?
    intro j
    rw [List.getElem?_map]
    by_cases hj : j < w
    · rw [turnB_get k h0 hj]
      show some ((b.map fun r => r.getD j 0).getD i 0) = _
      rw [List.getD_eq_getElem?_getD, List.getElem?_map, List.getElem?_eq_getElem hb, List.getElem?_eq_getElem (by omega)]
      show some (b[i].getD j 0) = _
      rw [List.getD_eq_getElem?_getD, List.getElem?_eq_getElem (by omega)]
      rfl
    · rw [List.getElem?_eq_none (by rw [k'.1]; omega), List.getElem?_eq_none (by omega)]
      rfl
  · rw [List.getElem?_eq_none (by rw [k''.1]; omega), List.getElem?_eq_none (by rw [k.1]; omega)]
theorem encB_pl {b : List (List Int)} : Pl 2 (encB b) := Pl.tup fun x hx => by
  obtain ⟨r, _, rfl⟩ := List.mem_map.mp hx
  exact Pl.intsT
theorem encBs_pl {bs : List (List (List Int))} : Pl 3 (.lst (bs.map encB)) := Pl.lst fun x hx => by
  obtain ⟨r, _, rfl⟩ := List.mem_map.mp hx
  exact encB_pl
def onI (F : Int → D) : D → D
  | .int a => F a
  | d => d
/-- told from the last one back -/
theorem rev_map {α : Type} {l : List α} {enc : α → D} {F : Nat → D} {n : Nat} (hn : l.length = n) (hF : ∀ (i : Nat) x, l[i]? = some x → F i = enc x) :
    (rngD 0 n).map (onI fun a => F ((n : Int) - 1 - a).toNat) = (l.map enc).reverse := by
  subst hn
  rw [rngD_eq, List.map_map]
  apply List.ext_getElem?
  intro i
  by_cases hi : i < l.length
  · rw [List.getElem?_map, List.getElem?_range hi, List.getElem?_reverse (by rw [List.length_map]; exact hi), List.length_map, List.getElem?_map, List.getElem?_eq_getElem (show l.length - 1 - i < l.length by omega)]
    show some (F ((l.length : Int) - 1 - (0 + (i : Int))).toNat) = _
    rw [show ((l.length : Int) - 1 - (0 + (i : Int))).toNat = l.length - 1 - i by omega, hF _ _ (List.getElem?_eq_getElem (show l.length - 1 - i < l.length by omega))]
    rfl
  · rw [List.getElem?_eq_none (by simp; omega), List.getElem?_eq_none (by simp; omega)]
theorem rowShow {row : List Int} (h : ∀ x ∈ row, x.natAbs < 2 ^ 1900) (hl : row.length ≤ 64) : Sh 1 123651 (.tup (row.map D.int)) := by
  refine Sh.mono (Sh.tup (w := 1930) (n := 64) (fun x hx => ?_) (by rw [List.length_map]; exact hl)) (Nat.le_refl _) (by decide)
  obtain ⟨z, hz, rfl⟩ := List.mem_map.mp hx
  exact Sh.int (h z hz)
theorem small_of {z : Int} (h1 : -1000000000000 ≤ z) (h2 : z ≤ 1000000000000) : z.natAbs < 2 ^ 1900 := by
  have : z.natAbs < 2 ^ 64 := by omega
  exact Nat.lt_of_lt_of_le this (Nat.pow_le_pow_right (by decide) (by decide))

/-- _law_sizes: 0 _law_pen_here, 1 _law_way, 2 _law_many, 3 _law_k -/
def b_l_sizes : M Flw :=
  (seqM (mSet 1 (callM S_draw [(.pk 0), (.ev (mC (.int 6)))]))
  (seqM (mSet 2 (aAddX (.ev (mC (.int 1))) (.ev (vaM (callM S_draw [(.pk 0), (.ev (mOp2 dIxA (.ev (mLst (mEach [(mC (.int 5)), (mC (.int 5)), (mC (.int 4)), (mC (.int 5)), (mC (.int 3)), (mC (.int 12))]))) (.pk 1)))])))))
  (mRet (shM (mOpN dTuple [(.ev (vaM (compM [3] (mRng rng1 (mEach [(mOp2 dAdd (.pk 2) (.ev (mC (.int 1))))])) (toName 3) (retM true) (mOp2 dAdd (.ev (mC (.int 1))) (.ev (vaM (callM S_draw [(.pk 0), (.ev (mOp2 dIxA (.ev (mLst (mEach [(mC (.int 4)), (mC (.int 3)), (mC (.int 5)), (mC (.int 2)), (mC (.int 8)), (mC (.int 3))]))) (.pk 1)))])))))))])))))
def S_l_sizes : List Sl → FR := runF 3 b_l_sizes
theorem sizes_ok {n : Nat} {p : D} (hp : Pen n p) (hn : n ≤ 1000000000) : SatF (S_l_sizes [.io p]) fun s o => ∃ (ns : List Int) (p' : D), s = .sh (.tup (ns.map D.int)) ∧ 2 ≤ ns.length ∧ ns.length ≤ 13 ∧ (∀ x ∈ ns, 1 ≤ x ∧ x ≤ 8) ∧ Pen (n + 20) p' ∧ o = [.io p'] := by
  unfold S_l_sizes
  walk_at "ev start"
  unfold b_l_sizes
  walk_at "ev go"
  refine k_call (draw_ok hp (by omega) (by decide) (by decide)) ?_
  rintro _ _ ⟨y, p1, rfl, y0, y1, hp1, rfl⟩
  walk_at "ev go"
  refine v_ixI (ns := [5, 5, 4, 5, 3, 12]) y0 (by simpa using y1) ?_
  have b1 : ∀ i : Nat, i < 6 → 1 ≤ ([5, 5, 4, 5, 3, 12] : List Int).getD i 0 ∧ ([5, 5, 4, 5, 3, 12] : List Int).getD i 0 ≤ 12 := by decide
  have q1 := b1 y.toNat (by omega)
  have b2 : ∀ i : Nat, i < 6 → 1 ≤ ([4, 3, 5, 2, 8, 3] : List Int).getD i 0 ∧ ([4, 3, 5, 2, 8, 3] : List Int).getD i 0 ≤ 8 := by decide
  have q2 := b2 y.toNat (by omega)
  obtain ⟨m, em⟩ : ∃ m, ([5, 5, 4, 5, 3, 12] : List Int).getD y.toNat 0 = m := ⟨_, rfl⟩
  obtain ⟨z, ez⟩ : ∃ z, ([4, 3, 5, 2, 8, 3] : List Int).getD y.toNat 0 = z := ⟨_, rfl⟩
  rw [em] at q1 ⊢
  rw [ez] at q2
  walk_at "ev go"
  refine k_call (draw_ok hp1 (by omega) (by omega) (by omega)) ?_
  rintro _ _ ⟨r, p2, rfl, r0, r1, hp2, rfl⟩
  walk_at "ev go"
  refine Sat_mono (compL_st (fun k ρ => ∃ p, Pen (n + 2 + k) p ∧ ρ = [.io p, .sh (.int y), .sh (.int (1 + r)), .emp]) (fun _ x => ∃ z : Int, x = .int z ∧ 1 ≤ z ∧ z ≤ 8) _ 0 _ ⟨p2, hp2, rfl⟩ ?_) ?_
  · rintro i d ρ e ⟨p, hp, rfl⟩
    have hi := (List.getElem?_eq_some_iff.mp e).1
    rw [rngD_len] at hi
    walk_at "ev go"
    refine ⟨rfl, ?_⟩
    walk_at "ev go"
    refine v_ixI (ns := [4, 3, 5, 2, 8, 3]) y0 (by simpa using y1) ?_
    rw [ez]
    walk_at "ev go"
    refine k_call (draw_ok hp (by omega) (by omega) (by omega)) ?_
    rintro _ _ ⟨w, p', rfl, w0, w1, hp', rfl⟩
    walk_at "ev go"
    exact ⟨⟨_, rfl, by omega, by omega⟩, p', hp', rfl⟩
  · rintro l ρ' ⟨⟨hl, hx⟩, p', hp', rfl⟩
    obtain ⟨zs, e1, rfl, e3⟩ := ints_from (A := fun _ z => 1 ≤ z ∧ z ≤ 8) hl hx
    rw [rngD_len] at e1 hp'
    walk_at "ev go"
    exact ⟨zs, p', rfl, by omega, by omega, get_of_mem e3, hp'.mono (by omega), rfl⟩

/-- _law_number: 0 _law_pen_here -/
def b_l_number : M Flw :=
  (seqM (mIf (mB (mOp2 dEq (.ev (vaM (callM S_draw [(.pk 0), (.ev (mC (.int 8)))]))) (.ev (mC (.int 7))))) (mRet (shM (mOp2 dMul (.ev (mOp2 dSub (.ev (mC (.int 1))) (.ev (mOp2 dMul (.ev (mC (.int 2))) (.ev (vaM (callM S_draw [(.pk 0), (.ev (mC (.int 2)))]))))))) (.ev (mOp2 dSub (.ev (mOp2 dSub (.ev (mOp2 dPow (.ev (mC (.int 10))) (.ev (mC (.int 12))))) (.ev (mC (.int 1))))) (.ev (vaM (callM S_draw [(.pk 0), (.ev (mC (.int 9)))])))))))) (retM .nx))
  (mRet (shM (mOp2 dSub (.ev (vaM (callM S_draw [(.pk 0), (.ev (mC (.int 13)))]))) (.ev (mC (.int 6)))))))
def S_l_number : List Sl → FR := runF 0 b_l_number
theorem number_ok {n : Nat} {p : D} (hp : Pen n p) (hn : n ≤ 100000000000) : SatF (S_l_number [.io p]) fun s o => ∃ r p', s = .sh (.int r) ∧ -1000000000000 < r ∧ r < 1000000000000 ∧ Pen (n + 3) p' ∧ o = [.io p'] := by
  unfold S_l_number
  walk_at "ev start"
  unfold b_l_number
  walk_at "ev go"
  refine k_call (draw_ok hp (by omega) (by decide) (by decide)) ?_
  rintro _ _ ⟨r, p1, rfl, r0, r1, hp1, rfl⟩
  walk_at "ev go"
  refine k_ifd (fun ha => ?_) (fun ha => ?_)
  · walk_at "ev go"
    refine k_call (draw_ok hp1 (by omega) (by decide) (by decide)) ?_
    rintro _ _ ⟨q, p2, rfl, q0, q1, hp2, rfl⟩
    walk_at "ev go"
    refine k_call (draw_ok hp2 (by omega) (by decide) (by decide)) ?_
    rintro _ _ ⟨z, p3, rfl, z0, z1, hp3, rfl⟩
    walk_at "ev go"
    have e : (10 : Int) ^ Int.toNat 12 = 1000000000000 := by decide
    rw [e]
    have hq : q = 0 ∨ q = 1 := by omega
    rcases hq with rfl | rfl
    · walk_at "ev go"
      exact ⟨_, _, rfl, by omega, by omega, hp3, rfl⟩
    · walk_at "ev go"
      exact ⟨_, _, rfl, by omega, by omega, hp3, rfl⟩
  · walk_at "ev go"
    refine k_call (draw_ok hp1 (by omega) (by decide) (by decide)) ?_
    rintro _ _ ⟨q, p2, rfl, q0, q1, hp2, rfl⟩
    walk_at "ev go"
    exact ⟨_, _, rfl, by omega, by omega, hp2.mono (by omega), rfl⟩

/-- _law_boxes: 0 _law_pen_here, 1 _law_sizes, 2 _law_found, 3 _law_k, 4 _law_r, 5 _law_c -/
def b_l_boxes : M Flw :=
  (seqM (mSet 2 (aLst (mEach [])))
  (seqM (mFor (mRng rng1 (mEach [(mOp2 dSub (.ev (mOpN dLenA [(.pk 1)])) (.ev (mC (.int 1))))])) (toName 3) (mDo (mMeth D.isL 2 (mEach [(mOpN dTuple [(.ev (vaM (compM [4] (mRng rng1 (mEach [(mOp2 dIxA (.pk 1) (.pk 3))])) (toName 4) (retM true) (mOpN dTuple [(.ev (vaM (compM [5] (mRng rng1 (mEach [(mOp2 dIxA (.pk 1) (.ev (mOp2 dAdd (.pk 3) (.ev (mC (.int 1))))))])) (toName 5) (retM true) (vaM (callM S_l_number [(.pk 0)])))))]))))])]) fApp)))
  (mRet (aVar 2))))
def S_l_boxes : List Sl → FR := runF 4 b_l_boxes
/-- boxes of these sizes, their numbers below 10 ** 12 -/
def smallI (z : Int) : Prop := -1000000000000 < z ∧ z < 1000000000000
def BoxesOf (ns : List Int) (bs : List (List (List Int))) : Prop := ∀ (i : Nat) b, bs[i]? = some b → BoxOk (ns.getD i 0).toNat (ns.getD (i + 1) 0).toNat b ∧ ∀ r ∈ b, ∀ z ∈ r, smallI z
theorem boxes_ok {n : Nat} {p : D} {ns : List Int} (hp : Pen n p) (hn : n ≤ 1000000000) (h1 : 1 ≤ ns.length) (hl : ns.length ≤ 20) (hx : ∀ x ∈ ns, 1 ≤ x ∧ x ≤ 12) :
    SatF (S_l_boxes [.io p, .sh (.lst (ns.map D.int))]) fun s o => ∃ bs p', s = .ow (.lst (bs.map encB)) ∧ bs.length + 1 = ns.length ∧ BoxesOf ns bs ∧ Pen (n + 1000 * bs.length) p' ∧ o = [.io p', .emp] := by
  have hg : ∀ i, i < ns.length → 1 ≤ ns.getD i 0 ∧ ns.getD i 0 ≤ 12 := fun i hi => by
    rw [List.getD_eq_getElem?_getD, List.getElem?_eq_getElem hi]
    exact hx _ (List.getElem_mem hi)
  unfold S_l_boxes
  walk_at "ev start"
  unfold b_l_boxes
  walk_at "ev go"
  rw [List.length_map]
  walk_at "ev go"
  refine forL_inv (fun ds ρ => ∃ (bs : List (List (List Int))) (p : D) (s3 : Sl), ds = rngD (bs.length : Nat) (ns.length - 1 - bs.length) ∧ bs.length + 1 ≤ ns.length ∧ BoxesOf ns bs ∧ Pen (n + 1000 * bs.length) p ∧ ρ = [.io p, .sh (.lst (ns.map D.int)), .ow (.lst (bs.map encB)), s3, .emp, .emp]) ?_ ?_ _ _ ⟨[], p, .emp, by simp, by simpa using h1, fun i b e => by simp at e, hp, rfl⟩
  · rintro d ds ρ ⟨bs, p, s3, e, hle, hok, hp, rfl⟩
    obtain ⟨c, hc⟩ : ∃ c, ns.length - 1 - bs.length = c := ⟨_, rfl⟩
    rw [hc] at e
    cases c with
    | zero => cases e
    | succ c =>
      cases e
      have g1 := hg bs.length (by omega)
      have g2 := hg (bs.length + 1) (by omega)
      obtain ⟨hi_, ehi⟩ : ∃ H, ns.getD bs.length 0 = H := ⟨_, rfl⟩
      obtain ⟨wi_, ewi⟩ : ∃ W, ns.getD (bs.length + 1) 0 = W := ⟨_, rfl⟩
      rw [ehi] at g1
      rw [ewi] at g2
      walk_at "ev go"
      refine v_ixI (by omega) (by omega) ?_
      rw [Int.toNat_natCast, ehi]
      walk_at "ev go"
      refine Sat_mono (compL_st (fun k ρ => ∃ p, Pen (n + 1000 * bs.length + 36 * k) p ∧ ρ = [.io p, .sh (.lst (ns.map D.int)), .ow (.lst (bs.map encB)), .sh (.int bs.length), .emp, .emp]) (fun _ x => ∃ r : List Int, x = encR r ∧ r.length = wi_.toNat ∧ ∀ z ∈ r, smallI z) _ 0 _ ⟨p, hp, rfl⟩ ?_) ?_
      · rintro i d ρ e ⟨p, hp, rfl⟩
        have hi := (List.getElem?_eq_some_iff.mp e).1
        rw [rngD_len] at hi
        walk_at "ev go"
        refine ⟨rfl, ?_⟩
        walk_at "ev go"
        refine v_ixI (by omega) (by omega) ?_
        rw [show ((bs.length : Int) + 1).toNat = bs.length + 1 by omega, ewi]
        walk_at "ev go"
        refine Sat_mono (compL_st (fun k ρ => ∃ p, Pen (n + 1000 * bs.length + 36 * (0 + i) + 3 * k) p ∧ ρ = [.io p, .sh (.lst (ns.map D.int)), .ow (.lst (bs.map encB)), .sh (.int bs.length), .sh d, .emp]) (fun _ x => ∃ z : Int, x = .int z ∧ smallI z) _ 0 _ ⟨p, hp, rfl⟩ ?_) ?_
        · rintro j d' ρ e' ⟨p, hp, rfl⟩
          have hj := (List.getElem?_eq_some_iff.mp e').1
          rw [rngD_len] at hj
          walk_at "ev go"
          refine ⟨rfl, ?_⟩
          walk_at "ev go"
          refine k_call (number_ok hp (by omega)) ?_
          rintro _ _ ⟨z, p', rfl, z0, z1, hp', rfl⟩
          walk_at "ev go"
          exact ⟨⟨z, rfl, z0, z1⟩, p', hp', rfl⟩
        · rintro l ρ' ⟨⟨hl', hx'⟩, p', hp', rfl⟩
          walk_at "ev go"
          obtain ⟨zs, e1, rfl, e3⟩ := ints_from (A := fun _ z => smallI z) hl' hx'
          rw [rngD_len] at e1 hp'
          exact ⟨⟨zs, rfl, e1, get_of_mem e3⟩, p', hp'.mono (by omega), rfl⟩
      · rintro l ρ' ⟨⟨hl', hx'⟩, p', hp', rfl⟩
        walk_at "ev go"
        obtain ⟨rs, e1, rfl, e3⟩ := list_from (enc := encR) (A := fun _ r => r.length = wi_.toNat ∧ ∀ z ∈ r, smallI z) hl' hx'
        rw [rngD_len] at e1 hp'
        have e4 := get_of_mem e3
        refine ⟨bs ++ [rs], p', .sh (.int bs.length), ?_, by rw [List.length_append]; simp; omega, ?_, ?_, ?_⟩
        · rw [List.length_append, List.length_singleton]
          congr 1
          omega
        · intro i b e
          by_cases hi : i < bs.length
          · rw [List.getElem?_append_left hi] at e
            exact hok i b e
          · rw [List.getElem?_append_right (by omega)] at e
            have : i - bs.length = 0 := by
              have := (List.getElem?_eq_some_iff.mp e).1
              simp at this
              omega
            rw [this] at e
            simp at e
            subst e
            have : i = bs.length := by omega
            subst this
            exact ⟨⟨by rw [ehi]; exact e1, fun r hr => by rw [ewi]; exact (e4 r hr).1⟩, fun r hr => (e4 r hr).2⟩
        · rw [List.length_append, List.length_singleton]
          exact hp'.mono (by omega)
        · rw [List.map_append]
          rfl
  · rintro ρ ⟨bs, p, s3, e, hle, hok, hp, rfl⟩
    have hz : ns.length - 1 - bs.length = 0 := by
      cases c : ns.length - 1 - bs.length with
      | zero => rfl
      | succ c' => rw [c] at e; cases e
    walk_at "ev go"
    exact ⟨bs, p, rfl, by omega, hok, hp, rfl⟩
theorem boxes_okT {n : Nat} {p : D} {ns : List Int} (hp : Pen n p) (hn : n ≤ 1000000000) (h1 : 1 ≤ ns.length) (hl : ns.length ≤ 20) (hx : ∀ x ∈ ns, 1 ≤ x ∧ x ≤ 12) :
    SatF (S_l_boxes [.io p, .sh (.tup (ns.map D.int))]) fun s o => ∃ bs p', s = .ow (.lst (bs.map encB)) ∧ bs.length + 1 = ns.length ∧ BoxesOf ns bs ∧ Pen (n + 1000 * bs.length) p' ∧ o = [.io p', .emp] := by
  have hg : ∀ i, i < ns.length → 1 ≤ ns.getD i 0 ∧ ns.getD i 0 ≤ 12 := fun i hi => by
    rw [List.getD_eq_getElem?_getD, List.getElem?_eq_getElem hi]
    exact hx _ (List.getElem_mem hi)
  unfold S_l_boxes
  walk_at "ev start"
  unfold b_l_boxes
  walk_at "ev go"
  rw [List.length_map]
  walk_at "ev go"
  refine forL_inv (fun ds ρ => ∃ (bs : List (List (List Int))) (p : D) (s3 : Sl), ds = rngD (bs.length : Nat) (ns.length - 1 - bs.length) ∧ bs.length + 1 ≤ ns.length ∧ BoxesOf ns bs ∧ Pen (n + 1000 * bs.length) p ∧ ρ = [.io p, .sh (.tup (ns.map D.int)), .ow (.lst (bs.map encB)), s3, .emp, .emp]) ?_ ?_ _ _ ⟨[], p, .emp, by simp, by simpa using h1, fun i b e => by simp at e, hp, rfl⟩
  · rintro d ds ρ ⟨bs, p, s3, e, hle, hok, hp, rfl⟩
    obtain ⟨c, hc⟩ : ∃ c, ns.length - 1 - bs.length = c := ⟨_, rfl⟩
    rw [hc] at e
    cases c with
    | zero => cases e
    | succ c =>
      cases e
      have g1 := hg bs.length (by omega)
      have g2 := hg (bs.length + 1) (by omega)
      obtain ⟨hi_, ehi⟩ : ∃ H, ns.getD bs.length 0 = H := ⟨_, rfl⟩
      obtain ⟨wi_, ewi⟩ : ∃ W, ns.getD (bs.length + 1) 0 = W := ⟨_, rfl⟩
      rw [ehi] at g1
      rw [ewi] at g2
      walk_at "ev go"
      refine v_ixTI (by omega) (by omega) ?_
      rw [Int.toNat_natCast, ehi]
      walk_at "ev go"
      refine Sat_mono (compL_st (fun k ρ => ∃ p, Pen (n + 1000 * bs.length + 36 * k) p ∧ ρ = [.io p, .sh (.tup (ns.map D.int)), .ow (.lst (bs.map encB)), .sh (.int bs.length), .emp, .emp]) (fun _ x => ∃ r : List Int, x = encR r ∧ r.length = wi_.toNat ∧ ∀ z ∈ r, smallI z) _ 0 _ ⟨p, hp, rfl⟩ ?_) ?_
      · rintro i d ρ e ⟨p, hp, rfl⟩
        have hi := (List.getElem?_eq_some_iff.mp e).1
        rw [rngD_len] at hi
        walk_at "ev go"
        refine ⟨rfl, ?_⟩
        walk_at "ev go"
        refine v_ixTI (by omega) (by omega) ?_
        rw [show ((bs.length : Int) + 1).toNat = bs.length + 1 by omega, ewi]
        walk_at "ev go"
        refine Sat_mono (compL_st (fun k ρ => ∃ p, Pen (n + 1000 * bs.length + 36 * (0 + i) + 3 * k) p ∧ ρ = [.io p, .sh (.tup (ns.map D.int)), .ow (.lst (bs.map encB)), .sh (.int bs.length), .sh d, .emp]) (fun _ x => ∃ z : Int, x = .int z ∧ smallI z) _ 0 _ ⟨p, hp, rfl⟩ ?_) ?_
        · rintro j d' ρ e' ⟨p, hp, rfl⟩
          have hj := (List.getElem?_eq_some_iff.mp e').1
          rw [rngD_len] at hj
          walk_at "ev go"
          refine ⟨rfl, ?_⟩
          walk_at "ev go"
          refine k_call (number_ok hp (by omega)) ?_
          rintro _ _ ⟨z, p', rfl, z0, z1, hp', rfl⟩
          walk_at "ev go"
          exact ⟨⟨z, rfl, z0, z1⟩, p', hp', rfl⟩
        · rintro l ρ' ⟨⟨hl', hx'⟩, p', hp', rfl⟩
          walk_at "ev go"
          obtain ⟨zs, e1, rfl, e3⟩ := ints_from (A := fun _ z => smallI z) hl' hx'
          rw [rngD_len] at e1 hp'
          exact ⟨⟨zs, rfl, e1, get_of_mem e3⟩, p', hp'.mono (by omega), rfl⟩
      · rintro l ρ' ⟨⟨hl', hx'⟩, p', hp', rfl⟩
        walk_at "ev go"
        obtain ⟨rs, e1, rfl, e3⟩ := list_from (enc := encR) (A := fun _ r => r.length = wi_.toNat ∧ ∀ z ∈ r, smallI z) hl' hx'
        rw [rngD_len] at e1 hp'
        have e4 := get_of_mem e3
        refine ⟨bs ++ [rs], p', .sh (.int bs.length), ?_, by rw [List.length_append]; simp; omega, ?_, ?_, ?_⟩
        · rw [List.length_append, List.length_singleton]
          congr 1
          omega
        · intro i b e
          by_cases hi : i < bs.length
          · rw [List.getElem?_append_left hi] at e
            exact hok i b e
          · rw [List.getElem?_append_right (by omega)] at e
            have : i - bs.length = 0 := by
              have := (List.getElem?_eq_some_iff.mp e).1
              simp at this
              omega
            rw [this] at e
            simp at e
            subst e
            have : i = bs.length := by omega
            subst this
            exact ⟨⟨by rw [ehi]; exact e1, fun r hr => by rw [ewi]; exact (e4 r hr).1⟩, fun r hr => (e4 r hr).2⟩
        · rw [List.length_append, List.length_singleton]
          exact hp'.mono (by omega)
        · rw [List.map_append]
          rfl
  · rintro ρ ⟨bs, p, s3, e, hle, hok, hp, rfl⟩
    have hz : ns.length - 1 - bs.length = 0 := by
      cases c : ns.length - 1 - bs.length with
      | zero => rfl
      | succ c' => rw [c] at e; cases e
    walk_at "ev go"
    exact ⟨bs, p, rfl, by omega, hok, hp, rfl⟩

/-- brackets as a tree -/
inductive Br where
  | leaf (i : Int) | node (l r : Br)
def Br.enc : Br → D
  | .leaf i => .int i
  | .node l r => .tup [l.enc, r.enc]
def Br.depth : Br → Nat
  | .leaf _ => 0
  | .node l r => max l.depth r.depth + 1
/-- the boxes from a to b in order -/
def Br.On : Br → Int → Int → Prop
  | .leaf i, a, b => i = a ∧ a = b
  | .node l r, a, b => ∃ c, a ≤ c ∧ c < b ∧ l.On a c ∧ r.On (c + 1) b
theorem Br.On.le : ∀ {t : Br} {a b : Int}, t.On a b → a ≤ b
  | .leaf _, _, _, h => by obtain ⟨_, h⟩ := h; omega
  | .node _ _, _, _, h => by obtain ⟨c, h1, h2, _⟩ := h; omega
theorem Br.On.dep : ∀ {t : Br} {a b : Int}, t.On a b → (t.depth : Int) ≤ b - a
  | .leaf _, _, _, h => by obtain ⟨_, h⟩ := h; show (0 : Int) ≤ _; omega
  | .node l r, _, _, h => by
    obtain ⟨c, h1, h2, h3, h4⟩ := h
    have d1 := h3.dep
    have d2 := h4.dep
    show ((max l.depth r.depth + 1 : Nat) : Int) ≤ _
    omega
theorem Br.pl : ∀ (t : Br), Pl t.depth t.enc
  | .leaf _ => Pl.int
  | .node l r => Pl.tup fun x hx => by
    rcases List.mem_cons.mp hx with rfl | hx
    · exact (Br.pl l).mono (Nat.le_max_left ..)
    · rw [List.mem_singleton.mp hx]
      exact (Br.pl r).mono (Nat.le_max_right ..)
def Br.sz : Br → Nat
  | .leaf _ => 1930
  | .node l r => 2 * (max l.sz r.sz + 2) + 3
def Br.len : Br → Nat
  | .leaf _ => 1
  | .node l r => l.len + r.len
theorem Br.On.len : ∀ {t : Br} {a b : Int}, t.On a b → (t.len : Int) = b - a + 1
  | .leaf _, _, _, h => by obtain ⟨_, h⟩ := h; show (1 : Int) = _; omega
  | .node l r, _, _, h => by
    obtain ⟨c, h1, h2, h3, h4⟩ := h
    have d1 := h3.len
    have d2 := h4.len
    show ((l.len + r.len : Nat) : Int) = _
    omega
def Br.small : Br → Prop
  | .leaf i => i.natAbs < 2 ^ 1900
  | .node l r => l.small ∧ r.small
theorem Br.On.small : ∀ {t : Br} {a b : Int}, t.On a b → a.natAbs < 10 ^ 100 → b.natAbs < 10 ^ 100 → t.small
  | .leaf _, _, _, h, ha, _ => by
    obtain ⟨rfl, _⟩ := h
    exact Nat.lt_of_lt_of_le ha (by decide +kernel)
  | .node l r, _, _, h, ha, hb => by
    obtain ⟨c, h1, h2, h3, h4⟩ := h
    exact ⟨h3.small ha (by omega), h4.small (by omega) hb⟩
/-- its text: at most 1940 signs a box -/
theorem Br.shown : ∀ (t : Br), t.small → (D.py t.enc).showable = true ∧ (D.shw t.enc).length ≤ 1940 * t.len - 10
  | .leaf i, h => by
    have q := Sh.int (k := 0) h
    exact ⟨q.2.1, q.2.2⟩
  | .node l r, h => by
    obtain ⟨h1, h2⟩ := Br.shown l h.1
    obtain ⟨h3, h4⟩ := Br.shown r h.2
    refine ⟨?_, ?_⟩
    · show PyData.showableAll (D.pys [l.enc, r.enc]) = true
      rw [D.pys, D.pys, D.pys, PyData.showableAll, PyData.showableAll, PyData.showableAll, h1, h3]
      rfl
    · show (tupleText (PyData.shownAll (D.pys [l.enc, r.enc]))).length ≤ _
      refine Nat.le_trans (tupleText_len_le _) ?_
      rw [D.pys, D.pys, D.pys, PyData.shownAll, PyData.shownAll, PyData.shownAll]
      simp only [List.map_cons, List.map_nil, List.sum_cons, List.sum_nil, List.length_cons, List.length_nil]
      have e1 : (D.py l.enc).shown.length ≤ 1940 * l.len - 10 := h2
      have e2 : (D.py r.enc).shown.length ≤ 1940 * r.len - 10 := h4
      have l1 : 0 < l.len := by clear h1 h2 e1 h; induction l with | leaf => exact Nat.one_pos | node a b i1 i2 => exact Nat.add_pos_left i1 _
      have l2 : 0 < r.len := by clear h3 h4 e2 h; induction r with | leaf => exact Nat.one_pos | node a b i1 i2 => exact Nat.add_pos_left i1 _
      show _ ≤ 1940 * (l.len + r.len) - 10
      omega
theorem Br.sh {t : Br} {a b : Int} (h : t.On a b) (ha : a.natAbs < 10 ^ 100) (hb : b.natAbs < 10 ^ 100) (hl : b - a ≤ 63) : Sh 63 124160 t.enc := by
  have q := Br.shown t (h.small ha hb)
  have d := h.dep
  have n := h.len
  exact ⟨(Br.pl t).mono (by omega), q.1, by omega⟩

/-- _law_brackets: 0 _law_pen_here, 1 _law_first, 2 _law_last, 3 _law_cut -/
def b_l_brackets (S : List Sl → FR) : M Flw :=
  (seqM (mIf (mB (mOp2 dEq (.pk 1) (.pk 2))) (mRet (aVar 1)) (retM .nx))
  (seqM (mSet 3 (aAddX (.pk 1) (.ev (vaM (callM S_draw [(.pk 0), (.ev (mOp2 dSub (.pk 2) (.pk 1)))])))))
  (mRet (shM (mTup (mEach [(vaM (callM S [(.pk 0), (.ev (mVar 1)), (.ev (mVar 3))])), (vaM (callM S [(.pk 0), (.ev (mOp2 dAdd (.pk 3) (.ev (mC (.int 1))))), (.ev (mVar 2))]))]))))))
def F_l_brackets : Nat → List Sl → FR
  | 0 => fun _ => .no
  | n + 1 => runF 1 (b_l_brackets (F_l_brackets n))
def S_l_brackets : List Sl → FR := F_l_brackets 64
def BrkSp (S : List Sl → FR) (N : Nat) : Prop := ∀ {n : Nat} {p : D} {a b : Int}, Pen n p → n + (b - a).toNat ≤ 100000000000 → 0 ≤ a → a ≤ b → b < 1000000 → b - a < N → SatF (S [.io p, .sh (.int a), .sh (.int b)]) fun s o => ∃ t p', s = .sh (Br.enc t) ∧ Br.On t a b ∧ Pen (n + (b - a).toNat) p' ∧ o = [.io p', .emp, .emp]
theorem brackets_step {S : List Sl → FR} {N : Nat} (ih : BrkSp S N) (hN : N ≤ 64) : BrkSp (runF 1 (b_l_brackets S)) (N + 1) := by
  intro n p a b hp hn h0 hab hb hd
  walk_at "ev start"
  unfold b_l_brackets
  walk_at "ev go"
  refine k_ifd (fun ha => ?_) (fun ha => ?_)
  · subst ha
    walk_at "ev go"
    exact ⟨.leaf a, p, rfl, ⟨rfl, rfl⟩, hp.mono (by omega), rfl⟩
  · walk_at "ev go"
    refine k_call (draw_ok hp (by omega) (by omega) (by omega)) ?_
    rintro _ _ ⟨r, p1, rfl, r0, r1, hp1, rfl⟩
    walk_at "ev go"
    refine k_call (ih hp1 (by omega) h0 (by omega) (by omega) (by omega)) ?_
    rintro _ _ ⟨t1, p2, rfl, o1, hp2, rfl⟩
    walk_at "ev go"
    refine k_call (ih hp2 (by omega) (by omega) (by omega) (by omega) (by omega)) ?_
    rintro _ _ ⟨t2, p3, rfl, o2, hp3, rfl⟩
    walk_at "ev go"
    exact ⟨.node t1 t2, p3, rfl, ⟨a + r, by omega, by omega, o1, o2⟩, hp3.mono (by omega), rfl⟩
theorem brackets_at : ∀ N : Nat, N ≤ 64 → BrkSp (F_l_brackets N) N
  | 0, _ => fun _ _ _ _ _ h => by omega
  | N + 1, h => brackets_step (brackets_at N (by omega)) (by omega)
theorem brackets_ok {n : Nat} {p : D} {a b : Int} (hp : Pen n p) (hn : n ≤ 10000000000) (h0 : 0 ≤ a) (hab : a ≤ b) (hd : b - a < 64) (hb : b < 1000000) : SatF (S_l_brackets [.io p, .sh (.int a), .sh (.int b)]) fun s o => ∃ t p', s = .sh (Br.enc t) ∧ Br.On t a b ∧ Pen (n + (b - a).toNat) p' ∧ o = [.io p', .emp, .emp] :=
  brackets_at 64 (Nat.le_refl _) hp (by omega) h0 hab hb hd

/-! sums, products of boxes -/
theorem sum_add_map {α : Type} (f g : α → Int) : ∀ l : List α, (l.map fun x => f x + g x).sum = (l.map f).sum + (l.map g).sum
  | [] => rfl
  | x :: l => by simp only [List.map_cons, List.sum_cons]; rw [sum_add_map f g l]; omega
theorem sum_mul_map {α : Type} (c : Int) (f : α → Int) : ∀ l : List α, (l.map fun x => c * f x).sum = c * (l.map f).sum
  | [] => by simp
  | x :: l => by simp only [List.map_cons, List.sum_cons]; rw [sum_mul_map c f l, Int.mul_add]
theorem sum_map_mul {α : Type} (c : Int) (f : α → Int) : ∀ l : List α, (l.map fun x => f x * c).sum = (l.map f).sum * c
  | [] => by simp
  | x :: l => by simp only [List.map_cons, List.sum_cons]; rw [sum_map_mul c f l, Int.add_mul]
theorem sum_zero_map {α : Type} : ∀ l : List α, (l.map fun _ => (0 : Int)).sum = 0
  | [] => rfl
  | x :: l => by simp only [List.map_cons, List.sum_cons]; rw [sum_zero_map l]; rfl
theorem sum_swap {α β : Type} (f : α → β → Int) : ∀ (l : List α) (m : List β), (l.map fun x => (m.map fun y => f x y).sum).sum = (m.map fun y => (l.map fun x => f x y).sum).sum
  | [], m => by simp only [List.map_nil, List.sum_nil]; rw [sum_zero_map]
  | x :: l, m => by
    simp only [List.map_cons, List.sum_cons]
    rw [sum_swap f l m, sum_add_map]
def at2 (b : List (List Int)) (i j : Nat) : Int := (b.getD i []).getD j 0
def mulF (a b : List (List Int)) : List (List Int) := (List.range a.length).map fun r => (List.range (b.headD []).length).map fun c => ((List.range b.length).map fun k => at2 a r k * at2 b k c).sum
theorem head_len {h w : Nat} {b : List (List Int)} (k : BoxOk h w b) (h0 : 0 < h) : (b.headD []).length = w := by
  obtain ⟨k1, k2⟩ := k
  cases b with
  | nil => simp at k1; omega
  | cons r b => exact k2 r List.mem_cons_self
theorem mulF_eq {h m w : Nat} {a b : List (List Int)} (ka : BoxOk h m a) (kb : BoxOk m w b) (m0 : 0 < m) : mulF a b = (List.range h).map fun r => (List.range w).map fun c => ((List.range m).map fun k => at2 a r k * at2 b k c).sum := by
  unfold mulF
  rw [ka.1, kb.1, head_len kb m0]
theorem mulF_ok {h m w : Nat} {a b : List (List Int)} (ka : BoxOk h m a) (kb : BoxOk m w b) (m0 : 0 < m) : BoxOk h w (mulF a b) := by
  rw [mulF_eq ka kb m0]
  refine ⟨by simp, fun r hr => ?_⟩
  obtain ⟨i, _, rfl⟩ := List.mem_map.mp hr
  simp
theorem getD_range_map {α : Type} {f : Nat → α} {n i : Nat} {d : α} (h : i < n) : ((List.range n).map f).getD i d = f i := by
  rw [List.getD_eq_getElem?_getD, List.getElem?_map, List.getElem?_range h]
  rfl
theorem at2_mul {h m w : Nat} {a b : List (List Int)} (ka : BoxOk h m a) (kb : BoxOk m w b) (m0 : 0 < m) {i j : Nat} (hi : i < h) (hj : j < w) : at2 (mulF a b) i j = ((List.range m).map fun k => at2 a i k * at2 b k j).sum := by
  rw [mulF_eq ka kb m0]
  unfold at2
  rw [getD_range_map hi, getD_range_map hj]
theorem map_congr_range {α : Type} {f g : Nat → α} {n : Nat} (h : ∀ i, i < n → f i = g i) : (List.range n).map f = (List.range n).map g := List.map_congr_left fun i hi => h i (List.mem_range.mp hi)
theorem mul_assoc {h m w l : Nat} {a b c : List (List Int)} (ka : BoxOk h m a) (kb : BoxOk m w b) (kc : BoxOk w l c) (m0 : 0 < m) (w0 : 0 < w) : mulF (mulF a b) c = mulF a (mulF b c) := by
  rw [mulF_eq (mulF_ok ka kb m0) kc w0, mulF_eq ka (mulF_ok kb kc w0) m0]
  refine map_congr_range fun r hr => map_congr_range fun j hj => ?_
  have e1 : (List.range w).map (fun k => at2 (mulF a b) r k * at2 c k j) = (List.range w).map (fun k => ((List.range m).map fun i => at2 a r i * at2 b i k * at2 c k j).sum) := map_congr_range fun k hk => by
    rw [at2_mul ka kb m0 hr hk, sum_map_mul]
  have e2 : (List.range m).map (fun i => at2 a r i * at2 (mulF b c) i j) = (List.range m).map (fun i => ((List.range w).map fun k => at2 a r i * at2 b i k * at2 c k j).sum) := map_congr_range fun i hi => by
    rw [at2_mul kb kc w0 hi hj, ← sum_mul_map]
    congr 1
    exact map_congr_range fun k _ => (Int.mul_assoc _ _ _).symm
  rw [e1, e2, sum_swap]
theorem v_itB {b : List (List Int)} {K : List D → Prop} (k : K (b.map encR)) : On (itemsOf (encB b)) K := k_on (show itemsOf (encB b) = some (b.map encR) from rfl) k
/-- all numbers at most so great -/
def Lim (B : Nat) (b : List (List Int)) : Prop := ∀ r ∈ b, ∀ z ∈ r, z.natAbs ≤ B
theorem at2_lim {B : Nat} {b : List (List Int)} (h : Lim B b) (i j : Nat) : (at2 b i j).natAbs ≤ B := by
  unfold at2
  rw [List.getD_eq_getElem?_getD, List.getD_eq_getElem?_getD]
  cases e : b[i]? with
  | none => simp
  | some r =>
    show ((r[j]?).getD 0).natAbs ≤ B
    cases e2 : r[j]? with
    | none => simp
    | some z => exact h r (List.mem_of_getElem? e) z (List.mem_of_getElem? e2)
theorem sum_lim {B : Nat} : ∀ (l : List Int), (∀ z ∈ l, z.natAbs ≤ B) → l.sum.natAbs ≤ l.length * B
  | [], _ => by simp
  | z :: l, h => by
    have h1 := h z List.mem_cons_self
    have h2 := sum_lim l fun y hy => h y (List.mem_cons_of_mem _ hy)
    rw [List.sum_cons, List.length_cons, Nat.succ_mul]
    omega
theorem mulF_lim {h m w A B : Nat} {a b : List (List Int)} (ka : BoxOk h m a) (kb : BoxOk m w b) (m0 : 0 < m) (la : Lim A a) (lb : Lim B b) : Lim (m * (A * B)) (mulF a b) := by
  rw [mulF_eq ka kb m0]
  intro r hr z hz
  obtain ⟨i, _, rfl⟩ := List.mem_map.mp hr
  obtain ⟨j, _, rfl⟩ := List.mem_map.mp hz
  refine Nat.le_trans (sum_lim (B := A * B) _ fun y hy => ?_) (by rw [List.length_map, List.length_range]; exact Nat.le_refl _)
  obtain ⟨k, _, rfl⟩ := List.mem_map.mp hy
  rw [Int.natAbs_mul]
  exact Nat.mul_le_mul (at2_lim la i k) (at2_lim lb k j)
theorem Lim.mono {A B : Nat} {b : List (List Int)} (h : Lim A b) (l : A ≤ B) : Lim B b := fun r hr z hz => Nat.le_trans (h r hr z hz) l
theorem boxShow {h w B : Nat} {b : List (List Int)} (k : BoxOk h w b) (l : Lim B b) (hh : h ≤ 8) (hw : w ≤ 8) (hB : B < 2 ^ 1900) : Sh 2 200000 (encB b) := by
  refine Sh.mono (Sh.tup (k := 1) (w := 15460) (n := 8) (fun x hx => ?_) (by rw [List.length_map, k.1]; exact hh)) (by decide) (by decide)
  obtain ⟨r, hr, rfl⟩ := List.mem_map.mp hx
  refine Sh.mono (Sh.tup (k := 0) (w := 1930) (n := 8) (fun y hy => ?_) (by rw [List.length_map, k.2 r hr]; exact hw)) (by decide) (by decide)
  obtain ⟨z, hz, rfl⟩ := List.mem_map.mp hy
  exact Sh.int (Nat.lt_of_le_of_lt (l r hr z hz) hB)

/-- turned_box: 0 box, 1 c, 2 one -/
def b_turned_box : M Flw :=
  (mRet (shM (mOpN dTuple [(.ev (vaM (compM [1] (mRng rng1 (mEach [(mOpN dLenA [(.ev (mOp2 dIxA (.pk 0) (.ev (mC (.int 0)))))])])) (toName 1) (retM true) (mOpN dTuple [(.ev (vaM (altM (isOwnL 0) (compN 0 [2] (toName 2) (retM true) (mOp2 dIxA (.pk 2) (.pk 1))) (compM [2] (mIter (mVar 0)) (toName 2) (retM true) (mOp2 dIxA (.pk 2) (.pk 1))))))]))))])))
def S_turned_box : List Sl → FR := runF 2 b_turned_box
theorem tbox_ok {h w : Nat} {b : List (List Int)} (k : BoxOk h w b) (h0 : 0 < h) (hh : h ≤ 1000) (hw : w ≤ 1000) : SatF (S_turned_box [.sh (encB b)]) fun s o => s = .sh (encB (turnB b)) ∧ o = [.emp] := by
  obtain ⟨k1, k2⟩ := k
  obtain ⟨r0, b', rfl⟩ : ∃ r0 b', b = r0 :: b' := by cases b with | nil => simp at k1; omega | cons r b => exact ⟨r, b, rfl⟩
  have e0 : r0.length = w := k2 r0 List.mem_cons_self
  have k1' : b'.length + 1 = h := k1
  unfold S_turned_box
  walk_at "ev start"
  unfold b_turned_box
  walk_at "ev go"
  refine v_ixTt (x := encR r0) (by decide) rfl ?_
  unfold encR
  walk_at "ev go"
  rw [List.length_map, e0]
  walk_at "ev go"
  refine Sat_mono (compL_pure (ρ := [Sl.sh (encB (r0 :: b')), Sl.emp, Sl.emp]) (fun d => match d with | .int c => .tup ((r0 :: b').map fun r => .int (r.getD c.toNat 0)) | d => d) _ fun d hd => ?_) ?_
  · rw [rngD_eq] at hd
    obtain ⟨c, hc, rfl⟩ := List.mem_map.mp hd
    have hc' : c < w := by have := List.mem_range.mp hc; omega
    walk_at "ev go"
    refine ⟨rfl, ?_⟩
    walk_at "ev go"
    refine k_on (x := (r0 :: b').map encR) rfl ?_
    walk_at "ev go"
    refine Sat_mono (compL_pure (ρ := [Sl.sh (encB (r0 :: b')), Sl.sh (D.int (0 + (c : Int))), Sl.emp]) (fun d => match d with | .tup l => l.getD c .non | d => d) _ fun d hd => ?_) ?_
    · obtain ⟨r, hr, rfl⟩ := List.mem_map.mp hd
      have er := k2 r hr
      unfold encR
      walk_at "ev go"
      refine ⟨rfl, ?_⟩
      walk_at "ev go"
      refine v_ixTI (by omega) (by omega) ?_
      refine ⟨?_, rfl⟩
      show _ = (r.map D.int).getD c .non
      rw [List.getD_eq_getElem?_getD, List.getD_eq_getElem?_getD, List.getElem?_map, List.getElem?_eq_getElem (show c < r.length by omega), List.getElem?_eq_getElem (by omega)]
      simp
    · rintro l ρ' ⟨rfl, rfl⟩
      walk_at "ev go"
      refine ⟨?_, rfl⟩
      show _ = D.tup ((r0 :: b').map fun r => D.int (r.getD (0 + (c : Int)).toNat 0))
      rw [List.map_map]
      congr 1
      apply List.map_congr_left
      intro r hr
      have er := k2 r hr
      show (r.map D.int).getD c .non = _
      rw [show (0 + (c : Int)).toNat = c by omega, List.getD_eq_getElem?_getD, List.getD_eq_getElem?_getD, List.getElem?_map, List.getElem?_eq_getElem (show c < r.length by omega)]
      rfl
  · rintro l ρ' ⟨rfl, rfl⟩
    walk_at "ev go"
    refine ⟨?_, rfl⟩
    unfold encB turnB
    rw [show ((r0 :: b').headD []).length = w from e0, rngD_eq, List.map_map, List.map_map, show ((w : Nat) : Int).toNat = w by omega]
    congr 2
    apply List.map_congr_left
    intro c _
    show D.tup ((r0 :: b').map fun r => D.int (r.getD (0 + (c : Int)).toNat 0)) = D.tup (((r0 :: b').map fun r => r.getD c 0).map D.int)
    rw [List.map_map, show (0 + (c : Int)).toNat = c by omega]
    rfl

/-- times: 0 one, 1 other, 2 lines, 3 line, 4 column, 5 a, 6 b -/
def b_times : M Flw :=
  (seqM (mIf (mB (mOp2 dNe (.ev (mOpN dLenA [(.ev (mOp2 dIxA (.pk 0) (.ev (mC (.int 0)))))])) (.ev (mOpN dLenA [(.pk 1)])))) (mRaise1 2 (mC (.int 1))) (retM .nx))
  (seqM (mSet 2 (callM S_turned_box [(.ev (mVar 1))]))
  (mRet (shM (mOpN dTuple [(.ev (vaM (altM (isOwnL 0) (compN 0 [3] (toName 3) (retM true) (mOpN dTuple [(.ev (vaM (altM (isOwnL 2) (compN 2 [4] (toName 4) (retM true) (mOpN dSumA [(.ev (vaM (compM [5, 6] (mRng zipB (mEach [(mVar 3), (mVar 4)])) (toTup [(toName 5), (toName 6)]) (retM true) (mOp2 dMul (.pk 5) (.pk 6)))))])) (compM [4] (mIter (mVar 2)) (toName 4) (retM true) (mOpN dSumA [(.ev (vaM (compM [5, 6] (mRng zipB (mEach [(mVar 3), (mVar 4)])) (toTup [(toName 5), (toName 6)]) (retM true) (mOp2 dMul (.pk 5) (.pk 6)))))])))))])) (compM [3] (mIter (mVar 0)) (toName 3) (retM true) (mOpN dTuple [(.ev (vaM (altM (isOwnL 2) (compN 2 [4] (toName 4) (retM true) (mOpN dSumA [(.ev (vaM (compM [5, 6] (mRng zipB (mEach [(mVar 3), (mVar 4)])) (toTup [(toName 5), (toName 6)]) (retM true) (mOp2 dMul (.pk 5) (.pk 6)))))])) (compM [4] (mIter (mVar 2)) (toName 4) (retM true) (mOpN dSumA [(.ev (vaM (compM [5, 6] (mRng zipB (mEach [(mVar 3), (mVar 4)])) (toTup [(toName 5), (toName 6)]) (retM true) (mOp2 dMul (.pk 5) (.pk 6)))))])))))])))))])))))
def S_times : List Sl → FR := runF 5 b_times
theorem map_range_get {α β : Type} {l : List α} {n : Nat} {d : α} (hl : l.length = n) (f : α → β) : l.map f = (List.range n).map fun i => f (l.getD i d) := by
  subst hl
  apply List.ext_getElem?
  intro i
  by_cases hi : i < l.length
  · rw [List.getElem?_map, List.getElem?_map, List.getElem?_range hi, List.getElem?_eq_getElem hi]
    show some (f l[i]) = some (f (l.getD i d))
    rw [List.getD_eq_getElem?_getD, List.getElem?_eq_getElem hi]
    rfl
  · rw [List.getElem?_eq_none (by simp; omega), List.getElem?_eq_none (by simp; omega)]
def dotL (r col : List Int) : Int := ((r.zip col).map fun p => p.1 * p.2).sum
theorem dot_eq {m w : Nat} {b : List (List Int)} (kb : BoxOk m w b) {r : List Int} (hr : r.length = m) (c : Nat) : dotL r (b.map fun x => x.getD c 0) = ((List.range m).map fun k => r.getD k 0 * at2 b k c).sum := by
  unfold dotL
  congr 1
  apply List.ext_getElem
  · have := kb.1
    simp
    omega
  · intro k h1 h2
    have hk : k < m := by simpa using h2
    have h3 : k < r.length := by omega
    have h4 : k < b.length := by rw [kb.1]; exact hk
    simp only [List.getElem_map, List.getElem_zip, List.getElem_range]
    unfold at2
    rw [List.getD_eq_getElem?_getD (l := r), List.getElem?_eq_getElem h3, List.getD_eq_getElem?_getD (l := b), List.getElem?_eq_getElem h4]
    rfl
theorem rows_eq {h m w : Nat} {a b : List (List Int)} (ka : BoxOk h m a) (kb : BoxOk m w b) (m0 : 0 < m) : (a.map fun r => (turnB b).map fun col => dotL r col) = mulF a b := by
  rw [mulF_eq ka kb m0, map_range_get (d := []) ka.1]
  refine map_congr_range fun i hi => ?_
  have hr : (a.getD i []).length = m := by
    rw [List.getD_eq_getElem?_getD, List.getElem?_eq_getElem (show i < a.length by rw [ka.1]; exact hi)]
    exact ka.2 _ (List.getElem_mem _)
  unfold turnB
  rw [head_len kb m0, List.map_map]
  refine map_congr_range fun c _ => ?_
  exact dot_eq kb hr c
theorem zip_enc : ∀ (r col : List Int), zipD (r.map D.int) (col.map D.int) = (r.zip col).map fun p => D.tup [.int p.1, .int p.2]
  | [], _ => rfl
  | _ :: _, [] => rfl
  | x :: r, y :: col => by simp only [List.map_cons, zipD, List.zip_cons_cons]; rw [zip_enc r col]
theorem zip_mem {A B : Nat} {r col : List Int} (h1 : ∀ z ∈ r, z.natAbs ≤ A) (h2 : ∀ z ∈ col, z.natAbs ≤ B) : ∀ p ∈ r.zip col, p.1.natAbs ≤ A ∧ p.2.natAbs ≤ B := fun p hp => ⟨h1 _ (List.of_mem_zip hp).1, h2 _ (List.of_mem_zip hp).2⟩
theorem turn_lim {h w B : Nat} {b : List (List Int)} (l : Lim B b) : Lim B (turnB b) := fun r hr z hz => by
  unfold turnB at hr
  obtain ⟨c, _, rfl⟩ := List.mem_map.mp hr
  obtain ⟨x, hx, rfl⟩ := List.mem_map.mp hz
  rw [List.getD_eq_getElem?_getD]
  cases e : x[c]? with
  | none => simp
  | some y => exact l x hx y (List.mem_of_getElem? e)
/-- a number that can be multiplied -/
def Fits (A : Nat) : Prop := A < 2 ^ 400000
theorem Fits.log {A : Nat} (h : Fits A) {x : Int} (hx : x.natAbs ≤ A) : x.natAbs.log2 ≤ 400000 := by
  by_cases e : x.natAbs = 0
  · rw [e]; simp
  · exact Nat.le_of_lt ((Nat.log2_lt e).mpr (Nat.lt_of_le_of_lt hx h))
theorem v_mulN {x y : Int} {K : D → Prop} {A B : Nat} (hA : Fits A) (hB : Fits B) (hx : x.natAbs ≤ A) (hy : y.natAbs ≤ B) (k : K (.int (x * y))) : On (dMul (.int x) (.int y)) K :=
  v_mul (Nat.lt_of_le_of_lt (Nat.add_le_add (hA.log hx) (hB.log hy)) (by decide)) k
theorem fits_of {A k : Nat} (h : A < 2 ^ k) (hk : k ≤ 400000) : Fits A := Nat.lt_of_lt_of_le h (Nat.pow_le_pow_right (by decide) hk)
theorem times_okG {h m w A B : Nat} {a b : List (List Int)} (ka : BoxOk h m a) (kb : BoxOk m w b) (h0 : 0 < h) (m0 : 0 < m) (hh : h ≤ 1000) (hm : m ≤ 1000) (hw : w ≤ 1000) (la : Lim A a) (lb : Lim B b) (hA : Fits A) (hB : Fits B) :
    SatFX (S_times [.sh (encB a), .sh (encB b)]) (fun s o => s = .sh (encB (mulF a b)) ∧ o = [.emp, .emp]) fun _ _ _ => False := by
  obtain ⟨r0, a', rfl⟩ : ∃ r0 a', a = r0 :: a' := by cases a with | nil => have := ka.1; simp at this; omega | cons r a => exact ⟨r, a, rfl⟩
  have e0 : r0.length = m := ka.2 r0 List.mem_cons_self
  have eb : b.length = m := kb.1
  have ea : a'.length + 1 = h := ka.1
  have kt := turnB_ok kb m0
  have ltb : (turnB b).length = w := kt.1
  have lt := turn_lim (h := m) (w := w) lb
  unfold S_times
  walk_at "ev startx"
  unfold b_times
  walk_at "ev go"
  refine v_ixTt (x := encR r0) (by decide) rfl ?_
  unfold encR
  walk_at "ev go"
  rw [List.length_map, e0]
  refine k_on (show dLenA [encB b] = some (.int (m : Nat)) from ?_) ?_
  · show some (D.int ((b.map encR).length : Nat)) = _
    rw [List.length_map, eb]
  walk_at "ev go"
  refine k_ifdt rfl ?_
  walk_at "ev go"
  with_reducible refine kx_callF (tbox_ok kb m0 hm hw) ?_
  rintro _ _ ⟨rfl, rfl⟩
  walk_at "ev go"
  refine v_itB ?_
  walk_at "ev go"
  refine Sat_mono (compL_map (fun r => encR ((turnB b).map fun col => dotL r col)) (r0 :: a') fun r hr => ?_) ?_
  · have er := ka.2 r hr
    walk_at "ev go"
    refine ⟨rfl, ?_⟩
    walk_at "ev go"
    refine v_itB ?_
    walk_at "ev go"
    refine Sat_mono (compL_map (fun col => D.int (dotL r col)) (turnB b) fun col hcol => ?_) ?_
    · have ec := kt.2 col hcol
      walk_at "ev go"
      refine ⟨rfl, ?_⟩
      walk_at "ev go"
      refine k_on (show zipB [encR r, encR col] = some ((r.zip col).map fun p => D.tup [.int p.1, .int p.2]) from congrArg some (zip_enc r col)) ?_
      walk_at "ev go"
      refine Sat_mono (compL_map (fun p : Int × Int => D.int (p.1 * p.2)) (r.zip col) fun p hp => ?_) ?_
      · have q := zip_mem (la r hr) (lt col hcol) p hp
        walk_at "ev go"
        refine ⟨rfl, ?_⟩
        walk_at "ev go"
        refine v_mulN hA hB q.1 q.2 ?_
        walk_at "ev go"
        exact ⟨rfl, rfl⟩
      · rintro l ρ' ⟨rfl, rfl⟩
        walk_at "ev go"
        rw [show (r.zip col).map (fun p => D.int (p.1 * p.2)) = ((r.zip col).map fun p => p.1 * p.2).map D.int by rw [List.map_map]; rfl]
        refine v_sum ?_
        exact ⟨rfl, rfl⟩
    · rintro l ρ' ⟨rfl, rfl⟩
      walk_at "ev go"
      refine ⟨?_, rfl⟩
      unfold encR
      rw [List.map_map]
      rfl
  · rintro l ρ' ⟨rfl, rfl⟩
    walk_at "ev go"
    refine ⟨?_, rfl⟩
    rw [← rows_eq ka kb m0]
    unfold encB
    rw [List.map_map]
    rfl
theorem times_ok {h m w A B : Nat} {a b : List (List Int)} (ka : BoxOk h m a) (kb : BoxOk m w b) (h0 : 0 < h) (m0 : 0 < m) (hh : h ≤ 1000) (hm : m ≤ 1000) (hw : w ≤ 1000) (la : Lim A a) (lb : Lim B b) (hA : A < 2 ^ 90) (hB : B < 2 ^ 90) :
    SatFX (S_times [.sh (encB a), .sh (encB b)]) (fun s o => s = .sh (encB (mulF a b)) ∧ o = [.emp, .emp]) fun _ _ _ => False := times_okG ka kb h0 m0 hh hm hw la lb (fits_of hA (by decide)) (fits_of hB (by decide))
theorem times_bad {a b : List (List Int)} (h0 : 0 < a.length) (hl : b.length ≤ 1000) (hn : (a.headD []).length ≠ b.length) :
    SatFX (S_times [.sh (encB a), .sh (encB b)]) (fun _ _ => False) fun c l o => c = 2 ∧ l = [.int 1] ∧ o = [.emp, .emp] := by
  obtain ⟨r0, a', rfl⟩ : ∃ r0 a', a = r0 :: a' := by cases a with | nil => simp at h0 | cons r a => exact ⟨r, a, rfl⟩
  have hn' : r0.length ≠ b.length := hn
  unfold S_times
  walk_at "ev startx"
  unfold b_times
  walk_at "ev go"
  refine v_ixTt (x := encR r0) (by decide) rfl ?_
  unfold encR
  walk_at "ev go"
  rw [List.length_map]
  refine k_on (show dLenA [encB b] = some (.int (b.length : Nat)) from ?_) ?_
  · show some (D.int ((b.map encR).length : Nat)) = _
    rw [List.length_map]
  walk_at "ev go"
  refine k_ifdf (by omega) ?_
  walk_at "ev go"
  exact ⟨rfl, rfl, rfl⟩

/-- _law_times: 0 _law_one, 1 _law_other, 2 _law_rows, 3 _law_r, 4 _law_line, 5 _law_c, 6 _law_k -/
def b_l_times : M Flw :=
  (seqM (mSet 2 (aLst (mEach [])))
  (seqM (mFor (mRng rng1 (mEach [(mOpN dLenA [(.pk 0)])])) (toName 3) (seqM (mSet 4 (aLst (mEach [])))
    (seqM (mFor (mRng rng1 (mEach [(mOpN dLenA [(.ev (mOp2 dIxA (.pk 1) (.ev (mC (.int 0)))))])])) (toName 5) (mDo (mMeth D.isL 4 (mEach [(mOpN dSumA [(.ev (vaM (compM [6] (mRng rng1 (mEach [(mOpN dLenA [(.pk 1)])])) (toName 6) (retM true) (mOp2 dMul (.ev (mOp2 dIxA (.ev (mOp2 dIxA (.pk 0) (.pk 3))) (.pk 6))) (.ev (mOp2 dIxA (.ev (mOp2 dIxA (.pk 1) (.pk 6))) (.pk 5)))))))])]) fApp)))
    (mDo (mMeth D.isL 2 (mEach [(mOpN dTuple [(.pk 4)])]) fApp)))))
  (mRet (shM (mOpN dTuple [(.pk 2)])))))
def S_l_times : List Sl → FR := runF 5 b_l_times
theorem v_ixB {b : List (List Int)} {i : Nat} {K : D → Prop} (h1 : i < b.length) (k : K (encR (b.getD i []))) : On (dIxA (encB b) (.int i)) K := by
  refine v_ixTt (x := encR (b.getD i [])) (by omega) ?_ k
  rw [Int.toNat_natCast, List.getElem?_map, List.getD_eq_getElem?_getD, List.getElem?_eq_getElem h1]
  rfl
theorem v_ixB0 {b : List (List Int)} {K : D → Prop} (h1 : 0 < b.length) (k : K (encR (b.getD 0 []))) : On (dIxA (encB b) (.int 0)) K := v_ixB (i := 0) h1 k
theorem v_ixR {r : List Int} {i : Nat} {K : D → Prop} (h1 : i < r.length) (k : K (.int (r.getD i 0))) : On (dIxA (encR r) (.int i)) K := by
  refine v_ixTI (by omega) (by omega) ?_
  rw [Int.toNat_natCast]
  exact k
theorem v_lenB {b : List (List Int)} {K : D → Prop} (k : K (.int b.length)) : On (dLenA [encB b]) K := by
  refine k_on (x := .int b.length) ?_ k
  show some (D.int ((b.map encR).length : Nat)) = _
  rw [List.length_map]
theorem v_lenR {r : List Int} {K : D → Prop} (k : K (.int r.length)) : On (dLenA [encR r]) K := by
  refine k_on (x := .int r.length) ?_ k
  show some (D.int ((r.map D.int).length : Nat)) = _
  rw [List.length_map]
theorem row_len {h w : Nat} {b : List (List Int)} (k : BoxOk h w b) {i : Nat} (hi : i < h) : (b.getD i []).length = w := by
  rw [List.getD_eq_getElem?_getD, List.getElem?_eq_getElem (show i < b.length by rw [k.1]; exact hi)]
  exact k.2 _ (List.getElem_mem _)
/-- the law's own product -/
theorem ltimes_ok {h m w A B : Nat} {a b : List (List Int)} (ka : BoxOk h m a) (kb : BoxOk m w b) (h0 : 0 < h) (m0 : 0 < m) (hh : h ≤ 1000) (hm : m ≤ 1000) (hw : w ≤ 1000) (la : Lim A a) (lb : Lim B b) (hA : A < 2 ^ 90) (hB : B < 2 ^ 90) :
    SatF (S_l_times [.sh (encB a), .sh (encB b)]) fun s o => s = .sh (encB (mulF a b)) ∧ o = [.emp, .emp] := by
  have ea := ka.1
  have eb := kb.1
  have hd0 := row_len kb m0
  have row : ∀ i, i < h → (List.range w).map (fun c => ((List.range m).map fun k => at2 a i k * at2 b k c).sum) = (List.range w).map (fun c => ((List.range m).map fun k => at2 a i k * at2 b k c).sum) := fun _ _ => rfl
  unfold S_l_times
  walk_at "ev start"
  unfold b_l_times
  walk_at "ev go"

  with_reducible refine v_lenB ?_
  walk_at "ev go"
  refine forL_inv (fun ds ρ => ∃ (i : Nat) (s3 s4 s5 : Sl), i ≤ h ∧ ds = rngD i (h - i) ∧ ρ = [.sh (encB a), .sh (encB b), .ow (.lst (((List.range i).map fun i => (List.range w).map fun c => ((List.range m).map fun k => at2 a i k * at2 b k c).sum).map encR)), s3, s4, s5, .emp]) ?_ ?_ _ _ ⟨0, .emp, .emp, .emp, Nat.zero_le _, by rw [ea]; rfl, rfl⟩
  · intro d ds ρ hI
    obtain ⟨i, s3, s4, s5, hi, e, hρ⟩ := hI
    subst hρ
    generalize hc : h - i = c at e
    cases c with
    | zero => cases e
    | succ c =>
      cases e
      have hi' : i < h := by omega
      have rl := row_len ka hi'
      walk_at "ev go"
      with_reducible refine v_ixB0 ?_ ?_
      · omega
      walk_at "ev go"
      with_reducible refine v_lenR ?_
      rw [hd0]
      walk_at "ev go"
      refine forL_inv (fun ds ρ => ∃ (j : Nat) (s5 : Sl), j ≤ w ∧ ds = rngD j (w - j) ∧ ρ = [.sh (encB a), .sh (encB b), .ow (.lst (((List.range i).map fun i => (List.range w).map fun c => ((List.range m).map fun k => at2 a i k * at2 b k c).sum).map encR)), .sh (.int i), .ow (.lst (((List.range j).map fun c => ((List.range m).map fun k => at2 a i k * at2 b k c).sum).map D.int)), s5, .emp]) ?_ ?_ _ _ ⟨0, s5, Nat.zero_le _, rfl, rfl⟩
      · intro d ds ρ hI
        obtain ⟨j, s5, hj, e, hρ⟩ := hI
        subst hρ
        generalize hc2 : w - j = c2 at e
        cases c2 with
        | zero => cases e
        | succ c2 =>
          cases e
          walk_at "ev go"
          with_reducible refine v_lenB ?_
          rw [eb]
          walk_at "ev go"
          rw [rngD_eq]
          refine Sat_mono (compL_map (enc := fun k => D.int (0 + (k : Nat))) (fun k => D.int (at2 a i k * at2 b k j)) (List.range m) fun k hk => ?_) ?_
          · have hk' := List.mem_range.mp hk
            have rb := row_len kb hk'
            have q1 := at2_lim la i k
            have q2 := at2_lim lb k j
            walk_at "ev go"
            refine ⟨rfl, ?_⟩
            walk_at "ev go"
            rw [Int.zero_add]
            with_reducible refine v_ixB ?_ ?_
            · omega
            walk_at "ev go"
            with_reducible refine v_ixR ?_ ?_
            · omega
            walk_at "ev go"
            with_reducible refine v_ixB ?_ ?_
            · omega
            walk_at "ev go"
            with_reducible refine v_ixR ?_ ?_
            · omega
            unfold at2 at q1 q2
            walk_at "ev go"
            exact ⟨rfl, rfl⟩
          · rintro l ρ' ⟨rfl, rfl⟩
            walk_at "ev go"
            rw [show (List.range m).map (fun k => D.int (at2 a i k * at2 b k j)) = ((List.range m).map fun k => at2 a i k * at2 b k j).map D.int by rw [List.map_map]; rfl]
            refine v_sum ?_
            walk_at "ev go"
            have key : ((List.range j).map fun c => ((List.range m).map fun k => at2 a i k * at2 b k c).sum).map D.int ++ [D.int ((List.range m).map fun k => at2 a i k * at2 b k j).sum] = ((List.range (j + 1)).map fun c => ((List.range m).map fun k => at2 a i k * at2 b k c).sum).map D.int := by
              rw [List.range_succ, List.map_append, List.map_append]
              rfl
            rw [key]
            exact ⟨j + 1, _, by omega, by congr 1; omega, rfl⟩
      · intro ρ hI
        obtain ⟨j, s5, hj, e, hρ⟩ := hI
        subst hρ
        have hz : j = w := by
          cases c2 : w - j with
          | zero => omega
          | succ c' => rw [c2] at e; cases e
        subst hz
        walk_at "ev go"
        have key : ((List.range i).map fun i => (List.range j).map fun c => ((List.range m).map fun k => at2 a i k * at2 b k c).sum).map encR ++ [D.tup (((List.range j).map fun c => ((List.range m).map fun k => at2 a i k * at2 b k c).sum).map D.int)] = ((List.range (i + 1)).map fun i => (List.range j).map fun c => ((List.range m).map fun k => at2 a i k * at2 b k c).sum).map encR := by
          rw [List.range_succ, List.map_append, List.map_append]
          rfl
        rw [key]
        exact ⟨i + 1, _, _, _, by omega, by congr 1; omega, rfl⟩
  · rintro ρ ⟨i, s3, s4, s5, hi, e, rfl⟩
    have hz : i = h := by
      cases c : h - i with
      | zero => omega
      | succ c' => rw [c] at e; cases e
    subst hz
    walk_at "ev go"
    refine ⟨?_, rfl⟩
    rw [mulF_eq ka kb m0]
    rfl

/-- many_between: 0 one, 1 other -/
def b_many_between : M Flw :=
  (mRet (shM (mOp2 dMul (.ev (mOp2 dMul (.ev (mOpN dLenA [(.pk 0)])) (.ev (mOpN dLenA [(.pk 1)])))) (.ev (mOpN dLenA [(.ev (mOp2 dIxA (.pk 1) (.ev (mC (.int 0)))))])))))
def S_many_between : List Sl → FR := runF 0 b_many_between
theorem between_ok {h m w : Nat} {a b : List (List Int)} (ka : BoxOk h m a) (kb : BoxOk m w b) (m0 : 0 < m) (hh : h ≤ 1000) (hm : m ≤ 1000) (hw : w ≤ 1000) : SatF (S_many_between [.sh (encB a), .sh (encB b)]) fun s o => s = .sh (.int (h * m * w)) ∧ o = [.emp, .emp] := by
  have ea := ka.1
  have eb := kb.1
  have hd0 := row_len kb m0
  unfold S_many_between
  walk_at "ev start"
  unfold b_many_between
  walk_at "ev go"
  with_reducible refine v_lenB ?_
  walk_at "ev go"
  with_reducible refine v_lenB ?_
  rw [ea, eb]
  walk_at "ev go"
  with_reducible refine v_ixB0 ?_ ?_
  · omega
  walk_at "ev go"
  with_reducible refine v_lenR ?_
  rw [hd0]
  have q : ((h : Int) * m).natAbs ≤ 1000 * 1000 := by
    rw [Int.natAbs_mul]
    exact Nat.mul_le_mul (by omega) (by omega)
  walk_at "ev go"
  exact ⟨rfl, rfl⟩

/-- run_part: 0 boxes, 1 part, 2 steps, 3 left, 4 right -/
def b_run_part (S : List Sl → FR) : M Flw :=
  (seqM (mIf (mNot (mTru (mOpN (dIsi .tup) [(.pk 1)]))) (mRet (shM (mTup (mEach [(mVar 1), (mVar 1), (mOp2 dIxA (.pk 0) (.pk 1))])))) (retM .nx))
  (seqM (mSet 3 (callM S [(.ev (mVar 0)), (.ev (mOp2 dIxA (.pk 1) (.ev (mC (.int 0))))), (.pk 2)]))
  (seqM (mSet 4 (callM S [(.ev (mVar 0)), (.ev (mOp2 dIxA (.pk 1) (.ev (mC (.int 1))))), (.pk 2)]))
  (seqM (mDo (mMeth D.isL 2 (mEach [(mTup (mEach [(mOp2 dIxA (.pk 3) (.ev (mC (.int 0)))), (mOp2 dIxA (.pk 4) (.ev (mC (.int 1)))), (vaM (callM S_many_between [(.ev (mOp2 dIxA (.pk 3) (.ev (mC (.int 2))))), (.ev (mOp2 dIxA (.pk 4) (.ev (mC (.int 2)))))]))]))]) fApp))
  (mRet (shM (mTup (mEach [(mOp2 dIxA (.pk 3) (.ev (mC (.int 0)))), (mOp2 dIxA (.pk 4) (.ev (mC (.int 1)))), (vaM (callM S_times [(.ev (mOp2 dIxA (.pk 3) (.ev (mC (.int 2))))), (.ev (mOp2 dIxA (.pk 4) (.ev (mC (.int 2)))))]))]))))))))
def F_run_part : Nat → List Sl → FR
  | 0 => fun _ => .no
  | n + 1 => runF 2 (b_run_part (F_run_part n))
def S_run_part : List Sl → FR := F_run_part 64
/-! boxes run by brackets -/
def MM : Nat := 12000000000000
structure Boxes (ds : Nat → Nat) (bs : List (List (List Int))) : Prop where
  ok : ∀ i, i < bs.length → BoxOk (ds i) (ds (i + 1)) (bs.getD i [])
  pos : ∀ i, i ≤ bs.length → 1 ≤ ds i ∧ ds i ≤ 12
  lim : ∀ i, i < bs.length → Lim 1000000000000 (bs.getD i [])
def LimL (L : Nat) (b : List (List Int)) : Prop := Lim (MM ^ L / 12) b
theorem limL_mul {h m w L L' : Nat} {a b : List (List Int)} (ka : BoxOk h m a) (kb : BoxOk m w b) (m0 : 0 < m) (hm : m ≤ 12) (la : LimL L a) (lb : LimL L' b) : LimL (L + L') (mulF a b) := by
  refine (mulF_lim ka kb m0 la lb).mono ?_
  rw [Nat.le_div_iff_mul_le (by decide), Nat.pow_add]
  have h1 : MM ^ L / 12 * 12 ≤ MM ^ L := Nat.div_mul_le_self _ _
  have h2 : MM ^ L' / 12 * 12 ≤ MM ^ L' := Nat.div_mul_le_self _ _
  refine Nat.le_trans ?_ (Nat.mul_le_mul h1 h2)
  obtain ⟨x, ex⟩ : ∃ x, MM ^ L / 12 = x := ⟨_, rfl⟩
  obtain ⟨y, ey⟩ : ∃ y, MM ^ L' / 12 = y := ⟨_, rfl⟩
  rw [ex, ey]
  have e1 : m * (x * y) * 12 = (m * 12) * (x * y) := by rw [Nat.mul_right_comm]
  have e2 : x * 12 * (y * 12) = (12 * 12) * (x * y) := by rw [Nat.mul_mul_mul_comm, Nat.mul_comm (x * y)]
  rw [e1, e2]
  exact Nat.mul_le_mul_right _ (Nat.mul_le_mul_right _ hm)
theorem limL_fits {L : Nat} (h : L ≤ 1000) : Fits (MM ^ L / 12) := by
  refine fits_of (k := 44 * L + 1) (Nat.lt_of_le_of_lt (Nat.div_le_self _ _) ?_) (by omega)
  rw [Nat.pow_succ, Nat.pow_mul]
  have h1 : MM ^ L ≤ (2 ^ 44) ^ L := Nat.pow_le_pow_left (by decide) L
  have h2 : 0 < (2 ^ 44) ^ L := Nat.pow_pos (by decide)
  omega
def Br.fst : Br → Int
  | .leaf i => i
  | .node l _ => l.fst
def Br.lst : Br → Int
  | .leaf i => i
  | .node _ r => r.lst
theorem Br.On.fst : ∀ {t : Br} {a b : Int}, t.On a b → t.fst = a
  | .leaf _, _, _, h => h.1
  | .node l r, _, _, h => by obtain ⟨c, _, _, h1, _⟩ := h; exact h1.fst
theorem Br.On.lst : ∀ {t : Br} {a b : Int}, t.On a b → t.lst = b
  | .leaf _, _, _, h => h.1.trans h.2
  | .node l r, _, _, h => by obtain ⟨c, _, _, _, h1⟩ := h; exact h1.lst
def runP (bs : List (List (List Int))) : Br → List (List Int)
  | .leaf i => bs.getD i.toNat []
  | .node l r => mulF (runP bs l) (runP bs r)
def stepOf (ds : Nat → Nat) (l r : Br) : Int := (ds l.fst.toNat : Int) * (ds (l.lst.toNat + 1)) * (ds (r.lst.toNat + 1))
def runS (ds : Nat → Nat) : Br → List D
  | .leaf _ => []
  | .node l r => runS ds l ++ runS ds r ++ [.tup [.int l.fst, .int r.lst, .int (stepOf ds l r)]]
theorem runS_len (ds : Nat → Nat) : ∀ t : Br, (runS ds t).length + 1 = t.len
  | .leaf _ => rfl
  | .node l r => by
    have h1 := runS_len ds l
    have h2 := runS_len ds r
    rw [runS, Br.len, List.length_append, List.length_append]
    simp only [List.length_cons, List.length_nil]
    omega
theorem runP_ok {ds : Nat → Nat} {bs : List (List (List Int))} (B : Boxes ds bs) : ∀ {t : Br} {a b : Int}, t.On a b → 0 ≤ a → b < bs.length → BoxOk (ds a.toNat) (ds (b.toNat + 1)) (runP bs t) ∧ LimL t.len (runP bs t)
  | .leaf i, a, b, h, h0, h1 => by
    obtain ⟨rfl, rfl⟩ := h
    refine ⟨B.ok _ (by omega), (B.lim _ (by omega)).mono ?_⟩
    show 1000000000000 ≤ MM ^ 1 / 12
    decide
  | .node l r, a, b, h, h0, h1 => by
    obtain ⟨c, c0, c1, hl, hr⟩ := h
    obtain ⟨k1, l1⟩ := runP_ok B hl h0 (by omega)
    obtain ⟨k2, l2⟩ := runP_ok B hr (by omega) h1
    rw [show (c + 1).toNat = c.toNat + 1 by omega] at k2
    have p := B.pos (c.toNat + 1) (by omega)
    exact ⟨mulF_ok k1 k2 p.1, limL_mul k1 k2 p.1 p.2 l1 l2⟩
theorem satF_ofX {x : FR} {R : Sl → List Sl → Prop} (h : SatFX x R fun _ _ _ => False) : SatF x R := by
  cases x with
  | ok s o => exact h
  | ex c l o => exact h.elim
  | no => exact h
theorem v_ixBs {bs : List (List (List Int))} {i : Int} {K : D → Prop} (h0 : 0 ≤ i) (h1 : i < bs.length) (k : K (encB (bs.getD i.toNat []))) : On (dIxA (.lst (bs.map encB)) (.int i)) K := by
  refine v_ixLt h0 ?_ k
  rw [List.getElem?_map, List.getD_eq_getElem?_getD, List.getElem?_eq_getElem (show i.toNat < bs.length by omega)]
  rfl
def RunSp (ds : Nat → Nat) (bs : List (List (List Int))) (S : List Sl → FR) (N : Nat) : Prop := ∀ {t : Br} {a b : Int} {st : List D}, t.On a b → 0 ≤ a → b < bs.length → t.depth < N → st.length + t.len ≤ 1000 → SatF (S [.sh (.lst (bs.map encB)), .sh t.enc, .io (.lst st)]) fun s o => s = .sh (.tup [.int a, .int b, encB (runP bs t)]) ∧ o = [.emp, .emp, .io (.lst (st ++ runS ds t))]
theorem run_step {ds : Nat → Nat} {bs : List (List (List Int))} (B : Boxes ds bs) {S : List Sl → FR} {N : Nat} (ih : RunSp ds bs S N) : RunSp ds bs (runF 2 (b_run_part S)) (N + 1) := by
  intro t a b st h h0 h1 hd hl
  walk_at "ev start"
  unfold b_run_part
  cases t with
  | leaf i =>
    obtain ⟨rfl, rfl⟩ := h
    simp only [Br.enc]
    walk_at "ev go"
    refine v_ixBs h0 h1 ?_
    walk_at "ev go"
    refine ⟨rfl, ?_⟩
    rw [runS, List.append_nil]
  | node l r =>
    obtain ⟨c, c0, c1, hl', hr'⟩ := id h
    have d1 : max l.depth r.depth + 1 < N + 1 := hd
    have e1 : st.length + (l.len + r.len) ≤ 1000 := hl
    have n1 := runS_len ds l
    have n2 := runS_len ds r
    obtain ⟨k1, l1⟩ := runP_ok B hl' h0 (by omega)
    obtain ⟨k2, l2⟩ := runP_ok B hr' (by omega) h1
    rw [show (c + 1).toNat = c.toNat + 1 by omega] at k2
    have p0 := B.pos a.toNat (by have := hl'.le; omega)
    have p1 := B.pos (c.toNat + 1) (by omega)
    have p2 := B.pos (b.toNat + 1) (by have := hr'.le; omega)
    simp only [Br.enc]
    walk_at "ev go"
    have sl := ih (st := st) hl' h0 (by omega) (by omega) (by omega)
    with_reducible refine k_call sl ?_
    rintro _ _ ⟨rfl, rfl⟩
    walk_at "ev go"
    have sr := ih (st := st ++ runS ds l) hr' (by omega) h1 (by omega) (by rw [List.length_append]; omega)
    with_reducible refine k_call sr ?_
    rintro _ _ ⟨rfl, rfl⟩
    walk_at "ev go"
    with_reducible refine k_call (between_ok k1 k2 ?_ ?_ ?_ ?_) ?_
    · omega
    · omega
    · omega
    · omega
    rintro _ _ ⟨rfl, rfl⟩
    have hlen : (st ++ runS ds l ++ runS ds r).length < 1000 := by rw [List.length_append, List.length_append]; omega
    walk_at "ev go"
    have q := satF_ofX (times_okG k1 k2 (by omega) (by omega) (by omega) (by omega) (by omega) l1 l2 (limL_fits (by omega)) (limL_fits (by omega)))
    with_reducible refine k_call q ?_
    rintro _ _ ⟨rfl, rfl⟩
    walk_at "ev go"
    refine ⟨rfl, ?_⟩
    rw [runS, stepOf, hl'.fst, hr'.lst, hl'.lst]
    simp only [List.append_assoc]
theorem run_at {ds : Nat → Nat} {bs : List (List (List Int))} (B : Boxes ds bs) : ∀ N : Nat, RunSp ds bs (F_run_part N) N
  | 0 => fun _ _ _ h _ => absurd h (by omega)
  | N + 1 => run_step B (run_at B N)
theorem runpart_ok {ds : Nat → Nat} {bs : List (List (List Int))} (B : Boxes ds bs) {t : Br} {b : Int} {st : List D} (h : t.On 0 b) (h1 : b < bs.length) (hl : bs.length ≤ 60) (hs : st.length ≤ 100) : SatF (S_run_part [.sh (.lst (bs.map encB)), .sh t.enc, .io (.lst st)]) fun s o => s = .sh (.tup [.int 0, .int b, encB (runP bs t)]) ∧ o = [.emp, .emp, .io (.lst (st ++ runS ds t))] :=
  run_at B 64 h (Int.le_refl _) h1 (by have := h.dep; omega) (by have := h.len; omega)

/-- _law_times: 0 _law_one, 1 _law_other, 2 _law_found, 3 _law_line, 4 _law_row, 5 _law_c, 6 _law_k -/
def b_l_times_2 : M Flw :=
  (seqM (mSet 2 (aLst (mEach [])))
  (seqM (mForN 0 (toName 3) (seqM (mSet 4 (aLst (mEach [])))
    (seqM (mFor (mRng rng1 (mEach [(mOpN dLenA [(.ev (mOp2 dIxA (.pk 1) (.ev (mC (.int 0)))))])])) (toName 5) (mDo (mMeth D.isL 4 (mEach [(mOpN dSumA [(.ev (vaM (compM [6] (mRng rng1 (mEach [(mOpN dLenA [(.pk 1)])])) (toName 6) (retM true) (mOp2 dMul (.ev (mOp2 dIxA (.pk 3) (.pk 6))) (.ev (mOp2 dIxA (.ev (mOp2 dIxA (.pk 1) (.pk 6))) (.pk 5)))))))])]) fApp)))
    (mDo (mMeth D.isL 2 (mEach [(mOpN dTuple [(.pk 4)])]) fApp)))))
  (mRet (shM (mOpN dTuple [(.pk 2)])))))
def S_l_times_2 : List Sl → FR := runF 5 b_l_times_2
theorem ltimes2_okG {h m w A B : Nat} {a b : List (List Int)} (ka : BoxOk h m a) (kb : BoxOk m w b) (m0 : 0 < m) (hh : h ≤ 1000) (hm : m ≤ 1000) (hw : w ≤ 1000) (la : Lim A a) (lb : Lim B b) (hA : Fits A) (hB : Fits B) :
    SatF (S_l_times_2 [.sh (encB a), .sh (encB b)]) fun s o => s = .sh (encB (mulF a b)) ∧ o = [.emp, .emp] := by
  have ea := ka.1
  have eb := kb.1
  have hd0 := row_len kb m0
  have fin : a.map (fun r => (List.range w).map fun c => ((List.range m).map fun k => r.getD k 0 * at2 b k c).sum) = mulF a b := by
    rw [mulF_eq ka kb m0, map_range_get (d := []) ka.1]
    rfl
  unfold S_l_times_2
  walk_at "ev start"
  unfold b_l_times_2
  walk_at "ev go"
  refine k_fsT (l := a.map encR) ?_
  refine forL_inv (fun ds ρ => ∃ (pre post : List (List Int)) (s3 s4 s5 : Sl), a = pre ++ post ∧ ds = post.map encR ∧ ρ = [.sh (encB a), .sh (encB b), .ow (.lst ((pre.map fun r => (List.range w).map fun c => ((List.range m).map fun k => r.getD k 0 * at2 b k c).sum).map encR)), s3, s4, s5, .emp]) ?_ ?_ _ _ ⟨[], a, .emp, .emp, .emp, rfl, rfl, rfl⟩
  · intro d ds ρ hI
    obtain ⟨pre, post, s3, s4, s5, ha, e, hρ⟩ := hI
    subst hρ
    cases post with
    | nil => cases e
    | cons r post =>
      cases e
      have hr : r ∈ a := by rw [ha]; simp
      have rl := ka.2 r hr
      have hpl : pre.length + (post.length + 1) = h := by rw [← ea, ha, List.length_append, List.length_cons]
      walk_at "ev go"
      with_reducible refine v_ixB0 ?_ ?_
      · omega
      walk_at "ev go"
      with_reducible refine v_lenR ?_
      rw [hd0]
      walk_at "ev go"
      refine forL_inv (fun ds ρ => ∃ (j : Nat) (s5 : Sl), j ≤ w ∧ ds = rngD j (w - j) ∧ ρ = [.sh (encB a), .sh (encB b), .ow (.lst ((pre.map fun r => (List.range w).map fun c => ((List.range m).map fun k => r.getD k 0 * at2 b k c).sum).map encR)), .sh (encR r), .ow (.lst (((List.range j).map fun c => ((List.range m).map fun k => r.getD k 0 * at2 b k c).sum).map D.int)), s5, .emp]) ?_ ?_ _ _ ⟨0, s5, Nat.zero_le _, rfl, rfl⟩
      · intro d ds ρ hI
        obtain ⟨j, s5, hj, e, hρ⟩ := hI
        subst hρ
        generalize hc2 : w - j = c2 at e
        cases c2 with
        | zero => cases e
        | succ c2 =>
          cases e
          walk_at "ev go"
          with_reducible refine v_lenB ?_
          rw [eb]
          walk_at "ev go"
          rw [rngD_eq]
          refine Sat_mono (compL_map (enc := fun k => D.int (0 + (k : Nat))) (fun k => D.int (r.getD k 0 * at2 b k j)) (List.range m) fun k hk => ?_) ?_
          · have hk' := List.mem_range.mp hk
            have rb := row_len kb hk'
            have q1 : (r.getD k 0).natAbs ≤ A := la r hr _ (by rw [List.getD_eq_getElem?_getD, List.getElem?_eq_getElem (show k < r.length by omega)]; exact List.getElem_mem _)
            have q2 := at2_lim lb k j
            walk_at "ev go"
            refine ⟨rfl, ?_⟩
            walk_at "ev go"
            rw [Int.zero_add]
            with_reducible refine v_ixR ?_ ?_
            · omega
            walk_at "ev go"
            with_reducible refine v_ixB ?_ ?_
            · omega
            walk_at "ev go"
            with_reducible refine v_ixR ?_ ?_
            · omega
            refine v_mulN hA hB q1 q2 ?_
            walk_at "ev go"
            exact ⟨rfl, rfl⟩
          · rintro l ρ' ⟨rfl, rfl⟩
            walk_at "ev go"
            rw [show (List.range m).map (fun k => D.int (r.getD k 0 * at2 b k j)) = ((List.range m).map fun k => r.getD k 0 * at2 b k j).map D.int by rw [List.map_map]; rfl]
            refine v_sum ?_
            walk_at "ev go"
            have key : ((List.range j).map fun c => ((List.range m).map fun k => r.getD k 0 * at2 b k c).sum).map D.int ++ [D.int ((List.range m).map fun k => r.getD k 0 * at2 b k j).sum] = ((List.range (j + 1)).map fun c => ((List.range m).map fun k => r.getD k 0 * at2 b k c).sum).map D.int := by
              rw [List.range_succ, List.map_append, List.map_append]
              rfl
            rw [key]
            exact ⟨j + 1, _, by omega, by congr 1; omega, rfl⟩
      · intro ρ hI
        obtain ⟨j, s5, hj, e, hρ⟩ := hI
        subst hρ
        have hz : j = w := by
          cases c2 : w - j with
          | zero => omega
          | succ c' => rw [c2] at e; cases e
        subst hz
        walk_at "ev go"
        exact ⟨pre ++ [r], post, _, _, _, by rw [ha]; simp, rfl, by rw [List.map_append, List.map_append]; rfl⟩
  · rintro ρ ⟨pre, post, s3, s4, s5, ha, e, rfl⟩
    cases post with
    | cons r post => cases e
    | nil =>
      rw [List.append_nil] at ha
      subst ha
      walk_at "ev go"
      refine ⟨?_, rfl⟩
      rw [← fin]
      rfl
theorem ltimes2_ok {h m w A B : Nat} {a b : List (List Int)} (ka : BoxOk h m a) (kb : BoxOk m w b) (m0 : 0 < m) (hh : h ≤ 1000) (hm : m ≤ 1000) (hw : w ≤ 1000) (la : Lim A a) (lb : Lim B b) (hA : A < 2 ^ 90) (hB : B < 2 ^ 90) :
    SatF (S_l_times_2 [.sh (encB a), .sh (encB b)]) fun s o => s = .sh (encB (mulF a b)) ∧ o = [.emp, .emp] := ltimes2_okG ka kb m0 hh hm hw la lb (fits_of hA (by decide)) (fits_of hB (by decide))

/-! things of whatever kind -/
def D.kd : D → Bool
  | .non => true
  | .bl _ => true
  | .int _ => true
  | .str _ => true
  | .tup _ => true
  | .lst _ => true
  | .dk _ _ => true
  | _ => false
def D.isW : D → Bool
  | .int _ => true
  | _ => false
def D.isSeq : D → Bool
  | .tup _ => true
  | .lst _ => true
  | _ => false
def D.isTup : D → Bool
  | .tup _ => true
  | _ => false
def D.its : D → List D
  | .tup l => l
  | .lst l => l
  | _ => []
theorem kd_isi2 {d : D} {K : D → Prop} (h : d.kd = true) (k : K (.bl d.isSeq)) : On (dIsi2 .lst .tup [d]) K := by
  cases d <;> first | exact k | cases h
theorem kd_isiT {d : D} {K : D → Prop} (h : d.kd = true) (k : K (.bl d.isTup)) : On (dIsi .tup [d]) K := by
  cases d <;> first | exact k | cases h
theorem kd_isiI {d : D} {K : D → Prop} (h : d.kd = true) (k : K (.bl (match d with | .int _ => true | .bl _ => true | _ => false))) : On (dIsi .int [d]) K := by
  cases d <;> first | exact k | cases h
theorem all_bls {bs : List Bool} : D.bls (bs.map D.bl) = some bs := by
  induction bs with
  | nil => rfl
  | cons b bs ih => show (D.bls (bs.map D.bl)).map (b :: ·) = _; rw [ih]; rfl
theorem v_all {bs : List Bool} {K : D → Prop} (k : K (.bl (bs.all id))) : On (dAll [.lst (bs.map D.bl)]) K := by
  refine k_on ?_ k
  show (D.bls (bs.map D.bl)).map _ = _
  rw [all_bls]
  rfl
/-- a comprehension that keeps some out -/
theorem compL_filter {α : Type} {enc : α → D} {vs : List Nat} {f : D → M Unit} {t : M Bool} {m : M D} {ρ : List Sl} (p : α → Bool) (g : α → D) : ∀ (as : List α), (∀ a ∈ as, Sat (f (enc a) ρ) fun _ ρ1 => Sat (t ρ1) fun k ρ2 => k = p a ∧ if p a = true then Sat (m ρ2) fun x ρ3 => x = g a ∧ wipeS vs ρ3 = ρ else wipeS vs ρ2 = ρ) → Sat (compL vs f t m (as.map enc) ρ) fun l ρ' => l = (as.filter p).map g ∧ ρ' = ρ := by
  intro as h
  have q := compL_inv (vs := vs) (f := f) (t := t) (m := m) (P := fun l ρ' => l = (as.filter p).map g ∧ ρ' = ρ) (fun ds' xs ρ' => ρ' = ρ ∧ ∃ pre post, as = pre ++ post ∧ ds' = post.map enc ∧ xs = (pre.filter p).map g) ?_ ?_ (as.map enc) [] ρ ⟨rfl, [], as, rfl, rfl, rfl⟩
  · exact q
  · rintro d ds' xs ρ' ⟨rfl, pre, post, e, e2, rfl⟩
    cases post with
    | nil => cases e2
    | cons a post =>
      cases e2
      refine Sat_mono (h a (by rw [e]; simp)) fun _ ρ1 h1 => Sat_mono h1 fun k ρ2 h2 => ?_
      obtain ⟨rfl, h2⟩ := h2
      by_cases hp : p a = true
      · rw [if_pos hp] at h2 ⊢
        refine Sat_mono h2 fun x ρ3 h3 => ?_
        obtain ⟨rfl, h3⟩ := h3
        exact ⟨h3, pre ++ [a], post, by rw [e]; simp, rfl, by simp [hp]⟩
      · rw [if_neg hp] at h2 ⊢
        exact ⟨h2, pre ++ [a], post, by rw [e]; simp, rfl, by simp [hp]⟩
  · rintro xs ρ' ⟨rfl, pre, post, e, e2, rfl⟩
    cases post with
    | nil =>
      rw [List.append_nil] at e
      rw [e]
      exact ⟨rfl, rfl⟩
    | cons a post => cases e2
/-- repr tells something -/
def Rp (t : D) : Prop := ∃ x, dReprA [t] = some (.str x)
def ShQ (k w : Nat) (d : D) : Prop := D.okQ d = true ∧ (D.pq d).showable = true ∧ (D.pq d).depth ≤ k ∧ (D.pq d).shown.length ≤ w
theorem ShQ.mono {k w k' w' : Nat} {d : D} (h : ShQ k w d) (hk : k ≤ k') (hw : w ≤ w') : ShQ k' w' d := ⟨h.1, h.2.1, Nat.le_trans h.2.2.1 hk, Nat.le_trans h.2.2.2 hw⟩
theorem ShQ.rp {k w : Nat} {d : D} (h : ShQ k w d) (hk : k ≤ 64) (hw : w ≤ 16777216) : Rp d := by
  obtain ⟨h1, h2, h3, h4⟩ := h
  unfold Rp dReprA
  by_cases c : D.canShow d = true
  · exact ⟨_, if_pos c⟩
  · refine ⟨(D.pq d).shown, ?_⟩
    show (if _ then _ else if _ then _ else _) = _
    rw [if_neg c]
    have e : ∀ x : D, D.isRef x = false → x.okQ = (D.py x).canLay0 ∧ x.pq = D.py x := fun x hx => by cases x <;> first | (cases hx; done) | (constructor <;> simp [D.okQ, D.pq])
    by_cases r : D.isRef d = true
    · refine if_pos ?_
      unfold D.canShowQ
      rw [r, h1, h2]
      simp only [Bool.true_and, Bool.and_eq_true, decide_eq_true_eq]
      exact ⟨by omega, Nat.le_trans h4 (Nat.le_trans hw (by decide))⟩
    · exfalso
      apply c
      obtain ⟨e1, e2⟩ := e d (by simpa using r)
      unfold D.canShow D.plain SeqAt.shaped D.shw
      rw [e1] at h1
      rw [e2] at h2 h3 h4
      rw [h1, h2]
      simp only [Bool.true_and, Bool.and_eq_true, decide_eq_true_eq]
      exact ⟨by omega, Nat.le_trans h4 (Nat.le_trans hw (by decide))⟩
theorem rp_on {d : D} {K : D → Prop} (h : Rp d) (k : ∀ x, dReprA [d] = some (.str x) → K (.str x)) : On (dReprA [d]) K := by
  obtain ⟨x, e⟩ := h
  exact k_on e (k x e)
theorem depth_int (i : Int) : (PyData.int i).depth = 0 ∨ (PyData.int i).depth = 1 := by first | (left; rfl) | (right; rfl)
theorem ShQ.int {k : Nat} {i : Int} (h : i.natAbs < 2 ^ 1900) (hk : 1 ≤ k) : ShQ k 1930 (.int i) := by
  obtain ⟨_, q2, q3⟩ := Sh.int (k := 0) h
  refine ⟨rfl, q2, ?_, q3⟩
  rcases depth_int i with e | e <;> (show (PyData.int i).depth ≤ k; omega)
theorem shqs_of {k w : Nat} : ∀ {l : List D}, (∀ x ∈ l, ShQ k w x) → D.okQs l = true ∧ PyData.showableAll (D.pqs l) = true ∧ PyData.depthAll (D.pqs l) ≤ k ∧ ((PyData.shownAll (D.pqs l)).map (·.length)).sum ≤ l.length * w ∧ (PyData.shownAll (D.pqs l)).length = l.length
  | [], _ => ⟨rfl, rfl, Nat.zero_le _, Nat.zero_le _, rfl⟩
  | d :: l, h => by
    obtain ⟨h1, h2, h3, h4⟩ := h d List.mem_cons_self
    obtain ⟨q0, q1, q2, q3, q4⟩ := shqs_of fun x hx => h x (List.mem_cons_of_mem _ hx)
    rw [D.pqs]
    refine ⟨?_, ?_, ?_, ?_, ?_⟩
    · rw [D.okQs, h1, q0]; rfl
    · rw [PyData.showableAll, h2, q1]; rfl
    · rw [PyData.depthAll]; exact Nat.max_le.mpr ⟨h3, q2⟩
    · rw [PyData.shownAll, List.map_cons, List.sum_cons, List.length_cons, Nat.succ_mul]
      omega
    · rw [PyData.shownAll, List.length_cons, q4, List.length_cons]
theorem ShQ.tup {k w n : Nat} {l : List D} (h : ∀ x ∈ l, ShQ k w x) (hn : l.length ≤ n) : ShQ (k + 1) (n * (w + 2) + 3) (.tup l) := by
  obtain ⟨q0, q1, q2, q3, q4⟩ := shqs_of h
  refine ⟨by rw [D.okQ]; exact q0, by rw [D.pq, PyData.showable]; exact q1, by rw [D.pq, PyData.depth]; omega, ?_⟩
  rw [D.pq, PyData.shown]
  refine Nat.le_trans (tupleText_len_le _) ?_
  rw [q4]
  have e : l.length * (w + 2) ≤ n * (w + 2) := Nat.mul_le_mul_right _ hn
  rw [Nat.mul_add] at e
  omega
theorem ShQ.lst {k w n : Nat} {l : List D} (h : ∀ x ∈ l, ShQ k w x) (hn : l.length ≤ n) : ShQ (k + 1) (n * (w + 2) + 3) (.lst l) := by
  obtain ⟨q0, q1, q2, q3, q4⟩ := shqs_of h
  refine ⟨by rw [D.okQ]; exact q0, by rw [D.pq, PyData.showable]; exact q1, by rw [D.pq, PyData.depth]; omega, ?_⟩
  rw [D.pq, PyData.shown]
  refine Nat.le_trans (listText_len_le _) ?_
  rw [q4]
  have e : l.length * (w + 2) ≤ n * (w + 2) := Nat.mul_le_mul_right _ hn
  rw [Nat.mul_add] at e
  omega
theorem compL_mapD {vs : List Nat} {f : D → M Unit} {t : M Bool} {m : M D} {ρ : List Sl} (g : D → D) (l : List D) (h : ∀ a ∈ l, Sat (f a ρ) fun _ ρ1 => Sat (t ρ1) fun k ρ2 => k = true ∧ Sat (m ρ2) fun x ρ3 => x = g a ∧ wipeS vs ρ3 = ρ) : Sat (compL vs f t m l ρ) fun l' ρ' => l' = l.map g ∧ ρ' = ρ := by
  have q := compL_map (enc := id) (vs := vs) (f := f) (t := t) (m := m) (ρ := ρ) g l h
  rw [List.map_id] at q
  exact q
theorem compL_filterD {vs : List Nat} {f : D → M Unit} {t : M Bool} {m : M D} {ρ : List Sl} (p : D → Bool) (g : D → D) (l : List D) (h : ∀ a ∈ l, Sat (f a ρ) fun _ ρ1 => Sat (t ρ1) fun k ρ2 => k = p a ∧ if p a = true then Sat (m ρ2) fun x ρ3 => x = g a ∧ wipeS vs ρ3 = ρ else wipeS vs ρ2 = ρ) : Sat (compL vs f t m l ρ) fun l' ρ' => l' = (l.filter p).map g ∧ ρ' = ρ := by
  have q := compL_filter (enc := id) (vs := vs) (f := f) (t := t) (m := m) (ρ := ρ) p g l h
  rw [List.map_id] at q
  exact q
theorem cut_sub (l : List D) (lo hi : Option Int) : (∀ x ∈ dCut l lo hi, x ∈ l) ∧ (dCut l lo hi).length ≤ l.length := by
  unfold dCut
  refine ⟨fun x hx => List.mem_of_mem_drop (List.mem_of_mem_take hx), ?_⟩
  rw [List.length_take, List.length_drop]
  omega
theorem v_slT {l : List D} {lo hi : Option Int} {K : D → Prop} (k : ∀ m, (∀ x ∈ m, x ∈ l) → m.length ≤ l.length → K (.tup m)) : On (dSlice (.tup l) lo hi) K := k_on rfl (k _ (cut_sub l lo hi).1 (cut_sub l lo hi).2)
theorem v_slL {l : List D} {lo hi : Option Int} {K : D → Prop} (k : ∀ m, (∀ x ∈ m, x ∈ l) → m.length ≤ l.length → K (.lst m)) : On (dSlice (.lst l) lo hi) K := k_on rfl (k _ (cut_sub l lo hi).1 (cut_sub l lo hi).2)
theorem v_addT {l m : List D} {K : D → Prop} (h : l.length + m.length ≤ 1000000) (k : K (.tup (l ++ m))) : On (dAdd (.tup l) (.tup m)) K := k_on (if_pos (Nat.le_trans h (by decide))) k
theorem v_addL {l m : List D} {K : D → Prop} (h : l.length + m.length ≤ 1000000) (k : K (.lst (l ++ m))) : On (dAdd (.lst l) (.lst m)) K := k_on (if_pos (Nat.le_trans h (by decide))) k
theorem v_mulT1 {a : D} {n : Int} {K : D → Prop} (h0 : 0 ≤ n) (h1 : n ≤ 1000) (k : K (.tup (List.replicate n.toNat a))) : On (dMulT (.tup [a]) (.int n)) K := by
  refine k_on ?_ k
  unfold dMulT
  split
  · rename_i e1 e2
    cases e1; cases e2; rfl
  · rename_i e1 e2
    cases e1; cases e2; rfl
  · rename_i h2 h3
    have n0 : n ≠ 0 := fun e => h2 a [] rfl (by rw [e])
    have n1 : n ≠ 1 := fun e => h3 a [] rfl (by rw [e])
    show (if _ then _ else _) = _
    rw [if_pos ⟨by omega, h1, by simp, rfl⟩]
    congr 2
    have : ∀ j : Nat, (List.replicate j [a]).flatten = List.replicate j a := fun j => by
      induction j with
      | zero => rfl
      | succ j ih => rw [List.replicate_succ, List.flatten_cons, ih]; rfl
    exact this _
theorem v_addXL {l m : List D} {K : Sl → Prop} (h : l.length + m.length ≤ 1000000) (k : K (.ow (.lst (l ++ m)))) : On (addX (.lst l) (.lst m)) K := by
  refine k_on ?_ k
  have h' : l.length + m.length ≤ LIM := Nat.le_trans h (by decide)
  unfold addX dAddL
  simp [h']

/-- _law_run: 0 _law_grids, 1 _law_part, 2 _law_left, 3 _law_right_here, 4 _law_many, 5 _law_steps -/
def b_l_run (S : List Sl → FR) : M Flw :=
  (seqM (mIf (mTru (mOpN (dIsi .int) [(.pk 1)])) (mRet (shM (mTup (mEach [(mVar 1), (mVar 1), (mOp2 dIxA (.pk 0) (.pk 1)), (mLst (mEach []))])))) (retM .nx))
  (seqM (mSet 2 (callM S [(.ev (mVar 0)), (.ev (mOp2 dIxA (.pk 1) (.ev (mC (.int 0)))))]))
  (seqM (mSet 3 (callM S [(.ev (mVar 0)), (.ev (mOp2 dIxA (.pk 1) (.ev (mC (.int 1)))))]))
  (seqM (mSet 4 (shM (mOp2 dMul (.ev (mOp2 dMul (.ev (mOpN dLenA [(.ev (mOp2 dIxA (.pk 2) (.ev (mC (.int 2)))))])) (.ev (mOpN dLenA [(.ev (mOp2 dIxA (.pk 3) (.ev (mC (.int 2)))))])))) (.ev (mOpN dLenA [(.ev (mOp2 dIxA (.ev (mOp2 dIxA (.pk 3) (.ev (mC (.int 2))))) (.ev (mC (.int 0)))))])))))
  (seqM (mSet 5 (aAddX (.ev (mOp2 dAdd (.ev (mOp2 dIxA (.pk 2) (.ev (mC (.int 3))))) (.ev (mOp2 dIxA (.pk 3) (.ev (mC (.int 3))))))) (.ev (mLst (mEach [(mTup (mEach [(mOp2 dIxA (.pk 2) (.ev (mC (.int 0)))), (mOp2 dIxA (.pk 3) (.ev (mC (.int 1)))), (mVar 4)]))])))))
  (mRet (shM (mTup (mEach [(mOp2 dIxA (.pk 2) (.ev (mC (.int 0)))), (mOp2 dIxA (.pk 3) (.ev (mC (.int 1)))), (vaM (callM S_l_times_2 [(.ev (mOp2 dIxA (.pk 2) (.ev (mC (.int 2))))), (.ev (mOp2 dIxA (.pk 3) (.ev (mC (.int 2)))))])), (mVar 5)])))))))))
def F_l_run : Nat → List Sl → FR
  | 0 => fun _ => .no
  | n + 1 => runF 4 (b_l_run (F_l_run n))
def S_l_run : List Sl → FR := F_l_run 64
def RunL (ds : Nat → Nat) (bs : List (List (List Int))) (S : List Sl → FR) (N : Nat) : Prop := ∀ {t : Br} {a b : Int}, t.On a b → 0 ≤ a → b < bs.length → t.depth < N → t.len ≤ 60 → SatF (S [.sh (.lst (bs.map encB)), .sh t.enc]) fun s o => s = .sh (.tup [.int a, .int b, encB (runP bs t), .lst (runS ds t)]) ∧ o = [.emp, .emp]
theorem lrun_step {ds : Nat → Nat} {bs : List (List (List Int))} (B : Boxes ds bs) {S : List Sl → FR} {N : Nat} (ih : RunL ds bs S N) : RunL ds bs (runF 4 (b_l_run S)) (N + 1) := by
  intro t a b h h0 h1 hd hl
  walk_at "ev start"
  unfold b_l_run
  cases t with
  | leaf i =>
    obtain ⟨rfl, rfl⟩ := h
    simp only [Br.enc]
    walk_at "ev go"
    refine v_ixBs h0 h1 ?_
    walk_at "ev go"
    exact ⟨rfl, rfl⟩
  | node l r =>
    obtain ⟨c, c0, c1, hl', hr'⟩ := id h
    have d1 : max l.depth r.depth + 1 < N + 1 := hd
    have e1 : l.len + r.len ≤ 60 := hl
    have n1 := runS_len ds l
    have n2 := runS_len ds r
    obtain ⟨k1, l1⟩ := runP_ok B hl' h0 (by omega)
    obtain ⟨k2, l2⟩ := runP_ok B hr' (by omega) h1
    rw [show (c + 1).toNat = c.toNat + 1 by omega] at k2
    have p0 := B.pos a.toNat (by have := hl'.le; omega)
    have p1 := B.pos (c.toNat + 1) (by omega)
    have p2 := B.pos (b.toNat + 1) (by have := hr'.le; omega)
    simp only [Br.enc]
    walk_at "ev go"
    have sl := ih hl' h0 (by omega) (by omega) (by omega)
    with_reducible refine k_call sl ?_
    rintro _ _ ⟨rfl, rfl⟩
    walk_at "ev go"
    have sr := ih hr' (by omega) h1 (by omega) (by omega)
    with_reducible refine k_call sr ?_
    rintro _ _ ⟨rfl, rfl⟩
    walk_at "ev go"
    refine v_lenB ?_
    walk_at "ev go"
    refine v_lenB ?_
    walk_at "ev go"
    have hk2 := k2.1
    rw [k1.1, k2.1]
    have q1 : ((ds a.toNat : Int) * (ds (c.toNat + 1) : Int)).natAbs ≤ 1000 * 1000 := by
      rw [Int.natAbs_mul]
      exact Nat.mul_le_mul (by omega) (by omega)
    walk_at "ev go"
    with_reducible refine v_ixB0 (by omega) ?_
    walk_at "ev go"
    with_reducible refine v_lenR ?_
    rw [row_len k2 (by omega)]
    walk_at "ev go"
    refine v_addL (by omega) ?_
    walk_at "ev go"
    refine v_addXL (by rw [List.length_append]; simp only [List.length_cons, List.length_nil]; omega) ?_
    walk_at "ev go"
    have q := ltimes2_okG k1 k2 (by omega) (by omega) (by omega) (by omega) l1 l2 (limL_fits (by omega)) (limL_fits (by omega))
    with_reducible refine k_call q ?_
    rintro _ _ ⟨rfl, rfl⟩
    walk_at "ev go"
    refine ⟨?_, rfl⟩
    rw [runS, stepOf, hl'.fst, hr'.lst, hl'.lst]
    rfl
theorem lrun_at {ds : Nat → Nat} {bs : List (List (List Int))} (B : Boxes ds bs) : ∀ N : Nat, RunL ds bs (F_l_run N) N
  | 0 => fun _ _ _ h _ => absurd h (by omega)
  | N + 1 => lrun_step B (lrun_at B N)
theorem lrun_ok {ds : Nat → Nat} {bs : List (List (List Int))} (B : Boxes ds bs) {t : Br} {b : Int} (h : t.On 0 b) (h1 : b < bs.length) (hl : bs.length ≤ 60) : SatF (S_l_run [.sh (.lst (bs.map encB)), .sh t.enc]) fun s o => s = .sh (.tup [.int 0, .int b, encB (runP bs t), .lst (runS ds t)]) ∧ o = [.emp, .emp] :=
  lrun_at B 64 h (Int.le_refl _) h1 (by have := h.dep; omega) (by have := h.len; omega)

/-! things that may be brackets: pairs down to what is no pair -/
inductive Th where
  | leaf (d : D) | node (l r : Th)
def Th.enc : Th → D
  | .leaf d => d
  | .node l r => .tup [l.enc, r.enc]
def D.is2 : D → Bool
  | .tup [_, _] => true
  | _ => false
def Th.ok : Th → Prop
  | .leaf d => d.kd = true ∧ d.is2 = false
  | .node l r => l.ok ∧ r.ok
def Th.depth : Th → Nat
  | .leaf _ => 0
  | .node l r => max l.depth r.depth + 1
def Th.size : Th → Nat
  | .leaf _ => 1
  | .node l r => l.size + r.size + 1
def Th.span : Th → Option (Int × Int)
  | .leaf (.int i) => some (i, i)
  | .leaf _ => none
  | .node l r => match l.span with
    | none => none
    | some (a, b) => match r.span with
      | none => none
      | some (c, d) => if c = b + 1 then some (a, d) else none
def Th.leaves : Th → Option (List Int)
  | .leaf (.int i) => some [i]
  | .leaf _ => none
  | .node l r => match l.leaves with
    | none => none
    | some x => match r.leaves with
      | none => none
      | some y => some (x ++ y)
/-- n numbers from a on -/
def upto (a : Int) : Nat → List Int
  | 0 => []
  | n + 1 => a :: upto (a + 1) n
theorem upto_len (a : Int) : ∀ n, (upto a n).length = n
  | 0 => rfl
  | n + 1 => by rw [upto, List.length_cons, upto_len]
theorem upto_add (a : Int) : ∀ n m : Nat, upto a (n + m) = upto a n ++ upto (a + n) m
  | 0, m => by rw [Nat.zero_add, upto]; simp
  | n + 1, m => by
    rw [Nat.succ_add, upto, upto, upto_add (a + 1) n m, List.cons_append]
    congr 2
    congr 1
    omega
theorem leaves_pos : ∀ {t : Th} {l : List Int}, t.leaves = some l → 0 < l.length
  | .leaf d, l, h => by
    cases d <;> simp [Th.leaves] at h
    subst h; exact Nat.one_pos
  | .node x y, l, h => by
    rw [Th.leaves] at h
    cases e1 : x.leaves with
    | none => rw [e1] at h; cases h
    | some a =>
      rw [e1] at h
      cases e2 : y.leaves with
      | none => rw [e2] at h; cases h
      | some b =>
        rw [e2] at h
        cases h
        rw [List.length_append]
        have := leaves_pos e1
        omega
theorem span_leaves : ∀ {t : Th} {a b : Int}, t.span = some (a, b) → a ≤ b ∧ t.leaves = some (upto a (b - a + 1).toNat)
  | .leaf d, a, b, h => by
    cases d <;> simp [Th.span] at h
    rename_i i
    obtain ⟨h1, h2⟩ := h
    subst h1
    subst h2
    refine ⟨Int.le_refl _, ?_⟩
    have e : (i - i + 1).toNat = 1 := by omega
    rw [e]
    rfl
  | .node x y, a, b, h => by
    rw [Th.span] at h
    cases e1 : x.span with
    | none => rw [e1] at h; cases h
    | some p =>
      obtain ⟨a1, b1⟩ := p
      rw [e1] at h
      cases e2 : y.span with
      | none => rw [e2] at h; cases h
      | some q =>
        obtain ⟨c1, d1⟩ := q
        rw [e2] at h
        dsimp only at h
        split at h
        · rename_i hc
          cases h
          obtain ⟨l1, q1⟩ := span_leaves e1
          obtain ⟨l2, q2⟩ := span_leaves e2
          refine ⟨by omega, ?_⟩
          rw [Th.leaves, q1, q2]
          dsimp only
          rw [show (b - a + 1).toNat = (b1 - a + 1).toNat + (b - c1 + 1).toNat by omega, upto_add]
          rw [show a + ((b1 - a + 1).toNat : Int) = c1 by omega]
        · cases h
theorem leaves_span : ∀ {t : Th} {a : Int} {n : Nat}, t.leaves = some (upto a n) → t.span = some (a, a + n - 1)
  | .leaf d, a, n, h => by
    cases d <;> simp [Th.leaves] at h
    cases n with
    | zero => cases h
    | succ n =>
      rw [upto] at h
      cases n with
      | zero =>
        cases h
        rw [Th.span]
        congr 2
        omega
      | succ n => simp [upto] at h
  | .node x y, a, n, h => by
    rw [Th.leaves] at h
    cases e1 : x.leaves with
    | none => rw [e1] at h; cases h
    | some l1 =>
      rw [e1] at h
      cases e2 : y.leaves with
      | none => rw [e2] at h; cases h
      | some l2 =>
        rw [e2] at h
        dsimp only at h
        injection h with h
        have hn : l1.length + l2.length = n := by
          have := congrArg List.length h
          rw [List.length_append, upto_len] at this
          exact this
        rw [← hn, upto_add] at h
        have hh := List.append_inj h (by rw [upto_len])
        rw [hh.1] at e1
        rw [hh.2] at e2
        have p1 := leaves_pos e1
        have p2 := leaves_pos e2
        rw [upto_len] at p1 p2
        have s1 := leaves_span e1
        have s2 := leaves_span e2
        rw [Th.span, s1, s2]
        dsimp only
        rw [if_pos (by omega)]
        congr 2
        omega
/-- is it brackets of the boxes from a to b -/
def Th.isB (t : Th) (a b : Int) : Bool := decide (t.span = some (a, b))
theorem isB_leaves {t : Th} {a b : Int} (h : a ≤ b) : decide (t.leaves = some (upto a (b - a + 1).toNat)) = t.isB a b := by
  unfold Th.isB
  congr 1
  rw [eq_iff_iff]
  constructor
  · intro e
    rw [leaves_span e]
    congr 2
    omega
  · intro e
    exact (span_leaves e).2
def Br.th : Br → Th
  | .leaf i => .leaf (.int i)
  | .node l r => .node l.th r.th
theorem th_enc : ∀ t : Br, t.th.enc = t.enc
  | .leaf _ => rfl
  | .node l r => by rw [Br.th, Th.enc, Br.enc, th_enc l, th_enc r]
theorem th_ok : ∀ t : Br, t.th.ok
  | .leaf _ => ⟨rfl, rfl⟩
  | .node l r => ⟨th_ok l, th_ok r⟩
theorem th_depth : ∀ t : Br, t.th.depth = t.depth
  | .leaf _ => rfl
  | .node l r => by rw [Br.th, Th.depth, Br.depth, th_depth l, th_depth r]
theorem th_span : ∀ {t : Br} {a b : Int}, t.On a b → t.th.span = some (a, b)
  | .leaf i, a, b, h => by obtain ⟨rfl, rfl⟩ := h; rfl
  | .node l r, a, b, h => by
    obtain ⟨c, h1, h2, h3, h4⟩ := h
    rw [Br.th, Th.span, th_span h3, th_span h4]
    dsimp only
    rw [if_pos rfl]
theorem th_size : ∀ t : Br, t.th.size ≤ 2 * t.len
  | .leaf _ => by show 1 ≤ 2 * 1; decide
  | .node l r => by
    have h1 := th_size l
    have h2 := th_size r
    rw [Br.th, Th.size, Br.len]
    have : ∀ t : Br, t.th.size + 1 ≤ 2 * t.len := fun t => by
      induction t with
      | leaf => exact Nat.le_refl _
      | node a b i1 i2 => rw [Br.th, Th.size, Br.len]; omega
    have a1 := this l
    have a2 := this r
    omega

/-- is_whole: 0 thing -/
def b_is_whole : M Flw :=
  (mRet (shM (mAndV (mOpN (dIsi .int) [(.pk 0)]) (mNotV (mOpN (dIsi .bool) [(.pk 0)])))))
def S_is_whole : List Sl → FR := runF 0 b_is_whole
theorem whole_eq {d : D} (h : d.kd = true) : S_is_whole [.sh d] = .ok (.sh (.bl d.isW)) [.emp] := by
  cases d <;> first | (cases h; done) | kernel_rfl

/-- span_of: 0 thing, 1 left, 2 right -/
def b_span_of (S : List Sl → FR) : M Flw :=
  (seqM (mIf (mTru (vaM (callM S_is_whole [(.ev (mVar 0))]))) (mRet (shM (mTup (mEach [(mVar 0), (mVar 0)])))) (retM .nx))
  (seqM (mIf (mOr (mNot (mTru (mOpN (dIsi .tup) [(.pk 0)]))) (mB (mOp2 dNe (.ev (mOpN dLenA [(.pk 0)])) (.ev (mC (.int 2)))))) (mRet (shM (mC .non))) (retM .nx))
  (seqM (mSet 1 (callM S [(.ev (mOp2 dIxA (.pk 0) (.ev (mC (.int 0)))))]))
  (seqM (mIf (mB (mOp2 dIsB (.pk 1) (.ev (mC .non)))) (mRet (shM (mC .non))) (retM .nx))
  (seqM (mSet 2 (callM S [(.ev (mOp2 dIxA (.pk 0) (.ev (mC (.int 1)))))]))
  (seqM (mIf (mOr (mB (mOp2 dIsB (.pk 2) (.ev (mC .non)))) (mB (mOp2 dNe (.ev (mOp2 dIxA (.pk 2) (.ev (mC (.int 0))))) (.ev (mOp2 dAdd (.ev (mOp2 dIxA (.pk 1) (.ev (mC (.int 1))))) (.ev (mC (.int 1)))))))) (mRet (shM (mC .non))) (retM .nx))
  (mRet (shM (mTup (mEach [(mOp2 dIxA (.pk 1) (.ev (mC (.int 0)))), (mOp2 dIxA (.pk 2) (.ev (mC (.int 1))))]))))))))))
def F_span_of : Nat → List Sl → FR
  | 0 => fun _ => .no
  | n + 1 => runF 2 (b_span_of (F_span_of n))
def S_span_of : List Sl → FR := F_span_of 64
def spD' : Option (Int × Int) → D
  | none => .non
  | some (a, b) => .tup [.int a, .int b]
theorem is2_len {l : List D} (h : D.is2 (.tup l) = false) : (l.length : Int) ≠ 2 := by
  rcases l with _ | ⟨a, _ | ⟨b, _ | ⟨c, l⟩⟩⟩
  · simp
  · simp
  · cases h
  · simp only [List.length_cons]; omega
def SpanSp (S : List Sl → FR) (N : Nat) : Prop := ∀ t : Th, t.ok → t.depth < N → SatF (S [.sh t.enc]) fun s o => s = .sh (spD' t.span) ∧ o = [.emp]
theorem span_step {S : List Sl → FR} {N : Nat} (ih : SpanSp S N) : SpanSp (runF 2 (b_span_of S)) (N + 1) := by
  intro t hok hd
  cases t with
  | leaf d =>
    obtain ⟨h1, h2⟩ := hok
    simp only [Th.enc]
    walk_at "ev start"
    unfold b_span_of
    walk_at "ev go"
    with_reducible refine k_callE (whole_eq h1) ?_
    cases d <;> first | (cases h1; done) | skip
    case int i =>
      simp only [D.isW]
      walk_at "ev go"
      exact ⟨rfl, rfl⟩
    case tup l =>
      simp only [D.isW]
      walk_at "ev go"
      rw [decide_eq_false (is2_len h2)]
      walk_at "ev go"
      exact ⟨rfl, rfl⟩
    all_goals
      simp only [D.isW]
      walk_at "ev go"
      exact ⟨rfl, rfl⟩
  | node x y =>
    obtain ⟨k1, k2⟩ := hok
    have hd' : max x.depth y.depth + 1 < N + 1 := hd
    have s1 := ih x k1 (by omega)
    have s2 := ih y k2 (by omega)
    simp only [Th.enc]
    walk_at "ev start"
    unfold b_span_of
    walk_at "ev go"
    with_reducible refine k_callE (whole_eq (d := .tup [x.enc, y.enc]) rfl) ?_
    simp only [D.isW]
    walk_at "ev go"
    rw [decide_eq_true (show ((([x.enc, y.enc] : List D).length : Nat) : Int) = 2 from rfl)]
    walk_at "ev go"
    with_reducible refine k_call s1 ?_
    rintro _ _ ⟨rfl, rfl⟩
    rw [Th.span]
    cases e1 : x.span with
    | none =>
      simp only [spD']
      walk_at "ev go"
      exact ⟨rfl, rfl⟩
    | some p =>
      obtain ⟨a, b⟩ := p
      simp only [spD']
      walk_at "ev go"
      with_reducible refine k_call s2 ?_
      rintro _ _ ⟨rfl, rfl⟩
      cases e2 : y.span with
      | none =>
        simp only [spD']
        walk_at "ev go"
        exact ⟨rfl, rfl⟩
      | some q =>
        obtain ⟨c, d⟩ := q
        simp only [spD']
        walk_at "ev go"
        by_cases hc : c = b + 1
        · rw [if_pos hc, decide_eq_true hc]
          walk_at "ev go"
          exact ⟨rfl, rfl⟩
        · rw [if_neg hc, decide_eq_false hc]
          walk_at "ev go"
          exact ⟨rfl, rfl⟩
theorem span_at : ∀ N : Nat, SpanSp (F_span_of N) N
  | 0 => fun _ _ h => absurd h (by omega)
  | N + 1 => span_step (span_at N)
theorem span_ok {t : Th} (h : t.ok) (hd : t.depth < 64) : SatF (S_span_of [.sh t.enc]) fun s o => s = .sh (spD' t.span) ∧ o = [.emp] := span_at 64 t h hd

/-- is_brackets: 0 first, 1 last, 2 thing -/
def b_is_brackets : M Flw :=
  (mRet (shM (mOp2 dEq (.ev (vaM (callM S_span_of [(.ev (mVar 2))]))) (.ev (mTup (mEach [(mVar 0), (mVar 1)]))))))
def S_is_brackets : List Sl → FR := runF 0 b_is_brackets
theorem v_eqSpan {o : Option (Int × Int)} {a b : Int} {K : D → Prop} (k : K (.bl (decide (o = some (a, b))))) : On (dEq (spD' o) (.tup [.int a, .int b])) K := by
  have p2 : ∀ x y : Int, Pl 1 (.tup [.int x, .int y]) := fun x y => Pl.tup fun z hz => by
    simp only [List.mem_cons, List.not_mem_nil, or_false] at hz
    rcases hz with rfl | rfl
    · exact Pl.int
    · exact Pl.int
  cases o with
  | none =>
    refine v_eq (k := 1) Pl.non (p2 a b) (by decide) ?_
    exact k
  | some p =>
    obtain ⟨x, y⟩ := p
    refine v_eq (k := 1) (p2 x y) (p2 a b) (by decide) ?_
    have e : dEqB (.tup [.int x, .int y]) (.tup [.int a, .int b]) = decide ((some (x, y) : Option (Int × Int)) = some (a, b)) := by
      show (x == a && (y == b && true)) = _
      rw [Bool.and_true, Bool.eq_iff_iff]
      simp
    show K (.bl (dEqB (.tup [.int x, .int y]) (.tup [.int a, .int b])))
    rw [e]
    exact k
theorem isb_ok {t : Th} (h : t.ok) (hd : t.depth < 64) {a b : Int} : SatF (S_is_brackets [.sh (.int a), .sh (.int b), .sh t.enc]) fun s o => s = .sh (.bl (t.isB a b)) ∧ o = [.emp, .emp, .emp] := by
  unfold S_is_brackets
  walk_at "ev start"
  unfold b_is_brackets
  walk_at "ev go"
  with_reducible refine k_call (span_ok h hd) ?_
  rintro _ _ ⟨rfl, rfl⟩
  walk_at "ev go"
  refine v_eqSpan ?_
  walk_at "ev go"
  exact ⟨rfl, rfl⟩

/-- need_brackets: 0 last, 1 thing -/
def b_need_brackets : M Flw :=
  (mIf (mNot (mTru (vaM (callM S_is_brackets [(.ev (mC (.int 0))), (.ev (mVar 0)), (.ev (mVar 1))])))) (mRaise 4) (retM .nx))
def S_need_brackets : List Sl → FR := runF 0 b_need_brackets
theorem need_ok {t : Th} (h : t.ok) (hd : t.depth < 64) {b : Int} (hb : t.isB 0 b = true) : SatF (S_need_brackets [.sh (.int b), .sh t.enc]) fun s o => s = .sh .non ∧ o = [.emp, .emp] := by
  unfold S_need_brackets
  walk_at "ev start"
  unfold b_need_brackets
  walk_at "ev go"
  with_reducible refine k_call (isb_ok h hd) ?_
  rintro _ _ ⟨rfl, rfl⟩
  rw [hb]
  walk_at "ev go"
  exact ⟨rfl, rfl⟩
theorem need_bad {t : Th} (h : t.ok) (hd : t.depth < 64) {b : Int} (hb : t.isB 0 b = false) : SatFX (S_need_brackets [.sh (.int b), .sh t.enc]) (fun _ _ => False) fun c l o => c = 4 ∧ l = [] ∧ o = [.emp, .emp] := by
  unfold S_need_brackets
  walk_at "ev startx"
  unfold b_need_brackets
  walk_at "ev go"
  with_reducible refine k_call (isb_ok h hd) ?_
  rintro _ _ ⟨rfl, rfl⟩
  rw [hb]
  walk_at "ev go"
  exact ⟨rfl, rfl, rfl⟩

/-! a row of boxes -/
def wide (b : List (List Int)) : Nat := (b.headD []).length
def misfit (bs : List (List (List Int))) (k : Nat) : Bool := decide ((bs.getD k []).length ≠ wide (bs.getD (k - 1) []))
def firstMis (bs : List (List (List Int))) : Option Nat := (List.range' 1 (bs.length - 1)).find? (misfit bs)
theorem firstMis_some {bs : List (List (List Int))} {k : Nat} (h1 : 1 ≤ k) (h2 : k < bs.length) (h : misfit bs k = true) (hn : ∀ j, 1 ≤ j → j < k → misfit bs j = false) : firstMis bs = some k := by
  have e : List.range' 1 (bs.length - 1) = List.range' 1 (k - 1) ++ (k :: List.range' (k + 1) (bs.length - 1 - k)) := by
    rw [show bs.length - 1 = (k - 1) + ((bs.length - 1 - k) + 1) by omega, ← List.range'_append_1, show 1 + (k - 1) = k by omega, List.range'_succ]
    congr 3
    omega
  unfold firstMis
  rw [e, List.find?_append]
  have : (List.range' 1 (k - 1)).find? (misfit bs) = none := by
    rw [List.find?_eq_none]
    intro x hx
    rw [List.mem_range'_1] at hx
    rw [hn x hx.1 (by omega)]
    exact Bool.false_ne_true
  rw [this, List.find?_cons, h]
  rfl
theorem firstMis_none {bs : List (List (List Int))} (hn : ∀ j, 1 ≤ j → j < bs.length → misfit bs j = false) : firstMis bs = none := by
  unfold firstMis
  rw [List.find?_eq_none]
  intro x hx
  rw [List.mem_range'_1] at hx
  rw [hn x hx.1 (by omega)]
  exact Bool.false_ne_true
def rowOf (bs : List (List (List Int))) : List Int := (bs.map fun b => (b.length : Int)) ++ [((wide (bs.getLastD []) : Nat) : Int)]
def rowDue (bs : List (List (List Int))) : D := if 1 ≤ bs.length ∧ bs.length ≤ 12 then (match firstMis bs with
  | some k => .tup [.str "NoFit", .int k]
  | none => .tup ((rowOf bs).map D.int)) else .tup [.str "NoRow", .non]
/-- boxes with a row at least -/
def Fat (bs : List (List (List Int))) : Prop := ∀ b ∈ bs, 1 ≤ b.length ∧ b.length ≤ 1000 ∧ wide b ≤ 1000
theorem len_encB {b : List (List Int)} {K : D → Prop} (k : K (.int b.length)) : On (dLenA [encB b]) K := by
  refine k_on ?_ k
  show some (D.int ((b.map encR).length : Nat)) = _
  rw [List.length_map]
theorem len_encR {r : List Int} {K : D → Prop} (k : K (.int r.length)) : On (dLenA [encR r]) K := by
  refine k_on ?_ k
  show some (D.int ((r.map D.int).length : Nat)) = _
  rw [List.length_map]
theorem ix_boxes {bs : List (List (List Int))} {i : Int} {K : D → Prop} (h0 : 0 ≤ i) (h1 : i < bs.length) (k : K (encB (bs.getD i.toNat []))) : On (dIxA (.lst (bs.map encB)) (.int i)) K := by
  refine v_ixLt h0 ?_ k
  rw [List.getElem?_map, List.getD_eq_getElem?_getD, List.getElem?_eq_getElem (show i.toNat < bs.length by omega)]
  rfl
theorem ix_back {bs : List (List (List Int))} {K : D → Prop} (h1 : 0 < bs.length) (k : K (encB (bs.getLastD []))) : On (dIxA (.lst (bs.map encB)) (.int (-1))) K := by
  refine k_on ?_ k
  rw [ixA_lst]
  unfold atI ixN
  rw [if_neg (by decide), List.length_map, if_pos (by omega)]
  show (bs.map encB)[((-1 : Int) + (bs.length : Int)).toNat]? = _
  rw [show ((-1 : Int) + (bs.length : Int)).toNat = bs.length - 1 by omega, List.getElem?_map, List.getLastD_eq_getLast?, List.getLast?_eq_getElem?, List.getElem?_eq_getElem (show bs.length - 1 < bs.length by omega)]
  rfl
theorem ix_first {b : List (List Int)} {K : D → Prop} (h1 : 1 ≤ b.length) (k : K (encR (b.headD []))) : On (dIxA (encB b) (.int 0)) K := by
  cases b with
  | nil => simp at h1
  | cons r b => exact v_ixTt (x := encR r) (by decide) rfl k
theorem fat_get {bs : List (List (List Int))} (h : Fat bs) {i : Nat} (hi : i < bs.length) : 1 ≤ (bs.getD i []).length ∧ (bs.getD i []).length ≤ 1000 ∧ wide (bs.getD i []) ≤ 1000 := by
  rw [List.getD_eq_getElem?_getD, List.getElem?_eq_getElem hi]
  exact h _ (List.getElem_mem hi)
theorem fat_last {bs : List (List (List Int))} (h : Fat bs) (hi : 0 < bs.length) : 1 ≤ (bs.getLastD []).length ∧ (bs.getLastD []).length ≤ 1000 ∧ wide (bs.getLastD []) ≤ 1000 := by
  have e : bs.getLastD [] = bs.getD (bs.length - 1) [] := by rw [List.getLastD_eq_getLast?, List.getLast?_eq_getElem?, List.getD_eq_getElem?_getD]
  rw [e]
  exact fat_get h (by omega)
theorem pl_str {k : Nat} {x : Str} (h : (D.py (.str x)).canLay0 = true) : Pl k (.str x) := ⟨h, Nat.zero_le _⟩
theorem rowDue_sh {bs : List (List (List Int))} (hb : Fat bs) : Sh 1 100000 (rowDue bs) := by
  unfold rowDue
  split
  · rename_i h
    cases e : firstMis bs with
    | some k =>
      dsimp only
      have hk : k < bs.length := by
        have := List.mem_of_find?_eq_some e
        rw [List.mem_range'_1] at this
        omega
      refine Sh.mono (Sh.tup (k := 0) (w := 1930) (n := 2) (fun x hx => ?_) (by simp)) (by decide) (by decide)
      rcases List.mem_cons.mp hx with rfl | hx
      · exact ⟨pl_str (by decide +kernel), rfl, by decide +kernel⟩
      · rw [List.mem_singleton.mp hx]
        exact Sh.int (small_of (by omega) (by omega))
    | none =>
      dsimp only
      refine Sh.mono (Sh.tup (k := 0) (w := 1930) (n := 13) (fun x hx => ?_) (by simp [rowOf]; omega)) (by decide) (by decide)
      obtain ⟨z, hz, rfl⟩ := List.mem_map.mp hx
      refine Sh.int ?_
      unfold rowOf at hz
      rcases List.mem_append.mp hz with hz | hz
      · obtain ⟨b, hb', rfl⟩ := List.mem_map.mp hz
        have := hb b hb'
        exact small_of (by omega) (by omega)
      · rw [List.mem_singleton.mp hz]
        have := fat_last hb (by omega)
        exact small_of (by omega) (by omega)
  · refine Sh.mono (Sh.tup (k := 0) (w := 1930) (n := 2) (fun x hx => ?_) (by simp)) (by decide) (by decide)
    rcases List.mem_cons.mp hx with rfl | hx
    · exact ⟨pl_str (by decide +kernel), rfl, by decide +kernel⟩
    · rw [List.mem_singleton.mp hx]
      exact Sh.non.mono (Nat.le_refl _) (by decide)
theorem v_pop0 {x : D} {l : List D} {K : D × D → Prop} (hl : l.length < 1000000) (k : K (.lst l, x)) : On (fPopAt [.int 0] (.lst (x :: l))) K := by
  refine k_on ?_ k
  show (if (x :: l).length ≤ LIM then (ixN (x :: l).length 0).bind fun k => ((x :: l)[k]?).map fun y => (D.lst ((x :: l).eraseIdx k), y) else none) = _
  rw [if_pos (by rw [List.length_cons]; exact lim_pos (by omega))]
  unfold ixN
  rw [if_pos (by decide), if_pos (by rw [List.length_cons]; omega)]
  rfl
theorem v_putB {bs : List (List (List Int))} {b : List (List Int)} {i : Int} {K : D → Prop} (h0 : 0 ≤ i) (h1 : i < bs.length) (k : K (.lst ((bs.set i.toNat b).map encB))) : On (dPut (.int i) (encB b) (.lst (bs.map encB))) K := by
  refine k_on ?_ k
  show (ixN (bs.map encB).length i).map (fun j => D.lst ((bs.map encB).set j (encB b))) = _
  unfold ixN
  rw [if_pos h0, if_pos (by rw [List.length_map]; exact h1)]
  rw [List.map_set]
  rfl
theorem fat_set {bs : List (List (List Int))} (h : Fat bs) {b : List (List Int)} (hb : 1 ≤ b.length ∧ b.length ≤ 1000 ∧ wide b ≤ 1000) (i : Nat) : Fat (bs.set i b) := fun c hc => by
  rcases List.mem_or_eq_of_mem_set hc with hc | rfl
  · exact h c hc
  · exact hb

/-- row_of_boxes: 0 boxes, 1 at, 2 box -/
def b_row_of_boxes : M Flw :=
  (seqM (mIf (mNot (mB (mChain dLe dLe (.ev (mC (.int 1))) (.ev (mOpN dLenA [(.pk 0)])) (.ev (mC (.int 12)))))) (mRaise 3) (retM .nx))
  (seqM (mFor (mRng rng2 (mEach [(mC (.int 1)), (mOpN dLenA [(.pk 0)])])) (toName 1) (mIf (mB (mOp2 dNe (.ev (mOpN dLenA [(.ev (mOp2 dIxA (.pk 0) (.pk 1)))])) (.ev (mOpN dLenA [(.ev (mOp2 dIxA (.ev (mOp2 dIxA (.pk 0) (.ev (mOp2 dSub (.pk 1) (.ev (mC (.int 1))))))) (.ev (mC (.int 0)))))])))) (mRaise1 2 (mVar 1)) (retM .nx)))
  (mRet (shM (mOpN dTuple [(.ev (mOp2 dAdd (.ev (vaM (altM (isOwnL 0) (compN 0 [2] (toName 2) (retM true) (mOpN dLenA [(.pk 2)])) (compM [2] (mIter (mVar 0)) (toName 2) (retM true) (mOpN dLenA [(.pk 2)]))))) (.ev (mLst (mEach [(mOpN dLenA [(.ev (mOp2 dIxA (.ev (mOp2 dIxA (.pk 0) (.ev (mOp1 dNeg (mC (.int 1)))))) (.ev (mC (.int 0)))))])])))))])))))
def S_row_of_boxes : List Sl → FR := runF 2 b_row_of_boxes
/-- row_of_boxes: the row, or what is raised -/
def RowP (bs : List (List (List Int))) (out : Sl) (s : Sl) (o : List Sl) : Prop := s = .sh (.tup ((rowOf bs).map D.int)) ∧ rowDue bs = .tup ((rowOf bs).map D.int) ∧ 1 ≤ bs.length ∧ bs.length ≤ 12 ∧ firstMis bs = none ∧ o = [out]
def RowE (bs : List (List (List Int))) (out : Sl) (c : Nat) (l : List D) (o : List Sl) : Prop := o = [out] ∧ ((c = 3 ∧ l = [] ∧ rowDue bs = .tup [.str "NoRow", .non] ∧ ¬ (1 ≤ bs.length ∧ bs.length ≤ 12)) ∨ ∃ k : Nat, c = 2 ∧ l = [.int k] ∧ rowDue bs = .tup [.str "NoFit", .int k] ∧ 1 ≤ bs.length ∧ bs.length ≤ 12 ∧ firstMis bs = some k)
theorem rowb_sh {bs : List (List (List Int))} (hb : Fat bs) (hl : bs.length ≤ 1000) : SatFX (S_row_of_boxes [.sh (.lst (bs.map encB))]) (RowP bs .emp) (RowE bs .emp) := by
  have bad : ¬ (1 ≤ bs.length ∧ bs.length ≤ 12) → rowDue bs = .tup [.str "NoRow", .non] := fun h => if_neg h
  unfold S_row_of_boxes RowP RowE
  walk_at "ev startx"
  unfold b_row_of_boxes
  walk_at "ev go"
  rw [List.length_map]
  refine k_ifd (fun h1 => ?_) (fun h1 => ?_)
  · walk_at "ev go"
    refine k_ifd (fun h2 => ?_) (fun h2 => ?_)
    · walk_at "ev go"
      rw [List.length_map]
      walk_at "ev go"
      refine forX_inv (fun ds ρ => ∃ (k : Nat) (s1 : Sl), 1 ≤ k ∧ k ≤ bs.length ∧ ds = rngD k (bs.length - k) ∧ (∀ j, 1 ≤ j → j < k → misfit bs j = false) ∧ ρ = [.sh (.lst (bs.map encB)), s1, .emp]) ?_ ?_ _ _ ⟨1, .emp, by omega, by omega, by congr 1; omega, fun j h1 h2 => by omega, rfl⟩
      · rintro d ds ρ ⟨k, s1, k1, k2, e, hn, rfl⟩
        obtain ⟨c, hc⟩ : ∃ c, bs.length - k = c := ⟨_, rfl⟩
        rw [hc] at e
        cases c with
        | zero => cases e
        | succ c =>
          cases e
          have f1 := fat_get hb (i := k) (by omega)
          have f2 := fat_get hb (i := k - 1) (by omega)
          walk_at "ev go"
          refine ix_boxes (by omega) (by omega) ?_
          walk_at "ev go"
          refine len_encB ?_
          walk_at "ev go"
          refine ix_boxes (by omega) (by omega) ?_
          walk_at "ev go"
          rw [show ((k : Int) - 1).toNat = k - 1 by omega, show (k : Int).toNat = k by omega]
          refine ix_first f2.1 ?_
          walk_at "ev go"
          refine len_encR ?_
          walk_at "ev go"
          refine k_ifd (fun he => ?_) (fun he => ?_)
          · walk_at "ev go"
            refine ⟨k + 1, _, by omega, by omega, by congr 1; omega, fun j j1 j2 => ?_, rfl⟩
            by_cases hj : j < k
            · exact hn j j1 hj
            · have : j = k := by omega
              subst this
              unfold misfit wide
              rw [decide_eq_false_iff_not]
              omega
          · walk_at "ev go"
            have hm : misfit bs k = true := by
              unfold misfit wide
              rw [decide_eq_true_eq]
              omega
            have e1 := firstMis_some k1 (by omega) hm hn
            refine ⟨rfl, .inr ⟨k, rfl, rfl, ?_, by omega, by omega, e1⟩⟩
            unfold rowDue
            rw [if_pos ⟨by omega, by omega⟩, e1]
      · rintro ρ ⟨k, s1, k1, k2, e, hn, rfl⟩
        have hk : k = bs.length := by
          cases c : bs.length - k with
          | zero => omega
          | succ c' => rw [c] at e; cases e
        subst hk
        have e1 := firstMis_none hn
        have f1 := fat_last hb (by omega)
        walk_at "ev go"
        refine Sat_mono (compL_map (fun b => D.int (b.length : Nat)) bs fun b hb' => ?_) ?_
        · walk_at "ev go"
          refine ⟨rfl, ?_⟩
          walk_at "ev go"
          refine len_encB ?_
          exact ⟨rfl, rfl⟩
        rintro l ρ' ⟨rfl, rfl⟩
        walk_at "ev go"
        refine ix_back (by omega) ?_
        walk_at "ev go"
        refine ix_first f1.1 ?_
        walk_at "ev go"
        refine len_encR ?_
        walk_at "ev go"
        refine k_on (show dAdd (.lst (bs.map fun b => D.int (b.length : Nat))) (.lst [.int ((bs.getLastD []).headD []).length]) = some (.lst ((rowOf bs).map D.int)) from ?_) ?_
        · show (if _ then _ else _) = _
          rw [if_pos (by rw [List.length_map]; exact lim_pos (by simp; omega))]
          unfold rowOf wide
          rw [List.map_append, List.map_map]
          rfl
        walk_at "ev go"
        refine ⟨rfl, ?_, by omega, by omega, e1, rfl⟩
        unfold rowDue
        rw [if_pos ⟨by omega, by omega⟩, e1]
    · walk_at "ev go"
      exact ⟨rfl, .inl ⟨rfl, rfl, bad (by omega), by omega⟩⟩
  · walk_at "ev go"
    exact ⟨rfl, .inl ⟨rfl, rfl, bad (by omega), by omega⟩⟩
theorem rowb_io {bs : List (List (List Int))} (hb : Fat bs) (hl : bs.length ≤ 1000) : SatFX (S_row_of_boxes [.io (.lst (bs.map encB))]) (RowP bs (.io (.lst (bs.map encB)))) (RowE bs (.io (.lst (bs.map encB)))) := by
  have bad : ¬ (1 ≤ bs.length ∧ bs.length ≤ 12) → rowDue bs = .tup [.str "NoRow", .non] := fun h => if_neg h
  unfold S_row_of_boxes RowP RowE
  walk_at "ev startx"
  unfold b_row_of_boxes
  walk_at "ev go"
  rw [List.length_map]
  refine k_ifd (fun h1 => ?_) (fun h1 => ?_)
  · walk_at "ev go"
    refine k_ifd (fun h2 => ?_) (fun h2 => ?_)
    · walk_at "ev go"
      rw [List.length_map]
      walk_at "ev go"
      refine forX_inv (fun ds ρ => ∃ (k : Nat) (s1 : Sl), 1 ≤ k ∧ k ≤ bs.length ∧ ds = rngD k (bs.length - k) ∧ (∀ j, 1 ≤ j → j < k → misfit bs j = false) ∧ ρ = [.io (.lst (bs.map encB)), s1, .emp]) ?_ ?_ _ _ ⟨1, .emp, by omega, by omega, by congr 1; omega, fun j h1 h2 => by omega, rfl⟩
      · rintro d ds ρ ⟨k, s1, k1, k2, e, hn, rfl⟩
        obtain ⟨c, hc⟩ : ∃ c, bs.length - k = c := ⟨_, rfl⟩
        rw [hc] at e
        cases c with
        | zero => cases e
        | succ c =>
          cases e
          have f1 := fat_get hb (i := k) (by omega)
          have f2 := fat_get hb (i := k - 1) (by omega)
          walk_at "ev go"
          refine ix_boxes (by omega) (by omega) ?_
          walk_at "ev go"
          refine len_encB ?_
          walk_at "ev go"
          refine ix_boxes (by omega) (by omega) ?_
          walk_at "ev go"
          rw [show ((k : Int) - 1).toNat = k - 1 by omega, show (k : Int).toNat = k by omega]
          refine ix_first f2.1 ?_
          walk_at "ev go"
          refine len_encR ?_
          walk_at "ev go"
          refine k_ifd (fun he => ?_) (fun he => ?_)
          · walk_at "ev go"
            refine ⟨k + 1, _, by omega, by omega, by congr 1; omega, fun j j1 j2 => ?_, rfl⟩
            by_cases hj : j < k
            · exact hn j j1 hj
            · have : j = k := by omega
              subst this
              unfold misfit wide
              rw [decide_eq_false_iff_not]
              omega
          · walk_at "ev go"
            have hm : misfit bs k = true := by
              unfold misfit wide
              rw [decide_eq_true_eq]
              omega
            have e1 := firstMis_some k1 (by omega) hm hn
            refine ⟨rfl, .inr ⟨k, rfl, rfl, ?_, by omega, by omega, e1⟩⟩
            unfold rowDue
            rw [if_pos ⟨by omega, by omega⟩, e1]
      · rintro ρ ⟨k, s1, k1, k2, e, hn, rfl⟩
        have hk : k = bs.length := by
          cases c : bs.length - k with
          | zero => omega
          | succ c' => rw [c] at e; cases e
        subst hk
        have e1 := firstMis_none hn
        have f1 := fat_last hb (by omega)
        walk_at "ev go"
        refine r_compN rfl (by rw [List.length_map]; omega) (by decide) ?_
        walk_at "ev go"
        refine Sat_mono (compV_map (fun b => D.int (b.length : Nat)) bs rfl fun b hb' => ?_) ?_
        · walk_at "ev go"
          refine ⟨rfl, ?_⟩
          walk_at "ev go"
          refine len_encB ?_
          exact ⟨rfl, rfl⟩
        rintro l ρ' ⟨rfl, rfl⟩
        walk_at "ev go"
        refine ix_back (by omega) ?_
        walk_at "ev go"
        refine ix_first f1.1 ?_
        walk_at "ev go"
        refine len_encR ?_
        walk_at "ev go"
        refine k_on (show dAdd (.lst (bs.map fun b => D.int (b.length : Nat))) (.lst [.int ((bs.getLastD []).headD []).length]) = some (.lst ((rowOf bs).map D.int)) from ?_) ?_
        · show (if _ then _ else _) = _
          rw [if_pos (by rw [List.length_map]; exact lim_pos (by simp; omega))]
          unfold rowOf wide
          rw [List.map_append, List.map_map]
          rfl
        walk_at "ev go"
        refine ⟨rfl, ?_, by omega, by omega, e1, rfl⟩
        unfold rowDue
        rw [if_pos ⟨by omega, by omega⟩, e1]
    · walk_at "ev go"
      exact ⟨rfl, .inl ⟨rfl, rfl, bad (by omega), by omega⟩⟩
  · walk_at "ev go"
    exact ⟨rfl, .inl ⟨rfl, rfl, bad (by omega), by omega⟩⟩

/-- run: 0 boxes, 1 brackets, 2 row, 3 steps -/
def b_run : M Flw :=
  (seqM (mSet 2 (callM S_row_of_boxes [(.ev (mVar 0))]))
  (seqM (mDo (vaM (callM S_need_brackets [(.ev (mOp2 dSub (.ev (mOpN dLenA [(.pk 2)])) (.ev (mC (.int 2))))), (.ev (mVar 1))])))
  (seqM (mSet 3 (aLst (mEach [])))
  (mRet (aTupE (mOp2 dIxA (.ev (vaM (callM S_run_part [(.ev (mVar 0)), (.ev (mVar 1)), (.pk 3)]))) (.ev (mC (.int 2)))) 3)))))
def S_run : List Sl → FR := runF 2 b_run
theorem rowOf_len (bs : List (List (List Int))) : (rowOf bs).length = bs.length + 1 := by unfold rowOf; rw [List.length_append, List.length_map]; rfl
theorem own0s_map {α : Type} (f : α → D) (h : ∀ a, D.own0 (f a) = true) : ∀ l : List α, D.own0s (l.map f) = true
  | [] => rfl
  | a :: l => by
    rw [List.map_cons, D.own0s, h a, own0s_map f h l]
    rfl
theorem own0_encB (b : List (List Int)) : (encB b).own0 = true := by
  unfold encB
  rw [D.own0]
  exact own0s_map _ (fun r => by unfold encR; rw [D.own0]; exact own0s_map _ (fun _ => rfl) r) b
theorem own0s_app : ∀ l m : List D, D.own0s l = true → D.own0s m = true → D.own0s (l ++ m) = true
  | [], m, _, h => h
  | d :: l, m, h, h2 => by
    rw [D.own0s, Bool.and_eq_true] at h
    rw [List.cons_append, D.own0s, h.1, own0s_app l m h.2 h2]
    rfl
theorem own0s_runS (ds : Nat → Nat) : ∀ t : Br, D.own0s (runS ds t) = true
  | .leaf _ => rfl
  | .node l r => by
    rw [runS]
    exact own0s_app _ _ (own0s_app _ _ (own0s_runS ds l) (own0s_runS ds r)) rfl
theorem run_ok {ds : Nat → Nat} {bs : List (List (List Int))} (B : Boxes ds bs) (hb : Fat bs) (h1 : 1 ≤ bs.length) (h12 : bs.length ≤ 12) (hf : firstMis bs = none) {t : Br} (h : t.On 0 ((bs.length : Int) - 1)) :
    SatF (S_run [.sh (.lst (bs.map encB)), .sh t.enc]) fun s o => s = .tr (.tup [encB (runP bs t), .lst (runS ds t)]) ∧ o = [.emp, .emp] := by
  have sp := rowb_sh hb (by omega)
  have sp' : SatF (S_row_of_boxes [.sh (.lst (bs.map encB))]) fun s o => s = .sh (.tup ((rowOf bs).map D.int)) ∧ o = [.emp] := by
    refine satF_ofX (SatFX_mono sp ?_ ?_)
    · rintro s o ⟨rfl, _, _, _, _, rfl⟩
      exact ⟨rfl, rfl⟩
    · rintro c l o ⟨_, ⟨_, _, _, h⟩ | ⟨k, _, _, _, _, _, h⟩⟩
      · exact absurd ⟨h1, h12⟩ h
      · rw [hf] at h; cases h
  unfold S_run
  walk_at "ev start"
  unfold b_run
  walk_at "ev go"
  with_reducible refine k_call sp' ?_
  rintro _ _ ⟨rfl, rfl⟩
  walk_at "ev go"
  rw [List.length_map, rowOf_len]
  have hd := h.dep
  rw [← th_enc t, show ((bs.length + 1 : Nat) : Int) - 2 = (bs.length : Int) - 1 by omega]
  with_reducible refine k_call (need_ok (th_ok t) ?_ ?_) ?_
  · rw [th_depth]; omega
  · unfold Th.isB; rw [th_span h]; simp
  rintro _ _ ⟨rfl, rfl⟩
  rw [th_enc t]
  walk_at "ev go"
  with_reducible refine k_call (runpart_ok (st := []) B h ?_ ?_ ?_) ?_
  · omega
  · omega
  · simp
  rintro _ _ ⟨rfl, rfl⟩
  walk_at "ev go"
  rw [List.nil_append]
  refine ⟨by rw [own0_encB, own0s_runS]; rfl, ?_⟩
  walk_at "ev go"
  exact ⟨rfl, rfl⟩
theorem run_bad {bs : List (List (List Int))} (hb : Fat bs) (hl : bs.length ≤ 1000) {u : Th} (hu : u.ok) (hud : u.depth < 64) (hn : ¬ (1 ≤ bs.length ∧ bs.length ≤ 12) ∨ (firstMis bs).isSome = true ∨ u.isB 0 ((bs.length : Int) - 1) = false) :
    SatFX (S_run [.sh (.lst (bs.map encB)), .sh u.enc]) (fun _ _ => False) fun c l o => o = [.emp, .emp] ∧ ((c = 3 ∧ l = [] ∧ ¬ (1 ≤ bs.length ∧ bs.length ≤ 12)) ∨ (∃ k : Nat, c = 2 ∧ l = [.int k] ∧ (1 ≤ bs.length ∧ bs.length ≤ 12) ∧ firstMis bs = some k) ∨ (c = 4 ∧ l = [] ∧ (1 ≤ bs.length ∧ bs.length ≤ 12) ∧ firstMis bs = none)) := by
  have sp := rowb_sh hb hl
  unfold RowP RowE at sp
  unfold S_run
  walk_at "ev startx"
  unfold b_run
  walk_at "ev go"
  with_reducible refine kx_call sp ?_ ?_
  · rintro s o ⟨rfl, hd, q1, q2, q3, rfl⟩
    walk_at "ev go"
    rw [List.length_map, rowOf_len, show ((bs.length + 1 : Nat) : Int) - 2 = (bs.length : Int) - 1 by omega]
    have hb' : u.isB 0 ((bs.length : Int) - 1) = false := by
      rcases hn with q | q | q
      · exact absurd ⟨q1, q2⟩ q
      · rw [q3] at q; cases q
      · exact q
    with_reducible refine kx_call (need_bad hu hud hb') (fun _ _ z => z.elim) ?_
    rintro c l o ⟨rfl, rfl, rfl⟩
    walk_at "ev go"
    exact ⟨rfl, .inr (.inr ⟨rfl, rfl, ⟨q1, q2⟩, q3⟩)⟩
  · rintro c l o ⟨rfl, ⟨rfl, rfl, _, h⟩ | ⟨k, rfl, rfl, _, q1, q2, q3⟩⟩
    · walk_at "ev go"
      exact ⟨rfl, .inl ⟨rfl, rfl, h⟩⟩
    · walk_at "ev go"
      exact ⟨rfl, .inr (.inl ⟨k, rfl, rfl, ⟨q1, q2⟩, q3⟩)⟩

/-- parts_of: 0 brackets -/
def b_parts_of (S : List Sl → FR) : M Flw :=
  (seqM (mIf (mNot (mTru (mOpN (dIsi .tup) [(.pk 0)]))) (mRet (aLst (mEach []))) (retM .nx))
  (mRet (aAddX (.ev (mOp2 dAdd (.ev (vaM (callM S [(.ev (mOp2 dIxA (.pk 0) (.ev (mC (.int 0)))))]))) (.ev (vaM (callM S [(.ev (mOp2 dIxA (.pk 0) (.ev (mC (.int 1)))))]))))) (.ev (mLst (mEach [(mVar 0)]))))))
def F_parts_of : Nat → List Sl → FR
  | 0 => fun _ => .no
  | n + 1 => runF 0 (b_parts_of (F_parts_of n))
def S_parts_of : List Sl → FR := F_parts_of 64
def partsL : Br → List Br
  | .leaf _ => []
  | .node l r => partsL l ++ partsL r ++ [.node l r]
theorem partsL_len : ∀ t : Br, (partsL t).length + 1 = t.len
  | .leaf _ => rfl
  | .node l r => by
    have h1 := partsL_len l
    have h2 := partsL_len r
    rw [partsL, Br.len, List.length_append, List.length_append]
    simp only [List.length_cons, List.length_nil]
    omega
def PartSp (S : List Sl → FR) (N : Nat) : Prop := ∀ t : Br, t.depth < N → t.len ≤ 1000 → SatF (S [.sh t.enc]) fun s o => s = .ow (.lst ((partsL t).map Br.enc)) ∧ o = [.emp]
theorem parts_step {S : List Sl → FR} {N : Nat} (ih : PartSp S N) : PartSp (runF 0 (b_parts_of S)) (N + 1) := by
  intro t hd hl
  walk_at "ev start"
  unfold b_parts_of
  cases t with
  | leaf i =>
    simp only [Br.enc]
    walk_at "ev go"
    exact ⟨rfl, rfl⟩
  | node l r =>
    have d1 : max l.depth r.depth + 1 < N + 1 := hd
    have e1 : l.len + r.len ≤ 1000 := hl
    have n1 := partsL_len l
    have n2 := partsL_len r
    simp only [Br.enc]
    walk_at "ev go"
    have sl := ih l (by omega) (by omega)
    with_reducible refine k_call sl ?_
    rintro _ _ ⟨rfl, rfl⟩
    walk_at "ev go"
    have sr := ih r (by omega) (by omega)
    with_reducible refine k_call sr ?_
    rintro _ _ ⟨rfl, rfl⟩
    walk_at "ev go"
    refine v_addL (by rw [List.length_map, List.length_map]; omega) ?_
    walk_at "ev go"
    refine v_addXL (by rw [List.length_append, List.length_map, List.length_map]; simp; omega) ?_
    walk_at "ev go"
    refine ⟨?_, rfl⟩
    rw [partsL, List.map_append, List.map_append]
    rfl
theorem parts_at : ∀ N : Nat, PartSp (F_parts_of N) N
  | 0 => fun _ h => absurd h (by omega)
  | N + 1 => parts_step (parts_at N)
theorem parts_ok {t : Br} (h : t.depth < 64) (hl : t.len ≤ 1000) : SatF (S_parts_of [.sh t.enc]) fun s o => s = .ow (.lst ((partsL t).map Br.enc)) ∧ o = [.emp] := parts_at 64 t h hl

/-- product_cost: 0 row, 1 first, 2 cut, 3 last -/
def b_product_cost : M Flw :=
  (mRet (shM (mOp2 dMul (.ev (mOp2 dMul (.ev (mOp2 dIxA (.pk 0) (.pk 1))) (.ev (mOp2 dIxA (.pk 0) (.ev (mOp2 dAdd (.pk 2) (.ev (mC (.int 1))))))))) (.ev (mOp2 dIxA (.pk 0) (.ev (mOp2 dAdd (.pk 3) (.ev (mC (.int 1))))))))))
def S_product_cost : List Sl → FR := runF 0 b_product_cost
/-- a row of sizes, none above 10 ** 9 -/
def Sizes (ns : List Int) : Prop := ∀ x ∈ ns, 1 ≤ x ∧ x ≤ 1000000000
theorem sizes_get {ns : List Int} (h : Sizes ns) {i : Nat} (hi : i < ns.length) : 1 ≤ ns.getD i 0 ∧ ns.getD i 0 ≤ 1000000000 := by
  rw [List.getD_eq_getElem?_getD, List.getElem?_eq_getElem hi]
  exact h _ (List.getElem_mem hi)
theorem mul_lim {x y A B : Int} (h0 : 0 ≤ x) (h1 : x ≤ A) (g0 : 0 ≤ y) (g1 : y ≤ B) : 0 ≤ x * y ∧ x * y ≤ A * B := ⟨Int.mul_nonneg h0 g0, Int.mul_le_mul h1 g1 g0 (by omega)⟩
def costAt (ns : List Int) (i k j : Int) : Int := ns.getD i.toNat 0 * ns.getD (k + 1).toNat 0 * ns.getD (j + 1).toNat 0
theorem costAt_lim {ns : List Int} (h : Sizes ns) {i k j : Int} (i0 : 0 ≤ i) (i1 : i < ns.length) (k0 : 0 ≤ k) (k1 : k + 1 < ns.length) (j0 : 0 ≤ j) (j1 : j + 1 < ns.length) : 0 ≤ costAt ns i k j ∧ costAt ns i k j ≤ 1000000000000000000000000000 := by
  have q1 := sizes_get h (i := i.toNat) (by omega)
  have q2 := sizes_get h (i := (k + 1).toNat) (by omega)
  have q3 := sizes_get h (i := (j + 1).toNat) (by omega)
  have m := mul_lim (by omega) q1.2 (by omega) q2.2
  exact mul_lim m.1 m.2 (by omega) q3.2
theorem pcost_ok {ns : List Int} (h : Sizes ns) {i k j : Int} (i0 : 0 ≤ i) (i1 : i < ns.length) (k0 : 0 ≤ k) (k1 : k + 1 < ns.length) (j0 : 0 ≤ j) (j1 : j + 1 < ns.length) :
    SatF (S_product_cost [.sh (.tup (ns.map D.int)), .sh (.int i), .sh (.int k), .sh (.int j)]) fun s o => s = .sh (.int (costAt ns i k j)) ∧ o = [.emp, .emp, .emp, .emp] := by
  have q1 := sizes_get h (i := i.toNat) (by omega)
  have q2 := sizes_get h (i := (k + 1).toNat) (by omega)
  have q3 := sizes_get h (i := (j + 1).toNat) (by omega)
  have m := mul_lim (by omega) q1.2 (by omega) q2.2
  unfold S_product_cost
  walk_at "ev start"
  unfold b_product_cost
  walk_at "ev go"
  refine v_ixTI i0 i1 ?_
  walk_at "ev go"
  refine v_ixTI (by omega) k1 ?_
  walk_at "ev go"
  refine v_ixTI (by omega) j1 ?_
  walk_at "ev go"
  exact ⟨rfl, rfl⟩

/-- cut_of: 0 brackets, 1 at -/
def b_cut_of : M Flw :=
  (seqM (mSet 1 (shM (mOp2 dIxA (.pk 0) (.ev (mC (.int 0))))))
  (seqM (mWhile (mTru (mOpN (dIsi .tup) [(.pk 1)])) (mSet 1 (shM (mOp2 dIxA (.pk 1) (.ev (mC (.int 1)))))) 1000000)
  (mRet (aVar 1))))
def S_cut_of : List Sl → FR := runF 1 b_cut_of
theorem isTupBr {t : Br} {K : D → Prop} (k : K (.bl (match t with | .leaf _ => false | .node _ _ => true))) : On (dIsi .tup [t.enc]) K := by
  cases t with
  | leaf i => exact k
  | node l r => exact k
theorem cut_ok {l r : Br} (h : l.depth < 1000) : SatF (S_cut_of [.sh (Br.node l r).enc]) fun s o => s = .sh (.int l.lst) ∧ o = [.emp] := by
  unfold S_cut_of
  walk_at "ev start"
  unfold b_cut_of
  simp only [Br.enc]
  walk_at "ev go"
  refine while_inv (fun n ρ => ∃ t : Br, n = t.depth ∧ t.lst = l.lst ∧ ρ = [.sh (.tup [l.enc, r.enc]), .sh t.enc]) ?_ 1000000 l.depth _ (by omega) ⟨l, rfl, rfl, rfl⟩
  rintro n ρ ⟨t, rfl, ht, rfl⟩
  walk_at "ev go"
  refine isTupBr ?_
  cases t with
  | leaf i =>
    walk_at "ev go"
    simp only [Bool.false_eq_true, if_false]
    walk_at "ev go"
    exact ⟨by rw [← ht]; rfl, rfl⟩
  | node a b =>
    walk_at "ev go"
    simp only [if_true]
    simp only [Br.enc]
    walk_at "ev go"
    refine ⟨b.depth, ?_, b, rfl, ?_, rfl⟩
    · show b.depth < max a.depth b.depth + 1
      omega
    · rw [← ht]; rfl

/-- cost: 0 row, 1 brackets, 2 found, 3 one, 4 first, 5 last -/
def b_cost : M Flw :=
  (seqM (mDo (vaM (callM S_need_brackets [(.ev (mOp2 dSub (.ev (mOpN dLenA [(.pk 0)])) (.ev (mC (.int 2))))), (.ev (mVar 1))])))
  (seqM (mSet 2 (shM (mC (.int 0))))
  (seqM (mFor (mIter (vaM (callM S_parts_of [(.ev (mVar 1))]))) (toName 3) (seqM (mAsg (toTup [(toName 4), (toName 5)]) (vaM (callM S_span_of [(.ev (mVar 3))])))
    (mSet 2 (aAddX (.pk 2) (.ev (vaM (callM S_product_cost [(.ev (mVar 0)), (.ev (mVar 4)), (.ev (vaM (callM S_cut_of [(.ev (mVar 3))]))), (.ev (mVar 5))])))))))
  (mRet (aVar 2)))))
def S_cost : List Sl → FR := runF 4 b_cost
def cst (ns : List Int) : Br → Int
  | .leaf _ => 0
  | .node l r => costAt ns l.fst l.lst r.lst
def costOf (ns : List Int) (t : Br) : Int := ((partsL t).map (cst ns)).sum
theorem costOf_node (ns : List Int) (l r : Br) : costOf ns (.node l r) = costOf ns l + costOf ns r + costAt ns l.fst l.lst r.lst := by
  unfold costOf
  rw [partsL, List.map_append, List.map_append, List.sum_append, List.sum_append]
  simp [cst]
theorem partsL_in : ∀ {t p : Br} {a b : Int}, p ∈ partsL t → t.On a b → ∃ l r a' b', p = .node l r ∧ (Br.node l r).On a' b' ∧ a ≤ a' ∧ b' ≤ b ∧ p.depth ≤ t.depth
  | .leaf _, _, _, _, h, _ => by cases h
  | .node l r, p, a, b, h, o => by
    obtain ⟨c, c0, c1, hl, hr⟩ := id o
    have dl : l.depth ≤ (Br.node l r).depth := by show _ ≤ max l.depth r.depth + 1; omega
    have dr : r.depth ≤ (Br.node l r).depth := by show _ ≤ max l.depth r.depth + 1; omega
    rw [partsL] at h
    rcases List.mem_append.mp h with h | h
    · rcases List.mem_append.mp h with h | h
      · obtain ⟨x, y, a', b', e, o', h1, h2, h3⟩ := partsL_in h hl
        exact ⟨x, y, a', b', e, o', h1, by omega, by omega⟩
      · obtain ⟨x, y, a', b', e, o', h1, h2, h3⟩ := partsL_in h hr
        exact ⟨x, y, a', b', e, o', by omega, h2, by omega⟩
    · rw [List.mem_singleton.mp h]
      exact ⟨l, r, a, b, rfl, o, Int.le_refl _, Int.le_refl _, Nat.le_refl _⟩
theorem cost_ok {ns : List Int} (hs : Sizes ns) (h2 : 2 ≤ ns.length) (hl : ns.length ≤ 60) {t : Br} (h : t.On 0 ((ns.length : Int) - 2)) :
    SatF (S_cost [.sh (.tup (ns.map D.int)), .sh t.enc]) fun s o => s = .sh (.int (costOf ns t)) ∧ o = [.emp, .emp] := by
  have hd := h.dep
  have hlen := h.len
  unfold S_cost
  walk_at "ev start"
  unfold b_cost
  walk_at "ev go"
  rw [List.length_map, ← th_enc t]
  with_reducible refine k_call (need_ok (th_ok t) ?_ ?_) ?_
  · rw [th_depth]; omega
  · unfold Th.isB; rw [th_span h]; simp
  rintro _ _ ⟨rfl, rfl⟩
  rw [th_enc t]
  walk_at "ev go"
  with_reducible refine k_call (parts_ok (t := t) ?_ ?_) ?_
  · omega
  · omega
  rintro _ _ ⟨rfl, rfl⟩
  walk_at "ev go"
  refine forL_inv (fun ds ρ => ∃ (pre post : List Br) (s3 s4 s5 : Sl), partsL t = pre ++ post ∧ ds = post.map Br.enc ∧ ρ = [.sh (.tup (ns.map D.int)), .sh t.enc, .sh (.int (pre.map (cst ns)).sum), s3, s4, s5]) ?_ ?_ _ _ ⟨[], partsL t, .emp, .emp, .emp, rfl, rfl, rfl⟩
  · rintro d ds ρ ⟨pre, post, s3, s4, s5, e, e2, rfl⟩
    cases post with
    | nil => cases e2
    | cons p post =>
      cases e2
      obtain ⟨l, r, a, b, rfl, o, a0, b0, dp⟩ := partsL_in (p := p) (by rw [e]; simp) h
      obtain ⟨c, c0, c1, ol, orr⟩ := id o
      have sp := span_ok (th_ok (.node l r)) (by rw [th_depth]; omega)
      rw [th_enc, th_span o] at sp
      walk_at "ev go"
      with_reducible refine k_call sp ?_
      rintro _ _ ⟨rfl, rfl⟩
      simp only [spD']
      walk_at "ev go"
      with_reducible refine k_call (cut_ok ?_) ?_
      · have : l.depth < (Br.node l r).depth := by show _ < max l.depth r.depth + 1; omega
        omega
      rintro _ _ ⟨rfl, rfl⟩
      rw [ol.lst]
      walk_at "ev go"
      have oll := ol.le
      have orl := orr.le
      with_reducible refine k_call (pcost_ok hs (i := a) (k := c) (j := b) ?_ ?_ ?_ ?_ ?_ ?_) ?_
      · omega
      · omega
      · omega
      · omega
      · omega
      · omega
      rintro _ _ ⟨rfl, rfl⟩
      walk_at "ev go"
      have key : (pre.map (cst ns)).sum + costAt ns a c b = ((pre ++ [Br.node l r]).map (cst ns)).sum := by
        rw [List.map_append, List.sum_append]
        simp only [List.map_cons, List.map_nil, List.sum_cons, List.sum_nil, cst, ol.fst, ol.lst, orr.lst, Int.add_zero]
      rw [key]
      exact ⟨pre ++ [.node l r], post, _, _, _, by rw [e]; simp, rfl, rfl⟩
  · rintro ρ ⟨pre, post, s3, s4, s5, e, e2, rfl⟩
    cases post with
    | cons p post => cases e2
    | nil =>
      rw [List.append_nil] at e
      subst e
      walk_at "ev go"
      exact ⟨rfl, rfl⟩
theorem cost_bad {ns : List Int} {u : Th} (hu : u.ok) (hd : u.depth < 64) (hl : ns.length ≤ 60) (hb : u.isB 0 ((ns.length : Int) - 2) = false) :
    SatFX (S_cost [.sh (.tup (ns.map D.int)), .sh u.enc]) (fun _ _ => False) fun c l o => c = 4 ∧ l = [] ∧ o = [.emp, .emp] := by
  unfold S_cost
  walk_at "ev startx"
  unfold b_cost
  walk_at "ev go"
  rw [List.length_map]
  with_reducible refine kx_call (need_bad hu hd hb) (fun _ _ z => z.elim) ?_
  rintro c l o ⟨rfl, rfl, rfl⟩
  walk_at "ev go"
  exact ⟨rfl, rfl, rfl⟩

/-- _law_parts: 0 _law_part, 1 _law_left, 2 _law_right_here -/
def b_l_parts (S : List Sl → FR) : M Flw :=
  (seqM (mIf (mTru (mOpN (dIsi .int) [(.pk 0)])) (mRet (shM (mTup (mEach [(mVar 0), (mVar 0), (mLst (mEach []))])))) (retM .nx))
  (seqM (mSet 1 (callM S [(.ev (mOp2 dIxA (.pk 0) (.ev (mC (.int 0)))))]))
  (seqM (mSet 2 (callM S [(.ev (mOp2 dIxA (.pk 0) (.ev (mC (.int 1)))))]))
  (mRet (shM (mTup (mEach [(mOp2 dIxA (.pk 1) (.ev (mC (.int 0)))), (mOp2 dIxA (.pk 2) (.ev (mC (.int 1)))), (mOp2 dAdd (.ev (mOp2 dAdd (.ev (mOp2 dIxA (.pk 1) (.ev (mC (.int 2))))) (.ev (mOp2 dIxA (.pk 2) (.ev (mC (.int 2))))))) (.ev (mLst (mEach [(mTup (mEach [(mOp2 dIxA (.pk 1) (.ev (mC (.int 0)))), (mOp2 dIxA (.pk 1) (.ev (mC (.int 1)))), (mOp2 dIxA (.pk 2) (.ev (mC (.int 1))))]))]))))])))))))
def F_l_parts : Nat → List Sl → FR
  | 0 => fun _ => .no
  | n + 1 => runF 2 (b_l_parts (F_l_parts n))
def S_l_parts : List Sl → FR := F_l_parts 64
/-- the law's own parts: first, last of the left part, last -/
def lpartD : Br → D
  | .leaf _ => .non
  | .node l r => .tup [.int l.fst, .int l.lst, .int r.lst]
def LPartSp (S : List Sl → FR) (N : Nat) : Prop := ∀ {t : Br} {a b : Int}, t.On a b → t.depth < N → t.len ≤ 1000 → SatF (S [.sh t.enc]) fun s o => s = .sh (.tup [.int a, .int b, .lst ((partsL t).map lpartD)]) ∧ o = [.emp]
theorem lparts_step {S : List Sl → FR} {N : Nat} (ih : LPartSp S N) : LPartSp (runF 2 (b_l_parts S)) (N + 1) := by
  intro t a b h hd hl
  walk_at "ev start"
  unfold b_l_parts
  cases t with
  | leaf i =>
    obtain ⟨rfl, rfl⟩ := h
    simp only [Br.enc]
    walk_at "ev go"
    exact ⟨rfl, rfl⟩
  | node l r =>
    obtain ⟨c, c0, c1, ol, orr⟩ := id h
    have d1 : max l.depth r.depth + 1 < N + 1 := hd
    have e1 : l.len + r.len ≤ 1000 := hl
    have n1 := partsL_len l
    have n2 := partsL_len r
    simp only [Br.enc]
    walk_at "ev go"
    have sl := ih ol (by omega) (by omega)
    with_reducible refine k_call sl ?_
    rintro _ _ ⟨rfl, rfl⟩
    walk_at "ev go"
    have sr := ih orr (by omega) (by omega)
    with_reducible refine k_call sr ?_
    rintro _ _ ⟨rfl, rfl⟩
    walk_at "ev go"
    refine v_addL (by rw [List.length_map, List.length_map]; omega) ?_
    walk_at "ev go"
    refine v_addL (by rw [List.length_append, List.length_map, List.length_map]; simp; omega) ?_
    walk_at "ev go"
    refine ⟨?_, rfl⟩
    rw [partsL, List.map_append, List.map_append]
    simp only [List.map_cons, List.map_nil, lpartD, ol.fst, ol.lst, orr.lst]
theorem lparts_at : ∀ N : Nat, LPartSp (F_l_parts N) N
  | 0 => fun _ h => absurd h (by omega)
  | N + 1 => lparts_step (lparts_at N)
theorem lparts_ok {t : Br} {a b : Int} (h : t.On a b) (hd : t.depth < 64) (hl : t.len ≤ 1000) : SatF (S_l_parts [.sh t.enc]) fun s o => s = .sh (.tup [.int a, .int b, .lst ((partsL t).map lpartD)]) ∧ o = [.emp] := lparts_at 64 h hd hl

theorem cut_from {α : Type} (l : List α) (k : Nat) : dCut l (some (k : Int)) none = l.drop k := by
  unfold dCut
  rw [HT.sIx_nat, HT.sIx_none]
  by_cases h : k ≤ l.length
  · rw [Nat.min_eq_left h, List.take_of_length_le (by rw [List.length_drop]; exact Nat.le_refl _)]
  · rw [Nat.min_eq_right (by omega), List.drop_eq_nil_of_le (Nat.le_refl _), List.drop_eq_nil_of_le (by omega)]
    simp
theorem cut_to {α : Type} (l : List α) (k : Nat) : dCut l none (some (k : Int)) = l.take k := by
  unfold dCut
  rw [HT.sIx_nat, HT.sIx_none, List.drop_zero, Nat.sub_zero]
  by_cases h : k ≤ l.length
  · rw [Nat.min_eq_left h]
  · rw [Nat.min_eq_right (by omega), List.take_of_length_le (Nat.le_refl _), List.take_of_length_le (by omega)]
theorem cut_mid {α : Type} (l : List α) {i j : Nat} (h : i ≤ j) : dCut l (some (i : Int)) (some (j : Int)) = (l.drop i).take (j - i) := by
  unfold dCut
  rw [HT.sIx_nat, HT.sIx_nat]
  by_cases h1 : i ≤ l.length
  · rw [Nat.min_eq_left h1]
    by_cases h2 : j ≤ l.length
    · rw [Nat.min_eq_left h2]
    · rw [Nat.min_eq_right (by omega), List.take_of_length_le (by rw [List.length_drop]; exact Nat.le_refl _), List.take_of_length_le (by rw [List.length_drop]; omega)]
  · rw [Nat.min_eq_right (show l.length ≤ i by omega), List.drop_eq_nil_of_le (Nat.le_refl _), List.drop_eq_nil_of_le (by omega)]
    simp
theorem cut_map {α β : Type} (f : α → β) (l : List α) (lo hi : Option Int) : dCut (l.map f) lo hi = (dCut l lo hi).map f := by
  unfold dCut
  rw [List.length_map, List.map_take, List.map_drop]
theorem v_slBf {b : List (List Int)} {K : D → Prop} {k : Nat} (q : K (encB (b.drop k))) : On (dSlice (encB b) (some (k : Int)) none) K := by
  refine k_on ?_ q
  show some (D.tup (dCut (b.map encR) _ _)) = _
  rw [cut_map, cut_from]
  rfl
theorem v_slBt {b : List (List Int)} {K : D → Prop} {k : Nat} (q : K (encB (b.take k))) : On (dSlice (encB b) none (some (k : Int))) K := by
  refine k_on ?_ q
  show some (D.tup (dCut (b.map encR) _ _)) = _
  rw [cut_map, cut_to]
  rfl
theorem v_addB {b c : List (List Int)} {K : D → Prop} (h : b.length + c.length ≤ 1000000) (k : K (encB (b ++ c))) : On (dAdd (encB b) (encB c)) K := by
  refine k_on (x := encB (b ++ c)) ?_ k
  rw [show dAdd (encB b) (encB c) = some (.tup (b.map encR ++ c.map encR)) from if_pos (lim_pos (by rw [List.length_map, List.length_map]; exact h)), ← List.map_append]
  rfl

/-- _law_misfit: 0 _law_pen_here, 1 _law_grids, 2 _law_at, 3 _law_found, 4 _law_k, 5 _law_long -/
def b_l_misfit : M Flw :=
  (seqM (mSet 2 (aAddX (.ev (mC (.int 1))) (.ev (vaM (callM S_draw [(.pk 0), (.ev (mOp2 dSub (.ev (mOpN dLenA [(.pk 1)])) (.ev (mC (.int 1)))))])))))
  (seqM (mSet 3 (aOpN dList [(.pk 1)]))
  (seqM (mFor (mIter (mLst (mEach [(mVar 2), (mOp2 dAdd (.ev (mOp2 dAdd (.pk 2) (.ev (mC (.int 1))))) (.ev (vaM (callM S_draw [(.pk 0), (.ev (mC (.int 12)))]))))]))) (toName 4) (mIf (mB (mOp2 dLt (.pk 4) (.ev (mOpN dLenA [(.pk 1)])))) (seqM (mSet 5 (shM (mOpN dLenA [(.ev (mOp2 dIxA (.pk 1) (.pk 4)))])))
      (seqM (mPut 3 (mVar 4) (mSlice (.ev (mOp2 dIxA (.pk 1) (.pk 4))) (some (mC (.int 1))) none) dPut)
      (mIf (mOr (mB (mOp2 dEq (.pk 5) (.ev (mC (.int 1))))) (mAnd (mB (mOp2 dLt (.pk 5) (.ev (mC (.int 8))))) (mB (mOp2 dEq (.ev (vaM (callM S_draw [(.pk 0), (.ev (mC (.int 2)))]))) (.ev (mC (.int 0))))))) (mPut 3 (mVar 4) (mOp2 dAdd (.ev (mOp2 dIxA (.pk 1) (.pk 4))) (.ev (mSlice (.ev (mOp2 dIxA (.pk 1) (.pk 4))) none (some (mC (.int 1)))))) dPut) (retM .nx)))) (retM .nx)))
  (mRet (shM (mTup (mEach [(mVar 3), (mVar 2)])))))))
def S_l_misfit : List Sl → FR := runF 4 b_l_misfit
/-- boxes one of which does not fit -/
structure Mis (bs fs : List (List (List Int))) (at_ : Nat) : Prop where
  len : fs.length = bs.length
  low : ∀ i, i < at_ → fs.getD i [] = bs.getD i []
  fat : Fat fs
theorem boxes_fat {ds : Nat → Nat} {bs : List (List (List Int))} (B : Boxes ds bs) : Fat bs := fun b hb => by
  obtain ⟨i, hi, rfl⟩ := List.getElem_of_mem hb
  have k := B.ok i hi
  have p := B.pos i (by omega)
  have p2 := B.pos (i + 1) (by omega)
  have e : bs.getD i [] = bs[i] := by rw [List.getD_eq_getElem?_getD, List.getElem?_eq_getElem hi]; rfl
  rw [e] at k
  have hw : wide bs[i] = ds (i + 1) := head_len k (by omega)
  rw [hw, k.1]
  omega
theorem boxes_fit {ds : Nat → Nat} {bs : List (List (List Int))} (B : Boxes ds bs) : firstMis bs = none := firstMis_none fun j h1 h2 => by
  have k1 := B.ok j h2
  have k2 := B.ok (j - 1) (by omega)
  have p := B.pos (j - 1) (by omega)
  have hw : wide (bs.getD (j - 1) []) = ds j := by
    have := head_len k2 (by omega)
    rw [show j - 1 + 1 = j by omega] at this
    exact this
  unfold misfit
  rw [k1.1, hw]
  simp
theorem mis_set {ds : Nat → Nat} {bs fs : List (List (List Int))} {at_ k : Nat} {z : List (List Int)} (M : Mis bs fs at_) (hk : at_ ≤ k) (hz : 1 ≤ z.length ∧ z.length ≤ 1000 ∧ wide z ≤ 1000) : Mis bs (fs.set k z) at_ where
  len := by rw [List.length_set]; exact M.len
  low := fun i hi => by
    rw [← M.low i hi, List.getD_eq_getElem?_getD, List.getD_eq_getElem?_getD, List.getElem?_set_ne (by omega)]
  fat := fat_set M.fat hz k
theorem mis_first {ds : Nat → Nat} {bs fs : List (List (List Int))} {at_ : Nat} (B : Boxes ds bs) (M : Mis bs fs at_) (h1 : 1 ≤ at_) (h2 : at_ < bs.length) (hn : (fs.getD at_ []).length ≠ (bs.getD at_ []).length) : firstMis fs = some at_ := by
  have wd : ∀ i, i < bs.length → wide (bs.getD i []) = ds (i + 1) := fun i hi => head_len (B.ok i hi) (by have := B.pos i (by omega); omega)
  refine firstMis_some h1 (by rw [M.len]; exact h2) ?_ fun j j1 j2 => ?_
  · unfold misfit
    rw [M.low (at_ - 1) (by omega), wd _ (by omega), show at_ - 1 + 1 = at_ by omega, ← (B.ok at_ h2).1]
    simpa using hn
  · unfold misfit
    rw [M.low j j2, M.low (j - 1) (by omega), wd _ (by omega), (B.ok j (by omega)).1, show j - 1 + 1 = j by omega]
    simp
theorem set_get {α : Type} {l : List α} {k : Nat} {z d : α} (h : k < l.length) : (l.set k z).getD k d = z := by
  rw [List.getD_eq_getElem?_getD, List.getElem?_set_self h]
  rfl
theorem wide_plus (b c : List (List Int)) (h : 0 < b.length) (hw : wide b ≤ 1000) : wide (b ++ c) ≤ 1000 := by
  cases b with
  | nil => exact absurd h (by decide)
  | cons r b => exact hw
theorem wide_drop {h w : Nat} {b : List (List Int)} (k : BoxOk h w b) (i : Nat) (hi : i < h) (hw : w ≤ 1000) : wide (b.drop i) ≤ 1000 := by
  have hl : 0 < (b.drop i).length := by rw [List.length_drop, k.1]; omega
  have e : wide (b.drop i) = w := by
    cases e : b.drop i with
    | nil => rw [e] at hl; exact absurd hl (by decide)
    | cons r c => exact k.2 r (List.mem_of_mem_drop (i := i) (by rw [e]; exact List.mem_cons_self))
  omega
theorem misfit_ok {n : Nat} {p : D} {ds : Nat → Nat} {bs : List (List (List Int))} (hp : Pen n p) (hn : n ≤ 100000000) (B : Boxes ds bs) (h2 : 2 ≤ bs.length) (h12 : bs.length ≤ 60) :
    SatF (S_l_misfit [.io p, .sh (.lst (bs.map encB))]) fun s o => ∃ (fs : List (List (List Int))) (at_ : Nat) (p' : D), s = .sh (.tup [.lst (fs.map encB), .int at_]) ∧ fs.length = bs.length ∧ Fat fs ∧ firstMis fs = some at_ ∧ Pen (n + 4) p' ∧ o = [.io p', .emp] := by
  have hb := boxes_fat B
  unfold S_l_misfit
  walk_at "ev start"
  unfold b_l_misfit
  walk_at "ev go"
  rw [List.length_map]
  walk_at "ev go"
  refine k_call (draw_ok hp (by omega) (by omega) (by omega)) ?_
  rintro _ _ ⟨r, p1, rfl, r0, r1, hp1, rfl⟩
  walk_at "ev go"
  refine k_call (draw_ok hp1 (by omega) (by decide) (by decide)) ?_
  rintro _ _ ⟨q, p2, rfl, q0, q1, hp2, rfl⟩
  walk_at "ev go"
  obtain ⟨A, eA⟩ : ∃ A : Nat, 1 + r = A := ⟨(1 + r).toNat, by omega⟩
  obtain ⟨K2, eK⟩ : ∃ K : Nat, 1 + r + 1 + q = K := ⟨(1 + r + 1 + q).toNat, by omega⟩
  rw [eK, eA]
  refine forL_inv (fun ds' ρ => ∃ (fs : List (List (List Int))) (p : D) (s4 s5 : Sl), ds'.length ≤ 2 ∧ Mis bs fs A ∧ (∀ d ∈ ds', ∃ k : Nat, d = .int k ∧ A ≤ k) ∧ ((ds' = [.int A, .int K2]) ∨ (fs.getD A []).length ≠ (bs.getD A []).length) ∧ Pen (n + 2 + (2 - ds'.length)) p ∧ ρ = [.io p, .sh (.lst (bs.map encB)), .sh (.int A), .ow (.lst (fs.map encB)), s4, s5]) ?_ ?_ _ _ ⟨bs, p2, .emp, .emp, by simp, ⟨rfl, fun _ _ => rfl, hb⟩, ?_, .inl rfl, hp2.mono (by simp), rfl⟩
  · rintro d ds' ρ ⟨fs, p, s4, s5, hl, M, hd, hor, hp, rfl⟩
    obtain ⟨k, rfl, hk⟩ := hd d List.mem_cons_self
    have hd' : ∀ d ∈ ds', ∃ k : Nat, d = .int k ∧ A ≤ k := fun d h => hd d (List.mem_cons_of_mem _ h)
    have hl' : ds'.length + 1 ≤ 2 := hl
    have isA : ds' ≠ [.int A, .int K2] := fun e => by rw [e] at hl'; simp at hl'
    have hA : A < bs.length := by omega
    have nx : ∀ (z : List (List Int)) (p' : D) (s5' : Sl), k < bs.length → 1 ≤ z.length → z.length ≤ 1000 → wide z ≤ 1000 → z.length ≠ (bs.getD k []).length → Pen (n + 2 + (2 - ds'.length)) p' → ∃ (fs' : List (List (List Int))) (p : D) (s4 s5 : Sl), ds'.length ≤ 2 ∧ Mis bs fs' A ∧ (∀ d ∈ ds', ∃ k : Nat, d = .int k ∧ A ≤ k) ∧ ((ds' = [.int A, .int K2]) ∨ (fs'.getD A []).length ≠ (bs.getD A []).length) ∧ Pen (n + 2 + (2 - ds'.length)) p ∧ ([.io p', .sh (.lst (bs.map encB)), .sh (.int A), .ow (.lst ((fs.set k z).map encB)), .sh (.int k), s5'] : List Sl) = [.io p, .sh (.lst (bs.map encB)), .sh (.int A), .ow (.lst (fs'.map encB)), s4, s5] := fun z p' s5' hkl z1 z2 z3 zn hp' => by
      refine ⟨fs.set k z, p', _, _, by omega, mis_set (ds := ds) M hk ⟨z1, z2, z3⟩, hd', .inr ?_, hp', rfl⟩
      by_cases e : k = A
      · subst e
        rw [set_get (by rw [M.len]; exact hkl)]
        exact zn
      · rw [List.getD_eq_getElem?_getD, List.getElem?_set_ne (by omega), ← List.getD_eq_getElem?_getD]
        rcases hor with q | q
        · injection q with q1 q2
          injection q1 with q1
          omega
        · exact q
    have hq0 : Pen (n + 2 + (2 - ds'.length)) p := hp.mono (by rw [List.length_cons]; omega)
    walk_at "ev go"
    rw [List.length_map]
    refine k_ifd (fun hkb => ?_) (fun hkb => ?_)
    · have hkl : k < bs.length := by omega
      have bk := B.ok k hkl
      have p8 := B.pos k (by omega)
      have p9 := B.pos (k + 1) (by omega)
      have wk : wide (bs.getD k []) = ds (k + 1) := head_len bk (by omega)
      have lk := bk.1
      have hq : Pen (n + 2 + (1 - ds'.length)) p := hp.mono (by rw [List.length_cons]; omega)
      walk_at "ev go"
      refine v_ixBs (by omega) (by omega) ?_
      rw [Int.toNat_natCast]
      walk_at "ev go"
      with_reducible refine v_lenB ?_
      rw [lk]
      walk_at "ev go"
      refine v_ixBs (by omega) (by omega) ?_
      rw [Int.toNat_natCast]
      walk_at "ev go"
      refine v_slBf (k := 1) ?_
      walk_at "ev go"
      refine v_putB (by omega) (by rw [M.len]; omega) ?_
      rw [Int.toNat_natCast]
      walk_at "ev go"
      refine k_ifd (fun hl1 => ?_) (fun hl1 => ?_)
      · walk_at "ev go"
        refine v_ixBs (by omega) (by omega) ?_
        walk_at "ev go"
        refine v_ixBs (by omega) (by omega) ?_
        rw [Int.toNat_natCast]
        walk_at "ev go"
        refine v_slBt (k := 1) ?_
        walk_at "ev go"
        refine v_addB (by rw [lk, List.length_take, lk]; omega) ?_
        walk_at "ev go"
        refine v_putB (by omega) (by rw [List.length_set, M.len]; omega) ?_
        rw [Int.toNat_natCast, List.set_set]
        walk_at "ev go"
        exact nx _ _ _ hkl (by rw [List.length_append, lk]; omega) (by rw [List.length_append, List.length_take, lk]; omega) (wide_plus _ _ (by rw [lk]; omega) (by rw [wk]; omega)) (by rw [List.length_append, List.length_take, lk]; omega) (hq.mono (by omega))
      · walk_at "ev go"
        refine k_ifd (fun hl8 => ?_) (fun hl8 => ?_)
        · walk_at "ev go"
          refine k_call (draw_ok hq (by omega) (by decide) (by decide)) ?_
          rintro _ _ ⟨w, p', rfl, w0, w1, hp', rfl⟩
          walk_at "ev go"
          refine k_ifd (fun hw => ?_) (fun hw => ?_)
          · walk_at "ev go"
            refine v_ixBs (by omega) (by omega) ?_
            walk_at "ev go"
            refine v_ixBs (by omega) (by omega) ?_
            rw [Int.toNat_natCast]
            walk_at "ev go"
            refine v_slBt (k := 1) ?_
            walk_at "ev go"
            refine v_addB (by rw [lk, List.length_take, lk]; omega) ?_
            walk_at "ev go"
            refine v_putB (by omega) (by rw [List.length_set, M.len]; omega) ?_
            rw [Int.toNat_natCast, List.set_set]
            walk_at "ev go"
            exact nx _ _ _ hkl (by rw [List.length_append, lk]; omega) (by rw [List.length_append, List.length_take, lk]; omega) (wide_plus _ _ (by rw [lk]; omega) (by rw [wk]; omega)) (by rw [List.length_append, List.length_take, lk]; omega) (hp'.mono (by omega))
          · walk_at "ev go"
            exact nx _ _ _ hkl (by rw [List.length_drop, lk]; omega) (by rw [List.length_drop, lk]; omega) (wide_drop bk 1 (by omega) (by omega)) (by rw [List.length_drop, lk]; omega) (hp'.mono (by omega))
        · walk_at "ev go"
          exact nx _ _ _ hkl (by rw [List.length_drop, lk]; omega) (by rw [List.length_drop, lk]; omega) (wide_drop bk 1 (by omega) (by omega)) (by rw [List.length_drop, lk]; omega) (hq.mono (by omega))
    · walk_at "ev go"
      refine ⟨fs, p, _, _, by omega, M, hd', ?_, hq0, rfl⟩
      rcases hor with q | q
      · injection q with q1 q2
        injection q1 with q1
        omega
      · exact .inr q
  · rintro ρ ⟨fs, p, s4, s5, hl, M, hd, hor, hp, rfl⟩
    walk_at "ev go"
    refine ⟨fs, A, p, rfl, M.len, M.fat, mis_first B M (by omega) (by omega) ?_, hp, rfl⟩
    rcases hor with q | q
    · cases q
    · exact q
  · intro d hd
    simp only [List.mem_cons, List.not_mem_nil, or_false] at hd
    rcases hd with rfl | rfl
    · exact ⟨A, rfl, Nat.le_refl _⟩
    · exact ⟨K2, rfl, by omega⟩

/-- _law_right: 0 _law_sizes_here, 1 _law_grids, 2 _law_knots, 3 _law_box, 4 _law_found, 5 _law_steps, 6 _law_parts_here, 7 _law_due, 8 _law_total, 9 _law_i, 10 _law_k, 11 _law_j, 12 _law_first, 13 _law_last, 14 _law_many, 15 _law_step -/
def b_l_right_4 : M Flw :=
  (seqM (mAsg (toTup [(toName 4), (toName 5)]) (vaM (callM S_run [(.ev (mVar 1)), (.ev (mVar 2))])))
  (seqM (mSet 6 (shM (mOp2 dIxA (.ev (vaM (callM S_l_parts [(.ev (mVar 2))]))) (.ev (mC (.int 2))))))
  (seqM (mSet 7 (shM (mOpN dSumA [(.ev (vaM (altM (isOwnL 6) (compN 6 [9, 10, 11] (toTup [(toName 9), (toName 10), (toName 11)]) (retM true) (mOp2 dMul (.ev (mOp2 dMul (.ev (mOp2 dIxA (.pk 0) (.pk 9))) (.ev (mOp2 dIxA (.pk 0) (.ev (mOp2 dAdd (.pk 10) (.ev (mC (.int 1))))))))) (.ev (mOp2 dIxA (.pk 0) (.ev (mOp2 dAdd (.pk 11) (.ev (mC (.int 1))))))))) (compM [9, 10, 11] (mIter (mVar 6)) (toTup [(toName 9), (toName 10), (toName 11)]) (retM true) (mOp2 dMul (.ev (mOp2 dMul (.ev (mOp2 dIxA (.pk 0) (.pk 9))) (.ev (mOp2 dIxA (.pk 0) (.ev (mOp2 dAdd (.pk 10) (.ev (mC (.int 1))))))))) (.ev (mOp2 dIxA (.pk 0) (.ev (mOp2 dAdd (.pk 11) (.ev (mC (.int 1))))))))))))])))
  (seqM (mSet 8 (shM (mOpN dSumA [(.ev (vaM (altM (isOwnL 5) (compN 5 [12, 13, 14] (toTup [(toName 12), (toName 13), (toName 14)]) (retM true) (mVar 14)) (compM [12, 13, 14] (mIter (mVar 5)) (toTup [(toName 12), (toName 13), (toName 14)]) (retM true) (mVar 14)))))])))
  (seqM (mIf (mOr (mB (mOp2 dNe (.pk 4) (.pk 3))) (mOr (mB (mOp2 dNe (.pk 8) (.pk 7))) (mB (mOp2 dNe (.ev (vaM (callM S_cost [(.ev (vaM (callM S_row_of_boxes [(.ev (mVar 1))]))), (.ev (mVar 2))]))) (.pk 7))))) (mRet (shM (mC (.bl false)))) (retM .nx))
  (mRet (shM (mOp2 dEq (.ev (vaM (aOpN dSortedA [(.ev (vaM (altM (isOwnL 5) (compN 5 [15] (toName 15) (retM true) (mSlice (.pk 15) none (some (mC (.int 2))))) (compM [15] (mIter (mVar 5)) (toName 15) (retM true) (mSlice (.pk 15) none (some (mC (.int 2))))))))]))) (.ev (vaM (aOpN dSortedA [(.ev (vaM (altM (isOwnL 6) (compN 6 [9, 10, 11] (toTup [(toName 9), (toName 10), (toName 11)]) (retM true) (mTup (mEach [(mVar 9), (mVar 11)]))) (compM [9, 10, 11] (mIter (mVar 6)) (toTup [(toName 9), (toName 10), (toName 11)]) (retM true) (mTup (mEach [(mVar 9), (mVar 11)]))))))])))))))))))
def S_l_right_4 : List Sl → FR := runF 12 b_l_right_4
def partP : Br → Int × Int
  | .leaf _ => (0, 0)
  | .node l r => (l.fst, r.lst)
def stepD (ds : Nat → Nat) : Br → D
  | .leaf _ => .non
  | .node l r => .tup [.int l.fst, .int r.lst, .int (stepOf ds l r)]
theorem runS_map (ds : Nat → Nat) : ∀ t : Br, runS ds t = (partsL t).map (stepD ds)
  | .leaf _ => rfl
  | .node l r => by
    rw [runS, partsL, List.map_append, List.map_append, runS_map ds l, runS_map ds r]
    rfl
theorem v_sortP {ps : List (Int × Int)} {K : D → Prop} (k : K (.lst ((isortP ps).map pairD))) : On (dSortedA [.lst (ps.map pairD)]) K := by
  refine k_on ?_ k
  have prs : ∀ ps : List (Int × Int), D.prs (ps.map pairD) = some ps := fun ps => by
    induction ps with
    | nil => rfl
    | cons p ps ih =>
      obtain ⟨i, j⟩ := p
      show (D.prs (ps.map pairD)).map ((i, j) :: ·) = _
      rw [ih]
      rfl
  cases ps with
  | nil => rfl
  | cons p ps =>
    show (match dSorted [.lst ((p :: ps).map pairD)] with
      | some d => some d
      | none => dSortedP [.lst ((p :: ps).map pairD)]) = _
    have e0 : dSorted [.lst ((p :: ps).map pairD)] = none := rfl
    rw [e0]
    show (D.prs ((p :: ps).map pairD)).map (fun ps => D.lst ((isortP ps).map pairD)) = _
    rw [prs]
    rfl
theorem pairs_pl (ps : List (Int × Int)) : Pl 2 (.lst (ps.map pairD)) := Pl.lst fun x hx => by
  obtain ⟨p, _, rfl⟩ := List.mem_map.mp hx
  refine Pl.tup fun y hy => ?_
  simp only [List.mem_cons, List.not_mem_nil, or_false] at hy
  rcases hy with rfl | rfl <;> exact Pl.int
/-- sizes and boxes belong together -/
structure RowB (ns : List Int) (bs : List (List (List Int))) : Prop where
  len : ns.length = bs.length + 1
  szs : ∀ x ∈ ns, 1 ≤ x ∧ x ≤ 12
  box : Boxes (fun i => (ns.getD i 0).toNat) bs
theorem RowB.get {ns : List Int} {bs : List (List (List Int))} (R : RowB ns bs) {i : Nat} (h : i ≤ bs.length) : ((ns.getD i 0).toNat : Int) = ns.getD i 0 := by
  have q : 1 ≤ ns.getD i 0 := by
    rw [List.getD_eq_getElem?_getD, List.getElem?_eq_getElem (show i < ns.length by rw [R.len]; omega)]
    exact (R.szs _ (List.getElem_mem _)).1
  omega
theorem RowB.row {ns : List Int} {bs : List (List (List Int))} (R : RowB ns bs) (h : 1 ≤ bs.length) : rowOf bs = ns := by
  apply List.ext_getElem?
  intro i
  have hn := R.len
  unfold rowOf
  by_cases hi : i < bs.length
  · rw [List.getElem?_append_left (by rw [List.length_map]; exact hi), List.getElem?_map, List.getElem?_eq_getElem hi, List.getElem?_eq_getElem (show i < ns.length by omega)]
    have k := (R.box.ok i hi).1
    have e : bs.getD i [] = bs[i] := by rw [List.getD_eq_getElem?_getD, List.getElem?_eq_getElem hi]; rfl
    rw [e] at k
    have g := R.get (i := i) (by omega)
    have e2 : ns.getD i 0 = ns[i] := by rw [List.getD_eq_getElem?_getD, List.getElem?_eq_getElem (by omega)]; rfl
    show some ((bs[i].length : Nat) : Int) = some ns[i]
    rw [k, ← e2]
    exact congrArg some g
  · by_cases hi2 : i = bs.length
    · subst hi2
      rw [List.getElem?_append_right (by rw [List.length_map]; exact Nat.le_refl _), List.length_map, Nat.sub_self, List.getElem?_eq_getElem (show bs.length < ns.length by omega)]
      have k := R.box.ok (bs.length - 1) (by omega)
      have p := R.box.pos (bs.length - 1) (by omega)
      have hl := head_len k (by omega)
      rw [show bs.length - 1 + 1 = bs.length by omega] at hl
      have e : bs.getD (bs.length - 1) [] = bs.getLastD [] := by
        rw [List.getD_eq_getElem?_getD, List.getLastD_eq_getLast?, List.getLast?_eq_getElem?]
      rw [e] at hl
      have g := R.get (i := bs.length) (Nat.le_refl _)
      have e2 : ns.getD bs.length 0 = ns[bs.length] := by rw [List.getD_eq_getElem?_getD, List.getElem?_eq_getElem (by omega)]; rfl
      show some ((wide (bs.getLastD []) : Nat) : Int) = some ns[bs.length]
      rw [← e2, ← g]
      exact congrArg (fun n : Nat => some (n : Int)) hl
    · rw [List.getElem?_eq_none (by rw [List.length_append, List.length_map]; simp; omega), List.getElem?_eq_none (by omega)]
theorem step_cst {ns : List Int} {bs : List (List (List Int))} (R : RowB ns bs) {l r : Br} {a b : Int} (o : (Br.node l r).On a b) (h0 : 0 ≤ a) (h1 : b < bs.length) : stepOf (fun i => (ns.getD i 0).toNat) l r = cst ns (.node l r) := by
  obtain ⟨c, c0, c1, ol, orr⟩ := o
  show _ = costAt ns l.fst l.lst r.lst
  unfold stepOf costAt
  rw [ol.fst, ol.lst, orr.lst, R.get (by omega), R.get (by omega), R.get (by omega), show (c + 1).toNat = c.toNat + 1 by omega, show (b + 1).toNat = b.toNat + 1 by omega]
theorem rowbF {bs : List (List (List Int))} (hb : Fat bs) (h1 : 1 ≤ bs.length) (h12 : bs.length ≤ 12) (hf : firstMis bs = none) : SatF (S_row_of_boxes [.sh (.lst (bs.map encB))]) fun s o => s = .sh (.tup ((rowOf bs).map D.int)) ∧ o = [.emp] := by
  refine satF_ofX (SatFX_mono (rowb_sh hb (by omega)) ?_ ?_)
  · rintro s o ⟨rfl, _, _, _, _, rfl⟩
    exact ⟨rfl, rfl⟩
  · rintro c l o ⟨_, ⟨_, _, _, h⟩ | ⟨k, _, _, _, _, _, h⟩⟩
    · exact absurd ⟨h1, h12⟩ h
    · rw [hf] at h; cases h
theorem right4_ok {ns : List Int} {bs : List (List (List Int))} (R : RowB ns bs) (h1 : 1 ≤ bs.length) (h12 : bs.length ≤ 12) {t : Br} (ht : t.On 0 ((bs.length : Int) - 1)) :
    SatF (S_l_right_4 [.sh (.tup (ns.map D.int)), .sh (.lst (bs.map encB)), .sh t.enc, .sh (encB (runP bs t))]) fun s o => s = .sh (.bl true) ∧ o = [.emp, .emp, .emp, .emp] := by
  have B := R.box
  have hb := boxes_fat B
  have hfit := boxes_fit B
  have hdep := ht.dep
  have hlen := ht.len
  have hpl := partsL_len t
  have hnl := R.len
  have hsz : Sizes ns := fun x hx => by have := R.szs x hx; omega
  have inP : ∀ p ∈ partsL t, ∃ l r a b, p = .node l r ∧ (Br.node l r).On a b ∧ 0 ≤ a ∧ b < bs.length := fun p hp => by
    obtain ⟨l, r, a, b, e, o, a0, b0, _⟩ := partsL_in hp ht
    exact ⟨l, r, a, b, e, o, a0, by omega⟩
  unfold S_l_right_4
  walk_at "ev start"
  unfold b_l_right_4
  walk_at "ev go"
  with_reducible refine k_call (run_ok B hb h1 h12 hfit ht) ?_
  rintro _ _ ⟨rfl, rfl⟩
  walk_at "ev go"
  with_reducible refine k_call (lparts_ok ht ?_ ?_) ?_
  · omega
  · omega
  rintro _ _ ⟨rfl, rfl⟩
  walk_at "ev go"
  refine Sat_mono (compL_map (fun p => D.int (cst ns p)) (partsL t) fun p hp => ?_) ?_
  · obtain ⟨l, r, a, b, rfl, o, a0, b0⟩ := inP p hp
    obtain ⟨c, c0, c1, ol, orr⟩ := id o
    have oll := ol.le
    have orl := orr.le
    have q1 := sizes_get hsz (i := a.toNat) (by omega)
    have q2 := sizes_get hsz (i := (c + 1).toNat) (by omega)
    have q3 := sizes_get hsz (i := (b + 1).toNat) (by omega)
    have m := mul_lim (by omega) q1.2 (by omega) q2.2
    have ep : lpartD (.node l r) = .tup [.int a, .int c, .int b] := by
      show D.tup [.int l.fst, .int l.lst, .int r.lst] = _
      rw [ol.fst, ol.lst, orr.lst]
    rw [ep]
    walk_at "ev go"
    refine ⟨rfl, ?_⟩
    walk_at "ev go"
    refine v_ixTI (by omega) (by omega) ?_
    walk_at "ev go"
    refine v_ixTI (by omega) (by omega) ?_
    walk_at "ev go"
    refine v_ixTI (by omega) (by omega) ?_
    walk_at "ev go"
    refine ⟨?_, rfl⟩
    show _ = D.int (costAt ns l.fst l.lst r.lst)
    unfold costAt
    rw [ol.fst, ol.lst, orr.lst]
  rintro l ρ' ⟨rfl, rfl⟩
  walk_at "ev go"
  rw [show (partsL t).map (fun p => D.int (cst ns p)) = ((partsL t).map (cst ns)).map D.int by rw [List.map_map]; rfl]
  refine v_sum ?_
  rw [show ((partsL t).map (cst ns)).sum = costOf ns t from rfl]
  rw [runS_map]
  walk_at "ev go"
  refine Sat_mono (compL_map (fun p => D.int (cst ns p)) (partsL t) fun p hp => ?_) ?_
  · obtain ⟨l, r, a, b, rfl, o, a0, b0⟩ := inP p hp
    have ep : stepD (fun i => (ns.getD i 0).toNat) (.node l r) = .tup [.int l.fst, .int r.lst, .int (cst ns (.node l r))] := by
      show D.tup [.int l.fst, .int r.lst, .int (stepOf _ l r)] = _
      rw [step_cst R o a0 b0]
    rw [ep]
    walk_at "ev go"
    refine ⟨rfl, ?_⟩
    walk_at "ev go"
    exact ⟨rfl, rfl⟩
  rintro l ρ' ⟨rfl, rfl⟩
  walk_at "ev go"
  rw [show (partsL t).map (fun p => D.int (cst ns p)) = ((partsL t).map (cst ns)).map D.int by rw [List.map_map]; rfl]
  refine v_sum ?_
  rw [show ((partsL t).map (cst ns)).sum = costOf ns t from rfl]
  walk_at "ev go"
  refine v_neRefl (k := 2) encB_pl (by decide) ?_
  walk_at "ev go"
  rw [decide_eq_true rfl]
  walk_at "ev go"
  with_reducible refine k_call (rowbF hb h1 h12 hfit) ?_
  rintro _ _ ⟨rfl, rfl⟩
  rw [R.row h1]
  walk_at "ev go"
  with_reducible refine k_call (cost_ok hsz ?_ ?_ ?_) ?_
  · omega
  · omega
  · rw [show (ns.length : Int) - 2 = (bs.length : Int) - 1 by omega]; exact ht
  rintro _ _ ⟨rfl, rfl⟩
  walk_at "ev go"
  rw [decide_eq_true rfl]
  walk_at "ev go"
  have ltp : (partsL t).length ≤ 100 := by omega
  refine Sat_mono (compL_map (fun p => pairD (partP p)) (partsL t) fun p hp => ?_) ?_
  · obtain ⟨l, r, a, b, rfl, o, a0, b0⟩ := inP p hp
    have ep : stepD (fun i => (ns.getD i 0).toNat) (.node l r) = .tup [.int l.fst, .int r.lst, .int (cst ns (.node l r))] := by
      show D.tup [.int l.fst, .int r.lst, .int (stepOf _ l r)] = _
      rw [step_cst R o a0 b0]
    rw [ep]
    walk_at "ev go"
    refine ⟨rfl, ?_⟩
    walk_at "ev go"
    refine k_on (x := .tup [.int l.fst, .int r.lst]) rfl ?_
    exact ⟨rfl, rfl⟩
  rintro l ρ' ⟨rfl, rfl⟩
  walk_at "ev go"
  have em : (partsL t).map (fun p => pairD (partP p)) = ((partsL t).map partP).map pairD := by rw [List.map_map]; rfl
  rw [em]
  refine v_sortP ?_
  walk_at "ev go"
  refine Sat_mono (compL_map (fun p => pairD (partP p)) (partsL t) fun p hp => ?_) ?_
  · obtain ⟨l, r, a, b, rfl, o, a0, b0⟩ := inP p hp
    have ep : lpartD (.node l r) = .tup [.int l.fst, .int l.lst, .int r.lst] := rfl
    rw [ep]
    walk_at "ev go"
    refine ⟨rfl, ?_⟩
    walk_at "ev go"
    exact ⟨rfl, rfl⟩
  rintro l ρ' ⟨rfl, rfl⟩
  walk_at "ev go"
  rw [em]
  refine v_sortP ?_
  walk_at "ev go"
  refine v_eq (k := 2) (pairs_pl _) (pairs_pl _) (by decide) ?_
  rw [eqB_self (pairs_pl _)]
  walk_at "ev go"
  exact ⟨rfl, rfl⟩

theorem boxes_of {ns : List Int} {bs : List (List (List Int))} (h : BoxesOf ns bs) (hl : bs.length + 1 = ns.length) (hx : ∀ x ∈ ns, 1 ≤ x ∧ x ≤ 12) : RowB ns bs where
  len := hl.symm
  szs := hx
  box := {
    ok := fun i hi => (h i _ (by rw [List.getD_eq_getElem?_getD, List.getElem?_eq_getElem hi]; rfl)).1
    pos := fun i hi => by
      have q := hx (ns.getD i 0) (by rw [List.getD_eq_getElem?_getD, List.getElem?_eq_getElem (show i < ns.length by omega)]; exact List.getElem_mem _)
      omega
    lim := fun i hi r hr z hz => by
      have q := (h i _ (by rw [List.getD_eq_getElem?_getD, List.getElem?_eq_getElem hi]; rfl)).2 r hr z hz
      unfold smallI at q
      omega }

/-- _law_right: 0 _law_grids, 1 _law_knots, 2 _law_due, 3 _law_handed, 4 _law_turn, 5 _law_found -/
def b_l_right_2 : M Flw :=
  (seqM (mSet 2 (callM S_l_run [(.ev (mVar 0)), (.ev (mVar 1))]))
  (seqM (mSet 3 (aOpN dList [(.pk 0)]))
  (seqM (mFor (mRng rng1 (mEach [(mC (.int 2))])) (toName 4) (seqM (mSet 5 (callM S_run [(.ev (mVar 3)), (.ev (mVar 1))]))
    (seqM (mIf (mOr (mB (mOp2 dNeS (.ev (mOp1T dReprA 5)) (.ev (mOpN dReprA [(.ev (mTup (mEach [(mOp2 dIxA (.pk 2) (.ev (mC (.int 2)))), (mOp2 dIxA (.pk 2) (.ev (mC (.int 3))))])))])))) (mB (mOp2 dNe (.pk 3) (.pk 0)))) (mRet (shM (mC (.bl false)))) (retM .nx))
    (mDo (mMethN 5 (mC (.int 1)) (mEach []) fClear)))))
  (mRet (shM (mC (.bl true)))))))
def S_l_right_2 : List Sl → FR := runF 4 b_l_right_2
/-! what run tells, shown -/
theorem stepOf_lim {ns : List Int} {bs : List (List (List Int))} (R : RowB ns bs) {l r : Br} {a b : Int} (h : (Br.node l r).On a b) (h0 : 0 ≤ a) (h1 : b < bs.length) : (stepOf (fun i => (ns.getD i 0).toNat) l r).natAbs < 2 ^ 1900 := by
  obtain ⟨c, c0, c1, hl, hr⟩ := h
  have p0 := R.box.pos a.toNat (by have := hl.le; omega)
  have p1 := R.box.pos (c.toNat + 1) (by omega)
  have p2 := R.box.pos (b.toNat + 1) (by have := hr.le; omega)
  unfold stepOf
  rw [hl.fst, hl.lst, hr.lst, Int.natAbs_mul, Int.natAbs_mul]
  have q : (ns.getD a.toNat 0).toNat * (ns.getD (c.toNat + 1) 0).toNat * (ns.getD (b.toNat + 1) 0).toNat ≤ 12 * 12 * 12 := Nat.mul_le_mul (Nat.mul_le_mul p0.2 p1.2) p2.2
  refine Nat.lt_of_le_of_lt q (Nat.lt_of_lt_of_le (by decide : 12 * 12 * 12 < 2 ^ 11) (Nat.pow_le_pow_right (by decide) (by decide)))
theorem runS_sh {ns : List Int} {bs : List (List (List Int))} (R : RowB ns bs) (hn : bs.length ≤ 60) : ∀ {t : Br} {a b : Int}, t.On a b → 0 ≤ a → b < bs.length → ∀ x ∈ runS (fun i => (ns.getD i 0).toNat) t, Sh 1 6000 x
  | .leaf _, _, _, _, _, _ => fun x hx => nomatch hx
  | .node l r, a, b, h, h0, h1 => fun x hx => by
    obtain ⟨c, c0, c1, hl, hr⟩ := id h
    rw [runS] at hx
    have small : ∀ z : Int, 0 ≤ z → z ≤ 60 → z.natAbs < 2 ^ 1900 := fun z z0 z1 => small_of (by omega) (by omega)
    rcases List.mem_append.mp hx with hx | hx
    · rcases List.mem_append.mp hx with hx | hx
      · exact runS_sh R hn hl h0 (by omega) x hx
      · exact runS_sh R hn hr (by omega) h1 x hx
    · rw [List.mem_singleton.mp hx]
      refine (Sh.tup (l := [D.int l.fst, D.int r.lst, D.int (stepOf (fun i => (ns.getD i 0).toNat) l r)]) (k := 0) (w := 1930) (n := 3) (fun y hy => ?_) (Nat.le_refl 3)).mono (Nat.le_refl _) (by decide)
      simp only [List.mem_cons, List.not_mem_nil, or_false] at hy
      have la := hl.le
      have lb := hr.le
      rcases hy with rfl | rfl | rfl
      · rw [hl.fst]; exact Sh.int (small _ (by omega) (by omega))
      · rw [hr.lst]; exact Sh.int (small _ (by omega) (by omega))
      · exact Sh.int (stepOf_lim R h h0 h1)
theorem lim_pow (L : Nat) (h : L ≤ 12) : MM ^ L / 12 < 2 ^ 1900 := by
  refine Nat.lt_of_le_of_lt (Nat.div_le_self _ _) ?_
  have h1 : MM ^ L ≤ (2 ^ 44) ^ L := Nat.pow_le_pow_left (by decide) L
  rw [← Nat.pow_mul] at h1
  exact Nat.lt_of_le_of_lt h1 (Nat.pow_lt_pow_right (by decide) (by omega))
theorem run_sh {ns : List Int} {bs : List (List (List Int))} (R : RowB ns bs) (hx : ∀ x ∈ ns, x ≤ 8) (h1 : 1 ≤ bs.length) (h12 : bs.length ≤ 12) {t : Br} (ht : t.On 0 ((bs.length : Int) - 1)) :
    Sh 4 3000000 (.tup [encB (runP bs t), .lst (runS (fun i => (ns.getD i 0).toNat) t)]) := by
  obtain ⟨k, l⟩ := runP_ok R.box ht (Int.le_refl _) (by omega)
  have hn := R.len
  have s8 : ∀ i, i ≤ bs.length → (ns.getD i 0).toNat ≤ 8 := fun i hi => by
    have q : ns.getD i 0 ≤ 8 := by
      rw [List.getD_eq_getElem?_getD, List.getElem?_eq_getElem (show i < ns.length by omega)]
      exact hx _ (List.getElem_mem _)
    omega
  have tl := ht.len
  have s1 : Sh 3 1000000 (encB (runP bs t)) := (boxShow k l (s8 _ (by omega)) (s8 _ (by omega)) (lim_pow _ (by omega))).mono (by decide) (by decide)
  have ln := runS_len (fun i => (ns.getD i 0).toNat) t
  have s2 : Sh 3 1000000 (.lst (runS (fun i => (ns.getD i 0).toNat) t)) := (Sh.lst (k := 1) (w := 6000) (n := 12) (runS_sh R (by omega) ht (Int.le_refl _) (by omega)) (by omega)).mono (by decide) (by decide)
  refine (Sh.tup (l := [encB (runP bs t), .lst (runS (fun i => (ns.getD i 0).toNat) t)]) (k := 3) (w := 1000000) (n := 2) (fun y hy => ?_) (Nat.le_refl 2)).mono (by decide) (by decide)
  simp only [List.mem_cons, List.not_mem_nil, or_false] at hy
  rcases hy with rfl | rfl
  · exact s1
  · exact s2
theorem right2_ok {ns : List Int} {bs : List (List (List Int))} (R : RowB ns bs) (hx : ∀ x ∈ ns, x ≤ 8) (h1 : 1 ≤ bs.length) (h12 : bs.length ≤ 12) {t : Br} (ht : t.On 0 ((bs.length : Int) - 1)) :
    SatF (S_l_right_2 [.sh (.lst (bs.map encB)), .sh t.enc]) fun s o => s = .sh (.bl true) ∧ o = [.emp, .emp] := by
  have B := R.box
  have sh := run_sh R hx h1 h12 ht
  unfold S_l_right_2
  walk_at "ev start"
  unfold b_l_right_2
  walk_at "ev go"
  with_reducible refine k_call (lrun_ok B ht (by omega) (by omega)) ?_
  rintro _ _ ⟨rfl, rfl⟩
  walk_at "ev go"
  have fit := boxes_fit B
  have fat := boxes_fat B
  refine forL_inv (fun ds ρ => ∃ s3 s4 s5, (s3 = .ow (.lst (bs.map encB)) ∨ s3 = .sh (.lst (bs.map encB))) ∧ ρ = [.sh (.lst (bs.map encB)), .sh t.enc, .sh (.tup [.int 0, .int ((bs.length : Int) - 1), encB (runP bs t), .lst (runS (fun i => (ns.getD i 0).toNat) t)]), s3, s4, s5]) ?_ ?_ _ _ ⟨_, _, _, .inl rfl, rfl⟩
  · intro d ds ρ hρ
    obtain ⟨s3, s4, s5, hs, hρ⟩ := hρ
    rw [hρ]
    rcases hs with rfl | rfl
    all_goals
      walk_at "ev go"
      with_reducible refine k_call (run_ok B fat h1 h12 fit ht) ?_
      rintro _ _ ⟨rfl, rfl⟩
      walk_at "ev go"
      with_reducible refine v_repr sh (by decide) (by decide) ?_
      walk_at "ev go"
      with_reducible refine v_repr sh (by decide) (by decide) ?_
      walk_at "ev go"
      with_reducible refine v_neRefl encBs_pl (by decide) ?_
      walk_at "ev go"
      refine ⟨1, runS (fun i => (ns.getD i 0).toNat) t, [], .non, ?_, rfl, rfl, ?_⟩
      · show (if D.own0s (runS (fun i => (ns.getD i 0).toNat) t) = true then some (1, runS (fun i => (ns.getD i 0).toNat) t) else none) = _
        rw [if_pos (own0s_runS _ t)]
      walk_at "ev go"
      exact ⟨_, _, _, .inr rfl, rfl⟩
  · intro ρ hρ
    obtain ⟨s3, s4, s5, hs, hρ⟩ := hρ
    rw [hρ]
    walk_at "ev go"
    exact ⟨rfl, rfl⟩

/-- law: 0 _law_script, 1 _law_k, 2 _law_pen_here, 3 _law_grids, 4 _law_turn -/
def b_law_k18 : M Flw :=
  (seqM (mFor (mRng rng1 (mEach [(mOpN dMax2 [(.ev (mC (.int 2))), (.ev (mOpN dMin2 [(.ev (mC (.int 4))), (.ev (mOpN dLenA [(.pk 0)]))]))])])) (toName 1) (seqM (mSet 2 (callM S_pen [(.ev (mVar 0)), (.ev (mVar 1))]))
    (seqM (mSet 3 (callM S_l_boxes [(.pk 2), (.ev (vaM (callM S_l_sizes [(.pk 2)])))]))
    (mFor (mRng rng1 (mEach [(mC (.int 2))])) (toName 4) (mIf (mNot (mTru (vaM (callM S_l_right_2 [(.ev (mVar 3)), (.ev (vaM (callM S_l_brackets [(.pk 2), (.ev (mC (.int 0))), (.ev (mOp2 dSub (.ev (mOpN dLenA [(.pk 3)])) (.ev (mC (.int 1)))))])))])))) (mRet (shM (mC (.bl false)))) (retM .nx))))))
  (mRet (shM (mC (.bl true)))))
def S_law_k18 : List Sl → FR := runF 4 b_law_k18
theorem plain_k18 (ns : List Int) (h : ns.length ≤ 63) : ∃ o, S_law_k18 [.sh (.scr ns)] = .ok (.sh (.bl true)) o := by
  suffices q : SatF (S_law_k18 [.sh (.scr ns)]) fun s o => s = .sh (.bl true) by
    obtain ⟨s, o, e, rfl⟩ := SatF_ex q
    exact ⟨o, e⟩
  unfold S_law_k18
  walk_at "ev start"
  unfold b_law_k18
  walk_at "ev go"
  refine forL_inv (fun ds ρ => (∀ d ∈ ds, ∃ k : Int, d = .int k ∧ 0 ≤ k ∧ k < 9) ∧ ∃ s1 s2 s3 s4, ρ = [.sh (.scr ns), s1, s2, s3, s4]) ?_ ?_ _ _ ⟨fun d hd => ?_, _, _, _, _, rfl⟩
  · rintro d ds ρ ⟨hk, s1, s2, s3, s4, rfl⟩
    obtain ⟨k, rfl, k0, k4⟩ := hk d List.mem_cons_self
    have hkk : ∀ d ∈ ds, ∃ k : Int, d = .int k ∧ 0 ≤ k ∧ k < 9 := fun d hd => hk d (List.mem_cons_of_mem _ hd)
    walk_at "ev go"
    refine k_call (pen_ok ns k k0 (by omega)) ?_
    rintro _ _ ⟨p, rfl, hp, rfl⟩
    walk_at "ev go"
    refine k_call (sizes_ok hp (by omega)) ?_
    rintro _ _ ⟨zs, p1, rfl, z1, z2, zx, hp1, rfl⟩
    walk_at "ev go"
    refine k_call (boxes_okT hp1 (by omega) (by omega) (by omega) (fun x hx => by have := zx x hx; omega)) ?_
    rintro _ _ ⟨bs, p2, rfl, bl, bo, hp2, rfl⟩
    have R := boxes_of bo bl (fun x hx => by have := zx x hx; omega)
    have z8 : ∀ x ∈ zs, x ≤ 8 := fun x hx => (zx x hx).2
    walk_at "ev go"
    refine forL_inv (fun ds1 ρ => ∃ (p : D) (s3 s4 : Sl), ds1.length ≤ 3 ∧ Pen (20000 + 2000 * (3 - ds1.length)) p ∧ (s3 = .ow (.lst (bs.map encB)) ∨ s3 = .sh (.lst (bs.map encB))) ∧ ρ = [.sh (.scr ns), .sh (.int k), .ow p, s3, s4]) ?_ ?_ _ _ ⟨p2, _, _, by rw [rngD_len]; decide, hp2.mono (by omega), .inl rfl, rfl⟩
    · rintro d ds1 ρ ⟨p, s3, s4, hl, hp, hs, rfl⟩
      rw [List.length_cons] at hl hp
      rcases hs with rfl | rfl
      all_goals
        walk_at "ev go"
        rw [List.length_map]
        walk_at "ev go"
        refine k_call (brackets_ok (a := 0) (b := (bs.length : Int) - 1) hp (by omega) (by decide) (by omega) (by omega) (by omega)) ?_
        rintro _ _ ⟨t, p3, rfl, ht, hp3, rfl⟩
        walk_at "ev go"
        with_reducible refine k_call (right2_ok R z8 ?_ ?_ ht) ?_
        · omega
        · omega
        rintro _ _ ⟨rfl, rfl⟩
        walk_at "ev go"
        exact ⟨p3, _, _, by omega, hp3.mono (by omega), .inr rfl, rfl⟩
    · rintro ρ ⟨p, s3, s4, hl, hp, hs, rfl⟩
      walk_at "ev go"
      exact ⟨hkk, _, _, _, _, rfl⟩
  · rintro ρ ⟨_, s1, s2, s3, s4, rfl⟩
    walk_at "ev go"
    rfl
  · rw [rngD_eq] at hd
    obtain ⟨i, hi, rfl⟩ := List.mem_map.mp hd
    have := List.mem_range.mp hi
    exact ⟨_, rfl, by omega, by omega⟩

end Ev
namespace Gk18
open PySem PySem.Spec PyProof.Rows L2 Ev
def top (i : Nat) : Stmt := PySem.Challenge.pw_longproducts_k18_boxes_run.main.body.getD i (.Pass ⟨0, 0, 0, 0⟩)
structure Txt (mg : Str → Option Value) : Prop where
  n_abs : mg "abs" = none
  n_bool : mg "bool" = none
  n_int : mg "int" = none
  n_isinstance : mg "isinstance" = none
  n_len : mg "len" = none
  n_list : mg "list" = none
  n_max : mg "max" = none
  n_min : mg "min" = none
  n_range : mg "range" = none
  n_repr : mg "repr" = none
  n_sum : mg "sum" = none
  n_tuple : mg "tuple" = none
  n_zip : mg "zip" = none
  c_MOST_BOXES : ∃ t, mg "MOST_BOXES" = some (.int (12) t)
structure Exc (P : Program) (w : World) (mg : Str → Option Value) (base : Heap) (G : Glb) : Prop where
  n_ProductError : mg "ProductError" = some (.ref (G.cls 0))
  n_NoFit : mg "NoFit" = some (.ref (G.cls 2))
  n_NoRow : mg "NoRow" = some (.ref (G.cls 3))
  n_NoBrackets : mg "NoBrackets" = some (.ref (G.cls 4))
  r_NoBrackets : RaiseK G.K (G.cls 4) ∧ PySem.W.excIn G.K (G.cls 4) [.type "ValueError", .type "Exception", .type "BaseException", .type "object"] "ValueError.__new__" = true
  r_NoRow : RaiseK G.K (G.cls 3) ∧ PySem.W.excIn G.K (G.cls 3) [.type "ValueError", .type "Exception", .type "BaseException", .type "object"] "ValueError.__new__" = true
  i_NoFit : InitE P w mg base G 2 "place"
section
variable {P : Program} {w : World} {K : PySem.W.Frag} {mg : Str → Option Value} {base : Heap} {G : Glb}
theorem ini_NoFit {C f : Addr} {fd : FuncData} (F : Fun K "__init__" "NoFit.__init__" (clsStmt (top 2) 0) f fd) (T0 : BaseI K (G.cls 0)) (hm : mg "ProductError" = some (.ref (G.cls 0))) : FnOk P w K mg base L2.CX0 1 f fd ["self", "place"] (spInit K C "place") :=
  ok_initE (m := "a box doesn't fit") (x := "ProductError") F ⟨rfl, rfl, rfl, by decide +kernel, rfl, by decide +kernel, by decide +kernel⟩ T0 hm fun cdv A outer s H vs E hr => pss_cons (ps_expr (pe_baseInit T0 hm (pa_cons (pv 0) (pa_cons pe_str pa_nil)))) (pss_one (ps_ost (pv 0) (pv 1)))
theorem sc_pen : FnScope ["_law_script", "_law_k", "_law_cell"] ["_law_script", "_law_k"] (defScope (top 21)) := ⟨rfl, rfl, rfl, by decide +kernel, rfl, by decide +kernel, by decide +kernel⟩
theorem ok_pen (gK : G.K = K) (T : Txt mg) (Ex : Exc P w mg base G)  {f : Addr} {fd : FuncData} (F : Fun K "_law_pen" "_law_pen" (top 21) f fd) : FnG P w K mg base 1 f fd ["_law_script", "_law_k"] (spD G 2 S_pen) := by
  subst gK
  have sc := sc_pen
  refine fnG_of (k := 0) F sc rfl (fun _ => rfl) fun cdv A outer s H vs E hg hr => ?_
  unfold b_pen
  exact (ss_cons (ss_set (i := 2) sc.nd rfl (by first | exact Or.inl rfl | exact Or.inr rfl) (sa_addX (so_ev (se_mul (so_ev se_int) (so_pk (pv 1)))) (so_ev se_int)))
  (ss_cons (ss_if (st_cmp op_lt2 (ok_lt _) (so_pk (pv 1)) (so_ev (se_callB (call_min2 rfl) (ok_min2 _) T.n_min bt_min (sa_cons (so_ev (se_lenA T.n_len (so_pk (pv 0)))) (sa_cons (so_ev se_int) sa_nil)))) rfl) (ss_one (ss_set (i := 2) sc.nd rfl (by first | exact Or.inl rfl | exact Or.inr rfl) (sa_sh (se_ixA (hu_of hr) (so_pk (pv 0)) (so_pk (pv 1)))))) (ss_one (ss_if (st_cmp op_gt (ok_gt _) (so_ev (se_lenA T.n_len (so_pk (pv 0)))) (so_ev se_int) rfl) (ss_one (ss_set (i := 2) sc.nd rfl (by first | exact Or.inl rfl | exact Or.inr rfl) (sa_addX (so_ev (se_mod (so_ev (se_ixA (hu_of hr) (so_pk (pv 0)) (so_ev (se_mod (so_pk (pv 1)) (so_ev (se_callB (call_min2 rfl) (ok_min2 _) T.n_min bt_min (sa_cons (so_ev (se_lenA T.n_len (so_pk (pv 0)))) (sa_cons (so_ev se_int) sa_nil)))))))) (so_ev (se_pow (so_ev se_int) (so_ev se_int))))) (so_ev (se_mul (so_ev se_int) (so_pk (pv 1))))))) ss_nil)))
  (ss_cons (ss_if (st_cmp op_ge (ok_ge _) (so_ev (se_callB call_abs (ok_abs _) T.n_abs bt_abs (sa_cons (so_pk (pv 2)) sa_nil))) (so_ev (se_pow (so_ev se_int) (so_ev se_int))) rfl) (ss_one (ss_ret (sa_lst (sl_cons se_int (sl_cons (se_callB call_abs (ok_abs _) T.n_abs bt_abs (sa_cons (so_pk (pv 2)) sa_nil)) (sl_cons se_int sl_nil)))))) ss_nil)
  (ss_one (ss_ret (sa_lst (sl_cons se_int (sl_cons (se_add (so_ev (se_mod (so_pk (pv 2)) (so_ev se_int))) (so_ev (se_mul (so_ev se_int) (so_pk (pv 1))))) (sl_cons se_int sl_nil)))))))))
theorem sc_draw : FnScope ["_law_pen_here", "_law_size", "_law_drawn", "_law_number_here"] ["_law_pen_here", "_law_size"] (defScope (top 22)) := ⟨rfl, rfl, rfl, by decide +kernel, rfl, by decide +kernel, by decide +kernel⟩
theorem ok_draw (gK : G.K = K) (T : Txt mg) (Ex : Exc P w mg base G)  {f : Addr} {fd : FuncData} (F : Fun K "_law_draw" "_law_draw" (top 22) f fd) : FnG P w K mg base 1 f fd ["_law_pen_here", "_law_size"] (spD G 2 S_draw) := by
  subst gK
  have sc := sc_draw
  refine fnG_of (k := 0) F sc rfl (fun _ => rfl) fun cdv A outer s H vs E hg hr => ?_
  unfold b_draw
  exact (ss_cons (ss_put (hu_of hr) (se_add (so_ev (se_ixA (hu_of hr) (so_pk (pv 0)) (so_ev se_int))) (so_ev se_int)) (pv 0) se_int)
  (ss_cons (ss_if (st_cmp (op_eqD hr.units) (ok_eq _ _) (so_ev (se_ixA (hu_of hr) (so_pk (pv 0)) (so_ev se_int))) (so_ev se_int) rfl) (ss_cons (ss_set (i := 2) sc.nd rfl (by first | exact Or.inl rfl | exact Or.inr rfl) (sa_sh (se_mod (so_ev (se_ixA (hu_of hr) (so_pk (pv 0)) (so_ev se_int))) (so_pk (pv 1)))))
    (ss_cons (ss_put (hu_of hr) (se_div (so_ev (se_ixA (hu_of hr) (so_pk (pv 0)) (so_ev se_int))) (so_pk (pv 1))) (pv 0) se_int)
    (ss_one (ss_ret (sa_var (pv 2)))))) ss_nil)
  (ss_cons (ss_set (i := 3) sc.nd rfl (by first | exact Or.inl rfl | exact Or.inr rfl) (sa_sh (se_mod (so_ev (se_mul (so_ev (se_add (so_ev (se_add (so_ev (se_ixA (hu_of hr) (so_pk (pv 0)) (so_ev se_int))) (so_ev (se_mul (so_ev se_int) (so_ev (se_ixA (hu_of hr) (so_pk (pv 0)) (so_ev se_int))))))) (so_ev se_int))) (so_ev se_int))) (so_ev se_int))))
  (ss_cons (ss_set (i := 3) sc.nd rfl (by first | exact Or.inl rfl | exact Or.inr rfl) (sa_sh (se_mod (so_ev (se_mul (so_pk (pv 3)) (so_ev (se_add (so_ev (se_add (so_ev (se_mod (so_pk (pv 3)) (so_ev se_int))) (so_ev (se_ixA (hu_of hr) (so_pk (pv 0)) (so_ev se_int))))) (so_ev se_int))))) (so_ev se_int))))
  (ss_one (ss_ret (sa_sh (se_mod (so_ev (se_div (so_ev (se_mod (so_ev (se_mul (so_pk (pv 3)) (so_ev (se_add (so_ev (se_mod (so_pk (pv 3)) (so_ev se_int))) (so_ev se_int))))) (so_ev se_int))) (so_ev se_int))) (so_pk (pv 1))))))))))
theorem sc_l_number : FnScope ["_law_pen_here"] ["_law_pen_here"] (defScope (top 23)) := ⟨rfl, rfl, rfl, by decide +kernel, rfl, by decide +kernel, by decide +kernel⟩
theorem ok_l_number (gK : G.K = K) (T : Txt mg) (Ex : Exc P w mg base G) (c_draw : Cal P w K mg base 1 "_law_draw" ["_law_pen_here", "_law_size"] G S_draw) {f : Addr} {fd : FuncData} (F : Fun K "_law_number" "_law_number" (top 23) f fd) : FnG P w K mg base 2 f fd ["_law_pen_here"] (spD G 1 S_l_number) := by
  subst gK
  have sc := sc_l_number
  refine fnG_of (k := 1) F sc rfl (fun _ => rfl) fun cdv A outer s H vs E hg hr => ?_
  unfold b_l_number
  exact (ss_cons (ss_if (st_cmp (op_eqD hr.units) (ok_eq _ _) (so_ev (se_va (se_callC c_draw (hr.mono (by omega)) (takes_of rfl rfl rfl rfl) hg (sa_cons (so_pk (pv 0)) (sa_cons (so_ev se_int) sa_nil))))) (so_ev se_int) rfl) (ss_one (ss_ret (sa_sh (se_mul (so_ev (se_sub (so_ev se_int) (so_ev (se_mul (so_ev se_int) (so_ev (se_va (se_callC c_draw (hr.mono (by omega)) (takes_of rfl rfl rfl rfl) hg (sa_cons (so_pk (pv 0)) (sa_cons (so_ev se_int) sa_nil))))))))) (so_ev (se_sub (so_ev (se_sub (so_ev (se_pow (so_ev se_int) (so_ev se_int))) (so_ev se_int))) (so_ev (se_va (se_callC c_draw (hr.mono (by omega)) (takes_of rfl rfl rfl rfl) hg (sa_cons (so_pk (pv 0)) (sa_cons (so_ev se_int) sa_nil))))))))))) ss_nil)
  (ss_one (ss_ret (sa_sh (se_sub (so_ev (se_va (se_callC c_draw (hr.mono (by omega)) (takes_of rfl rfl rfl rfl) hg (sa_cons (so_pk (pv 0)) (sa_cons (so_ev se_int) sa_nil))))) (so_ev se_int))))))
theorem sc_l_boxes : FnScope ["_law_pen_here", "_law_sizes_here", "_law_found", "_law_k", "_law_r", "_law_c"] ["_law_pen_here", "_law_sizes_here"] (defScope (top 25)) := ⟨rfl, rfl, rfl, by decide +kernel, rfl, by decide +kernel, by decide +kernel⟩
theorem ok_l_boxes (gK : G.K = K) (T : Txt mg) (Ex : Exc P w mg base G) (c_l_number : Cal P w K mg base 2 "_law_number" ["_law_pen_here"] G S_l_number) {f : Addr} {fd : FuncData} (F : Fun K "_law_boxes" "_law_boxes" (top 25) f fd) : FnG P w K mg base 3 f fd ["_law_pen_here", "_law_sizes_here"] (spD G 2 S_l_boxes) := by
  subst gK
  have sc := sc_l_boxes
  refine fnG_of (k := 2) F sc rfl (fun _ => rfl) fun cdv A outer s H vs E hg hr => ?_
  unfold b_l_boxes
  exact (ss_cons (ss_set (i := 2) sc.nd rfl (by first | exact Or.inl rfl | exact Or.inr rfl) (sa_lst sl_nil))
  (ss_cons (ss_for (ws := [3]) (passes_of rfl) rfl (si_rng1 T.n_range (se_sub (so_ev (se_lenA T.n_len (so_pk (pv 1)))) (so_ev se_int))) (sg_name sc.nd (i := 3) rfl (by first | exact Or.inl rfl | exact Or.inr rfl)) (calm_name 3) (ss_one (ss_expr (se_append (pv 2) (se_callTy call_tuple_of (ok_tuple _) T.n_tuple bt_tuple (sa_cons (so_ev (se_va (sa_lc rfl sc.nd (si_rng1 T.n_range (se_ixA (hu_of hr) (so_pk (pv 1)) (so_pk (pv 3)))) (own := [("_law_r", 4)]) (blkOk_by (N := ["_law_pen_here", "_law_sizes_here", "_law_found", "_law_k", "_law_r", "_law_c"]) (sc := defScope (top 25)) (own := [("_law_r", 4)]) (by decide +kernel)) (fun _ _ _ _ _ => (sg_name sc.nd (i := 4) rfl (by first | exact Or.inl rfl | exact Or.inr rfl))) (fun _ _ _ _ _ => sts_nil) (fun _ _ _ _ _ => (se_callTy call_tuple_of (ok_tuple _) T.n_tuple bt_tuple (sa_cons (so_ev (se_va (sa_lc rfl sc.nd (si_rng1 T.n_range (se_ixA (hu_of hr) (so_pk (pv 1)) (so_ev (se_add (so_pk (pv 3)) (so_ev se_int))))) (own := [("_law_c", 5)]) (blkOk_by (N := ["_law_pen_here", "_law_sizes_here", "_law_found", "_law_k", "_law_r", "_law_c"]) (own := [("_law_c", 5)]) (by kernel_rfl)) (fun _ _ _ _ _ => (sg_name sc.nd (i := 5) rfl (by first | exact Or.inl rfl | exact Or.inr rfl))) (fun _ _ _ _ _ => sts_nil) (fun _ _ _ _ _ => (se_va (se_callC c_l_number (hr.mono (by omega)) takes0 hg (sa_cons (so_pk (pv 0)) sa_nil))))))) sa_nil)))))) sa_nil))))))
  (ss_one (ss_ret (sa_var (pv 2))))))
theorem sc_l_sizes : FnScope ["_law_pen_here", "_law_way", "_law_many", "_law_k"] ["_law_pen_here"] (defScope (top 24)) := ⟨rfl, rfl, rfl, by decide +kernel, rfl, by decide +kernel, by decide +kernel⟩
theorem ok_l_sizes (gK : G.K = K) (T : Txt mg) (Ex : Exc P w mg base G) (c_draw : Cal P w K mg base 1 "_law_draw" ["_law_pen_here", "_law_size"] G S_draw) {f : Addr} {fd : FuncData} (F : Fun K "_law_sizes" "_law_sizes" (top 24) f fd) : FnG P w K mg base 2 f fd ["_law_pen_here"] (spD G 1 S_l_sizes) := by
  subst gK
  have sc := sc_l_sizes
  refine fnG_of (k := 1) F sc rfl (fun _ => rfl) fun cdv A outer s H vs E hg hr => ?_
  unfold b_l_sizes
  exact (ss_cons (ss_set (i := 1) sc.nd rfl (by first | exact Or.inl rfl | exact Or.inr rfl) (se_callC c_draw (hr.mono (by omega)) (takes_of rfl rfl rfl rfl) hg (sa_cons (so_pk (pv 0)) (sa_cons (so_ev se_int) sa_nil))))
  (ss_cons (ss_set (i := 2) sc.nd rfl (by first | exact Or.inl rfl | exact Or.inr rfl) (sa_addX (so_ev se_int) (so_ev (se_va (se_callC c_draw (hr.mono (by omega)) (takes_of rfl rfl rfl rfl) hg (sa_cons (so_pk (pv 0)) (sa_cons (so_ev (se_ixA (hu_of hr) (so_ev (se_lst (sl_cons se_int (sl_cons se_int (sl_cons se_int (sl_cons se_int (sl_cons se_int (sl_cons se_int sl_nil)))))))) (so_pk (pv 1)))) sa_nil)))))))
  (ss_one (ss_ret (sa_sh (se_callTy call_tuple_of (ok_tuple _) T.n_tuple bt_tuple (sa_cons (so_ev (se_va (sa_lc rfl sc.nd (si_rng1 T.n_range (se_add (so_pk (pv 2)) (so_ev se_int))) (own := [("_law_k", 3)]) (blkOk_by (N := ["_law_pen_here", "_law_way", "_law_many", "_law_k"]) (sc := defScope (top 24)) (own := [("_law_k", 3)]) (by decide +kernel)) (fun _ _ _ _ _ => (sg_name sc.nd (i := 3) rfl (by first | exact Or.inl rfl | exact Or.inr rfl))) (fun _ _ _ _ _ => sts_nil) (fun _ _ _ _ _ => (se_add (so_ev se_int) (so_ev (se_va (se_callC c_draw (hr.mono (by omega)) takes0 hg (sa_cons (so_pk (pv 0)) (sa_cons (so_ev (se_ixA (hu_of hr) (so_ev (se_lst (sl_cons se_int (sl_cons se_int (sl_cons se_int (sl_cons se_int (sl_cons se_int (sl_cons se_int sl_nil)))))))) (so_pk (pv 1)))) sa_nil)))))))))) sa_nil)))))))
theorem sc_l_times_2 : FnScope ["_law_one", "_law_other", "_law_found", "_law_line", "_law_row", "_law_c", "_law_k"] ["_law_one", "_law_other"] (defScope (top 27)) := ⟨rfl, rfl, rfl, by decide +kernel, rfl, by decide +kernel, by decide +kernel⟩
theorem ok_l_times_2 (gK : G.K = K) (T : Txt mg) (Ex : Exc P w mg base G)  {f : Addr} {fd : FuncData} (F : Fun K "_law_times" "_law_times" (top 27) f fd) : FnG P w K mg base 1 f fd ["_law_one", "_law_other"] (spD G 2 S_l_times_2) := by
  subst gK
  have sc := sc_l_times_2
  refine fnG_of (k := 0) F sc rfl (fun _ => rfl) fun cdv A outer s H vs E hg hr => ?_
  unfold b_l_times_2
  exact (ss_cons (ss_set (i := 2) sc.nd rfl (by first | exact Or.inl rfl | exact Or.inr rfl) (sa_lst sl_nil))
  (ss_cons (ss_forN (ws := [3]) (passes_of rfl) rfl (pv 0) (calm_name 3) (fun _ => (sg_name sc.nd (i := 3) rfl (by first | exact Or.inl rfl | exact Or.inr rfl))) (fun _ => (ss_cons (ss_set (i := 4) sc.nd rfl (by first | exact Or.inl rfl | exact Or.inr rfl) (sa_lst sl_nil))
    (ss_cons (ss_for (ws := [5]) (passes_of rfl) rfl (si_rng1 T.n_range (se_lenA T.n_len (so_ev (se_ixA (hu_of hr) (so_pk (pv 1)) (so_ev se_int))))) (sg_name sc.nd (i := 5) rfl (by first | exact Or.inl rfl | exact Or.inr rfl)) (calm_name 5) (ss_one (ss_expr (se_append (pv 4) (se_callB (cr_sumA rfl) (ok_sumA _ _) T.n_sum bt_sum (sa_cons (so_ev (se_va (sa_lc rfl sc.nd (si_rng1 T.n_range (se_lenA T.n_len (so_pk (pv 1)))) (own := [("_law_k", 6)]) (blkOk_by (N := ["_law_one", "_law_other", "_law_found", "_law_line", "_law_row", "_law_c", "_law_k"]) (sc := defScope (top 27)) (own := [("_law_k", 6)]) (by decide +kernel)) (fun _ _ _ _ _ => (sg_name sc.nd (i := 6) rfl (by first | exact Or.inl rfl | exact Or.inr rfl))) (fun _ _ _ _ _ => sts_nil) (fun _ _ _ _ _ => (se_mul (so_ev (se_ixA (hu_of hr) (so_pk (pv 3)) (so_pk (pv 6)))) (so_ev (se_ixA (hu_of hr) (so_ev (se_ixA (hu_of hr) (so_pk (pv 1)) (so_pk (pv 6)))) (so_pk (pv 5))))))))) sa_nil))))))
    (ss_one (ss_expr (se_append (pv 2) (se_callTy call_tuple_of (ok_tuple _) T.n_tuple bt_tuple (sa_cons (so_pk (pv 4)) sa_nil)))))))))
  (ss_one (ss_ret (sa_sh (se_callTy call_tuple_of (ok_tuple _) T.n_tuple bt_tuple (sa_cons (so_pk (pv 2)) sa_nil)))))))
theorem sc_l_run : FnScope ["_law_grids", "_law_part", "_law_left", "_law_right_here", "_law_many", "_law_steps"] ["_law_grids", "_law_part"] (defScope (top 28)) := ⟨rfl, rfl, rfl, by decide +kernel, rfl, by decide +kernel, by decide +kernel⟩
theorem ok_l_run (gK : G.K = K) (T : Txt mg) (Ex : Exc P w mg base G) (c_l_times_2 : Cal P w K mg base 1 "_law_times" ["_law_one", "_law_other"] G S_l_times_2) {f : Addr} {fd : FuncData} (F : Fun K "_law_run" "_law_run" (top 28) f fd) (hb : Binds K fd ["_law_grids", "_law_part"] []) (hm : mg "_law_run" = some (.ref f)) (hk : PySem.W.keepIn K (.ref f) = true) : ∀ n : Nat, FnG P w K mg base (2 + n) f fd ["_law_grids", "_law_part"] (spD G 2 (F_l_run n))
  | 0 => fnG_no rfl
  | n + 1 => by
    have c_l_run : Cal P w K mg base (2 + n) "_law_run" ["_law_grids", "_law_part"] G (F_l_run n) := ⟨f, fd, ok_l_run gK T Ex c_l_times_2 F hb hm hk n, hb, hm, hk⟩
    subst gK
    have sc := sc_l_run
    refine fnG_of (k := 2 + n) F sc rfl (fun _ => rfl) fun cdv A outer s H vs E hg hr => ?_
    unfold b_l_run
    exact (ss_cons (ss_if (st_tru (se_isi (t := .int) T.n_isinstance T.n_int bt_int (so_pk (pv 1)))) (ss_one (ss_ret (sa_sh (se_tup (sl_cons (se_var (pv 1)) (sl_cons (se_var (pv 1)) (sl_cons (se_ixA (hu_of hr) (so_pk (pv 0)) (so_pk (pv 1))) (sl_cons (se_lst sl_nil) sl_nil)))))))) ss_nil)
  (ss_cons (ss_set (i := 2) sc.nd rfl (by first | exact Or.inl rfl | exact Or.inr rfl) (se_callC c_l_run (hr.mono (by omega)) (takes_of rfl rfl rfl rfl) hg (sa_cons (so_ev (se_var (pv 0))) (sa_cons (so_ev (se_ixA (hu_of hr) (so_pk (pv 1)) (so_ev se_int))) sa_nil))))
  (ss_cons (ss_set (i := 3) sc.nd rfl (by first | exact Or.inl rfl | exact Or.inr rfl) (se_callC c_l_run (hr.mono (by omega)) (takes_of rfl rfl rfl rfl) hg (sa_cons (so_ev (se_var (pv 0))) (sa_cons (so_ev (se_ixA (hu_of hr) (so_pk (pv 1)) (so_ev se_int))) sa_nil))))
  (ss_cons (ss_set (i := 4) sc.nd rfl (by first | exact Or.inl rfl | exact Or.inr rfl) (sa_sh (se_mul (so_ev (se_mul (so_ev (se_lenA T.n_len (so_ev (se_ixA (hu_of hr) (so_pk (pv 2)) (so_ev se_int))))) (so_ev (se_lenA T.n_len (so_ev (se_ixA (hu_of hr) (so_pk (pv 3)) (so_ev se_int))))))) (so_ev (se_lenA T.n_len (so_ev (se_ixA (hu_of hr) (so_ev (se_ixA (hu_of hr) (so_pk (pv 3)) (so_ev se_int))) (so_ev se_int))))))))
  (ss_cons (ss_set (i := 5) sc.nd rfl (by first | exact Or.inl rfl | exact Or.inr rfl) (sa_addX (so_ev (se_add (so_ev (se_ixA (hu_of hr) (so_pk (pv 2)) (so_ev se_int))) (so_ev (se_ixA (hu_of hr) (so_pk (pv 3)) (so_ev se_int))))) (so_ev (se_lst (sl_cons (se_tup (sl_cons (se_ixA (hu_of hr) (so_pk (pv 2)) (so_ev se_int)) (sl_cons (se_ixA (hu_of hr) (so_pk (pv 3)) (so_ev se_int)) (sl_cons (se_var (pv 4)) sl_nil)))) sl_nil)))))
  (ss_one (ss_ret (sa_sh (se_tup (sl_cons (se_ixA (hu_of hr) (so_pk (pv 2)) (so_ev se_int)) (sl_cons (se_ixA (hu_of hr) (so_pk (pv 3)) (so_ev se_int)) (sl_cons (se_va (se_callC c_l_times_2 (hr.mono (by omega)) (takes_of rfl rfl rfl rfl) hg (sa_cons (so_ev (se_ixA (hu_of hr) (so_pk (pv 2)) (so_ev se_int))) (sa_cons (so_ev (se_ixA (hu_of hr) (so_pk (pv 3)) (so_ev se_int))) sa_nil)))) (sl_cons (se_var (pv 5)) sl_nil)))))))))))))
theorem sc_row_of_boxes : FnScope ["boxes", "at", "box"] ["boxes"] (defScope (top 15)) := ⟨rfl, rfl, rfl, by decide +kernel, rfl, by decide +kernel, by decide +kernel⟩
theorem ok_row_of_boxes (gK : G.K = K) (T : Txt mg) (Ex : Exc P w mg base G)  {f : Addr} {fd : FuncData} (F : Fun K "row_of_boxes" "row_of_boxes" (top 15) f fd) : FnG P w K mg base 3 f fd ["boxes"] (spD G 1 S_row_of_boxes) := by
  subst gK
  have sc := sc_row_of_boxes
  refine fnG_of (k := 2) F sc rfl (fun _ => rfl) fun cdv A outer s H vs E hg hr => ?_
  unfold b_row_of_boxes
  exact (ss_cons (ss_if (st_not (st_chain op_le (ok_le _) op_le (ok_le _) (so_ev se_int) (so_ev (se_lenA T.n_len (so_pk (pv 0)))) (so_ev (se_globI T.c_MOST_BOXES)))) (ss_one (ss_raise (c := 3) rfl (takes_of rfl rfl rfl rfl) PySem.F.excBase_ValueError Ex.r_NoRow.2 Ex.n_NoRow Ex.r_NoRow.1.kp (raises_own Ex.r_NoRow.1.sb Ex.r_NoRow.1.ty))) ss_nil)
  (ss_cons (ss_for (ws := [1]) (passes_of rfl) rfl (si_rng2 T.n_range se_int (se_lenA T.n_len (so_pk (pv 0)))) (sg_name sc.nd (i := 1) rfl (by first | exact Or.inl rfl | exact Or.inr rfl)) (calm_name 1) (ss_one (ss_if (st_cmp (op_neD hr.units) (ok_ne _ _) (so_ev (se_lenA T.n_len (so_ev (se_ixA (hu_of hr) (so_pk (pv 0)) (so_pk (pv 1)))))) (so_ev (se_lenA T.n_len (so_ev (se_ixA (hu_of hr) (so_ev (se_ixA (hu_of hr) (so_pk (pv 0)) (so_ev (se_sub (so_pk (pv 1)) (so_ev se_int))))) (so_ev se_int))))) rfl) (ss_one (ss_raiseI (c := 2) rfl (takes_of rfl rfl rfl rfl) Ex.i_NoFit Ex.n_NoFit (hr.mono (by omega)) (se_var (pv 1)))) ss_nil)))
  (ss_one (ss_ret (sa_sh (se_callTy call_tuple_of (ok_tuple _) T.n_tuple bt_tuple (sa_cons (so_ev (se_add (so_ev (se_va (sa_lcN rfl sc.nd (pv 0) (own := [("box", 2)]) (blkOk_by (N := ["boxes", "at", "box"]) (sc := defScope (top 15)) (own := [("box", 2)]) (by decide +kernel)) (fun _ _ _ _ _ => (sg_name sc.nd (i := 2) rfl (by first | exact Or.inl rfl | exact Or.inr rfl))) (fun _ _ _ _ _ => sts_nil) (fun _ _ _ _ _ => (se_lenA T.n_len (so_pk (pv 2))))))) (so_ev (se_lst (sl_cons (se_lenA T.n_len (so_ev (se_ixA (hu_of hr) (so_ev (se_ixA (hu_of hr) (so_pk (pv 0)) (so_ev (se_neg se_int)))) (so_ev se_int)))) sl_nil))))) sa_nil)))))))
theorem sc_is_whole : FnScope ["thing"] ["thing"] (defScope (top 6)) := ⟨rfl, rfl, rfl, by decide +kernel, rfl, by decide +kernel, by decide +kernel⟩
theorem ok_is_whole (gK : G.K = K) (T : Txt mg) (Ex : Exc P w mg base G)  {f : Addr} {fd : FuncData} (F : Fun K "is_whole" "is_whole" (top 6) f fd) : FnG P w K mg base 1 f fd ["thing"] (spD G 1 S_is_whole) := by
  subst gK
  have sc := sc_is_whole
  refine fnG_of (k := 0) F sc rfl (fun _ => rfl) fun cdv A outer s H vs E hg hr => ?_
  unfold b_is_whole
  exact (ss_one (ss_ret (sa_sh (se_and (se_isi (t := .int) T.n_isinstance T.n_int bt_int (so_pk (pv 0))) (se_one (se_not (se_isi (t := .bool) T.n_isinstance T.n_bool bt_bool (so_pk (pv 0)))))))))
theorem sc_span_of : FnScope ["thing", "left", "right"] ["thing"] (defScope (top 10)) := ⟨rfl, rfl, rfl, by decide +kernel, rfl, by decide +kernel, by decide +kernel⟩
theorem ok_span_of (gK : G.K = K) (T : Txt mg) (Ex : Exc P w mg base G) (c_is_whole : Cal P w K mg base 1 "is_whole" ["thing"] G S_is_whole) {f : Addr} {fd : FuncData} (F : Fun K "span_of" "span_of" (top 10) f fd) (hb : Binds K fd ["thing"] []) (hm : mg "span_of" = some (.ref f)) (hk : PySem.W.keepIn K (.ref f) = true) : ∀ n : Nat, FnG P w K mg base (2 + n) f fd ["thing"] (spD G 1 (F_span_of n))
  | 0 => fnG_no rfl
  | n + 1 => by
    have c_span_of : Cal P w K mg base (2 + n) "span_of" ["thing"] G (F_span_of n) := ⟨f, fd, ok_span_of gK T Ex c_is_whole F hb hm hk n, hb, hm, hk⟩
    subst gK
    have sc := sc_span_of
    refine fnG_of (k := 2 + n) F sc rfl (fun _ => rfl) fun cdv A outer s H vs E hg hr => ?_
    unfold b_span_of
    exact (ss_cons (ss_if (st_tru (se_va (se_callC c_is_whole (hr.mono (by omega)) (takes_of rfl rfl rfl rfl) hg (sa_cons (so_ev (se_var (pv 0))) sa_nil)))) (ss_one (ss_ret (sa_sh (se_tup (sl_cons (se_var (pv 0)) (sl_cons (se_var (pv 0)) sl_nil)))))) ss_nil)
  (ss_cons (ss_if (st_bool (sw_or (st_not (st_tru (se_isi (t := .tup) T.n_isinstance T.n_tuple bt_tuple (so_pk (pv 0))))) (sw_or1 (st_cmp (op_neD hr.units) (ok_ne _ _) (so_ev (se_lenA T.n_len (so_pk (pv 0)))) (so_ev se_int) rfl)))) (ss_one (ss_ret (sa_sh se_non))) ss_nil)
  (ss_cons (ss_set (i := 1) sc.nd rfl (by first | exact Or.inl rfl | exact Or.inr rfl) (se_callC c_span_of (hr.mono (by omega)) (takes_of rfl rfl rfl rfl) hg (sa_cons (so_ev (se_ixA (hu_of hr) (so_pk (pv 0)) (so_ev se_int))) sa_nil)))
  (ss_cons (ss_if (st_cmp op_is3 (ok_is3 _) (so_pk (pv 1)) (so_ev se_non) rfl) (ss_one (ss_ret (sa_sh se_non))) ss_nil)
  (ss_cons (ss_set (i := 2) sc.nd rfl (by first | exact Or.inl rfl | exact Or.inr rfl) (se_callC c_span_of (hr.mono (by omega)) (takes_of rfl rfl rfl rfl) hg (sa_cons (so_ev (se_ixA (hu_of hr) (so_pk (pv 0)) (so_ev se_int))) sa_nil)))
  (ss_cons (ss_if (st_bool (sw_or (st_cmp op_is3 (ok_is3 _) (so_pk (pv 2)) (so_ev se_non) rfl) (sw_or1 (st_cmp (op_neD hr.units) (ok_ne _ _) (so_ev (se_ixA (hu_of hr) (so_pk (pv 2)) (so_ev se_int))) (so_ev (se_add (so_ev (se_ixA (hu_of hr) (so_pk (pv 1)) (so_ev se_int))) (so_ev se_int))) rfl)))) (ss_one (ss_ret (sa_sh se_non))) ss_nil)
  (ss_one (ss_ret (sa_sh (se_tup (sl_cons (se_ixA (hu_of hr) (so_pk (pv 1)) (so_ev se_int)) (sl_cons (se_ixA (hu_of hr) (so_pk (pv 2)) (so_ev se_int)) sl_nil))))))))))))
theorem sc_is_brackets : FnScope ["first", "last", "thing"] ["first", "last", "thing"] (defScope (top 11)) := ⟨rfl, rfl, rfl, by decide +kernel, rfl, by decide +kernel, by decide +kernel⟩
theorem ok_is_brackets (gK : G.K = K) (T : Txt mg) (Ex : Exc P w mg base G) (c_span_of : Cal P w K mg base 66 "span_of" ["thing"] G S_span_of) {f : Addr} {fd : FuncData} (F : Fun K "is_brackets" "is_brackets" (top 11) f fd) : FnG P w K mg base 67 f fd ["first", "last", "thing"] (spD G 3 S_is_brackets) := by
  subst gK
  have sc := sc_is_brackets
  refine fnG_of (k := 66) F sc rfl (fun _ => rfl) fun cdv A outer s H vs E hg hr => ?_
  unfold b_is_brackets
  exact (ss_one (ss_ret (sa_sh (se_cmp (op_eqD hr.units) (ok_eq _ _) (so_ev (se_va (se_callC c_span_of (hr.mono (by omega)) (takes_of rfl rfl rfl rfl) hg (sa_cons (so_ev (se_var (pv 2))) sa_nil)))) (so_ev (se_tup (sl_cons (se_var (pv 0)) (sl_cons (se_var (pv 1)) sl_nil)))) rfl))))
theorem sc_need_brackets : FnScope ["last", "thing"] ["last", "thing"] (defScope (top 12)) := ⟨rfl, rfl, rfl, by decide +kernel, rfl, by decide +kernel, by decide +kernel⟩
theorem ok_need_brackets (gK : G.K = K) (T : Txt mg) (Ex : Exc P w mg base G) (c_is_brackets : Cal P w K mg base 67 "is_brackets" ["first", "last", "thing"] G S_is_brackets) {f : Addr} {fd : FuncData} (F : Fun K "need_brackets" "need_brackets" (top 12) f fd) : FnG P w K mg base 68 f fd ["last", "thing"] (spD G 2 S_need_brackets) := by
  subst gK
  have sc := sc_need_brackets
  refine fnG_of (k := 67) F sc rfl (fun _ => rfl) fun cdv A outer s H vs E hg hr => ?_
  unfold b_need_brackets
  exact (ss_one (ss_if (st_not (st_tru (se_va (se_callC c_is_brackets (hr.mono (by omega)) (takes_of rfl rfl rfl rfl) hg (sa_cons (so_ev se_int) (sa_cons (so_ev (se_var (pv 0))) (sa_cons (so_ev (se_var (pv 1))) sa_nil))))))) (ss_one (ss_raise (c := 4) rfl (takes_of rfl rfl rfl rfl) PySem.F.excBase_ValueError Ex.r_NoBrackets.2 Ex.n_NoBrackets Ex.r_NoBrackets.1.kp (raises_own Ex.r_NoBrackets.1.sb Ex.r_NoBrackets.1.ty))) ss_nil))
theorem sc_turned_box : FnScope ["box", "c", "one"] ["box"] (defScope (top 7)) := ⟨rfl, rfl, rfl, by decide +kernel, rfl, by decide +kernel, by decide +kernel⟩
theorem ok_turned_box (gK : G.K = K) (T : Txt mg) (Ex : Exc P w mg base G)  {f : Addr} {fd : FuncData} (F : Fun K "turned_box" "turned_box" (top 7) f fd) : FnG P w K mg base 1 f fd ["box"] (spD G 1 S_turned_box) := by
  subst gK
  have sc := sc_turned_box
  refine fnG_of (k := 0) F sc rfl (fun _ => rfl) fun cdv A outer s H vs E hg hr => ?_
  unfold b_turned_box
  exact (ss_one (ss_ret (sa_sh (se_callTy call_tuple_of (ok_tuple _) T.n_tuple bt_tuple (sa_cons (so_ev (se_va (sa_lc rfl sc.nd (si_rng1 T.n_range (se_lenA T.n_len (so_ev (se_ixA (hu_of hr) (so_pk (pv 0)) (so_ev se_int))))) (own := [("c", 1)]) (blkOk_by (N := ["box", "c", "one"]) (sc := defScope (top 7)) (own := [("c", 1)]) (by decide +kernel)) (fun _ _ _ _ _ => (sg_name sc.nd (i := 1) rfl (by first | exact Or.inl rfl | exact Or.inr rfl))) (fun _ _ _ _ _ => sts_nil) (fun _ _ _ _ _ => (se_callTy call_tuple_of (ok_tuple _) T.n_tuple bt_tuple (sa_cons (so_ev (se_va (sa_lcN rfl sc.nd (pv 0) (own := [("one", 2)]) (blkOk_by (N := ["box", "c", "one"]) (own := [("one", 2)]) (by kernel_rfl)) (fun _ _ _ _ _ => (sg_name sc.nd (i := 2) rfl (by first | exact Or.inl rfl | exact Or.inr rfl))) (fun _ _ _ _ _ => sts_nil) (fun _ _ _ _ _ => (se_ixA (hu_of hr) (so_pk (pv 2)) (so_pk (pv 1))))))) sa_nil)))))) sa_nil)))))
theorem sc_times : FnScope ["one", "other", "lines", "line", "column", "a", "b"] ["one", "other"] (defScope (top 8)) := ⟨rfl, rfl, rfl, by decide +kernel, rfl, by decide +kernel, by decide +kernel⟩
theorem ok_times (gK : G.K = K) (T : Txt mg) (Ex : Exc P w mg base G) (c_turned_box : Cal P w K mg base 1 "turned_box" ["box"] G S_turned_box) {f : Addr} {fd : FuncData} (F : Fun K "times" "times" (top 8) f fd) : FnG P w K mg base 3 f fd ["one", "other"] (spD G 2 S_times) := by
  subst gK
  have sc := sc_times
  refine fnG_of (k := 2) F sc rfl (fun _ => rfl) fun cdv A outer s H vs E hg hr => ?_
  unfold b_times
  exact (ss_cons (ss_if (st_cmp (op_neD hr.units) (ok_ne _ _) (so_ev (se_lenA T.n_len (so_ev (se_ixA (hu_of hr) (so_pk (pv 0)) (so_ev se_int))))) (so_ev (se_lenA T.n_len (so_pk (pv 1)))) rfl) (ss_one (ss_raiseI (c := 2) rfl (takes_of rfl rfl rfl rfl) Ex.i_NoFit Ex.n_NoFit (hr.mono (by omega)) se_int)) ss_nil)
  (ss_cons (ss_set (i := 2) sc.nd rfl (by first | exact Or.inl rfl | exact Or.inr rfl) (se_callC c_turned_box (hr.mono (by omega)) (takes_of rfl rfl rfl rfl) hg (sa_cons (so_ev (se_var (pv 1))) sa_nil)))
  (ss_one (ss_ret (sa_sh (se_callTy call_tuple_of (ok_tuple _) T.n_tuple bt_tuple (sa_cons (so_ev (se_va (sa_lcN rfl sc.nd (pv 0) (own := [("line", 3)]) (blkOk_by (N := ["one", "other", "lines", "line", "column", "a", "b"]) (sc := defScope (top 8)) (own := [("line", 3)]) (by decide +kernel)) (fun _ _ _ _ _ => (sg_name sc.nd (i := 3) rfl (by first | exact Or.inl rfl | exact Or.inr rfl))) (fun _ _ _ _ _ => sts_nil) (fun _ _ _ _ _ => (se_callTy call_tuple_of (ok_tuple _) T.n_tuple bt_tuple (sa_cons (so_ev (se_va (sa_lcN rfl sc.nd (pv 2) (own := [("column", 4)]) (blkOk_by (N := ["one", "other", "lines", "line", "column", "a", "b"]) (own := [("column", 4)]) (by kernel_rfl)) (fun _ _ _ _ _ => (sg_name sc.nd (i := 4) rfl (by first | exact Or.inl rfl | exact Or.inr rfl))) (fun _ _ _ _ _ => sts_nil) (fun _ _ _ _ _ => (se_callB (cr_sumA rfl) (ok_sumA _ _) T.n_sum bt_sum (sa_cons (so_ev (se_va (sa_lc rfl sc.nd (si_zipB T.n_zip (se_var (pv 3)) (se_var (pv 4))) (own := [("a", 5), ("b", 6)]) (blkOk_by (N := ["one", "other", "lines", "line", "column", "a", "b"]) (own := [("a", 5), ("b", 6)]) (by kernel_rfl)) (fun _ _ _ _ _ => (sg_tup rfl (sg_cons (sg_name sc.nd (i := 5) rfl (by first | exact Or.inl rfl | exact Or.inr rfl)) (sg_cons (sg_name sc.nd (i := 6) rfl (by first | exact Or.inl rfl | exact Or.inr rfl)) sg_nil)))) (fun _ _ _ _ _ => sts_nil) (fun _ _ _ _ _ => (se_mul (so_pk (pv 5)) (so_pk (pv 6))))))) sa_nil)))))) sa_nil)))))) sa_nil)))))))
theorem sc_many_between : FnScope ["one", "other"] ["one", "other"] (defScope (top 17)) := ⟨rfl, rfl, rfl, by decide +kernel, rfl, by decide +kernel, by decide +kernel⟩
theorem ok_many_between (gK : G.K = K) (T : Txt mg) (Ex : Exc P w mg base G)  {f : Addr} {fd : FuncData} (F : Fun K "many_between" "many_between" (top 17) f fd) : FnG P w K mg base 1 f fd ["one", "other"] (spD G 2 S_many_between) := by
  subst gK
  have sc := sc_many_between
  refine fnG_of (k := 0) F sc rfl (fun _ => rfl) fun cdv A outer s H vs E hg hr => ?_
  unfold b_many_between
  exact (ss_one (ss_ret (sa_sh (se_mul (so_ev (se_mul (so_ev (se_lenA T.n_len (so_pk (pv 0)))) (so_ev (se_lenA T.n_len (so_pk (pv 1)))))) (so_ev (se_lenA T.n_len (so_ev (se_ixA (hu_of hr) (so_pk (pv 1)) (so_ev se_int)))))))))
theorem sc_run_part : FnScope ["boxes", "part", "steps", "left", "right"] ["boxes", "part", "steps"] (defScope (top 18)) := ⟨rfl, rfl, rfl, by decide +kernel, rfl, by decide +kernel, by decide +kernel⟩
theorem ok_run_part (gK : G.K = K) (T : Txt mg) (Ex : Exc P w mg base G) (c_times : Cal P w K mg base 3 "times" ["one", "other"] G S_times) (c_many_between : Cal P w K mg base 1 "many_between" ["one", "other"] G S_many_between) {f : Addr} {fd : FuncData} (F : Fun K "run_part" "run_part" (top 18) f fd) (hb : Binds K fd ["boxes", "part", "steps"] []) (hm : mg "run_part" = some (.ref f)) (hk : PySem.W.keepIn K (.ref f) = true) : ∀ n : Nat, FnG P w K mg base (4 + n) f fd ["boxes", "part", "steps"] (spD G 3 (F_run_part n))
  | 0 => fnG_no rfl
  | n + 1 => by
    have c_run_part : Cal P w K mg base (4 + n) "run_part" ["boxes", "part", "steps"] G (F_run_part n) := ⟨f, fd, ok_run_part gK T Ex c_times c_many_between F hb hm hk n, hb, hm, hk⟩
    subst gK
    have sc := sc_run_part
    refine fnG_of (k := 4 + n) F sc rfl (fun _ => rfl) fun cdv A outer s H vs E hg hr => ?_
    unfold b_run_part
    exact (ss_cons (ss_if (st_not (st_tru (se_isi (t := .tup) T.n_isinstance T.n_tuple bt_tuple (so_pk (pv 1))))) (ss_one (ss_ret (sa_sh (se_tup (sl_cons (se_var (pv 1)) (sl_cons (se_var (pv 1)) (sl_cons (se_ixA (hu_of hr) (so_pk (pv 0)) (so_pk (pv 1))) sl_nil))))))) ss_nil)
  (ss_cons (ss_set (i := 3) sc.nd rfl (by first | exact Or.inl rfl | exact Or.inr rfl) (se_callC c_run_part (hr.mono (by omega)) (takes_of rfl rfl rfl rfl) hg (sa_cons (so_ev (se_var (pv 0))) (sa_cons (so_ev (se_ixA (hu_of hr) (so_pk (pv 1)) (so_ev se_int))) (sa_cons (so_pk (pv 2)) sa_nil)))))
  (ss_cons (ss_set (i := 4) sc.nd rfl (by first | exact Or.inl rfl | exact Or.inr rfl) (se_callC c_run_part (hr.mono (by omega)) (takes_of rfl rfl rfl rfl) hg (sa_cons (so_ev (se_var (pv 0))) (sa_cons (so_ev (se_ixA (hu_of hr) (so_pk (pv 1)) (so_ev se_int))) (sa_cons (so_pk (pv 2)) sa_nil)))))
  (ss_cons (ss_expr (se_append (pv 2) (se_tup (sl_cons (se_ixA (hu_of hr) (so_pk (pv 3)) (so_ev se_int)) (sl_cons (se_ixA (hu_of hr) (so_pk (pv 4)) (so_ev se_int)) (sl_cons (se_va (se_callC c_many_between (hr.mono (by omega)) (takes_of rfl rfl rfl rfl) hg (sa_cons (so_ev (se_ixA (hu_of hr) (so_pk (pv 3)) (so_ev se_int))) (sa_cons (so_ev (se_ixA (hu_of hr) (so_pk (pv 4)) (so_ev se_int))) sa_nil)))) sl_nil))))))
  (ss_one (ss_ret (sa_sh (se_tup (sl_cons (se_ixA (hu_of hr) (so_pk (pv 3)) (so_ev se_int)) (sl_cons (se_ixA (hu_of hr) (so_pk (pv 4)) (so_ev se_int)) (sl_cons (se_va (se_callC c_times (hr.mono (by omega)) (takes_of rfl rfl rfl rfl) hg (sa_cons (so_ev (se_ixA (hu_of hr) (so_pk (pv 3)) (so_ev se_int))) (sa_cons (so_ev (se_ixA (hu_of hr) (so_pk (pv 4)) (so_ev se_int))) sa_nil)))) sl_nil)))))))))))
theorem sc_run : FnScope ["boxes", "brackets", "row", "steps"] ["boxes", "brackets"] (defScope (top 19)) := ⟨rfl, rfl, rfl, by decide +kernel, rfl, by decide +kernel, by decide +kernel⟩
theorem ok_run (gK : G.K = K) (T : Txt mg) (Ex : Exc P w mg base G) (c_row_of_boxes : Cal P w K mg base 3 "row_of_boxes" ["boxes"] G S_row_of_boxes) (c_need_brackets : Cal P w K mg base 68 "need_brackets" ["last", "thing"] G S_need_brackets) (c_run_part : Cal P w K mg base 68 "run_part" ["boxes", "part", "steps"] G S_run_part) {f : Addr} {fd : FuncData} (F : Fun K "run" "run" (top 19) f fd) : FnG P w K mg base 69 f fd ["boxes", "brackets"] (spD G 2 S_run) := by
  subst gK
  have sc := sc_run
  refine fnG_of (k := 68) F sc rfl (fun _ => rfl) fun cdv A outer s H vs E hg hr => ?_
  unfold b_run
  exact (ss_cons (ss_set (i := 2) sc.nd rfl (by first | exact Or.inl rfl | exact Or.inr rfl) (se_callC c_row_of_boxes (hr.mono (by omega)) (takes_of rfl rfl rfl rfl) hg (sa_cons (so_ev (se_var (pv 0))) sa_nil)))
  (ss_cons (ss_expr (se_va (se_callC c_need_brackets (hr.mono (by omega)) (takes_of rfl rfl rfl rfl) hg (sa_cons (so_ev (se_sub (so_ev (se_lenA T.n_len (so_pk (pv 2)))) (so_ev se_int))) (sa_cons (so_ev (se_var (pv 1))) sa_nil)))))
  (ss_cons (ss_set (i := 3) sc.nd rfl (by first | exact Or.inl rfl | exact Or.inr rfl) (sa_lst sl_nil))
  (ss_one (ss_ret (sa_tupE (se_ixA (hu_of hr) (so_ev (se_va (se_callC c_run_part (hr.mono (by omega)) (takes_of rfl rfl rfl rfl) hg (sa_cons (so_ev (se_var (pv 0))) (sa_cons (so_ev (se_var (pv 1))) (sa_cons (so_pk (pv 3)) sa_nil)))))) (so_ev se_int)) (pv 3)))))))
theorem sc_l_right_2 : FnScope ["_law_grids", "_law_knots", "_law_due", "_law_handed", "_law_turn", "_law_found"] ["_law_grids", "_law_knots"] (defScope (top 29)) := ⟨rfl, rfl, rfl, by decide +kernel, rfl, by decide +kernel, by decide +kernel⟩
theorem ok_l_right_2 (gK : G.K = K) (T : Txt mg) (Ex : Exc P w mg base G) (c_l_run : Cal P w K mg base 66 "_law_run" ["_law_grids", "_law_part"] G S_l_run) (c_run : Cal P w K mg base 69 "run" ["boxes", "brackets"] G S_run) {f : Addr} {fd : FuncData} (F : Fun K "_law_right" "_law_right" (top 29) f fd) : FnG P w K mg base 70 f fd ["_law_grids", "_law_knots"] (spD G 2 S_l_right_2) := by
  subst gK
  have sc := sc_l_right_2
  refine fnG_of (k := 69) F sc rfl (fun _ => rfl) fun cdv A outer s H vs E hg hr => ?_
  unfold b_l_right_2
  exact (ss_cons (ss_set (i := 2) sc.nd rfl (by first | exact Or.inl rfl | exact Or.inr rfl) (se_callC c_l_run (hr.mono (by omega)) (takes_of rfl rfl rfl rfl) hg (sa_cons (so_ev (se_var (pv 0))) (sa_cons (so_ev (se_var (pv 1))) sa_nil))))
  (ss_cons (ss_set (i := 3) sc.nd rfl (by first | exact Or.inl rfl | exact Or.inr rfl) (sa_callTy call_list_of (ok_list _) T.n_list bt_list (sa_cons (so_pk (pv 0)) sa_nil)))
  (ss_cons (ss_for (ws := [4]) (passes_of rfl) rfl (si_rng1 T.n_range se_int) (sg_name sc.nd (i := 4) rfl (by first | exact Or.inl rfl | exact Or.inr rfl)) (calm_name 4) (ss_cons (ss_set (i := 5) sc.nd rfl (by first | exact Or.inl rfl | exact Or.inr rfl) (se_callC c_run (hr.mono (by omega)) (takes_of rfl rfl rfl rfl) hg (sa_cons (so_ev (se_var (pv 3))) (sa_cons (so_ev (se_var (pv 1))) sa_nil))))
    (ss_cons (ss_if (st_bool (sw_or (st_cmp op_ne (ok_neS _) (so_ev (se_callB1T (call_reprQ hg (hu65_of hr)) (ok_reprA _) T.n_repr bt_repr (sa_cons (so_pk (pv 5)) sa_nil))) (so_ev (se_callB (call_reprQ hg (hu65_of hr)) (ok_reprA _) T.n_repr bt_repr (sa_cons (so_ev (se_tup (sl_cons (se_ixA (hu_of hr) (so_pk (pv 2)) (so_ev se_int)) (sl_cons (se_ixA (hu_of hr) (so_pk (pv 2)) (so_ev se_int)) sl_nil)))) sa_nil))) rfl) (sw_or1 (st_cmp (op_neD hr.units) (ok_ne _ _) (so_pk (pv 3)) (so_pk (pv 0)) rfl)))) (ss_one (ss_ret (sa_sh se_bl))) ss_nil)
    (ss_one (ss_expr (se_clearN (pv 5) se_int))))))
  (ss_one (ss_ret (sa_sh se_bl))))))
theorem sc_l_brackets : FnScope ["_law_pen_here", "_law_first", "_law_last", "_law_cut"] ["_law_pen_here", "_law_first", "_law_last"] (defScope (top 26)) := ⟨rfl, rfl, rfl, by decide +kernel, rfl, by decide +kernel, by decide +kernel⟩
theorem ok_l_brackets (gK : G.K = K) (T : Txt mg) (Ex : Exc P w mg base G) (c_draw : Cal P w K mg base 1 "_law_draw" ["_law_pen_here", "_law_size"] G S_draw) {f : Addr} {fd : FuncData} (F : Fun K "_law_brackets" "_law_brackets" (top 26) f fd) (hb : Binds K fd ["_law_pen_here", "_law_first", "_law_last"] []) (hm : mg "_law_brackets" = some (.ref f)) (hk : PySem.W.keepIn K (.ref f) = true) : ∀ n : Nat, FnG P w K mg base (2 + n) f fd ["_law_pen_here", "_law_first", "_law_last"] (spD G 3 (F_l_brackets n))
  | 0 => fnG_no rfl
  | n + 1 => by
    have c_l_brackets : Cal P w K mg base (2 + n) "_law_brackets" ["_law_pen_here", "_law_first", "_law_last"] G (F_l_brackets n) := ⟨f, fd, ok_l_brackets gK T Ex c_draw F hb hm hk n, hb, hm, hk⟩
    subst gK
    have sc := sc_l_brackets
    refine fnG_of (k := 2 + n) F sc rfl (fun _ => rfl) fun cdv A outer s H vs E hg hr => ?_
    unfold b_l_brackets
    exact (ss_cons (ss_if (st_cmp (op_eqD hr.units) (ok_eq _ _) (so_pk (pv 1)) (so_pk (pv 2)) rfl) (ss_one (ss_ret (sa_var (pv 1)))) ss_nil)
  (ss_cons (ss_set (i := 3) sc.nd rfl (by first | exact Or.inl rfl | exact Or.inr rfl) (sa_addX (so_pk (pv 1)) (so_ev (se_va (se_callC c_draw (hr.mono (by omega)) (takes_of rfl rfl rfl rfl) hg (sa_cons (so_pk (pv 0)) (sa_cons (so_ev (se_sub (so_pk (pv 2)) (so_pk (pv 1)))) sa_nil)))))))
  (ss_one (ss_ret (sa_sh (se_tup (sl_cons (se_va (se_callC c_l_brackets (hr.mono (by omega)) (takes_of rfl rfl rfl rfl) hg (sa_cons (so_pk (pv 0)) (sa_cons (so_ev (se_var (pv 1))) (sa_cons (so_ev (se_var (pv 3))) sa_nil))))) (sl_cons (se_va (se_callC c_l_brackets (hr.mono (by omega)) (takes_of rfl rfl rfl rfl) hg (sa_cons (so_pk (pv 0)) (sa_cons (so_ev (se_add (so_pk (pv 3)) (so_ev se_int))) (sa_cons (so_ev (se_var (pv 2))) sa_nil))))) sl_nil))))))))
theorem sc_law_k18 : FnScope ["_law_script", "_law_k", "_law_pen_here", "_law_grids", "_law_turn"] ["_law_script"] (defScope (top 30)) := ⟨rfl, rfl, rfl, by decide +kernel, rfl, by decide +kernel, by decide +kernel⟩
theorem ok_law_k18 (gK : G.K = K) (T : Txt mg) (Ex : Exc P w mg base G) (c_pen : Cal P w K mg base 1 "_law_pen" ["_law_script", "_law_k"] G S_pen) (c_l_boxes : Cal P w K mg base 3 "_law_boxes" ["_law_pen_here", "_law_sizes_here"] G S_l_boxes) (c_l_sizes : Cal P w K mg base 2 "_law_sizes" ["_law_pen_here"] G S_l_sizes) (c_l_right_2 : Cal P w K mg base 70 "_law_right" ["_law_grids", "_law_knots"] G S_l_right_2) (c_l_brackets : Cal P w K mg base 66 "_law_brackets" ["_law_pen_here", "_law_first", "_law_last"] G S_l_brackets) {f : Addr} {fd : FuncData} (F : Fun K "law" "law" (top 30) f fd) : FnG P w K mg base 71 f fd ["_law_script"] (spD G 1 S_law_k18) := by
  subst gK
  have sc := sc_law_k18
  refine fnG_of (k := 70) F sc rfl (fun _ => rfl) fun cdv A outer s H vs E hg hr => ?_
  unfold b_law_k18
  exact (ss_cons (ss_for (ws := [1]) (passes_of rfl) rfl (si_rng1 T.n_range (se_callB (call_max2 rfl) (ok_max2 _) T.n_max bt_max (sa_cons (so_ev se_int) (sa_cons (so_ev (se_callB (call_min2 rfl) (ok_min2 _) T.n_min bt_min (sa_cons (so_ev se_int) (sa_cons (so_ev (se_lenA T.n_len (so_pk (pv 0)))) sa_nil)))) sa_nil)))) (sg_name sc.nd (i := 1) rfl (by first | exact Or.inl rfl | exact Or.inr rfl)) (calm_name 1) (ss_cons (ss_set (i := 2) sc.nd rfl (by first | exact Or.inl rfl | exact Or.inr rfl) (se_callC c_pen (hr.mono (by omega)) (takes_of rfl rfl rfl rfl) hg (sa_cons (so_ev (se_var (pv 0))) (sa_cons (so_ev (se_var (pv 1))) sa_nil))))
    (ss_cons (ss_set (i := 3) sc.nd rfl (by first | exact Or.inl rfl | exact Or.inr rfl) (se_callC c_l_boxes (hr.mono (by omega)) (takes_of rfl rfl rfl rfl) hg (sa_cons (so_pk (pv 2)) (sa_cons (so_ev (se_va (se_callC c_l_sizes (hr.mono (by omega)) (takes_of rfl rfl rfl rfl) hg (sa_cons (so_pk (pv 2)) sa_nil)))) sa_nil))))
    (ss_one (ss_for (ws := [4]) (passes_of rfl) rfl (si_rng1 T.n_range se_int) (sg_name sc.nd (i := 4) rfl (by first | exact Or.inl rfl | exact Or.inr rfl)) (calm_name 4) (ss_one (ss_if (st_not (st_tru (se_va (se_callC c_l_right_2 (hr.mono (by omega)) (takes_of rfl rfl rfl rfl) hg (sa_cons (so_ev (se_var (pv 3))) (sa_cons (so_ev (se_va (se_callC c_l_brackets (hr.mono (by omega)) (takes_of rfl rfl rfl rfl) hg (sa_cons (so_pk (pv 2)) (sa_cons (so_ev se_int) (sa_cons (so_ev (se_sub (so_ev (se_lenA T.n_len (so_pk (pv 3)))) (so_ev se_int))) sa_nil)))))) sa_nil)))))) (ss_one (ss_ret (sa_sh se_bl))) ss_nil)))))))
  (ss_one (ss_ret (sa_sh se_bl))))
end
def Gl0 (K : PySem.W.Frag) (cs : List Addr) : Glb := ⟨K, fun _ => default, fun c => cs.getD c 0, fun c => ([[], [], ["place"], [], [], [], [], [], [], [], [], []] : List (List Str)).getD c []⟩
theorem all_mk {l : PySem.W.OpenLaw} {w : World} {K : PySem.W.Frag} {h : Heap} {mg : Str → Option Value} {fa : Addr} (pl : ∀ ns : List Int, ns.length ≤ 63 → ∃ o, S_law_k18 [.sh (.scr ns)] = .ok (.sh (.bl true)) o) (X : K.In h) (G : h.Ns mainGlobals mg) (hfa : mg "law" = some (.ref fa)) {C_ProductError : Addr} {C_NoFit : Addr} {C_NoRow : Addr} {C_NoBrackets : Addr} {f_iNoFit : Addr} {od_iNoFit an_iNoFit : Option Addr} {sl_iNoFit : Array (Option Value)} {oc_iNoFit kV_iNoFit dc_iNoFit pm_iNoFit cd_iNoFit ct_iNoFit : Value} {f_pen : Addr} {od_pen an_pen : Option Addr} {sl_pen : Array (Option Value)} {oc_pen kV_pen dc_pen pm_pen cd_pen ct_pen : Value} {f_draw : Addr} {od_draw an_draw : Option Addr} {sl_draw : Array (Option Value)} {oc_draw kV_draw dc_draw pm_draw cd_draw ct_draw : Value} {f_l_number : Addr} {od_l_number an_l_number : Option Addr} {sl_l_number : Array (Option Value)} {oc_l_number kV_l_number dc_l_number pm_l_number cd_l_number ct_l_number : Value} {f_l_boxes : Addr} {od_l_boxes an_l_boxes : Option Addr} {sl_l_boxes : Array (Option Value)} {oc_l_boxes kV_l_boxes dc_l_boxes pm_l_boxes cd_l_boxes ct_l_boxes : Value} {f_l_sizes : Addr} {od_l_sizes an_l_sizes : Option Addr} {sl_l_sizes : Array (Option Value)} {oc_l_sizes kV_l_sizes dc_l_sizes pm_l_sizes cd_l_sizes ct_l_sizes : Value} {f_l_times_2 : Addr} {od_l_times_2 an_l_times_2 : Option Addr} {sl_l_times_2 : Array (Option Value)} {oc_l_times_2 kV_l_times_2 dc_l_times_2 pm_l_times_2 cd_l_times_2 ct_l_times_2 : Value} {f_l_run : Addr} {od_l_run an_l_run : Option Addr} {sl_l_run : Array (Option Value)} {oc_l_run kV_l_run dc_l_run pm_l_run cd_l_run ct_l_run : Value} {f_row_of_boxes : Addr} {od_row_of_boxes an_row_of_boxes : Option Addr} {sl_row_of_boxes : Array (Option Value)} {oc_row_of_boxes kV_row_of_boxes dc_row_of_boxes pm_row_of_boxes cd_row_of_boxes ct_row_of_boxes : Value} {f_is_whole : Addr} {od_is_whole an_is_whole : Option Addr} {sl_is_whole : Array (Option Value)} {oc_is_whole kV_is_whole dc_is_whole pm_is_whole cd_is_whole ct_is_whole : Value} {f_span_of : Addr} {od_span_of an_span_of : Option Addr} {sl_span_of : Array (Option Value)} {oc_span_of kV_span_of dc_span_of pm_span_of cd_span_of ct_span_of : Value} {f_is_brackets : Addr} {od_is_brackets an_is_brackets : Option Addr} {sl_is_brackets : Array (Option Value)} {oc_is_brackets kV_is_brackets dc_is_brackets pm_is_brackets cd_is_brackets ct_is_brackets : Value} {f_need_brackets : Addr} {od_need_brackets an_need_brackets : Option Addr} {sl_need_brackets : Array (Option Value)} {oc_need_brackets kV_need_brackets dc_need_brackets pm_need_brackets cd_need_brackets ct_need_brackets : Value} {f_turned_box : Addr} {od_turned_box an_turned_box : Option Addr} {sl_turned_box : Array (Option Value)} {oc_turned_box kV_turned_box dc_turned_box pm_turned_box cd_turned_box ct_turned_box : Value} {f_times : Addr} {od_times an_times : Option Addr} {sl_times : Array (Option Value)} {oc_times kV_times dc_times pm_times cd_times ct_times : Value} {f_many_between : Addr} {od_many_between an_many_between : Option Addr} {sl_many_between : Array (Option Value)} {oc_many_between kV_many_between dc_many_between pm_many_between cd_many_between ct_many_between : Value} {f_run_part : Addr} {od_run_part an_run_part : Option Addr} {sl_run_part : Array (Option Value)} {oc_run_part kV_run_part dc_run_part pm_run_part cd_run_part ct_run_part : Value} {f_run : Addr} {od_run an_run : Option Addr} {sl_run : Array (Option Value)} {oc_run kV_run dc_run pm_run cd_run ct_run : Value} {f_l_right_2 : Addr} {od_l_right_2 an_l_right_2 : Option Addr} {sl_l_right_2 : Array (Option Value)} {oc_l_right_2 kV_l_right_2 dc_l_right_2 pm_l_right_2 cd_l_right_2 ct_l_right_2 : Value} {f_l_brackets : Addr} {od_l_brackets an_l_brackets : Option Addr} {sl_l_brackets : Array (Option Value)} {oc_l_brackets kV_l_brackets dc_l_brackets pm_l_brackets cd_l_brackets ct_l_brackets : Value} {f_law_k18 : Addr} {od_law_k18 an_law_k18 : Option Addr} {sl_law_k18 : Array (Option Value)} {oc_law_k18 kV_law_k18 dc_law_k18 pm_law_k18 cd_law_k18 ct_law_k18 : Value} {t_MOST_BOXES : Tok}
    (a_pen : PySem.W.nsIn K mainGlobals "_law_pen" = some (some (.ref f_pen))) (l_pen : K.lookup f_pen = some ⟨oc_pen, od_pen, .func (PySem.W.fnOf "_law_pen" "_law_pen" (defArgs (top 21)) (defBody (top 21)) (defScope (top 21)) .none kV_pen dc_pen pm_pen an_pen cd_pen ct_pen), sl_pen⟩) (q_pen : PySem.W.codeIn K cd_pen "_law_pen" = true) (k_pen : PySem.W.keepIn K (.ref f_pen) = true)
    (a_draw : PySem.W.nsIn K mainGlobals "_law_draw" = some (some (.ref f_draw))) (l_draw : K.lookup f_draw = some ⟨oc_draw, od_draw, .func (PySem.W.fnOf "_law_draw" "_law_draw" (defArgs (top 22)) (defBody (top 22)) (defScope (top 22)) .none kV_draw dc_draw pm_draw an_draw cd_draw ct_draw), sl_draw⟩) (q_draw : PySem.W.codeIn K cd_draw "_law_draw" = true) (k_draw : PySem.W.keepIn K (.ref f_draw) = true)
    (a_l_number : PySem.W.nsIn K mainGlobals "_law_number" = some (some (.ref f_l_number))) (l_l_number : K.lookup f_l_number = some ⟨oc_l_number, od_l_number, .func (PySem.W.fnOf "_law_number" "_law_number" (defArgs (top 23)) (defBody (top 23)) (defScope (top 23)) .none kV_l_number dc_l_number pm_l_number an_l_number cd_l_number ct_l_number), sl_l_number⟩) (q_l_number : PySem.W.codeIn K cd_l_number "_law_number" = true) (k_l_number : PySem.W.keepIn K (.ref f_l_number) = true)
    (a_l_boxes : PySem.W.nsIn K mainGlobals "_law_boxes" = some (some (.ref f_l_boxes))) (l_l_boxes : K.lookup f_l_boxes = some ⟨oc_l_boxes, od_l_boxes, .func (PySem.W.fnOf "_law_boxes" "_law_boxes" (defArgs (top 25)) (defBody (top 25)) (defScope (top 25)) .none kV_l_boxes dc_l_boxes pm_l_boxes an_l_boxes cd_l_boxes ct_l_boxes), sl_l_boxes⟩) (q_l_boxes : PySem.W.codeIn K cd_l_boxes "_law_boxes" = true) (k_l_boxes : PySem.W.keepIn K (.ref f_l_boxes) = true)
    (a_l_sizes : PySem.W.nsIn K mainGlobals "_law_sizes" = some (some (.ref f_l_sizes))) (l_l_sizes : K.lookup f_l_sizes = some ⟨oc_l_sizes, od_l_sizes, .func (PySem.W.fnOf "_law_sizes" "_law_sizes" (defArgs (top 24)) (defBody (top 24)) (defScope (top 24)) .none kV_l_sizes dc_l_sizes pm_l_sizes an_l_sizes cd_l_sizes ct_l_sizes), sl_l_sizes⟩) (q_l_sizes : PySem.W.codeIn K cd_l_sizes "_law_sizes" = true) (k_l_sizes : PySem.W.keepIn K (.ref f_l_sizes) = true)
    (a_l_times_2 : PySem.W.nsIn K mainGlobals "_law_times" = some (some (.ref f_l_times_2))) (l_l_times_2 : K.lookup f_l_times_2 = some ⟨oc_l_times_2, od_l_times_2, .func (PySem.W.fnOf "_law_times" "_law_times" (defArgs (top 27)) (defBody (top 27)) (defScope (top 27)) .none kV_l_times_2 dc_l_times_2 pm_l_times_2 an_l_times_2 cd_l_times_2 ct_l_times_2), sl_l_times_2⟩) (q_l_times_2 : PySem.W.codeIn K cd_l_times_2 "_law_times" = true) (k_l_times_2 : PySem.W.keepIn K (.ref f_l_times_2) = true)
    (a_l_run : PySem.W.nsIn K mainGlobals "_law_run" = some (some (.ref f_l_run))) (l_l_run : K.lookup f_l_run = some ⟨oc_l_run, od_l_run, .func (PySem.W.fnOf "_law_run" "_law_run" (defArgs (top 28)) (defBody (top 28)) (defScope (top 28)) .none kV_l_run dc_l_run pm_l_run an_l_run cd_l_run ct_l_run), sl_l_run⟩) (q_l_run : PySem.W.codeIn K cd_l_run "_law_run" = true) (k_l_run : PySem.W.keepIn K (.ref f_l_run) = true)
    (a_row_of_boxes : PySem.W.nsIn K mainGlobals "row_of_boxes" = some (some (.ref f_row_of_boxes))) (l_row_of_boxes : K.lookup f_row_of_boxes = some ⟨oc_row_of_boxes, od_row_of_boxes, .func (PySem.W.fnOf "row_of_boxes" "row_of_boxes" (defArgs (top 15)) (defBody (top 15)) (defScope (top 15)) .none kV_row_of_boxes dc_row_of_boxes pm_row_of_boxes an_row_of_boxes cd_row_of_boxes ct_row_of_boxes), sl_row_of_boxes⟩) (q_row_of_boxes : PySem.W.codeIn K cd_row_of_boxes "row_of_boxes" = true) (k_row_of_boxes : PySem.W.keepIn K (.ref f_row_of_boxes) = true)
    (a_is_whole : PySem.W.nsIn K mainGlobals "is_whole" = some (some (.ref f_is_whole))) (l_is_whole : K.lookup f_is_whole = some ⟨oc_is_whole, od_is_whole, .func (PySem.W.fnOf "is_whole" "is_whole" (defArgs (top 6)) (defBody (top 6)) (defScope (top 6)) .none kV_is_whole dc_is_whole pm_is_whole an_is_whole cd_is_whole ct_is_whole), sl_is_whole⟩) (q_is_whole : PySem.W.codeIn K cd_is_whole "is_whole" = true) (k_is_whole : PySem.W.keepIn K (.ref f_is_whole) = true)
    (a_span_of : PySem.W.nsIn K mainGlobals "span_of" = some (some (.ref f_span_of))) (l_span_of : K.lookup f_span_of = some ⟨oc_span_of, od_span_of, .func (PySem.W.fnOf "span_of" "span_of" (defArgs (top 10)) (defBody (top 10)) (defScope (top 10)) .none kV_span_of dc_span_of pm_span_of an_span_of cd_span_of ct_span_of), sl_span_of⟩) (q_span_of : PySem.W.codeIn K cd_span_of "span_of" = true) (k_span_of : PySem.W.keepIn K (.ref f_span_of) = true)
    (a_is_brackets : PySem.W.nsIn K mainGlobals "is_brackets" = some (some (.ref f_is_brackets))) (l_is_brackets : K.lookup f_is_brackets = some ⟨oc_is_brackets, od_is_brackets, .func (PySem.W.fnOf "is_brackets" "is_brackets" (defArgs (top 11)) (defBody (top 11)) (defScope (top 11)) .none kV_is_brackets dc_is_brackets pm_is_brackets an_is_brackets cd_is_brackets ct_is_brackets), sl_is_brackets⟩) (q_is_brackets : PySem.W.codeIn K cd_is_brackets "is_brackets" = true) (k_is_brackets : PySem.W.keepIn K (.ref f_is_brackets) = true)
    (a_need_brackets : PySem.W.nsIn K mainGlobals "need_brackets" = some (some (.ref f_need_brackets))) (l_need_brackets : K.lookup f_need_brackets = some ⟨oc_need_brackets, od_need_brackets, .func (PySem.W.fnOf "need_brackets" "need_brackets" (defArgs (top 12)) (defBody (top 12)) (defScope (top 12)) .none kV_need_brackets dc_need_brackets pm_need_brackets an_need_brackets cd_need_brackets ct_need_brackets), sl_need_brackets⟩) (q_need_brackets : PySem.W.codeIn K cd_need_brackets "need_brackets" = true) (k_need_brackets : PySem.W.keepIn K (.ref f_need_brackets) = true)
    (a_turned_box : PySem.W.nsIn K mainGlobals "turned_box" = some (some (.ref f_turned_box))) (l_turned_box : K.lookup f_turned_box = some ⟨oc_turned_box, od_turned_box, .func (PySem.W.fnOf "turned_box" "turned_box" (defArgs (top 7)) (defBody (top 7)) (defScope (top 7)) .none kV_turned_box dc_turned_box pm_turned_box an_turned_box cd_turned_box ct_turned_box), sl_turned_box⟩) (q_turned_box : PySem.W.codeIn K cd_turned_box "turned_box" = true) (k_turned_box : PySem.W.keepIn K (.ref f_turned_box) = true)
    (a_times : PySem.W.nsIn K mainGlobals "times" = some (some (.ref f_times))) (l_times : K.lookup f_times = some ⟨oc_times, od_times, .func (PySem.W.fnOf "times" "times" (defArgs (top 8)) (defBody (top 8)) (defScope (top 8)) .none kV_times dc_times pm_times an_times cd_times ct_times), sl_times⟩) (q_times : PySem.W.codeIn K cd_times "times" = true) (k_times : PySem.W.keepIn K (.ref f_times) = true)
    (a_many_between : PySem.W.nsIn K mainGlobals "many_between" = some (some (.ref f_many_between))) (l_many_between : K.lookup f_many_between = some ⟨oc_many_between, od_many_between, .func (PySem.W.fnOf "many_between" "many_between" (defArgs (top 17)) (defBody (top 17)) (defScope (top 17)) .none kV_many_between dc_many_between pm_many_between an_many_between cd_many_between ct_many_between), sl_many_between⟩) (q_many_between : PySem.W.codeIn K cd_many_between "many_between" = true) (k_many_between : PySem.W.keepIn K (.ref f_many_between) = true)
    (a_run_part : PySem.W.nsIn K mainGlobals "run_part" = some (some (.ref f_run_part))) (l_run_part : K.lookup f_run_part = some ⟨oc_run_part, od_run_part, .func (PySem.W.fnOf "run_part" "run_part" (defArgs (top 18)) (defBody (top 18)) (defScope (top 18)) .none kV_run_part dc_run_part pm_run_part an_run_part cd_run_part ct_run_part), sl_run_part⟩) (q_run_part : PySem.W.codeIn K cd_run_part "run_part" = true) (k_run_part : PySem.W.keepIn K (.ref f_run_part) = true)
    (a_run : PySem.W.nsIn K mainGlobals "run" = some (some (.ref f_run))) (l_run : K.lookup f_run = some ⟨oc_run, od_run, .func (PySem.W.fnOf "run" "run" (defArgs (top 19)) (defBody (top 19)) (defScope (top 19)) .none kV_run dc_run pm_run an_run cd_run ct_run), sl_run⟩) (q_run : PySem.W.codeIn K cd_run "run" = true) (k_run : PySem.W.keepIn K (.ref f_run) = true)
    (a_l_right_2 : PySem.W.nsIn K mainGlobals "_law_right" = some (some (.ref f_l_right_2))) (l_l_right_2 : K.lookup f_l_right_2 = some ⟨oc_l_right_2, od_l_right_2, .func (PySem.W.fnOf "_law_right" "_law_right" (defArgs (top 29)) (defBody (top 29)) (defScope (top 29)) .none kV_l_right_2 dc_l_right_2 pm_l_right_2 an_l_right_2 cd_l_right_2 ct_l_right_2), sl_l_right_2⟩) (q_l_right_2 : PySem.W.codeIn K cd_l_right_2 "_law_right" = true) (k_l_right_2 : PySem.W.keepIn K (.ref f_l_right_2) = true)
    (a_l_brackets : PySem.W.nsIn K mainGlobals "_law_brackets" = some (some (.ref f_l_brackets))) (l_l_brackets : K.lookup f_l_brackets = some ⟨oc_l_brackets, od_l_brackets, .func (PySem.W.fnOf "_law_brackets" "_law_brackets" (defArgs (top 26)) (defBody (top 26)) (defScope (top 26)) .none kV_l_brackets dc_l_brackets pm_l_brackets an_l_brackets cd_l_brackets ct_l_brackets), sl_l_brackets⟩) (q_l_brackets : PySem.W.codeIn K cd_l_brackets "_law_brackets" = true) (k_l_brackets : PySem.W.keepIn K (.ref f_l_brackets) = true)
    (a_law_k18 : PySem.W.nsIn K mainGlobals "law" = some (some (.ref f_law_k18))) (l_law_k18 : K.lookup f_law_k18 = some ⟨oc_law_k18, od_law_k18, .func (PySem.W.fnOf "law" "law" (defArgs (top 30)) (defBody (top 30)) (defScope (top 30)) .none kV_law_k18 dc_law_k18 pm_law_k18 an_law_k18 cd_law_k18 ct_law_k18), sl_law_k18⟩) (q_law_k18 : PySem.W.codeIn K cd_law_k18 "law" = true) (k_law_k18 : PySem.W.keepIn K (.ref f_law_k18) = true)
    (z_abs : PySem.W.nsIn K mainGlobals "abs" = some none)
    (z_bool : PySem.W.nsIn K mainGlobals "bool" = some none)
    (z_int : PySem.W.nsIn K mainGlobals "int" = some none)
    (z_isinstance : PySem.W.nsIn K mainGlobals "isinstance" = some none)
    (z_len : PySem.W.nsIn K mainGlobals "len" = some none)
    (z_list : PySem.W.nsIn K mainGlobals "list" = some none)
    (z_max : PySem.W.nsIn K mainGlobals "max" = some none)
    (z_min : PySem.W.nsIn K mainGlobals "min" = some none)
    (z_range : PySem.W.nsIn K mainGlobals "range" = some none)
    (z_repr : PySem.W.nsIn K mainGlobals "repr" = some none)
    (z_sum : PySem.W.nsIn K mainGlobals "sum" = some none)
    (z_tuple : PySem.W.nsIn K mainGlobals "tuple" = some none)
    (z_zip : PySem.W.nsIn K mainGlobals "zip" = some none)
    (g_MOST_BOXES : PySem.W.nsIn K mainGlobals "MOST_BOXES" = some (some (.int (12) t_MOST_BOXES)))
    (ac_ProductError : PySem.W.nsIn K mainGlobals "ProductError" = some (some (.ref C_ProductError)))
    (ac_NoFit : PySem.W.nsIn K mainGlobals "NoFit" = some (some (.ref C_NoFit)))
    (ac_NoRow : PySem.W.nsIn K mainGlobals "NoRow" = some (some (.ref C_NoRow)))
    (ac_NoBrackets : PySem.W.nsIn K mainGlobals "NoBrackets" = some (some (.ref C_NoBrackets)))
    (tb : excTab K [C_ProductError, C_NoFit, C_NoRow, C_NoBrackets] = true)
    (xi_NoBrackets : PySem.W.excIn K C_NoBrackets [.type "ValueError", .type "Exception", .type "BaseException", .type "object"] "ValueError.__new__" = true)
    (xi_NoRow : PySem.W.excIn K C_NoRow [.type "ValueError", .type "Exception", .type "BaseException", .type "object"] "ValueError.__new__" = true)
    (no_NoFit : PySem.W.findIn K (.ref C_NoFit) "place" = some none)
    (b1 : PySem.W.specialIn K (.ref C_ProductError) "__getattribute__" = some (some (.builtin "type.__getattribute__"))) (b2 : PySem.W.readsIn K C_ProductError (.type "type") = true) (b3 : PySem.W.findCls K (.ref C_ProductError) (.type "type") "__init__" = some (.val (.builtin "ValueError.__init__")))
    (ox_NoFit : oexB K C_NoFit = true) (ii_NoFit : PySem.W.findIn K (.ref C_NoFit) "__init__" = some (some (.ref f_iNoFit))) (ti_NoFit : PySem.W.typeIn K (.ref f_iNoFit) = some (.type "function")) (li_NoFit : K.lookup f_iNoFit = some ⟨oc_iNoFit, od_iNoFit, .func (PySem.W.fnOf "__init__" "NoFit.__init__" (defArgs (clsStmt (top 2) 0)) (defBody (clsStmt (top 2) 0)) (defScope (clsStmt (top 2) 0)) .none kV_iNoFit dc_iNoFit pm_iNoFit an_iNoFit cd_iNoFit ct_iNoFit), sl_iNoFit⟩) (qi_NoFit : PySem.W.codeIn K cd_iNoFit "NoFit.__init__" = true) (ki_NoFit : PySem.W.keepIn K (.ref f_iNoFit) = true) :
    ∃ (fd : FuncData) (G : Glb) (S : List Sl → FR), G.K = K ∧ (∀ (s : Shared) (u : Value), BindsTo s fd ⟨[u], []⟩ [("_law_script", u)]) ∧
      (∀ base : Heap, K.In base → base.Ns mainGlobals mg → FnG l.prog w K mg base 71 fa fd ["_law_script"] (spD G 1 S)) ∧ ∀ ns : List Int, ns.length ≤ 63 → ∃ o, S [.sh (.scr ns)] = .ok (.sh (.bl true)) o := by
  have e := hfa.symm.trans (PySem.W.mg_of X G a_law_k18)
  cases e
  have T : Txt mg := ⟨PySem.W.mg_none_of X G z_abs, PySem.W.mg_none_of X G z_bool, PySem.W.mg_none_of X G z_int, PySem.W.mg_none_of X G z_isinstance, PySem.W.mg_none_of X G z_len, PySem.W.mg_none_of X G z_list, PySem.W.mg_none_of X G z_max, PySem.W.mg_none_of X G z_min, PySem.W.mg_none_of X G z_range, PySem.W.mg_none_of X G z_repr, PySem.W.mg_none_of X G z_sum, PySem.W.mg_none_of X G z_tuple, PySem.W.mg_none_of X G z_zip, ⟨_, PySem.W.mg_of X G g_MOST_BOXES⟩⟩
  refine ⟨PySem.W.fnOf "law" "law" (defArgs (top 30)) (defBody (top 30)) (defScope (top 30)) .none kV_law_k18 dc_law_k18 pm_law_k18 an_law_k18 cd_law_k18 ct_law_k18, (Gl0 K [C_ProductError, 0, C_NoFit, C_NoRow, C_NoBrackets, 0, 0, 0, 0, 0, 0, 0]), S_law_k18, rfl, fun s v => .of_eq rfl, fun base kb gb => ?_, pl⟩
  have xs := (excTab_ok (G := ⟨K, fun _ => default, fun c => ([C_ProductError, C_NoFit, C_NoRow, C_NoBrackets] : List Addr).getD c 0, fun _ => []⟩) (cs := [C_ProductError, C_NoFit, C_NoRow, C_NoBrackets]) (fun _ => rfl) tb).2.1
  have Fi_NoFit := fun_mk (st := (clsStmt (top 2) 0)) li_NoFit qi_NoFit ki_NoFit
  have bi_NoFit := Fi_NoFit.binds (ps := ["self", "place"]) (fun _ _ _ _ _ _ us hl => match us, hl with | [_, _], _ => rfl)
  have Ex : Exc l.prog w mg base (Gl0 K [C_ProductError, 0, C_NoFit, C_NoRow, C_NoBrackets, 0, 0, 0, 0, 0, 0, 0]) := { n_ProductError := PySem.W.mg_of X G ac_ProductError, n_NoFit := PySem.W.mg_of X G ac_NoFit, n_NoRow := PySem.W.mg_of X G ac_NoRow, n_NoBrackets := PySem.W.mg_of X G ac_NoBrackets, r_NoBrackets := ⟨(xs 3 (by show 3 < 4; decide)), xi_NoBrackets⟩, r_NoRow := ⟨(xs 2 (by show 2 < 4; decide)), xi_NoRow⟩, i_NoFit := ⟨oexB_ok (xs 1 (by show 1 < 4; decide)) ox_NoFit, no_NoFit, rfl, f_iNoFit, _, "self", "place", ii_NoFit, ti_NoFit, ini_NoFit (G := (Gl0 K [C_ProductError, 0, C_NoFit, C_NoRow, C_NoBrackets, 0, 0, 0, 0, 0, 0, 0])) Fi_NoFit ⟨b1, b2, b3⟩ (PySem.W.mg_of X G ac_ProductError), bi_NoFit⟩ }
  have F_pen := fun_mk (st := top 21) l_pen q_pen k_pen
  have b_pen := F_pen.binds (ps := ["_law_script", "_law_k"]) (fun _ _ _ _ _ _ us hl => match us, hl with | [_, _], _ => rfl)
  have c_pen : Cal l.prog w K mg base 1 "_law_pen" ["_law_script", "_law_k"] (Gl0 K [C_ProductError, 0, C_NoFit, C_NoRow, C_NoBrackets, 0, 0, 0, 0, 0, 0, 0]) S_pen := ⟨f_pen, _, ok_pen (G := (Gl0 K [C_ProductError, 0, C_NoFit, C_NoRow, C_NoBrackets, 0, 0, 0, 0, 0, 0, 0])) (K := K) rfl T Ex  F_pen, b_pen, PySem.W.mg_of X G a_pen, k_pen⟩
  have F_draw := fun_mk (st := top 22) l_draw q_draw k_draw
  have b_draw := F_draw.binds (ps := ["_law_pen_here", "_law_size"]) (fun _ _ _ _ _ _ us hl => match us, hl with | [_, _], _ => rfl)
  have c_draw : Cal l.prog w K mg base 1 "_law_draw" ["_law_pen_here", "_law_size"] (Gl0 K [C_ProductError, 0, C_NoFit, C_NoRow, C_NoBrackets, 0, 0, 0, 0, 0, 0, 0]) S_draw := ⟨f_draw, _, ok_draw (G := (Gl0 K [C_ProductError, 0, C_NoFit, C_NoRow, C_NoBrackets, 0, 0, 0, 0, 0, 0, 0])) (K := K) rfl T Ex  F_draw, b_draw, PySem.W.mg_of X G a_draw, k_draw⟩
  have F_l_number := fun_mk (st := top 23) l_l_number q_l_number k_l_number
  have b_l_number := F_l_number.binds (ps := ["_law_pen_here"]) (fun _ _ _ _ _ _ us hl => match us, hl with | [_], _ => rfl)
  have c_l_number : Cal l.prog w K mg base 2 "_law_number" ["_law_pen_here"] (Gl0 K [C_ProductError, 0, C_NoFit, C_NoRow, C_NoBrackets, 0, 0, 0, 0, 0, 0, 0]) S_l_number := ⟨f_l_number, _, ok_l_number (G := (Gl0 K [C_ProductError, 0, C_NoFit, C_NoRow, C_NoBrackets, 0, 0, 0, 0, 0, 0, 0])) (K := K) rfl T Ex c_draw F_l_number, b_l_number, PySem.W.mg_of X G a_l_number, k_l_number⟩
  have F_l_boxes := fun_mk (st := top 25) l_l_boxes q_l_boxes k_l_boxes
  have b_l_boxes := F_l_boxes.binds (ps := ["_law_pen_here", "_law_sizes_here"]) (fun _ _ _ _ _ _ us hl => match us, hl with | [_, _], _ => rfl)
  have c_l_boxes : Cal l.prog w K mg base 3 "_law_boxes" ["_law_pen_here", "_law_sizes_here"] (Gl0 K [C_ProductError, 0, C_NoFit, C_NoRow, C_NoBrackets, 0, 0, 0, 0, 0, 0, 0]) S_l_boxes := ⟨f_l_boxes, _, ok_l_boxes (G := (Gl0 K [C_ProductError, 0, C_NoFit, C_NoRow, C_NoBrackets, 0, 0, 0, 0, 0, 0, 0])) (K := K) rfl T Ex c_l_number F_l_boxes, b_l_boxes, PySem.W.mg_of X G a_l_boxes, k_l_boxes⟩
  have F_l_sizes := fun_mk (st := top 24) l_l_sizes q_l_sizes k_l_sizes
  have b_l_sizes := F_l_sizes.binds (ps := ["_law_pen_here"]) (fun _ _ _ _ _ _ us hl => match us, hl with | [_], _ => rfl)
  have c_l_sizes : Cal l.prog w K mg base 2 "_law_sizes" ["_law_pen_here"] (Gl0 K [C_ProductError, 0, C_NoFit, C_NoRow, C_NoBrackets, 0, 0, 0, 0, 0, 0, 0]) S_l_sizes := ⟨f_l_sizes, _, ok_l_sizes (G := (Gl0 K [C_ProductError, 0, C_NoFit, C_NoRow, C_NoBrackets, 0, 0, 0, 0, 0, 0, 0])) (K := K) rfl T Ex c_draw F_l_sizes, b_l_sizes, PySem.W.mg_of X G a_l_sizes, k_l_sizes⟩
  have F_l_times_2 := fun_mk (st := top 27) l_l_times_2 q_l_times_2 k_l_times_2
  have b_l_times_2 := F_l_times_2.binds (ps := ["_law_one", "_law_other"]) (fun _ _ _ _ _ _ us hl => match us, hl with | [_, _], _ => rfl)
  have c_l_times_2 : Cal l.prog w K mg base 1 "_law_times" ["_law_one", "_law_other"] (Gl0 K [C_ProductError, 0, C_NoFit, C_NoRow, C_NoBrackets, 0, 0, 0, 0, 0, 0, 0]) S_l_times_2 := ⟨f_l_times_2, _, ok_l_times_2 (G := (Gl0 K [C_ProductError, 0, C_NoFit, C_NoRow, C_NoBrackets, 0, 0, 0, 0, 0, 0, 0])) (K := K) rfl T Ex  F_l_times_2, b_l_times_2, PySem.W.mg_of X G a_l_times_2, k_l_times_2⟩
  have F_l_run := fun_mk (st := top 28) l_l_run q_l_run k_l_run
  have b_l_run := F_l_run.binds (ps := ["_law_grids", "_law_part"]) (fun _ _ _ _ _ _ us hl => match us, hl with | [_, _], _ => rfl)
  have c_l_run : Cal l.prog w K mg base 66 "_law_run" ["_law_grids", "_law_part"] (Gl0 K [C_ProductError, 0, C_NoFit, C_NoRow, C_NoBrackets, 0, 0, 0, 0, 0, 0, 0]) S_l_run := ⟨f_l_run, _, ok_l_run (G := (Gl0 K [C_ProductError, 0, C_NoFit, C_NoRow, C_NoBrackets, 0, 0, 0, 0, 0, 0, 0])) (K := K) rfl T Ex c_l_times_2 F_l_run b_l_run (PySem.W.mg_of X G a_l_run) k_l_run 64, b_l_run, PySem.W.mg_of X G a_l_run, k_l_run⟩
  have F_row_of_boxes := fun_mk (st := top 15) l_row_of_boxes q_row_of_boxes k_row_of_boxes
  have b_row_of_boxes := F_row_of_boxes.binds (ps := ["boxes"]) (fun _ _ _ _ _ _ us hl => match us, hl with | [_], _ => rfl)
  have c_row_of_boxes : Cal l.prog w K mg base 3 "row_of_boxes" ["boxes"] (Gl0 K [C_ProductError, 0, C_NoFit, C_NoRow, C_NoBrackets, 0, 0, 0, 0, 0, 0, 0]) S_row_of_boxes := ⟨f_row_of_boxes, _, ok_row_of_boxes (G := (Gl0 K [C_ProductError, 0, C_NoFit, C_NoRow, C_NoBrackets, 0, 0, 0, 0, 0, 0, 0])) (K := K) rfl T Ex  F_row_of_boxes, b_row_of_boxes, PySem.W.mg_of X G a_row_of_boxes, k_row_of_boxes⟩
  have F_is_whole := fun_mk (st := top 6) l_is_whole q_is_whole k_is_whole
  have b_is_whole := F_is_whole.binds (ps := ["thing"]) (fun _ _ _ _ _ _ us hl => match us, hl with | [_], _ => rfl)
  have c_is_whole : Cal l.prog w K mg base 1 "is_whole" ["thing"] (Gl0 K [C_ProductError, 0, C_NoFit, C_NoRow, C_NoBrackets, 0, 0, 0, 0, 0, 0, 0]) S_is_whole := ⟨f_is_whole, _, ok_is_whole (G := (Gl0 K [C_ProductError, 0, C_NoFit, C_NoRow, C_NoBrackets, 0, 0, 0, 0, 0, 0, 0])) (K := K) rfl T Ex  F_is_whole, b_is_whole, PySem.W.mg_of X G a_is_whole, k_is_whole⟩
  have F_span_of := fun_mk (st := top 10) l_span_of q_span_of k_span_of
  have b_span_of := F_span_of.binds (ps := ["thing"]) (fun _ _ _ _ _ _ us hl => match us, hl with | [_], _ => rfl)
  have c_span_of : Cal l.prog w K mg base 66 "span_of" ["thing"] (Gl0 K [C_ProductError, 0, C_NoFit, C_NoRow, C_NoBrackets, 0, 0, 0, 0, 0, 0, 0]) S_span_of := ⟨f_span_of, _, ok_span_of (G := (Gl0 K [C_ProductError, 0, C_NoFit, C_NoRow, C_NoBrackets, 0, 0, 0, 0, 0, 0, 0])) (K := K) rfl T Ex c_is_whole F_span_of b_span_of (PySem.W.mg_of X G a_span_of) k_span_of 64, b_span_of, PySem.W.mg_of X G a_span_of, k_span_of⟩
  have F_is_brackets := fun_mk (st := top 11) l_is_brackets q_is_brackets k_is_brackets
  have b_is_brackets := F_is_brackets.binds (ps := ["first", "last", "thing"]) (fun _ _ _ _ _ _ us hl => match us, hl with | [_, _, _], _ => rfl)
  have c_is_brackets : Cal l.prog w K mg base 67 "is_brackets" ["first", "last", "thing"] (Gl0 K [C_ProductError, 0, C_NoFit, C_NoRow, C_NoBrackets, 0, 0, 0, 0, 0, 0, 0]) S_is_brackets := ⟨f_is_brackets, _, ok_is_brackets (G := (Gl0 K [C_ProductError, 0, C_NoFit, C_NoRow, C_NoBrackets, 0, 0, 0, 0, 0, 0, 0])) (K := K) rfl T Ex c_span_of F_is_brackets, b_is_brackets, PySem.W.mg_of X G a_is_brackets, k_is_brackets⟩
  have F_need_brackets := fun_mk (st := top 12) l_need_brackets q_need_brackets k_need_brackets
  have b_need_brackets := F_need_brackets.binds (ps := ["last", "thing"]) (fun _ _ _ _ _ _ us hl => match us, hl with | [_, _], _ => rfl)
  have c_need_brackets : Cal l.prog w K mg base 68 "need_brackets" ["last", "thing"] (Gl0 K [C_ProductError, 0, C_NoFit, C_NoRow, C_NoBrackets, 0, 0, 0, 0, 0, 0, 0]) S_need_brackets := ⟨f_need_brackets, _, ok_need_brackets (G := (Gl0 K [C_ProductError, 0, C_NoFit, C_NoRow, C_NoBrackets, 0, 0, 0, 0, 0, 0, 0])) (K := K) rfl T Ex c_is_brackets F_need_brackets, b_need_brackets, PySem.W.mg_of X G a_need_brackets, k_need_brackets⟩
  have F_turned_box := fun_mk (st := top 7) l_turned_box q_turned_box k_turned_box
  have b_turned_box := F_turned_box.binds (ps := ["box"]) (fun _ _ _ _ _ _ us hl => match us, hl with | [_], _ => rfl)
  have c_turned_box : Cal l.prog w K mg base 1 "turned_box" ["box"] (Gl0 K [C_ProductError, 0, C_NoFit, C_NoRow, C_NoBrackets, 0, 0, 0, 0, 0, 0, 0]) S_turned_box := ⟨f_turned_box, _, ok_turned_box (G := (Gl0 K [C_ProductError, 0, C_NoFit, C_NoRow, C_NoBrackets, 0, 0, 0, 0, 0, 0, 0])) (K := K) rfl T Ex  F_turned_box, b_turned_box, PySem.W.mg_of X G a_turned_box, k_turned_box⟩
  have F_times := fun_mk (st := top 8) l_times q_times k_times
  have b_times := F_times.binds (ps := ["one", "other"]) (fun _ _ _ _ _ _ us hl => match us, hl with | [_, _], _ => rfl)
  have c_times : Cal l.prog w K mg base 3 "times" ["one", "other"] (Gl0 K [C_ProductError, 0, C_NoFit, C_NoRow, C_NoBrackets, 0, 0, 0, 0, 0, 0, 0]) S_times := ⟨f_times, _, ok_times (G := (Gl0 K [C_ProductError, 0, C_NoFit, C_NoRow, C_NoBrackets, 0, 0, 0, 0, 0, 0, 0])) (K := K) rfl T Ex c_turned_box F_times, b_times, PySem.W.mg_of X G a_times, k_times⟩
  have F_many_between := fun_mk (st := top 17) l_many_between q_many_between k_many_between
  have b_many_between := F_many_between.binds (ps := ["one", "other"]) (fun _ _ _ _ _ _ us hl => match us, hl with | [_, _], _ => rfl)
  have c_many_between : Cal l.prog w K mg base 1 "many_between" ["one", "other"] (Gl0 K [C_ProductError, 0, C_NoFit, C_NoRow, C_NoBrackets, 0, 0, 0, 0, 0, 0, 0]) S_many_between := ⟨f_many_between, _, ok_many_between (G := (Gl0 K [C_ProductError, 0, C_NoFit, C_NoRow, C_NoBrackets, 0, 0, 0, 0, 0, 0, 0])) (K := K) rfl T Ex  F_many_between, b_many_between, PySem.W.mg_of X G a_many_between, k_many_between⟩
  have F_run_part := fun_mk (st := top 18) l_run_part q_run_part k_run_part
  have b_run_part := F_run_part.binds (ps := ["boxes", "part", "steps"]) (fun _ _ _ _ _ _ us hl => match us, hl with | [_, _, _], _ => rfl)
  have c_run_part : Cal l.prog w K mg base 68 "run_part" ["boxes", "part", "steps"] (Gl0 K [C_ProductError, 0, C_NoFit, C_NoRow, C_NoBrackets, 0, 0, 0, 0, 0, 0, 0]) S_run_part := ⟨f_run_part, _, ok_run_part (G := (Gl0 K [C_ProductError, 0, C_NoFit, C_NoRow, C_NoBrackets, 0, 0, 0, 0, 0, 0, 0])) (K := K) rfl T Ex c_times c_many_between F_run_part b_run_part (PySem.W.mg_of X G a_run_part) k_run_part 64, b_run_part, PySem.W.mg_of X G a_run_part, k_run_part⟩
  have F_run := fun_mk (st := top 19) l_run q_run k_run
  have b_run := F_run.binds (ps := ["boxes", "brackets"]) (fun _ _ _ _ _ _ us hl => match us, hl with | [_, _], _ => rfl)
  have c_run : Cal l.prog w K mg base 69 "run" ["boxes", "brackets"] (Gl0 K [C_ProductError, 0, C_NoFit, C_NoRow, C_NoBrackets, 0, 0, 0, 0, 0, 0, 0]) S_run := ⟨f_run, _, ok_run (G := (Gl0 K [C_ProductError, 0, C_NoFit, C_NoRow, C_NoBrackets, 0, 0, 0, 0, 0, 0, 0])) (K := K) rfl T Ex c_row_of_boxes c_need_brackets c_run_part F_run, b_run, PySem.W.mg_of X G a_run, k_run⟩
  have F_l_right_2 := fun_mk (st := top 29) l_l_right_2 q_l_right_2 k_l_right_2
  have b_l_right_2 := F_l_right_2.binds (ps := ["_law_grids", "_law_knots"]) (fun _ _ _ _ _ _ us hl => match us, hl with | [_, _], _ => rfl)
  have c_l_right_2 : Cal l.prog w K mg base 70 "_law_right" ["_law_grids", "_law_knots"] (Gl0 K [C_ProductError, 0, C_NoFit, C_NoRow, C_NoBrackets, 0, 0, 0, 0, 0, 0, 0]) S_l_right_2 := ⟨f_l_right_2, _, ok_l_right_2 (G := (Gl0 K [C_ProductError, 0, C_NoFit, C_NoRow, C_NoBrackets, 0, 0, 0, 0, 0, 0, 0])) (K := K) rfl T Ex c_l_run c_run F_l_right_2, b_l_right_2, PySem.W.mg_of X G a_l_right_2, k_l_right_2⟩
  have F_l_brackets := fun_mk (st := top 26) l_l_brackets q_l_brackets k_l_brackets
  have b_l_brackets := F_l_brackets.binds (ps := ["_law_pen_here", "_law_first", "_law_last"]) (fun _ _ _ _ _ _ us hl => match us, hl with | [_, _, _], _ => rfl)
  have c_l_brackets : Cal l.prog w K mg base 66 "_law_brackets" ["_law_pen_here", "_law_first", "_law_last"] (Gl0 K [C_ProductError, 0, C_NoFit, C_NoRow, C_NoBrackets, 0, 0, 0, 0, 0, 0, 0]) S_l_brackets := ⟨f_l_brackets, _, ok_l_brackets (G := (Gl0 K [C_ProductError, 0, C_NoFit, C_NoRow, C_NoBrackets, 0, 0, 0, 0, 0, 0, 0])) (K := K) rfl T Ex c_draw F_l_brackets b_l_brackets (PySem.W.mg_of X G a_l_brackets) k_l_brackets 64, b_l_brackets, PySem.W.mg_of X G a_l_brackets, k_l_brackets⟩
  exact ok_law_k18 (G := (Gl0 K [C_ProductError, 0, C_NoFit, C_NoRow, C_NoBrackets, 0, 0, 0, 0, 0, 0, 0])) (K := K) rfl T Ex c_pen c_l_boxes c_l_sizes c_l_right_2 c_l_brackets (fun_mk l_law_k18 q_law_k18 k_law_k18)
end Gk18
open PySem PySem.W PyProof.Rows in
set_option maxRecDepth 100000 in
set_option maxHeartbeats 0 in
theorem PySem.Challenge.cw_longproducts_k18_boxes_run_holds : PySem.Challenge.rw_longproducts_k18_boxes_run.Holds := by
  w_on; o_law; k_head; (case hw => w_witness2)
  k_fill
  refine Ev.walkG (n := 63) (k := 71) (l := PySem.Challenge.rw_longproducts_k18_boxes_run) (x := "_law_script") rfl (by decide) rfl ⟨rfl, by decide, by decide⟩ (fun w h Y => PySem.W.kIn_of Y) ?F
  case F =>
    intro w mg fa h KX G hmg
    refine' Gk18.all_mk Ev.plain_k18 KX G hmg ?a_pen ?l_pen ?q_pen ?k_pen ?a_draw ?l_draw ?q_draw ?k_draw ?a_l_number ?l_l_number ?q_l_number ?k_l_number ?a_l_boxes ?l_l_boxes ?q_l_boxes ?k_l_boxes ?a_l_sizes ?l_l_sizes ?q_l_sizes ?k_l_sizes ?a_l_times_2 ?l_l_times_2 ?q_l_times_2 ?k_l_times_2 ?a_l_run ?l_l_run ?q_l_run ?k_l_run ?a_row_of_boxes ?l_row_of_boxes ?q_row_of_boxes ?k_row_of_boxes ?a_is_whole ?l_is_whole ?q_is_whole ?k_is_whole ?a_span_of ?l_span_of ?q_span_of ?k_span_of ?a_is_brackets ?l_is_brackets ?q_is_brackets ?k_is_brackets ?a_need_brackets ?l_need_brackets ?q_need_brackets ?k_need_brackets ?a_turned_box ?l_turned_box ?q_turned_box ?k_turned_box ?a_times ?l_times ?q_times ?k_times ?a_many_between ?l_many_between ?q_many_between ?k_many_between ?a_run_part ?l_run_part ?q_run_part ?k_run_part ?a_run ?l_run ?q_run ?k_run ?a_l_right_2 ?l_l_right_2 ?q_l_right_2 ?k_l_right_2 ?a_l_brackets ?l_l_brackets ?q_l_brackets ?k_l_brackets ?a_law_k18 ?l_law_k18 ?q_law_k18 ?k_law_k18 ?z_abs ?z_bool ?z_int ?z_isinstance ?z_len ?z_list ?z_max ?z_min ?z_range ?z_repr ?z_sum ?z_tuple ?z_zip ?g_MOST_BOXES ?ac_ProductError ?ac_NoFit ?ac_NoRow ?ac_NoBrackets ?tb ?xi_NoBrackets ?xi_NoRow ?no_NoFit ?b1 ?b2 ?b3 ?ox_NoFit ?ii_NoFit ?ti_NoFit ?li_NoFit ?qi_NoFit ?ki_NoFit
    (case a_pen => k_is)
    (case l_pen => k_is)
    (case q_pen => k_is)
    (case k_pen => k_is)
    (case a_draw => k_is)
    (case l_draw => k_is)
    (case q_draw => k_is)
    (case k_draw => k_is)
    (case a_l_number => k_is)
    (case l_l_number => k_is)
    (case q_l_number => k_is)
    (case k_l_number => k_is)
    (case a_l_boxes => k_is)
    (case l_l_boxes => k_is)
    (case q_l_boxes => k_is)
    (case k_l_boxes => k_is)
    (case a_l_sizes => k_is)
    (case l_l_sizes => k_is)
    (case q_l_sizes => k_is)
    (case k_l_sizes => k_is)
    (case a_l_times_2 => k_is)
    (case l_l_times_2 => k_is)
    (case q_l_times_2 => k_is)
    (case k_l_times_2 => k_is)
    (case a_l_run => k_is)
    (case l_l_run => k_is)
    (case q_l_run => k_is)
    (case k_l_run => k_is)
    (case a_row_of_boxes => k_is)
    (case l_row_of_boxes => k_is)
    (case q_row_of_boxes => k_is)
    (case k_row_of_boxes => k_is)
    (case a_is_whole => k_is)
    (case l_is_whole => k_is)
    (case q_is_whole => k_is)
    (case k_is_whole => k_is)
    (case a_span_of => k_is)
    (case l_span_of => k_is)
    (case q_span_of => k_is)
    (case k_span_of => k_is)
    (case a_is_brackets => k_is)
    (case l_is_brackets => k_is)
    (case q_is_brackets => k_is)
    (case k_is_brackets => k_is)
    (case a_need_brackets => k_is)
    (case l_need_brackets => k_is)
    (case q_need_brackets => k_is)
    (case k_need_brackets => k_is)
    (case a_turned_box => k_is)
    (case l_turned_box => k_is)
    (case q_turned_box => k_is)
    (case k_turned_box => k_is)
    (case a_times => k_is)
    (case l_times => k_is)
    (case q_times => k_is)
    (case k_times => k_is)
    (case a_many_between => k_is)
    (case l_many_between => k_is)
    (case q_many_between => k_is)
    (case k_many_between => k_is)
    (case a_run_part => k_is)
    (case l_run_part => k_is)
    (case q_run_part => k_is)
    (case k_run_part => k_is)
    (case a_run => k_is)
    (case l_run => k_is)
    (case q_run => k_is)
    (case k_run => k_is)
    (case a_l_right_2 => k_is)
    (case l_l_right_2 => k_is)
    (case q_l_right_2 => k_is)
    (case k_l_right_2 => k_is)
    (case a_l_brackets => k_is)
    (case l_l_brackets => k_is)
    (case q_l_brackets => k_is)
    (case k_l_brackets => k_is)
    (case a_law_k18 => k_is)
    (case l_law_k18 => k_is)
    (case q_law_k18 => k_is)
    (case k_law_k18 => k_is)
    (case z_abs => k_is)
    (case z_bool => k_is)
    (case z_int => k_is)
    (case z_isinstance => k_is)
    (case z_len => k_is)
    (case z_list => k_is)
    (case z_max => k_is)
    (case z_min => k_is)
    (case z_range => k_is)
    (case z_repr => k_is)
    (case z_sum => k_is)
    (case z_tuple => k_is)
    (case z_zip => k_is)
    (case g_MOST_BOXES => k_is)
    (case ac_ProductError => k_is)
    (case ac_NoFit => k_is)
    (case ac_NoRow => k_is)
    (case ac_NoBrackets => k_is)
    (case tb => kernel_rfl)
    (case xi_NoBrackets => k_exc)
    (case xi_NoRow => k_exc)
    (case no_NoFit => k_is)
    (case b1 => k_is)
    (case b2 => k_is)
    (case b3 => k_is)
    (case ox_NoFit => kernel_rfl)
    (case ii_NoFit => k_is)
    (case ti_NoFit => k_is)
    (case li_NoFit => k_is)
    (case qi_NoFit => k_is)
    (case ki_NoFit => k_is)
