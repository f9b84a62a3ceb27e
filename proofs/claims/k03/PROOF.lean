import PyProof.Rows.All
import Wide.All
import OpenK.AllK
import Wide.FinOn
import HandS.ForMost
import HandS.ForExc
import HandS.Wide
import HandS.Flow
import HandS.Steps
import HandS.HeadHook2
import HandS.CallSlots
import HandS.Deep
import HandS.TupAny
import HandS.IsInst
import HandS.Zip
import HandS.Defaults
import HandS.Words
import HandS.HeadWalk
import HandS.HeadHook1
import HandS.ExcInit
import HandS.TryOnly
import HandS.ExcOwn
import KE.KStateDown
import HandS.Ends
import HandS.More
import HandS.WordsExc
import HandS.Head0
import HandS.Head1
import HandS.Head2
import HandS.HeadEnd
import PySem.Challenge.RW_edgetally_k03_fillings_told
set_option Elab.async false
set_option linter.all false
set_option maxRecDepth 100000
set_option maxHeartbeats 4000000

/-! EvA: data by value, modes (who owns what), how data lies in the abstract heap. -/
namespace EV
open PySem PySem.Spec L2

/-- data by value -/
inductive D where
  | non | bl (b : Bool) | int (i : Int) | str (x : Str)
  | lst (ds : List D) | tup (ds : List D)
  | dct (ks vs : List D)
  | obj (c : Str) (ns : List Str) (ds : List D)
/-- Z: flat; F: frozen, maybe shared; O m: an owned node, its parts by m; B n m r: an owned object, by its fields; U: not yet bound; X: nothing known -/
inductive Mode where
  | U | Z | F | X | O (m : Mode) | B (n : Str) (m r : Mode) | B0
  deriving DecidableEq

def kD : Key → D
  | .inl i => .int i
  | .inr x => .str x
/-- what stands at a dict's address -/
def dctO (B : Hp) (ks : List D) (vs : List V) (o : HO) : Prop :=
  (∃ kvs : List (Key × V), o = .dK kvs ∧ kvs.map (fun p => kD p.1) = ks ∧ kvs.map (·.2) = vs) ∨
  (∃ kvs : List (List Key × V), o = .dT kvs ∧ kvs.map (fun p => D.tup (p.1.map kD)) = ks ∧ kvs.map (·.2) = vs)
theorem dctO.mono {B B' : Hp} {ks : List D} {vs : List V} {o : HO} (h : Same B B') (x : dctO B ks vs o) : dctO B' ks vs o := x

/-- fields by names, as an instance bears them -/
abbrev flds (ns : List Str) (vs : List V) : List (Str × V) := ns.zip vs

mutual
/-- v is d, by the mode m: its frozen nodes stand in B, its owned ones in H at fp -/
def R (K : PySem.W.Frag) (B H : Hp) : D → Mode → V → List Addr → Prop
  | .non, _, v, fp => v = .non ∧ fp = []
  | .bl b, _, v, fp => v = .bl b ∧ fp = []
  | .int i, _, v, fp => v = .int i ∧ fp = []
  | .str x, _, v, fp => v = .str x ∧ fp = []
  | .lst ds, .F, v, fp => fp = [] ∧ ∃ a vs, v = .ref a ∧ SqL K B a vs ∧ ds.length ≤ sizeLine ∧ Rl K B H ds .F vs []
  | .lst ds, .O m, v, fp => ∃ a vs fq, v = .ref a ∧ B a = none ∧ H a = some (.lst vs) ∧ ds.length ≤ sizeLine ∧ Rl K B H ds m vs fq ∧ fp = a :: fq
  | .tup ds, .F, v, fp => fp = [] ∧ ∃ a vs, v = .ref a ∧ SqT K B a vs ∧ ds.length ≤ sizeLine ∧ Rl K B H ds .F vs []
  | .tup ds, .O m, v, fp => ∃ a vs fq, v = .ref a ∧ B a = none ∧ H a = some (.tup vs) ∧ ds.length ≤ sizeLine ∧ Rl K B H ds m vs fq ∧ fp = a :: fq
  | .dct ks ds, .F, v, fp => fp = [] ∧ ∃ a vs o, v = .ref a ∧ B a = some o ∧ dctO B ks vs o ∧ ds.length ≤ sizeLine ∧ Rl K B H ds .F vs []
  | .dct ks ds, .O m, v, fp => ∃ a vs o fq, v = .ref a ∧ B a = none ∧ H a = some o ∧ dctO B ks vs o ∧ ds.length ≤ sizeLine ∧ Rl K B H ds m vs fq ∧ fp = a :: fq
  | .obj c ns ds, .F, v, fp => fp = [] ∧ ∃ a dx vs, v = .ref a ∧ B a = some (.ins (He.ga K c) dx (flds ns vs)) ∧ ns.length = ds.length ∧ Rl K B H ds .F vs []
  | .obj c ns ds, .O m, v, fp => ∃ a dx vs fq, v = .ref a ∧ B a = none ∧ B dx = none ∧ H a = some (.ins (He.ga K c) dx (flds ns vs)) ∧ H dx = some (.own a) ∧ ns.length = ds.length ∧ Rl K B H ds m vs fq ∧ fp = a :: dx :: fq
  | .obj c ns ds, .B n m r, v, fp => ∃ a dx vs fq, v = .ref a ∧ B a = none ∧ B dx = none ∧ H a = some (.ins (He.ga K c) dx (flds ns vs)) ∧ H dx = some (.own a) ∧ ns.length = ds.length ∧ Rf K B H ns ds (.B n m r) vs fq ∧ fp = a :: dx :: fq
  | .obj c ns ds, .B0, v, fp => ∃ a dx, ns = [] ∧ ds = [] ∧ v = .ref a ∧ B a = none ∧ B dx = none ∧ H a = some (.ins (He.ga K c) dx []) ∧ H dx = some (.own a) ∧ fp = [a, dx]
  | _, _, _, _ => False
def Rl (K : PySem.W.Frag) (B H : Hp) : List D → Mode → List V → List Addr → Prop
  | [], _, vs, fp => vs = [] ∧ fp = []
  | d :: ds, m, vs, fp => ∃ v r fp1 fp2, vs = v :: r ∧ R K B H d m v fp1 ∧ Rl K B H ds m r fp2 ∧ fp = fp1 ++ fp2
def Rf (K : PySem.W.Frag) (B H : Hp) : List Str → List D → Mode → List V → List Addr → Prop
  | [], [], m, vs, fp => m = .B0 ∧ vs = [] ∧ fp = []
  | n :: ns, d :: ds, .B n' m r, vs, fp => n = n' ∧ ∃ v vr fp1 fp2, vs = v :: vr ∧ R K B H d m v fp1 ∧ Rf K B H ns ds r vr fp2 ∧ fp = fp1 ++ fp2
  | _, _, _, _, _ => False
end
end EV

/-! EvB: laws of R. -/
namespace EV
open PySem PySem.Spec L2
section
variable {K : PySem.W.Frag} {B H B' H' : Hp}
theorem Same.sqL {a : Addr} {xs : List V} (h : Same B B') (x : SqL K B a xs) : SqL K B' a xs := Same.seq h x
theorem Same.sqT {a : Addr} {xs : List V} (e : Same B B') (h : SqT K B a xs) : SqT K B' a xs := by
  rcases h with (h | ⟨o, h⟩) | h
  · exact .inl (.inl (e _ _ h))
  · exact .inl (.inr ⟨o, e _ _ h⟩)
  · exact .inr h
/-- what an owned node's footprint needs to stay -/
def Kept (B' H H' : Hp) (fp : List Addr) : Prop := ∀ a ∈ fp, (∀ o, H a = some o → H' a = some o) ∧ B' a = none
theorem Kept.left {a b : List Addr} (k : Kept B' H H' (a ++ b)) : Kept B' H H' a := fun x h => k x (List.mem_append_left _ h)
theorem Kept.right {a b : List Addr} (k : Kept B' H H' (a ++ b)) : Kept B' H H' b := fun x h => k x (List.mem_append_right _ h)
theorem Kept.tail {a : Addr} {b : List Addr} (k : Kept B' H H' (a :: b)) : Kept B' H H' b := fun x h => k x (List.mem_cons_of_mem _ h)
theorem Kept.head {a : Addr} {b : List Addr} (k : Kept B' H H' (a :: b)) : (∀ o, H a = some o → H' a = some o) ∧ B' a = none := k a List.mem_cons_self
theorem Kept.nil : Kept B' H H' [] := fun _ h => nomatch h

mutual
theorem R.mono (hB : Same B B') : ∀ (d : D) {m : Mode} {v : V} {fp : List Addr}, R K B H d m v fp → Kept B' H H' fp → R K B' H' d m v fp
  | .non, m, v, fp, h, k => h
  | .bl b, m, v, fp, h, k => h
  | .int i, m, v, fp, h, k => h
  | .str x, m, v, fp, h, k => h
  | .lst ds, m, v, fp, h, k => by
    cases m with
    | F =>
      obtain ⟨e, a, vs, rfl, hs, hl, hr⟩ := h
      exact ⟨e, a, vs, rfl, Same.sqL hB hs, hl, Rl.mono hB ds hr Kept.nil⟩
    | O m =>
      obtain ⟨a, vs, fq, rfl, b0, ha, hl, hr, rfl⟩ := h
      exact ⟨a, vs, fq, rfl, k.head.2, k.head.1 _ ha, hl, Rl.mono hB ds hr k.tail, rfl⟩
    | _ => exact h.elim
  | .tup ds, m, v, fp, h, k => by
    cases m with
    | F =>
      obtain ⟨e, a, vs, rfl, hs, hl, hr⟩ := h
      exact ⟨e, a, vs, rfl, Same.sqT hB hs, hl, Rl.mono hB ds hr Kept.nil⟩
    | O m =>
      obtain ⟨a, vs, fq, rfl, b0, ha, hl, hr, rfl⟩ := h
      exact ⟨a, vs, fq, rfl, k.head.2, k.head.1 _ ha, hl, Rl.mono hB ds hr k.tail, rfl⟩
    | _ => exact h.elim
  | .dct ks ds, m, v, fp, h, k => by
    cases m with
    | F =>
      obtain ⟨e, a, vs, o, rfl, hs, hd, hl, hr⟩ := h
      exact ⟨e, a, vs, o, rfl, hB _ _ hs, hd.mono hB, hl, Rl.mono hB ds hr Kept.nil⟩
    | O m =>
      obtain ⟨a, vs, o, fq, rfl, b0, ha, hd, hl, hr, rfl⟩ := h
      exact ⟨a, vs, o, fq, rfl, k.head.2, k.head.1 _ ha, hd.mono hB, hl, Rl.mono hB ds hr k.tail, rfl⟩
    | _ => exact h.elim
  | .obj c ns ds, m, v, fp, h, k => by
    cases m with
    | F =>
      obtain ⟨e, a, dx, vs, rfl, hs, hl, hr⟩ := h
      exact ⟨e, a, dx, vs, rfl, hB _ _ hs, hl, Rl.mono hB ds hr Kept.nil⟩
    | O m =>
      obtain ⟨a, dx, vs, fq, rfl, b0, b1, ha, hx, hl, hr, rfl⟩ := h
      exact ⟨a, dx, vs, fq, rfl, k.head.2, k.tail.head.2, k.head.1 _ ha, k.tail.head.1 _ hx, hl, Rl.mono hB ds hr k.tail.tail, rfl⟩
    | B n m r =>
      obtain ⟨a, dx, vs, fq, rfl, b0, b1, ha, hx, hl, hr, rfl⟩ := h
      exact ⟨a, dx, vs, fq, rfl, k.head.2, k.tail.head.2, k.head.1 _ ha, k.tail.head.1 _ hx, hl, Rf.mono hB ns ds hr k.tail.tail, rfl⟩
    | B0 =>
      obtain ⟨a, dx, e1, e2, rfl, b0, b1, ha, hx, rfl⟩ := h
      exact ⟨a, dx, e1, e2, rfl, k.head.2, k.tail.head.2, k.head.1 _ ha, k.tail.head.1 _ hx, rfl⟩
    | _ => exact h.elim
theorem Rl.mono (hB : Same B B') : ∀ (ds : List D) {m : Mode} {vs : List V} {fp : List Addr}, Rl K B H ds m vs fp → Kept B' H H' fp → Rl K B' H' ds m vs fp
  | [], m, vs, fp, h, k => h
  | d :: ds, m, vs, fp, h, k => by
    obtain ⟨v, r, fp1, fp2, rfl, h1, h2, rfl⟩ := h
    exact ⟨v, r, fp1, fp2, rfl, R.mono hB d h1 k.left, Rl.mono hB ds h2 k.right, rfl⟩
theorem Rf.mono (hB : Same B B') : ∀ (ns : List Str) (ds : List D) {m : Mode} {vs : List V} {fp : List Addr}, Rf K B H ns ds m vs fp → Kept B' H H' fp → Rf K B' H' ns ds m vs fp
  | [], [], m, vs, fp, h, k => h
  | n :: ns, d :: ds, m, vs, fp, h, k => by
    cases m with
    | B n' m r =>
      obtain ⟨e, v, vr, fp1, fp2, rfl, h1, h2, rfl⟩ := h
      exact ⟨e, v, vr, fp1, fp2, rfl, R.mono hB d h1 k.left, Rf.mono hB ns ds h2 k.right, rfl⟩
    | _ => exact h.elim
  | [], _ :: _, m, vs, fp, h, k => h.elim
  | _ :: _, [], m, vs, fp, h, k => h.elim
end

mutual
/-- an owned node stands in H and not in B -/
theorem R.own : ∀ (d : D) {m : Mode} {v : V} {fp : List Addr}, R K B H d m v fp → ∀ a ∈ fp, B a = none ∧ ∃ o, H a = some o
  | .non, m, v, fp, h, a, ha => by rw [h.2] at ha; cases ha
  | .bl b, m, v, fp, h, a, ha => by rw [h.2] at ha; cases ha
  | .int i, m, v, fp, h, a, ha => by rw [h.2] at ha; cases ha
  | .str x, m, v, fp, h, a, ha => by rw [h.2] at ha; cases ha
  | .lst ds, m, v, fp, h, a, ha => by
    cases m with
    | F => rw [h.1] at ha; cases ha
    | O m =>
      obtain ⟨b, vs, fq, rfl, b0, hb, hl, hr, rfl⟩ := h
      rcases List.mem_cons.mp ha with rfl | ha
      · exact ⟨b0, _, hb⟩
      · exact Rl.own ds hr a ha
    | _ => exact h.elim
  | .tup ds, m, v, fp, h, a, ha => by
    cases m with
    | F => rw [h.1] at ha; cases ha
    | O m =>
      obtain ⟨b, vs, fq, rfl, b0, hb, hl, hr, rfl⟩ := h
      rcases List.mem_cons.mp ha with rfl | ha
      · exact ⟨b0, _, hb⟩
      · exact Rl.own ds hr a ha
    | _ => exact h.elim
  | .dct ks ds, m, v, fp, h, a, ha => by
    cases m with
    | F => rw [h.1] at ha; cases ha
    | O m =>
      obtain ⟨b, vs, o, fq, rfl, b0, hb, hd, hl, hr, rfl⟩ := h
      rcases List.mem_cons.mp ha with rfl | ha
      · exact ⟨b0, _, hb⟩
      · exact Rl.own ds hr a ha
    | _ => exact h.elim
  | .obj c ns ds, m, v, fp, h, a, ha => by
    cases m with
    | F => rw [h.1] at ha; cases ha
    | O m =>
      obtain ⟨b, dx, vs, fq, rfl, b0, b1, hb, hx, hl, hr, rfl⟩ := h
      rcases List.mem_cons.mp ha with rfl | ha
      · exact ⟨b0, _, hb⟩
      rcases List.mem_cons.mp ha with rfl | ha
      · exact ⟨b1, _, hx⟩
      · exact Rl.own ds hr a ha
    | B n m r =>
      obtain ⟨b, dx, vs, fq, rfl, b0, b1, hb, hx, hl, hr, rfl⟩ := h
      rcases List.mem_cons.mp ha with rfl | ha
      · exact ⟨b0, _, hb⟩
      rcases List.mem_cons.mp ha with rfl | ha
      · exact ⟨b1, _, hx⟩
      · exact Rf.own ns ds hr a ha
    | B0 =>
      obtain ⟨b, dx, e1, e2, rfl, b0, b1, hb, hx, rfl⟩ := h
      rcases List.mem_cons.mp ha with rfl | ha
      · exact ⟨b0, _, hb⟩
      rcases List.mem_cons.mp ha with rfl | ha
      · exact ⟨b1, _, hx⟩
      · cases ha
    | _ => exact h.elim
theorem Rl.own : ∀ (ds : List D) {m : Mode} {vs : List V} {fp : List Addr}, Rl K B H ds m vs fp → ∀ a ∈ fp, B a = none ∧ ∃ o, H a = some o
  | [], m, vs, fp, h, a, ha => by rw [h.2] at ha; cases ha
  | d :: ds, m, vs, fp, h, a, ha => by
    obtain ⟨v, r, fp1, fp2, rfl, h1, h2, rfl⟩ := h
    rcases List.mem_append.mp ha with ha | ha
    · exact R.own d h1 a ha
    · exact Rl.own ds h2 a ha
theorem Rf.own : ∀ (ns : List Str) (ds : List D) {m : Mode} {vs : List V} {fp : List Addr}, Rf K B H ns ds m vs fp → ∀ a ∈ fp, B a = none ∧ ∃ o, H a = some o
  | [], [], m, vs, fp, h, a, ha => by rw [h.2.2] at ha; cases ha
  | n :: ns, d :: ds, m, vs, fp, h, a, ha => by
    cases m with
    | B n' m r =>
      obtain ⟨e, v, vr, fp1, fp2, rfl, h1, h2, rfl⟩ := h
      rcases List.mem_append.mp ha with ha | ha
      · exact R.own d h1 a ha
      · exact Rf.own ns ds h2 a ha
    | _ => exact h.elim
  | [], _ :: _, m, vs, fp, h, a, ha => h.elim
  | _ :: _, [], m, vs, fp, h, a, ha => h.elim
end

/-- what an owned node's footprint becomes in a greater base -/
def Frozen (B' H : Hp) (fp : List Addr) : Prop := ∀ a ∈ fp, ∀ o, H a = some o → B' a = some o
theorem Frozen.left {a b : List Addr} (k : Frozen B' H (a ++ b)) : Frozen B' H a := fun x h => k x (List.mem_append_left _ h)
theorem Frozen.right {a b : List Addr} (k : Frozen B' H (a ++ b)) : Frozen B' H b := fun x h => k x (List.mem_append_right _ h)
theorem Frozen.tail {a : Addr} {b : List Addr} (k : Frozen B' H (a :: b)) : Frozen B' H b := fun x h => k x (List.mem_cons_of_mem _ h)
theorem Frozen.head {a : Addr} {b : List Addr} (k : Frozen B' H (a :: b)) : ∀ o, H a = some o → B' a = some o := k a List.mem_cons_self
theorem Frozen.nil : Frozen B' H [] := fun _ h => nomatch h

mutual
theorem R.freeze (hB : Same B B') : ∀ (d : D) {m : Mode} {v : V} {fp : List Addr}, R K B H d m v fp → Frozen B' H fp → R K B' H' d .F v []
  | .non, m, v, fp, h, k => ⟨h.1, rfl⟩
  | .bl b, m, v, fp, h, k => ⟨h.1, rfl⟩
  | .int i, m, v, fp, h, k => ⟨h.1, rfl⟩
  | .str x, m, v, fp, h, k => ⟨h.1, rfl⟩
  | .lst ds, m, v, fp, h, k => by
    cases m with
    | F =>
      obtain ⟨e, a, vs, rfl, hs, hl, hr⟩ := h
      exact ⟨rfl, a, vs, rfl, Same.sqL hB hs, hl, Rl.freeze hB ds hr Frozen.nil⟩
    | O m =>
      obtain ⟨a, vs, fq, rfl, b0, ha, hl, hr, rfl⟩ := h
      exact ⟨rfl, a, vs, rfl, SqL.of (k.head _ ha), hl, Rl.freeze hB ds hr k.tail⟩
    | _ => exact h.elim
  | .tup ds, m, v, fp, h, k => by
    cases m with
    | F =>
      obtain ⟨e, a, vs, rfl, hs, hl, hr⟩ := h
      exact ⟨rfl, a, vs, rfl, Same.sqT hB hs, hl, Rl.freeze hB ds hr Frozen.nil⟩
    | O m =>
      obtain ⟨a, vs, fq, rfl, b0, ha, hl, hr, rfl⟩ := h
      exact ⟨rfl, a, vs, rfl, SqT.of (k.head _ ha), hl, Rl.freeze hB ds hr k.tail⟩
    | _ => exact h.elim
  | .dct ks ds, m, v, fp, h, k => by
    cases m with
    | F =>
      obtain ⟨e, a, vs, o, rfl, hs, hd, hl, hr⟩ := h
      exact ⟨rfl, a, vs, o, rfl, hB _ _ hs, hd.mono hB, hl, Rl.freeze hB ds hr Frozen.nil⟩
    | O m =>
      obtain ⟨a, vs, o, fq, rfl, b0, ha, hd, hl, hr, rfl⟩ := h
      exact ⟨rfl, a, vs, o, rfl, k.head _ ha, hd.mono hB, hl, Rl.freeze hB ds hr k.tail⟩
    | _ => exact h.elim
  | .obj c ns ds, m, v, fp, h, k => by
    cases m with
    | F =>
      obtain ⟨e, a, dx, vs, rfl, hs, hl, hr⟩ := h
      exact ⟨rfl, a, dx, vs, rfl, hB _ _ hs, hl, Rl.freeze hB ds hr Frozen.nil⟩
    | O m =>
      obtain ⟨a, dx, vs, fq, rfl, b0, b1, ha, hx, hl, hr, rfl⟩ := h
      exact ⟨rfl, a, dx, vs, rfl, k.head _ ha, hl, Rl.freeze hB ds hr k.tail.tail⟩
    | B n m r =>
      obtain ⟨a, dx, vs, fq, rfl, b0, b1, ha, hx, hl, hr, rfl⟩ := h
      exact ⟨rfl, a, dx, vs, rfl, k.head _ ha, hl, Rf.freeze hB ns ds hr k.tail.tail⟩
    | B0 =>
      obtain ⟨a, dx, rfl, rfl, rfl, b0, b1, ha, hx, rfl⟩ := h
      exact ⟨rfl, a, dx, [], rfl, k.head _ ha, rfl, ⟨rfl, rfl⟩⟩
    | _ => exact h.elim
theorem Rl.freeze (hB : Same B B') : ∀ (ds : List D) {m : Mode} {vs : List V} {fp : List Addr}, Rl K B H ds m vs fp → Frozen B' H fp → Rl K B' H' ds .F vs []
  | [], m, vs, fp, h, k => ⟨h.1, rfl⟩
  | d :: ds, m, vs, fp, h, k => by
    obtain ⟨v, r, fp1, fp2, rfl, h1, h2, rfl⟩ := h
    exact ⟨v, r, [], [], rfl, R.freeze hB d h1 k.left, Rl.freeze hB ds h2 k.right, rfl⟩
theorem Rf.freeze (hB : Same B B') : ∀ (ns : List Str) (ds : List D) {m : Mode} {vs : List V} {fp : List Addr}, Rf K B H ns ds m vs fp → Frozen B' H fp → Rl K B' H' ds .F vs []
  | [], [], m, vs, fp, h, k => ⟨h.2.1, rfl⟩
  | n :: ns, d :: ds, m, vs, fp, h, k => by
    cases m with
    | B n' m r =>
      obtain ⟨e, v, vr, fp1, fp2, rfl, h1, h2, rfl⟩ := h
      exact ⟨v, vr, [], [], rfl, R.freeze hB d h1 k.left, Rf.freeze hB ns ds h2 k.right, rfl⟩
    | _ => exact h.elim
  | [], _ :: _, m, vs, fp, h, k => h.elim
  | _ :: _, [], m, vs, fp, h, k => h.elim
end

/-- no node of it is shared -/
def closed : Mode → Bool
  | .Z => true
  | .O m => closed m
  | .B _ m r => closed m && closed r
  | .B0 => true
  | _ => false
/-- the dicts within keep their keys whatever the base (keys of ints, texts, tuples of these) -/
theorem dctO.any {ks : List D} {vs : List V} {o : HO} (x : dctO B ks vs o) : dctO B' ks vs o := x

mutual
theorem R.rebase : ∀ (d : D) {m : Mode} {v : V} {fp : List Addr}, closed m = true → R K B H d m v fp → Kept B' H H' fp → R K B' H' d m v fp
  | .non, m, v, fp, c, h, k => h
  | .bl b, m, v, fp, c, h, k => h
  | .int i, m, v, fp, c, h, k => h
  | .str x, m, v, fp, c, h, k => h
  | .lst ds, m, v, fp, c, h, k => by
    cases m with
    | O m =>
      obtain ⟨a, vs, fq, rfl, b0, ha, hl, hr, rfl⟩ := h
      exact ⟨a, vs, fq, rfl, k.head.2, k.head.1 _ ha, hl, Rl.rebase ds c hr k.tail, rfl⟩
    | F => cases c
    | _ => exact h.elim
  | .tup ds, m, v, fp, c, h, k => by
    cases m with
    | O m =>
      obtain ⟨a, vs, fq, rfl, b0, ha, hl, hr, rfl⟩ := h
      exact ⟨a, vs, fq, rfl, k.head.2, k.head.1 _ ha, hl, Rl.rebase ds c hr k.tail, rfl⟩
    | F => cases c
    | _ => exact h.elim
  | .dct ks ds, m, v, fp, c, h, k => by
    cases m with
    | O m =>
      obtain ⟨a, vs, o, fq, rfl, b0, ha, hd, hl, hr, rfl⟩ := h
      exact ⟨a, vs, o, fq, rfl, k.head.2, k.head.1 _ ha, hd.any, hl, Rl.rebase ds c hr k.tail, rfl⟩
    | F => cases c
    | _ => exact h.elim
  | .obj c0 ns ds, m, v, fp, c, h, k => by
    cases m with
    | O m =>
      obtain ⟨a, dx, vs, fq, rfl, b0, b1, ha, hx, hl, hr, rfl⟩ := h
      exact ⟨a, dx, vs, fq, rfl, k.head.2, k.tail.head.2, k.head.1 _ ha, k.tail.head.1 _ hx, hl, Rl.rebase ds c hr k.tail.tail, rfl⟩
    | B n m r =>
      obtain ⟨a, dx, vs, fq, rfl, b0, b1, ha, hx, hl, hr, rfl⟩ := h
      exact ⟨a, dx, vs, fq, rfl, k.head.2, k.tail.head.2, k.head.1 _ ha, k.tail.head.1 _ hx, hl, Rf.rebase ns ds c hr k.tail.tail, rfl⟩
    | B0 =>
      obtain ⟨a, dx, e1, e2, rfl, b0, b1, ha, hx, rfl⟩ := h
      exact ⟨a, dx, e1, e2, rfl, k.head.2, k.tail.head.2, k.head.1 _ ha, k.tail.head.1 _ hx, rfl⟩
    | F => cases c
    | _ => exact h.elim
theorem Rl.rebase : ∀ (ds : List D) {m : Mode} {vs : List V} {fp : List Addr}, closed m = true → Rl K B H ds m vs fp → Kept B' H H' fp → Rl K B' H' ds m vs fp
  | [], m, vs, fp, c, h, k => h
  | d :: ds, m, vs, fp, c, h, k => by
    obtain ⟨v, r, fp1, fp2, rfl, h1, h2, rfl⟩ := h
    exact ⟨v, r, fp1, fp2, rfl, R.rebase d c h1 k.left, Rl.rebase ds c h2 k.right, rfl⟩
theorem Rf.rebase : ∀ (ns : List Str) (ds : List D) {m : Mode} {vs : List V} {fp : List Addr}, closed m = true → Rf K B H ns ds m vs fp → Kept B' H H' fp → Rf K B' H' ns ds m vs fp
  | [], [], m, vs, fp, c, h, k => h
  | n :: ns, d :: ds, m, vs, fp, c, h, k => by
    cases m with
    | B n' m r =>
      obtain ⟨e, v, vr, fp1, fp2, rfl, h1, h2, rfl⟩ := h
      have c' : (closed m && closed r) = true := c
      rw [Bool.and_eq_true] at c'
      exact ⟨e, v, vr, fp1, fp2, rfl, R.rebase d c'.1 h1 k.left, Rf.rebase ns ds c'.2 h2 k.right, rfl⟩
    | _ => exact h.elim
  | [], _ :: _, m, vs, fp, c, h, k => h.elim
  | _ :: _, [], m, vs, fp, c, h, k => h.elim
end

/-- a mode that says less, over the same base -/
def sub : Mode → Mode → Bool
  | .Z, .F => true
  | .Z, .Z => true
  | .Z, .O _ => true
  | .Z, .B _ _ _ => true
  | .Z, .B0 => true
  | .F, .F => true
  | .O m, .O m' => sub m m'
  | .B n m r, .B n' m' r' => decide (n = n') && (sub m m' && sub r r')
  | .B0, .B0 => true
  | _, _ => false
mutual
theorem R.sub : ∀ (d : D) {m m' : Mode} {v : V} {fp : List Addr}, EV.sub m m' = true → R K B H d m v fp → R K B H d m' v fp
  | .non, m, m', v, fp, c, h => h
  | .bl b, m, m', v, fp, c, h => h
  | .int i, m, m', v, fp, c, h => h
  | .str x, m, m', v, fp, c, h => h
  | .lst ds, m, m', v, fp, c, h => by
    cases m with
    | O m =>
      cases m' with
      | O m' =>
        obtain ⟨a, vs, fq, rfl, b0, ha, hl, hr, rfl⟩ := h
        exact ⟨a, vs, fq, rfl, b0, ha, hl, Rl.sub ds c hr, rfl⟩
      | _ => cases c
    | F =>
      cases m' with
      | F => exact h
      | _ => cases c
    | _ => exact h.elim
  | .tup ds, m, m', v, fp, c, h => by
    cases m with
    | O m =>
      cases m' with
      | O m' =>
        obtain ⟨a, vs, fq, rfl, b0, ha, hl, hr, rfl⟩ := h
        exact ⟨a, vs, fq, rfl, b0, ha, hl, Rl.sub ds c hr, rfl⟩
      | _ => cases c
    | F =>
      cases m' with
      | F => exact h
      | _ => cases c
    | _ => exact h.elim
  | .dct ks ds, m, m', v, fp, c, h => by
    cases m with
    | O m =>
      cases m' with
      | O m' =>
        obtain ⟨a, vs, o, fq, rfl, b0, ha, hd, hl, hr, rfl⟩ := h
        exact ⟨a, vs, o, fq, rfl, b0, ha, hd, hl, Rl.sub ds c hr, rfl⟩
      | _ => cases c
    | F =>
      cases m' with
      | F => exact h
      | _ => cases c
    | _ => exact h.elim
  | .obj c0 ns ds, m, m', v, fp, c, h => by
    cases m with
    | O m =>
      cases m' with
      | O m' =>
        obtain ⟨a, dx, vs, fq, rfl, b0, b1, ha, hx, hl, hr, rfl⟩ := h
        exact ⟨a, dx, vs, fq, rfl, b0, b1, ha, hx, hl, Rl.sub ds c hr, rfl⟩
      | _ => cases c
    | F =>
      cases m' with
      | F => exact h
      | _ => cases c
    | B n m r =>
      cases m' with
      | B n' m' r' =>
        obtain ⟨a, dx, vs, fq, rfl, b0, b1, ha, hx, hl, hr, rfl⟩ := h
        exact ⟨a, dx, vs, fq, rfl, b0, b1, ha, hx, hl, Rf.sub ns ds c hr, rfl⟩
      | _ => cases c
    | B0 =>
      cases m' with
      | B0 => exact h
      | _ => cases c
    | _ => exact h.elim
theorem Rl.sub : ∀ (ds : List D) {m m' : Mode} {vs : List V} {fp : List Addr}, EV.sub m m' = true → Rl K B H ds m vs fp → Rl K B H ds m' vs fp
  | [], m, m', vs, fp, c, h => h
  | d :: ds, m, m', vs, fp, c, h => by
    obtain ⟨v, r, fp1, fp2, rfl, h1, h2, rfl⟩ := h
    exact ⟨v, r, fp1, fp2, rfl, R.sub d c h1, Rl.sub ds c h2, rfl⟩
theorem Rf.sub : ∀ (ns : List Str) (ds : List D) {m m' : Mode} {vs : List V} {fp : List Addr}, EV.sub m m' = true → Rf K B H ns ds m vs fp → Rf K B H ns ds m' vs fp
  | [], [], m, m', vs, fp, c, h => by
    obtain ⟨rfl, h⟩ := h
    cases m' with
    | B0 => exact ⟨rfl, h⟩
    | _ => cases c
  | n :: ns, d :: ds, m, m', vs, fp, c, h => by
    cases m with
    | B n1 m1 r1 =>
      cases m' with
      | B n2 m2 r2 =>
        obtain ⟨e, v, vr, fp1, fp2, rfl, h1, h2, rfl⟩ := h
        have c' : (decide (n1 = n2) && (EV.sub m1 m2 && EV.sub r1 r2)) = true := c
        rw [Bool.and_eq_true, Bool.and_eq_true] at c'
        exact ⟨e.trans (of_decide_eq_true c'.1), v, vr, fp1, fp2, rfl, R.sub d c'.2.1 h1, Rf.sub ns ds c'.2.2 h2, rfl⟩
      | _ => cases c
    | _ => exact h.elim
  | [], _ :: _, m, m', vs, fp, c, h => h.elim
  | _ :: _, [], m, m', vs, fp, c, h => h.elim
end
theorem Rl.len : ∀ {ds : List D} {m : Mode} {vs : List V} {fp : List Addr}, Rl K B H ds m vs fp → vs.length = ds.length
  | [], m, vs, fp, h => by rw [h.1]; rfl
  | d :: ds, m, vs, fp, h => by
    obtain ⟨v, r, fp1, fp2, rfl, h1, h2, rfl⟩ := h
    rw [List.length_cons, List.length_cons, Rl.len h2]
end
end EV

/-! EvC: the state by slots, steps, readings of expressions. -/
namespace EV
open PySem PySem.Spec L2
abbrev Gam := List (Option D)
/-- an exception by value -/
structure Xc where
  c : Str
  ns : List Str
  ds : List D
inductive Rz (α : Type) where
  | ok (a : α) (Γ : Gam) | exc (x : Xc) (Γ : Gam) | bad
def Rz.bind {α β : Type} (r : Rz α) (f : α → Gam → Rz β) : Rz β := match r with
  | .ok a Γ => f a Γ
  | .exc x Γ => .exc x Γ
  | .bad => .bad
def Rz.opt {α : Type} (o : Option α) (Γ : Gam) : Rz α := match o with
  | some a => .ok a Γ
  | none => .bad

/-- what one step of a frame's code leaves: the base grows, all but fp stands, what is owned then was owned or is new -/
structure Stp (B H : Hp) (fp : List Addr) (B' H' : Hp) (fp' : List Addr) : Prop where
  base : Same B B'
  keep : ∀ a o, a ∉ fp → H a = some o → H' a = some o
  own : ∀ a ∈ fp', a ∈ fp ∨ H a = none
  new : ∀ a o, B' a = some o → B a = some o ∨ a ∈ fp ∨ H a = none
theorem Stp.refl (B H : Hp) (fp : List Addr) : Stp B H fp B H fp := ⟨Same.refl B, fun _ _ _ h => h, fun _ h => .inl h, fun _ _ h => .inl h⟩
theorem Stp.trans {B H B1 H1 B2 H2 : Hp} {fp fp1 fp2 : List Addr} (x : Stp B H fp B1 H1 fp1) (y : Stp B1 H1 fp1 B2 H2 fp2) : Stp B H fp B2 H2 fp2 := by
  have k : ∀ a o, a ∉ fp → H a = some o → a ∉ fp1 := fun a o n e h => by
    rcases x.own a h with q | q
    · exact n q
    · rw [e] at q; cases q
  refine ⟨x.base.trans y.base, fun a o n e => y.keep a o (k a o n e) (x.keep a o n e), fun a h => ?_, fun a o h => ?_⟩
  · rcases y.own a h with q | q
    · exact x.own a q
    · by_cases n : a ∈ fp
      · exact .inl n
      · cases e : H a with
        | none => exact .inr rfl
        | some o => rw [x.keep a o n e] at q; cases q
  · rcases y.new a o h with q | q | q
    · exact x.new a o q
    · exact (x.own a q).elim (fun z => .inr (.inl z)) fun z => .inr (.inr z)
    · by_cases n : a ∈ fp
      · exact .inr (.inl n)
      · cases e : H a with
        | none => exact .inr (.inr rfl)
        | some o => rw [x.keep a o n e] at q; cases q
theorem Stp.frame {B H B1 H1 : Hp} {fp fp1 : List Addr} (x : Stp B H fp B1 H1 fp1) (l : List Addr) : Stp B H (l ++ fp) B1 H1 (l ++ fp1) :=
  ⟨x.base, fun a o n => x.keep a o fun h => n (List.mem_append_right _ h), fun a h => (List.mem_append.mp h).elim (fun q => .inl (List.mem_append_left _ q)) fun q => (x.own a q).elim (fun z => .inl (List.mem_append_right _ z)) .inr,
    fun a o h => (x.new a o h).elim .inl fun q => q.elim (fun z => .inr (.inl (List.mem_append_right _ z))) fun z => .inr (.inr z)⟩
theorem Stp.less {B H B1 H1 : Hp} {fp fp1 fp2 : List Addr} (x : Stp B H fp B1 H1 fp1) (h : ∀ a ∈ fp2, a ∈ fp1) : Stp B H fp B1 H1 fp2 :=
  ⟨x.base, x.keep, fun a q => x.own a (h a q), x.new⟩
theorem Stp.more {B H B1 H1 : Hp} {fp fp1 fp2 : List Addr} (x : Stp B H fp B1 H1 fp1) (h : ∀ a ∈ fp, a ∈ fp2) : Stp B H fp2 B1 H1 fp1 :=
  ⟨x.base, fun a o n => x.keep a o fun q => n (h a q), fun a q => (x.own a q).imp (h a) id, fun a o q => (x.new a o q).imp id fun z => z.imp (h a) id⟩
theorem Stp.seq {B H B1 H1 B2 H2 : Hp} {fp l fp1 fp2 : List Addr} (x : Stp B H fp B1 H1 (l ++ fp1)) (y : Stp B1 H1 fp1 B2 H2 fp2) : Stp B H fp B2 H2 (l ++ fp2) := x.trans (y.frame l)
/-- what is owned elsewhere stays as it is -/
theorem Stp.kept {K : PySem.W.Frag} {B H B1 H1 : Hp} {fp fp1 l : List Addr} (x : Stp B H fp B1 H1 fp1) (ho : ∀ a ∈ l, B a = none ∧ ∃ o, H a = some o) (hd : ∀ a ∈ l, a ∉ fp) : Kept B1 H H1 l := fun a h => by
  obtain ⟨b0, o, e⟩ := ho a h
  refine ⟨fun o' e' => x.keep a o' (hd a h) e', ?_⟩
  cases q : B1 a with
  | none => rfl
  | some o' =>
    rcases x.new a o' q with z | z | z
    · rw [b0] at z; cases z
    · exact absurd z (hd a h)
    · rw [e] at z; cases z
theorem Stp.apart {B H B1 H1 : Hp} {fp fp1 l : List Addr} (x : Stp B H fp B1 H1 fp1) (ho : ∀ a ∈ l, ∃ o, H a = some o) (hd : ∀ a ∈ l, a ∉ fp) : ∀ a ∈ l, a ∉ fp1 := fun a h q => by
  rcases x.own a q with z | z
  · exact hd a h z
  · obtain ⟨o, e⟩ := ho a h
    rw [e] at z; cases z

theorem nodup_app {a b : List Addr} : (a ++ b).Nodup ↔ a.Nodup ∧ b.Nodup ∧ ∀ x ∈ a, x ∉ b := by
  rw [List.nodup_append]
  constructor
  · rintro ⟨h1, h2, h3⟩
    exact ⟨h1, h2, fun x hx hb => h3 x hx x hb rfl⟩
  · rintro ⟨h1, h2, h3⟩
    exact ⟨h1, h2, fun x hx y hy e => h3 x hx (e ▸ hy)⟩

/-! ### slots -/
def SlR (K : PySem.W.Frag) (B H : Hp) (g : Option D) (m : Mode) (s : Option V) (fp : List Addr) : Prop := match g with
  | none => fp = []
  | some d => (m = .X ∧ fp = []) ∨ ∃ v, s = some v ∧ R K B H d m v fp
def StR (K : PySem.W.Frag) (B H : Hp) : Gam → List Mode → St → List Addr → Prop
  | [], [], [], fp => fp = []
  | g :: Γ, m :: μ, s :: σ, fp => ∃ fp1 fp2, SlR K B H g m s fp1 ∧ StR K B H Γ μ σ fp2 ∧ fp = fp1 ++ fp2
  | _, _, _, _ => False
structure Sta (K : PySem.W.Frag) (B H : Hp) (Γ : Gam) (μ : List Mode) (σ : St) (fp : List Addr) : Prop where
  same : Same B H
  st : StR K B H Γ μ σ fp
  nd : fp.Nodup
section
variable {K : PySem.W.Frag} {B H B' H' : Hp}
theorem SlR.mono {g : Option D} {m : Mode} {s : Option V} {fp : List Addr} (hB : Same B B') (h : SlR K B H g m s fp) (k : Kept B' H H' fp) : SlR K B' H' g m s fp := by
  cases g with
  | none => exact h
  | some d =>
    rcases h with h | ⟨v, e, h⟩
    · exact .inl h
    · exact .inr ⟨v, e, h.mono hB d k⟩
theorem SlR.own {g : Option D} {m : Mode} {s : Option V} {fp : List Addr} (h : SlR K B H g m s fp) : ∀ a ∈ fp, B a = none ∧ ∃ o, H a = some o := by
  cases g with
  | none =>
    have h' : fp = [] := h
    intro a ha; rw [h'] at ha; cases ha
  | some d =>
    rcases h with ⟨_, h⟩ | ⟨v, e, h⟩
    · intro a ha; rw [h] at ha; cases ha
    · exact R.own d h
theorem StR.mono (hB : Same B B') : ∀ {Γ : Gam} {μ : List Mode} {σ : St} {fp : List Addr}, StR K B H Γ μ σ fp → Kept B' H H' fp → StR K B' H' Γ μ σ fp
  | [], [], [], fp, h, k => h
  | g :: Γ, m :: μ, s :: σ, fp, h, k => by
    obtain ⟨fp1, fp2, h1, h2, rfl⟩ := h
    exact ⟨fp1, fp2, h1.mono hB k.left, StR.mono hB h2 k.right, rfl⟩
  | [], _ :: _, _, _, h, k => h.elim
  | [], [], _ :: _, _, h, k => h.elim
  | _ :: _, [], _, _, h, k => h.elim
  | _ :: _, _ :: _, [], _, h, k => h.elim
theorem StR.own : ∀ {Γ : Gam} {μ : List Mode} {σ : St} {fp : List Addr}, StR K B H Γ μ σ fp → ∀ a ∈ fp, B a = none ∧ ∃ o, H a = some o
  | [], [], [], fp, h, a, ha => by
    have h' : fp = [] := h
    rw [h'] at ha; cases ha
  | g :: Γ, m :: μ, s :: σ, fp, h, a, ha => by
    obtain ⟨fp1, fp2, h1, h2, rfl⟩ := h
    rcases List.mem_append.mp ha with ha | ha
    · exact h1.own a ha
    · exact StR.own h2 a ha
  | [], _ :: _, _, _, h, _, _ => h.elim
  | [], [], _ :: _, _, h, _, _ => h.elim
  | _ :: _, [], _, _, h, _, _ => h.elim
  | _ :: _, _ :: _, [], _, h, _, _ => h.elim
theorem StR.len : ∀ {Γ : Gam} {μ : List Mode} {σ : St} {fp : List Addr}, StR K B H Γ μ σ fp → Γ.length = σ.length ∧ μ.length = σ.length
  | [], [], [], fp, h => ⟨rfl, rfl⟩
  | g :: Γ, m :: μ, s :: σ, fp, h => by
    obtain ⟨fp1, fp2, h1, h2, rfl⟩ := h
    have := StR.len h2
    simp [this.1, this.2]
  | [], _ :: _, _, _, h => h.elim
  | [], [], _ :: _, _, h => h.elim
  | _ :: _, [], _, _, h => h.elim
  | _ :: _, _ :: _, [], _, h => h.elim
/-- a slot is taken out -/
theorem StR.take : ∀ {Γ : Gam} {μ : List Mode} {σ : St} {fp : List Addr} {i : Nat} {d : D} {m m0 : Mode}, StR K B H Γ μ σ fp → Γ[i]? = some (some d) → μ[i]? = some m → m ≠ .X →
    ∃ v fp1 fp2, σ[i]? = some (some v) ∧ R K B H d m v fp1 ∧ StR K B H (Γ.set i none) (μ.set i m0) σ fp2 ∧ (fp.Nodup → (fp1 ++ fp2).Nodup) ∧ ∀ a, a ∈ fp1 ++ fp2 ↔ a ∈ fp
  | g :: Γ, m :: μ, s :: σ, fp, 0, d, m1, m0, h, e1, e2, hx => by
    obtain ⟨fp1, fp2, h1, h2, rfl⟩ := h
    cases e1; cases e2
    rcases h1 with h1 | ⟨v, rfl, h1⟩
    · exact absurd h1.1 hx
    · exact ⟨v, fp1, fp2, rfl, h1, ⟨[], fp2, rfl, h2, rfl⟩, fun q => q, fun a => Iff.rfl⟩
  | g :: Γ, m :: μ, s :: σ, fp, i + 1, d, m1, m0, h, e1, e2, hx => by
    obtain ⟨fp1, fp2, h1, h2, rfl⟩ := h
    obtain ⟨v, fa, fb, q1, q2, q3, q4, q5⟩ := StR.take (i := i) (m0 := m0) h2 e1 e2 hx
    refine ⟨v, fa, fp1 ++ fb, q1, q2, ⟨fp1, fb, h1, q3, rfl⟩, fun nd => ?_, fun a => ?_⟩
    · rw [nodup_app] at nd
      have n2 := nodup_app.mp (q4 nd.2.1)
      rw [nodup_app, nodup_app]
      refine ⟨n2.1, ⟨nd.1, n2.2.1, fun x hx hb => nd.2.2 x hx ((q5 x).mp (List.mem_append_right _ hb))⟩, fun x hx hb => ?_⟩
      rcases List.mem_append.mp hb with hb | hb
      · exact nd.2.2 x hb ((q5 x).mp (List.mem_append_left _ hx))
      · exact n2.2.2 x hx hb
    · have := q5 a
      simp only [List.mem_append] at this ⊢
      constructor
      · rintro (h | h | h)
        · exact .inr (this.mp (.inl h))
        · exact .inl h
        · exact .inr (this.mp (.inr h))
      · rintro (h | h)
        · exact .inr (.inl h)
        · rcases this.mpr h with h | h
          · exact .inl h
          · exact .inr (.inr h)
  | [], _ :: _, _, _, _, _, _, _, h, _, _, _ => h.elim
  | [], [], _ :: _, _, _, _, _, _, h, _, _, _ => h.elim
  | [], [], [], _, _, _, _, _, h, e, _, _ => by cases e
  | _ :: _, [], _, _, _, _, _, _, h, _, _, _ => h.elim
  | _ :: _, _ :: _, [], _, _, _, _, _, h, _, _, _ => h.elim
/-- a slot is set (what it held is let go) -/
theorem StR.put : ∀ {Γ : Gam} {μ : List Mode} {σ : St} {fp : List Addr} {i : Nat} {d : D} {m : Mode} {v : V} {fd : List Addr}, StR K B H Γ μ σ fp → i < σ.length → R K B H d m v fd →
    ∃ fp', StR K B H (Γ.set i (some d)) (μ.set i m) (σ.set i (some v)) fp' ∧ ((fd ++ fp).Nodup → fp'.Nodup) ∧ ∀ a, a ∈ fp' → a ∈ fd ++ fp
  | g :: Γ, m :: μ, s :: σ, fp, 0, d, m1, v, fd, h, hi, hr => by
    obtain ⟨fp1, fp2, h1, h2, rfl⟩ := h
    refine ⟨fd ++ fp2, ⟨fd, fp2, .inr ⟨v, rfl, hr⟩, h2, rfl⟩, fun nd => ?_, fun a ha => ?_⟩
    · rw [nodup_app, nodup_app] at nd
      rw [nodup_app]
      exact ⟨nd.1, nd.2.1.2.1, fun x hx hb => nd.2.2 x hx (List.mem_append_right _ hb)⟩
    · rcases List.mem_append.mp ha with ha | ha
      · exact List.mem_append_left _ ha
      · exact List.mem_append_right _ (List.mem_append_right _ ha)
  | g :: Γ, m :: μ, s :: σ, fp, i + 1, d, m1, v, fd, h, hi, hr => by
    obtain ⟨fp1, fp2, h1, h2, rfl⟩ := h
    obtain ⟨fp', q1, q2, q3⟩ := StR.put (i := i) h2 (Nat.lt_of_succ_lt_succ hi) hr
    refine ⟨fp1 ++ fp', ⟨fp1, fp', h1, q1, rfl⟩, fun nd => ?_, fun a ha => ?_⟩
    · rw [nodup_app, nodup_app] at nd
      rw [nodup_app]
      refine ⟨nd.2.1.1, q2 (nodup_app.mpr ⟨nd.1, nd.2.1.2.1, fun x hx hb => nd.2.2 x hx (List.mem_append_right _ hb)⟩), fun x hx hb => ?_⟩
      rcases List.mem_append.mp (q3 x hb) with hb | hb
      · exact nd.2.2 x hb (List.mem_append_left _ hx)
      · exact nd.2.1.2.2 x hx hb
    · rcases List.mem_append.mp ha with ha | ha
      · exact List.mem_append_right _ (List.mem_append_left _ ha)
      · rcases List.mem_append.mp (q3 a ha) with ha | ha
        · exact List.mem_append_left _ ha
        · exact List.mem_append_right _ (List.mem_append_right _ ha)
  | [], _ :: _, _, _, _, _, _, _, _, h, _, _ => h.elim
  | [], [], _ :: _, _, _, _, _, _, _, h, _, _ => h.elim
  | [], [], [], _, _, _, _, _, _, h, hi, _ => absurd hi (Nat.not_lt_zero _)
  | _ :: _, [], _, _, _, _, _, _, _, h, _, _ => h.elim
  | _ :: _, _ :: _, [], _, _, _, _, _, _, h, _, _ => h.elim
theorem set_same {α : Type} : ∀ {l : List α} {i : Nat} {x : α}, l[i]? = some x → l.set i x = l
  | [], _, _, h => by cases h
  | a :: l, 0, x, h => by cases h; rfl
  | a :: l, i + 1, x, h => by rw [List.set_cons_succ, set_same (l := l) (by simpa using h)]
end

/-! ### argument lists -/
def Ra (K : PySem.W.Frag) (B H : Hp) : List D → List Mode → List V → List Addr → Prop
  | [], [], vs, fp => vs = [] ∧ fp = []
  | d :: ds, m :: ms, vs, fp => ∃ v r fp1 fp2, vs = v :: r ∧ R K B H d m v fp1 ∧ Ra K B H ds ms r fp2 ∧ fp = fp1 ++ fp2
  | _, _, _, _ => False
section
variable {K : PySem.W.Frag} {B H B' H' : Hp}
theorem Ra.mono (hB : Same B B') : ∀ {ds : List D} {ms : List Mode} {vs : List V} {fp : List Addr}, Ra K B H ds ms vs fp → Kept B' H H' fp → Ra K B' H' ds ms vs fp
  | [], [], vs, fp, h, k => h
  | d :: ds, m :: ms, vs, fp, h, k => by
    obtain ⟨v, r, fp1, fp2, rfl, h1, h2, rfl⟩ := h
    exact ⟨v, r, fp1, fp2, rfl, h1.mono hB d k.left, Ra.mono hB h2 k.right, rfl⟩
  | [], _ :: _, _, _, h, _ => h.elim
  | _ :: _, [], _, _, h, _ => h.elim
theorem Ra.own : ∀ {ds : List D} {ms : List Mode} {vs : List V} {fp : List Addr}, Ra K B H ds ms vs fp → ∀ a ∈ fp, B a = none ∧ ∃ o, H a = some o
  | [], [], vs, fp, h, a, ha => by rw [h.2] at ha; cases ha
  | d :: ds, m :: ms, vs, fp, h, a, ha => by
    obtain ⟨v, r, fp1, fp2, rfl, h1, h2, rfl⟩ := h
    rcases List.mem_append.mp ha with ha | ha
    · exact R.own d h1 a ha
    · exact Ra.own h2 a ha
  | [], _ :: _, _, _, h, _, _ => h.elim
  | _ :: _, [], _, _, h, _, _ => h.elim
theorem Ra.freeze (hB : Same B B') : ∀ {ds : List D} {ms : List Mode} {vs : List V} {fp : List Addr}, Ra K B H ds ms vs fp → Frozen B' H fp → Ra K B' H' ds (ds.map fun _ => .F) vs []
  | [], [], vs, fp, h, k => ⟨h.1, rfl⟩
  | d :: ds, m :: ms, vs, fp, h, k => by
    obtain ⟨v, r, fp1, fp2, rfl, h1, h2, rfl⟩ := h
    exact ⟨v, r, [], [], rfl, h1.freeze hB d k.left, Ra.freeze hB h2 k.right, rfl⟩
  | [], _ :: _, _, _, h, _ => h.elim
  | _ :: _, [], _, _, h, _ => h.elim
theorem Ra.len : ∀ {ds : List D} {ms : List Mode} {vs : List V} {fp : List Addr}, Ra K B H ds ms vs fp → vs.length = ms.length ∧ ds.length = ms.length
  | [], [], vs, fp, h => by rw [h.1]; exact ⟨rfl, rfl⟩
  | d :: ds, m :: ms, vs, fp, h => by
    obtain ⟨v, r, fp1, fp2, rfl, h1, h2, rfl⟩ := h
    have := Ra.len h2
    simp [this.1, this.2]
  | [], _ :: _, _, _, h => h.elim
  | _ :: _, [], _, _, h => h.elim
end

/-! ### readings -/
/-- an exception, as it lies: its dict and the fields' lists are owned -/
def ExcR (K : PySem.W.Frag) (B H : Hp) (x : Xc) (cls : Value) (dd : Option Addr) (fp : List Addr) : Prop :=
  cls = .ref (He.ga K x.c) ∧ ∃ d fs vs fq, dd = some d ∧ B d = none ∧ H d = some (.xd fs) ∧ Rl K B H x.ds (.O .Z) vs fq ∧ x.ns.length = x.ds.length ∧ (∀ (i : Nat) n v, x.ns[i]? = some n → vs[i]? = some v → fs.lookup n = some v) ∧ fp = d :: fq
/-- what stands around: the wish about exceptions, the modes behind one -/
structure Wh where
  W : WX
  μx : List Mode
def wexc (K : PySem.W.Frag) (w : Wh) (B H : Hp) (fp : List Addr) (σ : St) (x : Xc) (Γ' : Gam) : Prop :=
  ∀ B' H' fpe fp' cls dd, Stp B H fp B' H' (fpe ++ fp') → Sta K B' H' Γ' w.μx σ fp' → ExcR K B' H' x cls dd fpe → (fpe ++ fp').Nodup → w.W cls dd σ H'
def tD (K : PySem.W.Frag) (w : Wh) (μ : List Mode) (f : Gam → Rz D) (m : Mode) (μ' : List Mode) : TE := fun σ H Q => ∃ B Γ fp, Sta K B H Γ μ σ fp ∧ match f Γ with
  | .ok d Γ' => ∀ B' H' v fpv fp', Stp B H fp B' H' (fpv ++ fp') → Sta K B' H' Γ' μ' σ fp' → R K B' H' d m v fpv → (fpv ++ fp').Nodup → Q v H'
  | .exc x Γ' => wexc K w B H fp σ x Γ'
  | .bad => False
def tDT (K : PySem.W.Frag) (w : Wh) (μ : List Mode) (f : Gam → Rz Bool) (μ' : List Mode) : TT := fun σ H Q => ∃ B Γ fp, Sta K B H Γ μ σ fp ∧ match f Γ with
  | .ok b Γ' => ∀ B' H' fp', Stp B H fp B' H' fp' → Sta K B' H' Γ' μ' σ fp' → Q b H'
  | .exc x Γ' => wexc K w B H fp σ x Γ'
  | .bad => False
def tDA (K : PySem.W.Frag) (w : Wh) (μ : List Mode) (f : Gam → Rz (List D)) (ms : List Mode) (μ' : List Mode) : TA := fun σ H Q => ∃ B Γ fp, Sta K B H Γ μ σ fp ∧ match f Γ with
  | .ok ds Γ' => ∀ B' H' vs fpv fp', Stp B H fp B' H' (fpv ++ fp') → Sta K B' H' Γ' μ' σ fp' → Ra K B' H' ds ms vs fpv → (fpv ++ fp').Nodup → Q vs H'
  | .exc x Γ' => wexc K w B H fp σ x Γ'
  | .bad => False
theorem _root_.L2.PE.imp {X : Cx} {e : Expr} {t t' : TE} (h : PE X e t) (i : ∀ σ H Q, t' σ H Q → t σ H Q) : PE X e t' := ⟨fun pins s σ H Q I q => h.run pins s σ H Q I (i σ H Q q)⟩
theorem _root_.L2.PT.imp {X : Cx} {e : Expr} {t t' : TT} (h : PT X e t) (i : ∀ σ H Q, t' σ H Q → t σ H Q) : PT X e t' := ⟨fun pins s σ H Q I q => h.run pins s σ H Q I (i σ H Q q)⟩
theorem _root_.L2.PW.imp {X : Cx} {e : Expr} {t t' : TT} (h : PW X e t) (i : ∀ σ H Q, t' σ H Q → t σ H Q) : PW X e t' := ⟨fun whole pins s σ H Q I q => h.run whole pins s σ H Q I (i σ H Q q)⟩
theorem _root_.L2.PA.imp {X : Cx} {es : List Expr} {t t' : TA} (h : PA X es t) (i : ∀ σ H Q, t' σ H Q → t σ H Q) : PA X es t' := ⟨fun pos pins s σ H Q I q => h.run pos pins s σ H Q I (i σ H Q q)⟩
theorem _root_.L2.PS.imp {X : Cx} {st : Stmt} {t t' : TS} (h : PS X st t) (i : ∀ D σ H, t' D σ H → t D σ H) : PS X st t' := ⟨fun pins s σ H D I q => h.run pins s σ H D I (i D σ H q)⟩
theorem _root_.L2.PSs.imp {X : Cx} {st : List Stmt} {t t' : TS} (h : PSs X st t) (i : ∀ D σ H, t' D σ H → t D σ H) : PSs X st t' := ⟨fun pins s σ H D I q => h.run pins s σ H D I (i D σ H q)⟩
section
variable {K : PySem.W.Frag} {w : Wh} {B H B1 H1 : Hp} {fp l fp1 : List Addr} {σ : St}
/-- an exception behind a step -/
theorem wexc.after {x : Xc} {Γ' : Gam} (h : wexc K w B H fp σ x Γ') (s : Stp B H fp B1 H1 (l ++ fp1)) : wexc K w B1 H1 fp1 σ x Γ' := fun B' H' fpe fp' cls dd s1 st ex nd =>
  h B' H' fpe fp' cls dd ((s.less fun a q => List.mem_append_right _ q).trans s1) st ex nd
/-- a temporary stays over a step of the state -/
theorem R.over {d : D} {m : Mode} {v : V} {B2 H2 : Hp} {fp2 : List Addr} (r : R K B1 H1 d m v l) (s : Stp B1 H1 fp1 B2 H2 fp2) (nd : (l ++ fp1).Nodup) : R K B2 H2 d m v l :=
  r.mono s.base d (s.kept (K := K) (R.own d r) (nodup_app.mp nd).2.2)
theorem nodup_over {B2 H2 : Hp} {fp2 : List Addr} (ho : ∀ a ∈ l, ∃ o, H1 a = some o) (s : Stp B1 H1 fp1 B2 H2 fp2) (nd : (l ++ fp1).Nodup) (nd2 : fp2.Nodup) : (l ++ fp2).Nodup :=
  nodup_app.mpr ⟨(nodup_app.mp nd).1, nd2, s.apart ho (nodup_app.mp nd).2.2⟩
end
end EV

/-! EvD: reading slots, freezing, borrowing; operators lifted. -/
namespace EV
open PySem PySem.Spec L2

/-! ### the base grown by owned addresses -/
def addB (B H : Hp) (l : List Addr) : Hp := fun a => if a ∈ l then H a else B a
section
variable {K : PySem.W.Frag} {B H : Hp} {l : List Addr}
theorem addB_in {a : Addr} (h : a ∈ l) : addB B H l a = H a := if_pos h
theorem addB_out {a : Addr} (h : a ∉ l) : addB B H l a = B a := if_neg h
theorem addB_same (h : ∀ a ∈ l, B a = none) : Same B (addB B H l) := fun a o e => by
  by_cases q : a ∈ l
  · rw [h a q] at e; cases e
  · rw [addB_out q]; exact e
theorem addB_le (s : Same B H) : Same (addB B H l) H := fun a o e => by
  by_cases q : a ∈ l
  · rw [addB_in q] at e; exact e
  · rw [addB_out q] at e; exact s a o e
theorem addB_frozen : Frozen (addB B H l) H l := fun a h o e => by rw [addB_in h]; exact e
theorem addB_kept {fp : List Addr} (ho : ∀ a ∈ fp, B a = none) (hd : ∀ a ∈ fp, a ∉ l) : Kept (addB B H l) H H fp := fun a h => ⟨fun o e => e, by rw [addB_out (hd a h)]; exact ho a h⟩
theorem addB_stp {fp fp' : List Addr} (h : ∀ a ∈ l, a ∈ fp) (ho : ∀ a ∈ l, B a = none) (h' : ∀ a ∈ fp', a ∈ fp) : Stp B H fp (addB B H l) H fp' :=
  ⟨addB_same ho, fun _ _ _ e => e, fun a q => .inl (h' a q), fun a o e => by
    by_cases q : a ∈ l
    · exact .inr (.inl (h a q))
    · rw [addB_out q] at e; exact .inl e⟩
theorem R.fpF : ∀ {d : D} {v : V} {fp : List Addr}, R K B H d .F v fp → fp = []
  | .non, _, _, h | .bl _, _, _, h | .int _, _, _, h | .str _, _, _, h => h.2
  | .lst _, _, _, h | .tup _, _, _, h | .dct _ _, _, _, h | .obj _ _ _, _, _, h => h.1
theorem R.fpZ : ∀ {d : D} {v : V} {fp : List Addr}, R K B H d .Z v fp → fp = []
  | .non, _, _, h | .bl _, _, _, h | .int _, _, _, h | .str _, _, _, h => h.2
  | .lst _, _, _, h | .tup _, _, _, h | .dct _ _, _, _, h | .obj _ _ _, _, _, h => h.elim
theorem R.noX : ∀ {d : D} {v : V} {fp : List Addr} {m : Mode}, R K B H d .X v fp → R K B H d m v fp
  | .non, _, _, _, h | .bl _, _, _, _, h | .int _, _, _, _, h | .str _, _, _, _, h => h
  | .lst _, _, _, _, h | .tup _, _, _, _, h | .dct _ _, _, _, _, h | .obj _ _ _, _, _, _, h => h.elim
theorem R.noU : ∀ {d : D} {v : V} {fp : List Addr} {m : Mode}, R K B H d .U v fp → R K B H d m v fp
  | .non, _, _, _, h | .bl _, _, _, _, h | .int _, _, _, _, h | .str _, _, _, _, h => h
  | .lst _, _, _, _, h | .tup _, _, _, _, h | .dct _ _, _, _, _, h | .obj _ _ _, _, _, _, h => h.elim
/-- a value is frozen -/
theorem R.frz {d : D} {m : Mode} {v : V} (r : R K B H d m v l) : R K (addB B H l) H d .F v [] := r.freeze (addB_same fun a h => (R.own d r a h).1) d addB_frozen
end

/-- expression e, by the state: f -/
structure DE (X : Cx) (w : Wh) (μ : List Mode) (e : Expr) (f : Gam → Rz D) (m : Mode) (μ' : List Mode) : Prop where
  pe : PE X e (tD X.K w μ f m μ')
structure DT (X : Cx) (w : Wh) (μ : List Mode) (e : Expr) (f : Gam → Rz Bool) (μ' : List Mode) : Prop where
  pt : PT X e (tDT X.K w μ f μ')
structure DW (X : Cx) (w : Wh) (μ : List Mode) (e : Expr) (f : Gam → Rz Bool) (μ' : List Mode) : Prop where
  pw : PW X e (tDT X.K w μ f μ')
structure DA (X : Cx) (w : Wh) (μ : List Mode) (es : List Expr) (f : Gam → Rz (List D)) (ms : List Mode) (μ' : List Mode) : Prop where
  pa : PA X es (tDA X.K w μ f ms μ')

section
variable {X : Cx} {w : Wh} {μ μ' μ1 μ2 : List Mode} {e a b : Expr} {es : List Expr} {f g : Gam → Rz D} {m m' m1 m2 : Mode} {pos : Pos}
/-! ### slots -/
def getG (Γ : Gam) (i : Nat) : Option D := match Γ[i]? with
  | some (some d) => some d
  | _ => none
theorem getG_some {Γ : Gam} {i : Nat} {d : D} (h : getG Γ i = some d) : Γ[i]? = some (some d) := by
  unfold getG at h
  split at h
  · cases h; assumption
  · cases h
def eVar (i : Nat) (Γ : Gam) : Rz D := Rz.opt (getG Γ i) Γ
def eMv (i : Nat) (Γ : Gam) : Rz D := Rz.opt (getG Γ i) (Γ.set i none)
theorem opt_cases {α : Type} {o : Option α} {Γ : Gam} {P : Rz α → Prop} (h1 : ∀ a, o = some a → P (.ok a Γ)) (h2 : o = none → P .bad) : P (Rz.opt o Γ) := by
  cases o with
  | none => exact h2 rfl
  | some a => exact h1 a rfl
def flatM (m : Mode) : Bool := match m with
  | .F => true
  | .Z => true
  | _ => false
theorem flatM_fp {K : PySem.W.Frag} {B H : Hp} {d : D} {v : V} {fp : List Addr} (h : flatM m = true) (r : R K B H d m v fp) : fp = [] := by
  cases m with
  | F => exact r.fpF
  | Z => exact r.fpZ
  | _ => cases h
/-- reading where nothing of it is owned -/
theorem DE.var {i : Nat} {x : Str} (hN : X.N[i]? = some x) (hv : Vis X.env.scope x) (hd : (x == ("__debug__" : Str)) = false) (hcd : (x == ("__classdict__" : Str)) = false) (hm : μ[i]? = some m) (hf : flatM m = true) : DE X w μ (.Name x pos) (eVar i) m μ := by
  refine ⟨(pe_var hN hv hd hcd).imp fun σ H Q ⟨B, Γ, fp, st, q⟩ => ?_⟩
  unfold eVar at q
  cases e : getG Γ i with
  | none => rw [e] at q; exact q.elim
  | some d =>
    rw [e] at q
    have hx : m ≠ .X := by rintro rfl; cases hf
    obtain ⟨v, fp1, fp2, h1, h2, h3, h4, h5⟩ := StR.take (m0 := m) st.st (getG_some e) hm hx
    have z := flatM_fp hf h2
    subst z
    exact ⟨v, h1, q B H v [] fp (Stp.refl _ _ _) st h2 st.nd⟩
/-- reading that freezes it for good -/
theorem DE.fv {i : Nat} {x : Str} (hN : X.N[i]? = some x) (hv : Vis X.env.scope x) (hd : (x == ("__debug__" : Str)) = false) (hcd : (x == ("__classdict__" : Str)) = false) (hm : μ[i]? = some m) (hf : m ≠ .X) : DE X w μ (.Name x pos) (eVar i) .F (μ.set i .F) := by
  refine ⟨(pe_var hN hv hd hcd).imp fun σ H Q ⟨B, Γ, fp, st, q⟩ => ?_⟩
  unfold eVar at q
  cases e : getG Γ i with
  | none => rw [e] at q; exact q.elim
  | some d =>
    rw [e] at q
    obtain ⟨v, fp1, fp2, h1, h2, h3, h4, h5⟩ := StR.take (m0 := .U) st.st (getG_some e) hm hf
    have n12 := nodup_app.mp (h4 st.nd)
    have b1 : ∀ a ∈ fp1, B a = none := fun a h => (R.own d h2 a h).1
    have r1 := h2.frz
    have s2 := h3.mono (addB_same (H := H) b1) (addB_kept (H := H) (fun a h => (h3.own a h).1) fun a h q => n12.2.2 a q h)
    have hi : i < σ.length := (List.getElem?_eq_some_iff.mp h1).1
    obtain ⟨fp', p1, p2, p3⟩ := StR.put (i := i) s2 hi r1
    rw [List.set_set, List.set_set, set_same h1, set_same (getG_some e)] at p1
    refine ⟨v, h1, q (addB B H fp1) H v [] fp' (addB_stp (fun a h => (h5 a).mp (List.mem_append_left _ h)) b1 fun a h => (h5 a).mp (List.mem_append_right _ (by simpa using p3 a h))) ⟨addB_le st.same, p1, p2 (by simpa using n12.2.1)⟩ r1 (by simpa using p2 (by simpa using n12.2.1))⟩
/-- reading that takes it out of the slot -/
theorem DE.mv {i : Nat} {x : Str} (hN : X.N[i]? = some x) (hv : Vis X.env.scope x) (hd : (x == ("__debug__" : Str)) = false) (hcd : (x == ("__classdict__" : Str)) = false) (hm : μ[i]? = some m) (hf : m ≠ .X) : DE X w μ (.Name x pos) (eMv i) m (μ.set i .U) := by
  refine ⟨(pe_var hN hv hd hcd).imp fun σ H Q ⟨B, Γ, fp, st, q⟩ => ?_⟩
  unfold eMv at q
  cases e : getG Γ i with
  | none => rw [e] at q; exact q.elim
  | some d =>
    rw [e] at q
    obtain ⟨v, fp1, fp2, h1, h2, h3, h4, h5⟩ := StR.take (m0 := .U) st.st (getG_some e) hm hf
    exact ⟨v, h1, q B H v fp1 fp2 ((Stp.refl _ _ _).less fun a h => (h5 a).mp h) ⟨st.same, h3, (nodup_app.mp (h4 st.nd)).2.1⟩ h2 (h4 st.nd)⟩
/-! ### constants -/
def eC (d : D) (Γ : Gam) : Rz D := .ok d Γ
theorem DE.int {i : Int} {j : Nat} : DE X w μ (.Constant (.int i) j pos) (eC (.int i)) .Z μ := ⟨pe_int.imp fun σ H Q ⟨B, Γ, fp, st, q⟩ => q B H _ [] fp (Stp.refl _ _ _) st ⟨rfl, rfl⟩ st.nd⟩
theorem DE.bl {i : Bool} {j : Nat} : DE X w μ (.Constant (.bool i) j pos) (eC (.bl i)) .Z μ := ⟨pe_bl.imp fun σ H Q ⟨B, Γ, fp, st, q⟩ => q B H _ [] fp (Stp.refl _ _ _) st ⟨rfl, rfl⟩ st.nd⟩
theorem DE.non {j : Nat} : DE X w μ (.Constant .none j pos) (eC .non) .Z μ := ⟨pe_non.imp fun σ H Q ⟨B, Γ, fp, st, q⟩ => q B H _ [] fp (Stp.refl _ _ _) st ⟨rfl, rfl⟩ st.nd⟩
theorem DE.str {x : Str} {j : Nat} : DE X w μ (.Constant (.str x) j pos) (eC (.str x)) .Z μ := ⟨pe_str.imp fun σ H Q ⟨B, Γ, fp, st, q⟩ => q B H _ [] fp (Stp.refl _ _ _) st ⟨rfl, rfl⟩ st.nd⟩
/-! ### a result said with less -/
theorem DE.sub (h : DE X w μ e f m μ') (s : EV.sub m m' = true) : DE X w μ e f m' μ' :=
  ⟨h.pe.imp fun σ H Q ⟨B, Γ, fp, st, q⟩ => ⟨B, Γ, fp, st, by
    revert q
    cases f Γ with
    | ok d Γ' => exact fun q B' H' v fpv fp' s1 st' r nd => q B' H' v fpv fp' s1 st' (r.sub d s) nd
    | exc x Γ' => exact id
    | bad => exact id⟩⟩
/-- a result frozen -/
theorem DE.frz (h : DE X w μ e f m μ') : DE X w μ e f .F μ' :=
  ⟨h.pe.imp fun σ H Q ⟨B, Γ, fp, st, q⟩ => ⟨B, Γ, fp, st, by
    revert q
    cases f Γ with
    | ok d Γ' =>
      intro q B' H' v fpv fp' s1 st' r nd
      have n := nodup_app.mp nd
      have b1 : ∀ a ∈ fpv, B' a = none := fun a h => (R.own d r a h).1
      exact q (addB B' H' fpv) H' v [] fp' (s1.trans (addB_stp (fun a h => List.mem_append_left _ h) b1 fun a h => List.mem_append_right _ h))
        ⟨addB_le st'.same, st'.st.mono (addB_same b1) (addB_kept (fun a h => (st'.st.own a h).1) fun a h q => n.2.2 a q h), st'.nd⟩ r.frz st'.nd
    | exc x Γ' => exact id
    | bad => exact id⟩⟩
/-- the state behind it said with less -/
def weakM (m m' : Mode) : Bool := EV.sub m m' || (match m' with
  | .X => true
  | .F => decide (m ≠ .X)
  | _ => decide (m = .U))
def weakL : List Mode → List Mode → Bool
  | [], [] => true
  | m :: μ, m' :: μ' => weakM m m' && weakL μ μ'
  | _, _ => false
theorem SlR.weak {K : PySem.W.Frag} {B H : Hp} {g : Option D} {s : Option V} {fp : List Addr} (h : weakM m m' = true) (x : SlR K B H g m s fp) :
    ∃ l fp', (∀ a ∈ l, a ∈ fp) ∧ (∀ a ∈ fp', a ∈ fp) ∧ (fp.Nodup → fp'.Nodup ∧ ∀ a ∈ l, a ∉ fp') ∧ ∀ B', Same B B' → Frozen B' H l → (∀ a ∈ fp', B' a = none) → SlR K B' H g m' s fp' := by
  cases g with
  | none =>
    have x' : fp = [] := x
    exact ⟨[], [], (fun a h => nomatch h), (fun a h => nomatch h), (fun _ => ⟨List.nodup_nil, fun a h => nomatch h⟩), fun B' _ _ _ => rfl⟩
  | some d =>
    unfold weakM at h
    rw [Bool.or_eq_true] at h
    rcases x with ⟨rfl, rfl⟩ | ⟨v, rfl, r⟩
    · rcases h with h | h
      · cases m' <;> cases h
      · cases m' with
        | X => exact ⟨[], [], (fun a h => nomatch h), (fun a h => nomatch h), (fun _ => ⟨List.nodup_nil, fun a h => nomatch h⟩), fun B' _ _ _ => .inl ⟨rfl, rfl⟩⟩
        | F => exact absurd rfl (of_decide_eq_true h)
        | _ => cases of_decide_eq_true h
    · rcases h with h | h
      · exact ⟨[], fp, fun a h => (by cases h), fun a h => h, fun n => ⟨n, fun a h => by cases h⟩, fun B' hB _ b => .inr ⟨v, rfl, (r.sub d h).mono hB d fun a h => ⟨fun o e => e, b a h⟩⟩⟩
      · cases m' with
        | X => exact ⟨fp, [], fun a h => h, fun a h => (by cases h), fun n => ⟨List.nodup_nil, fun a h q => by cases q⟩, fun B' _ _ _ => .inl ⟨rfl, rfl⟩⟩
        | F => exact ⟨fp, [], fun a h => h, fun a h => (by cases h), fun n => ⟨List.nodup_nil, fun a h q => by cases q⟩, fun B' hB fz _ => .inr ⟨v, rfl, r.freeze hB d fz⟩⟩
        | _ =>
          have z := of_decide_eq_true h
          subst z
          exact ⟨[], fp, fun a h => (by cases h), fun a h => h, fun n => ⟨n, fun a h => by cases h⟩, fun B' hB _ b => .inr ⟨v, rfl, R.noU (r.mono hB d fun a h => ⟨fun o e => e, b a h⟩)⟩⟩
theorem StR.weak {K : PySem.W.Frag} {B H : Hp} : ∀ {Γ : Gam} {μ μ' : List Mode} {σ : St} {fp : List Addr}, weakL μ μ' = true → StR K B H Γ μ σ fp →
    ∃ l fp', (∀ a ∈ l, a ∈ fp) ∧ (∀ a ∈ fp', a ∈ fp) ∧ (fp.Nodup → fp'.Nodup ∧ ∀ a ∈ l, a ∉ fp') ∧ ∀ B', Same B B' → Frozen B' H l → (∀ a ∈ fp', B' a = none) → StR K B' H Γ μ' σ fp'
  | [], [], [], [], fp, _, h => ⟨[], [], (fun a h => nomatch h), (fun a h => nomatch h), (fun _ => ⟨List.nodup_nil, fun a h => nomatch h⟩), fun B' _ _ _ => rfl⟩
  | g :: Γ, m :: μ, m' :: μ', s :: σ, fp, c, h => by
    obtain ⟨fp1, fp2, h1, h2, rfl⟩ := h
    have c' : (weakM m m' && weakL μ μ') = true := c
    rw [Bool.and_eq_true] at c'
    obtain ⟨l1, f1, a1, a2, a3, a4⟩ := h1.weak c'.1
    obtain ⟨l2, f2, b1, b2, b3, b4⟩ := StR.weak c'.2 h2
    refine ⟨l1 ++ l2, f1 ++ f2, fun a h => ?_, fun a h => ?_, fun n => ?_, fun B' hB fz b => ?_⟩
    · exact (List.mem_append.mp h).elim (fun q => List.mem_append_left _ (a1 a q)) fun q => List.mem_append_right _ (b1 a q)
    · exact (List.mem_append.mp h).elim (fun q => List.mem_append_left _ (a2 a q)) fun q => List.mem_append_right _ (b2 a q)
    · have n' := nodup_app.mp n
      refine ⟨nodup_app.mpr ⟨(a3 n'.1).1, (b3 n'.2.1).1, fun x hx hy => n'.2.2 x (a2 x hx) (b2 x hy)⟩, fun a h q => ?_⟩
      rcases List.mem_append.mp h with h | h
      · rcases List.mem_append.mp q with q | q
        · exact (a3 n'.1).2 a h q
        · exact n'.2.2 a (a1 a h) (b2 a q)
      · rcases List.mem_append.mp q with q | q
        · exact n'.2.2 a (a2 a q) (b1 a h)
        · exact (b3 n'.2.1).2 a h q
    · exact ⟨f1, f2, a4 B' hB fz.left (fun a h => b a (List.mem_append_left _ h)), b4 B' hB fz.right (fun a h => b a (List.mem_append_right _ h)), rfl⟩
  | [], [], _ :: _, _, _, c, _ => by cases c
  | _, _ :: _, [], _, _, c, _ => by cases c
  | [], _ :: _, _ :: _, _, _, _, h => h.elim
  | [], [], [], _ :: _, _, _, h => h.elim
  | _ :: _, [], [], _, _, _, h => h.elim
  | _ :: _, [], _ :: _, _, _, c, _ => by cases c
  | _ :: _, _ :: _, _ :: _, [], _, _, h => h.elim
theorem Sta.weak {K : PySem.W.Frag} {B H : Hp} {Γ : Gam} {σ : St} {fp l : List Addr} (h : weakL μ μ' = true) (x : Sta K B H Γ μ σ fp) (ho : ∀ a ∈ l, B a = none ∧ ∃ o, H a = some o) (hd : ∀ a ∈ l, a ∉ fp) :
    ∃ B' fp', Stp B H fp B' H fp' ∧ Sta K B' H Γ μ' σ fp' ∧ Kept B' H H l := by
  obtain ⟨q, fp', h1, h2, h3, h4⟩ := StR.weak h x.st
  have n := h3 x.nd
  have b : ∀ a ∈ q, B a = none := fun a h => (x.st.own a (h1 a h)).1
  exact ⟨addB B H q, fp', addB_stp h1 b h2, ⟨addB_le x.same, h4 _ (addB_same b) addB_frozen fun a h => by rw [addB_out fun z => n.2 a z h]; exact (x.st.own a (h2 a h)).1, n.1⟩,
    addB_kept (fun a h => (ho a h).1) fun a h z => hd a h (h1 a z)⟩
theorem DE.weak (h : DE X w μ e f m μ') (c : weakL μ' μ2 = true) : DE X w μ e f m μ2 :=
  ⟨h.pe.imp fun σ H Q ⟨B, Γ, fp, st, q⟩ => ⟨B, Γ, fp, st, by
    revert q
    cases f Γ with
    | ok d Γ' =>
      intro q B' H' v fpv fp' s1 st' r nd
      obtain ⟨B2, fp2, s2, st2, k2⟩ := st'.weak (l := fpv) c (R.own d r) (nodup_app.mp nd).2.2
      exact q B2 H' v fpv fp2 (s1.seq s2) st2 (r.mono s2.base d k2) (nodup_over (fun a h => (R.own d r a h).2) s2 nd st2.nd)
    | exc x Γ' => exact id
    | bad => exact id⟩⟩
theorem DT.weak {f : Gam → Rz Bool} (h : DT X w μ e f μ') (c : weakL μ' μ2 = true) : DT X w μ e f μ2 :=
  ⟨h.pt.imp fun σ H Q ⟨B, Γ, fp, st, q⟩ => ⟨B, Γ, fp, st, by
    revert q
    cases f Γ with
    | ok d Γ' =>
      intro q B' H' fp' s1 st'
      obtain ⟨B2, fp2, s2, st2, k2⟩ := st'.weak (l := []) c (fun a h => by cases h) (fun a h => by cases h)
      exact q B2 H' fp2 (s1.trans s2) st2
    | exc x Γ' => exact id
    | bad => exact id⟩⟩
/-! ### two operands -/
def e2 (g : D → D → Option D) (f1 f2 : Gam → Rz D) (Γ : Gam) : Rz D := (f1 Γ).bind fun x Γ1 => (f2 Γ1).bind fun y Γ2 => Rz.opt (g x y) Γ2
/-- what follows where a value comes of values -/
def Comes (K : PySem.W.Frag) (B H : Hp) (fp : List Addr) (d : D) (m : Mode) (Q : VK) : Prop :=
  ∀ B' H' v fpv, Stp B H fp B' H' fpv → Same B' H' → R K B' H' d m v fpv → fpv.Nodup → Q v H'
def OpD (K : PySem.W.Frag) (r : R2) (m1 m2 : Mode) (g : D → D → Option D) (m : Mode) : Prop :=
  ∀ (B H : Hp) (x y d : D) (u v : V) (fp1 fp2 : List Addr) (Q : VK), Same B H → R K B H x m1 u fp1 → R K B H y m2 v fp2 → (fp1 ++ fp2).Nodup → g x y = some d → Comes K B H (fp1 ++ fp2) d m Q → r u v H Q
/-- what comes of temporaries, over a state -/
theorem comes_of {K : PySem.W.Frag} {B0 H0 B H : Hp} {Γ : Gam} {σ : St} {fp0 l fp : List Addr} {d : D} {Q : VK} (s0 : Stp B0 H0 fp0 B H (l ++ fp)) (st : Sta K B H Γ μ σ fp) (ho : ∀ a ∈ l, ∃ o, H a = some o) (nd : (l ++ fp).Nodup)
    (q : ∀ B' H' v fpv fp', Stp B0 H0 fp0 B' H' (fpv ++ fp') → Sta K B' H' Γ μ σ fp' → R K B' H' d m v fpv → (fpv ++ fp').Nodup → Q v H') : Comes K B H l d m Q := fun B' H' v fpv s sm r nv => by
  have n := nodup_app.mp nd
  have k : Kept B' H H' fp := s.kept (K := K) (st.st.own) fun a h q => n.2.2 a q h
  have dj : ∀ a ∈ fpv, a ∉ fp := fun a h q => by
    rcases s.own a h with z | z
    · exact n.2.2 a z q
    · obtain ⟨_, o, e⟩ := st.st.own a q
      rw [e] at z; cases z
  refine q B' H' v fpv fp (s0.trans ?_) ⟨sm, st.st.mono s.base k, st.nd⟩ r (nodup_app.mpr ⟨nv, st.nd, dj⟩)
  have := s.more (fp2 := l ++ fp) fun a h => List.mem_append_left _ h
  exact ⟨this.base, this.keep, fun a h => by
    rcases List.mem_append.mp h with h | h
    · exact this.own a h
    · exact .inl (List.mem_append_right _ h), this.new⟩
theorem tOp_of {K : PySem.W.Frag} {r : R2} {h : D → D → Option D} {σ : St} {H : Hp} {Q : VK} (op : OpD K r m1 m2 h m) (q : tD K w μ (e2 h f g) m μ2 σ H Q) : tOp r (tD K w μ f m1 μ1) (tD K w μ1 g m2 μ2) σ H Q := by
  obtain ⟨B, Γ, fp, st, q⟩ := q
  refine ⟨B, Γ, fp, st, ?_⟩
  unfold e2 at q
  cases e1 : f Γ with
  | bad => rw [e1] at q; exact q.elim
  | exc x Γ' => rw [e1] at q; exact q
  | ok x Γ1 =>
    rw [e1] at q
    intro B1 H1 u fu fp1 s1 st1 r1 n1
    refine ⟨B1, Γ1, fp1, st1, ?_⟩
    show match g Γ1 with
      | .ok d Γ' => _
      | .exc x Γ' => _
      | .bad => _
    simp only [Rz.bind] at q
    cases e2 : g Γ1 with
    | bad => rw [e2] at q; exact q.elim
    | exc x Γ' =>
      rw [e2] at q
      exact wexc.after q s1
    | ok y Γ2 =>
      rw [e2] at q
      intro B2 H2 v fv fp2 s2 st2 r2 n2
      dsimp only at q
      cases e3 : h x y with
      | none => rw [e3] at q; exact q.elim
      | some d =>
        rw [e3] at q
        have r1' : R K B2 H2 x m1 u fu := r1.over (s2.less fun a h => List.mem_append_right _ h) n1
        have nn : (fu ++ (fv ++ fp2)).Nodup := nodup_over (fun a h => (R.own x r1 a h).2) s2 n1 n2
        have nn' : ((fu ++ fv) ++ fp2).Nodup := by rw [List.append_assoc]; exact nn
        refine op B2 H2 x y d u v fu fv Q st2.same r1' r2 (nodup_app.mp nn').1 e3 (comes_of (s0 := ?_) st2 (fun a h => ?_) nn' q)
        · have := s1.seq s2
          rwa [← List.append_assoc] at this
        · rcases List.mem_append.mp h with h | h
          · exact (R.own x r1' a h).2
          · exact (R.own y r2 a h).2
theorem DE.op2 {op : Operator} {r : R2} {h : D → D → Option D} (ho : OpR X (binaryOp op) r) (od : OpD X.K r m1 m2 h m) (ha : DE X w μ a f m1 μ1) (hb : DE X w μ1 b g m2 μ2) : DE X w μ (.BinOp a op b pos) (e2 h f g) m μ2 :=
  ⟨(pe_op ho ha.pe hb.pe).imp fun _ _ _ q => tOp_of od q⟩
theorem DE.cmp {op : CmpOp} {r : R2} {h : D → D → Option D} (ho : OpR X (compareOp op) r) (hm : behindInMarks op b = false) (od : OpD X.K r m1 m2 h m) (ha : DE X w μ a f m1 μ1) (hb : DE X w μ1 b g m2 μ2) : DE X w μ (.Compare a [op] [b] pos) (e2 h f g) m μ2 :=
  ⟨(pe_cmpR ho ha.pe hb.pe hm).imp fun _ _ _ q => tOp_of od q⟩
theorem DE.ix {r : R2} {h : D → D → Option D} (hr : IxR X r) (hs : PlainIx b) (od : OpD X.K r m1 m2 h m) (ha : DE X w μ a f m1 μ1) (hb : DE X w μ1 b g m2 μ2) : DE X w μ (.Subscript a b pos) (e2 h f g) m μ2 :=
  ⟨(pe_ix hr ha.pe hb.pe hs).imp fun _ _ _ q => tOp_of od q⟩
/-! ### one operand -/
def e1 (g : D → Option D) (f1 : Gam → Rz D) (Γ : Gam) : Rz D := (f1 Γ).bind fun x Γ1 => Rz.opt (g x) Γ1
def UnD (K : PySem.W.Frag) (r : V → Hp → VK → Prop) (m1 : Mode) (g : D → Option D) (m : Mode) : Prop :=
  ∀ (B H : Hp) (x d : D) (u : V) (fp1 : List Addr) (Q : VK), Same B H → R K B H x m1 u fp1 → fp1.Nodup → g x = some d → Comes K B H fp1 d m Q → r u H Q
theorem t1_of {K : PySem.W.Frag} {r : V → Hp → VK → Prop} {h : D → Option D} {σ : St} {H : Hp} {Q : VK} (op : UnD K r m1 h m) (q : tD K w μ (e1 h f) m μ1 σ H Q) : tD K w μ f m1 μ1 σ H fun x H1 => r x H1 Q := by
  obtain ⟨B, Γ, fp, st, q⟩ := q
  refine ⟨B, Γ, fp, st, ?_⟩
  unfold e1 at q
  cases e1 : f Γ with
  | bad => rw [e1] at q; exact q.elim
  | exc x Γ' => rw [e1] at q; exact q
  | ok x Γ1 =>
    rw [e1] at q
    intro B1 H1 u fu fp1 s1 st1 r1 n1
    simp only [Rz.bind] at q
    cases e3 : h x with
    | none => rw [e3] at q; exact q.elim
    | some d =>
      rw [e3] at q
      exact op B1 H1 x d u fu Q st1.same r1 (nodup_app.mp n1).1 e3 (comes_of s1 st1 (fun a h => (R.own x r1 a h).2) n1 q)
theorem DE.un {op : UnaryOp} {r : V → Hp → VK → Prop} {h : D → Option D} (ho : UnR X (unaryOp op) r) (od : UnD X.K r m1 h m) (ha : DE X w μ a f m1 μ1) : DE X w μ (.UnaryOp op a pos) (e1 h f) m μ1 :=
  ⟨(pe_un ho ha.pe).imp fun _ _ _ q => t1_of od q⟩
/-! ### argument lists -/
def aNil (Γ : Gam) : Rz (List D) := .ok [] Γ
def aCons (f : Gam → Rz D) (r : Gam → Rz (List D)) (Γ : Gam) : Rz (List D) := (f Γ).bind fun x Γ1 => (r Γ1).bind fun xs Γ2 => .ok (x :: xs) Γ2
theorem DA.nil : DA X w μ [] aNil [] μ := ⟨pa_nil.imp fun σ H Q ⟨B, Γ, fp, st, q⟩ => q B H [] [] fp (Stp.refl _ _ _) st ⟨rfl, rfl⟩ st.nd⟩
theorem DA.cons {r : Gam → Rz (List D)} {ms : List Mode} (ha : DE X w μ a f m μ1) (hr : DA X w μ1 es r ms μ2) (hs : starEach (a :: es) X.env = (false, eval a X.env) :: starEach es X.env) : DA X w μ (a :: es) (aCons f r) (m :: ms) μ2 := by
  refine ⟨(pa_cons ha.pe hr.pa hs).imp fun σ H Q ⟨B, Γ, fp, st, q⟩ => ⟨B, Γ, fp, st, ?_⟩⟩
  unfold aCons at q
  cases e1 : f Γ with
  | bad => rw [e1] at q; exact q.elim
  | exc x Γ' => rw [e1] at q; exact q
  | ok x Γ1 =>
    rw [e1] at q
    intro B1 H1 u fu fp1 s1 st1 r1 n1
    refine ⟨B1, Γ1, fp1, st1, ?_⟩
    simp only [Rz.bind] at q
    show match r Γ1 with
      | .ok d Γ' => _
      | .exc x Γ' => _
      | .bad => _
    cases e2 : r Γ1 with
    | bad => rw [e2] at q; exact q.elim
    | exc x Γ' => rw [e2] at q; exact wexc.after q s1
    | ok xs Γ2 =>
      rw [e2] at q
      intro B2 H2 vs fv fp2 s2 st2 r2 n2
      have r1' : R X.K B2 H2 x m u fu := r1.over (s2.less fun a h => List.mem_append_right _ h) n1
      have nn : (fu ++ (fv ++ fp2)).Nodup := nodup_over (fun a h => (R.own x r1 a h).2) s2 n1 n2
      refine q B2 H2 (u :: vs) (fu ++ fv) fp2 ?_ st2 ⟨u, vs, fu, fv, rfl, r1', r2, rfl⟩ (by rw [List.append_assoc]; exact nn)
      have := s1.seq s2
      rwa [← List.append_assoc] at this
/-! ### a value of several -/
def eN (g : List D → Option D) (r : Gam → Rz (List D)) (Γ : Gam) : Rz D := (r Γ).bind fun xs Γ1 => Rz.opt (g xs) Γ1
def NaD (K : PySem.W.Frag) (r : List V → Hp → VK → Prop) (ms : List Mode) (g : List D → Option D) (m : Mode) : Prop :=
  ∀ (B H : Hp) (xs : List D) (d : D) (us : List V) (fp1 : List Addr) (Q : VK), Same B H → Ra K B H xs ms us fp1 → fp1.Nodup → g xs = some d → Comes K B H fp1 d m Q → r us H Q
theorem tN_of {K : PySem.W.Frag} {r : List V → Hp → VK → Prop} {h : List D → Option D} {ms : List Mode} {fa : Gam → Rz (List D)} {σ : St} {H : Hp} {Q : VK} (op : NaD K r ms h m) (q : tD K w μ (eN h fa) m μ1 σ H Q) : tDA K w μ fa ms μ1 σ H fun xs H1 => r xs H1 Q := by
  obtain ⟨B, Γ, fp, st, q⟩ := q
  refine ⟨B, Γ, fp, st, ?_⟩
  unfold eN at q
  cases e1 : fa Γ with
  | bad => rw [e1] at q; exact q.elim
  | exc x Γ' => rw [e1] at q; exact q
  | ok x Γ1 =>
    rw [e1] at q
    intro B1 H1 u fu fp1 s1 st1 r1 n1
    simp only [Rz.bind] at q
    cases e3 : h x with
    | none => rw [e3] at q; exact q.elim
    | some d =>
      rw [e3] at q
      exact op B1 H1 x d u fu Q st1.same r1 (nodup_app.mp n1).1 e3 (comes_of s1 st1 (fun a h => (Ra.own r1 a h).2) n1 q)
theorem DE.callB {x : Str} {p : Pos} {id : String} {r : List V → Hp → VK → Prop} {h : List D → Option D} {ms : List Mode} {fa : Gam → Rz (List D)} (hc : CallR X (.builtin id) r) (hg : Gl X x) (hm : X.mg x = none) (hv : bootBuiltins x = some (.builtin id)) (hn : x ≠ "__name__") (hdb : (x == ("__debug__" : Str)) = false)
    (od : NaD X.K r ms h m) (ha : DA X w μ (a :: es) fa ms μ1) (he : starEach (a :: es) X.env = (false, eval a X.env) :: starEach es X.env) (hpl : (backTo pos (starEach es X.env)).any (·.1) = false) : DE X w μ (.Call (.Name x p) (a :: es) [] pos) (eN h fa) m μ1 :=
  ⟨(pe_callB hc hg hm hv ha.pa hn hdb he hpl).imp fun _ _ _ q => tN_of od q⟩
theorem DE.callTy {x : Str} {p : Pos} {T : String} {r : List V → Hp → VK → Prop} {h : List D → Option D} {ms : List Mode} {fa : Gam → Rz (List D)} (hc : CallR X (.type T) r) (hg : Gl X x) (hm : X.mg x = none) (hv : bootBuiltins x = some (.type T)) (hn : x ≠ "__name__") (hdb : (x == ("__debug__" : Str)) = false)
    (od : NaD X.K r ms h m) (ha : DA X w μ (a :: es) fa ms μ1) (he : starEach (a :: es) X.env = (false, eval a X.env) :: starEach es X.env) (hpl : (backTo pos (starEach es X.env)).any (·.1) = false) : DE X w μ (.Call (.Name x p) (a :: es) [] pos) (eN h fa) m μ1 :=
  ⟨(pe_callTy hc hg hm hv ha.pa hn hdb he hpl).imp fun _ _ _ q => tN_of od q⟩
theorem DE.disp {k : Nat} {h : List D → Option D} {ms : List Mode} {fa : Gam → Rz (List D)} (od : NaD X.K (fun xs H1 Q => xs.length ≤ sizeLine ∧ ∀ p, H1 p = none → Q (.ref p) (upd H1 p (.tup xs))) ms h m) (ha : DA X w μ es fa ms μ1) : DE X w μ (.Tuple es k pos) (eN h fa) m μ1 :=
  ⟨(pe_tup ha.pa).imp fun _ _ _ q => tN_of od q⟩
theorem DE.displ {h : List D → Option D} {ms : List Mode} {fa : Gam → Rz (List D)} (od : NaD X.K (fun xs H1 Q => xs.length ≤ sizeLine ∧ ∀ p, H1 p = none → Q (.ref p) (upd H1 p (.lst xs))) ms h m) (ha : DA X w μ es fa ms μ1) : DE X w μ (.List es pos) (eN h fa) m μ1 :=
  ⟨(pe_lst ha.pa).imp fun _ _ _ q => tN_of od q⟩
end
end EV

/-! EvE: borrowing; tests; calls of defs. -/
namespace EV
open PySem PySem.Spec L2

/-! ### borrowing: all slots but those of the mask are frozen for a while -/
def borm : Mode → Mode
  | .X => .X
  | .U => .U
  | .Z => .Z
  | _ => .F
def borM : List Bool → List Mode → List Mode
  | b :: M, m :: μ => (if b = true then m else borm m) :: borM M μ
  | _, _ => []
def mixG : List Bool → Gam → Gam → Gam
  | b :: M, g :: Γ, g' :: Γ' => (if b = true then g' else g) :: mixG M Γ Γ'
  | _, _, _ => []
def mixM : List Bool → List Mode → List Mode → List Mode
  | b :: M, m :: μ, m' :: μ' => (if b = true then m' else m) :: mixM M μ μ'
  | _, _, _ => []
def closedOn : List Bool → List Mode → Bool
  | b :: M, m :: μ => (!b || closed m || decide (m = .U) || decide (m = .X)) && closedOn M μ
  | _, _ => true
section
variable {K : PySem.W.Frag} {B H B' H' : Hp}
theorem SlR.bor {g : Option D} {m : Mode} {s : Option V} {fp : List Addr} (h : SlR K B H g m s fp) (hB : Same B B') (fz : Frozen B' H fp) : SlR K B' H g (borm m) s [] := by
  cases g with
  | none => rfl
  | some d =>
    rcases h with ⟨rfl, h⟩ | ⟨v, rfl, r⟩
    · exact .inl ⟨rfl, rfl⟩
    · have z := r.freeze (H' := H) hB d fz
      cases m with
      | X => exact .inl ⟨rfl, rfl⟩
      | U => exact .inr ⟨v, rfl, by cases d <;> first | exact ⟨r.1, rfl⟩ | exact r.elim⟩
      | Z => exact .inr ⟨v, rfl, by have e := r.fpZ; subst e; exact r.mono hB d Kept.nil⟩
      | _ => exact .inr ⟨v, rfl, z⟩
theorem SlR.rebase {g : Option D} {m : Mode} {s : Option V} {fp : List Addr} (c : (closed m || decide (m = .U) || decide (m = .X)) = true) (h : SlR K B H g m s fp) (k : Kept B' H H' fp) : SlR K B' H' g m s fp := by
  cases g with
  | none => exact h
  | some d =>
    rcases h with h | ⟨v, rfl, r⟩
    · exact .inl h
    · rw [Bool.or_eq_true, Bool.or_eq_true] at c
      rcases c with (c | c) | c
      · exact .inr ⟨v, rfl, r.rebase d c k⟩
      · have e := of_decide_eq_true c
        subst e
        have q : closed .Z = true := rfl
        exact .inr ⟨v, rfl, by cases d <;> first | exact r | exact r.elim⟩
      · have e := of_decide_eq_true c
        subst e
        exact .inr ⟨v, rfl, by cases d <;> first | exact r | exact r.elim⟩
theorem StR.bor : ∀ {M : List Bool} {Γ : Gam} {μ : List Mode} {σ : St} {fp : List Addr}, M.length = μ.length → StR K B H Γ μ σ fp → ∃ fm fr, (∀ a ∈ fm, a ∈ fp) ∧ (∀ a ∈ fr, a ∈ fp) ∧ (∀ a ∈ fp, a ∈ fm ∨ a ∈ fr) ∧ (fp.Nodup → fm.Nodup ∧ fr.Nodup ∧ ∀ a ∈ fm, a ∉ fr) ∧
    (∀ B1, Same B B1 → Frozen B1 H fr → (∀ a ∈ fm, B1 a = none) → StR K B1 H Γ (borM M μ) σ fm) ∧
    (∀ B' H' Γ' μ' fm', StR K B' H' Γ' μ' σ fm' → closedOn M μ' = true → (∀ a ∈ fm', B a = none) → (∀ a ∈ fr, ∀ o, H a = some o → H' a = some o) →
      ∃ fx, StR K B H' (mixG M Γ Γ') (mixM M μ μ') σ fx ∧ (fm'.Nodup → fr.Nodup → (∀ a ∈ fm', a ∉ fr) → fx.Nodup) ∧ ∀ a ∈ fx, a ∈ fm' ∨ a ∈ fr)
  | [], [], [], [], fp, _, h => by
    have h' : fp = [] := h
    subst h'
    refine ⟨[], [], (fun _ h => h), (fun _ h => h), (fun _ h => nomatch h), (fun _ => ⟨List.nodup_nil, List.nodup_nil, fun _ h => nomatch h⟩), (fun _ _ _ _ => rfl), fun B' H' Γ' μ' fm' h c _ _ => ?_⟩
    exact ⟨[], rfl, fun _ _ _ => List.nodup_nil, fun _ h => nomatch h⟩
  | b :: M, g :: Γ, m :: μ, s :: σ, fp, hl, h => by
    obtain ⟨fp1, fp2, h1, h2, rfl⟩ := h
    obtain ⟨fm, fr, a1, a2, a3, a4, a5, a6⟩ := StR.bor (M := M) (Nat.succ.inj hl) h2
    cases b with
    | true =>
      refine ⟨fp1 ++ fm, fr, fun a h => ?_, fun a h => List.mem_append_right _ (a2 a h), fun a h => ?_, fun n => ?_, fun B1 hB fz bn => ?_, fun B' H' Γ' μ' fm' h c bn k => ?_⟩
      · exact (List.mem_append.mp h).elim (fun q => List.mem_append_left _ q) fun q => List.mem_append_right _ (a1 a q)
      · exact (List.mem_append.mp h).elim (fun q => .inl (List.mem_append_left _ q)) fun q => (a3 a q).imp (fun z => List.mem_append_right _ z) id
      · have n' := nodup_app.mp n
        have q := a4 n'.2.1
        refine ⟨nodup_app.mpr ⟨n'.1, q.1, fun x hx hy => n'.2.2 x hx (a1 x hy)⟩, q.2.1, fun a h z => ?_⟩
        rcases List.mem_append.mp h with h | h
        · exact n'.2.2 a h (a2 a z)
        · exact q.2.2 a h z
      · exact ⟨fp1, fm, h1.mono hB fun a h => ⟨fun o e => e, bn a (List.mem_append_left _ h)⟩, a5 B1 hB fz (fun a h => bn a (List.mem_append_right _ h)), rfl⟩
      · match Γ', μ', h with
        | [], [], h => exact h.elim
        | [], _ :: _, h => exact h.elim
        | _ :: _, [], h => exact h.elim
        | g' :: Γ', m' :: μ', h =>
          obtain ⟨f1, f2, q1, q2, rfl⟩ := h
          have c' : ((!true || closed m' || decide (m' = .U) || decide (m' = .X)) && closedOn M μ') = true := c
          rw [Bool.and_eq_true] at c'
          obtain ⟨fx, r1, r2, r3⟩ := a6 B' H' Γ' μ' f2 q2 c'.2 (fun a h => bn a (List.mem_append_right _ h)) k
          refine ⟨f1 ++ fx, ⟨f1, fx, q1.rebase (by simpa using c'.1) fun a h => ⟨fun o e => e, bn a (List.mem_append_left _ h)⟩, r1, rfl⟩, fun n1 n2 n3 => ?_, fun a h => ?_⟩
          · have n' := nodup_app.mp n1
            refine nodup_app.mpr ⟨n'.1, r2 n'.2.1 n2 fun a h => n3 a (List.mem_append_right _ h), fun x hx hy => ?_⟩
            rcases r3 x hy with z | z
            · exact n'.2.2 x hx z
            · exact n3 x (List.mem_append_left _ hx) z
          · rcases List.mem_append.mp h with h | h
            · exact .inl (List.mem_append_left _ h)
            · exact (r3 a h).imp (fun z => List.mem_append_right _ z) id
    | false =>
      refine ⟨fm, fp1 ++ fr, fun a h => List.mem_append_right _ (a1 a h), fun a h => ?_, fun a h => ?_, fun n => ?_, fun B1 hB fz bn => ?_, fun B' H' Γ' μ' fm' h c bn k => ?_⟩
      · exact (List.mem_append.mp h).elim (fun q => List.mem_append_left _ q) fun q => List.mem_append_right _ (a2 a q)
      · exact (List.mem_append.mp h).elim (fun q => .inr (List.mem_append_left _ q)) fun q => (a3 a q).imp id fun z => List.mem_append_right _ z
      · have n' := nodup_app.mp n
        have q := a4 n'.2.1
        refine ⟨q.1, nodup_app.mpr ⟨n'.1, q.2.1, fun x hx hy => n'.2.2 x hx (a2 x hy)⟩, fun a h z => ?_⟩
        rcases List.mem_append.mp z with z | z
        · exact n'.2.2 a z (a1 a h)
        · exact q.2.2 a h z
      · exact ⟨[], fm, h1.bor hB fz.left, a5 B1 hB fz.right bn, rfl⟩
      · match Γ', μ', h with
        | [], [], h => exact h.elim
        | [], _ :: _, h => exact h.elim
        | _ :: _, [], h => exact h.elim
        | g' :: Γ', m' :: μ', h =>
          obtain ⟨f1, f2, q1, q2, rfl⟩ := h
          have c' : ((!false || closed m' || decide (m' = .U) || decide (m' = .X)) && closedOn M μ') = true := c
          rw [Bool.and_eq_true] at c'
          obtain ⟨fx, r1, r2, r3⟩ := a6 B' H' Γ' μ' f2 q2 c'.2 (fun a h => bn a (List.mem_append_right _ h)) fun a h => k a (List.mem_append_right _ h)
          refine ⟨fp1 ++ fx, ⟨fp1, fx, h1.mono (Same.refl _) fun a h => ⟨k a (List.mem_append_left _ h), (h1.own a h).1⟩, r1, rfl⟩, fun n1 n2 n3 => ?_, fun a h => ?_⟩
          · have n' := nodup_app.mp n1
            have m' := nodup_app.mp n2
            refine nodup_app.mpr ⟨m'.1, r2 n'.2.1 m'.2.1 (fun a h q => n3 a (List.mem_append_right _ h) (List.mem_append_right _ q)), fun x hx hy => ?_⟩
            rcases r3 x hy with z | z
            · exact n3 x (List.mem_append_right _ z) (List.mem_append_left _ hx)
            · exact m'.2.2 x hx z
          · rcases List.mem_append.mp h with h | h
            · exact .inr (List.mem_append_left _ h)
            · exact (r3 a h).imp (fun z => List.mem_append_right _ z) fun z => List.mem_append_right _ z
  | [], _, _ :: _, _, _, hl, _ => by cases hl
  | _ :: _, _, [], _, _, hl, _ => by cases hl
  | [], _ :: _, [], _, _, _, h => h.elim
  | [], [], [], _ :: _, _, _, h => h.elim
  | _ :: _, [], _ :: _, _, _, _, h => h.elim
  | _ :: _, _ :: _, _ :: _, [], _, _, h => h.elim
end
/-- the borrowed evaluation -/
def eBor {α : Type} (M : List Bool) (f : Gam → Rz α) (Γ : Gam) : Rz α := match f Γ with
  | .ok d Γ' => .ok d (mixG M Γ Γ')
  | .exc x Γ' => .exc x (mixG M Γ Γ')
  | .bad => .bad
/-- the wish within a borrowing -/
def Wh.bor (w : Wh) (μ1 : List Mode) : Wh := ⟨w.W, μ1⟩
section
variable {X : Cx} {w : Wh} {μ μ' μ1 μ2 : List Mode} {e a b c : Expr} {es : List Expr} {f g : Gam → Rz D} {m m' m1 m2 : Mode} {pos : Pos} {M : List Bool}
/-- what a borrowing gives: the inner state and the way back -/
theorem bor_core {K : PySem.W.Frag} {B H : Hp} {Γ : Gam} {σ : St} {fp : List Addr} (hl : M.length = μ.length) (st : Sta K B H Γ μ σ fp) : ∃ B1 fm, Sta K B1 H Γ (borM M μ) σ fm ∧
    (∀ B' H' Γ' μ' fpv fp', Stp B1 H fm B' H' (fpv ++ fp') → Sta K B' H' Γ' μ' σ fp' → closedOn M μ' = true → (fpv ++ fp').Nodup → ∃ fx, Stp B H fp B H' (fpv ++ fx) ∧ Sta K B H' (mixG M Γ Γ') (mixM M μ μ') σ fx ∧ (fpv ++ fx).Nodup ∧ ∀ a ∈ fpv, B a = none) := by
  obtain ⟨fm, fr, a1, a2, a3, a4, a5, a6⟩ := StR.bor (M := M) hl st.st
  have n := a4 st.nd
  have own := st.st.own
  -- all but fm is frozen
  let B1 : Hp := fun a => if a ∈ fm then none else H a
  have b1in : ∀ a ∈ fm, B1 a = none := fun a h => if_pos h
  have b1out : ∀ a, a ∉ fm → B1 a = H a := fun a h => if_neg h
  have hB1 : Same B B1 := fun a o e => by
    have z : a ∉ fm := fun q => by
      have := (own a (a1 a q)).1
      rw [this] at e; cases e
    rw [b1out a z]; exact st.same a o e
  have hB1H : Same B1 H := fun a o e => by
    by_cases q : a ∈ fm
    · rw [b1in a q] at e; cases e
    · rw [b1out a q] at e; exact e
  have fz : Frozen B1 H fr := fun a h o e => by rw [b1out a fun q => n.2.2 a q h]; exact e
  refine ⟨B1, fm, ⟨hB1H, a5 B1 hB1 fz b1in, n.1⟩, fun B' H' Γ' μ' fpv fp' s st' cl nd => ?_⟩
  · have nB : ∀ a ∈ fpv ++ fp', B a = none := fun a h => by
      rcases s.own a h with z | z
      · exact (own a (a1 a z)).1
      · cases q : B a with
        | none => rfl
        | some o => rw [st.same a o q] at z; cases z
    have frk : ∀ a ∈ fr, ∀ o, H a = some o → H' a = some o := fun a h o e => s.keep a o (fun q => n.2.2 a q h) e
    obtain ⟨fx, r1, r2, r3⟩ := a6 B' H' Γ' μ' fp' st'.st cl (fun a h => nB a (List.mem_append_right _ h)) frk
    have n' := nodup_app.mp nd
    have dj : ∀ a ∈ fpv ++ fp', a ∉ fr := fun a h q => by
      rcases s.own a h with z | z
      · exact n.2.2 a z q
      · obtain ⟨o, e⟩ := (own a (a2 a q)).2
        rw [e] at z; cases z
    refine ⟨fx, ⟨Same.refl _, fun a o na e => s.keep a o (fun q => na (a1 a q)) e, fun a h => ?_, fun a o e => .inl e⟩, ⟨fun a o e => ?_, r1, r2 n'.2.1 n.2.1 fun a h => dj a (List.mem_append_right _ h)⟩,
      nodup_app.mpr ⟨n'.1, r2 n'.2.1 n.2.1 (fun a h => dj a (List.mem_append_right _ h)), fun a h q => ?_⟩, fun a h => nB a (List.mem_append_left _ h)⟩
    · rcases List.mem_append.mp h with h | h
      · exact (s.own a (List.mem_append_left _ h)).imp (a1 a) id
      · rcases r3 a h with z | z
        · exact (s.own a (List.mem_append_right _ z)).imp (a1 a) id
        · exact .inl (a2 a z)
    · exact s.keep a o (fun q => by
        have := (own a (a1 a q)).1
        rw [this] at e; cases e) (st.same a o e)
    · rcases r3 a q with z | z
      · exact n'.2.2 a h z
      · exact dj a (List.mem_append_left _ h) z
theorem ExcR.rebase {K : PySem.W.Frag} {B B' H : Hp} {x : Xc} {cls : Value} {dd : Option Addr} {fp : List Addr} (h : ExcR K B H x cls dd fp) (k : ∀ a ∈ fp, B' a = none) : ExcR K B' H x cls dd fp := by
  obtain ⟨e, d, fs, vs, fq, e1, b0, hd, r, hl, hf, rfl⟩ := h
  exact ⟨e, d, fs, vs, fq, e1, k d List.mem_cons_self, hd, r.rebase x.ds rfl fun a h => ⟨fun o e => e, k a (List.mem_cons_of_mem _ h)⟩, hl, hf, rfl⟩
theorem DE.bor (hl : M.length = μ.length) (h : DE X (w.bor μ1) (borM M μ) e f m μ') (cm : closed m = true) (c1 : closedOn M μ' = true) (c2 : closedOn M μ1 = true) (wk : weakL (mixM M μ μ1) w.μx = true) : DE X w μ e (eBor M f) m (mixM M μ μ') := by
  refine ⟨h.pe.imp fun σ H Q ⟨B, Γ, fp, st, q⟩ => ?_⟩
  obtain ⟨B1, fm, st1, back⟩ := bor_core hl st
  refine ⟨B1, Γ, fm, st1, ?_⟩
  unfold eBor at q
  revert q
  cases f Γ with
  | ok d Γ' =>
    intro q B' H' v fpv fp' s st' r nd
    obtain ⟨fx, s2, st2, nd2, nB⟩ := back B' H' Γ' μ' fpv fp' s st' c1 nd
    exact q B H' v fpv fx s2 st2 (r.rebase d cm fun a h => ⟨fun o e => e, nB a h⟩) nd2
  | exc x Γ' =>
    intro q B' H' fpe fp' cls dd s st' ex nd
    obtain ⟨fx, s2, st2, nd2, nB⟩ := back B' H' Γ' μ1 fpe fp' s st' c2 nd
    obtain ⟨B3, fy, s3, st3, k3⟩ := st2.weak (l := fpe) wk (fun a h => ⟨nB a h, by
      obtain ⟨_, d, fs, vs, fq, _, b0, hd, r, _, _, rfl⟩ := ex
      rcases List.mem_cons.mp h with rfl | h
      · exact ⟨_, hd⟩
      · exact (Rl.own x.ds r a h).2⟩) (nodup_app.mp nd2).2.2
    have n2 := nodup_app.mp nd2
    refine q B3 H' fpe fy cls dd (s2.seq s3) st3 ((ex.rebase nB).rebase fun a h => (k3 a h).2) (nodup_app.mpr ⟨n2.1, st3.nd, s3.apart (fun a h => ?_) n2.2.2⟩)
    obtain ⟨_, d, fs, vs, fq, _, b0, hd, r, _, _, rfl⟩ := ex
    rcases List.mem_cons.mp h with rfl | h
    · exact ⟨_, hd⟩
    · exact (Rl.own x.ds r a h).2
  | bad => exact id
theorem DT.bor {f : Gam → Rz Bool} (hl : M.length = μ.length) (h : DT X (w.bor μ1) (borM M μ) e f μ') (c1 : closedOn M μ' = true) (c2 : closedOn M μ1 = true) (wk : weakL (mixM M μ μ1) w.μx = true) : DT X w μ e (eBor M f) (mixM M μ μ') := by
  refine ⟨h.pt.imp fun σ H Q ⟨B, Γ, fp, st, q⟩ => ?_⟩
  obtain ⟨B1, fm, st1, back⟩ := bor_core hl st
  refine ⟨B1, Γ, fm, st1, ?_⟩
  unfold eBor at q
  revert q
  cases f Γ with
  | ok d Γ' =>
    intro q B' H' fp' s st'
    obtain ⟨fx, s2, st2, nd2, nB⟩ := back B' H' Γ' μ' [] fp' s st' c1 st'.nd
    exact q B H' fx s2 st2
  | exc x Γ' =>
    intro q B' H' fpe fp' cls dd s st' ex nd
    obtain ⟨fx, s2, st2, nd2, nB⟩ := back B' H' Γ' μ1 fpe fp' s st' c2 nd
    obtain ⟨B3, fy, s3, st3, k3⟩ := st2.weak (l := fpe) wk (fun a h => ⟨nB a h, by
      obtain ⟨_, d, fs, vs, fq, _, b0, hd, r, _, _, rfl⟩ := ex
      rcases List.mem_cons.mp h with rfl | h
      · exact ⟨_, hd⟩
      · exact (Rl.own x.ds r a h).2⟩) (nodup_app.mp nd2).2.2
    have n2 := nodup_app.mp nd2
    refine q B3 H' fpe fy cls dd (s2.seq s3) st3 ((ex.rebase nB).rebase fun a h => (k3 a h).2) (nodup_app.mpr ⟨n2.1, st3.nd, s3.apart (fun a h => ?_) n2.2.2⟩)
    obtain ⟨_, d, fs, vs, fq, _, b0, hd, r, _, _, rfl⟩ := ex
    rcases List.mem_cons.mp h with rfl | h
    · exact ⟨_, hd⟩
    · exact (Rl.own x.ds r a h).2
  | bad => exact id
/-! ### tests -/
def eB (f : Gam → Rz D) (Γ : Gam) : Rz Bool := (f Γ).bind fun d Γ1 => match d with
  | .bl b => .ok b Γ1
  | _ => .bad
theorem tB_of {K : PySem.W.Frag} {σ : St} {H : Hp} {Q : Bool → Hp → Prop} (q : tDT K w μ (eB f) μ' σ H Q) : tD K w μ f m μ' σ H fun x H' => ∃ k, x = .bl k ∧ Q k H' := by
  obtain ⟨B, Γ, fp, st, q⟩ := q
  refine ⟨B, Γ, fp, st, ?_⟩
  unfold eB at q
  revert q
  cases f Γ with
  | ok d Γ' =>
    cases d with
    | bl b =>
      intro q B' H' v fpv fp' s st' r nd
      obtain ⟨rfl, rfl⟩ := r
      exact ⟨b, rfl, q B' H' fp' s st'⟩
    | _ => exact fun q => q.elim
  | exc x Γ' => exact id
  | bad => exact id
theorem DT.val (h : DE X w μ e f m μ') (he : ∀ whole, isTrue e X.env whole = (do let v ← whole; standAt e.pos; holding [v] (truthy v))) : DT X w μ e (eB f) μ' :=
  ⟨(pt_val h.pe he).imp fun _ _ _ q => tB_of q⟩
theorem DT.cmp {op : CmpOp} {r : R2} {h : D → D → Option D} (ho : OpR X (compareOp op) r) (hm : behindInMarks op b = false) (od : OpD X.K r m1 m2 h m) (ha : DE X w μ a f m1 μ1) (hb : DE X w μ1 b g m2 μ2) : DT X w μ (.Compare a [op] [b] pos) (eB (e2 h f g)) μ2 :=
  ⟨(pt_cmpR ho ha.pe hb.pe hm).imp fun σ H Q q => by
    show tOp r _ _ σ H _
    exact tOp_of od (tB_of q)⟩
/-- truth of any value -/
def truD : D → Option Bool
  | .non => some false
  | .bl b => some b
  | .int i => some (i != 0)
  | .lst ds => some (!ds.isEmpty)
  | .tup ds => some (!ds.isEmpty)
  | _ => none
def eTru (f : Gam → Rz D) (Γ : Gam) : Rz Bool := (f Γ).bind fun d Γ1 => Rz.opt (truD d) Γ1
theorem Rl.empty {K : PySem.W.Frag} {B H : Hp} {ds : List D} {vs : List V} {fp : List Addr} (r : Rl K B H ds m vs fp) : vs.isEmpty = ds.isEmpty := by
  have := r.len
  cases vs <;> cases ds <;> first | rfl | cases this
theorem DT.tru (h : DE X w μ e f m μ') (he : ∀ whole, isTrue e X.env whole = (do let v ← whole; standAt e.pos; holding [v] (truthy v))) : DT X w μ e (eTru f) μ' := by
  refine ⟨(pt_truth h.pe he).imp fun σ H Q ⟨B, Γ, fp, st, q⟩ => ⟨B, Γ, fp, st, ?_⟩⟩
  unfold eTru at q
  revert q
  cases f Γ with
  | ok d Γ' =>
    cases e : truD d with
    | none =>
      intro q
      rw [show (Rz.ok d Γ').bind (fun d Γ1 => Rz.opt (truD d) Γ1) = Rz.bad from by show Rz.opt (truD d) Γ' = _; rw [e]; rfl] at q
      exact q.elim
    | some k =>
      intro q B' H' v fpv fp' s st' r nd
      rw [show (Rz.ok d Γ').bind (fun d Γ1 => Rz.opt (truD d) Γ1) = Rz.ok k Γ' from by show Rz.opt (truD d) Γ' = _; rw [e]; rfl] at q
      have q' : Q k H' := q B' H' fp' (s.less fun a h => List.mem_append_right _ h) st'
      refine ⟨k, ?_, q'⟩
      cases d with
      | non => obtain ⟨rfl, _⟩ := r; cases e; rfl
      | bl b => obtain ⟨rfl, _⟩ := r; cases e; rfl
      | int i => obtain ⟨rfl, _⟩ := r; cases e; rfl
      | lst ds =>
        cases e
        cases m with
        | F =>
          obtain ⟨_, a, vs, rfl, hs, hl, hr⟩ := r
          exact .inl ⟨vs, Same.sqL st'.same hs, by rw [hr.empty]⟩
        | O m =>
          obtain ⟨a, vs, fq, rfl, b0, ha, hl, hr, rfl⟩ := r
          exact .inl ⟨vs, SqL.of ha, by rw [hr.empty]⟩
        | _ => exact r.elim
      | tup ds =>
        cases e
        cases m with
        | F =>
          obtain ⟨_, a, vs, rfl, hs, hl, hr⟩ := r
          exact .inr (.inl ⟨vs, Same.sqT st'.same hs, by rw [hr.empty]⟩)
        | O m =>
          obtain ⟨a, vs, fq, rfl, b0, ha, hl, hr, rfl⟩ := r
          exact .inr (.inl ⟨vs, SqT.of ha, by rw [hr.empty]⟩)
        | _ => exact r.elim
      | _ => cases e
  | exc x Γ' => exact id
  | bad => exact id
def eNot (f : Gam → Rz Bool) (Γ : Gam) : Rz Bool := (f Γ).bind fun b Γ1 => .ok (!b) Γ1
theorem DT.not {f : Gam → Rz Bool} (h : DT X w μ a f μ') : DT X w μ (.UnaryOp .Not a pos) (eNot f) μ' :=
  ⟨(pt_not h.pt).imp fun σ H Q ⟨B, Γ, fp, st, q⟩ => ⟨B, Γ, fp, st, by
    unfold eNot at q
    revert q
    cases f Γ with
    | ok d Γ' => exact id
    | exc x Γ' => exact id
    | bad => exact id⟩⟩
def eAnd (f g : Gam → Rz Bool) (Γ : Gam) : Rz Bool := (f Γ).bind fun b Γ1 => if b = true then g Γ1 else .ok false Γ1
def eOr (f g : Gam → Rz Bool) (Γ : Gam) : Rz Bool := (f Γ).bind fun b Γ1 => if b = true then .ok true Γ1 else g Γ1
theorem DW.and1 {f : Gam → Rz Bool} (h : DT X w μ a f μ') : DW X w μ (.BoolOp .And [a] pos) f μ' := ⟨pw_and1 h.pt⟩
theorem DW.or1 {f : Gam → Rz Bool} (h : DT X w μ a f μ') : DW X w μ (.BoolOp .Or [a] pos) f μ' := ⟨pw_or1 h.pt⟩
theorem DT.of {f : Gam → Rz Bool} (h : DW X w μ a f μ') : DT X w μ a f μ' := ⟨h.pw.pt⟩
theorem DW.and {f g : Gam → Rz Bool} {rest : List Expr} (h : DT X w μ a f μ') (h2 : DW X w μ' (.BoolOp .And (b :: rest) pos) g μ') : DW X w μ (.BoolOp .And (a :: b :: rest) pos) (eAnd f g) μ' := by
  refine ⟨(pw_and h.pt h2.pw).imp fun σ H Q ⟨B, Γ, fp, st, q⟩ => ⟨B, Γ, fp, st, ?_⟩⟩
  unfold eAnd at q
  revert q
  cases f Γ with
  | ok d Γ' =>
    cases d with
    | false =>
      intro q B' H' fp' s st'
      show Q false H'
      exact q B' H' fp' s st'
    | true =>
      intro q B' H' fp' s st'
      show tDT X.K w μ' g μ' σ H' Q
      refine ⟨B', Γ', fp', st', ?_⟩
      revert q
      show (match g Γ' with
        | .ok b Γ' => _
        | .exc x Γ' => _
        | .bad => _) → _
      cases g Γ' with
      | ok d Γ2 => exact fun q B2 H2 fp2 s2 st2 => q B2 H2 fp2 (s.trans s2) st2
      | exc x Γ2 => exact fun q => wexc.after (l := []) q s
      | bad => exact id
  | exc x Γ' => exact id
  | bad => exact id
theorem DW.or {f g : Gam → Rz Bool} {rest : List Expr} (h : DT X w μ a f μ') (h2 : DW X w μ' (.BoolOp .Or (b :: rest) pos) g μ') : DW X w μ (.BoolOp .Or (a :: b :: rest) pos) (eOr f g) μ' := by
  refine ⟨(pw_or h.pt h2.pw).imp fun σ H Q ⟨B, Γ, fp, st, q⟩ => ⟨B, Γ, fp, st, ?_⟩⟩
  unfold eOr at q
  revert q
  cases f Γ with
  | ok d Γ' =>
    cases d with
    | true =>
      intro q B' H' fp' s st'
      show Q true H'
      exact q B' H' fp' s st'
    | false =>
      intro q B' H' fp' s st'
      show tDT X.K w μ' g μ' σ H' Q
      refine ⟨B', Γ', fp', st', ?_⟩
      revert q
      show (match g Γ' with
        | .ok b Γ' => _
        | .exc x Γ' => _
        | .bad => _) → _
      cases g Γ' with
      | ok d Γ2 => exact fun q B2 H2 fp2 s2 st2 => q B2 H2 fp2 (s.trans s2) st2
      | exc x Γ2 => exact fun q => wexc.after (l := []) q s
      | bad => exact id
  | exc x Γ' => exact id
  | bad => exact id
/-- values: and, or, not of bools; a if t else b -/
def eAndV (f g : Gam → Rz D) (Γ : Gam) : Rz D := (f Γ).bind fun d Γ1 => match d with
  | .bl true => g Γ1
  | .bl false => .ok (.bl false) Γ1
  | _ => .bad
def eOrV (f g : Gam → Rz D) (Γ : Gam) : Rz D := (f Γ).bind fun d Γ1 => match d with
  | .bl false => g Γ1
  | .bl true => .ok (.bl true) Γ1
  | _ => .bad
def eNotV (f : Gam → Rz D) : Gam → Rz D := e1 (fun d => match d with | .bl b => some (.bl (!b)) | _ => none) f
def eIf (t : Gam → Rz Bool) (f g : Gam → Rz D) (Γ : Gam) : Rz D := (t Γ).bind fun b Γ1 => if b = true then f Γ1 else g Γ1
/-- a second part behind a step that left no temporary -/
theorem tD_after {K : PySem.W.Frag} {σ : St} {B0 H0 B H : Hp} {fp0 l fp : List Addr} {Γ : Gam} {Q : VK} (s : Stp B0 H0 fp0 B H (l ++ fp)) (st : Sta K B H Γ μ σ fp)
    (q : match f Γ with
      | .ok d Γ' => ∀ B' H' v fpv fp', Stp B0 H0 fp0 B' H' (fpv ++ fp') → Sta K B' H' Γ' μ' σ fp' → R K B' H' d m v fpv → (fpv ++ fp').Nodup → Q v H'
      | .exc x Γ' => wexc K w B0 H0 fp0 σ x Γ'
      | .bad => False) : tD K w μ f m μ' σ H Q := by
  refine ⟨B, Γ, fp, st, ?_⟩
  revert q
  cases f Γ with
  | ok d Γ2 => exact fun q B2 H2 v fpv fp2 s2 st2 => q B2 H2 v fpv fp2 ((s.less fun a h => List.mem_append_right _ h).trans s2) st2
  | exc x Γ2 => exact fun q => wexc.after q s
  | bad => exact id
theorem DE.one {op : BoolOp} (h : DE X w μ a f m μ') : DE X w μ (.BoolOp op [a] pos) f m μ' := ⟨pe_one h.pe⟩
theorem DE.and {rest : List Expr} (h : DE X w μ a f m1 μ') (h2 : DE X w μ' (.BoolOp .And (b :: rest) pos) g m μ') : DE X w μ (.BoolOp .And (a :: b :: rest) pos) (eAndV f g) m μ' := by
  refine ⟨(pe_and h.pe h2.pe).imp fun σ H Q ⟨B, Γ, fp, st, q⟩ => ⟨B, Γ, fp, st, ?_⟩⟩
  unfold eAndV at q
  revert q
  cases f Γ with
  | ok d Γ' =>
    cases d with
    | bl k =>
      intro q B' H' v fpv fp' s st' r nd
      obtain ⟨rfl, rfl⟩ := r
      refine ⟨k, rfl, ?_⟩
      cases k with
      | true => exact tD_after s st' q
      | false => exact q B' H' (.bl false) [] fp' s st' ⟨rfl, rfl⟩ nd
    | _ => exact fun q => q.elim
  | exc x Γ' => exact id
  | bad => exact id
theorem DE.or {rest : List Expr} (h : DE X w μ a f m1 μ') (h2 : DE X w μ' (.BoolOp .Or (b :: rest) pos) g m μ') : DE X w μ (.BoolOp .Or (a :: b :: rest) pos) (eOrV f g) m μ' := by
  refine ⟨(pe_or h.pe h2.pe).imp fun σ H Q ⟨B, Γ, fp, st, q⟩ => ⟨B, Γ, fp, st, ?_⟩⟩
  unfold eOrV at q
  revert q
  cases f Γ with
  | ok d Γ' =>
    cases d with
    | bl k =>
      intro q B' H' v fpv fp' s st' r nd
      obtain ⟨rfl, rfl⟩ := r
      refine ⟨k, rfl, ?_⟩
      cases k with
      | false => exact tD_after s st' q
      | true => exact q B' H' (.bl true) [] fp' s st' ⟨rfl, rfl⟩ nd
    | _ => exact fun q => q.elim
  | exc x Γ' => exact id
  | bad => exact id
theorem DE.not (h : DE X w μ a f m μ') : DE X w μ (.UnaryOp .Not a pos) (eNotV f) .Z μ' := by
  refine ⟨(pe_not h.pe).imp fun σ H Q ⟨B, Γ, fp, st, q⟩ => ⟨B, Γ, fp, st, ?_⟩⟩
  unfold eNotV e1 at q
  revert q
  cases f Γ with
  | ok d Γ' =>
    cases d with
    | bl k =>
      intro q B' H' v fpv fp' s st' r nd
      obtain ⟨rfl, rfl⟩ := r
      exact ⟨k, rfl, q B' H' (.bl !k) [] fp' s st' ⟨rfl, rfl⟩ nd⟩
    | _ => exact fun q => q.elim
  | exc x Γ' => exact id
  | bad => exact id
theorem DE.ifE {t : Gam → Rz Bool} (hc : DT X w μ c t μ1) (h : DE X w μ1 a f m μ') (h2 : DE X w μ1 b g m μ') : DE X w μ (.IfExp c a b pos) (eIf t f g) m μ' := by
  refine ⟨(pe_ifExp hc.pt h.pe h2.pe).imp fun σ H Q ⟨B, Γ, fp, st, q⟩ => ⟨B, Γ, fp, st, ?_⟩⟩
  unfold eIf at q
  revert q
  cases t Γ with
  | ok k Γ' =>
    intro q B' H' fp' s st'
    cases k with
    | true => exact tD_after (l := []) s st' q
    | false => exact tD_after (l := []) s st' q
  | exc x Γ' => exact id
  | bad => exact id
end
end EV

/-! EvF: defs: what they promise, their calls. -/
namespace EV
open PySem PySem.Spec L2

/-- what a def gives: its value, the new values of the arguments that it changes -/
inductive Fo where
  | ok (d : D) (io : List (Option D)) | exc (x : Xc) (io : List (Option D)) | bad
def Ro (K : PySem.W.Frag) (B H : Hp) : List (Option D) → List Mode → List V → List Addr → Prop
  | [], [], vs, fp => vs = [] ∧ fp = []
  | g :: io, m :: ms, vs, fp => ∃ v r fp1 fp2, vs = v :: r ∧ SlR K B H g m (some v) fp1 ∧ Ro K B H io ms r fp2 ∧ fp = fp1 ++ fp2
  | _, _, _, _ => False
section
variable {K : PySem.W.Frag} {B H B' H' : Hp}
theorem Ro.own : ∀ {io : List (Option D)} {ms : List Mode} {vs : List V} {fp : List Addr}, Ro K B H io ms vs fp → ∀ a ∈ fp, B a = none ∧ ∃ o, H a = some o
  | [], [], vs, fp, h, a, ha => by rw [h.2] at ha; cases ha
  | d :: ds, m :: ms, vs, fp, h, a, ha => by
    obtain ⟨v, r, fp1, fp2, rfl, h1, h2, rfl⟩ := h
    rcases List.mem_append.mp ha with ha | ha
    · exact h1.own a ha
    · exact Ro.own h2 a ha
  | [], _ :: _, _, _, h, _, _ => h.elim
  | _ :: _, [], _, _, h, _, _ => h.elim
theorem Ro.mono (hB : Same B B') : ∀ {io : List (Option D)} {ms : List Mode} {vs : List V} {fp : List Addr}, Ro K B H io ms vs fp → Kept B' H H' fp → Ro K B' H' io ms vs fp
  | [], [], vs, fp, h, k => h
  | d :: ds, m :: ms, vs, fp, h, k => by
    obtain ⟨v, r, fp1, fp2, rfl, h1, h2, rfl⟩ := h
    exact ⟨v, r, fp1, fp2, rfl, h1.mono hB k.left, Ro.mono hB h2 k.right, rfl⟩
  | [], _ :: _, _, _, h, _ => h.elim
  | _ :: _, [], _, _, h, _ => h.elim
theorem Ro.take : ∀ {io : List (Option D)} {ms : List Mode} {vs : List V} {fp : List Addr} {p : Nat} {m : Mode} {v : V}, Ro K B H io ms vs fp → ms[p]? = some m → vs[p]? = some v →
    ∃ g fa fb, io[p]? = some g ∧ SlR K B H g m (some v) fa ∧ Ro K B H (io.set p none) ms vs fb ∧ (fp.Nodup → (fa ++ fb).Nodup) ∧ ∀ a, a ∈ fa ++ fb ↔ a ∈ fp
  | g :: io, m :: ms, vs, fp, 0, m1, v1, h, e1, e2 => by
    obtain ⟨v, r, fp1, fp2, rfl, h1, h2, rfl⟩ := h
    cases e1; cases e2
    exact ⟨g, fp1, fp2, rfl, h1, ⟨_, r, [], fp2, rfl, rfl, h2, rfl⟩, fun q => q, fun a => Iff.rfl⟩
  | g :: io, m :: ms, vs, fp, p + 1, m1, v1, h, e1, e2 => by
    obtain ⟨v, r, fp1, fp2, rfl, h1, h2, rfl⟩ := h
    obtain ⟨g', fa, fb, q0, q2, q3, q4, q5⟩ := Ro.take (p := p) h2 e1 e2
    refine ⟨g', fa, fp1 ++ fb, q0, q2, ⟨v, r, fp1, fb, rfl, h1, q3, rfl⟩, fun nd => ?_, fun a => ?_⟩
    · rw [nodup_app] at nd
      have n2 := nodup_app.mp (q4 nd.2.1)
      rw [nodup_app, nodup_app]
      refine ⟨n2.1, ⟨nd.1, n2.2.1, fun x hx hb => nd.2.2 x hx ((q5 x).mp (List.mem_append_right _ hb))⟩, fun x hx hb => ?_⟩
      rcases List.mem_append.mp hb with hb | hb
      · exact nd.2.2 x hb ((q5 x).mp (List.mem_append_left _ hx))
      · exact n2.2.2 x hx hb
    · have := q5 a
      simp only [List.mem_append] at this ⊢
      constructor
      · rintro (h | h | h)
        · exact .inr (this.mp (.inl h))
        · exact .inl h
        · exact .inr (this.mp (.inr h))
      · rintro (h | h)
        · exact .inr (.inl h)
        · rcases this.mpr h with h | h
          · exact .inl h
          · exact .inr (.inr h)
  | [], _ :: _, _, _, _, _, _, h, _, _ => h.elim
  | [], [], _, _, _, _, _, h, e, _ => by cases e
  | _ :: _, [], _, _, _, _, _, h, _, _ => h.elim
end
/-- the promise of a def: pm its parameters' modes, rm its value's, F what it gives -/
def spD (K : PySem.W.Frag) (pm : List Mode) (rm : Mode) (F : List D → Fo) : Sp := fun vs H Q E => ∃ B ds fp, Same B H ∧ Ra K B H ds pm vs fp ∧ fp.Nodup ∧ match F ds with
  | .ok d io => ∀ B' H' v fpv fp', Stp B H fp B' H' (fpv ++ fp') → Same B' H' → R K B' H' d rm v fpv → Ro K B' H' io pm vs fp' → (fpv ++ fp').Nodup → Q v H'
  | .exc x io => ∀ B' H' fpe fp' cls dd, Stp B H fp B' H' (fpe ++ fp') → Same B' H' → ExcR K B' H' x cls dd fpe → Ro K B' H' io pm vs fp' → (fpe ++ fp').Nodup → E cls dd H'
  | .bad => False

/-! ### arguments, some of them lent -/
abbrev Ios := List (Nat × Nat)
def IoOk (ios : Ios) (vs : List V) (σ : St) : Prop := ∀ q ∈ ios, ∃ v, vs[q.1]? = some v ∧ σ[q.2]? = some (some v)
def tDAi (K : PySem.W.Frag) (w : Wh) (μ : List Mode) (f : Gam → Rz (List D)) (ms : List Mode) (ios : Ios) (μ' : List Mode) : TA := fun σ H Q => ∃ B Γ fp, Sta K B H Γ μ σ fp ∧ match f Γ with
  | .ok ds Γ' => ∀ B' H' vs fpv fp', Stp B H fp B' H' (fpv ++ fp') → Sta K B' H' Γ' μ' σ fp' → Ra K B' H' ds ms vs fpv → (fpv ++ fp').Nodup → IoOk ios vs σ → Q vs H'
  | .exc x Γ' => wexc K w B H fp σ x Γ'
  | .bad => False
structure DAi (X : Cx) (w : Wh) (μ : List Mode) (es : List Expr) (f : Gam → Rz (List D)) (ms : List Mode) (ios : Ios) (μ' : List Mode) : Prop where
  pa : PA X es (tDAi X.K w μ f ms ios μ')
def shift (ios : Ios) : Ios := ios.map fun q => (q.1 + 1, q.2)
theorem IoOk.shift {ios : Ios} {v : V} {vs : List V} {σ : St} (h : IoOk ios vs σ) : IoOk (shift ios) (v :: vs) σ := fun q hq => by
  obtain ⟨p, hp, rfl⟩ := List.mem_map.mp hq
  obtain ⟨u, h1, h2⟩ := h p hp
  exact ⟨u, by simpa using h1, h2⟩
section
variable {X : Cx} {w : Wh} {μ μ' μ1 μ2 : List Mode} {e a b : Expr} {es : List Expr} {f g : Gam → Rz D} {m m' m1 m2 : Mode} {pos : Pos} {r : Gam → Rz (List D)} {ms : List Mode} {ios : Ios}
theorem DAi.nil : DAi X w μ [] aNil [] [] μ := ⟨pa_nil.imp fun σ H Q ⟨B, Γ, fp, st, q⟩ => q B H [] [] fp (Stp.refl _ _ _) st ⟨rfl, rfl⟩ st.nd fun _ h => nomatch h⟩
theorem DAi.cons (ha : DE X w μ a f m μ1) (hr : DAi X w μ1 es r ms ios μ2) (hs : starEach (a :: es) X.env = (false, eval a X.env) :: starEach es X.env) : DAi X w μ (a :: es) (aCons f r) (m :: ms) (shift ios) μ2 := by
  refine ⟨(pa_cons ha.pe hr.pa hs).imp fun σ H Q ⟨B, Γ, fp, st, q⟩ => ⟨B, Γ, fp, st, ?_⟩⟩
  unfold aCons at q
  cases e1 : f Γ with
  | bad => rw [e1] at q; exact q.elim
  | exc x Γ' => rw [e1] at q; exact q
  | ok x Γ1 =>
    rw [e1] at q
    intro B1 H1 u fu fp1 s1 st1 r1 n1
    refine ⟨B1, Γ1, fp1, st1, ?_⟩
    simp only [Rz.bind] at q
    show match r Γ1 with
      | .ok d Γ' => _
      | .exc x Γ' => _
      | .bad => _
    cases e2 : r Γ1 with
    | bad => rw [e2] at q; exact q.elim
    | exc x Γ' => rw [e2] at q; exact wexc.after q s1
    | ok xs Γ2 =>
      rw [e2] at q
      intro B2 H2 vs fv fp2 s2 st2 r2 n2 io
      have r1' : R X.K B2 H2 x m u fu := r1.over (s2.less fun a h => List.mem_append_right _ h) n1
      have nn : (fu ++ (fv ++ fp2)).Nodup := nodup_over (fun a h => (R.own x r1 a h).2) s2 n1 n2
      refine q B2 H2 (u :: vs) (fu ++ fv) fp2 ?_ st2 ⟨u, vs, fu, fv, rfl, r1', r2, rfl⟩ (by rw [List.append_assoc]; exact nn) io.shift
      have := s1.seq s2
      rwa [← List.append_assoc] at this
/-- an argument that is lent: a name -/
theorem DAi.io {i : Nat} {x : Str} (hN : X.N[i]? = some x) (hv : Vis X.env.scope x) (hd : (x == ("__debug__" : Str)) = false) (hcd : (x == ("__classdict__" : Str)) = false) (hm : μ[i]? = some m) (hf : m ≠ .X)
    (hr : DAi X w (μ.set i .U) es r ms ios μ2) (hs : starEach (.Name x pos :: es) X.env = (false, eval (.Name x pos) X.env) :: starEach es X.env) : DAi X w μ (.Name x pos :: es) (aCons (eMv i) r) (m :: ms) ((0, i) :: shift ios) μ2 := by
  refine ⟨(pa_cons (pe_var hN hv hd hcd) hr.pa hs).imp fun σ H Q ⟨B, Γ, fp, st, q⟩ => ?_⟩
  unfold aCons eMv at q
  cases e : getG Γ i with
  | none => rw [e] at q; exact q.elim
  | some x =>
    rw [e] at q
    obtain ⟨u, fu, fp1, h1, r1, h3, h4, h5⟩ := StR.take (m0 := .U) st.st (getG_some e) hm hf
    have n1 := h4 st.nd
    have s1 : Stp B H fp B H (fu ++ fp1) := (Stp.refl _ _ _).less fun a h => (h5 a).mp h
    refine ⟨u, h1, B, Γ.set i none, fp1, ⟨st.same, h3, (nodup_app.mp n1).2.1⟩, ?_⟩
    simp only [Rz.bind, Rz.opt] at q
    show match r (Γ.set i none) with
      | .ok d Γ' => _
      | .exc x Γ' => _
      | .bad => _
    cases e2 : r (Γ.set i none) with
    | bad => rw [e2] at q; exact q.elim
    | exc x Γ' => rw [e2] at q; exact wexc.after q s1
    | ok xs Γ2 =>
      rw [e2] at q
      intro B2 H2 vs fv fp2 s2 st2 r2 n2 io
      have r1' : R X.K B2 H2 x m u fu := r1.over (s2.less fun a h => List.mem_append_right _ h) n1
      have nn : (fu ++ (fv ++ fp2)).Nodup := nodup_over (fun a h => (R.own x r1 a h).2) s2 n1 n2
      refine q B2 H2 (u :: vs) (fu ++ fv) fp2 ?_ st2 ⟨u, vs, fu, fv, rfl, r1', r2, rfl⟩ (by rw [List.append_assoc]; exact nn) fun p hp => ?_
      · have := s1.seq s2
        rwa [← List.append_assoc] at this
      · rcases List.mem_cons.mp hp with rfl | hp
        · exact ⟨u, rfl, h1⟩
        · exact io.shift p hp
def putIo : Ios → List (Option D) → Gam → Gam
  | [], _, Γ => Γ
  | (p, j) :: q, io, Γ => putIo q (io.set p none) (match io[p]? with
    | some (some d) => Γ.set j (some d)
    | _ => Γ.set j none)
def putM : Ios → List Mode → List Mode → List Mode
  | [], _, μ => μ
  | (p, j) :: q, pm, μ => putM q pm (μ.set j (pm.getD p .U))
theorem StR.putO {K : PySem.W.Frag} {B H : Hp} {Γ : Gam} {μ : List Mode} {σ : St} {fp : List Addr} {i : Nat} {g : Option D} {m : Mode} {v : V} {fd : List Addr} (h : StR K B H Γ μ σ fp) (hi : σ[i]? = some (some v)) (hr : SlR K B H g m (some v) fd) :
    ∃ fp', StR K B H (Γ.set i g) (μ.set i m) σ fp' ∧ ((fd ++ fp).Nodup → fp'.Nodup) ∧ ∀ a, a ∈ fp' → a ∈ fd ++ fp := by
  induction Γ generalizing μ σ fp i with
  | nil =>
    cases μ <;> cases σ <;> first | exact h.elim | (cases hi)
  | cons g0 Γ ih =>
    match μ, σ, h with
    | m0 :: μ, s0 :: σ, h =>
      obtain ⟨fp1, fp2, h1, h2, rfl⟩ := h
      cases i with
      | zero =>
        have hi' : s0 = some v := by simpa using hi
        subst hi'
        refine ⟨fd ++ fp2, ⟨fd, fp2, hr, h2, rfl⟩, fun nd => ?_, fun a ha => ?_⟩
        · rw [nodup_app, nodup_app] at nd
          rw [nodup_app]
          exact ⟨nd.1, nd.2.1.2.1, fun x hx hb => nd.2.2 x hx (List.mem_append_right _ hb)⟩
        · rcases List.mem_append.mp ha with ha | ha
          · exact List.mem_append_left _ ha
          · exact List.mem_append_right _ (List.mem_append_right _ ha)
      | succ i =>
        obtain ⟨fp', q1, q2, q3⟩ := ih h2 (i := i) (by simpa using hi)
        refine ⟨fp1 ++ fp', ⟨fp1, fp', h1, q1, rfl⟩, fun nd => ?_, fun a ha => ?_⟩
        · rw [nodup_app, nodup_app] at nd
          rw [nodup_app]
          refine ⟨nd.2.1.1, q2 (nodup_app.mpr ⟨nd.1, nd.2.1.2.1, fun x hx hb => nd.2.2 x hx (List.mem_append_right _ hb)⟩), fun x hx hb => ?_⟩
          rcases List.mem_append.mp (q3 x hb) with hb | hb
          · exact nd.2.2 x hb (List.mem_append_left _ hx)
          · exact nd.2.1.2.2 x hx hb
        · rcases List.mem_append.mp ha with ha | ha
          · exact List.mem_append_right _ (List.mem_append_left _ ha)
          · rcases List.mem_append.mp (q3 a ha) with ha | ha
            · exact List.mem_append_left _ ha
            · exact List.mem_append_right _ (List.mem_append_right _ ha)
    | [], _, h => exact h.elim
    | _ :: _, [], h => exact h.elim
/-- what was lent comes back -/
theorem putIo_ok {K : PySem.W.Frag} {B H : Hp} : ∀ {ios : Ios} {io : List (Option D)} {pm : List Mode} {vs : List V} {fp1 : List Addr} {Γ : Gam} {μ : List Mode} {σ : St} {fp : List Addr}, Ro K B H io pm vs fp1 → StR K B H Γ μ σ fp → IoOk ios vs σ → (fp1 ++ fp).Nodup →
    ∃ fp', StR K B H (putIo ios io Γ) (putM ios pm μ) σ fp' ∧ fp'.Nodup ∧ ∀ a ∈ fp', a ∈ fp1 ++ fp
  | [], io, pm, vs, fp1, Γ, μ, σ, fp, h, st, ok, nd => ⟨fp, st, (nodup_app.mp nd).2.1, fun a h => List.mem_append_right _ h⟩
  | (p, j) :: ios, io, pm, vs, fp1, Γ, μ, σ, fp, h, st, ok, nd => by
    obtain ⟨v, e1, e2⟩ := ok (p, j) List.mem_cons_self
    have hlp : ∃ m, pm[p]? = some m := by
      have : vs.length = pm.length := by
        clear nd ok e1 st
        induction io generalizing pm vs fp1 with
        | nil => cases pm with
          | nil => rw [h.1]; rfl
          | cons => exact h.elim
        | cons g io ih => cases pm with
          | nil => exact h.elim
          | cons m pm =>
            obtain ⟨v, r, f1, f2, rfl, h1, h2, rfl⟩ := h
            simp [ih _ _ _ h2]
      have hp : p < pm.length := by rw [← this]; exact (List.getElem?_eq_some_iff.mp e1).1
      exact ⟨pm[p], List.getElem?_eq_getElem hp⟩
    obtain ⟨m, em⟩ := hlp
    obtain ⟨g, fa, fb, q0, q2, q3, q4, q5⟩ := h.take em e1
    have n := nodup_app.mp nd
    have nab := nodup_app.mp (q4 n.1)
    obtain ⟨fp2, p1, p2, p3⟩ := st.putO e2 q2
    have nfa : (fa ++ fp).Nodup := nodup_app.mpr ⟨nab.1, n.2.1, fun x hx hy => n.2.2 x ((q5 x).mp (List.mem_append_left _ hx)) hy⟩
    have nd2 : (fb ++ fp2).Nodup := nodup_app.mpr ⟨nab.2.1, p2 nfa, fun x hx hy => by
      rcases List.mem_append.mp (p3 x hy) with z | z
      · exact nab.2.2 x z hx
      · exact n.2.2 x ((q5 x).mp (List.mem_append_right _ hx)) z⟩
    obtain ⟨fp', r1, r2, r3⟩ := putIo_ok q3 p1 (fun q hq => ok q (List.mem_cons_of_mem _ hq)) nd2
    refine ⟨fp', ?_, r2, fun a h => ?_⟩
    · show StR K B H (putIo ios (io.set p none) _) (putM ios pm (μ.set j (pm.getD p .U))) σ fp'
      have e : pm.getD p .U = m := by rw [List.getD_eq_getElem?_getD, em]; rfl
      rw [e, q0]
      cases g <;> exact r1
    · rcases List.mem_append.mp (r3 a h) with z | z
      · exact List.mem_append_left _ ((q5 a).mp (List.mem_append_right _ z))
      · rcases List.mem_append.mp (p3 a z) with z | z
        · exact List.mem_append_left _ ((q5 a).mp (List.mem_append_left _ z))
        · exact List.mem_append_right _ z
/-! ### the call of a def by its name -/
def eCall (F : List D → Fo) (ios : Ios) (dds : List D) (fa : Gam → Rz (List D)) (Γ : Gam) : Rz D := (fa Γ).bind fun ds Γ1 => match F (ds ++ dds) with
  | .ok d io => .ok d (putIo ios io Γ1)
  | .exc x io => .exc x (putIo ios io Γ1)
  | .bad => .bad
theorem Ra.append {K : PySem.W.Frag} {B H : Hp} : ∀ {ds ds' : List D} {ms ms' : List Mode} {vs vs' : List V} {fp fp' : List Addr}, Ra K B H ds ms vs fp → Ra K B H ds' ms' vs' fp' → Ra K B H (ds ++ ds') (ms ++ ms') (vs ++ vs') (fp ++ fp')
  | [], _, [], _, vs, _, fp, _, h, h' => by rw [h.1, h.2]; exact h'
  | d :: ds, _, m :: ms, _, vs, _, fp, _, h, h' => by
    obtain ⟨v, r, fp1, fp2, rfl, h1, h2, rfl⟩ := h
    exact ⟨v, _, fp1, _, rfl, h1, Ra.append h2 h', by rw [List.append_assoc]⟩
  | [], _, _ :: _, _, _, _, _, _, h, _ => h.elim
  | _ :: _, _, [], _, _, _, _, _, h, _ => h.elim
/-- what a promise gives to the caller -/
theorem call_of {K : PySem.W.Frag} {F : List D → Fo} {pm : List Mode} {rm : Mode} {dds : List D} {dms : List Mode} {dvs : List V} {fa : Gam → Rz (List D)} {σ : St} {H : Hp} {Q : VK} (hdef : ∀ B H, Ra K B H dds dms dvs []) (hpm : pm = ms ++ dms) (wk : weakL (putM ios pm μ1) w.μx = true)
    (q : tD K w μ (eCall F ios dds fa) rm (putM ios pm μ1) σ H Q) : tDAi K w μ fa ms ios μ1 σ H fun vs H1 => spD K pm rm F (vs ++ dvs) H1 Q (WE w.W σ) := by
  obtain ⟨B, Γ, fp, st, q⟩ := q
  refine ⟨B, Γ, fp, st, ?_⟩
  unfold eCall at q
  cases e1 : fa Γ with
  | bad => rw [e1] at q; exact q.elim
  | exc x Γ' => rw [e1] at q; exact q
  | ok ds Γ1 =>
    rw [e1] at q
    intro B1 H1 vs fv fp1 s1 st1 r1 n1 io1
    simp only [Rz.bind] at q
    have ra : Ra K B1 H1 (ds ++ dds) pm (vs ++ dvs) fv := by
      rw [hpm]
      have := r1.append (hdef B1 H1)
      rwa [List.append_nil] at this
    have io2 : IoOk ios (vs ++ dvs) σ := fun p hp => by
      obtain ⟨v, h1, h2⟩ := io1 p hp
      exact ⟨v, by rw [List.getElem?_append_left (List.getElem?_eq_some_iff.mp h1).1]; exact h1, h2⟩
    have n := nodup_app.mp n1
    refine ⟨B1, ds ++ dds, fv, st1.same, ra, n.1, ?_⟩
    -- the state over the call
    have over : ∀ {B' H' : Hp} {l : List Addr}, Stp B1 H1 fv B' H' l → StR K B' H' Γ1 μ1 σ fp1 ∧ (∀ a ∈ l, a ∉ fp1) := fun {B' H' l} s => by
      refine ⟨st1.st.mono s.base (s.kept (K := K) st1.st.own fun a h q => n.2.2 a q h), fun a h q => ?_⟩
      rcases s.own a h with z | z
      · exact n.2.2 a z q
      · obtain ⟨_, o, e⟩ := st1.st.own a q
        rw [e] at z; cases z
    have stepAll : ∀ {B' H' : Hp} {l f1 f2 : List Addr}, Stp B1 H1 fv B' H' (l ++ f1) → (∀ a ∈ f2, a ∈ f1 ++ fp1) → Stp B H fp B' H' (l ++ f2) := fun {B' H' l f1 f2} s hf => by
      have := s.more (fp2 := fv ++ fp1) fun a h => List.mem_append_left _ h
      refine s1.trans ⟨this.base, this.keep, fun a h => ?_, this.new⟩
      rcases List.mem_append.mp h with h | h
      · exact this.own a (List.mem_append_left _ h)
      · rcases List.mem_append.mp (hf a h) with h | h
        · exact this.own a (List.mem_append_right _ h)
        · exact .inl (List.mem_append_right _ h)
    cases e2 : F (ds ++ dds) with
    | bad => rw [e2] at q; exact q.elim
    | ok d io =>
      rw [e2] at q
      intro B2 H2 v fpv fpo s2 sm r2 ro n2
      have nn := nodup_app.mp n2
      obtain ⟨st2, dj⟩ := over s2
      obtain ⟨fx, p1, p2, p3⟩ := putIo_ok ro st2 io2 (nodup_app.mpr ⟨nn.2.1, n.2.1, fun x hx hy => dj x (List.mem_append_right _ hx) hy⟩)
      refine q B2 H2 v fpv fx (stepAll s2 p3) ⟨sm, p1, p2⟩ r2 (nodup_app.mpr ⟨nn.1, p2, fun x hx hy => ?_⟩)
      rcases List.mem_append.mp (p3 x hy) with z | z
      · exact nn.2.2 x hx z
      · exact dj x (List.mem_append_left _ hx) z
    | exc x io =>
      rw [e2] at q
      intro B2 H2 fpe fpo cls dd s2 sm ex ro n2
      have nn := nodup_app.mp n2
      obtain ⟨st2, dj⟩ := over s2
      obtain ⟨fx, p1, p2, p3⟩ := putIo_ok ro st2 io2 (nodup_app.mpr ⟨nn.2.1, n.2.1, fun x hx hy => dj x (List.mem_append_right _ hx) hy⟩)
      have st3 : Sta K B2 H2 (putIo ios io Γ1) (putM ios pm μ1) σ fx := ⟨sm, p1, p2⟩
      have ownE : ∀ a ∈ fpe, B2 a = none ∧ ∃ o, H2 a = some o := fun a h => by
        obtain ⟨_, d, fs, vs, fq, _, b0, hd, r, _, _, rfl⟩ := ex
        rcases List.mem_cons.mp h with rfl | h
        · exact ⟨b0, _, hd⟩
        · exact Rl.own x.ds r a h
      have djx : ∀ a ∈ fpe, a ∉ fx := fun a h q => by
        rcases List.mem_append.mp (p3 a q) with z | z
        · exact nn.2.2 a h z
        · exact dj a (List.mem_append_left _ h) z
      obtain ⟨B3, fy, s3, st4, k3⟩ := st3.weak (l := fpe) wk ownE djx
      exact q B3 H2 fpe fy cls dd ((stepAll s2 p3).seq s3) st4 (ex.rebase fun a h => (k3 a h).2) (nodup_app.mpr ⟨nn.1, st4.nd, s3.apart (fun a h => (ownE a h).2) djx⟩)
theorem DE.call {F : List D → Fo} {pm : List Mode} {rm : Mode} {dds : List D} {dms : List Mode} {dvs : List V} {ds : List Value} {fa : Gam → Rz (List D)} {k : Nat} {fad : Addr} {fd : FuncData} {ps : List Str} {x : Str} {p : Pos}
    (G : FnOk X.prog X.w X.K X.mg X.base (L2.CX X.prog X.w) k fad fd ps (spD X.K pm rm F)) (hr : Room k X.A) (hg : Gl X x) (hm : X.mg x = some (.ref fad)) (hk : PySem.W.keepIn X.K (.ref fad) = true) (hb : Binds X.K fd ps ds) (hd : Vals dvs ds) (tk : Takes X w.W)
    (hdef : ∀ B H, Ra X.K B H dds dms dvs []) (hpm : pm = ms ++ dms) (wk : weakL (putM ios pm μ1) w.μx = true) (ha : DAi X w μ (a :: es) fa ms ios μ1) (hdb : (x == ("__debug__" : Str)) = false) (he : starEach (a :: es) X.env = (false, eval a X.env) :: starEach es X.env) (hpl : (backTo pos (starEach es X.env)).any (·.1) = false) :
    DE X w μ (.Call (.Name x p) (a :: es) [] pos) (eCall F ios dds fa) rm (putM ios pm μ1) :=
  ⟨(pe_callSD G hr hg hm hk hb hd (fun σ => passAt tk σ) ha.pa hdb he hpl).imp fun σ H Q q => call_of hdef hpm wk q⟩
end
end EV

/-! EvF2: f(e, .., k = v, ..) of a def of the module's, the keywords in the parameters' order. -/
namespace EV
open PySem PySem.Spec L2
/-- the values of the keywords -/
structure DK (X : Cx) (w : Wh) (μ : List Mode) (kws : List Keyword) (f : Gam → Rz (List D)) (ms : List Mode) (μ' : List Mode) : Prop where
  pk : PK X kws (tDA X.K w μ f ms μ')
/-- how a call with keywords binds: n positional values, then the keywords', then the defaults -/
def KBd (K : PySem.W.Frag) (fd : FuncData) (ps : List Str) (n : Nat) (ks : List Str) (ds : List Value) : Prop := ∀ (s : Shared) (us ws : List Value), K.In s.heap → us.length = n → ws.length = ks.length → BindsTo s fd ⟨us, ks.zip ws⟩ (ps.zip (us ++ ws ++ ds))
def tCallSK (n : Nat) (ks : List Str) (sp : Sp) (dvs : List V) (E : St → XK) (t tk : TA) : TE := fun σ H Q => t σ H fun vs H1 => tk σ H1 fun zs H2 => vs.length = n ∧ zs.length = ks.length ∧ sp (vs ++ zs ++ dvs) H2 Q (E σ)
section
variable {X : Cx} {w : Wh} {μ μ' μ1 μ2 : List Mode} {e a b : Expr} {es : List Expr} {f g : Gam → Rz D} {m m' m1 m2 : Mode} {pos : Pos} {r fa fb : Gam → Rz (List D)} {ms ms' : List Mode}
theorem DK.nil : DK X w μ [] aNil [] μ := ⟨⟨fun pos pins s σ H Q I h => pk_nil.run pos pins s σ H Q I (by
  obtain ⟨B, Γ, fp, st, q⟩ := h
  exact q B H [] [] fp (Stp.refl _ _ _) st ⟨rfl, rfl⟩ st.nd)⟩⟩
theorem DK.cons {kws : List Keyword} {nm : Option Str} {kpos : Pos} (ha : DE X w μ a f m μ1) (hr : DK X w μ1 kws r ms μ2) : DK X w μ (⟨nm, a, kpos⟩ :: kws) (aCons f r) (m :: ms) μ2 := by
  refine ⟨⟨fun pos pins s σ H Q I q => (pk_cons (nm := nm) (kpos := kpos) ha.pe hr.pk).run pos pins s σ H Q I ?_⟩⟩
  obtain ⟨B, Γ, fp, st, q⟩ := q
  refine ⟨B, Γ, fp, st, ?_⟩
  unfold aCons at q
  cases e1 : f Γ with
  | bad => rw [e1] at q; exact q.elim
  | exc x Γ' => rw [e1] at q; exact q
  | ok x Γ1 =>
    rw [e1] at q
    intro B1 H1 u fu fp1 s1 st1 r1 n1
    refine ⟨B1, Γ1, fp1, st1, ?_⟩
    simp only [Rz.bind] at q
    show match r Γ1 with
      | .ok d Γ' => _
      | .exc x Γ' => _
      | .bad => _
    cases e2 : r Γ1 with
    | bad => rw [e2] at q; exact q.elim
    | exc x Γ' => rw [e2] at q; exact wexc.after q s1
    | ok xs Γ2 =>
      rw [e2] at q
      intro B2 H2 vs fv fp2 s2 st2 r2 n2
      have r1' : R X.K B2 H2 x m u fu := r1.over (s2.less fun a h => List.mem_append_right _ h) n1
      have nn : (fu ++ (fv ++ fp2)).Nodup := nodup_over (fun a h => (R.own x r1 a h).2) s2 n1 n2
      refine q B2 H2 (u :: vs) (fu ++ fv) fp2 ?_ st2 ⟨u, vs, fu, fv, rfl, r1', r2, rfl⟩ (by rw [List.append_assoc]; exact nn)
      have := s1.seq s2
      rwa [← List.append_assoc] at this
def aApp (f r : Gam → Rz (List D)) (Γ : Gam) : Rz (List D) := (f Γ).bind fun x Γ1 => (r Γ1).bind fun xs Γ2 => .ok (x ++ xs) Γ2
theorem Ra.over {K : PySem.W.Frag} {B1 H1 B2 H2 : Hp} {fp1 fp2 l : List Addr} {ds : List D} {ms : List Mode} {vs : List V} (r : Ra K B1 H1 ds ms vs l) (s : Stp B1 H1 fp1 B2 H2 fp2) (nd : (l ++ fp1).Nodup) : Ra K B2 H2 ds ms vs l :=
  r.mono s.base (s.kept (K := K) (fun a h => Ra.own r a h) fun a h q => (nodup_app.mp nd).2.2 a h q)
theorem app_of {K : PySem.W.Frag} {σ : St} {H : Hp} {Q : List V → Hp → Prop} (q : tDA K w μ (aApp fa fb) (ms ++ ms') μ2 σ H Q) :
    tDAi K w μ fa ms [] μ1 σ H fun vs H1 => tDA K w μ1 fb ms' μ2 σ H1 fun zs H2 => vs.length = ms.length ∧ zs.length = ms'.length ∧ Q (vs ++ zs) H2 := by
  obtain ⟨B, Γ, fp, st, q⟩ := q
  refine ⟨B, Γ, fp, st, ?_⟩
  unfold aApp at q
  cases e1 : fa Γ with
  | bad => rw [e1] at q; exact q.elim
  | exc x Γ' => rw [e1] at q; exact q
  | ok x Γ1 =>
    rw [e1] at q
    intro B1 H1 us fu fp1 s1 st1 r1 n1 _
    refine ⟨B1, Γ1, fp1, st1, ?_⟩
    simp only [Rz.bind] at q
    show match fb Γ1 with
      | .ok d Γ' => _
      | .exc x Γ' => _
      | .bad => _
    cases e2 : fb Γ1 with
    | bad => rw [e2] at q; exact q.elim
    | exc x Γ' => rw [e2] at q; exact wexc.after q s1
    | ok xs Γ2 =>
      rw [e2] at q
      intro B2 H2 vs fv fp2 s2 st2 r2 n2
      have r1' : Ra K B2 H2 x ms us fu := r1.over (s2.less fun a h => List.mem_append_right _ h) n1
      have nn : (fu ++ (fv ++ fp2)).Nodup := nodup_over (fun a h => (Ra.own r1 a h).2) s2 n1 n2
      refine ⟨r1.len.1, r2.len.1, q B2 H2 (us ++ vs) (fu ++ fv) fp2 ?_ st2 (r1'.append r2) (by rw [List.append_assoc]; exact nn)⟩
      have := s1.seq s2
      rwa [← List.append_assoc] at this
end
section
variable {X : Cx} {CX : CXT} {k n : Nat} {f : Addr} {fd : FuncData} {ps ks : List Str} {sp : Sp} {dvs : List V} {ds : List Value} {E : St → XK} {x : Str} {p pos : Pos} {e : Expr} {es : List Expr} {kws : List Keyword} {t tk : TA}
theorem run_fnSK {pins : List (Addr × Obj)} {σ : St} {H : Hp} {s : Shared} {Q : VK} {us ws : List Value} {vs zs : List V} (F : FnOk X.prog X.w X.K X.mg X.base CX k f fd ps sp) (hr : Room k X.A) (hb : KBd X.K fd ps n ks ds) (hd : Vals dvs ds) (hx : PassesAt CX X σ (E σ))
    (I : Inv X pins σ H s) (r : Vals vs us) (rz : Vals zs ws) (l1 : vs.length = n) (l2 : zs.length = ks.length) (h : sp (vs ++ zs ++ dvs) H Q (E σ)) : wpAny (model X.prog X.w) X.A (call (.ref f) us (ks.zip ws)) (EP X pins σ Q) X.xe s := by
  have r2 : Vals (vs ++ zs ++ dvs) (us ++ ws ++ ds) := (r.append rz).append hd
  refine wpAny_call (codeAny_mono (F.run X.A X.stack s H ⟨us, ks.zip ws⟩ (us ++ ws ++ ds) (vs ++ zs ++ dvs) Q (E σ) hr I.env0 (hb s us ws I.kIn (by rw [← l1]; exact r.length.symm) (by rw [← l2]; exact rz.length.symm)) r2 h) fun r s' hq => ?_)
  cases r with
  | error e => exact hx pins H s e s' I hq
  | ok fl =>
    cases fl with
    | ret u => exact I.after hq
    | next => exact False.elim hq
    | brk => exact False.elim hq
    | cont => exact False.elim hq
theorem pe_callSK (F : FnOk X.prog X.w X.K X.mg X.base CX k f fd ps sp) (hr : Room k X.A) (hg : Gl X x) (hm : X.mg x = some (.ref f)) (hk : PySem.W.keepIn X.K (.ref f) = true) (hb : KBd X.K fd ps n ks ds) (hd : Vals dvs ds) (hx : ∀ σ, PassesAt CX X σ (E σ))
    (ha : PA X (e :: es) t) (hkw : PK X kws tk) (hall : (backToKw pos (keywordEach kws X.env)).all (·.1.isSome) = true) (hks : (backToKw pos (keywordEach kws X.env)).filterMap (·.1) = ks)
    (hdb : (x == ("__debug__" : Str)) = false) (he : starEach (e :: es) X.env = (false, eval e X.env) :: starEach es X.env)
    (hpl : ((backTo pos (starEach (e :: es) X.env)).any (·.1) || (backToKw pos (keywordEach kws X.env)).any (·.1.isNone)) = false) :
    PE X (.Call (.Name x p) (e :: es) kws pos) (tCallSK n ks sp dvs E t tk) := by
  refine ⟨fun pins s σ H Q I h => ?_⟩
  refine wpAny_Call_Name_kw (ld_glob I hg hm ?_ hdb)
  refine PySem.W.callWith_KW (h₀ := X.base) I.ok.mod.kin hk hall (thn (ha.run pos pins s σ H _ I h) fun us s1 ⟨vs, H1, I1, r, q⟩ => ?_) hpl he
  refine thn (hkw.run pos pins s1 σ H1 _ I1 q) fun ws s2 ⟨zs, H2, I2, rz, l1, l2, q2⟩ => ⟨I2.kIn, ?_⟩
  rw [hks]
  exact run_fnSK F hr hb hd (hx σ) I2 r rz l1 l2 q2
end
section
variable {X : Cx} {w : Wh} {μ μ' μ1 μ2 : List Mode} {a : Expr} {es : List Expr} {pos : Pos} {fa fb : Gam → Rz (List D)} {ms ms' : List Mode} {kws : List Keyword} {ks : List Str}
theorem DE.callk {F : List D → Fo} {pm : List Mode} {rm : Mode} {dds : List D} {dms : List Mode} {dvs : List V} {ds : List Value} {k n : Nat} {fad : Addr} {fd : FuncData} {ps : List Str} {x : Str} {p : Pos}
    (G : FnOk X.prog X.w X.K X.mg X.base (L2.CX X.prog X.w) k fad fd ps (spD X.K pm rm F)) (hr : Room k X.A) (hg : Gl X x) (hm : X.mg x = some (.ref fad)) (hk : PySem.W.keepIn X.K (.ref fad) = true) (hb : KBd X.K fd ps n ks ds) (hd : Vals dvs ds) (tk : Takes X w.W)
    (hdef : ∀ B H, Ra X.K B H dds dms dvs []) (hpm : pm = (ms ++ ms') ++ dms) (hn : ms.length = n) (hn2 : ms'.length = ks.length) (wk : weakL μ2 w.μx = true) (ha : DAi X w μ (a :: es) fa ms [] μ1) (hkw : DK X w μ1 kws fb ms' μ2)
    (hall : (backToKw pos (keywordEach kws X.env)).all (·.1.isSome) = true) (hks : (backToKw pos (keywordEach kws X.env)).filterMap (·.1) = ks)
    (hdb : (x == ("__debug__" : Str)) = false) (he : starEach (a :: es) X.env = (false, eval a X.env) :: starEach es X.env) (hpl : ((backTo pos (starEach (a :: es) X.env)).any (·.1) || (backToKw pos (keywordEach kws X.env)).any (·.1.isNone)) = false) :
    DE X w μ (.Call (.Name x p) (a :: es) kws pos) (eCall F [] dds (aApp fa fb)) rm μ2 :=
  ⟨(pe_callSK G hr hg hm hk hb hd (fun σ => passAt tk σ) ha.pa hkw.pk hall hks hdb he hpl).imp fun σ H Q (q : tD X.K w μ (eCall F [] dds (aApp fa fb)) rm μ2 σ H Q) => by
    have q1 := call_of (ios := []) (ms := ms ++ ms') (fa := aApp fa fb) hdef hpm wk q
    have q2 : tDA X.K w μ (aApp fa fb) (ms ++ ms') μ2 σ H fun vs H1 => spD X.K pm rm F (vs ++ dvs) H1 Q (WE w.W σ) := by
      obtain ⟨B, Γ, fp, st, q⟩ := q1
      refine ⟨B, Γ, fp, st, ?_⟩
      revert q
      cases aApp fa fb Γ with
      | bad => exact id
      | exc x Γ' => exact id
      | ok xs Γ' => exact fun q B' H' vs fpv fp' s st r n => q B' H' vs fpv fp' s st r n fun _ h => nomatch h
    have q3 := app_of (μ1 := μ1) q2
    show tDAi X.K w μ fa ms [] μ1 σ H _
    have weak : ∀ {Q1 Q2 : List V → Hp → Prop}, (∀ vs H, Q1 vs H → Q2 vs H) → tDAi X.K w μ fa ms [] μ1 σ H Q1 → tDAi X.K w μ fa ms [] μ1 σ H Q2 := fun {Q1 Q2} i q => by
      obtain ⟨B, Γ, fp, st, q⟩ := q
      refine ⟨B, Γ, fp, st, ?_⟩
      revert q
      cases fa Γ with
      | bad => exact id
      | exc x Γ' => exact id
      | ok xs Γ' => exact fun q B' H' vs fpv fp' s st r n io => i _ _ (q B' H' vs fpv fp' s st r n io)
    refine weak (fun vs H1 q => ?_) q3
    obtain ⟨B, Γ, fp, st, q⟩ := q
    refine ⟨B, Γ, fp, st, ?_⟩
    revert q
    cases fb Γ with
    | bad => exact id
    | exc x Γ' => exact id
    | ok xs Γ' =>
      intro q B' H' vs fpv fp' s st r n
      obtain ⟨l1, l2, q⟩ := q B' H' vs fpv fp' s st r n
      exact ⟨l1.trans hn, l2.trans hn2, q⟩⟩
end
end EV

/-! EvG: statements, targets, loops, defs. -/
namespace EV
open PySem PySem.Spec L2

inductive Sz where
  | nx (Γ : Gam) | rt (d : D) (Γ : Gam) | bk (Γ : Gam) | ct (Γ : Gam) | exc (x : Xc) (Γ : Gam) | bad
/-- what stands around a statement: wish, the value's mode, modes at a return, a break, a continue; slots that stay -/
structure Ws where
  w : Wh
  rm : Mode
  μr : List Mode
  μb : List Mode
  μc : List Mode
  pin : List (Option V)
def PinOk (pin : List (Option V)) (σ : St) : Prop := ∀ (i : Nat) (v : V), pin[i]? = some (some v) → σ[i]? = some (some v)
def noPin (pin : List (Option V)) (i : Nat) : Prop := ∀ v : V, pin[i]? ≠ some (some v)
theorem PinOk.set {pin : List (Option V)} {σ : St} {i : Nat} {s : Option V} (h : PinOk pin σ) (n : noPin pin i) : PinOk pin (σ.set i s) := fun j v hp => by
  by_cases e : i = j
  · subst e; exact absurd hp (n v)
  · rw [List.getElem?_set_ne e]; exact h j v hp
/-- where an outcome leads -/
def Lead (K : PySem.W.Frag) (z : Ws) (μ' : List Mode) (B H : Hp) (fp : List Addr) (D : Ends) : Sz → Prop
  | .nx Γ' => ∀ σ' B' H' fp', Stp B H fp B' H' fp' → Sta K B' H' Γ' μ' σ' fp' → PinOk z.pin σ' → D.nx σ' H'
  | .rt d Γ' => ∀ σ' B' H' v fpv fp', Stp B H fp B' H' (fpv ++ fp') → Sta K B' H' Γ' z.μr σ' fp' → R K B' H' d z.rm v fpv → (fpv ++ fp').Nodup → PinOk z.pin σ' → D.rt v H'
  | .bk Γ' => ∀ σ' B' H' fp', Stp B H fp B' H' fp' → Sta K B' H' Γ' z.μb σ' fp' → PinOk z.pin σ' → D.bk σ' H'
  | .ct Γ' => ∀ σ' B' H' fp', Stp B H fp B' H' fp' → Sta K B' H' Γ' z.μc σ' fp' → PinOk z.pin σ' → D.ct σ' H'
  | .exc x Γ' => ∀ σ' B' H' fpe fp' cls dd, Stp B H fp B' H' (fpe ++ fp') → Sta K B' H' Γ' z.w.μx σ' fp' → ExcR K B' H' x cls dd fpe → (fpe ++ fp').Nodup → PinOk z.pin σ' → z.w.W cls dd σ' H'
  | .bad => False
theorem Lead.after {K : PySem.W.Frag} {z : Ws} {μ' : List Mode} {B H B1 H1 : Hp} {fp fp1 : List Addr} {D : Ends} {o : Sz} (h : Lead K z μ' B H fp D o) (s : Stp B H fp B1 H1 fp1) : Lead K z μ' B1 H1 fp1 D o := by
  cases o with
  | nx Γ' => exact fun σ' B' H' fp' s1 => h σ' B' H' fp' (s.trans s1)
  | rt d Γ' => exact fun σ' B' H' v fpv fp' s1 => h σ' B' H' v fpv fp' (s.trans s1)
  | bk Γ' => exact fun σ' B' H' fp' s1 => h σ' B' H' fp' (s.trans s1)
  | ct Γ' => exact fun σ' B' H' fp' s1 => h σ' B' H' fp' (s.trans s1)
  | exc x Γ' => exact fun σ' B' H' fpe fp' cls dd s1 => h σ' B' H' fpe fp' cls dd (s.trans s1)
  | bad => exact h
def tS (K : PySem.W.Frag) (z : Ws) (μ : List Mode) (f : Gam → Sz) (μ' : List Mode) : TS := fun D σ H => PinOk z.pin σ ∧ ∃ B Γ fp, Sta K B H Γ μ σ fp ∧ Lead K z μ' B H fp D (f Γ)
structure DS (X : Cx) (z : Ws) (μ : List Mode) (st : Stmt) (f : Gam → Sz) (μ' : List Mode) : Prop where
  ps : PS X st (tS X.K z μ f μ')
structure DSs (X : Cx) (z : Ws) (μ : List Mode) (st : List Stmt) (f : Gam → Sz) (μ' : List Mode) : Prop where
  ps : PSs X st (tS X.K z μ f μ')
def Rz.s {α : Type} (r : Rz α) (f : α → Gam → Sz) : Sz := match r with
  | .ok a Γ => f a Γ
  | .exc x Γ => .exc x Γ
  | .bad => .bad
section
variable {X : Cx} {z : Ws} {μ μ' μ1 μ2 : List Mode} {e a b c : Expr} {es : List Expr} {f g : Gam → Rz D} {m m' m1 m2 : Mode} {pos : Pos} {st : Stmt} {rest body orelse : List Stmt} {sf sg : Gam → Sz}
/-- an expression's reading under a statement's -/
theorem tD_s {K : PySem.W.Frag} {En : Ends} {σ : St} {H B : Hp} {Γ : Gam} {fp : List Addr} {Q : VK} {k : D → Gam → Sz} (hp : PinOk z.pin σ) (st : Sta K B H Γ μ σ fp) (q : Lead K z μ2 B H fp En ((f Γ).s k))
    (ok : ∀ d Γ' B' H' v fpv fp', f Γ = .ok d Γ' → Stp B H fp B' H' (fpv ++ fp') → Sta K B' H' Γ' μ' σ fp' → R K B' H' d m v fpv → (fpv ++ fp').Nodup → Q v H') : tD K z.w μ f m μ' σ H Q := by
  refine ⟨B, Γ, fp, st, ?_⟩
  cases e : f Γ with
  | ok d Γ' => exact fun B' H' v fpv fp' s st' r nd => ok d Γ' B' H' v fpv fp' e s st' r nd
  | exc x Γ' =>
    rw [e] at q
    exact fun B' H' fpe fp' cls dd s st' ex nd => q σ B' H' fpe fp' cls dd s st' ex nd hp
  | bad => rw [e] at q; exact q
theorem tDT_s {K : PySem.W.Frag} {D : Ends} {σ : St} {H B : Hp} {Γ : Gam} {fp : List Addr} {f : Gam → Rz Bool} {Q : Bool → Hp → Prop} {k : Bool → Gam → Sz} (hp : PinOk z.pin σ) (st : Sta K B H Γ μ σ fp) (q : Lead K z μ2 B H fp D ((f Γ).s k))
    (ok : ∀ d Γ' B' H' fp', f Γ = .ok d Γ' → Stp B H fp B' H' fp' → Sta K B' H' Γ' μ' σ fp' → Q d H') : tDT K z.w μ f μ' σ H Q := by
  refine ⟨B, Γ, fp, st, ?_⟩
  cases e : f Γ with
  | ok d Γ' => exact fun B' H' fp' s st' => ok d Γ' B' H' fp' e s st'
  | exc x Γ' =>
    rw [e] at q
    exact fun B' H' fpe fp' cls dd s st' ex nd => q σ B' H' fpe fp' cls dd s st' ex nd hp
  | bad => rw [e] at q; exact q
/-! ### small statements -/
theorem DS.weak (h : DS X z μ st sf μ1) (c : weakL μ1 μ2 = true) : DS X z μ st sf μ2 :=
  ⟨h.ps.imp fun D σ H ⟨hp, B, Γ, fp, sta, q⟩ => ⟨hp, B, Γ, fp, sta, by
    revert q
    cases sf Γ with
    | nx Γ' =>
      intro q σ' B' H' fp' s st' hp'
      obtain ⟨B2, fp2, s2, st2, k2⟩ := st'.weak (l := []) c (fun a h => by cases h) (fun a h => by cases h)
      exact q σ' B2 H' fp2 (s.trans s2) st2 hp'
    | _ => exact id⟩⟩
theorem DSs.weak (h : DSs X z μ rest sf μ1) (c : weakL μ1 μ2 = true) : DSs X z μ rest sf μ2 :=
  ⟨h.ps.imp fun D σ H ⟨hp, B, Γ, fp, sta, q⟩ => ⟨hp, B, Γ, fp, sta, by
    revert q
    cases sf Γ with
    | nx Γ' =>
      intro q σ' B' H' fp' s st' hp'
      obtain ⟨B2, fp2, s2, st2, k2⟩ := st'.weak (l := []) c (fun a h => by cases h) (fun a h => by cases h)
      exact q σ' B2 H' fp2 (s.trans s2) st2 hp'
    | _ => exact id⟩⟩
/-- the state ahead said with less -/
theorem DSs.ahead (h : DSs X z μ1 rest sf μ2) (c : weakL μ μ1 = true) : DSs X z μ rest sf μ2 :=
  ⟨h.ps.imp fun D σ H ⟨hp, B, Γ, fp, sta, q⟩ => by
    obtain ⟨B2, fp2, s2, st2, k2⟩ := sta.weak (l := []) c (fun a h => by cases h) (fun a h => by cases h)
    exact ⟨hp, B2, Γ, fp2, st2, q.after s2⟩⟩
theorem DS.ahead (h : DS X z μ1 st sf μ2) (c : weakL μ μ1 = true) : DS X z μ st sf μ2 :=
  ⟨h.ps.imp fun D σ H ⟨hp, B, Γ, fp, sta, q⟩ => by
    obtain ⟨B2, fp2, s2, st2, k2⟩ := sta.weak (l := []) c (fun a h => by cases h) (fun a h => by cases h)
    exact ⟨hp, B2, Γ, fp2, st2, q.after s2⟩⟩
def sSeq (f g : Gam → Sz) (Γ : Gam) : Sz := match f Γ with
  | .nx Γ1 => g Γ1
  | o => o
def sNil (Γ : Gam) : Sz := .nx Γ
theorem DSs.nil : DSs X z μ [] sNil μ := ⟨pss_nil.imp fun D σ H ⟨hp, B, Γ, fp, sta, q⟩ => q σ B H fp (Stp.refl _ _ _) sta hp⟩
theorem DSs.cons (h1 : DS X z μ st sf μ1) (h2 : DSs X z μ1 rest sg μ2) : DSs X z μ (st :: rest) (sSeq sf sg) μ2 := by
  refine ⟨(pss_cons h1.ps h2.ps).imp fun D σ H ⟨hp, B, Γ, fp, sta, q⟩ => ?_⟩
  show tS X.K z μ sf μ1 { D with nx := tS X.K z μ1 sg μ2 D } σ H
  refine ⟨hp, B, Γ, fp, sta, ?_⟩
  unfold sSeq at q
  revert q
  cases sf Γ with
  | nx Γ' => exact fun q σ' B' H' fp' s st' hp' => ⟨hp', B', Γ', fp', st', q.after s⟩
  | _ => exact id
theorem DSs.one (h1 : DS X z μ st sf μ1) : DSs X z μ [st] sf μ1 := ⟨pss_one h1.ps⟩
theorem DS.pass : DS X z μ (.Pass pos) sNil μ := ⟨ps_pass.imp fun D σ H ⟨hp, B, Γ, fp, sta, q⟩ => q σ B H fp (Stp.refl _ _ _) sta hp⟩
theorem DS.brk (wk : weakL μ z.μb = true) : DS X z μ (.Break pos) .bk μ' := ⟨ps_break.imp fun D σ H ⟨hp, B, Γ, fp, sta, q⟩ => by
  obtain ⟨B2, fp2, s2, st2, k2⟩ := sta.weak (l := []) wk (fun a h => by cases h) (fun a h => by cases h)
  exact q σ B2 H fp2 s2 st2 hp⟩
theorem DS.cont (wk : weakL μ z.μc = true) : DS X z μ (.Continue pos) .ct μ' := ⟨ps_continue.imp fun D σ H ⟨hp, B, Γ, fp, sta, q⟩ => by
  obtain ⟨B2, fp2, s2, st2, k2⟩ := sta.weak (l := []) wk (fun a h => by cases h) (fun a h => by cases h)
  exact q σ B2 H fp2 s2 st2 hp⟩
def sE (f : Gam → Rz D) (Γ : Gam) : Sz := (f Γ).s fun _ Γ1 => .nx Γ1
theorem DS.expr (h : DE X z.w μ e f m μ') (hs : swapsWith e none pos.line X.env = pure false) : DS X z μ (.Expr e pos) (sE f) μ' := by
  refine ⟨(ps_expr h.pe hs).imp fun D σ H ⟨hp, B, Γ, fp, sta, q⟩ => ?_⟩
  refine tD_s hp sta q fun d Γ' B' H' v fpv fp' e s st' r nd => ?_
  unfold sE at q
  rw [e] at q
  exact q σ B' H' fp' (s.less fun a h => List.mem_append_right _ h) st' hp
def sRet (f : Gam → Rz D) (Γ : Gam) : Sz := (f Γ).s fun d Γ1 => .rt d Γ1
theorem DS.ret (h : DE X z.w μ e f z.rm μ1) (wk : weakL μ1 z.μr = true) : DS X z μ (.Return (some e) pos) (sRet f) μ' := by
  refine ⟨(ps_ret h.pe).imp fun D σ H ⟨hp, B, Γ, fp, sta, q⟩ => ?_⟩
  refine tD_s hp sta q fun d Γ' B' H' v fpv fp' e s st' r nd => ?_
  unfold sRet at q
  rw [e] at q
  obtain ⟨B2, fp2, s2, st2, k2⟩ := st'.weak (l := fpv) wk (R.own d r) (nodup_app.mp nd).2.2
  exact q σ B2 H' v fpv fp2 (s.seq s2) st2 (r.mono s2.base d k2) (nodup_over (fun a h => (R.own d r a h).2) s2 nd st2.nd) hp
def sRetN (Γ : Gam) : Sz := .rt .non Γ
theorem DS.retN (wk : weakL μ z.μr = true) : DS X z μ (.Return none pos) sRetN μ' := by
  refine ⟨ps_retN.imp fun D σ H ⟨hp, B, Γ, fp, sta, q⟩ => ?_⟩
  obtain ⟨B2, fp2, s2, st2, k2⟩ := sta.weak (l := []) wk (fun a h => by cases h) (fun a h => by cases h)
  exact q σ B2 H .non [] fp2 s2 st2 ⟨rfl, rfl⟩ st2.nd hp
def sIf (c : Gam → Rz Bool) (f g : Gam → Sz) (Γ : Gam) : Sz := (c Γ).s fun b Γ1 => if b = true then f Γ1 else g Γ1
theorem DS.ite {t : Gam → Rz Bool} (hc : DT X z.w μ c t μ1) (h1 : DSs X z μ1 body sf μ') (h2 : DSs X z μ1 orelse sg μ') : DS X z μ (.If c body orelse pos) (sIf t sf sg) μ' := by
  refine ⟨(ps_if hc.pt h1.ps h2.ps).imp fun D σ H ⟨hp, B, Γ, fp, sta, q⟩ => ?_⟩
  refine tDT_s hp sta q fun k Γ' B' H' fp' e s st' => ?_
  unfold sIf at q
  rw [e] at q
  cases k with
  | true => exact ⟨hp, B', Γ', fp', st', Lead.after q s⟩
  | false => exact ⟨hp, B', Γ', fp', st', Lead.after q s⟩
/-! ### while -/
def sWhile (c : Gam → Rz Bool) (b : Gam → Sz) : Nat → Gam → Sz
  | 0, _ => .bad
  | n + 1, Γ => (c Γ).s fun k Γ1 => if k = true then (match b Γ1 with
    | .nx Γ2 => sWhile c b n Γ2
    | .ct Γ2 => sWhile c b n Γ2
    | .bk Γ2 => .nx Γ2
    | .rt d Γ2 => .rt d Γ2
    | .exc x Γ2 => .exc x Γ2
    | .bad => .bad) else .nx Γ1
def Ws.loop (z : Ws) (μ : List Mode) : Ws := { z with μb := μ, μc := μ }
theorem DS.whil {t : Gam → Rz Bool} {n : Gam → Nat} (hp : PassesOwn (model X.prog X.w) X.A X.env X.xe) (hc : DT X z.w μ c t μ) (hb : DSs X (z.loop μ) μ body sf μ) : DS X z μ (.While c body [] pos) (fun Γ => sWhile t sf (n Γ) Γ) μ := by
  refine ⟨(ps_while hp hc.pt hb.ps).imp fun D σ H ⟨hpn, B, Γ, fp, sta, q⟩ => ?_⟩
  refine ⟨fun k σ H => PinOk z.pin σ ∧ ∃ B Γ fp, Sta X.K B H Γ μ σ fp ∧ Lead X.K z μ B H fp D (sWhile t sf k Γ), ⟨n Γ, hpn, B, Γ, fp, sta, q⟩, ?_⟩
  rintro k σ H ⟨hpn, B, Γ, fp, sta, q⟩
  cases k with
  | zero => exact q.elim
  | succ k =>
    refine tDT_s hpn sta (k := fun k' Γ1 => _) (μ2 := μ) q fun b Γ' B' H' fp' e s st' => ?_
    unfold sWhile at q
    rw [e] at q
    cases b with
    | false => exact q σ B' H' fp' s st' hpn
    | true =>
      refine ⟨fun σ' H' => PinOk z.pin σ' ∧ ∃ B Γ fp, Sta X.K B H' Γ μ σ' fp ∧ Lead X.K z μ B H' fp D (sWhile t sf k Γ), fun σ' H' h => ⟨k, Nat.lt_succ_self _, h⟩, hpn, B', Γ', fp', st', ?_⟩
      have q2 := Lead.after q s
      revert q2
      show Lead X.K z μ B' H' fp' D (match sf Γ' with
        | .nx Γ2 => sWhile t sf k Γ2
        | .ct Γ2 => sWhile t sf k Γ2
        | .bk Γ2 => .nx Γ2
        | .rt d Γ2 => .rt d Γ2
        | .exc x Γ2 => .exc x Γ2
        | .bad => .bad) → _
      cases sf Γ' with
      | nx Γ2 => exact fun q σ2 B2 H2 fp2 s2 st2 hp2 => ⟨hp2, B2, Γ2, fp2, st2, q.after s2⟩
      | ct Γ2 => exact fun q σ2 B2 H2 fp2 s2 st2 hp2 => ⟨hp2, B2, Γ2, fp2, st2, q.after s2⟩
      | bk Γ2 => exact fun q σ2 B2 H2 fp2 s2 st2 hp2 => q σ2 B2 H2 fp2 s2 st2 hp2
      | rt d Γ2 => exact id
      | exc x Γ2 => exact id
      | bad => exact id
/-! ### targets -/
def tG (K : PySem.W.Frag) (P : St → Prop) (μ : List Mode) (m : Mode) (t : D → Gam → Option Gam) (μ' : List Mode) : TG := fun v σ H Q => P σ ∧ ∃ B Γ fp fpv d, Sta K B H Γ μ σ fp ∧ R K B H d m v fpv ∧ (fpv ++ fp).Nodup ∧ match t d Γ with
  | some Γ' => ∀ σ' B' H' fp', Stp B H (fpv ++ fp) B' H' fp' → Sta K B' H' Γ' μ' σ' fp' → P σ' → Q σ' H'
  | none => False
structure DG (X : Cx) (P : St → Prop) (μ : List Mode) (tg : Expr) (m : Mode) (t : D → Gam → Option Gam) (μ' : List Mode) : Prop where
  pg : PG X tg (tG X.K P μ m t μ')
def tGs (K : PySem.W.Frag) (P : St → Prop) (μ : List Mode) (ms : List Mode) (t : List D → Gam → Option Gam) (μ' : List Mode) : TGs := fun vs σ H Q => P σ ∧ ∃ B Γ fp fpv ds, Sta K B H Γ μ σ fp ∧ Ra K B H ds ms vs fpv ∧ (fpv ++ fp).Nodup ∧ match t ds Γ with
  | some Γ' => ∀ σ' B' H' fp', Stp B H (fpv ++ fp) B' H' fp' → Sta K B' H' Γ' μ' σ' fp' → P σ' → Q σ' H'
  | none => False
structure DGs (X : Cx) (P : St → Prop) (μ : List Mode) (tgs : List Expr) (ms : List Mode) (t : List D → Gam → Option Gam) (μ' : List Mode) : Prop where
  pg : PGs X tgs (tGs X.K P μ ms t μ')
theorem _root_.L2.PG.imp {tg : Expr} {t t' : TG} (h : PG X tg t) (i : ∀ v σ H Q, t' v σ H Q → t v σ H Q) : PG X tg t' := ⟨fun pins s σ H v u Q I r q => h.run pins s σ H v u Q I r (i v σ H Q q)⟩
theorem _root_.L2.PGs.imp {tg : List Expr} {t t' : TGs} (h : PGs X tg t) (i : ∀ v σ H Q, t' v σ H Q → t v σ H Q) : PGs X tg t' := ⟨fun pins s σ H v u Q I r q => h.run pins s σ H v u Q I r (i v σ H Q q)⟩
def gSet (i : Nat) (d : D) (Γ : Gam) : Option Gam := some (Γ.set i (some d))
theorem put_sta {K : PySem.W.Frag} {B H : Hp} {Γ : Gam} {σ : St} {fp fpv : List Addr} {d : D} {v : V} {i : Nat} (st : Sta K B H Γ μ σ fp) (r : R K B H d m v fpv) (nd : (fpv ++ fp).Nodup) (hi : i < σ.length) :
    ∃ fp', Stp B H (fpv ++ fp) B H fp' ∧ Sta K B H (Γ.set i (some d)) (μ.set i m) (σ.set i (some v)) fp' := by
  obtain ⟨fp', h1, h2, h3⟩ := st.st.put hi r
  exact ⟨fp', (Stp.refl _ _ _).less h3, st.same, h1, h2 nd⟩
theorem DG.name {P : St → Prop} {i : Nat} {x : Str} (hN : X.N.Nodup) (hi : X.N[i]? = some x) (hx : Loc X.env.scope x) (hf : X.fn x = true ∨ X.env.scope.names.lookup x = some .local) (hp : ∀ σ s, P σ → P (σ.set i s)) (hl : i < μ.length) : DG X P μ (.Name x pos) m (gSet i) (μ.set i m) := by
  refine ⟨(pg_name hN hi hx hf).imp fun v σ H Q ⟨hpn, B, Γ, fp, fpv, d, st, r, nd, q⟩ => ?_⟩
  obtain ⟨fp', s, st'⟩ := put_sta (i := i) st r nd (by rw [← st.st.len.2]; exact hl)
  exact q (σ.set i (some v)) B H fp' s st' (hp _ _ hpn)
def gNilD (ds : List D) (Γ : Gam) : Option Gam := match ds with
  | [] => some Γ
  | _ => none
def gConsD (t : D → Gam → Option Gam) (u : List D → Gam → Option Gam) (ds : List D) (Γ : Gam) : Option Gam := match ds with
  | d :: ds => (t d Γ).bind (u ds)
  | _ => none
theorem DGs.nil {P : St → Prop} : DGs X P μ [] [] gNilD μ := by
  refine ⟨pgs_nil.imp fun vs σ H Q ⟨hpn, B, Γ, fp, fpv, ds, st, r, nd, q⟩ => ?_⟩
  cases ds with
  | cons d ds => exact r.elim
  | nil =>
    obtain ⟨rfl, rfl⟩ := r
    exact ⟨rfl, q σ B H fp (Stp.refl _ _ _) st hpn⟩
theorem DGs.cons {P : St → Prop} {t : D → Gam → Option Gam} {u : List D → Gam → Option Gam} {ms : List Mode} (h1 : DG X P μ e m t μ1) (h2 : DGs X P μ1 es ms u μ2) (hs : (assignEach (e :: es) X.env).map (·.2) = assign e X.env :: (assignEach es X.env).map (·.2)) : DGs X P μ (e :: es) (m :: ms) (gConsD t u) μ2 := by
  refine ⟨(pgs_cons h1.pg h2.pg hs).imp fun vs σ H Q ⟨hpn, B, Γ, fp, fpv, ds, st, r, nd, q⟩ => ?_⟩
  cases ds with
  | nil => exact r.elim
  | cons d ds =>
    obtain ⟨v, vr, f1, f2, rfl, r1, r2, rfl⟩ := r
    have n := nodup_app.mp nd
    have n12 := nodup_app.mp n.1
    refine ⟨v, vr, rfl, hpn, B, Γ, fp, f1, d, st, r1, nodup_app.mpr ⟨n12.1, n.2.1, fun x hx hy => n.2.2 x (List.mem_append_left _ hx) hy⟩, ?_⟩
    have q' : match (t d Γ).bind (u ds) with
      | some Γ' => ∀ σ' B' H' fp', Stp B H (f1 ++ f2 ++ fp) B' H' fp' → Sta X.K B' H' Γ' μ2 σ' fp' → P σ' → Q σ' H'
      | none => False := q
    revert q'
    cases t d Γ with
    | none => exact id
    | some Γ1 =>
      intro q' σ1 B1 H1 fp1 s1 st1 hp1
      have dj : ∀ a ∈ f2, a ∉ f1 ++ fp := fun a h z => by
        rcases List.mem_append.mp z with z | z
        · exact n12.2.2 a z h
        · exact n.2.2 a (List.mem_append_right _ h) z
      have r2' := r2.mono s1.base (s1.kept (K := X.K) (Ra.own r2) dj)
      refine ⟨hp1, B1, Γ1, fp1, f2, ds, st1, r2', nodup_app.mpr ⟨n12.2.1, st1.nd, s1.apart (fun a h => (Ra.own r2 a h).2) dj⟩, ?_⟩
      revert q'
      show (match u ds Γ1 with
        | some Γ' => _
        | none => _) → _
      cases u ds Γ1 with
      | none => exact id
      | some Γ2 =>
        intro q' σ2 B2 H2 fp2 s2 st2 hp2
        refine q' σ2 B2 H2 fp2 (Stp.trans (fp1 := f2 ++ fp1) ?_ s2) st2 hp2
        have := s1.frame f2
        refine (this.more fun a h => ?_)
        simp only [List.mem_append] at h ⊢
        rcases h with h | h | h
        · exact .inl (.inr h)
        · exact .inl (.inl h)
        · exact .inr h
/-- (a, b, ..) = a tuple -/
def gTupD (u : List D → Gam → Option Gam) (d : D) (Γ : Gam) : Option Gam := match d with
  | .tup ds => u ds Γ
  | _ => none
def gLstD (u : List D → Gam → Option Gam) (d : D) (Γ : Gam) : Option Gam := match d with
  | .lst ds => u ds Γ
  | _ => none
/-- the modes of a node's parts -/
def partM : Mode → Mode
  | .O m => m
  | _ => .F
theorem Rl.toRa {K : PySem.W.Frag} {B H : Hp} : ∀ {ds : List D} {m : Mode} {vs : List V} {fp : List Addr}, Rl K B H ds m vs fp → Ra K B H ds (ds.map fun _ => m) vs fp
  | [], m, vs, fp, h => h
  | d :: ds, m, vs, fp, h => by
    obtain ⟨v, r, fp1, fp2, rfl, h1, h2, rfl⟩ := h
    exact ⟨v, r, fp1, fp2, rfl, h1, Rl.toRa h2, rfl⟩
theorem DG.tup {P : St → Prop} {u : List D → Gam → Option Gam} {k n : Nat} (hc : X.calm = true) (h : DGs X P μ es (List.replicate n (partM m)) u μ') (hn : (assignEach es X.env).length = n) (hst : (assignEach es X.env).findIdx? (·.1) = none) (hu : ∀ ds Γ Γ', u ds Γ = some Γ' → ds.length = n) : DG X P μ (.Tuple es k pos) m (gTupD u) μ' := by
  refine ⟨(pg_tup hc h.pg hn hst).imp fun v σ H Q ⟨hpn, B, Γ, fp, fpv, d, st, r, nd, q⟩ => ?_⟩
  cases d with
  | tup ds =>
    have q' : match u ds Γ with
      | some Γ' => ∀ σ' B' H' fp', Stp B H (fpv ++ fp) B' H' fp' → Sta X.K B' H' Γ' μ' σ' fp' → P σ' → Q σ' H'
      | none => False := q
    have hlen : ds.length = n := by
      cases e : u ds Γ with
      | none => rw [e] at q'; exact q'.elim
      | some Γ' => exact hu _ _ _ e
    have rep : ds.map (fun _ => partM m) = List.replicate n (partM m) := by
      rw [← hlen]
      clear q' q hlen r
      induction ds with
      | nil => rfl
      | cons d ds ih => rw [List.map_cons, ih]; rfl
    cases m with
    | F =>
      obtain ⟨rfl, a, vs, rfl, hs, hl, hr⟩ := r
      refine ⟨a, vs, rfl, Same.sqT st.same hs, by rw [hr.len, hlen], hpn, B, Γ, fp, [], ds, st, ?_, nd, q'⟩
      have := hr.toRa
      rw [← rep]; exact this
    | O m =>
      obtain ⟨a, vs, fq, rfl, b0, ha, hl, hr, rfl⟩ := r
      refine ⟨a, vs, rfl, SqT.of ha, by rw [hr.len, hlen], hpn, B, Γ, fp, fq, ds, st, ?_, (List.nodup_cons.mp nd).2, ?_⟩
      · have := hr.toRa
        rw [← rep]; exact this
      · revert q'
        cases u ds Γ with
        | none => exact id
        | some Γ' => exact fun q' σ' B' H' fp' s st' hp' => q' σ' B' H' fp' (s.more fun a h => List.mem_cons_of_mem _ h) st' hp'
    | _ => exact r.elim
  | _ => exact q.elim
theorem DG.lst {P : St → Prop} {u : List D → Gam → Option Gam} {k n : Nat} (hc : X.calm = true) (h : DGs X P μ es (List.replicate n (partM m)) u μ') (hn : (assignEach es X.env).length = n) (hst : (assignEach es X.env).findIdx? (·.1) = none) (hu : ∀ ds Γ Γ', u ds Γ = some Γ' → ds.length = n) : DG X P μ (.Tuple es k pos) m (gLstD u) μ' := by
  refine ⟨(pg_lst hc h.pg hn hst).imp fun v σ H Q ⟨hpn, B, Γ, fp, fpv, d, st, r, nd, q⟩ => ?_⟩
  cases d with
  | lst ds =>
    have q' : match u ds Γ with
      | some Γ' => ∀ σ' B' H' fp', Stp B H (fpv ++ fp) B' H' fp' → Sta X.K B' H' Γ' μ' σ' fp' → P σ' → Q σ' H'
      | none => False := q
    have hlen : ds.length = n := by
      cases e : u ds Γ with
      | none => rw [e] at q'; exact q'.elim
      | some Γ' => exact hu _ _ _ e
    have rep : ds.map (fun _ => partM m) = List.replicate n (partM m) := by
      rw [← hlen]
      clear q' q hlen r
      induction ds with
      | nil => rfl
      | cons d ds ih => rw [List.map_cons, ih]; rfl
    cases m with
    | F =>
      obtain ⟨rfl, a, vs, rfl, hs, hl, hr⟩ := r
      refine ⟨a, vs, rfl, Same.sqL st.same hs, by rw [hr.len, hlen], hpn, B, Γ, fp, [], ds, st, ?_, nd, q'⟩
      have := hr.toRa
      rw [← rep]; exact this
    | O m =>
      obtain ⟨a, vs, fq, rfl, b0, ha, hl, hr, rfl⟩ := r
      refine ⟨a, vs, rfl, SqL.of ha, by rw [hr.len, hlen], hpn, B, Γ, fp, fq, ds, st, ?_, (List.nodup_cons.mp nd).2, ?_⟩
      · have := hr.toRa
        rw [← rep]; exact this
      · revert q'
        cases u ds Γ with
        | none => exact id
        | some Γ' => exact fun q' σ' B' H' fp' s st' hp' => q' σ' B' H' fp' (s.more fun a h => List.mem_cons_of_mem _ h) st' hp'
    | _ => exact r.elim
  | _ => exact q.elim
/-! ### assignment -/
def sAsg (f : Gam → Rz D) (t : D → Gam → Option Gam) (Γ : Gam) : Sz := (f Γ).s fun d Γ1 => match t d Γ1 with
  | some Γ2 => .nx Γ2
  | none => .bad
theorem asg_of {K : PySem.W.Frag} {t : D → Gam → Option Gam} {D : Ends} {σ : St} {H : Hp} (q : tS K z μ (sAsg f t) μ2 D σ H) : tD K z.w μ f m μ1 σ H fun x H1 => tG K (PinOk z.pin) μ1 m t μ2 x σ H1 D.nx := by
  obtain ⟨hp, B, Γ, fp, sta, q⟩ := q
  refine tD_s hp sta q fun d Γ' B' H' v fpv fp' e s st' r nd => ?_
  unfold sAsg at q
  rw [e] at q
  refine ⟨hp, B', Γ', fp', fpv, d, st', r, nd, ?_⟩
  revert q
  show Lead K z μ2 B H fp D (match t d Γ' with
    | some Γ2 => .nx Γ2
    | none => .bad) → _
  cases t d Γ' with
  | none => exact id
  | some Γ2 => exact fun q σ2 B2 H2 fp2 s2 st2 hp2 => q σ2 B2 H2 fp2 (s.trans s2) st2 hp2
theorem DS.asg {tg : Expr} {t : D → Gam → Option Gam} (h : DE X z.w μ e f m μ1) (hg : DG X (PinOk z.pin) μ1 tg m t μ2) (hs : swapsWithSole [tg] e pos.line X.env = pure false) (hw : swappedStores [tg] e X.env = pure none) (h1 : (assignEach [tg] X.env).map (·.2) = [assign tg X.env]) : DS X z μ (.Assign [tg] e pos) (sAsg f t) μ2 :=
  ⟨(ps_asg h.pe hg.pg hs hw h1).imp fun D σ H q => asg_of q⟩
/-! ### what is walked -/
/-- J yields the data ds, by the mode m, over whatever grows from B -/
def ItR (K : PySem.W.Frag) (J : It) (B : Hp) (m : Mode) (ds : List D) : Prop := ds.length ≤ sizeLine ∧ ∀ (i : Nat) (B1 H1 : Hp), Same B B1 → Same B1 H1 →
  (∀ d, ds[i]? = some d → J.go i H1 ∧ ∀ x H2, J.yld i H1 x H2 → ∃ fpx, Stp B1 H1 [] B1 H2 fpx ∧ Same B1 H2 ∧ R K B1 H2 d m x fpx ∧ fpx.Nodup) ∧ (ds.length ≤ i → J.stop i H1)
def tDI (K : PySem.W.Frag) (w : Wh) (μ : List Mode) (f : Gam → Rz (List D)) (m : Mode) (μ' : List Mode) : TI := fun σ H R => ∃ B Γ fp, Sta K B H Γ μ σ fp ∧ match f Γ with
  | .ok ds Γ' => ∀ B' H' J fp', Stp B H fp B' H' fp' → Sta K B' H' Γ' μ' σ fp' → ItR K J B' m ds → R J H'
  | .exc x Γ' => wexc K w B H fp σ x Γ'
  | .bad => False
structure DI (X : Cx) (w : Wh) (μ : List Mode) (tg iter : Expr) (f : Gam → Rz (List D)) (m : Mode) (μ' : List Mode) : Prop where
  pi : PI X tg iter (tDI X.K w μ f m μ')
theorem _root_.L2.PI.imp {tg it : Expr} {t t' : TI} (h : PI X tg it t) (i : ∀ σ H Q, t' σ H Q → t σ H Q) : PI X tg it t' := ⟨fun pins s σ H R I q => h.run pins s σ H R I (i σ H R q)⟩
def eLst (f : Gam → Rz D) (Γ : Gam) : Rz (List D) := (f Γ).bind fun d Γ1 => match d with
  | .lst ds => .ok ds Γ1
  | _ => .bad
def eTup (f : Gam → Rz D) (Γ : Gam) : Rz (List D) := (f Γ).bind fun d Γ1 => match d with
  | .tup ds => .ok ds Γ1
  | _ => .bad
theorem Rl.get {K : PySem.W.Frag} {B H : Hp} : ∀ {ds : List D} {m : Mode} {vs : List V} {i : Nat} {d : D}, Rl K B H ds m vs [] → ds[i]? = some d → ∃ v, vs[i]? = some v ∧ R K B H d m v []
  | d0 :: ds, m, vs, i, d, h, e => by
    obtain ⟨v, r, fp1, fp2, rfl, h1, h2, e2⟩ := h
    have e3 := List.append_eq_nil_iff.mp e2.symm
    rw [e3.1] at h1; rw [e3.2] at h2
    cases i with
    | zero =>
      have z : d0 = d := by simpa using e
      subst z
      exact ⟨v, rfl, h1⟩
    | succ i =>
      obtain ⟨u, q1, q2⟩ := Rl.get (i := i) h2 (by simpa using e)
      exact ⟨u, by simpa using q1, q2⟩
  | [], m, vs, i, d, h, e => by simp at e
theorem it_list {K : PySem.W.Frag} {B H : Hp} {a : Addr} {vs : List V} {ds : List D} (hs : SqL K B a vs) (hl : ds.length ≤ sizeLine) (r : Rl K B H ds .F vs []) : ItR K (Itl K a) B .F ds := ⟨hl, fun i B1 H1 s1 s2 => by
  have hs1 : SqL K B1 a vs := Same.sqL s1 hs
  have hs2 : SqL K H1 a vs := Same.sqL s2 hs1
  refine ⟨fun d e => ?_, fun h => ⟨vs, hs2, by rw [r.len]; exact h⟩⟩
  obtain ⟨v, e1, r1⟩ := r.get e
  refine ⟨⟨vs, v, hs2, e1⟩, fun x H2 hy => ?_⟩
  obtain ⟨rfl, hy⟩ := hy
  have z := hy vs hs2
  rw [e1] at z; cases z
  exact ⟨[], Stp.refl _ _ _, s2, r1.mono s1 d Kept.nil, List.nodup_nil⟩⟩
theorem it_tup {K : PySem.W.Frag} {B H : Hp} {a : Addr} {vs : List V} {ds : List D} (hs : SqT K B a vs) (hl : ds.length ≤ sizeLine) (r : Rl K B H ds .F vs []) : ItR K (Itt K a) B .F ds := ⟨hl, fun i B1 H1 s1 s2 => by
  have hs1 : SqT K B1 a vs := Same.sqT s1 hs
  have hs2 : SqT K H1 a vs := Same.sqT s2 hs1
  refine ⟨fun d e => ?_, fun h => ⟨vs, hs2, by rw [r.len]; exact h⟩⟩
  obtain ⟨v, e1, r1⟩ := r.get e
  refine ⟨⟨vs, v, hs2, e1⟩, fun x H2 hy => ?_⟩
  obtain ⟨rfl, hy⟩ := hy
  have z := hy vs hs2
  rw [e1] at z; cases z
  exact ⟨[], Stp.refl _ _ _, s2, r1.mono s1 d Kept.nil, List.nodup_nil⟩⟩
theorem DI.list {w : Wh} {tg : Expr} (h : DE X w μ e f .F μ') : DI X w μ tg e (eLst f) .F μ' := by
  refine ⟨(pi_list h.pe).imp fun σ H Q ⟨B, Γ, fp, st, q⟩ => ⟨B, Γ, fp, st, ?_⟩⟩
  unfold eLst at q
  revert q
  cases f Γ with
  | ok d Γ' =>
    cases d with
    | lst ds =>
      intro q B' H' v fpv fp' s st' r nd
      obtain ⟨rfl, a, vs, rfl, hs, hl, hr⟩ := r
      exact ⟨a, rfl, ⟨vs, Same.sqL st'.same hs⟩, q B' H' _ fp' s st' (it_list hs hl hr)⟩
    | _ => exact fun q => q.elim
  | exc x Γ' => exact id
  | bad => exact id
theorem DI.tup {w : Wh} {tg : Expr} (h : DE X w μ e f .F μ') : DI X w μ tg e (eTup f) .F μ' := by
  refine ⟨(pi_tup h.pe).imp fun σ H Q ⟨B, Γ, fp, st, q⟩ => ⟨B, Γ, fp, st, ?_⟩⟩
  unfold eTup at q
  revert q
  cases f Γ with
  | ok d Γ' =>
    cases d with
    | tup ds =>
      intro q B' H' v fpv fp' s st' r nd
      obtain ⟨rfl, a, vs, rfl, hs, hl, hr⟩ := r
      exact ⟨a, rfl, ⟨vs, Same.sqT st'.same hs⟩, q B' H' _ fp' s st' (it_tup hs hl hr)⟩
    | _ => exact fun q => q.elim
  | exc x Γ' => exact id
  | bad => exact id
/-- upto from lo, n of them -/
def upto (lo : Int) : Nat → List D
  | 0 => []
  | n + 1 => .int lo :: upto (lo + 1) n
theorem upto_length (lo : Int) (n : Nat) : (upto lo n).length = n := by
  induction n generalizing lo with
  | zero => rfl
  | succ n ih => simp [upto, ih]
theorem upto_get (lo : Int) (n i : Nat) (h : i < n) : (upto lo n)[i]? = some (.int (lo + i)) := by
  induction n generalizing lo i with
  | zero => cases h
  | succ n ih =>
    cases i with
    | zero => simp [upto]
    | succ i =>
      rw [upto, List.getElem?_cons_succ, ih (lo + 1) i (Nat.lt_of_succ_lt_succ h)]
      congr 2
      omega
theorem it_range {K : PySem.W.Frag} {B : Hp} (lo : Int) (n : Nat) (hl : n ≤ sizeLine) : ItR K (Itr lo n) B .Z (upto lo n) := ⟨by rw [upto_length]; exact hl, fun i B1 H1 s1 s2 => by
  refine ⟨fun d e => ?_, fun h => by rw [upto_length] at h; exact h⟩
  have hi : i < n := by
    have := (List.getElem?_eq_some_iff.mp e).1
    rwa [upto_length] at this
  rw [upto_get lo n i hi] at e
  cases e
  refine ⟨hi, fun x H2 hy => ?_⟩
  obtain ⟨rfl, rfl⟩ := hy
  exact ⟨[], Stp.refl _ _ _, s2, ⟨rfl, rfl⟩, List.nodup_nil⟩⟩
def bnd62 (i : Int) : Bool := decide (-(2 ^ 62) ≤ i) && decide (i < 2 ^ 62)
theorem bnd62_ok {i : Int} (h : bnd62 i = true) : -(2 ^ 62) ≤ i ∧ i < 2 ^ 62 := by
  unfold bnd62 at h
  rw [Bool.and_eq_true] at h
  exact ⟨of_decide_eq_true h.1, of_decide_eq_true h.2⟩
def rng1 : List D → Option (List D)
  | [.int j] => if (bnd62 j && decide (j.toNat ≤ sizeLine)) = true then some (upto 0 j.toNat) else none
  | _ => none
def rng2 : List D → Option (List D)
  | [.int i, .int j] => if (bnd62 i && (bnd62 j && decide ((j - i).toNat ≤ sizeLine))) = true then some (upto i (j - i).toNat) else none
  | _ => none
def eNi (g : List D → Option (List D)) (r : Gam → Rz (List D)) (Γ : Gam) : Rz (List D) := (r Γ).bind fun xs Γ1 => Rz.opt (g xs) Γ1
theorem rng1_some {ds l : List D} (h : rng1 ds = some l) : ∃ j, ds = [.int j] ∧ bnd62 j = true ∧ j.toNat ≤ sizeLine ∧ l = upto 0 j.toNat := by
  unfold rng1 at h
  split at h
  · split at h
    · rename_i j hb
      rw [Bool.and_eq_true] at hb
      cases h
      exact ⟨j, rfl, hb.1, of_decide_eq_true hb.2, rfl⟩
    · cases h
  · cases h
theorem DI.range1 {w : Wh} {tg : Expr} {p : Pos} {fa : Gam → Rz (List D)} (hg : Gl X "range") (hm : X.mg "range" = none) (ha : DA X w μ [a] fa [m] μ') (hs : starEach [a] X.env = [(false, eval a X.env)]) : DI X w μ tg (.Call (.Name "range" p) [a] [] pos) (eNi rng1 fa) .Z μ' := by
  refine ⟨(pi_range1 hg hm ha.pa hs).imp fun σ H Q ⟨B, Γ, fp, st, q⟩ => ⟨B, Γ, fp, st, ?_⟩⟩
  unfold eNi at q
  revert q
  cases fa Γ with
  | ok ds Γ' =>
    intro q B' H' vs fpv fp' s st' r nd
    cases e : rng1 ds with
    | none =>
      rw [show (Rz.ok ds Γ').bind (fun xs Γ1 => Rz.opt (rng1 xs) Γ1) = Rz.bad from by show Rz.opt (rng1 ds) Γ' = _; rw [e]; rfl] at q
      exact q.elim
    | some l =>
      rw [show (Rz.ok ds Γ').bind (fun xs Γ1 => Rz.opt (rng1 xs) Γ1) = Rz.ok l Γ' from by show Rz.opt (rng1 ds) Γ' = _; rw [e]; rfl] at q
      obtain ⟨j, rfl, b1, hz, rfl⟩ := rng1_some e
      obtain ⟨v, r', f1, f2, rfl, r1, r2, rfl⟩ := r
      obtain ⟨rfl, rfl⟩ := r1
      obtain ⟨rfl, rfl⟩ := r2
      exact ⟨j, rfl, (bnd62_ok b1).1, (bnd62_ok b1).2, q B' H' _ fp' s st' (it_range 0 j.toNat hz)⟩
  | exc x Γ' => exact id
  | bad => exact id
theorem rng2_some {ds l : List D} (h : rng2 ds = some l) : ∃ i j, ds = [.int i, .int j] ∧ bnd62 i = true ∧ bnd62 j = true ∧ (j - i).toNat ≤ sizeLine ∧ l = upto i (j - i).toNat := by
  unfold rng2 at h
  split at h
  · split at h
    · rename_i i j hb
      rw [Bool.and_eq_true, Bool.and_eq_true] at hb
      cases h
      exact ⟨i, j, rfl, hb.1, hb.2.1, of_decide_eq_true hb.2.2, rfl⟩
    · cases h
  · cases h
theorem DI.range2 {w : Wh} {tg : Expr} {p : Pos} {fa : Gam → Rz (List D)} (hg : Gl X "range") (hm : X.mg "range" = none) (ha : DA X w μ [a, b] fa [m1, m2] μ') (hs : starEach [a, b] X.env = [(false, eval a X.env), (false, eval b X.env)]) (hs2 : starEach [b] X.env = [(false, eval b X.env)]) : DI X w μ tg (.Call (.Name "range" p) [a, b] [] pos) (eNi rng2 fa) .Z μ' := by
  refine ⟨(pi_range2 hg hm ha.pa hs hs2).imp fun σ H Q ⟨B, Γ, fp, st, q⟩ => ⟨B, Γ, fp, st, ?_⟩⟩
  unfold eNi at q
  revert q
  cases fa Γ with
  | ok ds Γ' =>
    intro q B' H' vs fpv fp' s st' r nd
    cases e : rng2 ds with
    | none =>
      rw [show (Rz.ok ds Γ').bind (fun xs Γ1 => Rz.opt (rng2 xs) Γ1) = Rz.bad from by show Rz.opt (rng2 ds) Γ' = _; rw [e]; rfl] at q
      exact q.elim
    | some l =>
      rw [show (Rz.ok ds Γ').bind (fun xs Γ1 => Rz.opt (rng2 xs) Γ1) = Rz.ok l Γ' from by show Rz.opt (rng2 ds) Γ' = _; rw [e]; rfl] at q
      obtain ⟨i, j, rfl, b1, b2, hz, rfl⟩ := rng2_some e
      obtain ⟨v, r', f1, f2, rfl, r1, ⟨v2, r'', f3, f4, rfl, r3, r4, rfl⟩, rfl⟩ := r
      obtain ⟨rfl, rfl⟩ := r1
      obtain ⟨rfl, rfl⟩ := r3
      obtain ⟨rfl, rfl⟩ := r4
      exact ⟨i, j, rfl, ⟨(bnd62_ok b1).1, (bnd62_ok b1).2, (bnd62_ok b2).1, (bnd62_ok b2).2⟩, q B' H' _ fp' s st' (it_range i (j - i).toNat hz)⟩
  | exc x Γ' => exact id
  | bad => exact id
/-! ### for -/
def sFor (t : D → Gam → Option Gam) (b : Gam → Sz) : List D → Gam → Sz
  | [], Γ => .nx Γ
  | d :: ds, Γ => match t d Γ with
    | none => .bad
    | some Γ1 => match b Γ1 with
      | .nx Γ2 => sFor t b ds Γ2
      | .ct Γ2 => sFor t b ds Γ2
      | .bk Γ2 => .nx Γ2
      | .rt d Γ2 => .rt d Γ2
      | .exc x Γ2 => .exc x Γ2
      | .bad => .bad
def sForE (i : Gam → Rz (List D)) (t : D → Gam → Option Gam) (b : Gam → Sz) (Γ : Gam) : Sz := (i Γ).s fun ds Γ1 => sFor t b ds Γ1
theorem DS.for_ {tg iter : Expr} {fi : Gam → Rz (List D)} {t : D → Gam → Option Gam} (hp : PassesOwn (model X.prog X.w) X.A X.env X.xe) (hc : X.calm = true) (hi : DI X z.w μ tg iter fi m μ1) (wk : weakL μ1 μ2 = true) (hg : DG X (PinOk z.pin) μ2 tg m t μ') (hb : DSs X (z.loop μ2) μ' body sf μ2) (hs : ∀ x, foldedSetIterable iter X.env x = pure x) : DS X z μ (.For tg iter body [] pos) (sForE fi t sf) μ2 := by
  refine ⟨(ps_for hp hc hi.pi hg.pg hb.ps hs).imp fun D σ H ⟨hpn, B, Γ, fp, sta, q⟩ => ⟨B, Γ, fp, sta, ?_⟩⟩
  unfold sForE at q
  revert q
  cases fi Γ with
  | bad => exact id
  | exc x Γ' => exact fun q B' H' fpe fp' cls dd s st' ex nd => q σ B' H' fpe fp' cls dd s st' ex nd hpn
  | ok ds Γ' =>
    intro q B0 H0 J fp0 s0 st0 itr
    have q0 : Lead X.K z μ2 B H fp D (sFor t sf ds Γ') := q
    obtain ⟨B1, fp1, s1, st1, k1⟩ := st0.weak (l := []) wk (fun a h => by cases h) (fun a h => by cases h)
    refine ⟨fun i k σ H => k + i = ds.length ∧ PinOk z.pin σ ∧ ∃ B Γ fp, Same B0 B ∧ Sta X.K B H Γ μ2 σ fp ∧ Lead X.K z μ2 B H fp D (sFor t sf (ds.drop i) Γ), ⟨ds.length, by omega, hpn, B1, Γ', fp1, s1.base, st1, q0.after (s0.trans s1)⟩, ?_⟩
    rintro i k σ H ⟨hk, hpn, B, Γ, fp, hB, sta, q⟩
    obtain ⟨i1, i2⟩ := itr.2 i B H hB sta.same
    cases k with
    | zero =>
      have e : ds.drop i = [] := List.drop_eq_nil_iff.mpr (by omega)
      rw [e] at q
      exact .inl ⟨i2 (by omega), q σ B H fp (Stp.refl _ _ _) sta hpn⟩
    | succ k =>
      have hi : i < ds.length := by omega
      have ed : ds.drop i = ds[i] :: ds.drop (i + 1) := List.drop_eq_getElem_cons hi
      obtain ⟨g1, g2⟩ := i1 ds[i] (List.getElem?_eq_getElem hi)
      refine .inr ⟨g1, fun σ' H' => PinOk z.pin σ' ∧ ∃ B Γ fp, Same B0 B ∧ Sta X.K B H' Γ μ2 σ' fp ∧ Lead X.K z μ2 B H' fp D (sFor t sf (ds.drop (i + 1)) Γ), fun σ' H' ⟨h1, h2⟩ => ⟨k, Nat.lt_succ_self _, by omega, h1, h2⟩, fun x H2 hy => ?_⟩
      obtain ⟨fpx, sx, smx, rx, nx⟩ := g2 x H2 hy
      rw [ed] at q
      have kx : Kept B H H2 fp := sx.kept (K := X.K) sta.st.own fun a h q => by cases q
      have dj : ∀ a ∈ fpx, a ∉ fp := fun a h q => by
        rcases sx.own a h with z | z
        · cases z
        · obtain ⟨_, o, e⟩ := sta.st.own a q
          rw [e] at z; cases z
      have st2 : Sta X.K B H2 Γ μ2 σ fp := ⟨smx, sta.st.mono (Same.refl _) kx, sta.nd⟩
      have s2 : Stp B H fp B H2 (fpx ++ fp) := by
        have := sx.more (fp2 := fp) (fun a h => by cases h)
        exact ⟨this.base, this.keep, fun a h => (List.mem_append.mp h).elim (fun z => this.own a z) fun z => .inl z, this.new⟩
      refine ⟨hpn, B, Γ, fp, fpx, ds[i], st2, rx, nodup_app.mpr ⟨nx, sta.nd, dj⟩, ?_⟩
      revert q
      show Lead X.K z μ2 B H fp D (match t ds[i] Γ with
        | none => .bad
        | some Γ1 => match sf Γ1 with
          | .nx Γ2 => sFor t sf (ds.drop (i + 1)) Γ2
          | .ct Γ2 => sFor t sf (ds.drop (i + 1)) Γ2
          | .bk Γ2 => .nx Γ2
          | .rt d Γ2 => .rt d Γ2
          | .exc x Γ2 => .exc x Γ2
          | .bad => .bad) → _
      cases t ds[i] Γ with
      | none => exact id
      | some Γ1 =>
        intro q σ3 B3 H3 fp3 s3 st3 hp3
        refine ⟨hp3, B3, Γ1, fp3, st3, ?_⟩
        have sb : Same B0 B3 := hB.trans s3.base
        have q2 := q.after (s2.trans s3)
        revert q2
        show Lead X.K z μ2 B3 H3 fp3 D (match sf Γ1 with
          | .nx Γ2 => sFor t sf (ds.drop (i + 1)) Γ2
          | .ct Γ2 => sFor t sf (ds.drop (i + 1)) Γ2
          | .bk Γ2 => .nx Γ2
          | .rt d Γ2 => .rt d Γ2
          | .exc x Γ2 => .exc x Γ2
          | .bad => .bad) → _
        cases sf Γ1 with
        | nx Γ2 => exact fun q σ4 B4 H4 fp4 s4 st4 hp4 => ⟨hp4, B4, Γ2, fp4, sb.trans s4.base, st4, q.after s4⟩
        | ct Γ2 => exact fun q σ4 B4 H4 fp4 s4 st4 hp4 => ⟨hp4, B4, Γ2, fp4, sb.trans s4.base, st4, q.after s4⟩
        | bk Γ2 => exact fun q σ4 B4 H4 fp4 s4 st4 hp4 => q σ4 B4 H4 fp4 s4 st4 hp4
        | rt d Γ2 => exact id
        | exc x Γ2 => exact id
        | bad => exact id
end
end EV

/-! EvH: list comprehensions. -/
namespace EV
open PySem PySem.Spec L2

structure DTs (X : Cx) (w : Wh) (μ : List Mode) (ifs : List Expr) (f : Gam → Rz Bool) (μ' : List Mode) : Prop where
  pt : PTs X ifs (tDT X.K w μ f μ')
theorem _root_.L2.PTs.imp {X : Cx} {e : List Expr} {t t' : TT} (h : PTs X e t) (i : ∀ σ H Q, t' σ H Q → t σ H Q) : PTs X e t' := ⟨fun pins s σ H Q I q => h.run pins s σ H Q I (i σ H Q q)⟩
def eYes (Γ : Gam) : Rz Bool := .ok true Γ
def wipeG (Γ : Gam) : List Nat → Gam
  | [] => Γ
  | v :: vs => (wipeG Γ vs).set v none
def wipeM (μ : List Mode) : List Nat → List Mode
  | [] => μ
  | v :: vs => (wipeM μ vs).set v .U
/-- the slots vs of Γ1, all others of Γ -/
def backG (Γ1 Γ : Gam) : List Nat → Gam
  | [] => Γ
  | v :: vs => backG Γ1 (Γ.set v ((Γ1[v]?).getD none)) vs
def backM (μ1 μ : List Mode) : List Nat → List Mode
  | [] => μ
  | v :: vs => backM μ1 (μ.set v ((μ1[v]?).getD .U)) vs
def lcLoop (t : D → Gam → Option Gam) (tt : Gam → Rz Bool) (fe : Gam → Rz D) (vs : List Nat) : List D → Gam → List D → Option (List D × Gam)
  | [], Γ, acc => some (acc, Γ)
  | d :: ds, Γ, acc => match t d Γ with
    | none => none
    | some Γ1 => match tt Γ1 with
      | .ok true Γ2 => (match fe Γ2 with
        | .ok y Γ3 => lcLoop t tt fe vs ds (wipeG Γ3 vs) (acc ++ [y])
        | _ => none)
      | .ok false Γ2 => lcLoop t tt fe vs ds (wipeG Γ2 vs) acc
      | _ => none
def eLc (fi : Gam → Rz (List D)) (t : D → Gam → Option Gam) (tt : Gam → Rz Bool) (fe : Gam → Rz D) (vs : List Nat) (Γ : Gam) : Rz D := (fi Γ).bind fun ds Γ1 => match lcLoop t tt fe vs ds (wipeG Γ1 vs) [] with
  | some (ys, Γ2) => .ok (.lst ys) (backG Γ1 Γ2 vs)
  | none => .bad
section
variable {K : PySem.W.Frag} {B H : Hp}
/-- slots that own nothing, at vs -/
def flM : Mode → Bool
  | .F => true
  | .Z => true
  | .U => true
  | .X => true
  | _ => false
def flO (m : Option Mode) : Bool := match m with
  | some m => flM m
  | none => false
def flatAt (μ : List Mode) (vs : List Nat) : Bool := vs.all fun i => flO μ[i]?
theorem SlR.flat {g : Option D} {m : Mode} {s : Option V} {fp : List Addr} (h : SlR K B H g m s fp) (f : flM m = true) : fp = [] := by
  cases g with
  | none => exact h
  | some d =>
    rcases h with h | ⟨v, _, r⟩
    · exact h.2
    · cases m with
      | F => exact r.fpF
      | Z => exact r.fpZ
      | U => have := R.noU (m := .Z) r; exact this.fpZ
      | X => have := R.noX (m := .Z) r; exact this.fpZ
      | _ => cases f
/-- a slot that owns nothing is replaced -/
theorem StR.swap : ∀ {Γ : Gam} {μ : List Mode} {σ : St} {fp : List Addr} {i : Nat} {g : Option D} {m : Mode} {s : Option V}, StR K B H Γ μ σ fp → flO μ[i]? = true → SlR K B H g m s [] →
    StR K B H (Γ.set i g) (μ.set i m) (σ.set i s) fp
  | g0 :: Γ, m0 :: μ, s0 :: σ, fp, 0, g, m, s, h, f, r => by
    obtain ⟨fp1, fp2, h1, h2, rfl⟩ := h
    have z : fp1 = [] := h1.flat f
    subst z
    exact ⟨[], fp2, r, h2, rfl⟩
  | g0 :: Γ, m0 :: μ, s0 :: σ, fp, i + 1, g, m, s, h, f, r => by
    obtain ⟨fp1, fp2, h1, h2, rfl⟩ := h
    exact ⟨fp1, fp2, h1, StR.swap (i := i) h2 (by simpa using f) r, rfl⟩
  | [], [], [], _, _, _, _, _, h, f, r => h
  | [], _ :: _, _, _, _, _, _, _, h, _, _ => h.elim
  | [], [], _ :: _, _, _, _, _, _, h, _, _ => h.elim
  | _ :: _, [], _, _, _, _, _, _, h, _, _ => h.elim
  | _ :: _, _ :: _, [], _, _, _, _, _, h, _, _ => h.elim
theorem flO_set {μ : List Mode} {i x : Nat} {m : Mode} (h : flO μ[x]? = true) (f : flM m = true) : flO (μ.set i m)[x]? = true := by
  by_cases e : i = x
  · subst e
    cases q : μ[i]? with
    | none => rw [q] at h; cases h
    | some m0 =>
      have hi := (List.getElem?_eq_some_iff.mp q).1
      rw [List.getElem?_set_self hi]
      exact f
  · rw [List.getElem?_set_ne e]; exact h
theorem flat_set {μ : List Mode} {i : Nat} {vs : List Nat} {m : Mode} (h : flatAt μ vs = true) (f : flM m = true) : flatAt (μ.set i m) vs = true := by
  unfold flatAt at h ⊢
  rw [List.all_eq_true] at h ⊢
  exact fun x hx => flO_set (h x hx) f
theorem flatAt_cons {μ : List Mode} {v : Nat} {vs : List Nat} (h : flatAt μ (v :: vs) = true) : flO μ[v]? = true ∧ flatAt μ vs = true := by
  unfold flatAt at h
  rw [List.all_cons, Bool.and_eq_true] at h
  exact h
theorem wipeM_flO {μ : List Mode} {x : Nat} : ∀ {vs : List Nat}, flO μ[x]? = true → flO (wipeM μ vs)[x]? = true
  | [], h => h
  | v :: vs, h => flO_set (wipeM_flO h) rfl
theorem StR.wipe {Γ : Gam} {μ : List Mode} {σ : St} {fp : List Addr} : ∀ {vs : List Nat}, StR K B H Γ μ σ fp → flatAt μ vs = true → StR K B H (wipeG Γ vs) (wipeM μ vs) (L2.wipe σ vs) fp
  | [], h, f => h
  | v :: vs, h, f => StR.swap (StR.wipe (vs := vs) h (flatAt_cons f).2) (wipeM_flO (flatAt_cons f).1) rfl
theorem StR.slot : ∀ {Γ : Gam} {μ : List Mode} {σ : St} {fp : List Addr} {i : Nat}, StR K B H Γ μ σ fp → i < σ.length → ∃ fq, SlR K B H ((Γ[i]?).getD none) ((μ[i]?).getD .U) ((σ[i]?).getD none) fq ∧ ∀ a ∈ fq, a ∈ fp
  | g0 :: Γ, m0 :: μ, s0 :: σ, fp, 0, h, hi => by
    obtain ⟨fp1, fp2, h1, h2, rfl⟩ := h
    exact ⟨fp1, h1, fun a h => List.mem_append_left _ h⟩
  | g0 :: Γ, m0 :: μ, s0 :: σ, fp, i + 1, h, hi => by
    obtain ⟨fp1, fp2, h1, h2, rfl⟩ := h
    obtain ⟨fq, q1, q2⟩ := StR.slot (i := i) h2 (Nat.lt_of_succ_lt_succ hi)
    exact ⟨fq, by simpa using q1, fun a h => List.mem_append_right _ (q2 a h)⟩
  | [], [], [], _, _, h, hi => absurd hi (Nat.not_lt_zero _)
  | [], _ :: _, _, _, _, h, _ => h.elim
  | [], [], _ :: _, _, _, h, _ => h.elim
  | _ :: _, [], _, _, _, h, _ => h.elim
  | _ :: _, _ :: _, [], _, _, h, _ => h.elim
/-- back behind a block: the outer slots as they were -/
def backS (σ0 σ : St) : List Nat → St
  | [] => σ
  | v :: vs => backS σ0 (σ.set v ((σ0[v]?).getD none)) vs
theorem StR.back {B1 H1 : Hp} {Γ1 : Gam} {μ1 : List Mode} {σ0 : St} {fp1 fp : List Addr} (hB : Same B1 B) (h1 : StR K B1 H1 Γ1 μ1 σ0 fp1) : ∀ {vs : List Nat} {Γ : Gam} {μ : List Mode} {σ : St}, StR K B H Γ μ σ fp → flatAt μ1 vs = true → flatAt μ vs = true → StR K B H (backG Γ1 Γ vs) (backM μ1 μ vs) (backS σ0 σ vs) fp
  | [], Γ, μ, σ, h, f1, f => h
  | v :: vs, Γ, μ, σ, h, f1, f => by
    have f1' := flatAt_cons f1
    have f' := flatAt_cons f
    have fm : ∃ m, μ1[v]? = some m ∧ flM m = true := by
      have := f1'.1
      cases q : μ1[v]? with
      | none => rw [q] at this; cases this
      | some m => rw [q] at this; exact ⟨m, rfl, this⟩
    obtain ⟨m, em, fm⟩ := fm
    have hv : v < σ0.length := by
      rw [← h1.len.2]; exact (List.getElem?_eq_some_iff.mp em).1
    obtain ⟨fq, q1, q2⟩ := h1.slot hv
    rw [em] at q1
    have z := q1.flat fm
    subst z
    have e : (μ1[v]?).getD .U = m := by rw [em]; rfl
    have sw := StR.swap (i := v) h f'.1 (q1.mono hB Kept.nil)
    show StR K B H (backG Γ1 (Γ.set v ((Γ1[v]?).getD none)) vs) (backM μ1 (μ.set v ((μ1[v]?).getD .U)) vs) (backS σ0 (σ.set v ((σ0[v]?).getD none)) vs) fp
    rw [e]
    exact StR.back hB h1 sw f1'.2 (flat_set f'.2 fm)
theorem backS_eq {σ : St} : ∀ {vs : List Nat} {τ : St}, τ.length = σ.length → (∀ i : Nat, i ∉ vs → τ[i]? = σ[i]?) → backS σ τ vs = σ
  | [], τ, hl, h => List.ext_getElem? fun i => h i (fun z => nomatch z)
  | v :: vs, τ, hl, h => by
    refine backS_eq (vs := vs) (τ := τ.set v ((σ[v]?).getD none)) (by rw [List.length_set, hl]) fun i hi => ?_
    by_cases e : v = i
    · subst e
      by_cases hv : v < σ.length
      · rw [List.getElem?_set_self (by rw [hl]; exact hv), List.getElem?_eq_getElem hv]; rfl
      · rw [List.getElem?_eq_none (by rw [List.length_set, hl]; omega), List.getElem?_eq_none (by omega)]
    · rw [List.getElem?_set_ne e]
      exact h i fun z => (List.mem_cons.mp z).elim (fun q => e q.symm) hi
theorem backS_wipe {σ : St} {vs : List Nat} : backS σ (L2.wipe σ vs) vs = σ := backS_eq (L2.wipe_length σ vs) fun _ h => L2.wipe_out h
/-- a list grows by an item -/
theorem Rl.snoc {ds : List D} {m : Mode} {vs : List V} {fp fq : List Addr} {d : D} {v : V} (h : Rl K B H ds m vs fp) (r : R K B H d m v fq) : Rl K B H (ds ++ [d]) m (vs ++ [v]) (fp ++ fq) := by
  induction ds generalizing vs fp with
  | nil =>
    obtain ⟨rfl, rfl⟩ := h
    exact ⟨v, [], fq, [], rfl, r, ⟨rfl, rfl⟩, by simp⟩
  | cons d0 ds ih =>
    obtain ⟨v0, r0, f1, f2, rfl, h1, h2, rfl⟩ := h
    exact ⟨v0, r0 ++ [v], f1, f2 ++ fq, rfl, h1, ih h2, by rw [List.append_assoc]⟩
end
section
variable {X : Cx} {w : Wh} {μ μ' μ1 μ2 μt μe : List Mode} {e a b c : Expr} {m me : Mode} {pos : Pos} {vs : List Nat}
theorem DTs.nil : DTs X w μ [] eYes μ := ⟨pts_nil.imp fun σ H Q ⟨B, Γ, fp, st, q⟩ => q B H fp (Stp.refl _ _ _) st⟩
theorem DTs.one {f : Gam → Rz Bool} (h : DT X w μ c f μ') : DTs X w μ [c] f μ' := ⟨pts_one h.pt⟩
/-- nothing may be raised within a block -/
def wNo (μ : List Mode) : Wh := ⟨fun _ _ _ _ => False, μ⟩
theorem fresh_same {B H : Hp} {p : Addr} {o : HO} (s : Same B H) (np : H p = none) : Same B (upd H p o) := fun a q e => by
  rw [upd_ne (ne_of_none (s a q e) np)]; exact s a q e
theorem upd_same' {B H : Hp} {p : Addr} {o : HO} (s : Same B H) (b0 : B p = none) : Same B (upd H p o) := fun a q e => by
  by_cases z : a = p
  · subst z; rw [b0] at e; cases e
  · rw [upd_ne z]; exact s a q e
theorem upd_kept {B H : Hp} {p : Addr} {o : HO} {l : List Addr} (ho : ∀ a ∈ l, B a = none) (hp : p ∉ l) : Kept B H (upd H p o) l := fun a h => ⟨fun q e => by rw [upd_ne (fun z => by subst z; exact hp h)]; exact e, ho a h⟩
theorem wipe_set {σ : St} {i : Nat} {s : Option V} : ∀ {vs : List Nat}, i ∈ vs → L2.wipe (σ.set i s) vs = L2.wipe σ vs := fun {vs} hi => by
  refine List.ext_getElem? fun j => ?_
  have len : ∀ (τ : St), (L2.wipe τ vs).length = τ.length := fun τ => L2.wipe_length τ vs
  by_cases e : j ∈ vs
  · have key : ∀ (τ : St) (ws : List Nat), j ∈ ws → (L2.wipe τ ws)[j]? = if j < τ.length then some none else none := by
      intro τ ws
      induction ws with
      | nil => exact fun h => nomatch h
      | cons w ws ih =>
        intro h
        rw [L2.wipe]
        by_cases e2 : w = j
        · subst e2
          by_cases q : w < τ.length
          · rw [List.getElem?_set_self (by rw [L2.wipe_length]; exact q), if_pos q]
          · rw [if_neg q, List.getElem?_eq_none (by rw [List.length_set, L2.wipe_length]; omega)]
        · rw [List.getElem?_set_ne e2]
          exact ih ((List.mem_cons.mp h).elim (fun q => absurd q.symm e2) id)
    rw [key _ vs e, key _ vs e, List.length_set]
  · rw [L2.wipe_out e, L2.wipe_out e, List.getElem?_set_ne (fun z => e (by rw [← z]; exact hi))]
theorem L2_wipe_wipe {σ : St} {vs : List Nat} : L2.wipe (L2.wipe σ vs) vs = L2.wipe σ vs := by
  have key : ∀ (ws : List Nat) (τ : St), (∀ v ∈ ws, v ∈ vs) → L2.wipe (L2.wipe τ ws) vs = L2.wipe τ vs := by
    intro ws
    induction ws with
    | nil => exact fun _ _ => rfl
    | cons w ws ih =>
      intro τ h
      rw [L2.wipe, wipe_set (h w List.mem_cons_self)]
      exact ih τ fun v hv => h v (List.mem_cons_of_mem _ hv)
  exact key vs σ fun _ h => h
/-- a target within a block: it stores at vs alone -/
def tGw (K : PySem.W.Frag) (vs : List Nat) (μ : List Mode) (m : Mode) (t : D → Gam → Option Gam) (μ' : List Mode) : TG := fun v σ H Q => tG K (fun τ => L2.wipe τ vs = L2.wipe σ vs) μ m t μ' v σ H Q
/-- the reading of a comprehension, from the data's -/
theorem lc_of {K : PySem.W.Frag} {fi : Gam → Rz (List D)} {t : D → Gam → Option Gam} {tt : Gam → Rz Bool} {fe : Gam → Rz D} {σ : St} {H : Hp} {Q : VK} (hf1 : flatAt μ1 vs = true) (hfe : flatAt μe vs = true) (wk : weakL (wipeM μe vs) (wipeM μ1 vs) = true) (wk2 : weakL (wipeM μt vs) (wipeM μ1 vs) = true) (hft : flatAt μt vs = true)
    (q : tD K w μ (eLc fi t tt fe vs) (.O me) (backM μ1 (wipeM μ1 vs) vs) σ H Q) :
    tLc (tDI K w μ fi m μ1) (tGw K vs (wipeM μ1 vs) m t μt) (tDT K (wNo μt) μt tt μt) (tD K (wNo μt) μt fe me μe) vs σ H Q := by
  obtain ⟨B, Γ, fp, st, q⟩ := q
  refine ⟨B, Γ, fp, st, ?_⟩
  unfold eLc at q
  revert q
  cases fi Γ with
  | bad => exact id
  | exc x Γ' => exact id
  | ok ds Γ1 =>
    intro q B0 H0 J fp0 s0 st0 itr Dl hDl
    have q0 : match (match lcLoop t tt fe vs ds (wipeG Γ1 vs) [] with
        | some (ys, Γ2) => Rz.ok (D.lst ys) (backG Γ1 Γ2 vs)
        | none => .bad) with
      | .ok d Γ' => ∀ B' H' v fpv fp', Stp B H fp B' H' (fpv ++ fp') → Sta K B' H' Γ' (backM μ1 (wipeM μ1 vs) vs) σ fp' → R K B' H' d (.O me) v fpv → (fpv ++ fp').Nodup → Q v H'
      | .exc x Γ' => wexc K w B H fp σ x Γ'
      | .bad => False := q
    clear q
    have bD : B0 Dl = none := by
      cases e : B0 Dl with
      | none => rfl
      | some o => rw [st0.same Dl o e] at hDl; cases hDl
    have nDfp : Dl ∉ fp0 := fun h => by
      obtain ⟨_, o, e⟩ := st0.st.own Dl h
      rw [e] at hDl; cases hDl
    -- what holds ahead of the turn i
    let Fin : Option (List D × Gam) → Prop := fun r => match (match r with
        | some (ys, Γ2) => Rz.ok (D.lst ys) (backG Γ1 Γ2 vs)
        | none => .bad) with
      | .ok d Γ' => ∀ B' H' v fpv fp', Stp B H fp B' H' (fpv ++ fp') → Sta K B' H' Γ' (backM μ1 (wipeM μ1 vs) vs) σ fp' → R K B' H' d (.O me) v fpv → (fpv ++ fp').Nodup → Q v H'
      | .exc x Γ' => wexc K w B H fp σ x Γ'
      | .bad => False
    let Wv : Nat → Nat → Hp → Prop := fun i k H1 => k + i = ds.length ∧ ∃ B1 Γ2 fp2 acc accD fa, Same B0 B1 ∧ Sta K B1 H1 Γ2 (wipeM μ1 vs) (L2.wipe σ vs) fp2 ∧ H1 Dl = some (.lst acc) ∧ B1 Dl = none ∧ Rl K B1 H1 accD me acc fa ∧ (Dl :: fa ++ fp2).Nodup ∧ accD.length ≤ i ∧ Stp B H fp B1 H1 (Dl :: fa ++ fp2) ∧
      Fin (lcLoop t tt fe vs (ds.drop i) Γ2 accD)
    refine ⟨Wv, ⟨ds.length, ?_⟩, ?_⟩
    · refine ⟨by omega, B0, wipeG Γ1 vs, fp0, [], [], [], Same.refl _, ⟨fresh_same st0.same hDl, (st0.st.wipe hf1).mono (Same.refl _) (upd_kept (fun a h => (st0.st.own a h).1) nDfp), st0.nd⟩, upd_same, bD, ⟨rfl, rfl⟩, List.nodup_cons.mpr ⟨by simpa using nDfp, st0.nd⟩, Nat.le_refl _, ?_, q0⟩
      refine ⟨s0.base, fun a o n e => ?_, fun a h => ?_, s0.new⟩
      · have := s0.keep a o n e
        rw [upd_ne (ne_of_none this hDl)]; exact this
      · rcases List.mem_cons.mp h with rfl | h
        · by_cases n : a ∈ fp
          · exact .inl n
          · cases e : H a with
            | none => exact .inr rfl
            | some o => rw [s0.keep a o n e] at hDl; cases hDl
        · exact s0.own a (by simpa using h)
    · rintro i k H1 ⟨hk, B1, Γ2, fp2, acc, accD, fa, hB, sta, hD, b1, ra, nd, hlen, stp, fin⟩
      obtain ⟨i1, i2⟩ := itr.2 i B1 H1 hB sta.same
      have ndc := List.nodup_cons.mp nd
      have nda := nodup_app.mp ndc.2
      cases k with
      | zero =>
        have e : ds.drop i = [] := List.drop_eq_nil_iff.mpr (by omega)
        rw [e] at fin
        refine .inl ⟨i2 (by omega), ?_⟩
        have fin' : ∀ B' H' v fpv fp', Stp B H fp B' H' (fpv ++ fp') → Sta K B' H' (backG Γ1 Γ2 vs) (backM μ1 (wipeM μ1 vs) vs) σ fp' → R K B' H' (.lst accD) (.O me) v fpv → (fpv ++ fp').Nodup → Q v H' := fin
        have bk := StR.back (vs := vs) (Γ := Γ2) (μ := wipeM μ1 vs) (σ := L2.wipe σ vs) hB st0.st sta.st hf1 (by
          unfold flatAt at hf1 ⊢
          rw [List.all_eq_true] at hf1 ⊢
          exact fun x hx => wipeM_flO (hf1 x hx))
        rw [backS_wipe] at bk
        exact fin' B1 H1 (.ref Dl) (Dl :: fa) fp2 stp ⟨sta.same, bk, sta.nd⟩ ⟨Dl, acc, fa, rfl, b1, hD, Nat.le_trans hlen (by have := itr.1; omega), ra, rfl⟩ nd
      | succ k =>
        have hi : i < ds.length := by omega
        have ed : ds.drop i = ds[i] :: ds.drop (i + 1) := List.drop_eq_getElem_cons hi
        obtain ⟨g1, g2⟩ := i1 ds[i] (List.getElem?_eq_getElem hi)
        refine .inr ⟨g1, Wv (i + 1) k, fun H' h => ⟨k, Nat.lt_succ_self _, h⟩, fun x H2 hy => ?_⟩
        obtain ⟨fpx, sx, smx, rx, nx⟩ := g2 x H2 hy
        rw [ed] at fin
        -- all that is owned stands over the iterator's step
        have ownAll : ∀ a ∈ Dl :: fa ++ fp2, B1 a = none ∧ ∃ o, H1 a = some o := fun a h => by
          rcases List.mem_cons.mp h with rfl | h
          · exact ⟨b1, _, hD⟩
          · rcases List.mem_append.mp h with h | h
            · exact Rl.own accD ra a h
            · exact sta.st.own a h
        have kx : Kept B1 H1 H2 (Dl :: fa ++ fp2) := sx.kept (K := K) ownAll fun a h q => by cases q
        have djx : ∀ a ∈ fpx, a ∉ Dl :: fa ++ fp2 := fun a h q => by
          rcases sx.own a h with z | z
          · cases z
          · obtain ⟨_, o, e⟩ := ownAll a q
            rw [e] at z; cases z
        have kfp : Kept B1 H1 H2 fp2 := fun a h => kx a (List.mem_cons_of_mem _ (List.mem_append_right _ h))
        have st2 : Sta K B1 H2 Γ2 (wipeM μ1 vs) (L2.wipe σ vs) fp2 := ⟨smx, sta.st.mono (Same.refl _) kfp, sta.nd⟩
        have hD2 : H2 Dl = some (.lst acc) := (kx Dl List.mem_cons_self).1 _ hD
        have ra2 : Rl K B1 H2 accD me acc fa := ra.mono (Same.refl _) accD fun a h => kx a (List.mem_cons_of_mem _ (List.mem_append_left _ h))
        have sAll : Stp B H fp B1 H2 (Dl :: fa ++ fp2) := by
          have := sx.more (fp2 := Dl :: fa ++ fp2) fun a h => by cases h
          exact stp.trans ⟨this.base, this.keep, fun a h => .inl h, this.new⟩
        refine ⟨rfl, B1, Γ2, fp2, fpx, ds[i], st2, rx, nodup_app.mpr ⟨nx, sta.nd, fun a h q => djx a h (List.mem_cons_of_mem _ (List.mem_append_right _ q))⟩, ?_⟩
        revert fin
        show Fin (match t ds[i] Γ2 with
          | none => none
          | some Γ1' => match tt Γ1' with
            | .ok true Γ2' => (match fe Γ2' with
              | .ok y Γ3 => lcLoop t tt fe vs (ds.drop (i + 1)) (wipeG Γ3 vs) (accD ++ [y])
              | _ => none)
            | .ok false Γ2' => lcLoop t tt fe vs (ds.drop (i + 1)) (wipeG Γ2' vs) accD
            | _ => none) → _
        cases t ds[i] Γ2 with
        | none => exact fun f => f.elim
        | some Γa =>
          intro fin σa Ba Ha fpa sa sta_a hwa0
          have hwa : L2.wipe σa vs = L2.wipe σ vs := hwa0.trans L2_wipe_wipe
          refine ⟨hwa, ?_⟩
          -- the temporaries over the target's store
          have djT : ∀ a ∈ Dl :: fa, a ∉ fpx ++ fp2 := fun a h q => by
            rcases List.mem_append.mp q with q | q
            · exact djx a q (List.mem_append_left _ h)
            · rcases List.mem_cons.mp h with rfl | h
              · exact ndc.1 (List.mem_append_right _ q)
              · exact nda.2.2 a h q
          have ownT : ∀ a ∈ Dl :: fa, B1 a = none ∧ ∃ o, H2 a = some o := fun a h => by
            obtain ⟨b, o, e⟩ := ownAll a (List.mem_append_left _ h)
            exact ⟨b, o, (kx a (List.mem_append_left _ h)).1 o e⟩
          have sAllx : Stp B H fp B1 H2 ((Dl :: fa) ++ (fpx ++ fp2)) := by
            refine stp.trans ⟨Same.refl _, fun a o n e => sx.keep a o (fun q => nomatch q) e, fun a h => ?_, fun a o e => .inl e⟩
            rcases List.mem_append.mp h with h | h
            · exact .inl (List.mem_append_left _ h)
            · rcases List.mem_append.mp h with h | h
              · exact (sx.own a h).elim (fun z => nomatch z) .inr
              · exact .inl (List.mem_append_right _ h)
          -- over one step of the state: what the comprehension holds
          have over : ∀ {Bn Hn : Hp} {fpn l : List Addr}, Stp B1 H2 (fpx ++ fp2) Bn Hn (l ++ fpn) → Hn Dl = some (.lst acc) ∧ Bn Dl = none ∧ Rl K Bn Hn accD me acc fa ∧ (∀ a ∈ Dl :: fa, a ∉ l ++ fpn) ∧ Stp B H fp Bn Hn ((Dl :: fa) ++ (l ++ fpn)) := fun {Bn Hn fpn l} s => by
            have kT := s.kept (K := K) ownT djT
            exact ⟨(kT Dl List.mem_cons_self).1 _ hD2, (kT Dl List.mem_cons_self).2, ra2.mono s.base accD fun a h => kT a (List.mem_cons_of_mem _ h), s.apart (fun a h => (ownT a h).2) djT, sAllx.trans (s.frame (Dl :: fa))⟩
          -- the end of a turn that leaves the item out
          have skip : ∀ {Bn Hn : Hp} {Γn : Gam} {fpn : List Addr}, Stp B1 H2 (fpx ++ fp2) Bn Hn fpn → Sta K Bn Hn Γn μt σa fpn → Fin (lcLoop t tt fe vs (ds.drop (i + 1)) (wipeG Γn vs) accD) → Wv (i + 1) k Hn := fun {Bn Hn Γn fpn} s st f => by
            obtain ⟨c1, c2, c3, c4, c5⟩ := over (l := []) s
            have st3 : Sta K Bn Hn (wipeG Γn vs) (wipeM μt vs) (L2.wipe σ vs) fpn := ⟨st.same, by rw [← hwa]; exact st.st.wipe hft, st.nd⟩
            obtain ⟨Bz, fpz, sz, stz, kz⟩ := st3.weak (l := Dl :: fa) wk2 (fun a h => by
              rcases List.mem_cons.mp h with rfl | h
              · exact ⟨c2, _, c1⟩
              · exact Rl.own accD c3 a h) c4
            refine ⟨by omega, Bz, wipeG Γn vs, fpz, acc, accD, fa, (hB.trans s.base).trans sz.base, stz, c1, (kz Dl List.mem_cons_self).2, c3.mono sz.base accD fun a h => kz a (List.mem_cons_of_mem _ h), ?_, Nat.le_trans hlen (Nat.le_succ _), c5.trans (sz.frame (Dl :: fa)), f⟩
            have := sz.apart (l := Dl :: fa) (fun a h => by
              rcases List.mem_cons.mp h with rfl | h
              · exact ⟨_, c1⟩
              · exact (Rl.own accD c3 a h).2) c4
            refine nodup_app.mpr ⟨(nodup_app.mp nd).1, stz.nd, this⟩
          refine ⟨Ba, Γa, fpa, sta_a, ?_⟩
          revert fin
          show Fin (match tt Γa with
            | .ok true Γ2' => (match fe Γ2' with
              | .ok y Γ3 => lcLoop t tt fe vs (ds.drop (i + 1)) (wipeG Γ3 vs) (accD ++ [y])
              | _ => none)
            | .ok false Γ2' => lcLoop t tt fe vs (ds.drop (i + 1)) (wipeG Γ2' vs) accD
            | _ => none) → _
          cases tt Γa with
          | bad => exact fun f => f.elim
          | exc x Γ => exact fun f => f.elim
          | ok bb Γb =>
            cases bb with
            | false => exact fun fin Bb Hb fpb sb st_b => skip (sa.trans sb) st_b fin
            | true =>
              intro fin Bb Hb fpb sb st_b
              show tD K (wNo μt) μt fe me μe σa Hb _
              refine ⟨Bb, Γb, fpb, st_b, ?_⟩
              revert fin
              show Fin (match fe Γb with
                | .ok y Γ3 => lcLoop t tt fe vs (ds.drop (i + 1)) (wipeG Γ3 vs) (accD ++ [y])
                | _ => none) → _
              cases fe Γb with
              | bad => exact fun f => f.elim
              | exc x Γ => exact fun f => f.elim
              | ok y Γc =>
                intro fin Bc Hc v fv fpc sc st_c rc nc
                have sAll2 : Stp B1 H2 (fpx ++ fp2) Bc Hc (fv ++ fpc) := (sa.trans sb).trans sc
                obtain ⟨c1, c2, c3, c4, c5⟩ := over sAll2
                have ncs := nodup_app.mp nc
                refine ⟨acc, c1, by rw [ra.len]; have := itr.1; omega, ?_⟩
                have nDfv : Dl ∉ fv := fun q => c4 Dl List.mem_cons_self (List.mem_append_left _ q)
                have nDfa : Dl ∉ fa := fun q => ndc.1 (List.mem_append_left _ q)
                have nDfp : Dl ∉ fpc := fun q => c4 Dl List.mem_cons_self (List.mem_append_right _ q)
                have st3 : Sta K Bc (upd Hc Dl (.lst (acc ++ [v]))) (wipeG Γc vs) (wipeM μe vs) (L2.wipe σ vs) fpc := ⟨upd_same' st_c.same c2, by
                  rw [← hwa]
                  exact (st_c.st.mono (Same.refl _) (upd_kept (fun a h => (st_c.st.own a h).1) nDfp)).wipe hfe, st_c.nd⟩
                have r2 : R K Bc (upd Hc Dl (.lst (acc ++ [v]))) y me v fv := rc.mono (Same.refl _) y (upd_kept (fun a h => (R.own y rc a h).1) nDfv)
                have ra3 : Rl K Bc (upd Hc Dl (.lst (acc ++ [v]))) accD me acc fa := c3.mono (Same.refl _) accD (upd_kept (fun a h => (Rl.own accD c3 a h).1) nDfa)
                have ra4 := ra3.snoc r2
                have own4 : ∀ a ∈ Dl :: (fa ++ fv), Bc a = none ∧ ∃ o, upd Hc Dl (.lst (acc ++ [v])) a = some o := fun a h => by
                  rcases List.mem_cons.mp h with rfl | h
                  · exact ⟨c2, _, upd_same⟩
                  · exact Rl.own _ ra4 a h
                have dj4 : ∀ a ∈ Dl :: (fa ++ fv), a ∉ fpc := fun a h q => by
                  rcases List.mem_cons.mp h with rfl | h
                  · exact nDfp q
                  · rcases List.mem_append.mp h with h | h
                    · exact c4 a (List.mem_cons_of_mem _ h) (List.mem_append_right _ q)
                    · exact ncs.2.2 a h q
                obtain ⟨Bz, fpz, sz, stz, kz⟩ := st3.weak (l := Dl :: (fa ++ fv)) wk own4 dj4
                have s5 : Stp B H fp Bc (upd Hc Dl (.lst (acc ++ [v]))) ((Dl :: (fa ++ fv)) ++ fpc) := by
                  refine ⟨c5.base, fun a o n e => ?_, fun a h => c5.own a ?_, c5.new⟩
                  · have e' := c5.keep a o n e
                    have z : a ≠ Dl := by
                      rintro rfl
                      rcases c5.own a (List.mem_append_left _ List.mem_cons_self) with q | q
                      · exact n q
                      · rw [e] at q; cases q
                    rw [upd_ne z]; exact e'
                  · simp only [List.mem_append, List.mem_cons] at h ⊢
                    rcases h with (h | h | h) | h
                    · exact .inl (.inl h)
                    · exact .inl (.inr h)
                    · exact .inr (.inl h)
                    · exact .inr (.inr h)
                refine ⟨by omega, Bz, wipeG Γc vs, fpz, acc ++ [v], accD ++ [y], fa ++ fv, (hB.trans sAll2.base).trans sz.base, stz, upd_same, (kz Dl List.mem_cons_self).2, ra4.mono sz.base _ fun a h => kz a (List.mem_cons_of_mem _ h), ?_, by rw [List.length_append]; simpa using hlen, s5.trans (sz.frame _), fin⟩
                refine nodup_app.mpr ⟨List.nodup_cons.mpr ⟨fun q => (List.mem_append.mp q).elim nDfa nDfv, nodup_app.mpr ⟨nda.1, ncs.1, fun a h q => c4 a (List.mem_cons_of_mem _ h) (List.mem_append_left _ q)⟩⟩, stz.nd, sz.apart (fun a h => (own4 a h).2) dj4⟩
theorem lc_mono {wi : TI} {g : TG} {tt : TT} {te : TE} {vs : List Nat} {σ : St} {H : Hp} {Q Q' : VK} (h : tLc wi g tt te vs σ H Q) (i : ∀ x H, Q x H → Q' x H) (im : ∀ σ H R R', (∀ J H, R J H → R' J H) → wi σ H R → wi σ H R') : tLc wi g tt te vs σ H Q' := by
  refine im _ _ _ _ (fun J H1 h D hD => ?_) h
  obtain ⟨W, h0, hW⟩ := h D hD
  exact ⟨W, h0, fun i' m' H' w' => (hW i' m' H' w').imp (fun q => ⟨q.1, i _ _ q.2⟩) id⟩
theorem tDI_mono {K : PySem.W.Frag} {fi : Gam → Rz (List D)} {σ : St} {H : Hp} {R R' : It → Hp → Prop} (i : ∀ J H, R J H → R' J H) (h : tDI K w μ fi m μ1 σ H R) : tDI K w μ fi m μ1 σ H R' := by
  obtain ⟨B, Γ, fp, st, q⟩ := h
  refine ⟨B, Γ, fp, st, ?_⟩
  revert q
  cases fi Γ with
  | ok d Γ' => exact fun q B' H' J fp' s st' it => i _ _ (q B' H' J fp' s st' it)
  | exc x Γ' => exact id
  | bad => exact id
/-- [elt for tg in iter if ..] -/
theorem DE.lc {elt tg iter : Expr} {ifs : List Expr} {scope : Scope} {own : List (Str × Nat)} {fi : Gam → Rz (List D)} {t : D → Gam → Option Gam} {tt : Gam → Rz Bool} {fe : Gam → Rz D} (hc : X.calm = true) (hN : X.N.Nodup) (ok : BlkOk X.N X.env.scope scope own)
    (hi : DI X w μ tg iter fi m μ1) (hf1 : flatAt μ1 (own.map (·.2)) = true) (hfe : flatAt μe (own.map (·.2)) = true) (hft : flatAt μt (own.map (·.2)) = true) (wk : weakL (wipeM μe (own.map (·.2))) (wipeM μ1 (own.map (·.2))) = true) (wk2 : weakL (wipeM μt (own.map (·.2))) (wipeM μ1 (own.map (·.2))) = true)
    (hg : ∀ (s : Shared) (H : Hp) (C : Addr) (cl : List (Str × Addr)) (fp : List Addr) (σ0 : St), DG (X.blk s H scope (compEnvC scope cl C X.env) fp) (fun τ => L2.wipe τ (own.map (·.2)) = L2.wipe σ0 (own.map (·.2))) (wipeM μ1 (own.map (·.2))) tg m t μt)
    (ht : ∀ (s : Shared) (H : Hp) (C : Addr) (cl : List (Str × Addr)) (fp : List Addr), DTs (X.blk s H scope (compEnvC scope cl C X.env) fp) (wNo μt) μt ifs tt μt)
    (he : ∀ (s : Shared) (H : Hp) (C : Addr) (cl : List (Str × Addr)) (fp : List Addr), DE (X.blk s H scope (compEnvC scope cl C X.env) fp) (wNo μt) μt elt fe me μe)
    (hs : ∀ x, foldedSetIterable iter X.env x = pure x) : DE X w μ (.ListComp elt [⟨tg, iter, ifs, 0⟩] scope pos) (eLc fi t tt fe (own.map (·.2))) (.O me) (backM μ1 (wipeM μ1 (own.map (·.2))) (own.map (·.2))) :=
  ⟨(pe_lc hc hN hi.pi ok (fun s H C cl fp => ⟨fun pins s' σ' H' v u Q I r q => (hg s H C cl fp σ').pg.run pins s' σ' H' v u Q I r q⟩ : ∀ s H C cl fp, PG _ tg (tGw X.K (own.map (·.2)) (wipeM μ1 (own.map (·.2))) m t μt)) (fun s H C cl fp => (ht s H C cl fp).pt) (fun s H C cl fp => (he s H C cl fp).pe) hs).imp fun σ H Q q => lc_of hf1 hfe wk wk2 hft q⟩
/-- name = [elt for tg in iter if ..] on one line -/
theorem DS.setLc {z : Ws} {i : Nat} {y : Str} {py : Pos} {spos : Pos} {elt tg iter : Expr} {ifs : List Expr} {scope : Scope} {own : List (Str × Nat)} {fi : Gam → Rz (List D)} {t : D → Gam → Option Gam} {tt : Gam → Rz Bool} {fe : Gam → Rz D} (hc : X.calm = true) (hN : X.N.Nodup) (hy : X.N[i]? = some y) (hyl : X.env.scope.names.lookup y = some .local)
    (hsw : swapsWith (.ListComp elt [⟨tg, iter, ifs, 0⟩] scope pos) (some (.Name y py)) spos.line X.env = pure true) (ok : BlkOk X.N X.env.scope scope own)
    (hi : DI X z.w μ tg iter fi m μ1) (hf1 : flatAt μ1 (own.map (·.2)) = true) (hfe : flatAt μe (own.map (·.2)) = true) (hft : flatAt μt (own.map (·.2)) = true) (wk : weakL (wipeM μe (own.map (·.2))) (wipeM μ1 (own.map (·.2))) = true) (wk2 : weakL (wipeM μt (own.map (·.2))) (wipeM μ1 (own.map (·.2))) = true)
    (hg : ∀ (s : Shared) (H : Hp) (C : Addr) (cl : List (Str × Addr)) (fp : List Addr) (σ0 : St), DG (X.blk s H scope (compEnvC scope cl C X.env) fp) (fun τ => L2.wipe τ (own.map (·.2)) = L2.wipe σ0 (own.map (·.2))) (wipeM μ1 (own.map (·.2))) tg m t μt)
    (ht : ∀ (s : Shared) (H : Hp) (C : Addr) (cl : List (Str × Addr)) (fp : List Addr), DTs (X.blk s H scope (compEnvC scope cl C X.env) fp) (wNo μt) μt ifs tt μt)
    (he : ∀ (s : Shared) (H : Hp) (C : Addr) (cl : List (Str × Addr)) (fp : List Addr), DE (X.blk s H scope (compEnvC scope cl C X.env) fp) (wNo μt) μt elt fe me μe)
    (hs : ∀ x, foldedSetIterable iter X.env x = pure x) (hp : ∀ σ s, PinOk z.pin σ → PinOk z.pin (σ.set i s)) (hl : i < (backM μ1 (wipeM μ1 (own.map (·.2))) (own.map (·.2))).length) :
    DS X z μ (.Assign [.Name y py] (.ListComp elt [⟨tg, iter, ifs, 0⟩] scope pos) spos) (sAsg (eLc fi t tt fe (own.map (·.2))) (gSet i)) ((backM μ1 (wipeM μ1 (own.map (·.2))) (own.map (·.2))).set i (.O me)) :=
  ⟨(ps_setLc hc hN hy hyl hsw hi.pi ok (fun s H C cl fp => ⟨fun pins s' σ' H' v u Q I r q => (hg s H C cl fp σ').pg.run pins s' σ' H' v u Q I r q⟩ : ∀ s H C cl fp, PG _ tg (tGw X.K (own.map (·.2)) (wipeM μ1 (own.map (·.2))) m t μt)) (fun s H C cl fp => (ht s H C cl fp).pt) (fun s H C cl fp => (he s H C cl fp).pe) hs).imp fun En σ H q => by
    have q1 := lc_of (m := m) (vs := own.map (·.2)) hf1 hfe wk wk2 hft (asg_of (m := .O me) (μ1 := backM μ1 (wipeM μ1 (own.map (·.2))) (own.map (·.2))) q)
    refine lc_mono q1 (fun x H' hq => ?_) fun σ H R R' i h => tDI_mono i h
    obtain ⟨hpn, B, Γ, fp, fpv, d, st, r, nd, q⟩ := hq
    obtain ⟨fp', s, st'⟩ := put_sta (i := i) st r nd (by rw [← st.st.len.2]; exact hl)
    exact q (σ.set i (some x)) B H' fp' s st' (hp _ _ hpn)⟩
end
end EV

/-! EvH2: comprehensions with two clauses. -/
namespace EV
open PySem PySem.Spec L2
def lc2Loop (t : D → Gam → Option Gam) (tt : Gam → Rz Bool) (fi1 : Gam → Rz (List D)) (t1 : D → Gam → Option Gam) (tt1 : Gam → Rz Bool) (fe : Gam → Rz D) (vs vs1 : List Nat) : List D → Gam → List D → Option (List D × Gam)
  | [], Γ, acc => some (acc, Γ)
  | d :: ds, Γ, acc => match t d Γ with
    | none => none
    | some Γ1 => match tt Γ1 with
      | .ok true Γ2 => (match fi1 Γ2 with
        | .ok es Γ3 => (match lcLoop t1 tt1 fe vs1 es (wipeG Γ3 vs1) acc with
          | some r => lc2Loop t tt fi1 t1 tt1 fe vs vs1 ds (wipeG r.2 vs) r.1
          | none => none)
        | _ => none)
      | .ok false Γ2 => lc2Loop t tt fi1 t1 tt1 fe vs vs1 ds (wipeG Γ2 vs) acc
      | _ => none
def lc2End (Γ1 : Gam) (vs : List Nat) : Option (List D × Gam) → Rz D
  | some r => if r.1.length ≤ sizeLine then .ok (.lst r.1) (backG Γ1 r.2 vs) else .bad
  | none => .bad
def eLc2 (fi : Gam → Rz (List D)) (t : D → Gam → Option Gam) (tt : Gam → Rz Bool) (fi1 : Gam → Rz (List D)) (t1 : D → Gam → Option Gam) (tt1 : Gam → Rz Bool) (fe : Gam → Rz D) (vs vs1 : List Nat) (Γ : Gam) : Rz D :=
  (fi Γ).bind fun ds Γ1 => lc2End Γ1 vs (lc2Loop t tt fi1 t1 tt1 fe vs vs1 ds (wipeG Γ1 vs) [])
section
variable {t t1 : D → Gam → Option Gam} {tt tt1 : Gam → Rz Bool} {fi1 : Gam → Rz (List D)} {fe : Gam → Rz D} {vs vs1 : List Nat}
theorem lcLoop_len : ∀ {ds : List D} {Γ : Gam} {acc : List D} {r : List D × Gam}, lcLoop t tt fe vs ds Γ acc = some r → acc.length ≤ r.1.length
  | [], Γ, acc, r, h => by cases h; exact Nat.le_refl _
  | d :: ds, Γ, acc, r, h => by
    unfold lcLoop at h
    split at h
    · cases h
    · split at h
      · split at h
        · have := lcLoop_len h
          rw [List.length_append] at this
          exact Nat.le_trans (Nat.le_add_right _ _) this
        · cases h
      · exact lcLoop_len h
      · cases h
theorem lc2Loop_len : ∀ {ds : List D} {Γ : Gam} {acc : List D} {r : List D × Gam}, lc2Loop t tt fi1 t1 tt1 fe vs vs1 ds Γ acc = some r → acc.length ≤ r.1.length
  | [], Γ, acc, r, h => by cases h; exact Nat.le_refl _
  | d :: ds, Γ, acc, r, h => by
    unfold lc2Loop at h
    split at h
    · cases h
    · split at h
      · split at h
        · split at h
          · rename_i e
            exact Nat.le_trans (lcLoop_len e) (lc2Loop_len h)
          · cases h
        · cases h
      · exact lc2Loop_len h
      · cases h
end
/-- what a comprehension's list holds over the steps of its state -/
structure Hold (K : PySem.W.Frag) (B H : Hp) (fp : List Addr) (Dl : Addr) (me : Mode) (B1 H1 : Hp) (fpS : List Addr) (acc : List V) (accD : List D) (fa : List Addr) : Prop where
  d : H1 Dl = some (.lst acc)
  b : B1 Dl = none
  r : Rl K B1 H1 accD me acc fa
  nd : (Dl :: fa).Nodup
  dj : ∀ a ∈ Dl :: fa, a ∉ fpS
  stp : Stp B H fp B1 H1 ((Dl :: fa) ++ fpS)
section
variable {K : PySem.W.Frag} {B H B1 H1 B2 H2 : Hp} {fp fpS fp2 fa : List Addr} {Dl : Addr} {me : Mode} {acc : List V} {accD : List D}
theorem Hold.own (h : Hold K B H fp Dl me B1 H1 fpS acc accD fa) : ∀ a ∈ Dl :: fa, B1 a = none ∧ ∃ o, H1 a = some o := fun a q => by
  rcases List.mem_cons.mp q with rfl | q
  · exact ⟨h.b, _, h.d⟩
  · exact Rl.own accD h.r a q
theorem Hold.step (h : Hold K B H fp Dl me B1 H1 fpS acc accD fa) (s : Stp B1 H1 fpS B2 H2 fp2) : Hold K B H fp Dl me B2 H2 fp2 acc accD fa := by
  have kT := s.kept (K := K) h.own h.dj
  exact ⟨(kT Dl List.mem_cons_self).1 _ h.d, (kT Dl List.mem_cons_self).2, h.r.mono s.base accD fun a q => kT a (List.mem_cons_of_mem _ q), h.nd, s.apart (fun a q => (h.own a q).2) h.dj, h.stp.trans (s.frame (Dl :: fa))⟩
/-- the iterator's step -/
theorem Stp.yld {fpx : List Addr} (sx : Stp B1 H1 [] B1 H2 fpx) : Stp B1 H1 fpS B1 H2 (fpx ++ fpS) := ⟨Same.refl _, fun a o n e => sx.keep a o (fun q => nomatch q) e, fun a q => by
  rcases List.mem_append.mp q with q | q
  · exact (sx.own a q).elim (fun z => nomatch z) .inr
  · exact .inl q, fun a o e => .inl e⟩
theorem Hold.app {y : D} {v : V} {fv : List Addr} (h : Hold K B H fp Dl me B1 H1 (fv ++ fpS) acc accD fa) (r : R K B1 H1 y me v fv) (nf : fv.Nodup) (ndj : ∀ a ∈ fv, a ∉ fpS) :
    Hold K B H fp Dl me B1 (upd H1 Dl (.lst (acc ++ [v]))) fpS (acc ++ [v]) (accD ++ [y]) (fa ++ fv) := by
  have nDfv : Dl ∉ fv := fun q => h.dj Dl List.mem_cons_self (List.mem_append_left _ q)
  have nDfa : Dl ∉ fa := (List.nodup_cons.mp h.nd).1
  have r2 : R K B1 (upd H1 Dl (.lst (acc ++ [v]))) y me v fv := r.mono (Same.refl _) y (upd_kept (fun a q => (R.own y r a q).1) nDfv)
  have ra3 : Rl K B1 (upd H1 Dl (.lst (acc ++ [v]))) accD me acc fa := h.r.mono (Same.refl _) accD (upd_kept (fun a q => (Rl.own accD h.r a q).1) nDfa)
  refine ⟨upd_same, h.b, ra3.snoc r2, ?_, fun a q => ?_, ?_⟩
  · refine List.nodup_cons.mpr ⟨fun q => (List.mem_append.mp q).elim nDfa nDfv, nodup_app.mpr ⟨(List.nodup_cons.mp h.nd).2, nf, fun a q1 q2 => h.dj a (List.mem_cons_of_mem _ q1) (List.mem_append_left _ q2)⟩⟩
  · rcases List.mem_cons.mp q with rfl | q
    · exact fun z => h.dj _ List.mem_cons_self (List.mem_append_right _ z)
    · rcases List.mem_append.mp q with q | q
      · exact fun z => h.dj _ (List.mem_cons_of_mem _ q) (List.mem_append_right _ z)
      · exact ndj a q
  · refine ⟨h.stp.base, fun a o n e => ?_, fun a q => h.stp.own a ?_, h.stp.new⟩
    · have e' := h.stp.keep a o n e
      have z : a ≠ Dl := by
        rintro rfl
        rcases h.stp.own a (List.mem_append_left _ List.mem_cons_self) with q | q
        · exact n q
        · rw [e] at q; cases q
      rw [upd_ne z]; exact e'
    · simp only [List.mem_append, List.mem_cons] at q ⊢
      rcases q with (q | q | q) | q
      · exact .inl (.inl q)
      · exact .inl (.inr q)
      · exact .inr (.inl q)
      · exact .inr (.inr q)
end
theorem wipe_sub {σ : St} {vs : List Nat} : ∀ (ws : List Nat) (τ : St), (∀ v ∈ ws, v ∈ vs) → L2.wipe (L2.wipe τ ws) vs = L2.wipe τ vs
  | [], _, _ => rfl
  | w :: ws, τ, h => by
    rw [L2.wipe, wipe_set (h w List.mem_cons_self)]
    exact wipe_sub (σ := σ) ws τ fun v hv => h v (List.mem_cons_of_mem _ hv)
section
variable {X : Cx} {w : Wh} {μ μ' μ1 μ2 μt μt1 μe : List Mode} {m m1 me : Mode} {pos : Pos} {vs vs1 : List Nat}
/-- one turn's state, wiped and weakened -/
theorem Hold.turn {K : PySem.W.Frag} {B H B1 H1 : Hp} {fp fpS fa : List Addr} {Dl : Addr} {acc : List V} {accD : List D} {Γ : Gam} {μa μb : List Mode} {σ τ : St} (h : Hold K B H fp Dl me B1 H1 fpS acc accD fa) (st : Sta K B1 H1 Γ μa τ fpS) (hf : flatAt μa vs = true) (wk : weakL (wipeM μa vs) μb = true) (e : L2.wipe τ vs = σ) :
    ∃ B2 fp2, Same B1 B2 ∧ Sta K B2 H1 (wipeG Γ vs) μb σ fp2 ∧ Hold K B H fp Dl me B2 H1 fp2 acc accD fa := by
  have st3 : Sta K B1 H1 (wipeG Γ vs) (wipeM μa vs) σ fpS := ⟨st.same, by rw [← e]; exact st.st.wipe hf, st.nd⟩
  obtain ⟨Bz, fpz, sz, stz, kz⟩ := st3.weak (l := Dl :: fa) wk h.own h.dj
  exact ⟨Bz, fpz, sz.base, stz, h.step sz⟩
theorem lc2_of {K : PySem.W.Frag} {fi fi1 : Gam → Rz (List D)} {t t1 : D → Gam → Option Gam} {tt tt1 : Gam → Rz Bool} {fe : Gam → Rz D} {σ : St} {H : Hp} {Q : VK} (hv : ∀ v ∈ vs1, v ∈ vs)
    (hf1 : flatAt μ1 vs = true) (hft : flatAt μt vs = true) (wkt : weakL (wipeM μt vs) (wipeM μ1 vs) = true)
    (hf2 : flatAt μ2 vs1 = true) (hft1 : flatAt μt1 vs1 = true) (hfe : flatAt μe vs1 = true) (wkt1 : weakL (wipeM μt1 vs1) (wipeM μ2 vs1) = true) (wke : weakL (wipeM μe vs1) (wipeM μ2 vs1) = true)
    (hf3 : flatAt (wipeM μ2 vs1) vs = true) (wk3 : weakL (wipeM (wipeM μ2 vs1) vs) (wipeM μ1 vs) = true)
    (q : tD K w μ (eLc2 fi t tt fi1 t1 tt1 fe vs vs1) (.O me) (backM μ1 (wipeM μ1 vs) vs) σ H Q) :
    tLc2 (tDI K w μ fi m μ1) (tGw K vs (wipeM μ1 vs) m t μt) (tDT K (wNo μt) μt tt μt) (tDI K (wNo μt) μt fi1 m1 μ2) (tGw K vs1 (wipeM μ2 vs1) m1 t1 μt1) (tDT K (wNo μt1) μt1 tt1 μt1) (tD K (wNo μt1) μt1 fe me μe) vs vs1 σ H Q := by
  obtain ⟨B, Γ, fp, st, q⟩ := q
  refine ⟨B, Γ, fp, st, ?_⟩
  unfold eLc2 at q
  revert q
  cases fi Γ with
  | bad => exact id
  | exc x Γ' => exact id
  | ok ds Γ1 =>
    intro q B0 H0 J fp0 s0 st0 itr Dl hDl
    let FinR : Rz D → Prop := fun z => match z with
      | .ok d Γ' => ∀ B' H' v fpv fp', Stp B H fp B' H' (fpv ++ fp') → Sta K B' H' Γ' (backM μ1 (wipeM μ1 vs) vs) σ fp' → R K B' H' d (.O me) v fpv → (fpv ++ fp').Nodup → Q v H'
      | .exc x Γ' => wexc K w B H fp σ x Γ'
      | .bad => False
    let Fin : Option (List D × Gam) → Prop := fun r => FinR (lc2End Γ1 vs r)
    have q0 : Fin (lc2Loop t tt fi1 t1 tt1 fe vs vs1 ds (wipeG Γ1 vs) []) := q
    clear q
    have finLen : ∀ {o : Option (List D × Gam)}, Fin o → ∃ r, o = some r ∧ r.1.length ≤ sizeLine := fun {o} f => by
      cases o with
      | none => exact f.elim
      | some r =>
        by_cases e : r.1.length ≤ sizeLine
        · exact ⟨r, rfl, e⟩
        · have f' : FinR (lc2End Γ1 vs (some r)) := f
          rw [show lc2End Γ1 vs (some r) = .bad from if_neg e] at f'; exact f'.elim
    have bD : B0 Dl = none := by
      cases e : B0 Dl with
      | none => rfl
      | some o => rw [st0.same Dl o e] at hDl; cases hDl
    have nDfp : Dl ∉ fp0 := fun h => by
      obtain ⟨_, o, e⟩ := st0.st.own Dl h
      rw [e] at hDl; cases hDl
    let Wv : Nat → Nat → Hp → Prop := fun i k H1 => k + i = ds.length ∧ ∃ B1 Γ2 fp2 acc accD fa, Same B0 B1 ∧ Sta K B1 H1 Γ2 (wipeM μ1 vs) (L2.wipe σ vs) fp2 ∧ Hold K B H fp Dl me B1 H1 fp2 acc accD fa ∧
      Fin (lc2Loop t tt fi1 t1 tt1 fe vs vs1 (ds.drop i) Γ2 accD)
    refine ⟨Wv, ⟨ds.length, ?_⟩, ?_⟩
    · refine ⟨by omega, B0, wipeG Γ1 vs, fp0, [], [], [], Same.refl _, ⟨fresh_same st0.same hDl, (st0.st.wipe hf1).mono (Same.refl _) (upd_kept (fun a h => (st0.st.own a h).1) nDfp), st0.nd⟩, ⟨upd_same, bD, ⟨rfl, rfl⟩, by simp, fun a h => by rw [List.mem_singleton.mp h]; exact nDfp, ?_⟩, q0⟩
      refine ⟨s0.base, fun a o n e => ?_, fun a h => ?_, s0.new⟩
      · have := s0.keep a o n e
        rw [upd_ne (ne_of_none this hDl)]; exact this
      · rcases List.mem_cons.mp h with rfl | h
        · by_cases n : a ∈ fp
          · exact .inl n
          · cases e : H a with
            | none => exact .inr rfl
            | some o => rw [s0.keep a o n e] at hDl; cases hDl
        · exact s0.own a (by simpa using h)
    · rintro i k H1 ⟨hk, B1, Γ2, fp2, acc, accD, fa, hB, sta, hold, fin⟩
      obtain ⟨i1, i2⟩ := itr.2 i B1 H1 hB sta.same
      cases k with
      | zero =>
        have e : ds.drop i = [] := List.drop_eq_nil_iff.mpr (by omega)
        rw [e] at fin
        refine .inl ⟨i2 (by omega), ?_⟩
        obtain ⟨r, er, hl⟩ := finLen fin
        cases er
        have fin' : ∀ B' H' v fpv fp', Stp B H fp B' H' (fpv ++ fp') → Sta K B' H' (backG Γ1 Γ2 vs) (backM μ1 (wipeM μ1 vs) vs) σ fp' → R K B' H' (.lst accD) (.O me) v fpv → (fpv ++ fp').Nodup → Q v H' := by
          have f3 : FinR (lc2End Γ1 vs (some (accD, Γ2))) := fin
          rw [show lc2End Γ1 vs (some (accD, Γ2)) = .ok (.lst accD) (backG Γ1 Γ2 vs) from if_pos hl] at f3
          exact f3
        have bk := StR.back (vs := vs) (Γ := Γ2) (μ := wipeM μ1 vs) (σ := L2.wipe σ vs) hB st0.st sta.st hf1 (by
          unfold flatAt at hf1 ⊢
          rw [List.all_eq_true] at hf1 ⊢
          exact fun x hx => wipeM_flO (hf1 x hx))
        rw [backS_wipe] at bk
        exact fin' B1 H1 (.ref Dl) (Dl :: fa) fp2 hold.stp ⟨sta.same, bk, sta.nd⟩ ⟨Dl, acc, fa, rfl, hold.b, hold.d, hl, hold.r, rfl⟩ (nodup_app.mpr ⟨hold.nd, sta.nd, hold.dj⟩)
      | succ k =>
        have hi : i < ds.length := by omega
        have ed : ds.drop i = ds[i] :: ds.drop (i + 1) := List.drop_eq_getElem_cons hi
        obtain ⟨g1, g2⟩ := i1 ds[i] (List.getElem?_eq_getElem hi)
        refine .inr ⟨g1, Wv (i + 1) k, fun H' h => ⟨k, Nat.lt_succ_self _, h⟩, fun x H2 hy => ?_⟩
        obtain ⟨fpx, sx, smx, rx, nx⟩ := g2 x H2 hy
        rw [ed] at fin
        have sy : Stp B1 H1 fp2 B1 H2 (fpx ++ fp2) := Stp.yld sx
        have djx : ∀ a ∈ fpx, a ∉ fp2 := fun a h q => by
          rcases sx.own a h with z | z
          · cases z
          · obtain ⟨_, o, e⟩ := sta.st.own a q
            rw [e] at z; cases z
        have kfp : Kept B1 H1 H2 fp2 := sx.kept (K := K) (fun a h => sta.st.own a h) fun a h q => by cases q
        have st2 : Sta K B1 H2 Γ2 (wipeM μ1 vs) (L2.wipe σ vs) fp2 := ⟨smx, sta.st.mono (Same.refl _) kfp, sta.nd⟩
        have hold2 := hold.step sy
        refine ⟨rfl, B1, Γ2, fp2, fpx, ds[i], st2, rx, nodup_app.mpr ⟨nx, sta.nd, djx⟩, ?_⟩
        revert fin
        show Fin (match t ds[i] Γ2 with
          | none => none
          | some Γ1' => match tt Γ1' with
            | .ok true Γ2' => (match fi1 Γ2' with
              | .ok es Γ3 => (match lcLoop t1 tt1 fe vs1 es (wipeG Γ3 vs1) accD with
                | some r => lc2Loop t tt fi1 t1 tt1 fe vs vs1 (ds.drop (i + 1)) (wipeG r.2 vs) r.1
                | none => none)
              | _ => none)
            | .ok false Γ2' => lc2Loop t tt fi1 t1 tt1 fe vs vs1 (ds.drop (i + 1)) (wipeG Γ2' vs) accD
            | _ => none) → _
        cases t ds[i] Γ2 with
        | none => exact fun f => f.elim
        | some Γa =>
          intro fin σa Ba Ha fpa sa sta_a hwa0
          have hwa : L2.wipe σa vs = L2.wipe σ vs := hwa0.trans L2_wipe_wipe
          refine ⟨hwa, ?_⟩
          have holdA := hold2.step sa
          -- the end of an outer turn
          have close : ∀ {Bn Hn : Hp} {Γn : Gam} {fpn : List Addr} {accn : List V} {accDn : List D} {fan : List Addr} {μn : List Mode} {τn : St}, Same B0 Bn → Hold K B H fp Dl me Bn Hn fpn accn accDn fan → Sta K Bn Hn Γn μn τn fpn → flatAt μn vs = true → weakL (wipeM μn vs) (wipeM μ1 vs) = true → L2.wipe τn vs = L2.wipe σ vs →
              Fin (lc2Loop t tt fi1 t1 tt1 fe vs vs1 (ds.drop (i + 1)) (wipeG Γn vs) accDn) → Wv (i + 1) k Hn := fun {Bn Hn Γn fpn accn accDn fan μn τn} sb ho st f wk e fin => by
            obtain ⟨Bz, fpz, sz, stz, hz⟩ := ho.turn st f wk e
            exact ⟨by omega, Bz, wipeG Γn vs, fpz, accn, accDn, fan, sb.trans sz, stz, hz, fin⟩
          refine ⟨Ba, Γa, fpa, sta_a, ?_⟩
          revert fin
          show Fin (match tt Γa with
            | .ok true Γ2' => (match fi1 Γ2' with
              | .ok es Γ3 => (match lcLoop t1 tt1 fe vs1 es (wipeG Γ3 vs1) accD with
                | some r => lc2Loop t tt fi1 t1 tt1 fe vs vs1 (ds.drop (i + 1)) (wipeG r.2 vs) r.1
                | none => none)
              | _ => none)
            | .ok false Γ2' => lc2Loop t tt fi1 t1 tt1 fe vs vs1 (ds.drop (i + 1)) (wipeG Γ2' vs) accD
            | _ => none) → _
          cases tt Γa with
          | bad => exact fun f => f.elim
          | exc x Γ => exact fun f => f.elim
          | ok bb Γb =>
            cases bb with
            | false => exact fun fin Bb Hb fpb sb st_b => close ((hB.trans sa.base).trans sb.base) (holdA.step sb) st_b hft wkt hwa fin
            | true =>
              intro fin Bb Hb fpb sb st_b
              show tDI K (wNo μt) μt fi1 m1 μ2 σa Hb _
              refine ⟨Bb, Γb, fpb, st_b, ?_⟩
              have holdB := holdA.step sb
              revert fin
              show Fin (match fi1 Γb with
                | .ok es Γ3 => (match lcLoop t1 tt1 fe vs1 es (wipeG Γ3 vs1) accD with
                  | some r => lc2Loop t tt fi1 t1 tt1 fe vs vs1 (ds.drop (i + 1)) (wipeG r.2 vs) r.1
                  | none => none)
                | _ => none) → _
              cases fi1 Γb with
              | bad => exact fun f => f.elim
              | exc x Γ => exact fun f => f.elim
              | ok es Γc =>
                intro fin Bc Hc J1 fpc sc st_c itr1
                have holdC := holdB.step sc
                have hBc : Same B0 Bc := ((hB.trans sa.base).trans sb.base).trans sc.base
                let W1 : Nat → Nat → Hp → Prop := fun j k1 H1 => k1 + j = es.length ∧ ∃ B1 Γ2 fp2 acc accD fa, Same Bc B1 ∧ Sta K B1 H1 Γ2 (wipeM μ2 vs1) (L2.wipe σa vs1) fp2 ∧ Hold K B H fp Dl me B1 H1 fp2 acc accD fa ∧
                  Fin (match lcLoop t1 tt1 fe vs1 (es.drop j) Γ2 accD with
                    | some r => lc2Loop t tt fi1 t1 tt1 fe vs vs1 (ds.drop (i + 1)) (wipeG r.2 vs) r.1
                    | none => none)
                refine ⟨W1, ⟨es.length, by omega, Bc, wipeG Γc vs1, fpc, acc, accD, fa, Same.refl _, ⟨st_c.same, st_c.st.wipe hf2, st_c.nd⟩, holdC, fin⟩, ?_⟩
                clear fin
                rintro j k1 Hd ⟨hk1, Bd, Γd, fpd, accd, accDd, fad, hBd, sta_d, holdD, find⟩
                obtain ⟨j1, j2⟩ := itr1.2 j Bd Hd hBd sta_d.same
                cases k1 with
                | zero =>
                  have e : es.drop j = [] := List.drop_eq_nil_iff.mpr (by omega)
                  rw [e] at find
                  refine .inl ⟨j2 (by omega), ?_⟩
                  exact close (hBc.trans hBd) holdD sta_d hf3 wk3 ((wipe_sub (σ := σ) vs1 σa hv).trans hwa) find
                | succ k1 =>
                  have hj : j < es.length := by omega
                  have ed1 : es.drop j = es[j] :: es.drop (j + 1) := List.drop_eq_getElem_cons hj
                  obtain ⟨g3, g4⟩ := j1 es[j] (List.getElem?_eq_getElem hj)
                  refine .inr ⟨g3, W1 (j + 1) k1, fun H' h => ⟨k1, Nat.lt_succ_self _, h⟩, fun x1 He hy1 => ?_⟩
                  obtain ⟨fpy, sx1, smx1, rx1, nx1⟩ := g4 x1 He hy1
                  rw [ed1] at find
                  have sy1 : Stp Bd Hd fpd Bd He (fpy ++ fpd) := Stp.yld sx1
                  have djy : ∀ a ∈ fpy, a ∉ fpd := fun a h q => by
                    rcases sx1.own a h with z | z
                    · cases z
                    · obtain ⟨_, o, e⟩ := sta_d.st.own a q
                      rw [e] at z; cases z
                  have kfd : Kept Bd Hd He fpd := sx1.kept (K := K) (fun a h => sta_d.st.own a h) fun a h q => by cases q
                  have st_e : Sta K Bd He Γd (wipeM μ2 vs1) (L2.wipe σa vs1) fpd := ⟨smx1, sta_d.st.mono (Same.refl _) kfd, sta_d.nd⟩
                  have holdE := holdD.step sy1
                  refine ⟨rfl, Bd, Γd, fpd, fpy, es[j], st_e, rx1, nodup_app.mpr ⟨nx1, sta_d.nd, djy⟩, ?_⟩
                  revert find
                  show Fin (match (match t1 es[j] Γd with
                    | none => none
                    | some Γ1' => match tt1 Γ1' with
                      | .ok true Γ2' => (match fe Γ2' with
                        | .ok y Γ3 => lcLoop t1 tt1 fe vs1 (es.drop (j + 1)) (wipeG Γ3 vs1) (accDd ++ [y])
                        | _ => none)
                      | .ok false Γ2' => lcLoop t1 tt1 fe vs1 (es.drop (j + 1)) (wipeG Γ2' vs1) accDd
                      | _ => none) with
                    | some r => lc2Loop t tt fi1 t1 tt1 fe vs vs1 (ds.drop (i + 1)) (wipeG r.2 vs) r.1
                    | none => none) → _
                  cases t1 es[j] Γd with
                  | none => exact fun f => f.elim
                  | some Γf =>
                    intro find σf Bf Hf fpf sf sta_f hwf0
                    have hwf : L2.wipe σf vs1 = L2.wipe σa vs1 := hwf0.trans L2_wipe_wipe
                    refine ⟨hwf, ?_⟩
                    have holdF := holdE.step sf
                    have close1 : ∀ {Bn Hn : Hp} {Γn : Gam} {fpn : List Addr} {accn : List V} {accDn : List D} {fan : List Addr} {μn : List Mode}, Same Bc Bn → Hold K B H fp Dl me Bn Hn fpn accn accDn fan → Sta K Bn Hn Γn μn σf fpn → flatAt μn vs1 = true → weakL (wipeM μn vs1) (wipeM μ2 vs1) = true →
                        Fin (match lcLoop t1 tt1 fe vs1 (es.drop (j + 1)) (wipeG Γn vs1) accDn with
                          | some r => lc2Loop t tt fi1 t1 tt1 fe vs vs1 (ds.drop (i + 1)) (wipeG r.2 vs) r.1
                          | none => none) → W1 (j + 1) k1 Hn := fun {Bn Hn Γn fpn accn accDn fan μn} sb ho st f wk fin => by
                      obtain ⟨Bz, fpz, sz, stz, hz⟩ := ho.turn st f wk hwf
                      exact ⟨by omega, Bz, wipeG Γn vs1, fpz, accn, accDn, fan, sb.trans sz, stz, hz, fin⟩
                    refine ⟨Bf, Γf, fpf, sta_f, ?_⟩
                    revert find
                    show Fin (match (match tt1 Γf with
                        | .ok true Γ2' => (match fe Γ2' with
                          | .ok y Γ3 => lcLoop t1 tt1 fe vs1 (es.drop (j + 1)) (wipeG Γ3 vs1) (accDd ++ [y])
                          | _ => none)
                        | .ok false Γ2' => lcLoop t1 tt1 fe vs1 (es.drop (j + 1)) (wipeG Γ2' vs1) accDd
                        | _ => none) with
                      | some r => lc2Loop t tt fi1 t1 tt1 fe vs vs1 (ds.drop (i + 1)) (wipeG r.2 vs) r.1
                      | none => none) → _
                    cases tt1 Γf with
                    | bad => exact fun f => f.elim
                    | exc x Γ => exact fun f => f.elim
                    | ok bb Γg =>
                      cases bb with
                      | false => exact fun fin Bb Hb fpb sg st_g => close1 ((hBd.trans sf.base).trans sg.base) (holdF.step sg) st_g hft1 wkt1 fin
                      | true =>
                        intro find Bg Hg fpg sg st_g
                        show tD K (wNo μt1) μt1 fe me μe σf Hg _
                        refine ⟨Bg, Γg, fpg, st_g, ?_⟩
                        have holdG := holdF.step sg
                        revert find
                        show Fin (match (match fe Γg with
                          | .ok y Γ3 => lcLoop t1 tt1 fe vs1 (es.drop (j + 1)) (wipeG Γ3 vs1) (accDd ++ [y])
                          | _ => none) with
                          | some r => lc2Loop t tt fi1 t1 tt1 fe vs vs1 (ds.drop (i + 1)) (wipeG r.2 vs) r.1
                          | none => none) → _
                        cases fe Γg with
                        | bad => exact fun f => f.elim
                        | exc x Γ => exact fun f => f.elim
                        | ok y Γh =>
                          intro find Bh Hh v fv fph sh st_h rh nh
                          have holdH := holdG.step sh
                          have nhs := nodup_app.mp nh
                          refine ⟨accd, holdH.d, ?_, ?_⟩
                          · -- the list stays short
                            have key := find
                            cases e1 : lcLoop t1 tt1 fe vs1 (es.drop (j + 1)) (wipeG Γh vs1) (accDd ++ [y]) with
                            | none =>
                              have key' : Fin (match lcLoop t1 tt1 fe vs1 (es.drop (j + 1)) (wipeG Γh vs1) (accDd ++ [y]) with
                                | some r => lc2Loop t tt fi1 t1 tt1 fe vs vs1 (ds.drop (i + 1)) (wipeG r.2 vs) r.1
                                | none => none) := key
                              rw [e1] at key'; exact key'.elim
                            | some r =>
                              have key' : Fin (match lcLoop t1 tt1 fe vs1 (es.drop (j + 1)) (wipeG Γh vs1) (accDd ++ [y]) with
                                | some r => lc2Loop t tt fi1 t1 tt1 fe vs vs1 (ds.drop (i + 1)) (wipeG r.2 vs) r.1
                                | none => none) := key
                              rw [e1] at key'
                              obtain ⟨r2, e2, hl⟩ := finLen key'
                              have l1 := lcLoop_len e1
                              have l2 := lc2Loop_len e2
                              have l3 := holdH.r.len
                              rw [List.length_append] at l1
                              simp only [List.length_cons, List.length_nil] at l1
                              omega
                          · have hz := holdH.app rh nhs.1 nhs.2.2
                            have st_z : Sta K Bh (upd Hh Dl (.lst (accd ++ [v]))) Γh μe σf fph := ⟨upd_same' st_h.same holdH.b, st_h.st.mono (Same.refl _) (upd_kept (fun a h => (st_h.st.own a h).1) fun q => holdH.dj Dl List.mem_cons_self (List.mem_append_right _ q)), st_h.nd⟩
                            exact close1 (((hBd.trans sf.base).trans sg.base).trans sh.base) hz st_z hfe wke find
theorem lc2_mono {wi wi1 : TI} {g g1 : TG} {tt tt1 : TT} {te : TE} {vs vs1 : List Nat} {σ : St} {H : Hp} {Q Q' : VK} (h : tLc2 wi g tt wi1 g1 tt1 te vs vs1 σ H Q) (i : ∀ x H, Q x H → Q' x H) (im : ∀ σ H R R', (∀ J H, R J H → R' J H) → wi σ H R → wi σ H R') : tLc2 wi g tt wi1 g1 tt1 te vs vs1 σ H Q' := by
  refine im _ _ _ _ (fun J H1 h D hD => ?_) h
  obtain ⟨W, h0, hW⟩ := h D hD
  exact ⟨W, h0, fun i' m' H' w' => (hW i' m' H' w').imp (fun q => ⟨q.1, i _ _ q.2⟩) id⟩
/-- all that the rule for two clauses asks -/
structure Lc2H (X : Cx) (w : Wh) (μ : List Mode) (elt tg iter tg1 iter1 : Expr) (ifs ifs1 : List Expr) (scope : Scope) (own : List (Str × Nat)) (vs1 : List Nat) (fi : Gam → Rz (List D)) (t : D → Gam → Option Gam) (tt : Gam → Rz Bool) (fi1 : Gam → Rz (List D)) (t1 : D → Gam → Option Gam) (tt1 : Gam → Rz Bool) (fe : Gam → Rz D) (m m1 me : Mode) (μ1 μt μ2 μt1 μe : List Mode) : Prop where
  ok : BlkOk X.N X.env.scope scope own
  hv : ∀ v ∈ vs1, v ∈ own.map (·.2)
  hi : DI X w μ tg iter fi m μ1
  hf1 : flatAt μ1 (own.map (·.2)) = true
  hft : flatAt μt (own.map (·.2)) = true
  wkt : weakL (wipeM μt (own.map (·.2))) (wipeM μ1 (own.map (·.2))) = true
  hf2 : flatAt μ2 vs1 = true
  hft1 : flatAt μt1 vs1 = true
  hfe : flatAt μe vs1 = true
  wkt1 : weakL (wipeM μt1 vs1) (wipeM μ2 vs1) = true
  wke : weakL (wipeM μe vs1) (wipeM μ2 vs1) = true
  hf3 : flatAt (wipeM μ2 vs1) (own.map (·.2)) = true
  wk3 : weakL (wipeM (wipeM μ2 vs1) (own.map (·.2))) (wipeM μ1 (own.map (·.2))) = true
  hg : ∀ (s : Shared) (H : Hp) (C : Addr) (cl : List (Str × Addr)) (fp : List Addr) (σ0 : St), DG (X.blk s H scope (compEnvC scope cl C X.env) fp) (fun τ => L2.wipe τ (own.map (·.2)) = L2.wipe σ0 (own.map (·.2))) (wipeM μ1 (own.map (·.2))) tg m t μt
  ht : ∀ (s : Shared) (H : Hp) (C : Addr) (cl : List (Str × Addr)) (fp : List Addr), DTs (X.blk s H scope (compEnvC scope cl C X.env) fp) (wNo μt) μt ifs tt μt
  hi1 : ∀ (s : Shared) (H : Hp) (C : Addr) (cl : List (Str × Addr)) (fp : List Addr), DI (X.blk s H scope (compEnvC scope cl C X.env) fp) (wNo μt) μt tg1 iter1 fi1 m1 μ2
  hg1 : ∀ (s : Shared) (H : Hp) (C : Addr) (cl : List (Str × Addr)) (fp : List Addr) (σ0 : St), DG (X.blk s H scope (compEnvC scope cl C X.env) fp) (fun τ => L2.wipe τ vs1 = L2.wipe σ0 vs1) (wipeM μ2 vs1) tg1 m1 t1 μt1
  ht1 : ∀ (s : Shared) (H : Hp) (C : Addr) (cl : List (Str × Addr)) (fp : List Addr), DTs (X.blk s H scope (compEnvC scope cl C X.env) fp) (wNo μt1) μt1 ifs1 tt1 μt1
  he : ∀ (s : Shared) (H : Hp) (C : Addr) (cl : List (Str × Addr)) (fp : List Addr), DE (X.blk s H scope (compEnvC scope cl C X.env) fp) (wNo μt1) μt1 elt fe me μe
  hs : ∀ x, foldedSetIterable iter X.env x = pure x
  hs1 : ∀ env x, foldedSetIterable iter1 env x = pure x
variable {elt tg iter tg1 iter1 : Expr} {ifs ifs1 : List Expr} {scope : Scope} {own : List (Str × Nat)} {fi fi1 : Gam → Rz (List D)} {t t1 : D → Gam → Option Gam} {tt tt1 : Gam → Rz Bool} {fe : Gam → Rz D}
theorem DE.lc2 (hc : X.calm = true) (hN : X.N.Nodup) (h : Lc2H X w μ elt tg iter tg1 iter1 ifs ifs1 scope own vs1 fi t tt fi1 t1 tt1 fe m m1 me μ1 μt μ2 μt1 μe) :
    DE X w μ (.ListComp elt [⟨tg, iter, ifs, 0⟩, ⟨tg1, iter1, ifs1, 0⟩] scope pos) (eLc2 fi t tt fi1 t1 tt1 fe (own.map (·.2)) vs1) (.O me) (backM μ1 (wipeM μ1 (own.map (·.2))) (own.map (·.2))) :=
  ⟨(pe_lc2 hc hN h.hi.pi h.ok h.hv (fun s H C cl fp => ⟨fun pins s' σ' H' v u Q I r q => (h.hg s H C cl fp σ').pg.run pins s' σ' H' v u Q I r q⟩ : ∀ s H C cl fp, PG _ tg (tGw X.K (own.map (·.2)) (wipeM μ1 (own.map (·.2))) m t μt)) (fun s H C cl fp => (h.ht s H C cl fp).pt)
    (fun s H C cl fp => (h.hi1 s H C cl fp).pi) (fun s H C cl fp => ⟨fun pins s' σ' H' v u Q I r q => (h.hg1 s H C cl fp σ').pg.run pins s' σ' H' v u Q I r q⟩ : ∀ s H C cl fp, PG _ tg1 (tGw X.K vs1 (wipeM μ2 vs1) m1 t1 μt1)) (fun s H C cl fp => (h.ht1 s H C cl fp).pt) (fun s H C cl fp => (h.he s H C cl fp).pe) h.hs h.hs1).imp fun σ H Q q => lc2_of h.hv h.hf1 h.hft h.wkt h.hf2 h.hft1 h.hfe h.wkt1 h.wke h.hf3 h.wk3 q⟩
theorem DS.setLc2 {z : Ws} {i : Nat} {y : Str} {py : Pos} {spos : Pos} (hc : X.calm = true) (hN : X.N.Nodup) (hy : X.N[i]? = some y) (hyl : X.env.scope.names.lookup y = some .local)
    (hsw : swapsWith (.ListComp elt [⟨tg, iter, ifs, 0⟩, ⟨tg1, iter1, ifs1, 0⟩] scope pos) (some (.Name y py)) spos.line X.env = pure true) (h : Lc2H X z.w μ elt tg iter tg1 iter1 ifs ifs1 scope own vs1 fi t tt fi1 t1 tt1 fe m m1 me μ1 μt μ2 μt1 μe)
    (hp : ∀ σ s, PinOk z.pin σ → PinOk z.pin (σ.set i s)) (hl : i < (backM μ1 (wipeM μ1 (own.map (·.2))) (own.map (·.2))).length) :
    DS X z μ (.Assign [.Name y py] (.ListComp elt [⟨tg, iter, ifs, 0⟩, ⟨tg1, iter1, ifs1, 0⟩] scope pos) spos) (sAsg (eLc2 fi t tt fi1 t1 tt1 fe (own.map (·.2)) vs1) (gSet i)) ((backM μ1 (wipeM μ1 (own.map (·.2))) (own.map (·.2))).set i (.O me)) :=
  ⟨(ps_setLc2 hc hN hy hyl hsw h.hi.pi h.ok h.hv (fun s H C cl fp => ⟨fun pins s' σ' H' v u Q I r q => (h.hg s H C cl fp σ').pg.run pins s' σ' H' v u Q I r q⟩ : ∀ s H C cl fp, PG _ tg (tGw X.K (own.map (·.2)) (wipeM μ1 (own.map (·.2))) m t μt)) (fun s H C cl fp => (h.ht s H C cl fp).pt)
    (fun s H C cl fp => (h.hi1 s H C cl fp).pi) (fun s H C cl fp => ⟨fun pins s' σ' H' v u Q I r q => (h.hg1 s H C cl fp σ').pg.run pins s' σ' H' v u Q I r q⟩ : ∀ s H C cl fp, PG _ tg1 (tGw X.K vs1 (wipeM μ2 vs1) m1 t1 μt1)) (fun s H C cl fp => (h.ht1 s H C cl fp).pt) (fun s H C cl fp => (h.he s H C cl fp).pe) h.hs h.hs1).imp fun En σ H q => by
    have q1 := lc2_of (m := m) (m1 := m1) (μt1 := μt1) (vs := own.map (·.2)) (vs1 := vs1) h.hv h.hf1 h.hft h.wkt h.hf2 h.hft1 h.hfe h.wkt1 h.wke h.hf3 h.wk3 (asg_of (m := .O me) (μ1 := backM μ1 (wipeM μ1 (own.map (·.2))) (own.map (·.2))) q)
    refine lc2_mono q1 (fun x H' hq => ?_) fun σ H R R' i h => tDI_mono i h
    obtain ⟨hpn, B, Γ, fp, fpv, d, st, r, nd, q⟩ := hq
    obtain ⟨fp', s, st'⟩ := put_sta (i := i) st r nd (by rw [← st.st.len.2]; exact hl)
    exact q (σ.set i (some x)) B H' fp' s st' (hp _ _ hpn)⟩
end
end EV

/-! EvI: operators, comparisons, subscripts, built-ins by data. -/
namespace EV
open PySem PySem.Spec L2
section
variable {K : PySem.W.Frag} {m1 m2 m : Mode}
theorem stp0 {B H : Hp} {fp : List Addr} : Stp B H fp B H [] := (Stp.refl _ _ _).less fun _ h => nomatch h
/-- a flat value comes -/
theorem Comes.flat {B H : Hp} {fp : List Addr} {d : D} {v : V} {Q : VK} (c : Comes K B H fp d .Z Q) (s : Same B H) (r : R K B H d .Z v []) : Q v H := c B H v [] stp0 s r List.nodup_nil
/-! ### ints -/
def i2 (g : Int → Int → D) : D → D → Option D
  | .int i, .int j => some (g i j)
  | _, _ => none
def i2c (C : Int → Int → Bool) (g : Int → Int → D) : D → D → Option D
  | .int i, .int j => if C i j = true then some (g i j) else none
  | _, _ => none
theorem opd_i0 {g : Int → Int → V} {gD : Int → Int → D} (h : ∀ i j (B H : Hp), R K B H (gD i j) .Z (g i j) []) : OpD K (rI0 g) m1 m2 (i2 gD) .Z := by
  intro B H x y d u v fp1 fp2 Q s r1 r2 nd e c
  cases x with
  | int i =>
    cases y with
    | int j =>
      obtain ⟨rfl, rfl⟩ := r1
      obtain ⟨rfl, rfl⟩ := r2
      cases e
      exact ⟨i, j, rfl, rfl, c.flat s (h i j B H)⟩
    | _ => cases e
  | _ => cases e
theorem opd_ic {C : Int → Int → Prop} {Cb : Int → Int → Bool} {g : Int → Int → V} {gD : Int → Int → D} (hC : ∀ i j, Cb i j = true → C i j) (h : ∀ i j (B H : Hp), R K B H (gD i j) .Z (g i j) []) : OpD K (rI C g) m1 m2 (i2c Cb gD) .Z := by
  intro B H x y d u v fp1 fp2 Q s r1 r2 nd e c
  cases x with
  | int i =>
    cases y with
    | int j =>
      obtain ⟨rfl, rfl⟩ := r1
      obtain ⟨rfl, rfl⟩ := r2
      have e' : (if Cb i j = true then some (gD i j) else none) = some d := e
      by_cases hc : Cb i j = true
      · rw [if_pos hc] at e'
        cases e'
        exact ⟨i, j, rfl, rfl, hC i j hc, c.flat s (h i j B H)⟩
      · rw [if_neg hc] at e'; cases e'
    | _ => cases e
  | _ => cases e
abbrev addI := i2 fun i j => .int (i + j)
abbrev subI := i2 fun i j => .int (i - j)
def mulC (i j : Int) : Bool := decide (i.natAbs.log2 + j.natAbs.log2 < 1000000)
abbrev mulI := i2c mulC fun i j => .int (i * j)
def divC (_ j : Int) : Bool := decide (0 < j) && decide (j.natAbs.log2 < 9000)
abbrev divI := i2c divC fun i j => .int (i / j)
def posC (_ j : Int) : Bool := decide (0 < j)
abbrev modI := i2c posC fun i j => .int (i % j)
def powC (i j : Int) : Bool := decide (0 ≤ j) && (decide (j ≤ 1000000) && decide (i.natAbs < 2 ^ 64))
abbrev powI := i2c powC fun i j => .int (i ^ j.toNat)
abbrev ltI := i2 fun i j => .bl (decide (i < j))
abbrev leI := i2 fun i j => .bl (decide (i ≤ j))
abbrev gtI := i2 fun i j => .bl (decide (j < i))
abbrev geI := i2 fun i j => .bl (decide (j ≤ i))
theorem opd_add : OpD K (rI0 fun i j => .int (i + j)) m1 m2 addI .Z := opd_i0 fun _ _ _ _ => ⟨rfl, rfl⟩
theorem opd_sub : OpD K (rI0 fun i j => .int (i - j)) m1 m2 subI .Z := opd_i0 fun _ _ _ _ => ⟨rfl, rfl⟩
theorem opd_mul : OpD K (rI CMulW fun i j => .int (i * j)) m1 m2 mulI .Z := opd_ic (fun i j h => show i.natAbs.log2 + j.natAbs.log2 < 1000000 from of_decide_eq_true h) fun _ _ _ _ => ⟨rfl, rfl⟩
theorem opd_div : OpD K (rI CDivW fun i j => .int (i / j)) m1 m2 divI .Z := opd_ic (fun _ _ h => by
  unfold divC at h; rw [Bool.and_eq_true] at h
  exact ⟨of_decide_eq_true h.1, of_decide_eq_true h.2⟩) fun _ _ _ _ => ⟨rfl, rfl⟩
theorem opd_mod : OpD K (rI (fun _ j => 0 < j) fun i j => .int (i % j)) m1 m2 modI .Z := opd_ic (fun _ _ h => of_decide_eq_true h) fun _ _ _ _ => ⟨rfl, rfl⟩
theorem opd_pow : OpD K (rI CPow fun i j => .int (i ^ j.toNat)) m1 m2 powI .Z := opd_ic (fun _ _ h => by
  unfold powC at h; rw [Bool.and_eq_true, Bool.and_eq_true] at h
  exact ⟨of_decide_eq_true h.1, of_decide_eq_true h.2.1, of_decide_eq_true h.2.2⟩) fun _ _ _ _ => ⟨rfl, rfl⟩
theorem opd_lt : OpD K (rI0 fun i j => .bl (decide (i < j))) m1 m2 ltI .Z := opd_i0 fun _ _ _ _ => ⟨rfl, rfl⟩
theorem opd_le : OpD K (rI0 fun i j => .bl (decide (i ≤ j))) m1 m2 leI .Z := opd_i0 fun _ _ _ _ => ⟨rfl, rfl⟩
theorem opd_gt : OpD K (rI0 fun i j => .bl (decide (j < i))) m1 m2 gtI .Z := opd_i0 fun _ _ _ _ => ⟨rfl, rfl⟩
theorem opd_ge : OpD K (rI0 fun i j => .bl (decide (j ≤ i))) m1 m2 geI .Z := opd_i0 fun _ _ _ _ => ⟨rfl, rfl⟩
def negI : D → Option D
  | .int i => some (.int (-i))
  | _ => none
theorem und_neg : UnD K (rU fun i => .int (-i)) m1 negI .Z := by
  intro B H x d u fp1 Q s r1 nd e c
  cases x with
  | int i =>
    obtain ⟨rfl, rfl⟩ := r1
    cases e
    exact ⟨i, rfl, c.flat s ⟨rfl, rfl⟩⟩
  | _ => cases e
/-- is None, is not None -/
def isNonD : D → D → Option D
  | .non, .non => some (.bl true)
  | _, .non => some (.bl false)
  | _, _ => none
def notNonD : D → D → Option D
  | .non, .non => some (.bl false)
  | _, .non => some (.bl true)
  | _, _ => none
theorem R.nonV {B H : Hp} {d : D} {v : V} {fp : List Addr} {mm : Mode} (r : R K B H d mm v fp) : decide (v = .non) = (match d with | .non => true | _ => false) := by
  cases d with
  | non => obtain ⟨rfl, _⟩ := r; rfl
  | bl b => obtain ⟨rfl, _⟩ := r; rfl
  | int i => obtain ⟨rfl, _⟩ := r; rfl
  | str x => obtain ⟨rfl, _⟩ := r; rfl
  | lst ds => cases mm <;> first | exact r.elim | (obtain ⟨_, a, vs, rfl, _⟩ := r; rfl) | (obtain ⟨a, vs, fq, rfl, _⟩ := r; rfl)
  | tup ds => cases mm <;> first | exact r.elim | (obtain ⟨_, a, vs, rfl, _⟩ := r; rfl) | (obtain ⟨a, vs, fq, rfl, _⟩ := r; rfl)
  | dct ks ds => cases mm <;> first | exact r.elim | (obtain ⟨_, a, vs, o, rfl, _⟩ := r; rfl) | (obtain ⟨a, vs, o, fq, rfl, _⟩ := r; rfl)
  | obj c ns ds => cases mm <;> first | exact r.elim | (obtain ⟨_, a, dx, vs, rfl, _⟩ := r; rfl) | (obtain ⟨a, dx, vs, fq, rfl, _⟩ := r; rfl) | (obtain ⟨a, dx, _, _, rfl, _⟩ := r; rfl)
theorem opd_isN : OpD K (fun x y H Q => y = .non ∧ Q (.bl (decide (x = .non))) H) m1 m2 isNonD .Z := by
  intro B H x y d u v fp1 fp2 Q s r1 r2 nd e c
  cases y with
  | non =>
    obtain ⟨rfl, rfl⟩ := r2
    refine ⟨rfl, ?_⟩
    have z := r1.nonV
    rw [z]
    cases x <;> cases e <;> exact c.flat s ⟨rfl, rfl⟩
  | _ => cases x <;> cases e
theorem opd_notN : OpD K (fun x y H Q => y = .non ∧ Q (.bl (!decide (x = .non))) H) m1 m2 notNonD .Z := by
  intro B H x y d u v fp1 fp2 Q s r1 r2 nd e c
  cases y with
  | non =>
    obtain ⟨rfl, rfl⟩ := r2
    refine ⟨rfl, ?_⟩
    have z := r1.nonV
    rw [z]
    cases x <;> cases e <;> exact c.flat s ⟨rfl, rfl⟩
  | _ => cases x <;> cases e
/-! ### == of data -/
mutual
def toP : D → PyData
  | .non => .none
  | .bl b => .bool b
  | .int i => .int i
  | .str x => .str x
  | .lst ds => .list (toPs ds)
  | .tup ds => .tuple (toPs ds)
  | .dct _ _ => .none
  | .obj _ _ _ => .none
def toPs : List D → List PyData
  | [] => []
  | d :: ds => toP d :: toPs ds
end
def shN : Nat → D → Bool
  | _, .non => true
  | _, .bl _ => true
  | _, .int _ => true
  | _, .str x => PyData.strOk x
  | n + 1, .lst ds => ds.all (shN n)
  | n + 1, .tup ds => ds.all (shN n)
  | _, _ => false
mutual
theorem shN_ok : ∀ (n : Nat) (d : D), shN n d = true → (toP d).canLay0 = true ∧ (toP d).depth ≤ n
  | n, .non, h => by cases n <;> exact ⟨rfl, Nat.zero_le _⟩
  | n, .bl _, h => by cases n <;> exact ⟨rfl, Nat.zero_le _⟩
  | n, .int _, h => by cases n <;> exact ⟨rfl, Nat.zero_le _⟩
  | n, .str x, h => by
    have h' : PyData.strOk x = true := by cases n <;> exact h
    refine ⟨?_, ?_⟩
    · show PyData.canLay0 (.str x) = true
      simp only [PyData.canLay0]; exact h'
    · show PyData.depth (.str x) ≤ n
      simp only [PyData.depth]; exact Nat.zero_le _
  | n + 1, .lst ds, h => by
    have q := shNs_ok n ds h
    refine ⟨?_, ?_⟩
    · show PyData.canLay0 (.list (toPs ds)) = true
      simp only [PyData.canLay0]; exact q.1
    · show PyData.depth (.list (toPs ds)) ≤ n + 1
      simp only [PyData.depth]; exact Nat.succ_le_succ q.2
  | n + 1, .tup ds, h => by
    have q := shNs_ok n ds h
    refine ⟨?_, ?_⟩
    · show PyData.canLay0 (.tuple (toPs ds)) = true
      simp only [PyData.canLay0]; exact q.1
    · show PyData.depth (.tuple (toPs ds)) ≤ n + 1
      simp only [PyData.depth]; exact Nat.succ_le_succ q.2
  | 0, .lst ds, h => by cases h
  | 0, .tup ds, h => by cases h
  | n, .dct _ _, h => by cases n <;> cases h
  | n, .obj _ _ _, h => by cases n <;> cases h
theorem shNs_ok : ∀ (n : Nat) (ds : List D), ds.all (shN n) = true → PyData.canLayAll0 (toPs ds) = true ∧ PyData.depthAll (toPs ds) ≤ n
  | n, [], h => ⟨by simp only [toPs, PyData.canLayAll0], by simp only [toPs, PyData.depthAll]; exact Nat.zero_le _⟩
  | n, d :: ds, h => by
    rw [List.all_cons, Bool.and_eq_true] at h
    have q1 := shN_ok n d h.1
    have q2 := shNs_ok n ds h.2
    refine ⟨?_, ?_⟩
    · simp only [toPs, PyData.canLayAll0, q1.1, q2.1, Bool.and_self]
    · simp only [toPs, PyData.depthAll]; exact Nat.max_le.mpr ⟨q1.2, q2.2⟩
end
theorem shN_shaped {d : D} (h : shN 60 d = true) : SeqAt.shaped (toP d) = true := by
  have q := shN_ok 60 d h
  unfold SeqAt.shaped
  rw [Bool.and_eq_true]
  exact ⟨q.1, decide_eq_true (Nat.le_trans q.2 (by decide))⟩
mutual
theorem R.dp {B H : Hp} (s : Same B H) : ∀ (n : Nat) (d : D) {m : Mode} {v : V} {fp : List Addr}, shN n d = true → R K B H d m v fp → Dp K H v (toP d)
  | n, .non, m, v, fp, h, r => by obtain ⟨rfl, _⟩ := r; exact .non
  | n, .bl b, m, v, fp, h, r => by obtain ⟨rfl, _⟩ := r; exact .bl b
  | n, .int i, m, v, fp, h, r => by obtain ⟨rfl, _⟩ := r; exact .int i
  | n, .str x, m, v, fp, h, r => by obtain ⟨rfl, _⟩ := r; exact .str x
  | n + 1, .lst ds, m, v, fp, h, r => by
    cases m with
    | F =>
      obtain ⟨_, a, vs, rfl, hs, hl, hr⟩ := r
      exact .lst (Same.sqL s hs) (Rl.dp s n ds h hr)
    | O m =>
      obtain ⟨a, vs, fq, rfl, b0, ha, hl, hr, rfl⟩ := r
      exact .lst (SqL.of ha) (Rl.dp s n ds h hr)
    | _ => exact r.elim
  | n + 1, .tup ds, m, v, fp, h, r => by
    cases m with
    | F =>
      obtain ⟨_, a, vs, rfl, hs, hl, hr⟩ := r
      exact .tup (Same.sqT s hs) (Rl.dp s n ds h hr)
    | O m =>
      obtain ⟨a, vs, fq, rfl, b0, ha, hl, hr, rfl⟩ := r
      exact .tup (SqT.of ha) (Rl.dp s n ds h hr)
    | _ => exact r.elim
  | 0, .lst ds, m, v, fp, h, r => by cases h
  | 0, .tup ds, m, v, fp, h, r => by cases h
  | n, .dct _ _, m, v, fp, h, r => by cases n <;> cases h
  | n, .obj _ _ _, m, v, fp, h, r => by cases n <;> cases h
theorem Rl.dp {B H : Hp} (s : Same B H) : ∀ (n : Nat) (ds : List D) {m : Mode} {vs : List V} {fp : List Addr}, ds.all (shN n) = true → Rl K B H ds m vs fp → DpAll K H vs (toPs ds)
  | n, [], m, vs, fp, h, r => by obtain ⟨rfl, _⟩ := r; exact .nil
  | n, d :: ds, m, vs, fp, h, r => by
    rw [List.all_cons, Bool.and_eq_true] at h
    obtain ⟨v, vr, f1, f2, rfl, r1, r2, rfl⟩ := r
    exact .cons (R.dp s n d h.1 r1) (Rl.dp s n ds h.2 r2)
end
def sh2 (d e : D) : Bool := shN 60 d && shN 60 e
def eqO (d e : D) : Option D := if sh2 d e = true then some (.bl (PyData.eqv (toP d) (toP e))) else none
def neO (d e : D) : Option D := if sh2 d e = true then some (.bl (!PyData.eqv (toP d) (toP e))) else none
theorem opd_eq : OpD K (rEqD K) m1 m2 eqO .Z := by
  intro B H x y d u v fp1 fp2 Q s r1 r2 nd e c
  unfold eqO at e
  split at e
  · rename_i h
    unfold sh2 at h
    rw [Bool.and_eq_true] at h
    cases e
    exact ⟨toP x, toP y, R.dp s 60 x h.1 r1, R.dp s 60 y h.2 r2, shN_shaped h.1, shN_shaped h.2, c.flat s ⟨rfl, rfl⟩⟩
  · cases e
theorem opd_ne : OpD K (rNeD K) m1 m2 neO .Z := by
  intro B H x y d u v fp1 fp2 Q s r1 r2 nd e c
  unfold neO at e
  split at e
  · rename_i h
    unfold sh2 at h
    rw [Bool.and_eq_true] at h
    cases e
    exact ⟨toP x, toP y, R.dp s 60 x h.1 r1, R.dp s 60 y h.2 r2, shN_shaped h.1, shN_shaped h.2, c.flat s ⟨rfl, rfl⟩⟩
  · cases e
/-- x in a list of data -/
def inO (d e : D) : Option D := match e with
  | .lst ds => if (shN 60 d && shN 60 (.lst ds)) = true then some (.bl ((toPs ds).any fun z => PyData.eqv z (toP d))) else none
  | _ => none
def ninO (d e : D) : Option D := match e with
  | .lst ds => if (shN 60 d && shN 60 (.lst ds)) = true then some (.bl (!(toPs ds).any fun z => PyData.eqv z (toP d))) else none
  | _ => none
theorem opd_in : OpD K (rInD K) m1 m2 inO .Z := by
  intro B H x y d u v fp1 fp2 Q s r1 r2 nd e c
  cases y with
  | lst ds =>
    have e' : (if (shN 60 x && shN 60 (.lst ds)) = true then some (D.bl ((toPs ds).any fun z => PyData.eqv z (toP x))) else none) = some d := e
    split at e'
    · rename_i h
      rw [Bool.and_eq_true] at h
      cases e'
      exact ⟨toP x, toPs ds, R.dp s 60 x h.1 r1, R.dp s 60 (.lst ds) h.2 r2, shN_shaped h.1, shN_shaped (d := .lst ds) h.2, c.flat s ⟨rfl, rfl⟩⟩
    · cases e'
  | _ => cases e
theorem opd_nin : OpD K (rNotInD K) m1 m2 ninO .Z := by
  intro B H x y d u v fp1 fp2 Q s r1 r2 nd e c
  cases y with
  | lst ds =>
    have e' : (if (shN 60 x && shN 60 (.lst ds)) = true then some (D.bl (!(toPs ds).any fun z => PyData.eqv z (toP x))) else none) = some d := e
    split at e'
    · rename_i h
      rw [Bool.and_eq_true] at h
      cases e'
      exact ⟨toP x, toPs ds, R.dp s 60 x h.1 r1, R.dp s 60 (.lst ds) h.2 r2, shN_shaped h.1, shN_shaped (d := .lst ds) h.2, c.flat s ⟨rfl, rfl⟩⟩
    · cases e'
  | _ => cases e
/-! ### items -/
theorem Rl.at_ {B H : Hp} : ∀ {ds : List D} {m : Mode} {vs : List V} {fp : List Addr} {i : Nat} {d : D}, Rl K B H ds m vs fp → ds[i]? = some d → ∃ v fq, vs[i]? = some v ∧ R K B H d m v fq ∧ (∀ a ∈ fq, a ∈ fp) ∧ (fp.Nodup → fq.Nodup)
  | d0 :: ds, m, vs, fp, i, d, h, e => by
    obtain ⟨v, r, fp1, fp2, rfl, h1, h2, rfl⟩ := h
    cases i with
    | zero =>
      have z : d0 = d := by simpa using e
      subst z
      exact ⟨v, fp1, rfl, h1, fun a h => List.mem_append_left _ h, fun n => (nodup_app.mp n).1⟩
    | succ i =>
      obtain ⟨u, fq, q1, q2, q3, q4⟩ := Rl.at_ (i := i) h2 (by simpa using e)
      exact ⟨u, fq, by simpa using q1, q2, fun a h => List.mem_append_right _ (q3 a h), fun n => q4 (nodup_app.mp n).2.1⟩
  | [], m, vs, fp, i, d, h, e => by simp at e
def atO (ds : List D) (i : Int) : Option D := atI ds i
def ixO : D → D → Option D
  | .lst ds, .int i => atI ds i
  | .tup ds, .int i => atI ds i
  | _, _ => none
theorem atI_rel {B H : Hp} {ds : List D} {vs : List V} {fp : List Addr} {i : Int} {d : D} {mm : Mode} (r : Rl K B H ds mm vs fp) (e : atI ds i = some d) : ∃ v fq, atI vs i = some v ∧ R K B H d mm v fq ∧ (∀ a ∈ fq, a ∈ fp) ∧ (fp.Nodup → fq.Nodup) := by
  unfold atI at e ⊢
  rw [r.len]
  cases q : ixN ds.length i with
  | none => rw [q] at e; cases e
  | some j =>
    rw [q] at e
    exact r.at_ e
theorem opd_ixF : OpD K (rIx K) .F m2 ixO .F := by
  intro B H x y d u v fp1 fp2 Q s r1 r2 nd e c
  cases y with
  | int i =>
    obtain ⟨rfl, rfl⟩ := r2
    cases x with
    | lst ds =>
      obtain ⟨rfl, a, vs, rfl, hs, hl, hr⟩ := r1
      obtain ⟨w, fq, e1, r3, q1, q2⟩ := atI_rel hr e
      have z : fq = [] := List.eq_nil_iff_forall_not_mem.mpr fun a h => nomatch q1 a h
      subst z
      exact .inl ⟨a, vs, i, w, rfl, rfl, Same.sqL s hs, e1, c B H w [] stp0 s r3 List.nodup_nil⟩
    | tup ds =>
      obtain ⟨rfl, a, vs, rfl, hs, hl, hr⟩ := r1
      obtain ⟨w, fq, e1, r3, q1, q2⟩ := atI_rel hr e
      have z : fq = [] := List.eq_nil_iff_forall_not_mem.mpr fun a h => nomatch q1 a h
      subst z
      exact .inr (.inl ⟨a, vs, i, w, rfl, rfl, Same.sqT s hs, e1, c B H w [] stp0 s r3 List.nodup_nil⟩)
    | _ => cases e
  | _ => cases x <;> cases e
theorem opd_ixO : OpD K (rIx K) (.O m) m2 ixO m := by
  intro B H x y d u v fp1 fp2 Q s r1 r2 nd e c
  cases y with
  | int i =>
    obtain ⟨rfl, rfl⟩ := r2
    cases x with
    | lst ds =>
      obtain ⟨a, vs, fq0, rfl, b0, ha, hl, hr, rfl⟩ := r1
      obtain ⟨w, fq, e1, r3, q1, q2⟩ := atI_rel hr e
      exact .inl ⟨a, vs, i, w, rfl, rfl, SqL.of ha, e1, c B H w fq ((Stp.refl _ _ _).less fun a h => List.mem_append_left _ (List.mem_cons_of_mem _ (q1 a h))) s r3 (q2 (List.nodup_cons.mp (nodup_app.mp nd).1).2)⟩
    | tup ds =>
      obtain ⟨a, vs, fq0, rfl, b0, ha, hl, hr, rfl⟩ := r1
      obtain ⟨w, fq, e1, r3, q1, q2⟩ := atI_rel hr e
      exact .inr (.inl ⟨a, vs, i, w, rfl, rfl, SqT.of ha, e1, c B H w fq ((Stp.refl _ _ _).less fun a h => List.mem_append_left _ (List.mem_cons_of_mem _ (q1 a h))) s r3 (q2 (List.nodup_cons.mp (nodup_app.mp nd).1).2)⟩)
    | _ => cases e
  | _ => cases x <;> cases e
/-! ### list + list, tuple + tuple -/
theorem Rl.append {B H : Hp} : ∀ {ds es : List D} {mm : Mode} {vs us : List V} {fp fq : List Addr}, Rl K B H ds mm vs fp → Rl K B H es mm us fq → Rl K B H (ds ++ es) mm (vs ++ us) (fp ++ fq)
  | [], es, mm, vs, us, fp, fq, h, h' => by rw [h.1, h.2]; exact h'
  | d :: ds, es, mm, vs, us, fp, fq, h, h' => by
    obtain ⟨v, r, fp1, fp2, rfl, h1, h2, rfl⟩ := h
    exact ⟨v, _, fp1, _, rfl, h1, Rl.append h2 h', by rw [List.append_assoc]⟩
/-- a new node comes: at p, of the temporaries' parts -/
theorem new_lst {B H : Hp} {fp fq : List Addr} {ds : List D} {vs : List V} {Q : VK} (c : Comes K B H fp (.lst ds) (.O m) Q) (s : Same B H) (hr : Rl K B H ds m vs fq) (hl : ds.length ≤ sizeLine) (hq : ∀ a ∈ fq, a ∈ fp) (nq : fq.Nodup) {p : Addr} (hp : H p = none) : Q (.ref p) (upd H p (.lst vs)) := by
  have bp : B p = none := by
    cases e : B p with
    | none => rfl
    | some o => rw [s p o e] at hp; cases hp
  have npq : p ∉ fq := fun h => by
    obtain ⟨_, o, e⟩ := Rl.own ds hr p h
    rw [e] at hp; cases hp
  refine c B _ (.ref p) (p :: fq) ⟨Same.refl _, fun a o n e => by rw [upd_ne (ne_of_none e hp)]; exact e, fun a h => ?_, fun a o e => .inl e⟩ (fresh_same s hp) ⟨p, vs, fq, rfl, bp, upd_same, hl, hr.mono (Same.refl _) ds (upd_kept (fun a h => (Rl.own ds hr a h).1) npq), rfl⟩ (List.nodup_cons.mpr ⟨npq, nq⟩)
  rcases List.mem_cons.mp h with rfl | h
  · exact .inr hp
  · exact .inl (hq a h)
theorem new_tup {B H : Hp} {fp fq : List Addr} {ds : List D} {vs : List V} {Q : VK} (c : Comes K B H fp (.tup ds) (.O m) Q) (s : Same B H) (hr : Rl K B H ds m vs fq) (hl : ds.length ≤ sizeLine) (hq : ∀ a ∈ fq, a ∈ fp) (nq : fq.Nodup) {p : Addr} (hp : H p = none) : Q (.ref p) (upd H p (.tup vs)) := by
  have bp : B p = none := by
    cases e : B p with
    | none => rfl
    | some o => rw [s p o e] at hp; cases hp
  have npq : p ∉ fq := fun h => by
    obtain ⟨_, o, e⟩ := Rl.own ds hr p h
    rw [e] at hp; cases hp
  refine c B _ (.ref p) (p :: fq) ⟨Same.refl _, fun a o n e => by rw [upd_ne (ne_of_none e hp)]; exact e, fun a h => ?_, fun a o e => .inl e⟩ (fresh_same s hp) ⟨p, vs, fq, rfl, bp, upd_same, hl, hr.mono (Same.refl _) ds (upd_kept (fun a h => (Rl.own ds hr a h).1) npq), rfl⟩ (List.nodup_cons.mpr ⟨npq, nq⟩)
  rcases List.mem_cons.mp h with rfl | h
  · exact .inr hp
  · exact .inl (hq a h)
def catL : D → D → Option D
  | .lst ds, .lst es => if ds.length + es.length ≤ sizeLine then some (.lst (ds ++ es)) else none
  | _, _ => none
/-- two owned lists (of parts of one mode) -/
theorem opd_cat : OpD K rCat (.O m) (.O m) catL (.O m) := by
  intro B H x y d u v fp1 fp2 Q s r1 r2 nd e c
  cases x with
  | lst ds =>
    cases y with
    | lst es =>
      have e' : (if ds.length + es.length ≤ sizeLine then some (D.lst (ds ++ es)) else none) = some d := e
      split at e'
      · rename_i h
        cases e'
        obtain ⟨a, vs, fq1, rfl, b0, ha, hl, hr, rfl⟩ := r1
        obtain ⟨b, us, fq2, rfl, b1, hb, hl2, hr2, rfl⟩ := r2
        have n := nodup_app.mp nd
        refine ⟨a, b, vs, us, rfl, rfl, ha, hb, by rw [hr.len, hr2.len]; exact h, fun p hp => new_lst c s (hr.append hr2) (by rw [List.length_append]; exact h) (fun a h => ?_) (nodup_app.mpr ⟨(List.nodup_cons.mp n.1).2, (List.nodup_cons.mp n.2.1).2, fun x hx hy => n.2.2 x (List.mem_cons_of_mem _ hx) (List.mem_cons_of_mem _ hy)⟩) hp⟩
        rcases List.mem_append.mp h with h | h
        · exact List.mem_append_left _ (List.mem_cons_of_mem _ h)
        · exact List.mem_append_right _ (List.mem_cons_of_mem _ h)
      · cases e'
    | _ => cases e
  | _ => cases e
/-! ### displays -/
theorem Ra.rl {B H : Hp} : ∀ {ds : List D} {ms : List Mode} {mm : Mode} {vs : List V} {fp : List Addr}, Ra K B H ds ms vs fp → (ms.all fun x => sub x mm) = true → Rl K B H ds mm vs fp
  | [], [], mm, vs, fp, h, _ => h
  | d :: ds, m0 :: ms, mm, vs, fp, h, q => by
    rw [List.all_cons, Bool.and_eq_true] at q
    obtain ⟨v, r, fp1, fp2, rfl, h1, h2, rfl⟩ := h
    exact ⟨v, r, fp1, fp2, rfl, h1.sub d q.1, Ra.rl h2 q.2, rfl⟩
  | [], _ :: _, _, _, _, h, _ => h.elim
  | _ :: _, [], _, _, _, h, _ => h.elim
theorem nad_tup {ms : List Mode} (q : (ms.all fun x => sub x m) = true) (hl : ms.length ≤ sizeLine) : NaD K (fun xs H1 Q => xs.length ≤ sizeLine ∧ ∀ p, H1 p = none → Q (.ref p) (upd H1 p (.tup xs))) ms (fun ds => some (.tup ds)) (.O m) := by
  intro B H xs d us fp1 Q s r nd e c
  cases e
  have l := r.len
  exact ⟨by rw [l.1]; exact hl, fun p hp => new_tup c s (r.rl q) (by rw [l.2]; exact hl) (fun a h => h) nd hp⟩
theorem nad_lst {ms : List Mode} (q : (ms.all fun x => sub x m) = true) (hl : ms.length ≤ sizeLine) : NaD K (fun xs H1 Q => xs.length ≤ sizeLine ∧ ∀ p, H1 p = none → Q (.ref p) (upd H1 p (.lst xs))) ms (fun ds => some (.lst ds)) (.O m) := by
  intro B H xs d us fp1 Q s r nd e c
  cases e
  have l := r.len
  exact ⟨by rw [l.1]; exact hl, fun p hp => new_lst c s (r.rl q) (by rw [l.2]; exact hl) (fun a h => h) nd hp⟩
/-! ### one list or tuple as an argument -/
theorem Ra.one {B H : Hp} {xs : List D} {us : List V} {fp : List Addr} (r : Ra K B H xs [m] us fp) : ∃ d v, xs = [d] ∧ us = [v] ∧ R K B H d m v fp := by
  match xs, r with
  | [d], r =>
    obtain ⟨v, r', f1, f2, rfl, r1, r2, rfl⟩ := r
    obtain ⟨rfl, rfl⟩ := r2
    exact ⟨d, v, rfl, rfl, by rw [List.append_nil]; exact r1⟩
  | [], r => exact r.elim
  | _ :: _ :: _, r =>
    obtain ⟨v, r', f1, f2, rfl, r1, r2, rfl⟩ := r
    exact r2.elim
theorem Ra.two {B H : Hp} {xs : List D} {us : List V} {fp : List Addr} (r : Ra K B H xs [m1, m2] us fp) : ∃ d e u v f1 f2, xs = [d, e] ∧ us = [u, v] ∧ R K B H d m1 u f1 ∧ R K B H e m2 v f2 ∧ fp = f1 ++ f2 := by
  match xs, r with
  | [d, e], r =>
    obtain ⟨v, r', f1, f2, rfl, r1, ⟨v2, r'', f3, f4, rfl, r3, r4, rfl⟩, rfl⟩ := r
    obtain ⟨rfl, rfl⟩ := r4
    exact ⟨d, e, v, v2, f1, f3, rfl, rfl, r1, r3, by rw [List.append_nil]⟩
  | [], r => exact r.elim
  | [_], r =>
    obtain ⟨v, r', f1, f2, rfl, r1, r2, rfl⟩ := r
    exact r2.elim
  | _ :: _ :: _ :: _, r =>
    obtain ⟨v, r', f1, f2, rfl, r1, ⟨v2, r'', f3, f4, rfl, r3, r4, rfl⟩, rfl⟩ := r
    exact r4.elim
/-- a list or a tuple, as it is read -/
theorem R.seq {B H : Hp} {d : D} {v : V} {fp : List Addr} {mm : Mode} (s : Same B H) (r : R K B H d mm v fp) : (∀ ds, d = .lst ds → ∃ a vs fq, v = .ref a ∧ SqL K H a vs ∧ Rl K B H ds (partM mm) vs fq ∧ ds.length ≤ sizeLine ∧ (∀ a ∈ fq, a ∈ fp) ∧ (fp.Nodup → fq.Nodup)) ∧
    (∀ ds, d = .tup ds → ∃ a vs fq, v = .ref a ∧ SqT K H a vs ∧ Rl K B H ds (partM mm) vs fq ∧ ds.length ≤ sizeLine ∧ (∀ a ∈ fq, a ∈ fp) ∧ (fp.Nodup → fq.Nodup)) := by
  refine ⟨fun ds e => ?_, fun ds e => ?_⟩
  · subst e
    cases mm with
    | F =>
      obtain ⟨rfl, a, vs, rfl, hs, hl, hr⟩ := r
      exact ⟨a, vs, [], rfl, Same.sqL s hs, hr, hl, fun a h => h, fun n => n⟩
    | O m =>
      obtain ⟨a, vs, fq, rfl, b0, ha, hl, hr, rfl⟩ := r
      exact ⟨a, vs, fq, rfl, SqL.of ha, hr, hl, fun a h => List.mem_cons_of_mem _ h, fun n => (List.nodup_cons.mp n).2⟩
    | _ => exact r.elim
  · subst e
    cases mm with
    | F =>
      obtain ⟨rfl, a, vs, rfl, hs, hl, hr⟩ := r
      exact ⟨a, vs, [], rfl, Same.sqT s hs, hr, hl, fun a h => h, fun n => n⟩
    | O m =>
      obtain ⟨a, vs, fq, rfl, b0, ha, hl, hr, rfl⟩ := r
      exact ⟨a, vs, fq, rfl, SqT.of ha, hr, hl, fun a h => List.mem_cons_of_mem _ h, fun n => (List.nodup_cons.mp n).2⟩
    | _ => exact r.elim
def lenO : List D → Option D
  | [.lst ds] => some (.int ds.length)
  | [.tup ds] => some (.int ds.length)
  | _ => none
theorem nad_len : NaD K (fun xs H Q => ∃ p ys, xs = [.ref p] ∧ (SqL K H p ys ∨ SqT K H p ys) ∧ Q (.int ys.length) H) [m] lenO .Z := by
  intro B H xs d us fp1 Q s r nd e c
  obtain ⟨x, v, rfl, rfl, r1⟩ := r.one
  have q := r1.seq s
  cases x with
  | lst ds =>
    cases e
    obtain ⟨a, vs, fq, rfl, hs, hr, _⟩ := q.1 ds rfl
    exact ⟨a, vs, rfl, .inl hs, by rw [hr.len]; exact c.flat s ⟨rfl, rfl⟩⟩
  | tup ds =>
    cases e
    obtain ⟨a, vs, fq, rfl, hs, hr, _⟩ := q.2 ds rfl
    exact ⟨a, vs, rfl, .inr hs, by rw [hr.len]; exact c.flat s ⟨rfl, rfl⟩⟩
  | _ => cases e
def intsOf : List D → Option (List Int)
  | [] => some []
  | .int i :: ds => (intsOf ds).map (i :: ·)
  | _ => none
theorem intsOf_map (ns : List Int) : intsOf (ns.map D.int) = some ns := by
  induction ns with
  | nil => rfl
  | cons n ns ih => simp [intsOf, ih]
theorem intsOf_rel {B H : Hp} : ∀ {ds : List D} {ns : List Int} {mm : Mode} {vs : List V} {fp : List Addr}, intsOf ds = some ns → Rl K B H ds mm vs fp → vs = ns.map V.int
  | [], ns, mm, vs, fp, e, r => by cases e; exact r.1
  | .int i :: ds, ns, mm, vs, fp, e, r => by
    obtain ⟨v, vr, f1, f2, rfl, r1, r2, rfl⟩ := r
    obtain ⟨rfl, _⟩ := r1
    have e' : (intsOf ds).map (i :: ·) = some ns := e
    cases q : intsOf ds with
    | none => rw [q] at e'; cases e'
    | some ms =>
      rw [q] at e'
      cases e'
      rw [intsOf_rel q r2]; rfl
  | .non :: _, _, _, _, _, e, _ | .bl _ :: _, _, _, _, _, e, _ | .str _ :: _, _, _, _, _, e, _ | .lst _ :: _, _, _, _, _, e, _ | .tup _ :: _, _, _, _, _, e, _ | .dct _ _ :: _, _, _, _, _, e, _ | .obj _ _ _ :: _, _, _, _, _, e, _ => by cases e
def sumO : List D → Option D
  | [.lst ds] => (intsOf ds).map fun ns => .int ns.sum
  | _ => none
theorem nad_sum : NaD K (rSum K) [m] sumO .Z := by
  intro B H xs d us fp1 Q s r nd e c
  obtain ⟨x, v, rfl, rfl, r1⟩ := r.one
  have q := r1.seq s
  cases x with
  | lst ds =>
    obtain ⟨a, vs, fq, rfl, hs, hr, _⟩ := q.1 ds rfl
    have e' : (intsOf ds).map (fun ns => D.int ns.sum) = some d := e
    cases z : intsOf ds with
    | none => rw [z] at e'; cases e'
    | some ns =>
      rw [z] at e'
      cases e'
      have w := intsOf_rel z hr
      subst w
      exact ⟨a, ns, rfl, hs, c.flat s ⟨rfl, rfl⟩⟩
  | _ => cases e
/-- the least, the greatest -/
def leastI : List Int → Int
  | [] => 0
  | [n] => n
  | n :: ns => min n (leastI ns)
def greatI : List Int → Int
  | [] => 0
  | [n] => n
  | n :: ns => max n (greatI ns)
theorem leastI_spec : ∀ {ns : List Int}, 0 < ns.length → leastI ns ∈ ns ∧ ∀ y ∈ ns, leastI ns ≤ y
  | [], h => absurd h (Nat.lt_irrefl _)
  | [n], _ => ⟨by simp [leastI], fun y hy => by simp [leastI] at hy ⊢; omega⟩
  | n :: k :: ns, _ => by
    have ih := leastI_spec (ns := k :: ns) (by simp)
    have e : leastI (n :: k :: ns) = min n (leastI (k :: ns)) := rfl
    rw [e]
    refine ⟨?_, fun y hy => ?_⟩
    · by_cases h : n ≤ leastI (k :: ns)
      · rw [Int.min_eq_left h]; exact List.mem_cons_self
      · rw [Int.min_eq_right (by omega)]; exact List.mem_cons_of_mem _ ih.1
    · rcases List.mem_cons.mp hy with rfl | hy
      · exact Int.min_le_left _ _
      · exact Int.le_trans (Int.min_le_right _ _) (ih.2 y hy)
theorem greatI_spec : ∀ {ns : List Int}, 0 < ns.length → greatI ns ∈ ns ∧ ∀ y ∈ ns, y ≤ greatI ns
  | [], h => absurd h (Nat.lt_irrefl _)
  | [n], _ => ⟨by simp [greatI], fun y hy => by simp [greatI] at hy ⊢; omega⟩
  | n :: k :: ns, _ => by
    have ih := greatI_spec (ns := k :: ns) (by simp)
    have e : greatI (n :: k :: ns) = max n (greatI (k :: ns)) := rfl
    rw [e]
    refine ⟨?_, fun y hy => ?_⟩
    · by_cases h : n ≤ greatI (k :: ns)
      · rw [Int.max_eq_right h]; exact List.mem_cons_of_mem _ ih.1
      · rw [Int.max_eq_left (by omega)]; exact List.mem_cons_self
    · rcases List.mem_cons.mp hy with rfl | hy
      · exact Int.le_max_left _ _
      · exact Int.le_trans (ih.2 y hy) (Int.le_max_right _ _)
def minO : List D → Option D
  | [.lst ds] => (intsOf ds).bind fun ns => if 0 < ns.length then some (.int (leastI ns)) else none
  | _ => none
def maxO : List D → Option D
  | [.lst ds] => (intsOf ds).bind fun ns => if 0 < ns.length then some (.int (greatI ns)) else none
  | _ => none
theorem nad_min : NaD K (rMin K) [m] minO .Z := by
  intro B H xs d us fp1 Q s r nd e c
  obtain ⟨x, v, rfl, rfl, r1⟩ := r.one
  have q := r1.seq s
  cases x with
  | lst ds =>
    obtain ⟨a, vs, fq, rfl, hs, hr, _⟩ := q.1 ds rfl
    have e' : ((intsOf ds).bind fun ns => if 0 < ns.length then some (D.int (leastI ns)) else none) = some d := e
    cases z : intsOf ds with
    | none => rw [z] at e'; cases e'
    | some ns =>
      rw [z] at e'
      have e2 : (if 0 < ns.length then some (D.int (leastI ns)) else none) = some d := e'
      split at e2
      · rename_i hn
        cases e2
        have w := intsOf_rel z hr
        subst w
        refine ⟨a, ns, rfl, hs, hn, fun k hk hle => ?_⟩
        have sp := leastI_spec hn
        have : k = leastI ns := Int.le_antisymm (hle _ sp.1) (sp.2 k hk)
        rw [this]
        exact c.flat s ⟨rfl, rfl⟩
      · cases e2
  | _ => cases e
theorem nad_max : NaD K (rMax K) [m] maxO .Z := by
  intro B H xs d us fp1 Q s r nd e c
  obtain ⟨x, v, rfl, rfl, r1⟩ := r.one
  have q := r1.seq s
  cases x with
  | lst ds =>
    obtain ⟨a, vs, fq, rfl, hs, hr, _⟩ := q.1 ds rfl
    have e' : ((intsOf ds).bind fun ns => if 0 < ns.length then some (D.int (greatI ns)) else none) = some d := e
    cases z : intsOf ds with
    | none => rw [z] at e'; cases e'
    | some ns =>
      rw [z] at e'
      have e2 : (if 0 < ns.length then some (D.int (greatI ns)) else none) = some d := e'
      split at e2
      · rename_i hn
        cases e2
        have w := intsOf_rel z hr
        subst w
        refine ⟨a, ns, rfl, hs, hn, fun k hk hle => ?_⟩
        have sp := greatI_spec hn
        have : k = greatI ns := Int.le_antisymm (sp.2 k hk) (hle _ sp.1)
        rw [this]
        exact c.flat s ⟨rfl, rfl⟩
      · cases e2
  | _ => cases e
def absO : List D → Option D
  | [.int i] => some (.int (if i < 0 then -i else i))
  | _ => none
theorem nad_abs : NaD K (fun xs H Q => ∃ i, xs = [.int i] ∧ Q (.int (if i < 0 then -i else i)) H) [m] absO .Z := by
  intro B H xs d us fp1 Q s r nd e c
  obtain ⟨x, v, rfl, rfl, r1⟩ := r.one
  cases x with
  | int i =>
    obtain ⟨rfl, rfl⟩ := r1
    cases e
    exact ⟨i, rfl, c.flat s ⟨rfl, rfl⟩⟩
  | _ => cases e
def max2O : List D → Option D
  | [.int i, .int j] => some (.int (if j > i then j else i))
  | _ => none
def min2O : List D → Option D
  | [.int i, .int j] => some (.int (if j < i then j else i))
  | _ => none
theorem nad_max2 : NaD K (fun xs H Q => ∃ i j, xs = [.int i, .int j] ∧ Q (.int (if j > i then j else i)) H) [m1, m2] max2O .Z := by
  intro B H xs d us fp1 Q s r nd e c
  obtain ⟨x, y, u, v, f1, f2, rfl, rfl, r1, r2, rfl⟩ := r.two
  cases x with
  | int i =>
    cases y with
    | int j =>
      obtain ⟨rfl, rfl⟩ := r1
      obtain ⟨rfl, rfl⟩ := r2
      cases e
      exact ⟨i, j, rfl, c.flat s ⟨rfl, rfl⟩⟩
    | _ => cases e
  | _ => cases y <;> cases e
theorem nad_min2 : NaD K (fun xs H Q => ∃ i j, xs = [.int i, .int j] ∧ Q (.int (if j < i then j else i)) H) [m1, m2] min2O .Z := by
  intro B H xs d us fp1 Q s r nd e c
  obtain ⟨x, y, u, v, f1, f2, rfl, rfl, r1, r2, rfl⟩ := r.two
  cases x with
  | int i =>
    cases y with
    | int j =>
      obtain ⟨rfl, rfl⟩ := r1
      obtain ⟨rfl, rfl⟩ := r2
      cases e
      exact ⟨i, j, rfl, c.flat s ⟨rfl, rfl⟩⟩
    | _ => cases e
  | _ => cases y <;> cases e
/-- list(x): a new list of the parts; the parts stay where they were: of a frozen source, or the source is let go -/
def listO : List D → Option D
  | [.lst ds] => some (.lst ds)
  | [.tup ds] => some (.lst ds)
  | _ => none
theorem nad_list : NaD K (fun xs H Q => ∃ p ys, xs = [.ref p] ∧ (SqL K H p ys ∨ SqT K H p ys) ∧ ∀ l, H l = none → Q (.ref l) (upd H l (.lst ys))) [m] listO (.O (partM m)) := by
  intro B H xs d us fp1 Q s r nd e c
  obtain ⟨x, v, rfl, rfl, r1⟩ := r.one
  have q := r1.seq s
  cases x with
  | lst ds =>
    cases e
    obtain ⟨a, vs, fq, rfl, hs, hr, hl, q1, q2⟩ := q.1 ds rfl
    exact ⟨a, vs, rfl, .inl hs, fun l hl2 => new_lst c s hr hl q1 (q2 nd) hl2⟩
  | tup ds =>
    cases e
    obtain ⟨a, vs, fq, rfl, hs, hr, hl, q1, q2⟩ := q.2 ds rfl
    exact ⟨a, vs, rfl, .inr hs, fun l hl2 => new_lst c s hr hl q1 (q2 nd) hl2⟩
  | _ => cases e
def tupleO : List D → Option D
  | [.lst ds] => some (.tup ds)
  | _ => none
theorem nad_tuple : NaD K (fun xs H Q => ∃ p ys, xs = [.ref p] ∧ ((SqL K H p ys ∧ ∀ l, H l = none → Q (.ref l) (upd H l (.tup ys))) ∨ (SqT K H p ys ∧ Q (.ref p) H))) [m] tupleO (.O (partM m)) := by
  intro B H xs d us fp1 Q s r nd e c
  obtain ⟨x, v, rfl, rfl, r1⟩ := r.one
  have q := r1.seq s
  cases x with
  | lst ds =>
    cases e
    obtain ⟨a, vs, fq, rfl, hs, hr, hl, q1, q2⟩ := q.1 ds rfl
    exact ⟨a, vs, rfl, .inl ⟨hs, fun l hl2 => new_tup c s hr hl q1 (q2 nd) hl2⟩⟩
  | _ => cases e
end
/-! ### flat data: its mode is Z -/
def isFlat : D → Bool
  | .non => true
  | .bl _ => true
  | .int _ => true
  | .str _ => true
  | _ => false
theorem R.flatZ {K : PySem.W.Frag} {B H : Hp} {d : D} {m : Mode} {v : V} {fp : List Addr} (r : R K B H d m v fp) (f : isFlat d = true) : R K B H d .Z v fp := by
  cases d <;> first | exact r | cases f
def eFlat (f : Gam → Rz D) : Gam → Rz D := e1 (fun d => if isFlat d = true then some d else none) f
theorem DE.flat {X : Cx} {w : Wh} {μ μ' : List Mode} {e : Expr} {f : Gam → Rz D} {m : Mode} (h : DE X w μ e f m μ') : DE X w μ e (eFlat f) .Z μ' :=
  ⟨h.pe.imp fun σ H Q ⟨B, Γ, fp, st, q⟩ => ⟨B, Γ, fp, st, by
    unfold eFlat e1 at q
    revert q
    cases f Γ with
    | ok d Γ' =>
      show (match Rz.opt (if isFlat d = true then some d else none) Γ' with
        | .ok d Γ' => _
        | .exc x Γ' => _
        | .bad => _) → _
      by_cases c : isFlat d = true
      · rw [if_pos c]
        exact fun q B' H' v fpv fp' s1 st' r nd => q B' H' v fpv fp' s1 st' (r.flatZ c) nd
      · rw [if_neg c]
        exact fun q => q.elim
    | exc x Γ' => exact id
    | bad => exact id⟩⟩
/-- an owned node of flat parts: O Z -/
theorem Rl.flatZ {K : PySem.W.Frag} {B H : Hp} : ∀ {ds : List D} {m : Mode} {vs : List V} {fp : List Addr}, Rl K B H ds m vs fp → ds.all isFlat = true → Rl K B H ds .Z vs fp
  | [], _, _, _, h, _ => h
  | d :: ds, m, vs, fp, h, f => by
    rw [List.all_cons, Bool.and_eq_true] at f
    obtain ⟨v, r, f1, f2, rfl, h1, h2, rfl⟩ := h
    exact ⟨v, r, f1, f2, rfl, h1.flatZ f.1, Rl.flatZ h2 f.2, rfl⟩
def flatParts : D → Bool
  | .lst ds => ds.all isFlat
  | .tup ds => ds.all isFlat
  | d => isFlat d
def eFlats (f : Gam → Rz D) : Gam → Rz D := e1 (fun d => if flatParts d = true then some d else none) f
theorem DE.flats {X : Cx} {w : Wh} {μ μ' : List Mode} {e : Expr} {f : Gam → Rz D} {m : Mode} (h : DE X w μ e f (.O m) μ') : DE X w μ e (eFlats f) (.O .Z) μ' :=
  ⟨h.pe.imp fun σ H Q ⟨B, Γ, fp, st, q⟩ => ⟨B, Γ, fp, st, by
    unfold eFlats e1 at q
    revert q
    cases f Γ with
    | ok d Γ' =>
      show (match Rz.opt (if flatParts d = true then some d else none) Γ' with
        | .ok d Γ' => _
        | .exc x Γ' => _
        | .bad => _) → _
      by_cases c : flatParts d = true
      · rw [if_pos c]
        refine fun q B' H' v fpv fp' s1 st' r nd => q B' H' v fpv fp' s1 st' ?_ nd
        cases d with
        | lst ds =>
          obtain ⟨a, vs, fq, rfl, b0, ha, hl, hr, rfl⟩ := r
          exact ⟨a, vs, fq, rfl, b0, ha, hl, hr.flatZ c, rfl⟩
        | tup ds =>
          obtain ⟨a, vs, fq, rfl, b0, ha, hl, hr, rfl⟩ := r
          exact ⟨a, vs, fq, rfl, b0, ha, hl, hr.flatZ c, rfl⟩
        | dct _ _ => cases c
        | obj _ _ _ => cases c
        | _ => exact r
      · rw [if_neg c]
        exact fun q => q.elim
    | exc x Γ' => exact id
    | bad => exact id⟩⟩
end EV

/-! EvJ: places: a part of what a slot owns, reached by indices and fields; stores there. -/
namespace EV
open PySem PySem.Spec L2

inductive Sel where
  | ix (i : Int) | fld (k n : Str)
/-- the place of a field -/
def fIx : List Str → Str → Option Nat
  | [], _ => none
  | x :: r, n => if x = n then some 0 else (fIx r n).map (· + 1)
def getP : D → List Sel → Option D
  | d, [] => some d
  | .lst ds, .ix i :: s => (atI ds i).bind fun c => getP c s
  | .tup ds, .ix i :: s => (atI ds i).bind fun c => getP c s
  | .obj k ns ds, .fld k' n :: s => if k = k' then ((fIx ns n).bind fun j => ds[j]?).bind fun c => getP c s else none
  | _, _ => none
def setP : D → List Sel → D → Option D
  | _, [], x => some x
  | .lst ds, .ix i :: s, x => (ixN ds.length i).bind fun j => (ds[j]?).bind fun c => (setP c s x).map fun c' => .lst (ds.set j c')
  | .tup ds, .ix i :: s, x => (ixN ds.length i).bind fun j => (ds[j]?).bind fun c => (setP c s x).map fun c' => .tup (ds.set j c')
  | .obj k ns ds, .fld _ n :: s, x => (fIx ns n).bind fun j => (ds[j]?).bind fun c => (setP c s x).map fun c' => .obj k ns (ds.set j c')
  | _, _, _ => none
def chainM : Mode → Str → Option Mode
  | .B n m r, x => if n = x then some m else chainM r x
  | _, _ => none
def modeP : Mode → List Sel → Option Mode
  | m, [] => some m
  | .O m, _ :: s => modeP m s
  | .B n m r, .fld _ x :: s => (chainM (.B n m r) x).bind fun q => modeP q s
  | _, _ => none
/-- v' stands at the path s from v -/
def PathV (K : PySem.W.Frag) (H : Hp) : V → List Sel → V → Prop
  | v, [], v' => v = v'
  | v, .ix i :: s, v' => ∃ a xs u, v = .ref a ∧ (H a = some (.lst xs) ∨ H a = some (.tup xs)) ∧ atI xs i = some u ∧ PathV K H u s v'
  | v, .fld k n :: s, v' => ∃ a dx fs u, v = .ref a ∧ H a = some (.ins (He.ga K k) dx fs) ∧ fs.lookup n = some u ∧ PathV K H u s v'
theorem PathV.inj {K : PySem.W.Frag} {H : Hp} : ∀ {s : List Sel} {v u w : V}, PathV K H v s u → PathV K H v s w → u = w
  | [], v, u, w, h1, h2 => h1.symm.trans h2
  | .ix i :: s, v, u, w, h1, h2 => by
    obtain ⟨a, xs, x, rfl, e1, q1, p1⟩ := h1
    obtain ⟨b, ys, y, e, e2, q2, p2⟩ := h2
    cases e
    have z : xs = ys := by
      rcases e1 with e1 | e1 <;> rcases e2 with e2 | e2 <;> (rw [e1] at e2; cases e2) <;> rfl
    subst z
    rw [q1] at q2; cases q2
    exact PathV.inj p1 p2
  | .fld k n :: s, v, u, w, h1, h2 => by
    obtain ⟨a, dx, fs, x, rfl, e1, q1, p1⟩ := h1
    obtain ⟨b, dx', fs', y, e, e2, q2, p2⟩ := h2
    cases e
    rw [e1] at e2; cases e2
    rw [q1] at q2; cases q2
    exact PathV.inj p1 p2
section
variable {K : PySem.W.Frag} {B H : Hp}
/-- what a part in place of another asks and gives: u the part's value, fq its footprint within fp -/
def Plug (K : PySem.W.Frag) (B H : Hp) (mc : Mode) (u : V) (fq fp : List Addr) (P : Hp → D → List Addr → Prop) : Prop :=
  ∀ (H' : Hp) (c' : D) (fq' : List Addr), R K B H' c' mc u fq' → (∀ a ∈ fp, a ∉ fq → ∀ o, H a = some o → H' a = some o) → (fp.Nodup → fq'.Nodup → (∀ a ∈ fq', a ∈ fq ∨ a ∉ fp) → ∃ fp', P H' c' fp' ∧ fp'.Nodup ∧ ∀ a ∈ fp', (a ∈ fp ∧ a ∉ fq) ∨ a ∈ fq')
theorem Rl.focus : ∀ {ds : List D} {m : Mode} {vs : List V} {fp : List Addr} {j : Nat} {c : D}, Rl K B H ds m vs fp → ds[j]? = some c → ∃ u fq, vs[j]? = some u ∧ R K B H c m u fq ∧ (∀ a ∈ fq, a ∈ fp) ∧ (fp.Nodup → fq.Nodup) ∧
    Plug K B H m u fq fp fun H' c' fp' => Rl K B H' (ds.set j c') m vs fp'
  | d :: ds, m, vs, fp, 0, c, h, e => by
    obtain ⟨v, r, fp1, fp2, rfl, h1, h2, rfl⟩ := h
    have z : d = c := by simpa using e
    subst z
    refine ⟨v, fp1, rfl, h1, fun a h => List.mem_append_left _ h, fun n => (nodup_app.mp n).1, fun H' c' fq' r' k n nq dj => ?_⟩
    have n' := nodup_app.mp n
    refine ⟨fq' ++ fp2, ⟨v, r, fq', fp2, rfl, r', h2.mono (Same.refl _) ds fun a h => ⟨fun o e => k a (List.mem_append_right _ h) (fun q => n'.2.2 a q h) o e, (Rl.own ds h2 a h).1⟩, rfl⟩, nodup_app.mpr ⟨nq, n'.2.1, fun x hx hy => ?_⟩, fun a h => ?_⟩
    · rcases dj x hx with q | q
      · exact n'.2.2 x q hy
      · exact q (List.mem_append_right _ hy)
    · rcases List.mem_append.mp h with h | h
      · exact .inr h
      · exact .inl ⟨List.mem_append_right _ h, fun q => n'.2.2 a q h⟩
  | d :: ds, m, vs, fp, j + 1, c, h, e => by
    obtain ⟨v, r, fp1, fp2, rfl, h1, h2, rfl⟩ := h
    obtain ⟨u, fq, q1, q2, q3, q4, q5⟩ := Rl.focus (j := j) h2 (by simpa using e)
    refine ⟨u, fq, by simpa using q1, q2, fun a h => List.mem_append_right _ (q3 a h), fun n => q4 (nodup_app.mp n).2.1, fun H' c' fq' r' k n nq dj => ?_⟩
    have n' := nodup_app.mp n
    obtain ⟨fp', p1, p2, p3⟩ := q5 H' c' fq' r' (fun a h => k a (List.mem_append_right _ h)) n'.2.1 nq fun a h => (dj a h).imp id fun z q => z (List.mem_append_right _ q)
    refine ⟨fp1 ++ fp', ⟨v, r, fp1, fp', rfl, h1.mono (Same.refl _) d fun a h => ⟨fun o e => k a (List.mem_append_left _ h) (fun q => n'.2.2 a h (q3 a q)) o e, (R.own d h1 a h).1⟩, p1, rfl⟩, nodup_app.mpr ⟨n'.1, p2, fun x hx hy => ?_⟩, fun a h => ?_⟩
    · rcases p3 x hy with q | q
      · exact n'.2.2 x hx q.1
      · rcases dj x q with z | z
        · exact n'.2.2 x hx (q3 x z)
        · exact z (List.mem_append_left _ hx)
    · rcases List.mem_append.mp h with h | h
      · exact .inl ⟨List.mem_append_left _ h, fun q => n'.2.2 a h (q3 a q)⟩
      · exact (p3 a h).imp (fun z => ⟨List.mem_append_right _ z.1, z.2⟩) id
  | [], m, vs, fp, j, c, h, e => by simp at e
theorem Rf.focus : ∀ {ns : List Str} {ds : List D} {m mc : Mode} {vs : List V} {fp : List Addr} {j : Nat} {c : D} {n : Str}, Rf K B H ns ds m vs fp → fIx ns n = some j → ds[j]? = some c → chainM m n = some mc → ∃ u fq, vs[j]? = some u ∧ R K B H c mc u fq ∧ (∀ a ∈ fq, a ∈ fp) ∧ (fp.Nodup → fq.Nodup) ∧
    Plug K B H mc u fq fp fun H' c' fp' => Rf K B H' ns (ds.set j c') m vs fp'
  | x :: ns, d :: ds, m, mc, vs, fp, j, c, n, h, ej, e, em => by
    cases m with
    | B n0 m0 r0 =>
      obtain ⟨rfl, v, r, fp1, fp2, rfl, h1, h2, rfl⟩ := h
      have ej' : (if x = n then some 0 else (fIx ns n).map (· + 1)) = some j := ej
      have em' : (if x = n then some m0 else chainM r0 n) = some mc := em
      by_cases hx : x = n
      · rw [if_pos hx] at ej' em'
        cases ej'; cases em'
        have z : d = c := by simpa using e
        subst z
        refine ⟨v, fp1, rfl, h1, fun a h => List.mem_append_left _ h, fun n => (nodup_app.mp n).1, fun H' c' fq' r' k n nq dj => ?_⟩
        have n' := nodup_app.mp n
        refine ⟨fq' ++ fp2, ⟨rfl, v, r, fq', fp2, rfl, r', h2.mono (Same.refl _) ns ds fun a h => ⟨fun o e => k a (List.mem_append_right _ h) (fun q => n'.2.2 a q h) o e, (Rf.own ns ds h2 a h).1⟩, rfl⟩, nodup_app.mpr ⟨nq, n'.2.1, fun x hx hy => ?_⟩, fun a h => ?_⟩
        · rcases dj x hx with q | q
          · exact n'.2.2 x q hy
          · exact q (List.mem_append_right _ hy)
        · rcases List.mem_append.mp h with h | h
          · exact .inr h
          · exact .inl ⟨List.mem_append_right _ h, fun q => n'.2.2 a q h⟩
      · rw [if_neg hx] at ej' em'
        cases ef : fIx ns n with
        | none => rw [ef] at ej'; cases ej'
        | some i =>
          rw [ef] at ej'
          cases ej'
          obtain ⟨u, fq, q1, q2, q3, q4, q5⟩ := Rf.focus (j := i) h2 ef (by simpa using e) em'
          refine ⟨u, fq, by simpa using q1, q2, fun a h => List.mem_append_right _ (q3 a h), fun n => q4 (nodup_app.mp n).2.1, fun H' c' fq' r' k n nq dj => ?_⟩
          have n' := nodup_app.mp n
          obtain ⟨fp', p1, p2, p3⟩ := q5 H' c' fq' r' (fun a h => k a (List.mem_append_right _ h)) n'.2.1 nq fun a h => (dj a h).imp id fun z q => z (List.mem_append_right _ q)
          refine ⟨fp1 ++ fp', ⟨rfl, v, r, fp1, fp', rfl, h1.mono (Same.refl _) d fun a h => ⟨fun o e => k a (List.mem_append_left _ h) (fun q => n'.2.2 a h (q3 a q)) o e, (R.own d h1 a h).1⟩, p1, rfl⟩, nodup_app.mpr ⟨n'.1, p2, fun x hx hy => ?_⟩, fun a h => ?_⟩
          · rcases p3 x hy with q | q
            · exact n'.2.2 x hx q.1
            · rcases dj x q with z | z
              · exact n'.2.2 x hx (q3 x z)
              · exact z (List.mem_append_left _ hx)
          · rcases List.mem_append.mp h with h | h
            · exact .inl ⟨List.mem_append_left _ h, fun q => n'.2.2 a h (q3 a q)⟩
            · exact (p3 a h).imp (fun z => ⟨List.mem_append_right _ z.1, z.2⟩) id
    | _ => exact h.elim
  | [], [], _, _, _, _, _, _, _, h, ej, e, _ => by cases ej
  | [], _ :: _, _, _, _, _, _, _, _, h, _, _, _ => h.elim
  | _ :: _, [], _, _, _, _, _, _, _, h, _, _, _ => h.elim
theorem zip_lookup : ∀ {ns : List Str} {vs : List V} {n : Str} {j : Nat} {u : V}, fIx ns n = some j → vs[j]? = some u → (ns.zip vs).lookup n = some u
  | x :: ns, v :: vs, n, j, u, ej, e => by
    have ej' : (if x = n then some 0 else (fIx ns n).map (· + 1)) = some j := ej
    rw [List.zip_cons_cons, List.lookup_cons]
    by_cases hx : x = n
    · rw [if_pos hx] at ej'
      cases ej'
      have : (n == x) = true := by rw [hx]; exact beq_self_eq_true n
      rw [this]
      simpa using e
    · rw [if_neg hx] at ej'
      have : (n == x) = false := beq_eq_false_iff_ne.mpr fun z => hx z.symm
      rw [this]
      cases ef : fIx ns n with
      | none => rw [ef] at ej'; cases ej'
      | some i =>
        rw [ef] at ej'
        cases ej'
        exact zip_lookup ef (by simpa using e)
  | [], _, _, _, _, ej, _ => by cases ej
  | _ :: _, [], _, _, _, _, e => by simp at e
/-- a place: where it is, what stands there, what another datum there makes of the whole -/
theorem R.path : ∀ {s : List Sel} {d c : D} {m mc : Mode} {v : V} {fp : List Addr}, R K B H d m v fp → getP d s = some c → modeP m s = some mc → ∃ u fq, PathV K H v s u ∧ R K B H c mc u fq ∧ (∀ a ∈ fq, a ∈ fp) ∧ (fp.Nodup → fq.Nodup) ∧
    (∀ c', ∃ d', setP d s c' = some d') ∧ Plug K B H mc u fq fp fun H' c' fp' => ∃ d', setP d s c' = some d' ∧ R K B H' d' m v fp'
  | [], d, c, m, mc, v, fp, h, e, em => by
    cases e; cases em
    exact ⟨v, fp, rfl, h, fun a h => h, fun n => n, fun c' => ⟨c', rfl⟩, fun H' c' fq' r' k n nq dj => ⟨fq', ⟨c', rfl, r'⟩, nq, fun a h => .inr h⟩⟩
  | .ix i :: s, d, c, m, mc, v, fp, h, e, em => by
    cases m with
    | O m =>
      cases d with
      | lst ds =>
        obtain ⟨a, vs, fq0, rfl, b0, ha, hl, hr, rfl⟩ := h
        have e' : (atI ds i).bind (fun c => getP c s) = some c := e
        cases q : ixN ds.length i with
        | none => unfold atI at e'; rw [q] at e'; cases e'
        | some j =>
          unfold atI at e'; rw [q] at e'
          have e2 : (ds[j]?).bind (fun c => getP c s) = some c := e'
          cases qc : ds[j]? with
          | none => rw [qc] at e2; cases e2
          | some c0 =>
            rw [qc] at e2
            obtain ⟨w, fw, p1, p2, p3, p4, p5⟩ := hr.focus qc
            obtain ⟨u, fq, r1, r2, r3, r4, r6, r5⟩ := R.path (s := s) p2 e2 em
            refine ⟨u, fq, ⟨a, vs, w, rfl, .inl ha, by unfold atI; rw [hr.len, q]; exact p1, r1⟩, r2, fun a h => List.mem_cons_of_mem _ (p3 a (r3 a h)), fun n => r4 (p4 (List.nodup_cons.mp n).2), fun c' => ?_, fun H' c' fq' r' k n nq dj => ?_⟩
            · obtain ⟨d', h'⟩ := r6 c'
              exact ⟨.lst (ds.set j d'), by simp only [setP, q, qc, h', Option.bind_some, Option.map_some]⟩
            · have nc := List.nodup_cons.mp n
              have nw := p4 nc.2
              obtain ⟨f2, ⟨c2, s2, rc2⟩, n2, m2⟩ := r5 H' c' fq' r' (fun x hx => k x (List.mem_cons_of_mem _ (p3 x hx))) nw nq fun x hx => (dj x hx).imp id fun z y => z (List.mem_cons_of_mem _ (p3 x y))
              have dj2 : ∀ x ∈ f2, x ∈ fw ∨ x ∉ fq0 := fun x hx => by
                rcases m2 x hx with z | z
                · exact .inl z.1
                · rcases dj x z with y | y
                  · exact .inl (r3 x y)
                  · exact .inr fun w => y (List.mem_cons_of_mem _ w)
              obtain ⟨f3, t1, t2, t3⟩ := p5 H' c2 f2 rc2 (fun x hx hn => k x (List.mem_cons_of_mem _ hx) fun z => hn (r3 x z)) nc.2 n2 dj2
              have naf : a ∉ fq := fun z => nc.1 (p3 a (r3 a z))
              refine ⟨a :: f3, ⟨.lst (ds.set j c2), by simp only [setP, q, qc, s2, Option.bind_some, Option.map_some], a, vs, f3, rfl, b0, k a List.mem_cons_self naf _ ha, by rw [List.length_set]; exact hl, t1, rfl⟩, List.nodup_cons.mpr ⟨fun z => ?_, t2⟩, fun x hx => ?_⟩
              · rcases t3 a z with y | y
                · exact nc.1 y.1
                · rcases m2 a y with w | w
                  · exact nc.1 (p3 a w.1)
                  · rcases dj a w with y | y
                    · exact naf y
                    · exact y List.mem_cons_self
              · rcases List.mem_cons.mp hx with rfl | hx
                · exact .inl ⟨List.mem_cons_self, naf⟩
                · rcases t3 x hx with y | y
                  · exact .inl ⟨List.mem_cons_of_mem _ y.1, fun z => y.2 (r3 x z)⟩
                  · rcases m2 x y with w | w
                    · exact .inl ⟨List.mem_cons_of_mem _ (p3 x w.1), w.2⟩
                    · exact .inr w
      | tup ds =>
        obtain ⟨a, vs, fq0, rfl, b0, ha, hl, hr, rfl⟩ := h
        have e' : (atI ds i).bind (fun c => getP c s) = some c := e
        cases q : ixN ds.length i with
        | none => unfold atI at e'; rw [q] at e'; cases e'
        | some j =>
          unfold atI at e'; rw [q] at e'
          have e2 : (ds[j]?).bind (fun c => getP c s) = some c := e'
          cases qc : ds[j]? with
          | none => rw [qc] at e2; cases e2
          | some c0 =>
            rw [qc] at e2
            obtain ⟨w, fw, p1, p2, p3, p4, p5⟩ := hr.focus qc
            obtain ⟨u, fq, r1, r2, r3, r4, r6, r5⟩ := R.path (s := s) p2 e2 em
            refine ⟨u, fq, ⟨a, vs, w, rfl, .inr ha, by unfold atI; rw [hr.len, q]; exact p1, r1⟩, r2, fun a h => List.mem_cons_of_mem _ (p3 a (r3 a h)), fun n => r4 (p4 (List.nodup_cons.mp n).2), fun c' => ?_, fun H' c' fq' r' k n nq dj => ?_⟩
            · obtain ⟨d', h'⟩ := r6 c'
              exact ⟨.tup (ds.set j d'), by simp only [setP, q, qc, h', Option.bind_some, Option.map_some]⟩
            · have nc := List.nodup_cons.mp n
              have nw := p4 nc.2
              obtain ⟨f2, ⟨c2, s2, rc2⟩, n2, m2⟩ := r5 H' c' fq' r' (fun x hx => k x (List.mem_cons_of_mem _ (p3 x hx))) nw nq fun x hx => (dj x hx).imp id fun z y => z (List.mem_cons_of_mem _ (p3 x y))
              have dj2 : ∀ x ∈ f2, x ∈ fw ∨ x ∉ fq0 := fun x hx => by
                rcases m2 x hx with z | z
                · exact .inl z.1
                · rcases dj x z with y | y
                  · exact .inl (r3 x y)
                  · exact .inr fun w => y (List.mem_cons_of_mem _ w)
              obtain ⟨f3, t1, t2, t3⟩ := p5 H' c2 f2 rc2 (fun x hx hn => k x (List.mem_cons_of_mem _ hx) fun z => hn (r3 x z)) nc.2 n2 dj2
              have naf : a ∉ fq := fun z => nc.1 (p3 a (r3 a z))
              refine ⟨a :: f3, ⟨.tup (ds.set j c2), by simp only [setP, q, qc, s2, Option.bind_some, Option.map_some], a, vs, f3, rfl, b0, k a List.mem_cons_self naf _ ha, by rw [List.length_set]; exact hl, t1, rfl⟩, List.nodup_cons.mpr ⟨fun z => ?_, t2⟩, fun x hx => ?_⟩
              · rcases t3 a z with y | y
                · exact nc.1 y.1
                · rcases m2 a y with w | w
                  · exact nc.1 (p3 a w.1)
                  · rcases dj a w with y | y
                    · exact naf y
                    · exact y List.mem_cons_self
              · rcases List.mem_cons.mp hx with rfl | hx
                · exact .inl ⟨List.mem_cons_self, naf⟩
                · rcases t3 x hx with y | y
                  · exact .inl ⟨List.mem_cons_of_mem _ y.1, fun z => y.2 (r3 x z)⟩
                  · rcases m2 x y with w | w
                    · exact .inl ⟨List.mem_cons_of_mem _ (p3 x w.1), w.2⟩
                    · exact .inr w
      | _ => cases e
    | _ => cases em
  | .fld k' n :: s, d, c, m, mc, v, fp, h, e, em => by
    cases d with
    | obj k0 ns ds =>
      have e0 : (if k0 = k' then ((fIx ns n).bind fun j => ds[j]?).bind (fun c => getP c s) else none) = some c := e
      by_cases hk0 : k0 = k'
      case neg => rw [if_neg hk0] at e0; cases e0
      subst hk0
      rw [if_pos rfl] at e0
      have e' : ((fIx ns n).bind fun j => ds[j]?).bind (fun c => getP c s) = some c := e0
      cases q : fIx ns n with
      | none => rw [q] at e'; cases e'
      | some j =>
        rw [q] at e'
        have e2 : (ds[j]?).bind (fun c => getP c s) = some c := e'
        cases qc : ds[j]? with
        | none => rw [qc] at e2; cases e2
        | some c0 =>
          rw [qc] at e2
          cases m with
          | O m =>
            obtain ⟨a, dx, vs, fq0, rfl, b0, b1, ha, hx, hl, hr, rfl⟩ := h
            obtain ⟨w, fw, p1, p2, p3, p4, p5⟩ := hr.focus qc
            obtain ⟨u, fq, r1, r2, r3, r4, r6, r5⟩ := R.path (s := s) p2 e2 em
            refine ⟨u, fq, ⟨a, dx, _, w, rfl, ha, zip_lookup q p1, r1⟩, r2, fun a h => List.mem_cons_of_mem _ (List.mem_cons_of_mem _ (p3 a (r3 a h))), fun n => r4 (p4 (List.nodup_cons.mp (List.nodup_cons.mp n).2).2), fun c' => ?_, fun H' c' fq' r' k n nq dj => ?_⟩
            · obtain ⟨d', h'⟩ := r6 c'
              exact ⟨.obj k0 ns (ds.set j d'), by simp only [setP, q, qc, h', Option.bind_some, Option.map_some]⟩
            · have nc := List.nodup_cons.mp n
              have nc2 := List.nodup_cons.mp nc.2
              have nw := p4 nc2.2
              have up : ∀ x, x ∈ fq0 → x ∈ a :: dx :: fq0 := fun x hx => List.mem_cons_of_mem _ (List.mem_cons_of_mem _ hx)
              obtain ⟨f2, ⟨c2, s2, rc2⟩, n2, m2⟩ := r5 H' c' fq' r' (fun x hx => k x (up x (p3 x hx))) nw nq fun x hx => (dj x hx).imp id fun z y => z (up x (p3 x y))
              have dj2 : ∀ x ∈ f2, x ∈ fw ∨ x ∉ fq0 := fun x hx => by
                rcases m2 x hx with z | z
                · exact .inl z.1
                · rcases dj x z with y | y
                  · exact .inl (r3 x y)
                  · exact .inr fun w => y (up x w)
              obtain ⟨f3, t1, t2, t3⟩ := p5 H' c2 f2 rc2 (fun x hx hn => k x (up x hx) fun z => hn (r3 x z)) nc2.2 n2 dj2
              have out : ∀ y, y ∉ fq0 → y ∈ a :: dx :: fq0 → y ∉ f3 := fun y hy hm z => by
                rcases t3 y z with w | w
                · exact hy w.1
                · rcases m2 y w with w | w
                  · exact hy (p3 y w.1)
                  · rcases dj y w with w | w
                    · exact hy (p3 y (r3 y w))
                    · exact w hm
              have naf : a ∉ fq := fun z => nc.1 (List.mem_cons_of_mem _ (p3 a (r3 a z)))
              have ndf : dx ∉ fq := fun z => nc2.1 (p3 dx (r3 dx z))
              refine ⟨a :: dx :: f3, ⟨.obj k0 ns (ds.set j c2), by simp only [setP, q, qc, s2, Option.bind_some, Option.map_some], a, dx, vs, f3, rfl, b0, b1, k a List.mem_cons_self naf _ ha, k dx (List.mem_cons_of_mem _ List.mem_cons_self) ndf _ hx, by rw [List.length_set]; exact hl, t1, rfl⟩, List.nodup_cons.mpr ⟨fun z => ?_, List.nodup_cons.mpr ⟨out dx nc2.1 (List.mem_cons_of_mem _ List.mem_cons_self), t2⟩⟩, fun x hx => ?_⟩
              · rcases List.mem_cons.mp z with rfl | z
                · exact nc.1 List.mem_cons_self
                · exact out a (fun w => nc.1 (List.mem_cons_of_mem _ w)) List.mem_cons_self z
              · rcases List.mem_cons.mp hx with rfl | hx
                · exact .inl ⟨List.mem_cons_self, naf⟩
                rcases List.mem_cons.mp hx with rfl | hx
                · exact .inl ⟨List.mem_cons_of_mem _ List.mem_cons_self, ndf⟩
                · rcases t3 x hx with y | y
                  · exact .inl ⟨up x y.1, fun z => y.2 (r3 x z)⟩
                  · rcases m2 x y with w | w
                    · exact .inl ⟨up x (p3 x w.1), w.2⟩
                    · exact .inr w
          | B n0 m0 r0 =>
            obtain ⟨a, dx, vs, fq0, rfl, b0, b1, ha, hx, hl, hr, rfl⟩ := h
            have em' : (chainM (.B n0 m0 r0) n).bind (fun q => modeP q s) = some mc := em
            cases qm : chainM (.B n0 m0 r0) n with
            | none => rw [qm] at em'; cases em'
            | some mq =>
              rw [qm] at em'
              obtain ⟨w, fw, p1, p2, p3, p4, p5⟩ := hr.focus q qc qm
              obtain ⟨u, fq, r1, r2, r3, r4, r6, r5⟩ := R.path (s := s) p2 e2 em'
              refine ⟨u, fq, ⟨a, dx, _, w, rfl, ha, zip_lookup q p1, r1⟩, r2, fun a h => List.mem_cons_of_mem _ (List.mem_cons_of_mem _ (p3 a (r3 a h))), fun n => r4 (p4 (List.nodup_cons.mp (List.nodup_cons.mp n).2).2), fun c' => ?_, fun H' c' fq' r' k n nq dj => ?_⟩
              · obtain ⟨d', h'⟩ := r6 c'
                exact ⟨.obj k0 ns (ds.set j d'), by simp only [setP, q, qc, h', Option.bind_some, Option.map_some]⟩
              · have nc := List.nodup_cons.mp n
                have nc2 := List.nodup_cons.mp nc.2
                have nw := p4 nc2.2
                have up : ∀ x, x ∈ fq0 → x ∈ a :: dx :: fq0 := fun x hx => List.mem_cons_of_mem _ (List.mem_cons_of_mem _ hx)
                obtain ⟨f2, ⟨c2, s2, rc2⟩, n2, m2⟩ := r5 H' c' fq' r' (fun x hx => k x (up x (p3 x hx))) nw nq fun x hx => (dj x hx).imp id fun z y => z (up x (p3 x y))
                have dj2 : ∀ x ∈ f2, x ∈ fw ∨ x ∉ fq0 := fun x hx => by
                  rcases m2 x hx with z | z
                  · exact .inl z.1
                  · rcases dj x z with y | y
                    · exact .inl (r3 x y)
                    · exact .inr fun w => y (up x w)
                obtain ⟨f3, t1, t2, t3⟩ := p5 H' c2 f2 rc2 (fun x hx hn => k x (up x hx) fun z => hn (r3 x z)) nc2.2 n2 dj2
                have out : ∀ y, y ∉ fq0 → y ∈ a :: dx :: fq0 → y ∉ f3 := fun y hy hm z => by
                  rcases t3 y z with w | w
                  · exact hy w.1
                  · rcases m2 y w with w | w
                    · exact hy (p3 y w.1)
                    · rcases dj y w with w | w
                      · exact hy (p3 y (r3 y w))
                      · exact w hm
                have naf : a ∉ fq := fun z => nc.1 (List.mem_cons_of_mem _ (p3 a (r3 a z)))
                have ndf : dx ∉ fq := fun z => nc2.1 (p3 dx (r3 dx z))
                refine ⟨a :: dx :: f3, ⟨.obj k0 ns (ds.set j c2), by simp only [setP, q, qc, s2, Option.bind_some, Option.map_some], a, dx, vs, f3, rfl, b0, b1, k a List.mem_cons_self naf _ ha, k dx (List.mem_cons_of_mem _ List.mem_cons_self) ndf _ hx, by rw [List.length_set]; exact hl, t1, rfl⟩, List.nodup_cons.mpr ⟨fun z => ?_, List.nodup_cons.mpr ⟨out dx nc2.1 (List.mem_cons_of_mem _ List.mem_cons_self), t2⟩⟩, fun x hx => ?_⟩
                · rcases List.mem_cons.mp z with rfl | z
                  · exact nc.1 List.mem_cons_self
                  · exact out a (fun w => nc.1 (List.mem_cons_of_mem _ w)) List.mem_cons_self z
                · rcases List.mem_cons.mp hx with rfl | hx
                  · exact .inl ⟨List.mem_cons_self, naf⟩
                  rcases List.mem_cons.mp hx with rfl | hx
                  · exact .inl ⟨List.mem_cons_of_mem _ List.mem_cons_self, ndf⟩
                  · rcases t3 x hx with y | y
                    · exact .inl ⟨up x y.1, fun z => y.2 (r3 x z)⟩
                    · rcases m2 x y with w | w
                      · exact .inl ⟨up x (p3 x w.1), w.2⟩
                      · exact .inr w
          | _ => cases em
    | _ => cases e
end
end EV

/-! EvK: stores at places; append, pop; zip, enumerate; the rule for a def. -/
namespace EV
open PySem PySem.Spec L2

/-! ### indices that change nothing -/
def tPx (K : PySem.W.Frag) (μ : List Mode) (p : Gam → Option Int) : TE := fun σ H Q => ∃ B Γ fp, Sta K B H Γ μ σ fp ∧ ∃ j, p Γ = some j ∧ Q (.int j) H
structure DPx (X : Cx) (μ : List Mode) (e : Expr) (p : Gam → Option Int) : Prop where
  pe : PE X e (tPx X.K μ p)
def pxC (i : Int) (_ : Gam) : Option Int := some i
def pxV (i : Nat) (Γ : Gam) : Option Int := match getG Γ i with
  | some (.int j) => some j
  | _ => none
def px2 (g : Int → Int → Int) (p q : Gam → Option Int) (Γ : Gam) : Option Int := (p Γ).bind fun i => (q Γ).map fun j => g i j
/-- a place: the slot i, a path by the state -/
def tPl (K : PySem.W.Frag) (μ : List Mode) (i : Nat) (g : Gam → Option (List Sel)) : TE := fun σ H Q => ∃ B Γ fp v s u, Sta K B H Γ μ σ fp ∧ g Γ = some s ∧ σ[i]? = some (some v) ∧ PathV K H v s u ∧ Q u H
structure DPl (X : Cx) (μ : List Mode) (e : Expr) (i : Nat) (g : Gam → Option (List Sel)) : Prop where
  pe : PE X e (tPl X.K μ i g)
def plN (_ : Gam) : Option (List Sel) := some []
def plI (g : Gam → Option (List Sel)) (p : Gam → Option Int) (Γ : Gam) : Option (List Sel) := (g Γ).bind fun s => (p Γ).map fun j => s ++ [.ix j]
def plF (g : Gam → Option (List Sel)) (k n : Str) (Γ : Gam) : Option (List Sel) := (g Γ).map fun s => s ++ [.fld k n]
theorem PathV.split {K : PySem.W.Frag} {H : Hp} : ∀ {s t : List Sel} {v u : V}, PathV K H v (s ++ t) u → ∃ w, PathV K H v s w ∧ PathV K H w t u
  | [], t, v, u, h => ⟨v, rfl, h⟩
  | .ix i :: s, t, v, u, h => by
    obtain ⟨a, xs, x, rfl, e, q, p⟩ := h
    obtain ⟨w, h1, h2⟩ := PathV.split p
    exact ⟨w, ⟨a, xs, x, rfl, e, q, h1⟩, h2⟩
  | .fld k n :: s, t, v, u, h => by
    obtain ⟨a, dx, fs, x, rfl, e, q, p⟩ := h
    obtain ⟨w, h1, h2⟩ := PathV.split p
    exact ⟨w, ⟨a, dx, fs, x, rfl, e, q, h1⟩, h2⟩
section
variable {X : Cx} {w : Wh} {z : Ws} {μ μ' μ1 μ2 : List Mode} {e a b c o : Expr} {es : List Expr} {f f' : Gam → Rz D} {m m' m1 m2 : Mode} {pos : Pos} {i : Nat} {x : Str} {g : Gam → Option (List Sel)} {p q : Gam → Option Int}
theorem DPx.int {j : Int} {k : Nat} : DPx X μ (.Constant (.int j) k pos) (pxC j) := ⟨pe_int.imp fun σ H Q ⟨B, Γ, fp, st, k, e, q⟩ => by cases e; exact q⟩
theorem DPx.neg {j : Int} {k : Nat} {p2 : Pos} : DPx X μ (.UnaryOp .USub (.Constant (.int j) k p2) pos) (pxC (-j)) := ⟨(pe_un un_neg pe_int).imp fun σ H Q ⟨B, Γ, fp, st, k, e, q⟩ => by cases e; exact ⟨j, rfl, q⟩⟩
theorem DPx.var (hN : X.N[i]? = some x) (hv : Vis X.env.scope x) (hd : (x == ("__debug__" : Str)) = false) (hcd : (x == ("__classdict__" : Str)) = false) (hm : ∃ m, μ[i]? = some m ∧ m ≠ .X) : DPx X μ (.Name x pos) (pxV i) := by
  refine ⟨(pe_var hN hv hd hcd).imp fun σ H Q ⟨B, Γ, fp, st, j, e, q⟩ => ?_⟩
  unfold pxV at e
  obtain ⟨m, em, hx⟩ := hm
  cases eg : getG Γ i with
  | none => rw [eg] at e; cases e
  | some d =>
    rw [eg] at e
    obtain ⟨v, fp1, fp2, h1, h2, h3, h4, h5⟩ := StR.take (m0 := .U) st.st (getG_some eg) em hx
    cases d with
    | int k =>
      cases e
      obtain ⟨rfl, _⟩ := h2
      exact ⟨_, h1, q⟩
    | _ => cases e
theorem DPx.add (h1 : DPx X μ a p) (h2 : DPx X μ b q) : DPx X μ (.BinOp a .Add b pos) (px2 (· + ·) p q) := ⟨(pe_op op_add h1.pe h2.pe).imp fun σ H Q ⟨B, Γ, fp, st, k, e, r⟩ => by
  unfold px2 at e
  cases e1 : p Γ with
  | none => rw [e1] at e; cases e
  | some i =>
    rw [e1] at e
    have e' : (q Γ).map (fun j => i + j) = some k := e
    cases e2 : q Γ with
    | none => rw [e2] at e'; cases e'
    | some j =>
      rw [e2] at e'; cases e'
      exact ⟨B, Γ, fp, st, i, e1, B, Γ, fp, st, j, e2, i, j, rfl, rfl, r⟩⟩
theorem DPx.sub (h1 : DPx X μ a p) (h2 : DPx X μ b q) : DPx X μ (.BinOp a .Sub b pos) (px2 (· - ·) p q) := ⟨(pe_op op_sub h1.pe h2.pe).imp fun σ H Q ⟨B, Γ, fp, st, k, e, r⟩ => by
  unfold px2 at e
  cases e1 : p Γ with
  | none => rw [e1] at e; cases e
  | some i =>
    rw [e1] at e
    have e' : (q Γ).map (fun j => i - j) = some k := e
    cases e2 : q Γ with
    | none => rw [e2] at e'; cases e'
    | some j =>
      rw [e2] at e'; cases e'
      exact ⟨B, Γ, fp, st, i, e1, B, Γ, fp, st, j, e2, i, j, rfl, rfl, r⟩⟩
theorem DPl.name (hN : X.N[i]? = some x) (hv : Vis X.env.scope x) (hd : (x == ("__debug__" : Str)) = false) (hcd : (x == ("__classdict__" : Str)) = false) : DPl X μ (.Name x pos) i plN :=
  ⟨(pe_var hN hv hd hcd).imp fun σ H Q ⟨B, Γ, fp, v, s, u, st, e, hv, hp, q⟩ => by
    cases e
    have z : v = u := hp
    subst z
    exact ⟨v, hv, q⟩⟩
theorem DPl.ix (h : DPl X μ o i g) (hi : DPx X μ b p) (hs : PlainIx b) : DPl X μ (.Subscript o b pos) i (plI g p) :=
  ⟨(pe_ix ix_seq h.pe hi.pe hs).imp fun σ H Q ⟨B, Γ, fp, v, s, u, st, e, hv, hp, q⟩ => by
    unfold plI at e
    cases e1 : g Γ with
    | none => rw [e1] at e; cases e
    | some s0 =>
      rw [e1] at e
      have e' : (p Γ).map (fun j => s0 ++ [.ix j]) = some s := e
      cases e2 : p Γ with
      | none => rw [e2] at e'; cases e'
      | some j =>
        rw [e2] at e'; cases e'
        obtain ⟨w, p1, a, xs, y, rfl, hk, hy, p2⟩ := hp.split
        have z : y = u := p2
        subst z
        refine ⟨B, Γ, fp, v, s0, .ref a, st, e1, hv, p1, B, Γ, fp, st, j, e2, ?_⟩
        rcases hk with hk | hk
        · exact .inl ⟨a, xs, j, y, rfl, rfl, SqL.of hk, hy, q⟩
        · exact .inr (.inl ⟨a, xs, j, y, rfl, rfl, SqT.of hk, hy, q⟩)⟩
theorem DPl.fld {k n : Str} (h : DPl X μ o i g) (hc : Cls X.K (He.ga X.K k)) (hn : NoAttr X.K (He.ga X.K k) n) (hb : attributeBase o n X.env (eval o X.env) = eval o X.env) : DPl X μ (.Attribute o n pos) i (plF g k n) :=
  ⟨(pe_fld h.pe hb).imp fun σ H Q ⟨B, Γ, fp, v, s, u, st, e, hv, hp, q⟩ => by
    unfold plF at e
    cases e1 : g Γ with
    | none => rw [e1] at e; cases e
    | some s0 =>
      rw [e1] at e; cases e
      obtain ⟨w, p1, a, dx, fs, y, rfl, hk, hy, p2⟩ := hp.split
      have z : y = u := p2
      subst z
      exact ⟨B, Γ, fp, v, s0, .ref a, st, e1, hv, p1, a, _, dx, fs, y, rfl, hk, hc, hn, hy, q⟩⟩
/-! ### a list at a place -/
theorem Rl.setAt {K : PySem.W.Frag} {B H : Hp} : ∀ {ds : List D} {m : Mode} {vs : List V} {fp : List Addr} {j : Nat} {d : D} {v : V} {fd : List Addr}, Rl K B H ds m vs fp → j < ds.length → R K B H d m v fd → ∃ fp', Rl K B H (ds.set j d) m (vs.set j v) fp' ∧ ((fd ++ fp).Nodup → fp'.Nodup) ∧ ∀ a ∈ fp', a ∈ fd ++ fp
  | d0 :: ds, m, vs, fp, 0, d, v, fd, h, hj, r => by
    obtain ⟨v0, r0, fp1, fp2, rfl, h1, h2, rfl⟩ := h
    refine ⟨fd ++ fp2, ⟨v, r0, fd, fp2, rfl, r, h2, rfl⟩, fun nd => ?_, fun a ha => ?_⟩
    · rw [nodup_app, nodup_app] at nd
      rw [nodup_app]
      exact ⟨nd.1, nd.2.1.2.1, fun x hx hb => nd.2.2 x hx (List.mem_append_right _ hb)⟩
    · rcases List.mem_append.mp ha with ha | ha
      · exact List.mem_append_left _ ha
      · exact List.mem_append_right _ (List.mem_append_right _ ha)
  | d0 :: ds, m, vs, fp, j + 1, d, v, fd, h, hj, r => by
    obtain ⟨v0, r0, fp1, fp2, rfl, h1, h2, rfl⟩ := h
    obtain ⟨fp', q1, q2, q3⟩ := Rl.setAt (j := j) h2 (Nat.lt_of_succ_lt_succ hj) r
    refine ⟨fp1 ++ fp', ⟨v0, r0.set j v, fp1, fp', rfl, h1, q1, rfl⟩, fun nd => ?_, fun a ha => ?_⟩
    · rw [nodup_app, nodup_app] at nd
      rw [nodup_app]
      refine ⟨nd.2.1.1, q2 (nodup_app.mpr ⟨nd.1, nd.2.1.2.1, fun x hx hb => nd.2.2 x hx (List.mem_append_right _ hb)⟩), fun x hx hb => ?_⟩
      rcases List.mem_append.mp (q3 x hb) with hb | hb
      · exact nd.2.2 x hb (List.mem_append_left _ hx)
      · exact nd.2.1.2.2 x hx hb
    · rcases List.mem_append.mp ha with ha | ha
      · exact List.mem_append_right _ (List.mem_append_left _ ha)
      · rcases List.mem_append.mp (q3 a ha) with ha | ha
        · exact List.mem_append_left _ ha
        · exact List.mem_append_right _ (List.mem_append_right _ ha)
/-- a list that a slot owns, at a path: what it is, and what another content of it makes of the state -/
theorem node_lst {K : PySem.W.Frag} {B H : Hp} {Γ : Gam} {σ : St} {fp fpv : List Addr} {d : D} {ds : List D} {mi mc : Mode} {s : List Sel} (st : Sta K B H Γ μ σ fp) (nd : (fpv ++ fp).Nodup) (ow : ∀ a ∈ fpv, B a = none ∧ ∃ o, H a = some o) (eg : getG Γ i = some d) (em : μ[i]? = some mi) (hx : mi ≠ .X) (hp : getP d s = some (.lst ds)) (hm : modeP mi s = some (.O mc)) :
    ∃ v a vs fq, σ[i]? = some (some v) ∧ PathV K H v s (.ref a) ∧ H a = some (.lst vs) ∧ B a = none ∧ Rl K B H ds mc vs fq ∧ fq.Nodup ∧ a ∉ fq ∧ (∀ x ∈ fq, x ∈ fp) ∧ a ∈ fp ∧
      ∀ vs' ds' fq' fpr, Rl K B (upd H a (.lst vs')) ds' mc vs' fq' → ds'.length ≤ sizeLine → (fq' ++ fpr).Nodup → (∀ x ∈ fq' ++ fpr, x ∈ fq ∨ x ∈ fpv) →
        ∃ d' fp', setP d s (.lst ds') = some d' ∧ Stp B H (fpv ++ fp) B (upd H a (.lst vs')) (fpr ++ fp') ∧ Sta K B (upd H a (.lst vs')) (Γ.set i (some d')) μ σ fp' ∧ (fpr ++ fp').Nodup := by
  obtain ⟨v, fi, fr, h1, h2, h3, h4, h5⟩ := StR.take (m0 := .U) st.st (getG_some eg) em hx
  have n := nodup_app.mp nd
  have nir := nodup_app.mp (h4 n.2.1)
  obtain ⟨u, fc, p1, p2, p3, p4, p5, p6⟩ := R.path h2 hp hm
  obtain ⟨a, vs, fq, rfl, b0, ha, hl, hr, rfl⟩ := p2
  have nc := List.nodup_cons.mp (p4 nir.1)
  refine ⟨v, a, vs, fq, h1, p1, ha, b0, hr, nc.2, nc.1, fun x hx => (h5 x).mp (List.mem_append_left _ (p3 x (List.mem_cons_of_mem _ hx))), (h5 a).mp (List.mem_append_left _ (p3 a List.mem_cons_self)), fun vs' ds' fq' fpr r' hl' nq dj => ?_⟩
  have nqr := nodup_app.mp nq
  have inH : ∀ x ∈ a :: fq, ∃ o, H x = some o := fun x hx => by
    rcases List.mem_cons.mp hx with rfl | hx
    · exact ⟨_, ha⟩
    · exact (Rl.own ds hr x hx).2
  have naq : ∀ x, x ∈ fq' ++ fpr → x ≠ a := fun x hx e => by
    subst e
    rcases dj x hx with q | q
    · exact nc.1 q
    · exact n.2.2 x q ((h5 x).mp (List.mem_append_left _ (p3 x List.mem_cons_self)))
  have djfi : ∀ x ∈ fpv, x ∉ fi := fun x hx q => n.2.2 x hx ((h5 x).mp (List.mem_append_left _ q))
  obtain ⟨fi', ⟨d', sd, rd⟩, n', m'⟩ := p6 (upd H a (.lst vs')) (.lst ds') (a :: fq') ⟨a, vs', fq', rfl, b0, upd_same, hl', r', rfl⟩
    (fun x hx hn o e => by rw [upd_ne (fun q : x = a => hn (by rw [q]; exact List.mem_cons_self))]; exact e) nir.1 (List.nodup_cons.mpr ⟨fun q => naq a (List.mem_append_left _ q) rfl, nqr.1⟩)
    (fun x hx => by
      rcases List.mem_cons.mp hx with rfl | hx
      · exact .inl List.mem_cons_self
      · rcases dj x (List.mem_append_left _ hx) with q | q
        · exact .inl (List.mem_cons_of_mem _ q)
        · exact .inr (djfi x q))
  -- the rest of the state
  have anr : a ∉ fr := nir.2.2 a (p3 a List.mem_cons_self)
  have s3 : StR K B (upd H a (.lst vs')) (Γ.set i none) (μ.set i .U) σ fr := h3.mono (Same.refl _) (upd_kept (fun x hx => (h3.own x hx).1) anr)
  obtain ⟨fp', q1, q2, q3⟩ := s3.putO h1 (m := mi) (g := some d') (.inr ⟨v, rfl, rd⟩)
  rw [List.set_set, List.set_set, set_same em] at q1
  have src : ∀ x ∈ fi', x ∈ fi ∨ x ∈ fpv := fun x hx => by
    rcases m' x hx with q | q
    · exact .inl q.1
    · rcases List.mem_cons.mp q with rfl | q
      · exact .inl (p3 x List.mem_cons_self)
      · rcases dj x (List.mem_append_left _ q) with q | q
        · exact .inl (p3 x (List.mem_cons_of_mem _ q))
        · exact .inr q
  have djir : ∀ x ∈ fi', x ∉ fr := fun x hx q => by
    rcases src x hx with z | z
    · exact nir.2.2 x z q
    · exact n.2.2 x z ((h5 x).mp (List.mem_append_right _ q))
  have nfp : fp'.Nodup := q2 (nodup_app.mpr ⟨n', nir.2.1, djir⟩)
  have djpr : ∀ x ∈ fpr, x ∉ fp' := fun x hx q => by
    rcases List.mem_append.mp (q3 x q) with z | z
    · rcases m' x z with y | y
      · rcases dj x (List.mem_append_right _ hx) with w | w
        · exact y.2 (List.mem_cons_of_mem _ w)
        · exact djfi x w y.1
      · rcases List.mem_cons.mp y with rfl | y
        · exact naq x (List.mem_append_right _ hx) rfl
        · exact nqr.2.2 x y hx
    · rcases dj x (List.mem_append_right _ hx) with w | w
      · exact nir.2.2 x (p3 x (List.mem_cons_of_mem _ w)) z
      · exact n.2.2 x w ((h5 x).mp (List.mem_append_right _ z))
  refine ⟨d', fp', sd, ⟨Same.refl _, fun x o hn e => ?_, fun x hx => .inl ?_, fun x o e => .inl e⟩, ⟨upd_same' st.same b0, q1, nfp⟩, nodup_app.mpr ⟨nqr.2.1, nfp, djpr⟩⟩
  · rw [upd_ne (fun q : x = a => hn (List.mem_append_right _ ((h5 x).mp (List.mem_append_left _ (by rw [q]; exact p3 a List.mem_cons_self)))))]; exact e
  · rcases List.mem_append.mp hx with hx | hx
    · rcases dj x (List.mem_append_right _ hx) with w | w
      · exact List.mem_append_right _ ((h5 x).mp (List.mem_append_left _ (p3 x (List.mem_cons_of_mem _ w))))
      · exact List.mem_append_left _ w
    · rcases List.mem_append.mp (q3 x hx) with z | z
      · rcases src x z with y | y
        · exact List.mem_append_right _ ((h5 x).mp (List.mem_append_left _ y))
        · exact List.mem_append_left _ y
      · exact List.mem_append_right _ ((h5 x).mp (List.mem_append_right _ z))
/-- the list at the place gets another content -/
def upL (i : Nat) (g : Gam → Option (List Sel)) (h : List D → Option (List D)) (Γ : Gam) : Option Gam :=
  (g Γ).bind fun s => (getG Γ i).bind fun d => (getP d s).bind fun c => match c with
    | .lst ds => (h ds).bind fun ds' => (setP d s (.lst ds')).map fun d' => Γ.set i (some d')
    | _ => none
theorem upL_some {h : List D → Option (List D)} {Γ Γ' : Gam} (e : upL i g h Γ = some Γ') : ∃ s d ds ds' d', g Γ = some s ∧ getG Γ i = some d ∧ getP d s = some (.lst ds) ∧ h ds = some ds' ∧ setP d s (.lst ds') = some d' ∧ Γ' = Γ.set i (some d') := by
  unfold upL at e
  cases e1 : g Γ with
  | none => rw [e1] at e; cases e
  | some s =>
    rw [e1, Option.bind_some] at e
    cases e2 : getG Γ i with
    | none => rw [e2] at e; cases e
    | some d =>
      rw [e2, Option.bind_some] at e
      cases e3 : getP d s with
      | none => rw [e3] at e; cases e
      | some c =>
        rw [e3, Option.bind_some] at e
        cases c with
        | lst ds =>
          have e4 : (h ds).bind (fun ds' => (setP d s (.lst ds')).map fun d' => Γ.set i (some d')) = some Γ' := e
          cases e5 : h ds with
          | none => rw [e5] at e4; cases e4
          | some ds' =>
            rw [e5, Option.bind_some] at e4
            cases e6 : setP d s (.lst ds') with
            | none => rw [e6] at e4; cases e4
            | some d' => rw [e6] at e4; cases e4; exact ⟨s, d, ds, ds', d', rfl, rfl, e3, e5, e6, rfl⟩
        | _ => cases e
/-- P[i] = e, a list -/
def setAtL (y : D) (p : Gam → Option Int) (Γ : Gam) (ds : List D) : Option (List D) := (p Γ).bind fun j => (ixN ds.length j).map fun k => ds.set k y
def sStore (f : Gam → Rz D) (i : Nat) (g : Gam → Option (List Sel)) (p : Gam → Option Int) (Γ : Gam) : Sz := (f Γ).s fun y Γ1 => match upL i g (setAtL y p Γ1) Γ1 with
  | some Γ2 => .nx Γ2
  | none => .bad
theorem DS.store {mi mc : Mode} (h : DE X z.w μ e f mc μ1) (ho : DPl X μ1 o i g) (hi : DPx X μ1 b p) (em : μ1[i]? = some mi) (hx : mi ≠ .X) (hm : ∀ Γ s, g Γ = some s → modeP mi s = some (.O mc)) (ha : ∀ v, assign (.Subscript o b pos) X.env v = (do
      let ov ← holding [v] (eval o X.env)
      let iv ← holding [v, ov] (eval b X.env)
      standAt pos
      holding [v, ov, iv] (setItem ov iv v)
      release [v, ov, iv] [])) {tpos : Pos} (hs : swapsWithSole [.Subscript o b pos] e tpos.line X.env = pure false) (hw : swappedStores [.Subscript o b pos] e X.env = pure none) (h1 : (assignEach [.Subscript o b pos] X.env).map (·.2) = [assign (.Subscript o b pos) X.env]) : DS X z μ (.Assign [.Subscript o b pos] e tpos) (sStore f i g p) μ1 := by
  refine ⟨(ps_asg h.pe (pg_sub ho.pe hi.pe set_list ha) hs hw h1).imp fun D σ H ⟨hp, B, Γ, fp, sta, q⟩ => ?_⟩
  refine tD_s hp sta q fun y Γ1 B1 H1 v fpv fp1 ef s1 st1 r nd => ?_
  unfold sStore at q
  rw [ef] at q
  have q' : Lead X.K z μ1 B H fp D (match upL i g (setAtL y p Γ1) Γ1 with
    | some Γ2 => .nx Γ2
    | none => .bad) := q
  cases eu : upL i g (setAtL y p Γ1) Γ1 with
  | none => rw [eu] at q'; exact q'.elim
  | some Γ2 =>
    rw [eu] at q'
    obtain ⟨s, d, ds, ds', d', e1, e2, e3, e4, e5, rfl⟩ := upL_some eu
    obtain ⟨v0, a, vs, fq, n1, n2, n3, n4, n5, n6, n7, n8, n9, n10⟩ := node_lst st1 nd (R.own y r) e2 em hx e3 (hm _ _ e1)
    unfold setAtL at e4
    cases ep : p Γ1 with
    | none => rw [ep] at e4; cases e4
    | some j =>
      rw [ep, Option.bind_some] at e4
      cases ek : ixN ds.length j with
      | none => rw [ek] at e4; cases e4
      | some k =>
        rw [ek] at e4; cases e4
        refine ⟨B1, Γ1, fp1, v0, s, .ref a, st1, e1, n1, n2, B1, Γ1, fp1, st1, j, ep, a, vs, j, k, rfl, rfl, n3, by rw [n5.len]; exact ek, ?_⟩
        have nn := nodup_app.mp nd
        have naf : a ∉ fpv := fun q => nn.2.2 a q n9
        have r' : R X.K B1 (upd H1 a (.lst (vs.set k v))) y mc v fpv := r.mono (Same.refl _) y (upd_kept (fun x hx => (R.own y r x hx).1) naf)
        have rl' : Rl X.K B1 (upd H1 a (.lst (vs.set k v))) ds mc vs fq := n5.mono (Same.refl _) ds (upd_kept (fun x hx => (Rl.own ds n5 x hx).1) n7)
        obtain ⟨fq', t1, t2, t3⟩ := rl'.setAt (ixN_seq ek).2.1 r'
        have nd2 : (fpv ++ fq).Nodup := nodup_app.mpr ⟨nn.1, n6, fun x hx hy => nn.2.2 x hx (n8 x hy)⟩
        have hl : ds.length ≤ sizeLine := by
          obtain ⟨v1, fi, fr, h1', h2', _, _, _⟩ := StR.take (m0 := .U) st1.st (getG_some e2) em hx
          obtain ⟨u, fc, p1, p2, _⟩ := R.path h2' e3 (hm _ _ e1)
          obtain ⟨a', vs', fq', _, _, _, hl, _⟩ := p2
          exact hl
        obtain ⟨d2, fp2, u1, u2, u3, u4⟩ := n10 (vs.set k v) (ds.set k y) fq' [] t1 (by rw [List.length_set]; exact hl) (by rw [List.append_nil]; exact t2 nd2) (fun x hx => by
          rw [List.append_nil] at hx
          exact (List.mem_append.mp (t3 x hx)).elim .inr .inl)
        rw [e5] at u1; cases u1
        exact q' σ B1 _ fp2 (s1.trans u2) u3 hp
/-! ### o.append(e), o.pop(), o.pop(i), o a slot's name -/
theorem tyL {K : PySem.W.Frag} {H : Hp} {a : Addr} {vs : List V} (h : H a = some (.lst vs)) : tyV K "list" (.ref a) H := .inl ⟨rfl, vs, SqL.of h⟩
def isLst : D → Bool
  | .lst _ => true
  | _ => false
def eApp (i : Nat) (f : Gam → Rz D) (Γ : Gam) : Rz D := match getG Γ i with
  | some (.lst _) => (f Γ).bind fun y Γ1 => (match upL i plN (fun ds => if ds.length < sizeLine then some (ds ++ [y]) else none) Γ1 with
    | some Γ2 => .ok .non Γ2
    | none => .bad)
  | _ => .bad
theorem DE.append {mc : Mode} {apos p0 : Pos} (hN : X.N[i]? = some x) (hv : Vis X.env.scope x) (hd : (x == ("__debug__" : Str)) = false) (hcd : (x == ("__classdict__" : Str)) = false) (em0 : μ[i]? = some m) (hx0 : m ≠ .X) (h : DE X w μ e f mc μ1) (em : μ1[i]? = some (.O mc))
    (hbase : attributeBase (.Name x p0) "append" X.env (eval (.Name x p0) X.env) = eval (.Name x p0) X.env)
    (hfew : ((backTo pos (starEach [e] X.env)).all (fun x => !x.1) && (backToKw pos (keywordEach [] X.env)).all (fun x => x.1.isSome) && decide (([e] : List Expr).length + ([] : List Keyword).length + (if ([] : List Keyword).isEmpty then 0 else 1) < 30)) = true)
    (hline : (apos.endLine == pos.line) = true) (hs : starEach [e] X.env = (false, eval e X.env) :: starEach [] X.env) (hplain : (backTo pos (starEach [] X.env)).any (·.1) = false) :
    DE X w μ (.Call (.Attribute (.Name x p0) "append" apos) [e] [] pos) (eApp i f) .Z μ1 := by
  refine ⟨(pe_bm PySem.F.plainAttrs_list PySem.F.slot_list_append PySem.F.type_list_append mt_append (pe_var hN hv hd hcd) (pa_cons h.pe pa_nil hs) hbase hfew hline hs hplain).imp fun σ H Q ⟨B, Γ, fp, st, q⟩ => ?_⟩
  unfold eApp at q
  cases eg : getG Γ i with
  | none => rw [eg] at q; exact q.elim
  | some d =>
    rw [eg] at q
    cases d with
    | lst ds0 =>
      obtain ⟨v0, fi, fr, h1, h2, h3, h4, h5⟩ := StR.take (m0 := .U) st.st (getG_some eg) em0 hx0
      obtain ⟨a0, vs0, fq0, rfl, hs0, _⟩ := (h2.seq st.same).1 ds0 rfl
      refine ⟨.ref a0, h1, .inl ⟨rfl, vs0, hs0⟩, B, Γ, fp, st, ?_⟩
      revert q
      show (match (f Γ).bind (fun y Γ1 => (match upL i plN (fun ds => if ds.length < sizeLine then some (ds ++ [y]) else none) Γ1 with
        | some Γ2 => Rz.ok D.non Γ2
        | none => .bad)) with
        | .ok d Γ' => _
        | .exc x Γ' => _
        | .bad => _) → _
      cases f Γ with
      | bad => exact id
      | exc x Γ' => exact id
      | ok y Γ1 =>
        intro q B1 H1 v fpv fp1 s1 st1 r nd
        have q' : match (match upL i plN (fun ds => if ds.length < sizeLine then some (ds ++ [y]) else none) Γ1 with
            | some Γ2 => Rz.ok D.non Γ2
            | none => .bad) with
          | .ok d Γ' => ∀ B' H' v fpv fp', Stp B H fp B' H' (fpv ++ fp') → Sta X.K B' H' Γ' μ1 σ fp' → R X.K B' H' d .Z v fpv → (fpv ++ fp').Nodup → Q v H'
          | .exc x Γ' => wexc X.K w B H fp σ x Γ'
          | .bad => False := q
        cases eu : upL i plN (fun ds => if ds.length < sizeLine then some (ds ++ [y]) else none) Γ1 with
        | none => rw [eu] at q'; exact q'.elim
        | some Γ2 =>
          rw [eu] at q'
          obtain ⟨s, d, ds, ds', d', e1, e2, e3, e4, e5, rfl⟩ := upL_some eu
          cases e1
          obtain ⟨v0, a, vs, fq, n1, n2, n3, n4, n5, n6, n7, n8, n9, n10⟩ := node_lst st1 nd (R.own y r) e2 em (by simp) e3 rfl
          have z : v0 = .ref a := n2
          subst z
          rw [h1] at n1
          cases n1
          have e4' : (if ds.length < sizeLine then some (ds ++ [y]) else none) = some ds' := e4
          split at e4'
          · rename_i hlt
            cases e4'
            refine ⟨a0, vs, v, rfl, rfl, n3, by rw [n5.len]; exact hlt, ?_⟩
            have nn := nodup_app.mp nd
            have naf : a0 ∉ fpv := fun q => nn.2.2 a0 q n9
            have r' : R X.K B1 (upd H1 a0 (.lst (vs ++ [v]))) y mc v fpv := r.mono (Same.refl _) y (upd_kept (fun x hx => (R.own y r x hx).1) naf)
            have rl' : Rl X.K B1 (upd H1 a0 (.lst (vs ++ [v]))) ds mc vs fq := n5.mono (Same.refl _) ds (upd_kept (fun x hx => (Rl.own ds n5 x hx).1) n7)
            have nd2 : (fq ++ fpv).Nodup := nodup_app.mpr ⟨n6, nn.1, fun x hx hy => nn.2.2 x hy (n8 x hx)⟩
            obtain ⟨d2, fp2, u1, u2, u3, u4⟩ := n10 (vs ++ [v]) (ds ++ [y]) (fq ++ fpv) [] (rl'.snoc r') (by rw [List.length_append]; exact hlt) (by rw [List.append_nil]; exact nd2) (fun x hx => by
              rw [List.append_nil] at hx
              exact (List.mem_append.mp hx))
            rw [e5] at u1; cases u1
            exact q' B1 _ .non [] fp2 (s1.trans u2) u3 ⟨rfl, rfl⟩ u4
          · cases e4'
    | _ => exact q.elim
end
end EV

/-! EvK2: slices. -/
namespace EV
open PySem PySem.Spec L2
def cutD (ds : List D) (lo hi : Option Int) : List D := (ds.drop (HT.sIx ds.length 0 lo)).take (HT.sIx ds.length ds.length hi - HT.sIx ds.length 0 lo)
section
variable {K : PySem.W.Frag} {m1 m2 m : Mode}
theorem Rl.drop {B H : Hp} : ∀ {n : Nat} {ds : List D} {m : Mode} {vs : List V} {fp : List Addr}, Rl K B H ds m vs fp → ∃ fq, Rl K B H (ds.drop n) m (vs.drop n) fq ∧ (∀ a ∈ fq, a ∈ fp) ∧ (fp.Nodup → fq.Nodup)
  | 0, ds, m, vs, fp, h => ⟨fp, h, fun a h => h, fun h => h⟩
  | n + 1, [], m, vs, fp, h => by
    obtain ⟨rfl, rfl⟩ := h
    exact ⟨[], ⟨rfl, rfl⟩, fun a h => h, fun h => h⟩
  | n + 1, d :: ds, m, vs, fp, h => by
    obtain ⟨v, r, f1, f2, rfl, h1, h2, rfl⟩ := h
    obtain ⟨fq, q1, q2, q3⟩ := Rl.drop (n := n) h2
    exact ⟨fq, q1, fun a h => List.mem_append_right _ (q2 a h), fun nd => q3 (nodup_app.mp nd).2.1⟩
theorem Rl.take {B H : Hp} : ∀ {n : Nat} {ds : List D} {m : Mode} {vs : List V} {fp : List Addr}, Rl K B H ds m vs fp → ∃ fq, Rl K B H (ds.take n) m (vs.take n) fq ∧ (∀ a ∈ fq, a ∈ fp) ∧ (fp.Nodup → fq.Nodup)
  | 0, ds, m, vs, fp, h => ⟨[], ⟨rfl, rfl⟩, (fun a h => nomatch h), fun _ => List.nodup_nil⟩
  | n + 1, [], m, vs, fp, h => by
    obtain ⟨rfl, rfl⟩ := h
    exact ⟨[], ⟨rfl, rfl⟩, fun a h => h, fun h => h⟩
  | n + 1, d :: ds, m, vs, fp, h => by
    obtain ⟨v, r, f1, f2, rfl, h1, h2, rfl⟩ := h
    obtain ⟨fq, q1, q2, q3⟩ := Rl.take (n := n) h2
    refine ⟨f1 ++ fq, ⟨v, _, f1, fq, rfl, h1, q1, rfl⟩, fun a h => ?_, fun nd => ?_⟩
    · rcases List.mem_append.mp h with h | h
      · exact List.mem_append_left _ h
      · exact List.mem_append_right _ (q2 a h)
    · have n3 := nodup_app.mp nd
      exact nodup_app.mpr ⟨n3.1, q3 n3.2.1, fun a h1 h2 => n3.2.2 a h1 (q2 a h2)⟩
theorem Rl.cut {B H : Hp} {ds : List D} {m : Mode} {vs : List V} {fp : List Addr} (h : Rl K B H ds m vs fp) (lo hi : Option Int) : ∃ fq, Rl K B H (cutD ds lo hi) m (cutV vs lo hi) fq ∧ (∀ a ∈ fq, a ∈ fp) ∧ (fp.Nodup → fq.Nodup) := by
  obtain ⟨f1, a1, a2, a3⟩ := Rl.drop (n := HT.sIx ds.length 0 lo) h
  obtain ⟨f2, b1, b2, b3⟩ := Rl.take (n := HT.sIx ds.length ds.length hi - HT.sIx ds.length 0 lo) a1
  refine ⟨f2, ?_, fun a h => a2 a (b2 a h), fun nd => b3 (a3 nd)⟩
  unfold cutV
  rw [h.len]
  exact b1
theorem cutD_len (ds : List D) (lo hi : Option Int) : (cutD ds lo hi).length ≤ ds.length := by
  unfold cutD
  rw [List.length_take, List.length_drop]; omega
/-- what comes frozen -/
theorem Comes.frz {B H : Hp} {fp : List Addr} {d : D} {Q : VK} (c : Comes K B H fp d .F Q) : Comes K B H fp d m Q := fun B' H' v fpv s sm r nd => by
  have b0 : ∀ a ∈ fpv, B' a = none := fun a h => (R.own d r a h).1
  refine c (addB B' H' fpv) H' v [] (s.trans ⟨addB_same b0, fun a o _ h => h, (fun a h => nomatch h), fun a o h => ?_⟩) (addB_le sm) r.frz List.nodup_nil
  by_cases q : a ∈ fpv
  · exact .inr (.inl q)
  · rw [addB_out q] at h; exact .inl h
def sliceL (d : D) (lo hi : Option Int) : Option D := match d with
  | .lst ds => some (.lst (cutD ds lo hi))
  | _ => none
def sliceT (d : D) (lo hi : Option Int) : Option D := match d with
  | .tup ds => some (.tup (cutD ds lo hi))
  | _ => none
def oPx (p : Option (Gam → Option Int)) (Γ : Gam) : Option (Option Int) := match p with
  | none => some none
  | some p => (p Γ).map some
def eSl (g : D → Option Int → Option Int → Option D) (f : Gam → Rz D) (lo hi : Option (Gam → Option Int)) (Γ : Gam) : Rz D := (f Γ).bind fun d Γ1 => match oPx lo Γ1, oPx hi Γ1 with
  | some l, some h => Rz.opt (g d l h) Γ1
  | _, _ => .bad
end
section
variable {X : Cx} {w : Wh} {μ μ1 : List Mode} {e : Expr} {f : Gam → Rz D} {m m' : Mode} {pos p2 : Pos}
def tPo (K : PySem.W.Frag) (μ : List Mode) (p : Option (Gam → Option Int)) : TO := fun σ H Q => ∃ B Γ fp, Sta K B H Γ μ σ fp ∧ ∃ j, oPx p Γ = some j ∧ Q j H
theorem PO.imp {e : Option Expr} {t t' : TO} (h : PO X e t) (i : ∀ σ H Q, t' σ H Q → t σ H Q) : PO X e t' := ⟨fun pins s σ H Q I q => h.run pins s σ H Q I (i σ H Q q)⟩
/-- an optional part of a slice -/
structure DPo (X : Cx) (μ : List Mode) (e : Option Expr) (p : Option (Gam → Option Int)) : Prop where
  po : PO X e (tPo X.K μ p)
theorem DPo.none : DPo X μ Option.none Option.none := ⟨PO.imp po_none fun σ H Q ⟨B, Γ, fp, st, j, e, q⟩ => by cases e; exact q⟩
theorem DPo.some {p : Gam → Option Int} (h : DPx X μ e p) : DPo X μ (Option.some e) (Option.some p) := ⟨PO.imp (po_some h.pe) fun σ H Q ⟨B, Γ, fp, st, j, e, q⟩ => by
  have e' : (p Γ).map Option.some = Option.some j := e
  cases e1 : p Γ with
  | none => rw [e1] at e'; cases e'
  | some i =>
    rw [e1] at e'; cases e'
    exact ⟨B, Γ, fp, st, i, e1, i, rfl, q⟩⟩
def SlD (K : PySem.W.Frag) (r : V → Option Int → Option Int → Hp → VK → Prop) (m1 : Mode) (g : D → Option Int → Option Int → Option D) (m : Mode) : Prop :=
  ∀ (B H : Hp) (x d : D) (u : V) (lo hi : Option Int) (fp1 : List Addr) (Q : VK), Same B H → R K B H x m1 u fp1 → fp1.Nodup → g x lo hi = some d → Comes K B H fp1 d m Q → r u lo hi H Q
theorem DE.slice {r : V → Option Int → Option Int → Hp → VK → Prop} {g : D → Option Int → Option Int → Option D} {lo hi : Option Expr} {pl ph : Option (Gam → Option Int)} (hr : L2.SlR X r) (od : SlD X.K r m g m') (h : DE X w μ e f m μ1) (hl : DPo X μ1 lo pl) (hh : DPo X μ1 hi ph) : DE X w μ (.Subscript e (.Slice lo hi Option.none p2) pos) (eSl g f pl ph) m' μ1 := by
  refine ⟨(pe_slice hr h.pe hl.po hh.po).imp fun σ H Q ⟨B, Γ, fp, st, q⟩ => ⟨B, Γ, fp, st, ?_⟩⟩
  unfold eSl at q
  cases e1 : f Γ with
  | bad => rw [e1] at q; exact q.elim
  | exc x Γ' => rw [e1] at q; exact q
  | ok x Γ1 =>
    rw [e1] at q
    intro B1 H1 u fu fp1 s1 st1 r1 n1
    simp only [Rz.bind] at q
    cases e2 : oPx pl Γ1 with
    | none => rw [e2] at q; exact q.elim
    | some l =>
      cases e3 : oPx ph Γ1 with
      | none => rw [e2, e3] at q; exact q.elim
      | some k =>
        rw [e2, e3] at q
        refine ⟨B1, Γ1, fp1, st1, l, e2, B1, Γ1, fp1, st1, k, e3, ?_⟩
        dsimp only at q
        cases e4 : g x l k with
        | none => rw [e4] at q; exact q.elim
        | some d =>
          rw [e4] at q
          exact od B1 H1 x d u l k fu Q st1.same r1 (nodup_app.mp n1).1 e4 (comes_of s1 st1 (fun a h => (R.own x r1 a h).2) n1 q)
theorem sld_list {K : PySem.W.Frag} : SlD K (rSlL K) m sliceL (.O (partM m)) := by
  intro B H x d u lo hi fp1 Q s r1 nd e c
  have q := r1.seq s
  cases x with
  | lst ds =>
    cases e
    obtain ⟨a, vs, fq, rfl, hs, hr, hl, q1, q2⟩ := q.1 ds rfl
    obtain ⟨f2, a1, a2, a3⟩ := hr.cut lo hi
    exact ⟨a, vs, rfl, hs, fun p hp => new_lst c s a1 (Nat.le_trans (cutD_len ..) hl) (fun a h => q1 a (a2 a h)) (a3 (q2 nd)) hp⟩
  | _ => cases e
theorem sld_tup {K : PySem.W.Frag} : SlD K (rSlA K) .F sliceT .F := by
  intro B H x d u lo hi fp1 Q s r1 nd e c
  have q := r1.seq s
  cases x with
  | tup ds =>
    cases e
    obtain ⟨a, vs, fq, rfl, hs, hr, hl, q1, q2⟩ := q.2 ds rfl
    obtain ⟨f2, a1, a2, a3⟩ := hr.cut lo hi
    refine ⟨a, vs, rfl, hs, fun hw => ?_, fun _ p hp => new_tup (m := .F) c.frz s a1 (Nat.le_trans (cutD_len ..) hl) (fun a h => q1 a (a2 a h)) (a3 (q2 nd)) hp⟩
    have e0 := r1.fpF
    subst e0
    have hl2 := hr.len
    refine c B H _ [] (Stp.refl _ _ _) s ?_ List.nodup_nil
    have : cutD ds lo hi = ds := by
      unfold cutD
      rw [← hl2, hw.1, hw.2]
      simp [hl2]
    rw [this]; exact r1
  | _ => cases e
end
end EV

/-! EvL: o[i] op= e, pop(i), zip, enumerate, isinstance, chains, the rule for a def. -/
namespace EV
open PySem PySem.Spec L2
section
variable {X : Cx} {w : Wh} {z : Ws} {μ μ' μ1 μ2 : List Mode} {e a b c o : Expr} {es : List Expr} {f f' : Gam → Rz D} {m m' m1 m2 m3 : Mode} {pos : Pos} {i : Nat} {x : Str} {g : Gam → Option (List Sel)} {p q : Gam → Option Int}
/-! ### o[i] op= e, ints -/
theorem get_list : PGet X fun o i H Q => ∃ a xs k v, o = .ref a ∧ i = .int k ∧ H a = some (.lst xs) ∧ 0 ≤ k ∧ xs[k.toNat]? = some v ∧ Q v H := by
  intro pins s σ H o i ov iv Q I ro ri h
  obtain ⟨a, xs, k, v, rfl, rfl, ha, h0, hv, q⟩ := h
  cases ro
  obtain ⟨t, rfl⟩ := ri
  obtain ⟨its, r, pl, hz⟩ := I.list (SqL.of ha)
  obtain ⟨u, eu, ru⟩ := r.get hv
  have hl := (List.getElem?_eq_some_iff.mp hv).1
  have hn := line63
  exact PySem.wpAny_getItem_list pl.isList h0 (by omega) (by simpa using eu) ⟨v, H, I, ru, q⟩
/-- a path stays where the nodes do -/
theorem PathV.keep {K : PySem.W.Frag} {B H H1 : Hp} : ∀ {s : List Sel} {v u : V} {d : D} {m mc : Mode} {fp : List Addr} {c : D}, R K B H d m v fp → getP d s = some c → modeP m s = some mc → (∀ x ∈ fp, ∀ o, H x = some o → H1 x = some o) → PathV K H v s u → PathV K H1 v s u := by
  intro s
  induction s with
  | nil => exact fun _ _ _ _ h => h
  | cons hd tl ih =>
    intro v u d m mc fp c hR hg hmm hk hpv
    cases hd with
    | ix ii =>
      obtain ⟨aa, xs, uu, rfl, hh, hat, hrest⟩ := hpv
      cases m with
      | O m =>
        cases d with
        | lst dd =>
          obtain ⟨a9, vs9, fq9, e9, b9, hh9, hl9, hr9, rfl⟩ := hR
          cases e9
          rw [hh9] at hh
          have exs : xs = vs9 := by rcases hh with hh | hh <;> cases hh; rfl
          subst exs
          have hg' : (atI dd ii).bind (fun c => getP c tl) = some c := hg
          cases hc : atI dd ii with
          | none => rw [hc] at hg'; cases hg'
          | some c9 =>
            rw [hc] at hg'
            obtain ⟨w9, fw9, x1, x2, x3, _⟩ := atI_rel hr9 hc
            rw [hat] at x1; cases x1
            exact ⟨aa, xs, uu, rfl, .inl (hk aa List.mem_cons_self _ hh9), hat, ih x2 hg' hmm (fun x hx => hk x (List.mem_cons_of_mem _ (x3 x hx))) hrest⟩
        | tup dd =>
          obtain ⟨a9, vs9, fq9, e9, b9, hh9, hl9, hr9, rfl⟩ := hR
          cases e9
          rw [hh9] at hh
          have exs : xs = vs9 := by rcases hh with hh | hh <;> cases hh; rfl
          subst exs
          have hg' : (atI dd ii).bind (fun c => getP c tl) = some c := hg
          cases hc : atI dd ii with
          | none => rw [hc] at hg'; cases hg'
          | some c9 =>
            rw [hc] at hg'
            obtain ⟨w9, fw9, x1, x2, x3, _⟩ := atI_rel hr9 hc
            rw [hat] at x1; cases x1
            exact ⟨aa, xs, uu, rfl, .inr (hk aa List.mem_cons_self _ hh9), hat, ih x2 hg' hmm (fun x hx => hk x (List.mem_cons_of_mem _ (x3 x hx))) hrest⟩
        | _ => cases hg
      | _ => cases hmm
    | fld kk nn9 =>
      obtain ⟨aa, dx9, fs9, uu, rfl, hh, hat, hrest⟩ := hpv
      cases d with
      | obj k0 ns dd =>
        have hg0 : (if k0 = kk then ((fIx ns nn9).bind fun j => dd[j]?).bind (fun c => getP c tl) else none) = some c := hg
        by_cases hk0 : k0 = kk
        case neg => rw [if_neg hk0] at hg0; cases hg0
        rw [if_pos hk0] at hg0
        subst hk0
        cases hq : fIx ns nn9 with
        | none => rw [hq] at hg0; cases hg0
        | some j9 =>
          rw [hq, Option.bind_some] at hg0
          cases hc : dd[j9]? with
          | none => rw [hc] at hg0; cases hg0
          | some c9 =>
            rw [hc, Option.bind_some] at hg0
            cases m with
            | O m =>
              obtain ⟨a9, dx8, vs9, fq9, e9, b9, b8, hh9, hx9, hl9, hr9, rfl⟩ := hR
              cases e9
              rw [hh9] at hh
              cases hh
              obtain ⟨w9, fw9, x1, x2, x3, _⟩ := Rl.at_ hr9 hc
              have z9 := zip_lookup hq x1
              rw [hat] at z9; cases z9
              exact ⟨aa, _, _, uu, rfl, hk aa List.mem_cons_self _ hh9, hat, ih x2 hg0 hmm (fun x hx => hk x (List.mem_cons_of_mem _ (List.mem_cons_of_mem _ (x3 x hx)))) hrest⟩
            | B n7 m7 r7 =>
              obtain ⟨a9, dx8, vs9, fq9, e9, b9, b8, hh9, hx9, hl9, hr9, rfl⟩ := hR
              cases e9
              rw [hh9] at hh
              cases hh
              have hmm' : (chainM (.B n7 m7 r7) nn9).bind (fun q => modeP q tl) = some mc := hmm
              cases hcm : chainM (.B n7 m7 r7) nn9 with
              | none => rw [hcm] at hmm'; cases hmm'
              | some mq =>
                rw [hcm, Option.bind_some] at hmm'
                obtain ⟨w9, fw9, x1, x2, x3, _⟩ := hr9.focus hq hc hcm
                have z9 := zip_lookup hq x1
                rw [hat] at z9; cases z9
                exact ⟨aa, _, _, uu, rfl, hk aa List.mem_cons_self _ hh9, hat, ih x2 hg0 hmm' (fun x hx => hk x (List.mem_cons_of_mem _ (List.mem_cons_of_mem _ (x3 x hx)))) hrest⟩
            | _ => cases hmm
      | _ => cases hg

def addAt (op : Int → Int → Int) (y : D) (j : Int) (ds : List D) : Option (List D) := if 0 ≤ j then (match ds[j.toNat]?, y with
  | some (.int k), .int n => some (ds.set j.toNat (.int (op k n)))
  | _, _ => none) else none
/-- P[i] op= e: the slot is out while e is evaluated -/
def sAug (op : Int → Int → Int) (f : Gam → Rz D) (i : Nat) (g : Gam → Option (List Sel)) (p : Gam → Option Int) (Γ : Gam) : Sz := match p Γ, g Γ, getG Γ i with
  | some j, some s, some d => (match getP d s with
    | some (.lst ds) => if 0 ≤ j then (match ds[j.toNat]? with
      | some (.int _) => (f (Γ.set i none)).s fun y Γ1 => (match upL i (fun _ => some s) (addAt op y j) (Γ1.set i (some d)) with
        | some Γ2 => .nx Γ2
        | none => .bad)
      | _ => .bad) else .bad
    | _ => .bad)
  | _, _, _ => .bad
theorem DS.aug {op : Operator} {fo : Int → Int → Int} {mi mc : Mode} {tpos : Pos} (hop : PIp X op (ipI fo)) (h : DE X z.w (μ.set i .U) e f m μ1) (ho : DPl X μ o i g) (hi : DPx X μ b p) (em : μ[i]? = some mi) (hx : mi ≠ .X) (hm : ∀ Γ s, g Γ = some s → modeP mi s = some (.O mc)) (hz : mc = .Z ∨ mc = .F ∨ ∃ k, mc = .O k) (hb : (μ1.set i mi).set i mi = μ1.set i mi) (hu : μ1[i]? = some .U)
    (ha : ∀ ov iv new, augStore b ov iv new = (do holding [new, ov, iv] (setItem ov iv new); release [new, ov, iv] []; pure .next)) : DS X z μ (.AugAssign (.Subscript o b tpos) op e pos) (sAug fo f i g p) (μ1.set i mi) := by
  refine ⟨(ps_augS ho.pe hi.pe get_list h.pe hop set_list ha).imp fun En σ H ⟨hp, B, Γ, fp, sta, q⟩ => ?_⟩
  unfold sAug at q
  cases ep : p Γ with
  | none => rw [ep] at q; exact q.elim
  | some j =>
  cases es : g Γ with
  | none => rw [ep, es] at q; exact q.elim
  | some s =>
  cases eg : getG Γ i with
  | none => rw [ep, es, eg] at q; exact q.elim
  | some d =>
  rw [ep, es, eg] at q
  have q1 : Lead X.K z (μ1.set i mi) B H fp En (match getP d s with
    | some (.lst ds) => if 0 ≤ j then (match ds[j.toNat]? with
      | some (.int _) => (f (Γ.set i none)).s fun y Γ1 => (match upL i (fun _ => some s) (addAt fo y j) (Γ1.set i (some d)) with
        | some Γ2 => .nx Γ2
        | none => .bad)
      | _ => .bad) else .bad
    | _ => .bad) := q
  cases eP : getP d s with
  | none => rw [eP] at q1; exact q1.elim
  | some nd0 =>
  rw [eP] at q1
  cases nd0 with
  | lst ds =>
    have q2 : Lead X.K z (μ1.set i mi) B H fp En (if 0 ≤ j then (match ds[j.toNat]? with
      | some (.int _) => (f (Γ.set i none)).s fun y Γ1 => (match upL i (fun _ => some s) (addAt fo y j) (Γ1.set i (some d)) with
        | some Γ2 => .nx Γ2
        | none => .bad)
      | _ => .bad) else .bad) := q1
    by_cases h0 : 0 ≤ j
    case neg => rw [if_neg h0] at q2; exact q2.elim
    rw [if_pos h0] at q2
    cases ek : ds[j.toNat]? with
    | none => rw [ek] at q2; exact q2.elim
    | some c0 =>
    rw [ek] at q2
    cases c0 with
    | int k =>
      have q3 : Lead X.K z (μ1.set i mi) B H fp En ((f (Γ.set i none)).s fun y Γ1 => (match upL i (fun _ => some s) (addAt fo y j) (Γ1.set i (some d)) with
        | some Γ2 => .nx Γ2
        | none => .bad)) := q2
      obtain ⟨v, fi, fr, h1, h2, h3, h4, h5⟩ := StR.take (m0 := .U) sta.st (getG_some eg) em hx
      have nir := nodup_app.mp (h4 sta.nd)
      obtain ⟨u, fc, p1, p2, p3, p4, p5, p6⟩ := R.path h2 eP (hm _ _ es)
      obtain ⟨a, vs, fq, rfl, b0, hA, hl, hr, rfl⟩ := p2
      obtain ⟨vk, fk, hk1, hk2, _, _⟩ := Rl.at_ hr ek
      obtain ⟨rfl, rfl⟩ := hk2
      have sta' : Sta X.K B H (Γ.set i none) (μ.set i .U) σ fr := ⟨sta.same, h3, nir.2.1⟩
      refine ⟨B, Γ, fp, v, s, .ref a, sta, es, h1, p1, B, Γ, fp, sta, j, ep, a, vs, j, .int k, rfl, rfl, hA, h0, hk1, ?_⟩
      have hj : j.toNat < ds.length := (List.getElem?_eq_some_iff.mp ek).1
      -- e is evaluated without the slot
      refine tD_s hp sta' (μ2 := μ1.set i mi) (k := fun y Γ1 => (match upL i (fun _ => some s) (addAt fo y j) (Γ1.set i (some d)) with
        | some Γ2 => .nx Γ2
        | none => .bad)) (q3.after ((Stp.refl _ _ _).less fun x hx => (h5 x).mp (List.mem_append_right _ hx))) fun y Γ1 B1 H1 v1 fpv fp1 ef s1 st1 r nd => ?_
      rw [ef] at q3
      have q4 : Lead X.K z (μ1.set i mi) B H fp En (match upL i (fun _ => some s) (addAt fo y j) (Γ1.set i (some d)) with
        | some Γ2 => .nx Γ2
        | none => .bad) := q3
      cases eu : upL i (fun _ => some s) (addAt fo y j) (Γ1.set i (some d)) with
      | none => rw [eu] at q4; exact q4.elim
      | some Γ2 =>
        rw [eu] at q4
        obtain ⟨s', d', ds1, ds2, d2, e1, e2, e3, e4, e5, rfl⟩ := upL_some eu
        cases e1
        have hil : i < (Γ1.set i (some d)).length := by
          unfold getG at e2
          cases ee : (Γ1.set i (some d))[i]? with
          | none => rw [ee] at e2; cases e2
          | some _ => exact (List.getElem?_eq_some_iff.mp ee).1
        have e2' : d' = d := by
          have z1 : (Γ1.set i (some d))[i]? = some (some d) := List.getElem?_set_self (by simpa using hil)
          have z2 := getG_some e2
          rw [z1] at z2; cases z2; rfl
        subst e2'
        rw [eP] at e3; cases e3
        -- the slot comes back
        have ownI : ∀ x ∈ fi, B x = none ∧ ∃ o, H x = some o := R.own d' h2
        have djI : ∀ x ∈ fi, x ∉ fr := nir.2.2
        have kI := s1.kept (K := X.K) ownI djI
        have apI := s1.apart (fun x hx => (ownI x hx).2) djI
        have h2' : R X.K B1 H1 d' mi v fi := h2.mono s1.base d' kI
        have nn := nodup_app.mp nd
        obtain ⟨fpB, b1, b2, b3⟩ := st1.st.putO h1 (i := i) (m := mi) (g := some d') (.inr ⟨v, rfl, h2'⟩)
        have stB : Sta X.K B1 H1 (Γ1.set i (some d')) (μ1.set i mi) σ fpB := ⟨st1.same, b1, b2 (nodup_app.mpr ⟨nir.1, nn.2.1, fun x hx hy => apI x hx (List.mem_append_right _ hy)⟩)⟩
        have emB : (μ1.set i mi)[i]? = some mi := List.getElem?_set_self (List.getElem?_eq_some_iff.mp hu).1
        have ndB : (([] : List Addr) ++ fpB).Nodup := stB.nd
        obtain ⟨v0, a0, vs0, fq0, n1, n2, n3, n4, n5, n6, n7, n8, n9, n10⟩ := node_lst stB ndB (fun x hx => nomatch hx) e2 emB hx eP (hm _ _ es)
        rw [h1] at n1; cases n1
        -- the same place as before
        have hA1 : H1 a = some (.lst vs) := (kI a (p3 a List.mem_cons_self)).1 _ hA
        obtain ⟨u2, fc2, t1, t2, _⟩ := R.path h2' eP (hm _ _ es)
        have same : V.ref a0 = .ref a := by
          exact n2.inj (PathV.keep h2 eP (hm _ _ es) (fun x hx o e => (kI x hx).1 o e) p1)
        cases same
        rw [hA1] at n3; cases n3
        -- the sum and the store
        unfold addAt at e4
        rw [if_pos h0, ek] at e4
        cases y with
        | int n =>
          have e4' : some (ds.set j.toNat (D.int (fo k n))) = some ds2 := e4
          cases e4'
          obtain ⟨rfl, rfl⟩ := r
          refine ⟨k, n, rfl, rfl, a, vs, j, j.toNat, rfl, rfl, hA1, ?_, ?_⟩
          · unfold ixN
            rw [if_pos h0, if_pos (by rw [hr.len]; omega)]
          · have rl' : Rl X.K B1 (upd H1 a (.lst (vs.set j.toNat (.int (fo k n))))) ds mc vs fq0 := n5.mono (Same.refl _) ds (upd_kept (fun x hx => (Rl.own ds n5 x hx).1) n7)
            obtain ⟨fq', y1, y2, y3⟩ := rl'.setAt (d := .int (fo k n)) (v := .int (fo k n)) (fd := []) hj ⟨rfl, rfl⟩
            obtain ⟨d9, fp9, u1, u2, u3, u4⟩ := n10 (vs.set j.toNat (.int (fo k n))) (ds.set j.toNat (.int (fo k n))) fq' [] y1 (by rw [List.length_set]; exact hl) (by rw [List.append_nil]; exact y2 n6) (fun x hx => by
              rw [List.append_nil] at hx
              exact .inl (by simpa using y3 x hx))
            rw [e5] at u1; cases u1
            have sAll : Stp B H fp B1 H1 fpB := by
              have s2 : Stp B H (fi ++ fr) B1 H1 (fi ++ fp1) := (s1.less fun x hx => by simpa using hx).frame fi
              refine (s2.more fun x hx => (h5 x).mp hx).less fun x hx => ?_
              exact b3 x hx
            exact q4 σ B1 _ fp9 (sAll.trans (by simpa using u2)) u3 hp
        | _ => cases e4
    | _ => exact q2.elim
  | _ => exact q1.elim
end
end EV

/-! EvM: pop(i), zip, enumerate, isinstance, the rule for a def. -/
namespace EV
open PySem PySem.Spec L2
section
variable {X : Cx} {w : Wh} {z : Ws} {μ μ' μ1 μ2 : List Mode} {e a b c o : Expr} {es : List Expr} {f f' : Gam → Rz D} {m m' m1 m2 m3 : Mode} {pos : Pos} {i : Nat} {x : Str} {g : Gam → Option (List Sel)} {p q : Gam → Option Int}
/-! ### o.pop(e), o a slot's name -/
theorem Rl.erase {K : PySem.W.Frag} {B H : Hp} : ∀ {ds : List D} {m : Mode} {vs : List V} {fp : List Addr} {k : Nat} {d : D}, Rl K B H ds m vs fp → ds[k]? = some d → ∃ v fd fq, vs[k]? = some v ∧ R K B H d m v fd ∧ Rl K B H (ds.eraseIdx k) m (vs.eraseIdx k) fq ∧ (fp.Nodup → (fq ++ fd).Nodup) ∧ ∀ a ∈ fq ++ fd, a ∈ fp
  | d0 :: ds, m, vs, fp, 0, d, h, e => by
    obtain ⟨v, r, fp1, fp2, rfl, h1, h2, rfl⟩ := h
    have z : d0 = d := by simpa using e
    subst z
    refine ⟨v, fp1, fp2, rfl, h1, h2, fun n => ?_, fun a ha => ?_⟩
    · have n' := nodup_app.mp n
      exact nodup_app.mpr ⟨n'.2.1, n'.1, fun x hx hy => n'.2.2 x hy hx⟩
    · rcases List.mem_append.mp ha with ha | ha
      · exact List.mem_append_right _ ha
      · exact List.mem_append_left _ ha
  | d0 :: ds, m, vs, fp, k + 1, d, h, e => by
    obtain ⟨v, r, fp1, fp2, rfl, h1, h2, rfl⟩ := h
    obtain ⟨u, fd, fq, q1, q2, q3, q4, q5⟩ := Rl.erase (k := k) h2 (by simpa using e)
    refine ⟨u, fd, fp1 ++ fq, by simpa using q1, q2, ⟨v, r.eraseIdx k, fp1, fq, rfl, h1, q3, rfl⟩, fun n => ?_, fun a ha => ?_⟩
    · have n' := nodup_app.mp n
      have n2 := nodup_app.mp (q4 n'.2.1)
      refine nodup_app.mpr ⟨nodup_app.mpr ⟨n'.1, n2.1, fun x hx hy => n'.2.2 x hx (q5 x (List.mem_append_left _ hy))⟩, n2.2.1, fun x hx hy => ?_⟩
      rcases List.mem_append.mp hx with hx | hx
      · exact n'.2.2 x hx (q5 x (List.mem_append_right _ hy))
      · exact n2.2.2 x hx hy
    · rcases List.mem_append.mp ha with ha | ha
      · rcases List.mem_append.mp ha with ha | ha
        · exact List.mem_append_left _ ha
        · exact List.mem_append_right _ (q5 a (List.mem_append_left _ ha))
      · exact List.mem_append_right _ (q5 a (List.mem_append_right _ ha))
  | [], m, vs, fp, k, d, h, e => by simp at e
/-- the item that goes and what is left -/
def popL (j : Int) (ds : List D) : Option (D × List D) := (ixN ds.length j).bind fun k => (ds[k]?).map fun d => (d, ds.eraseIdx k)
def popG (i : Nat) (j : Int) (Γ : Gam) : Rz D := match getG Γ i with
  | some (.lst ds) => (match popL j ds with
    | some (d, ds') => .ok d (Γ.set i (some (.lst ds')))
    | none => .bad)
  | _ => .bad
def ePopAt (i : Nat) (f : Gam → Rz D) (Γ : Gam) : Rz D := match getG Γ i with
  | some (.lst _) => (f Γ).bind fun y Γ1 => (match y with
    | .int j => popG i j Γ1
    | _ => .bad)
  | _ => .bad
theorem DE.popAt {mc : Mode} {apos p0 : Pos} (hN : X.N[i]? = some x) (hv : Vis X.env.scope x) (hd : (x == ("__debug__" : Str)) = false) (hcd : (x == ("__classdict__" : Str)) = false) (em0 : μ[i]? = some m) (hx0 : m ≠ .X) (h : DE X w μ e f m1 μ1) (em : μ1[i]? = some (.O mc))
    (hbase : attributeBase (.Name x p0) "pop" X.env (eval (.Name x p0) X.env) = eval (.Name x p0) X.env)
    (hfew : ((backTo pos (starEach [e] X.env)).all (fun x => !x.1) && (backToKw pos (keywordEach [] X.env)).all (fun x => x.1.isSome) && decide (([e] : List Expr).length + ([] : List Keyword).length + (if ([] : List Keyword).isEmpty then 0 else 1) < 30)) = true)
    (hline : (apos.endLine == pos.line) = true) (hs : starEach [e] X.env = (false, eval e X.env) :: starEach [] X.env) (hplain : (backTo pos (starEach [] X.env)).any (·.1) = false) :
    DE X w μ (.Call (.Attribute (.Name x p0) "pop" apos) [e] [] pos) (ePopAt i f) mc μ1 := by
  refine ⟨(pe_bm PySem.F.plainAttrs_list PySem.F.slot_list_pop PySem.F.type_list_pop mt_popAt (pe_var hN hv hd hcd) (pa_cons h.pe pa_nil hs) hbase hfew hline hs hplain).imp fun σ H Q ⟨B, Γ, fp, st, q⟩ => ?_⟩
  unfold ePopAt at q
  cases eg : getG Γ i with
  | none => rw [eg] at q; exact q.elim
  | some d =>
    rw [eg] at q
    cases d with
    | lst ds0 =>
      obtain ⟨v0, fi, fr, h1, h2, h3, h4, h5⟩ := StR.take (m0 := .U) st.st (getG_some eg) em0 hx0
      obtain ⟨a0, vs0, fq0, rfl, hs0, _⟩ := (h2.seq st.same).1 ds0 rfl
      refine ⟨.ref a0, h1, .inl ⟨rfl, vs0, hs0⟩, B, Γ, fp, st, ?_⟩
      revert q
      show (match (f Γ).bind (fun y Γ1 => (match y with
        | .int j => popG i j Γ1
        | _ => .bad)) with
        | .ok d Γ' => _
        | .exc x Γ' => _
        | .bad => _) → _
      cases f Γ with
      | bad => exact id
      | exc x Γ' => exact id
      | ok y Γ1 =>
        intro q B1 H1 v fpv fp1 s1 st1 r nd
        cases y with
        | int j =>
          obtain ⟨rfl, rfl⟩ := r
          have q' : match popG i j Γ1 with
            | .ok d Γ' => ∀ B' H' v fpv fp', Stp B H fp B' H' (fpv ++ fp') → Sta X.K B' H' Γ' μ1 σ fp' → R X.K B' H' d mc v fpv → (fpv ++ fp').Nodup → Q v H'
            | .exc x Γ' => wexc X.K w B H fp σ x Γ'
            | .bad => False := q
          unfold popG at q'
          cases e2 : getG Γ1 i with
          | none => rw [e2] at q'; exact q'.elim
          | some d1 =>
            rw [e2] at q'
            cases d1 with
            | lst ds =>
              obtain ⟨v0, a, vs, fq, n1, n2, n3, n4, n5, n6, n7, n8, n9, n10⟩ := node_lst (s := []) st1 nd (fun x hx => nomatch hx) e2 em (by simp) rfl rfl
              have z : v0 = .ref a := n2
              subst z
              rw [h1] at n1
              cases n1
              have q2 : match (match popL j ds with
                  | some (d, ds') => Rz.ok d (Γ1.set i (some (D.lst ds')))
                  | none => .bad) with
                | .ok d Γ' => ∀ B' H' v fpv fp', Stp B H fp B' H' (fpv ++ fp') → Sta X.K B' H' Γ' μ1 σ fp' → R X.K B' H' d mc v fpv → (fpv ++ fp').Nodup → Q v H'
                | .exc x Γ' => wexc X.K w B H fp σ x Γ'
                | .bad => False := q'
              cases ep : popL j ds with
              | none => rw [ep] at q2; exact q2.elim
              | some r2 =>
                rw [ep] at q2
                unfold popL at ep
                cases ek : ixN ds.length j with
                | none => rw [ek] at ep; cases ep
                | some k =>
                  rw [ek, Option.bind_some] at ep
                  cases ed : ds[k]? with
                  | none => rw [ed] at ep; cases ep
                  | some dk =>
                    rw [ed] at ep; cases ep
                    have ix := ixN_seq ek
                    have hl : ds.length ≤ sizeLine := by
                      obtain ⟨v1, fi, fr, h1', h2', _, _, _⟩ := StR.take (m0 := .U) st1.st (getG_some e2) em (by simp)
                      obtain ⟨a', vs', fq', _, _, _, hl, _⟩ := h2'
                      exact hl
                    have hn := line63
                    obtain ⟨vk, fd, fq2, t1, t2, t3, t4, t5⟩ := Rl.erase n5 ed
                    refine ⟨a0, vs, j, k, vk, rfl, rfl, n3, by omega, by omega, by rw [n5.len]; exact ix.1, t1, ?_⟩
                    have naf : ∀ x ∈ fq2 ++ fd, x ≠ a0 := fun x hx e => by subst e; exact n7 (t5 x hx)
                    have rl' : Rl X.K B1 (upd H1 a0 (.lst (vs.eraseIdx k))) (ds.eraseIdx k) mc (vs.eraseIdx k) fq2 := t3.mono (Same.refl _) _ (upd_kept (fun x hx => (Rl.own _ t3 x hx).1) fun q => naf a0 (List.mem_append_left _ q) rfl)
                    have rd' : R X.K B1 (upd H1 a0 (.lst (vs.eraseIdx k))) dk mc vk fd := t2.mono (Same.refl _) dk (upd_kept (fun x hx => (R.own dk t2 x hx).1) fun q => naf a0 (List.mem_append_right _ q) rfl)
                    obtain ⟨d2, fp2, u1, u2, u3, u4⟩ := n10 (vs.eraseIdx k) (ds.eraseIdx k) fq2 fd rl' (Nat.le_trans (len_erase _ _) hl) (t4 n6) (fun x hx => .inl (t5 x hx))
                    cases u1
                    exact q2 B1 _ vk fd fp2 (s1.trans u2) u3 rd' u4
            | _ => exact q'.elim
        | _ => exact q.elim
    | _ => exact q.elim
/-! ### zip, enumerate -/
def zipD : List D → List D → List D
  | x :: xs, y :: ys => .tup [x, y] :: zipD xs ys
  | _, _ => []
theorem zipD_get : ∀ {xs ys : List D} {i : Nat} {d : D}, (zipD xs ys)[i]? = some d → ∃ x y, xs[i]? = some x ∧ ys[i]? = some y ∧ d = .tup [x, y]
  | x :: xs, y :: ys, 0, d, h => ⟨x, y, rfl, rfl, by simpa [zipD] using h.symm⟩
  | x :: xs, y :: ys, i + 1, d, h => by
    obtain ⟨u, v, h1, h2, h3⟩ := zipD_get (xs := xs) (ys := ys) (i := i) (by simpa [zipD] using h)
    exact ⟨u, v, by simpa using h1, by simpa using h2, h3⟩
  | [], ys, i, d, h => by simp [zipD] at h
  | _ :: _, [], i, d, h => by simp [zipD] at h
theorem zipD_length : ∀ {xs ys : List D}, (zipD xs ys).length = min xs.length ys.length
  | [], _ => by simp [zipD]
  | _ :: _, [] => by simp [zipD]
  | x :: xs, y :: ys => by
    simp only [zipD, List.length_cons, zipD_length (xs := xs) (ys := ys)]
    omega
/-- a new pair of two frozen values -/
theorem pair_new {K : PySem.W.Frag} {B1 H1 B0 H0 : Hp} {T : Addr} {x y : V} {d e : D} (s1 : Same B0 B1) (s2 : Same B1 H1) (hT : H1 T = none) (r1 : R K B0 H0 d .F x []) (r2 : R K B0 H0 e .F y []) :
    ∃ fpx, Stp B1 H1 [] B1 (upd H1 T (.tup [x, y])) fpx ∧ Same B1 (upd H1 T (.tup [x, y])) ∧ R K B1 (upd H1 T (.tup [x, y])) (.tup [d, e]) (.O .F) (.ref T) fpx ∧ fpx.Nodup := by
  have bT : B1 T = none := by
    cases e : B1 T with
    | none => rfl
    | some o => rw [s2 T o e] at hT; cases hT
  refine ⟨[T], ⟨Same.refl _, fun a o _ q => by rw [upd_ne (ne_of_none q hT)]; exact q, fun a h => .inr (by rw [List.mem_singleton.mp h]; exact hT), fun a o q => .inl q⟩, fresh_same s2 hT, ?_, by simp⟩
  exact ⟨T, [x, y], [], rfl, bT, upd_same, by show 2 ≤ sizeLine; decide, ⟨x, [y], [], [], rfl, r1.mono s1 d Kept.nil, ⟨y, [], [], [], rfl, r2.mono s1 e Kept.nil, ⟨rfl, rfl⟩, rfl⟩, rfl⟩, rfl⟩
theorem it_zipL {K : PySem.W.Frag} {B H : Hp} {a b : Addr} {us vs : List V} {ds es : List D} (ha : SqL K B a us) (hb : SqL K B b vs) (hl : ds.length ≤ sizeLine) (r1 : Rl K B H ds .F us []) (r2 : Rl K B H es .F vs []) : ItR K (Itz K a b) B (.O .F) (zipD ds es) := ⟨by rw [zipD_length]; omega, fun i B1 H1 s1 s2 => by
  have a2 : SqL K H1 a us := Same.sqL s2 (Same.sqL s1 ha)
  have b2 : SqL K H1 b vs := Same.sqL s2 (Same.sqL s1 hb)
  refine ⟨fun d e => ?_, fun h => ⟨us, vs, a2, b2, by rw [r1.len, r2.len]; rw [zipD_length] at h; omega⟩⟩
  obtain ⟨x, y, e1, e2, rfl⟩ := zipD_get e
  obtain ⟨u, f1, q1⟩ := r1.get e1
  obtain ⟨v, f2, q2⟩ := r2.get e2
  refine ⟨⟨us, vs, u, v, a2, b2, f1, f2⟩, fun w H2 hy => ?_⟩
  obtain ⟨T, x', y', rfl, hT, rfl, g1, g2⟩ := hy
  have z1 := g1 us a2
  have z2 := g2 vs b2
  rw [f1] at z1; rw [f2] at z2
  cases z1; cases z2
  exact pair_new s1 s2 hT q1 q2⟩
theorem it_zipT {K : PySem.W.Frag} {B H : Hp} {a b : Addr} {us vs : List V} {ds es : List D} (ha : SqT K B a us) (hb : SqT K B b vs) (hl : ds.length ≤ sizeLine) (r1 : Rl K B H ds .F us []) (r2 : Rl K B H es .F vs []) : ItR K (RZ.ItzT K a b) B (.O .F) (zipD ds es) := ⟨by rw [zipD_length]; omega, fun i B1 H1 s1 s2 => by
  have a2 : SqT K H1 a us := Same.sqT s2 (Same.sqT s1 ha)
  have b2 : SqT K H1 b vs := Same.sqT s2 (Same.sqT s1 hb)
  refine ⟨fun d e => ?_, fun h => ⟨us, vs, a2, b2, by rw [r1.len, r2.len]; rw [zipD_length] at h; omega⟩⟩
  obtain ⟨x, y, e1, e2, rfl⟩ := zipD_get e
  obtain ⟨u, f1, q1⟩ := r1.get e1
  obtain ⟨v, f2, q2⟩ := r2.get e2
  refine ⟨⟨us, vs, u, v, a2, b2, f1, f2⟩, fun w H2 hy => ?_⟩
  obtain ⟨T, x', y', rfl, hT, rfl, g1, g2⟩ := hy
  have z1 := g1 us a2
  have z2 := g2 vs b2
  rw [f1] at z1; rw [f2] at z2
  cases z1; cases z2
  exact pair_new s1 s2 hT q1 q2⟩
/-- the parts of two lists, of two tuples -/
def zipO : List D → Option (List D)
  | [.lst ds, .lst es] => some (zipD ds es)
  | [.tup ds, .tup es] => some (zipD ds es)
  | _ => none
theorem DI.zip {elts : List Expr} {kk : Nat} {tpos p0 : Pos} {fa : Gam → Rz (List D)} (hg : Gl X "zip") (hm : X.mg "zip" = none) (ha : DA X w μ [a, b] fa [.F, .F] μ') (hs : starEach [a, b] X.env = (false, eval a X.env) :: starEach [b] X.env) (hpl : (backTo pos (starEach [b] X.env)).any (·.1) = false) :
    DI X w μ (.Tuple elts kk tpos) (.Call (.Name "zip" p0) [a, b] [] pos) (eNi zipO fa) (.O .F) μ' := by
  refine ⟨(RZ.pi_zipA hg hm ha.pa hs hpl).imp fun σ H Q ⟨B, Γ, fp, st, q⟩ => ⟨B, Γ, fp, st, ?_⟩⟩
  unfold eNi at q
  revert q
  cases fa Γ with
  | bad => exact id
  | exc x Γ' => exact id
  | ok xs Γ' =>
    intro q B' H' vs fpv fp' s st' r nd
    obtain ⟨x, y, u, v, f1, f2, rfl, rfl, r1, r2, rfl⟩ := r.two
    have z1 := r1.fpF
    have z2 := r2.fpF
    subst z1; subst z2
    cases x with
    | lst ds =>
      cases y with
      | lst es =>
        obtain ⟨_, p1, us, rfl, h1, hl, g1⟩ := r1
        obtain ⟨_, p2, ws, rfl, h2, hl2, g2⟩ := r2
        exact ⟨p1, p2, us, ws, rfl, .inl ⟨Same.sqL st'.same h1, Same.sqL st'.same h2, q B' H' _ fp' s st' (it_zipL h1 h2 hl g1 g2)⟩⟩
      | _ => exact q.elim
    | tup ds =>
      cases y with
      | tup es =>
        obtain ⟨_, p1, us, rfl, h1, hl, g1⟩ := r1
        obtain ⟨_, p2, ws, rfl, h2, hl2, g2⟩ := r2
        exact ⟨p1, p2, us, ws, rfl, .inr ⟨Same.sqT st'.same h1, Same.sqT st'.same h2, q B' H' _ fp' s st' (it_zipT h1 h2 hl g1 g2)⟩⟩
      | _ => exact q.elim
    | _ => exact q.elim
def enumD (k : Nat) : List D → List D
  | [] => []
  | d :: ds => .tup [.int (k : Nat), d] :: enumD (k + 1) ds
theorem enumD_length : ∀ {ds : List D} {k : Nat}, (enumD k ds).length = ds.length
  | [], _ => rfl
  | d :: ds, k => by simp [enumD, enumD_length]
theorem enumD_get : ∀ {ds : List D} {k i : Nat} {d : D}, (enumD k ds)[i]? = some d → ∃ x, ds[i]? = some x ∧ d = .tup [.int ((k + i : Nat) : Int), x]
  | d0 :: ds, k, 0, d, h => ⟨d0, rfl, by simpa [enumD] using h.symm⟩
  | d0 :: ds, k, i + 1, d, h => by
    obtain ⟨x, h1, h2⟩ := enumD_get (ds := ds) (k := k + 1) (i := i) (by simpa [enumD] using h)
    exact ⟨x, by simpa using h1, by rw [h2, Nat.add_assoc, Nat.add_comm 1 i]⟩
  | [], k, i, d, h => by simp [enumD] at h
theorem it_enum {K : PySem.W.Frag} {B H : Hp} {a : Addr} {us : List V} {ds : List D} (ha : SqL K B a us) (hl : ds.length ≤ sizeLine) (r1 : Rl K B H ds .F us []) : ItR K (Ite K a) B (.O .F) (enumD 0 ds) := ⟨by rw [enumD_length]; exact hl, fun i B1 H1 s1 s2 => by
  have a2 : SqL K H1 a us := Same.sqL s2 (Same.sqL s1 ha)
  refine ⟨fun d e => ?_, fun h => ⟨us, a2, by rw [r1.len]; rw [enumD_length] at h; exact h⟩⟩
  obtain ⟨x, e1, rfl⟩ := enumD_get e
  obtain ⟨u, f1, q1⟩ := r1.get e1
  refine ⟨⟨us, u, a2, f1⟩, fun w H2 hy => ?_⟩
  obtain ⟨T, x', rfl, hT, rfl, g1⟩ := hy
  have z1 := g1 us a2
  rw [f1] at z1
  cases z1
  rw [Nat.zero_add]
  exact pair_new (d := .int ((i : Nat) : Int)) s1 s2 hT ⟨rfl, rfl⟩ q1⟩
def enumO : List D → Option (List D)
  | [.lst ds] => some (enumD 0 ds)
  | _ => none
theorem DI.enum {elts : List Expr} {kk : Nat} {tpos p0 : Pos} {fa : Gam → Rz (List D)} (hg : Gl X "enumerate") (hm : X.mg "enumerate" = none) (ha : DA X w μ [a] fa [.F] μ') (hs : starEach [a] X.env = [(false, eval a X.env)]) :
    DI X w μ (.Tuple elts kk tpos) (.Call (.Name "enumerate" p0) [a] [] pos) (eNi enumO fa) (.O .F) μ' := by
  refine ⟨(pi_enum hg hm ha.pa hs).imp fun σ H Q ⟨B, Γ, fp, st, q⟩ => ⟨B, Γ, fp, st, ?_⟩⟩
  unfold eNi at q
  revert q
  cases fa Γ with
  | bad => exact id
  | exc x Γ' => exact id
  | ok xs Γ' =>
    intro q B' H' vs fpv fp' s st' r nd
    obtain ⟨x, v, rfl, rfl, r1⟩ := r.one
    have z1 := r1.fpF
    subst z1
    cases x with
    | lst ds =>
      obtain ⟨_, p1, us, rfl, h1, hl, g1⟩ := r1
      exact ⟨p1, us, rfl, Same.sqL st'.same h1, q B' H' _ fp' s st' (it_enum h1 hl g1)⟩
    | _ => exact q.elim
/-! ### isinstance, built-in classes -/
/-- the class of a datum -/
def tyD : D → Option String
  | .non => some "NoneType"
  | .bl _ => some "bool"
  | .int _ => some "int"
  | .str _ => some "str"
  | .lst _ => some "list"
  | .tup _ => some "tuple"
  | .dct _ _ => some "dict"
  | .obj _ _ _ => none
def isiB (T C : String) : Bool := T == C || (T == "bool" && C == "int")
def isiD (Cs : List String) (d : D) : Option D := (tyD d).map fun T => .bl (Cs.any (isiB T))
def tyOk (T C : String) : Bool := decide (kitB T C = some (isiB T C))
def tys : List String := ["NoneType", "bool", "int", "str", "list", "tuple", "dict"]
theorem kit_all : (tys.all fun T => tys.all fun C => C == "NoneType" || tyOk T C) = true := by decide +kernel
theorem kit_one {K : PySem.W.Frag} {T C : String} (hT : T ∈ tys) (hC : C ∈ tys) (hn : C ≠ "NoneType") : PySem.W.kitOne K (.type T) (.type C) = some (isiB T C) := by
  have h := List.all_eq_true.mp (List.all_eq_true.mp kit_all T hT) C hC
  rw [Bool.or_eq_true] at h
  rcases h with h | h
  · exact absurd (beq_iff_eq.mp h) hn
  · exact kit_ty (of_decide_eq_true h)
theorem kit_any {K : PySem.W.Frag} {T : String} (hT : T ∈ tys) : ∀ {Cs : List String}, (∀ C ∈ Cs, C ∈ tys ∧ C ≠ "NoneType") → PySem.W.kitAny K (.type T) (Cs.map Value.type) = some (Cs.any (isiB T))
  | [], _ => kitAny_nil
  | C :: Cs, h => by
    have h1 := kit_one (K := K) hT (h C List.mem_cons_self).1 (h C List.mem_cons_self).2
    have ih := kit_any (K := K) hT (Cs := Cs) fun C hC => h C (List.mem_cons_of_mem _ hC)
    rw [List.any_cons]
    exact kitAny_cons h1 (fun e => by rw [e, Bool.false_or]; exact ih) fun e => by rw [e, Bool.true_or]
theorem tyD_mem {d : D} {T : String} (h : tyD d = some T) : T ∈ tys := by
  cases d <;> cases h <;> decide
theorem R.tyX {K : PySem.W.Frag} {B H : Hp} (s : Same B H) {d : D} {mm : Mode} {v : V} {fp : List Addr} {T : String} (r : R K B H d mm v fp) (h : tyD d = some T) : TyX K H v (.type T) := by
  cases d with
  | non => cases h; obtain ⟨rfl, _⟩ := r; exact .base .non
  | bl b => cases h; obtain ⟨rfl, _⟩ := r; exact .base (.bl b)
  | int i => cases h; obtain ⟨rfl, _⟩ := r; exact .base (.int i)
  | str x => cases h; obtain ⟨rfl, _⟩ := r; exact .base (.str x)
  | lst ds =>
    cases h
    obtain ⟨a, vs, fq, rfl, hs, _⟩ := (r.seq s).1 ds rfl
    rcases hs with (hs | ⟨o, hs⟩) | ⟨o, its, n, e, c, _⟩
    · exact .base (.lst hs)
    · exact .base (.frz hs)
    · exact .kList e c
  | tup ds =>
    cases h
    obtain ⟨a, vs, fq, rfl, hs, _⟩ := (r.seq s).2 ds rfl
    rcases hs with (hs | ⟨o, hs⟩) | ⟨o, its, n, e, c, _⟩
    · exact .base (.tup hs)
    · exact .fTuple hs
    · exact .kTuple e c
  | dct ks ds =>
    cases h
    have key : ∀ {a : Addr} {vs : List V} {o : HO}, H a = some o → dctO B ks vs o → TyX K H (.ref a) (.type "dict") := fun {a vs o} e hd => by
      rcases hd with ⟨kvs, rfl, _⟩ | ⟨kvs, rfl, _⟩
      · exact .base (.dK e)
      · exact .base (.dT e)
    cases mm with
    | F =>
      obtain ⟨_, a, vs, o, rfl, hs, hd, _⟩ := r
      exact key (s _ _ hs) hd
    | O m =>
      obtain ⟨a, vs, o, fq, rfl, b0, ha, hd, _⟩ := r
      exact key ha hd
    | _ => exact r.elim
  | obj _ _ _ => cases h
theorem DE.isi {Cs : List String} {p0 p1 : Pos} {c : Expr} (hg : Gl X "isinstance") (hm : X.mg "isinstance" = none) (ha : DE X w μ a f m μ') (hC : ∀ C ∈ Cs, C ∈ tys ∧ C ≠ "NoneType")
    (hc : (∃ C, Cs = [C] ∧ PE X c (tC (.ty C))) ∨ PE X c (fun _ H1 Q => ∀ p, H1 p = none → Q (.ref p) (upd H1 p (.tup (Cs.map V.ty)))))
    (he : starEach [a, c] X.env = (false, eval a X.env) :: starEach [c] X.env) (hs : starEach [c] X.env = (false, eval c X.env) :: starEach [] X.env) (hpl : (backTo pos (starEach [c] X.env)).any (·.1) = false) : DE X w μ (.Call (.Name "isinstance" p0) [a, c] [] pos) (e1 (isiD Cs) f) .Z μ' := by
  rcases hc with ⟨C, rfl, hc⟩ | hc
  · refine ⟨(pe_callB call_isi hg hm (by decide +kernel) (pa_cons ha.pe (pa_cons hc pa_nil hs) he) (by decide) (by decide) he hpl).imp fun σ H Q ⟨B, Γ, fp, st, q⟩ => ⟨B, Γ, fp, st, ?_⟩⟩
    unfold e1 at q
    revert q
    cases f Γ with
    | bad => exact id
    | exc x Γ' => exact id
    | ok d Γ' =>
      intro q B' H' v fpv fp' s st' r nd
      cases e : tyD d with
      | none =>
        have e' : isiD [C] d = none := by unfold isiD; rw [e]; rfl
        have q' : match Rz.opt (isiD [C] d) Γ' with
          | .ok d Γ' => ∀ B' H' v fpv fp', Stp B H fp B' H' (fpv ++ fp') → Sta X.K B' H' Γ' μ' σ fp' → R X.K B' H' d .Z v fpv → (fpv ++ fp').Nodup → Q v H'
          | .exc x Γ' => wexc X.K w B H fp σ x Γ'
          | .bad => False := q
        rw [e'] at q'; exact q'.elim
      | some T =>
        have e' : isiD [C] d = some (.bl ([C].any (isiB T))) := by unfold isiD; rw [e]; rfl
        have q' : match Rz.opt (isiD [C] d) Γ' with
          | .ok d Γ' => ∀ B' H' v fpv fp', Stp B H fp B' H' (fpv ++ fp') → Sta X.K B' H' Γ' μ' σ fp' → R X.K B' H' d .Z v fpv → (fpv ++ fp').Nodup → Q v H'
          | .exc x Γ' => wexc X.K w B H fp σ x Γ'
          | .bad => False := q
        rw [e'] at q'
        have hc' := hC C List.mem_cons_self
        refine ⟨v, .ty C, .type T, .type C, [C].any (isiB T), rfl, .ty C, r.tyX st'.same e, ?_, q' B' H' _ [] fp' (s.less fun x hx => List.mem_append_right _ hx) st' ⟨rfl, rfl⟩ st'.nd⟩
        rw [List.any_cons, List.any_nil, Bool.or_false]
        exact kit_one (tyD_mem e) hc'.1 hc'.2
  · refine ⟨(pe_callB call_isiT hg hm (by decide +kernel) (pa_cons ha.pe (pa_cons hc pa_nil hs) he) (by decide) (by decide) he hpl).imp fun σ H Q ⟨B, Γ, fp, st, q⟩ => ⟨B, Γ, fp, st, ?_⟩⟩
    unfold e1 at q
    revert q
    cases f Γ with
    | bad => exact id
    | exc x Γ' => exact id
    | ok d Γ' =>
      intro q B' H' v fpv fp' s st' r nd
      cases e : tyD d with
      | none =>
        have e' : isiD Cs d = none := by unfold isiD; rw [e]; rfl
        have q' : match Rz.opt (isiD Cs d) Γ' with
          | .ok d Γ' => ∀ B' H' v fpv fp', Stp B H fp B' H' (fpv ++ fp') → Sta X.K B' H' Γ' μ' σ fp' → R X.K B' H' d .Z v fpv → (fpv ++ fp').Nodup → Q v H'
          | .exc x Γ' => wexc X.K w B H fp σ x Γ'
          | .bad => False := q
        rw [e'] at q'; exact q'.elim
      | some T =>
        have e' : isiD Cs d = some (.bl (Cs.any (isiB T))) := by unfold isiD; rw [e]; rfl
        have q' : match Rz.opt (isiD Cs d) Γ' with
          | .ok d Γ' => ∀ B' H' v fpv fp', Stp B H fp B' H' (fpv ++ fp') → Sta X.K B' H' Γ' μ' σ fp' → R X.K B' H' d .Z v fpv → (fpv ++ fp').Nodup → Q v H'
          | .exc x Γ' => wexc X.K w B H fp σ x Γ'
          | .bad => False := q
        rw [e'] at q'
        intro p hp
        have bp : B' p = none := by
          cases e : B' p with
          | none => rfl
          | some o => rw [st'.same p o e] at hp; cases hp
        have npf : p ∉ fp' := fun h => by
          obtain ⟨_, o, e⟩ := st'.st.own p h
          rw [e] at hp; cases hp
        have sm2 : Same B' (upd H' p (.tup (Cs.map V.ty))) := fresh_same st'.same hp
        have npv : p ∉ fpv := fun h => by
          obtain ⟨_, o, e⟩ := R.own d r p h
          rw [e] at hp; cases hp
        have r' : R X.K B' (upd H' p (.tup (Cs.map V.ty))) d m v fpv := r.mono (Same.refl _) d (upd_kept (fun a h => (R.own d r a h).1) npv)
        have clsAll : ∀ (l : List String), Paired ClsV (l.map V.ty) (l.map Value.type) := fun l => by
          induction l with
          | nil => exact .nil
          | cons C l ih => exact .cons (.ty C) ih
        refine ⟨v, p, Cs.map V.ty, .type T, Cs.map Value.type, Cs.any (isiB T), rfl, upd_same, clsAll Cs, r'.tyX sm2 e, kit_any (tyD_mem e) hC, ?_⟩
        refine q' B' _ _ [] fp' ?_ ⟨sm2, st'.st.mono (Same.refl _) (upd_kept (fun a h => (st'.st.own a h).1) npf), st'.nd⟩ ⟨rfl, rfl⟩ st'.nd
        exact ⟨s.base, fun a o n e => by
          have e' := s.keep a o n e
          rw [upd_ne (ne_of_none e' hp)]; exact e', fun a h => s.own a (List.mem_append_right _ h), s.new⟩
/-! ### the rule for a def -/
/-- modes at the entry, at a return; what is pinned; what the changed arguments are then -/
def μIn (n : Nat) (pm : List Mode) : List Mode := pm ++ List.replicate (n - pm.length) .U
def μOut : List Bool → List Mode → Nat → List Mode
  | b :: io, m :: pm, n + 1 => (if b = true then m else .X) :: μOut io pm n
  | _, _, n => List.replicate n .X
def pinOf : List Bool → List V → List (Option V)
  | b :: io, v :: vs => (if b = true then some v else none) :: pinOf io vs
  | _, _ => []
def ioOf : List Bool → Gam → List (Option D)
  | b :: io, g :: Γ => (if b = true then g else none) :: ioOf io Γ
  | _, _ => []
def runF (N : Nat) (io : List Bool) (fb : Gam → Sz) (ds : List D) : Fo := match fb (ds.map some ++ List.replicate (N - ds.length) none) with
  | .rt d Γ => .ok d (ioOf io Γ)
  | .nx Γ => .ok .non (ioOf io Γ)
  | .exc x Γ => .exc x (ioOf io Γ)
  | _ => .bad
theorem start_ok {K : PySem.W.Frag} {B H : Hp} : ∀ {ds : List D} {pm : List Mode} {vs : List V} {fp : List Addr} {k : Nat}, Ra K B H ds pm vs fp → StR K B H (ds.map some ++ List.replicate k none) (pm ++ List.replicate k .U) (vs.map some ++ List.replicate k none) fp
  | [], [], vs, fp, k, h => by
    obtain ⟨rfl, rfl⟩ := h
    induction k with
    | zero => rfl
    | succ k ih => exact ⟨[], [], rfl, ih, rfl⟩
  | d :: ds, m :: pm, vs, fp, k, h => by
    obtain ⟨v, r, fp1, fp2, rfl, h1, h2, rfl⟩ := h
    exact ⟨fp1, fp2, .inr ⟨v, rfl, h1⟩, start_ok h2, rfl⟩
  | [], _ :: _, _, _, _, h => h.elim
  | _ :: _, [], _, _, _, h => h.elim
theorem out_ok {K : PySem.W.Frag} {B H : Hp} : ∀ {io : List Bool} {pm : List Mode} {vs : List V} {n : Nat} {Γ : Gam} {σ : St} {fp : List Addr}, io.length = pm.length → vs.length = pm.length → pm.length ≤ n → StR K B H Γ (μOut io pm n) σ fp → PinOk (pinOf io vs) σ → Ro K B H (ioOf io Γ) pm vs fp
  | [], [], vs, n, Γ, σ, fp, h1, h2, h3, h, p => by
    have e1 : vs = [] := List.length_eq_zero_iff.mp h2
    subst e1
    have z : fp = [] := by
      have h' : StR K B H Γ (List.replicate n .X) σ fp := by
        cases n <;> exact h
      clear h p h3
      induction n generalizing Γ σ fp with
      | zero =>
        match Γ, σ, h' with
        | [], [], h' => exact h'
        | [], _ :: _, h' => exact h'.elim
        | _ :: _, _, h' => exact h'.elim
      | succ n ih =>
        match Γ, σ, h' with
        | g :: Γ, s :: σ, h' =>
          obtain ⟨f1, f2, q1, q2, rfl⟩ := h'
          rw [ih _ _ _ q2, q1.flat rfl]; rfl
        | [], _, h' => exact h'.elim
        | _ :: _, [], h' => exact h'.elim
    subst z
    show Ro K B H [] [] [] []
    exact ⟨rfl, rfl⟩
  | b :: io, m :: pm, v :: vs, n + 1, Γ, σ, fp, h1, h2, h3, h, p => by
    match Γ, σ, h with
    | g :: Γ, s :: σ, h =>
      obtain ⟨f1, f2, q1, q2, rfl⟩ := h
      have ih := out_ok (io := io) (pm := pm) (vs := vs) (n := n) (Nat.succ.inj h1) (Nat.succ.inj h2) (Nat.le_of_succ_le_succ h3) q2 fun i u hp => by
        have := p (i + 1) u (by simpa [pinOf] using hp)
        simpa using this
      cases b with
      | true =>
        have es : s = some v := by
          have := p 0 v rfl
          simpa using this
        subst es
        exact ⟨v, vs, f1, f2, rfl, q1, ih, rfl⟩
      | false =>
        have z : f1 = [] := q1.flat rfl
        subst z
        exact ⟨v, vs, [], f2, rfl, rfl, ih, rfl⟩
    | [], _, h => exact h.elim
    | _ :: _, [], h => exact h.elim
  | [], _ :: _, _, _, _, _, _, h1, _, _, _, _ => by cases h1
  | _ :: _, [], _, _, _, _, _, h1, _, _, _, _ => by cases h1
  | _ :: _, _ :: _, [], _, _, _, _, _, h2, _, _, _ => by cases h2
  | _ :: _, _ :: _, _ :: _, 0, _, _, _, _, _, h3, _, _ => by cases h3
theorem start_pin {io : List Bool} {vs : List V} {k : Nat} : PinOk (pinOf io vs) (vs.map some ++ List.replicate k none) := by
  induction io generalizing vs with
  | nil => exact fun i v h => by cases vs <;> simp [pinOf] at h
  | cons b io ih =>
    cases vs with
    | nil => exact fun i v h => by simp [pinOf] at h
    | cons v vs =>
      intro i u h
      cases i with
      | zero =>
        cases b with
        | true => simp [pinOf] at h; simp [h]
        | false => simp [pinOf] at h
      | succ i =>
        have := ih (vs := vs) i u (by simpa [pinOf] using h)
        simpa using this
/-- a def by its body -/
theorem fn_rule {P : Program} {w : World} {K : PySem.W.Frag} {mg : Str → Option Value} {base : Heap} {x qual : Str} {params : Arguments} {body : List Stmt} {scope : Scope} {dvs : List V} {kws : List (Str × V)} {f : Addr} {fd : FuncData} {N ps : List Str} {k : Nat} {pm : List Mode} {rm : Mode} {io : List Bool} {fb : Gam → Sz} {μe : List Mode}
    (F : FunD K x qual params body scope dvs kws f fd) (S : FnScope N ps scope) (h1 : pm.length = ps.length) (h2 : io.length = pm.length) (h3 : pm.length ≤ N.length) (wk : weakL μe (μOut io pm N.length) = true)
    (hbody : ∀ (cdv : Value) (A : Around) (outer : List Env) (s : Shared) (H : Hp) (E : XK) (vs : List V), Room k (A.deeper (PyProof.Rows.envOfC qual scope s.heap.objs.size f cdv)) →
      DSs (cxOf (L2.CX P w) P w K mg base N qual scope f cdv A outer s H E) ⟨⟨fun cls d _ H => E cls d H, μOut io pm N.length⟩, rm, μOut io pm N.length, [], [], pinOf io vs⟩ (μIn N.length pm) body fb μe) :
    FnOk P w K mg base (L2.CX P w) (k + 1) f fd ps (spD K pm rm (runF N.length io fb)) := by
  refine F.ok S (fun vs H Q E h => ?_) (fun cdv A outer s H vs Q E hr h => ?_)
  · obtain ⟨B, ds, fp, _, ra, _⟩ := h
    rw [ra.len.1, h1]
  · obtain ⟨B, ds, fp, sm, ra, nd, q⟩ := h
    have hl := ra.len
    refine ⟨_, ((hbody cdv A outer s H E vs hr).weak wk).ps, start_pin, B, ds.map some ++ List.replicate (N.length - ds.length) none, fp, ⟨sm, ?_, nd⟩, ?_⟩
    · unfold μIn L2.start
      rw [hl.1, hl.2]
      exact start_ok ra
    · unfold runF at q
      revert q
      cases fb (ds.map some ++ List.replicate (N.length - ds.length) none) with
      | nx Γ' =>
        intro q σ' B' H' fp' s st' hp'
        show Q .non H'
        exact q B' H' .non [] fp' s st'.same (by cases rm <;> exact ⟨rfl, rfl⟩) (out_ok h2 (by rw [hl.1]) h3 st'.st hp') st'.nd
      | rt d Γ' => exact fun q σ' B' H' v fpv fp' s st' r nd' hp' => q B' H' v fpv fp' s st'.same r (out_ok h2 (by rw [hl.1]) h3 st'.st hp') nd'
      | exc x Γ' => exact fun q σ' B' H' fpe fp' cls dd s st' ex nd' hp' => q B' H' fpe fp' cls dd s st'.same ex (out_ok h2 (by rw [hl.1]) h3 st'.st hp') nd'
      | bk Γ' => exact fun q => q.elim
      | ct Γ' => exact fun q => q.elim
      | bad => exact id
/-- a promise by another name of what it gives -/
theorem spD_imp {K : PySem.W.Frag} {pm : List Mode} {rm : Mode} {F G : List D → Fo} (h : ∀ ds, G ds ≠ .bad → F ds = G ds) (vs : List V) (H : Hp) (Q : VK) (E : XK) (q : spD K pm rm G vs H Q E) : spD K pm rm F vs H Q E := by
  obtain ⟨B, ds, fp, sm, ra, nd, q⟩ := q
  refine ⟨B, ds, fp, sm, ra, nd, ?_⟩
  have e : F ds = G ds := h ds fun z => by rw [z] at q; exact q
  rw [e]; exact q
end
end EV

/-! EvZS: zip(a, b, strict=True) of two sequences of one length, each a list or a tuple. -/
namespace EV
open PySem PySem.Spec L2
open PySem.Sem (wp)
inductive SK | ls | tp
def SK.It : SK → Heap → Addr → Addr → Nat → Prop
  | .ls, h, it, l, i => h.IsListIter it l i
  | .tp, h, it, l, i => h.IsTupleIter it l i
def SK.Sq : SK → Heap → Addr → Array Value → Prop
  | .ls, h, l, xs => h.IsList l xs
  | .tp, h, l, xs => h.IsTuple l xs
theorem SK.It.ext : ∀ {k : SK} {h h' : Heap} {b a l : Addr} {i : Nat}, k.It h a l i → Heap.ExtBut b h h' → a ≠ b → k.It h' a l i
  | .ls, h, h', b, a, l, i, x, s, n => Heap.IsListIter.extBut (l := l) (i := i) (show h.IsListIter a l i from x) s n
  | .tp, h, h', b, a, l, i, x, s, n => Heap.IsTupleIter.extBut (show h.IsTupleIter a l i from x) s n
theorem SK.It.at : ∀ {k : SK} {h h' : Heap} {a l : Addr} {i : Nat}, k.It h a l i → (∀ o, h.get? a = some o → h'.get? a = some o) → k.It h' a l i
  | .ls, h, _, a, l, i, x, e => Heap.IsListIter.at (show h.IsListIter a l i from x) e
  | .tp, h, _, a, l, i, x, e => Heap.IsTupleIter.at (show h.IsTupleIter a l i from x) e
theorem SK.Sq.ext : ∀ {k : SK} {h h' : Heap} {b a : Addr} {xs : Array Value}, k.Sq h a xs → Heap.ExtBut b h h' → a ≠ b → k.Sq h' a xs
  | .ls, h, _, _, a, xs, x, s, n => Heap.IsList.extBut (show h.IsList a xs from x) s n
  | .tp, h, _, _, a, xs, x, s, n => Heap.IsTuple.extBut (show h.IsTuple a xs from x) s n
theorem SK.Sq.push : ∀ {k : SK} {h : Heap} {a : Addr} {xs : Array Value} (o : Obj), k.Sq h a xs → k.Sq (h.push o) a xs
  | .ls, h, a, xs, o, x => Heap.IsList.push (show h.IsList a xs from x) o
  | .tp, h, a, xs, o, x => Heap.IsTuple.push (show h.IsTuple a xs from x) o
theorem SK.It.some : ∀ {k : SK} {h : Heap} {a l : Addr} {i : Nat}, k.It h a l i → ∃ o, h.get? a = some o ∧ ∀ v, o.data ≠ .cell v
  | .ls, _, _, _, _, ⟨o, e, _, d⟩ => ⟨o, e, fun v q => by rw [d] at q; cases q⟩
  | .tp, _, _, _, _, ⟨o, e, _, d⟩ => ⟨o, e, fun v q => by rw [d] at q; cases q⟩
theorem SK.Sq.lt : ∀ {k : SK} {h : Heap} {a : Addr} {xs : Array Value}, k.Sq h a xs → a < h.objs.size
  | .ls, _, _, _, ⟨o, e, _⟩ => Heap.lt_size e
  | .tp, _, _, _, ⟨o, e, _⟩ => Heap.lt_size e
abbrev IsZipS (h : Heap) (z TI TO : Addr) (f0 : Value) : Prop :=
  h.get? z = some { cls := .type "zip", dict := none, data := .fields #[f0, .bool false, .bool true, .ref TI, .ref TO], slots := #[] }
section
variable {prog : Program} {w : World} {A : Around} {E : Value → Shared → Prop} {s : Shared}
theorem SK.next_item : ∀ {k : SK} {it l : Addr} {i : Nat} {items : Array Value} {x : Value} {Q : Value → Shared → Prop} (hit : k.It s.heap it l i) (hl : k.Sq s.heap l items) (hx : items[i]? = some x)
    (hQ : ∀ h', k.It h' it l (i + 1) → Heap.SameBut it s.heap h' → Q x { s with heap := h' }), wpAny (model prog w) A (Builtin.SmallTypes.nextOf (.ref it)) Q E s
  | .ls, it, l, i, items, _, _, a, b, c, q => wpAny_nextOf_list_item (show s.heap.IsListIter it l i from a) (show s.heap.IsList l items from b) c q
  | .tp, it, l, i, items, _, _, a, b, c, q => RZ.nextOf_tuple_item (show s.heap.IsTupleIter it l i from a) (show s.heap.IsTuple l items from b) c q
theorem SK.next_end : ∀ {k : SK} {it l : Addr} {i : Nat} {items : Array Value} {Q : Value → Shared → Prop} (hh : A.handled = none) (hit : k.It s.heap it l i) (hl : k.Sq s.heap l items) (hx : items[i]? = none)
    (hE : ∀ h' e, Heap.ExtBut it s.heap h' → (∃ o, h'.get? e = some o ∧ o.cls = .type "StopIteration") → E (.ref e) { s with heap := h' }), wpAny (model prog w) A (Builtin.SmallTypes.nextOf (.ref it)) Q E s
  | .ls, it, l, i, items, _, hh, a, b, c, q => wpAny_nextOf_list_end hh (show s.heap.IsListIter it l i from a) (show s.heap.IsList l items from b) c q
  | .tp, it, l, i, items, _, hh, a, b, c, q => RZ.nextOf_tuple_end hh (show s.heap.IsTupleIter it l i from a) (show s.heap.IsTuple l items from b) c q
theorem orEnd_item {k : SK} {it l : Addr} {i : Nat} {items : Array Value} {x : Value} {Q : Option Value → Shared → Prop} (hit : k.It s.heap it l i) (hl : k.Sq s.heap l items) (hx : items[i]? = some x)
    (hQ : ∀ h', k.It h' it l (i + 1) → Heap.SameBut it s.heap h' → Q (some x) { s with heap := h' }) : wpAny (model prog w) A (Builtin.SmallTypes.nextOrEnd (.ref it)) Q E s := by
  unfold Builtin.SmallTypes.nextOrEnd
  exact wpAny_bind (wpAny_attempt (SK.next_item hit hl hx fun h' a b => wpAny_pure (hQ h' a b)))
theorem orEnd_end {k : SK} {it l : Addr} {i : Nat} {items : Array Value} {Q : Option Value → Shared → Prop} (hh : A.handled = none) (hit : k.It s.heap it l i) (hl : k.Sq s.heap l items) (hx : items[i]? = none)
    (hQ : ∀ h', Heap.ExtBut it s.heap h' → Q none { s with heap := h' }) : wpAny (model prog w) A (Builtin.SmallTypes.nextOrEnd (.ref it)) Q E s := by
  unfold Builtin.SmallTypes.nextOrEnd
  refine wpAny_bind (wpAny_attempt (SK.next_end hh hit hl hx fun h' e hb he => ?_))
  obtain ⟨o, ho, hc⟩ := he
  refine wpAny_bind (wpAny_isInstance (T := "StopIteration") (b := true) ⟨o, ho, hc⟩ isSubtype_stop ?_)
  exact wpAny_pure (hQ _ hb)
theorem zipS_next_item {k k' : SK} {z TI TO i1 i2 l1 l2 : Addr} {k1 k2 : Nat} {xs ys : Array Value} {x y a b : Value} {Q : Value → Shared → Prop} (D : ZipApart z TI TO i1 i2 l1 l2)
    (hz : IsZipS s.heap z TI TO .none) (hTI : IsPair s.heap TI (.ref i1) (.ref i2)) (hTO : IsPair s.heap TO a b)
    (h1 : k.It s.heap i1 l1 k1) (h2 : k'.It s.heap i2 l2 k2) (hl1 : k.Sq s.heap l1 xs) (hl2 : k'.Sq s.heap l2 ys) (hx : xs[k1]? = some x) (hy : ys[k2]? = some y)
    (hQ : ∀ h', IsZipS h' z TI TO (rawInt s.heap.objs.size) → IsPair h' TO x y → k.It h' i1 l1 (k1 + 1) → k'.It h' i2 l2 (k2 + 1) → IsPair h' s.heap.objs.size x y → h'.objs.size = s.heap.objs.size + 1 →
      (∀ c o, c ≠ z → c ≠ TO → c ≠ i1 → c ≠ i2 → s.heap.get? c = some o → h'.get? c = some o) → Q (.ref s.heap.objs.size) { s with heap := h' }) :
    wpAny (model prog w) A (Builtin.«zip.__next__» ⟨[.ref z], []⟩) (fun fin s' => ∃ v, fin = .done (.ret v) ∧ Q v s') E s := by
  show wpAny _ _ (field (.ref z) 2 >>= _) _ _ _
  refine wpAny_bind (wpAny_field hz rfl (x := .bool true) rfl ?_)
  show wpAny _ _ (field (.ref z) 3 >>= _) _ _ _
  refine wpAny_bind (wpAny_field hz rfl (x := .ref TI) rfl ?_)
  refine wpAny_bind (wpAny_seqItems hTI rfl ?_)
  show wpAny _ _ (Builtin.SmallTypes.ownedTupleIsFree (.ref z) >>= _) _ _ _
  refine wpAny_bind ?_
  unfold Builtin.SmallTypes.ownedTupleIsFree
  refine wpAny_bind (wpAny_field hz rfl (x := .none) rfl (wpAny_pure ?_))
  simp only [if_true]
  refine wpAny_bind (wpAny_rule ?_)
  refine wpAny_bind (wpAny_field hz rfl (x := .ref TO) rfl ?_)
  refine wpAny_bind (wpAny_setField_rec hz (by simp) fun h₁ hz₁ hs₁ => ?_)
  replace hz₁ : IsZipS h₁ z TI TO .ellipsis := hz₁
  refine wpAny_bind ?_
  simp only [List.zipIdx_cons, List.zipIdx_nil, List.forIn_cons, List.forIn_nil]
  refine wpAny_bind (wpAny_bind (wpAny_onRaise ?_))
  show wpAny _ _ (Builtin.SmallTypes.nextOrEnd (.ref i1)) _ _ _
  refine orEnd_item (k := k) (h1.ext hs₁.extBut D.i1z) (hl1.ext hs₁.extBut D.l1z) hx fun h₂ h1₂ hs₂ => ?_
  have hTO₂ : IsPair h₂ TO a b := hs₂.extBut _ _ D.TOi1 (hs₁.extBut _ _ D.TOz hTO)
  refine wpAny_bind (wpAny_seqItems hTO₂ rfl ?_)
  refine wpAny_bind (wpAny_updateSeq_pair hTO₂ fun h₃ hTO₃ hs₃ => ?_)
  replace hTO₃ : IsPair h₃ TO x b := hTO₃
  refine wpAny_bind (wpAny_letGo (wpAny_pure ?_))
  refine wpAny_bind (wpAny_bind (wpAny_onRaise ?_))
  show wpAny _ _ (Builtin.SmallTypes.nextOrEnd (.ref i2)) _ _ _
  refine orEnd_item (k := k') (((h2.ext hs₁.extBut D.i2z).ext hs₂.extBut D.i12.symm).ext hs₃.extBut D.TOi2.symm)
    (((hl2.ext hs₁.extBut D.l2z).ext hs₂.extBut D.l2i1).ext hs₃.extBut D.l2TO) hy fun h₄ h2₄ hs₄ => ?_
  have hTO₄ : IsPair h₄ TO x b := hs₄.extBut _ _ D.TOi2 hTO₃
  refine wpAny_bind (wpAny_seqItems hTO₄ rfl ?_)
  refine wpAny_bind (wpAny_updateSeq_pair hTO₄ fun h₅ hTO₅ hs₅ => ?_)
  replace hTO₅ : IsPair h₅ TO x y := hTO₅
  refine wpAny_bind (wpAny_letGo (wpAny_pure (wpAny_pure ?_)))
  refine wpAny_bind (wpAny_seqItems hTO₅ rfl ?_)
  refine wpAny_bind (wpAny_newTuple ?_)
  have hsz : h₅.objs.size = s.heap.objs.size := by rw [hs₅.1, hs₄.1, hs₃.1, hs₂.1, hs₁.1]
  have hz₅ : IsZipS h₅ z TI TO .ellipsis := hs₅.extBut _ _ D.TOz.symm (hs₄.extBut _ _ D.i2z.symm (hs₃.extBut _ _ D.TOz.symm (hs₂.extBut _ _ D.i1z.symm hz₁)))
  have hk₅ : ∀ c o, c ≠ z → c ≠ TO → c ≠ i1 → c ≠ i2 → s.heap.get? c = some o → h₅.get? c = some o := fun c o c1 c2 c3 c4 e =>
    hs₅.extBut _ _ c2 (hs₄.extBut _ _ c4 (hs₃.extBut _ _ c2 (hs₂.extBut _ _ c3 (hs₁.extBut _ _ c1 e))))
  have h1₅ : k.It h₅ i1 l1 (k1 + 1) := ((h1₂.ext hs₃.extBut D.TOi1.symm).ext hs₄.extBut D.i12).ext hs₅.extBut D.TOi1.symm
  have h2₅ : k'.It h₅ i2 l2 (k2 + 1) := h2₄.ext hs₅.extBut D.TOi2.symm
  have hzlt : z < h₅.objs.size := Heap.lt_size hz₅
  show wpAny _ _ (Builtin.SmallTypes.ownedTupleHandOut (.ref z) (.ref h₅.objs.size) >>= _) _ _ _
  refine wpAny_bind ?_
  unfold Builtin.SmallTypes.ownedTupleHandOut
  have hz₆ : IsZipS (h₅.push { cls := .type "tuple", data := .seq #[x, y] }) z TI TO .ellipsis := Heap.get?_push_of_some _ hz₅
  refine wpAny_bind (wpAny_setField_rec hz₆ (by simp) fun h₇ hz₇ hs₇ => ?_)
  replace hz₇ : IsZipS h₇ z TI TO (rawInt h₅.objs.size) := hz₇
  refine wpAny_setField_rec hz₇ (by simp) fun h₈ hz₈ hs₈ => ?_
  replace hz₈ : IsZipS h₈ z TI TO (rawInt h₅.objs.size) := hz₈
  have up : ∀ c o, c ≠ z → h₅.get? c = some o → h₈.get? c = some o := fun c o c1 e => hs₈.extBut _ _ c1 (hs₇.extBut _ _ c1 (Heap.get?_push_of_some _ e))
  have hT₈ : IsPair h₈ h₅.objs.size x y := hs₈.extBut _ _ (Nat.ne_of_gt hzlt) (hs₇.extBut _ _ (Nat.ne_of_gt hzlt) (Heap.get?_push_size _ rfl))
  have hz8 : h₈.objs.size = h₅.objs.size + 1 := by rw [hs₈.1, hs₇.1, Heap.size_push]
  rw [hsz] at hz₈ hT₈ hz8
  refine wpAny_pure ⟨_, rfl, ?_⟩
  show Q (.ref h₅.objs.size) _
  rw [hsz]
  exact hQ h₈ hz₈ (up _ _ D.TOz hTO₅) (h1₅.at fun o e => up _ o D.i1z e) (h2₅.at fun o e => up _ o D.i2z e) hT₈ hz8 fun c o c1 c2 c3 c4 e => up c o c1 (hk₅ c o c1 c2 c3 c4 e)
theorem zipS_next_end {k k' : SK} {z TI TO i1 i2 l1 l2 : Addr} {k1 k2 : Nat} {xs ys : Array Value} {a b : Value} {Q : Fin → Shared → Prop} (hh : A.handled = none) (D : ZipApart z TI TO i1 i2 l1 l2)
    (hz : IsZipS s.heap z TI TO .none) (hTI : IsPair s.heap TI (.ref i1) (.ref i2)) (hTO : IsPair s.heap TO a b)
    (h1 : k.It s.heap i1 l1 k1) (h2 : k'.It s.heap i2 l2 k2) (hl1 : k.Sq s.heap l1 xs) (hl2 : k'.Sq s.heap l2 ys) (hx : xs[k1]? = none) (hy : ys[k2]? = none)
    (hE : ∀ h' e, (∀ c o, c ≠ z → c ≠ TO → c ≠ i1 → c ≠ i2 → s.heap.get? c = some o → h'.get? c = some o) → (∃ o, h'.get? e = some o ∧ o.cls = .type "StopIteration") → E (.ref e) { s with heap := h' }) :
    wpAny (model prog w) A (Builtin.«zip.__next__» ⟨[.ref z], []⟩) Q E s := by
  show wpAny _ _ (field (.ref z) 2 >>= _) _ _ _
  refine wpAny_bind (wpAny_field hz rfl (x := .bool true) rfl ?_)
  show wpAny _ _ (field (.ref z) 3 >>= _) _ _ _
  refine wpAny_bind (wpAny_field hz rfl (x := .ref TI) rfl ?_)
  refine wpAny_bind (wpAny_seqItems hTI rfl ?_)
  show wpAny _ _ (Builtin.SmallTypes.ownedTupleIsFree (.ref z) >>= _) _ _ _
  refine wpAny_bind ?_
  unfold Builtin.SmallTypes.ownedTupleIsFree
  refine wpAny_bind (wpAny_field hz rfl (x := .none) rfl (wpAny_pure ?_))
  simp only [if_true]
  refine wpAny_bind (wpAny_rule ?_)
  refine wpAny_bind (wpAny_field hz rfl (x := .ref TO) rfl ?_)
  refine wpAny_bind (wpAny_setField_rec hz (by simp) fun h₁ hz₁ hs₁ => ?_)
  replace hz₁ : IsZipS h₁ z TI TO .ellipsis := hz₁
  refine wpAny_bind ?_
  simp only [List.zipIdx_cons, List.zipIdx_nil, List.forIn_cons, List.forIn_nil]
  refine wpAny_bind (wpAny_bind (wpAny_onRaise ?_))
  show wpAny _ _ (Builtin.SmallTypes.nextOrEnd (.ref i1)) _ _ _
  refine orEnd_end (k := k) hh (h1.ext hs₁.extBut D.i1z) (hl1.ext hs₁.extBut D.l1z) hx fun h₂ hs₂ => ?_
  have hz₂ : IsZipS h₂ z TI TO .ellipsis := hs₂ _ _ D.i1z.symm hz₁
  refine wpAny_bind (wpAny_setField_rec hz₂ (by simp) fun h₃ hz₃ hs₃ => ?_)
  refine wpAny_bind ?_
  show wpAny _ _ (((Builtin.SmallTypes.nextOrEnd (.ref i2) >>= _) >>= _) >>= _) _ _ _
  refine wpAny_bind (wpAny_bind (wpAny_bind ?_))
  have k3 : ∀ c o, c ≠ z → c ≠ i1 → s.heap.get? c = some o → h₃.get? c = some o := fun c o c1 c3 x => hs₃.extBut _ _ c1 (hs₂ _ _ c3 (hs₁.extBut _ _ c1 x))
  have h2₃ : k'.It h₃ i2 l2 k2 := h2.at fun o x => k3 i2 o D.i2z D.i12.symm x
  have hl2₃ : k'.Sq h₃ l2 ys := ((hl2.ext hs₁.extBut D.l2z).ext hs₂ D.l2i1).ext hs₃.extBut D.l2z
  refine orEnd_end (k := k') hh h2₃ hl2₃ hy fun h₄ hs₄ => ?_
  refine wpAny_pure (wpAny_pure ?_)
  refine wpAny_bind (wpAny_rule ?_)
  show wpAny _ _ (newExc (.type "StopIteration") [] >>= _) _ _ _
  refine wpAny_bind ?_
  simp only [newExc, newTuple]
  refine wpAny_bind (wpAny_newObj_type ?_ (by size_fits))
  refine wpAny_bind (m := firstArgMember _ _) (wpAny_of_eq (a := Value.none) (by first | rfl | (simp only [firstArgMember]; rfl)) ?_)
  refine wpAny_newObj_type ?_ (by size_fits)
  simp only [raiseNew]
  refine wpAny_bind (wpAny_handled ?_)
  first | rw [show A.in1.handled = none from hh] | rw [hh]
  refine wpAny_bind (wpAny_pure (wpAny_throw ?_))
  exact hE _ _ (fun c o c1 _ c3 c4 x => Heap.get?_push_of_some _ (Heap.get?_push_of_some _ (hs₄ _ _ c4 (k3 c o c1 c3 x)))) ⟨_, Heap.get?_push_size _ rfl, rfl⟩
theorem pyNext_zipS_item {k k' : SK} {z TI TO i1 i2 l1 l2 : Addr} {k1 k2 : Nat} {xs ys : Array Value} {x y a b : Value} {Q : Option Value → Shared → Prop} (D : ZipApart z TI TO i1 i2 l1 l2)
    (hz : IsZipS s.heap z TI TO .none) (hTI : IsPair s.heap TI (.ref i1) (.ref i2)) (hTO : IsPair s.heap TO a b)
    (h1 : k.It s.heap i1 l1 k1) (h2 : k'.It s.heap i2 l2 k2) (hl1 : k.Sq s.heap l1 xs) (hl2 : k'.Sq s.heap l2 ys) (hx : xs[k1]? = some x) (hy : ys[k2]? = some y)
    (hQ : ∀ h', IsZipS h' z TI TO (rawInt s.heap.objs.size) → IsPair h' TO x y → k.It h' i1 l1 (k1 + 1) → k'.It h' i2 l2 (k2 + 1) → IsPair h' s.heap.objs.size x y → h'.objs.size = s.heap.objs.size + 1 →
      (∀ c o, c ≠ z → c ≠ TO → c ≠ i1 → c ≠ i2 → s.heap.get? c = some o → h'.get? c = some o) → Q (some (.ref s.heap.objs.size)) { s with heap := h' }) :
    wpAny (model prog w) A (pyNext (.ref z)) Q E s := by
  have hT : s.TypeIs (.ref z) "zip" := ⟨_, hz, rfl⟩
  unfold pyNext
  exact wpAny_bind (wpAny_attempt (wpAny_callSpecial?_slot (name := Str.ofString "__next__") hT F.slot_zip_next
    (wpAny_call_entry F.slot_zip_next hT F.entry_zip_next
      (zipS_next_item D hz hTI hTO h1 h2 hl1 hl2 hx hy fun h' a1 a2 a3 a4 a5 a6 a7 => wpAny_pure (hQ h' a1 a2 a3 a4 a5 a6 a7)) (F.args_zip_next_1 _))))
theorem pyNext_zipS_end {k k' : SK} {z TI TO i1 i2 l1 l2 : Addr} {k1 k2 : Nat} {xs ys : Array Value} {a b : Value} {Q : Option Value → Shared → Prop} (hh : A.handled = none) (D : ZipApart z TI TO i1 i2 l1 l2)
    (hz : IsZipS s.heap z TI TO .none) (hTI : IsPair s.heap TI (.ref i1) (.ref i2)) (hTO : IsPair s.heap TO a b)
    (h1 : k.It s.heap i1 l1 k1) (h2 : k'.It s.heap i2 l2 k2) (hl1 : k.Sq s.heap l1 xs) (hl2 : k'.Sq s.heap l2 ys) (hx : xs[k1]? = none) (hy : ys[k2]? = none)
    (hQ : ∀ h', (∀ c o, c ≠ z → c ≠ TO → c ≠ i1 → c ≠ i2 → s.heap.get? c = some o → h'.get? c = some o) → Q none { s with heap := h' }) : wpAny (model prog w) A (pyNext (.ref z)) Q E s := by
  have hT : s.TypeIs (.ref z) "zip" := ⟨_, hz, rfl⟩
  unfold pyNext
  refine wpAny_bind (wpAny_attempt (wpAny_callSpecial?_slot (name := Str.ofString "__next__") hT F.slot_zip_next
    (wpAny_call_entry F.slot_zip_next hT F.entry_zip_next (zipS_next_end hh D hz hTI hTO h1 h2 hl1 hl2 hx hy fun h' e hk he => ?_) (F.args_zip_next_1 _))))
  obtain ⟨o, ho, hc⟩ := he
  refine wpAny_bind (wpAny_isInstance (T := "StopIteration") (b := true) ⟨o, ho, hc⟩ isSubtype_stop ?_)
  exact wpAny_pure (hQ _ hk)
theorem letGo_zipS {elts : List Expr} {x1} {pos : Pos} {z TI TO T : Addr} {Q : Unit → Shared → Prop} (hz : IsZipS s.heap z TI TO (rawInt T))
    (hQ : ∀ h', IsZipS h' z TI TO .none → Heap.SameBut z s.heap h' → Q () { s with heap := h' }) :
    wpAny (model prog w) A (letOwnedTupleGo (.Tuple elts x1 pos) (.ref z) (.ref T)) Q E s := by
  unfold letOwnedTupleGo
  refine wpAny_bind (wpAny_load hz ?_)
  show wpAny _ _ (if (["enumerate", "zip", "dict_itemiterator", "dict_reverseitemiterator", "odict_iterator", "itertools.zip_longest", "itertools.pairwise"].contains "zip" &&
      (#[rawInt T, .bool false, .bool true, .ref TI, .ref TO] : Array Value)[0]? == some (rawInt T)) = true then _ else _) Q E s
  rw [if_pos (by simp)]
  refine wpAny_bind (wpAny_rule ?_)
  show wpAny _ _ (setField (.ref z) 0 .none) Q E s
  exact wpAny_setField_rec hz (by simp) fun h' hz' hs' => hQ h' hz' hs'
theorem pyIter_zipS {z TI TO : Addr} {f0 : Value} {Q : Value → Shared → Prop} (hz : IsZipS s.heap z TI TO f0) (h : Q (.ref z) s) : wpAny (model prog w) A (pyIter (.ref z)) Q E s := by
  have hT : s.TypeIs (.ref z) "zip" := ⟨_, hz, rfl⟩
  refine wpAny_pyIter_slot hT F.slot_zip_iter (wpAny_call_entry F.slot_zip_iter hT F.entry_zip_iter ?_ (F.args_zip_iter_1 _))
  show wpAny _ _ (ret (.ref z)) _ _ s
  exact wpAny_pure ⟨_, rfl, "zip", _, hT, F.slot_zip_next.lookup, h⟩
end
/-! ### zip(a, b, strict=True) made -/
def SK.nm : SK → String
  | .ls => "list_iterator"
  | .tp => "tuple_iterator"
abbrev zsH1 (k : SK) (h : Heap) (l1 : Addr) : Heap := h.push { cls := .type k.nm, data := .fields #[.ref l1, .int 0 0] }
abbrev zsH2 (k k' : SK) (h : Heap) (l1 l2 : Addr) : Heap := (zsH1 k h l1).push { cls := .type k'.nm, data := .fields #[.ref l2, .int 0 0] }
abbrev zsH3 (k k' : SK) (h : Heap) (l1 l2 : Addr) : Heap := (zsH2 k k' h l1 l2).push { cls := .type "tuple", data := .seq #[.ref h.objs.size, .ref (zsH1 k h l1).objs.size] }
abbrev zsH4 (k k' : SK) (h : Heap) (l1 l2 : Addr) : Heap := (zsH3 k k' h l1 l2).push { cls := .type "tuple", data := .seq #[.none, .none] }
abbrev zsH5 (k k' : SK) (h : Heap) (l1 l2 : Addr) : Heap := (zsH4 k k' h l1 l2).push { cls := .type "zip", data := .fields #[.none, .bool false, .bool true, .ref (zsH2 k k' h l1 l2).objs.size, .ref (zsH3 k k' h l1 l2).objs.size] }
abbrev kwS : List (Str × Value) := [(Str.ofString "strict", .bool true)]
theorem meets_zipS (k k' : SK) (l1 l2 : Addr) (xs ys : Array Value) :
    Meets (Builtin.«zip.__new__» ⟨[.type "zip", .ref l1, .ref l2], kwS⟩) (fun _ R s => k.Sq s.heap l1 xs ∧ k'.Sq s.heap l2 ys ∧
      R (.ok (.ret (.ref (zsH4 k k' s.heap l1 l2).objs.size))) { s with heap := zsH5 k k' s.heap l1 l2 }) :=
  .of_wp fun prog w A R s h => by
    obtain ⟨hp, g, d, tk, os⟩ := s; obtain ⟨hl1, hl2, h⟩ := h
    have hsub := sub_zip
    cases k with
    | ls =>
      have hL1 : Heap.IsList (Shared.heap ⟨hp, g, d, tk, os⟩) l1 xs := hl1
      cases k' with
      | ls =>
        have hL2 : Heap.IsList (Shared.heap ⟨hp.push { cls := .type "list_iterator", data := .fields #[.ref l1, .int 0 0] }, g, d, tk, os⟩) l2 ys := Heap.IsList.push hl2 _
        wp_walk using wpAny_pyIter_list hL1, wpAny_pyIter_list hL2
        exact ⟨_, rfl, h⟩
      | tp =>
        have hL2 : Heap.IsTuple (Shared.heap ⟨hp.push { cls := .type "list_iterator", data := .fields #[.ref l1, .int 0 0] }, g, d, tk, os⟩) l2 ys := Heap.IsTuple.push hl2 _
        wp_walk using wpAny_pyIter_list hL1, wpAny_pyIter_tuple hL2
        exact ⟨_, rfl, h⟩
    | tp =>
      have hL1 : Heap.IsTuple (Shared.heap ⟨hp, g, d, tk, os⟩) l1 xs := hl1
      cases k' with
      | ls =>
        have hL2 : Heap.IsList (Shared.heap ⟨hp.push { cls := .type "tuple_iterator", data := .fields #[.ref l1, .int 0 0] }, g, d, tk, os⟩) l2 ys := Heap.IsList.push hl2 _
        wp_walk using wpAny_pyIter_tuple hL1, wpAny_pyIter_list hL2
        exact ⟨_, rfl, h⟩
      | tp =>
        have hL2 : Heap.IsTuple (Shared.heap ⟨hp.push { cls := .type "tuple_iterator", data := .fields #[.ref l1, .int 0 0] }, g, d, tk, os⟩) l2 ys := Heap.IsTuple.push hl2 _
        wp_walk using wpAny_pyIter_tuple hL1, wpAny_pyIter_tuple hL2
        exact ⟨_, rfl, h⟩
section
variable {prog : Program} {w : World} {A : Around} {E : Value → Shared → Prop} {s : Shared}
theorem callType_meetsK {T newId initId : String} {Bn Bi : Builtin} {args : List Value} {kw : List (Str × Value)} {S : Spec} {Q Q₁ : Value → Shared → Prop} (ft : TypeCalled T newId initId)
    (hct : checkTypeCall T ⟨args, kw⟩ = pure ()) (hcn : checkBuiltinCall newId ⟨.type T :: args, kw⟩ = pure ())
    (entryN : entryFor table newId = some Bn) (entryI : entryFor table initId = some Bi) (g : Meets (Bn ⟨.type T :: args, kw⟩) S)
    (h : S A.in1 (wants Q₁ E) s)
    (hnext : ∀ obj s₁, Q₁ obj s₁ → s₁.TypeIs obj T ∧ argsOk initId ⟨obj :: args, kw⟩ ∧ ∃ Si, Meets (Bi ⟨obj :: args, kw⟩) Si ∧ Si A.in1 (wants (fun r s₂ => r = .none ∧ Q obj s₂) E) s₁) :
    wpAny (model prog w) A (call (.type T) args kw) Q E s := by
  obtain ⟨c, tl, hmro⟩ := ft.mro
  have hmade := ft.made
  have hsub := ft.sub
  refine wpAny_call (codeAny_of_tree ?_)
  show wpAny _ _ (callAny (.type T) _) _ _ _
  refine wpAny_pure ⟨Code.quiet_builtin _ (by decide +kernel), codeAny_builtin F.entry_type_call ?_⟩
  rw [Around.under_plain (weight_type_call_type T args kw) (units_type_call_type T args kw)]
  have h1 := ft.notType
  have h2 := ft.canCreate
  repeat (any_goals (first | assumption | wp_step))
  refine codeAny_mono (codeAny_call_builtin ft.plain entryN (wpAny_of_eq hcn (g prog w A.in1 _ s h))) fun r s₁ hr => ?_
  cases r with
  | error e => exact hr
  | ok fl =>
    cases fl with
    | ret obj =>
      obtain ⟨hT, hok, Si, gi, hsi⟩ := hnext _ _ hr
      have hli := ft.init.lookup
      have hbi := ft.init.bind obj
      repeat (any_goals (first | assumption | wp_step))
      refine codeAny_mono (codeAny_call_builtin ft.init.plain entryI (ft.init.check _ _ _ _ _ _ _ _ hT hok (gi prog w A.in1 _ s₁ hsi))) fun r₂ s₂ hr₂ => ?_
      cases r₂ with
      | error e => exact hr₂
      | ok fl₂ =>
        cases fl₂ with
        | ret r =>
          obtain ⟨rfl, hq⟩ := hr₂
          repeat (any_goals (first | assumption | wp_step))
        | _ => exact hr₂.elim
    | _ => exact hr.elim
theorem init_meetsK {T newId : String} {self a : Value} {rest : List Value} {kw : List (Str × Value)} (hl : typeLookup (.type T) "__init__" = pure (some (.builtin "object.__init__")))
    (hm : Bind.madeBy (.type T) = pure (some newId)) (hne : (some newId != some "object.__new__") = true) :
    Meets (Builtin.«object.__init__» ⟨self :: a :: rest, kw⟩) (fun _ R s => s.TypeIs self T ∧ R (.ok (.ret .none)) s) := by
  refine Meets.of_wp fun prog w A R s hs => ?_
  obtain ⟨hT, hq⟩ := hs
  repeat (any_goals (first | assumption | wp_step))
  exact ⟨_, rfl, hq⟩
theorem zipS_typeCall (a b : Value) : checkTypeCall "zip" ⟨[a, b], kwS⟩ = pure () := by kernel_rfl
theorem zipS_newCall (a b : Value) : checkBuiltinCall "zip.__new__" ⟨[.type "zip", a, b], kwS⟩ = pure () := by kernel_rfl
theorem zipS_init (a b c : Value) : argsOk "object.__init__" ⟨[a, b, c], kwS⟩ := by
  unfold argsOk; rw [signature?_of (id := "object.__init__") (n := ['_', '_', 't', 'i', 'n', 'i', '_', '_']) (o := ['t', 'c', 'e', 'j', 'b', 'o']) (by kernel_rfl) F.owner_object]; kernel_rfl
theorem SK.it0 : ∀ {k : SK} {h : Heap} {i l : Addr}, h.get? i = Option.some { cls := .type k.nm, data := .fields #[.ref l, .int 0 0] } → k.It h i l 0
  | .ls, _, _, _, e => ⟨_, e, rfl, rfl⟩
  | .tp, _, _, _, e => ⟨_, e, rfl, rfl⟩
theorem call_zipS {k k' : SK} {l1 l2 : Addr} {xs ys : Array Value} {Q : Value → Shared → Prop} (hl1 : k.Sq s.heap l1 xs) (hl2 : k'.Sq s.heap l2 ys)
    (h : ∀ h', IsZipS h' (s.heap.objs.size + 4) (s.heap.objs.size + 2) (s.heap.objs.size + 3) .none → IsPair h' (s.heap.objs.size + 2) (.ref s.heap.objs.size) (.ref (s.heap.objs.size + 1)) →
      IsPair h' (s.heap.objs.size + 3) .none .none → k.It h' s.heap.objs.size l1 0 → k'.It h' (s.heap.objs.size + 1) l2 0 → h'.objs.size = s.heap.objs.size + 5 →
      (∀ c o, s.heap.get? c = some o → h'.get? c = some o) → Q (.ref (s.heap.objs.size + 4)) { s with heap := h' }) :
    wpAny (model prog w) A (call (.type "zip") [.ref l1, .ref l2] kwS) Q E s := by
  refine callType_meetsK (Q₁ := fun obj s₁ => s₁.TypeIs obj "zip" ∧ Q obj s₁) F.called_zip (zipS_typeCall _ _) (zipS_newCall _ _) F.entry_zip_new F.entry_object_init (meets_zipS k k' l1 l2 xs ys) ⟨hl1, hl2, ?_⟩ fun obj _ hq =>
    ⟨hq.1, zipS_init _ _ _, _, init_meetsK F.called_zip.init.lookup F.called_zip.made (by decide), hq.1, rfl, hq.2⟩
  have z1 : (zsH1 k s.heap l1).objs.size = s.heap.objs.size + 1 := Heap.size_push ..
  have z2 : (zsH2 k k' s.heap l1 l2).objs.size = s.heap.objs.size + 2 := by rw [Heap.size_push, z1]
  have z3 : (zsH3 k k' s.heap l1 l2).objs.size = s.heap.objs.size + 3 := by rw [Heap.size_push, z2]
  have z4 : (zsH4 k k' s.heap l1 l2).objs.size = s.heap.objs.size + 4 := by rw [Heap.size_push, z3]
  have z5 : (zsH5 k k' s.heap l1 l2).objs.size = s.heap.objs.size + 5 := by rw [Heap.size_push, z4]
  have g5 : (zsH5 k k' s.heap l1 l2).get? (zsH4 k k' s.heap l1 l2).objs.size = some _ := Heap.get?_push_size _ rfl
  have g4 : (zsH5 k k' s.heap l1 l2).get? (zsH3 k k' s.heap l1 l2).objs.size = some _ := Heap.get?_push_of_some _ (Heap.get?_push_size _ rfl)
  have g3 : (zsH5 k k' s.heap l1 l2).get? (zsH2 k k' s.heap l1 l2).objs.size = some _ := Heap.get?_push_of_some _ (Heap.get?_push_of_some _ (Heap.get?_push_size _ rfl))
  have g2 : (zsH5 k k' s.heap l1 l2).get? (zsH1 k s.heap l1).objs.size = some _ := Heap.get?_push_of_some _ (Heap.get?_push_of_some _ (Heap.get?_push_of_some _ (Heap.get?_push_size _ rfl)))
  have g1 : (zsH5 k k' s.heap l1 l2).get? s.heap.objs.size = some _ := Heap.get?_push_of_some _ (Heap.get?_push_of_some _ (Heap.get?_push_of_some _ (Heap.get?_push_of_some _ (Heap.get?_push_size _ rfl))))
  show _ ∧ _
  rw [z2, z3, z4] at g5
  rw [z1, z2] at g3
  rw [z3] at g4
  rw [z1] at g2
  rw [z4]
  exact ⟨⟨_, g5, rfl⟩, h _ g5 g3 g4 (SK.it0 g1) (SK.it0 g2) z5 fun c o x =>
    Heap.get?_push_of_some _ (Heap.get?_push_of_some _ (Heap.get?_push_of_some _ (Heap.get?_push_of_some _ (Heap.get?_push_of_some _ x))))⟩
end
def SK.Sv (K : PySem.W.Frag) : SK → Hp → Addr → List V → Prop
  | .ls, H, a, xs => SqL K H a xs
  | .tp, H, a, xs => SqT K H a xs
theorem SK.inv {X : Cx} {pins : List (Addr × Obj)} {σ : L2.St} {H : Hp} {s : Shared} : ∀ {k : SK} {a : Addr} {xs : List V}, Inv X pins σ H s → k.Sv X.K H a xs → ∃ its : List Value, Vals xs its ∧ k.Sq s.heap a its.toArray
  | .ls, a, xs, I, h => by
    obtain ⟨its, rv, p, _⟩ := I.list (show SqL X.K H a xs from h)
    exact ⟨its, rv, p.isList⟩
  | .tp, a, xs, I, h => by
    obtain ⟨its, rv, p, _⟩ := I.tuple (show SqT X.K H a xs from h)
    exact ⟨its, rv, p⟩
theorem SK.inj {X : Cx} {pins : List (Addr × Obj)} {σ : L2.St} {H : Hp} {s : Shared} : ∀ {k : SK} {a : Addr} {xs ys : List V}, Inv X pins σ H s → k.Sv X.K H a xs → k.Sv X.K H a ys → xs = ys
  | .ls, _, _, _, I, h, h' => I.list_inj h h'
  | .tp, _, _, _, I, h, h' => I.tuple_inj h h'
theorem SK.same {K : PySem.W.Frag} {H H' : Hp} : ∀ {k : SK} {a : Addr} {xs : List V}, Same H H' → k.Sv K H a xs → k.Sv K H' a xs
  | .ls, _, _, s, h => Same.sqL s h
  | .tp, _, _, s, h => Same.sqT s h
/-- two sequences of one length, the items in new pairs -/
def ItzS (K : PySem.W.Frag) (k k' : SK) (a b : Addr) : It :=
  ⟨fun i H => ∃ (xs ys : List V) (x y : V), k.Sv K H a xs ∧ k'.Sv K H b ys ∧ xs[i]? = some x ∧ ys[i]? = some y,
    fun i H v H' => ∃ T x y, v = .ref T ∧ H T = none ∧ H' = upd H T (.tup [x, y]) ∧ (∀ xs, k.Sv K H a xs → xs[i]? = some x) ∧ ∀ ys, k'.Sv K H b ys → ys[i]? = some y,
    fun i H => ∃ xs ys : List V, k.Sv K H a xs ∧ k'.Sv K H b ys ∧ xs.length ≤ i ∧ ys.length ≤ i⟩
theorem turn_zipS {P : Program} {w : World} {K : PySem.W.Frag} {elts : List Expr} {kk : Nat} {tpos : Pos} {k k' : SK} {a b z TI TO i1 i2 : Addr} (D : ZipApart z TI TO i1 i2 a b) :
    Turn P w K (.Tuple elts kk tpos) (ItzS K k k' a b) [z, TI, TO, i1, i2] z (fun i h => IsZipS h z TI TO .none ∧ IsPair h TI (.ref i1) (.ref i2) ∧ (∃ x y, IsPair h TO x y) ∧ k.It h i1 a i ∧ k'.It h i2 b i) where
  mem := by simp
  obj := fun i h st c hc => by
    obtain ⟨hz, hTI, ⟨x, y, hTO⟩, h1, h2⟩ := st
    have e' : c = z ∨ c = TI ∨ c = TO ∨ c = i1 ∨ c = i2 := by simpa using hc
    rcases e' with q | q | q | q | q
    · rw [q]; exact ⟨_, hz, fun v q => nomatch q⟩
    · rw [q]; exact ⟨_, hTI, fun v q => nomatch q⟩
    · rw [q]; exact ⟨_, hTO, fun v q => nomatch q⟩
    · rw [q]; exact h1.some
    · rw [q]; exact h2.some
  keep := fun i h h' st kp => by
    obtain ⟨hz, hTI, ⟨x, y, hTO⟩, h1, h2⟩ := st
    exact ⟨kp z (by simp) _ hz, kp TI (by simp) _ hTI, ⟨x, y, kp TO (by simp) _ hTO⟩, h1.at fun o q => kp i1 (by simp) o q, h2.at fun o q => kp i2 (by simp) o q⟩
  item := by
    intro X hP hw hK hc i pins s σ H E I hf st hg
    subst hP hw hK
    obtain ⟨hz, hTI, ⟨x0, y0, hTO⟩, h1, h2⟩ := st
    obtain ⟨xs, ys, x, y, hqx, hqy, hx, hy⟩ := hg
    obtain ⟨its, rv, p⟩ := SK.inv I hqx
    obtain ⟨its2, rv2, p2⟩ := SK.inv I hqy
    obtain ⟨u, hu, ru⟩ := rv.get hx
    obtain ⟨u2, hu2, ru2⟩ := rv2.get hy
    have hzl : z < s.heap.objs.size := Heap.lt_size hz
    refine pyNext_zipS_item (k := k) (k' := k') D hz hTI hTO h1 h2 p p2 (x := u) (y := u2) (by simpa using hu) (by simpa using hu2) fun h' z' TO' h1' h2' hT hsz hk => ?_
    refine ⟨_, rfl, letGo_zipS (s := { s with heap := h' }) z' fun h'' z'' sb => ?_⟩
    have hT2 : h''.get? s.heap.objs.size = some { cls := .type "tuple", data := .seq #[u, u2] } := (sb.2 _ (Nat.ne_of_gt hzl)).trans hT
    have new : ObjOk X.prog X.w (upd H s.heap.objs.size (.tup [x, y])) h'' s.heap.objs.size (.tup [x, y]) :=
      ⟨by show 2 ≤ sizeLine; decide, [u, u2], .cons ru (.cons ru2 .nil), ⟨_, hT2, rfl, _, rfl⟩⟩
    have I1 : Inv X pins σ (upd H s.heap.objs.size (.tup [x, y])) { s with heap := h'' } :=
      I.turnedNew (t' := s.toks) (ch := [z, TI, TO, i1, i2]) (fun c o hb q => (sb.2 c (fun q' => hb (by simp [q']))).trans (hk c o (fun q' => hb (by simp [q'])) (fun q' => hb (by simp [q'])) (fun q' => hb (by simp [q'])) (fun q' => hb (by simp [q'])) q)) hf (Nat.le_refl _) new
    refine ⟨.ref s.heap.objs.size, _, I1, rfl, ⟨_, x, y, rfl, I.hok.fresh (Nat.le_refl _), rfl, fun l hl => by rw [SK.inj I hl hqx]; exact hx, fun l hl => by rw [SK.inj I hl hqy]; exact hy⟩, ⟨z'', ?_, ⟨u, u2, ?_⟩, ?_, ?_⟩, fun c hcm => ?_⟩
    · exact (sb.2 _ D.TIz).trans (hk _ _ D.TIz D.TITO D.TIi1 D.TIi2 hTI)
    · exact (sb.2 _ D.TOz).trans TO'
    · exact h1'.at fun o q => (sb.2 _ D.i1z).trans q
    · exact h2'.at fun o q => (sb.2 _ D.i2z).trans q
    · have hlt : c < s.heap.objs.size := by
        have e' : c = z ∨ c = TI ∨ c = TO ∨ c = i1 ∨ c = i2 := by simpa using hcm
        rcases e' with q | q | q | q | q
        · rw [q]; exact hzl
        · rw [q]; exact Heap.lt_size hTI
        · rw [q]; exact Heap.lt_size hTO
        · rw [q]; obtain ⟨_, e1, _⟩ := h1.some; exact Heap.lt_size e1
        · rw [q]; obtain ⟨_, e2, _⟩ := h2.some; exact Heap.lt_size e2
      rw [upd_ne (Nat.ne_of_lt hlt)]
      exact (hf c hcm).1
  done := by
    intro X hP hw hK hc i pins s σ H E I hf st hg
    subst hP hw hK
    obtain ⟨hz, hTI, ⟨x0, y0, hTO⟩, h1, h2⟩ := st
    obtain ⟨xs, ys, hqx, hqy, e1, e2⟩ := hg
    obtain ⟨its, rv, p⟩ := SK.inv I hqx
    obtain ⟨its2, rv2, p2⟩ := SK.inv I hqy
    have l1 := rv.length
    have l2 := rv2.length
    exact pyNext_zipS_end (k := k) (k' := k') (I.ok.hd hc) D hz hTI hTO h1 h2 p p2 (by simp; omega) (by simp; omega) fun h' hk => ⟨rfl, I.turnedL (t' := s.toks) (ch := [z, TI, TO, i1, i2]) (fun c o hb q =>
      hk c o (fun q' => hb (by simp [q'])) (fun q' => hb (by simp [q'])) (fun q' => hb (by simp [q'])) (fun q' => hb (by simp [q'])) q) hf⟩
  self := fun A i s Q E st h => pyIter_zipS st.1 h
section
variable {M : Model} {A : Around} {E : Value → Shared → Prop} {s : Shared} {env : Env}
theorem callWith_type_kw {pos : Pos} {T : String} {args : List (Bool × Sem Value)} {keywords : List (Option Str × Sem Value)} {Q : Value → Shared → Prop}
    (hplain : args.any (·.1) = false) (hkw : keywords.any (·.1.isNone) = false)
    (h : wpAny M A (evalArgs (.type T) true args keywords) (fun a s₁ => wpAny M A (call (.type T) a.pos a.kw) Q E s₁) E s) :
    wpAny M A (callWith pos (.type T) [] args keywords) Q E s := by
  unfold callWith
  refine wpAny_bind (wpAny_holding (wpAny_mono h (fun a s₁ h₁ => wpAny_bind (wpAny_standAt ?_)) fun _ _ x => x))
  simp only [hplain, hkw, Bool.or_false]
  refine wpAny_bind (wpAny_pure ?_)
  exact wpAny_bind (wpAny_mono h₁ (fun r s₂ hr => wpAny_bind (wpAny_holding (wpAny_point (wpAny_pure hr)))) fun _ _ x => x)
end
def iZipS (K : PySem.W.Frag) (ta : TA) : TI := fun σ H R => ta σ H fun vs H1 => ∃ k k' a b xs ys, vs = [.ref a, .ref b] ∧ SK.Sv K k H1 a xs ∧ SK.Sv K k' H1 b ys ∧ R (ItzS K k k' a b) H1
theorem pi_zipS {X : Cx} {e e2 : Expr} {ta : TA} {p pos tpos cpos kpos : Pos} {cj : Nat} {elts : List Expr} {kk : Nat} (hg : Gl X "zip") (hm : X.mg "zip" = none) (ha : PA X [e, e2] ta)
    (hs : starEach [e, e2] X.env = (false, eval e X.env) :: starEach [e2] X.env) (hpl : (backTo pos (starEach [e2] X.env)).any (·.1) = false) :
    PI X (.Tuple elts kk tpos) (.Call (.Name "zip" p) [e, e2] [⟨some (Str.ofString "strict"), .Constant (.bool true) cj cpos, kpos⟩] pos) (iZipS X.K ta) := by
  refine ⟨fun pins s σ H R I h => ?_⟩
  refine wpAny_Call_Name_kw (ld_blt I hg hm PyProof.Rows.boot_zip ?_)
  refine callWith_type_kw (by rw [hs]; exact hpl) rfl ?_
  rw [hs]
  refine PyProof.Rows.evalArgs_kwB rfl ?_
  have h' := ha.run pos pins s σ H _ I h
  rw [hs] at h'
  refine thn h' fun us s1 ⟨vs, H1, I1, r1, q1⟩ => ?_
  refine PyProof.Rows.kws_cons (PyProof.Rows.Constant_bool (PyProof.Rows.kws_nil ?_))
  obtain ⟨k, k', a, b, xs, ys, ex, hqx, hqy, q⟩ := q1
  subst ex
  cases r1 with
  | cons r rr =>
    cases rr with
    | cons r' rr =>
      cases rr
      cases r
      cases r'
      have fresh5 : ∀ c, c ∈ [s1.heap.objs.size + 4, s1.heap.objs.size + 2, s1.heap.objs.size + 3, s1.heap.objs.size, s1.heap.objs.size + 1] → FpOk X pins H1 c := fun c hcm => by
        have e' : c = s1.heap.objs.size + 4 ∨ c = s1.heap.objs.size + 2 ∨ c = s1.heap.objs.size + 3 ∨ c = s1.heap.objs.size ∨ c = s1.heap.objs.size + 1 := by simpa using hcm
        have hle : s1.heap.objs.size ≤ c := by
          rcases e' with z | z | z | z | z
          · rw [z]; exact Nat.le_add_right _ _
          · rw [z]; exact Nat.le_add_right _ _
          · rw [z]; exact Nat.le_add_right _ _
          · rw [z]; exact Nat.le_refl _
          · rw [z]; exact Nat.le_add_right _ _
        exact I1.fpOk hle (I1.hok.fresh hle)
      obtain ⟨its, rv, p1⟩ := SK.inv I1 hqx
      obtain ⟨its2, rv2, p2⟩ := SK.inv I1 hqy
      refine call_zipS p1 p2 fun h' hz hTI hTO h1 h2 hsz hk => pyIter_zipS hz ?_
      have I2 : Inv X pins σ H1 { s1 with heap := h' } := I1.kept (t' := s1.toks) hk
      exact ⟨s1.heap.objs.size + 4, [s1.heap.objs.size + 4, s1.heap.objs.size + 2, s1.heap.objs.size + 3, s1.heap.objs.size, s1.heap.objs.size + 1], _, _, H1, rfl, I2, turn_zipS (PySem.W.ktu_apart s1.heap.objs.size a b p1.lt p2.lt), ⟨hz, hTI, ⟨_, _, hTO⟩, h1, h2⟩, fresh5, q⟩
theorem it_zipS {K : PySem.W.Frag} {B H : Hp} {k k' : SK} {a b : Addr} {us vs : List V} {ds es : List D} (ha : k.Sv K B a us) (hb : k'.Sv K B b vs) (hl : ds.length ≤ sizeLine) (he : ds.length = es.length) (r1 : Rl K B H ds .F us []) (r2 : Rl K B H es .F vs []) : ItR K (ItzS K k k' a b) B (.O .F) (zipD ds es) := ⟨by rw [zipD_length]; omega, fun i B1 H1 s1 s2 => by
  have a2 : k.Sv K H1 a us := SK.same s2 (SK.same s1 ha)
  have b2 : k'.Sv K H1 b vs := SK.same s2 (SK.same s1 hb)
  refine ⟨fun d e => ?_, fun h => ⟨us, vs, a2, b2, by rw [r1.len]; rw [zipD_length] at h; omega, by rw [r2.len]; rw [zipD_length] at h; omega⟩⟩
  obtain ⟨x, y, e1, e2, rfl⟩ := zipD_get e
  obtain ⟨u, f1, q1⟩ := r1.get e1
  obtain ⟨v, f2, q2⟩ := r2.get e2
  refine ⟨⟨us, vs, u, v, a2, b2, f1, f2⟩, fun w H2 hy => ?_⟩
  obtain ⟨T, x', y', rfl, hT, rfl, g1, g2⟩ := hy
  have z1 := g1 us a2
  have z2 := g2 vs b2
  rw [f1] at z1; rw [f2] at z2
  cases z1; cases z2
  exact pair_new s1 s2 hT q1 q2⟩
def sqOf : D → Option (List D)
  | .lst ds => some ds
  | .tup ds => some ds
  | _ => none
def zipSO : List D → Option (List D)
  | [a, b] => (sqOf a).bind fun ds => (sqOf b).bind fun es => if ds.length = es.length then some (zipD ds es) else none
  | _ => none
theorem sqOf_R {K : PySem.W.Frag} {B H : Hp} {x : D} {v : V} {ds : List D} (h : sqOf x = some ds) (r : R K B H x .F v []) : ∃ (k : SK) (p : Addr) (us : List V), v = .ref p ∧ k.Sv K B p us ∧ ds.length ≤ sizeLine ∧ Rl K B H ds .F us [] := by
  cases x with
  | lst es =>
    cases h
    obtain ⟨_, p1, us, rfl, h1, hl, g1⟩ := r
    exact ⟨.ls, p1, us, rfl, h1, hl, g1⟩
  | tup es =>
    cases h
    obtain ⟨_, p1, us, rfl, h1, hl, g1⟩ := r
    exact ⟨.tp, p1, us, rfl, h1, hl, g1⟩
  | _ => cases h
section
variable {X : Cx} {w : Wh} {μ μ' : List Mode} {a b : Expr} {pos : Pos}
theorem DI.zipS {elts : List Expr} {kk : Nat} {tpos p0 cpos kpos : Pos} {cj : Nat} {fa : Gam → Rz (List D)} (hg : Gl X "zip") (hm : X.mg "zip" = none) (ha : DA X w μ [a, b] fa [.F, .F] μ') (hs : starEach [a, b] X.env = (false, eval a X.env) :: starEach [b] X.env) (hpl : (backTo pos (starEach [b] X.env)).any (·.1) = false) :
    DI X w μ (.Tuple elts kk tpos) (.Call (.Name "zip" p0) [a, b] [⟨some (Str.ofString "strict"), .Constant (.bool true) cj cpos, kpos⟩] pos) (eNi zipSO fa) (.O .F) μ' := by
  refine ⟨(pi_zipS hg hm ha.pa hs hpl).imp fun σ H Q ⟨B, Γ, fp, st, q⟩ => ⟨B, Γ, fp, st, ?_⟩⟩
  unfold eNi at q
  revert q
  cases fa Γ with
  | bad => exact id
  | exc x Γ' => exact id
  | ok xs Γ' =>
    intro q B' H' vs fpv fp' s st' r nd
    obtain ⟨x, y, u, v, f1, f2, rfl, rfl, r1, r2, rfl⟩ := r.two
    have z1 := r1.fpF
    have z2 := r2.fpF
    subst z1; subst z2
    have key : ∀ o, zipSO [x, y] = o → (Rz.ok [x, y] Γ').bind (fun xs Γ1 => Rz.opt (zipSO xs) Γ1) = Rz.opt o Γ' := fun o e => by rw [← e]; rfl
    revert q
    cases e1 : sqOf x with
    | none => rw [key none (by simp [zipSO, e1])]; exact fun q => q.elim
    | some ds =>
      cases e2 : sqOf y with
      | none => rw [key none (by simp [zipSO, e1, e2])]; exact fun q => q.elim
      | some es =>
        by_cases hle : ds.length = es.length
        · rw [key (some (zipD ds es)) (by simp [zipSO, e1, e2, hle])]
          intro q
          obtain ⟨k, p1, us, rfl, h1, hl, g1⟩ := sqOf_R e1 r1
          obtain ⟨k', p2, ws, rfl, h2, hl2, g2⟩ := sqOf_R e2 r2
          exact ⟨k, k', p1, p2, us, ws, rfl, SK.same st'.same h1, SK.same st'.same h2, q B' H' _ fp' s st' (it_zipS h1 h2 hl hle g1 g2)⟩
        · rw [key none (by simp [zipSO, e1, e2, hle])]; exact fun q => q.elim
end
end EV

/-! EvN: what the text's forms give by themselves. -/
namespace EV
open PySem PySem.Spec L2
def notStar : Expr → Bool
  | .Starred _ _ => false
  | _ => true
theorem star_of {e : Expr} (h : notStar e = true) (es : List Expr) (env : Env) : starEach (e :: es) env = (false, eval e env) :: starEach es env := by
  cases e <;> first | rfl | cases h
theorem star_one {e : Expr} (h : notStar e = true) (env : Env) : starEach [e] env = [(false, eval e env)] := star_of h [] env
theorem star_two {a b : Expr} (h : notStar a = true) (h2 : notStar b = true) (env : Env) : starEach [a, b] env = [(false, eval a env), (false, eval b env)] := by rw [star_of h, star_one h2]
def isComp : Expr → Bool
  | .ListComp .. => true
  | .SetComp .. => true
  | .DictComp .. => true
  | _ => false
theorem noswap {e : Expr} (h : isComp e = false) (t : Option Expr) (l : Nat) (env : Env) : swapsWith e t l env = pure false := by
  cases e <;> first | rfl | cases h
def plainB : Expr → Bool
  | .Slice .. => false
  | .Tuple .. => false
  | _ => true
theorem plain_of {e : Expr} (h : plainB e = true) : PlainIx e := by
  cases e <;> first | exact fun _ _ => rfl | cases h
def truB : Expr → Bool
  | .Name .. => true
  | .Call .. => true
  | .Attribute .. => true
  | .Subscript .. => true
  | .Constant .. => true
  | _ => false
theorem tru_of {e : Expr} (h : truB e = true) (env : Env) (whole : Sem Value) : isTrue e env whole = (do let v ← whole; standAt e.pos; holding [v] (truthy v)) := by
  cases e <;> first | rfl | cases h
def foldB : Expr → Bool
  | .Name .. => true
  | .Call .. => true
  | .Attribute .. => true
  | .Subscript .. => true
  | .List .. => true
  | .Tuple .. => true
  | .BinOp .. => true
  | .ListComp .. => true
  | .IfExp .. => true
  | _ => false
theorem fold_of {e : Expr} (h : foldB e = true) (env : Env) (x : Value) : foldedSetIterable e env x = pure x := by
  cases e <;> first | rfl | cases h
theorem base_name {x n : Str} {p : Pos} {env : Env} : attributeBase (.Name x p) n env (eval (.Name x p) env) = eval (.Name x p) env := rfl
def baseB : Expr → Bool
  | .Name .. => true
  | .Attribute .. => true
  | .Subscript .. => true
  | _ => false
theorem base_of {e : Expr} (h : baseB e = true) (n : Str) (env : Env) : attributeBase e n env (eval e env) = eval e env := by
  cases e <;> first | rfl | cases h
theorem assignEach_one {e : Expr} (h : notStar e = true) (env : Env) : (assignEach [e] env).map (·.2) = [assign e env] := by
  cases e <;> first | rfl | cases h
theorem assignEach_cons {e : Expr} (h : notStar e = true) (es : List Expr) (env : Env) : (assignEach (e :: es) env).map (·.2) = assign e env :: (assignEach es env).map (·.2) := by
  cases e <;> first | rfl | cases h
theorem assignEach_len (es : List Expr) (env : Env) : (assignEach es env).length = es.length := by
  induction es with
  | nil => rfl
  | cons e es ih => cases e <;> simp [assignEach, ih]
theorem assignEach_noStar {es : List Expr} (h : es.all notStar = true) (env : Env) : (assignEach es env).findIdx? (·.1) = none := by
  induction es with
  | nil => rfl
  | cons e es ih =>
    rw [List.all_cons, Bool.and_eq_true] at h
    have := ih h.2
    cases e <;> first | (cases h.1; done) | (simp [assignEach, List.findIdx?_cons] at this ⊢; exact this)
theorem star_any {es : List Expr} (h : es.all notStar = true) (pos : Pos) (env : Env) : (backTo pos (starEach es env)).any (·.1) = false := by
  induction es with
  | nil => rfl
  | cons e es ih =>
    rw [List.all_cons, Bool.and_eq_true] at h
    rw [star_of h.1]
    exact ih h.2
def isTupE : Expr → Bool
  | .Tuple .. => true
  | _ => false
def isTupT : Expr → Bool
  | .Tuple .. => true
  | .List .. => true
  | _ => false
theorem swapped_none {t e : Expr} (h : isTupT t = false ∨ (isTupE t && !isTupE e) = true) (env : Env) : swappedStores [t] e env = pure none := by
  rcases h with h | h
  · cases t <;> first | rfl | cases h
  · cases t <;> first | (cases h; done) | (cases e <;> first | rfl | cases h)
theorem swapsSole {t e : Expr} (h : isComp e = false) (l : Nat) (env : Env) : swapsWithSole [t] e l env = pure false := noswap h (some t) l env
theorem assign_sub {o i : Expr} {p : Pos} (h : plainB i = true) (env : Env) (v : Value) : assign (.Subscript o i p) env v = (do
      let ov ← holding [v] (eval o env)
      let iv ← holding [v, ov] (eval i env)
      standAt p
      holding [v, ov, iv] (setItem ov iv v)
      release [v, ov, iv] []) := by
  cases i <;> first | rfl | cases h
theorem aug_store {i : Expr} (h : plainB i = true) (ov iv new : Value) : augStore i ov iv new = (do holding [new, ov, iv] (setItem ov iv new); release [new, ov, iv] []; pure .next) := by
  cases i <;> first | rfl | cases h
theorem few_one {e : Expr} (h : notStar e = true) (pos : Pos) (env : Env) : ((backTo pos (starEach [e] env)).all (fun x => !x.1) && (backToKw pos (keywordEach [] env)).all (fun x => x.1.isSome) && decide (([e] : List Expr).length + ([] : List Keyword).length + (if ([] : List Keyword).isEmpty then 0 else 1) < 30)) = true := by
  rw [star_one h]; rfl
end EV

/-! EvN2: own exceptions: classes over ValueError by a base of one's own; raise, try. -/
namespace EV
open PySem PySem.Spec PyProof.Rows L2
/-! ### facts -/
/-- what K tells of an exception's class -/
def oexB (K : PySem.W.Frag) (C : Addr) : Bool := (match K.lookup C with
  | some ⟨.type "type", _, .cls cd, sl⟩ => (match cd.mro, sl.toList with
    | .ref C' :: bm, [_, _, _, _, some (.builtin n), _] => C' == C && (n == "ValueError.__new__" && (!cd.hasDel && (cd.hasDict && PySem.HandSPX.refsVE bm)))
    | _, _ => false)
  | _ => false) && (decide (PySem.W.findIn K (.ref C) "__setattr__" = some (some (.builtin "object.__setattr__"))) && (decide (PySem.W.subIn K (.ref C) (.type "BaseException") = some true) && (decide (PySem.W.typeIn K (.ref C) = some (.type "type")) && PySem.W.keepIn K (.ref C))))
theorem oexB_ok {K : PySem.W.Frag} {C : Addr} (h : oexB K C = true) : OexC K C := by
  unfold oexB at h
  rw [Bool.and_eq_true, Bool.and_eq_true, Bool.and_eq_true, Bool.and_eq_true] at h
  obtain ⟨h1, h2, h3, h4, h5⟩ := h
  refine ⟨?_, of_decide_eq_true h2, of_decide_eq_true h3, of_decide_eq_true h4, h5⟩
  split at h1
  · rename_i dd cd sl ho
    split at h1
    · rename_i C' bm k0 k1 k2 k3 n k5 hm hs
      simp only [Bool.and_eq_true, beq_iff_eq, Bool.not_eq_true'] at h1
      obtain ⟨rfl, rfl, hdel, hdict, hv⟩ := h1
      obtain ⟨nm, bs, mro, ns, qn, hd, sn, sub, ab, col, del⟩ := cd
      dsimp only at hm hdel hdict
      subst hm hdel hdict
      have hsl : sl = #[k0, k1, k2, k3, some (.builtin "ValueError.__new__"), k5] := by
        obtain ⟨l⟩ := sl
        exact congrArg Array.mk hs
      subst hsl
      exact ⟨_, _, _, _, _, _, _, _, _, _, _, _, _, _, _, ho, hv⟩
    · cases h1
  · cases h1
/-- the def of C's own __init__ -/
def iniB (K : PySem.W.Frag) (C : Addr) : Bool := decide (PySem.W.findIn K (.ref C) "__init__" = some (some (.ref (He.ma K C "__init__")))) && decide (PySem.W.typeIn K (.ref (He.ma K C "__init__")) = some (.type "function"))
/-- C.__init__ read off the class is the def itself -/
def offB (K : PySem.W.Frag) (C : Addr) (m : Str) : Bool := PySem.W.readsIn K C (.type "type") && (decide (PySem.W.specialIn K (.ref C) "__getattribute__" = some (some (.builtin "type.__getattribute__"))) && (match PySem.W.findCls K (.ref C) (.type "type") m with
  | some (.val v) => decide (v = .ref (He.ma K C m))
  | _ => false))
section
variable {X : Cx} {o e : Expr} {es : List Expr} {ta : TA} {p p1 p2 pos : Pos} {x m : Str} {C : Addr} {k : Nat} {fd : FuncData} {ps : List Str} {sp : Sp} {ds : List Value} {dvs : List V} {E : XK}
/-- Base.m(self, ..) -/
theorem pe_off {pl : Sem Bool} (ho : offB X.K C m = true) (hk : PySem.W.keepIn X.K (.ref (He.ma X.K C m)) = true) (G : FnOk X.prog X.w X.K X.mg X.base (L2.CX X.prog X.w) k (He.ma X.K C m) fd ps sp) (hr : Room k X.A) (hb : Binds X.K fd ps ds) (hd : Vals dvs ds) (hx : Passes (L2.CX X.prog X.w) X E) (hg : Gl X x) (hm : X.mg x = some (.ref C)) (ha : PA X (e :: es) ta)
    (hdb : (x == ("__debug__" : Str)) = false) (he : starEach (e :: es) X.env = (false, eval e X.env) :: starEach es X.env) (hpl : (backTo pos (starEach es X.env)).any (·.1) = false)
    (hc : eval (.Call (.Attribute (.Name x p1) m p2) (e :: es) [] pos) X.env = (do
      let ov ← eval (.Name x p1) X.env
      standAt p2.atName
      let (f, first) ← holding [ov] (getMethod ov m pl)
      callWith pos f first (backTo pos (starEach (e :: es) X.env)) (backToKw pos (keywordEach [] X.env)))) : PE X (.Call (.Attribute (.Name x p1) m p2) (e :: es) [] pos) (tCall sp dvs E ta) := by
  unfold offB at ho
  rw [Bool.and_eq_true, Bool.and_eq_true] at ho
  obtain ⟨o1, o2, o3⟩ := ho
  have o4 : PySem.W.findCls X.K (.ref C) (.type "type") m = some (.val (.ref (He.ma X.K C m))) := by
    split at o3
    · rename_i v hv; rw [hv, of_decide_eq_true o3]
    · cases o3
  refine ⟨fun pins s σ H Q I h => ?_⟩
  refine PySem.W.methodCall_KW (ld_glob I hg hm ?_ hdb) hc
  refine PySem.W.method_cls I.kIn (of_decide_eq_true o2) (PySem.W.cls_value I.kIn o1 o4 rfl ?_)
  have I' := I.tok (s.toks + 1)
  refine PySem.W.callWith_K (h₀ := X.base) I.ok.mod.kin hk (thn (ha.run pos pins _ σ H _ I' h) fun us s1 ⟨vs, H1, I1, r1, q⟩ => ⟨I1.kIn, ?_⟩) he hpl
  exact run_fn G hr hb hd hx I1 r1 q
/-- C(): an own exception, its __init__ of self alone -/
theorem pmk_zero (T : OexC X.K C) (hi : iniB X.K C = true) (G : FnOk X.prog X.w X.K X.mg X.base (L2.CX X.prog X.w) k (He.ma X.K C "__init__") fd ps sp) (hr : Room (k + 1) X.A) (hb : Binds X.K fd ps ds) (hd : Vals dvs ds) (hx : Passes (L2.CX X.prog X.w) X (fun _ _ _ => False)) (hg : Gl X x) (hm : X.mg x = some (.ref C)) (hdb : (x == ("__debug__" : Str)) = false) :
    PMk X (.Call (.Name x p) [] [] pos) (tMkO C sp dvs tNil) := by
  unfold iniB at hi
  rw [Bool.and_eq_true] at hi
  have iC := of_decide_eq_true hi.1
  have tI := of_decide_eq_true hi.2
  intro pins s σ H Q I ⟨_, hs⟩
  obtain ⟨nm, q, N, bs, bm, sn, sub, ab, col, dd, k0, k1, k2, k3, k5, hC, hbm⟩ := T.cls
  refine wpAny_Call_Name_kw (ld_glob I hg hm ?_ hdb)
  refine PySem.W.callWith_K0 I.kIn T.kC ?_
  show wpAny _ _ (call (.ref C) []) _ _ _
  obtain ⟨hp, g, dr, tk, os⟩ := s
  have z1 : hp.objs.size ≤ hp.objs.size + 1 := Nat.le_succ _
  have hq := hs (hp.objs.size + 1) (I.hok.fresh z1)
  rw [List.nil_append] at hq
  have up : ∀ b u, hp.get? b = some u → ((hp.push (PySem.W.kdv_tup [])).push (PySem.HandSPX.excO C hp.objs.size)).get? b = some u := fun b u z => Heap.get?_push_of_some _ (Heap.get?_push_of_some _ z)
  have new : ((hp.push (PySem.W.kdv_tup [])).push (PySem.HandSPX.excO C hp.objs.size)).get? (hp.objs.size + 1) = some (PySem.HandSPX.excO C hp.objs.size) := by heap_get
  have J : Inv X pins σ (upd H (hp.objs.size + 1) (exo (hp.objs.size + 1) C none)) ⟨(hp.push (PySem.W.kdv_tup [])).push (PySem.HandSPX.excO C hp.objs.size), g, dr, tk, os⟩ :=
    I.laid (t' := tk) up z1 (exo_ok new)
  have rv : Vals (V.ref (hp.objs.size + 1) :: dvs) ([Value.ref (hp.objs.size + 1)] ++ ds) := .cons rfl hd
  have hl : ([Value.ref (hp.objs.size + 1)] ++ ds).length = ps.length := by
    have z := rv.length
    rw [G.len _ _ _ _ hq] at z
    exact z.symm
  refine wpAny_call (PySem.HandSPX.call_own F.excBase_ValueError (fun Y => PySem.HandSPX.refsVE_contains Y bm hbm) (I.kIn _ _ hC) (PySem.W.looks_findIn I.kIn iC) (fun self => PySem.W.bind_fn I.kIn self tI) (Nat.zero_le _)
    (codeAny_mono (G.run _ X.stack _ _ ⟨[Value.ref (hp.objs.size + 1)], []⟩ ([Value.ref (hp.objs.size + 1)] ++ ds) (V.ref (hp.objs.size + 1) :: dvs) _ (fun _ _ _ => False) (hr.make C [] []) (J.env0.make C [] []) (hb _ [Value.ref (hp.objs.size + 1)] J.kIn hl) rv hq) fun r s' hq' => ?_))
  cases r with
  | error er => exact hx pins σ _ _ er s' J hq'
  | ok fl =>
    cases fl with
    | ret u =>
      obtain ⟨v, H2, os2, bare2, un2, hok2, r2, ev, d, fs, ea, ed, hd1, q2⟩ := hq'
      subst ev
      obtain ⟨h2, g2, d2, t2, os'⟩ := s'
      exact ⟨r2, mk_end (raises_own T.exC T.tyC) I z1 up un2 hok2 os2 bare2 ea ed hd1 q2⟩
    | next => exact False.elim hq'
    | brk => exact False.elim hq'
    | cont => exact False.elim hq'
end
/-! ### the two shapes of __init__ -/
/-- self.word = word -/
def edgeB (p1 p2 p3 p4 : Pos) : List Stmt := [.Assign [.Attribute (.Name "self" p1) "word" p2] (.Name "word" p3) p4]
/-- EdgeError.__init__(self, w) -/
def badB (b w : Str) (j : Nat) (p1 p2 p3 p4 p5 p6 : Pos) : List Stmt := [.Expr (.Call (.Attribute (.Name b p1) "__init__" p2) [.Name "self" p3, .Constant (.str w) j p4] [] p5) p6]
def wordAt (a C : Addr) (w : Str) (H : Hp) (Q : VK) : Prop := ∀ dx, H dx = none → dx ≠ a → Q .non (upd (upd H dx (exd dx [("word", .str w)])) a (exo a C (some dx)))
def spEdge (K : PySem.W.Frag) : Sp := fun vs H Q _ => ∃ a C w, vs = [.ref a, .str w] ∧ OexC K C ∧ PySem.W.findIn K (.ref C) "word" = some none ∧ H a = some (exo a C none) ∧ wordAt a C w H Q
def spBad (K : PySem.W.Frag) (w : Str) : Sp := fun vs H Q _ => ∃ a C, vs = [.ref a] ∧ OexC K C ∧ PySem.W.findIn K (.ref C) "word" = some none ∧ H a = some (exo a C none) ∧ wordAt a C w H Q
theorem passes0 {X : Cx} : Passes (L2.CX X.prog X.w) X (fun _ _ _ => False) := fun _ _ _ _ _ _ _ ⟨_, _, _, _, _, _, _, _, _, _, _, _, z⟩ => z.elim
theorem edge_ok {P : Program} {w : World} {K : PySem.W.Frag} {mg : Str → Option Value} {base : Heap} {x q : Str} {params : Arguments} {scope : Scope} {dvs : List V} {kws : List (Str × V)} {f : Addr} {fd : FuncData} {p1 p2 p3 p4 : Pos} (F : FunD K x q params (edgeB p1 p2 p3 p4) scope dvs kws f fd) (sc : FnScope ["self", "word"] ["self", "word"] scope) :
    FnOk P w K mg base (L2.CX P w) 1 f fd ["self", "word"] (spEdge K) := by
  refine F.ok sc (fun vs H Q E ⟨a, C, w', e, _⟩ => by rw [e]; rfl) (fun cdv A outer s H vs Q E hr ⟨a, C, w', e, T, hw, ha, q⟩ => ⟨tOst K "word" (tVar 0) (tVar 1), ?_, ?_⟩)
  · have v0 : Vis scope "self" := (sc.par "self" (by decide)).elim .inl fun z => .inr (.inl z)
    have v1 : Vis scope "word" := (sc.par "word" (by decide)).elim .inl fun z => .inr (.inl z)
    exact pss_one (ps_ost (pv 0 rfl v0) (pv 1 rfl v1))
  · subst e
    exact ⟨_, rfl, _, rfl, a, C, rfl, T, hw, .inl ⟨ha, fun dx nd ne => q dx nd ne⟩⟩
theorem bad_ok {P : Program} {w : World} {K : PySem.W.Frag} {mg : Str → Option Value} {base : Heap} {x qn b wd : Str} {params : Arguments} {scope : Scope} {dvs : List V} {kws : List (Str × V)} {f : Addr} {fd fdE : FuncData} {j k : Nat} {p1 p2 p3 p4 p5 p6 : Pos} (F : FunD K x qn params (badB b wd j p1 p2 p3 p4 p5 p6) scope dvs kws f fd) (sc : FnScope ["self"] ["self"] scope)
    (G : FnOk P w K mg base (L2.CX P w) k (He.ma K (He.ga K b) "__init__") fdE ["self", "word"] (spEdge K)) (hb : Binds K fdE ["self", "word"] []) (ho : offB K (He.ga K b) "__init__" = true) (hk : PySem.W.keepIn K (.ref (He.ma K (He.ga K b) "__init__")) = true) (hm : mg b = some (.ref (He.ga K b))) (hg : scope.names.lookup b = some .globalImplicit) (hdb : (b == ("__debug__" : Str)) = false) (hl : (p2.endLine == p5.line) = true) :
    FnOk P w K mg base (L2.CX P w) (k + 1) f fd ["self"] (spBad K wd) := by
  refine F.ok sc (fun vs H Q E ⟨a, C, e, _⟩ => by rw [e]; rfl) (fun cdv A outer s H vs Q E hr ⟨a, C, e, T, hw, ha, q⟩ => ⟨tDrop (tCall (spEdge K) [] (fun _ _ _ => False) (tCons (tVar 0) (tCons (tC (.str wd)) tNil))), ?_, ?_⟩)
  · have v0 : Vis scope "self" := (sc.par "self" (by decide)).elim .inl fun z => .inr (.inl z)
    refine pss_one (ps_expr (pe_off (pl := plainOf (.Name b p1) (PyProof.Rows.envOfC qn scope s.heap.objs.size f cdv)) ho hk G hr hb .nil passes0 hg hm (pa_cons (pv 0 rfl v0) (pa_cons pe_str pa_nil)) hdb rfl rfl ?_) rfl)
    have m1 := fun ov => mcall_line (o := .Name b p1) (m := "__init__") (apos := p2) (pos := p5) (env := PyProof.Rows.envOfC qn scope s.heap.objs.size f cdv) (ov := ov) (n := 2) (args := backTo p5 (starEach [.Name "self" p3, .Constant (.str wd) j p4] (PyProof.Rows.envOfC qn scope s.heap.objs.size f cdv))) (kws := backToKw p5 (keywordEach [] (PyProof.Rows.envOfC qn scope s.heap.objs.size f cdv))) rfl hl
    show (do
      let ov ← eval (.Name b p1) (PyProof.Rows.envOfC qn scope s.heap.objs.size f cdv)
      standAt p2.atName
      methodCall (.Name b p1) "__init__" p2 p5 (PyProof.Rows.envOfC qn scope s.heap.objs.size f cdv) ov 2 (backTo p5 (starEach [.Name "self" p3, .Constant (.str wd) j p4] (PyProof.Rows.envOfC qn scope s.heap.objs.size f cdv))) (backToKw p5 (keywordEach [] (PyProof.Rows.envOfC qn scope s.heap.objs.size f cdv)))) = _
    simp only [m1]
    rfl
  · subst e
    exact ⟨_, rfl, a, C, wd, rfl, T, hw, ha, fun dx nd ne => q dx nd ne⟩
/-- what C() raises, ready -/
def ExZ (X : Cx) (c w : Str) : Prop := X.mg c = some (.ref (He.ga X.K c)) ∧ OexC X.K (He.ga X.K c) ∧ iniB X.K (He.ga X.K c) = true ∧ PySem.W.findIn X.K (.ref (He.ga X.K c)) "word" = some none ∧ ∃ (k : Nat) (fd : FuncData), FnOk X.prog X.w X.K X.mg X.base (L2.CX X.prog X.w) k (He.ma X.K (He.ga X.K c) "__init__") fd ["self"] (spBad X.K w) ∧ Room (k + 1) X.A ∧ Binds X.K fd ["self"] []
theorem ExZ.pmk {X : Cx} {c w : Str} {p pos : Pos} (h : ExZ X c w) (hg : Gl X c) (hdb : (c == ("__debug__" : Str)) = false) : PMk X (.Call (.Name c p) [] [] pos) (fun _ H Q => ∀ d, H d = none → Q (.ref (He.ga X.K c)) (some d) (upd H d (.xd [("word", .str w)]))) := by
  obtain ⟨hm, T, hi, hw, k, fd, G, hr, hb⟩ := h
  intro pins s σ H Q I q
  refine pmk_zero T hi G hr hb .nil passes0 hg hm hdb pins s σ H Q I ⟨Nat.zero_le _, fun a na => ⟨a, _, rfl, T, hw, upd_same, fun dx nd ne => ⟨rfl, dx, [("word", .str w)], upd_same, ?_, ?_, ?_⟩⟩⟩
  · rw [upd_ne ne, upd_same]
  · rw [upd_ne ne] at nd; exact nd
  · have nd' : H dx = none := by rw [upd_ne ne] at nd; exact nd
    have e : upd (del (upd (upd (upd H a (exo a (He.ga X.K c) none)) dx (exd dx [("word", .str w)])) a (exo a (He.ga X.K c) (some dx))) a) dx (.xd [("word", .str w)]) = upd H dx (.xd [("word", .str w)]) := by
      funext b
      by_cases hb : b = dx
      · rw [hb, upd_same, upd_same]
      · rw [upd_ne hb, upd_ne hb]
        by_cases ha : b = a
        · rw [ha, del_same, na]
        · rw [del_ne ha, upd_ne ha, upd_ne hb, upd_ne ha]
    rw [e]
    exact q dx nd'
end EV

/-! EvN2b: chains of comparisons, int(x), tuple + tuple. -/
namespace EV
open PySem PySem.Spec L2 PyProof.Rows
def eCh2 (g1 g2 : D → D → Option D) (f1 f2 f3 : Gam → Rz D) (Γ : Gam) : Rz D := (f1 Γ).bind fun x Γ1 => (f2 Γ1).bind fun y Γ2 => match g1 x y with
  | some (.bl true) => (f3 Γ2).bind fun z Γ3 => Rz.opt (g2 y z) Γ3
  | some (.bl false) => .ok (.bl false) Γ2
  | _ => .bad
def eCh3 (g1 g2 g3 : D → D → Option D) (f1 f2 f3 f4 : Gam → Rz D) (Γ : Gam) : Rz D := (f1 Γ).bind fun x Γ1 => (f2 Γ1).bind fun y Γ2 => match g1 x y with
  | some (.bl true) => eCh2 g2 g3 (fun Γ => .ok y Γ) f3 f4 Γ2
  | some (.bl false) => .ok (.bl false) Γ2
  | _ => .bad
section
variable {X : Cx} {w : Wh} {μ μ1 μ2 μ3 : List Mode} {a b c d : Expr} {f1 f2 f3 f4 : Gam → Rz D} {m1 m3 m4 : Mode} {pos : Pos} {g1 g2 g3 : D → D → Option D} {r r' r'' : R2} {op op' op'' : CmpOp}
theorem R.zAny {K : PySem.W.Frag} {B H B' H' : Hp} {d : D} {v : V} {fp : List Addr} (h : R K B H d .Z v fp) : R K B' H' d .Z v [] := by
  have e := h.fpZ
  subst e
  cases d <;> first | exact h | exact h.elim
/-- the rest of a chain, its left one a flat value -/
theorem ch_link {K : PySem.W.Frag} {σ : L2.St} {H0 H B0 B : Hp} {Γ : Gam} {fp0 fp : List Addr} {y : D} {v : V} {Q : VK} (od' : OpD K r' .Z m3 g2 .Z) (s : Stp B0 H0 fp0 B H fp) (st : Sta K B H Γ μ2 σ fp) (ry : R K B H y .Z v [])
    (q : match (f3 Γ).bind (fun z Γ3 => Rz.opt (g2 y z) Γ3) with
      | .ok d Γ' => ∀ B' H' v fpv fp', Stp B0 H0 fp0 B' H' (fpv ++ fp') → Sta K B' H' Γ' μ2 σ fp' → R K B' H' d .Z v fpv → (fpv ++ fp').Nodup → Q v H'
      | .exc x Γ' => wexc K w B0 H0 fp0 σ x Γ'
      | .bad => False) : tD K w μ2 f3 m3 μ2 σ H fun w' H4 => r' v w' H4 Q := by
  refine ⟨B, Γ, fp, st, ?_⟩
  cases e3 : f3 Γ with
  | bad => rw [e3] at q; exact q.elim
  | exc x Γ' => rw [e3] at q; exact wexc.after (l := []) q s
  | ok z Γ3 =>
    rw [e3] at q
    intro B4 H4 u fu fp4 s4 st4 r4 n4
    have q' : match Rz.opt (g2 y z) Γ3 with
      | .ok d Γ' => ∀ B' H' v fpv fp', Stp B0 H0 fp0 B' H' (fpv ++ fp') → Sta K B' H' Γ' μ2 σ fp' → R K B' H' d .Z v fpv → (fpv ++ fp').Nodup → Q v H'
      | .exc x Γ' => wexc K w B0 H0 fp0 σ x Γ'
      | .bad => False := q
    cases e4 : g2 y z with
    | none => rw [e4] at q'; exact q'.elim
    | some d =>
      rw [e4] at q'
      refine od' B4 H4 y z d v u [] fu Q st4.same ry.zAny r4 (nodup_app.mp n4).1 e4 ?_
      exact comes_of (s.trans s4) st4 (fun a h => (R.own z r4 a h).2) n4 q'
theorem chain2_of {K : PySem.W.Frag} {σ : L2.St} {H : Hp} {Q : VK} (od : OpD K r m1 .Z g1 .Z) (od' : OpD K r' .Z m3 g2 .Z) (q : tD K w μ (eCh2 g1 g2 f1 f2 f3) .Z μ2 σ H Q) :
    tChain r r' (tD K w μ f1 m1 μ1) (tD K w μ1 f2 .Z μ2) (tD K w μ2 f3 m3 μ2) σ H Q := by
  obtain ⟨B, Γ, fp, st, q⟩ := q
  refine ⟨B, Γ, fp, st, ?_⟩
  unfold eCh2 at q
  cases e1 : f1 Γ with
  | bad => rw [e1] at q; exact q.elim
  | exc x Γ' => rw [e1] at q; exact q
  | ok x Γ1 =>
    rw [e1] at q
    intro B1 H1 u fu fp1 s1 st1 r1 n1
    refine ⟨B1, Γ1, fp1, st1, ?_⟩
    simp only [Rz.bind] at q
    cases e2 : f2 Γ1 with
    | bad => rw [e2] at q; exact q.elim
    | exc x Γ' => rw [e2] at q; exact wexc.after q s1
    | ok y Γ2 =>
      rw [e2] at q
      intro B2 H2 v fv fp2 s2 st2 r2 n2
      dsimp only at q
      have ez := r2.fpZ
      subst ez
      have r1' : R K B2 H2 x m1 u fu := r1.over (s2.less fun a h => List.mem_append_right _ h) n1
      have nn : (fu ++ fp2).Nodup := nodup_over (fun a h => (R.own x r1 a h).2) (by simpa using s2) n1 (by simpa using n2)
      have s12 : Stp B H fp B2 H2 (fu ++ fp2) := by have := s1.seq (s2.less (fp2 := fp2) fun a h => by simpa using h); exact this
      cases e3 : g1 x y with
      | none => rw [e3] at q; exact q.elim
      | some dd =>
        rw [e3] at q
        cases dd with
        | bl k =>
          refine od B2 H2 x y (.bl k) u v fu [] _ st2.same r1' r2 (by simpa using (nodup_app.mp nn).1) e3 fun B3 H3 v3 fp3 s3 sm3 r3 n3 => ?_
          obtain ⟨rfl, rfl⟩ := r3
          have n := nodup_app.mp nn
          have s3' : Stp B2 H2 fu B3 H3 [] := by simpa using s3
          have kp : Kept B3 H2 H3 fp2 := s3'.kept (K := K) st2.st.own fun a h q => n.2.2 a q h
          have st3 : Sta K B3 H3 Γ2 μ2 σ fp2 := ⟨sm3, st2.st.mono s3'.base kp, st2.nd⟩
          have s13 : Stp B H fp B3 H3 fp2 := by
            refine s12.trans ?_
            have := s3'.more (fp2 := fu ++ fp2) fun a h => List.mem_append_left _ h
            exact ⟨this.base, this.keep, fun a h => .inl (List.mem_append_right _ h), this.new⟩
          refine ⟨k, rfl, ?_⟩
          cases k with
          | true =>
            rw [if_pos rfl]
            exact ch_link od' s13 st3 r2.zAny q
          | false =>
            rw [if_neg (by decide)]
            exact q B3 H3 _ [] fp2 s13 st3 ⟨rfl, rfl⟩ st3.nd
        | _ => exact q.elim
theorem DE.ch2 (ho : OpR X (compareOp op) r) (od : OpD X.K r m1 .Z g1 .Z) (ho' : OpR X (compareOp op') r') (od' : OpD X.K r' .Z m3 g2 .Z) (ha : DE X w μ a f1 m1 μ1) (hb : DE X w μ1 b f2 .Z μ2) (hc : DE X w μ2 c f3 m3 μ2) (hm : lastMarks [op, op'] [b, c] = false) : DE X w μ (.Compare a [op, op'] [b, c] pos) (eCh2 g1 g2 f1 f2 f3) .Z μ2 :=
  ⟨(pe_chain ho ho' ha.pe hb.pe hc.pe hm).imp fun σ H Q q => chain2_of od od' q⟩
theorem DT.ch2 (ho : OpR X (compareOp op) r) (od : OpD X.K r m1 .Z g1 .Z) (ho' : OpR X (compareOp op') r') (od' : OpD X.K r' .Z m3 g2 .Z) (ha : DE X w μ a f1 m1 μ1) (hb : DE X w μ1 b f2 .Z μ2) (hc : DE X w μ2 c f3 m3 μ2) (hm : lastMarks [op, op'] [b, c] = false) : DT X w μ (.Compare a [op, op'] [b, c] pos) (eB (eCh2 g1 g2 f1 f2 f3)) μ2 :=
  ⟨(pt_chain ho ho' ha.pe hb.pe hc.pe hm).imp fun σ H Q q => by
    show tChain r r' _ _ _ σ H _
    exact chain2_of od od' (tB_of q)⟩
/-- a op1 b op2 c op3 d -/
def tChain3 (r r' r'' : R2) (ta tb tc td : TE) : TE := fun σ H Q => ta σ H fun x H1 => tb σ H1 fun y H2 => r x y H2 fun z H3 => ∃ k, z = .bl k ∧
  (if k = true then tc σ H3 fun y' H4 => r' y y' H4 fun z' H5 => ∃ k', z' = .bl k' ∧ (if k' = true then td σ H5 fun w' H6 => r'' y' w' H6 Q else Q (.bl false) H5) else Q (.bl false) H3)
theorem pe_chain3 {ta tb tc td : TE} (ho : OpR X (compareOp op) r) (ho' : OpR X (compareOp op') r') (ho'' : OpR X (compareOp op'') r'') (ha : PE X a ta) (hb : PE X b tb) (hc : PE X c tc) (hd : PE X d td)
    (hm : lastMarks [op, op', op''] [b, c, d] = false) : PE X (.Compare a [op, op', op''] [b, c, d] pos) (tChain3 r r' r'' ta tb tc td) := by
  refine ⟨fun pins s σ H Q I h => ?_⟩
  refine Compare_chain (thn (ha.run pins s σ H _ I h) fun v s1 ⟨x, H1, I1, r1, q1⟩ => chain_link (thn (hb.run pins s1 σ H1 _ I1 q1) fun u s2 ⟨y, H2, I2, r2, q2⟩ =>
    thn (ho pins s2 σ H2 x y v u _ I2 r1 r2 q2) fun d s3 ⟨z, H3, I3, r3, k, e, q3⟩ => ?_)) hm
  subst e
  cases r3
  refine wpAny_truthy_bool ?_
  cases k with
  | false => exact ite_ff ⟨.bl false, H3, I3, rfl, q3⟩
  | true =>
    refine ite_tt (chain_link (thn (hc.run pins s3 σ H3 _ I3 q3) fun w' s4 ⟨y', H4, I4, r4, q4⟩ => thn (ho' pins s4 σ H4 y y' u w' _ I4 r2 r4 q4) fun d s5 ⟨z', H5, I5, r5, k', e', q5⟩ => ?_))
    subst e'
    cases r5
    refine wpAny_truthy_bool ?_
    cases k' with
    | false => exact ite_ff ⟨.bl false, H5, I5, rfl, q5⟩
    | true => exact ite_tt (chain_last (thn (hd.run pins s5 σ H5 _ I5 q5) fun w2 s6 ⟨z2, H6, I6, r6, q6⟩ => ho'' pins s6 σ H6 y' z2 w' w2 Q I6 r4 r6 q6))
theorem pt_chain3 {ta tb tc td : TE} (ho : OpR X (compareOp op) r) (ho' : OpR X (compareOp op') r') (ho'' : OpR X (compareOp op'') r'') (ha : PE X a ta) (hb : PE X b tb) (hc : PE X c tc) (hd : PE X d td)
    (hm : lastMarks [op, op', op''] [b, c, d] = false) : PT X (.Compare a [op, op', op''] [b, c, d] pos) (tTest (tChain3 r r' r'' ta tb tc td)) := by
  refine ⟨fun pins s σ H Q I h => ?_⟩
  refine isTrue_chain (thn (ha.run pins s σ H _ I h) fun v s1 ⟨x, H1, I1, r1, q1⟩ => test_link (thn (hb.run pins s1 σ H1 _ I1 q1) fun u s2 ⟨y, H2, I2, r2, q2⟩ =>
    thn (ho pins s2 σ H2 x y v u _ I2 r1 r2 q2) fun d s3 ⟨z, H3, I3, r3, k, e, q3⟩ => ?_)) hm
  subst e
  cases r3
  refine wpAny_truthy_bool ?_
  cases k with
  | false =>
    obtain ⟨k, e, q⟩ := q3
    cases e
    exact ite_ff ⟨H3, I3, q⟩
  | true =>
    refine ite_tt (test_link (thn (hc.run pins s3 σ H3 _ I3 q3) fun w' s4 ⟨y', H4, I4, r4, q4⟩ => thn (ho' pins s4 σ H4 y y' u w' _ I4 r2 r4 q4) fun d s5 ⟨z', H5, I5, r5, k', e', q5⟩ => ?_))
    subst e'
    cases r5
    refine wpAny_truthy_bool ?_
    cases k' with
    | false =>
      obtain ⟨k, e, q⟩ := q5
      cases e
      exact ite_ff ⟨H5, I5, q⟩
    | true =>
      refine ite_tt (test_last (thn (hd.run pins s5 σ H5 _ I5 q5) fun w2 s6 ⟨z2, H6, I6, r6, q6⟩ => thn (ho'' pins s6 σ H6 y' z2 w' w2 _ I6 r4 r6 q6) fun c s7 ⟨z3, H7, I7, r7, k3, e3, q7⟩ => ?_))
      subst e3
      cases r7
      exact wpAny_truthy_bool ⟨H7, I7, q7⟩
theorem chain3_of {K : PySem.W.Frag} {σ : L2.St} {H : Hp} {Q : VK} (od : OpD K r m1 .Z g1 .Z) (od' : OpD K r' .Z .Z g2 .Z) (od'' : OpD K r'' .Z m4 g3 .Z) (q : tD K w μ (eCh3 g1 g2 g3 f1 f2 f3 f4) .Z μ2 σ H Q) :
    tChain3 r r' r'' (tD K w μ f1 m1 μ1) (tD K w μ1 f2 .Z μ2) (tD K w μ2 f3 .Z μ2) (tD K w μ2 f4 m4 μ2) σ H Q := by
  obtain ⟨B, Γ, fp, st, q⟩ := q
  refine ⟨B, Γ, fp, st, ?_⟩
  unfold eCh3 at q
  cases e1 : f1 Γ with
  | bad => rw [e1] at q; exact q.elim
  | exc x Γ' => rw [e1] at q; exact q
  | ok x Γ1 =>
    rw [e1] at q
    intro B1 H1 u fu fp1 s1 st1 r1 n1
    refine ⟨B1, Γ1, fp1, st1, ?_⟩
    simp only [Rz.bind] at q
    cases e2 : f2 Γ1 with
    | bad => rw [e2] at q; exact q.elim
    | exc x Γ' => rw [e2] at q; exact wexc.after q s1
    | ok y Γ2 =>
      rw [e2] at q
      intro B2 H2 v fv fp2 s2 st2 r2 n2
      dsimp only at q
      have ez := r2.fpZ
      subst ez
      have r1' : R K B2 H2 x m1 u fu := r1.over (s2.less fun a h => List.mem_append_right _ h) n1
      have nn : (fu ++ fp2).Nodup := nodup_over (fun a h => (R.own x r1 a h).2) (by simpa using s2) n1 (by simpa using n2)
      have s12 : Stp B H fp B2 H2 (fu ++ fp2) := by have := s1.seq (s2.less (fp2 := fp2) fun a h => by simpa using h); exact this
      cases e3 : g1 x y with
      | none => rw [e3] at q; exact q.elim
      | some dd =>
        rw [e3] at q
        cases dd with
        | bl k =>
          refine od B2 H2 x y (.bl k) u v fu [] _ st2.same r1' r2 (by simpa using (nodup_app.mp nn).1) e3 fun B3 H3 v3 fp3 s3 sm3 r3 n3 => ?_
          obtain ⟨rfl, rfl⟩ := r3
          have n := nodup_app.mp nn
          have s3' : Stp B2 H2 fu B3 H3 [] := by simpa using s3
          have kp : Kept B3 H2 H3 fp2 := s3'.kept (K := K) st2.st.own fun a h q => n.2.2 a q h
          have st3 : Sta K B3 H3 Γ2 μ2 σ fp2 := ⟨sm3, st2.st.mono s3'.base kp, st2.nd⟩
          have s13 : Stp B H fp B3 H3 fp2 := by
            refine s12.trans ?_
            have := s3'.more (fp2 := fu ++ fp2) fun a h => List.mem_append_left _ h
            exact ⟨this.base, this.keep, fun a h => .inl (List.mem_append_right _ h), this.new⟩
          refine ⟨k, rfl, ?_⟩
          cases k with
          | false =>
            rw [if_neg (by decide)]
            exact q B3 H3 _ [] fp2 s13 st3 ⟨rfl, rfl⟩ st3.nd
          | true =>
            rw [if_pos rfl]
            unfold eCh2 at q
            simp only [Rz.bind] at q
            refine ⟨B3, Γ2, fp2, st3, ?_⟩
            cases e4 : f3 Γ2 with
            | bad => rw [e4] at q; exact q.elim
            | exc x Γ' => rw [e4] at q; exact wexc.after (l := []) q s13
            | ok y2 Γ3 =>
              rw [e4] at q
              intro B4 H4 v4 fv4 fp4 s4 st4 r4 n4
              dsimp only at q
              have ez4 := r4.fpZ
              subst ez4
              have s14 : Stp B H fp B4 H4 fp4 := s13.trans (by simpa using s4)
              cases e5 : g2 y y2 with
              | none => rw [e5] at q; exact q.elim
              | some d5 =>
                rw [e5] at q
                cases d5 with
                | bl k5 =>
                  refine od' B4 H4 y y2 (.bl k5) v v4 [] [] _ st4.same r2.zAny r4 (by simp) e5 fun B5 H5 v5 fp5 s5 sm5 r5 n5 => ?_
                  obtain ⟨rfl, rfl⟩ := r5
                  have s5' : Stp B4 H4 [] B5 H5 [] := by simpa using s5
                  have kp5 : Kept B5 H4 H5 fp4 := s5'.kept (K := K) st4.st.own fun a h q => by cases q
                  have st5 : Sta K B5 H5 Γ3 μ2 σ fp4 := ⟨sm5, st4.st.mono s5'.base kp5, st4.nd⟩
                  have s15 : Stp B H fp B5 H5 fp4 := by
                    refine s14.trans ?_
                    have := s5'.more (fp2 := fp4) fun a h => by cases h
                    exact ⟨this.base, this.keep, fun a h => .inl h, this.new⟩
                  refine ⟨k5, rfl, ?_⟩
                  cases k5 with
                  | true =>
                    rw [if_pos rfl]
                    exact ch_link od'' s15 st5 r4.zAny q
                  | false =>
                    rw [if_neg (by decide)]
                    exact q B5 H5 _ [] fp4 s15 st5 ⟨rfl, rfl⟩ st5.nd
                | _ => exact q.elim
        | _ => exact q.elim
theorem DE.ch3 (ho : OpR X (compareOp op) r) (od : OpD X.K r m1 .Z g1 .Z) (ho' : OpR X (compareOp op') r') (od' : OpD X.K r' .Z .Z g2 .Z) (ho'' : OpR X (compareOp op'') r'') (od'' : OpD X.K r'' .Z m4 g3 .Z) (ha : DE X w μ a f1 m1 μ1) (hb : DE X w μ1 b f2 .Z μ2) (hc : DE X w μ2 c f3 .Z μ2) (hd : DE X w μ2 d f4 m4 μ2) (hm : lastMarks [op, op', op''] [b, c, d] = false) : DE X w μ (.Compare a [op, op', op''] [b, c, d] pos) (eCh3 g1 g2 g3 f1 f2 f3 f4) .Z μ2 :=
  ⟨(pe_chain3 ho ho' ho'' ha.pe hb.pe hc.pe hd.pe hm).imp fun σ H Q q => chain3_of od od' od'' q⟩
end
section
variable {X : Cx} {w : Wh} {μ μ1 μ2 μ3 : List Mode} {a b c d : Expr} {f1 f2 f3 f4 : Gam → Rz D} {m1 m3 m4 : Mode} {pos : Pos} {g1 g2 g3 : D → D → Option D} {r r' r'' : R2} {op op' op'' : CmpOp}
theorem DT.ch3 (ho : OpR X (compareOp op) r) (od : OpD X.K r m1 .Z g1 .Z) (ho' : OpR X (compareOp op') r') (od' : OpD X.K r' .Z .Z g2 .Z) (ho'' : OpR X (compareOp op'') r'') (od'' : OpD X.K r'' .Z m4 g3 .Z) (ha : DE X w μ a f1 m1 μ1) (hb : DE X w μ1 b f2 .Z μ2) (hc : DE X w μ2 c f3 .Z μ2) (hd : DE X w μ2 d f4 m4 μ2) (hm : lastMarks [op, op', op''] [b, c, d] = false) : DT X w μ (.Compare a [op, op', op''] [b, c, d] pos) (eB (eCh3 g1 g2 g3 f1 f2 f3 f4)) μ2 :=
  ⟨(pt_chain3 ho ho' ho'' ha.pe hb.pe hc.pe hd.pe hm).imp fun σ H Q q => by
    show tChain3 r r' r'' _ _ _ _ σ H _
    exact chain3_of od od' od'' (tB_of q)⟩
end
/-! ### constants of the module -/
mutual
def beqD : D → D → Bool
  | .non, .non => true
  | .bl a, .bl b => a == b
  | .int a, .int b => decide (a = b)
  | .str a, .str b => decide (a = b)
  | .lst a, .lst b => beqDs a b
  | .tup a, .tup b => beqDs a b
  | .dct k a, .dct l b => beqDs k l && beqDs a b
  | .obj c n a, .obj d m b => decide (c = d) && (decide (n = m) && beqDs a b)
  | _, _ => false
def beqDs : List D → List D → Bool
  | [], [] => true
  | a :: as, b :: bs => beqD a b && beqDs as bs
  | _, _ => false
end
mutual
theorem beqD_eq : ∀ a b : D, beqD a b = true → a = b
  | .non, b, h => by cases b <;> first | rfl | cases h
  | .bl a, b, h => by
    cases b <;> first | (cases h; done) | skip
    have h' : (a == _) = true := h
    rw [eq_of_beq h']
  | .int a, b, h => by
    cases b <;> first | (cases h; done) | skip
    rw [of_decide_eq_true (show decide (a = _) = true from h)]
  | .str a, b, h => by
    cases b <;> first | (cases h; done) | skip
    rw [of_decide_eq_true (show decide (a = _) = true from h)]
  | .lst a, b, h => by
    cases b <;> first | (cases h; done) | skip
    rw [beqDs_eq a _ h]
  | .tup a, b, h => by
    cases b <;> first | (cases h; done) | skip
    rw [beqDs_eq a _ h]
  | .dct k a, b, h => by
    cases b <;> first | (cases h; done) | skip
    have h' : (beqDs k _ && beqDs a _) = true := h
    rw [Bool.and_eq_true] at h'
    rw [beqDs_eq k _ h'.1, beqDs_eq a _ h'.2]
  | .obj c n a, b, h => by
    cases b <;> first | (cases h; done) | skip
    have h' : (decide (c = _) && (decide (n = _) && beqDs a _)) = true := h
    rw [Bool.and_eq_true, Bool.and_eq_true] at h'
    rw [of_decide_eq_true h'.1, of_decide_eq_true h'.2.1, beqDs_eq a _ h'.2.2]
theorem beqDs_eq : ∀ a b : List D, beqDs a b = true → a = b
  | [], b, h => by cases b <;> first | rfl | cases h
  | a :: as, b, h => by
    cases b <;> first | (cases h; done) | skip
    have h' : (beqD a _ && beqDs as _) = true := h
    rw [Bool.and_eq_true] at h'
    rw [beqD_eq a _ h'.1, beqDs_eq as _ h'.2]
end
def GC (K : PySem.W.Frag) (mg : Str → Option Value) (x : Str) (d : D) : Prop := ∃ (u : Value) (v : V), mg x = some u ∧ RelV v u ∧ ∀ B H, R K B H d .F v []
theorem DE.glob {X : Cx} {w : Wh} {μ : List Mode} {x : Str} {d : D} {pos : Pos} (hg : Gl X x) (hd : (x == ("__debug__" : Str)) = false) (h : GC X.K X.mg x d) : DE X w μ (.Name x pos) (eC d) .F μ := by
  obtain ⟨u, v, e, r, q⟩ := h
  exact ⟨(pe_glob hg e r hd).imp fun σ H Q ⟨B, Γ, fp, st, k⟩ => k B H _ [] fp (Stp.refl _ _ _) st (q B H) st.nd⟩
/-! ### tuple + tuple -/
def catT : D → D → Option D
  | .tup ds, .tup es => if ds.length + es.length ≤ sizeLine then some (.tup (ds ++ es)) else none
  | _, _ => none
theorem Rl.app {K : PySem.W.Frag} {B H : Hp} {m : Mode} : ∀ {ds es : List D} {vs us : List V}, Rl K B H ds m vs [] → Rl K B H es m us [] → Rl K B H (ds ++ es) m (vs ++ us) []
  | [], es, vs, us, h, k => by rw [h.1]; exact k
  | d :: ds, es, vs, us, h, k => by
    obtain ⟨v, r, f1, f2, rfl, h1, h2, e⟩ := h
    have e1 : f1 = [] := (List.append_eq_nil_iff.mp e.symm).1
    have e2 : f2 = [] := (List.append_eq_nil_iff.mp e.symm).2
    subst e1 e2
    exact ⟨v, r ++ us, [], [], rfl, h1, h2.app k, rfl⟩
theorem opd_catT {K : PySem.W.Frag} : OpD K (rCatA K) .F .F catT .F := by
  intro B H x y d u v fp1 fp2 Q s r1 r2 nd e c
  cases x with
  | tup ds =>
    cases y with
    | tup es =>
      have e' : (if ds.length + es.length ≤ sizeLine then some (D.tup (ds ++ es)) else none) = some d := e
      split at e'
      · rename_i hl
        cases e'
        obtain ⟨rfl, a, vs, rfl, ha, la, ra⟩ := r1
        obtain ⟨rfl, b, us, rfl, hb, lb, rb⟩ := r2
        refine ⟨a, b, vs, us, rfl, rfl, Same.sqT s ha, Same.sqT s hb, by rw [ra.len, rb.len]; exact hl, fun z => ?_, fun z1 z2 => ?_, fun z1 z2 p hp => ?_⟩
        · have : ds = [] := by
            have := ra.len
            rw [z] at this
            exact List.length_eq_zero_iff.mp this.symm
          subst this
          exact c B H (.ref b) [] (Stp.refl _ _ _) s ⟨rfl, b, us, rfl, hb, lb, rb⟩ List.nodup_nil
        · have : es = [] := by
            have := rb.len
            rw [z2] at this
            exact List.length_eq_zero_iff.mp this.symm
          subst this
          exact c B H (.ref a) [] (Stp.refl _ _ _) s ⟨rfl, a, vs, rfl, ha, by rw [List.append_nil]; exact la, by rw [List.append_nil]; exact ra⟩ List.nodup_nil
        · have bp : B p = none := by
            cases e : B p with
            | none => rfl
            | some o => rw [s p o e] at hp; cases hp
          have sb : Same B (upd B p (.tup (vs ++ us))) := fun q o e => by
            rw [upd_ne (ne_of_none e bp)]; exact e
          refine c (upd B p (.tup (vs ++ us))) (upd H p (.tup (vs ++ us))) (.ref p) [] ⟨sb, fun q o n e => by rw [upd_ne (ne_of_none e hp)]; exact e, (fun q h => nomatch h), fun q o e => ?_⟩ (fun q o e => ?_) ⟨rfl, p, vs ++ us, rfl, SqT.of upd_same, by rw [List.length_append]; exact hl, (ra.mono sb _ Kept.nil).app (rb.mono sb _ Kept.nil)⟩ List.nodup_nil
          · by_cases z : q = p
            · subst z; exact .inr (.inr hp)
            · rw [upd_ne z] at e; exact .inl e
          · by_cases z : q = p
            · subst z; rw [upd_same] at e ⊢; exact e
            · rw [upd_ne z] at e ⊢; exact s q o e
      · cases e'
    | _ => cases e
  | _ => cases y <;> cases e
/-! ### a, b = x, y -/
def sPar (i j : Nat) (f : Gam → Rz (List D)) (Γ : Gam) : Sz := (f Γ).s fun ds Γ1 => match ds with
  | [x, y] => .nx ((Γ1.set i (some x)).set j (some y))
  | _ => .bad
theorem StR.put_flat {K : PySem.W.Frag} {B H : Hp} {Γ : Gam} {μ : List Mode} {σ : L2.St} {fp : List Addr} {d : D} {v : V} {i : Nat} {m : Mode} (st : Sta K B H Γ μ σ fp) (r : R K B H d m v []) (hi : i < σ.length) : ∃ fp', Stp B H fp B H fp' ∧ Sta K B H (Γ.set i (some d)) (μ.set i m) (σ.set i (some v)) fp' := by
  obtain ⟨fp', s, q⟩ := put_sta (i := i) st r (by simpa using st.nd) hi
  exact ⟨fp', by simpa using s, q⟩
theorem DS.par {X : Cx} {z : Ws} {μ μ2 : List Mode} {i j : Nat} {x y : Str} {a b : Expr} {f : Gam → Rz (List D)} {m1 m2 : Mode} {px py pt pos : Pos} {kt : _} {k2 pt2 : _} (hc : X.calm = true) (hN : X.N.Nodup) (hi : X.N[i]? = some x) (hj : X.N[j]? = some y) (hij : i ≠ j)
    (hx : X.env.scope.names.lookup x = some .local) (hy : X.env.scope.names.lookup y = some .local) (ha : DA X z.w μ [a, b] f [m1, m2] μ2) (h1 : flatM m1 = true) (h2 : flatM m2 = true) (l1 : i < μ2.length) (l2 : j < μ2.length)
    (hw : swappedStores [.Tuple [.Name x px, .Name y py] kt pt] (.Tuple [a, b] k2 pt2) X.env = pure (some [x, y])) (p1 : noPin z.pin i) (p2 : noPin z.pin j) :
    DS X z μ (.Assign [.Tuple [.Name x px, .Name y py] kt pt] (.Tuple [a, b] k2 pt2) pos) (sPar i j f) ((μ2.set i m1).set j m2) := by
  refine ⟨(ps_par hc hN hi hj hij hx hy ha.pa hw).imp fun D σ H ⟨hp, B, Γ, fp, st, q⟩ => ⟨B, Γ, fp, st, ?_⟩⟩
  unfold sPar at q
  cases e : f Γ with
  | bad => rw [e] at q; exact q.elim
  | exc x Γ' =>
    rw [e] at q
    exact fun B' H' fpe fp' cls dd s st' ex nd => q σ B' H' fpe fp' cls dd s st' ex nd hp
  | ok ds Γ1 =>
    rw [e] at q
    intro B' H' vs fpv fp' s st' ra nd
    rcases ds with _ | ⟨d1, _ | ⟨d2, _ | ⟨d3, r⟩⟩⟩
    · exact ra.elim
    · obtain ⟨_, _, _, _, _, _, q, _⟩ := ra; exact q.elim
    · obtain ⟨v1, r1, f1, f2, rfl, q1, q2, rfl⟩ := ra
      obtain ⟨v2, r2, f3, f4, rfl, q3, q4, rfl⟩ := q2
      obtain ⟨rfl, rfl⟩ := q4
      have e1 : f1 = [] := by
        cases m1 with
        | F => exact q1.fpF
        | Z => exact q1.fpZ
        | _ => cases h1
      have e3 : f3 = [] := by
        cases m2 with
        | F => exact q3.fpF
        | Z => exact q3.fpZ
        | _ => cases h2
      subst e1 e3
      have s' : Stp B H fp B' H' fp' := by simpa using s
      obtain ⟨fp1, s1, st1⟩ := StR.put_flat (i := i) st' q1 (by rw [← st'.st.len.2]; exact l1)
      obtain ⟨fp2, s2, st2⟩ := StR.put_flat (i := j) st1 q3 (by rw [List.length_set, ← st'.st.len.2]; exact l2)
      exact ⟨v1, v2, rfl, q _ B' H' fp2 (s'.trans (s1.trans s2)) st2 ((hp.set p1).set p2)⟩
    · obtain ⟨_, _, _, _, _, _, ⟨_, _, _, _, _, _, q, _⟩, _⟩ := ra; exact q.elim
/-- what the match asks of such an assignment -/
def parB (a b : Expr) : Bool := notStar a && (notStar b && (!([a, b].all (foldedForSure 8)) && !([a, b].all (constantsAlone 8))))
theorem par_swap {x y : Str} {px py pt : Pos} {kt k2 pt2 : _} {a b : Expr} {env : Env} (hk : env.scope.kind = .function) (hx : env.scope.names.lookup x = some .local) (hy : env.scope.names.lookup y = some .local) (hxy : x ≠ y) (hl : px.line = py.line) (h : parB a b = true) : swappedStores [.Tuple [.Name x px, .Name y py] kt pt] (.Tuple [a, b] k2 pt2) env = pure (some [x, y]) := by
  unfold parB at h
  rw [Bool.and_eq_true, Bool.and_eq_true, Bool.and_eq_true] at h
  obtain ⟨h1, h2, h3, h4⟩ := h
  have bk : env.blockKind = .function := by
    unfold Env.blockKind
    rw [hk]; rfl
  rw [Bool.not_eq_true'] at h3 h4
  unfold swappedStores
  dsimp only
  rw [bk, if_neg (by simp)]
  rw [if_neg (by
    cases a <;> first | (cases h1; done) | skip
    all_goals (cases b <;> first | (cases h2; done) | (intro h; cases h)))]
  simp only [h3, h4]
  generalize hL : List.filterMap _ [Expr.Name x px, Expr.Name y py] = L
  have n1 : L = [x, y] := by
    rw [← hL]
    simp only [List.filterMap_cons, List.filterMap_nil, Env.kindOf, hx, hy, hl]
    simp [Expr.pos, hl]
  subst n1
  have hd : ([x, y] : List Str).eraseDups = [x, y] := by
    simp [List.eraseDups_cons, Ne.symm hxy]
  rw [hd]
  simp
/-! ### int(x) -/
def intO : List D → Option D
  | [.int i] => some (.int i)
  | [.bl k] => some (.int (if k = true then 1 else 0))
  | _ => none
theorem nad_int {K : PySem.W.Frag} {m : Mode} : NaD K (fun xs H Q => (∃ i, xs = [.int i] ∧ Q (.int i) H) ∨ ∃ k, xs = [.bl k] ∧ Q (.int (if k then 1 else 0)) H) [m] intO .Z := by
  intro B H xs d us fp1 Q s r nd e c
  obtain ⟨x, v, rfl, rfl, r1⟩ := r.one
  cases x with
  | int i =>
    obtain ⟨rfl, rfl⟩ := r1
    cases e
    exact .inl ⟨i, rfl, c.flat s ⟨rfl, rfl⟩⟩
  | bl k =>
    obtain ⟨rfl, rfl⟩ := r1
    cases e
    exact .inr ⟨k, rfl, c.flat s ⟨rfl, rfl⟩⟩
  | _ => cases e
/-! ### list + list, both at rest -/
def rCatL (K : PySem.W.Frag) : R2 := fun x y H Q => ∃ a b xs ys, x = .ref a ∧ y = .ref b ∧ SqL K H a xs ∧ SqL K H b ys ∧ xs.length + ys.length ≤ sizeLine ∧ ∀ p, H p = none → Q (.ref p) (upd H p (.lst (xs ++ ys)))
theorem op_catL {X : Cx} : OpR X (binaryOp .Add) (rCatL X.K) := by
  intro pins s σ H x y v u Q I rx ry h
  obtain ⟨a, b, xs, ys, rfl, rfl, ha, hb, hz, q⟩ := h
  cases rx
  cases ry
  obtain ⟨its, r1, p1, _⟩ := I.list ha
  obtain ⟨its2, r2, p2, _⟩ := I.list hb
  have l1 := r1.length
  have l2 := r2.length
  obtain ⟨⟨cls, dd, data, sl⟩, n, ho, hc, hd1, hd⟩ := id p1
  obtain ⟨⟨cls2, dd2, data2, sl2⟩, n2, ho2, hc2, hd3, hd2⟩ := id p2
  simp only at hc hd hc2 hd2
  subst hc hd hc2 hd2
  have e : its.toArray ++ its2.toArray = (its ++ its2).toArray := by simp
  refine concat_meets ⟨_, ho, rfl⟩ ⟨_, ho2, rfl⟩ noFill_list_add seq_list_add PySem.F.slot_list_add PySem.F.entry_list_add (PySem.F.args_list_add_2 _ _) (PyProof.Rows.list_addW a b its.toArray its2.toArray n n2 dd dd2 sl sl2 (by simp; omega)) ⟨ho, ho2, ?_⟩
  rw [e]
  exact ⟨.ref _, _, I.lnew (t' := s.toks) (r1.append r2) (by rw [List.length_append]; omega), rfl, q _ I.fresh⟩
theorem opd_catF {K : PySem.W.Frag} : OpD K (rCatL K) .F .F catL (.O .F) := by
  intro B H x y d u v fp1 fp2 Q s r1 r2 nd e c
  cases x with
  | lst ds =>
    cases y with
    | lst es =>
      have e' : (if ds.length + es.length ≤ sizeLine then some (D.lst (ds ++ es)) else none) = some d := e
      split at e'
      · rename_i hl
        cases e'
        obtain ⟨rfl, a, vs, rfl, ha, la, ra⟩ := r1
        obtain ⟨rfl, b, us, rfl, hb, lb, rb⟩ := r2
        refine ⟨a, b, vs, us, rfl, rfl, Same.sqL s ha, Same.sqL s hb, by rw [ra.len, rb.len]; exact hl, fun p hp => ?_⟩
        exact new_lst c s ((ra.app rb).mono (Same.refl _) _ Kept.nil) (by rw [List.length_append]; exact hl) (fun a h => nomatch h) List.nodup_nil hp
      · cases e'
    | _ => cases e
  | _ => cases e
end EV

/-! EvO: a small language of what is walked, its meaning, its match with the text. -/
namespace EV
open PySem PySem.Spec L2

/-- operators -/
inductive B2 where
  | add | sub | mul | div | mod | pow | cat | catT
inductive C2 where
  | lt | le | gt | ge | eq | ne | isN | notN | isIn | notIn
/-- built-ins by their names -/
inductive BN where
  | len | sum | min | max | abs | min2 | max2 | list | tuple | int
inductive Px where
  | int (i : Int) | neg (i : Int) | var (i : Nat) | add (a b : Px) | sub (a b : Px)
def evPx : Px → Gam → Option Int
  | .int i => pxC i
  | .neg i => pxC (-i)
  | .var i => pxV i
  | .add a b => px2 (· + ·) (evPx a) (evPx b)
  | .sub a b => px2 (· - ·) (evPx a) (evPx b)
mutual
inductive Ex where
  | var (i : Nat) | fv (i : Nat) | mv (i : Nat)
  | int (i : Int) | bl (b : Bool) | non | str (x : Str)
  | neg (a : Ex)
  | bin (o : B2) (a b : Ex) | cmp (o : C2) (a b : Ex) | ix (a b : Ex)
  | andV (a b : Ex) | orV (a b : Ex) | notV (a : Ex) | ifE (t : Tx) (a b : Ex)
  | tup (m : Mode) (as : Ar) | lst (m : Mode) (as : Ar)
  | call (g : Nat) (as : Ar) | blt (o : BN) (as : Ar)
  | lc (own : List Nat) (it : Ix) (t : Tg) (c : Cx1) (e : Ex)
  | lc2 (own own1 : List Nat) (it : Ix) (t : Tg) (c : Cx1) (it1 : Ix) (t1 : Tg) (c1 : Cx1) (e : Ex) | callk (g : Nat) (as bs : Ar)
  | isi (Cs : List String) (a : Ex)
  | app (i : Nat) (a : Ex) | popAt (i : Nat) (a : Ex)
  | sl (k : Bool) (a : Ex) (lo hi : Option Px)
  | ch2 (o1 o2 : C2) (a b c : Ex) | ch3 (o1 o2 o3 : C2) (a b c d : Ex) | glob (x : Str) (d : D)
  | bor (M : List Bool) (a : Ex) | frz (a : Ex) | flat (a : Ex) | flats (a : Ex) | sub (m : Mode) (a : Ex)
inductive Ar where
  | nil | e (a : Ex) (r : Ar) | io (i : Nat) (r : Ar)
inductive Tx where
  | val (a : Ex) | tru (a : Ex) | cmp (o : C2) (a b : Ex) | ch2 (o1 o2 : C2) (a b c : Ex) | ch3 (o1 o2 o3 : C2) (a b c d : Ex) | not (t : Tx) | and (t u : Tx) | or (t u : Tx) | bor (M : List Bool) (t : Tx)
/-- a comprehension's test -/
inductive Cx1 where
  | no | one (t : Tx)
inductive Ix where
  | list (a : Ex) | tup (a : Ex) | r1 (a : Ex) | r2 (a b : Ex) | zip (a b : Ex) | enum (a : Ex) | zipS (a b : Ex)
inductive Tg where
  | nm (i : Nat) | tup (ts : Tgs) | lst (ts : Tgs)
inductive Tgs where
  | nil | cons (t : Tg) (r : Tgs)
end
/-- a def, as it is called -/
structure Fn where
  name : Str
  pm : List Mode
  rm : Mode
  F : List D → Fo
  dds : List D := []
  dms : List Mode := []
  kn : List Str := []
/-- what a caller is told of it -/
structure Sg where
  name : Str
  pm : List Mode
  rm : Mode
  dms : List Mode := []
  kn : List Str := []
instance : Inhabited Sg := ⟨⟨"", [], .Z, [], []⟩⟩
def Fn.sg (f : Fn) : Sg := ⟨f.name, f.pm, f.rm, f.dms, f.kn⟩
instance : Inhabited Fn := ⟨⟨"", [], .Z, fun _ => .bad, [], [], []⟩⟩
def B2.op : B2 → D → D → Option D
  | .add => addI | .sub => subI | .mul => mulI | .div => divI | .mod => modI | .pow => powI | .cat => catL | .catT => EV.catT
def C2.op : C2 → D → D → Option D
  | .lt => ltI | .le => leI | .gt => gtI | .ge => geI | .eq => eqO | .ne => neO | .isN => isNonD | .notN => notNonD | .isIn => inO | .notIn => ninO
def BN.op : BN → List D → Option D
  | .len => lenO | .sum => sumO | .min => minO | .max => maxO | .abs => absO | .min2 => min2O | .max2 => max2O | .list => listO | .tuple => tupleO | .int => intO
mutual
def evG : Tg → D → Gam → Option Gam
  | .nm i => gSet i
  | .tup ts => gTupD (evGs ts)
  | .lst ts => gLstD (evGs ts)
def evGs : Tgs → List D → Gam → Option Gam
  | .nil => gNilD
  | .cons t r => gConsD (evG t) (evGs r)
end
mutual
def ev (fs : List Fn) : Ex → Gam → Rz D
  | .var i => eVar i
  | .fv i => eVar i
  | .mv i => eMv i
  | .int i => eC (.int i)
  | .bl b => eC (.bl b)
  | .non => eC .non
  | .str x => eC (.str x)
  | .neg a => e1 negI (ev fs a)
  | .bin o a b => e2 o.op (ev fs a) (ev fs b)
  | .cmp o a b => e2 o.op (ev fs a) (ev fs b)
  | .ix a b => e2 ixO (ev fs a) (ev fs b)
  | .ch2 o1 o2 a b c => eCh2 o1.op o2.op (ev fs a) (ev fs b) (ev fs c)
  | .ch3 o1 o2 o3 a b c d => eCh3 o1.op o2.op o3.op (ev fs a) (ev fs b) (ev fs c) (ev fs d)
  | .glob _ d => eC d
  | .andV a b => eAndV (ev fs a) (ev fs b)
  | .orV a b => eOrV (ev fs a) (ev fs b)
  | .notV a => eNotV (ev fs a)
  | .ifE t a b => eIf (evT fs t) (ev fs a) (ev fs b)
  | .tup _ as => eN (fun ds => some (.tup ds)) (evA fs as)
  | .lst _ as => eN (fun ds => some (.lst ds)) (evA fs as)
  | .call g as => eCall (fs.getD g default).F (evIos as) (fs.getD g default).dds (evA fs as)
  | .blt o as => eN o.op (evA fs as)
  | .lc own it t c e => eLc (evI fs it) (evG t) (evC fs c) (ev fs e) own
  | .lc2 own own1 it t c it1 t1 c1 e => eLc2 (evI fs it) (evG t) (evC fs c) (evI fs it1) (evG t1) (evC fs c1) (ev fs e) own own1
  | .callk g as bs => eCall (fs.getD g default).F [] (fs.getD g default).dds (aApp (evA fs as) (evA fs bs))
  | .isi Cs a => e1 (isiD Cs) (ev fs a)
  | .app i a => eApp i (ev fs a)
  | .popAt i a => ePopAt i (ev fs a)
  | .sl k a lo hi => eSl (if k = true then sliceL else sliceT) (ev fs a) (lo.map evPx) (hi.map evPx)
  | .bor M a => eBor M (ev fs a)
  | .frz a => ev fs a
  | .flat a => eFlat (ev fs a)
  | .flats a => eFlats (ev fs a)
  | .sub _ a => ev fs a
def evA (fs : List Fn) : Ar → Gam → Rz (List D)
  | .nil => aNil
  | .e a r => aCons (ev fs a) (evA fs r)
  | .io i r => aCons (eMv i) (evA fs r)
def evIos : Ar → Ios
  | .nil => []
  | .e _ r => shift (evIos r)
  | .io i r => (0, i) :: shift (evIos r)
def evT (fs : List Fn) : Tx → Gam → Rz Bool
  | .val a => eB (ev fs a)
  | .tru a => eTru (ev fs a)
  | .cmp o a b => eB (e2 o.op (ev fs a) (ev fs b))
  | .ch2 o1 o2 a b c => eB (eCh2 o1.op o2.op (ev fs a) (ev fs b) (ev fs c))
  | .ch3 o1 o2 o3 a b c d => eB (eCh3 o1.op o2.op o3.op (ev fs a) (ev fs b) (ev fs c) (ev fs d))
  | .not t => eNot (evT fs t)
  | .and t u => eAnd (evT fs t) (evT fs u)
  | .or t u => eOr (evT fs t) (evT fs u)
  | .bor M t => eBor M (evT fs t)
def evC (fs : List Fn) : Cx1 → Gam → Rz Bool
  | .no => eYes
  | .one t => evT fs t
def evI (fs : List Fn) : Ix → Gam → Rz (List D)
  | .list a => eLst (ev fs a)
  | .tup a => eTup (ev fs a)
  | .r1 a => eNi rng1 (aCons (ev fs a) aNil)
  | .r2 a b => eNi rng2 (aCons (ev fs a) (aCons (ev fs b) aNil))
  | .zip a b => eNi zipO (aCons (ev fs a) (aCons (ev fs b) aNil))
  | .enum a => eNi enumO (aCons (ev fs a) aNil)
  | .zipS a b => eNi zipSO (aCons (ev fs a) (aCons (ev fs b) aNil))
end
/-! ### the match -/
structure Sx where
  N : List Str
  sc : Scope
  fnA : Option Scope
  fs : List Sg
  μx : List Mode
  bl : List Str
  fl : List (Str × Str) := []
  calm : Bool := true
  ex : List (Str × Str) := []
  exm : List (Str × Str × Bool) := []
  gc : List (Str × D) := []
def visB (sc : Scope) (x : Str) : Bool := match sc.names.lookup x with
  | some .local => true
  | some .cell => true
  | some .free => true
  | _ => false
def nmB (S : Sx) (i : Nat) (x : Str) : Bool := decide (S.N[i]? = some x) && (visB S.sc x && (!(x == ("__debug__" : Str)) && !(x == ("__classdict__" : Str))))
def locB (S : Sx) (x : Str) : Bool := (match S.sc.names.lookup x with
  | some .local => true
  | some .cell => true
  | _ => false) && (match S.fnA with
  | none => true
  | some s0 => decide (s0.names.lookup x = some .cell) || decide (S.sc.names.lookup x = some .local))
def glB (S : Sx) (x : Str) : Bool := decide (S.sc.names.lookup x = some .globalImplicit) && !(x == ("__debug__" : Str))
def bltB (S : Sx) (x : Str) : Bool := glB S x && S.bl.contains x
def B2.oper : B2 → Operator
  | .add => .Add | .sub => .Sub | .mul => .Mult | .div => .FloorDiv | .mod => .Mod | .pow => .Pow | .cat => .Add | .catT => .Add
def C2.oper : C2 → CmpOp
  | .lt => .Lt | .le => .LtE | .gt => .Gt | .ge => .GtE | .eq => .Eq | .ne => .NotEq | .isN => .Is | .notN => .IsNot | .isIn => .In | .notIn => .NotIn
def B2.md : B2 → Mode → Mode → Option Mode
  | .cat, .O m, .O m' => if m = m' then some (.O m) else none
  | .cat, .F, .F => some (.O .F)
  | .cat, _, _ => none
  | .catT, .F, .F => some .F
  | .catT, _, _ => none
  | _, _, _ => some .Z
def BN.nm : BN → Str
  | .len => "len" | .sum => "sum" | .min => "min" | .max => "max" | .abs => "abs" | .min2 => "min" | .max2 => "max" | .list => "list" | .tuple => "tuple" | .int => "int"
def BN.md : BN → List Mode → Option Mode
  | .min2, [_, _] => some .Z
  | .max2, [_, _] => some .Z
  | .list, [m] => some (.O (partM m))
  | .tuple, [m] => some (.O (partM m))
  | .len, [_] => some .Z
  | .sum, [_] => some .Z
  | .min, [_] => some .Z
  | .max, [_] => some .Z
  | .abs, [_] => some .Z
  | .int, [_] => some .Z
  | _, _ => none
def borX : List Bool → List Mode → List Mode
  | b :: M, m :: μ => (if b = true then m else .X) :: borX M μ
  | _, _ => []
def inMark (o : C2) (b : Expr) : Bool := !behindInMarks o.oper b
/-- the class names of an isinstance -/
def pName : Expr → Option Str
  | .Name x _ => some x
  | _ => none
def pTup : Expr → Option (List Expr)
  | .Tuple es _ _ => some es
  | _ => none
def clN (S : Sx) (C : String) (e : Expr) : Bool := match pName e with
  | some x => decide (x = Str.ofString C) && (bltB S x && (!decide (x = "__name__") && !(x == ("__debug__" : Str))))
  | none => false
def clNs (S : Sx) : List String → List Expr → Bool
  | [], [] => true
  | C :: Cs, e :: es => clN S C e && (notStar e && clNs S Cs es)
  | _, _ => false
def clE (S : Sx) (Cs : List String) (c : Expr) : Bool := (Cs.all fun C => tys.contains C && (!(C == "NoneType") && decide (bootBuiltins (Str.ofString C) = some (.type C)))) && (match Cs with
  | [C] => clN S C c
  | _ => (match pTup c with
    | some es => clNs S Cs es && decide (Cs.length ≤ sizeLine)
    | none => false))
theorem pName_some {e : Expr} {x : Str} (h : pName e = some x) : ∃ p, e = .Name x p := by
  unfold pName at h; split at h
  · cases h; exact ⟨_, rfl⟩
  · cases h
theorem pTup_some {e : Expr} {es : List Expr} (h : pTup e = some es) : ∃ k p, e = .Tuple es k p := by
  unfold pTup at h; split at h
  · cases h; exact ⟨_, _, rfl⟩
  · cases h
def pInt : Expr → Option (Int)
  | .Constant (.int j) _ _ => some j
  | _ => none
theorem pInt_some {e : Expr} {j : Int} (h : pInt e = some j) : ∃ k p, e = .Constant (.int j) k p := by
  unfold pInt at h; split at h
  · cases h; exact ⟨_, _, rfl⟩
  · cases h
def pBl : Expr → Option (Bool)
  | .Constant (.bool j) _ _ => some j
  | _ => none
theorem pBl_some {e : Expr} {j : Bool} (h : pBl e = some j) : ∃ k p, e = .Constant (.bool j) k p := by
  unfold pBl at h; split at h
  · cases h; exact ⟨_, _, rfl⟩
  · cases h
def pStr : Expr → Option (Str)
  | .Constant (.str j) _ _ => some j
  | _ => none
theorem pStr_some {e : Expr} {j : Str} (h : pStr e = some j) : ∃ k p, e = .Constant (.str j) k p := by
  unfold pStr at h; split at h
  · cases h; exact ⟨_, _, rfl⟩
  · cases h
def pNon : Expr → Option (Unit)
  | .Constant .none _ _ => some ()
  | _ => none
theorem pNon_some {e : Expr}  (h : pNon e = some ()) : ∃ k p, e = .Constant .none k p := by
  unfold pNon at h; split at h
  · cases h; exact ⟨_, _, rfl⟩
  · cases h
def pNeg : Expr → Option (Expr)
  | .UnaryOp .USub x _ => some x
  | _ => none
theorem pNeg_some {e : Expr} {x : Expr} (h : pNeg e = some x) : ∃ p, e = .UnaryOp .USub x p := by
  unfold pNeg at h; split at h
  · cases h; exact ⟨_, rfl⟩
  · cases h
def pNot : Expr → Option (Expr)
  | .UnaryOp .Not x _ => some x
  | _ => none
theorem pNot_some {e : Expr} {x : Expr} (h : pNot e = some x) : ∃ p, e = .UnaryOp .Not x p := by
  unfold pNot at h; split at h
  · cases h; exact ⟨_, rfl⟩
  · cases h
def pBin : Expr → Option (Expr × Operator × Expr)
  | .BinOp x o y _ => some (x, o, y)
  | _ => none
theorem pBin_some {e : Expr} {x y : Expr} {o : Operator} (h : pBin e = some (x, o, y)) : ∃ p, e = .BinOp x o y p := by
  unfold pBin at h; split at h
  · cases h; exact ⟨_, rfl⟩
  · cases h
def pCmp : Expr → Option (Expr × CmpOp × Expr)
  | .Compare x [o] [y] _ => some (x, o, y)
  | _ => none
theorem pCmp_some {e : Expr} {x y : Expr} {o : CmpOp} (h : pCmp e = some (x, o, y)) : ∃ p, e = .Compare x [o] [y] p := by
  unfold pCmp at h; split at h
  · cases h; exact ⟨_, rfl⟩
  · cases h
def pCh2 : Expr → Option (Expr × CmpOp × Expr × CmpOp × Expr)
  | .Compare x [o, o'] [y, z] _ => some (x, o, y, o', z)
  | _ => none
theorem pCh2_some {e : Expr} {x y z : Expr} {o o' : CmpOp} (h : pCh2 e = some (x, o, y, o', z)) : ∃ p, e = .Compare x [o, o'] [y, z] p := by
  unfold pCh2 at h; split at h
  · cases h; exact ⟨_, rfl⟩
  · cases h
def pCh3 : Expr → Option (Expr × CmpOp × Expr × CmpOp × Expr × CmpOp × Expr)
  | .Compare x [o, o', o''] [y, z, t] _ => some (x, o, y, o', z, o'', t)
  | _ => none
theorem pCh3_some {e : Expr} {x y z t : Expr} {o o' o'' : CmpOp} (h : pCh3 e = some (x, o, y, o', z, o'', t)) : ∃ p, e = .Compare x [o, o', o''] [y, z, t] p := by
  unfold pCh3 at h; split at h
  · cases h; exact ⟨_, rfl⟩
  · cases h
def pSub : Expr → Option (Expr × Expr)
  | .Subscript x y _ => some (x, y)
  | _ => none
theorem pSub_some {e : Expr} {x y : Expr} (h : pSub e = some (x, y)) : ∃ p, e = .Subscript x y p := by
  unfold pSub at h; split at h
  · cases h; exact ⟨_, rfl⟩
  · cases h
def pBo : Expr → Option (BoolOp × List Expr)
  | .BoolOp o ys _ => some (o, ys)
  | _ => none
theorem pBo_some {e : Expr} {o : BoolOp} {ys : List Expr} (h : pBo e = some (o, ys)) : ∃ p, e = .BoolOp o ys p := by
  unfold pBo at h; split at h
  · cases h; exact ⟨_, rfl⟩
  · cases h
def pIf : Expr → Option (Expr × Expr × Expr)
  | .IfExp c x y _ => some (c, x, y)
  | _ => none
theorem pIf_some {e : Expr} {c x y : Expr} (h : pIf e = some (c, x, y)) : ∃ p, e = .IfExp c x y p := by
  unfold pIf at h; split at h
  · cases h; exact ⟨_, rfl⟩
  · cases h
def pLst : Expr → Option (List Expr)
  | .List es _ => some es
  | _ => none
theorem pLst_some {e : Expr} {es : List Expr} (h : pLst e = some es) : ∃ p, e = .List es p := by
  unfold pLst at h; split at h
  · cases h; exact ⟨_, rfl⟩
  · cases h
def pCall : Expr → Option (Str × List Expr)
  | .Call (.Name x _) es [] _ => some (x, es)
  | _ => none
theorem pCall_some {e : Expr} {x : Str} {es : List Expr} (h : pCall e = some (x, es)) : ∃ p q, e = .Call (.Name x p) es [] q := by
  unfold pCall at h; split at h
  · cases h; exact ⟨_, _, rfl⟩
  · cases h
def pMeth : Expr → Option (Str × Str × List Expr × Pos × Pos)
  | .Call (.Attribute (.Name x _) n p) es [] q => some (x, n, es, p, q)
  | _ => none
theorem pMeth_some {e : Expr} {x n : Str} {es : List Expr} {p q : Pos} (h : pMeth e = some (x, n, es, p, q)) : ∃ p0, e = .Call (.Attribute (.Name x p0) n p) es [] q := by
  unfold pMeth at h; split at h
  · cases h; exact ⟨_, rfl⟩
  · cases h
def pLc : Expr → Option (Expr × Expr × Expr × List Expr × Scope)
  | .ListComp elt [⟨tg, iter, ifs, 0⟩] scope _ => some (elt, tg, iter, ifs, scope)
  | _ => none
theorem pLc_some {e : Expr} {elt tg iter : Expr} {ifs : List Expr} {scope : Scope} (h : pLc e = some (elt, tg, iter, ifs, scope)) : ∃ p, e = .ListComp elt [⟨tg, iter, ifs, 0⟩] scope p := by
  unfold pLc at h; split at h
  · cases h; exact ⟨_, rfl⟩
  · cases h
def pLc2 : Expr → Option (Expr × Expr × Expr × List Expr × Expr × Expr × List Expr × Scope)
  | .ListComp elt [⟨tg, iter, ifs, 0⟩, ⟨tg1, iter1, ifs1, 0⟩] scope _ => some (elt, tg, iter, ifs, tg1, iter1, ifs1, scope)
  | _ => none
theorem pLc2_some {e : Expr} {elt tg iter tg1 iter1 : Expr} {ifs ifs1 : List Expr} {scope : Scope} (h : pLc2 e = some (elt, tg, iter, ifs, tg1, iter1, ifs1, scope)) : ∃ p, e = .ListComp elt [⟨tg, iter, ifs, 0⟩, ⟨tg1, iter1, ifs1, 0⟩] scope p := by
  unfold pLc2 at h; split at h
  · cases h; exact ⟨_, rfl⟩
  · cases h
/-- f(e, .., k = v, ..) -/
def pCallK : Expr → Option (Str × List Expr × List Keyword)
  | .Call (.Name x _) es kws _ => some (x, es, kws)
  | _ => none
theorem pCallK_some {e : Expr} {x : Str} {es : List Expr} {kws : List Keyword} (h : pCallK e = some (x, es, kws)) : ∃ p q, e = .Call (.Name x p) es kws q := by
  unfold pCallK at h; split at h
  · cases h; exact ⟨_, _, rfl⟩
  · cases h
def kwNames : List Keyword → Option (List Str)
  | [] => some []
  | ⟨some k, _, _⟩ :: r => (kwNames r).map (k :: ·)
  | _ => none
theorem kwNames_ok {env : Env} {pos : Pos} : ∀ {kws : List Keyword} {ks : List Str}, kwNames kws = some ks → (backToKw pos (keywordEach kws env)).all (·.1.isSome) = true ∧ (backToKw pos (keywordEach kws env)).filterMap (·.1) = ks ∧ (backToKw pos (keywordEach kws env)).any (·.1.isNone) = false
  | [], ks, h => by cases h; exact ⟨rfl, rfl, rfl⟩
  | ⟨some k, v, p⟩ :: r, ks, h => by
    unfold kwNames at h
    cases e : kwNames r with
    | none => rw [e] at h; cases h
    | some l =>
      rw [e] at h; cases h
      obtain ⟨h1, h2, h3⟩ := kwNames_ok (env := env) (pos := pos) e
      have z : backToKw pos (keywordEach (⟨some k, v, p⟩ :: r) env) = (some k, do let v ← eval v env; standAt pos; pure v) :: backToKw pos (keywordEach r env) := rfl
      rw [z]
      refine ⟨?_, ?_, ?_⟩
      · rw [List.all_cons, h1]; rfl
      · rw [List.filterMap_cons]; simp only; rw [h2]
      · rw [List.any_cons, h3]; rfl
  | ⟨none, v, p⟩ :: r, ks, h => by cases h
/-- zip(a, b, strict=True) -/
def pZipS : Expr → Option (Str × Expr × Expr)
  | .Call (.Name x _) [a, b] [⟨some k, .Constant (.bool true) _ _, _⟩] _ => if k = Str.ofString "strict" then some (x, a, b) else none
  | _ => none
theorem pZipS_some {e : Expr} {x : Str} {a b : Expr} (h : pZipS e = some (x, a, b)) : ∃ p cj cp kp q, e = .Call (.Name x p) [a, b] [⟨some (Str.ofString "strict"), .Constant (.bool true) cj cp, kp⟩] q := by
  unfold pZipS at h; split at h
  · split at h
    · rename_i e0
      subst e0
      cases h; exact ⟨_, _, _, _, _, rfl⟩
    · cases h
  · cases h
def grd {α : Type} (b : Bool) (o : Option α) : Option α := if b = true then o else none
theorem grd_some {α : Type} {b : Bool} {o : Option α} {r : α} (h : grd b o = some r) : b = true ∧ o = some r := by
  unfold grd at h; split at h
  · exact ⟨by assumption, h⟩
  · cases h
theorem bnd {α β : Type} {o : Option α} {f : α → Option β} {r : β} (h : o.bind f = some r) : ∃ a, o = some a ∧ f a = some r := Option.bind_eq_some_iff.mp h
def oOk (o : Option Mode) : Bool := match o with
  | some m => decide (m ≠ .X)
  | none => false
def ckPx (S : Sx) (μ : List Mode) : Px → Expr → Option Unit
  | .int i, e => (pInt e).bind fun j => grd (decide (i = j)) (some ())
  | .neg i, e => (pNeg e).bind fun x => (pInt x).bind fun j => grd (decide (i = j)) (some ())
  | .var i, e => (pName e).bind fun x => grd (nmB S i x && oOk μ[i]?) (some ())
  | .add a b, e => (pBin e).bind fun q => grd (decide (q.2.1 = .Add)) ((ckPx S μ a q.1).bind fun _ => ckPx S μ b q.2.2)
  | .sub a b, e => (pBin e).bind fun q => grd (decide (q.2.1 = .Sub)) ((ckPx S μ a q.1).bind fun _ => ckPx S μ b q.2.2)
def pSl : Expr → Option (Expr × Option Expr × Option Expr)
  | .Subscript e (.Slice lo hi none _) _ => some (e, lo, hi)
  | _ => none
theorem pSl_some {e x : Expr} {lo hi : Option Expr} (h : pSl e = some (x, lo, hi)) : ∃ p q, e = .Subscript x (.Slice lo hi none p) q := by
  unfold pSl at h; split at h
  · cases h; exact ⟨_, _, rfl⟩
  · cases h
def ckPo (S : Sx) (μ : List Mode) (p : Option Px) (e : Option Expr) : Option Unit := match p, e with
  | none, none => some ()
  | some p, some e => ckPx S μ p e
  | _, _ => none
def slM (k : Bool) (m : Mode) : Option Mode := if k = true then some (.O (partM m)) else if m = .F then some .F else none
mutual
/-- a target: st the slots that may be stored -/
def ckG (S : Sx) (st : Nat → Bool) : Tg → Expr → Mode → List Mode → Option (List Mode)
  | .nm i, e, m, μ => (pName e).bind fun x => grd (decide (S.N[i]? = some x) && (locB S x && (st i && decide (i < μ.length)))) (some (μ.set i m))
  | .tup ts, e, m, μ => (pTup e).bind fun es => grd (S.calm && es.all notStar) (ckGs S st ts es (partM m) μ)
  | .lst ts, e, m, μ => (pTup e).bind fun es => grd (S.calm && es.all notStar) (ckGs S st ts es (partM m) μ)
def ckGs (S : Sx) (st : Nat → Bool) : Tgs → List Expr → Mode → List Mode → Option (List Mode)
  | .nil, es, _, μ => grd es.isEmpty (some μ)
  | .cons t r, es, m, μ => es.head?.bind fun e => grd (notStar e) ((ckG S st t e m μ).bind fun μ1 => ckGs S st r es.tail m μ1)
end
def relS2 (sc scope : Scope) : Scope := { scope with names := scope.names.map fun (n, k) => if (k == .free && sc.kind == .function && sc.names.lookup n == some .cell) then (n, .cell) else (n, k) }
def Sx.blk (S : Sx) (scope : Scope) (μx : List Mode) : Sx := { S with sc := relS2 S.sc scope, fnA := some scope, μx := μx, ex := [] }
def ownN (N : List Str) (own : List Nat) : List (Str × Nat) := own.map fun i => (N.getD i "", i)
def oneL (es : List Expr) : Option Expr := match es with
  | [e] => some e
  | _ => none
def twoL (es : List Expr) : Option (Expr × Expr) := match es with
  | [e, f] => some (e, f)
  | _ => none
theorem oneL_some {es : List Expr} {e : Expr} (h : oneL es = some e) : es = [e] := by
  unfold oneL at h; split at h
  · cases h; rfl
  · cases h
theorem twoL_some {es : List Expr} {e f : Expr} (h : twoL es = some (e, f)) : es = [e, f] := by
  unfold twoL at h; split at h
  · cases h; rfl
  · cases h
def ixM : Mode → Option Mode
  | .F => some .F
  | .O m => some m
  | _ => none
def oM : Option Mode → Option Mode
  | some (.O m) => some m
  | _ => none
theorem oM_some {o : Option Mode} {m : Mode} (h : oM o = some m) : o = some (.O m) := by
  unfold oM at h; split at h
  · cases h; rfl
  · cases h
mutual
def ckE (S : Sx) : Ex → Expr → List Mode → Option (Mode × List Mode)
  | .var i, e, μ => (pName e).bind fun x => (μ[i]?).bind fun m => grd (nmB S i x && flatM m) (some (m, μ))
  | .fv i, e, μ => (pName e).bind fun x => (μ[i]?).bind fun m => grd (nmB S i x && decide (m ≠ .X)) (some (.F, μ.set i .F))
  | .mv i, e, μ => (pName e).bind fun x => (μ[i]?).bind fun m => grd (nmB S i x && decide (m ≠ .X)) (some (m, μ.set i .U))
  | .int i, e, μ => (pInt e).bind fun j => grd (decide (i = j)) (some (.Z, μ))
  | .bl i, e, μ => (pBl e).bind fun j => grd (decide (i = j)) (some (.Z, μ))
  | .non, e, μ => (pNon e).bind fun _ => some (.Z, μ)
  | .str i, e, μ => (pStr e).bind fun j => grd (decide (i = j)) (some (.Z, μ))
  | .neg a, e, μ => (pNeg e).bind fun x => (ckE S a x μ).bind fun r => some (.Z, r.2)
  | .bin o a b, e, μ => (pBin e).bind fun q => grd (decide (q.2.1 = o.oper)) ((ckE S a q.1 μ).bind fun r => (ckE S b q.2.2 r.2).bind fun t => (o.md r.1 t.1).bind fun m => some (m, t.2))
  | .cmp o a b, e, μ => (pCmp e).bind fun q => grd (decide (q.2.1 = o.oper) && inMark o q.2.2) ((ckE S a q.1 μ).bind fun r => (ckE S b q.2.2 r.2).bind fun t => some (.Z, t.2))
  | .ch2 o1 o2 a b c, e, μ => (pCh2 e).bind fun q => grd (decide (q.2.1 = o1.oper) && (decide (q.2.2.2.1 = o2.oper) && inMark o2 q.2.2.2.2)) ((ckE S a q.1 μ).bind fun r => (ckE S b q.2.2.1 r.2).bind fun t => (ckE S c q.2.2.2.2 t.2).bind fun u => grd (decide (t.1 = .Z) && decide (u.2 = t.2)) (some (.Z, t.2)))
  | .ch3 o1 o2 o3 a b c d, e, μ => (pCh3 e).bind fun q => grd (decide (q.2.1 = o1.oper) && (decide (q.2.2.2.1 = o2.oper) && (decide (q.2.2.2.2.2.1 = o3.oper) && inMark o3 q.2.2.2.2.2.2))) ((ckE S a q.1 μ).bind fun r => (ckE S b q.2.2.1 r.2).bind fun t => (ckE S c q.2.2.2.2.1 t.2).bind fun u => (ckE S d q.2.2.2.2.2.2 u.2).bind fun v => grd (decide (t.1 = .Z) && (decide (u.1 = .Z) && (decide (u.2 = t.2) && decide (v.2 = t.2)))) (some (.Z, t.2)))
  | .glob x d, e, μ => (pName e).bind fun y => grd (decide (y = x) && (glB S x && S.gc.any fun q => decide (q.1 = x) && beqD q.2 d)) (some (.F, μ))
  | .ix a b, e, μ => (pSub e).bind fun q => grd (plainB q.2) ((ckE S a q.1 μ).bind fun r => (ckE S b q.2 r.2).bind fun t => (ixM r.1).bind fun m => some (m, t.2))
  | .andV a b, e, μ => (pBo e).bind fun q => grd (decide (q.1 = .And)) (q.2.head?.bind fun x => (ckE S a x μ).bind fun r => match oneL q.2.tail with
    | some y => (ckE S b y r.2).bind fun t => grd (decide (t.2 = r.2)) (some t)
    | none => (ckV S b true q.2.tail r.2).bind fun t => grd (decide (t.2 = r.2)) (some t))
  | .orV a b, e, μ => (pBo e).bind fun q => grd (decide (q.1 = .Or)) (q.2.head?.bind fun x => (ckE S a x μ).bind fun r => match oneL q.2.tail with
    | some y => (ckE S b y r.2).bind fun t => grd (decide (t.2 = r.2)) (some t)
    | none => (ckV S b false q.2.tail r.2).bind fun t => grd (decide (t.2 = r.2)) (some t))
  | .notV a, e, μ => (pNot e).bind fun x => (ckE S a x μ).bind fun r => some (.Z, r.2)
  | .ifE t a b, e, μ => (pIf e).bind fun q => (ckT S t q.1 μ).bind fun μ1 => (ckE S a q.2.1 μ1).bind fun r => (ckE S b q.2.2 μ1).bind fun s => grd (decide (r.1 = s.1) && decide (r.2 = s.2)) (some r)
  | .tup m as, e, μ => (pTup e).bind fun es => (ckA S as es μ).bind fun r => grd ((r.1.all fun x => EV.sub x m) && (decide (r.2.1 = []) && decide (r.1.length ≤ sizeLine))) (some (.O m, r.2.2))
  | .lst m as, e, μ => (pLst e).bind fun es => (ckA S as es μ).bind fun r => grd ((r.1.all fun x => EV.sub x m) && (decide (r.2.1 = []) && decide (r.1.length ≤ sizeLine))) (some (.O m, r.2.2))
  | .call g as, e, μ => (pCall e).bind fun q => grd (glB S q.1 && (decide ((S.fs[g]?).map (·.name) = some q.1) && (q.2.all notStar && !q.2.isEmpty)))
      ((ckA S as q.2 μ).bind fun r => grd (decide ((S.fs.getD g default).pm = r.1 ++ (S.fs.getD g default).dms) && decide ((S.fs.getD g default).kn = []) && weakL (putM r.2.1 (S.fs.getD g default).pm r.2.2) S.μx) (some ((S.fs.getD g default).rm, putM r.2.1 (S.fs.getD g default).pm r.2.2)))
  | .blt o as, e, μ => (pCall e).bind fun q => grd S.calm <| grd (bltB S q.1 && (decide (q.1 = o.nm) && (q.2.all notStar && !q.2.isEmpty)))
      ((ckA S as q.2 μ).bind fun r => grd (decide (r.2.1 = [])) ((o.md r.1).bind fun m => some (m, r.2.2)))
  | .lc own it t c e0, e, μ => (pLc e).bind fun q => grd S.calm <| grd (blkC S.N S.sc q.2.2.2.2 (ownN S.N own) && (foldB q.2.2.1 && decide ((ownN S.N own).map (·.2) = own)))
      ((ckI S it q.2.1 q.2.2.1 μ).bind fun r => grd (flatAt r.2 own)
        ((ckG (S.blk q.2.2.2.2 []) (fun i => own.contains i) t q.2.1 r.1 (wipeM r.2 own)).bind fun μt => grd (flatAt μt own)
          ((ckC (S.blk q.2.2.2.2 μt) c q.2.2.2.1 μt).bind fun μt' => grd (decide (μt' = μt))
            ((ckE (S.blk q.2.2.2.2 μt) e0 q.1 μt).bind fun s => grd (flatAt s.2 own && (weakL (wipeM s.2 own) (wipeM r.2 own) && weakL (wipeM μt own) (wipeM r.2 own))) (some (.O s.1, backM r.2 (wipeM r.2 own) own))))))
  | .lc2 own own1 it t c it1 t1 c1 e0, e, μ => (pLc2 e).bind fun q => grd S.calm <| grd (blkC S.N S.sc q.2.2.2.2.2.2.2 (ownN S.N own) && (foldB q.2.2.1 && (foldB q.2.2.2.2.2.1 && (decide ((ownN S.N own).map (·.2) = own) && own1.all own.contains))))
      ((ckI S it q.2.1 q.2.2.1 μ).bind fun r => grd (flatAt r.2 own)
        ((ckG (S.blk q.2.2.2.2.2.2.2 []) (fun i => own.contains i) t q.2.1 r.1 (wipeM r.2 own)).bind fun μt => grd (flatAt μt own && weakL (wipeM μt own) (wipeM r.2 own))
          ((ckC (S.blk q.2.2.2.2.2.2.2 μt) c q.2.2.2.1 μt).bind fun μt' => grd (decide (μt' = μt))
            ((ckI (S.blk q.2.2.2.2.2.2.2 μt) it1 q.2.2.2.2.1 q.2.2.2.2.2.1 μt).bind fun r1 => grd (flatAt r1.2 own1 && (flatAt (wipeM r1.2 own1) own && weakL (wipeM (wipeM r1.2 own1) own) (wipeM r.2 own)))
              ((ckG (S.blk q.2.2.2.2.2.2.2 []) (fun i => own1.contains i) t1 q.2.2.2.2.1 r1.1 (wipeM r1.2 own1)).bind fun μt1 => grd (flatAt μt1 own1 && weakL (wipeM μt1 own1) (wipeM r1.2 own1))
                ((ckC (S.blk q.2.2.2.2.2.2.2 μt1) c1 q.2.2.2.2.2.2.1 μt1).bind fun μt1' => grd (decide (μt1' = μt1))
                  ((ckE (S.blk q.2.2.2.2.2.2.2 μt1) e0 q.1 μt1).bind fun s => grd (flatAt s.2 own1 && weakL (wipeM s.2 own1) (wipeM r1.2 own1)) (some (.O s.1, backM r.2 (wipeM r.2 own) own)))))))))
  | .callk g as bs, e, μ => (pCallK e).bind fun q => grd (glB S q.1 && (decide ((S.fs[g]?).map (·.name) = some q.1) && (q.2.1.all notStar && (!q.2.1.isEmpty && decide (kwNames q.2.2 = some (S.fs.getD g default).kn)))))
      ((ckA S as q.2.1 μ).bind fun r => (ckA S bs (q.2.2.map (·.value)) r.2.2).bind fun t => grd (decide ((S.fs.getD g default).pm = (r.1 ++ t.1) ++ (S.fs.getD g default).dms) && (decide (r.2.1 = []) && (decide (t.2.1 = []) && (decide (t.1.length = (S.fs.getD g default).kn.length) && (decide ((S.fs.getD g default).kn ≠ []) && weakL t.2.2 S.μx))))) (some ((S.fs.getD g default).rm, t.2.2)))
  | .isi Cs a, e, μ => (pCall e).bind fun q => (twoL q.2).bind fun y => grd (bltB S q.1 && (decide (q.1 = "isinstance") && (notStar y.1 && (notStar y.2 && clE S Cs y.2)))) ((ckE S a y.1 μ).bind fun r => some (.Z, r.2))
  | .app i a, e, μ => (pMeth e).bind fun q => (oneL q.2.2.1).bind fun y => grd (nmB S i q.1 && (decide (q.2.1 = "append") && (notStar y && q.2.2.2.1.endLine == q.2.2.2.2.line)))
      ((μ[i]?).bind fun m => grd (decide (m ≠ .X)) ((ckE S a y μ).bind fun r => grd (decide (r.2[i]? = some (.O r.1))) (some (.Z, r.2))))
  | .popAt i a, e, μ => (pMeth e).bind fun q => (oneL q.2.2.1).bind fun y => grd (nmB S i q.1 && (decide (q.2.1 = "pop") && (notStar y && q.2.2.2.1.endLine == q.2.2.2.2.line)))
      ((μ[i]?).bind fun m => grd (decide (m ≠ .X)) ((ckE S a y μ).bind fun r => (oM r.2[i]?).bind fun mc => some (mc, r.2)))
  | .sl k a lo hi, e, μ => (pSl e).bind fun q => (ckE S a q.1 μ).bind fun r => (ckPo S r.2 lo q.2.1).bind fun _ => (ckPo S r.2 hi q.2.2).bind fun _ => (slM k r.1).bind fun m => some (m, r.2)
  | .bor M a, e, μ => grd (decide (M.length = μ.length)) ((ckE { S with μx := borX M μ } a e (borM M μ)).bind fun r => grd (closed r.1 && (closedOn M r.2 && (closedOn M (borX M μ) && weakL (mixM M μ (borX M μ)) S.μx))) (some (r.1, mixM M μ r.2)))
  | .frz a, e, μ => (ckE S a e μ).bind fun r => some (.F, r.2)
  | .flat a, e, μ => (ckE S a e μ).bind fun r => some (.Z, r.2)
  | .flats a, e, μ => (ckE S a e μ).bind fun r => (oM (some r.1)).bind fun _ => some (.O .Z, r.2)
  | .sub m a, e, μ => (ckE S a e μ).bind fun r => grd (EV.sub r.1 m) (some (m, r.2))
/-- and, or of values: the rest of the list, two or more -/
def ckV (S : Sx) : Ex → Bool → List Expr → List Mode → Option (Mode × List Mode)
  | .andV a b, k, ys, μ => grd (k && decide (2 ≤ ys.length)) (ys.head?.bind fun x => (ckE S a x μ).bind fun r => match oneL ys.tail with
    | some y => (ckE S b y r.2).bind fun t => grd (decide (t.2 = r.2)) (some t)
    | none => (ckV S b true ys.tail r.2).bind fun t => grd (decide (t.2 = r.2)) (some t))
  | .orV a b, k, ys, μ => grd (!k && decide (2 ≤ ys.length)) (ys.head?.bind fun x => (ckE S a x μ).bind fun r => match oneL ys.tail with
    | some y => (ckE S b y r.2).bind fun t => grd (decide (t.2 = r.2)) (some t)
    | none => (ckV S b false ys.tail r.2).bind fun t => grd (decide (t.2 = r.2)) (some t))
  | _, _, _, _ => none
def ckA (S : Sx) : Ar → List Expr → List Mode → Option (List Mode × Ios × List Mode)
  | .nil, es, μ => grd es.isEmpty (some ([], [], μ))
  | .e a r, es, μ => es.head?.bind fun x => grd (notStar x) ((ckE S a x μ).bind fun p => (ckA S r es.tail p.2).bind fun q => some (p.1 :: q.1, shift q.2.1, q.2.2))
  | .io i r, es, μ => es.head?.bind fun e => (pName e).bind fun x => (μ[i]?).bind fun m => grd (nmB S i x && decide (m ≠ .X)) ((ckA S r es.tail (μ.set i .U)).bind fun q => some (m :: q.1, (0, i) :: shift q.2.1, q.2.2))
def ckT (S : Sx) : Tx → Expr → List Mode → Option (List Mode)
  | .val a, e, μ => grd (truB e) ((ckE S a e μ).bind fun r => some r.2)
  | .tru a, e, μ => grd (truB e) ((ckE S a e μ).bind fun r => some r.2)
  | .cmp o a b, e, μ => (pCmp e).bind fun q => grd (decide (q.2.1 = o.oper) && inMark o q.2.2) ((ckE S a q.1 μ).bind fun r => (ckE S b q.2.2 r.2).bind fun t => some t.2)
  | .ch2 o1 o2 a b c, e, μ => (pCh2 e).bind fun q => grd (decide (q.2.1 = o1.oper) && (decide (q.2.2.2.1 = o2.oper) && inMark o2 q.2.2.2.2)) ((ckE S a q.1 μ).bind fun r => (ckE S b q.2.2.1 r.2).bind fun t => (ckE S c q.2.2.2.2 t.2).bind fun u => grd (decide (t.1 = .Z) && decide (u.2 = t.2)) (some t.2))
  | .ch3 o1 o2 o3 a b c d, e, μ => (pCh3 e).bind fun q => grd (decide (q.2.1 = o1.oper) && (decide (q.2.2.2.1 = o2.oper) && (decide (q.2.2.2.2.2.1 = o3.oper) && inMark o3 q.2.2.2.2.2.2))) ((ckE S a q.1 μ).bind fun r => (ckE S b q.2.2.1 r.2).bind fun t => (ckE S c q.2.2.2.2.1 t.2).bind fun u => (ckE S d q.2.2.2.2.2.2 u.2).bind fun v => grd (decide (t.1 = .Z) && (decide (u.1 = .Z) && (decide (u.2 = t.2) && decide (v.2 = t.2)))) (some t.2))
  | .not t, e, μ => (pNot e).bind fun x => ckT S t x μ
  | .and t u, e, μ => (pBo e).bind fun q => grd (decide (q.1 = .And)) (q.2.head?.bind fun x => (ckT S t x μ).bind fun μ1 => match oneL q.2.tail with
    | some y => (ckT S u y μ1).bind fun μ2 => grd (decide (μ2 = μ1)) (some μ2)
    | none => (ckW S u true q.2.tail μ1).bind fun μ2 => grd (decide (μ2 = μ1)) (some μ2))
  | .or t u, e, μ => (pBo e).bind fun q => grd (decide (q.1 = .Or)) (q.2.head?.bind fun x => (ckT S t x μ).bind fun μ1 => match oneL q.2.tail with
    | some y => (ckT S u y μ1).bind fun μ2 => grd (decide (μ2 = μ1)) (some μ2)
    | none => (ckW S u false q.2.tail μ1).bind fun μ2 => grd (decide (μ2 = μ1)) (some μ2))
  | .bor M t, e, μ => grd (decide (M.length = μ.length)) ((ckT { S with μx := borX M μ } t e (borM M μ)).bind fun r => grd (closedOn M r && (closedOn M (borX M μ) && weakL (mixM M μ (borX M μ)) S.μx)) (some (mixM M μ r)))
def ckW (S : Sx) : Tx → Bool → List Expr → List Mode → Option (List Mode)
  | .and t u, k, ys, μ => grd (k && decide (2 ≤ ys.length)) (ys.head?.bind fun x => (ckT S t x μ).bind fun μ1 => match oneL ys.tail with
    | some y => (ckT S u y μ1).bind fun μ2 => grd (decide (μ2 = μ1)) (some μ2)
    | none => (ckW S u true ys.tail μ1).bind fun μ2 => grd (decide (μ2 = μ1)) (some μ2))
  | .or t u, k, ys, μ => grd (!k && decide (2 ≤ ys.length)) (ys.head?.bind fun x => (ckT S t x μ).bind fun μ1 => match oneL ys.tail with
    | some y => (ckT S u y μ1).bind fun μ2 => grd (decide (μ2 = μ1)) (some μ2)
    | none => (ckW S u false ys.tail μ1).bind fun μ2 => grd (decide (μ2 = μ1)) (some μ2))
  | _, _, _, _ => none
def ckC (S : Sx) : Cx1 → List Expr → List Mode → Option (List Mode)
  | .no, es, μ => grd es.isEmpty (some μ)
  | .one t, es, μ => (oneL es).bind fun x => ckT S t x μ
def ckI (S : Sx) : Ix → Expr → Expr → List Mode → Option (Mode × List Mode)
  | .list a, _, e, μ => (ckE S a e μ).bind fun r => grd (decide (r.1 = .F)) (some (.F, r.2))
  | .tup a, _, e, μ => (ckE S a e μ).bind fun r => grd (decide (r.1 = .F)) (some (.F, r.2))
  | .r1 a, _, e, μ => (pCall e).bind fun q => (oneL q.2).bind fun y => grd (bltB S q.1 && (decide (q.1 = "range") && notStar y)) ((ckE S a y μ).bind fun r => some (.Z, r.2))
  | .r2 a b, _, e, μ => (pCall e).bind fun q => (twoL q.2).bind fun y => grd (bltB S q.1 && (decide (q.1 = "range") && (notStar y.1 && notStar y.2))) ((ckE S a y.1 μ).bind fun r => (ckE S b y.2 r.2).bind fun t => some (.Z, t.2))
  | .zip a b, g, e, μ => (pTup g).bind fun _ => (pCall e).bind fun q => (twoL q.2).bind fun y => grd (bltB S q.1 && (decide (q.1 = "zip") && (notStar y.1 && notStar y.2))) ((ckE S a y.1 μ).bind fun r => (ckE S b y.2 r.2).bind fun t => grd (decide (r.1 = .F) && decide (t.1 = .F)) (some (.O .F, t.2)))
  | .zipS a b, g, e, μ => (pTup g).bind fun _ => (pZipS e).bind fun q => grd (bltB S q.1 && (decide (q.1 = "zip") && (notStar q.2.1 && notStar q.2.2))) ((ckE S a q.2.1 μ).bind fun r => (ckE S b q.2.2 r.2).bind fun t => grd (decide (r.1 = .F) && decide (t.1 = .F)) (some (.O .F, t.2)))
  | .enum a, g, e, μ => (pTup g).bind fun _ => (pCall e).bind fun q => (oneL q.2).bind fun y => grd (bltB S q.1 && (decide (q.1 = "enumerate") && notStar y)) ((ckE S a y μ).bind fun r => grd (decide (r.1 = .F)) (some (.O .F, r.2)))
end
end EV

/-! EvP: what matches is sound. -/
namespace EV
open PySem PySem.Spec L2
/-- how a def's call binds -/
def Bnd (K : PySem.W.Frag) (fd : FuncData) (ps : List Str) (pm dms : List Mode) (ds : List Value) : List Str → Prop
  | [] => Binds K fd ps ds
  | k :: r => KBd K fd ps (pm.length - dms.length - (k :: r).length) (k :: r) ds
theorem Bnd.nil {K : PySem.W.Frag} {fd : FuncData} {ps : List Str} {pm dms : List Mode} {ds : List Value} {ks : List Str} (h : Bnd K fd ps pm dms ds ks) (e : ks = []) : Binds K fd ps ds := by subst e; exact h
theorem Bnd.kw {K : PySem.W.Frag} {fd : FuncData} {ps : List Str} {pm dms : List Mode} {ds : List Value} {ks : List Str} (h : Bnd K fd ps pm dms ds ks) (e : ks ≠ []) : KBd K fd ps (pm.length - dms.length - ks.length) ks ds := by
  cases ks with
  | nil => exact absurd rfl e
  | cons k r => exact h
/-- a def, ready to be called -/
def FnGood (X : Cx) (f : Fn) : Prop := ∃ (k : Nat) (fad : Addr) (fd : FuncData) (ps : List Str) (dvs : List V) (ds : List Value), FnOk X.prog X.w X.K X.mg X.base (L2.CX X.prog X.w) k fad fd ps (spD X.K f.pm f.rm f.F) ∧ Room k X.A ∧ X.mg f.name = some (.ref fad) ∧ PySem.W.keepIn X.K (.ref fad) = true ∧ Bnd X.K fd ps f.pm f.dms ds f.kn ∧ Vals dvs ds ∧ ∀ B H, Ra X.K B H f.dds f.dms dvs []
structure XOk (S : Sx) (fs : List Fn) (X : Cx) (w : Wh) : Prop where
  sg : fs.map Fn.sg = S.fs
  n : X.N = S.N
  nd : S.N.Nodup
  sc : X.env.scope = S.sc
  fnl : ∀ x, locB S x = true → X.fn x = true ∨ X.env.scope.names.lookup x = some .local
  calm : S.calm = true → X.calm = true
  room : X.A.units + 65 < cLine
  fs : ∀ f ∈ fs, FnGood X f
  bl : ∀ x ∈ S.bl, X.mg x = none
  tk : Takes X w.W
  mx : w.μx = S.μx
  ex : ∀ c w, (c, w) ∈ S.ex → ExZ X c w
  exm : ∀ x c b, (x, c, b) ∈ S.exm → PySem.W.exmOne X.K (.ref (He.ga X.K x)) (.ref (He.ga X.K c)) = some b ∧ X.mg c = some (.ref (He.ga X.K c))
  fl : ∀ k n, (k, n) ∈ S.fl → Cls X.K (He.ga X.K k) ∧ NoAttr X.K (He.ga X.K k) n
  gc : ∀ x d, (x, d) ∈ S.gc → GC X.K X.mg x d
theorem takes_no (X : Cx) (μ : List Mode) : Takes X (wNo μ).W := fun u s' ⟨a, B, sI, pins, σ, H, cls, d, e, I, nb, up, sky, na, os, ag, w⟩ => (w : False).elim
section
variable {S : Sx} {fs : List Fn} {X : Cx} {w : Wh}
theorem XOk.bor (o : XOk S fs X w) (μ1 : List Mode) : XOk { S with μx := μ1 } fs X (w.bor μ1) := ⟨o.sg, o.n, o.nd, o.sc, o.fnl, o.calm, o.room, o.fs, o.bl, o.tk, rfl, o.ex, o.exm, o.fl, o.gc⟩
theorem locB_or {S : Sx} {x : Str} (h : locB S x = true) : Loc S.sc x := by
  unfold locB at h
  rw [Bool.and_eq_true] at h
  obtain ⟨h, _⟩ := h
  split at h
  · exact .inl (by assumption)
  · exact .inr (by assumption)
  · cases h
theorem XOk.blk (o : XOk S fs X w) {s : Shared} {H : Hp} {scope : Scope} {C : Addr} {cl : List (Str × Addr)} {fp : List Addr} {μ1 : List Mode} : XOk (S.blk scope μ1) fs (X.blk s H scope (compEnvC scope cl C X.env) fp) (wNo μ1) := by
  have e : (compEnvC scope cl C X.env).scope = relS2 S.sc scope := by rw [← o.sc]; rfl
  refine ⟨o.sg, o.n, o.nd, e, fun x h => ?_, o.calm, o.room, o.fs, o.bl, takes_no _ _, rfl, (fun _ _ h => nomatch h), o.exm, o.fl, o.gc⟩
  unfold locB at h
  rw [Bool.and_eq_true] at h
  have h2 := h.2
  change (decide (scope.names.lookup x = some .cell) || decide ((relS2 S.sc scope).names.lookup x = some .local)) = true at h2
  rw [Bool.or_eq_true] at h2
  rcases h2 with h2 | h2
  · exact .inl (by show (scope.names.lookup x == some .cell) = true; rw [of_decide_eq_true h2]; rfl)
  · exact .inr (by show (compEnvC scope cl C X.env).scope.names.lookup x = _; rw [e]; exact of_decide_eq_true h2)
theorem nmB_ok (o : XOk S fs X w) {i : Nat} {x : Str} (h : nmB S i x = true) : X.N[i]? = some x ∧ Vis X.env.scope x ∧ (x == ("__debug__" : Str)) = false ∧ (x == ("__classdict__" : Str)) = false := by
  unfold nmB at h
  rw [Bool.and_eq_true, Bool.and_eq_true, Bool.and_eq_true] at h
  obtain ⟨h1, h2, h3, h4⟩ := h
  refine ⟨by rw [o.n]; exact of_decide_eq_true h1, ?_, by simpa using h3, by simpa using h4⟩
  rw [o.sc]
  unfold visB at h2
  split at h2
  · exact .inl (by assumption)
  · exact .inr (.inl (by assumption))
  · exact .inr (.inr (by assumption))
  · cases h2
theorem glB_ok (o : XOk S fs X w) {x : Str} (h : glB S x = true) : Gl X x ∧ (x == ("__debug__" : Str)) = false := by
  unfold glB at h
  rw [Bool.and_eq_true] at h
  refine ⟨?_, by simpa using h.2⟩
  show X.env.scope.names.lookup x = _
  rw [o.sc]; exact of_decide_eq_true h.1
theorem bltB_ok (o : XOk S fs X w) {x : Str} (h : bltB S x = true) : Gl X x ∧ X.mg x = none ∧ (x == ("__debug__" : Str)) = false := by
  unfold bltB at h
  rw [Bool.and_eq_true] at h
  have g := glB_ok o h.1
  exact ⟨g.1, o.bl x (by simpa using h.2), g.2⟩
theorem DAi.da {μ μ' : List Mode} {es : List Expr} {f : Gam → Rz (List D)} {ms : List Mode} (h : DAi X w μ es f ms [] μ') : DA X w μ es f ms μ' :=
  ⟨h.pa.imp fun σ H Q ⟨B, Γ, fp, st, q⟩ => ⟨B, Γ, fp, st, by
    revert q
    cases f Γ with
    | ok d Γ' => exact fun q B' H' vs fpv fp' s1 st' r nd _ => q B' H' vs fpv fp' s1 st' r nd
    | exc x Γ' => exact id
    | bad => exact id⟩⟩
/-! ### operators -/
theorem bin_ok {o : B2} {m1 m2 m : Mode} (h : o.md m1 m2 = some m) : ∃ r, OpR X (binaryOp o.oper) r ∧ OpD X.K r m1 m2 o.op m := by
  cases o with
  | cat =>
    have : (∃ k, m1 = .O k ∧ m2 = .O k ∧ m = .O k) ∨ (m1 = .F ∧ m2 = .F ∧ m = .O .F) := by
      cases m1 <;> cases m2 <;> first | (cases h; done) | skip
      · cases h; exact .inr ⟨rfl, rfl, rfl⟩
      · rename_i a b
        change (if a = b then some (Mode.O a) else none) = some m at h
        split at h
        · rename_i e; cases h; exact .inl ⟨a, rfl, by rw [e], rfl⟩
        · cases h
    rcases this with ⟨k, rfl, rfl, rfl⟩ | ⟨rfl, rfl, rfl⟩
    · exact ⟨_, op_cat, opd_cat⟩
    · exact ⟨_, op_catL, opd_catF⟩
  | catT =>
    have : m1 = .F ∧ m2 = .F ∧ m = .F := by
      cases m1 <;> cases m2 <;> first | (cases h; done) | skip
      cases h; exact ⟨rfl, rfl, rfl⟩
    obtain ⟨rfl, rfl, rfl⟩ := this
    exact ⟨_, op_catA, opd_catT⟩
  | add => cases h; exact ⟨_, op_add, opd_add⟩
  | sub => cases h; exact ⟨_, op_sub, opd_sub⟩
  | mul => cases h; exact ⟨_, op_mulW, opd_mul⟩
  | div => cases h; exact ⟨_, op_fdivW, opd_div⟩
  | mod => cases h; exact ⟨_, op_mod, opd_mod⟩
  | pow => cases h; exact ⟨_, op_pow, opd_pow⟩
theorem cmp_ok (hu : X.A.units + 65 < cLine) (o : C2) (m1 m2 : Mode) : ∃ r, OpR X (compareOp o.oper) r ∧ OpD X.K r m1 m2 o.op .Z := by
  cases o with
  | lt => exact ⟨_, op_lt, opd_lt⟩
  | le => exact ⟨_, op_le, opd_le⟩
  | gt => exact ⟨_, op_gt, opd_gt⟩
  | ge => exact ⟨_, op_ge, opd_ge⟩
  | eq => exact ⟨_, op_eqD (by omega), opd_eq⟩
  | ne => exact ⟨_, op_neD (by omega), opd_ne⟩
  | isN => exact ⟨_, op_isN, opd_isN⟩
  | notN => exact ⟨_, op_notN, opd_notN⟩
  | isIn => exact ⟨_, op_inD hu, opd_in⟩
  | notIn => exact ⟨_, op_notInD hu, opd_nin⟩
theorem inMark_ok {o : C2} {b : Expr} (h : inMark o b = true) : behindInMarks o.oper b = false := by
  unfold inMark at h; simpa using h
theorem ix_ok {m1 m2 m : Mode} (h : ixM m1 = some m) : OpD X.K (rIx X.K) m1 m2 ixO m := by
  cases m1 <;> first | (cases h; done) | skip
  · cases h; exact opd_ixF
  · cases h; exact opd_ixO
/-- a built-in's call -/
theorem blt_ok (hc : X.calm = true) {o : BN} {ms : List Mode} {m : Mode} (h : o.md ms = some m) : ∃ r, ((∃ id, CallR X (.builtin id) r ∧ bootBuiltins o.nm = some (.builtin id)) ∨ ∃ T, CallR X (.type T) r ∧ bootBuiltins o.nm = some (.type T)) ∧ NaD X.K r ms o.op m ∧ o.nm ≠ "__name__" := by
  have one : ∀ {k : Mode → Mode}, (∃ a, ms = [a] ∧ m = k a) → ∃ a, ms = [a] ∧ m = k a := fun h => h
  cases o with
  | min2 =>
    rcases ms with _ | ⟨a, _ | ⟨b, _ | ⟨c, r⟩⟩⟩ <;> first | (cases h; done) | skip
    cases h
    exact ⟨_, .inl ⟨_, call_min2 hc, rfl⟩, nad_min2, by decide⟩
  | max2 =>
    rcases ms with _ | ⟨a, _ | ⟨b, _ | ⟨c, r⟩⟩⟩ <;> first | (cases h; done) | skip
    cases h
    exact ⟨_, .inl ⟨_, call_max2 hc, rfl⟩, nad_max2, by decide⟩
  | len =>
    rcases ms with _ | ⟨a, _ | ⟨b, r⟩⟩ <;> first | (cases h; done) | skip
    cases h
    exact ⟨_, .inl ⟨_, call_len_seq, rfl⟩, nad_len, by decide⟩
  | sum =>
    rcases ms with _ | ⟨a, _ | ⟨b, r⟩⟩ <;> first | (cases h; done) | skip
    cases h
    exact ⟨_, .inl ⟨_, cr_sum hc, rfl⟩, nad_sum, by decide⟩
  | min =>
    rcases ms with _ | ⟨a, _ | ⟨b, r⟩⟩ <;> first | (cases h; done) | skip
    cases h
    exact ⟨_, .inl ⟨_, cr_min hc, rfl⟩, nad_min, by decide⟩
  | max =>
    rcases ms with _ | ⟨a, _ | ⟨b, r⟩⟩ <;> first | (cases h; done) | skip
    cases h
    exact ⟨_, .inl ⟨_, cr_max hc, rfl⟩, nad_max, by decide⟩
  | abs =>
    rcases ms with _ | ⟨a, _ | ⟨b, r⟩⟩ <;> first | (cases h; done) | skip
    cases h
    exact ⟨_, .inl ⟨_, call_abs, rfl⟩, nad_abs, by decide⟩
  | int =>
    rcases ms with _ | ⟨a, _ | ⟨b, r⟩⟩ <;> first | (cases h; done) | skip
    cases h
    exact ⟨_, .inr ⟨_, call_int1, rfl⟩, nad_int, by decide⟩
  | list =>
    rcases ms with _ | ⟨a, _ | ⟨b, r⟩⟩ <;> first | (cases h; done) | skip
    cases h
    exact ⟨_, .inr ⟨_, call_list_of, rfl⟩, nad_list, by decide⟩
  | tuple =>
    rcases ms with _ | ⟨a, _ | ⟨b, r⟩⟩ <;> first | (cases h; done) | skip
    cases h
    exact ⟨_, .inr ⟨_, call_tuple_of, rfl⟩, nad_tuple, by decide⟩
theorem clN_ok (o : XOk S fs X w) {C : String} {e : Expr} (hv : bootBuiltins (Str.ofString C) = some (.type C)) (h : clN S C e = true) : PE X e (tC (.ty C)) := by
  unfold clN at h
  split at h
  · rename_i x hx
    obtain ⟨p, rfl⟩ := pName_some hx
    rw [Bool.and_eq_true, Bool.and_eq_true, Bool.and_eq_true] at h
    obtain ⟨h1, h2, h3, h4⟩ := h
    have e1 := of_decide_eq_true h1
    subst e1
    obtain ⟨g1, g2, g3⟩ := bltB_ok o h2
    exact pe_bltn g1 g2 hv rfl (by simpa using h3) g3
  · cases h
theorem clNs_ok (o : XOk S fs X w) : ∀ {Cs : List String} {es : List Expr}, (∀ C ∈ Cs, bootBuiltins (Str.ofString C) = some (.type C)) → clNs S Cs es = true → PA X es (fun _ H Q => Q (Cs.map V.ty) H)
  | [], [], _, _ => pa_nil.imp fun σ H Q q => q
  | C :: Cs, e :: es, hv, h => by
    have h' : (clN S C e && (notStar e && clNs S Cs es)) = true := h
    rw [Bool.and_eq_true, Bool.and_eq_true] at h'
    exact (pa_cons (clN_ok o (hv C (List.mem_cons_self ..)) h'.1) (clNs_ok o (fun C h => hv C (List.mem_cons_of_mem _ h)) h'.2.2) (star_of h'.2.1 _ _)).imp fun σ H Q q => q
  | [], _ :: _, _, h => by cases h
  | _ :: _, [], _, h => by cases h
theorem clE_ok (o : XOk S fs X w) {Cs : List String} {c : Expr} (h : clE S Cs c = true) : (∀ C ∈ Cs, C ∈ tys ∧ C ≠ "NoneType") ∧ ((∃ C, Cs = [C] ∧ PE X c (tC (.ty C))) ∨ PE X c (fun _ H1 Q => ∀ p, H1 p = none → Q (.ref p) (upd H1 p (.tup (Cs.map V.ty))))) := by
  unfold clE at h
  rw [Bool.and_eq_true, List.all_eq_true] at h
  obtain ⟨h1, h2⟩ := h
  have h1' : ∀ C ∈ Cs, C ∈ tys ∧ C ≠ "NoneType" ∧ bootBuiltins (Str.ofString C) = some (.type C) := fun C hC => by
    have := h1 C hC
    rw [Bool.and_eq_true, Bool.and_eq_true] at this
    exact ⟨by simpa using this.1, by simpa using this.2.1, of_decide_eq_true this.2.2⟩
  refine ⟨fun C hC => ⟨(h1' C hC).1, (h1' C hC).2.1⟩, ?_⟩
  split at h2
  · rename_i C
    exact .inl ⟨C, rfl, clN_ok o (h1' C (List.mem_cons_self ..)).2.2 h2⟩
  · split at h2
    · rename_i es he
      obtain ⟨k, p, rfl⟩ := pTup_some he
      rw [Bool.and_eq_true] at h2
      exact .inr ((pe_tup (clNs_ok o (fun C hC => (h1' C hC).2.2) h2.1)).imp fun σ H Q q => ⟨by rw [List.length_map]; exact of_decide_eq_true h2.2, q⟩)
    · cases h2
/-! ### targets -/
mutual
theorem ckG_len (S : Sx) (st : Nat → Bool) : ∀ (t : Tg) {e : Expr} {m : Mode} {μ μ' : List Mode}, ckG S st t e m μ = some μ' → μ'.length = μ.length
  | .nm i, e, m, μ, μ', h => by
    obtain ⟨x, _, h⟩ := bnd h
    obtain ⟨_, h⟩ := grd_some h
    cases h; exact List.length_set
  | .tup ts, e, m, μ, μ', h => by
    obtain ⟨x, _, h⟩ := bnd h
    obtain ⟨_, h⟩ := grd_some h
    exact ckGs_len S st ts h
  | .lst ts, e, m, μ, μ', h => by
    obtain ⟨x, _, h⟩ := bnd h
    obtain ⟨_, h⟩ := grd_some h
    exact ckGs_len S st ts h
theorem ckGs_len (S : Sx) (st : Nat → Bool) : ∀ (t : Tgs) {es : List Expr} {m : Mode} {μ μ' : List Mode}, ckGs S st t es m μ = some μ' → μ'.length = μ.length
  | .nil, es, m, μ, μ', h => by
    obtain ⟨_, h⟩ := grd_some h
    cases h; rfl
  | .cons t r, es, m, μ, μ', h => by
    obtain ⟨x, _, h⟩ := bnd h
    obtain ⟨_, h⟩ := grd_some h
    obtain ⟨μ1, h1, h⟩ := bnd h
    rw [ckGs_len S st r h, ckG_len S st t h1]
end
def Tgs.len : Tgs → Nat
  | .nil => 0
  | .cons _ r => r.len + 1
theorem evGs_len : ∀ {ts : Tgs} {ds : List D} {Γ Γ' : Gam}, evGs ts ds Γ = some Γ' → ds.length = ts.len
  | .nil, [], _, _, _ => rfl
  | .nil, _ :: _, _, _, h => by cases h
  | .cons t r, [], _, _, h => by cases h
  | .cons t r, d :: ds, Γ, Γ', h => by
    obtain ⟨Γ1, _, h2⟩ := bnd h
    have := evGs_len h2
    simp [Tgs.len, this]
theorem ckGs_num {st : Nat → Bool} : ∀ {ts : Tgs} {es : List Expr} {m : Mode} {μ μ' : List Mode}, ckGs S st ts es m μ = some μ' → es.length = ts.len
  | .nil, es, m, μ, μ', h => by
    obtain ⟨c, h⟩ := grd_some h
    cases es with
    | nil => rfl
    | cons _ _ => cases c
  | .cons t r, [], m, μ, μ', h => by cases h
  | .cons t r, e :: es, m, μ, μ', h => by
    obtain ⟨x, _, h⟩ := bnd h
    obtain ⟨_, h⟩ := grd_some h
    obtain ⟨μ1, h1, h⟩ := bnd h
    have := ckGs_num (es := es) h
    simp [Tgs.len, this]
mutual
theorem ckG_ok (o : XOk S fs X w) {P : St → Prop} {st : Nat → Bool} (hp : ∀ i, st i = true → ∀ σ s, P σ → P (σ.set i s)) : ∀ (t : Tg) {e : Expr} {m : Mode} {μ μ' : List Mode}, ckG S st t e m μ = some μ' → DG X P μ e m (evG t) μ'
  | .nm i, e, m, μ, μ', h => by
    obtain ⟨x, e1, h⟩ := bnd h
    obtain ⟨p, rfl⟩ := pName_some e1
    obtain ⟨c, h⟩ := grd_some h
    cases h
    rw [Bool.and_eq_true, Bool.and_eq_true, Bool.and_eq_true] at c
    obtain ⟨c1, c2, c3, c4⟩ := c
    exact DG.name (by rw [o.n]; exact o.nd) (by rw [o.n]; exact of_decide_eq_true c1) (by rw [o.sc]; exact locB_or c2) (o.fnl x c2) (hp i c3) (of_decide_eq_true c4)
  | .tup ts, e, m, μ, μ', h => by
    obtain ⟨es, e1, h⟩ := bnd h
    obtain ⟨k, p, rfl⟩ := pTup_some e1
    obtain ⟨c, h⟩ := grd_some h
    rw [Bool.and_eq_true] at c
    obtain ⟨cc, c⟩ := c
    have hn := ckGs_num h
    exact DG.tup (o.calm cc) (n := ts.len) (by rw [← hn]; exact ckGs_ok o hp ts h) (by rw [assignEach_len]; exact hn) (assignEach_noStar c _) fun ds Γ Γ' q => evGs_len q
  | .lst ts, e, m, μ, μ', h => by
    obtain ⟨es, e1, h⟩ := bnd h
    obtain ⟨k, p, rfl⟩ := pTup_some e1
    obtain ⟨c, h⟩ := grd_some h
    rw [Bool.and_eq_true] at c
    obtain ⟨cc, c⟩ := c
    have hn := ckGs_num h
    exact DG.lst (o.calm cc) (n := ts.len) (by rw [← hn]; exact ckGs_ok o hp ts h) (by rw [assignEach_len]; exact hn) (assignEach_noStar c _) fun ds Γ Γ' q => evGs_len q
theorem ckGs_ok (o : XOk S fs X w) {P : St → Prop} {st : Nat → Bool} (hp : ∀ i, st i = true → ∀ σ s, P σ → P (σ.set i s)) : ∀ (ts : Tgs) {es : List Expr} {m : Mode} {μ μ' : List Mode}, ckGs S st ts es m μ = some μ' → DGs X P μ es (List.replicate es.length m) (evGs ts) μ'
  | .nil, es, m, μ, μ', h => by
    obtain ⟨c, h⟩ := grd_some h
    cases h
    cases es with
    | nil => exact DGs.nil
    | cons _ _ => cases c
  | .cons t r, [], m, μ, μ', h => by cases h
  | .cons t r, e :: es, m, μ, μ', h => by
    obtain ⟨x, e1, h⟩ := bnd h
    cases e1
    obtain ⟨c, h⟩ := grd_some h
    obtain ⟨μ1, h1, h⟩ := bnd h
    exact DGs.cons (ckG_ok o hp t h1) (ckGs_ok o hp r h) (assignEach_cons c es _)
end
end
theorem oOk_ok {o : Option Mode} (h : oOk o = true) : ∃ m, o = some m ∧ m ≠ .X := by
  unfold oOk at h; split at h
  · exact ⟨_, rfl, of_decide_eq_true h⟩
  · cases h
section
variable {S : Sx} {fs : List Fn} {X : Cx} {w : Wh}
theorem ckPx_ok (o : XOk S fs X w) {μ : List Mode} : ∀ {p : Px} {e : Expr}, ckPx S μ p e = some () → DPx X μ e (evPx p)
  | .int i, e, h => by
    obtain ⟨x, e1, g⟩ := bnd h
    obtain ⟨k, p, rfl⟩ := pInt_some e1
    obtain ⟨c, g⟩ := grd_some g
    cases of_decide_eq_true c
    exact DPx.int
  | .neg i, e, h => by
    obtain ⟨x, e1, g0⟩ := bnd h
    obtain ⟨p, rfl⟩ := pNeg_some e1
    obtain ⟨y, e2, g⟩ := bnd g0
    obtain ⟨k, p2, rfl⟩ := pInt_some e2
    obtain ⟨c, g⟩ := grd_some g
    cases of_decide_eq_true c
    exact DPx.neg
  | .var i, e, h => by
    obtain ⟨x, e1, g⟩ := bnd h
    obtain ⟨p, rfl⟩ := pName_some e1
    obtain ⟨c, g⟩ := grd_some g
    rw [Bool.and_eq_true] at c
    obtain ⟨n1, n2, n3, n4⟩ := nmB_ok o c.1
    exact DPx.var n1 n2 n3 n4 (oOk_ok c.2)
  | .add a b, e, h => by
    obtain ⟨⟨x, op, y⟩, e1, g⟩ := bnd h
    obtain ⟨p, rfl⟩ := pBin_some e1
    obtain ⟨c, g⟩ := grd_some g
    obtain ⟨_, h1, g⟩ := bnd g
    have c' : op = .Add := of_decide_eq_true c
    subst c'
    exact DPx.add (ckPx_ok o h1) (ckPx_ok o g)
  | .sub a b, e, h => by
    obtain ⟨⟨x, op, y⟩, e1, g⟩ := bnd h
    obtain ⟨p, rfl⟩ := pBin_some e1
    obtain ⟨c, g⟩ := grd_some g
    obtain ⟨_, h1, g⟩ := bnd g
    have c' : op = .Sub := of_decide_eq_true c
    subst c'
    exact DPx.sub (ckPx_ok o h1) (ckPx_ok o g)
theorem ckPo_ok (o : XOk S fs X w) {μ : List Mode} {p : Option Px} {e : Option Expr} (h : ckPo S μ p e = some ()) : DPo X μ e (p.map evPx) := by
  unfold ckPo at h
  split at h
  · exact DPo.none
  · exact DPo.some (ckPx_ok o h)
  · cases h
theorem slM_ok {k : Bool} {m m' : Mode} (h : slM k m = some m') : ∃ r, L2.SlR X r ∧ SlD X.K r m (if k = true then sliceL else sliceT) m' := by
  unfold slM at h
  split at h
  · rename_i e
    cases h
    exact ⟨_, sl_list, by rw [if_pos e]; exact sld_list⟩
  · rename_i e0
    split at h
    · rename_i e; cases e; cases h
      exact ⟨_, sl_tupA, by rw [if_neg e0]; exact sld_tup⟩
    · cases h
end
end EV

/-! EvQ: what matches is sound: expressions. -/
namespace EV
open PySem PySem.Spec L2
theorem headt {es : List Expr} {x : Expr} (h : es.head? = some x) : es = x :: es.tail := by
  cases es with
  | nil => cases h
  | cons a r => cases h; rfl
theorem evIos_nil {as : Ar} {ios : Ios} (h : evIos as = ios) (e : ios = []) : evIos as = [] := h.trans e
section
theorem and_rest {α : Type} {X : Cx} {w : Wh} {μ : List Mode} {y : Expr} {ys : List Expr} {pos : Pos} {op : BoolOp} {g : Gam → Rz D} {m : Mode} (h : DE X w μ y g m μ) : DE X w μ (.BoolOp op [y] pos) g m μ := DE.one h
mutual
theorem ckE_ok : ∀ (x : Ex) {S : Sx} {fs : List Fn} {X : Cx} {w : Wh} {e : Expr} {μ : List Mode} {r : Mode × List Mode}, XOk S fs X w → ckE S x e μ = some r → DE X w μ e (ev fs x) r.1 r.2
  | .var i, S, fs, X, w, e, μ, r, o, h => by
    obtain ⟨x, e1, g⟩ := bnd h
    obtain ⟨p, rfl⟩ := pName_some e1
    obtain ⟨m, hm, g⟩ := bnd g
    obtain ⟨c, g⟩ := grd_some g
    cases g
    rw [Bool.and_eq_true] at c
    obtain ⟨n1, n2, n3, n4⟩ := nmB_ok o c.1
    exact DE.var n1 n2 n3 n4 hm c.2
  | .fv i, S, fs, X, w, e, μ, r, o, h => by
    obtain ⟨x, e1, g⟩ := bnd h
    obtain ⟨p, rfl⟩ := pName_some e1
    obtain ⟨m, hm, g⟩ := bnd g
    obtain ⟨c, g⟩ := grd_some g
    cases g
    rw [Bool.and_eq_true] at c
    obtain ⟨n1, n2, n3, n4⟩ := nmB_ok o c.1
    exact DE.fv n1 n2 n3 n4 hm (of_decide_eq_true c.2)
  | .mv i, S, fs, X, w, e, μ, r, o, h => by
    obtain ⟨x, e1, g⟩ := bnd h
    obtain ⟨p, rfl⟩ := pName_some e1
    obtain ⟨m, hm, g⟩ := bnd g
    obtain ⟨c, g⟩ := grd_some g
    cases g
    rw [Bool.and_eq_true] at c
    obtain ⟨n1, n2, n3, n4⟩ := nmB_ok o c.1
    exact DE.mv n1 n2 n3 n4 hm (of_decide_eq_true c.2)
  | .int i, S, fs, X, w, e, μ, r, o, h => by
    obtain ⟨x, e1, g⟩ := bnd h
    obtain ⟨k, p, rfl⟩ := pInt_some e1
    obtain ⟨c, g⟩ := grd_some g
    cases g
    cases of_decide_eq_true c
    exact DE.int
  | .bl i, S, fs, X, w, e, μ, r, o, h => by
    obtain ⟨x, e1, g⟩ := bnd h
    obtain ⟨k, p, rfl⟩ := pBl_some e1
    obtain ⟨c, g⟩ := grd_some g
    cases g
    cases of_decide_eq_true c
    exact DE.bl
  | .non, S, fs, X, w, e, μ, r, o, h => by
    obtain ⟨x, e1, g⟩ := bnd h
    obtain ⟨k, p, rfl⟩ := pNon_some e1
    cases g
    exact DE.non
  | .str i, S, fs, X, w, e, μ, r, o, h => by
    obtain ⟨x, e1, g⟩ := bnd h
    obtain ⟨k, p, rfl⟩ := pStr_some e1
    obtain ⟨c, g⟩ := grd_some g
    cases g
    cases of_decide_eq_true c
    exact DE.str
  | .neg a, S, fs, X, w, e, μ, r, o, h => by
    obtain ⟨x, e1, g⟩ := bnd h
    obtain ⟨p, rfl⟩ := pNeg_some e1
    obtain ⟨r1, h1, g⟩ := bnd g
    cases g
    have q := ckE_ok a o h1
    exact DE.un un_neg und_neg q
  | .bin b2 a b, S, fs, X, w, e, μ, r, o, h => by
    obtain ⟨⟨x, op, y⟩, e1, g⟩ := bnd h
    obtain ⟨p, rfl⟩ := pBin_some e1
    obtain ⟨c, g⟩ := grd_some g
    obtain ⟨r1, h1, g⟩ := bnd g
    obtain ⟨r2, h2, g⟩ := bnd g
    obtain ⟨m, h3, g⟩ := bnd g
    cases g
    have c' : op = b2.oper := of_decide_eq_true c
    subst c'
    obtain ⟨q, q1, q2⟩ := bin_ok (X := X) h3
    exact DE.op2 q1 q2 (ckE_ok a o h1) (ckE_ok b o h2)
  | .cmp c2 a b, S, fs, X, w, e, μ, r, o, h => by
    obtain ⟨⟨x, op, y⟩, e1, g⟩ := bnd h
    obtain ⟨p, rfl⟩ := pCmp_some e1
    obtain ⟨c, g⟩ := grd_some g
    obtain ⟨r1, h1, g⟩ := bnd g
    obtain ⟨r2, h2, g⟩ := bnd g
    cases g
    rw [Bool.and_eq_true] at c
    have c' : op = c2.oper := of_decide_eq_true c.1
    subst c'
    obtain ⟨q, q1, q2⟩ := cmp_ok (X := X) o.room c2 r1.1 r2.1
    exact DE.cmp q1 (inMark_ok c.2) q2 (ckE_ok a o h1) (ckE_ok b o h2)
  | .ch2 o1 o2 a b cc, S, fs, X, w, e, μ, r, o, h => by
    obtain ⟨⟨x, op, y, op', z⟩, e1, g⟩ := bnd h
    obtain ⟨p, rfl⟩ := pCh2_some e1
    obtain ⟨c, g⟩ := grd_some g
    obtain ⟨r1, h1, g⟩ := bnd g
    obtain ⟨⟨m2, μ2⟩, h2, g⟩ := bnd g
    obtain ⟨⟨m3, μ3⟩, h3, g⟩ := bnd g
    obtain ⟨c2, g⟩ := grd_some g
    cases g
    rw [Bool.and_eq_true, Bool.and_eq_true] at c
    rw [Bool.and_eq_true] at c2
    have c1' : op = o1.oper := of_decide_eq_true c.1
    have c2' : op' = o2.oper := of_decide_eq_true c.2.1
    have d1 : m2 = .Z := of_decide_eq_true c2.1
    have d2 : μ3 = μ2 := of_decide_eq_true c2.2
    subst c1' c2' d1 d2
    obtain ⟨q, q1, q2⟩ := cmp_ok (X := X) o.room o1 r1.1 .Z
    obtain ⟨q', q1', q2'⟩ := cmp_ok (X := X) o.room o2 .Z m3
    exact DE.ch2 q1 q2 q1' q2' (ckE_ok a o h1) (ckE_ok b o h2) (ckE_ok cc o h3) (inMark_ok c.2.2)
  | .ch3 o1 o2 o3 a b cc dd, S, fs, X, w, e, μ, r, o, h => by
    obtain ⟨⟨x, op, y, op', z, op'', t⟩, e1, g⟩ := bnd h
    obtain ⟨p, rfl⟩ := pCh3_some e1
    obtain ⟨c, g⟩ := grd_some g
    obtain ⟨r1, h1, g⟩ := bnd g
    obtain ⟨⟨m2, μ2⟩, h2, g⟩ := bnd g
    obtain ⟨⟨m3, μ3⟩, h3, g⟩ := bnd g
    obtain ⟨⟨m4, μ4⟩, h4, g⟩ := bnd g
    obtain ⟨c2, g⟩ := grd_some g
    cases g
    rw [Bool.and_eq_true, Bool.and_eq_true, Bool.and_eq_true] at c
    rw [Bool.and_eq_true, Bool.and_eq_true, Bool.and_eq_true] at c2
    have c1' : op = o1.oper := of_decide_eq_true c.1
    have c2' : op' = o2.oper := of_decide_eq_true c.2.1
    have c3' : op'' = o3.oper := of_decide_eq_true c.2.2.1
    have d1 : m2 = .Z := of_decide_eq_true c2.1
    have d2 : m3 = .Z := of_decide_eq_true c2.2.1
    have d3 : μ3 = μ2 := of_decide_eq_true c2.2.2.1
    have d4 : μ4 = μ2 := of_decide_eq_true c2.2.2.2
    subst c1' c2' c3' d1 d2 d3 d4
    obtain ⟨q, q1, q2⟩ := cmp_ok (X := X) o.room o1 r1.1 .Z
    obtain ⟨q', q1', q2'⟩ := cmp_ok (X := X) o.room o2 .Z .Z
    obtain ⟨q'', q1'', q2''⟩ := cmp_ok (X := X) o.room o3 .Z m4
    exact DE.ch3 q1 q2 q1' q2' q1'' q2'' (ckE_ok a o h1) (ckE_ok b o h2) (ckE_ok cc o h3) (ckE_ok dd o h4) (inMark_ok c.2.2.2)
  | .glob x d, S, fs, X, w, e, μ, r, o, h => by
    obtain ⟨y, e1, g⟩ := bnd h
    obtain ⟨p, rfl⟩ := pName_some e1
    obtain ⟨c, g⟩ := grd_some g
    cases g
    rw [Bool.and_eq_true, Bool.and_eq_true, List.any_eq_true] at c
    obtain ⟨c1, c2, ⟨q, d'⟩, hq, c3⟩ := c
    rw [Bool.and_eq_true] at c3
    have c1' : y = x := of_decide_eq_true c1
    have c3' : q = x := of_decide_eq_true c3.1
    have c4 := beqD_eq _ _ c3.2
    dsimp only at c3' c4
    subst c1' c3' c4
    obtain ⟨g1, g2⟩ := glB_ok o c2
    exact DE.glob g1 g2 (o.gc _ _ hq)
  | .ix a b, S, fs, X, w, e, μ, r, o, h => by
    obtain ⟨⟨x, y⟩, e1, g⟩ := bnd h
    obtain ⟨p, rfl⟩ := pSub_some e1
    obtain ⟨c, g⟩ := grd_some g
    obtain ⟨r1, h1, g⟩ := bnd g
    obtain ⟨r2, h2, g⟩ := bnd g
    obtain ⟨m, h3, g⟩ := bnd g
    cases g
    have q1 := ckE_ok a o h1
    have q2 := ckE_ok b o h2
    exact DE.ix ix_seq (plain_of c) (ix_ok h3) q1 q2
  | .andV a b, S, fs, X, w, e, μ, r, o, h => by
    obtain ⟨⟨op, ys⟩, e1, g⟩ := bnd h
    obtain ⟨p, rfl⟩ := pBo_some e1
    obtain ⟨c, g⟩ := grd_some g
    have c' : op = .And := of_decide_eq_true c
    subst c'
    obtain ⟨x, hx, g⟩ := bnd g
    obtain ⟨r1, h1, g⟩ := bnd g
    have ey : ys = x :: ys.tail := headt hx
    dsimp only at g
    split at g
    · rename_i y hy
      obtain ⟨r2, h2, g⟩ := bnd g
      obtain ⟨c, g⟩ := grd_some g
      cases g
      rw [ey, oneL_some hy]
      have c' := of_decide_eq_true c
      have q := ckE_ok b o h2
      rw [c'] at q ⊢
      exact DE.and (ckE_ok a o h1) (DE.one q)
    · obtain ⟨r2, h2, g⟩ := bnd g
      obtain ⟨c, g⟩ := grd_some g
      cases g
      obtain ⟨y, ys', e2, _, q⟩ := ckV_ok b o p h2
      rw [ey, e2]
      have c' := of_decide_eq_true c
      rw [c'] at q ⊢
      exact DE.and (ckE_ok a o h1) q
  | .orV a b, S, fs, X, w, e, μ, r, o, h => by
    obtain ⟨⟨op, ys⟩, e1, g⟩ := bnd h
    obtain ⟨p, rfl⟩ := pBo_some e1
    obtain ⟨c, g⟩ := grd_some g
    have c' : op = .Or := of_decide_eq_true c
    subst c'
    obtain ⟨x, hx, g⟩ := bnd g
    obtain ⟨r1, h1, g⟩ := bnd g
    have ey : ys = x :: ys.tail := headt hx
    dsimp only at g
    split at g
    · rename_i y hy
      obtain ⟨r2, h2, g⟩ := bnd g
      obtain ⟨c, g⟩ := grd_some g
      cases g
      rw [ey, oneL_some hy]
      have c' := of_decide_eq_true c
      have q := ckE_ok b o h2
      rw [c'] at q ⊢
      exact DE.or (ckE_ok a o h1) (DE.one q)
    · obtain ⟨r2, h2, g⟩ := bnd g
      obtain ⟨c, g⟩ := grd_some g
      cases g
      obtain ⟨y, ys', e2, _, q⟩ := ckV_ok b o p h2
      rw [ey, e2]
      have c' := of_decide_eq_true c
      rw [c'] at q ⊢
      exact DE.or (ckE_ok a o h1) q
  | .notV a, S, fs, X, w, e, μ, r, o, h => by
    obtain ⟨x, e1, g⟩ := bnd h
    obtain ⟨p, rfl⟩ := pNot_some e1
    obtain ⟨r1, h1, g⟩ := bnd g
    cases g
    have q := ckE_ok a o h1
    exact DE.not q
  | .ifE t a b, S, fs, X, w, e, μ, r, o, h => by
    obtain ⟨⟨c0, x, y⟩, e1, g⟩ := bnd h
    obtain ⟨p, rfl⟩ := pIf_some e1
    obtain ⟨μ1, h0, g⟩ := bnd g
    obtain ⟨r1, h1, g⟩ := bnd g
    obtain ⟨r2, h2, g⟩ := bnd g
    obtain ⟨c, g⟩ := grd_some g
    cases g
    rw [Bool.and_eq_true] at c
    have q := ckE_ok b o h2
    rw [← of_decide_eq_true c.1, ← of_decide_eq_true c.2] at q
    exact DE.ifE (ckT_ok t o h0) (ckE_ok a o h1) q
  | .tup m as, S, fs, X, w, e, μ, r, o, h => by
    obtain ⟨es, e1, g⟩ := bnd h
    obtain ⟨k, p, rfl⟩ := pTup_some e1
    obtain ⟨⟨ms, ios, μ1⟩, h1, g⟩ := bnd g
    obtain ⟨c, g⟩ := grd_some g
    cases g
    rw [Bool.and_eq_true, Bool.and_eq_true] at c
    have q := (ckA_ok as o h1).1
    rw [show ios = [] from of_decide_eq_true c.2.1] at q
    exact DE.disp (nad_tup c.1 (of_decide_eq_true c.2.2)) q.da
  | .lst m as, S, fs, X, w, e, μ, r, o, h => by
    obtain ⟨es, e1, g⟩ := bnd h
    obtain ⟨p, rfl⟩ := pLst_some e1
    obtain ⟨⟨ms, ios, μ1⟩, h1, g⟩ := bnd g
    obtain ⟨c, g⟩ := grd_some g
    cases g
    rw [Bool.and_eq_true, Bool.and_eq_true] at c
    have q := (ckA_ok as o h1).1
    rw [show ios = [] from of_decide_eq_true c.2.1] at q
    exact DE.displ (nad_lst c.1 (of_decide_eq_true c.2.2)) q.da
  | .call gi as, S, fs, X, w, e, μ, r, o, h => by
    obtain ⟨⟨x, es⟩, e1, g⟩ := bnd h
    obtain ⟨p, q, rfl⟩ := pCall_some e1
    obtain ⟨c, g⟩ := grd_some g
    obtain ⟨⟨ms, ios, μ1⟩, h1, g⟩ := bnd g
    obtain ⟨c2, g⟩ := grd_some g
    cases g
    rw [Bool.and_eq_true, Bool.and_eq_true, Bool.and_eq_true] at c
    obtain ⟨c0, cn, cs, ce⟩ := c
    rw [Bool.and_eq_true, Bool.and_eq_true] at c2
    obtain ⟨g1, g2⟩ := glB_ok o c0
    have cn' := of_decide_eq_true cn
    obtain ⟨q1, q2⟩ := ckA_ok as o h1
    cases es with
    | nil => cases ce
    | cons a es =>
      cases hg : S.fs[gi]? with
      | none => rw [hg] at cn'; cases cn'
      | some sg =>
        rw [hg] at cn'
        have cx0 : sg.name = x := by simpa using cn'
        have hd0 : S.fs.getD gi default = sg := by rw [List.getD_eq_getElem?_getD, hg]; rfl
        rw [← o.sg, List.getElem?_map] at hg
        cases hf : fs[gi]? with
        | none => rw [hf] at hg; cases hg
        | some f =>
        rw [hf] at hg
        have ef : f.sg = sg := by simpa using hg
        subst ef
        have cx : f.name = x := cx0
        have hd : fs.getD gi default = f := by rw [List.getD_eq_getElem?_getD, hf]; rfl
        obtain ⟨k, fad, fd, ps, dvs, ds, F, hr, hm, hk, hb, hv, hdef⟩ := o.fs f (List.mem_of_getElem? hf)
        dsimp only at c2 ⊢
        rw [hd0] at c2 ⊢
        have he := star_of (by simpa using (List.all_eq_true.mp cs) a (List.mem_cons_self ..)) es X.env
        have hp : es.all notStar = true := by
          rw [List.all_cons, Bool.and_eq_true] at cs; exact cs.2
        have := DE.call (X := X) (w := w) F hr g1 (by rw [← cx]; exact hm) hk (hb.nil (of_decide_eq_true c2.1.2)) hv o.tk hdef (of_decide_eq_true c2.1.1) (by rw [o.mx]; exact c2.2) q1 (p := p) g2 he (star_any hp q X.env)
        show DE X w μ _ (eCall (fs.getD gi default).F (evIos as) (fs.getD gi default).dds (evA fs as)) _ _
        rw [hd, q2]
        exact this
  | .callk gi as bs, S, fs, X, w, e, μ, r, o, h => by
    obtain ⟨⟨x, es, kws⟩, e1, g⟩ := bnd h
    obtain ⟨p, q, rfl⟩ := pCallK_some e1
    obtain ⟨c, g⟩ := grd_some g
    obtain ⟨⟨ms, ios, μ1⟩, h1, g⟩ := bnd g
    obtain ⟨⟨ms', ios', μ2⟩, h2, g⟩ := bnd g
    obtain ⟨c2, g⟩ := grd_some g
    cases g
    rw [Bool.and_eq_true, Bool.and_eq_true, Bool.and_eq_true, Bool.and_eq_true] at c
    obtain ⟨c0, cn, cs, ce, ck⟩ := c
    dsimp only at *
    rw [Bool.and_eq_true, Bool.and_eq_true, Bool.and_eq_true, Bool.and_eq_true, Bool.and_eq_true] at c2
    obtain ⟨d1, d2, d3, d4, d5, d6⟩ := c2
    obtain ⟨g1, g2⟩ := glB_ok o c0
    have cn' := of_decide_eq_true cn
    obtain ⟨q1, q2⟩ := ckA_ok as o h1
    have ei : ios = [] := of_decide_eq_true d2
    have ei' : ios' = [] := of_decide_eq_true d3
    subst ei
    subst ei'
    have q3 := ckK_ok bs o kws h2 rfl
    cases es with
    | nil => cases ce
    | cons a es =>
      cases hg : S.fs[gi]? with
      | none => rw [hg] at cn'; cases cn'
      | some sg =>
        rw [hg] at cn'
        have cx0 : sg.name = x := by simpa using cn'
        have hd0 : S.fs.getD gi default = sg := by rw [List.getD_eq_getElem?_getD, hg]; rfl
        rw [← o.sg, List.getElem?_map] at hg
        cases hf : fs[gi]? with
        | none => rw [hf] at hg; cases hg
        | some f =>
        rw [hf] at hg
        have ef : f.sg = sg := by simpa using hg
        subst ef
        have cx : f.name = x := cx0
        have hd : fs.getD gi default = f := by rw [List.getD_eq_getElem?_getD, hf]; rfl
        obtain ⟨k, fad, fd, ps, dvs, ds, F, hr, hm, hk, hb, hv, hdef⟩ := o.fs f (List.mem_of_getElem? hf)
        rw [hd0] at d1 d4 d5 ck ⊢
        have he := star_of (by simpa using (List.all_eq_true.mp cs) a (List.mem_cons_self ..)) es X.env
        have hp : (a :: es).all notStar = true := cs
        have e1 : f.pm = (ms ++ ms') ++ f.dms := of_decide_eq_true d1
        have e4 : ms'.length = f.kn.length := of_decide_eq_true d4
        have e5 : f.kn ≠ [] := of_decide_eq_true d5
        obtain ⟨k1, k2, k3⟩ := kwNames_ok (env := X.env) (pos := q) (of_decide_eq_true ck)
        have en : ms.length = f.pm.length - f.dms.length - f.kn.length := by
          rw [e1]; simp only [List.length_append]; omega
        have := DE.callk (X := X) (w := w) F hr g1 (by rw [← cx]; exact hm) hk (hb.kw e5) hv o.tk hdef e1 en e4 (by rw [o.mx]; exact d6) q1 q3 k1 k2 g2 (p := p) he (by rw [star_any hp q X.env, k3]; rfl)
        show DE X w μ _ (eCall (fs.getD gi default).F [] (fs.getD gi default).dds (aApp (evA fs as) (evA fs bs))) _ _
        rw [hd]
        exact this
  | .lc2 own own1 it t c it1 t1 c1 e0, S, fs, X, w, e, μ, r, o, h => by
    obtain ⟨⟨elt, tg, iter, ifs, tg1, iter1, ifs1, scope⟩, e1, g⟩ := bnd h
    obtain ⟨p, rfl⟩ := pLc2_some e1
    obtain ⟨cc, g⟩ := grd_some g
    obtain ⟨d1, g⟩ := grd_some g
    obtain ⟨⟨m, μ1⟩, h1, g⟩ := bnd g
    obtain ⟨d2, g⟩ := grd_some g
    obtain ⟨μt, h2, g⟩ := bnd g
    obtain ⟨d3, g⟩ := grd_some g
    obtain ⟨μt', h3, g⟩ := bnd g
    obtain ⟨d4, g⟩ := grd_some g
    obtain ⟨⟨m1, μ2⟩, h4, g⟩ := bnd g
    obtain ⟨d5, g⟩ := grd_some g
    obtain ⟨μt1, h5, g⟩ := bnd g
    obtain ⟨d6, g⟩ := grd_some g
    obtain ⟨μt1', h6, g⟩ := bnd g
    obtain ⟨d7, g⟩ := grd_some g
    obtain ⟨⟨me, μe⟩, h7, g⟩ := bnd g
    obtain ⟨d8, g⟩ := grd_some g
    cases g
    dsimp only at *
    rw [of_decide_eq_true d4] at h3
    rw [of_decide_eq_true d7] at h6
    rw [Bool.and_eq_true, Bool.and_eq_true, Bool.and_eq_true, Bool.and_eq_true] at d1
    rw [Bool.and_eq_true] at d3 d6 d8
    rw [Bool.and_eq_true, Bool.and_eq_true] at d5
    have eo : (ownN S.N own).map (·.2) = own := of_decide_eq_true d1.2.2.2.1
    have ok : BlkOk X.N X.env.scope scope (ownN S.N own) := by rw [o.n, o.sc]; exact blkOk_by d1.1
    have := DE.lc2 (X := X) (w := w) (pos := p) (μ := μ) (o.calm cc) (by rw [o.n]; exact o.nd) (Lc2H.mk (own := ownN S.N own) (vs1 := own1) (fi := evI fs it) (t := evG t) (tt := evC fs c) (fi1 := evI fs it1) (t1 := evG t1) (tt1 := evC fs c1) (fe := ev fs e0) (m := m) (m1 := m1) (me := me) (μ1 := μ1) (μt := μt) (μ2 := μ2) (μt1 := μt1) (μe := μe) ok
      (fun v hv => by rw [eo]; simpa using List.all_eq_true.mp d1.2.2.2.2 v hv) (ckI_ok it o h1) (by rw [eo]; exact d2) (by rw [eo]; exact d3.1) (by rw [eo]; exact d3.2) d5.1 d6.1 d8.1 d6.2 d8.2 (by rw [eo]; exact d5.2.1) (by rw [eo]; exact d5.2.2)
      (fun s H C cl fp σ0 => by rw [eo]; exact ckG_ok (S := S.blk scope []) (w := wNo []) o.blk (st := fun i => own.contains i) (P := fun τ => L2.wipe τ own = L2.wipe σ0 own) (fun i hi σ s hq => by show L2.wipe (σ.set i s) own = _; rw [wipe_set (by simpa using hi)]; exact hq) t h2)
      (fun s H C cl fp => ckC_ok c (S := S.blk scope μt) o.blk h3) (fun s H C cl fp => ckI_ok it1 (S := S.blk scope μt) o.blk h4)
      (fun s H C cl fp σ0 => ckG_ok (S := S.blk scope []) (w := wNo []) o.blk (st := fun i => own1.contains i) (P := fun τ => L2.wipe τ own1 = L2.wipe σ0 own1) (fun i hi σ s hq => by show L2.wipe (σ.set i s) own1 = _; rw [wipe_set (by simpa using hi)]; exact hq) t1 h5)
      (fun s H C cl fp => ckC_ok c1 (S := S.blk scope μt1) o.blk h6) (fun s H C cl fp => ckE_ok e0 (S := S.blk scope μt1) o.blk h7) (fold_of d1.2.1 _) (fun env => fold_of d1.2.2.1 env))
    rw [eo] at this
    exact this
  | .blt b as, S, fs, X, w, e, μ, r, o, h => by
    obtain ⟨⟨x, es⟩, e1, g⟩ := bnd h
    obtain ⟨p, q, rfl⟩ := pCall_some e1
    obtain ⟨cc, g⟩ := grd_some g
    obtain ⟨c, g⟩ := grd_some g
    obtain ⟨⟨ms, ios, μ1⟩, h1, g⟩ := bnd g
    obtain ⟨c2, g⟩ := grd_some g
    obtain ⟨m, h3, g⟩ := bnd g
    cases g
    rw [Bool.and_eq_true, Bool.and_eq_true, Bool.and_eq_true] at c
    obtain ⟨c0, cn, cs, ce⟩ := c
    obtain ⟨g1, g2, g3⟩ := bltB_ok o c0
    have cn' : x = b.nm := of_decide_eq_true cn
    subst cn'
    have q1 := (ckA_ok as o h1).1
    rw [show ios = [] from of_decide_eq_true c2] at q1
    cases es with
    | nil => cases ce
    | cons a es =>
      have he := star_of (by simpa using (List.all_eq_true.mp cs) a (List.mem_cons_self ..)) es X.env
      have hp : es.all notStar = true := by
        rw [List.all_cons, Bool.and_eq_true] at cs; exact cs.2
      obtain ⟨r, hr, nd, nn⟩ := blt_ok (o.calm cc) h3
      rcases hr with ⟨id, cr, hb⟩ | ⟨T, cr, hb⟩
      · exact DE.callB cr g1 g2 hb nn g3 nd q1.da he (star_any hp q X.env)
      · exact DE.callTy cr g1 g2 hb nn g3 nd q1.da he (star_any hp q X.env)
  | .lc own it t c e0, S, fs, X, w, e, μ, r, o, h => by
    obtain ⟨⟨elt, tg, iter, ifs, scope⟩, e1, g⟩ := bnd h
    obtain ⟨p, rfl⟩ := pLc_some e1
    obtain ⟨cc, g⟩ := grd_some g
    obtain ⟨c1, g⟩ := grd_some g
    obtain ⟨⟨m, μ1⟩, h1, g⟩ := bnd g
    obtain ⟨c2, g⟩ := grd_some g
    obtain ⟨μt, h2, g⟩ := bnd g
    obtain ⟨c3, g⟩ := grd_some g
    obtain ⟨μt', h3, g⟩ := bnd g
    obtain ⟨c4, g⟩ := grd_some g
    obtain ⟨⟨me, μe⟩, h4, g⟩ := bnd g
    obtain ⟨c5, g⟩ := grd_some g
    cases g
    dsimp only at *
    rw [of_decide_eq_true c4] at h3
    rw [Bool.and_eq_true, Bool.and_eq_true] at c1 c5
    have eo : (ownN S.N own).map (·.2) = own := of_decide_eq_true c1.2.2
    have ok : BlkOk X.N X.env.scope scope (ownN S.N own) := by rw [o.n, o.sc]; exact blkOk_by c1.1
    have := DE.lc (X := X) (w := w) (own := ownN S.N own) (pos := p) (μ := μ) (t := evG t) (m := m) (μt := μt) (me := me) (μe := μe) (fe := ev fs e0) (tt := evC fs c) (μ1 := μ1) (o.calm cc) (by rw [o.n]; exact o.nd) ok (ckI_ok it o h1) (by rw [eo]; exact c2) (by rw [eo]; exact c5.1) (by rw [eo]; exact c3) (by rw [eo]; exact c5.2.1) (by rw [eo]; exact c5.2.2)
      (fun s H C cl fp σ0 => by rw [eo]; exact ckG_ok (S := S.blk scope []) (w := wNo []) o.blk (st := fun i => own.contains i) (P := fun τ => L2.wipe τ own = L2.wipe σ0 own) (fun i hi σ s hq => by show L2.wipe (σ.set i s) own = _; rw [wipe_set (by simpa using hi)]; exact hq) t h2)
      (fun s H C cl fp => ckC_ok c (S := S.blk scope μt) o.blk h3) (fun s H C cl fp => ckE_ok e0 (S := S.blk scope μt) o.blk h4) (fold_of c1.2.1 _)
    rw [eo] at this
    exact this
  | .isi Cs a, S, fs, X, w, e, μ, r, o, h => by
    obtain ⟨⟨x, es⟩, e1, g⟩ := bnd h
    obtain ⟨p, q, rfl⟩ := pCall_some e1
    obtain ⟨⟨y, z⟩, e2, g⟩ := bnd g
    obtain ⟨c, g⟩ := grd_some g
    obtain ⟨r1, h1, g⟩ := bnd g
    cases g
    dsimp only at *
    rw [Bool.and_eq_true, Bool.and_eq_true, Bool.and_eq_true, Bool.and_eq_true] at c
    obtain ⟨c0, cn, cy, cz, cc⟩ := c
    obtain ⟨g1, g2, g3⟩ := bltB_ok o c0
    cases of_decide_eq_true cn
    cases twoL_some e2
    obtain ⟨k1, k2⟩ := clE_ok o cc
    exact DE.isi (p1 := p) g1 g2 (ckE_ok a o h1) k1 k2 (by rw [star_two cy cz, star_one cz]) (by rw [star_one cz]; rfl) (star_any (by simpa using cz) q X.env)
  | .app i a, S, fs, X, w, e, μ, r, o, h => by
    obtain ⟨⟨x, n, es, p, q⟩, e1, g⟩ := bnd h
    obtain ⟨p0, rfl⟩ := pMeth_some e1
    obtain ⟨y, e2, g⟩ := bnd g
    obtain ⟨c, g⟩ := grd_some g
    obtain ⟨m, hm, g⟩ := bnd g
    obtain ⟨cm, g⟩ := grd_some g
    obtain ⟨r1, h1, g⟩ := bnd g
    obtain ⟨cr, g⟩ := grd_some g
    cases g
    dsimp only at *
    rw [Bool.and_eq_true, Bool.and_eq_true, Bool.and_eq_true] at c
    obtain ⟨c0, cn, cy, cl⟩ := c
    obtain ⟨n1, n2, n3, n4⟩ := nmB_ok o c0
    cases of_decide_eq_true cn
    cases oneL_some e2
    exact DE.append n1 n2 n3 n4 hm (of_decide_eq_true cm) (ckE_ok a o h1) (of_decide_eq_true cr) rfl (few_one cy q X.env) cl (star_of cy [] X.env) rfl
  | .popAt i a, S, fs, X, w, e, μ, r, o, h => by
    obtain ⟨⟨x, n, es, p, q⟩, e1, g⟩ := bnd h
    obtain ⟨p0, rfl⟩ := pMeth_some e1
    obtain ⟨y, e2, g⟩ := bnd g
    obtain ⟨c, g⟩ := grd_some g
    obtain ⟨m, hm, g⟩ := bnd g
    obtain ⟨cm, g⟩ := grd_some g
    obtain ⟨r1, h1, g⟩ := bnd g
    obtain ⟨mc, cr, g⟩ := bnd g
    cases g
    dsimp only at *
    rw [Bool.and_eq_true, Bool.and_eq_true, Bool.and_eq_true] at c
    obtain ⟨c0, cn, cy, cl⟩ := c
    obtain ⟨n1, n2, n3, n4⟩ := nmB_ok o c0
    cases of_decide_eq_true cn
    cases oneL_some e2
    exact DE.popAt n1 n2 n3 n4 hm (of_decide_eq_true cm) (ckE_ok a o h1) (oM_some cr) rfl (few_one cy q X.env) cl (star_of cy [] X.env) rfl
  | .sl k a lo hi, S, fs, X, w, e, μ, r, o, h => by
    obtain ⟨⟨x, elo, ehi⟩, e1, g⟩ := bnd h
    obtain ⟨p, p2, rfl⟩ := pSl_some e1
    obtain ⟨r1, h1, g⟩ := bnd g
    obtain ⟨_, h2, g⟩ := bnd g
    obtain ⟨_, h3, g⟩ := bnd g
    obtain ⟨m, h4, g⟩ := bnd g
    cases g
    obtain ⟨rr, q1, q2⟩ := slM_ok (X := X) h4
    exact DE.slice q1 q2 (ckE_ok a o h1) (ckPo_ok o h2) (ckPo_ok o h3)
  | .bor M a, S, fs, X, w, e, μ, r, o, h => by
    obtain ⟨c, g⟩ := grd_some h
    obtain ⟨r1, h1, g⟩ := bnd g
    obtain ⟨c2, g⟩ := grd_some g
    cases g
    rw [Bool.and_eq_true, Bool.and_eq_true, Bool.and_eq_true] at c2
    exact DE.bor (of_decide_eq_true c) (ckE_ok a (S := { S with μx := borX M μ }) (o.bor _) h1) c2.1 c2.2.1 c2.2.2.1 (by rw [o.mx]; exact c2.2.2.2)
  | .frz a, S, fs, X, w, e, μ, r, o, h => by
    obtain ⟨r1, h1, g⟩ := bnd h
    cases g
    have q := ckE_ok a o h1
    exact DE.frz q
  | .flat a, S, fs, X, w, e, μ, r, o, h => by
    obtain ⟨r1, h1, g⟩ := bnd h
    cases g
    have q := ckE_ok a o h1
    exact DE.flat q
  | .flats a, S, fs, X, w, e, μ, r, o, h => by
    obtain ⟨r1, h1, g⟩ := bnd h
    obtain ⟨m, h2, g⟩ := bnd g
    cases g
    have e2 : r1.1 = .O m := by simpa using oM_some h2
    have q := ckE_ok a o h1
    rw [e2] at q
    exact DE.flats q
  | .sub m a, S, fs, X, w, e, μ, r, o, h => by
    obtain ⟨r1, h1, g⟩ := bnd h
    obtain ⟨c, g⟩ := grd_some g
    cases g
    have q := ckE_ok a o h1
    exact DE.sub q c
theorem ckV_ok : ∀ (x : Ex) {S : Sx} {fs : List Fn} {X : Cx} {w : Wh} {k : Bool} {ys : List Expr} {μ : List Mode} {r : Mode × List Mode}, XOk S fs X w → ∀ pos, ckV S x k ys μ = some r → ∃ y ys', ys = y :: ys' ∧ True ∧ DE X w μ (.BoolOp (if k = true then .And else .Or) (y :: ys') pos) (ev fs x) r.1 r.2
  | .andV a b, S, fs, X, w, k, ys, μ, r, o, pos, h => by
    obtain ⟨c, g⟩ := grd_some h
    rw [Bool.and_eq_true] at c
    cases c.1
    obtain ⟨x, hx, g⟩ := bnd g
    obtain ⟨r1, h1, g⟩ := bnd g
    have ey : ys = x :: ys.tail := headt hx
    refine ⟨x, ys.tail, ey, trivial, ?_⟩
    split at g
    · rename_i y hy
      obtain ⟨r2, h2, g⟩ := bnd g
      obtain ⟨c, g⟩ := grd_some g
      cases g
      rw [oneL_some hy]
      have c' := of_decide_eq_true c
      have q := ckE_ok b o h2
      rw [c'] at q ⊢
      exact DE.and (ckE_ok a o h1) (DE.one q)
    · obtain ⟨r2, h2, g⟩ := bnd g
      obtain ⟨c, g⟩ := grd_some g
      cases g
      obtain ⟨y, ys', e2, _, q⟩ := ckV_ok b o pos h2
      rw [e2]
      have c' := of_decide_eq_true c
      rw [c'] at q ⊢
      exact DE.and (ckE_ok a o h1) q
  | .orV a b, S, fs, X, w, k, ys, μ, r, o, pos, h => by
    obtain ⟨c, g⟩ := grd_some h
    rw [Bool.and_eq_true] at c
    cases (by simpa using c.1 : k = false)
    obtain ⟨x, hx, g⟩ := bnd g
    obtain ⟨r1, h1, g⟩ := bnd g
    have ey : ys = x :: ys.tail := headt hx
    refine ⟨x, ys.tail, ey, trivial, ?_⟩
    split at g
    · rename_i y hy
      obtain ⟨r2, h2, g⟩ := bnd g
      obtain ⟨c, g⟩ := grd_some g
      cases g
      rw [oneL_some hy]
      have c' := of_decide_eq_true c
      have q := ckE_ok b o h2
      rw [c'] at q ⊢
      exact DE.or (ckE_ok a o h1) (DE.one q)
    · obtain ⟨r2, h2, g⟩ := bnd g
      obtain ⟨c, g⟩ := grd_some g
      cases g
      obtain ⟨y, ys', e2, _, q⟩ := ckV_ok b o pos h2
      rw [e2]
      have c' := of_decide_eq_true c
      rw [c'] at q ⊢
      exact DE.or (ckE_ok a o h1) q
  | .var _, _, _, _, _, _, _, _, _, _, _, h => by cases h
  | .fv _, _, _, _, _, _, _, _, _, _, _, h => by cases h
  | .mv _, _, _, _, _, _, _, _, _, _, _, h => by cases h
  | .int _, _, _, _, _, _, _, _, _, _, _, h => by cases h
  | .bl _, _, _, _, _, _, _, _, _, _, _, h => by cases h
  | .non, _, _, _, _, _, _, _, _, _, _, h => by cases h
  | .str _, _, _, _, _, _, _, _, _, _, _, h => by cases h
  | .neg _, _, _, _, _, _, _, _, _, _, _, h => by cases h
  | .bin _ _ _, _, _, _, _, _, _, _, _, _, _, h => by cases h
  | .cmp _ _ _, _, _, _, _, _, _, _, _, _, _, h => by cases h
  | .ix _ _, _, _, _, _, _, _, _, _, _, _, h => by cases h
  | .ch2 _ _ _ _ _, _, _, _, _, _, _, _, _, _, _, h => by cases h
  | .ch3 _ _ _ _ _ _ _, _, _, _, _, _, _, _, _, _, _, h => by cases h
  | .glob _ _, _, _, _, _, _, _, _, _, _, _, h => by cases h
  | .notV _, _, _, _, _, _, _, _, _, _, _, h => by cases h
  | .ifE _ _ _, _, _, _, _, _, _, _, _, _, _, h => by cases h
  | .tup _ _, _, _, _, _, _, _, _, _, _, _, h => by cases h
  | .lst _ _, _, _, _, _, _, _, _, _, _, _, h => by cases h
  | .call _ _, _, _, _, _, _, _, _, _, _, _, h => by cases h
  | .blt _ _, _, _, _, _, _, _, _, _, _, _, h => by cases h
  | .lc _ _ _ _ _, _, _, _, _, _, _, _, _, _, _, h => by cases h
  | .lc2 _ _ _ _ _ _ _ _ _, _, _, _, _, _, _, _, _, _, _, h => by cases h
  | .callk _ _ _, _, _, _, _, _, _, _, _, _, _, h => by cases h
  | .isi _ _, _, _, _, _, _, _, _, _, _, _, h => by cases h
  | .app _ _, _, _, _, _, _, _, _, _, _, _, h => by cases h
  | .popAt _ _, _, _, _, _, _, _, _, _, _, _, h => by cases h
  | .bor _ _, _, _, _, _, _, _, _, _, _, _, h => by cases h
  | .sl _ _ _ _, _, _, _, _, _, _, _, _, _, _, h => by cases h
  | .frz _, _, _, _, _, _, _, _, _, _, _, h => by cases h
  | .flat _, _, _, _, _, _, _, _, _, _, _, h => by cases h
  | .flats _, _, _, _, _, _, _, _, _, _, _, h => by cases h
  | .sub _ _, _, _, _, _, _, _, _, _, _, _, h => by cases h
theorem ckA_ok : ∀ (x : Ar) {S : Sx} {fs : List Fn} {X : Cx} {w : Wh} {es : List Expr} {μ : List Mode} {r : List Mode × Ios × List Mode}, XOk S fs X w → ckA S x es μ = some r → DAi X w μ es (evA fs x) r.1 r.2.1 r.2.2 ∧ evIos x = r.2.1
  | .nil, S, fs, X, w, es, μ, r, o, h => by
    obtain ⟨c, g⟩ := grd_some h
    cases g
    cases es with
    | nil => exact ⟨DAi.nil, rfl⟩
    | cons _ _ => cases c
  | .e a q, S, fs, X, w, es, μ, r, o, h => by
    obtain ⟨x, hx, g⟩ := bnd h
    obtain ⟨c, g⟩ := grd_some g
    obtain ⟨p, h1, g⟩ := bnd g
    obtain ⟨t, h2, g⟩ := bnd g
    cases g
    have k := ckA_ok q o h2
    rw [headt hx]
    exact ⟨DAi.cons (ckE_ok a o h1) k.1 (star_of c _ _), by show shift (evIos q) = _; rw [k.2]⟩
  | .io i q, S, fs, X, w, es, μ, r, o, h => by
    obtain ⟨x, hx, g0⟩ := bnd h
    obtain ⟨y, e1, g⟩ := bnd g0
    obtain ⟨p, rfl⟩ := pName_some e1
    obtain ⟨m, hm, g⟩ := bnd g
    obtain ⟨c, g⟩ := grd_some g
    obtain ⟨t, h2, g⟩ := bnd g
    cases g
    have k := ckA_ok q o h2
    rw [headt hx]
    rw [Bool.and_eq_true] at c
    obtain ⟨n1, n2, n3, n4⟩ := nmB_ok o c.1
    exact ⟨DAi.io n1 n2 n3 n4 hm (of_decide_eq_true c.2) k.1 (star_of rfl _ _), by show (0, i) :: shift (evIos q) = _; rw [k.2]⟩
theorem ckK_ok : ∀ (x : Ar) {S : Sx} {fs : List Fn} {X : Cx} {w : Wh} {es : List Expr} {μ : List Mode} {ms : List Mode} {μ' : List Mode}, XOk S fs X w → ∀ (kws : List Keyword), ckA S x es μ = some (ms, [], μ') → kws.map (·.value) = es → DK X w μ kws (evA fs x) ms μ'
  | .nil, S, fs, X, w, es, μ, ms, μ', o, kws, h, hk => by
    obtain ⟨c, g⟩ := grd_some h
    cases g
    cases kws with
    | nil => exact DK.nil
    | cons _ _ => subst hk; cases c
  | .e a q, S, fs, X, w, es, μ, ms, μ', o, kws, h, hk => by
    obtain ⟨x, hx, g⟩ := bnd h
    obtain ⟨c, g⟩ := grd_some g
    obtain ⟨p, h1, g⟩ := bnd g
    obtain ⟨⟨tm, ti, tμ⟩, h2, g⟩ := bnd g
    cases kws with
    | nil => subst hk; cases hx
    | cons kw kws =>
      obtain ⟨nm, v, kp⟩ := kw
      subst hk
      have ex : v = x := by simpa using hx
      subst ex
      have et : ti = [] := by
        cases ti with
        | nil => rfl
        | cons _ _ => cases g
      subst et
      cases g
      exact DK.cons (ckE_ok a o h1) (ckK_ok q o kws h2 rfl)
  | .io i q, S, fs, X, w, es, μ, ms, μ', o, kws, h, hk => by
    obtain ⟨x, hx, g0⟩ := bnd h
    obtain ⟨y, e1, g⟩ := bnd g0
    obtain ⟨m, hm, g⟩ := bnd g
    obtain ⟨c, g⟩ := grd_some g
    obtain ⟨t, h2, g⟩ := bnd g
    cases g
theorem ckT_ok : ∀ (x : Tx) {S : Sx} {fs : List Fn} {X : Cx} {w : Wh} {e : Expr} {μ r : List Mode}, XOk S fs X w → ckT S x e μ = some r → DT X w μ e (evT fs x) r
  | .val a, S, fs, X, w, e, μ, r, o, h => by
    obtain ⟨c, g⟩ := grd_some h
    obtain ⟨r1, h1, g⟩ := bnd g
    cases g
    exact DT.val (ckE_ok a o h1) (tru_of c _)
  | .tru a, S, fs, X, w, e, μ, r, o, h => by
    obtain ⟨c, g⟩ := grd_some h
    obtain ⟨r1, h1, g⟩ := bnd g
    cases g
    exact DT.tru (ckE_ok a o h1) (tru_of c _)
  | .cmp c2 a b, S, fs, X, w, e, μ, r, o, h => by
    obtain ⟨⟨x, op, y⟩, e1, g⟩ := bnd h
    obtain ⟨p, rfl⟩ := pCmp_some e1
    obtain ⟨c, g⟩ := grd_some g
    obtain ⟨r1, h1, g⟩ := bnd g
    obtain ⟨r2, h2, g⟩ := bnd g
    cases g
    rw [Bool.and_eq_true] at c
    have c' : op = c2.oper := of_decide_eq_true c.1
    subst c'
    obtain ⟨q, q1, q2⟩ := cmp_ok (X := X) o.room c2 r1.1 r2.1
    exact DT.cmp q1 (inMark_ok c.2) q2 (ckE_ok a o h1) (ckE_ok b o h2)
  | .ch2 o1 o2 a b cc, S, fs, X, w, e, μ, r, o, h => by
    obtain ⟨⟨x, op, y, op', z⟩, e1, g⟩ := bnd h
    obtain ⟨p, rfl⟩ := pCh2_some e1
    obtain ⟨c, g⟩ := grd_some g
    obtain ⟨r1, h1, g⟩ := bnd g
    obtain ⟨⟨m2, μ2⟩, h2, g⟩ := bnd g
    obtain ⟨⟨m3, μ3⟩, h3, g⟩ := bnd g
    obtain ⟨c2, g⟩ := grd_some g
    cases g
    rw [Bool.and_eq_true, Bool.and_eq_true] at c
    rw [Bool.and_eq_true] at c2
    have c1' : op = o1.oper := of_decide_eq_true c.1
    have c2' : op' = o2.oper := of_decide_eq_true c.2.1
    have d1 : m2 = .Z := of_decide_eq_true c2.1
    have d2 : μ3 = μ2 := of_decide_eq_true c2.2
    subst c1' c2' d1 d2
    obtain ⟨q, q1, q2⟩ := cmp_ok (X := X) o.room o1 r1.1 .Z
    obtain ⟨q', q1', q2'⟩ := cmp_ok (X := X) o.room o2 .Z m3
    exact DT.ch2 q1 q2 q1' q2' (ckE_ok a o h1) (ckE_ok b o h2) (ckE_ok cc o h3) (inMark_ok c.2.2)
  | .ch3 o1 o2 o3 a b cc dd, S, fs, X, w, e, μ, r, o, h => by
    obtain ⟨⟨x, op, y, op', z, op'', t⟩, e1, g⟩ := bnd h
    obtain ⟨p, rfl⟩ := pCh3_some e1
    obtain ⟨c, g⟩ := grd_some g
    obtain ⟨r1, h1, g⟩ := bnd g
    obtain ⟨⟨m2, μ2⟩, h2, g⟩ := bnd g
    obtain ⟨⟨m3, μ3⟩, h3, g⟩ := bnd g
    obtain ⟨⟨m4, μ4⟩, h4, g⟩ := bnd g
    obtain ⟨c2, g⟩ := grd_some g
    cases g
    rw [Bool.and_eq_true, Bool.and_eq_true, Bool.and_eq_true] at c
    rw [Bool.and_eq_true, Bool.and_eq_true, Bool.and_eq_true] at c2
    have c1' : op = o1.oper := of_decide_eq_true c.1
    have c2' : op' = o2.oper := of_decide_eq_true c.2.1
    have c3' : op'' = o3.oper := of_decide_eq_true c.2.2.1
    have d1 : m2 = .Z := of_decide_eq_true c2.1
    have d2 : m3 = .Z := of_decide_eq_true c2.2.1
    have d3 : μ3 = μ2 := of_decide_eq_true c2.2.2.1
    have d4 : μ4 = μ2 := of_decide_eq_true c2.2.2.2
    subst c1' c2' c3' d1 d2 d3 d4
    obtain ⟨q, q1, q2⟩ := cmp_ok (X := X) o.room o1 r1.1 .Z
    obtain ⟨q', q1', q2'⟩ := cmp_ok (X := X) o.room o2 .Z .Z
    obtain ⟨q'', q1'', q2''⟩ := cmp_ok (X := X) o.room o3 .Z m4
    exact DT.ch3 q1 q2 q1' q2' q1'' q2'' (ckE_ok a o h1) (ckE_ok b o h2) (ckE_ok cc o h3) (ckE_ok dd o h4) (inMark_ok c.2.2.2)
  | .not t, S, fs, X, w, e, μ, r, o, h => by
    obtain ⟨x, e1, g⟩ := bnd h
    obtain ⟨p, rfl⟩ := pNot_some e1
    exact DT.not (ckT_ok t o g)
  | .and t u, S, fs, X, w, e, μ, r, o, h => by
    obtain ⟨⟨op, ys⟩, e1, g⟩ := bnd h
    obtain ⟨p, rfl⟩ := pBo_some e1
    obtain ⟨c, g⟩ := grd_some g
    have c' : op = .And := of_decide_eq_true c
    subst c'
    obtain ⟨x, hx, g⟩ := bnd g
    obtain ⟨μ1, h1, g⟩ := bnd g
    have ey : ys = x :: ys.tail := headt hx
    dsimp only at g
    split at g
    · rename_i y hy
      obtain ⟨μ2, h2, g⟩ := bnd g
      obtain ⟨c, g⟩ := grd_some g
      cases g
      cases of_decide_eq_true c
      rw [ey, oneL_some hy]
      exact DT.of (DW.and (ckT_ok t o h1) (DW.and1 (ckT_ok u o h2)))
    · obtain ⟨μ2, h2, g⟩ := bnd g
      obtain ⟨c, g⟩ := grd_some g
      cases g
      cases of_decide_eq_true c
      obtain ⟨y, ys', e2, q⟩ := ckW_ok u o p h2
      rw [ey, e2]
      exact DT.of (DW.and (ckT_ok t o h1) q)
  | .or t u, S, fs, X, w, e, μ, r, o, h => by
    obtain ⟨⟨op, ys⟩, e1, g⟩ := bnd h
    obtain ⟨p, rfl⟩ := pBo_some e1
    obtain ⟨c, g⟩ := grd_some g
    have c' : op = .Or := of_decide_eq_true c
    subst c'
    obtain ⟨x, hx, g⟩ := bnd g
    obtain ⟨μ1, h1, g⟩ := bnd g
    have ey : ys = x :: ys.tail := headt hx
    dsimp only at g
    split at g
    · rename_i y hy
      obtain ⟨μ2, h2, g⟩ := bnd g
      obtain ⟨c, g⟩ := grd_some g
      cases g
      cases of_decide_eq_true c
      rw [ey, oneL_some hy]
      exact DT.of (DW.or (ckT_ok t o h1) (DW.or1 (ckT_ok u o h2)))
    · obtain ⟨μ2, h2, g⟩ := bnd g
      obtain ⟨c, g⟩ := grd_some g
      cases g
      cases of_decide_eq_true c
      obtain ⟨y, ys', e2, q⟩ := ckW_ok u o p h2
      rw [ey, e2]
      exact DT.of (DW.or (ckT_ok t o h1) q)
  | .bor M t, S, fs, X, w, e, μ, r, o, h => by
    obtain ⟨c, g⟩ := grd_some h
    obtain ⟨r1, h1, g⟩ := bnd g
    obtain ⟨c2, g⟩ := grd_some g
    cases g
    rw [Bool.and_eq_true, Bool.and_eq_true] at c2
    exact DT.bor (of_decide_eq_true c) (ckT_ok t (S := { S with μx := borX M μ }) (o.bor _) h1) c2.1 c2.2.1 (by rw [o.mx]; exact c2.2.2)
theorem ckW_ok : ∀ (x : Tx) {S : Sx} {fs : List Fn} {X : Cx} {w : Wh} {k : Bool} {ys : List Expr} {μ r : List Mode}, XOk S fs X w → ∀ pos, ckW S x k ys μ = some r → ∃ y ys', ys = y :: ys' ∧ DW X w μ (.BoolOp (if k = true then .And else .Or) (y :: ys') pos) (evT fs x) r
  | .and t u, S, fs, X, w, k, ys, μ, r, o, pos, h => by
    obtain ⟨c, g⟩ := grd_some h
    rw [Bool.and_eq_true] at c
    cases c.1
    obtain ⟨x, hx, g⟩ := bnd g
    obtain ⟨μ1, h1, g⟩ := bnd g
    refine ⟨x, ys.tail, headt hx, ?_⟩
    split at g
    · rename_i y hy
      obtain ⟨μ2, h2, g⟩ := bnd g
      obtain ⟨c, g⟩ := grd_some g
      cases g
      cases of_decide_eq_true c
      rw [oneL_some hy]
      exact DW.and (ckT_ok t o h1) (DW.and1 (ckT_ok u o h2))
    · obtain ⟨μ2, h2, g⟩ := bnd g
      obtain ⟨c, g⟩ := grd_some g
      cases g
      cases of_decide_eq_true c
      obtain ⟨y, ys', e2, q⟩ := ckW_ok u o pos h2
      rw [e2]
      exact DW.and (ckT_ok t o h1) q
  | .or t u, S, fs, X, w, k, ys, μ, r, o, pos, h => by
    obtain ⟨c, g⟩ := grd_some h
    rw [Bool.and_eq_true] at c
    cases (by simpa using c.1 : k = false)
    obtain ⟨x, hx, g⟩ := bnd g
    obtain ⟨μ1, h1, g⟩ := bnd g
    refine ⟨x, ys.tail, headt hx, ?_⟩
    split at g
    · rename_i y hy
      obtain ⟨μ2, h2, g⟩ := bnd g
      obtain ⟨c, g⟩ := grd_some g
      cases g
      cases of_decide_eq_true c
      rw [oneL_some hy]
      exact DW.or (ckT_ok t o h1) (DW.or1 (ckT_ok u o h2))
    · obtain ⟨μ2, h2, g⟩ := bnd g
      obtain ⟨c, g⟩ := grd_some g
      cases g
      cases of_decide_eq_true c
      obtain ⟨y, ys', e2, q⟩ := ckW_ok u o pos h2
      rw [e2]
      exact DW.or (ckT_ok t o h1) q
  | .val _, _, _, _, _, _, _, _, _, _, _, h => by cases h
  | .tru _, _, _, _, _, _, _, _, _, _, _, h => by cases h
  | .cmp _ _ _, _, _, _, _, _, _, _, _, _, _, h => by cases h
  | .ch2 _ _ _ _ _, _, _, _, _, _, _, _, _, _, _, h => by cases h
  | .ch3 _ _ _ _ _ _ _, _, _, _, _, _, _, _, _, _, _, h => by cases h
  | .not _, _, _, _, _, _, _, _, _, _, _, h => by cases h
  | .bor _ _, _, _, _, _, _, _, _, _, _, _, h => by cases h
theorem ckC_ok : ∀ (x : Cx1) {S : Sx} {fs : List Fn} {X : Cx} {w : Wh} {es : List Expr} {μ r : List Mode}, XOk S fs X w → ckC S x es μ = some r → DTs X w μ es (evC fs x) r
  | .no, S, fs, X, w, es, μ, r, o, h => by
    obtain ⟨c, g⟩ := grd_some h
    cases g
    cases es with
    | nil => exact DTs.nil
    | cons _ _ => cases c
  | .one t, S, fs, X, w, es, μ, r, o, h => by
    obtain ⟨x, e1, g⟩ := bnd h
    rw [oneL_some e1]
    exact DTs.one (ckT_ok t o g)
theorem ckI_ok : ∀ (x : Ix) {S : Sx} {fs : List Fn} {X : Cx} {w : Wh} {g e : Expr} {μ : List Mode} {r : Mode × List Mode}, XOk S fs X w → ckI S x g e μ = some r → DI X w μ g e (evI fs x) r.1 r.2
  | .list a, S, fs, X, w, g, e, μ, r, o, h => by
    obtain ⟨r1, h1, g⟩ := bnd h
    obtain ⟨c, g⟩ := grd_some g
    cases g
    have q := ckE_ok a o h1
    rw [of_decide_eq_true c] at q
    exact DI.list q
  | .tup a, S, fs, X, w, g, e, μ, r, o, h => by
    obtain ⟨r1, h1, g⟩ := bnd h
    obtain ⟨c, g⟩ := grd_some g
    cases g
    have q := ckE_ok a o h1
    rw [of_decide_eq_true c] at q
    exact DI.tup q
  | .r1 a, S, fs, X, w, g, e, μ, r, o, h => by
    obtain ⟨⟨x, es⟩, e1, g⟩ := bnd h
    obtain ⟨p, q, rfl⟩ := pCall_some e1
    obtain ⟨y, e2, g⟩ := bnd g
    obtain ⟨c, g⟩ := grd_some g
    obtain ⟨r1, h1, g⟩ := bnd g
    cases g
    dsimp only at *
    rw [Bool.and_eq_true, Bool.and_eq_true] at c
    obtain ⟨g1, g2, g3⟩ := bltB_ok o c.1
    cases of_decide_eq_true c.2.1
    cases oneL_some e2
    exact DI.range1 g1 g2 (DA.cons (ckE_ok a o h1) DA.nil (star_of c.2.2 _ _)) (star_one c.2.2 _)
  | .r2 a b, S, fs, X, w, g, e, μ, r, o, h => by
    obtain ⟨⟨x, es⟩, e1, g⟩ := bnd h
    obtain ⟨p, q, rfl⟩ := pCall_some e1
    obtain ⟨⟨y, z⟩, e2, g⟩ := bnd g
    obtain ⟨c, g⟩ := grd_some g
    obtain ⟨r1, h1, g⟩ := bnd g
    obtain ⟨r2, h2, g⟩ := bnd g
    cases g
    dsimp only at *
    rw [Bool.and_eq_true, Bool.and_eq_true, Bool.and_eq_true] at c
    obtain ⟨g1, g2, g3⟩ := bltB_ok o c.1
    cases of_decide_eq_true c.2.1
    cases twoL_some e2
    exact DI.range2 g1 g2 (DA.cons (ckE_ok a o h1) (DA.cons (ckE_ok b o h2) DA.nil (star_of c.2.2.2 _ _)) (star_of c.2.2.1 _ _)) (star_two c.2.2.1 c.2.2.2 _) (star_one c.2.2.2 _)
  | .zip a b, S, fs, X, w, tt, e, μ, r, o, h => by
    obtain ⟨gs, e0, u0⟩ := bnd h
    obtain ⟨k, p0, rfl⟩ := pTup_some e0
    obtain ⟨⟨x, es⟩, e1, u⟩ := bnd u0
    obtain ⟨p, q, rfl⟩ := pCall_some e1
    obtain ⟨⟨y, z⟩, e2, g⟩ := bnd u
    obtain ⟨c, g⟩ := grd_some g
    obtain ⟨⟨m1, μ1⟩, h1, g⟩ := bnd g
    obtain ⟨⟨m2, μ2⟩, h2, g⟩ := bnd g
    obtain ⟨c2, g⟩ := grd_some g
    cases g
    dsimp only at *
    rw [Bool.and_eq_true, Bool.and_eq_true, Bool.and_eq_true] at c
    rw [Bool.and_eq_true] at c2
    obtain ⟨g1, g2, g3⟩ := bltB_ok o c.1
    cases of_decide_eq_true c.2.1
    cases twoL_some e2
    cases of_decide_eq_true c2.1
    cases of_decide_eq_true c2.2
    exact DI.zip g1 g2 (DA.cons (ckE_ok a o h1) (DA.cons (ckE_ok b o h2) DA.nil (star_of c.2.2.2 _ _)) (star_of c.2.2.1 _ _)) (star_of c.2.2.1 _ _) (star_any (by simpa using c.2.2.2) _ _)
  | .zipS a b, S, fs, X, w, tt, e, μ, r, o, h => by
    obtain ⟨gs, e0, u0⟩ := bnd h
    obtain ⟨k, p0, rfl⟩ := pTup_some e0
    obtain ⟨⟨x, y, z⟩, e1, u⟩ := bnd u0
    obtain ⟨p, cj, cp, kp, q, rfl⟩ := pZipS_some e1
    obtain ⟨c, g⟩ := grd_some u
    obtain ⟨⟨m1, μ1⟩, h1, g⟩ := bnd g
    obtain ⟨⟨m2, μ2⟩, h2, g⟩ := bnd g
    obtain ⟨c2, g⟩ := grd_some g
    cases g
    dsimp only at *
    rw [Bool.and_eq_true, Bool.and_eq_true, Bool.and_eq_true] at c
    rw [Bool.and_eq_true] at c2
    obtain ⟨g1, g2, g3⟩ := bltB_ok o c.1
    cases of_decide_eq_true c.2.1
    cases of_decide_eq_true c2.1
    cases of_decide_eq_true c2.2
    exact DI.zipS g1 g2 (DA.cons (ckE_ok a o h1) (DA.cons (ckE_ok b o h2) DA.nil (star_of c.2.2.2 _ _)) (star_of c.2.2.1 _ _)) (star_of c.2.2.1 _ _) (star_any (by simpa using c.2.2.2) _ _)
  | .enum a, S, fs, X, w, tt, e, μ, r, o, h => by
    obtain ⟨gs, e0, u0⟩ := bnd h
    obtain ⟨k, p0, rfl⟩ := pTup_some e0
    obtain ⟨⟨x, es⟩, e1, u⟩ := bnd u0
    obtain ⟨p, q, rfl⟩ := pCall_some e1
    obtain ⟨y, e2, g⟩ := bnd u
    obtain ⟨c, g⟩ := grd_some g
    obtain ⟨⟨m1, μ1⟩, h1, g⟩ := bnd g
    obtain ⟨c2, g⟩ := grd_some g
    cases g
    dsimp only at *
    rw [Bool.and_eq_true, Bool.and_eq_true] at c
    obtain ⟨g1, g2, g3⟩ := bltB_ok o c.1
    cases of_decide_eq_true c.2.1
    cases oneL_some e2
    cases of_decide_eq_true c2
    exact DI.enum g1 g2 (DA.cons (ckE_ok a o h1) DA.nil (star_of c.2.2 _ _)) (star_one c.2.2 _)
end
end
/-- the parts of a match with two clauses -/
theorem ckLc2_H {own own1 : List Nat} {it it1 : Ix} {t t1 : Tg} {c c1 : Cx1} {e0 : Ex} {S : Sx} {fs : List Fn} {X : Cx} {w : Wh} {e : Expr} {μ : List Mode} {r : Mode × List Mode} (o : XOk S fs X w) (h : ckE S (.lc2 own own1 it t c it1 t1 c1 e0) e μ = some r) :
    ∃ elt tg iter ifs tg1 iter1 ifs1 scope p m m1 me μ1 μt μ2 μt1 μe, e = .ListComp elt [⟨tg, iter, ifs, 0⟩, ⟨tg1, iter1, ifs1, 0⟩] scope p ∧ X.calm = true ∧ (ownN S.N own).map (·.2) = own ∧ r = (.O me, backM μ1 (wipeM μ1 own) own) ∧
      Lc2H X w μ elt tg iter tg1 iter1 ifs ifs1 scope (ownN S.N own) own1 (evI fs it) (evG t) (evC fs c) (evI fs it1) (evG t1) (evC fs c1) (ev fs e0) m m1 me μ1 μt μ2 μt1 μe := by
  obtain ⟨⟨elt, tg, iter, ifs, tg1, iter1, ifs1, scope⟩, e1, g⟩ := bnd h
  obtain ⟨p, rfl⟩ := pLc2_some e1
  obtain ⟨cc, g⟩ := grd_some g
  obtain ⟨d1, g⟩ := grd_some g
  obtain ⟨⟨m, μ1⟩, h1, g⟩ := bnd g
  obtain ⟨d2, g⟩ := grd_some g
  obtain ⟨μt, h2, g⟩ := bnd g
  obtain ⟨d3, g⟩ := grd_some g
  obtain ⟨μt', h3, g⟩ := bnd g
  obtain ⟨d4, g⟩ := grd_some g
  obtain ⟨⟨m1, μ2⟩, h4, g⟩ := bnd g
  obtain ⟨d5, g⟩ := grd_some g
  obtain ⟨μt1, h5, g⟩ := bnd g
  obtain ⟨d6, g⟩ := grd_some g
  obtain ⟨μt1', h6, g⟩ := bnd g
  obtain ⟨d7, g⟩ := grd_some g
  obtain ⟨⟨me, μe⟩, h7, g⟩ := bnd g
  obtain ⟨d8, g⟩ := grd_some g
  cases g
  dsimp only at *
  rw [of_decide_eq_true d4] at h3
  rw [of_decide_eq_true d7] at h6
  rw [Bool.and_eq_true, Bool.and_eq_true, Bool.and_eq_true, Bool.and_eq_true] at d1
  rw [Bool.and_eq_true] at d3 d6 d8
  rw [Bool.and_eq_true, Bool.and_eq_true] at d5
  have eo : (ownN S.N own).map (·.2) = own := of_decide_eq_true d1.2.2.2.1
  have ok : BlkOk X.N X.env.scope scope (ownN S.N own) := by rw [o.n, o.sc]; exact blkOk_by d1.1
  exact ⟨elt, tg, iter, ifs, tg1, iter1, ifs1, scope, p, m, m1, me, μ1, μt, μ2, μt1, μe, rfl, o.calm cc, eo, rfl, Lc2H.mk (own := ownN S.N own) (vs1 := own1) (fi := evI fs it) (t := evG t) (tt := evC fs c) (fi1 := evI fs it1) (t1 := evG t1) (tt1 := evC fs c1) (fe := ev fs e0) (m := m) (m1 := m1) (me := me) (μ1 := μ1) (μt := μt) (μ2 := μ2) (μt1 := μt1) (μe := μe) ok
    (fun v hv => by rw [eo]; simpa using List.all_eq_true.mp d1.2.2.2.2 v hv) (ckI_ok it o h1) (by rw [eo]; exact d2) (by rw [eo]; exact d3.1) (by rw [eo]; exact d3.2) d5.1 d6.1 d8.1 d6.2 d8.2 (by rw [eo]; exact d5.2.1) (by rw [eo]; exact d5.2.2)
    (fun s H C cl fp σ0 => by rw [eo]; exact ckG_ok (S := S.blk scope []) (w := wNo []) o.blk (st := fun i => own.contains i) (P := fun τ => L2.wipe τ own = L2.wipe σ0 own) (fun i hi σ s hq => by show L2.wipe (σ.set i s) own = _; rw [wipe_set (by simpa using hi)]; exact hq) t h2)
    (fun s H C cl fp => ckC_ok c (S := S.blk scope μt) o.blk h3) (fun s H C cl fp => ckI_ok it1 (S := S.blk scope μt) o.blk h4)
    (fun s H C cl fp σ0 => ckG_ok (S := S.blk scope []) (w := wNo []) o.blk (st := fun i => own1.contains i) (P := fun τ => L2.wipe τ own1 = L2.wipe σ0 own1) (fun i hi σ s hq => by show L2.wipe (σ.set i s) own1 = _; rw [wipe_set (by simpa using hi)]; exact hq) t1 h5)
    (fun s H C cl fp => ckC_ok c1 (S := S.blk scope μt1) o.blk h6) (fun s H C cl fp => ckE_ok e0 (S := S.blk scope μt1) o.blk h7) (fold_of d1.2.1 _) (fun env => fold_of d1.2.2.1 env)⟩
end EV

/-! EvQ2: raise, try. -/
namespace EV
open PySem PySem.Spec L2
def sRaise (c w : Str) (Γ : Gam) : Sz := .exc ⟨c, ["word"], [.str w]⟩ Γ
section
variable {X : Cx} {z : Ws} {μ μ' μt : List Mode} {f g : Gam → Sz} {pos pos' p : Pos} {c w : Str}
theorem DS.raise (hc : X.calm = true) (tk : Takes X z.w.W) (E : ExZ X c w) (hg : Gl X c) (hdb : (c == ("__debug__" : Str)) = false) (wk : weakL μ z.w.μx = true) : DS X z μ (.Raise (some (.Call (.Name c p) [] [] pos)) none pos') (sRaise c w) μ' := by
  refine ⟨(ps_raise hc tk (E.pmk hg hdb)).imp fun D σ H ⟨hp, B, Γ, fp, st, q⟩ => ?_⟩
  intro d nd
  obtain ⟨B2, fp2, s2, st2, _⟩ := st.weak (l := []) wk (fun a h => by cases h) (fun a h => by cases h)
  have bd : B2 d = none := by
    cases e : B2 d with
    | none => rfl
    | some o => rw [st2.same d o e] at nd; cases nd
  have ndf : d ∉ fp2 := fun h => by
    obtain ⟨_, o, e⟩ := st2.st.own d h
    rw [e] at nd; cases nd
  refine q σ B2 (upd H d (.xd [("word", .str w)])) [d] fp2 (.ref (He.ga X.K c)) (some d) (s2.trans ⟨Same.refl _, fun a o _ e => by rw [upd_ne (ne_of_none e nd)]; exact e, fun a h => ?_, fun a o e => .inl e⟩) ⟨fresh_same st2.same nd, st2.st.mono (Same.refl _) (upd_kept (fun a h => (st2.st.own a h).1) ndf), st2.nd⟩ ⟨rfl, d, [("word", .str w)], [.str w], [], rfl, bd, upd_same, ⟨.str w, [], [], [], rfl, ⟨rfl, rfl⟩, ⟨rfl, rfl⟩, rfl⟩, rfl, ?_, rfl⟩ (List.nodup_cons.mpr ⟨by simpa using ndf, st2.nd⟩) hp
  · rcases List.mem_append.mp h with h | h
    · rw [List.mem_singleton.mp h]; exact .inr nd
    · exact .inl h
  · intro i n v h1 h2
    cases i with
    | zero => cases h1; cases h2; rfl
    | succ i => cases h1
/-- an outcome within a suite that may raise nothing -/
def noX : Sz → Sz
  | .exc _ _ => .bad
  | o => o
/-- try: f, except c: g; tab: which of the classes that f raises are caught -/
def sTry (tab : List (Str × Bool)) (f g : Gam → Sz) (Γ : Gam) : Sz := match f Γ with
  | .exc x Γ' => (match tab.lookup x.c with
    | some true => noX (g Γ')
    | some false => .exc x Γ'
    | none => .bad)
  | o => o
theorem Lead.noX {K : PySem.W.Frag} {z z' : Ws} {μ' : List Mode} {B H : Hp} {fp : List Addr} {D : Ends} {o : Sz} (h1 : z'.rm = z.rm) (h2 : z'.μr = z.μr) (h3 : z'.μb = z.μb) (h4 : z'.μc = z.μc) (h5 : z'.pin = z.pin) (h : Lead K z μ' B H fp D (EV.noX o)) : Lead K z' μ' B H fp D o := by
  cases o with
  | nx Γ => intro σ' B' H' fp' s st hp; exact h σ' B' H' fp' s st (by rw [← h5]; exact hp)
  | rt d Γ => intro σ' B' H' v fpv fp' s st r nd hp; exact h σ' B' H' v fpv fp' s (by rw [← h2]; exact st) (by rw [← h1]; exact r) nd (by rw [← h5]; exact hp)
  | bk Γ => intro σ' B' H' fp' s st hp; exact h σ' B' H' fp' s (by rw [← h3]; exact st) (by rw [← h5]; exact hp)
  | ct Γ => intro σ' B' H' fp' s st hp; exact h σ' B' H' fp' s (by rw [← h4]; exact st) (by rw [← h5]; exact hp)
  | exc x Γ => exact h.elim
  | bad => exact h
def Ws.try_ (z : Ws) (W : WX) (μt : List Mode) : Ws := { z with w := ⟨W, μt⟩ }
theorem DS.try1 {body : List Stmt} {b₀ : Stmt} {suite : List Stmt} {np : Pos} {tab : List (Str × Bool)} (hs : X.stack = X.env :: X.outer) (hf : X.env.frame = some X.env.locals) (hg : Gl X c) (hdb : (c == ("__debug__" : Str)) = false) (hm : X.mg c = some (.ref (He.ga X.K c))) (tk : Takes X z.w.W)
    (hb : ∀ (W : WX) (pn : List (Addr × Obj)) (xe : Value → Shared → Prop), Takes (X.tr pn xe) W → PassesOwn (model X.prog X.w) X.A X.env xe → DSs (X.tr pn xe) (z.try_ W μt) μ body f μ')
    (hsu : ∀ (a : Addr) (pn : List (Addr × Obj)), DSs (X.suite a pn) (z.try_ (fun _ _ _ _ => False) μt) μt (b₀ :: suite) g μ')
    (ht : ∀ n b, tab.lookup n = some b → PySem.W.exmOne X.K (.ref (He.ga X.K n)) (.ref (He.ga X.K c)) = some b) (wk : weakL μt z.w.μx = true) :
    DS X z μ (.Try body [.ExceptHandler (some (.Name c np)) none (b₀ :: suite) pos'] [] [] pos) (sTry tab f g) μ' := by
  refine ⟨(ps_try_only (tb := fun W => tS X.K (z.try_ W μt) μ f μ') (ts := fun _ _ _ => tS X.K (z.try_ (fun _ _ _ _ => False) μt) μt g μ') (Wout := z.w.W) hs hf ⟨hg, hdb, .inl hm⟩ tk (fun W pn xe t o => (hb W pn xe t o).ps) (fun a oe cls d pn _ _ => (hsu a _).ps)).imp fun D σ H ⟨hp, B, Γ, fp, st, q⟩ => ⟨hp, B, Γ, fp, st, ?_⟩⟩
  revert q
  unfold sTry
  cases f Γ with
  | nx Γ' => exact fun q => q
  | rt d Γ' => exact fun q => q
  | bk Γ' => exact fun q => q
  | ct Γ' => exact fun q => q
  | bad => exact fun q => q
  | exc x Γ' =>
    intro q σ' B' H' fpe fp' cls dd s st' ex nd hp'
    have q1 : Lead X.K z μ' B H fp D (match tab.lookup x.c with
      | some true => EV.noX (g Γ')
      | some false => .exc x Γ'
      | none => .bad) := q
    have ecls : cls = .ref (He.ga X.K x.c) := ex.1
    cases e : tab.lookup x.c with
    | none => rw [e] at q1; exact q1.elim
    | some b =>
      rw [e] at q1
      refine ⟨b, by rw [ecls]; exact ht _ _ e, fun hb a na => ?_, fun hb => ?_⟩
      · subst hb
        refine ⟨hp', B', Γ', fp', st', ?_⟩
        exact Lead.noX (z := z) rfl rfl rfl rfl rfl (q1.after (s.less fun a h => List.mem_append_right _ h))
      · subst hb
        have own : ∀ a ∈ fpe, B' a = none ∧ ∃ o, H' a = some o := by
          obtain ⟨_, d, fs, vs, fq, rfl, b0, hd, rl, _, _, rfl⟩ := ex
          intro a ha
          rcases List.mem_cons.mp ha with rfl | ha
          · exact ⟨b0, _, hd⟩
          · exact Rl.own _ rl a ha
        obtain ⟨B2, fp2, s2, st2, k2⟩ := st'.weak (l := fpe) wk own (nodup_app.mp nd).2.2
        exact q1 σ' B2 H' fpe fp2 cls dd (s.seq s2) st2 (ex.rebase fun a h => (k2 a h).2) (nodup_over (fun a h => (own a h).2) s2 nd st2.nd) hp'
/-! ### x[e2] = e, the index any expression -/
def sStoreE (f : Gam → Rz D) (i : Nat) (f2 : Gam → Rz D) (Γ : Gam) : Sz := (f Γ).s fun y Γ1 => match getG Γ1 i with
  | some _ => (f2 Γ1).s fun jd Γ2 => (match jd with
    | .int j => (match upL i plN (fun ds => (ixN ds.length j).map fun k => ds.set k y) Γ2 with
      | some Γ3 => .nx Γ3
      | none => .bad)
    | _ => .bad)
  | none => .bad
theorem DS.storeE {e b : Expr} {x : Str} {i : Nat} {h h2 : Gam → Rz D} {mc m1 m2 : Mode} {μ1 μ2 : List Mode} {px ps : Pos} (he : DE X z.w μ e h mc μ1) (hN : X.N[i]? = some x) (hv : Vis X.env.scope x) (hd : (x == ("__debug__" : Str)) = false) (hcd : (x == ("__classdict__" : Str)) = false) (em1 : μ1[i]? = some m1) (hx1 : m1 ≠ .X)
    (hi : DE X z.w μ1 b h2 m2 μ2) (em2 : μ2[i]? = some (.O mc)) (hpl : plainB b = true) (hcp : isComp e = false) : DS X z μ (.Assign [.Subscript (.Name x px) b ps] e pos) (sStoreE h i h2) μ2 := by
  refine ⟨(ps_asg he.pe (pg_sub (pe_var hN hv hd hcd) hi.pe set_list fun v => assign_sub hpl _ v) (swapsSole hcp _ _) (swapped_none (.inl rfl) _) (assignEach_one rfl _)).imp fun D σ H ⟨hp, B, Γ, fp, sta, q⟩ => ?_⟩
  refine tD_s hp sta q fun y Γ1 B1 H1 v fpv fp1 ef s1 st1 r nd => ?_
  unfold sStoreE at q
  rw [ef] at q
  have q1 : Lead X.K z μ2 B H fp D (match getG Γ1 i with
    | some _ => (h2 Γ1).s fun jd Γ2 => (match jd with
      | .int j => (match upL i plN (fun ds => (ixN ds.length j).map fun k => ds.set k y) Γ2 with
        | some Γ3 => .nx Γ3
        | none => .bad)
      | _ => .bad)
    | none => .bad) := q
  cases eg : getG Γ1 i with
  | none => rw [eg] at q1; exact q1.elim
  | some d1 =>
  rw [eg] at q1
  obtain ⟨v0, fa, fb, g1, _⟩ := StR.take (m0 := .U) st1.st (getG_some eg) em1 hx1
  refine ⟨v0, g1, ?_⟩
  have q2 := q1.after s1
  have q3 : Lead X.K z μ2 B1 H1 (fpv ++ fp1) D ((h2 Γ1).s fun jd Γ2 => (match jd with
      | .int j => (match upL i plN (fun ds => (ixN ds.length j).map fun k => ds.set k y) Γ2 with
        | some Γ3 => .nx Γ3
        | none => .bad)
      | _ => .bad)) := q2
  refine ⟨B1, Γ1, fp1, st1, ?_⟩
  cases e2 : h2 Γ1 with
  | bad => rw [e2] at q3; exact q3.elim
  | exc ex Γ2 =>
    rw [e2] at q3
    intro B' H' fpe fp' cls dd s st exr ndx
    exact q3 σ B' H' fpe fp' cls dd ((s.frame fpv).less fun a ha => List.mem_append_right _ ha) st exr ndx hp
  | ok jd Γ2 =>
    rw [e2] at q3
    intro B2 H2 iv fpi fp2 s2 st2 ri nd2
    cases jd with
    | int j =>
      obtain ⟨rfl, rfl⟩ := ri
      have q4 : Lead X.K z μ2 B1 H1 (fpv ++ fp1) D (match upL i plN (fun ds => (ixN ds.length j).map fun k => ds.set k y) Γ2 with
        | some Γ3 => .nx Γ3
        | none => .bad) := q3
      cases eu : upL i plN (fun ds => (ixN ds.length j).map fun k => ds.set k y) Γ2 with
      | none => rw [eu] at q4; exact q4.elim
      | some Γ3 =>
        rw [eu] at q4
        obtain ⟨s, d, ds, ds', d', e1, e3, e4, e5, e6, rfl⟩ := upL_some eu
        cases e1
        have r2 : R X.K B2 H2 y mc v fpv := r.over (by simpa using s2) nd
        have ndv : (fpv ++ fp2).Nodup := nodup_over (fun a ha => (R.own y r a ha).2) (by simpa using s2) nd st2.nd
        obtain ⟨v1, a, vs, fq, n1, n2, n3, n4, n5, n6, n7, n8, n9, n10⟩ := node_lst st2 ndv (R.own y r2) e3 em2 (fun z => nomatch z) e4 rfl
        have ev : v0 = .ref a := by
          have z : v1 = .ref a := n2
          rw [g1] at n1
          cases n1; exact z
        cases ek : ixN ds.length j with
        | none => rw [ek] at e5; cases e5
        | some k =>
          rw [ek] at e5; cases e5
          refine ⟨a, vs, j, k, ev, rfl, n3, by rw [n5.len]; exact ek, ?_⟩
          have nn := nodup_app.mp ndv
          have naf : a ∉ fpv := fun z => nn.2.2 a z n9
          have r' : R X.K B2 (upd H2 a (.lst (vs.set k v))) y mc v fpv := r2.mono (Same.refl _) y (upd_kept (fun x hx => (R.own y r2 x hx).1) naf)
          have rl' : Rl X.K B2 (upd H2 a (.lst (vs.set k v))) ds mc vs fq := n5.mono (Same.refl _) ds (upd_kept (fun x hx => (Rl.own ds n5 x hx).1) n7)
          obtain ⟨fq', t1, t2, t3⟩ := rl'.setAt (ixN_seq ek).2.1 r'
          have nd3 : (fpv ++ fq).Nodup := nodup_app.mpr ⟨nn.1, n6, fun x hx hy => nn.2.2 x hx (n8 x hy)⟩
          have hl : ds.length ≤ sizeLine := by
            obtain ⟨v2, fi, fr, h1', h2', _, _, _⟩ := StR.take (m0 := .U) st2.st (getG_some e3) em2 (fun z => nomatch z)
            obtain ⟨u, fc, p1, p2, _⟩ := R.path h2' e4 (show modeP (.O mc) [] = some (.O mc) from rfl)
            obtain ⟨a', vs', fq', _, _, _, hl, _⟩ := p2
            exact hl
          obtain ⟨d2, fp3, u1, u2, u3, u4⟩ := n10 (vs.set k v) (ds.set k y) fq' [] t1 (by rw [List.length_set]; exact hl) (by rw [List.append_nil]; exact t2 nd3) (fun x hx => by
            rw [List.append_nil] at hx
            exact (List.mem_append.mp (t3 x hx)).elim .inr .inl)
          rw [e6] at u1; cases u1
          have s3 := (s2.frame fpv)
          exact q4 σ B2 _ fp3 ((by simpa using s3 : Stp B1 H1 (fpv ++ fp1) B2 H2 (fpv ++ fp2)).trans u2) u3 hp
    | _ => exact q3.elim
end
end EV

/-! EvR: statements, their match, that it is sound. -/
namespace EV
open PySem PySem.Spec L2
/-! ### name op= e -/
inductive AO where
  | add | sub | mul | cat
theorem iop_mulW {X : Cx} : OpR X (inplaceOp .Mult) (rI CMulW fun i j => .int (i * j)) := opI fun _ _ _ _ _ _ _ hc q => PyProof.Rows.imul_int q hc.ok
def sAugN (h : D → D → Option D) (i : Nat) (f : Gam → Rz D) (Γ : Gam) : Sz := match getG Γ i with
  | some d => if isFlat d = true then (f Γ).s fun y Γ1 => (match h d y with
    | some r => .nx (Γ1.set i (some r))
    | none => .bad) else .bad
  | none => .bad
theorem DS.augN {X : Cx} {z : Ws} {μ μ1 : List Mode} {i : Nat} {x : Str} {e : Expr} {f : Gam → Rz D} {m m1 : Mode} {op : Operator} {r : R2} {h : D → D → Option D} {pos pos' : Pos} (hN : X.N.Nodup) (hi : X.N[i]? = some x) (hx : Loc X.env.scope x) (hf : X.fn x = true ∨ X.env.scope.names.lookup x = some .local) (hm : μ[i]? = some m1) (hm1 : m1 ≠ .X)
    (hl : i < μ1.length) (he : DE X z.w μ e f m μ1) (ho : OpR X (inplaceOp op) r) (od : OpD X.K r .Z m h .Z) (hp : ∀ σ s, PinOk z.pin σ → PinOk z.pin (σ.set i s)) : DS X z μ (.AugAssign (.Name x pos') op e pos) (sAugN h i f) (μ1.set i .Z) := by
  refine ⟨(ps_aug hN hi hx he.pe ho hf).imp fun En σ H ⟨hpn, B, Γ, fp, sta, q⟩ => ?_⟩
  unfold sAugN at q
  cases eg : getG Γ i with
  | none => rw [eg] at q; exact q.elim
  | some d =>
  rw [eg] at q
  by_cases hfl : isFlat d = true
  case neg =>
    have q1 : Lead X.K z (μ1.set i .Z) B H fp En (if isFlat d = true then (f Γ).s fun y Γ1 => (match h d y with
      | some r => .nx (Γ1.set i (some r))
      | none => .bad) else .bad) := q
    rw [if_neg hfl] at q1; exact q1.elim
  have q1 : Lead X.K z (μ1.set i .Z) B H fp En (if isFlat d = true then (f Γ).s fun y Γ1 => (match h d y with
      | some r => .nx (Γ1.set i (some r))
      | none => .bad) else .bad) := q
  rw [if_pos hfl] at q1
  obtain ⟨v, fp1, fp2, h1, h2, h3, h4, h5⟩ := StR.take (m0 := .U) sta.st (getG_some eg) hm hm1
  refine ⟨v, h1, tD_s hpn sta q1 fun y Γ' B' H' u fpv fp' e1 s st' ru nd => ?_⟩
  rw [e1] at q1
  have q2 : Lead X.K z (μ1.set i .Z) B H fp En (match h d y with
      | some r => .nx (Γ'.set i (some r))
      | none => .bad) := q1
  cases e3 : h d y with
  | none => rw [e3] at q2; exact q2.elim
  | some r =>
    rw [e3] at q2
    have hz := R.flatZ h2 hfl
    have ez := hz.fpZ
    subst ez
    have rd : R X.K B' H' d .Z v [] := hz.mono s.base d fun a ha => by cases ha
    refine od B' H' d y r v u [] fpv _ st'.same rd ru (by simpa using (nodup_app.mp nd).1) e3 fun B2 H2 v2 fpv2 s2 sm2 r2 nd2 => ?_
    have e0 := r2.fpZ
    subst e0
    have n := nodup_app.mp nd
    have k : Kept B2 H' H2 fp' := s2.kept (K := X.K) st'.st.own fun a ha q => n.2.2 a (by simpa using q) ha
    have st2 : Sta X.K B2 H2 Γ' μ1 σ fp' := ⟨sm2, st'.st.mono s2.base k, st'.nd⟩
    obtain ⟨fp3, s3, st3⟩ := put_sta (i := i) st2 r2 (by simpa using st'.nd) (by rw [← st'.st.len.2]; exact hl)
    refine q2 _ _ _ _ (s.trans ?_) st3 (hp _ _ hpn)
    have a1 : Stp B' H' (fpv ++ fp') B2 H2 fp' := by
      have := s2.more (fp2 := fpv ++ fp') fun a h => List.mem_append_left _ (by simpa using h)
      exact ⟨this.base, this.keep, fun a h => .inl (List.mem_append_right _ h), this.new⟩
    exact a1.trans (by simpa using s3)
/-! ### indices, places -/
inductive Pl where
  | nm (i : Nat) | ix (p : Pl) (j : Px) | fld (p : Pl) (k n : Str)
def Pl.root : Pl → Nat
  | .nm i => i
  | .ix p _ => p.root
  | .fld p _ _ => p.root
def evPl : Pl → Gam → Option (List Sel)
  | .nm _ => plN
  | .ix p j => plI (evPl p) (evPx j)
  | .fld p k n => plF (evPl p) k n
def pAttr : Expr → Option (Expr × Str)
  | .Attribute e n _ => some (e, n)
  | _ => none
theorem pAttr_some {e x : Expr} {n : Str} (h : pAttr e = some (x, n)) : ∃ p, e = .Attribute x n p := by
  unfold pAttr at h; split at h
  · cases h; exact ⟨_, rfl⟩
  · cases h
def ckPl (S : Sx) (μ : List Mode) : Pl → Expr → Option Unit
  | .nm i, e => (pName e).bind fun x => grd (nmB S i x) (some ())
  | .ix p j, e => (pSub e).bind fun q => grd (plainB q.2) ((ckPl S μ p q.1).bind fun _ => ckPx S μ j q.2)
  | .fld p k n, e => (pAttr e).bind fun q => grd (decide (q.2 = n) && (baseB q.1 && S.fl.contains (k, n))) (ckPl S μ p q.1)
def stepM : Mode → Option Str → Option Mode
  | .O m, _ => some m
  | .B n m r, some x => chainM (.B n m r) x
  | _, _ => none
def modePl (m : Mode) : Pl → Option Mode
  | .nm _ => some m
  | .ix p _ => (modePl m p).bind fun k => stepM k none
  | .fld p _ n => (modePl m p).bind fun k => stepM k (some n)
def selN : Sel → Option Str
  | .ix _ => none
  | .fld _ n => some n
theorem modeP_snoc : ∀ {s : List Sel} {m k : Mode} {x : Sel} {q : Mode}, modeP m s = some k → stepM k (selN x) = some q → modeP m (s ++ [x]) = some q
  | [], m, k, x, q, h1, h2 => by
    cases (show some m = some k from h1)
    cases m with
    | O a => cases (show some a = some q from h2); cases x <;> rfl
    | B n a r =>
      cases x with
      | ix _ => cases h2
      | fld c y =>
        have h3 : chainM (.B n a r) y = some q := h2
        show (chainM (.B n a r) y).bind (fun t => modeP t []) = some q
        rw [h3]; rfl
    | _ => cases h2
  | y :: s, m, k, x, q, h1, h2 => by
    cases m with
    | O a => cases y <;> exact modeP_snoc (s := s) (m := a) h1 h2
    | B n a r =>
      cases y with
      | ix _ => cases h1
      | fld c t =>
        have h1' : (chainM (.B n a r) t).bind (fun q => modeP q s) = some k := h1
        obtain ⟨u, e1, e2⟩ := bnd h1'
        show (chainM (.B n a r) t).bind (fun q => modeP q (s ++ [x])) = some q
        rw [e1]
        exact modeP_snoc (s := s) e2 h2
    | _ => cases y <;> cases h1
theorem modePl_ok {m : Mode} : ∀ {p : Pl} {Γ : Gam} {s : List Sel} {k : Mode}, evPl p Γ = some s → modePl m p = some k → modeP m s = some k
  | .nm i, Γ, s, k, h1, h2 => by
    cases (show some [] = some s from h1); exact h2
  | .ix p j, Γ, s, k, h1, h2 => by
    have h1' : (evPl p Γ).bind (fun s => (evPx j Γ).map fun j => s ++ [.ix j]) = some s := h1
    obtain ⟨t, e1, e2⟩ := bnd h1'
    obtain ⟨u, e3, e4⟩ := bnd h2
    cases e5 : evPx j Γ with
    | none => rw [e5] at e2; cases e2
    | some v =>
      rw [e5] at e2
      cases e2
      exact modeP_snoc (modePl_ok e1 e3) e4
  | .fld p c n, Γ, s, k, h1, h2 => by
    have h1' : (evPl p Γ).map (fun s => s ++ [Sel.fld c n]) = some s := h1
    obtain ⟨u, e3, e4⟩ := bnd h2
    cases e5 : evPl p Γ with
    | none => rw [e5] at h1'; cases h1'
    | some v =>
      rw [e5] at h1'
      cases h1'
      exact modeP_snoc (modePl_ok e5 e3) e4
section
variable {S : Sx} {fs : List Fn} {X : Cx} {w : Wh}
theorem ckPl_ok (o : XOk S fs X w) {μ : List Mode} : ∀ {p : Pl} {e : Expr}, ckPl S μ p e = some () → DPl X μ e p.root (evPl p)
  | .nm i, e, h => by
    obtain ⟨x, e1, g⟩ := bnd h
    obtain ⟨p, rfl⟩ := pName_some e1
    obtain ⟨c, g⟩ := grd_some g
    obtain ⟨n1, n2, n3, n4⟩ := nmB_ok o c
    exact DPl.name n1 n2 n3 n4
  | .ix q j, e, h => by
    obtain ⟨⟨x, y⟩, e1, g⟩ := bnd h
    obtain ⟨p, rfl⟩ := pSub_some e1
    obtain ⟨c, g⟩ := grd_some g
    obtain ⟨_, h1, g⟩ := bnd g
    exact DPl.ix (ckPl_ok o h1) (ckPx_ok o g) (plain_of c)
  | .fld q k n, e, h => by
    obtain ⟨⟨x, y⟩, e1, g⟩ := bnd h
    obtain ⟨p, rfl⟩ := pAttr_some e1
    obtain ⟨c, g2⟩ := grd_some g
    rw [Bool.and_eq_true, Bool.and_eq_true] at c
    have c' : y = n := of_decide_eq_true c.1
    subst c'
    have f := o.fl k y (by simpa using c.2.2)
    exact DPl.fld (ckPl_ok o g2) f.1 f.2 (base_of c.2.1 _ _)
end
/-! ### statements -/
def AO.oper : AO → Operator
  | .add => .Add | .sub => .Sub | .mul => .Mult | .cat => .Add
def AO.op : AO → D → D → Option D
  | .add => addI | .sub => subI | .mul => mulI | .cat => fun _ _ => none
def AO.fn : AO → Option (Int → Int → Int)
  | .add => some fun i j => i + j
  | .sub => some fun i j => i - j
  | _ => none
mutual
inductive Sm where
  | pass | brk | cont | expr (e : Ex) | ret (e : Ex) | retN
  | ite (t : Tx) (a b : Sms) | whl (n : Gam → Nat) (t : Tx) (b : Sms) | for_ (it : Ix) (t : Tg) (b : Sms)
  | asg (t : Tg) (e : Ex) | setLc (i : Nat) (own : List Nat) (it : Ix) (t : Tg) (c : Cx1) (e : Ex) | setLc2 (i : Nat) (e : Ex)
  | store (p : Pl) (j : Px) (e : Ex) | aug (o : AO) (p : Pl) (j : Px) (e : Ex) | augN (o : AO) (i : Nat) (e : Ex)
  | at_ (μ : List Mode) (s : Sm)
  | storeE (i : Nat) (j : Ex) (e : Ex)
  | par (i j : Nat) (a b : Ex) | raise (c w : Str) | try_ (μt : List Mode) (tab : List (Str × Bool)) (b : Sms) (c : Str) (s : Sms)
inductive Sms where
  | nil | cons (s : Sm) (r : Sms) | wipe (vs : List Nat) (r : Sms)
end
mutual
def ex (fs : List Fn) : Sm → Gam → Sz
  | .pass => sNil
  | .brk => .bk
  | .cont => .ct
  | .expr e => sE (ev fs e)
  | .ret e => sRet (ev fs e)
  | .retN => sRetN
  | .ite t a b => sIf (evT fs t) (exs fs a) (exs fs b)
  | .whl n t b => fun Γ => sWhile (evT fs t) (exs fs b) (n Γ) Γ
  | .for_ it t b => sForE (evI fs it) (evG t) (exs fs b)
  | .asg t e => sAsg (ev fs e) (evG t)
  | .setLc i own it t c e => sAsg (eLc (evI fs it) (evG t) (evC fs c) (ev fs e) own) (gSet i)
  | .setLc2 i e => sAsg (ev fs e) (gSet i)
  | .store p j e => sStore (ev fs e) p.root (evPl p) (evPx j)
  | .aug o p j e => sAug ((o.fn).getD fun i _ => i) (ev fs e) p.root (evPl p) (evPx j)
  | .augN o i e => sAugN o.op i (ev fs e)
  | .at_ _ s => ex fs s
  | .storeE i j e => sStoreE (ev fs e) i (ev fs j)
  | .par i j a b => sPar i j (aCons (ev fs a) (aCons (ev fs b) aNil))
  | .raise c w => sRaise c w
  | .try_ _ tab b _ s => sTry tab (exs fs b) (exs [] s)
def exs (fs : List Fn) : Sms → Gam → Sz
  | .nil => sNil
  | .cons s .nil => ex fs s
  | .cons s r => sSeq (ex fs s) (exs fs r)
  | .wipe vs r => fun Γ => exs fs r (wipeG Γ vs)
end
/-- slots that are let go -/
theorem StR.drop1 {K : PySem.W.Frag} {B H : Hp} : ∀ {Γ : Gam} {μ : List Mode} {σ : St} {fp : List Addr} {i : Nat} {m : Mode}, StR K B H Γ μ σ fp → ∃ fp', StR K B H (Γ.set i none) (μ.set i m) σ fp' ∧ fp'.Sublist fp
  | [], [], [], fp, i, m, h => ⟨fp, h, List.Sublist.refl _⟩
  | g :: Γ, m0 :: μ, s :: σ, fp, 0, m, h => by
    obtain ⟨fp1, fp2, h1, h2, rfl⟩ := h
    exact ⟨fp2, ⟨[], fp2, rfl, h2, rfl⟩, List.sublist_append_right _ _⟩
  | g :: Γ, m0 :: μ, s :: σ, fp, i + 1, m, h => by
    obtain ⟨fp1, fp2, h1, h2, rfl⟩ := h
    obtain ⟨fp3, h3, s3⟩ := StR.drop1 (i := i) (m := m) h2
    exact ⟨fp1 ++ fp3, ⟨fp1, fp3, h1, h3, rfl⟩, List.Sublist.append_left s3 _⟩
  | [], _ :: _, _, _, _, _, h => h.elim
  | [], [], _ :: _, _, _, _, h => h.elim
  | _ :: _, [], _, _, _, _, h => h.elim
  | _ :: _, _ :: _, [], _, _, _, h => h.elim
theorem StR.drop {K : PySem.W.Frag} {B H : Hp} {Γ : Gam} {μ : List Mode} {σ : St} {fp : List Addr} (h : StR K B H Γ μ σ fp) : ∀ vs : List Nat, ∃ fp', StR K B H (wipeG Γ vs) (wipeM μ vs) σ fp' ∧ fp'.Sublist fp
  | [] => ⟨fp, h, List.Sublist.refl _⟩
  | v :: vs => by
    obtain ⟨fp1, h1, s1⟩ := StR.drop h vs
    obtain ⟨fp2, h2, s2⟩ := StR.drop1 (i := v) (m := .U) h1
    exact ⟨fp2, h2, s2.trans s1⟩
theorem DSs.wipe {X : Cx} {z : Ws} {μ μ' : List Mode} {sts : List Stmt} {f : Gam → Sz} {vs : List Nat} (h : DSs X z (wipeM μ vs) sts f μ') : DSs X z μ sts (fun Γ => f (wipeG Γ vs)) μ' := by
  refine ⟨h.ps.imp fun D σ H ⟨hp, B, Γ, fp, st, q⟩ => ?_⟩
  obtain ⟨fp', st', sb⟩ := st.st.drop vs
  exact ⟨hp, B, wipeG Γ vs, fp', ⟨st.same, st', sb.nodup st.nd⟩, q.after ((Stp.refl B H fp).less fun a h => sb.subset h)⟩
/-- what stands around, as far as the match needs it -/
structure Zx where
  rm : Mode
  μr : List Mode
  μb : List Mode
  μc : List Mode
  io : List Bool
def Zx.loop (Y : Zx) (μ : List Mode) : Zx := { Y with μb := μ, μc := μ }
structure ZOk (S : Sx) (fs : List Fn) (Y : Zx) (X : Cx) (z : Ws) : Prop where
  x : XOk S fs X z.w
  rm : z.rm = Y.rm
  r : z.μr = Y.μr
  b : z.μb = Y.μb
  c : z.μc = Y.μc
  pin : ∀ i, Y.io.getD i false = false → noPin z.pin i
  own : S.calm = true → PassesOwn (model X.prog X.w) X.A X.env X.xe
  stk : X.stack = X.env :: X.outer
  frm : X.env.frame = some X.env.locals
  kind : X.env.scope.kind = .function
theorem ZOk.loop {S : Sx} {fs : List Fn} {Y : Zx} {X : Cx} {z : Ws} (o : ZOk S fs Y X z) (μ : List Mode) : ZOk S fs (Y.loop μ) X (z.loop μ) := ⟨o.x, o.rm, o.r, rfl, rfl, o.pin, o.own, o.stk, o.frm, o.kind⟩
def joinM (m m' : Mode) : Mode := if m = m' then m else match m, m' with
  | .U, k => if k = .X then .X else k
  | k, .U => if k = .X then .X else k
  | .X, _ => .X
  | _, .X => .X
  | _, _ => .F
def joinL : List Mode → List Mode → List Mode
  | m :: μ, m' :: μ' => joinM m m' :: joinL μ μ'
  | _, _ => []
abbrev Om := Option (List Mode)
def okM (r : Om) (μ' : List Mode) : Bool := match r with
  | none => true
  | some μ => weakL μ μ'
def pTry : Stmt → Option (List Stmt × Str × Stmt × List Stmt)
  | .Try body [.ExceptHandler (some (.Name x _)) none (b0 :: suite) _] [] [] _ => some (body, x, b0, suite)
  | _ => none
theorem pTry_some {st b0 : Stmt} {body suite : List Stmt} {x : Str} (h : pTry st = some (body, x, b0, suite)) : ∃ np p1 p, st = .Try body [.ExceptHandler (some (.Name x np)) none (b0 :: suite) p1] [] [] p := by
  unfold pTry at h; split at h
  · cases h; exact ⟨_, _, _, rfl⟩
  · cases h
/-- two ways meet -/
def joinO (r1 r2 : Om) : Option Om := match r1, r2 with
  | none, r => some r
  | r, none => some r
  | some m1, some m2 => grd (weakL m1 (joinL m1 m2) && weakL m2 (joinL m1 m2)) (some (some (joinL m1 m2)))
/-- a loop's modes: those that its body keeps -/
def findM (f : List Mode → Option Om) : Nat → List Mode → Option (List Mode)
  | 0, μ => some μ
  | n + 1, μ => (f μ).bind fun r => match r with
    | none => some μ
    | some μ' => if weakL μ' μ = true then some μ else findM f n (joinL μ μ')
/-- no block that writes straight into its target -/
def swB (t e : Expr) : Bool := !isComp e || (match t, e with
  | .Name _ p, .ListComp _ _ _ q => !(p.line == q.line)
  | _, _ => false)
def pLine : Expr → Nat
  | .Name _ p => p.line
  | .ListComp _ _ _ p => p.line
  | _ => 0
def isLc2 : Ex → Bool
  | .lc2 .. => true
  | _ => false
def lcSc : Expr → Scope → Scope
  | .ListComp _ _ s _, _ => s
  | _, s => s
def augM : Mode → Bool
  | .Z => true
  | .F => true
  | .O _ => true
  | _ => false
mutual
def ckS (S : Sx) : Zx → Sm → Stmt → List Mode → Option Om
  | Y, .pass, st, μ => match st with
    | .Pass _ => some (some μ)
    | _ => none
  | Y, .brk, st, μ => match st with
    | .Break _ => grd (weakL μ Y.μb) (some none)
    | _ => none
  | Y, .cont, st, μ => match st with
    | .Continue _ => grd (weakL μ Y.μc) (some none)
    | _ => none
  | Y, .expr e, st, μ => match st with
    | .Expr x _ => grd (!isComp x) ((ckE S e x μ).bind fun r => some (some r.2))
    | _ => none
  | Y, .ret e, st, μ => match st with
    | .Return (some x) _ => (ckE S e x μ).bind fun r => grd (EV.sub r.1 Y.rm && weakL r.2 Y.μr) (some none)
    | _ => none
  | Y, .retN, st, μ => match st with
    | .Return none _ => grd (weakL μ Y.μr) (some none)
    | _ => none
  | Y, .ite t a b, st, μ => match st with
    | .If c body orelse _ => (ckT S t c μ).bind fun μ1 => (ckSs S Y a body μ1).bind fun r1 => (ckSs S Y b orelse μ1).bind fun r2 => joinO r1 r2
    | _ => none
  | Y, .whl n t b, st, μ => match st with
    | .While c body [] _ => grd S.calm <| (findM (fun k => (ckT S t c k).bind fun k1 => ckSs S (Y.loop k1) b body k1) 3 μ).bind fun k => grd (weakL μ k) ((ckT S t c k).bind fun k1 => grd (decide (k1 = k)) ((ckSs S (Y.loop k) b body k).bind fun r => grd (okM r k) (some (some k))))
    | _ => none
  | Y, .for_ it t b, st, μ => match st with
    | .For tg iter body [] _ => grd S.calm <| grd (foldB iter) ((ckI S it tg iter μ).bind fun r0 => (findM (fun k => (ckG S (fun i => !(Y.io.getD i false)) t tg r0.1 k).bind fun k1 => ckSs S (Y.loop k) b body k1) 3 r0.2).bind fun k => grd (weakL r0.2 k) ((ckG S (fun i => !(Y.io.getD i false)) t tg r0.1 k).bind fun k1 => (ckSs S (Y.loop k) b body k1).bind fun r => grd (okM r k) (some (some k))))
    | _ => none
  | Y, .asg t e, st, μ => match st with
    | .Assign [tg] x _ => grd (swB tg x && (notStar tg && (!isTupT tg || (isTupE tg && !isTupE x)))) ((ckE S e x μ).bind fun r => (ckG S (fun i => !(Y.io.getD i false)) t tg r.1 r.2).bind fun k => some (some k))
    | _ => none
  | Y, .setLc i own it t c e0, st, μ => match st with
    | .Assign [tgt] x _ => (pName tgt).bind fun y => (pLc x).bind fun q => grd S.calm <| grd (decide (S.N[i]? = some y) && (decide (S.sc.names.lookup y = some .local) && (!(Y.io.getD i false) && (pLine tgt == pLine x && !(q.2.2.2.2.names.any fun (n, k) => n == y && (k == .local || k == .cell))))))
      (grd (blkC S.N S.sc q.2.2.2.2 (ownN S.N own) && (foldB q.2.2.1 && decide ((ownN S.N own).map (·.2) = own)))
      ((ckI S it q.2.1 q.2.2.1 μ).bind fun r => grd (flatAt r.2 own)
        ((ckG (S.blk q.2.2.2.2 []) (fun i => own.contains i) t q.2.1 r.1 (wipeM r.2 own)).bind fun μt => grd (flatAt μt own)
          ((ckC (S.blk q.2.2.2.2 μt) c q.2.2.2.1 μt).bind fun μt' => grd (decide (μt' = μt))
            ((ckE (S.blk q.2.2.2.2 μt) e0 q.1 μt).bind fun s => grd (flatAt s.2 own && (weakL (wipeM s.2 own) (wipeM r.2 own) && (weakL (wipeM μt own) (wipeM r.2 own) && decide (i < (backM r.2 (wipeM r.2 own) own).length)))) (some (some ((backM r.2 (wipeM r.2 own) own).set i (.O s.1)))))))))
    | _ => none
  | Y, .setLc2 i ex, st, μ => match st with
    | .Assign [tgt] x _ => (pName tgt).bind fun y => (pLc2 x).bind fun q => grd (isLc2 ex && (decide (S.N[i]? = some y) && (decide (S.sc.names.lookup y = some .local) && (!(Y.io.getD i false) && (pLine tgt == pLine x && !(q.2.2.2.2.2.2.2.names.any fun (n, k) => n == y && (k == .local || k == .cell)))))))
      ((ckE S ex x μ).bind fun r => grd (decide (i < r.2.length)) (some (some (r.2.set i r.1))))
    | _ => none
  | Y, .store p j e, st, μ => match st with
    | .Assign [tgt] x _ => (pSub tgt).bind fun q => grd (!isComp x && plainB q.2) ((ckE S e x μ).bind fun r => (ckPl S r.2 p q.1).bind fun _ => (ckPx S r.2 j q.2).bind fun _ => (r.2[p.root]?).bind fun mi => grd (decide (mi ≠ .X)) ((modePl mi p).bind fun k => grd (decide (k = .O r.1)) (some (some r.2))))
    | _ => none
  | Y, .aug o p j e, st, μ => match st with
    | .AugAssign tgt op x _ => (pSub tgt).bind fun q => grd (decide (op = o.oper) && (o.fn.isSome && plainB q.2)) ((ckPl S μ p q.1).bind fun _ => (ckPx S μ j q.2).bind fun _ => (μ[p.root]?).bind fun mi => grd (decide (mi ≠ .X)) ((modePl mi p).bind fun k => (oM (some k)).bind fun mc => grd (augM mc) ((ckE S e x (μ.set p.root .U)).bind fun r => grd (decide (r.2[p.root]? = some .U)) (some (some (r.2.set p.root mi))))))
    | _ => none
  | Y, .augN o i e, st, μ => match st with
    | .AugAssign tgt op x _ => (pName tgt).bind fun y => grd (decide (op = o.oper) && (decide (S.N[i]? = some y) && (locB S y && (!(Y.io.getD i false) && oOk μ[i]?)))) ((ckE S e x μ).bind fun r => grd (decide (i < r.2.length)) (some (some (r.2.set i .Z))))
    | _ => none
  | Y, .at_ μ1 s, st, μ => grd (weakL μ μ1) (ckS S Y s st μ1)
  | Y, .storeE i j e, st, μ => match st with
    | .Assign [tgt] x _ => (pSub tgt).bind fun q => (pName q.1).bind fun y => grd (!isComp x && (plainB q.2 && nmB S i y)) ((ckE S e x μ).bind fun r => grd (oOk r.2[i]?) ((ckE S j q.2 r.2).bind fun t => grd (decide (t.2[i]? = some (.O r.1))) (some (some t.2))))
    | _ => none
  | Y, .par i j a b, st, μ => match st with
    | .Assign [.Tuple [.Name x px, .Name y py] _ _] (.Tuple [e1, e2] _ _) _ => grd (S.calm && (decide (S.N[i]? = some x) && (decide (S.N[j]? = some y) && (decide (i ≠ j) && (decide (S.sc.names.lookup x = some .local) && (decide (S.sc.names.lookup y = some .local) && (decide (x ≠ y) && (decide (px.line = py.line) && (parB e1 e2 && (!(Y.io.getD i false) && !(Y.io.getD j false)))))))))))
      ((ckE S a e1 μ).bind fun r => (ckE S b e2 r.2).bind fun t => grd (flatM r.1 && (flatM t.1 && (decide (i < t.2.length) && decide (j < t.2.length)))) (some (some ((t.2.set i r.1).set j t.1))))
    | _ => none
  | Y, .raise c w, st, μ => match st with
    | .Raise (some (.Call (.Name x _) [] [] _)) none _ => grd (S.calm && (decide (x = c) && (glB S c && (S.ex.contains (c, w) && weakL μ S.μx)))) (some none)
    | _ => none
  | Y, .try_ μt tab b c s, st, μ => (pTry st).bind fun q => grd (S.calm && (decide (q.2.1 = c) && (glB S c && (!tab.isEmpty && ((tab.all fun q => S.exm.contains (q.1, c, q.2)) && weakL μt S.μx)))))
      ((ckSs { S with μx := μt } Y b q.1 μ).bind fun r1 => (ckSs { S with μx := μt, calm := false, fs := [], ex := [] } Y s (q.2.2.1 :: q.2.2.2) μt).bind fun r2 => joinO r1 r2)
def ckSs (S : Sx) : Zx → Sms → List Stmt → List Mode → Option Om
  | Y, .nil, sts, μ => grd sts.isEmpty (some (some μ))
  | Y, .wipe vs r, sts, μ => ckSs S Y r sts (wipeM μ vs)
  | Y, .cons s r, sts, μ => (match sts with
    | st :: _ => some st
    | [] => none).bind fun st => (ckS S Y s st μ).bind fun o => (match o with
    | some μ1 => ckSs S Y r sts.tail μ1
    | none => grd sts.tail.isEmpty (match r with
      | .nil => some none
      | _ => none))
end
end EV

/-! EvS: what matches is sound: statements. -/
namespace EV
open PySem PySem.Spec L2
theorem swB_ok {t e : Expr} (h : swB t e = true) (l : Nat) (env : Env) : swapsWithSole [t] e l env = pure false := by
  show swapsWith e (some t) l env = pure false
  unfold swB at h
  rw [Bool.or_eq_true] at h
  rcases h with h | h
  · exact noswap (by simpa using h) _ _ _
  · split at h
    · rename_i x c p a b s q
      have h' : (p.line == q.line) = false := by simpa using h
      unfold swapsWith
      simp only [Expr.pos, h', Bool.and_false, Bool.false_and]
    · cases h
theorem exs_cons (fs : List Fn) (s : Sm) (r : Sms) : exs fs (.cons s r) = (match r with | .nil => ex fs s | r => sSeq (ex fs s) (exs fs r)) := by cases r <;> rfl
theorem okM_of {r : Om} {μ' : List Mode} (h : okM r μ' = true) : r = none ∨ ∃ μ, r = some μ ∧ weakL μ μ' = true := by
  cases r with
  | none => exact .inl rfl
  | some μ => exact .inr ⟨μ, rfl, h⟩
theorem augM_ok {m : Mode} (h : augM m = true) : m = .Z ∨ m = .F ∨ ∃ k, m = .O k := by
  cases m with
  | Z => exact .inl rfl
  | F => exact .inr (.inl rfl)
  | O k => exact .inr (.inr ⟨k, rfl⟩)
  | _ => cases h
theorem aug_op {X : Cx} {o : AO} {f : Int → Int → Int} (h : o.fn = some f) : PIp X o.oper (ipI f) := by
  cases o with
  | add => cases h; exact ip_add
  | sub => cases h; exact ip_sub
  | mul => cases h
  | cat => cases h
theorem augN_op {X : Cx} (o : AO) (m : Mode) : ∃ r, (OpR X (inplaceOp o.oper) r ∧ OpD X.K r .Z m o.op .Z) := by
  cases o with
  | add => exact ⟨_, iop_add, opd_add⟩
  | sub => exact ⟨_, iop_sub, opd_sub⟩
  | mul => exact ⟨_, iop_mulW, opd_mul⟩
  | cat => exact ⟨_, iop_add, fun _ _ _ _ _ _ _ _ _ _ _ _ _ _ e => by cases e⟩
theorem ckSs_w {X : Cx} {z : Ws} {μ k : List Mode} {sts : List Stmt} {f : Gam → Sz} {r : Om} (h : ∀ μ', (∀ μ1, r = some μ1 → μ1 = μ') → DSs X z μ sts f μ') (c : okM r k = true) : DSs X z μ sts f k := by
  cases r with
  | none => exact h k fun _ e => nomatch e
  | some m => exact (h m fun _ e => by cases e; rfl).weak c
theorem none_eq {μ' : List Mode} : ∀ μ1, (none : Om) = some μ1 → μ1 = μ' := fun _ e => nomatch e
theorem some_eq {μ : List Mode} : ∀ μ1, (some μ : Om) = some μ1 → μ1 = μ := fun _ e => by cases e; rfl
/-- two ways meet: each is brought to what is common -/
theorem joinO_ok {X : Cx} {z : Ws} {μ : List Mode} {st : Stmt} {f : Gam → Sz} {r1 r2 r : Om} (h : joinO r1 r2 = some r)
    (H : ∀ μ'', (∀ {X1 : Cx} {z1 : Ws} {μa : List Mode} {sts : List Stmt} {fa : Gam → Sz}, (∀ μ', (∀ μ1, r1 = some μ1 → μ1 = μ') → DSs X1 z1 μa sts fa μ') → DSs X1 z1 μa sts fa μ'') → (∀ {X1 : Cx} {z1 : Ws} {μa : List Mode} {sts : List Stmt} {fa : Gam → Sz}, (∀ μ', (∀ μ1, r2 = some μ1 → μ1 = μ') → DSs X1 z1 μa sts fa μ') → DSs X1 z1 μa sts fa μ'') → DS X z μ st f μ'')
    (_ : ∀ {μ1 μ2 : List Mode}, DS X z μ st f μ1 → weakL μ1 μ2 = true → DS X z μ st f μ2) (μ' : List Mode) (k : ∀ μ1, r = some μ1 → μ1 = μ') : DS X z μ st f μ' := by
  cases r1 with
  | none =>
    cases r2 with
    | none => exact H μ' (fun h => h μ' none_eq) (fun h => h μ' none_eq)
    | some m2 =>
      cases h
      cases k _ rfl
      exact H _ (fun h => h _ none_eq) (fun h => h _ some_eq)
  | some m1 =>
    cases r2 with
    | none =>
      cases h
      cases k _ rfl
      exact H _ (fun h => h _ some_eq) (fun h => h _ none_eq)
    | some m2 =>
      obtain ⟨c, g⟩ := grd_some h
      cases g
      cases k _ rfl
      rw [Bool.and_eq_true] at c
      exact H _ (fun h => (h m1 some_eq).weak c.1) (fun h => (h m2 some_eq).weak c.2)
theorem lookup_mem {α β : Type} [BEq α] [LawfulBEq α] {a : α} {b : β} : ∀ {l : List (α × β)}, l.lookup a = some b → (a, b) ∈ l
  | (x, y) :: l, h => by
    rw [List.lookup_cons] at h
    split at h
    · rename_i e
      cases h
      rw [eq_of_beq e]
      exact List.mem_cons_self
    · exact List.mem_cons_of_mem _ (lookup_mem h)
mutual
theorem ckS_ok : ∀ (s : Sm) {S : Sx} {fs : List Fn} {Y : Zx} {X : Cx} {z : Ws} {st : Stmt} {μ : List Mode} {r : Om}, ZOk S fs Y X z → ckS S Y s st μ = some r → ∀ μ', (∀ μ1, r = some μ1 → μ1 = μ') → DS X z μ st (ex fs s) μ'
  | .pass, S, fs, Y, X, z, st, μ, r, o, h, μ', k => by
    cases st <;> first | (cases h; done) | skip
    cases h
    cases k _ rfl
    exact DS.pass
  | .brk, S, fs, Y, X, z, st, μ, r, o, h, μ', k => by
    cases st <;> first | (cases h; done) | skip
    obtain ⟨c, g⟩ := grd_some h
    exact DS.brk (by rw [o.b]; exact c)
  | .cont, S, fs, Y, X, z, st, μ, r, o, h, μ', k => by
    cases st <;> first | (cases h; done) | skip
    obtain ⟨c, g⟩ := grd_some h
    exact DS.cont (by rw [o.c]; exact c)
  | .expr e, S, fs, Y, X, z, st, μ, r, o, h, μ', k => by
    cases st <;> first | (cases h; done) | skip
    obtain ⟨c, g⟩ := grd_some h
    obtain ⟨r1, h1, g⟩ := bnd g
    cases g
    cases k _ rfl
    exact (DS.expr (ckE_ok e o.x h1) (noswap (by simpa using c) _ _ _))
  | .ret e, S, fs, Y, X, z, st, μ, r, o, h, μ', k => by
    cases st <;> first | (cases h; done) | skip
    rename_i v p
    cases v with
    | none => cases h
    | some x =>
      obtain ⟨r1, h1, g⟩ := bnd h
      obtain ⟨c, g⟩ := grd_some g
      rw [Bool.and_eq_true] at c
      have q := ckE_ok e o.x h1
      exact DS.ret (by rw [o.rm]; exact q.sub c.1) (by rw [o.r]; exact c.2)
  | .retN, S, fs, Y, X, z, st, μ, r, o, h, μ', k => by
    cases st <;> first | (cases h; done) | skip
    rename_i v p
    cases v with
    | some x => cases h
    | none =>
      obtain ⟨c, g⟩ := grd_some h
      exact DS.retN (by rw [o.r]; exact c)
  | .ite t a b, S, fs, Y, X, z, st, μ, r, o, h, μ', k => by
    cases st <;> first | (cases h; done) | skip
    obtain ⟨μ1, h0, g⟩ := bnd h
    obtain ⟨r1, h1, g⟩ := bnd g
    obtain ⟨r2, h2, g⟩ := bnd g
    have q0 := ckT_ok t o.x h0
    exact joinO_ok g (fun μ'' w1 w2 => DS.ite q0 (w1 (ckSs_ok a o h1)) (w2 (ckSs_ok b o h2))) (fun d c => d.weak c) μ' k
  | .whl n t b, S, fs, Y, X, z, st, μ, r, o, h, μ', k => by
    cases st <;> first | (cases h; done) | skip
    rename_i c body orelse p
    cases orelse with
    | cons _ _ => cases h
    | nil =>
      obtain ⟨cc, g⟩ := grd_some h
      obtain ⟨k0, _, g⟩ := bnd g
      obtain ⟨c1, g⟩ := grd_some g
      obtain ⟨k1, h1, g⟩ := bnd g
      obtain ⟨c2, g⟩ := grd_some g
      obtain ⟨r1, h2, g⟩ := bnd g
      obtain ⟨c3, g⟩ := grd_some g
      cases g
      rw [of_decide_eq_true c2] at h1
      have q := ckSs_w (ckSs_ok b (o.loop k0) h2) c3
      cases k _ rfl
      exact ((DS.whil (o.own cc) (ckT_ok t o.x h1) q).ahead c1)
  | .for_ it t b, S, fs, Y, X, z, st, μ, r, o, h, μ', k => by
    cases st <;> first | (cases h; done) | skip
    rename_i tg iter body orelse p
    cases orelse with
    | cons _ _ => cases h
    | nil =>
      obtain ⟨cc, g⟩ := grd_some h
      obtain ⟨c0, g⟩ := grd_some g
      obtain ⟨r0, h0, g⟩ := bnd g
      obtain ⟨k0, _, g⟩ := bnd g
      obtain ⟨c1, g⟩ := grd_some g
      obtain ⟨k1, h1, g⟩ := bnd g
      obtain ⟨r1, h2, g⟩ := bnd g
      obtain ⟨c3, g⟩ := grd_some g
      cases g
      have q := ckSs_w (ckSs_ok b (o.loop k0) h2) c3
      cases k _ rfl
      refine (DS.for_ (o.own cc) (o.x.calm cc) (ckI_ok it o.x h0) c1 (ckG_ok o.x (fun i hi σ s hq => PinOk.set hq (o.pin i (by simpa using hi))) t h1) q (fold_of c0 _))
  | .asg t e, S, fs, Y, X, z, st, μ, r, o, h, μ', k => by
    cases st <;> first | (cases h; done) | skip
    rename_i tgs x p
    rcases tgs with _ | ⟨tg, _ | ⟨_, _⟩⟩ <;> first | (cases h; done) | skip
    obtain ⟨c0, g⟩ := grd_some h
    obtain ⟨r0, h0, g⟩ := bnd g
    obtain ⟨k1, h1, g⟩ := bnd g
    cases g
    rw [Bool.and_eq_true, Bool.and_eq_true] at c0
    cases k _ rfl
    refine (DS.asg (ckE_ok e o.x h0) (ckG_ok o.x (fun i hi σ s hq => PinOk.set hq (o.pin i (by simpa using hi))) t h1) (swB_ok c0.1 _ _) (swapped_none ?_ _) (assignEach_one c0.2.1 _))
    have c := c0.2.2
    rw [Bool.or_eq_true] at c
    rcases c with c | c
    · exact .inl (by simpa using c)
    · exact .inr c
  | .setLc i own it t c e0, S, fs, Y, X, z, st, μ, r, o, h, μ', k => by
    cases st <;> first | (cases h; done) | skip
    rename_i tgs x p
    rcases tgs with _ | ⟨tgt, _ | ⟨_, _⟩⟩ <;> first | (cases h; done) | skip
    obtain ⟨y, e1, g0⟩ := bnd h
    obtain ⟨py, rfl⟩ := pName_some e1
    obtain ⟨⟨elt, tg, iter, ifs, scope⟩, e2, g1⟩ := bnd g0
    obtain ⟨px, rfl⟩ := pLc_some e2
    obtain ⟨cc, g⟩ := grd_some g1
    obtain ⟨c0, g⟩ := grd_some g
    obtain ⟨c1, g⟩ := grd_some g
    obtain ⟨⟨m, μ1⟩, h1, g⟩ := bnd g
    obtain ⟨c2, g⟩ := grd_some g
    obtain ⟨μt, h2, g⟩ := bnd g
    obtain ⟨c3, g⟩ := grd_some g
    obtain ⟨μt', h3, g⟩ := bnd g
    obtain ⟨c4, g⟩ := grd_some g
    obtain ⟨⟨me, μe⟩, h4, g⟩ := bnd g
    obtain ⟨c5, g⟩ := grd_some g
    cases g
    dsimp only at *
    rw [of_decide_eq_true c4] at h3
    rw [Bool.and_eq_true, Bool.and_eq_true, Bool.and_eq_true, Bool.and_eq_true] at c0
    rw [Bool.and_eq_true, Bool.and_eq_true] at c1
    rw [Bool.and_eq_true, Bool.and_eq_true, Bool.and_eq_true] at c5
    obtain ⟨a1, a2, a3, a4, a5⟩ := c0
    have eo : (ownN S.N own).map (·.2) = own := of_decide_eq_true c1.2.2
    have ok : BlkOk X.N X.env.scope scope (ownN S.N own) := by rw [o.x.n, o.x.sc]; exact blkOk_by c1.1
    have yl : X.env.scope.names.lookup y = some .local := by rw [o.x.sc]; exact of_decide_eq_true a2
    have pin : noPin z.pin i := o.pin i (by simpa using a3)
    have := DS.setLc (X := X) (z := z) (i := i) (y := y) (py := py) (spos := p) (own := ownN S.N own) (pos := px) (μ := μ) (t := evG t) (m := m) (μt := μt) (me := me) (μe := μe) (fe := ev fs e0) (tt := evC fs c) (μ1 := μ1) (o.x.calm cc) (by rw [o.x.n]; exact o.x.nd) (by rw [o.x.n]; exact of_decide_eq_true a1) yl
      (sw_true o.kind yl a4 (by simpa using a5)) ok (ckI_ok it o.x h1) (by rw [eo]; exact c2) (by rw [eo]; exact c5.1) (by rw [eo]; exact c3) (by rw [eo]; exact c5.2.1) (by rw [eo]; exact c5.2.2.1)
      (fun s H C cl fp σ0 => by rw [eo]; exact ckG_ok (S := S.blk scope []) (w := wNo []) o.x.blk (st := fun i => own.contains i) (P := fun τ => L2.wipe τ own = L2.wipe σ0 own) (fun i hi σ s hq => by show L2.wipe (σ.set i s) own = _; rw [wipe_set (by simpa using hi)]; exact hq) t h2)
      (fun s H C cl fp => ckC_ok c (S := S.blk scope μt) o.x.blk h3) (fun s H C cl fp => ckE_ok e0 (S := S.blk scope μt) o.x.blk h4) (fold_of c1.2.1 _) (fun σ s hq => PinOk.set hq pin) (by rw [eo]; exact of_decide_eq_true c5.2.2.2)
    rw [eo] at this
    cases k _ rfl
    exact this
  | .setLc2 i ex, S, fs, Y, X, z, st, μ, r, o, h, μ', k => by
    cases st <;> first | (cases h; done) | skip
    rename_i tgs x p
    rcases tgs with _ | ⟨tgt, _ | ⟨_, _⟩⟩ <;> first | (cases h; done) | skip
    obtain ⟨y, e1, g0⟩ := bnd h
    obtain ⟨py, rfl⟩ := pName_some e1
    obtain ⟨⟨elt, tg, iter, ifs, tg1, iter1, ifs1, scope⟩, e2, g1⟩ := bnd g0
    obtain ⟨px, rfl⟩ := pLc2_some e2
    obtain ⟨c0, g⟩ := grd_some g1
    obtain ⟨r0, h0, g⟩ := bnd g
    obtain ⟨c9, g⟩ := grd_some g
    cases g
    dsimp only at *
    rw [Bool.and_eq_true, Bool.and_eq_true, Bool.and_eq_true, Bool.and_eq_true, Bool.and_eq_true] at c0
    obtain ⟨a0, a1, a2, a3, a4, a5⟩ := c0
    cases ex <;> first | (cases a0; done) | skip
    rename_i own own1 it t c it1 t1 c1 e0
    obtain ⟨elt', tg', iter', ifs', tg1', iter1', ifs1', scope', p', m, m1, me, μ1, μt, μ2, μt1, μe, ee, hc, eo, er, H⟩ := ckLc2_H o.x h0
    cases ee
    subst er
    have yl : X.env.scope.names.lookup y = some .local := by rw [o.x.sc]; exact of_decide_eq_true a2
    have pin : noPin z.pin i := o.pin i (by simpa using a3)
    have := DS.setLc2 (X := X) (z := z) (i := i) (y := y) (py := py) (spos := p) (pos := px) (μ := μ) hc (by rw [o.x.n]; exact o.x.nd) (by rw [o.x.n]; exact of_decide_eq_true a1) yl
      (sw_true o.kind yl a4 (by simpa using a5)) H (fun σ s hq => PinOk.set hq pin) (by rw [eo]; exact of_decide_eq_true c9)
    rw [eo] at this
    cases k _ rfl
    exact this
  | .store pl j e, S, fs, Y, X, z, st, μ, r, o, h, μ', k => by
    cases st <;> first | (cases h; done) | skip
    rename_i tgs x p
    rcases tgs with _ | ⟨tgt, _ | ⟨_, _⟩⟩ <;> first | (cases h; done) | skip
    obtain ⟨⟨ob, ib⟩, e1, g0⟩ := bnd h
    obtain ⟨ps, rfl⟩ := pSub_some e1
    obtain ⟨c0, g⟩ := grd_some g0
    obtain ⟨r0, h0, g⟩ := bnd g
    obtain ⟨_, h1, g⟩ := bnd g
    obtain ⟨_, h2, g⟩ := bnd g
    obtain ⟨mi, h3, g⟩ := bnd g
    obtain ⟨c1, g⟩ := grd_some g
    obtain ⟨mk, h4, g⟩ := bnd g
    obtain ⟨c2, g⟩ := grd_some g
    cases g
    rw [Bool.and_eq_true] at c0
    have c2' : mk = .O r0.1 := of_decide_eq_true c2
    cases k _ rfl
    refine (DS.store (ckE_ok e o.x h0) (ckPl_ok o.x h1) (ckPx_ok o.x h2) h3 (of_decide_eq_true c1) (fun Γ s hs => by rw [← c2']; exact modePl_ok hs h4) (fun v => assign_sub c0.2 _ v) (swapsSole (by simpa using c0.1) _ _) (swapped_none (.inl rfl) _) (assignEach_one rfl _))
  | .aug op pl j e, S, fs, Y, X, z, st, μ, r, o, h, μ', k => by
    cases st <;> first | (cases h; done) | skip
    rename_i tgt aop x p
    obtain ⟨⟨ob, ib⟩, e1, g0⟩ := bnd h
    obtain ⟨ps, rfl⟩ := pSub_some e1
    obtain ⟨c0, g⟩ := grd_some g0
    obtain ⟨_, h1, g⟩ := bnd g
    obtain ⟨_, h2, g⟩ := bnd g
    obtain ⟨mi, h3, g⟩ := bnd g
    obtain ⟨c1, g⟩ := grd_some g
    obtain ⟨mk, h4, g⟩ := bnd g
    obtain ⟨mc, h5, g⟩ := bnd g
    obtain ⟨c2, g⟩ := grd_some g
    obtain ⟨r0, h6, g⟩ := bnd g
    obtain ⟨c3, g⟩ := grd_some g
    cases g
    rw [Bool.and_eq_true, Bool.and_eq_true] at c0
    have e5 : mk = .O mc := by simpa using oM_some h5
    obtain ⟨f, hf⟩ := Option.isSome_iff_exists.mp c0.2.1
    have e6 : aop = op.oper := of_decide_eq_true c0.1
    subst e6
    have := DS.aug (X := X) (z := z) (pos := p) (tpos := ps) (aug_op (X := X) hf) (ckE_ok e o.x h6) (ckPl_ok o.x h1) (ckPx_ok o.x h2) h3 (of_decide_eq_true c1) (fun Γ s hs => by rw [← e5]; exact modePl_ok hs h4) (augM_ok c2) (List.set_set ..) (of_decide_eq_true c3) (fun ov iv new => aug_store c0.2.2 ov iv new)
    show DS X z μ _ (sAug ((op.fn).getD fun i _ => i) (ev fs e) pl.root (evPl pl) (evPx j)) μ'
    rw [hf]
    cases k _ rfl
    exact this
  | .augN op i e, S, fs, Y, X, z, st, μ, r, o, h, μ', k => by
    cases st <;> first | (cases h; done) | skip
    rename_i tgt aop x p
    obtain ⟨y, e1, g0⟩ := bnd h
    obtain ⟨ps, rfl⟩ := pName_some e1
    obtain ⟨c0, g⟩ := grd_some g0
    obtain ⟨r0, h0, g⟩ := bnd g
    obtain ⟨c1, g⟩ := grd_some g
    cases g
    rw [Bool.and_eq_true, Bool.and_eq_true, Bool.and_eq_true, Bool.and_eq_true] at c0
    obtain ⟨a1, a2, a3, a4, a5⟩ := c0
    have e6 : aop = op.oper := of_decide_eq_true a1
    subst e6
    obtain ⟨m1, b1, b2⟩ := oOk_ok a5
    obtain ⟨rr, q1, q2⟩ := augN_op (X := X) op r0.1
    cases k _ rfl
    exact (DS.augN (by rw [o.x.n]; exact o.x.nd) (by rw [o.x.n]; exact of_decide_eq_true a2) (by rw [o.x.sc]; exact locB_or a3) (o.x.fnl y a3) b1 b2 (of_decide_eq_true c1) (ckE_ok e o.x h0) q1 q2 (fun σ s hq => PinOk.set hq (o.pin i (by simpa using a4))))
  | .at_ μ1 s, S, fs, Y, X, z, st, μ, r, o, h, μ', k => by
    obtain ⟨c0, g⟩ := grd_some h
    exact (ckS_ok s o g μ' k).ahead c0
  | .storeE i j e, S, fs, Y, X, z, st, μ, r, o, h, μ', k => by
    cases st <;> first | (cases h; done) | skip
    rename_i tgs x p
    rcases tgs with _ | ⟨tgt, _ | ⟨_, _⟩⟩ <;> first | (cases h; done) | skip
    obtain ⟨⟨ob, ib⟩, e1, g0⟩ := bnd h
    obtain ⟨ps, rfl⟩ := pSub_some e1
    obtain ⟨y, e2, g1⟩ := bnd g0
    obtain ⟨py, e3⟩ := pName_some e2
    have e3' : ob = .Name y py := e3
    subst e3'
    obtain ⟨c0, g⟩ := grd_some g1
    obtain ⟨r0, h0, g⟩ := bnd g
    obtain ⟨c1, g⟩ := grd_some g
    obtain ⟨r1, h1, g⟩ := bnd g
    obtain ⟨c2, g⟩ := grd_some g
    cases g
    rw [Bool.and_eq_true, Bool.and_eq_true] at c0
    obtain ⟨n1, n2, n3, n4⟩ := nmB_ok o.x c0.2.2
    obtain ⟨m1, b1, b2⟩ := oOk_ok c1
    cases k _ rfl
    exact DS.storeE (ckE_ok e o.x h0) n1 n2 n3 n4 b1 b2 (ckE_ok j o.x h1) (of_decide_eq_true c2) c0.2.1 (by simpa using c0.1)
  | .par i j a b, S, fs, Y, X, z, st, μ, r, o, h, μ', k => by
    unfold ckS at h
    split at h
    · rename_i x px y py kt pt e1 e2 k2 pt2 pos
      obtain ⟨c0, g⟩ := grd_some h
      obtain ⟨r0, h0, g⟩ := bnd g
      obtain ⟨r1, h1, g⟩ := bnd g
      obtain ⟨c1, g⟩ := grd_some g
      cases g
      cases k _ rfl
      simp only [Bool.and_eq_true] at c0 c1
      obtain ⟨a0, a1, a2, a3, a4, a5, a6, a7, a8, a9, a10⟩ := c0
      obtain ⟨b1, b2, b3, b4⟩ := c1
      have n8 := a8
      unfold parB at n8
      simp only [Bool.and_eq_true] at n8
      have q0 := ckE_ok a o.x h0
      have q1 := ckE_ok b o.x h1
      have hx : X.env.scope.names.lookup x = some .local := by rw [o.x.sc]; exact of_decide_eq_true a4
      have hy : X.env.scope.names.lookup y = some .local := by rw [o.x.sc]; exact of_decide_eq_true a5
      have da : DA X z.w μ [e1, e2] (aCons (ev fs a) (aCons (ev fs b) aNil)) [r0.1, r1.1] r1.2 := DA.cons q0 (DA.cons q1 DA.nil (star_of n8.2.1 _ _)) (star_of n8.1 _ _)
      exact DS.par (o.x.calm a0) (by rw [o.x.n]; exact o.x.nd) (by rw [o.x.n]; exact of_decide_eq_true a1) (by rw [o.x.n]; exact of_decide_eq_true a2) (of_decide_eq_true a3) hx hy da b1 b2 (of_decide_eq_true b3) (of_decide_eq_true b4) (par_swap o.kind hx hy (of_decide_eq_true a6) (of_decide_eq_true a7) a8) (o.pin i (by simpa using a9)) (o.pin j (by simpa using a10))
    · cases h
  | .raise c w, S, fs, Y, X, z, st, μ, r, o, h, μ', k => by
    cases st <;> first | (cases h; done) | skip
    rename_i e cause p
    cases e with
    | none => cases cause <;> cases h
    | some e =>
    cases e <;> first | (cases cause <;> cases h; done) | skip
    rename_i fn args kws p2
    cases fn <;> first | (cases args <;> cases kws <;> cases cause <;> cases h; done) | skip
    rename_i x p3
    rcases args with _ | ⟨_, _⟩
    case cons => cases kws <;> cases cause <;> cases h
    rcases kws with _ | ⟨_, _⟩
    case cons => cases cause <;> cases h
    cases cause with
    | some _ => cases h
    | none =>
      obtain ⟨c0, g⟩ := grd_some h
      rw [Bool.and_eq_true, Bool.and_eq_true, Bool.and_eq_true, Bool.and_eq_true] at c0
      obtain ⟨cc, c1, c2, c3, c4⟩ := c0
      have e1 : x = c := of_decide_eq_true c1
      subst e1
      obtain ⟨g1, g2⟩ := glB_ok o.x c2
      exact DS.raise (o.x.calm cc) o.x.tk (o.x.ex _ _ (by simpa using c3)) g1 g2 (by rw [o.x.mx]; exact c4)
  | .try_ μt tab b c s, S, fs, Y, X, z, st, μ, r, o, h, μ', k => by
    obtain ⟨⟨body, x, b0, suite⟩, e0, g0⟩ := bnd h
    obtain ⟨np, p1, p, rfl⟩ := pTry_some e0
    obtain ⟨c0, g⟩ := grd_some g0
    obtain ⟨r1, h1, g⟩ := bnd g
    obtain ⟨r2, h2, g⟩ := bnd g
    dsimp only at c0 h1 h2
    rw [Bool.and_eq_true, Bool.and_eq_true, Bool.and_eq_true, Bool.and_eq_true, Bool.and_eq_true] at c0
    obtain ⟨cc, c1, c2, c3, c4, c5⟩ := c0
    have e1 : x = c := of_decide_eq_true c1
    subst e1
    obtain ⟨g1, g2⟩ := glB_ok o.x c2
    have ht : ∀ n b, tab.lookup n = some b → PySem.W.exmOne X.K (.ref (He.ga X.K n)) (.ref (He.ga X.K x)) = some b := fun n b hl => by
      have := List.all_eq_true.mp c4 (n, b) (lookup_mem hl)
      exact (o.x.exm n x b (by simpa using this)).1
    have hm : X.mg x = some (.ref (He.ga X.K x)) := by
      cases tab with
      | nil => cases c3
      | cons q l =>
        have := List.all_eq_true.mp c4 q List.mem_cons_self
        exact (o.x.exm q.1 x q.2 (by simpa using this)).2
    refine joinO_ok g (fun μ'' w1 w2 => DS.try1 o.stk o.frm g1 g2 hm o.x.tk (fun W pn xe tk po => w1 (ckSs_ok b (S := { S with μx := μt }) (fs := fs) (Y := Y) (X := X.tr pn xe) (z := z.try_ W μt) ?_ h1)) (fun a pn => w2 (ckSs_ok s (S := { S with μx := μt, calm := false, fs := [], ex := [] }) (fs := []) (Y := Y) (X := X.suite a pn) (z := z.try_ (fun _ _ _ _ => False) μt) ?_ h2)) ht (by rw [o.x.mx]; exact c5)) (fun d c => d.weak c) μ' k
    · exact ⟨⟨o.x.sg, o.x.n, o.x.nd, o.x.sc, o.x.fnl, o.x.calm, o.x.room, o.x.fs, o.x.bl, tk, rfl, o.x.ex, o.x.exm, o.x.fl, o.x.gc⟩, o.rm, o.r, o.b, o.c, o.pin, fun _ => po, o.stk, o.frm, o.kind⟩
    · exact ⟨⟨rfl, o.x.n, o.x.nd, o.x.sc, o.x.fnl, (fun h => nomatch h), o.x.room, (fun _ h => nomatch h), o.x.bl, takes_no _ μt, rfl, (fun _ _ h => nomatch h), o.x.exm, o.x.fl, o.x.gc⟩, o.rm, o.r, o.b, o.c, o.pin, (fun h => nomatch h), o.stk, o.frm, o.kind⟩
theorem ckSs_ok : ∀ (s : Sms) {S : Sx} {fs : List Fn} {Y : Zx} {X : Cx} {z : Ws} {sts : List Stmt} {μ : List Mode} {r : Om}, ZOk S fs Y X z → ckSs S Y s sts μ = some r → ∀ μ', (∀ μ1, r = some μ1 → μ1 = μ') → DSs X z μ sts (exs fs s) μ'
  | .nil, S, fs, Y, X, z, sts, μ, r, o, h, μ', k => by
    obtain ⟨c, g⟩ := grd_some h
    cases g
    cases sts with
    | nil =>
      cases k _ rfl
      exact DSs.nil
    | cons _ _ => cases c
  | .wipe vs q, S, fs, Y, X, z, sts, μ, r, o, h, μ', k => DSs.wipe (ckSs_ok q o h μ' k)
  | .cons s q, S, fs, Y, X, z, sts, μ, r, o, h, μ', k => by
    cases sts with
    | nil => cases h
    | cons st sts =>
      obtain ⟨st', e1, g⟩ := bnd h
      cases e1
      obtain ⟨r1, h1, g⟩ := bnd g
      cases r1 with
      | none =>
        obtain ⟨c, g⟩ := grd_some g
        cases q with
        | cons _ _ => cases g
        | wipe _ _ => cases g
        | nil =>
          cases sts with
          | cons _ _ => cases c
          | nil => exact DSs.one (ckS_ok s o h1 μ' (fun _ e => nomatch e))
      | some μ1 =>
        cases q with
        | nil =>
          obtain ⟨c, g⟩ := grd_some g
          cases g
          cases sts with
          | cons _ _ => cases c
          | nil =>
            cases k _ rfl
            exact DSs.one (ckS_ok s o h1 _ (fun _ e => by cases e; rfl))
        | cons s2 q2 =>
          exact DSs.cons (ckS_ok s o h1 μ1 (fun _ e => by cases e; rfl)) (ckSs_ok (.cons s2 q2) o g μ' k)
        | wipe vs q2 =>
          exact DSs.cons (ckS_ok s o h1 μ1 (fun _ e => by cases e; rfl)) (ckSs_ok (.wipe vs q2) o g μ' k)
end
end EV

/-! EvT: defs by their match; the law's end. -/
namespace EV
open PySem PySem.Spec L2
/-- a def that may be called, at a level -/
def FnAt (P : Program) (w : World) (K : PySem.W.Frag) (mg : Str → Option Value) (base : Heap) (k : Nat) (f : Fn) : Prop := ∃ (fad : Addr) (fd : FuncData) (ps : List Str) (dvs : List V) (ds : List Value), FnOk P w K mg base (L2.CX P w) k fad fd ps (spD K f.pm f.rm f.F) ∧ mg f.name = some (.ref fad) ∧ PySem.W.keepIn K (.ref fad) = true ∧ Bnd K fd ps f.pm f.dms ds f.kn ∧ Vals dvs ds ∧ ∀ B H, Ra K B H f.dds f.dms dvs []
theorem FnAt.mono {P : Program} {w : World} {K : PySem.W.Frag} {mg : Str → Option Value} {base : Heap} {j k : Nat} {f : Fn} (h : FnAt P w K mg base j f) (l : j ≤ k) : FnAt P w K mg base k f := by
  obtain ⟨a, b, c, d, e, F, r⟩ := h
  exact ⟨a, b, c, d, e, F.mono l, r⟩
theorem FnAt.good {X : Cx} {k : Nat} {f : Fn} (h : FnAt X.prog X.w X.K X.mg X.base k f) (r : Room k X.A) : FnGood X f := by
  obtain ⟨a, b, c, d, e, F, g1, g2, g3, g4, g5⟩ := h
  exact ⟨k, a, b, c, d, e, F, r, g1, g2, g3, g4, g5⟩
/-- the same def by another name of what it gives -/
theorem FnAt.imp {P : Program} {w : World} {K : PySem.W.Frag} {mg : Str → Option Value} {base : Heap} {k : Nat} {f : Fn} {G : List D → Fo} (h : FnAt P w K mg base k { f with F := G }) (i : ∀ ds, f.F ds ≠ .bad → G ds = f.F ds) : FnAt P w K mg base k f := by
  obtain ⟨a, b, c, d, e, F, g⟩ := h
  exact ⟨a, b, c, d, e, F.imp fun vs H Q E q => spD_imp i vs H Q E q, g⟩
/-- one def, as it is matched -/
structure Df where
  d : He.DefD
  N : List Str
  ps : List Str
  pm : List Mode
  rm : Mode
  io : List Bool
  ir : Sms
  bl : List Str
  fl : List (Str × Str) := []
  ex : List (Str × Str) := []
  exm : List (Str × Str × Bool) := []
  gc : List (Str × D) := []
def Df.sx (a : Df) (fs : List Sg) : Sx := { N := a.N, sc := a.d.scope, fnA := none, fs := fs, μx := μOut a.io a.pm a.N.length, bl := a.bl, fl := a.fl, ex := a.ex, exm := a.exm, gc := a.gc }
def Df.zx (a : Df) : Zx := { rm := a.rm, μr := μOut a.io a.pm a.N.length, μb := [], μc := [], io := a.io }
def Df.ck (a : Df) (fs : List Sg) : Bool := decide (a.pm.length = a.ps.length) && (decide (a.io.length = a.pm.length) && (decide (a.pm.length ≤ a.N.length) && (match ckSs (a.sx fs) a.zx a.ir a.d.body (μIn a.N.length a.pm) with
  | some r => okM r (μOut a.io a.pm a.N.length)
  | none => false)))
def Df.run (a : Df) (fs : List Fn) : List D → Fo := runF a.N.length a.io (exs fs a.ir)
theorem pin_no : ∀ {io : List Bool} {vs : List V} {i : Nat}, io.getD i false = false → noPin (pinOf io vs) i
  | [], _, i, _ => fun v e => by cases e
  | b :: io, [], i, _ => fun v e => by cases e
  | b :: io, v :: vs, 0, h => fun u e => by
    have h' : b = false := h
    subst h'
    cases e
  | b :: io, v :: vs, i + 1, h => fun u e => pin_no (io := io) (vs := vs) (i := i) h u e
theorem weakL_U : ∀ l : List Mode, weakL (l.map fun _ => Mode.U) l = true
  | [] => rfl
  | m :: l => by
    show (weakM .U m && weakL (l.map fun _ => Mode.U) l) = true
    rw [weakL_U l, Bool.and_true]
    cases m <;> rfl
/-- what a def leans on: names, classes -/
structure Fx (P : Program) (w : World) (K : PySem.W.Frag) (mg : Str → Option Value) (base : Heap) (k : Nat) (a : Df) : Prop where
  bl : ∀ x ∈ a.bl, mg x = none
  fl : ∀ c n, (c, n) ∈ a.fl → Cls K (He.ga K c) ∧ NoAttr K (He.ga K c) n
  ex : ∀ c wd, (c, wd) ∈ a.ex → mg c = some (.ref (He.ga K c)) ∧ OexC K (He.ga K c) ∧ iniB K (He.ga K c) = true ∧ PySem.W.findIn K (.ref (He.ga K c)) "word" = some none ∧ ∃ (j : Nat) (fd : FuncData), j + 1 ≤ k ∧ FnOk P w K mg base (L2.CX P w) j (He.ma K (He.ga K c) "__init__") fd ["self"] (spBad K wd) ∧ Binds K fd ["self"] []
  exm : ∀ x c b, (x, c, b) ∈ a.exm → PySem.W.exmOne K (.ref (He.ga K x)) (.ref (He.ga K c)) = some b ∧ mg c = some (.ref (He.ga K c))
  gc : ∀ x d, (x, d) ∈ a.gc → GC K mg x d
theorem Df.body {P : Program} {w : World} {K : PySem.W.Frag} {mg : Str → Option Value} {base : Heap} {a : Df} {fs : List Fn} {f : Addr} {k : Nat} {r : Om} (sc : FnScope a.N a.ps a.d.scope) (hfs : ∀ g ∈ fs, FnAt P w K mg base k g) (hx : Fx P w K mg base k a)
    (hr : ckSs (a.sx (fs.map Fn.sg)) a.zx a.ir a.d.body (μIn a.N.length a.pm) = some r) (μ' : List Mode) (e : ∀ μ1, r = some μ1 → μ1 = μ') (cdv : Value) (A : Around) (outer : List Env) (s : Shared) (H : Hp) (E : XK) (vs : List V) (room : Room k (A.deeper (PyProof.Rows.envOfC a.d.qual a.d.scope s.heap.objs.size f cdv))) :
    DSs (cxOf (L2.CX P w) P w K mg base a.N a.d.qual a.d.scope f cdv A outer s H E) ⟨⟨fun cls d _ H => E cls d H, μOut a.io a.pm a.N.length⟩, a.rm, μOut a.io a.pm a.N.length, [], [], pinOf a.io vs⟩ (μIn a.N.length a.pm) a.d.body (exs fs a.ir) μ' := by
  have hu : (A.deeper (PyProof.Rows.envOfC a.d.qual a.d.scope s.heap.objs.size f cdv)).units + 65 < cLine := by
    have := room.un
    omega
  have exz : ∀ c wd, (c, wd) ∈ a.ex → ExZ (cxOf (L2.CX P w) P w K mg base a.N a.d.qual a.d.scope f cdv A outer s H E) c wd := fun c wd h => by
    obtain ⟨e1, e2, e3, e4, j, fd, e5, e6, e7⟩ := hx.ex c wd h
    exact ⟨e1, e2, e3, e4, j, fd, e6, room.mono e5, e7⟩
  have o : XOk (a.sx (fs.map Fn.sg)) fs (cxOf (L2.CX P w) P w K mg base a.N a.d.qual a.d.scope f cdv A outer s H E) ⟨fun cls d _ H => E cls d H, μOut a.io a.pm a.N.length⟩ :=
    { sg := rfl, n := rfl, nd := sc.nd, sc := rfl, fnl := fun x _ => .inl rfl, calm := fun _ => rfl, room := hu, fs := fun g hg => FnAt.good (X := cxOf (L2.CX P w) P w K mg base a.N a.d.qual a.d.scope f cdv A outer s H E) (hfs g hg) room, bl := hx.bl, tk := takes_of rfl rfl rfl rfl, mx := rfl, fl := hx.fl, exm := hx.exm, gc := hx.gc, ex := fun c wd h => exz c wd h }
  exact ckSs_ok a.ir (S := a.sx (fs.map Fn.sg)) (fs := fs) (Y := a.zx) ⟨o, rfl, rfl, rfl, rfl, fun i hi => pin_no hi, fun _ => passes_of rfl, rfl, rfl, sc.kind⟩ hr μ' e
theorem Df.ok {P : Program} {w : World} {K : PySem.W.Frag} {mg : Str → Option Value} {base : Heap} {a : Df} {fs : List Fn} {fd : FuncData} {f : Addr} {k : Nat} {dvs : List V} {kws : List (Str × V)} (F : FunD K a.d.name a.d.qual a.d.params a.d.body a.d.scope dvs kws f fd) (sc : FnScope a.N a.ps a.d.scope) (ck : a.ck (fs.map Fn.sg) = true)
    (hfs : ∀ g ∈ fs, FnAt P w K mg base k g) (hx : Fx P w K mg base k a) :
    FnOk P w K mg base (L2.CX P w) (k + 1) f fd a.ps (spD K a.pm a.rm (a.run fs)) := by
  unfold Df.ck at ck
  rw [Bool.and_eq_true, Bool.and_eq_true, Bool.and_eq_true] at ck
  obtain ⟨c1, c2, c3, c4⟩ := ck
  split at c4
  · rename_i r hr
    cases r with
    | some μ => exact fn_rule (μe := μ) F sc (of_decide_eq_true c1) (of_decide_eq_true c2) (of_decide_eq_true c3) c4 fun cdv A outer s H E vs room => Df.body sc hfs hx hr μ (fun _ e => by cases e; rfl) cdv A outer s H E vs room
    | none => exact fn_rule (μe := (μOut a.io a.pm a.N.length).map fun _ => .U) F sc (of_decide_eq_true c1) (of_decide_eq_true c2) (of_decide_eq_true c3) (weakL_U _) fun cdv A outer s H E vs room => Df.body sc hfs hx hr _ (fun _ e => nomatch e) cdv A outer s H E vs room
  · cases c4
/-- the same, ready to be called by its name; F: what is said of what it gives -/
theorem Df.at {P : Program} {w : World} {K : PySem.W.Frag} {mg : Str → Option Value} {base : Heap} {a : Df} {fs : List Fn} {fd : FuncData} {f : Addr} {k : Nat} {F : List D → Fo} {kws : List (Str × V)} (hF : FunD K a.d.name a.d.qual a.d.params a.d.body a.d.scope [] kws f fd) (hg : mg a.d.name = some (.ref f)) (sc : FnScope a.N a.ps a.d.scope) (ck : a.ck (fs.map Fn.sg) = true)
    (hb : ∀ (kV doc pm : Value) (an : Option Addr) (cdv ct : Value) (us : List Value), us.length = a.ps.length → bindArgs (PySem.W.fnOf a.d.name a.d.qual a.d.params a.d.body a.d.scope .none kV doc pm an cdv ct) ⟨us, []⟩ = pure (a.ps.zip us))
    (hfs : ∀ g ∈ fs, FnAt P w K mg base k g) (hx : Fx P w K mg base k a) (i : ∀ ds, F ds ≠ .bad → a.run fs ds = F ds) : FnAt P w K mg base (k + 1) ⟨a.d.name, a.pm, a.rm, F, [], [], []⟩ :=
  ⟨f, fd, a.ps, [], [], (Df.ok hF sc ck hfs hx).imp fun vs H Q E q => spD_imp i vs H Q E q, hg, hF.kp, hF.bindsN hb, .nil, fun B H => ⟨rfl, rfl⟩⟩
/-- a def with keyword-only defaults, as one of its calls sees it -/
theorem Df.atG {P : Program} {w : World} {K : PySem.W.Frag} {mg : Str → Option Value} {base : Heap} {a : Df} {fs : List Fn} {fd : FuncData} {f : Addr} {k : Nat} {F : List D → Fo} {kws : List (Str × V)} {dvs : List V} {ds : List Value} {dds : List D} {dms : List Mode} {kn : List Str} (hF : FunD K a.d.name a.d.qual a.d.params a.d.body a.d.scope [] kws f fd) (hg : mg a.d.name = some (.ref f)) (sc : FnScope a.N a.ps a.d.scope) (ck : a.ck (fs.map Fn.sg) = true)
    (hb : Bnd K fd a.ps a.pm dms ds kn) (hd : Vals dvs ds) (hr : ∀ B H, Ra K B H dds dms dvs []) (hfs : ∀ g ∈ fs, FnAt P w K mg base k g) (hx : Fx P w K mg base k a) (i : ∀ ds, F ds ≠ .bad → a.run fs ds = F ds) : FnAt P w K mg base (k + 1) ⟨a.d.name, a.pm, a.rm, F, dds, dms, kn⟩ :=
  ⟨f, fd, a.ps, dvs, ds, (Df.ok hF sc ck hfs hx).imp fun vs H Q E q => spD_imp i vs H Q E q, hg, hF.kp, hb, hd, hr⟩
/-- the law's def: what its promise gives the judge -/
theorem law_sp {K : PySem.W.Frag} {F : List D → Fo} {ns : List Int} {io : List (Option D)} (h : F [.lst (ns.map D.int)] = .ok (.bl true) io) (hl : ns.length ≤ sizeLine) (H : Hp) (a : Addr) (hS : SqL K H a (ns.map V.int)) : spD K [.F] .Z F [.ref a] H (fun v _ => v = .bl true) fun _ _ _ => False := by
  have rl : ∀ ns : List Int, Rl K H H (ns.map D.int) .F (ns.map V.int) [] := fun ns => by
    induction ns with
    | nil => exact ⟨rfl, rfl⟩
    | cons n ns ih => exact ⟨.int n, ns.map V.int, [], [], rfl, ⟨rfl, rfl⟩, ih, rfl⟩
  refine ⟨H, [.lst (ns.map D.int)], [], Same.refl _, ⟨.ref a, [], [], [], rfl, ⟨rfl, a, ns.map V.int, rfl, hS, by rw [List.length_map]; exact hl, rl ns⟩, ⟨rfl, rfl⟩, rfl⟩, List.nodup_nil, ?_⟩
  rw [h]
  intro B' H' v fpv fp' _ _ r _ _
  exact r.1
theorem hot_no {P : Program} {w : World} (H : Hp) (s : Shared) (e : Value) (s' : Shared) (z : L2.CX P w [] H s (fun _ _ _ => False) e s') : False := by
  obtain ⟨_, _, _, _, _, _, _, _, _, _, _, _, z⟩ := z
  exact z
end EV

/-! EvT2: constants of the module as facts of the head. -/
namespace EV
open PySem PySem.Spec L2
theorem gc_int {K : PySem.W.Frag} {h : Heap} {mg : Str → Option Value} {x : Str} {i : Int} (X : K.In h) (G : h.Ns mainGlobals mg) (c : (He.Fa.int x i).ok K = true) : GC K mg x (.int i) := by
  obtain ⟨t, e⟩ := He.int_ok X G c
  exact ⟨_, .int i, e, ⟨_, rfl⟩, fun B H => ⟨rfl, rfl⟩⟩
theorem gc_str {K : PySem.W.Frag} {h : Heap} {mg : Str → Option Value} {x z : Str} (X : K.In h) (G : h.Ns mainGlobals mg) (c : (He.Fa.str x z).ok K = true) : GC K mg x (.str z) := by
  obtain ⟨t, e⟩ := He.str_ok X G c
  exact ⟨_, .str z, e, ⟨_, rfl⟩, fun B H => ⟨rfl, rfl⟩⟩
/-- a flat value of the written part -/
def dvD : He.Dv → D
  | .bl b => .bl b
  | .int i => .int i
  | .str x => .str x
  | _ => .non
def dvF : He.Dv → Bool
  | .non => true
  | .bl _ => true
  | .int _ => true
  | .str _ => true
  | _ => false
theorem dv_rl {K : PySem.W.Frag} {B H : Hp} : ∀ {vs : List He.Dv}, vs.all dvF = true → Rl K B H (vs.map dvD) .F (vs.map (He.Dv.v K)) []
  | [], _ => ⟨rfl, rfl⟩
  | v :: vs, h => by
    rw [List.all_cons, Bool.and_eq_true] at h
    refine ⟨v.v K, vs.map (He.Dv.v K), [], [], rfl, ?_, dv_rl h.2, rfl⟩
    cases v <;> first | exact ⟨rfl, rfl⟩ | cases h.1
theorem gc_tup {K : PySem.W.Frag} {h : Heap} {mg : Str → Option Value} {x : Str} {vs : List He.Dv} (g : mg x = some (.ref (He.ga K x))) (c : He.tupB K x vs = true) (hf : vs.all dvF = true) (hl : vs.length ≤ 1000) : GC K mg x (.tup (vs.map dvD)) :=
  ⟨_, .ref (He.ga K x), g, rfl, fun B H => ⟨rfl, He.ga K x, vs.map (He.Dv.v K), rfl, He.tupB_ok c B, by rw [List.length_map]; exact Nat.le_trans hl (by decide), dv_rl hf⟩⟩
end EV

/-! EvU: the law's bag and its pull. -/
namespace EV
open PySem PySem.Spec L2
structure Bag where
  cs : List Int
  p : Int
  q : Int
def Bag.d (b : Bag) : D := .lst [.lst (b.cs.map .int), .int b.p, .int b.q]
def bagOf : D → Option Bag
  | .lst [.lst cs, .int p, .int q] => (intsOf cs).map fun cs => ⟨cs, p, q⟩
  | _ => none
theorem bagOf_d (b : Bag) : bagOf b.d = some b := by
  show (intsOf (b.cs.map D.int)).map _ = _
  rw [intsOf_map]; rfl
def Bag.good (b : Bag) : Prop := 0 < b.cs.length ∧ b.cs.length ≤ 64 ∧ 0 ≤ b.q ∧ b.q < 2147483629
instance (b : Bag) : Decidable b.good := by unfold Bag.good; infer_instance
def Bag.at_ (b : Bag) : Nat := (b.p % b.cs.length).toNat
def Bag.cell (b : Bag) : Int := b.cs.getD b.at_ 0
def Bag.nq (b : Bag) : Int := (b.q + b.cell % 2147483629 + 77) * 48271 % 2147483629
def pullB (b : Bag) (lot : Int) : Int × Bag := if (10 : Int) ^ 18 ≤ b.cell then (b.cell % lot, ⟨b.cs.set b.at_ (b.cell / lot), b.p, b.q⟩) else (b.nq / 64 % lot, ⟨b.cs, b.p + 1, b.nq⟩)
def pullF : List D → Fo
  | [bd, .int lot] => match bagOf bd with
    | some b => if b.good ∧ 0 < lot ∧ lot < 2 ^ 64 then .ok (.int (pullB b lot).1) [some (pullB b lot).2.d, none] else .bad
    | none => .bad
  | _ => .bad
theorem pullB_good {b : Bag} {lot : Int} (h : b.good) : (pullB b lot).2.good := by
  unfold pullB
  obtain ⟨h1, h2, h3, h4⟩ := h
  split
  · exact ⟨by rw [List.length_set]; exact h1, by rw [List.length_set]; exact h2, h3, h4⟩
  · refine ⟨h1, h2, ?_, ?_⟩
    · exact Int.emod_nonneg _ (by decide)
    · exact Int.emod_lt_of_pos _ (by decide)
theorem pullB_lt {b : Bag} {lot : Int} (h : 0 < lot) : 0 ≤ (pullB b lot).1 ∧ (pullB b lot).1 < lot := by
  unfold pullB
  split
  · exact ⟨Int.emod_nonneg _ (by omega), Int.emod_lt_of_pos _ h⟩
  · exact ⟨Int.emod_nonneg _ (by omega), Int.emod_lt_of_pos _ h⟩
theorem pullF_ok {b : Bag} {lot : Int} (h : b.good) (h1 : 0 < lot) (h2 : lot < 2 ^ 64) : pullF [b.d, .int lot] = .ok (.int (pullB b lot).1) [some (pullB b lot).2.d, none] := by
  unfold pullF
  dsimp only
  rw [bagOf_d]
  exact if_pos ⟨h, h1, h2⟩
def pullFn : Fn := ⟨"_law_pull", [.O (.O .Z), .Z], .Z, pullF, [], [], []⟩
/-! ### the walk -/
abbrev rModP : R2 := rI (fun _ j => 0 < j) fun i j => .int (i % j)
def rLenS (K : PySem.W.Frag) : List V → Hp → VK → Prop := fun xs H Q => ∃ p ys, xs = [.ref p] ∧ (SqL K H p ys ∨ SqT K H p ys) ∧ Q (.int ys.length) H
def t_pull (K : PySem.W.Frag) : TS :=
  tSeq (tAsg (tOp (rIx K) (tVar 0) (tC (.int 0))) (gName 2)) <|
  tSeq (tAsg (tOp rModP (tOp (rIx K) (tVar 0) (tC (.int 1))) (tCB (rLenS K) (tCons (tVar 2) tNil))) (gName 3)) <|
  tSeq (tAsg (tOp (rIx K) (tVar 2) (tVar 3)) (gName 4)) <|
  tSeq (tIfS (tTest (tOp (rI0 fun i j => .bl (decide (j ≤ i))) (tVar 4) (tOp (rI CPow fun i j => .int (i ^ j.toNat)) (tC (.int 10)) (tC (.int 18)))))
    (tSeq (tAsg (tOp (rI CDivW fun i j => .int (i / j)) (tVar 4) (tVar 1)) (gSub (tVar 2) (tVar 3) rSetL)) (tRet (tOp rModP (tVar 4) (tVar 1)))) tNext) <|
  tSeq (tAsg (tOp (rI0 fun i j => .int (i + j)) (tOp (rIx K) (tVar 0) (tC (.int 1))) (tC (.int 1))) (gSub (tVar 0) (tC (.int 1)) rSetL)) <|
  tSeq (tAsg (tOp rModP (tOp (rI CMulW fun i j => .int (i * j)) (tOp (rI0 fun i j => .int (i + j)) (tOp (rI0 fun i j => .int (i + j)) (tOp (rIx K) (tVar 0) (tC (.int 2))) (tOp rModP (tVar 4) (tC (.int 2147483629)))) (tC (.int 77))) (tC (.int 48271))) (tC (.int 2147483629))) (gSub (tVar 0) (tC (.int 2)) rSetL)) <|
  tRet (tOp rModP (tOp (rI CDivW fun i j => .int (i / j)) (tOp (rIx K) (tVar 0) (tC (.int 2))) (tC (.int 64))) (tVar 1))
theorem ints_Rl {K : PySem.W.Frag} {B H : Hp} {m : Mode} : ∀ ns : List Int, Rl K B H (ns.map D.int) m (ns.map V.int) []
  | [] => ⟨rfl, rfl⟩
  | n :: ns => ⟨.int n, ns.map V.int, [], [], rfl, ⟨rfl, rfl⟩, ints_Rl ns, rfl⟩
theorem intsOf_eq : ∀ {ds : List D} {ns : List Int}, intsOf ds = some ns → ds = ns.map D.int
  | [], ns, h => by cases h; rfl
  | .int i :: ds, ns, h => by
    have h' : (intsOf ds).map (i :: ·) = some ns := h
    cases q : intsOf ds with
    | none => rw [q] at h'; cases h'
    | some ms => rw [q] at h'; cases h'; rw [intsOf_eq q]; rfl
  | .non :: _, _, h => by cases h
  | .bl _ :: _, _, h => by cases h
  | .str _ :: _, _, h => by cases h
  | .lst _ :: _, _, h => by cases h
  | .tup _ :: _, _, h => by cases h
  | .dct _ _ :: _, _, h => by cases h
  | .obj _ _ _ :: _, _, h => by cases h
theorem bagOf_some {d : D} {b : Bag} (h : bagOf d = some b) : d = b.d := by
  unfold bagOf at h
  split at h
  · rename_i cs p q
    cases e : intsOf cs with
    | none => rw [e] at h; cases h
    | some ns =>
      rw [e] at h
      cases h
      rw [intsOf_eq e]; rfl
  · cases h
/-- the bag as it lies -/
theorem bag_R {K : PySem.W.Frag} {B H : Hp} {b : Bag} {v : V} {fp : List Addr} (r : R K B H b.d (.O (.O .Z)) v fp) : ∃ a c, v = .ref a ∧ fp = [a, c] ∧ B a = none ∧ B c = none ∧ H a = some (.lst [.ref c, .int b.p, .int b.q]) ∧ H c = some (.lst (b.cs.map V.int)) := by
  obtain ⟨a, vs, fq, rfl, b0, ha, _, hr, rfl⟩ := r
  obtain ⟨v1, r1, f1, f2, rfl, h1, hr, rfl⟩ := hr
  obtain ⟨c, ws, fr, rfl, c0, hc, _, hw, rfl⟩ := h1
  obtain ⟨v2, r2, f3, f4, rfl, ⟨rfl, rfl⟩, hr, rfl⟩ := hr
  obtain ⟨v3, r3, f5, f6, rfl, ⟨rfl, rfl⟩, ⟨rfl, rfl⟩, rfl⟩ := hr
  have e := intsOf_rel (intsOf_map b.cs) hw
  have z := hw.flatZ (by simp [isFlat])
  have ez : fr = [] := by
    have : ∀ {ds : List D} {vs : List V} {fp : List Addr}, Rl K B H ds .Z vs fp → fp = [] := fun {ds} => by
      induction ds with
      | nil => intro vs fp h; exact h.2
      | cons d ds ih =>
        intro vs fp h
        obtain ⟨v, r, g1, g2, rfl, k1, k2, rfl⟩ := h
        rw [k1.fpZ, ih k2]; rfl
    exact this z
  subst ez; subst e
  exact ⟨a, c, rfl, rfl, b0, c0, ha, hc⟩
theorem R_bag {K : PySem.W.Frag} {B H : Hp} {b : Bag} {a c : Addr} (hl : b.cs.length ≤ 64) (ba : B a = none) (bc : B c = none) (ha : H a = some (.lst [.ref c, .int b.p, .int b.q])) (hc : H c = some (.lst (b.cs.map V.int))) : R K B H b.d (.O (.O .Z)) (.ref a) [a, c] :=
  ⟨a, _, [c], rfl, ba, ha, (by show 3 ≤ sizeLine; decide), ⟨.ref c, _, [c], [], rfl, ⟨c, _, [], rfl, bc, hc, by rw [List.length_map]; exact Nat.le_trans hl (by decide), ints_Rl _, rfl⟩, ⟨.int b.p, _, [], [], rfl, ⟨rfl, rfl⟩, ⟨.int b.q, _, [], [], rfl, ⟨rfl, rfl⟩, ⟨rfl, rfl⟩, rfl⟩, rfl⟩, rfl⟩, rfl⟩
theorem pull_pure {K : PySem.W.Frag} (vs : List V) (H : Hp) (Q : VK) (E : XK) (h : spD K [.O (.O .Z), .Z] .Z pullF vs H Q E) : t_pull K { nx := fun _ H' => Q .non H', rt := Q } (start ["_law_bag_here", "_law_lot", "_law_cells", "_law_at", "_law_cell"] vs) H := by
  obtain ⟨B, ds, fp, sm, ra, nd, q⟩ := h
  rcases ds with _ | ⟨bd, _ | ⟨ld, _ | ⟨_, _⟩⟩⟩
  · exact q.elim
  · exact q.elim
  case cons.cons.cons =>
    obtain ⟨_, _, _, _, _, _, ⟨_, _, _, _, _, _, z, _⟩, _⟩ := ra
    exact z.elim
  cases ld with
  | int lot =>
    have q1 : match (match bagOf bd with
      | some b => if b.good ∧ 0 < lot ∧ lot < 2 ^ 64 then Fo.ok (.int (pullB b lot).1) [some (pullB b lot).2.d, none] else .bad
      | none => .bad) with
      | .ok d io => ∀ B' H' v fpv fp', Stp B H fp B' H' (fpv ++ fp') → Same B' H' → R K B' H' d .Z v fpv → Ro K B' H' io [.O (.O .Z), .Z] vs fp' → (fpv ++ fp').Nodup → Q v H'
      | .exc x io => ∀ B' H' fpe fp' cls dd, Stp B H fp B' H' (fpe ++ fp') → Same B' H' → ExcR K B' H' x cls dd fpe → Ro K B' H' io [.O (.O .Z), .Z] vs fp' → (fpe ++ fp').Nodup → E cls dd H'
      | .bad => False := q
    cases eb : bagOf bd with
    | none => rw [eb] at q1; exact q1.elim
    | some b =>
      rw [eb] at q1
      dsimp only at q1
      by_cases hg : b.good ∧ 0 < lot ∧ lot < 2 ^ 64
      case neg => rw [if_neg hg] at q1; exact q1.elim
      rw [if_pos hg] at q1
      obtain ⟨⟨g1, g2, g3, g4⟩, l1, l2⟩ := hg
      have e1 := bagOf_some eb
      subst e1
      obtain ⟨bv, r1, f1, f2, rfl, rb, ⟨lv, r2, f3, f4, rfl, ⟨rfl, rfl⟩, ⟨rfl, rfl⟩, rfl⟩, rfl⟩ := ra
      obtain ⟨a, c, rfl, rfl, b0, c0, ha, hc⟩ := bag_R rb
      have hac : a ≠ c := fun e => by
        subst e
        have := (List.nodup_cons.mp nd).1
        simp at this
      have at0 : 0 ≤ b.p % (b.cs.length : Int) := Int.emod_nonneg _ (by omega)
      have at1 : b.p % (b.cs.length : Int) < b.cs.length := Int.emod_lt_of_pos _ (by omega)
      have atn : ((b.at_ : Nat) : Int) = b.p % (b.cs.length : Int) := Int.toNat_of_nonneg at0
      have atl : b.at_ < b.cs.length := by omega
      have cellE : b.cs[b.at_]? = some b.cell := by
        unfold Bag.cell
        rw [List.getD_eq_getElem?_getD, List.getElem?_eq_getElem atl]; rfl
      have cellV : atI (b.cs.map V.int) (b.p % (b.cs.length : Int)) = some (.int b.cell) := by
        rw [← atn]
        exact atI_nat (by rw [List.getElem?_map, cellE]; rfl)
      -- the end of each way
      have fin : ∀ (nb : Bag) (H' : Hp), pullB b lot = ((pullB b lot).1, nb) → nb.cs.length ≤ 64 → H' a = some (.lst [.ref c, .int nb.p, .int nb.q]) → H' c = some (.lst (nb.cs.map V.int)) → (∀ x, x ≠ a → x ≠ c → H' x = H x) → Q (.int (pullB b lot).1) H' := fun nb H' en hl h1 h2 h3 => by
        have e2 : (pullB b lot).2 = nb := by rw [en]
        rw [e2] at q1
        refine q1 B H' (.int (pullB b lot).1) [] [a, c] ⟨Same.refl _, fun x o n e => ?_, fun x h => .inl ?_, fun x o e => .inl e⟩ (fun x o e => ?_) ⟨rfl, rfl⟩ ⟨.ref a, [.int lot], [a, c], [], rfl, .inr ⟨.ref a, rfl, R_bag hl b0 c0 h1 h2⟩, ⟨.int lot, [], [], [], rfl, rfl, ⟨rfl, rfl⟩, rfl⟩, rfl⟩ (by simpa using nd)
        · have n' : x ≠ a ∧ x ≠ c := by simpa using n
          rw [h3 x n'.1 n'.2]; exact e
        · simpa using h
        · have hx : x ≠ a ∧ x ≠ c := ⟨(fun z => by rw [z, b0] at e; cases e), (fun z => by rw [z, c0] at e; cases e)⟩
          rw [h3 x hx.1 hx.2]; exact sm x o e
      have lg : lot.natAbs.log2 < 9000 := Nat.lt_trans ((Nat.log2_lt (by omega)).mpr (show lot.natAbs < 2 ^ 64 by omega)) (by decide : 64 < 9000)
      have hlen : ((b.cs.map V.int).length : Int) = (b.cs.length : Int) := by rw [List.length_map]
      refine ⟨_, rfl, .inl ⟨a, _, 0, .ref c, rfl, rfl, SqL.of ha, rfl, ?_⟩⟩
      refine ⟨_, rfl, .inl ⟨a, _, 1, .int b.p, rfl, rfl, SqL.of ha, rfl, ?_⟩⟩
      refine ⟨_, rfl, c, b.cs.map V.int, rfl, .inl (SqL.of hc), b.p, _, rfl, rfl, (by rw [hlen]; omega), ?_⟩
      rw [hlen]
      refine ⟨_, rfl, _, rfl, .inl ⟨c, _, b.p % (b.cs.length : Int), .int b.cell, rfl, rfl, SqL.of hc, cellV, ?_⟩⟩
      refine ⟨_, rfl, 10, 18, rfl, rfl, ⟨by decide, by decide, by decide⟩, b.cell, _, rfl, rfl, _, rfl, ?_⟩
      have ten : (10 : Int) ^ (18 : Int).toNat = 10 ^ 18 := rfl
      rw [ten]
      by_cases hb : (10 : Int) ^ 18 ≤ b.cell
      · show (if decide ((10 : Int) ^ 18 ≤ b.cell) = true then _ else _)
        rw [if_pos (decide_eq_true hb)]
        refine ⟨_, rfl, _, rfl, b.cell, lot, rfl, rfl, ⟨l1, lg⟩, ?_⟩
        refine ⟨_, rfl, _, rfl, c, _, b.p % (b.cs.length : Int), b.at_, rfl, rfl, hc, ?_, ?_⟩
        · rw [← atn, List.length_map]
          show ixN b.cs.length ((b.at_ : Nat) : Int) = some b.at_
          unfold ixN
          rw [if_pos (by omega), if_pos (by omega)]; rfl
        refine ⟨_, rfl, _, rfl, b.cell, lot, rfl, rfl, l1, ?_⟩
        have e2 : pullB b lot = (b.cell % lot, ⟨b.cs.set b.at_ (b.cell / lot), b.p, b.q⟩) := if_pos hb
        have f2 := fin ⟨b.cs.set b.at_ (b.cell / lot), b.p, b.q⟩ (upd H c (.lst ((b.cs.map V.int).set b.at_ (.int (b.cell / lot))))) (by rw [e2]) (by rw [List.length_set]; exact g2) (by rw [upd_ne hac]; exact ha) (by rw [upd_same, List.map_set]) (fun x h1 h2 => upd_ne h2)
        rw [e2] at f2
        exact f2
      · show (if decide ((10 : Int) ^ 18 ≤ b.cell) = true then _ else _)
        rw [if_neg (by simpa using hb)]
        refine ⟨_, rfl, .inl ⟨a, _, 1, .int b.p, rfl, rfl, SqL.of ha, rfl, ?_⟩⟩
        refine ⟨b.p, 1, rfl, rfl, ?_⟩
        refine ⟨_, rfl, a, _, 1, 1, rfl, rfl, ha, rfl, ?_⟩
        have ha1 : upd H a (.lst ([V.ref c, .int b.p, .int b.q].set 1 (.int (b.p + 1)))) a = some (.lst [V.ref c, .int (b.p + 1), .int b.q]) := upd_same
        refine ⟨_, rfl, .inl ⟨a, _, 2, .int b.q, rfl, rfl, SqL.of ha1, rfl, ?_⟩⟩
        refine ⟨_, rfl, b.cell, 2147483629, rfl, rfl, (by show (0 : Int) < 2147483629; decide), b.q, _, rfl, rfl, _, 77, rfl, rfl, _, 48271, rfl, rfl, ?_, ?_⟩
        · have h1 : 0 ≤ b.cell % 2147483629 := Int.emod_nonneg _ (by decide)
          have h2 : b.cell % 2147483629 < 2147483629 := Int.emod_lt_of_pos _ (by decide)
          exact wide_mul (a := 40) (b := 40) (by omega) (by decide) (by decide) (by decide) (by decide)
        refine ⟨_, 2147483629, rfl, rfl, (by show (0 : Int) < 2147483629; decide), ?_⟩
        refine ⟨_, rfl, a, _, 2, 2, rfl, rfl, ha1, rfl, ?_⟩
        have ha2 : upd (upd H a (.lst ([V.ref c, .int b.p, .int b.q].set 1 (.int (b.p + 1))))) a (.lst ([V.ref c, .int (b.p + 1), .int b.q].set 2 (.int b.nq))) a = some (.lst [V.ref c, .int (b.p + 1), .int b.nq]) := upd_same
        refine ⟨_, rfl, .inl ⟨a, _, 2, .int b.nq, rfl, rfl, SqL.of ha2, rfl, ?_⟩⟩
        refine ⟨_, 64, rfl, rfl, ⟨by decide, by decide⟩, ?_⟩
        refine ⟨_, rfl, _, lot, rfl, rfl, l1, ?_⟩
        have e2 : pullB b lot = (b.nq / 64 % lot, ⟨b.cs, b.p + 1, b.nq⟩) := if_neg hb
        have f2 := fin ⟨b.cs, b.p + 1, b.nq⟩ (upd (upd H a (.lst ([V.ref c, .int b.p, .int b.q].set 1 (.int (b.p + 1))))) a (.lst ([V.ref c, .int (b.p + 1), .int b.q].set 2 (.int b.nq)))) (by rw [e2]) g2 ha2 (by rw [upd_ne (Ne.symm hac), upd_ne (Ne.symm hac)]; exact hc) (fun x h1 h2 => by rw [upd_ne h1, upd_ne h1])
        rw [e2] at f2
        exact f2
  | _ => exact q.elim
end EV

/-! EvV: what is walked, computed: rewriting rows; loops. -/
namespace EV
open PySem PySem.Spec L2
section
variable {fs : List Fn} {Γ Γ1 : Gam} {α β : Type}
@[simp] theorem bind_ok (a : α) (f : α → Gam → Rz β) : (Rz.ok a Γ).bind f = f a Γ := rfl
@[simp] theorem bind_exc (x : Xc) (f : α → Gam → Rz β) : (Rz.exc x Γ : Rz α).bind f = .exc x Γ := rfl
@[simp] theorem opt_ok (a : α) : Rz.opt (some a) Γ = .ok a Γ := rfl
@[simp] theorem s_ok (a : α) (f : α → Gam → Sz) : (Rz.ok a Γ).s f = f a Γ := rfl
@[simp] theorem s_exc (x : Xc) (f : α → Gam → Sz) : (Rz.exc x Γ : Rz α).s f = .exc x Γ := rfl
@[simp] theorem getG_0 (d : D) : getG (some d :: Γ) 0 = some d := rfl
@[simp] theorem getG_s (g : Option D) (i : Nat) : getG (g :: Γ) (i + 1) = getG Γ i := rfl
@[simp] theorem ev_var (i : Nat) : ev fs (.var i) Γ = Rz.opt (getG Γ i) Γ := rfl
@[simp] theorem ev_fv (i : Nat) : ev fs (.fv i) Γ = Rz.opt (getG Γ i) Γ := rfl
@[simp] theorem ev_mv (i : Nat) : ev fs (.mv i) Γ = Rz.opt (getG Γ i) (Γ.set i none) := rfl
@[simp] theorem ev_int (i : Int) : ev fs (.int i) Γ = .ok (.int i) Γ := rfl
@[simp] theorem ev_bl (i : Bool) : ev fs (.bl i) Γ = .ok (.bl i) Γ := rfl
@[simp] theorem ev_non : ev fs .non Γ = .ok .non Γ := rfl
@[simp] theorem ev_str (i : Str) : ev fs (.str i) Γ = .ok (.str i) Γ := rfl
@[simp] theorem ev_neg (a : Ex) : ev fs (.neg a) Γ = (ev fs a Γ).bind fun x Γ1 => Rz.opt (negI x) Γ1 := rfl
@[simp] theorem ev_bin (o : B2) (a b : Ex) : ev fs (.bin o a b) Γ = (ev fs a Γ).bind fun x Γ1 => (ev fs b Γ1).bind fun y Γ2 => Rz.opt (o.op x y) Γ2 := rfl
@[simp] theorem ev_cmp (o : C2) (a b : Ex) : ev fs (.cmp o a b) Γ = (ev fs a Γ).bind fun x Γ1 => (ev fs b Γ1).bind fun y Γ2 => Rz.opt (o.op x y) Γ2 := rfl
@[simp] theorem ev_ix (a b : Ex) : ev fs (.ix a b) Γ = (ev fs a Γ).bind fun x Γ1 => (ev fs b Γ1).bind fun y Γ2 => Rz.opt (ixO x y) Γ2 := rfl
@[simp] theorem ev_and (a b : Ex) : ev fs (.andV a b) Γ = eAndV (ev fs a) (ev fs b) Γ := rfl
@[simp] theorem ev_or (a b : Ex) : ev fs (.orV a b) Γ = eOrV (ev fs a) (ev fs b) Γ := rfl
@[simp] theorem ev_not (a : Ex) : ev fs (.notV a) Γ = eNotV (ev fs a) Γ := rfl
@[simp] theorem ev_if (t : Tx) (a b : Ex) : ev fs (.ifE t a b) Γ = (evT fs t Γ).bind fun c Γ1 => if c = true then ev fs a Γ1 else ev fs b Γ1 := rfl
@[simp] theorem ev_tup (m : Mode) (as : Ar) : ev fs (.tup m as) Γ = (evA fs as Γ).bind fun xs Γ1 => .ok (.tup xs) Γ1 := rfl
@[simp] theorem ev_lst (m : Mode) (as : Ar) : ev fs (.lst m as) Γ = (evA fs as Γ).bind fun xs Γ1 => .ok (.lst xs) Γ1 := rfl
@[simp] theorem ev_call (g : Nat) (as : Ar) : ev fs (.call g as) Γ = eCall (fs.getD g default).F (evIos as) (fs.getD g default).dds (evA fs as) Γ := rfl
@[simp] theorem ev_blt (o : BN) (as : Ar) : ev fs (.blt o as) Γ = (evA fs as Γ).bind fun xs Γ1 => Rz.opt (o.op xs) Γ1 := rfl
@[simp] theorem ev_lc (own : List Nat) (it : Ix) (t : Tg) (c : Cx1) (e : Ex) : ev fs (.lc own it t c e) Γ = eLc (evI fs it) (evG t) (evC fs c) (ev fs e) own Γ := rfl
@[simp] theorem ev_isi (Cs : List String) (a : Ex) : ev fs (.isi Cs a) Γ = (ev fs a Γ).bind fun x Γ1 => Rz.opt (isiD Cs x) Γ1 := rfl
@[simp] theorem ev_app (i : Nat) (a : Ex) : ev fs (.app i a) Γ = eApp i (ev fs a) Γ := rfl
@[simp] theorem ev_popAt (i : Nat) (a : Ex) : ev fs (.popAt i a) Γ = ePopAt i (ev fs a) Γ := rfl
@[simp] theorem ev_frz (a : Ex) : ev fs (.frz a) Γ = ev fs a Γ := rfl
@[simp] theorem ev_sub (m : Mode) (a : Ex) : ev fs (.sub m a) Γ = ev fs a Γ := rfl
@[simp] theorem ev_flat (a : Ex) : ev fs (.flat a) Γ = (ev fs a Γ).bind fun x Γ1 => Rz.opt (if isFlat x = true then some x else none) Γ1 := rfl
@[simp] theorem ev_flats (a : Ex) : ev fs (.flats a) Γ = (ev fs a Γ).bind fun x Γ1 => Rz.opt (if flatParts x = true then some x else none) Γ1 := rfl
@[simp] theorem ev_bor (M : List Bool) (a : Ex) : ev fs (.bor M a) Γ = eBor M (ev fs a) Γ := rfl
@[simp] theorem ev_sl (k : Bool) (a : Ex) (lo hi : Option Px) : ev fs (.sl k a lo hi) Γ = eSl (if k = true then sliceL else sliceT) (ev fs a) (lo.map evPx) (hi.map evPx) Γ := rfl
@[simp] theorem evA_nil : evA fs .nil Γ = .ok [] Γ := rfl
@[simp] theorem evA_e (a : Ex) (r : Ar) : evA fs (.e a r) Γ = (ev fs a Γ).bind fun x Γ1 => (evA fs r Γ1).bind fun xs Γ2 => .ok (x :: xs) Γ2 := rfl
@[simp] theorem evA_io (i : Nat) (r : Ar) : evA fs (.io i r) Γ = (Rz.opt (getG Γ i) (Γ.set i none)).bind fun x Γ1 => (evA fs r Γ1).bind fun xs Γ2 => .ok (x :: xs) Γ2 := rfl
@[simp] theorem evIos_nil' : evIos .nil = [] := rfl
@[simp] theorem evIos_e (a : Ex) (r : Ar) : evIos (.e a r) = shift (evIos r) := rfl
@[simp] theorem evIos_io (i : Nat) (r : Ar) : evIos (.io i r) = (0, i) :: shift (evIos r) := rfl
@[simp] theorem shift_nil : shift [] = [] := rfl
@[simp] theorem shift_cons (q : Nat × Nat) (r : Ios) : shift (q :: r) = (q.1 + 1, q.2) :: shift r := rfl
@[simp] theorem evT_val (a : Ex) : evT fs (.val a) Γ = eB (ev fs a) Γ := rfl
@[simp] theorem evT_tru (a : Ex) : evT fs (.tru a) Γ = (ev fs a Γ).bind fun x Γ1 => Rz.opt (truD x) Γ1 := rfl
@[simp] theorem evT_cmp (o : C2) (a b : Ex) : evT fs (.cmp o a b) Γ = eB (ev fs (.cmp o a b)) Γ := rfl
@[simp] theorem evT_not (t : Tx) : evT fs (.not t) Γ = (evT fs t Γ).bind fun b Γ1 => .ok (!b) Γ1 := rfl
@[simp] theorem evT_and (t u : Tx) : evT fs (.and t u) Γ = (evT fs t Γ).bind fun b Γ1 => if b = true then evT fs u Γ1 else .ok false Γ1 := rfl
@[simp] theorem evT_or (t u : Tx) : evT fs (.or t u) Γ = (evT fs t Γ).bind fun b Γ1 => if b = true then .ok true Γ1 else evT fs u Γ1 := rfl
@[simp] theorem evT_bor (M : List Bool) (t : Tx) : evT fs (.bor M t) Γ = eBor M (evT fs t) Γ := rfl
@[simp] theorem evC_no : evC fs .no Γ = .ok true Γ := rfl
@[simp] theorem evC_one (t : Tx) : evC fs (.one t) Γ = evT fs t Γ := rfl
@[simp] theorem evI_list (a : Ex) : evI fs (.list a) Γ = eLst (ev fs a) Γ := rfl
@[simp] theorem evI_tup (a : Ex) : evI fs (.tup a) Γ = eTup (ev fs a) Γ := rfl
@[simp] theorem evI_r1 (a : Ex) : evI fs (.r1 a) Γ = (ev fs a Γ).bind fun x Γ1 => Rz.opt (rng1 [x]) Γ1 := by
  show eNi rng1 (aCons (ev fs a) aNil) Γ = _
  unfold eNi aCons
  cases ev fs a Γ <;> rfl
@[simp] theorem evI_r2 (a b : Ex) : evI fs (.r2 a b) Γ = (ev fs a Γ).bind fun x Γ1 => (ev fs b Γ1).bind fun y Γ2 => Rz.opt (rng2 [x, y]) Γ2 := by
  show eNi rng2 (aCons (ev fs a) (aCons (ev fs b) aNil)) Γ = _
  unfold eNi aCons
  cases ev fs a Γ with
  | ok x Γ1 =>
    simp only [bind_ok]
    cases ev fs b Γ1 <;> rfl
  | _ => rfl
@[simp] theorem evI_zip (a b : Ex) : evI fs (.zip a b) Γ = (ev fs a Γ).bind fun x Γ1 => (ev fs b Γ1).bind fun y Γ2 => Rz.opt (zipO [x, y]) Γ2 := by
  show eNi zipO (aCons (ev fs a) (aCons (ev fs b) aNil)) Γ = _
  unfold eNi aCons
  cases ev fs a Γ with
  | ok x Γ1 =>
    simp only [bind_ok]
    cases ev fs b Γ1 <;> rfl
  | _ => rfl
@[simp] theorem evI_enum (a : Ex) : evI fs (.enum a) Γ = (ev fs a Γ).bind fun x Γ1 => Rz.opt (enumO [x]) Γ1 := by
  show eNi enumO (aCons (ev fs a) aNil) Γ = _
  unfold eNi aCons
  cases ev fs a Γ <;> rfl
@[simp] theorem evG_nm (i : Nat) (d : D) : evG (.nm i) d Γ = some (Γ.set i (some d)) := rfl
@[simp] theorem evG_tup (ts : Tgs) (ds : List D) : evG (.tup ts) (.tup ds) Γ = evGs ts ds Γ := rfl
@[simp] theorem evG_lst (ts : Tgs) (ds : List D) : evG (.lst ts) (.lst ds) Γ = evGs ts ds Γ := rfl
@[simp] theorem evGs_nil : evGs .nil [] Γ = some Γ := rfl
@[simp] theorem evGs_cons (t : Tg) (r : Tgs) (d : D) (ds : List D) : evGs (.cons t r) (d :: ds) Γ = (evG t d Γ).bind fun Γ1 => evGs r ds Γ1 := rfl
@[simp] theorem ex_pass : ex fs .pass Γ = .nx Γ := rfl
@[simp] theorem ex_brk : ex fs .brk Γ = .bk Γ := rfl
@[simp] theorem ex_cont : ex fs .cont Γ = .ct Γ := rfl
@[simp] theorem ex_expr (e : Ex) : ex fs (.expr e) Γ = (ev fs e Γ).s fun _ Γ1 => .nx Γ1 := rfl
@[simp] theorem ex_ret (e : Ex) : ex fs (.ret e) Γ = (ev fs e Γ).s fun d Γ1 => .rt d Γ1 := rfl
@[simp] theorem ex_retN : ex fs .retN Γ = .rt .non Γ := rfl
@[simp] theorem ex_ite (t : Tx) (a b : Sms) : ex fs (.ite t a b) Γ = (evT fs t Γ).s fun c Γ1 => if c = true then exs fs a Γ1 else exs fs b Γ1 := rfl
@[simp] theorem ex_asg (t : Tg) (e : Ex) : ex fs (.asg t e) Γ = (ev fs e Γ).s fun d Γ1 => match evG t d Γ1 with
  | some Γ2 => .nx Γ2
  | none => .bad := rfl
@[simp] theorem ex_setLc (i : Nat) (own : List Nat) (it : Ix) (t : Tg) (c : Cx1) (e : Ex) : ex fs (.setLc i own it t c e) Γ = (eLc (evI fs it) (evG t) (evC fs c) (ev fs e) own Γ).s fun d Γ1 => .nx (Γ1.set i (some d)) := rfl
@[simp] theorem ex_at (μ : List Mode) (s : Sm) : ex fs (.at_ μ s) Γ = ex fs s Γ := rfl
@[simp] theorem ex_for (it : Ix) (t : Tg) (b : Sms) : ex fs (.for_ it t b) Γ = (evI fs it Γ).s fun ds Γ1 => sFor (evG t) (exs fs b) ds Γ1 := rfl
@[simp] theorem exs_nil : exs fs .nil Γ = .nx Γ := rfl
@[simp] theorem exs_one (s : Sm) : exs fs (.cons s .nil) Γ = ex fs s Γ := rfl
theorem exs_two (s s2 : Sm) (r : Sms) : exs fs (.cons s (.cons s2 r)) Γ = sSeq (ex fs s) (exs fs (.cons s2 r)) Γ := rfl
/-- one statement goes on -/
theorem exs_nx {s s2 : Sm} {r : Sms} (h : ex fs s Γ = .nx Γ1) : exs fs (.cons s (.cons s2 r)) Γ = exs fs (.cons s2 r) Γ1 := by
  rw [exs_two]; unfold sSeq; rw [h]
end
/-! ### loops -/
/-- a comprehension whose state is carried by an invariant -/
theorem lcLoop_inv {t : D → Gam → Option Gam} {tt : Gam → Rz Bool} {fe : Gam → Rz D} {vs : List Nat} (P : List D → List D → Gam → Prop) : ∀ (ds : List D) (Γ : Gam) (acc : List D), P ds acc Γ →
    (∀ d ds acc Γ, P (d :: ds) acc Γ → ∃ Γ1 Γ2 Γ3 y, t d Γ = some Γ1 ∧ tt Γ1 = .ok true Γ2 ∧ fe Γ2 = .ok y Γ3 ∧ P ds (acc ++ [y]) (wipeG Γ3 vs)) → ∃ ys Γ', lcLoop t tt fe vs ds Γ acc = some (ys, Γ') ∧ P [] ys Γ'
  | [], Γ, acc, h, _ => ⟨acc, Γ, rfl, h⟩
  | d :: ds, Γ, acc, h, st => by
    obtain ⟨Γ1, Γ2, Γ3, y, e1, e2, e3, h'⟩ := st d ds acc Γ h
    obtain ⟨ys, Γ', e, q⟩ := lcLoop_inv P ds _ _ h' st
    refine ⟨ys, Γ', ?_, q⟩
    unfold lcLoop
    rw [e1]; dsimp only; rw [e2]; dsimp only; rw [e3]; exact e
/-- a comprehension that changes nothing: a map -/
theorem lcLoop_map {t : D → Gam → Option Gam} {tt : Gam → Rz Bool} {fe : Gam → Rz D} {vs : List Nat} {Γ : Gam} (g : D → D) : ∀ (ds : List D) (acc : List D),
    (∀ d ∈ ds, ∃ Γ1 Γ2 Γ3, t d Γ = some Γ1 ∧ tt Γ1 = .ok true Γ2 ∧ fe Γ2 = .ok (g d) Γ3 ∧ wipeG Γ3 vs = Γ) → lcLoop t tt fe vs ds Γ acc = some (acc ++ ds.map g, Γ)
  | [], acc, _ => by simp [lcLoop]
  | d :: ds, acc, h => by
    obtain ⟨Γ1, Γ2, Γ3, e1, e2, e3, e4⟩ := h d (List.mem_cons_self ..)
    unfold lcLoop
    rw [e1]; dsimp only; rw [e2]; dsimp only; rw [e3]; dsimp only
    rw [e4, lcLoop_map g ds (acc ++ [g d]) fun d hd => h d (List.mem_cons_of_mem _ hd)]
    simp
theorem sFor_inv {t : D → Gam → Option Gam} {b : Gam → Sz} (P : List D → Gam → Prop) : ∀ (ds : List D) (Γ : Gam), P ds Γ →
    (∀ d ds Γ, P (d :: ds) Γ → ∃ Γ1 Γ2, t d Γ = some Γ1 ∧ (b Γ1 = .nx Γ2 ∨ b Γ1 = .ct Γ2) ∧ P ds Γ2) → ∃ Γ', sFor t b ds Γ = .nx Γ' ∧ P [] Γ'
  | [], Γ, h, _ => ⟨Γ, rfl, h⟩
  | d :: ds, Γ, h, st => by
    obtain ⟨Γ1, Γ2, e1, e2, h'⟩ := st d ds Γ h
    obtain ⟨Γ', e, q⟩ := sFor_inv P ds Γ2 h' st
    refine ⟨Γ', ?_, q⟩
    unfold sFor
    rw [e1]; dsimp only
    rcases e2 with e2 | e2
    · rw [e2]; exact e
    · rw [e2]; exact e
/-- a comprehension, all told -/
theorem eLc_ok {fi : Gam → Rz (List D)} {t : D → Gam → Option Gam} {tt : Gam → Rz Bool} {fe : Gam → Rz D} {vs : List Nat} {Γ Γ1 Γ2 : Gam} {ds ys : List D} (h1 : fi Γ = .ok ds Γ1) (h2 : lcLoop t tt fe vs ds (wipeG Γ1 vs) [] = some (ys, Γ2)) : eLc fi t tt fe vs Γ = .ok (.lst ys) (backG Γ1 Γ2 vs) := by
  unfold eLc
  rw [h1]; simp only [bind_ok]; rw [h2]
theorem eCall_ok {F : List D → Fo} {ios : Ios} {dds : List D} {fa : Gam → Rz (List D)} {Γ Γ1 : Gam} {ds : List D} {d : D} {io : List (Option D)} (h1 : fa Γ = .ok ds Γ1) (h2 : F (ds ++ dds) = .ok d io) : eCall F ios dds fa Γ = .ok d (putIo ios io Γ1) := by
  unfold eCall
  rw [h1]; simp only [bind_ok]; rw [h2]
theorem eB_ok {f : Gam → Rz D} {Γ Γ1 : Gam} {b : Bool} (h : f Γ = .ok (.bl b) Γ1) : eB f Γ = .ok b Γ1 := by unfold eB; rw [h]; rfl
theorem eBor_ok {α : Type} {f : Gam → Rz α} {M : List Bool} {Γ Γ1 : Gam} {a : α} (h : f Γ = .ok a Γ1) : eBor M f Γ = .ok a (mixG M Γ Γ1) := by unfold eBor; rw [h]
/-- the same of a borrowing that changes nothing -/
theorem mixG_no : ∀ {n : Nat} {Γ Γ1 : Gam}, Γ.length = n → Γ1.length = n → mixG (List.replicate n false) Γ Γ1 = Γ
  | 0, [], [], _, _ => rfl
  | n + 1, g :: Γ, g1 :: Γ1, h1, h2 => by
    show g :: mixG (List.replicate n false) Γ Γ1 = g :: Γ
    rw [mixG_no (by simpa using h1) (by simpa using h2)]
end EV

/-! EvW: the law's own helpers: same, copied. -/
namespace EV
open PySem PySem.Spec L2
mutual
theorem eqv_self : ∀ d : D, (∃ n, shN n d = true) → PyData.eqv (toP d) (toP d) = true
  | .non, _ => rfl
  | .bl b, _ => by show (b == b) = true; simp
  | .int i, _ => by show (i == i) = true; simp
  | .str x, _ => by show (x == x) = true; simp
  | .lst ds, h => by
    obtain ⟨n, h⟩ := h
    cases n with
    | zero => cases h
    | succ n => exact eqvs_self ds ⟨n, h⟩
  | .tup ds, h => by
    obtain ⟨n, h⟩ := h
    cases n with
    | zero => cases h
    | succ n => exact eqvs_self ds ⟨n, h⟩
  | .dct _ _, h => by obtain ⟨n, h⟩ := h; cases n <;> cases h
  | .obj _ _ _, h => by obtain ⟨n, h⟩ := h; cases n <;> cases h
theorem eqvs_self : ∀ ds : List D, (∃ n, ds.all (shN n) = true) → PyData.eqvAll (toPs ds) (toPs ds) = true
  | [], _ => rfl
  | d :: ds, h => by
    obtain ⟨n, h⟩ := h
    rw [List.all_cons, Bool.and_eq_true] at h
    show (PyData.eqv (toP d) (toP d) && PyData.eqvAll (toPs ds) (toPs ds)) = true
    rw [eqv_self d ⟨n, h.1⟩, eqvs_self ds ⟨n, h.2⟩]; rfl
end
theorem shN_up : ∀ {n : Nat} {d : D}, shN n d = true → shN (n + 1) d = true
  | n, .non, _ => by cases n <;> rfl
  | n, .bl _, _ => by cases n <;> rfl
  | n, .int _, _ => by cases n <;> rfl
  | n, .str x, h => by cases n <;> exact h
  | n + 1, .lst ds, h => by
    have h' : ds.all (shN n) = true := h
    show ds.all (shN (n + 1)) = true
    rw [List.all_eq_true] at h' ⊢
    exact fun d hd => shN_up (h' d hd)
  | n + 1, .tup ds, h => by
    have h' : ds.all (shN n) = true := h
    show ds.all (shN (n + 1)) = true
    rw [List.all_eq_true] at h' ⊢
    exact fun d hd => shN_up (h' d hd)
  | 0, .lst _, h => by cases h
  | 0, .tup _, h => by cases h
  | n, .dct _ _, h => by cases n <;> cases h
  | n, .obj _ _ _, h => by cases n <;> cases h
theorem shN_le {m n : Nat} {d : D} (h : shN m d = true) (l : m ≤ n) : shN n d = true := by
  induction l with
  | refl => exact h
  | step _ ih => exact shN_up ih
theorem eqO_self {n : Nat} {d : D} (h : shN n d = true) (l : n ≤ 60) : eqO d d = some (.bl true) := by
  have s := shN_le h l
  unfold eqO sh2
  rw [s, eqv_self d ⟨n, h⟩]; rfl
theorem neO_self {n : Nat} {d : D} (h : shN n d = true) (l : n ≤ 60) : neO d d = some (.bl false) := by
  have s := shN_le h l
  unfold neO sh2
  rw [s, eqv_self d ⟨n, h⟩]; rfl
/-! ### _law_same -/
open Classical in
noncomputable def sameF (n : Nat) : List D → Fo
  | [d, e] => if d = e ∧ shN n d = true then .ok (.bl true) [none, none] else .bad
  | _ => .bad
theorem sameF_ok {n : Nat} {d : D} (h : shN n d = true) : sameF n [d, d] = .ok (.bl true) [none, none] := by
  unfold sameF; exact if_pos ⟨rfl, h⟩
def fnSame (F : List D → Fo) : Fn := ⟨"_law_same", [.F, .F], .Z, F, [], [], []⟩
def sameZ : Ex := .cmp .notIn (.bl false) (.lc [2, 3] (.zip (.var 0) (.var 1)) (.tup (.cons (.nm 2) (.cons (.nm 3) .nil))) .no (.call 0 (.e (.var 2) (.e (.var 3) .nil))))
def sameIR : Sms :=
  .cons (.ite (.val (.isi ["list", "tuple"] (.var 1)))
      (.cons (.ite (.or (.cmp .ne (.isi ["list"] (.var 1)) (.isi ["list"] (.var 0))) (.cmp .ne (.isi ["tuple"] (.var 1)) (.isi ["tuple"] (.var 0)))) (.cons (.ret (.bl false)) .nil) .nil)
      (.cons (.ite (.cmp .ne (.blt .len (.e (.var 0) .nil)) (.blt .len (.e (.var 1) .nil))) (.cons (.ret (.bl false)) .nil) .nil)
      (.cons (.ret sameZ) .nil))) .nil) <|
    .cons (.ite (.cmp .isN (.var 1) .non) (.cons (.ret (.cmp .isN (.var 0) .non)) .nil) .nil) <|
    .cons (.ite (.or (.cmp .ne (.isi ["str"] (.var 1)) (.isi ["str"] (.var 0))) (.cmp .ne (.isi ["bool"] (.var 1)) (.isi ["bool"] (.var 0)))) (.cons (.ret (.bl false)) .nil) .nil) <|
    .cons (.ret (.andV (.isi ["int", "str"] (.var 0)) (.cmp .eq (.var 0) (.var 1)))) .nil
theorem zipD_self : ∀ ds : List D, zipD ds ds = ds.map fun d => .tup [d, d]
  | [] => rfl
  | d :: ds => by show .tup [d, d] :: zipD ds ds = _; rw [zipD_self ds]; rfl
theorem ne_bl (b : Bool) : neO (.bl b) (.bl b) = some (.bl false) := neO_self (n := 0) rfl (by decide)
theorem ne_isi {fs : List Fn} {Γ : Gam} {i j : Nat} {d : D} {Cs : List String} {b : Bool} (hi : getG Γ i = some d) (hj : getG Γ j = some d) (h : isiD Cs d = some (.bl b)) : ev fs (.cmp .ne (.isi Cs (.var i)) (.isi Cs (.var j))) Γ = .ok (.bl false) Γ := by
  simp only [ev_cmp, ev_isi, ev_var, hi, hj, opt_ok, bind_ok, h]
  show Rz.opt (neO (.bl b) (.bl b)) Γ = _
  rw [ne_bl]; rfl
theorem ne_len {fs : List Fn} {Γ : Gam} {i j : Nat} {d : D} {n : Int} (hi : getG Γ i = some d) (hj : getG Γ j = some d) (h : lenO [d] = some (.int n)) : ev fs (.cmp .ne (.blt .len (.e (.var i) .nil)) (.blt .len (.e (.var j) .nil))) Γ = .ok (.bl false) Γ := by
  have h' : BN.len.op [d] = some (.int n) := h
  simp only [ev_cmp, ev_blt, evA_e, evA_nil, ev_var, hi, hj, opt_ok, bind_ok, h']
  show Rz.opt (neO (.int n) (.int n)) Γ = _
  rw [neO_self (n := 0) rfl (by decide)]; rfl
theorem trues_in : ∀ (ds : List D), ((toPs (ds.map fun _ => D.bl true)).any fun z => PyData.eqv z (.bool false)) = false
  | [] => rfl
  | d :: ds => by show (false || _) = false; rw [trues_in ds]; rfl
theorem trues_sh : ∀ (ds : List D), (ds.map fun _ => D.bl true).all (shN 59) = true
  | [] => rfl
  | d :: ds => by show (true && _) = true; rw [trues_sh ds]; rfl
theorem same_lc {F : List D → Fo} {n : Nat} {a : D} {ds : List D} (hF : ∀ x, shN n x = true → F [x, x] = .ok (.bl true) [none, none]) (hz : zipO [a, a] = some (zipD ds ds)) (h : ds.all (shN n) = true) : ev [fnSame F] sameZ [some a, some a, none, none] = .ok (.bl true) [some a, some a, none, none] := by
  have lc : ev [fnSame F] (.lc [2, 3] (.zip (.var 0) (.var 1)) (.tup (.cons (.nm 2) (.cons (.nm 3) .nil))) .no (.call 0 (.e (.var 2) (.e (.var 3) .nil)))) [some a, some a, none, none] = .ok (.lst ((ds.map fun d => D.tup [d, d]).map fun _ => D.bl true)) [some a, some a, none, none] := by
    rw [ev_lc]
    refine eLc_ok (ds := ds.map fun d => .tup [d, d]) (Γ1 := [some a, some a, none, none]) ?_ (lcLoop_map (fun _ => .bl true) _ _ fun d hd => ?_)
    · simp only [evI_zip, ev_var, getG_0, getG_s, opt_ok, bind_ok]
      show Rz.opt (zipO [a, a]) _ = _
      rw [hz, zipD_self]; rfl
    · obtain ⟨x, hx, rfl⟩ := List.mem_map.mp hd
      have hs : shN n x = true := List.all_eq_true.mp h x hx
      refine ⟨[some a, some a, some x, some x], [some a, some a, some x, some x], [some a, some a, some x, some x], rfl, rfl, ?_, rfl⟩
      rw [ev_call]
      exact eCall_ok (ds := [x, x]) (io := [none, none]) rfl (hF x hs)
  unfold sameZ
  rw [ev_cmp, ev_bl, bind_ok, lc, bind_ok]
  have e : C2.notIn.op (.bl false) (.lst ((ds.map fun d => D.tup [d, d]).map fun _ => D.bl true)) = some (.bl true) := by
    show (if (shN 60 (.bl false) && ((ds.map fun d => D.tup [d, d]).map fun _ => D.bl true).all (shN 59)) = true then some (D.bl (!((toPs ((ds.map fun d => D.tup [d, d]).map fun _ => D.bl true)).any fun z => PyData.eqv z (.bool false)))) else none) = _
    rw [trues_sh, trues_in]; rfl
  rw [e]; rfl
theorem same_flat {F : List D → Fo} {n : Nat} (l : n ≤ 60) (d : D) (h1 : isiD ["list", "tuple"] d = some (.bl false)) (h2 : isNonD d .non = some (.bl false)) (h3 : ∃ b, isiD ["str"] d = some (.bl b)) (h4 : ∃ b, isiD ["bool"] d = some (.bl b)) (h5 : isiD ["int", "str"] d = some (.bl true)) (h6 : shN n d = true) :
    exs [fnSame F] sameIR [some d, some d, none, none] = .rt (.bl true) [some d, some d, none, none] := by
  obtain ⟨b3, h3⟩ := h3
  obtain ⟨b4, h4⟩ := h4
  unfold sameIR
  have s1 : ex [fnSame F] (.ite (.val (.isi ["list", "tuple"] (.var 1)))
    (.cons (.ite (.or (.cmp .ne (.isi ["list"] (.var 1)) (.isi ["list"] (.var 0))) (.cmp .ne (.isi ["tuple"] (.var 1)) (.isi ["tuple"] (.var 0)))) (.cons (.ret (.bl false)) .nil) .nil)
    (.cons (.ite (.cmp .ne (.blt .len (.e (.var 0) .nil)) (.blt .len (.e (.var 1) .nil))) (.cons (.ret (.bl false)) .nil) .nil)
    (.cons (.ret sameZ) .nil))) .nil) [some d, some d, none, none] = .nx [some d, some d, none, none] := by
    rw [ex_ite, evT_val, eB_ok (b := false) (Γ1 := [some d, some d, none, none])]
    · rfl
    · rw [ev_isi, ev_var]; show Rz.opt (isiD _ d) _ = _; rw [h1]; rfl
  rw [exs_nx s1]
  have s2 : ex [fnSame F] (.ite (.cmp .isN (.var 1) .non) (.cons (.ret (.cmp .isN (.var 0) .non)) .nil) .nil) [some d, some d, none, none] = .nx [some d, some d, none, none] := by
    rw [ex_ite, evT_cmp, eB_ok (b := false) (Γ1 := [some d, some d, none, none])]
    · rfl
    · rw [ev_cmp, ev_var]; show Rz.opt (isNonD d .non) _ = _; rw [h2]; rfl
  rw [exs_nx s2]
  have s3 : ex [fnSame F] (.ite (.or (.cmp .ne (.isi ["str"] (.var 1)) (.isi ["str"] (.var 0))) (.cmp .ne (.isi ["bool"] (.var 1)) (.isi ["bool"] (.var 0)))) (.cons (.ret (.bl false)) .nil) .nil) [some d, some d, none, none] = .nx [some d, some d, none, none] := by
    rw [ex_ite, evT_or, evT_cmp, eB_ok (b := false) (Γ1 := [some d, some d, none, none])]
    · rw [bind_ok, evT_cmp, eB_ok (b := false) (Γ1 := [some d, some d, none, none])]
      · rfl
      · exact ne_isi rfl rfl h4
    · exact ne_isi rfl rfl h3
  rw [exs_nx s3, exs_one, ex_ret, ev_and]
  have e1 : ev [fnSame F] (.isi ["int", "str"] (.var 0)) [some d, some d, none, none] = .ok (.bl true) [some d, some d, none, none] := by
    rw [ev_isi, ev_var]; show Rz.opt (isiD _ d) _ = _; rw [h5]; rfl
  have e2 : ev [fnSame F] (.cmp .eq (.var 0) (.var 1)) [some d, some d, none, none] = .ok (.bl true) [some d, some d, none, none] := by
    rw [ev_cmp, ev_var]; show Rz.opt (eqO d d) _ = _; rw [eqO_self h6 l]; rfl
  unfold eAndV
  rw [e1]; simp only [bind_ok]; rw [e2]; rfl
theorem same_key {F : List D → Fo} {n : Nat} {d : D} (hF : ∀ x, shN n x = true → F [x, x] = .ok (.bl true) [none, none]) (h : shN (n + 1) d = true) (l : n + 1 ≤ 60) : exs [fnSame F] sameIR [some d, some d, none, none] = .rt (.bl true) [some d, some d, none, none] := by
  have node : ∀ (d : D) (ds : List D), isiD ["list", "tuple"] d = some (.bl true) → (∃ b, isiD ["list"] d = some (.bl b)) → (∃ b, isiD ["tuple"] d = some (.bl b)) → lenO [d] = some (.int ds.length) → zipO [d, d] = some (zipD ds ds) → ds.all (shN n) = true →
      exs [fnSame F] sameIR [some d, some d, none, none] = .rt (.bl true) [some d, some d, none, none] := fun d ds h1 ⟨b2, h2⟩ ⟨b3, h3⟩ h4 h5 h6 => by
    have s1 : ex [fnSame F] (.ite (.val (.isi ["list", "tuple"] (.var 1)))
      (.cons (.ite (.or (.cmp .ne (.isi ["list"] (.var 1)) (.isi ["list"] (.var 0))) (.cmp .ne (.isi ["tuple"] (.var 1)) (.isi ["tuple"] (.var 0)))) (.cons (.ret (.bl false)) .nil) .nil)
      (.cons (.ite (.cmp .ne (.blt .len (.e (.var 0) .nil)) (.blt .len (.e (.var 1) .nil))) (.cons (.ret (.bl false)) .nil) .nil)
      (.cons (.ret sameZ) .nil))) .nil) [some d, some d, none, none] = .rt (.bl true) [some d, some d, none, none] := by
      rw [ex_ite, evT_val, eB_ok (b := true) (Γ1 := [some d, some d, none, none])]
      · show exs _ _ _ = _
        have t1 : ex [fnSame F] (.ite (.or (.cmp .ne (.isi ["list"] (.var 1)) (.isi ["list"] (.var 0))) (.cmp .ne (.isi ["tuple"] (.var 1)) (.isi ["tuple"] (.var 0)))) (.cons (.ret (.bl false)) .nil) .nil) [some d, some d, none, none] = .nx [some d, some d, none, none] := by
          rw [ex_ite, evT_or, evT_cmp, eB_ok (b := false) (Γ1 := [some d, some d, none, none])]
          · rw [bind_ok, evT_cmp, eB_ok (b := false) (Γ1 := [some d, some d, none, none])]
            · rfl
            · exact ne_isi rfl rfl h3
          · exact ne_isi rfl rfl h2
        rw [exs_nx t1]
        have t2 : ex [fnSame F] (.ite (.cmp .ne (.blt .len (.e (.var 0) .nil)) (.blt .len (.e (.var 1) .nil))) (.cons (.ret (.bl false)) .nil) .nil) [some d, some d, none, none] = .nx [some d, some d, none, none] := by
          rw [ex_ite, evT_cmp, eB_ok (b := false) (Γ1 := [some d, some d, none, none])]
          · rfl
          · exact ne_len rfl rfl h4
        rw [exs_nx t2, exs_one, ex_ret, same_lc hF h5 h6]
        rfl
      · rw [ev_isi, ev_var]; show Rz.opt (isiD _ d) _ = _; rw [h1]; rfl
    unfold sameIR
    rw [exs_two]; unfold sSeq; rw [s1]
  cases d with
  | non => rfl
  | bl b => exact same_flat l _ rfl rfl ⟨_, rfl⟩ ⟨_, rfl⟩ rfl h
  | int i => exact same_flat l _ rfl rfl ⟨_, rfl⟩ ⟨_, rfl⟩ rfl h
  | str x => exact same_flat l _ rfl rfl ⟨_, rfl⟩ ⟨_, rfl⟩ rfl h
  | lst ds => exact node _ ds rfl ⟨_, rfl⟩ ⟨_, rfl⟩ rfl rfl h
  | tup ds => exact node _ ds rfl ⟨_, rfl⟩ ⟨_, rfl⟩ rfl rfl h
  | dct _ _ => cases h
  | obj _ _ _ => cases h
theorem same_key0 {F : List D → Fo} {d : D} (h : shN 0 d = true) : exs [fnSame F] sameIR [some d, some d, none, none] = .rt (.bl true) [some d, some d, none, none] := by
  cases d with
  | non => rfl
  | bl b => exact same_flat (by decide : 0 ≤ 60) _ rfl rfl ⟨_, rfl⟩ ⟨_, rfl⟩ rfl h
  | int i => exact same_flat (by decide : 0 ≤ 60) _ rfl rfl ⟨_, rfl⟩ ⟨_, rfl⟩ rfl h
  | str x => exact same_flat (by decide : 0 ≤ 60) _ rfl rfl ⟨_, rfl⟩ ⟨_, rfl⟩ rfl h
  | _ => cases h
/-- by its levels -/
noncomputable def sameH : Nat → List D → Fo
  | 0 => fun _ => .bad
  | n + 1 => sameF n
/-- what one level of it gives -/
theorem same_run {n : Nat} (l : n ≤ 60) (ds : List D) (h : sameH (n + 1) ds ≠ .bad) : runF 4 [false, false] (exs [fnSame (sameH n)] sameIR) ds = sameH (n + 1) ds := by
  rcases ds with _ | ⟨d, _ | ⟨e, _ | ⟨x, r⟩⟩⟩
  · exact absurd rfl h
  · exact absurd rfl h
  · by_cases q : d = e ∧ shN n d = true
    · obtain ⟨rfl, q⟩ := q
      show _ = sameF n [d, d]
      rw [sameF_ok q]
      unfold runF
      show (match exs [fnSame (sameH n)] sameIR [some d, some d, none, none] with | .rt d Γ => Fo.ok d (ioOf [false, false] Γ) | .nx Γ => .ok .non (ioOf [false, false] Γ) | .exc x Γ => .exc x (ioOf [false, false] Γ) | _ => .bad) = _
      cases n with
      | zero => rw [same_key0 q]; rfl
      | succ n => rw [same_key (F := sameH (n + 1)) (fun x hx => sameF_ok hx) q l]; rfl
    · have e0 : sameH (n + 1) [d, e] = .bad := by
        show sameF n [d, e] = .bad
        unfold sameF; exact if_neg q
      exact absurd e0 h
  · exact absurd rfl h
/-- a promise of nothing is kept -/
theorem FnAt.none {P : Program} {w : World} {K : PySem.W.Frag} {mg : Str → Option Value} {base : Heap} {x : Str} {pm : List Mode} {rm : Mode} {f : Addr} {fd : FuncData} {ps : List Str} (hg : mg x = some (.ref f)) (hk : PySem.W.keepIn K (.ref f) = true) (hb : Binds K fd ps []) : FnAt P w K mg base 0 ⟨x, pm, rm, fun _ => .bad, [], [], []⟩ :=
  ⟨f, fd, ps, [], [], ⟨fun vs H Q E ⟨_, _, _, _, _, _, q⟩ => q.elim, fun _ _ _ _ _ _ _ _ _ _ _ _ _ ⟨_, _, _, _, _, _, q⟩ => q.elim⟩, hg, hk, hb, .nil, fun B H => ⟨rfl, rfl⟩⟩
/-- it, at every level -/
theorem same_at {P : Program} {w : World} {K : PySem.W.Frag} {mg : Str → Option Value} {base : Heap} {a : Df} {fd : FuncData} {f : Addr} {kws : List (Str × V)} (hN : a.N.length = 4) (hio : a.io = [false, false]) (hir : a.ir = sameIR) (hnm : a.d.name = "_law_same") (hpm : a.pm = [.F, .F]) (hrm : a.rm = .Z) (hF : FunD K a.d.name a.d.qual a.d.params a.d.body a.d.scope [] kws f fd) (hg : mg a.d.name = some (.ref f)) (sc : FnScope a.N a.ps a.d.scope) (ck : a.ck [⟨"_law_same", [.F, .F], .Z, [], []⟩] = true)
    (hb : ∀ (kV doc pm : Value) (an : Option Addr) (cdv ct : Value) (us : List Value), us.length = a.ps.length → bindArgs (PySem.W.fnOf a.d.name a.d.qual a.d.params a.d.body a.d.scope .none kV doc pm an cdv ct) ⟨us, []⟩ = pure (a.ps.zip us))
    (hx : ∀ k, Fx P w K mg base k a) : ∀ n : Nat, n ≤ 60 → FnAt P w K mg base n (fnSame (sameH n))
  | 0, _ => by
    have := FnAt.none (P := P) (w := w) (base := base) (pm := [.F, .F]) (rm := .Z) hg hF.kp (hF.bindsN hb)
    rw [hnm] at this
    exact this
  | n + 1, l => by
    have ih := same_at (P := P) (w := w) (base := base) hN hio hir hnm hpm hrm hF hg sc ck hb hx n (by omega)
    have := Df.at (P := P) (w := w) (base := base) (fs := [fnSame (sameH n)]) (k := n) (F := sameH (n + 1)) hF hg sc ck hb (fun g hm => by rw [List.mem_singleton.mp hm]; exact ih) (hx n) fun ds h => by
      show runF a.N.length a.io (exs [fnSame (sameH n)] a.ir) ds = _
      rw [hN, hio, hir]
      exact same_run (by omega) ds h
    rw [hnm, hpm, hrm] at this
    exact this
/-! ### _law_copied -/
def copiedF : List D → Fo
  | [.lst ds] => if (ds.all isLst) = true then .ok (.lst ds) [none] else .bad
  | _ => .bad
def fnCopied : Fn := ⟨"_law_copied", [.F], .O (.O .F), copiedF, [], [], []⟩
def copiedIR : Sms := .cons (.ret (.lc [1] (.list (.var 0)) (.nm 1) .no (.blt .list (.e (.var 1) .nil)))) .nil
theorem copied_run (ds : List D) (h : copiedF ds ≠ .bad) : runF 2 [false] (exs [] copiedIR) ds = copiedF ds := by
  rcases ds with _ | ⟨d, _ | ⟨x, r⟩⟩
  · exact absurd rfl h
  · cases d with
    | lst rs =>
      unfold copiedF at h ⊢
      by_cases q : rs.all isLst = true
      · dsimp only
        rw [if_pos q]
        have lc : ev [] (.lc [1] (.list (.var 0)) (.nm 1) .no (.blt .list (.e (.var 1) .nil))) [some (.lst rs), none] = .ok (.lst rs) [some (.lst rs), none] := by
          rw [ev_lc]
          have := eLc_ok (fi := evI [] (.list (.var 0))) (t := evG (.nm 1)) (tt := evC [] .no) (fe := ev [] (.blt .list (.e (.var 1) .nil))) (vs := [1]) (ds := rs) (Γ := [some (.lst rs), none]) (Γ1 := [some (.lst rs), none]) rfl (lcLoop_map id rs [] fun d hd => by
            have hl : isLst d = true := List.all_eq_true.mp q d hd
            cases d with
            | lst es => exact ⟨_, _, _, rfl, rfl, rfl, rfl⟩
            | _ => cases hl)
          rw [List.map_id] at this
          exact this
        unfold runF
        show (match ex [] (.ret (.lc [1] (.list (.var 0)) (.nm 1) .no (.blt .list (.e (.var 1) .nil)))) [some (.lst rs), none] with | .rt d Γ => Fo.ok d (ioOf [false] Γ) | .nx Γ => .ok .non (ioOf [false] Γ) | .exc x Γ => .exc x (ioOf [false] Γ) | _ => .bad) = _
        rw [ex_ret, lc]; rfl
      · dsimp only at h
        rw [if_neg q] at h; exact absurd rfl h
    | _ => exact absurd rfl h
  · cases d <;> exact absurd rfl h
end EV

/-! EvW2: what every law uses. -/
namespace EV
open PySem PySem.Spec L2
/-! ### what every law uses -/
theorem pull_ev {fs : List Fn} {g i : Nat} {Γ Γ1 : Gam} {e : Ex} {b : Bag} {lot : Int} (hf : fs.getD g default = pullFn) (hi : getG Γ i = some b.d) (he : ev fs e (Γ.set i none) = .ok (.int lot) (Γ.set i none)) (hg : b.good) (h1 : 0 < lot) (h2 : lot < 2 ^ 64) :
    ev fs (.call g (.io i (.e e .nil))) Γ = .ok (.int (pullB b lot).1) (Γ.set i (some (pullB b lot).2.d)) := by
  rw [ev_call, hf]
  have z := eCall_ok (F := pullF) (ios := [(0, i)]) (dds := []) (fa := evA fs (.io i (.e e .nil))) (Γ := Γ) (Γ1 := Γ.set i none) (ds := [b.d, .int lot]) (by rw [evA_io, hi, opt_ok, bind_ok, evA_e, he, bind_ok]; rfl) (pullF_ok hg h1 h2)
  refine z.trans ?_
  show Rz.ok _ ((Γ.set i none).set i (some (pullB b lot).2.d)) = _
  rw [List.set_set]
theorem ixN_lt {n a : Nat} (h : a < n) : ixN n (a : Int) = some a := by
  unfold ixN
  rw [if_pos (by omega), if_pos (by omega)]; rfl
def natsD (xs : List Nat) : D := .lst (xs.map fun n : Nat => D.int (n : Int))
theorem natsD_get {xs : List Nat} {k : Nat} (h : k < xs.length) : (xs.map fun n : Nat => D.int (n : Int))[k]? = some (.int ((xs[k] : Nat) : Int)) := by
  rw [List.getElem?_map, List.getElem?_eq_getElem h]; rfl
theorem sFor_nx {t : D → Gam → Option Gam} {b : Gam → Sz} {d : D} {ds : List D} {Γ Γ1 Γ2 : Gam} (h1 : t d Γ = some Γ1) (h2 : b Γ1 = .nx Γ2) : sFor t b (d :: ds) Γ = sFor t b ds Γ2 := by
  show (match t d Γ with | none => Sz.bad | some Γ1 => _) = _
  rw [h1]; dsimp only; rw [h2]
theorem runF_rt {N : Nat} {io : List Bool} {fb : Gam → Sz} {ds : List D} {Γ Γ' : Gam} {d : D} (h : ds.map some ++ List.replicate (N - ds.length) none = Γ) (k : fb Γ = .rt d Γ') : runF N io fb ds = .ok d (ioOf io Γ') := by
  unfold runF
  rw [h, k]
end EV

/-! EvX: the end of a law whose defs may raise within. -/
namespace EV
open PySem PySem.Spec PyProof.Rows L2
theorem walk_x {lw : PySem.W.OpenLaw} {cap lvl : Nat} {pr : Program} {lo : List Str} {XP : (Str → Option Value) → Heap → Prop} {YP : World → Heap → Prop} {dr : DefRec} {x : Str} (e1 : lw.most = some cap) (e2 : cap ≤ sizeLine) (e3 : dr.params.defaults = []) (e4 : Room lvl callerA)
    (F : ∀ (w : World) (mg : Str → Option Value) (ad : Addr) (h : Heap), YP w h → h.Ns mainGlobals mg → mg dr.name = some (.ref ad) → ∃ (K : PySem.W.Frag) (fd : FuncData) (fo : List D → Fo), K.In h ∧ (∀ (s : Shared) (u : Value), BindsTo s fd ⟨[u], []⟩ [(x, u)]) ∧
      (∀ ns : List Int, ns.length ≤ cap → ∃ io, fo [.lst (ns.map D.int)] = .ok (.bl true) io) ∧ ∀ base : Heap, K.In base → base.Ns mainGlobals mg → FnOk lw.prog w K mg base (L2.CX lw.prog w) lvl ad fd [x] (spD K [.F] .Z fo)) :
    PySem.W.WalkO pr lo XP YP lw.row.toRowW dr [] (fun f vs => PySem.call f vs) :=
  Att.attach_call e1 e3 fun w t0 t1 mg mb ad ob pm cd doc a vs ns G Y i1 i2 i3 i4 i5 i6 i7 i8 => by
    obtain ⟨K, fd, fo, kin, bnds, says, ok⟩ := F w mg ad _ Y G.T.g i4
    refine law_call kin G.T.g G.T.b G.T.builtins G.T.nolimit i8 i5 i6 (Nat.le_trans i7 e2) e4 ok bnds (fun H _ sq => ?_) fun H e t => hot_no H t1 e t
    obtain ⟨io, hio⟩ := says ns i7
    exact law_sp hio (Nat.le_trans i7 e2) H a sq
/-! ### a head's Hook with more facts -/
abbrev AlX : Type := He.AlD × Bool
def obsX (fa : List He.Fa) (fn : List He.DefD) (ex : List (PySem.W.Frag → Bool)) (K : PySem.W.Frag) : AlX := (He.obsD fa fn K, ex.all fun f => f K)
def SaysX (fa : List He.Fa) (fn : List He.DefD) (ex : List (PySem.W.Frag → Bool)) (K : PySem.W.Frag) : Prop := obsX fa fn ex K = (He.valD fn, true)
def obsXG (n : Nat) (fa : List He.Fa) (fn : List He.DefD) (ex : List (PySem.W.Frag → Bool)) (g : Addr → Option Obj) : AlX := obsX fa fn ex (He.frG g (cStatics :: He.asD g n))
def hookX (n : Nat) (fa : List He.Fa) (fn : List He.DefD) (ex : List (PySem.W.Frag → Bool)) : PySem.W.Hook where
  α := AlX
  obs := fun s => obsXG n fa fn ex s.heap.get?
  val := fun _ => (He.valD fn, true)
  says := fun _ h => ∃ K : PySem.W.Frag, K.In h ∧ SaysX fa fn ex K
  of := fun _ _ e => ⟨_, He.frG_in, e⟩
  keeps := fun _ _ _ ⟨K, kin, c⟩ k => ⟨K, PySem.W.Frag.In.keeps kin k, c⟩
theorem obsXG_eq {n : Nat} {fa : List He.Fa} {fn : List He.DefD} {ex : List (PySem.W.Frag → Bool)} {g : Addr → Option Obj} {s : Shared} (h : ∀ a, g a = s.heap.get? a) : obsXG n fa fn ex g = (hookX n fa fn ex).obs s := by
  have e : g = s.heap.get? := funext h
  rw [e] <;> rfl
theorem SaysX.d {fa : List He.Fa} {fn : List He.DefD} {ex : List (PySem.W.Frag → Bool)} {K : PySem.W.Frag} (c : SaysX fa fn ex K) : He.SaysD fa fn K := congrArg (fun z : AlX => z.1) c
theorem SaysX.more {fa : List He.Fa} {fn : List He.DefD} {ex : List (PySem.W.Frag → Bool)} {K : PySem.W.Frag} (c : SaysX fa fn ex K) (f : PySem.W.Frag → Bool) (h : f ∈ ex) : f K = true :=
  List.all_eq_true.mp (show (ex.all fun f => f K) = true from congrArg (fun z : AlX => z.2) c) f h
/-- an own exception's class, all that is asked of it -/
def excB (c : Str) (K : PySem.W.Frag) : Bool := oexB K (He.ga K c) && (iniB K (He.ga K c) && decide (PySem.W.findIn K (.ref (He.ga K c)) "word" = some none))
/-- its base, of one's own -/
def basB (c : Str) (K : PySem.W.Frag) : Bool := offB K (He.ga K c) "__init__" && PySem.W.keepIn K (.ref (He.ma K (He.ga K c) "__init__"))
end EV

/-! EvY: what is walked, as plain functions of typed data; the ties between both. -/
namespace EV
open PySem PySem.Spec L2
/-- a plain outcome: bad says nothing -/
inductive M (α : Type) where
  | ok (a : α) | exc (x : Xc) | bad
namespace M
variable {α β γ : Type}
def bind (m : M α) (f : α → M β) : M β := match m with
  | .ok a => f a
  | .exc x => .exc x
  | .bad => .bad
@[simp] theorem ok_bind (a : α) (f : α → M β) : (M.ok a).bind f = f a := rfl
@[simp] theorem exc_bind (x : Xc) (f : α → M β) : (M.exc x : M α).bind f = .exc x := rfl
@[simp] theorem bad_bind (f : α → M β) : (M.bad : M α).bind f = .bad := rfl
@[simp] theorem bind_ok (m : M α) : m.bind M.ok = m := by cases m <;> rfl
theorem bind_assoc (m : M α) (f : α → M β) (g : β → M γ) : (m.bind f).bind g = m.bind fun a => (f a).bind g := by cases m <;> rfl
def opt (o : Option α) : M α := match o with
  | some a => .ok a
  | none => .bad
@[simp] theorem opt_some (a : α) : M.opt (some a) = .ok a := rfl
def fold {σ : Type} (xs : List α) (s : σ) (f : σ → α → M σ) : M σ := match xs with
  | [] => .ok s
  | x :: xs => (f s x).bind fun s => fold xs s f
@[simp] theorem fold_nil {σ : Type} (s : σ) (f : σ → α → M σ) : M.fold [] s f = .ok s := rfl
@[simp] theorem fold_cons {σ : Type} (x : α) (xs : List α) (s : σ) (f : σ → α → M σ) : M.fold (x :: xs) s f = (f s x).bind fun s => M.fold xs s f := rfl
def mapM (xs : List α) (f : α → M β) : M (List β) := match xs with
  | [] => .ok []
  | x :: xs => (f x).bind fun y => (mapM xs f).bind fun ys => .ok (y :: ys)
@[simp] theorem mapM_nil (f : α → M β) : M.mapM [] f = .ok [] := rfl
@[simp] theorem mapM_cons (x : α) (xs : List α) (f : α → M β) : M.mapM (x :: xs) f = (f x).bind fun y => (M.mapM xs f).bind fun ys => .ok (y :: ys) := rfl
theorem mapM_ok (g : α → β) {f : α → M β} : ∀ {xs : List α}, (∀ x ∈ xs, f x = .ok (g x)) → M.mapM xs f = .ok (xs.map g)
  | [], _ => rfl
  | x :: xs, h => by
    rw [mapM_cons, h x List.mem_cons_self, ok_bind, mapM_ok g fun y hy => h y (List.mem_cons_of_mem _ hy)]; rfl
/-- a comprehension with a test -/
def fmapM (xs : List α) (f : α → M (Option β)) : M (List β) := match xs with
  | [] => .ok []
  | x :: xs => (f x).bind fun y => (fmapM xs f).bind fun ys => .ok (match y with
    | some y => y :: ys
    | none => ys)
@[simp] theorem fmapM_nil (f : α → M (Option β)) : M.fmapM [] f = .ok [] := rfl
theorem fmapM_cons (x : α) (xs : List α) (f : α → M (Option β)) : M.fmapM (x :: xs) f = (f x).bind fun y => (M.fmapM xs f).bind fun ys => .ok (match y with
    | some y => y :: ys
    | none => ys) := rfl
/-- one that changes a state on its way -/
def smapM {σ : Type} (xs : List α) (s : σ) (f : σ → α → M (β × σ)) : M (List β × σ) := match xs with
  | [] => .ok ([], s)
  | x :: xs => (f s x).bind fun y => (smapM xs y.2 f).bind fun ys => .ok (y.1 :: ys.1, ys.2)
@[simp] theorem smapM_nil {σ : Type} (s : σ) (f : σ → α → M (β × σ)) : M.smapM [] s f = .ok ([], s) := rfl
@[simp] theorem smapM_cons {σ : Type} (x : α) (xs : List α) (s : σ) (f : σ → α → M (β × σ)) : M.smapM (x :: xs) s f = (f s x).bind fun y => (M.smapM xs y.2 f).bind fun ys => .ok (y.1 :: ys.1, ys.2) := rfl
/-- it comes to an end, of which P holds -/
def Ens (m : M α) (P : α → Prop) : Prop := ∃ a, m = .ok a ∧ P a
theorem Ens.bind {m : M α} {f : α → M β} {P : α → Prop} {Q : β → Prop} (h : m.Ens P) (k : ∀ a, P a → (f a).Ens Q) : (m.bind f).Ens Q := by
  obtain ⟨a, rfl, p⟩ := h
  exact k a p
theorem Ens.ok {a : α} {P : α → Prop} (h : P a) : (M.ok a).Ens P := ⟨a, rfl, h⟩
theorem Ens.imp {m : M α} {P Q : α → Prop} (h : m.Ens P) (i : ∀ a, P a → Q a) : m.Ens Q := by
  obtain ⟨a, e, p⟩ := h
  exact ⟨a, e, i a p⟩
theorem Ens.fold {σ : Type} {f : σ → α → M σ} (P : List α → σ → Prop) : ∀ {xs : List α} {s : σ}, P xs s → (∀ x xs s, P (x :: xs) s → (f s x).Ens (P xs)) → (M.fold xs s f).Ens (P [])
  | [], s, h, _ => .ok h
  | x :: xs, s, h, k => (k x xs s h).bind fun s' h' => Ens.fold P h' k
theorem Ens.smap {σ : Type} {f : σ → α → M (β × σ)} (P : List α → List β → σ → Prop) : ∀ {xs : List α} {ys : List β} {s : σ}, P xs ys s → (∀ x xs ys s, P (x :: xs) ys s → (f s x).Ens fun y => P xs (ys ++ [y.1]) y.2) → (M.smapM xs s f).Ens fun r => P [] (ys ++ r.1) r.2
  | [], ys, s, h, _ => .ok (by rw [List.append_nil]; exact h)
  | x :: xs, ys, s, h, k => (k x xs ys s h).bind fun y h' => (Ens.smap P h' k).bind fun r hr => .ok (by
    show P [] (ys ++ y.1 :: r.1) r.2
    rw [List.append_assoc] at hr; exact hr)
end M
/-! ### typed data -/
class Enc (α : Type) where
  d : α → D
abbrev E {α : Type} [Enc α] (a : α) : D := Enc.d a
/-- a tuple of any length -/
structure Tu (α : Type) where
  l : List α
  deriving DecidableEq
structure T3 (α β γ : Type) where
  a : α
  b : β
  c : γ
  deriving DecidableEq
structure T4 (α β γ δ : Type) where
  a : α
  b : β
  c : γ
  d : δ
  deriving DecidableEq
structure T5 (α β γ δ ε : Type) where
  a : α
  b : β
  c : γ
  d : δ
  e : ε
  deriving DecidableEq
instance : Enc Int := ⟨.int⟩
instance : Enc Bool := ⟨.bl⟩
instance : Enc Str := ⟨.str⟩
instance : Enc Unit := ⟨fun _ => .non⟩
instance : Enc D := ⟨fun d => d⟩
instance {α : Type} [Enc α] : Enc (List α) := ⟨fun xs => .lst (xs.map Enc.d)⟩
instance {α : Type} [Enc α] : Enc (Tu α) := ⟨fun xs => .tup (xs.l.map Enc.d)⟩
instance {α β : Type} [Enc α] [Enc β] : Enc (α × β) := ⟨fun p => .tup [Enc.d p.1, Enc.d p.2]⟩
instance {α β γ : Type} [Enc α] [Enc β] [Enc γ] : Enc (T3 α β γ) := ⟨fun p => .tup [Enc.d p.a, Enc.d p.b, Enc.d p.c]⟩
instance {α β γ δ : Type} [Enc α] [Enc β] [Enc γ] [Enc δ] : Enc (T4 α β γ δ) := ⟨fun p => .tup [Enc.d p.a, Enc.d p.b, Enc.d p.c, Enc.d p.d]⟩
instance {α β γ δ ε : Type} [Enc α] [Enc β] [Enc γ] [Enc δ] [Enc ε] : Enc (T5 α β γ δ ε) := ⟨fun p => .tup [Enc.d p.a, Enc.d p.b, Enc.d p.c, Enc.d p.d, Enc.d p.e]⟩
instance {α : Type} [Enc α] : Enc (Option α) := ⟨fun o => match o with
  | none => .non
  | some a => Enc.d a⟩
instance : Enc Bag := ⟨Bag.d⟩
/-! ### outcomes that go on -/
class Tgt (T : Type) where
  exc : Xc → Gam → T
  bad : T
instance : Tgt Sz := ⟨.exc, .bad⟩
instance {α : Type} : Tgt (Rz α) := ⟨.exc, .bad⟩
def Rz.to {α T : Type} [Tgt T] (r : Rz α) (K : α → Gam → T) : T := match r with
  | .ok a Γ => K a Γ
  | .exc x Γ => Tgt.exc x Γ
  | .bad => Tgt.bad
def Sz.seq (z : Sz) (r : Gam → Sz) : Sz := match z with
  | .nx Γ => r Γ
  | o => o
section
variable {α β γ T : Type} [Tgt T]
theorem bind_to (r : Rz α) (f : α → Gam → Rz β) (K : β → Gam → T) : (r.bind f).to K = r.to fun a Γ => (f a Γ).to K := by cases r <;> rfl
theorem to_ok (r : Rz α) : r.to Rz.ok = r := by cases r <;> rfl
theorem s_to (r : Rz α) (f : α → Gam → Sz) : r.s f = r.to f := by cases r <;> rfl
theorem bind_to' (r : Rz α) (f : α → Gam → Rz β) : r.bind f = r.to f := by cases r <;> rfl
theorem to_seq (r : Rz α) (f : α → Gam → Sz) (k : Gam → Sz) : (r.to f).seq k = r.to fun a Γ => (f a Γ).seq k := by cases r <;> rfl
theorem seq_seq (z : Sz) (f g : Gam → Sz) : (z.seq f).seq g = z.seq fun Γ => (f Γ).seq g := by cases z <;> rfl
/-- a run is the plain outcome -/
def Tie (z : T) (m : M β) (fin : β → T → Prop) (X : Xc → Gam → Prop) : Prop := match m with
  | .ok b => fin b z
  | .exc x => ∃ Γ, z = Tgt.exc x Γ ∧ X x Γ
  | .bad => True
/-- a call's outcome -/
def FoTie (o : Fo) (m : M β) (v : β → D) (io : β → List (Option D)) : Prop := match m with
  | .ok b => o = .ok (v b) (io b)
  | .exc x => ∃ io, o = .exc x io
  | .bad => True
/-- an operator's outcome -/
def OpM (o : Option D) (m : M β) (v : β → D) : Prop := match m with
  | .ok b => o = some (v b)
  | .exc _ => False
  | .bad => True
variable {z : T} {m : M β} {fin : β → T → Prop} {X : Xc → Gam → Prop} {fs : List Fn} {Γ Γ1 Γ2 : Gam}
theorem Tie.bad : Tie z (.bad : M β) fin X := trivial
theorem Tie.done {b : β} (h : fin b z) : Tie z (.ok b) fin X := h
/-- a part, then the rest -/
theorem Tie.part {δ : Type} {r : Rz α} {K : α → Gam → T} {n : M δ} {k : δ → M β} {v : δ → α} {g : δ → Gam} (h : Tie r n (fun b z => z = .ok (v b) (g b)) X) (hk : ∀ b, Tie (K (v b) (g b)) (k b) fin X) : Tie (r.to K) (n.bind k) fin X := by
  cases n with
  | ok b =>
    have e : r = .ok (v b) (g b) := h
    rw [e]; exact hk b
  | exc x =>
    obtain ⟨Γ, e, q⟩ := h
    rw [e]; exact ⟨Γ, rfl, q⟩
  | bad => trivial
theorem Tie.seq {δ : Type} {z1 : Sz} {K : Gam → Sz} {n : M δ} {k : δ → M β} {g : δ → Gam} {fin : β → Sz → Prop} (h : Tie z1 n (fun b z => z = .nx (g b)) X) (hk : ∀ b, Tie (K (g b)) (k b) fin X) : Tie (z1.seq K) (n.bind k) fin X := by
  cases n with
  | ok b =>
    have e : z1 = .nx (g b) := h
    rw [e]; exact hk b
  | exc x =>
    obtain ⟨Γ, e, q⟩ := h
    rw [e]; exact ⟨Γ, rfl, q⟩
  | bad => trivial
theorem Tie.whole {r : Rz α} {m : M β} {fin : β → Rz α → Prop} (h : Tie (r.to Rz.ok) m fin X) : Tie r m fin X := by rw [to_ok] at h; exact h
/-! ### expressions -/
variable {K : D → Gam → T} {KL : List D → Gam → T} {KB : Bool → Gam → T}
theorem Tie.var {i : Nat} {d : D} (h : getG Γ i = some d) (k : Tie (K d Γ) m fin X) : Tie ((ev fs (.var i) Γ).to K) m fin X := by
  have e : ev fs (.var i) Γ = .ok d Γ := by show Rz.opt (getG Γ i) Γ = _; rw [h]; rfl
  rw [e]; exact k
theorem Tie.fv {i : Nat} {d : D} (h : getG Γ i = some d) (k : Tie (K d Γ) m fin X) : Tie ((ev fs (.fv i) Γ).to K) m fin X := Tie.var (fs := fs) h k
theorem Tie.mv {i : Nat} {d : D} (h : getG Γ i = some d) (hg : Γ.set i none = Γ1) (k : Tie (K d Γ1) m fin X) : Tie ((ev fs (.mv i) Γ).to K) m fin X := by
  have e : ev fs (.mv i) Γ = .ok d Γ1 := by show Rz.opt (getG Γ i) (Γ.set i none) = _; rw [h, hg]; rfl
  rw [e]; exact k
theorem Tie.int {i : Int} (k : Tie (K (E i) Γ) m fin X) : Tie ((ev fs (.int i) Γ).to K) m fin X := k
theorem Tie.bl {i : Bool} (k : Tie (K (E i) Γ) m fin X) : Tie ((ev fs (.bl i) Γ).to K) m fin X := k
theorem Tie.str {i : Str} (k : Tie (K (E i) Γ) m fin X) : Tie ((ev fs (.str i) Γ).to K) m fin X := k
theorem Tie.non (k : Tie (K .non Γ) m fin X) : Tie ((ev fs .non Γ).to K) m fin X := k
theorem Tie.neg {a : Ex} (k : Tie ((ev fs a Γ).to fun x Γ1 => (Rz.opt (negI x) Γ1).to K) m fin X) : Tie ((ev fs (.neg a) Γ).to K) m fin X := by
  rw [ev_neg, bind_to]; exact k
theorem Tie.bin {o : B2} {a b : Ex} (k : Tie ((ev fs a Γ).to fun x Γ1 => (ev fs b Γ1).to fun y Γ2 => (Rz.opt (o.op x y) Γ2).to K) m fin X) : Tie ((ev fs (.bin o a b) Γ).to K) m fin X := by
  rw [ev_bin, bind_to]; simp only [bind_to]; exact k
theorem Tie.cmp {o : C2} {a b : Ex} (k : Tie ((ev fs a Γ).to fun x Γ1 => (ev fs b Γ1).to fun y Γ2 => (Rz.opt (o.op x y) Γ2).to K) m fin X) : Tie ((ev fs (.cmp o a b) Γ).to K) m fin X := by
  rw [ev_cmp, bind_to]; simp only [bind_to]; exact k
theorem Tie.glob {α : Type} [Enc α] {x : Str} {d : D} {a : α} (h : d = E a) (k : Tie (K (E a) Γ) m fin X) : Tie ((ev fs (.glob x d) Γ).to K) m fin X := by rw [h]; exact k
/-- a chain, its first two asked -/
def chK (g1 g2 : D → D → Option D) (f3 : Gam → Rz D) (x y : D) (Γ2 : Gam) : Rz D := match g1 x y with
  | some (.bl true) => (f3 Γ2).bind fun z Γ3 => Rz.opt (g2 y z) Γ3
  | some (.bl false) => .ok (.bl false) Γ2
  | _ => .bad
theorem Tie.ch2 {o1 o2 : C2} {a b c : Ex} (k : Tie ((ev fs a Γ).to fun x Γ1 => (ev fs b Γ1).to fun y Γ2 => (chK o1.op o2.op (ev fs c) x y Γ2).to K) m fin X) : Tie ((ev fs (.ch2 o1 o2 a b c) Γ).to K) m fin X := by
  have e : ev fs (.ch2 o1 o2 a b c) Γ = (ev fs a Γ).bind fun x Γ1 => (ev fs b Γ1).bind fun y Γ2 => chK o1.op o2.op (ev fs c) x y Γ2 := rfl
  rw [e, bind_to]; simp only [bind_to]; exact k
theorem Tie.chP {γ : Type} [Enc γ] {g1 g2 : D → D → Option D} {f3 : Gam → Rz D} {x y : D} {b1 b2 : Bool} {z : γ} (h : g1 x y = some (E b1)) (hc : Tie ((f3 Γ).to Rz.ok) (.ok z) (fun z r => r = .ok (E z) Γ) X) (h2 : g2 y (E z) = some (E b2)) (k : Tie (K (E (b1 && b2)) Γ) m fin X) : Tie ((chK g1 g2 f3 x y Γ).to K) m fin X := by
  rw [to_ok] at hc
  have e3 : f3 Γ = .ok (E z) Γ := hc
  unfold chK
  rw [h]
  cases b1 with
  | false => exact k
  | true =>
    show Tie (((f3 Γ).bind _).to K) m fin X
    rw [e3, EV.bind_ok, h2]; exact k
theorem Tie.chM {γ : Type} [Enc γ] {g1 g2 : D → D → Option D} {f3 : Gam → Rz D} {x y : D} {b1 : Bool} {b2 : γ → Bool} {n : M γ} {k : Bool → M β} (h : g1 x y = some (E b1)) (hc : Tie ((f3 Γ).to Rz.ok) n (fun z r => r = .ok (E z) Γ) X) (h2 : ∀ z, g2 y (E z) = some (E (b2 z))) (hk : ∀ b, Tie (K (E b) Γ) (k b) fin X) : Tie ((chK g1 g2 f3 x y Γ).to K) ((if b1 = true then n.bind fun z => .ok (b2 z) else .ok false).bind k) fin X := by
  rw [to_ok] at hc
  unfold chK
  rw [h]
  cases b1 with
  | false => exact hk false
  | true =>
    show Tie (((f3 Γ).bind _).to K) _ fin X
    cases n with
    | bad => trivial
    | exc e =>
      obtain ⟨Γ', e1, q⟩ := hc
      have e2 : f3 Γ = .exc e Γ' := e1
      rw [e2]; exact ⟨Γ', rfl, q⟩
    | ok z =>
      have e2 : f3 Γ = .ok (E z) Γ := hc
      rw [e2, EV.bind_ok, h2]; exact hk (b2 z)
theorem Tie.ch3 {o1 o2 o3 : C2} {a b c d : Ex} (k : Tie ((ev fs a Γ).to fun x Γ1 => (ev fs b Γ1).to fun y Γ2 => (match o1.op x y with
  | some (.bl true) => eCh2 o2.op o3.op (fun Γ => .ok y Γ) (ev fs c) (ev fs d) Γ2
  | some (.bl false) => .ok (.bl false) Γ2
  | _ => .bad : Rz D).to K) m fin X) : Tie ((ev fs (.ch3 o1 o2 o3 a b c d) Γ).to K) m fin X := by
  have e : ev fs (.ch3 o1 o2 o3 a b c d) Γ = (ev fs a Γ).bind fun x Γ1 => (ev fs b Γ1).bind fun y Γ2 => (match o1.op x y with
  | some (.bl true) => eCh2 o2.op o3.op (fun Γ => .ok y Γ) (ev fs c) (ev fs d) Γ2
  | some (.bl false) => .ok (.bl false) Γ2
  | _ => .bad : Rz D) := rfl
  rw [e, bind_to]; simp only [bind_to]; exact k
theorem Tie.ch3P {γ δ : Type} [Enc γ] [Enc δ] {g1 g2 g3 : D → D → Option D} {f3 f4 : Gam → Rz D} {x y : D} {b1 b2 b3 : Bool} {z : γ} {t : δ} (h : g1 x y = some (E b1)) (hc : Tie ((f3 Γ).to Rz.ok) (.ok z) (fun z r => r = .ok (E z) Γ) X) (h2 : g2 y (E z) = some (E b2)) (hd : Tie ((f4 Γ).to Rz.ok) (.ok t) (fun z r => r = .ok (E z) Γ) X) (h3 : g3 (E z) (E t) = some (E b3)) (k : Tie (K (E (b1 && (b2 && b3))) Γ) m fin X) : Tie ((match g1 x y with
  | some (.bl true) => eCh2 g2 g3 (fun Γ => .ok y Γ) f3 f4 Γ
  | some (.bl false) => .ok (.bl false) Γ
  | _ => .bad : Rz D).to K) m fin X := by
  rw [to_ok] at hc hd
  have e3 : f3 Γ = .ok (E z) Γ := hc
  have e4 : f4 Γ = .ok (E t) Γ := hd
  rw [h]
  cases b1 with
  | false => exact k
  | true =>
    have e : eCh2 g2 g3 (fun Γ => .ok y Γ) f3 f4 Γ = .ok (E (b2 && b3)) Γ := by
      unfold eCh2
      rw [EV.bind_ok, e3, EV.bind_ok, h2]
      cases b2 with
      | false => rfl
      | true =>
        show (f4 Γ).bind _ = _
        rw [e4, EV.bind_ok, h3]; rfl
    show Tie ((eCh2 g2 g3 (fun Γ => .ok y Γ) f3 f4 Γ).to K) m fin X
    rw [e]; exact k
theorem Tie.ix {a b : Ex} (k : Tie ((ev fs a Γ).to fun x Γ1 => (ev fs b Γ1).to fun y Γ2 => (Rz.opt (ixO x y) Γ2).to K) m fin X) : Tie ((ev fs (.ix a b) Γ).to K) m fin X := by
  rw [ev_ix, bind_to]; simp only [bind_to]; exact k
theorem Tie.frz {a : Ex} (k : Tie ((ev fs a Γ).to K) m fin X) : Tie ((ev fs (.frz a) Γ).to K) m fin X := k
theorem Tie.sub {mo : Mode} {a : Ex} (k : Tie ((ev fs a Γ).to K) m fin X) : Tie ((ev fs (.sub mo a) Γ).to K) m fin X := k
theorem Tie.flat {a : Ex} (k : Tie ((ev fs a Γ).to fun x Γ1 => (Rz.opt (if isFlat x = true then some x else none) Γ1).to K) m fin X) : Tie ((ev fs (.flat a) Γ).to K) m fin X := by
  rw [ev_flat, bind_to]; exact k
theorem Tie.flats {a : Ex} (k : Tie ((ev fs a Γ).to fun x Γ1 => (Rz.opt (if flatParts x = true then some x else none) Γ1).to K) m fin X) : Tie ((ev fs (.flats a) Γ).to K) m fin X := by
  rw [ev_flats, bind_to]; exact k
theorem Tie.isi {Cs : List String} {a : Ex} (k : Tie ((ev fs a Γ).to fun x Γ1 => (Rz.opt (isiD Cs x) Γ1).to K) m fin X) : Tie ((ev fs (.isi Cs a) Γ).to K) m fin X := by
  rw [ev_isi, bind_to]; exact k
theorem Tie.notV {a : Ex} {K : D → Gam → T} (k : Tie ((ev fs a Γ).to fun x Γ1 => (Rz.opt (match x with | .bl b => some (.bl (!b)) | _ => none) Γ1).to K) m fin X) : Tie ((ev fs (.notV a) Γ).to K) m fin X := by
  have e : ev fs (.notV a) Γ = (ev fs a Γ).bind fun x Γ1 => Rz.opt (match x with | .bl b => some (.bl (!b)) | _ => none) Γ1 := rfl
  rw [e, bind_to]; exact k
theorem Tie.tup {mo : Mode} {as : Ar} (k : Tie ((evA fs as Γ).to fun xs Γ1 => (Rz.opt (some (D.tup xs)) Γ1).to K) m fin X) : Tie ((ev fs (.tup mo as) Γ).to K) m fin X := by
  rw [ev_tup, bind_to]; exact k
theorem Tie.lst {mo : Mode} {as : Ar} (k : Tie ((evA fs as Γ).to fun xs Γ1 => (Rz.opt (some (D.lst xs)) Γ1).to K) m fin X) : Tie ((ev fs (.lst mo as) Γ).to K) m fin X := by
  rw [ev_lst, bind_to]; exact k
theorem Tie.blt {o : BN} {as : Ar} (k : Tie ((evA fs as Γ).to fun xs Γ1 => (Rz.opt (o.op xs) Γ1).to K) m fin X) : Tie ((ev fs (.blt o as) Γ).to K) m fin X := by
  rw [ev_blt, bind_to]; exact k
/-- arguments -/
theorem Tie.a0 (k : Tie (KL [] Γ) m fin X) : Tie ((evA fs .nil Γ).to KL) m fin X := k
theorem Tie.a {a : Ex} {r : Ar} (k : Tie ((ev fs a Γ).to fun x Γ1 => (evA fs r Γ1).to fun xs Γ2 => KL (x :: xs) Γ2) m fin X) : Tie ((evA fs (.e a r) Γ).to KL) m fin X := by
  rw [evA_e, bind_to]; simp only [bind_to]; exact k
theorem Tie.aio {i : Nat} {r : Ar} {d : D} (h : getG Γ i = some d) (hg : Γ.set i none = Γ1) (k : Tie ((evA fs r Γ1).to fun xs Γ2 => KL (d :: xs) Γ2) m fin X) : Tie ((evA fs (.io i r) Γ).to KL) m fin X := by
  rw [evA_io, h, hg, opt_ok, EV.bind_ok, bind_to]; exact k
/-- an operator that always answers; one that may not -/
theorem Tie.op {o : Option α} {a : α} {K : α → Gam → T} (h : o = some a) (k : Tie (K a Γ) m fin X) : Tie ((Rz.opt o Γ).to K) m fin X := by
  rw [h]; exact k
theorem Tie.opM {δ : Type} {o : Option D} {n : M δ} {v : δ → D} {k : δ → M β} (h : OpM o n v) (hk : ∀ b, Tie (K (v b) Γ) (k b) fin X) : Tie ((Rz.opt o Γ).to K) (n.bind k) fin X := by
  cases n with
  | ok b =>
    have e : o = some (v b) := h
    rw [e]; exact hk b
  | exc x => exact h.elim
  | bad => trivial
/-- a call -/
def Fo.r (o : Fo) (ios : Ios) (Γ : Gam) : Rz D := match o with
  | .ok d io => .ok d (putIo ios io Γ)
  | .exc x io => .exc x (putIo ios io Γ)
  | .bad => .bad
theorem Tie.call {g : Nat} {as : Ar} {f : Fn} (hf : fs.getD g default = f) (k : Tie ((evA fs as Γ).to fun ds Γ1 => ((f.F (ds ++ f.dds)).r (evIos as) Γ1).to K) m fin X) : Tie ((ev fs (.call g as) Γ).to K) m fin X := by
  have e : ev fs (.call g as) Γ = (evA fs as Γ).bind fun ds Γ1 => (f.F (ds ++ f.dds)).r (evIos as) Γ1 := by
    rw [ev_call, hf]; rfl
  rw [e, bind_to]; exact k
theorem Tie.fo {δ : Type} {o : Fo} {ios : Ios} {n : M δ} {v : δ → D} {io : δ → List (Option D)} {g : δ → Gam} {k : δ → M β} (h : FoTie o n v io) (hg : ∀ b, putIo ios (io b) Γ = g b) (hx : ∀ x io', X x (putIo ios io' Γ)) (hk : ∀ b, Tie (K (v b) (g b)) (k b) fin X) : Tie ((o.r ios Γ).to K) (n.bind k) fin X := by
  cases n with
  | ok b =>
    have e : o = .ok (v b) (io b) := h
    rw [e]
    show Tie (K (v b) (putIo ios (io b) Γ)) _ _ _
    rw [hg]; exact hk b
  | exc x =>
    obtain ⟨io', e⟩ := h
    rw [e]; exact ⟨_, rfl, hx x io'⟩
  | bad => trivial
/-- tests -/
theorem Tie.tval {a : Ex} (k : Tie ((ev fs a Γ).to fun d Γ1 => (Rz.opt (match d with | .bl b => some b | _ => none) Γ1).to KB) m fin X) : Tie ((evT fs (.val a) Γ).to KB) m fin X := by
  have e : evT fs (.val a) Γ = (ev fs a Γ).bind fun d Γ1 => Rz.opt (match d with | .bl b => some b | _ => none) Γ1 := by
    rw [evT_val]; unfold eB; congr; funext d Γ1; cases d <;> rfl
  rw [e, bind_to]; exact k
theorem Tie.tcmp {o : C2} {a b : Ex} (k : Tie ((ev fs a Γ).to fun x Γ1 => (ev fs b Γ1).to fun y Γ2 => (Rz.opt (o.op x y) Γ2).to fun d Γ3 => (Rz.opt (match d with | .bl b => some b | _ => none) Γ3).to KB) m fin X) : Tie ((evT fs (.cmp o a b) Γ).to KB) m fin X := by
  have e : evT fs (.cmp o a b) Γ = (ev fs (.cmp o a b) Γ).bind fun d Γ1 => Rz.opt (match d with | .bl b => some b | _ => none) Γ1 := by
    rw [evT_cmp]; unfold eB; congr; funext d Γ1; cases d <;> rfl
  rw [e, bind_to]; exact Tie.cmp k
theorem Tie.ttru {a : Ex} (k : Tie ((ev fs a Γ).to fun d Γ1 => (Rz.opt (truD d) Γ1).to KB) m fin X) : Tie ((evT fs (.tru a) Γ).to KB) m fin X := by
  rw [evT_tru, bind_to]; exact k
theorem Tie.tnot {t : Tx} (k : Tie ((evT fs t Γ).to fun b Γ1 => KB (!b) Γ1) m fin X) : Tie ((evT fs (.not t) Γ).to KB) m fin X := by
  rw [evT_not, bind_to]; exact k
theorem Tie.isB {b : Bool} (k : Tie (KB b Γ) m fin X) : Tie ((Rz.opt (match E b with | .bl b => some b | _ => none) Γ).to KB) m fin X := k
theorem Tie.tandP {t u : Tx} {x y : Bool} (h : Tie (evT fs t Γ) (.ok x) (fun b z => z = .ok b Γ) X) (h2 : Tie (evT fs u Γ) (.ok y) (fun b z => z = .ok b Γ) X) (hk : Tie (KB (x && y) Γ) m fin X) : Tie ((evT fs (.and t u) Γ).to KB) m fin X := by
  have e1 : evT fs t Γ = .ok x Γ := h
  have e2 : evT fs u Γ = .ok y Γ := h2
  rw [evT_and, e1, EV.bind_ok]
  cases x
  · exact hk
  · rw [if_pos rfl, e2]; exact hk
theorem Tie.torP {t u : Tx} {x y : Bool} (h : Tie (evT fs t Γ) (.ok x) (fun b z => z = .ok b Γ) X) (h2 : Tie (evT fs u Γ) (.ok y) (fun b z => z = .ok b Γ) X) (hk : Tie (KB (x || y) Γ) m fin X) : Tie ((evT fs (.or t u) Γ).to KB) m fin X := by
  have e1 : evT fs t Γ = .ok x Γ := h
  have e2 : evT fs u Γ = .ok y Γ := h2
  rw [evT_or, e1, EV.bind_ok]
  cases x
  · rw [if_neg (by decide), e2]; exact hk
  · exact hk
/-- and, or as values -/
theorem Tie.vandP {a b : Ex} {x y : Bool} (h : Tie (ev fs a Γ) (.ok x) (fun b z => z = .ok (E b) Γ) X) (h2 : Tie (ev fs b Γ) (.ok y) (fun b z => z = .ok (E b) Γ) X) (hk : Tie (K (E (x && y)) Γ) m fin X) : Tie ((ev fs (.andV a b) Γ).to K) m fin X := by
  have e1 : ev fs a Γ = .ok (.bl x) Γ := h
  have e2 : ev fs b Γ = .ok (.bl y) Γ := h2
  rw [ev_and]; unfold eAndV; rw [e1, EV.bind_ok]
  cases x
  · exact hk
  · dsimp only; rw [e2]; exact hk
theorem Tie.vorP {a b : Ex} {x y : Bool} (h : Tie (ev fs a Γ) (.ok x) (fun b z => z = .ok (E b) Γ) X) (h2 : Tie (ev fs b Γ) (.ok y) (fun b z => z = .ok (E b) Γ) X) (hk : Tie (K (E (x || y)) Γ) m fin X) : Tie ((ev fs (.orV a b) Γ).to K) m fin X := by
  have e1 : ev fs a Γ = .ok (.bl x) Γ := h
  have e2 : ev fs b Γ = .ok (.bl y) Γ := h2
  rw [ev_or]; unfold eOrV; rw [e1, EV.bind_ok]
  cases x
  · dsimp only; rw [e2]; exact hk
  · exact hk
theorem Tie.vand {a b : Ex} {n n2 : M Bool} {k : Bool → M β} (h : Tie (ev fs a Γ) n (fun b z => z = .ok (E b) Γ) X) (h2 : Tie (ev fs b Γ) n2 (fun b z => z = .ok (E b) Γ) X) (hk : ∀ b, Tie (K (E b) Γ) (k b) fin X) : Tie ((ev fs (.andV a b) Γ).to K) ((n.bind fun b => if b = true then n2 else .ok false).bind k) fin X := by
  refine Tie.part (v := fun b => E b) (g := fun _ => Γ) ?_ hk
  rw [ev_and]; unfold eAndV; rw [bind_to']
  refine Tie.part (v := fun b => E b) (g := fun _ => Γ) h fun b => ?_
  cases b
  · rfl
  · exact h2
theorem Tie.vor {a b : Ex} {n n2 : M Bool} {k : Bool → M β} (h : Tie (ev fs a Γ) n (fun b z => z = .ok (E b) Γ) X) (h2 : Tie (ev fs b Γ) n2 (fun b z => z = .ok (E b) Γ) X) (hk : ∀ b, Tie (K (E b) Γ) (k b) fin X) : Tie ((ev fs (.orV a b) Γ).to K) ((n.bind fun b => if b = true then .ok true else n2).bind k) fin X := by
  refine Tie.part (v := fun b => E b) (g := fun _ => Γ) ?_ hk
  rw [ev_or]; unfold eOrV; rw [bind_to']
  refine Tie.part (v := fun b => E b) (g := fun _ => Γ) h fun b => ?_
  cases b
  · exact h2
  · rfl
theorem Tie.tch2 {o1 o2 : C2} {a b c : Ex} (k : Tie ((ev fs (.ch2 o1 o2 a b c) Γ).to fun d Γ3 => (Rz.opt (match d with | .bl b => some b | _ => none) Γ3).to KB) m fin X) : Tie ((evT fs (.ch2 o1 o2 a b c) Γ).to KB) m fin X := by
  have e : evT fs (.ch2 o1 o2 a b c) Γ = (ev fs (.ch2 o1 o2 a b c) Γ).bind fun d Γ1 => Rz.opt (match d with | .bl b => some b | _ => none) Γ1 := by
    show eB (ev fs (.ch2 o1 o2 a b c)) Γ = _
    unfold eB; congr; funext d Γ1; cases d <;> rfl
  rw [e, bind_to]; exact k
theorem Tie.tch3 {o1 o2 o3 : C2} {a b c d : Ex} (k : Tie ((ev fs (.ch3 o1 o2 o3 a b c d) Γ).to fun d Γ3 => (Rz.opt (match d with | .bl b => some b | _ => none) Γ3).to KB) m fin X) : Tie ((evT fs (.ch3 o1 o2 o3 a b c d) Γ).to KB) m fin X := by
  have e : evT fs (.ch3 o1 o2 o3 a b c d) Γ = (ev fs (.ch3 o1 o2 o3 a b c d) Γ).bind fun d Γ1 => Rz.opt (match d with | .bl b => some b | _ => none) Γ1 := by
    show eB (ev fs (.ch3 o1 o2 o3 a b c d)) Γ = _
    unfold eB; congr; funext d Γ1; cases d <;> rfl
  rw [e, bind_to]; exact k
/-- and, or: both parts without effects -/
theorem Tie.tand {t u : Tx} {n n2 : M Bool} {k : Bool → M β} (h : Tie (evT fs t Γ) n (fun b z => z = .ok b Γ) X) (h2 : Tie (evT fs u Γ) n2 (fun b z => z = .ok b Γ) X) (hk : ∀ b, Tie (KB b Γ) (k b) fin X) : Tie ((evT fs (.and t u) Γ).to KB) ((n.bind fun b => if b = true then n2 else .ok false).bind k) fin X := by
  refine Tie.part (v := fun b => b) (g := fun _ => Γ) ?_ hk
  rw [evT_and, bind_to']
  refine Tie.part (v := fun b => b) (g := fun _ => Γ) h fun b => ?_
  cases b
  · rfl
  · exact h2
theorem Tie.tor {t u : Tx} {n n2 : M Bool} {k : Bool → M β} (h : Tie (evT fs t Γ) n (fun b z => z = .ok b Γ) X) (h2 : Tie (evT fs u Γ) n2 (fun b z => z = .ok b Γ) X) (hk : ∀ b, Tie (KB b Γ) (k b) fin X) : Tie ((evT fs (.or t u) Γ).to KB) ((n.bind fun b => if b = true then .ok true else n2).bind k) fin X := by
  refine Tie.part (v := fun b => b) (g := fun _ => Γ) ?_ hk
  rw [evT_or, bind_to']
  refine Tie.part (v := fun b => b) (g := fun _ => Γ) h fun b => ?_
  cases b
  · exact h2
  · rfl
theorem Tie.bor {a : Ex} {Mk : List Bool} {n : M γ} {v : γ → D} {g g2 : γ → Gam} {k : γ → M β} (h : Tie (ev fs a Γ) n (fun b z => z = .ok (v b) (g b)) fun x Γ' => X x (mixG Mk Γ Γ')) (hg : ∀ b, mixG Mk Γ (g b) = g2 b) (hk : ∀ b, Tie (K (v b) (g2 b)) (k b) fin X) : Tie ((ev fs (.bor Mk a) Γ).to K) (n.bind k) fin X := by
  refine Tie.part (v := v) (g := g2) ?_ hk
  rw [ev_bor]; unfold eBor
  cases n with
  | ok b =>
    have e : ev fs a Γ = .ok (v b) (g b) := h
    rw [e]
    show Rz.ok (v b) (mixG Mk Γ (g b)) = _
    rw [hg]
  | exc x =>
    obtain ⟨Γ', e, q⟩ := h
    have e' : ev fs a Γ = .exc x Γ' := e
    rw [e']; exact ⟨_, rfl, q⟩
  | bad => trivial
end
end EV

/-! EvZ: operators on typed data; walks, statements, defs: their ties. -/
namespace EV
open PySem PySem.Spec L2
/-! ### numbers -/
def mulM (x y : Int) : M Int := if mulC x y = true then .ok (x * y) else .bad
def divM (x y : Int) : M Int := if divC x y = true then .ok (x / y) else .bad
def modM (x y : Int) : M Int := if posC x y = true then .ok (x % y) else .bad
def powM (x y : Int) : M Int := if powC x y = true then .ok (x ^ y.toNat) else .bad
theorem op_add {x y : Int} : B2.op .add (E x) (E y) = some (E (x + y)) := rfl
theorem op_sub {x y : Int} : B2.op .sub (E x) (E y) = some (E (x - y)) := rfl
theorem opM_i2c {C : Int → Int → Bool} {g : Int → Int → Int} {x y : Int} : OpM (i2c C (fun i j => .int (g i j)) (E x) (E y)) (if C x y = true then .ok (g x y) else .bad) (E (α := Int)) := by
  show OpM (if C x y = true then some (D.int (g x y)) else none) _ _
  by_cases h : C x y = true
  · rw [if_pos h, if_pos h]; rfl
  · rw [if_neg h, if_neg h]; trivial
theorem opM_mul {x y : Int} : OpM (B2.op .mul (E x) (E y)) (mulM x y) E := opM_i2c
theorem opM_div {x y : Int} : OpM (B2.op .div (E x) (E y)) (divM x y) E := opM_i2c
theorem opM_mod {x y : Int} : OpM (B2.op .mod (E x) (E y)) (modM x y) E := opM_i2c
theorem opM_pow {x y : Int} : OpM (B2.op .pow (E x) (E y)) (powM x y) E := opM_i2c (g := fun i j => i ^ j.toNat)
theorem op_lt {x y : Int} : C2.op .lt (E x) (E y) = some (E (decide (x < y))) := rfl
theorem op_le {x y : Int} : C2.op .le (E x) (E y) = some (E (decide (x ≤ y))) := rfl
theorem op_gt {x y : Int} : C2.op .gt (E x) (E y) = some (E (decide (y < x))) := rfl
theorem op_ge {x y : Int} : C2.op .ge (E x) (E y) = some (E (decide (y ≤ x))) := rfl
theorem op_neg {x : Int} : negI (E x) = some (E (-x)) := rfl
theorem op_not {b : Bool} : (match E b with | .bl b => some (D.bl (!b)) | _ => none) = some (E (!b)) := rfl
theorem op_isFlat {α : Type} [Enc α] {a : α} (h : isFlat (E a) = true) : (if isFlat (E a) = true then some (E a) else none) = some (E a) := if_pos h
theorem op_isFlats {α : Type} [Enc α] {a : α} (h : flatParts (E a) = true) : (if flatParts (E a) = true then some (E a) else none) = some (E a) := if_pos h
theorem flat_ints {xs : List Int} : flatParts (E xs) = true := by
  show (xs.map Enc.d).all isFlat = true
  rw [List.all_eq_true]
  intro d hd
  obtain ⟨x, _, rfl⟩ := List.mem_map.mp hd
  rfl
theorem op_truI {x : Int} : truD (E x) = some (x != 0) := rfl
theorem op_truB {x : Bool} : truD (E x) = some x := rfl
theorem op_truL {α : Type} [Enc α] {xs : List α} : truD (E xs) = some (!xs.isEmpty) := by cases xs <;> rfl
theorem op_truN : truD .non = some false := rfl
/-! ### equality -/
class Dat (α : Type) extends Enc α where
  dec : DecidableEq α
  eqv : ∀ a b : α, PyData.eqv (toP (Enc.d a)) (toP (Enc.d b)) = decide (a = b)
  dep : Nat
  good : α → Bool
  sh : ∀ a : α, good a = true → shN dep (Enc.d a) = true
instance {α : Type} [h : Dat α] : DecidableEq α := h.dec
/-- data that are good as they are -/
class Plain (α : Type) [Dat α] : Prop where
  all : ∀ a : α, Dat.good a = true
def eqM {α : Type} [Dat α] (a b : α) : M Bool := if (decide (Dat.dep α ≤ 60) && (Dat.good a && Dat.good b)) = true then .ok (decide (a = b)) else .bad
theorem sh2_good {α : Type} [Dat α] {a b : α} (h : (decide (Dat.dep α ≤ 60) && (Dat.good a && Dat.good b)) = true) : sh2 (E a) (E b) = true := by
  rw [Bool.and_eq_true, Bool.and_eq_true] at h
  unfold sh2
  rw [shN_le (Dat.sh a h.2.1) (of_decide_eq_true h.1), shN_le (Dat.sh b h.2.2) (of_decide_eq_true h.1)]; rfl
theorem opM_eq {α : Type} [Dat α] {a b : α} : OpM (C2.op .eq (E a) (E b)) (eqM a b) E := by
  show OpM (eqO (E a) (E b)) _ _
  unfold eqO eqM
  by_cases h : (decide (Dat.dep α ≤ 60) && (Dat.good a && Dat.good b)) = true
  · rw [if_pos h, if_pos (sh2_good h), Dat.eqv]; rfl
  · rw [if_neg h]; trivial
def neM {α : Type} [Dat α] (a b : α) : M Bool := (eqM a b).bind fun b => .ok (!b)
theorem opM_ne {α : Type} [Dat α] {a b : α} : OpM (C2.op .ne (E a) (E b)) (neM a b) E := by
  show OpM (neO (E a) (E b)) _ _
  unfold neO neM eqM
  by_cases h : (decide (Dat.dep α ≤ 60) && (Dat.good a && Dat.good b)) = true
  · rw [if_pos h, if_pos (sh2_good h), Dat.eqv]; rfl
  · rw [if_neg h]; trivial
theorem eqM_ok {α : Type} [Dat α] [Plain α] {a b : α} (h : Dat.dep α ≤ 60 := by decide) : eqM a b = .ok (decide (a = b)) := by
  unfold eqM
  rw [decide_eq_true h, Plain.all, Plain.all]; rfl
theorem op_eq {α : Type} [Dat α] [Plain α] {a b : α} (h : Dat.dep α ≤ 60 := by decide) : C2.op .eq (E a) (E b) = some (E (decide (a = b))) := by
  have q := opM_eq (a := a) (b := b)
  rw [eqM_ok h] at q; exact q
theorem op_ne {α : Type} [Dat α] [Plain α] {a b : α} (h : Dat.dep α ≤ 60 := by decide) : C2.op .ne (E a) (E b) = some (E (!decide (a = b))) := by
  have q := opM_ne (a := a) (b := b)
  unfold neM at q
  rw [eqM_ok h] at q; exact q
instance : Dat Int where
  dec := inferInstance
  eqv a b := by show PyData.eqv (.int a) (.int b) = _; simp only [PyData.eqv]; exact Bool.eq_iff_iff.mpr (by simp)
  dep := 0
  good _ := true
  sh _ _ := rfl
instance : Plain Int := ⟨fun _ => rfl⟩
instance : Dat Bool where
  dec := inferInstance
  eqv a b := by show PyData.eqv (.bool a) (.bool b) = _; simp only [PyData.eqv]; exact Bool.eq_iff_iff.mpr (by simp)
  dep := 0
  good _ := true
  sh _ _ := rfl
instance : Plain Bool := ⟨fun _ => rfl⟩
instance : Dat Str where
  dec := inferInstance
  eqv a b := by show PyData.eqv (.str a) (.str b) = _; simp only [PyData.eqv]; exact Bool.eq_iff_iff.mpr (by simp)
  dep := 0
  good x := PyData.strOk x
  sh _ h := h
theorem eqvAll_map {α : Type} [Dat α] : ∀ xs ys : List α, PyData.eqvAll (toPs (xs.map Enc.d)) (toPs (ys.map Enc.d)) = decide (xs = ys)
  | [], [] => rfl
  | x :: xs, y :: ys => by
    show (PyData.eqv (toP (Enc.d x)) (toP (Enc.d y)) && PyData.eqvAll (toPs (xs.map Enc.d)) (toPs (ys.map Enc.d))) = _
    rw [Dat.eqv, eqvAll_map xs ys, ← Bool.decide_and]
    congr 1; simp
  | [], _ :: _ => rfl
  | _ :: _, [] => rfl
theorem shN_map {α : Type} [Dat α] {xs : List α} (h : xs.all Dat.good = true) : (xs.map Enc.d).all (shN (Dat.dep α)) = true := by
  rw [List.all_eq_true] at h ⊢
  intro d hd
  obtain ⟨x, hx, rfl⟩ := List.mem_map.mp hd
  exact Dat.sh x (h x hx)
instance {α : Type} [Dat α] : Dat (List α) where
  dec := inferInstance
  eqv a b := eqvAll_map a b
  dep := Dat.dep α + 1
  good xs := xs.all Dat.good
  sh xs h := shN_map h
instance {α : Type} [Dat α] [Plain α] : Plain (List α) := ⟨fun xs => List.all_eq_true.mpr fun x _ => Plain.all x⟩
instance {α : Type} [Dat α] : Dat (Tu α) where
  dec := inferInstance
  eqv a b := by
    show PyData.eqvAll (toPs (a.l.map Enc.d)) (toPs (b.l.map Enc.d)) = _
    rw [eqvAll_map]
    cases a; cases b; simp
  dep := Dat.dep α + 1
  good xs := xs.l.all Dat.good
  sh xs h := shN_map h
instance {α : Type} [Dat α] [Plain α] : Plain (Tu α) := ⟨fun xs => List.all_eq_true.mpr fun x _ => Plain.all x⟩
theorem sh_max {α β : Type} [Dat α] [Dat β] {a : α} {n : Nat} (h : Dat.good a = true) (l : Dat.dep α ≤ n) : shN n (Enc.d a) = true := shN_le (Dat.sh a h) l
instance {α β : Type} [Dat α] [Dat β] : Dat (α × β) where
  dec := inferInstance
  eqv a b := by
    show (PyData.eqv (toP (Enc.d a.1)) (toP (Enc.d b.1)) && (PyData.eqv (toP (Enc.d a.2)) (toP (Enc.d b.2)) && true)) = _
    rw [Dat.eqv, Dat.eqv, Bool.and_true, ← Bool.decide_and]
    cases a; cases b; congr 1; simp
  dep := max (Dat.dep α) (Dat.dep β) + 1
  good p := Dat.good p.1 && Dat.good p.2
  sh p h := by
    rw [Bool.and_eq_true] at h
    show (shN _ (Enc.d p.1) && (shN _ (Enc.d p.2) && true)) = true
    rw [shN_le (Dat.sh p.1 h.1) (Nat.le_max_left _ _), shN_le (Dat.sh p.2 h.2) (Nat.le_max_right _ _)]; rfl
instance {α β : Type} [Dat α] [Dat β] [Plain α] [Plain β] : Plain (α × β) := ⟨fun p => by show (Dat.good p.1 && Dat.good p.2) = true; rw [Plain.all, Plain.all]; rfl⟩
instance {α β γ : Type} [Dat α] [Dat β] [Dat γ] : Dat (T3 α β γ) where
  dec := inferInstance
  eqv a b := by
    show (PyData.eqv (toP (Enc.d a.a)) (toP (Enc.d b.a)) && (PyData.eqv (toP (Enc.d a.b)) (toP (Enc.d b.b)) && (PyData.eqv (toP (Enc.d a.c)) (toP (Enc.d b.c)) && true))) = _
    rw [Dat.eqv, Dat.eqv, Dat.eqv, Bool.and_true, ← Bool.decide_and, ← Bool.decide_and]
    cases a; cases b; congr 1; simp
  dep := max (Dat.dep α) (max (Dat.dep β) (Dat.dep γ)) + 1
  good p := Dat.good p.a && (Dat.good p.b && Dat.good p.c)
  sh p h := by
    rw [Bool.and_eq_true, Bool.and_eq_true] at h
    show (shN _ (Enc.d p.a) && (shN _ (Enc.d p.b) && (shN _ (Enc.d p.c) && true))) = true
    rw [shN_le (Dat.sh p.a h.1) (by omega), shN_le (Dat.sh p.b h.2.1) (by omega), shN_le (Dat.sh p.c h.2.2) (by omega)]; rfl
instance {α β γ : Type} [Dat α] [Dat β] [Dat γ] [Plain α] [Plain β] [Plain γ] : Plain (T3 α β γ) := ⟨fun p => by show (Dat.good p.a && (Dat.good p.b && Dat.good p.c)) = true; rw [Plain.all, Plain.all, Plain.all]; rfl⟩
instance {α β γ δ : Type} [Dat α] [Dat β] [Dat γ] [Dat δ] : Dat (T4 α β γ δ) where
  dec := inferInstance
  eqv a b := by
    show (PyData.eqv (toP (Enc.d a.a)) (toP (Enc.d b.a)) && (PyData.eqv (toP (Enc.d a.b)) (toP (Enc.d b.b)) && (PyData.eqv (toP (Enc.d a.c)) (toP (Enc.d b.c)) && (PyData.eqv (toP (Enc.d a.d)) (toP (Enc.d b.d)) && true)))) = _
    rw [Dat.eqv, Dat.eqv, Dat.eqv, Dat.eqv, Bool.and_true, ← Bool.decide_and, ← Bool.decide_and, ← Bool.decide_and]
    cases a; cases b; congr 1; simp
  dep := max (Dat.dep α) (max (Dat.dep β) (max (Dat.dep γ) (Dat.dep δ))) + 1
  good p := Dat.good p.a && (Dat.good p.b && (Dat.good p.c && Dat.good p.d))
  sh p h := by
    rw [Bool.and_eq_true, Bool.and_eq_true, Bool.and_eq_true] at h
    show (shN _ (Enc.d p.a) && (shN _ (Enc.d p.b) && (shN _ (Enc.d p.c) && (shN _ (Enc.d p.d) && true)))) = true
    rw [shN_le (Dat.sh p.a h.1) (by omega), shN_le (Dat.sh p.b h.2.1) (by omega), shN_le (Dat.sh p.c h.2.2.1) (by omega), shN_le (Dat.sh p.d h.2.2.2) (by omega)]; rfl
instance {α β γ δ : Type} [Dat α] [Dat β] [Dat γ] [Dat δ] [Plain α] [Plain β] [Plain γ] [Plain δ] : Plain (T4 α β γ δ) := ⟨fun p => by show (Dat.good p.a && (Dat.good p.b && (Dat.good p.c && Dat.good p.d))) = true; rw [Plain.all, Plain.all, Plain.all, Plain.all]; rfl⟩
theorem op_isN {α : Type} [Enc α] {o : Option α} (h : ∀ a : α, isNonD (Enc.d a) .non = some (.bl false)) : C2.op .isN (E o) .non = some (E o.isNone) := by
  cases o with
  | none => rfl
  | some a => exact h a
theorem op_notN {α : Type} [Enc α] {o : Option α} (h : ∀ a : α, notNonD (Enc.d a) .non = some (.bl true)) : C2.op .notN (E o) .non = some (E o.isSome) := by
  cases o with
  | none => rfl
  | some a => exact h a
theorem any_toPs {α : Type} [Dat α] (a : α) : ∀ xs : List α, ((toPs (xs.map Enc.d)).any fun z => PyData.eqv z (toP (Enc.d a))) = xs.any fun x => decide (x = a)
  | [] => rfl
  | x :: xs => by
    show (PyData.eqv (toP (Enc.d x)) (toP (Enc.d a)) || _) = _
    rw [any_toPs a xs, Dat.eqv]; rfl
theorem op_in {α : Type} [Dat α] [Plain α] {a : α} {xs : List α} (h : Dat.dep α ≤ 59 := by decide) : C2.op .isIn (E a) (E xs) = some (E (xs.any fun x => decide (x = a))) := by
  show (if (shN 60 (E a) && shN 60 (E xs)) = true then some (D.bl ((toPs (xs.map Enc.d)).any fun z => PyData.eqv z (toP (Enc.d a)))) else none) = _
  have h2 : shN 60 (E xs) = true := shN_le (Dat.sh xs (Plain.all xs)) (Nat.succ_le_succ h)
  rw [shN_le (Dat.sh a (Plain.all a)) (Nat.le_succ_of_le h), h2, any_toPs]; rfl
theorem op_notIn {α : Type} [Dat α] [Plain α] {a : α} {xs : List α} (h : Dat.dep α ≤ 59 := by decide) : C2.op .notIn (E a) (E xs) = some (E (!xs.any fun x => decide (x = a))) := by
  show (if (shN 60 (E a) && shN 60 (E xs)) = true then some (D.bl (!(toPs (xs.map Enc.d)).any fun z => PyData.eqv z (toP (Enc.d a)))) else none) = _
  have h2 : shN 60 (E xs) = true := shN_le (Dat.sh xs (Plain.all xs)) (Nat.succ_le_succ h)
  rw [shN_le (Dat.sh a (Plain.all a)) (Nat.le_succ_of_le h), h2, any_toPs]; rfl
/-! ### lists, tuples -/
section
variable {α β γ δ : Type} [Enc α] [Enc β] [Enc γ] [Enc δ]
theorem op_len {xs : List α} : BN.op .len [E xs] = some (E (xs.length : Int)) := by
  show some (D.int ((xs.map Enc.d).length : Int)) = _
  rw [List.length_map]; rfl
theorem op_lenT {xs : Tu α} : BN.op .len [E xs] = some (E (xs.l.length : Int)) := by
  show some (D.int ((xs.l.map Enc.d).length : Int)) = _
  rw [List.length_map]; rfl
theorem intsE (xs : List Int) : intsOf (xs.map Enc.d) = some xs := intsOf_map xs
theorem op_sum {xs : List Int} : BN.op .sum [E xs] = some (E xs.sum) := by
  show (intsOf (xs.map Enc.d)).map _ = _
  rw [intsE]; rfl
def minM (xs : List Int) : M Int := if 0 < xs.length then .ok (leastI xs) else .bad
def maxM (xs : List Int) : M Int := if 0 < xs.length then .ok (greatI xs) else .bad
theorem opM_min {xs : List Int} : OpM (BN.op .min [E xs]) (minM xs) E := by
  show OpM ((intsOf (xs.map Enc.d)).bind _) _ _
  rw [intsE]; unfold minM
  show OpM (if 0 < xs.length then some (D.int (leastI xs)) else none) _ _
  by_cases h : 0 < xs.length
  · rw [if_pos h, if_pos h]; rfl
  · rw [if_neg h, if_neg h]; trivial
theorem opM_max {xs : List Int} : OpM (BN.op .max [E xs]) (maxM xs) E := by
  show OpM ((intsOf (xs.map Enc.d)).bind _) _ _
  rw [intsE]; unfold maxM
  show OpM (if 0 < xs.length then some (D.int (greatI xs)) else none) _ _
  by_cases h : 0 < xs.length
  · rw [if_pos h, if_pos h]; rfl
  · rw [if_neg h, if_neg h]; trivial
def absI (x : Int) : Int := if x < 0 then -x else x
theorem op_abs {x : Int} : BN.op .abs [E x] = some (E (absI x)) := rfl
def min2I (i j : Int) : Int := if j < i then j else i
def max2I (i j : Int) : Int := if j > i then j else i
theorem op_min2 {x y : Int} : BN.op .min2 [E x, E y] = some (E (min2I x y)) := rfl
theorem op_max2 {x y : Int} : BN.op .max2 [E x, E y] = some (E (max2I x y)) := rfl
theorem op_list {xs : List α} : BN.op .list [E xs] = some (E xs) := rfl
theorem op_listT {xs : Tu α} : BN.op .list [E xs] = some (E xs.l) := rfl
theorem op_tuple {xs : List α} : BN.op .tuple [E xs] = some (E (Tu.mk xs)) := rfl
def atM (xs : List α) (i : Int) : M α := M.opt (atI xs i)
theorem opM_at {xs : List α} {i : Int} : OpM (ixO (E xs) (E i)) (atM xs i) E := by
  show OpM (atI (xs.map Enc.d) i) _ _
  unfold atM atI
  rw [List.length_map]
  cases ixN xs.length i with
  | none => trivial
  | some k =>
    show OpM ((xs.map Enc.d)[k]?) (M.opt xs[k]?) E
    rw [List.getElem?_map]
    cases xs[k]? with
    | none => trivial
    | some a => rfl
theorem opM_atT {xs : Tu α} {i : Int} : OpM (ixO (E xs) (E i)) (atM xs.l i) E := opM_at (xs := xs.l)
theorem op_fst {p : α × β} : ixO (E p) (E (0 : Int)) = some (E p.1) := rfl
theorem op_snd {p : α × β} : ixO (E p) (E (1 : Int)) = some (E p.2) := rfl
theorem op_30 {p : T3 α β γ} : ixO (E p) (E (0 : Int)) = some (E p.a) := rfl
theorem op_31 {p : T3 α β γ} : ixO (E p) (E (1 : Int)) = some (E p.b) := rfl
theorem op_32 {p : T3 α β γ} : ixO (E p) (E (2 : Int)) = some (E p.c) := rfl
def catM (xs ys : List α) : M (List α) := if xs.length + ys.length ≤ sizeLine then .ok (xs ++ ys) else .bad
theorem opM_cat {xs ys : List α} : OpM (B2.op .cat (E xs) (E ys)) (catM xs ys) E := by
  show OpM (if (xs.map Enc.d).length + (ys.map Enc.d).length ≤ sizeLine then some (D.lst (xs.map Enc.d ++ ys.map Enc.d)) else none) _ _
  rw [List.length_map, List.length_map]; unfold catM
  by_cases h : xs.length + ys.length ≤ sizeLine
  · rw [if_pos h, if_pos h]
    show some _ = some _
    rw [← List.map_append]; rfl
  · rw [if_neg h, if_neg h]; trivial
def catTM (xs ys : Tu α) : M (Tu α) := if xs.l.length + ys.l.length ≤ sizeLine then .ok ⟨xs.l ++ ys.l⟩ else .bad
theorem opM_catT {xs ys : Tu α} : OpM (B2.op .catT (E xs) (E ys)) (catTM xs ys) E := by
  show OpM (if (xs.l.map Enc.d).length + (ys.l.map Enc.d).length ≤ sizeLine then some (D.tup (xs.l.map Enc.d ++ ys.l.map Enc.d)) else none) _ _
  rw [List.length_map, List.length_map]; unfold catTM
  by_cases h : xs.l.length + ys.l.length ≤ sizeLine
  · rw [if_pos h, if_pos h]
    show some _ = some _
    rw [← List.map_append]; rfl
  · rw [if_neg h, if_neg h]; trivial
theorem op_intB {b : Bool} : BN.op .int [E b] = some (E (if b = true then (1 : Int) else 0)) := rfl
theorem op_intI {i : Int} : BN.op .int [E i] = some (E i) := rfl
def cutI (xs : List α) (lo hi : Option Int) : List α := (xs.drop (HT.sIx xs.length 0 lo)).take (HT.sIx xs.length xs.length hi - HT.sIx xs.length 0 lo)
theorem op_cut {xs : List α} {lo hi : Option Int} : sliceL (E xs) lo hi = some (E (cutI xs lo hi)) := by
  show some (D.lst (cutD (xs.map Enc.d) lo hi)) = _
  unfold cutD cutI
  rw [List.length_map, ← List.map_drop, ← List.map_take]; rfl
theorem op_cutT {xs : Tu α} {lo hi : Option Int} : sliceT (E xs) lo hi = some (E (Tu.mk (cutI xs.l lo hi))) := by
  show some (D.tup (cutD (xs.l.map Enc.d) lo hi)) = _
  unfold cutD cutI
  rw [List.length_map, ← List.map_drop, ← List.map_take]; rfl
/-! ### what is walked -/
def lstO (d : D) : Option (List D) := match d with
  | .lst ds => some ds
  | _ => none
def tupO (d : D) : Option (List D) := match d with
  | .tup ds => some ds
  | _ => none
theorem op_lst {xs : List α} : lstO (E xs) = some (xs.map Enc.d) := rfl
theorem op_tup {xs : Tu α} : tupO (E xs) = some (xs.l.map Enc.d) := rfl
theorem op_tup2 {p : α × α} : tupO (E p) = some ([p.1, p.2].map Enc.d) := rfl
def uptoI (lo : Int) : Nat → List Int
  | 0 => []
  | n + 1 => lo :: uptoI (lo + 1) n
theorem uptoE (lo : Int) (n : Nat) : upto lo n = (uptoI lo n).map Enc.d := by
  induction n generalizing lo with
  | zero => rfl
  | succ n ih => show .int lo :: upto (lo + 1) n = _; rw [ih]; rfl
def rangeM (i j : Int) : M (List Int) := if (bnd62 i && (bnd62 j && decide ((j - i).toNat ≤ sizeLine))) = true then .ok (uptoI i (j - i).toNat) else .bad
theorem rangeM_ok {i j : Int} (h1 : -1000000 ≤ i) (h2 : i ≤ 1000000) (h3 : -1000000 ≤ j) (h4 : j ≤ 1000000) : rangeM i j = .ok (uptoI i (j - i).toNat) := by
  have z : (2 : Int) ^ 62 = 4611686018427387904 := by decide +kernel
  have z2 : sizeLine = 16777216 := by decide +kernel
  unfold rangeM bnd62
  rw [if_pos]
  rw [z, z2, Bool.and_eq_true, Bool.and_eq_true, Bool.and_eq_true, Bool.and_eq_true]
  exact ⟨⟨decide_eq_true (by omega), decide_eq_true (by omega)⟩, ⟨decide_eq_true (by omega), decide_eq_true (by omega)⟩, decide_eq_true (by omega)⟩
def OpG {γ β : Type} (o : Option γ) (m : M β) (v : β → γ) : Prop := match m with
  | .ok b => o = some (v b)
  | .exc _ => False
  | .bad => True
theorem opG_r2 {i j : Int} : OpG (rng2 [E i, E j]) (rangeM i j) (List.map Enc.d) := by
  show OpG (if (bnd62 i && (bnd62 j && decide ((j - i).toNat ≤ sizeLine))) = true then some (upto i (j - i).toNat) else none) _ _
  unfold rangeM
  by_cases h : (bnd62 i && (bnd62 j && decide ((j - i).toNat ≤ sizeLine))) = true
  · rw [if_pos h, if_pos h, uptoE]; rfl
  · rw [if_neg h, if_neg h]; trivial
theorem opG_r1 {j : Int} : OpG (rng1 [E j]) (rangeM 0 j) (List.map Enc.d) := by
  show OpG (if (bnd62 j && decide (j.toNat ≤ sizeLine)) = true then some (upto 0 j.toNat) else none) _ _
  unfold rangeM
  have b : bnd62 0 = true := by decide +kernel
  rw [b, Bool.true_and, Int.sub_zero]
  by_cases h : (bnd62 j && decide (j.toNat ≤ sizeLine)) = true
  · rw [if_pos h, if_pos h, uptoE]; rfl
  · rw [if_neg h, if_neg h]; trivial
theorem zipE : ∀ (xs : List α) (ys : List β), zipD (xs.map Enc.d) (ys.map Enc.d) = (xs.zip ys).map Enc.d
  | [], _ => rfl
  | _ :: _, [] => rfl
  | x :: xs, y :: ys => by show .tup [Enc.d x, Enc.d y] :: zipD (xs.map Enc.d) (ys.map Enc.d) = _; rw [zipE xs ys]; rfl
theorem op_zip {xs : List α} {ys : List β} : zipO [E xs, E ys] = some ((xs.zip ys).map Enc.d) := by
  show some (zipD (xs.map Enc.d) (ys.map Enc.d)) = _
  rw [zipE]
theorem op_zipT {xs : Tu α} {ys : Tu β} : zipO [E xs, E ys] = some ((xs.l.zip ys.l).map Enc.d) := by
  show some (zipD (xs.l.map Enc.d) (ys.l.map Enc.d)) = _
  rw [zipE]
def enumI (k : Nat) : List α → List (Int × α)
  | [] => []
  | x :: xs => ((k : Int), x) :: enumI (k + 1) xs
theorem enumE : ∀ (k : Nat) (xs : List α), enumD k (xs.map Enc.d) = (enumI k xs).map Enc.d
  | _, [] => rfl
  | k, x :: xs => by show .tup [.int (k : Nat), Enc.d x] :: enumD (k + 1) (xs.map Enc.d) = _; rw [enumE (k + 1) xs]; rfl
theorem op_enum {xs : List α} : enumO [E xs] = some ((enumI 0 xs).map Enc.d) := by
  show some (enumD 0 (xs.map Enc.d)) = _
  rw [enumE]
end
/-! ### the walks' rules -/
section
variable {α β γ δ σ ρ T : Type} [Tgt T] {m : M β} {fin : β → T → Prop} {X : Xc → Gam → Prop} {fs : List Fn} {Γ Γ1 Γ2 : Gam} {KI : List D → Gam → T}
theorem Tie.ilist {a : Ex} (k : Tie ((ev fs a Γ).to fun d Γ1 => (Rz.opt (lstO d) Γ1).to KI) m fin X) : Tie ((evI fs (.list a) Γ).to KI) m fin X := by
  have e : evI fs (.list a) Γ = (ev fs a Γ).bind fun d Γ1 => Rz.opt (lstO d) Γ1 := by
    rw [evI_list]; unfold eLst; congr; funext d Γ1; cases d <;> rfl
  rw [e, bind_to]; exact k
theorem Tie.itup {a : Ex} (k : Tie ((ev fs a Γ).to fun d Γ1 => (Rz.opt (tupO d) Γ1).to KI) m fin X) : Tie ((evI fs (.tup a) Γ).to KI) m fin X := by
  have e : evI fs (.tup a) Γ = (ev fs a Γ).bind fun d Γ1 => Rz.opt (tupO d) Γ1 := by
    rw [evI_tup]; unfold eTup; congr; funext d Γ1; cases d <;> rfl
  rw [e, bind_to]; exact k
theorem Tie.ir1 {a : Ex} (k : Tie ((ev fs a Γ).to fun x Γ1 => (Rz.opt (rng1 [x]) Γ1).to KI) m fin X) : Tie ((evI fs (.r1 a) Γ).to KI) m fin X := by
  rw [evI_r1, bind_to]; exact k
theorem Tie.ir2 {a b : Ex} (k : Tie ((ev fs a Γ).to fun x Γ1 => (ev fs b Γ1).to fun y Γ2 => (Rz.opt (rng2 [x, y]) Γ2).to KI) m fin X) : Tie ((evI fs (.r2 a b) Γ).to KI) m fin X := by
  rw [evI_r2, bind_to]; simp only [bind_to]; exact k
theorem Tie.izip {a b : Ex} (k : Tie ((ev fs a Γ).to fun x Γ1 => (ev fs b Γ1).to fun y Γ2 => (Rz.opt (zipO [x, y]) Γ2).to KI) m fin X) : Tie ((evI fs (.zip a b) Γ).to KI) m fin X := by
  rw [evI_zip, bind_to]; simp only [bind_to]; exact k
theorem Tie.ienum {a : Ex} (k : Tie ((ev fs a Γ).to fun x Γ1 => (Rz.opt (enumO [x]) Γ1).to KI) m fin X) : Tie ((evI fs (.enum a) Γ).to KI) m fin X := by
  rw [evI_enum, bind_to]; exact k
theorem Tie.opG {o : Option γ} {n : M δ} {v : δ → γ} {K : γ → Gam → T} {k : δ → M β} (h : OpG o n v) (hk : ∀ b, Tie (K (v b) Γ) (k b) fin X) : Tie ((Rz.opt o Γ).to K) (n.bind k) fin X := by
  cases n with
  | ok b =>
    have e : o = some (v b) := h
    rw [e]; exact hk b
  | exc x => exact h.elim
  | bad => trivial
/-! ### comprehensions -/
def lcR (t : D → Gam → Option Gam) (tt : Gam → Rz Bool) (fe : Gam → Rz D) (vs : List Nat) (ds : List D) (Γ1 : Gam) : Rz D := match lcLoop t tt fe vs ds (wipeG Γ1 vs) [] with
  | some (ys, Γ2) => .ok (.lst ys) (backG Γ1 Γ2 vs)
  | none => .bad
theorem Tie.lc {own : List Nat} {it : Ix} {t : Tg} {c : Cx1} {e : Ex} {K : D → Gam → T} (k : Tie ((evI fs it Γ).to fun ds Γ1 => (lcR (evG t) (evC fs c) (ev fs e) own ds Γ1).to K) m fin X) : Tie ((ev fs (.lc own it t c e) Γ).to K) m fin X := by
  have e0 : ev fs (.lc own it t c e) Γ = (evI fs it Γ).bind fun ds Γ1 => lcR (evG t) (evC fs c) (ev fs e) own ds Γ1 := rfl
  rw [e0, bind_to]; exact k
/-- one that changes nothing -/
theorem lc_fmap [Enc α] [Enc γ] {t : D → Gam → Option Gam} {tt : Gam → Rz Bool} {fe : Gam → Rz D} {vs : List Nat} {Γw : Gam} {f : α → M (Option γ)} {tg : α → Gam}
    (ht : ∀ x, t (E x) Γw = some (tg x)) (hw : ∀ x, wipeG (tg x) vs = Γw)
    (hf : ∀ x, match f x with
      | .ok none => tt (tg x) = .ok false (tg x)
      | .ok (some y) => tt (tg x) = .ok true (tg x) ∧ fe (tg x) = .ok (E y) (tg x)
      | .exc _ => False
      | .bad => True) : ∀ (xs : List α) (acc : List D), match M.fmapM xs f with
    | .ok ys => lcLoop t tt fe vs (xs.map Enc.d) Γw acc = some (acc ++ ys.map Enc.d, Γw)
    | .exc _ => False
    | .bad => True
  | [], acc => by show some (acc, Γw) = _; rw [List.map_nil, List.append_nil]
  | x :: xs, acc => by
    have h := hf x
    rw [M.fmapM_cons]
    cases e : f x with
    | bad => trivial
    | exc _ => rw [e] at h; exact h.elim
    | ok o =>
      rw [e] at h
      cases o with
      | none =>
        have h' : tt (tg x) = .ok false (tg x) := h
        have ih := lc_fmap ht hw hf xs acc
        show match (M.fmapM xs f).bind fun ys => M.ok ys with
          | .ok ys => _
          | .exc _ => _
          | .bad => _
        cases e2 : M.fmapM xs f with
        | bad => trivial
        | exc _ => rw [e2] at ih; exact ih
        | ok ys =>
          rw [e2] at ih
          show lcLoop t tt fe vs (E x :: xs.map Enc.d) Γw acc = _
          unfold lcLoop
          rw [ht]; dsimp only; rw [h']; dsimp only; rw [hw]; exact ih
      | some y =>
        have h' : tt (tg x) = .ok true (tg x) ∧ fe (tg x) = .ok (E y) (tg x) := h
        have ih := lc_fmap ht hw hf xs (acc ++ [E y])
        show match (M.fmapM xs f).bind fun ys => M.ok (y :: ys) with
          | .ok ys => _
          | .exc _ => _
          | .bad => _
        cases e2 : M.fmapM xs f with
        | bad => trivial
        | exc _ => rw [e2] at ih; exact ih
        | ok ys =>
          rw [e2] at ih
          show lcLoop t tt fe vs (E x :: xs.map Enc.d) Γw acc = _
          unfold lcLoop
          rw [ht]; dsimp only; rw [h'.1]; dsimp only; rw [h'.2]; dsimp only; rw [hw]
          have ih' : lcLoop t tt fe vs (xs.map Enc.d) Γw (acc ++ [E y]) = some (acc ++ [E y] ++ ys.map Enc.d, Γw) := ih
          rw [ih', List.append_assoc]; rfl
theorem Tie.lcF [Enc α] [Enc γ] {t : D → Gam → Option Gam} {tt : Gam → Rz Bool} {fe : Gam → Rz D} {vs : List Nat} {xs : List α} (Γw : Gam) {f : α → M (Option γ)} {tg : α → Gam} {K : D → Gam → T} {k : List γ → M β} (h0 : wipeG Γ vs = Γw) (hb : backG Γ Γw vs = Γ)
    (ht : ∀ x, t (E x) Γw = some (tg x)) (hw : ∀ x, wipeG (tg x) vs = Γw)
    (hf : ∀ x, match f x with
      | .ok none => tt (tg x) = .ok false (tg x)
      | .ok (some y) => tt (tg x) = .ok true (tg x) ∧ fe (tg x) = .ok (E y) (tg x)
      | .exc _ => False
      | .bad => True) (hk : ∀ ys, Tie (K (E ys) Γ) (k ys) fin X) : Tie ((lcR t tt fe vs (xs.map Enc.d) Γ).to K) ((M.fmapM xs f).bind k) fin X := by
  have h := lc_fmap (vs := vs) ht hw hf xs []
  cases e : M.fmapM xs f with
  | bad => trivial
  | exc _ => rw [e] at h; exact h.elim
  | ok ys =>
    rw [e] at h
    have h' : lcLoop t tt fe vs (xs.map Enc.d) Γw [] = some ([] ++ ys.map Enc.d, Γw) := h
    have e2 : lcR t tt fe vs (xs.map Enc.d) Γ = .ok (E ys) Γ := by
      unfold lcR
      rw [h0, h']; dsimp only; rw [hb]; rfl
    rw [e2]; exact hk ys
theorem fmapM_some (f : α → M γ) : ∀ xs : List α, M.fmapM xs (fun x => (f x).bind fun y => .ok (some y)) = M.mapM xs f
  | [] => rfl
  | x :: xs => by
    rw [M.fmapM_cons, M.mapM_cons, fmapM_some f xs]
    cases f x <;> rfl
theorem Tie.lcM [Enc α] [Enc γ] {t : D → Gam → Option Gam} {tt : Gam → Rz Bool} {fe : Gam → Rz D} {vs : List Nat} {xs : List α} (Γw : Gam) {f : α → M γ} {tg : α → Gam} {K : D → Gam → T} {k : List γ → M β} (h0 : wipeG Γ vs = Γw) (hb : backG Γ Γw vs = Γ)
    (ht : ∀ x, t (E x) Γw = some (tg x)) (hw : ∀ x, wipeG (tg x) vs = Γw) (hc : ∀ x, tt (tg x) = .ok true (tg x))
    (hf : ∀ x, Tie ((fe (tg x)).to Rz.ok) (f x) (fun y z => z = .ok (E y) (tg x)) fun _ _ => False) (hk : ∀ ys, Tie (K (E ys) Γ) (k ys) fin X) : Tie ((lcR t tt fe vs (xs.map Enc.d) Γ).to K) ((M.mapM xs f).bind k) fin X := by
  rw [← fmapM_some f xs]
  refine Tie.lcF Γw h0 hb ht hw (fun x => ?_) hk
  have h := hf x
  rw [to_ok] at h
  cases e : f x with
  | bad => trivial
  | exc _ => rw [e] at h; obtain ⟨_, _, q⟩ := h; exact q
  | ok y =>
    rw [e] at h
    exact ⟨hc x, h⟩
theorem mapM_pure (f : α → γ) : ∀ xs : List α, M.mapM xs (fun x => .ok (f x)) = .ok (xs.map f)
  | [] => rfl
  | x :: xs => by rw [M.mapM_cons, mapM_pure f xs]; rfl
/-- a map of a plain function -/
theorem Tie.lcP [Enc α] [Enc γ] {t : D → Gam → Option Gam} {tt : Gam → Rz Bool} {fe : Gam → Rz D} {vs : List Nat} {xs : List α} (Γw : Gam) {f : α → γ} {tg : α → Gam} {K : D → Gam → T} (h0 : wipeG Γ vs = Γw) (hb : backG Γ Γw vs = Γ)
    (ht : ∀ x, t (E x) Γw = some (tg x)) (hw : ∀ x, wipeG (tg x) vs = Γw) (hc : ∀ x, tt (tg x) = .ok true (tg x))
    (hf : ∀ x, Tie ((fe (tg x)).to Rz.ok) (.ok (f x)) (fun y z => z = .ok (E y) (tg x)) fun _ _ => False) (hk : Tie (K (E (xs.map f)) Γ) m fin X) : Tie ((lcR t tt fe vs (xs.map Enc.d) Γ).to K) m fin X := by
  have h := Tie.lcM (k := M.ok) (T := Rz D) (K := Rz.ok) (fin := fun ys z => z = .ok (E ys) Γ) (X := fun _ _ => False) (xs := xs) Γw h0 hb ht hw hc hf (fun ys => rfl)
  rw [mapM_pure, to_ok] at h
  have h' : lcR t tt fe vs (xs.map Enc.d) Γ = .ok (E (xs.map f)) Γ := h
  rw [h']; exact hk
theorem fmapM_pure (p : α → Bool) (f : α → γ) : ∀ xs : List α, M.fmapM xs (fun x => if p x = true then .ok (some (f x)) else .ok none) = .ok ((xs.filter p).map f)
  | [] => rfl
  | x :: xs => by
    rw [M.fmapM_cons, fmapM_pure p f xs]
    by_cases h : p x = true
    · rw [if_pos h, List.filter_cons_of_pos h]; rfl
    · rw [if_neg h, List.filter_cons_of_neg h]; rfl
theorem Tie.lcPF [Enc α] [Enc γ] {t : D → Gam → Option Gam} {tt : Gam → Rz Bool} {fe : Gam → Rz D} {vs : List Nat} {xs : List α} (Γw : Gam) {p : α → Bool} {f : α → γ} {tg : α → Gam} {K : D → Gam → T} (h0 : wipeG Γ vs = Γw) (hb : backG Γ Γw vs = Γ)
    (ht : ∀ x, t (E x) Γw = some (tg x)) (hw : ∀ x, wipeG (tg x) vs = Γw) (hc : ∀ x, Tie ((tt (tg x)).to Rz.ok) (.ok (p x)) (fun y z => z = .ok y (tg x)) fun _ _ => False)
    (hf : ∀ x, Tie ((fe (tg x)).to Rz.ok) (.ok (f x)) (fun y z => z = .ok (E y) (tg x)) fun _ _ => False) (hk : Tie (K (E ((xs.filter p).map f)) Γ) m fin X) : Tie ((lcR t tt fe vs (xs.map Enc.d) Γ).to K) m fin X := by
  have h := Tie.lcF (k := M.ok) (T := Rz D) (K := Rz.ok) (fin := fun ys z => z = .ok (E ys) Γ) (X := fun _ _ => False) (xs := xs) (t := t) (tt := tt) (fe := fe) (vs := vs) (f := fun x => if p x = true then .ok (some (f x)) else .ok none) Γw h0 hb ht hw (fun x => by
    have h1 : tt (tg x) = .ok (p x) (tg x) := by have := hc x; rw [to_ok] at this; exact this
    have h2 : fe (tg x) = .ok (E (f x)) (tg x) := by have := hf x; rw [to_ok] at this; exact this
    show match (if p x = true then M.ok (some (f x)) else M.ok none) with
      | .ok none => _
      | .ok (some y) => _
      | .exc _ => _
      | .bad => _
    by_cases h : p x = true
    · rw [if_pos h]; exact ⟨by rw [h1, h], h2⟩
    · rw [if_neg h]
      show tt (tg x) = _
      rw [h1]; simp only [Bool.not_eq_true] at h; rw [h]) (fun ys => rfl)
  rw [fmapM_pure, to_ok] at h
  have h' : lcR t tt fe vs (xs.map Enc.d) Γ = .ok (E ((xs.filter p).map f)) Γ := h
  rw [h']; exact hk
/-- a test and a part that may not answer -/
theorem Tie.lcMF [Enc α] [Enc γ] {t : D → Gam → Option Gam} {tt : Gam → Rz Bool} {fe : Gam → Rz D} {vs : List Nat} {xs : List α} (Γw : Gam) {p : α → M Bool} {f : α → M γ} {tg : α → Gam} {K : D → Gam → T} {k : List γ → M β} (h0 : wipeG Γ vs = Γw) (hb : backG Γ Γw vs = Γ)
    (ht : ∀ x, t (E x) Γw = some (tg x)) (hw : ∀ x, wipeG (tg x) vs = Γw) (hc : ∀ x, Tie ((tt (tg x)).to Rz.ok) (p x) (fun y z => z = .ok y (tg x)) fun _ _ => False)
    (hf : ∀ x, Tie ((fe (tg x)).to Rz.ok) (f x) (fun y z => z = .ok (E y) (tg x)) fun _ _ => False) (hk : ∀ ys, Tie (K (E ys) Γ) (k ys) fin X) : Tie ((lcR t tt fe vs (xs.map Enc.d) Γ).to K) ((M.fmapM xs fun x => (p x).bind fun b => if b = true then (f x).bind fun y => .ok (some y) else .ok none).bind k) fin X := by
  refine Tie.lcF Γw h0 hb ht hw (fun x => ?_) hk
  have h1 := hc x
  have h2 := hf x
  rw [to_ok] at h1 h2
  cases e : p x with
  | bad => trivial
  | exc _ => rw [e] at h1; obtain ⟨_, _, q⟩ := h1; exact q
  | ok b =>
    rw [e] at h1
    cases b with
    | false => exact h1
    | true =>
      rw [M.ok_bind, if_pos rfl]
      cases e2 : f x with
      | bad => trivial
      | exc _ => rw [e2] at h2; obtain ⟨_, _, q⟩ := h2; exact q
      | ok y => rw [e2] at h2; exact ⟨h1, h2⟩
/-- one that changes a state -/
theorem lc_smap [Enc α] [Enc γ] {t : D → Gam → Option Gam} {tt : Gam → Rz Bool} {fe : Gam → Rz D} {vs : List Nat} {g : σ → Gam} {f : σ → α → M (γ × σ)} {tg : σ → α → Gam} {hh : σ → α → γ × σ → Gam}
    (ht : ∀ s x, t (E x) (g s) = some (tg s x)) (hc : ∀ s x, tt (tg s x) = .ok true (tg s x)) (hw : ∀ s x y, wipeG (hh s x y) vs = g y.2)
    (hf : ∀ s x, Tie ((fe (tg s x)).to Rz.ok) (f s x) (fun y z => z = .ok (E y.1) (hh s x y)) fun _ _ => False) : ∀ (xs : List α) (s : σ) (acc : List D), match M.smapM xs s f with
    | .ok r => lcLoop t tt fe vs (xs.map Enc.d) (g s) acc = some (acc ++ r.1.map Enc.d, g r.2)
    | .exc _ => False
    | .bad => True
  | [], s, acc => by show some (acc, g s) = _; rw [List.map_nil, List.append_nil]
  | x :: xs, s, acc => by
    have h := hf s x
    rw [to_ok] at h
    rw [M.smapM_cons]
    cases e : f s x with
    | bad => trivial
    | exc _ => rw [e] at h; obtain ⟨_, _, q⟩ := h; exact q.elim
    | ok y =>
      rw [e] at h
      have h' : fe (tg s x) = .ok (E y.1) (hh s x y) := h
      have ih := lc_smap (vs := vs) ht hc hw hf xs y.2 (acc ++ [E y.1])
      rw [M.ok_bind]
      cases e2 : M.smapM xs y.2 f with
      | bad => trivial
      | exc _ => rw [e2] at ih; exact ih
      | ok r =>
        rw [e2] at ih
        have ih' : lcLoop t tt fe vs (xs.map Enc.d) (g y.2) (acc ++ [E y.1]) = some (acc ++ [E y.1] ++ r.1.map Enc.d, g r.2) := ih
        show lcLoop t tt fe vs (E x :: xs.map Enc.d) (g s) acc = _
        unfold lcLoop
        rw [ht]; dsimp only; rw [hc]; dsimp only; rw [h']; dsimp only; rw [hw, ih', List.append_assoc]; rfl
theorem Tie.lcS [Enc α] [Enc γ] {t : D → Gam → Option Gam} {tt : Gam → Rz Bool} {fe : Gam → Rz D} {vs : List Nat} {xs : List α} {s0 : σ} (g : σ → Gam) {f : σ → α → M (γ × σ)} {tg : σ → α → Gam} {hh : σ → α → γ × σ → Gam} {gk : σ → Gam} {K : D → Gam → T} {k : List γ × σ → M β} (h0 : wipeG Γ vs = g s0) (hb : ∀ s, backG Γ (g s) vs = gk s)
    (ht : ∀ s x, t (E x) (g s) = some (tg s x)) (hc : ∀ s x, tt (tg s x) = .ok true (tg s x)) (hw : ∀ s x y, wipeG (hh s x y) vs = g y.2)
    (hf : ∀ s x, Tie ((fe (tg s x)).to Rz.ok) (f s x) (fun y z => z = .ok (E y.1) (hh s x y)) fun _ _ => False) (hk : ∀ r, Tie (K (E r.1) (gk r.2)) (k r) fin X) : Tie ((lcR t tt fe vs (xs.map Enc.d) Γ).to K) ((M.smapM xs s0 f).bind k) fin X := by
  have h := lc_smap (vs := vs) ht hc hw hf xs s0 []
  cases e : M.smapM xs s0 f with
  | bad => trivial
  | exc _ => rw [e] at h; exact h.elim
  | ok r =>
    rw [e] at h
    have h' : lcLoop t tt fe vs (xs.map Enc.d) (g s0) [] = some ([] ++ r.1.map Enc.d, g r.2) := h
    have e2 : lcR t tt fe vs (xs.map Enc.d) Γ = .ok (E r.1) (gk r.2) := by
      unfold lcR
      rw [h0, h']; dsimp only; rw [hb]; rfl
    rw [e2]; exact hk r
end
end EV

/-! EvZ2: statements, loops, defs: their ties. -/
namespace EV
open PySem PySem.Spec L2
/-- how a block ends, where it may end in several ways -/
inductive Ctl (σ ρ : Type) where
  | nx (s : σ) | bk (s : σ) | rt (r : ρ)
namespace M
variable {α β σ ρ : Type}
/-- a loop that may be left -/
def foldC (xs : List α) (s : σ) (f : σ → α → M (Ctl σ ρ)) : M (Ctl σ ρ) := match xs with
  | [] => .ok (.nx s)
  | x :: xs => (f s x).bind fun c => match c with
    | .nx s => foldC xs s f
    | .bk s => .ok (.bk s)
    | .rt r => .ok (.rt r)
@[simp] theorem foldC_nil (s : σ) (f : σ → α → M (Ctl σ ρ)) : M.foldC [] s f = .ok (.nx s) := rfl
theorem foldC_cons (x : α) (xs : List α) (s : σ) (f : σ → α → M (Ctl σ ρ)) : M.foldC (x :: xs) s f = (f s x).bind fun c => match c with
    | .nx s => M.foldC xs s f
    | .bk s => .ok (.bk s)
    | .rt r => .ok (.rt r) := rfl
def whl (n : Nat) (s : σ) (c : σ → M Bool) (f : σ → M σ) : M σ := match n with
  | 0 => .bad
  | n + 1 => (c s).bind fun b => if b = true then (f s).bind fun s => whl n s c f else .ok s
theorem whl_succ (n : Nat) (s : σ) (c : σ → M Bool) (f : σ → M σ) : M.whl (n + 1) s c f = (c s).bind fun b => if b = true then (f s).bind fun s => M.whl n s c f else .ok s := rfl
def whlC (n : Nat) (s : σ) (c : σ → M Bool) (f : σ → M (Ctl σ ρ)) : M (Ctl σ ρ) := match n with
  | 0 => .bad
  | n + 1 => (c s).bind fun b => if b = true then (f s).bind fun k => match k with
    | .nx s => whlC n s c f
    | .bk s => .ok (.bk s)
    | .rt r => .ok (.rt r) else .ok (.nx s)
end M
section
variable {α β γ δ σ ρ : Type} {m : M β} {fin : β → Sz → Prop} {X : Xc → Gam → Prop} {fs : List Fn} {Γ Γ1 Γ2 : Gam} {r : Gam → Sz}
theorem exs_cons' (s : Sm) (q : Sms) : exs fs (.cons s q) Γ = (ex fs s Γ).seq fun Γ1 => exs fs q Γ1 := by
  cases q with
  | nil =>
    show ex fs s Γ = _
    cases ex fs s Γ <;> rfl
  | cons s2 q2 => show sSeq (ex fs s) (exs fs (.cons s2 q2)) Γ = _; unfold sSeq; cases ex fs s Γ <;> rfl
  | wipe vs q2 => show sSeq (ex fs s) (exs fs (.wipe vs q2)) Γ = _; unfold sSeq; cases ex fs s Γ <;> rfl
theorem Tie.start (h : Tie ((exs fs s Γ).seq Sz.nx) m fin X) : Tie (exs fs s Γ) m fin X := by
  have e : (exs fs s Γ).seq Sz.nx = exs fs s Γ := by cases exs fs s Γ <;> rfl
  rw [e] at h; exact h
theorem Tie.nil (k : Tie (r Γ) m fin X) : Tie ((exs fs .nil Γ).seq r) m fin X := k
theorem Tie.wipe {vs : List Nat} {q : Sms} (h : wipeG Γ vs = Γ1) (k : Tie ((exs fs q Γ1).seq r) m fin X) : Tie ((exs fs (.wipe vs q) Γ).seq r) m fin X := by
  show Tie ((exs fs q (wipeG Γ vs)).seq r) m fin X
  rw [h]; exact k
theorem Tie.stm {s : Sm} {q : Sms} (k : Tie ((ex fs s Γ).seq fun Γ1 => (exs fs q Γ1).seq r) m fin X) : Tie ((exs fs (.cons s q) Γ).seq r) m fin X := by
  rw [exs_cons', seq_seq]; exact k
theorem Tie.asg {t : Tg} {e : Ex} {q : Sms} (k : Tie ((ev fs e Γ).to fun d Γ1 => (Rz.opt (evG t d Γ1) Γ1).to fun Γ2 _ => (exs fs q Γ2).seq r) m fin X) : Tie ((exs fs (.cons (.asg t e) q) Γ).seq r) m fin X := by
  refine Tie.stm ?_
  have e0 : ex fs (.asg t e) Γ = (ev fs e Γ).s fun d Γ1 => (Rz.opt (evG t d Γ1) Γ1).s fun Γ2 _ => .nx Γ2 := by
    rw [ex_asg]; congr; funext d Γ1; cases evG t d Γ1 <;> rfl
  rw [e0, s_to, to_seq]
  have e1 : ∀ d Γ1, ((Rz.opt (evG t d Γ1) Γ1).s fun Γ2 _ => Sz.nx Γ2).seq (fun Γ1 => (exs fs q Γ1).seq r) = (Rz.opt (evG t d Γ1) Γ1).to fun Γ2 _ => (exs fs q Γ2).seq r := fun d Γ1 => by rw [s_to, to_seq]; rfl
  simp only [e1]; exact k
/-- x = e, x a slot -/
theorem Tie.set {i : Nat} {e : Ex} {q : Sms} (k : Tie ((ev fs e Γ).to fun d Γ1 => (exs fs q (Γ1.set i (some d))).seq r) m fin X) : Tie ((exs fs (.cons (.asg (.nm i) e) q) Γ).seq r) m fin X := Tie.asg k
theorem Tie.expr {e : Ex} {q : Sms} (k : Tie ((ev fs e Γ).to fun _ Γ1 => (exs fs q Γ1).seq r) m fin X) : Tie ((exs fs (.cons (.expr e) q) Γ).seq r) m fin X := by
  refine Tie.stm ?_
  rw [ex_expr, s_to, to_seq]; exact k
theorem Tie.ret {e : Ex} {q : Sms} (k : Tie ((ev fs e Γ).to fun d Γ1 => Sz.rt d Γ1) m fin X) : Tie ((exs fs (.cons (.ret e) q) Γ).seq r) m fin X := by
  refine Tie.stm ?_
  rw [ex_ret, s_to, to_seq]; exact k
theorem Tie.retN {q : Sms} (k : Tie (Sz.rt .non Γ) m fin X) : Tie ((exs fs (.cons .retN q) Γ).seq r) m fin X := Tie.stm k
theorem Tie.pass {q : Sms} (k : Tie ((exs fs q Γ).seq r) m fin X) : Tie ((exs fs (.cons .pass q) Γ).seq r) m fin X := Tie.stm k
theorem Tie.brk {q : Sms} (k : Tie (Sz.bk Γ) m fin X) : Tie ((exs fs (.cons .brk q) Γ).seq r) m fin X := Tie.stm k
theorem Tie.cont {q : Sms} (k : Tie (Sz.ct Γ) m fin X) : Tie ((exs fs (.cons .cont q) Γ).seq r) m fin X := Tie.stm k
theorem Tie.raise {c w : Str} {q : Sms} (h : X ⟨c, ["word"], [.str w]⟩ Γ) : Tie ((exs fs (.cons (.raise c w) q) Γ).seq r) (.exc ⟨c, ["word"], [.str w]⟩ : M β) fin X := Tie.stm (r := r) ⟨Γ, rfl, h⟩
theorem Tie.ite {t : Tx} {a b q : Sms} (k : Tie ((evT fs t Γ).to fun c Γ1 => (if c = true then exs fs a Γ1 else exs fs b Γ1).seq fun Γ2 => (exs fs q Γ2).seq r) m fin X) : Tie ((exs fs (.cons (.ite t a b) q) Γ).seq r) m fin X := by
  refine Tie.stm ?_
  rw [ex_ite, s_to, to_seq]; exact k
/-- the ways apart, each to its end -/
theorem Tie.ifc {z1 z2 : Sz} {b : Bool} {m1 m2 : M β} {R : Gam → Sz} (h1 : Tie (z1.seq R) m1 fin X) (h2 : Tie (z2.seq R) m2 fin X) : Tie ((if b = true then z1 else z2).seq R) (if b = true then m1 else m2) fin X := by
  cases b
  · exact h2
  · exact h1
/-- the ways meet -/
theorem Tie.ifj {z1 z2 : Sz} {b : Bool} {n1 n2 : M σ} {R : Gam → Sz} {k : σ → M β} (g : σ → Gam) (h1 : Tie (z1.seq Sz.nx) n1 (fun s z => z = .nx (g s)) X) (h2 : Tie (z2.seq Sz.nx) n2 (fun s z => z = .nx (g s)) X) (hk : ∀ s, Tie (R (g s)) (k s) fin X) : Tie ((if b = true then z1 else z2).seq R) ((if b = true then n1 else n2).bind k) fin X := by
  refine Tie.seq (g := g) ?_ hk
  have e : ∀ z : Sz, z.seq Sz.nx = z := fun z => by cases z <;> rfl
  rw [e] at h1 h2
  cases b
  · exact h2
  · exact h1
/-! ### for -/
theorem Tie.for_ {it : Ix} {t : Tg} {b q : Sms} (k : Tie ((evI fs it Γ).to fun ds Γ1 => (sFor (evG t) (exs fs b) ds Γ1).seq fun Γ2 => (exs fs q Γ2).seq r) m fin X) : Tie ((exs fs (.cons (.for_ it t b) q) Γ).seq r) m fin X := by
  refine Tie.stm ?_
  rw [ex_for, s_to, to_seq]; exact k
theorem for_fold [Enc α] {t : D → Gam → Option Gam} {b : Gam → Sz} {g : σ → Gam} {step : σ → α → M σ} {tg : σ → α → Gam} (ht : ∀ s x, t (E x) (g s) = some (tg s x))
    (hb : ∀ s x, Tie (b (tg s x)) (step s x) (fun s' z => z = .nx (g s') ∨ z = .ct (g s')) X) : ∀ (xs : List α) (s : σ), Tie (sFor t b (xs.map Enc.d) (g s)) (M.fold xs s step) (fun s' z => z = .nx (g s')) X
  | [], s => rfl
  | x :: xs, s => by
    have h := hb s x
    have e0 : sFor t b ((x :: xs).map Enc.d) (g s) = match b (tg s x) with
      | .nx Γ2 => sFor t b (xs.map Enc.d) Γ2
      | .ct Γ2 => sFor t b (xs.map Enc.d) Γ2
      | .bk Γ2 => .nx Γ2
      | .rt d Γ2 => .rt d Γ2
      | .exc x Γ2 => .exc x Γ2
      | .bad => .bad := by
      show sFor t b (E x :: xs.map Enc.d) (g s) = _
      first
        | (rw [sFor, ht]; done)
        | (rw [sFor, ht]; rfl)
        | (rw [sFor, ht]; dsimp only; done)
        | (rw [sFor, ht]; dsimp only; cases b (tg s x) <;> rfl)
    rw [e0, M.fold_cons]
    cases e : step s x with
    | ok s' =>
      rw [e] at h
      have h' : b (tg s x) = .nx (g s') ∨ b (tg s x) = .ct (g s') := h
      rcases h' with h' | h' <;> rw [h'] <;> exact for_fold ht hb xs s'
    | exc y =>
      rw [e] at h
      obtain ⟨Γ', e2, q⟩ := h
      have e3 : b (tg s x) = .exc y Γ' := e2
      rw [e3]; exact ⟨Γ', rfl, q⟩
    | bad => trivial
theorem Tie.forS [Enc α] {t : D → Gam → Option Gam} {b : Gam → Sz} {xs : List α} {s0 : σ} (g : σ → Gam) {step : σ → α → M σ} {tg : σ → α → Gam} {R : Gam → Sz} {k : σ → M β} (h0 : Γ = g s0) (ht : ∀ s x, t (E x) (g s) = some (tg s x))
    (hb : ∀ s x, Tie ((b (tg s x)).seq Sz.nx) (step s x) (fun s' z => z = .nx (g s') ∨ z = .ct (g s')) X) (hk : ∀ s, Tie (R (g s)) (k s) fin X) : Tie ((sFor t b (xs.map Enc.d) Γ).seq R) ((M.fold xs s0 step).bind k) fin X := by
  rw [h0]
  refine Tie.seq (g := g) (for_fold ht (fun s x => ?_) xs s0) hk
  have e : ∀ z : Sz, z.seq Sz.nx = z := fun z => by cases z <;> rfl
  have h := hb s x
  rw [e] at h; exact h
/-- what a turn that may leave the loop comes to -/
def ctlF (g : σ → Gam) (P : ρ → D → Gam → Prop) : Ctl σ ρ → Sz → Prop
  | .nx s, z => z = .nx (g s) ∨ z = .ct (g s)
  | .bk s, z => z = .bk (g s)
  | .rt r, z => ∃ d Γ, z = .rt d Γ ∧ P r d Γ
/-- the whole loop -/
def ctlE (g : σ → Gam) (P : ρ → D → Gam → Prop) : Ctl σ ρ → Sz → Prop
  | .nx s, z => z = .nx (g s)
  | .bk s, z => z = .nx (g s)
  | .rt r, z => ∃ d Γ, z = .rt d Γ ∧ P r d Γ
theorem for_foldC [Enc α] {t : D → Gam → Option Gam} {b : Gam → Sz} {g : σ → Gam} {P : ρ → D → Gam → Prop} {step : σ → α → M (Ctl σ ρ)} {tg : σ → α → Gam} (ht : ∀ s x, t (E x) (g s) = some (tg s x))
    (hb : ∀ s x, Tie (b (tg s x)) (step s x) (ctlF g P) X) : ∀ (xs : List α) (s : σ), Tie (sFor t b (xs.map Enc.d) (g s)) (M.foldC xs s step) (ctlE g P) X
  | [], s => rfl
  | x :: xs, s => by
    have h := hb s x
    have e0 : sFor t b ((x :: xs).map Enc.d) (g s) = match b (tg s x) with
      | .nx Γ2 => sFor t b (xs.map Enc.d) Γ2
      | .ct Γ2 => sFor t b (xs.map Enc.d) Γ2
      | .bk Γ2 => .nx Γ2
      | .rt d Γ2 => .rt d Γ2
      | .exc x Γ2 => .exc x Γ2
      | .bad => .bad := by
      show sFor t b (E x :: xs.map Enc.d) (g s) = _
      first
        | (rw [sFor, ht]; done)
        | (rw [sFor, ht]; rfl)
        | (rw [sFor, ht]; dsimp only; done)
        | (rw [sFor, ht]; dsimp only; cases b (tg s x) <;> rfl)
    rw [e0, M.foldC_cons]
    cases e : step s x with
    | ok c =>
      rw [e] at h
      cases c with
      | nx s' =>
        have h' : b (tg s x) = .nx (g s') ∨ b (tg s x) = .ct (g s') := h
        rcases h' with h' | h' <;> rw [h'] <;> exact for_foldC ht hb xs s'
      | bk s' =>
        have h' : b (tg s x) = .bk (g s') := h
        rw [h']; exact (rfl : Sz.nx (g s') = .nx (g s'))
      | rt q =>
        have h' : ∃ d Γ, b (tg s x) = .rt d Γ ∧ P q d Γ := h
        obtain ⟨d, Γ', e2, p⟩ := h'
        rw [e2]; exact ⟨d, Γ', rfl, p⟩
    | exc y =>
      rw [e] at h
      obtain ⟨Γ', e2, q⟩ := h
      have e3 : b (tg s x) = .exc y Γ' := e2
      rw [e3]; exact ⟨Γ', rfl, q⟩
    | bad => trivial
/-- behind such a loop -/
def Ctl.go (c : Ctl σ ρ) (k : σ → M β) (kr : ρ → M β) : M β := match c with
  | .nx s => k s
  | .bk s => k s
  | .rt r => kr r
@[simp] theorem Ctl.go_nx (s : σ) (k : σ → M β) (kr : ρ → M β) : (Ctl.nx s : Ctl σ ρ).go k kr = k s := rfl
@[simp] theorem Ctl.go_bk (s : σ) (k : σ → M β) (kr : ρ → M β) : (Ctl.bk s : Ctl σ ρ).go k kr = k s := rfl
@[simp] theorem Ctl.go_rt (r : ρ) (k : σ → M β) (kr : ρ → M β) : (Ctl.rt r : Ctl σ ρ).go k kr = kr r := rfl
theorem Tie.goC {z : Sz} {n : M (Ctl σ ρ)} {g : σ → Gam} {P : ρ → D → Gam → Prop} {R : Gam → Sz} {k : σ → M β} {kr : ρ → M β} (h : Tie z n (ctlE g P) X) (hk : ∀ s, Tie (R (g s)) (k s) fin X) (hr : ∀ q d Γ, P q d Γ → Tie (Sz.rt d Γ) (kr q) fin X) : Tie (z.seq R) (n.bind fun c => c.go k kr) fin X := by
  cases n with
  | ok c =>
    cases c with
    | nx s => have e : z = .nx (g s) := h; rw [e]; exact hk s
    | bk s => have e : z = .nx (g s) := h; rw [e]; exact hk s
    | rt q =>
      have e : ∃ d Γ, z = .rt d Γ ∧ P q d Γ := h
      obtain ⟨d, Γ', e, p⟩ := e
      rw [e]; exact hr q d Γ' p
  | exc y =>
    obtain ⟨Γ', e, q⟩ := h
    have e' : z = .exc y Γ' := e
    rw [e']; exact ⟨Γ', rfl, q⟩
  | bad => trivial
theorem Tie.forC [Enc α] {t : D → Gam → Option Gam} {b : Gam → Sz} {xs : List α} {s0 : σ} (g : σ → Gam) (P : ρ → D → Gam → Prop) {step : σ → α → M (Ctl σ ρ)} {tg : σ → α → Gam} {R : Gam → Sz} {k : σ → M β} {kr : ρ → M β} (h0 : Γ = g s0) (ht : ∀ s x, t (E x) (g s) = some (tg s x))
    (hb : ∀ s x, Tie ((b (tg s x)).seq Sz.nx) (step s x) (ctlF g P) X) (hr : ∀ q d Γ, P q d Γ → Tie (Sz.rt d Γ) (kr q) fin X) (hk : ∀ s, Tie (R (g s)) (k s) fin X) : Tie ((sFor t b (xs.map Enc.d) Γ).seq R) ((M.foldC xs s0 step).bind fun c => c.go k kr) fin X := by
  rw [h0]
  refine Tie.goC (for_foldC ht (fun s x => ?_) xs s0) hk hr
  have e : ∀ z : Sz, z.seq Sz.nx = z := fun z => by cases z <;> rfl
  have h := hb s x
  rw [e] at h; exact h
/-! ### while -/
theorem while_whl {c : Gam → Rz Bool} {b : Gam → Sz} {g : σ → Gam} {cm : σ → M Bool} {step : σ → M σ} (hc : ∀ s, Tie (c (g s)) (cm s) (fun b z => z = .ok b (g s)) X) (hb : ∀ s, Tie (b (g s)) (step s) (fun s' z => z = .nx (g s') ∨ z = .ct (g s')) X) : ∀ (n : Nat) (s : σ), Tie (sWhile c b n (g s)) (M.whl n s cm step) (fun s' z => z = .nx (g s')) X
  | 0, s => trivial
  | n + 1, s => by
    have h := hc s
    rw [M.whl_succ]
    have e0 : sWhile c b (n + 1) (g s) = (c (g s)).s fun k Γ1 => if k = true then (match b Γ1 with
      | .nx Γ2 => sWhile c b n Γ2
      | .ct Γ2 => sWhile c b n Γ2
      | .bk Γ2 => .nx Γ2
      | .rt d Γ2 => .rt d Γ2
      | .exc x Γ2 => .exc x Γ2
      | .bad => .bad) else .nx Γ1 := rfl
    rw [e0]
    cases e : cm s with
    | bad => trivial
    | exc y =>
      rw [e] at h
      obtain ⟨Γ', e2, q⟩ := h
      have e3 : c (g s) = .exc y Γ' := e2
      rw [e3]; exact ⟨Γ', rfl, q⟩
    | ok k =>
      rw [e] at h
      have h' : c (g s) = .ok k (g s) := h
      rw [h', s_ok, M.ok_bind]
      cases k with
      | false => exact (rfl : Sz.nx (g s) = .nx (g s))
      | true =>
        rw [if_pos rfl, if_pos rfl]
        have hb' := hb s
        cases e2 : step s with
        | bad => trivial
        | exc y =>
          rw [e2] at hb'
          obtain ⟨Γ', e3, q⟩ := hb'
          have e4 : b (g s) = .exc y Γ' := e3
          rw [e4]; exact ⟨Γ', rfl, q⟩
        | ok s' =>
          rw [e2] at hb'
          have hb'' : b (g s) = .nx (g s') ∨ b (g s) = .ct (g s') := hb'
          rw [M.ok_bind]
          rcases hb'' with h3 | h3 <;> rw [h3] <;> exact while_whl hc hb n s'
theorem Tie.whlS {n : Gam → Nat} {N : Nat} {t : Tx} {b q : Sms} {s0 : σ} (g : σ → Gam) {cm : σ → M Bool} {step : σ → M σ} {k : σ → M β} (hn : n Γ = N) (h0 : Γ = g s0) (hc : ∀ s, Tie ((evT fs t (g s)).to Rz.ok) (cm s) (fun b z => z = .ok b (g s)) X)
    (hb : ∀ s, Tie ((exs fs b (g s)).seq Sz.nx) (step s) (fun s' z => z = .nx (g s') ∨ z = .ct (g s')) X) (hk : ∀ s, Tie ((exs fs q (g s)).seq r) (k s) fin X) : Tie ((exs fs (.cons (.whl n t b) q) Γ).seq r) ((M.whl N s0 cm step).bind k) fin X := by
  refine Tie.stm ?_
  show Tie ((sWhile (evT fs t) (exs fs b) (n Γ) Γ).seq _) _ _ _
  rw [hn, h0]
  refine Tie.seq (g := g) (while_whl (fun s => ?_) (fun s => ?_) N s0) hk
  · have h := hc s; rw [to_ok] at h; exact h
  · have e : ∀ z : Sz, z.seq Sz.nx = z := fun z => by cases z <;> rfl
    have h := hb s; rw [e] at h; exact h
theorem while_whlC {c : Gam → Rz Bool} {b : Gam → Sz} {g : σ → Gam} {P : ρ → D → Gam → Prop} {cm : σ → M Bool} {step : σ → M (Ctl σ ρ)} (hc : ∀ s, Tie (c (g s)) (cm s) (fun b z => z = .ok b (g s)) X) (hb : ∀ s, Tie (b (g s)) (step s) (ctlF g P) X) : ∀ (n : Nat) (s : σ), Tie (sWhile c b n (g s)) (M.whlC n s cm step) (ctlE g P) X
  | 0, s => trivial
  | n + 1, s => by
    have h := hc s
    have e1 : M.whlC (n + 1) s cm step = (cm s).bind fun b => if b = true then (step s).bind fun k => match k with
      | .nx s => M.whlC n s cm step
      | .bk s => .ok (.bk s)
      | .rt r => .ok (.rt r) else .ok (.nx s) := rfl
    rw [e1]
    have e0 : sWhile c b (n + 1) (g s) = (c (g s)).s fun k Γ1 => if k = true then (match b Γ1 with
      | .nx Γ2 => sWhile c b n Γ2
      | .ct Γ2 => sWhile c b n Γ2
      | .bk Γ2 => .nx Γ2
      | .rt d Γ2 => .rt d Γ2
      | .exc x Γ2 => .exc x Γ2
      | .bad => .bad) else .nx Γ1 := rfl
    rw [e0]
    cases e : cm s with
    | bad => trivial
    | exc y =>
      rw [e] at h
      obtain ⟨Γ', e2, q⟩ := h
      have e3 : c (g s) = .exc y Γ' := e2
      rw [e3]; exact ⟨Γ', rfl, q⟩
    | ok k =>
      rw [e] at h
      have h' : c (g s) = .ok k (g s) := h
      rw [h', s_ok, M.ok_bind]
      cases k with
      | false => exact (rfl : Sz.nx (g s) = .nx (g s))
      | true =>
        rw [if_pos rfl, if_pos rfl]
        have hb' := hb s
        cases e2 : step s with
        | bad => trivial
        | exc y =>
          rw [e2] at hb'
          obtain ⟨Γ', e3, q⟩ := hb'
          have e4 : b (g s) = .exc y Γ' := e3
          rw [e4]; exact ⟨Γ', rfl, q⟩
        | ok c2 =>
          rw [e2] at hb'
          rw [M.ok_bind]
          cases c2 with
          | nx s' =>
            have hb'' : b (g s) = .nx (g s') ∨ b (g s) = .ct (g s') := hb'
            rcases hb'' with h3 | h3 <;> rw [h3] <;> exact while_whlC hc hb n s'
          | bk s' =>
            have hb'' : b (g s) = .bk (g s') := hb'
            rw [hb'']; exact (rfl : Sz.nx (g s') = .nx (g s'))
          | rt q =>
            have hb'' : ∃ d Γ, b (g s) = .rt d Γ ∧ P q d Γ := hb'
            obtain ⟨d, Γ', e3, p⟩ := hb''
            rw [e3]; exact ⟨d, Γ', rfl, p⟩
theorem Tie.whlC {n : Gam → Nat} {N : Nat} {t : Tx} {b q : Sms} {s0 : σ} (g : σ → Gam) (P : ρ → D → Gam → Prop) {cm : σ → M Bool} {step : σ → M (Ctl σ ρ)} {k : σ → M β} {kr : ρ → M β} (hn : n Γ = N) (h0 : Γ = g s0) (hc : ∀ s, Tie ((evT fs t (g s)).to Rz.ok) (cm s) (fun b z => z = .ok b (g s)) X)
    (hb : ∀ s, Tie ((exs fs b (g s)).seq Sz.nx) (step s) (ctlF g P) X) (hr : ∀ q d Γ, P q d Γ → Tie (Sz.rt d Γ) (kr q) fin X) (hk : ∀ s, Tie ((exs fs q (g s)).seq r) (k s) fin X) : Tie ((exs fs (.cons (.whl n t b) q) Γ).seq r) ((M.whlC N s0 cm step).bind fun c => c.go k kr) fin X := by
  refine Tie.stm ?_
  show Tie ((sWhile (evT fs t) (exs fs b) (n Γ) Γ).seq _) _ _ _
  rw [hn, h0]
  refine Tie.goC (while_whlC (fun s => ?_) (fun s => ?_) N s0) hk hr
  · have h := hc s; rw [to_ok] at h; exact h
  · have e : ∀ z : Sz, z.seq Sz.nx = z := fun z => by cases z <;> rfl
    have h := hb s; rw [e] at h; exact h
/-! ### x op= e; o[i] = e; o.append(e); o.pop(i) -/
theorem Tie.augN {o : AO} {i : Nat} {e : Ex} {q : Sms} {d : D} (h : getG Γ i = some d) (hf : isFlat d = true) (k : Tie ((ev fs e Γ).to fun y Γ1 => (Rz.opt (o.op d y) Γ1).to fun x Γ2 => (exs fs q (Γ2.set i (some x))).seq r) m fin X) : Tie ((exs fs (.cons (.augN o i e) q) Γ).seq r) m fin X := by
  refine Tie.stm ?_
  have e0 : ex fs (.augN o i e) Γ = (ev fs e Γ).s fun y Γ1 => (Rz.opt (o.op d y) Γ1).s fun x Γ2 => .nx (Γ2.set i (some x)) := by
    show sAugN o.op i (ev fs e) Γ = _
    unfold sAugN
    rw [h]; dsimp only; rw [if_pos hf]
    congr; funext y Γ1
    cases o.op d y <;> rfl
  rw [e0, s_to, to_seq]
  have e1 : ∀ y Γ1, ((Rz.opt (o.op d y) Γ1).s fun x Γ2 => Sz.nx (Γ2.set i (some x))).seq (fun Γ1 => (exs fs q Γ1).seq r) = (Rz.opt (o.op d y) Γ1).to fun x Γ2 => (exs fs q (Γ2.set i (some x))).seq r := fun y Γ1 => by rw [s_to, to_seq]; rfl
  simp only [e1]; exact k
theorem aop_add {x y : Int} : AO.op .add (E x) (E y) = some (E (x + y)) := rfl
theorem aop_sub {x y : Int} : AO.op .sub (E x) (E y) = some (E (x - y)) := rfl
theorem aopM_mul {x y : Int} : OpM (AO.op .mul (E x) (E y)) (mulM x y) E := opM_mul
/-- a list with one item put -/
def putO {α : Type} (xs : List α) (i : Int) (y : α) : Option (List α) := (ixN xs.length i).map fun k => xs.set k y
def appO {α : Type} (xs : List α) (y : α) : Option (List α) := if xs.length < sizeLine then some (xs ++ [y]) else none
def popO {α : Type} (xs : List α) (i : Int) : Option (α × List α) := (ixN xs.length i).bind fun k => (xs[k]?).map fun x => (x, xs.eraseIdx k)
def augO (op : Int → Int → Int) (j y : Int) (xs : List Int) : Option (List Int) := if 0 ≤ j then (xs[j.toNat]?).map fun k => xs.set j.toNat (op k y) else none
/-- one row of rows changed -/
def up2 {α : Type} (t : List α) (a : Int) (h : α → Option α) : Option (List α) := (ixN t.length a).bind fun p => (t[p]?).bind fun row => (h row).map fun row' => t.set p row'
theorem upL_1 [Enc α] {i : Nat} {xs : List α} {g : Gam → Option (List Sel)} {h : List D → Option (List D)} {h' : List α → Option (List α)} (hg : g Γ = some []) (e : getG Γ i = some (E xs)) (hh : ∀ xs : List α, h (xs.map Enc.d) = (h' xs).map (List.map Enc.d)) : upL i g h Γ = (h' xs).map fun ys => Γ.set i (some (E ys)) := by
  unfold upL
  rw [hg, Option.bind_some, e, Option.bind_some]
  show (h (xs.map Enc.d)).bind _ = _
  rw [hh]
  cases h' xs <;> rfl
theorem upL_2 [Enc α] {i : Nat} {a : Int} {t : List (List α)} {g : Gam → Option (List Sel)} {h : List D → Option (List D)} {h' : List α → Option (List α)} (hg : g Γ = some [.ix a]) (e : getG Γ i = some (E t)) (hh : ∀ xs : List α, h (xs.map Enc.d) = (h' xs).map (List.map Enc.d)) : upL i g h Γ = (up2 t a h').map fun ys => Γ.set i (some (E ys)) := by
  unfold upL up2
  rw [hg, Option.bind_some, e, Option.bind_some]
  show ((atI (t.map Enc.d) a).bind fun c => some c).bind _ = _
  unfold atI
  rw [List.length_map]
  cases e1 : ixN t.length a with
  | none => rfl
  | some p =>
    rw [Option.bind_some, List.getElem?_map]
    cases e2 : t[p]? with
    | none => show (none : Option D).bind _ = _; rw [Option.bind_some, e2]; rfl
    | some row =>
      show (some (E row)).bind _ = _
      rw [Option.bind_some, Option.bind_some, e2, Option.bind_some]
      show (h (row.map Enc.d)).bind _ = _
      rw [hh]
      cases e3 : h' row with
      | none => rfl
      | some row' =>
        show ((ixN (t.map Enc.d).length a).bind fun j => ((t.map Enc.d)[j]?).bind fun c => (some (D.lst (row'.map Enc.d))).map fun c' => D.lst ((t.map Enc.d).set j c')).map _ = _
        rw [List.length_map, e1, Option.bind_some, List.getElem?_map, e2]
        show some (Γ.set i (some (.lst ((t.map Enc.d).set p (Enc.d row'))))) = some (Γ.set i (some (.lst ((t.set p row').map Enc.d))))
        rw [List.map_set]
theorem setAt_E [Enc α] {y : α} {p : Gam → Option Int} {z : Int} (hz : p Γ = some z) (xs : List α) : setAtL (E y) p Γ (xs.map Enc.d) = (putO xs z y).map (List.map Enc.d) := by
  unfold setAtL putO
  rw [hz, Option.bind_some, List.length_map]
  cases ixN xs.length z with
  | none => rfl
  | some k => show some _ = some _; rw [List.map_set]
theorem app_E [Enc α] {y : α} (xs : List α) : (if (xs.map Enc.d).length < sizeLine then some (xs.map Enc.d ++ [E y]) else none) = (appO xs y).map (List.map Enc.d) := by
  unfold appO
  rw [List.length_map]
  by_cases h : xs.length < sizeLine
  · rw [if_pos h, if_pos h]; show some _ = some _; rw [List.map_append]; rfl
  · rw [if_neg h, if_neg h]; rfl
theorem addAt_E {op : Int → Int → Int} {y j : Int} (xs : List Int) : addAt op (E y) j (xs.map Enc.d) = (augO op j y xs).map (List.map Enc.d) := by
  unfold addAt augO
  by_cases h : 0 ≤ j
  · rw [if_pos h, if_pos h, List.getElem?_map]
    cases xs[j.toNat]? with
    | none => rfl
    | some k => show some _ = some _; rw [List.map_set]; rfl
  · rw [if_neg h, if_neg h]; rfl
def upZ (o : Option Gam) : Sz := match o with
  | some Γ => .nx Γ
  | none => .bad
theorem Tie.up {o : Option Gam} {R : Gam → Sz} {p : Option γ} {G : γ → Gam} {k : γ → M β} (h : o = p.map G) (hk : ∀ y, Tie (R (G y)) (k y) fin X) : Tie ((upZ o).seq R) ((M.opt p).bind k) fin X := by
  rw [h]
  cases p with
  | none => trivial
  | some y => exact hk y
theorem Tie.store {pl : Pl} {j : Px} {e : Ex} {q : Sms} (k : Tie ((ev fs e Γ).to fun y Γ1 => (upZ (upL pl.root (evPl pl) (setAtL y (evPx j) Γ1) Γ1)).seq fun Γ1 => (exs fs q Γ1).seq r) m fin X) : Tie ((exs fs (.cons (.store pl j e) q) Γ).seq r) m fin X := by
  refine Tie.stm ?_
  have e0 : ex fs (.store pl j e) Γ = (ev fs e Γ).s fun y Γ1 => upZ (upL pl.root (evPl pl) (setAtL y (evPx j) Γ1) Γ1) := rfl
  rw [e0, s_to, to_seq]; exact k
def stI (i : Nat) (y jd : D) (Γ2 : Gam) : Sz := match jd with
  | .int j => upZ (upL i plN (fun ds => (ixN ds.length j).map fun k => ds.set k y) Γ2)
  | _ => .bad
def stJ (fs : List Fn) (i : Nat) (j : Ex) (y : D) (Γ1 : Gam) : Sz := match getG Γ1 i with
  | some _ => (ev fs j Γ1).s fun jd Γ2 => stI i y jd Γ2
  | none => .bad
theorem Tie.storeE {i : Nat} {j e : Ex} {q : Sms} (k : Tie ((ev fs e Γ).to fun y Γ1 => (stJ fs i j y Γ1).seq fun Γ1 => (exs fs q Γ1).seq r) m fin X) : Tie ((exs fs (.cons (.storeE i j e) q) Γ).seq r) m fin X := by
  refine Tie.stm ?_
  have e0 : ex fs (.storeE i j e) Γ = (ev fs e Γ).s fun y Γ1 => stJ fs i j y Γ1 := by
    show sStoreE (ev fs e) i (ev fs j) Γ = _
    unfold sStoreE
    congr
  rw [e0, s_to, to_seq]; exact k
theorem Tie.storeJ {i : Nat} {j : Ex} {y d : D} {R : Gam → Sz} (h : getG Γ i = some d) (k : Tie ((ev fs j Γ).to fun jd Γ2 => (stI i y jd Γ2).seq R) m fin X) : Tie ((stJ fs i j y Γ).seq R) m fin X := by
  unfold stJ
  rw [h]; dsimp only; rw [s_to, to_seq]; exact k
theorem Tie.stE [Enc α] {i : Nat} {y : α} {z : Int} {R : Gam → Sz} {xs : List α} {k : List α → M β} (h : getG Γ i = some (E xs)) (G : List α → Gam) (hG : ∀ ys, Γ.set i (some (E ys)) = G ys) (hk : ∀ ys, Tie (R (G ys)) (k ys) fin X) : Tie ((stI i (E y) (E z) Γ).seq R) ((M.opt (putO xs z y)).bind k) fin X := by
  show Tie ((upZ (upL i plN (fun ds => (ixN ds.length z).map fun k => ds.set k (E y)) Γ)).seq R) _ _ _
  refine Tie.up (G := fun ys => Γ.set i (some (E ys))) (upL_1 (h' := fun xs => putO xs z y) rfl h fun xs => ?_) fun ys => by rw [hG]; exact hk ys
  unfold putO
  rw [List.length_map]
  cases ixN xs.length z with
  | none => rfl
  | some k => show some _ = some _; rw [List.map_set]
theorem setAtJ_E [Enc α] {y : α} {z : Int} (xs : List α) : (ixN (xs.map Enc.d).length z).map (fun k => (xs.map Enc.d).set k (E y)) = (putO xs z y).map (List.map Enc.d) := by
  unfold putO
  rw [List.length_map]
  cases ixN xs.length z with
  | none => rfl
  | some k => show some _ = some _; rw [List.map_set]
/-- a statement o.append(e) -/
theorem Tie.app [Enc α] {i : Nat} {e : Ex} {q : Sms} {xs : List α} (h : getG Γ i = some (E xs)) (k : Tie ((ev fs e Γ).to fun y Γ1 => (upZ (upL i plN (fun ds => if ds.length < sizeLine then some (ds ++ [y]) else none) Γ1)).seq fun Γ1 => (exs fs q Γ1).seq r) m fin X) : Tie ((exs fs (.cons (.expr (.app i e)) q) Γ).seq r) m fin X := by
  refine Tie.stm ?_
  have e0 : ex fs (.expr (.app i e)) Γ = (ev fs e Γ).s fun y Γ1 => upZ (upL i plN (fun ds => if ds.length < sizeLine then some (ds ++ [y]) else none) Γ1) := by
    show (eApp i (ev fs e) Γ).s (fun _ Γ1 => .nx Γ1) = _
    unfold eApp
    rw [h]
    show ((ev fs e Γ).bind _).s _ = _
    rw [s_to, bind_to, s_to]
    congr; funext y Γ1
    cases upL i plN (fun ds => if ds.length < sizeLine then some (ds ++ [y]) else none) Γ1 <;> rfl
  rw [e0, s_to, to_seq]; exact k
end
/-! ### a def -/
section
variable {α β : Type} {fs : List Fn}
/-- where a def's body ends -/
def finF (v : β → D) (N : List Bool) (io : β → List (Option D)) (b : β) (z : Sz) : Prop := (∃ Γ, z = .rt (v b) Γ ∧ ioOf N Γ = io b) ∨ (∃ Γ, z = .nx Γ ∧ v b = .non ∧ ioOf N Γ = io b)
theorem FoTie.of {n : Nat} {N : List Bool} {ir : Sms} {ds : List D} {Γ : Gam} {m : M β} {v : β → D} {io : β → List (Option D)} (h0 : ds.map some ++ List.replicate (n - ds.length) none = Γ) (h : Tie ((exs fs ir Γ).seq Sz.nx) m (finF v N io) fun _ _ => True) : FoTie (runF n N (exs fs ir) ds) m v io := by
  have h := Tie.start h
  unfold runF
  rw [h0]
  cases m with
  | bad => trivial
  | exc x =>
    obtain ⟨Γ', e, _⟩ := h
    have e' : exs fs ir Γ = .exc x Γ' := e
    rw [e']; exact ⟨_, rfl⟩
  | ok b =>
    have h' : finF v N io b (exs fs ir Γ) := h
    rcases h' with ⟨Γ', e, q⟩ | ⟨Γ', e, e2, q⟩
    · rw [e]; show Fo.ok _ _ = _; rw [q]
    · rw [e]; show Fo.ok _ _ = _; rw [q, e2]
theorem FoTie.ok {o : Fo} {m : M β} {v : β → D} {io : β → List (Option D)} {b : β} (h : FoTie o m v io) (e : m = .ok b) : o = .ok (v b) (io b) := by rw [e] at h; exact h
/-! ### the law's helpers that all laws have -/
def pullM (b : Bag) (lot : Int) : M (Int × Bag) := if 0 < b.cs.length ∧ b.cs.length ≤ 64 ∧ 0 ≤ b.q ∧ b.q < 2147483629 ∧ 0 < lot ∧ lot < 2 ^ 64 then .ok (pullB b lot) else .bad
theorem pull_tie {b : Bag} {lot : Int} : FoTie (pullF [E b, E lot]) (pullM b lot) (fun p => E p.1) (fun p => [some (E p.2), none]) := by
  unfold pullM
  by_cases h : 0 < b.cs.length ∧ b.cs.length ≤ 64 ∧ 0 ≤ b.q ∧ b.q < 2147483629 ∧ 0 < lot ∧ lot < 2 ^ 64
  · rw [if_pos h]
    exact pullF_ok ⟨h.1, h.2.1, h.2.2.1, h.2.2.2.1⟩ h.2.2.2.2.1 h.2.2.2.2.2
  · rw [if_neg h]; trivial
theorem pull_ens {b : Bag} {lot : Int} (hb : b.good) (h1 : 0 < lot) (h2 : lot < 2 ^ 64) : (pullM b lot).Ens fun p => (0 ≤ p.1 ∧ p.1 < lot) ∧ p.2.good := by
  unfold pullM
  rw [if_pos ⟨hb.1, hb.2.1, hb.2.2.1, hb.2.2.2, h1, h2⟩]
  exact .ok ⟨pullB_lt h1, pullB_good hb⟩
/-- _law_same of two data that are the same -/
def sameM {α : Type} [Dat α] (a b : α) : M Bool := if (decide (Dat.dep α ≤ 5) && (Dat.good a && decide (a = b))) = true then .ok true else .bad
theorem same_tie {α : Type} [Dat α] {a b : α} : FoTie (sameF 5 [E a, E b]) (sameM a b) (fun x => E x) (fun _ => [none, none]) := by
  unfold sameM
  by_cases h : (decide (Dat.dep α ≤ 5) && (Dat.good a && decide (a = b))) = true
  · rw [if_pos h]
    rw [Bool.and_eq_true, Bool.and_eq_true] at h
    have e := of_decide_eq_true h.2.2
    subst e
    exact sameF_ok (shN_le (Dat.sh a h.2.1) (of_decide_eq_true h.1))
  · rw [if_neg h]; trivial
theorem sameM_ok {α : Type} [Dat α] [Plain α] {a b : α} (h : a = b) (hd : Dat.dep α ≤ 5 := by decide) : sameM a b = .ok true := by
  unfold sameM
  rw [decide_eq_true hd, Plain.all, decide_eq_true h]; rfl
end
end EV

/-! EvZ3: the bag of every law; small steps of ties. -/
namespace EV
open PySem PySem.Spec L2
def absZ (i : Int) : Int := if i < 0 then -i else i
def mkBag (ns : List Int) : Bag := ⟨(ns.take 63).map absZ ++ [1], 0, 0⟩
theorem mkBag_good (ns : List Int) : (mkBag ns).good := by
  refine ⟨?_, ?_, Int.le_refl 0, by show (0 : Int) < 2147483629; decide⟩
  · show 0 < ((ns.take 63).map absZ ++ [1]).length
    simp
  · show ((ns.take 63).map absZ ++ [1]).length ≤ 64
    simp; omega
theorem cut_take (ds : List D) (k : Nat) : cutD ds none (some (k : Int)) = ds.take k := by
  unfold cutD
  rw [HT.sIx_nat, HT.sIx_none]
  simp only [List.drop_zero, Nat.sub_zero]
  rw [List.take_eq_take_iff]; omega
def ir_law_bag : Sms := .cons (.ret (.lst (.O .Z) (.e (.bin .cat (.lc [1] (.list (.frz (.sl true (.var 0) none (some (.int 63))))) (.nm 1) .no (.blt .abs (.e (.var 1) .nil))) (.lst .Z (.e (.int 1) .nil))) (.e (.int 0) (.e (.int 0) .nil))))) .nil
def F_law_bag : List D → Fo := runF 2 [false] (exs [] ir_law_bag)
def fn_law_bag : Fn := ⟨"_law_bag", [.F], .O (.O .Z), F_law_bag, [], [], []⟩
def fn_law_pull : Fn := pullFn
noncomputable def fn_law_same : Fn := fnSame (sameF 5)
theorem bag_run (ns : List Int) : F_law_bag [.lst (ns.map .int)] = .ok (mkBag ns).d [none] := by
  have lc : eLc (evI [] (.list (.frz (.sl true (.var 0) none (some (.int 63)))))) (evG (.nm 1)) (evC [] .no) (ev [] (.blt .abs (.e (.var 1) .nil))) [1] [some (.lst (ns.map .int)), none] = .ok (.lst (((ns.map D.int).take 63).map fun d => match d with
      | .int i => .int (absZ i)
      | d => d)) [some (.lst (ns.map .int)), none] := by
    refine eLc_ok (ds := (ns.map D.int).take 63) (Γ1 := [some (.lst (ns.map .int)), none]) ?_ (lcLoop_map (fun d => match d with
      | .int i => .int (absZ i)
      | d => d) _ _ fun d hd => ?_)
    · show eLst (ev [] (.frz (.sl true (.var 0) none (some (.int 63))))) _ = _
      unfold eLst
      rw [ev_frz, ev_sl, if_pos rfl]
      show (Rz.opt (some (D.lst (cutD (ns.map D.int) none (some ((63 : Nat) : Int))))) _).bind _ = _
      rw [cut_take]; rfl
    · have : d ∈ ns.map D.int := List.mem_of_mem_take hd
      obtain ⟨n, _, rfl⟩ := List.mem_map.mp this
      exact ⟨_, _, _, rfl, rfl, rfl, rfl⟩
  have key : exs [] ir_law_bag [some (.lst (ns.map .int)), none] = .rt (mkBag ns).d [some (.lst (ns.map .int)), none] := by
    show ex [] (.ret (.lst (.O .Z) (.e (.bin .cat (.lc [1] (.list (.frz (.sl true (.var 0) none (some (.int 63))))) (.nm 1) .no (.blt .abs (.e (.var 1) .nil))) (.lst .Z (.e (.int 1) .nil))) (.e (.int 0) (.e (.int 0) .nil))))) _ = _
    simp only [ex_ret, ev_lst, evA_e, evA_nil, ev_bin, ev_lc, lc, EV.bind_ok, ev_int, s_ok]
    have e : (((ns.map D.int).take 63).map fun d => match d with
      | .int i => .int (absZ i)
      | d => d) = (((ns.take 63).map absZ).map D.int) := by
      rw [← List.map_take, List.map_map, List.map_map]; rfl
    rw [e]
    have ce : B2.cat.op (.lst (((ns.take 63).map absZ).map D.int)) (.lst [.int 1]) = some (.lst (((ns.take 63).map absZ ++ [1]).map D.int)) := by
      show (if _ then some (D.lst (((ns.take 63).map absZ).map D.int ++ [D.int 1])) else none) = _
      rw [if_pos]
      · simp
      · simp only [List.length_map, List.length_take, List.length_cons, List.length_nil]
        have : 64 ≤ sizeLine := by decide
        omega
    rw [ce]
    rfl
  show runF 2 [false] (exs [] ir_law_bag) _ = _
  unfold runF
  show (match exs [] ir_law_bag [some (.lst (ns.map .int)), none] with | .rt d Γ => Fo.ok d (ioOf [false] Γ) | .nx Γ => .ok .non (ioOf [false] Γ) | .exc x Γ => .exc x (ioOf [false] Γ) | _ => .bad) = _
  rw [key]
  rfl
def m_law_bag (ns : List Int) : M Bag := .ok (mkBag ns)
theorem t_law_bag (ns : List Int) : FoTie (F_law_bag [E ns]) (m_law_bag ns) (fun b => E b) (fun _ => [none]) := bag_run ns
abbrev m_law_pull := pullM
theorem t_law_pull (b : Bag) (lot : Int) : FoTie (fn_law_pull.F [E b, E lot]) (m_law_pull b lot) (fun p => E p.1) (fun p => [some (E p.2), none]) := pull_tie
abbrev m_law_same {α : Type} [Dat α] (a b : α) := sameM a b
theorem t_law_same {α : Type} [Dat α] (a b : α) : FoTie (fn_law_same.F [E a, E b]) (m_law_same a b) (fun x => E x) (fun _ => [none, none]) := same_tie
section
variable {α β σ : Type} {T : Type} [Tgt T] {m : M β} {fin : β → Sz → Prop} {X : Xc → Gam → Prop} {fs : List Fn} {Γ Γ1 Γ2 : Gam} {r : Gam → Sz}
theorem Tie.norm {q : Sms} (h : Γ1 = Γ) (k : Tie ((exs fs q Γ).seq r) m fin X) : Tie ((exs fs q Γ1).seq r) m fin X := by rw [h]; exact k
theorem Tie.gen {q : Sms} {a : α} {k : α → M β} (g : α → Gam) (h : Γ1 = g a) (hk : ∀ x, Tie ((exs fs q (g x)).seq r) (k x) fin X) : Tie ((exs fs q Γ1).seq r) ((M.ok a).bind k) fin X := by rw [h]; exact hk a
theorem Tie.at_ {μ : List Mode} {s : Sm} {q : Sms} (k : Tie ((exs fs (.cons s q) Γ).seq r) m fin X) : Tie ((exs fs (.cons (.at_ μ s) q) Γ).seq r) m fin X := by
  rw [exs_cons'] at k ⊢; exact k
theorem Tie.par {i j : Nat} {a b : Ex} {q : Sms} (k : Tie ((ev fs a Γ).to fun x Γ1 => (ev fs b Γ1).to fun y Γ2 => (exs fs q ((Γ2.set i (some x)).set j (some y))).seq r) m fin X) : Tie ((exs fs (.cons (.par i j a b) q) Γ).seq r) m fin X := by
  refine Tie.stm ?_
  have e0 : ex fs (.par i j a b) Γ = (ev fs a Γ).to fun x Γ1 => (ev fs b Γ1).to fun y Γ2 => Sz.nx ((Γ2.set i (some x)).set j (some y)) := by
    show sPar i j (aCons (ev fs a) (aCons (ev fs b) aNil)) Γ = _
    unfold sPar aCons
    cases ev fs a Γ with
    | ok x Γ1 =>
      show ((((ev fs b Γ1).bind fun y Γ2 => (aNil Γ2).bind fun xs Γ3 => Rz.ok (y :: xs) Γ3).bind fun xs Γ2 => Rz.ok (x :: xs) Γ2)).s _ = (ev fs b Γ1).to _
      cases ev fs b Γ1 <;> rfl
    | exc _ _ => rfl
    | bad => rfl
  rw [e0, to_seq]
  simp only [to_seq]; exact k
/-- x = [..], the list made in its place -/
theorem Tie.setLc {i : Nat} {own : List Nat} {it : Ix} {t : Tg} {c : Cx1} {e : Ex} {q : Sms} (k : Tie ((evI fs it Γ).to fun ds Γ1 => (lcR (evG t) (evC fs c) (ev fs e) own ds Γ1).to fun d Γ1 => (exs fs q (Γ1.set i (some d))).seq r) m fin X) : Tie ((exs fs (.cons (.setLc i own it t c e) q) Γ).seq r) m fin X := by
  refine Tie.stm ?_
  have e0 : ex fs (.setLc i own it t c e) Γ = ((evI fs it Γ).bind fun ds Γ1 => lcR (evG t) (evC fs c) (ev fs e) own ds Γ1).s fun d Γ1 => .nx (Γ1.set i (some d)) := rfl
  rw [e0, s_to, bind_to, to_seq]
  have e1 : ∀ ds Γ1, ((lcR (evG t) (evC fs c) (ev fs e) own ds Γ1).to fun d Γ1 => Sz.nx (Γ1.set i (some d))).seq (fun Γ1 => (exs fs q Γ1).seq r) = (lcR (evG t) (evC fs c) (ev fs e) own ds Γ1).to fun d Γ1 => (exs fs q (Γ1.set i (some d))).seq r := fun ds Γ1 => by rw [to_seq]; rfl
  simp only [e1]; exact k
/-- pieces of a slice -/
theorem Tie.sl {K : D → Gam → T} {m : M β} {fin : β → T → Prop} {a : Ex} {kk : Bool} {lo hi : Option Px} {l h : Option Int} (k : Tie ((ev fs a Γ).to fun d Γ1 => (match oPx (lo.map evPx) Γ1, oPx (hi.map evPx) Γ1 with
  | some l, some h => Rz.opt ((if kk = true then sliceL else sliceT) d l h) Γ1
  | _, _ => .bad).to K) m fin X) : Tie ((ev fs (.sl kk a lo hi) Γ).to K) m fin X := by
  rw [ev_sl]; unfold eSl; rw [bind_to]; exact k
theorem Tie.slE {K : D → Gam → T} {m : M β} {fin : β → T → Prop} {d d' : D} {kk : Bool} {lo hi : Option (Gam → Option Int)} {l h : Option Int} (e1 : oPx lo Γ = some l) (e2 : oPx hi Γ = some h) (e3 : (if kk = true then sliceL else sliceT) d l h = some d') (k : Tie (K d' Γ) m fin X) : Tie ((match oPx lo Γ, oPx hi Γ with
  | some l, some h => Rz.opt ((if kk = true then sliceL else sliceT) d l h) Γ
  | _, _ => .bad).to K) m fin X := by
  rw [e1, e2]; dsimp only; rw [e3]; exact k
/-- x if t else y, both plain -/
theorem Tie.ifE {K : D → Gam → T} {m : M β} {fin : β → T → Prop} {t : Tx} {a b : Ex} {n1 n2 : M σ} {v : σ → D} {k : σ → M β} (h : Tie ((evT fs t Γ).to fun c Γ1 => (if c = true then ev fs a Γ1 else ev fs b Γ1)) n1 (fun s z => z = .ok (v s) Γ) X) (hk : ∀ s, Tie (K (v s) Γ) (k s) fin X) : Tie ((ev fs (.ifE t a b) Γ).to K) (n1.bind k) fin X := by
  refine Tie.part (v := v) (g := fun _ => Γ) ?_ hk
  rw [ev_if, bind_to']; exact h
theorem Tie.ifR {z1 z2 : Rz D} {c : Bool} {n1 n2 : M σ} {fin : σ → Rz D → Prop} (h1 : Tie (z1.to Rz.ok) n1 fin X) (h2 : Tie (z2.to Rz.ok) n2 fin X) : Tie (if c = true then z1 else z2) (if c = true then n1 else n2) fin X := by
  rw [to_ok] at h1 h2
  cases c
  · exact h2
  · exact h1
end
/-- no exception leaves -/
def M.nox {α : Type} (m : M α) : M α := match m with
  | .exc _ => .bad
  | o => o
@[simp] theorem M.nox_ok {α : Type} (a : α) : M.nox (M.ok a) = .ok a := rfl
theorem M.Ens.nox {α : Type} {m : M α} {P : α → Prop} (h : m.Ens P) : (M.nox m).Ens P := by
  obtain ⟨a, rfl, p⟩ := h
  exact ⟨a, rfl, p⟩
@[simp] theorem nox_pull (b : Bag) (lot : Int) : M.nox (pullM b lot) = pullM b lot := by
  unfold pullM; split <;> rfl
@[simp] theorem nox_same {α : Type} [Dat α] (a b : α) : M.nox (sameM a b) = sameM a b := by
  unfold sameM; split <;> rfl
theorem Tie.foN {β δ T : Type} [Tgt T] {fin : β → T → Prop} {X : Xc → Gam → Prop} {Γ : Gam} {K : D → Gam → T} {o : Fo} {ios : Ios} {n : M δ} {v : δ → D} {io : δ → List (Option D)} {g : δ → Gam} {k : δ → M β} (h : FoTie o n v io) (hg : ∀ b, putIo ios (io b) Γ = g b) (hk : ∀ b, Tie (K (v b) (g b)) (k b) fin X) : Tie ((o.r ios Γ).to K) ((M.nox n).bind k) fin X := by
  cases n with
  | ok b =>
    have e : o = .ok (v b) (io b) := h
    rw [e]
    show Tie (K (v b) (putIo ios (io b) Γ)) _ _ _
    rw [hg]; exact hk b
  | exc x => trivial
  | bad => trivial
abbrev xc (c w : Str) : Xc := ⟨c, ["word"], [.str w]⟩
theorem Tie.tbor {β T : Type} [Tgt T] {fin : β → T → Prop} {X : Xc → Gam → Prop} {fs : List Fn} {Γ : Gam} {KB : Bool → Gam → T} {a : Tx} {Mk : List Bool} {n : M Bool} {g2 : Bool → Gam} {k : Bool → M β} (h : Tie (evT fs a Γ) n (fun b z => z = .ok b Γ) fun x Γ' => X x (mixG Mk Γ Γ')) (hg : ∀ b, mixG Mk Γ Γ = g2 b) (hk : ∀ b, Tie (KB b (g2 b)) (k b) fin X) : Tie ((evT fs (.bor Mk a) Γ).to KB) (n.bind k) fin X := by
  refine Tie.part (v := fun b => b) (g := g2) ?_ hk
  rw [evT_bor]; unfold eBor
  cases n with
  | ok b =>
    have e : evT fs a Γ = .ok b Γ := h
    rw [e]
    show Rz.ok b (mixG Mk Γ Γ) = _
    rw [hg]
  | exc x =>
    obtain ⟨Γ', e, q⟩ := h
    have e' : evT fs a Γ = .exc x Γ' := e
    rw [e']; exact ⟨_, rfl, q⟩
  | bad => trivial
/-- try: b, except c: h -/
def M.try1 {σ : Type} (m : M σ) (tab : List (Str × Bool)) (h : M σ) : M σ := match m with
  | .exc x => (match tab.lookup x.c with
    | some true => h
    | some false => .exc x
    | none => .bad)
  | o => o
theorem Tie.try1 {β σ : Type} {fs : List Fn} {Γ Γh : Gam} {r : Gam → Sz} {fin : β → Sz → Prop} {X : Xc → Gam → Prop} {μt : List Mode} {tab : List (Str × Bool)} {b q s : Sms} {c : Str} {vs : List Nat} {n1 n2 : M σ} {k : σ → M β} (g : σ → Gam) (h1 : Tie ((exs fs b Γ).seq Sz.nx) n1 (fun s z => z = .nx (g s)) (fun x Γx => wipeG Γx vs = Γh ∧ X x Γx)) (h2 : Tie ((exs [] s Γh).seq Sz.nx) n2 (fun s z => z = .nx (g s)) (fun _ _ => False)) (hk : ∀ s, Tie ((exs fs q (g s)).seq r) (k s) fin X) : Tie ((exs fs (.cons (.try_ μt tab b c (.wipe vs s)) q) Γ).seq r) ((M.try1 n1 tab n2).bind k) fin X := by
  refine Tie.stm ?_
  refine Tie.seq (g := g) ?_ hk
  have e : ∀ z : Sz, z.seq Sz.nx = z := fun z => by cases z <;> rfl
  rw [e] at h1 h2
  show Tie (sTry tab (exs fs b) (exs [] (.wipe vs s)) Γ) _ _ _
  unfold sTry
  cases n1 with
  | ok s1 =>
    have e1 : exs fs b Γ = .nx (g s1) := h1
    rw [e1]; exact (rfl : Sz.nx (g s1) = _)
  | bad => trivial
  | exc x =>
    obtain ⟨Γx, e1, w, hx⟩ := h1
    have e1' : exs fs b Γ = .exc x Γx := e1
    rw [e1']
    show Tie (match tab.lookup x.c with
      | some true => noX (exs [] s (wipeG Γx vs))
      | some false => .exc x Γx
      | none => .bad) (match tab.lookup x.c with
      | some true => n2
      | some false => .exc x
      | none => .bad) _ _
    cases tab.lookup x.c with
    | none => trivial
    | some bb =>
      cases bb with
      | false => exact ⟨Γx, rfl, hx⟩
      | true =>
        rw [w]
        show Tie (noX (exs [] s Γh)) n2 _ _
        cases n2 with
        | bad => trivial
        | exc y => obtain ⟨_, _, f⟩ := h2; exact f.elim
        | ok s2 =>
          have e3 : exs [] s Γh = .nx (g s2) := h2
          rw [e3]; exact (rfl : Sz.nx (g s2) = _)
end EV

/-! EvZ4: ties of comprehensions with two clauses, zip(.., strict=True), calls with keywords. -/
namespace EV
open PySem PySem.Spec L2
def lstO' : D → Option (List D)
  | .lst ys => some ys
  | _ => none
def joinD : List D → Option (List D)
  | [] => some []
  | d :: r => (lstO' d).bind fun ys => (joinD r).map (ys ++ ·)
theorem joinD_snoc : ∀ {l : List D} {acc ys : List D}, joinD l = some acc → joinD (l ++ [.lst ys]) = some (acc ++ ys)
  | [], acc, ys, h => by cases h; show some (ys ++ []) = _; simp
  | d :: r, acc, ys, h => by
    have h' : ((lstO' d).bind fun zs => (joinD r).map (zs ++ ·)) = some acc := h
    cases e0 : lstO' d with
    | none => rw [e0] at h'; cases h'
    | some zs =>
      rw [e0] at h'
      cases e : joinD r with
      | none => rw [e] at h'; cases h'
      | some a =>
        rw [e] at h'
        cases h'
        show ((lstO' d).bind fun zs => (joinD (r ++ [.lst ys])).map (zs ++ ·)) = _
        rw [joinD_snoc e, e0]
        show some (zs ++ (a ++ ys)) = some (zs ++ a ++ ys)
        rw [List.append_assoc]
def flatR (d : D) (Γ : Gam) : Rz D := match lstO' d with
  | some l => (match joinD l with
    | some ys => if ys.length ≤ sizeLine then .ok (.lst ys) Γ else .bad
    | none => .bad)
  | none => .bad
theorem wipeG_set {Γ : Gam} {i : Nat} {g : Option D} : ∀ {vs : List Nat}, i ∈ vs → wipeG (Γ.set i g) vs = wipeG Γ vs
  | v :: vs, h => by
    show (wipeG (Γ.set i g) vs).set v none = (wipeG Γ vs).set v none
    by_cases e : i ∈ vs
    · rw [wipeG_set e]
    · have ev : i = v := (List.mem_cons.mp h).resolve_right e
      subst ev
      have key : ∀ (ws : List Nat), i ∉ ws → wipeG (Γ.set i g) ws = (wipeG Γ ws).set i g := by
        intro ws
        induction ws with
        | nil => exact fun _ => rfl
        | cons w ws ih =>
          intro hn
          have h1 : i ≠ w := fun e => hn (by rw [e]; exact List.mem_cons_self)
          show (wipeG (Γ.set i g) ws).set w none = ((wipeG Γ ws).set w none).set i g
          rw [ih (fun e => hn (List.mem_cons_of_mem _ e)), List.set_comm _ _ h1]
      rw [key vs e, List.set_set]
theorem wipeG_back {Γ1 : Gam} {vs : List Nat} : ∀ (ws : List Nat) (Γ : Gam), (∀ v ∈ ws, v ∈ vs) → wipeG (backG Γ1 Γ ws) vs = wipeG Γ vs
  | [], _, _ => rfl
  | w :: ws, Γ, h => by
    show wipeG (backG Γ1 (Γ.set w ((Γ1[w]?).getD none)) ws) vs = _
    rw [wipeG_back ws _ fun v hv => h v (List.mem_cons_of_mem _ hv), wipeG_set (h w List.mem_cons_self)]
theorem lcLoop_acc {t : D → Gam → Option Gam} {tt : Gam → Rz Bool} {fe : Gam → Rz D} {vs : List Nat} : ∀ (ds : List D) (Γ : Gam) (acc : List D), lcLoop t tt fe vs ds Γ acc = (lcLoop t tt fe vs ds Γ []).map fun r => (acc ++ r.1, r.2)
  | [], Γ, acc => by show some (acc, Γ) = some (acc ++ [], Γ); rw [List.append_nil]
  | d :: ds, Γ, acc => by
    unfold lcLoop
    cases t d Γ with
    | none => rfl
    | some Γ1 =>
      dsimp only
      cases tt Γ1 with
      | bad => rfl
      | exc x Γ => rfl
      | ok b Γ2 =>
        cases b with
        | false => exact lcLoop_acc ds _ acc
        | true =>
          dsimp only
          cases fe Γ2 with
          | bad => rfl
          | exc x Γ => rfl
          | ok y Γ3 =>
            dsimp only
            rw [lcLoop_acc ds _ (acc ++ [y]), lcLoop_acc ds _ ([] ++ [y])]
            cases lcLoop t tt fe vs ds (wipeG Γ3 vs) [] with
            | none => rfl
            | some r => show some (acc ++ [y] ++ r.1, r.2) = some (acc ++ ([] ++ [y] ++ r.1), r.2); simp
/-- two clauses are one within the other, joined -/
theorem lc2_eq {t t1 : D → Gam → Option Gam} {tt tt1 : Gam → Rz Bool} {fi1 : Gam → Rz (List D)} {fe : Gam → Rz D} {vs vs1 : List Nat} {Γ1 : Gam} (hv : ∀ v ∈ vs1, v ∈ vs) : ∀ (ds : List D) (Γ : Gam) (acc : List D) (accL : List D), joinD accL = some acc →
    lc2End Γ1 vs (lc2Loop t tt fi1 t1 tt1 fe vs vs1 ds Γ acc) = match lcLoop t tt (eLc fi1 t1 tt1 fe vs1) vs ds Γ accL with
      | some (yss, Γ2) => flatR (.lst yss) (backG Γ1 Γ2 vs)
      | none => .bad
  | [], Γ, acc, accL, h => by
    show (if acc.length ≤ sizeLine then Rz.ok (D.lst acc) (backG Γ1 Γ vs) else .bad) = flatR (.lst accL) (backG Γ1 Γ vs)
    unfold flatR lstO'
    dsimp only
    rw [h]
  | d :: ds, Γ, acc, accL, h => by
    conv => lhs; unfold lc2Loop
    conv => rhs; unfold lcLoop
    cases t d Γ with
    | none => rfl
    | some Γa =>
      dsimp only
      cases tt Γa with
      | bad => rfl
      | exc x Γ => rfl
      | ok b Γb =>
        cases b with
        | false => exact lc2_eq hv ds _ acc accL h
        | true =>
          dsimp only
          unfold eLc
          cases fi1 Γb with
          | bad => rfl
          | exc x Γ => rfl
          | ok es Γc =>
            dsimp only [Rz.bind]
            rw [lcLoop_acc es _ acc]
            cases lcLoop t1 tt1 fe vs1 es (wipeG Γc vs1) [] with
            | none => rfl
            | some r =>
              dsimp only [Option.map]
              rw [wipeG_back vs1 _ hv]
              exact lc2_eq hv ds _ (acc ++ r.1) (accL ++ [.lst r.1]) (joinD_snoc h)
section
variable {α β γ δ σ ρ T : Type} [Tgt T] {m : M β} {fin : β → T → Prop} {X : Xc → Gam → Prop} {fs : List Fn} {Γ Γ1 Γ2 : Gam} {K : D → Gam → T} {KI : List D → Gam → T}
theorem Tie.lc2 {own own1 : List Nat} {it it1 : Ix} {t t1 : Tg} {c c1 : Cx1} {e : Ex} (hv : (own1.all own.contains) = true) (k : Tie ((evI fs it Γ).to fun ds Γ1 => (lcR (evG t) (evC fs c) (ev fs (.lc own1 it1 t1 c1 e)) own ds Γ1).to fun d Γ2 => (flatR d Γ2).to K) m fin X) : Tie ((ev fs (.lc2 own own1 it t c it1 t1 c1 e) Γ).to K) m fin X := by
  have e0 : ev fs (.lc2 own own1 it t c it1 t1 c1 e) Γ = (evI fs it Γ).bind fun ds Γ1 => (lcR (evG t) (evC fs c) (ev fs (.lc own1 it1 t1 c1 e)) own ds Γ1).bind fun d Γ2 => flatR d Γ2 := by
    show eLc2 _ _ _ _ _ _ _ own own1 Γ = _
    unfold eLc2
    congr 1
    funext ds Γ1
    rw [lc2_eq (fun v hv' => by simpa using List.all_eq_true.mp hv v hv') ds _ [] [] rfl]
    unfold lcR
    show (match lcLoop (evG t) (evC fs c) (eLc (evI fs it1) (evG t1) (evC fs c1) (ev fs e) own1) own ds (wipeG Γ1 own) [] with
      | some (yss, Γ2) => flatR (.lst yss) (backG Γ1 Γ2 own)
      | none => .bad) = (match lcLoop (evG t) (evC fs c) (eLc (evI fs it1) (evG t1) (evC fs c1) (ev fs e) own1) own ds (wipeG Γ1 own) [] with
      | some (ys, Γ2) => Rz.ok (D.lst ys) (backG Γ1 Γ2 own)
      | none => .bad).bind fun d Γ2 => flatR d Γ2
    cases lcLoop (evG t) (evC fs c) (eLc (evI fs it1) (evG t1) (evC fs c1) (ev fs e) own1) own ds (wipeG Γ1 own) [] <;> rfl
  rw [e0, bind_to]
  simp only [bind_to]; exact k
/-- a list that is not too long -/
def lenM (xs : List α) : M (List α) := if xs.length ≤ sizeLine then .ok xs else .bad
theorem lenM_ok {xs : List α} (h : xs.length ≤ sizeLine) : lenM xs = .ok xs := if_pos h
theorem joinE [Enc α] : ∀ (yss : List (List α)), joinD (yss.map Enc.d) = some (yss.flatten.map Enc.d)
  | [] => rfl
  | ys :: yss => by
    show ((lstO' (Enc.d ys)).bind fun zs => (joinD (yss.map Enc.d)).map (zs ++ ·)) = _
    rw [joinE yss]
    show some (ys.map Enc.d ++ yss.flatten.map Enc.d) = _
    rw [List.flatten_cons, List.map_append]
theorem Tie.flat2 [Enc α] {yss : List (List α)} {k : List α → M β} (hk : ∀ ys : List α, Tie (K (E ys) Γ) (k ys) fin X) : Tie ((flatR (E yss) Γ).to K) ((lenM yss.flatten).bind k) fin X := by
  unfold lenM
  by_cases h : yss.flatten.length ≤ sizeLine
  · rw [if_pos h]
    have e : flatR (E yss) Γ = .ok (E yss.flatten) Γ := by
      show (match joinD (yss.map Enc.d) with
        | some ys => if ys.length ≤ sizeLine then Rz.ok (D.lst ys) Γ else .bad
        | none => .bad) = _
      rw [joinE]
      dsimp only
      rw [List.length_map, if_pos h]; rfl
    rw [e]; exact hk _
  · rw [if_neg h]; trivial
theorem Tie.setLc2 {i : Nat} {e : Ex} {q : Sms} {r : Gam → Sz} {m : M β} {fin : β → Sz → Prop} {X : Xc → Gam → Prop} (k : Tie ((ev fs e Γ).to fun d Γ1 => (exs fs q (Γ1.set i (some d))).seq r) m fin X) : Tie ((exs fs (.cons (.setLc2 i e) q) Γ).seq r) m fin X := by
  refine Tie.stm ?_
  have e0 : ex fs (.setLc2 i e) Γ = (ev fs e Γ).s fun d Γ1 => .nx (Γ1.set i (some d)) := rfl
  rw [e0, s_to, to_seq]; exact k
theorem Tie.izipS {a b : Ex} (k : Tie ((ev fs a Γ).to fun x Γ1 => (ev fs b Γ1).to fun y Γ2 => (Rz.opt (zipSO [x, y]) Γ2).to KI) m fin X) : Tie ((evI fs (.zipS a b) Γ).to KI) m fin X := by
  have e : evI fs (.zipS a b) Γ = (ev fs a Γ).bind fun x Γ1 => (ev fs b Γ1).bind fun y Γ2 => Rz.opt (zipSO [x, y]) Γ2 := by
    show eNi zipSO (aCons (ev fs a) (aCons (ev fs b) aNil)) Γ = _
    unfold eNi aCons
    cases ev fs a Γ with
    | bad => rfl
    | exc x Γ => rfl
    | ok x Γ1 =>
      dsimp only [Rz.bind]
      cases ev fs b Γ1 with
      | bad => rfl
      | exc x Γ => rfl
      | ok y Γ2 => rfl
  rw [e, bind_to]; simp only [bind_to]; exact k
def zipSM (xs : List α) (ys : List β) : M (List (α × β)) := if xs.length = ys.length then .ok (xs.zip ys) else .bad
theorem opG_zipS [Enc α] [Enc γ] {x y : D} {xs : List α} {ys : List γ} (hx : sqOf x = some (xs.map Enc.d)) (hy : sqOf y = some (ys.map Enc.d)) : OpG (zipSO [x, y]) (zipSM xs ys) (List.map Enc.d) := by
  unfold zipSM
  by_cases h : xs.length = ys.length
  · rw [if_pos h]
    show zipSO [x, y] = some ((xs.zip ys).map Enc.d)
    show ((sqOf x).bind fun ds => (sqOf y).bind fun es => if ds.length = es.length then some (zipD ds es) else none) = _
    rw [hx, hy]
    show (if (xs.map Enc.d).length = (ys.map Enc.d).length then some (zipD (xs.map Enc.d) (ys.map Enc.d)) else none) = _
    rw [List.length_map, List.length_map, if_pos h, zipE]
  · rw [if_neg h]; trivial
end
end EV

/-! EvN3: plain helpers for what the mirrors compute. -/
namespace EV
open PySem PySem.Spec L2
theorem log2_le {x a : Nat} (h : x ≤ 2 ^ a) : x.log2 ≤ a := by
  by_cases z : x = 0
  · subst z; exact Nat.zero_le _
  · have : x.log2 < a + 1 := (Nat.log2_lt z).mpr (Nat.lt_of_le_of_lt h (Nat.pow_lt_pow_right (by decide) (Nat.lt_succ_self a)))
    omega
theorem mulM_ok {a b : Int} (h1 : a.natAbs ≤ 2 ^ 400000) (h2 : b.natAbs ≤ 2 ^ 400000) : mulM a b = .ok (a * b) := by
  unfold mulM mulC
  rw [if_pos]
  have := log2_le h1
  have := log2_le h2
  exact decide_eq_true (by omega)
theorem mulM_nat {a b : Nat} (h1 : a ≤ 2 ^ 400000) (h2 : b ≤ 2 ^ 400000) : mulM (a : Int) (b : Int) = .ok ((a * b : Nat) : Int) := by
  rw [mulM_ok (by rw [Int.natAbs_natCast]; exact h1) (by rw [Int.natAbs_natCast]; exact h2), Int.natCast_mul]
theorem pw_le {x a b : Nat} (h : x ≤ 2 ^ a) (l : a ≤ b) : x ≤ 2 ^ b := Nat.le_trans h (Nat.pow_le_pow_right (by decide) l)
theorem sm_le {x b : Nat} (h : x ≤ 1000000000000000000) (l : 60 ≤ b) : x ≤ 2 ^ b := pw_le (Nat.le_trans h (by decide : (1000000000000000000 : Nat) ≤ 2 ^ 60)) l
theorem mulM_sm {a b : Int} (h1 : -1000000000000 ≤ a) (h2 : a ≤ 1000000000000) (h3 : -1000000000000 ≤ b) (h4 : b ≤ 1000000000000) : mulM a b = .ok (a * b) :=
  mulM_ok (sm_le (by omega) (by decide)) (sm_le (by omega) (by decide))
theorem divM_ok {a b : Int} (h : 0 < b) (h2 : b.natAbs ≤ 2 ^ 8000) : divM a b = .ok (a / b) := by
  unfold divM divC
  rw [if_pos]
  have := log2_le h2
  rw [Bool.and_eq_true]
  exact ⟨decide_eq_true h, decide_eq_true (by omega)⟩
theorem divM_nat {a b : Nat} (h : 0 < b) (h2 : b ≤ 2 ^ 8000) : divM (a : Int) (b : Int) = .ok ((a / b : Nat) : Int) := by
  rw [divM_ok (by omega) (by rw [Int.natAbs_natCast]; exact h2), Int.natCast_ediv]
theorem divM_sm {a b : Int} (h : 0 < b) (h2 : b ≤ 1000000000000000000) : divM a b = .ok (a / b) := divM_ok h (sm_le (by omega) (by decide))
theorem modM_ok {a b : Int} (h : 0 < b) : modM a b = .ok (a % b) := by
  unfold modM posC
  rw [if_pos (decide_eq_true h)]
theorem ixN_nat {n a : Nat} (h : a < n) : ixN n (a : Int) = some a := ixN_lt h
theorem ixN_ok {n : Nat} {i : Int} (h0 : 0 ≤ i) (h : i < n) : ixN n i = some i.toNat := by
  unfold ixN
  rw [if_pos h0, if_pos h]
theorem atM_ok {α : Type} {xs : List α} {i : Nat} (h : i < xs.length) : atM xs (i : Int) = .ok xs[i] := by
  unfold atM atI
  rw [ixN_lt h, Option.bind_some, List.getElem?_eq_getElem h]; rfl
theorem atM_get {α : Type} {xs : List α} {i : Int} {x : α} (h0 : 0 ≤ i) (h : xs[i.toNat]? = some x) : atM xs i = .ok x := by
  have l : i.toNat < xs.length := by
    rcases Nat.lt_or_ge i.toNat xs.length with l | l
    · exact l
    · rw [List.getElem?_eq_none l] at h; cases h
  unfold atM atI
  rw [ixN_ok h0 (by omega), Option.bind_some, h]; rfl
theorem uptoI_length (lo : Int) (n : Nat) : (uptoI lo n).length = n := by
  induction n generalizing lo with
  | zero => rfl
  | succ n ih => simp [uptoI, ih]
theorem uptoI_get (lo : Int) : ∀ (n i : Nat), i < n → (uptoI lo n)[i]? = some (lo + i)
  | n + 1, 0, _ => by simp [uptoI]
  | n + 1, i + 1, h => by
    rw [uptoI, List.getElem?_cons_succ, uptoI_get (lo + 1) n i (by omega)]
    congr 1; omega
theorem uptoI_mem {lo x : Int} : ∀ {n : Nat}, x ∈ uptoI lo n ↔ lo ≤ x ∧ x < lo + n
  | 0 => by
    constructor
    · exact fun h => nomatch h
    · intro h; omega
  | n + 1 => by
    rw [uptoI, List.mem_cons, uptoI_mem]
    omega
theorem uptoI_snoc (lo : Int) : ∀ n : Nat, uptoI lo (n + 1) = uptoI lo n ++ [lo + n]
  | 0 => by simp [uptoI]
  | n + 1 => by
    show lo :: uptoI (lo + 1) (n + 1) = lo :: (uptoI (lo + 1) n ++ [_])
    rw [uptoI_snoc (lo + 1) n]
    congr 3; omega
theorem putO_ok {α : Type} {xs : List α} {i : Nat} {y : α} (h : i < xs.length) : putO xs (i : Int) y = some (xs.set i y) := by
  unfold putO; rw [ixN_lt h]; rfl
theorem appO_ok {α : Type} {xs : List α} {y : α} (h : xs.length < 16777216) : appO xs y = some (xs ++ [y]) := if_pos h
theorem catM_ok {α : Type} {xs ys : List α} (h : xs.length + ys.length ≤ 16777216) : catM xs ys = .ok (xs ++ ys) := if_pos h
theorem fold_map {α β σ : Type} (h : α → β) (f : σ → β → M σ) : ∀ (xs : List α) (s : σ), M.fold (xs.map h) s f = M.fold xs s fun s x => f s (h x)
  | [], s => rfl
  | x :: xs, s => by rw [List.map_cons, M.fold_cons, M.fold_cons]; congr; funext s; exact fold_map h f xs s
/-- a loop without refusal -/
theorem fold_ok {α σ : Type} {f : σ → α → M σ} {g : σ → α → σ} (P : σ → Prop) : ∀ {xs : List α} {s : σ}, P s → (∀ s x, x ∈ xs → P s → f s x = .ok (g s x) ∧ P (g s x)) → M.fold xs s f = .ok (xs.foldl g s) ∧ P (xs.foldl g s)
  | [], s, h, _ => ⟨rfl, h⟩
  | x :: xs, s, h, k => by
    obtain ⟨e, p⟩ := k s x List.mem_cons_self h
    rw [M.fold_cons, e, M.ok_bind]
    exact fold_ok P p fun s y hy => k s y (List.mem_cons_of_mem _ hy)
/-- numbers below nought left out: a list of numbers as naturals -/
def nats (xs : List Nat) : List Int := xs.map fun n : Nat => (n : Int)
theorem nats_sum : ∀ xs : List Nat, (nats xs).sum = ((xs.sum : Nat) : Int)
  | [] => rfl
  | x :: xs => by
    show (x : Int) + (nats xs).sum = _
    rw [nats_sum xs, List.sum_cons]; omega
theorem nats_length (xs : List Nat) : (nats xs).length = xs.length := by unfold nats; rw [List.length_map]
theorem nats_of {xs : List Int} (h : ∀ x ∈ xs, 0 ≤ x) : xs = nats (xs.map Int.toNat) := by
  induction xs with
  | nil => rfl
  | cons x xs ih =>
    show x :: xs = ((x.toNat : Nat) : Int) :: nats (xs.map Int.toNat)
    rw [← ih fun y hy => h y (List.mem_cons_of_mem _ hy), Int.toNat_of_nonneg (h x List.mem_cons_self)]
/-! ### draws -/
theorem M.Ens.and {α : Type} {m : M α} {P Q : α → Prop} (h : m.Ens P) (k : m.Ens Q) : m.Ens fun a => P a ∧ Q a := by
  obtain ⟨a, e, p⟩ := h
  obtain ⟨b, e2, q⟩ := k
  rw [e] at e2; cases e2
  exact ⟨a, e, p, q⟩
theorem M.Ens.eq {α : Type} {m : M α} {a : α} (h : m.Ens fun x => x = a) : m = .ok a := by
  obtain ⟨b, e, rfl⟩ := h; exact e
theorem M.Ens.of {α : Type} {m : M α} {a : α} {P : α → Prop} (e : m = .ok a) (p : P a) : m.Ens P := ⟨a, e, p⟩
theorem pull_lt {b : Bag} {lot : Int} (hb : b.good) (h1 : 0 < lot := by decide) (h2 : lot < 18446744073709551616 := by decide) : (pullM b lot).Ens fun p => 0 ≤ p.1 ∧ p.1 < lot ∧ p.2.good := by
  have z : (2 : Int) ^ 64 = 18446744073709551616 := by decide +kernel
  exact (pull_ens hb h1 (by omega)).imp fun p h => ⟨h.1.1, h.1.2, h.2⟩
/-- a list of draws -/
theorem pulls_lt {α : Type} {lot : Int} {xs : List α} {b : Bag} (hb : b.good) (h1 : 0 < lot := by decide) (h2 : lot < 18446744073709551616 := by decide) : (M.smapM xs b fun s _ => (pullM s lot).bind fun p => .ok (p.1, p.2)).Ens fun r => r.1.length = xs.length ∧ (∀ x ∈ r.1, 0 ≤ x ∧ x < lot) ∧ r.2.good := by
  induction xs generalizing b with
  | nil => exact .ok ⟨rfl, (fun x h => nomatch h), hb⟩
  | cons x xs ih =>
    rw [M.smapM_cons]
    refine M.Ens.bind ((pull_lt hb h1 h2).bind (Q := fun y => (0 ≤ y.1 ∧ y.1 < lot) ∧ y.2.good) fun p hp => .ok ⟨⟨hp.1, hp.2.1⟩, hp.2.2⟩) fun y hy => ?_
    refine M.Ens.bind (ih hy.2) fun r hr => .ok ⟨by simp [hr.1], fun z hz => ?_, hr.2.2⟩
    rcases List.mem_cons.mp hz with rfl | hz
    · exact hy.1
    · exact hr.2.1 z hz
end EV

namespace EV
open PySem PySem.Spec L2
/-! ### law_fit -/
def ir_law_fit : Sms := (.cons (.asg (.nm 3) (.frz (.lst .F (.e (.frz (.lst .F .nil)) .nil)))) (.cons (.for_ (.zip (.var 0) (.var 2)) (.tup (.cons (.nm 4) (.cons (.nm 5) .nil))) (.cons (.asg (.nm 6) (.lst .F .nil)) (.cons (.for_ (.list (.var 3)) (.nm 7) (.cons (.for_ (.r2 (.ix (.var 5) (.int 0)) (.bin .add (.blt .min2 (.e (.ix (.var 5) (.int 1)) (.e (.var 4) .nil))) (.int 1))) (.nm 8) (.cons (.expr (.app 6 (.frz (.bin .cat (.var 7) (.frz (.lst .Z (.e (.var 8) .nil))))))) (.wipe [8] .nil))) (.wipe [7] .nil))) (.cons (.asg (.nm 3) (.fv 6)) (.wipe [4, 5, 6] .nil))))) (.cons (.ret (.frz (.lc [7] (.list (.var 3)) (.nm 7) (.one (.cmp .eq (.blt .sum (.e (.var 7) .nil)) (.var 1))) (.var 7)))) .nil)))
noncomputable def F_law_fit : List D → Fo := runF 9 [false, false, false] (exs [] ir_law_fit)
noncomputable def fn_law_fit : Fn := ⟨"_law_fit", [.F, .F, .F], .F, F_law_fit, [], [], []⟩
def m_law_fit (rests_ : List Int) (lot_ : Int) (pairs_ : List (Int × Int)) : M ((List (List Int))) :=
  M.bind (.ok (([([] : List Int)] : List (List Int)) : List (List Int))) fun found_ =>
  M.bind (M.fold (rests_.zip pairs_) found_ fun (s_ : (List (List Int))) (x_ : Int × (Int × Int)) => M.bind (.ok (([] : List (List Int)) : List (List Int))) fun longer_ =>
  M.bind (M.fold s_ longer_ fun (s_1 : (List (List Int))) (x_1 : List Int) => M.bind (rangeM x_.2.1 ((min2I x_.2.2 x_.1) + 1)) fun xs_ =>
  M.bind (M.fold xs_ s_1 fun (s_2 : (List (List Int))) (x_2 : Int) => M.bind (catM x_1 ([x_2] : List Int)) fun v_ =>
  M.bind (M.opt (appO s_2 v_)) fun longer_1 =>
  .ok longer_1) fun s_3 =>
  .ok s_3) fun s_4 =>
  .ok s_4) fun s_5 =>
  .ok ((s_5.filter (fun (x_3 : List Int) => decide (x_3.sum = lot_))).map (fun (x_3 : List Int) => x_3))
theorem t_law_fit (rests_ : List Int) (lot_ : Int) (pairs_ : List (Int × Int)) : FoTie (F_law_fit [E rests_, E lot_, E pairs_]) (m_law_fit rests_ lot_ pairs_) (fun b => E b) (fun _ => [none, none, none]) := by
  refine FoTie.of (Γ := [some (E rests_), some (E lot_), some (E pairs_), none, none, none, none, none, none]) rfl ?_
  unfold m_law_fit ir_law_fit
  refine Tie.set ?_
  refine Tie.frz ?_
  refine Tie.lst ?_
  refine Tie.a ?_
  refine Tie.frz ?_
  refine Tie.lst ?_
  refine Tie.a0 ?_
  refine Tie.op (a := E ([] : List Int)) rfl ?_
  refine Tie.a0 ?_
  refine Tie.op (a := E ([([] : List Int)] : List (List Int))) rfl ?_
  refine Tie.gen (a := (([([] : List Int)] : List (List Int)) : List (List Int))) (fun found_ => [some (E rests_), some (E lot_), some (E pairs_), some (E found_), none, none, none, none, none]) rfl fun found_ => ?_
  refine Tie.for_ ?_
  refine Tie.izip ?_
  refine Tie.var (i := 0) rfl ?_
  refine Tie.var (i := 2) rfl ?_
  refine Tie.op op_zip ?_
  refine Tie.forS (fun (s_ : (List (List Int))) => [some (E rests_), some (E lot_), some (E pairs_), some (E s_), none, none, none, none, none]) (tg := fun (s_ : (List (List Int))) (x_ : Int × (Int × Int)) => [some (E rests_), some (E lot_), some (E pairs_), some (E s_), some (E x_.1), some (E x_.2), none, none, none]) rfl (fun _ _ => rfl) (fun s_ x_ => ?_) fun s_5 => ?_
  · refine Tie.set ?_
    refine Tie.lst ?_
    refine Tie.a0 ?_
    refine Tie.op (a := E ([] : List (List Int))) rfl ?_
    refine Tie.gen (a := (([] : List (List Int)) : List (List Int))) (fun longer_ => [some (E rests_), some (E lot_), some (E pairs_), some (E s_), some (E x_.1), some (E x_.2), some (E longer_), none, none]) rfl fun longer_ => ?_
    refine Tie.for_ ?_
    refine Tie.ilist ?_
    refine Tie.var (i := 3) rfl ?_
    refine Tie.op op_lst ?_
    refine Tie.forS (fun (s_1 : (List (List Int))) => [some (E rests_), some (E lot_), some (E pairs_), some (E s_), some (E x_.1), some (E x_.2), some (E s_1), none, none]) (tg := fun (s_1 : (List (List Int))) (x_1 : List Int) => [some (E rests_), some (E lot_), some (E pairs_), some (E s_), some (E x_.1), some (E x_.2), some (E s_1), some (E x_1), none]) rfl (fun _ _ => rfl) (fun s_1 x_1 => ?_) fun s_4 => ?_
    · refine Tie.for_ ?_
      refine Tie.ir2 ?_
      refine Tie.ix ?_
      refine Tie.var (i := 5) rfl ?_
      refine Tie.int ?_
      refine Tie.op op_fst ?_
      refine Tie.bin ?_
      refine Tie.blt ?_
      refine Tie.a ?_
      refine Tie.ix ?_
      refine Tie.var (i := 5) rfl ?_
      refine Tie.int ?_
      refine Tie.op op_snd ?_
      refine Tie.a ?_
      refine Tie.var (i := 4) rfl ?_
      refine Tie.a0 ?_
      refine Tie.op op_min2 ?_
      refine Tie.int ?_
      refine Tie.op op_add ?_
      refine Tie.opG opG_r2 fun xs_ => ?_
      refine Tie.forS (fun (s_2 : (List (List Int))) => [some (E rests_), some (E lot_), some (E pairs_), some (E s_), some (E x_.1), some (E x_.2), some (E s_2), some (E x_1), none]) (tg := fun (s_2 : (List (List Int))) (x_2 : Int) => [some (E rests_), some (E lot_), some (E pairs_), some (E s_), some (E x_.1), some (E x_.2), some (E s_2), some (E x_1), some (E x_2)]) rfl (fun _ _ => rfl) (fun s_2 x_2 => ?_) fun s_3 => ?_
      · refine Tie.app (xs := s_2) rfl ?_
        refine Tie.frz ?_
        refine Tie.bin ?_
        refine Tie.var (i := 7) rfl ?_
        refine Tie.frz ?_
        refine Tie.lst ?_
        refine Tie.a ?_
        refine Tie.var (i := 8) rfl ?_
        refine Tie.a0 ?_
        refine Tie.op (a := E ([x_2] : List Int)) rfl ?_
        refine Tie.opM opM_cat fun v_ => ?_
        refine Tie.up (p := appO s_2 v_) (G := fun longer_1 => [some (E rests_), some (E lot_), some (E pairs_), some (E s_), some (E x_.1), some (E x_.2), some (E longer_1), some (E x_1), some (E x_2)]) (upL_1 (h' := fun xs => appO xs v_) rfl rfl fun _ => app_E _) fun longer_1 => ?_
        refine Tie.wipe (Γ1 := [some (E rests_), some (E lot_), some (E pairs_), some (E s_), some (E x_.1), some (E x_.2), some (E longer_1), some (E x_1), none]) rfl ?_
        refine Tie.nil ?_
        exact Tie.done (.inl rfl)
      refine Tie.wipe (Γ1 := [some (E rests_), some (E lot_), some (E pairs_), some (E s_), some (E x_.1), some (E x_.2), some (E s_3), none, none]) rfl ?_
      refine Tie.nil ?_
      exact Tie.done (.inl rfl)
    refine Tie.set ?_
    refine Tie.fv (i := 6) rfl ?_
    refine Tie.norm (Γ := [some (E rests_), some (E lot_), some (E pairs_), some (E s_4), some (E x_.1), some (E x_.2), some (E s_4), none, none]) rfl ?_
    refine Tie.wipe (Γ1 := [some (E rests_), some (E lot_), some (E pairs_), some (E s_4), none, none, none, none, none]) rfl ?_
    refine Tie.nil ?_
    exact Tie.done (.inl rfl)
  refine Tie.ret ?_
  refine Tie.frz ?_
  refine Tie.lc ?_
  refine Tie.ilist ?_
  refine Tie.var (i := 3) rfl ?_
  refine Tie.op op_lst ?_
  refine Tie.lcPF [some (E rests_), some (E lot_), some (E pairs_), some (E s_5), none, none, none, none, none] rfl rfl (p := fun (x_3 : List Int) => decide (x_3.sum = lot_)) (f := fun (x_3 : List Int) => x_3) (tg := fun x_3 => [some (E rests_), some (E lot_), some (E pairs_), some (E s_5), none, none, none, some (E x_3), none]) (fun _ => rfl) (fun _ => rfl) (fun x_3 => ?_) (fun x_3 => ?_) ?_
  · refine Tie.tcmp ?_
    refine Tie.blt ?_
    refine Tie.a ?_
    refine Tie.var (i := 7) rfl ?_
    refine Tie.a0 ?_
    refine Tie.op op_sum ?_
    refine Tie.var (i := 1) rfl ?_
    refine Tie.op op_eq ?_
    refine Tie.isB ?_
    exact Tie.done rfl
  · refine Tie.var (i := 7) rfl ?_
    exact Tie.done rfl
  exact Tie.done (.inl ⟨_, rfl, rfl⟩)

/-! ### fillings -/
def ir_fillings : Sms := (.cons (.asg (.nm 3) (.frz (.lst .F (.e (.frz (.tup .F (.e (.frz (.tup .F .nil)) (.e (.frz (.int 0)) .nil)))) .nil)))) (.cons (.for_ (.zipS (.var 0) (.var 2)) (.tup (.cons (.nm 4) (.cons (.tup (.cons (.nm 5) (.cons (.nm 6) .nil))) .nil))) (.cons (.asg (.nm 7) (.frz (.blt .min2 (.e (.var 4) (.e (.var 6) .nil))))) (.cons (.setLc2 3 (.lc2 [8, 9, 10] [10] (.list (.var 3)) (.tup (.cons (.nm 8) (.cons (.nm 9) .nil))) .no (.r2 (.var 5) (.bin .add (.var 7) (.int 1))) (.nm 10) (.one (.cmp .le (.bin .add (.var 9) (.var 10)) (.var 1))) (.frz (.tup .F (.e (.bin .catT (.var 8) (.frz (.tup .Z (.e (.var 10) .nil)))) (.e (.frz (.bin .add (.var 9) (.var 10))) .nil)))))) (.wipe [4, 5, 6, 7] .nil)))) (.cons (.ret (.frz (.lc [8, 9] (.list (.var 3)) (.tup (.cons (.nm 8) (.cons (.nm 9) .nil))) (.one (.cmp .eq (.var 9) (.var 1))) (.var 8)))) .nil)))
noncomputable def F_fillings : List D → Fo := runF 11 [false, false, false] (exs [] ir_fillings)
noncomputable def fn_fillings : Fn := ⟨"fillings", [.F, .F, .F], .F, F_fillings, [], [], []⟩
def m_fillings (rests_ : List Int) (many_ : Int) (pairs_ : List (Int × Int)) : M ((List (Tu Int))) :=
  M.bind (.ok (([((Tu.mk ([] : List Int)), 0)] : List ((Tu Int) × Int)) : List ((Tu Int) × Int))) fun found_ =>
  M.bind (zipSM rests_ pairs_) fun xs_ =>
  M.bind (M.fold xs_ found_ fun (s_ : (List ((Tu Int) × Int))) (x_ : Int × (Int × Int)) => M.bind (.ok ((min2I x_.1 x_.2.2) : Int)) fun top_ =>
  M.bind (M.mapM s_ (fun (x_1 : (Tu Int) × Int) => M.bind (rangeM x_.2.1 (top_ + 1)) fun xs_1 =>
  M.bind (M.fmapM xs_1 fun x_2 => M.bind (.ok (decide ((x_1.2 + x_2) ≤ many_))) fun b => if b = true then M.bind (M.bind (catTM x_1.1 (Tu.mk ([x_2] : List Int))) fun v_ =>
  .ok (v_, (x_1.2 + x_2))) fun y => .ok (some y) else .ok none) fun ys_ =>
  .ok ys_)) fun ys_1 =>
  M.bind (lenM ys_1.flatten) fun ys_2 =>
  .ok ys_2) fun s_1 =>
  .ok ((s_1.filter (fun (x_3 : (Tu Int) × Int) => decide (x_3.2 = many_))).map (fun (x_3 : (Tu Int) × Int) => x_3.1))
theorem t_fillings (rests_ : List Int) (many_ : Int) (pairs_ : List (Int × Int)) : FoTie (F_fillings [E rests_, E many_, E pairs_]) (m_fillings rests_ many_ pairs_) (fun b => E b) (fun _ => [none, none, none]) := by
  refine FoTie.of (Γ := [some (E rests_), some (E many_), some (E pairs_), none, none, none, none, none, none, none, none]) rfl ?_
  unfold m_fillings ir_fillings
  refine Tie.set ?_
  refine Tie.frz ?_
  refine Tie.lst ?_
  refine Tie.a ?_
  refine Tie.frz ?_
  refine Tie.tup ?_
  refine Tie.a ?_
  refine Tie.frz ?_
  refine Tie.tup ?_
  refine Tie.a0 ?_
  refine Tie.op (a := E ((Tu.mk ([] : List Int)) : Tu Int)) rfl ?_
  refine Tie.a ?_
  refine Tie.frz ?_
  refine Tie.int ?_
  refine Tie.a0 ?_
  refine Tie.op (a := E (((Tu.mk ([] : List Int)), 0) : (Tu Int) × Int)) rfl ?_
  refine Tie.a0 ?_
  refine Tie.op (a := E ([((Tu.mk ([] : List Int)), 0)] : List ((Tu Int) × Int))) rfl ?_
  refine Tie.gen (a := (([((Tu.mk ([] : List Int)), 0)] : List ((Tu Int) × Int)) : List ((Tu Int) × Int))) (fun found_ => [some (E rests_), some (E many_), some (E pairs_), some (E found_), none, none, none, none, none, none, none]) rfl fun found_ => ?_
  refine Tie.for_ ?_
  refine Tie.izipS ?_
  refine Tie.var (i := 0) rfl ?_
  refine Tie.var (i := 2) rfl ?_
  refine Tie.opG (opG_zipS rfl rfl) fun xs_ => ?_
  refine Tie.forS (fun (s_ : (List ((Tu Int) × Int))) => [some (E rests_), some (E many_), some (E pairs_), some (E s_), none, none, none, none, none, none, none]) (tg := fun (s_ : (List ((Tu Int) × Int))) (x_ : Int × (Int × Int)) => [some (E rests_), some (E many_), some (E pairs_), some (E s_), some (E x_.1), some (E x_.2.1), some (E x_.2.2), none, none, none, none]) rfl (fun _ _ => rfl) (fun s_ x_ => ?_) fun s_1 => ?_
  · refine Tie.set ?_
    refine Tie.frz ?_
    refine Tie.blt ?_
    refine Tie.a ?_
    refine Tie.var (i := 4) rfl ?_
    refine Tie.a ?_
    refine Tie.var (i := 6) rfl ?_
    refine Tie.a0 ?_
    refine Tie.op op_min2 ?_
    refine Tie.gen (a := ((min2I x_.1 x_.2.2) : Int)) (fun top_ => [some (E rests_), some (E many_), some (E pairs_), some (E s_), some (E x_.1), some (E x_.2.1), some (E x_.2.2), some (E top_), none, none, none]) rfl fun top_ => ?_
    refine Tie.setLc2 ?_
    refine Tie.lc2 (by decide +kernel) ?_
    refine Tie.ilist ?_
    refine Tie.var (i := 3) rfl ?_
    refine Tie.op op_lst ?_
    refine Tie.lcM [some (E rests_), some (E many_), some (E pairs_), some (E s_), some (E x_.1), some (E x_.2.1), some (E x_.2.2), some (E top_), none, none, none] rfl rfl (tg := fun x_1 => [some (E rests_), some (E many_), some (E pairs_), some (E s_), some (E x_.1), some (E x_.2.1), some (E x_.2.2), some (E top_), some (E x_1.1), some (E x_1.2), none]) (fun _ => rfl) (fun _ => rfl) (fun _ => rfl) (fun x_1 => ?_) fun ys_1 => ?_
    · refine Tie.lc ?_
      refine Tie.ir2 ?_
      refine Tie.var (i := 5) rfl ?_
      refine Tie.bin ?_
      refine Tie.var (i := 7) rfl ?_
      refine Tie.int ?_
      refine Tie.op op_add ?_
      refine Tie.opG opG_r2 fun xs_1 => ?_
      refine Tie.lcMF [some (E rests_), some (E many_), some (E pairs_), some (E s_), some (E x_.1), some (E x_.2.1), some (E x_.2.2), some (E top_), some (E x_1.1), some (E x_1.2), none] rfl rfl (p := fun (x_2 : Int) => .ok (decide ((x_1.2 + x_2) ≤ many_))) (f := fun (x_2 : Int) => M.bind (catTM x_1.1 (Tu.mk ([x_2] : List Int))) fun v_ =>
  .ok (v_, (x_1.2 + x_2))) (tg := fun x_2 => [some (E rests_), some (E many_), some (E pairs_), some (E s_), some (E x_.1), some (E x_.2.1), some (E x_.2.2), some (E top_), some (E x_1.1), some (E x_1.2), some (E x_2)]) (fun _ => rfl) (fun _ => rfl) (fun x_2 => ?_) (fun x_2 => ?_) fun ys_ => ?_
      · refine Tie.tcmp ?_
        refine Tie.bin ?_
        refine Tie.var (i := 9) rfl ?_
        refine Tie.var (i := 10) rfl ?_
        refine Tie.op op_add ?_
        refine Tie.var (i := 1) rfl ?_
        refine Tie.op op_le ?_
        refine Tie.isB ?_
        exact Tie.done rfl
      · refine Tie.frz ?_
        refine Tie.tup ?_
        refine Tie.a ?_
        refine Tie.bin ?_
        refine Tie.var (i := 8) rfl ?_
        refine Tie.frz ?_
        refine Tie.tup ?_
        refine Tie.a ?_
        refine Tie.var (i := 10) rfl ?_
        refine Tie.a0 ?_
        refine Tie.op (a := E ((Tu.mk ([x_2] : List Int)) : Tu Int)) rfl ?_
        refine Tie.opM opM_catT fun v_ => ?_
        refine Tie.a ?_
        refine Tie.frz ?_
        refine Tie.bin ?_
        refine Tie.var (i := 9) rfl ?_
        refine Tie.var (i := 10) rfl ?_
        refine Tie.op op_add ?_
        refine Tie.a0 ?_
        refine Tie.op (a := E ((v_, (x_1.2 + x_2)) : (Tu Int) × Int)) rfl ?_
        exact Tie.done rfl
      exact Tie.done rfl
    refine Tie.flat2 fun ys_2 => ?_
    refine Tie.norm (Γ := [some (E rests_), some (E many_), some (E pairs_), some (E ys_2), some (E x_.1), some (E x_.2.1), some (E x_.2.2), some (E top_), none, none, none]) rfl ?_
    refine Tie.wipe (Γ1 := [some (E rests_), some (E many_), some (E pairs_), some (E ys_2), none, none, none, none, none, none, none]) rfl ?_
    refine Tie.nil ?_
    exact Tie.done (.inl rfl)
  refine Tie.ret ?_
  refine Tie.frz ?_
  refine Tie.lc ?_
  refine Tie.ilist ?_
  refine Tie.var (i := 3) rfl ?_
  refine Tie.op op_lst ?_
  refine Tie.lcPF [some (E rests_), some (E many_), some (E pairs_), some (E s_1), none, none, none, none, none, none, none] rfl rfl (p := fun (x_3 : (Tu Int) × Int) => decide (x_3.2 = many_)) (f := fun (x_3 : (Tu Int) × Int) => x_3.1) (tg := fun x_3 => [some (E rests_), some (E many_), some (E pairs_), some (E s_1), none, none, none, none, some (E x_3.1), some (E x_3.2), none]) (fun _ => rfl) (fun _ => rfl) (fun x_3 => ?_) (fun x_3 => ?_) ?_
  · refine Tie.tcmp ?_
    refine Tie.var (i := 9) rfl ?_
    refine Tie.var (i := 1) rfl ?_
    refine Tie.op op_eq ?_
    refine Tie.isB ?_
    exact Tie.done rfl
  · refine Tie.var (i := 8) rfl ?_
    exact Tie.done rfl
  exact Tie.done (.inl ⟨_, rfl, rfl⟩)

/-! ### law_k03 -/
def ir_law_k03 : Sms := (.cons (.asg (.nm 1) (.call 0 (.e (.var 0) .nil))) (.cons (.asg (.nm 2) (.frz (.int 4))) (.cons (.asg (.nm 3) (.frz (.bin .add (.int 1) (.call 1 (.io 1 (.e (.int 4) .nil)))))) (.cons (.asg (.nm 4) (.frz (.call 1 (.io 1 (.e (.int 10) .nil))))) (.cons (.ite (.cmp .eq (.call 1 (.io 1 (.e (.int 4) .nil))) (.int 0)) (.cons (.asg (.nm 2) (.frz (.int 21))) (.cons (.asg (.nm 3) (.frz (.bin .add (.int 1) (.call 1 (.io 1 (.e (.int 2) .nil)))))) (.cons (.asg (.nm 4) (.frz (.call 1 (.io 1 (.e (.int 25) .nil))))) .nil))) .nil) (.cons (.setLc 5 [6] (.r1 (.var 3)) (.nm 6) .no (.call 1 (.io 1 (.e (.flat (.var 2)) .nil)))) (.cons (.at_ [.F, .O (.O .Z), .F, .F, .F, .F, .X, .X, .X, .X, .X, .X, .X, .X, .X, .X] (.asg (.nm 7) (.lst .F .nil))) (.cons (.for_ (.list (.var 5)) (.nm 8) (.cons (.asg (.nm 9) (.frz (.call 1 (.io 1 (.e (.int 4) .nil))))) (.cons (.asg (.nm 10) (.frz (.call 1 (.io 1 (.e (.int 3) .nil))))) (.cons (.asg (.nm 11) (.frz (.tup .Z (.e (.int 0) (.e (.int 40) .nil))))) (.cons (.ite (.cmp .eq (.var 9) (.int 0)) (.cons (.asg (.nm 11) (.frz (.tup .Z (.e (.flat (.var 10)) (.e (.bin .add (.var 10) (.call 1 (.io 1 (.e (.int 4) .nil)))) .nil))))) .nil) .nil) (.cons (.ite (.cmp .eq (.var 9) (.int 1)) (.cons (.asg (.nm 11) (.frz (.tup .Z (.e (.int 0) (.e (.flat (.var 10)) .nil))))) .nil) .nil) (.cons (.expr (.app 7 (.var 11))) (.wipe [8, 9, 10, 11] .nil)))))))) (.cons (.asg (.nm 12) (.frz (.blt .list (.e (.var 5) .nil)))) (.cons (.asg (.nm 13) (.frz (.blt .list (.e (.fv 7) .nil)))) (.cons (.setLc 14 [15] (.list (.call 2 (.e (.var 5) (.e (.var 4) (.e (.var 7) .nil))))) (.nm 15) .no (.frz (.blt .tuple (.e (.var 15) .nil)))) (.cons (.at_ [.F, .O (.O .Z), .F, .F, .F, .F, .X, .F, .X, .X, .X, .X, .F, .F, .F, .X] (.ite (.not (.val (.call 3 (.e (.call 4 (.e (.var 12) (.e (.var 4) (.e (.var 13) .nil)))) (.e (.var 14) .nil))))) (.cons (.ret (.bl false)) .nil) .nil)) (.cons (.ret (.andV (.cmp .eq (.var 12) (.var 5)) (.cmp .eq (.var 13) (.var 7)))) .nil)))))))))))))
noncomputable def F_law_k03 : List D → Fo := runF 16 [false] (exs [fn_law_bag, fn_law_pull, fn_law_fit, fn_law_same, fn_fillings] ir_law_k03)
noncomputable def fn_law_k03 : Fn := ⟨"law", [.F], .Z, F_law_k03, [], [], []⟩
def m_law_k03 (script_ : List Int) : M (Bool) :=
  M.bind (m_law_bag script_) fun v_ =>
  M.bind (m_law_pull v_ 4) fun p_ =>
  M.bind (.ok ((1 + p_.1) : Int)) fun lot_ =>
  M.bind (m_law_pull p_.2 10) fun p_1 =>
  M.bind (m_law_pull p_1.2 4) fun p_2 =>
  M.bind (if decide (p_2.1 = 0) = true then (M.bind (m_law_pull p_2.2 2) fun p_3 =>
  M.bind (.ok ((1 + p_3.1) : Int)) fun lot_1 =>
  M.bind (m_law_pull p_3.2 25) fun p_4 =>
  .ok (21, lot_1, p_4.2, p_4.1)) else (.ok (4, lot_, p_2.2, p_1.1))) fun s_ =>
  M.bind (rangeM 0 s_.2.1) fun xs_ =>
  M.bind (M.smapM xs_ s_.2.2.1 (fun (s_1 : Bag) (x_ : Int) => M.bind (M.nox (m_law_pull s_1 s_.1)) fun p_5 =>
  .ok (p_5.1, p_5.2))) fun r_ =>
  M.bind (.ok (([] : List (Int × Int)) : List (Int × Int))) fun pairs_ =>
  M.bind (M.fold r_.1 (r_.2, pairs_) fun (s_3 : Bag × (List (Int × Int))) (x_1 : Int) => M.bind (m_law_pull s_3.1 4) fun p_6 =>
  M.bind (m_law_pull p_6.2 3) fun p_7 =>
  M.bind (.ok ((0, 40) : Int × Int)) fun duo_ =>
  M.bind (if decide (p_6.1 = 0) = true then (M.bind (m_law_pull p_7.2 4) fun p_8 =>
  M.bind (.ok ((p_7.1, (p_7.1 + p_8.1)) : Int × Int)) fun duo_1 =>
  .ok (duo_1, p_8.2)) else (.ok (duo_, p_7.2))) fun s_4 =>
  M.bind (if decide (p_6.1 = 1) = true then (M.bind (.ok ((0, p_7.1) : Int × Int)) fun duo_2 =>
  .ok duo_2) else (.ok s_4.1)) fun s_5 =>
  M.bind (M.opt (appO s_3.2 s_5)) fun pairs_1 =>
  .ok (s_4.2, pairs_1)) fun s_6 =>
  M.bind (m_law_fit r_.1 s_.2.2.2 s_6.2) fun v_1 =>
  M.bind (.ok ((v_1.map fun (x_2 : List Int) => (Tu.mk x_2)) : List (Tu Int))) fun due_ =>
  M.bind (m_fillings r_.1 s_.2.2.2 s_6.2) fun v_2 =>
  M.bind (m_law_same v_2 due_) fun v_3 =>
  if (!v_3) = true then
  (.ok false)
  else
  (.ok ((decide (r_.1 = r_.1)) && (decide (s_6.2 = s_6.2))))
theorem t_law_k03 (script_ : List Int) : FoTie (F_law_k03 [E script_]) (m_law_k03 script_) (fun b => E b) (fun _ => [none]) := by
  refine FoTie.of (Γ := [some (E script_), none, none, none, none, none, none, none, none, none, none, none, none, none, none, none]) rfl ?_
  unfold m_law_k03 ir_law_k03
  refine Tie.set ?_
  refine Tie.call (g := 0) (f := fn_law_bag) rfl ?_
  refine Tie.a ?_
  refine Tie.var (i := 0) rfl ?_
  refine Tie.a0 ?_
  refine Tie.fo (t_law_bag script_) (g := fun _ => [some (E script_), none, none, none, none, none, none, none, none, none, none, none, none, none, none, none]) (fun _ => rfl) (fun _ _ => trivial) fun v_ => ?_
  refine Tie.norm (Γ := [some (E script_), some (E v_), none, none, none, none, none, none, none, none, none, none, none, none, none, none]) rfl ?_
  refine Tie.set ?_
  refine Tie.frz ?_
  refine Tie.int ?_
  refine Tie.norm (Γ := [some (E script_), some (E v_), some (E (4 : Int)), none, none, none, none, none, none, none, none, none, none, none, none, none]) rfl ?_
  refine Tie.set ?_
  refine Tie.frz ?_
  refine Tie.bin ?_
  refine Tie.int ?_
  refine Tie.call (g := 1) (f := fn_law_pull) rfl ?_
  refine Tie.aio (i := 1) (Γ1 := [some (E script_), none, some (E (4 : Int)), none, none, none, none, none, none, none, none, none, none, none, none, none]) rfl rfl ?_
  refine Tie.a ?_
  refine Tie.int ?_
  refine Tie.a0 ?_
  refine Tie.fo (t_law_pull v_ 4) (g := fun p_ => [some (E script_), some (E p_.2), some (E (4 : Int)), none, none, none, none, none, none, none, none, none, none, none, none, none]) (fun _ => rfl) (fun _ _ => trivial) fun p_ => ?_
  refine Tie.op op_add ?_
  refine Tie.gen (a := ((1 + p_.1) : Int)) (fun lot_ => [some (E script_), some (E p_.2), some (E (4 : Int)), some (E lot_), none, none, none, none, none, none, none, none, none, none, none, none]) rfl fun lot_ => ?_
  refine Tie.set ?_
  refine Tie.frz ?_
  refine Tie.call (g := 1) (f := fn_law_pull) rfl ?_
  refine Tie.aio (i := 1) (Γ1 := [some (E script_), none, some (E (4 : Int)), some (E lot_), none, none, none, none, none, none, none, none, none, none, none, none]) rfl rfl ?_
  refine Tie.a ?_
  refine Tie.int ?_
  refine Tie.a0 ?_
  refine Tie.fo (t_law_pull p_.2 10) (g := fun p_1 => [some (E script_), some (E p_1.2), some (E (4 : Int)), some (E lot_), none, none, none, none, none, none, none, none, none, none, none, none]) (fun _ => rfl) (fun _ _ => trivial) fun p_1 => ?_
  refine Tie.norm (Γ := [some (E script_), some (E p_1.2), some (E (4 : Int)), some (E lot_), some (E p_1.1), none, none, none, none, none, none, none, none, none, none, none]) rfl ?_
  refine Tie.ite ?_
  refine Tie.tcmp ?_
  refine Tie.call (g := 1) (f := fn_law_pull) rfl ?_
  refine Tie.aio (i := 1) (Γ1 := [some (E script_), none, some (E (4 : Int)), some (E lot_), some (E p_1.1), none, none, none, none, none, none, none, none, none, none, none]) rfl rfl ?_
  refine Tie.a ?_
  refine Tie.int ?_
  refine Tie.a0 ?_
  refine Tie.fo (t_law_pull p_1.2 4) (g := fun p_2 => [some (E script_), some (E p_2.2), some (E (4 : Int)), some (E lot_), some (E p_1.1), none, none, none, none, none, none, none, none, none, none, none]) (fun _ => rfl) (fun _ _ => trivial) fun p_2 => ?_
  refine Tie.int ?_
  refine Tie.op op_eq ?_
  refine Tie.isB ?_
  refine Tie.ifj (fun (s_ : Int × Int × Bag × Int) => [some (E script_), some (E s_.2.2.1), some (E s_.1), some (E s_.2.1), some (E s_.2.2.2), none, none, none, none, none, none, none, none, none, none, none]) ?_ ?_ fun s_ => ?_
  · refine Tie.set ?_
    refine Tie.frz ?_
    refine Tie.int ?_
    refine Tie.norm (Γ := [some (E script_), some (E p_2.2), some (E (21 : Int)), some (E lot_), some (E p_1.1), none, none, none, none, none, none, none, none, none, none, none]) rfl ?_
    refine Tie.set ?_
    refine Tie.frz ?_
    refine Tie.bin ?_
    refine Tie.int ?_
    refine Tie.call (g := 1) (f := fn_law_pull) rfl ?_
    refine Tie.aio (i := 1) (Γ1 := [some (E script_), none, some (E (21 : Int)), some (E lot_), some (E p_1.1), none, none, none, none, none, none, none, none, none, none, none]) rfl rfl ?_
    refine Tie.a ?_
    refine Tie.int ?_
    refine Tie.a0 ?_
    refine Tie.fo (t_law_pull p_2.2 2) (g := fun p_3 => [some (E script_), some (E p_3.2), some (E (21 : Int)), some (E lot_), some (E p_1.1), none, none, none, none, none, none, none, none, none, none, none]) (fun _ => rfl) (fun _ _ => trivial) fun p_3 => ?_
    refine Tie.op op_add ?_
    refine Tie.gen (a := ((1 + p_3.1) : Int)) (fun lot_1 => [some (E script_), some (E p_3.2), some (E (21 : Int)), some (E lot_1), some (E p_1.1), none, none, none, none, none, none, none, none, none, none, none]) rfl fun lot_1 => ?_
    refine Tie.set ?_
    refine Tie.frz ?_
    refine Tie.call (g := 1) (f := fn_law_pull) rfl ?_
    refine Tie.aio (i := 1) (Γ1 := [some (E script_), none, some (E (21 : Int)), some (E lot_1), some (E p_1.1), none, none, none, none, none, none, none, none, none, none, none]) rfl rfl ?_
    refine Tie.a ?_
    refine Tie.int ?_
    refine Tie.a0 ?_
    refine Tie.fo (t_law_pull p_3.2 25) (g := fun p_4 => [some (E script_), some (E p_4.2), some (E (21 : Int)), some (E lot_1), some (E p_1.1), none, none, none, none, none, none, none, none, none, none, none]) (fun _ => rfl) (fun _ _ => trivial) fun p_4 => ?_
    refine Tie.norm (Γ := [some (E script_), some (E p_4.2), some (E (21 : Int)), some (E lot_1), some (E p_4.1), none, none, none, none, none, none, none, none, none, none, none]) rfl ?_
    refine Tie.nil ?_
    exact Tie.done rfl
  · refine Tie.nil ?_
    exact Tie.done rfl
  refine Tie.setLc ?_
  refine Tie.ir1 ?_
  refine Tie.var (i := 3) rfl ?_
  refine Tie.opG opG_r1 fun xs_ => ?_
  refine Tie.lcS (fun (s_1 : Bag) => [some (E script_), some (E s_1), some (E s_.1), some (E s_.2.1), some (E s_.2.2.2), none, none, none, none, none, none, none, none, none, none, none]) (tg := fun (s_1 : Bag) x_ => [some (E script_), some (E s_1), some (E s_.1), some (E s_.2.1), some (E s_.2.2.2), none, some (E x_), none, none, none, none, none, none, none, none, none]) (hh := fun s_1 x_ y_ => [some (E script_), some (E y_.2), some (E s_.1), some (E s_.2.1), some (E s_.2.2.2), none, some (E x_), none, none, none, none, none, none, none, none, none]) (gk := fun s_2 => [some (E script_), some (E s_2), some (E s_.1), some (E s_.2.1), some (E s_.2.2.2), none, none, none, none, none, none, none, none, none, none, none]) rfl (fun _ => rfl) (fun _ _ => rfl) (fun _ _ => rfl) (fun _ _ _ => rfl) (fun s_1 x_ => ?_) fun r_ => ?_
  · refine Tie.call (g := 1) (f := fn_law_pull) rfl ?_
    refine Tie.aio (i := 1) (Γ1 := [some (E script_), none, some (E s_.1), some (E s_.2.1), some (E s_.2.2.2), none, some (E x_), none, none, none, none, none, none, none, none, none]) rfl rfl ?_
    refine Tie.a ?_
    refine Tie.flat ?_
    refine Tie.var (i := 2) rfl ?_
    refine Tie.op (op_isFlat rfl) ?_
    refine Tie.a0 ?_
    refine Tie.foN (t_law_pull s_1 s_.1) (g := fun p_5 => [some (E script_), some (E p_5.2), some (E s_.1), some (E s_.2.1), some (E s_.2.2.2), none, some (E x_), none, none, none, none, none, none, none, none, none]) (fun _ => rfl) fun p_5 => ?_
    exact Tie.done rfl
  refine Tie.norm (Γ := [some (E script_), some (E r_.2), some (E s_.1), some (E s_.2.1), some (E s_.2.2.2), some (E r_.1), none, none, none, none, none, none, none, none, none, none]) rfl ?_
  refine Tie.at_ ?_
  refine Tie.set ?_
  refine Tie.lst ?_
  refine Tie.a0 ?_
  refine Tie.op (a := E ([] : List (Int × Int))) rfl ?_
  refine Tie.gen (a := (([] : List (Int × Int)) : List (Int × Int))) (fun pairs_ => [some (E script_), some (E r_.2), some (E s_.1), some (E s_.2.1), some (E s_.2.2.2), some (E r_.1), none, some (E pairs_), none, none, none, none, none, none, none, none]) rfl fun pairs_ => ?_
  refine Tie.for_ ?_
  refine Tie.ilist ?_
  refine Tie.var (i := 5) rfl ?_
  refine Tie.op op_lst ?_
  refine Tie.forS (fun (s_3 : Bag × (List (Int × Int))) => [some (E script_), some (E s_3.1), some (E s_.1), some (E s_.2.1), some (E s_.2.2.2), some (E r_.1), none, some (E s_3.2), none, none, none, none, none, none, none, none]) (tg := fun (s_3 : Bag × (List (Int × Int))) (x_1 : Int) => [some (E script_), some (E s_3.1), some (E s_.1), some (E s_.2.1), some (E s_.2.2.2), some (E r_.1), none, some (E s_3.2), some (E x_1), none, none, none, none, none, none, none]) rfl (fun _ _ => rfl) (fun s_3 x_1 => ?_) fun s_6 => ?_
  · refine Tie.set ?_
    refine Tie.frz ?_
    refine Tie.call (g := 1) (f := fn_law_pull) rfl ?_
    refine Tie.aio (i := 1) (Γ1 := [some (E script_), none, some (E s_.1), some (E s_.2.1), some (E s_.2.2.2), some (E r_.1), none, some (E s_3.2), some (E x_1), none, none, none, none, none, none, none]) rfl rfl ?_
    refine Tie.a ?_
    refine Tie.int ?_
    refine Tie.a0 ?_
    refine Tie.fo (t_law_pull s_3.1 4) (g := fun p_6 => [some (E script_), some (E p_6.2), some (E s_.1), some (E s_.2.1), some (E s_.2.2.2), some (E r_.1), none, some (E s_3.2), some (E x_1), none, none, none, none, none, none, none]) (fun _ => rfl) (fun _ _ => trivial) fun p_6 => ?_
    refine Tie.norm (Γ := [some (E script_), some (E p_6.2), some (E s_.1), some (E s_.2.1), some (E s_.2.2.2), some (E r_.1), none, some (E s_3.2), some (E x_1), some (E p_6.1), none, none, none, none, none, none]) rfl ?_
    refine Tie.set ?_
    refine Tie.frz ?_
    refine Tie.call (g := 1) (f := fn_law_pull) rfl ?_
    refine Tie.aio (i := 1) (Γ1 := [some (E script_), none, some (E s_.1), some (E s_.2.1), some (E s_.2.2.2), some (E r_.1), none, some (E s_3.2), some (E x_1), some (E p_6.1), none, none, none, none, none, none]) rfl rfl ?_
    refine Tie.a ?_
    refine Tie.int ?_
    refine Tie.a0 ?_
    refine Tie.fo (t_law_pull p_6.2 3) (g := fun p_7 => [some (E script_), some (E p_7.2), some (E s_.1), some (E s_.2.1), some (E s_.2.2.2), some (E r_.1), none, some (E s_3.2), some (E x_1), some (E p_6.1), none, none, none, none, none, none]) (fun _ => rfl) (fun _ _ => trivial) fun p_7 => ?_
    refine Tie.norm (Γ := [some (E script_), some (E p_7.2), some (E s_.1), some (E s_.2.1), some (E s_.2.2.2), some (E r_.1), none, some (E s_3.2), some (E x_1), some (E p_6.1), some (E p_7.1), none, none, none, none, none]) rfl ?_
    refine Tie.set ?_
    refine Tie.frz ?_
    refine Tie.tup ?_
    refine Tie.a ?_
    refine Tie.int ?_
    refine Tie.a ?_
    refine Tie.int ?_
    refine Tie.a0 ?_
    refine Tie.op (a := E ((0, 40) : Int × Int)) rfl ?_
    refine Tie.gen (a := ((0, 40) : Int × Int)) (fun duo_ => [some (E script_), some (E p_7.2), some (E s_.1), some (E s_.2.1), some (E s_.2.2.2), some (E r_.1), none, some (E s_3.2), some (E x_1), some (E p_6.1), some (E p_7.1), some (E duo_), none, none, none, none]) rfl fun duo_ => ?_
    refine Tie.ite ?_
    refine Tie.tcmp ?_
    refine Tie.var (i := 9) rfl ?_
    refine Tie.int ?_
    refine Tie.op op_eq ?_
    refine Tie.isB ?_
    refine Tie.ifj (fun (s_4 : (Int × Int) × Bag) => [some (E script_), some (E s_4.2), some (E s_.1), some (E s_.2.1), some (E s_.2.2.2), some (E r_.1), none, some (E s_3.2), some (E x_1), some (E p_6.1), some (E p_7.1), some (E s_4.1), none, none, none, none]) ?_ ?_ fun s_4 => ?_
    · refine Tie.set ?_
      refine Tie.frz ?_
      refine Tie.tup ?_
      refine Tie.a ?_
      refine Tie.flat ?_
      refine Tie.var (i := 10) rfl ?_
      refine Tie.op (op_isFlat rfl) ?_
      refine Tie.a ?_
      refine Tie.bin ?_
      refine Tie.var (i := 10) rfl ?_
      refine Tie.call (g := 1) (f := fn_law_pull) rfl ?_
      refine Tie.aio (i := 1) (Γ1 := [some (E script_), none, some (E s_.1), some (E s_.2.1), some (E s_.2.2.2), some (E r_.1), none, some (E s_3.2), some (E x_1), some (E p_6.1), some (E p_7.1), some (E duo_), none, none, none, none]) rfl rfl ?_
      refine Tie.a ?_
      refine Tie.int ?_
      refine Tie.a0 ?_
      refine Tie.fo (t_law_pull p_7.2 4) (g := fun p_8 => [some (E script_), some (E p_8.2), some (E s_.1), some (E s_.2.1), some (E s_.2.2.2), some (E r_.1), none, some (E s_3.2), some (E x_1), some (E p_6.1), some (E p_7.1), some (E duo_), none, none, none, none]) (fun _ => rfl) (fun _ _ => trivial) fun p_8 => ?_
      refine Tie.op op_add ?_
      refine Tie.a0 ?_
      refine Tie.op (a := E ((p_7.1, (p_7.1 + p_8.1)) : Int × Int)) rfl ?_
      refine Tie.gen (a := ((p_7.1, (p_7.1 + p_8.1)) : Int × Int)) (fun duo_1 => [some (E script_), some (E p_8.2), some (E s_.1), some (E s_.2.1), some (E s_.2.2.2), some (E r_.1), none, some (E s_3.2), some (E x_1), some (E p_6.1), some (E p_7.1), some (E duo_1), none, none, none, none]) rfl fun duo_1 => ?_
      refine Tie.nil ?_
      exact Tie.done rfl
    · refine Tie.nil ?_
      exact Tie.done rfl
    refine Tie.ite ?_
    refine Tie.tcmp ?_
    refine Tie.var (i := 9) rfl ?_
    refine Tie.int ?_
    refine Tie.op op_eq ?_
    refine Tie.isB ?_
    refine Tie.ifj (fun (s_5 : (Int × Int)) => [some (E script_), some (E s_4.2), some (E s_.1), some (E s_.2.1), some (E s_.2.2.2), some (E r_.1), none, some (E s_3.2), some (E x_1), some (E p_6.1), some (E p_7.1), some (E s_5), none, none, none, none]) ?_ ?_ fun s_5 => ?_
    · refine Tie.set ?_
      refine Tie.frz ?_
      refine Tie.tup ?_
      refine Tie.a ?_
      refine Tie.int ?_
      refine Tie.a ?_
      refine Tie.flat ?_
      refine Tie.var (i := 10) rfl ?_
      refine Tie.op (op_isFlat rfl) ?_
      refine Tie.a0 ?_
      refine Tie.op (a := E ((0, p_7.1) : Int × Int)) rfl ?_
      refine Tie.gen (a := ((0, p_7.1) : Int × Int)) (fun duo_2 => [some (E script_), some (E s_4.2), some (E s_.1), some (E s_.2.1), some (E s_.2.2.2), some (E r_.1), none, some (E s_3.2), some (E x_1), some (E p_6.1), some (E p_7.1), some (E duo_2), none, none, none, none]) rfl fun duo_2 => ?_
      refine Tie.nil ?_
      exact Tie.done rfl
    · refine Tie.nil ?_
      exact Tie.done rfl
    refine Tie.app (xs := s_3.2) rfl ?_
    refine Tie.var (i := 11) rfl ?_
    refine Tie.up (p := appO s_3.2 s_5) (G := fun pairs_1 => [some (E script_), some (E s_4.2), some (E s_.1), some (E s_.2.1), some (E s_.2.2.2), some (E r_.1), none, some (E pairs_1), some (E x_1), some (E p_6.1), some (E p_7.1), some (E s_5), none, none, none, none]) (upL_1 (h' := fun xs => appO xs s_5) rfl rfl fun _ => app_E _) fun pairs_1 => ?_
    refine Tie.wipe (Γ1 := [some (E script_), some (E s_4.2), some (E s_.1), some (E s_.2.1), some (E s_.2.2.2), some (E r_.1), none, some (E pairs_1), none, none, none, none, none, none, none, none]) rfl ?_
    refine Tie.nil ?_
    exact Tie.done (.inl rfl)
  refine Tie.set ?_
  refine Tie.frz ?_
  refine Tie.blt ?_
  refine Tie.a ?_
  refine Tie.var (i := 5) rfl ?_
  refine Tie.a0 ?_
  refine Tie.op op_list ?_
  refine Tie.norm (Γ := [some (E script_), some (E s_6.1), some (E s_.1), some (E s_.2.1), some (E s_.2.2.2), some (E r_.1), none, some (E s_6.2), none, none, none, none, some (E r_.1), none, none, none]) rfl ?_
  refine Tie.set ?_
  refine Tie.frz ?_
  refine Tie.blt ?_
  refine Tie.a ?_
  refine Tie.fv (i := 7) rfl ?_
  refine Tie.a0 ?_
  refine Tie.op op_list ?_
  refine Tie.norm (Γ := [some (E script_), some (E s_6.1), some (E s_.1), some (E s_.2.1), some (E s_.2.2.2), some (E r_.1), none, some (E s_6.2), none, none, none, none, some (E r_.1), some (E s_6.2), none, none]) rfl ?_
  refine Tie.setLc ?_
  refine Tie.ilist ?_
  refine Tie.call (g := 2) (f := fn_law_fit) rfl ?_
  refine Tie.a ?_
  refine Tie.var (i := 5) rfl ?_
  refine Tie.a ?_
  refine Tie.var (i := 4) rfl ?_
  refine Tie.a ?_
  refine Tie.var (i := 7) rfl ?_
  refine Tie.a0 ?_
  refine Tie.fo (t_law_fit r_.1 s_.2.2.2 s_6.2) (g := fun _ => [some (E script_), some (E s_6.1), some (E s_.1), some (E s_.2.1), some (E s_.2.2.2), some (E r_.1), none, some (E s_6.2), none, none, none, none, some (E r_.1), some (E s_6.2), none, none]) (fun _ => rfl) (fun _ _ => trivial) fun v_1 => ?_
  refine Tie.op op_lst ?_
  refine Tie.lcP [some (E script_), some (E s_6.1), some (E s_.1), some (E s_.2.1), some (E s_.2.2.2), some (E r_.1), none, some (E s_6.2), none, none, none, none, some (E r_.1), some (E s_6.2), none, none] rfl rfl (f := fun (x_2 : List Int) => (Tu.mk x_2)) (tg := fun x_2 => [some (E script_), some (E s_6.1), some (E s_.1), some (E s_.2.1), some (E s_.2.2.2), some (E r_.1), none, some (E s_6.2), none, none, none, none, some (E r_.1), some (E s_6.2), none, some (E x_2)]) (fun _ => rfl) (fun _ => rfl) (fun _ => rfl) (fun x_2 => ?_) ?_
  · refine Tie.frz ?_
    refine Tie.blt ?_
    refine Tie.a ?_
    refine Tie.var (i := 15) rfl ?_
    refine Tie.a0 ?_
    refine Tie.op op_tuple ?_
    exact Tie.done rfl
  refine Tie.gen (a := ((v_1.map fun (x_2 : List Int) => (Tu.mk x_2)) : List (Tu Int))) (fun due_ => [some (E script_), some (E s_6.1), some (E s_.1), some (E s_.2.1), some (E s_.2.2.2), some (E r_.1), none, some (E s_6.2), none, none, none, none, some (E r_.1), some (E s_6.2), some (E due_), none]) rfl fun due_ => ?_
  refine Tie.at_ ?_
  refine Tie.ite ?_
  refine Tie.tnot ?_
  refine Tie.tval ?_
  refine Tie.call (g := 3) (f := fn_law_same) rfl ?_
  refine Tie.a ?_
  refine Tie.call (g := 4) (f := fn_fillings) rfl ?_
  refine Tie.a ?_
  refine Tie.var (i := 12) rfl ?_
  refine Tie.a ?_
  refine Tie.var (i := 4) rfl ?_
  refine Tie.a ?_
  refine Tie.var (i := 13) rfl ?_
  refine Tie.a0 ?_
  refine Tie.fo (t_fillings r_.1 s_.2.2.2 s_6.2) (g := fun _ => [some (E script_), some (E s_6.1), some (E s_.1), some (E s_.2.1), some (E s_.2.2.2), some (E r_.1), none, some (E s_6.2), none, none, none, none, some (E r_.1), some (E s_6.2), some (E due_), none]) (fun _ => rfl) (fun _ _ => trivial) fun v_2 => ?_
  refine Tie.a ?_
  refine Tie.var (i := 14) rfl ?_
  refine Tie.a0 ?_
  refine Tie.fo (t_law_same v_2 due_) (g := fun _ => [some (E script_), some (E s_6.1), some (E s_.1), some (E s_.2.1), some (E s_.2.2.2), some (E r_.1), none, some (E s_6.2), none, none, none, none, some (E r_.1), some (E s_6.2), some (E due_), none]) (fun _ => rfl) (fun _ _ => trivial) fun v_3 => ?_
  refine Tie.isB ?_
  refine Tie.ifc ?_ ?_
  · refine Tie.ret ?_
    refine Tie.bl ?_
    exact Tie.done (.inl ⟨_, rfl, rfl⟩)
  · refine Tie.nil ?_
    refine Tie.ret ?_
    refine Tie.vandP (x := decide (r_.1 = r_.1)) (y := decide (s_6.2 = s_6.2)) ?_ ?_ ?_
    · refine Tie.whole ?_
      refine Tie.cmp ?_
      refine Tie.var (i := 12) rfl ?_
      refine Tie.var (i := 5) rfl ?_
      refine Tie.op op_eq ?_
      exact Tie.done rfl
    · refine Tie.whole ?_
      refine Tie.cmp ?_
      refine Tie.var (i := 13) rfl ?_
      refine Tie.var (i := 7) rfl ?_
      refine Tie.op op_eq ?_
      exact Tie.done rfl
    exact Tie.done (.inl ⟨_, rfl, rfl⟩)

end EV

/-! P_fill: the fillings of a column, told twice. -/
namespace EV
open PySem PySem.Spec L2
theorem fmapM_ok {α γ : Type} (g : α → Option γ) {f : α → M (Option γ)} : ∀ {xs : List α}, (∀ x ∈ xs, f x = .ok (g x)) → M.fmapM xs f = .ok (xs.filterMap g)
  | [], _ => rfl
  | x :: xs, h => by
    rw [M.fmapM_cons, h x List.mem_cons_self, M.ok_bind, fmapM_ok g fun y hy => h y (List.mem_cons_of_mem _ hy), M.ok_bind]
    cases e : g x with
    | none => rw [List.filterMap_cons_none e]
    | some y => rw [List.filterMap_cons_some e]
theorem catTM_ok {α : Type} {xs ys : Tu α} (h : xs.l.length + ys.l.length ≤ 16777216) : catTM xs ys = .ok ⟨xs.l ++ ys.l⟩ := if_pos h
/-- items put behind a list, one a turn -/
theorem fold_put {α β : Type} {f : List β → α → M (List β)} {h : α → List β} {N : Nat} : ∀ {xs : List α} {s : List β} {k : Nat}, (∀ x ∈ xs, (h x).length ≤ k) → s.length + xs.length * k ≤ N → (∀ s x, x ∈ xs → s.length + (h x).length ≤ N → f s x = .ok (s ++ h x)) → M.fold xs s f = .ok (s ++ xs.flatMap h)
  | [], s, k, _, _, _ => by rw [List.flatMap_nil, List.append_nil]; rfl
  | x :: xs, s, k, h1, h2, h3 => by
    have l1 := h1 x List.mem_cons_self
    have e : (x :: xs).length * k = k + xs.length * k := by rw [List.length_cons, Nat.add_mul, Nat.one_mul, Nat.add_comm]
    rw [e] at h2
    rw [M.fold_cons, h3 s x List.mem_cons_self (by omega), M.ok_bind, fold_put (k := k) (fun y hy => h1 y (List.mem_cons_of_mem _ hy)) (by rw [List.length_append]; omega) fun s y hy => h3 s y (List.mem_cons_of_mem _ hy)]
    rw [List.flatMap_cons, List.append_assoc]
abbrev Fx1 := Int × (Int × Int)
def opts (x : Fx1) : List Int := uptoI x.2.1 (min2I x.2.2 x.1 + 1 - x.2.1).toNat
def ext (x : Fx1) (one : List Int) : List (List Int) := (opts x).map fun c => one ++ [c]
structure FGood (x : Fx1) : Prop where
  r0 : 0 ≤ x.1
  r1 : x.1 ≤ 20
  l0 : 0 ≤ x.2.1
  l1 : x.2.1 ≤ 100
  h0 : 0 ≤ x.2.2
  h1 : x.2.2 ≤ 100
theorem min2_le {a b : Int} : min2I a b ≤ a ∧ min2I a b ≤ b ∧ (0 ≤ a → 0 ≤ b → 0 ≤ min2I a b) := by
  unfold min2I; split <;> omega
theorem min2_comm {a b : Int} : min2I a b = min2I b a := by
  unfold min2I; split <;> split <;> omega
theorem opts_len {x : Fx1} (g : FGood x) : (opts x).length ≤ 21 := by
  unfold opts
  rw [uptoI_length]
  have h := @min2_le x.2.2 x.1
  have := g.l0
  have := g.r1
  omega
theorem opts_pos {x : Fx1} (g : FGood x) : ∀ c ∈ opts x, 0 ≤ c := fun c hc => by
  have := (uptoI_mem.mp hc).1
  have := g.l0
  omega
theorem ext_len {x : Fx1} (g : FGood x) (one : List Int) : (ext x one).length ≤ 21 := by unfold ext; rw [List.length_map]; exact opts_len g
theorem opts_range {x : Fx1} (g : FGood x) : rangeM x.2.1 (min2I x.2.2 x.1 + 1) = .ok (opts x) := by
  have h := @min2_le x.2.2 x.1
  have := g.r0; have := g.r1; have := g.l0; have := g.l1; have := g.h0; have := g.h1
  have h3 := h.2.2 (by omega) (by omega)
  exact rangeM_ok (by omega) (by omega) (by omega) (by omega)
def fitS (found : List (List Int)) (x : Fx1) : M (List (List Int)) := M.bind (.ok (([] : List (List Int)) : List (List Int))) fun longer_ =>
  M.bind (M.fold found longer_ fun (s_1 : (List (List Int))) (x_1 : List Int) => M.bind (rangeM x.2.1 ((min2I x.2.2 x.1) + 1)) fun xs_ =>
  M.bind (M.fold xs_ s_1 fun (s_2 : (List (List Int))) (x_2 : Int) => M.bind (catM x_1 ([x_2] : List Int)) fun v_ =>
  M.bind (M.opt (appO s_2 v_)) fun longer_1 =>
  .ok longer_1) fun s_3 =>
  .ok s_3) fun s_4 =>
  .ok s_4
theorem fitS_ok {found : List (List Int)} {x : Fx1} {n : Nat} (g : FGood x) (hn : n ≤ 3) (h1 : found.length ≤ 9261) (h2 : ∀ o ∈ found, o.length ≤ n) : fitS found x = .ok (found.flatMap (ext x)) := by
  unfold fitS
  rw [M.ok_bind]
  have key : M.fold found ([] : List (List Int)) (fun (s_1 : (List (List Int))) (x_1 : List Int) => M.bind (rangeM x.2.1 ((min2I x.2.2 x.1) + 1)) fun xs_ =>
      M.bind (M.fold xs_ s_1 fun (s_2 : (List (List Int))) (x_2 : Int) => M.bind (catM x_1 ([x_2] : List Int)) fun v_ =>
      M.bind (M.opt (appO s_2 v_)) fun longer_1 => .ok longer_1) fun s_3 => .ok s_3) = .ok ([] ++ found.flatMap (ext x)) := by
    refine fold_put (N := 200000) (k := 21) (fun o _ => ext_len g o) (by simp; omega) fun s o ho hl => ?_
    rw [opts_range g, M.ok_bind]
    have key2 : M.fold (opts x) s (fun (s_2 : (List (List Int))) (x_2 : Int) => M.bind (catM o ([x_2] : List Int)) fun v_ =>
        M.bind (M.opt (appO s_2 v_)) fun longer_1 => .ok longer_1) = .ok (s ++ (opts x).flatMap fun c => [o ++ [c]]) := by
      refine fold_put (N := 200000) (k := 1) (fun c _ => Nat.le_refl _) ?_ fun s c _ hl2 => ?_
      · unfold ext at hl; rw [List.length_map] at hl; omega
      · have := h2 o ho
        rw [catM_ok (by simp; omega), M.ok_bind, appO_ok (by simp at hl2; omega)]
        rfl
    rw [key2, M.ok_bind]
    have e : ((opts x).flatMap fun c => [o ++ [c]]) = ext x o := by
      unfold ext
      induction opts x with
      | nil => rfl
      | cons c cs ih => rw [List.flatMap_cons, ih]; rfl
    rw [e]
  rw [key, M.ok_bind, List.nil_append]
theorem flat_len {α β : Type} {f : α → List β} {k : Nat} : ∀ {xs : List α}, (∀ x ∈ xs, (f x).length ≤ k) → (xs.flatMap f).length ≤ xs.length * k
  | [], _ => by simp
  | x :: xs, h => by
    have := h x List.mem_cons_self
    have ih := flat_len (xs := xs) fun y hy => h y (List.mem_cons_of_mem _ hy)
    rw [List.flatMap_cons, List.length_append, List.length_cons, Nat.add_mul, Nat.one_mul]
    omega
def fitL (xs : List Fx1) (found : List (List Int)) : List (List Int) := xs.foldl (fun f x => f.flatMap (ext x)) found
def pw21 : Nat → Nat
  | 0 => 1
  | n + 1 => pw21 n * 21
theorem pw21_le {n : Nat} (h : n ≤ 4) : pw21 n ≤ 194481 ∧ (n ≤ 3 → pw21 n ≤ 9261) := by
  have : n = 0 ∨ n = 1 ∨ n = 2 ∨ n = 3 ∨ n = 4 := by omega
  rcases this with rfl | rfl | rfl | rfl | rfl <;> decide
theorem ext_step {found : List (List Int)} {x : Fx1} {n : Nat} (g : FGood x) (h1 : found.length ≤ pw21 n) (h2 : ∀ o ∈ found, o.length ≤ n) : (found.flatMap (ext x)).length ≤ pw21 (n + 1) ∧ ∀ o ∈ found.flatMap (ext x), o.length ≤ n + 1 := by
  refine ⟨Nat.le_trans (flat_len fun o _ => ext_len g o) (Nat.mul_le_mul_right _ h1), fun o ho => ?_⟩
  obtain ⟨p, hp, ho⟩ := List.mem_flatMap.mp ho
  obtain ⟨c, _, rfl⟩ := List.mem_map.mp ho
  have := h2 p hp
  simp; omega
theorem fit_fold : ∀ {xs : List Fx1} {found : List (List Int)} {n : Nat}, (∀ x ∈ xs, FGood x) → xs.length + n ≤ 4 → found.length ≤ pw21 n → (∀ o ∈ found, o.length ≤ n) → M.fold xs found fitS = .ok (fitL xs found)
  | [], found, n, _, _, _, _ => rfl
  | x :: xs, found, n, hg, hl, h1, h2 => by
    rw [List.length_cons] at hl
    have g := hg x List.mem_cons_self
    have hn := (pw21_le (n := n) (by omega)).2 (by omega)
    obtain ⟨k1, k2⟩ := ext_step g h1 h2
    rw [M.fold_cons, fitS_ok (n := n) g (by omega) (by omega) h2, M.ok_bind, fit_fold (n := n + 1) (fun y hy => hg y (List.mem_cons_of_mem _ hy)) (by omega) k1 k2]
    rfl
theorem m_law_fit_ok {rests : List Int} {pairs : List (Int × Int)} {lot : Int} (hg : ∀ x ∈ rests.zip pairs, FGood x) (hl : (rests.zip pairs).length ≤ 4) : m_law_fit rests lot pairs = .ok ((fitL (rests.zip pairs) [[]]).filter fun o => decide (o.sum = lot)) := by
  have e : m_law_fit rests lot pairs = M.bind (M.fold (rests.zip pairs) ([[]] : List (List Int)) fitS) fun s_5 => .ok ((s_5.filter (fun (x_3 : List Int) => decide (x_3.sum = lot))).map (fun (x_3 : List Int) => x_3)) := rfl
  rw [e, fit_fold (n := 0) hg hl (by decide) (fun o ho => by rw [List.mem_singleton.mp ho]; decide), M.ok_bind, List.map_id']
/-! ### the program's own -/
def TT1 (o : List Int) : Tu Int × Int := (⟨o⟩, o.sum)
def pruned (many : Int) (found : List (List Int)) : List (Tu Int × Int) := (found.filter fun o => decide (o.sum ≤ many)).map TT1
theorem prune_pos {many : Int} {o : List Int} {found : List (List Int)} (h : o.sum ≤ many) : pruned many (o :: found) = TT1 o :: pruned many found := by simp [pruned, List.filter_cons, h]
theorem prune_neg {many : Int} {o : List Int} {found : List (List Int)} (h : ¬ o.sum ≤ many) : pruned many (o :: found) = pruned many found := by simp [pruned, List.filter_cons, h]
def fillS (many_ : Int) (s_ : List ((Tu Int) × Int)) (x_ : Fx1) : M (List ((Tu Int) × Int)) := M.bind (.ok ((min2I x_.1 x_.2.2) : Int)) fun top_ =>
  M.bind (M.mapM s_ (fun (x_1 : (Tu Int) × Int) => M.bind (rangeM x_.2.1 (top_ + 1)) fun xs_1 =>
  M.bind (M.fmapM xs_1 fun x_2 => M.bind (.ok (decide ((x_1.2 + x_2) ≤ many_))) fun b => if b = true then M.bind (M.bind (catTM x_1.1 (Tu.mk ([x_2] : List Int))) fun v_ =>
  .ok (v_, (x_1.2 + x_2))) fun y => .ok (some y) else .ok none) fun ys_ =>
  .ok ys_)) fun ys_1 =>
  M.bind (lenM ys_1.flatten) fun ys_2 =>
  .ok ys_2
def fill1 (many : Int) (x : Fx1) (p : Tu Int × Int) : List (Tu Int × Int) := (opts x).filterMap fun c => if decide (p.2 + c ≤ many) = true then some (⟨p.1.l ++ [c]⟩, p.2 + c) else none
theorem fill1_eq {many : Int} {o : List Int} : ∀ cs : List Int, cs.filterMap (fun c => if decide ((TT1 o).2 + c ≤ many) = true then some ((⟨(TT1 o).1.l ++ [c]⟩ : Tu Int), (TT1 o).2 + c) else none) = ((cs.map fun c => o ++ [c]).filter fun o => decide (o.sum ≤ many)).map TT1
  | [] => rfl
  | c :: cs => by
    have e : (o ++ [c]).sum = o.sum + c := by rw [List.sum_append]; simp
    by_cases h : o.sum + c ≤ many
    · have h' : decide ((TT1 o).2 + c ≤ many) = true := decide_eq_true h
      rw [List.filterMap_cons_some (by rw [if_pos h']), fill1_eq cs, List.map_cons, List.filter_cons_of_pos (by rw [e]; exact decide_eq_true h), List.map_cons]
      have : TT1 (o ++ [c]) = (⟨(TT1 o).1.l ++ [c]⟩, (TT1 o).2 + c) := by unfold TT1; rw [e]
      rw [this]
    · have h' : ¬ decide ((TT1 o).2 + c ≤ many) = true := by rw [decide_eq_false (show ¬ (TT1 o).2 + c ≤ many from h)]; decide
      rw [List.filterMap_cons_none (by rw [if_neg h']), fill1_eq cs, List.map_cons, List.filter_cons_of_neg (by rw [e]; simp; omega)]
theorem prune_no {many : Int} {x : Fx1} (g : FGood x) {o : List Int} (h : ¬ o.sum ≤ many) : (ext x o).filter (fun o => decide (o.sum ≤ many)) = [] := by
  refine List.filter_eq_nil_iff.mpr fun p hp => ?_
  obtain ⟨c, hc, rfl⟩ := List.mem_map.mp hp
  have := opts_pos g c hc
  have e : (o ++ [c]).sum = o.sum + c := by rw [List.sum_append]; simp
  rw [e]; simp; omega
theorem prune_step {many : Int} {x : Fx1} (g : FGood x) : ∀ found : List (List Int), (pruned many found).flatMap (fill1 many x) = pruned many (found.flatMap (ext x))
  | [] => rfl
  | o :: found => by
    have ih := prune_step (many := many) g found
    have e2 : pruned many ((o :: found).flatMap (ext x)) = pruned many (ext x o) ++ pruned many (found.flatMap (ext x)) := by
      unfold pruned; rw [List.flatMap_cons, List.filter_append, List.map_append]
    by_cases h : o.sum ≤ many
    · have e1 := prune_pos (found := found) h
      rw [e1, e2, List.flatMap_cons, ih]
      congr 1
      exact fill1_eq (opts x)
    · have e1 := prune_neg (found := found) h
      have e3 : pruned many (ext x o) = [] := by unfold pruned; rw [prune_no g h]; rfl
      rw [e1, e2, e3, ih]; rfl
theorem pruned_len {many : Int} {found : List (List Int)} : (pruned many found).length ≤ found.length := by
  unfold pruned; rw [List.length_map]; exact List.length_filter_le _ _
theorem fillS_ok {many : Int} {found : List (List Int)} {x : Fx1} {n : Nat} (g : FGood x) (hn : n ≤ 3) (h1 : found.length ≤ pw21 n) (h2 : ∀ o ∈ found, o.length ≤ n) : fillS many (pruned many found) x = .ok (pruned many (found.flatMap (ext x))) := by
  unfold fillS
  rw [M.ok_bind, min2_comm]
  have key : M.mapM (pruned many found) (fun (x_1 : (Tu Int) × Int) => M.bind (rangeM x.2.1 (min2I x.2.2 x.1 + 1)) fun xs_1 =>
      M.bind (M.fmapM xs_1 fun x_2 => M.bind (.ok (decide ((x_1.2 + x_2) ≤ many))) fun b => if b = true then M.bind (M.bind (catTM x_1.1 (Tu.mk ([x_2] : List Int))) fun v_ =>
      .ok (v_, (x_1.2 + x_2))) fun y => .ok (some y) else .ok none) fun ys_ => .ok ys_) = .ok ((pruned many found).map (fill1 many x)) := by
    refine M.mapM_ok _ fun p hp => ?_
    rw [opts_range g, M.ok_bind]
    obtain ⟨o, ho, rfl⟩ := List.mem_map.mp hp
    have hl := h2 o (List.mem_filter.mp ho).1
    rw [fmapM_ok (fun c => if decide ((TT1 o).2 + c ≤ many) = true then some ((⟨(TT1 o).1.l ++ [c]⟩ : Tu Int), (TT1 o).2 + c) else none) fun c _ => ?_]
    · rfl
    · rw [M.ok_bind]
      split
      · rw [catTM_ok (by show o.length + 1 ≤ _; omega)]; rfl
      · rfl
  rw [key, M.ok_bind]
  have e : ((pruned many found).map (fill1 many x)).flatten = pruned many (found.flatMap (ext x)) := by rw [← List.flatMap_def, prune_step g]
  have hb := (pw21_le (n := n + 1) (by omega)).1
  have hs := (ext_step g h1 h2).1
  have hp := pruned_len (many := many) (found := found.flatMap (ext x))
  have z2 : sizeLine = 16777216 := by decide +kernel
  rw [e, lenM_ok (by rw [z2]; omega), M.ok_bind]
theorem fill_fold {many : Int} : ∀ {xs : List Fx1} {found : List (List Int)} {n : Nat}, (∀ x ∈ xs, FGood x) → xs.length + n ≤ 4 → found.length ≤ pw21 n → (∀ o ∈ found, o.length ≤ n) → M.fold xs (pruned many found) (fillS many) = .ok (pruned many (fitL xs found))
  | [], found, n, _, _, _, _ => rfl
  | x :: xs, found, n, hg, hl, h1, h2 => by
    rw [List.length_cons] at hl
    have g := hg x List.mem_cons_self
    obtain ⟨k1, k2⟩ := ext_step g h1 h2
    rw [M.fold_cons, fillS_ok (n := n) g (by omega) h1 h2, M.ok_bind, fill_fold (n := n + 1) (fun y hy => hg y (List.mem_cons_of_mem _ hy)) (by omega) k1 k2]
    rfl
theorem prune_end {many : Int} : ∀ found : List (List Int), ((pruned many found).filter (fun p => decide (p.2 = many))).map (fun p => p.1) = (found.filter fun o => decide (o.sum = many)).map Tu.mk
  | [] => rfl
  | o :: found => by
    have ih := prune_end (many := many) found
    by_cases h : o.sum ≤ many
    · have e1 := prune_pos (found := found) h
      rw [e1]
      by_cases h3 : o.sum = many
      · rw [List.filter_cons_of_pos (p := fun p : Tu Int × Int => decide (p.2 = many)) (decide_eq_true (show (TT1 o).2 = many from h3)), List.filter_cons_of_pos (p := fun o : List Int => decide (o.sum = many)) (decide_eq_true h3), List.map_cons, List.map_cons, ih]; rfl
      · rw [List.filter_cons_of_neg (p := fun p : Tu Int × Int => decide (p.2 = many)) (by rw [decide_eq_false (show ¬ (TT1 o).2 = many from h3)]; decide), List.filter_cons_of_neg (p := fun o : List Int => decide (o.sum = many)) (by rw [decide_eq_false h3]; decide), ih]
    · have e1 := prune_neg (found := found) h
      have h3 : ¬ o.sum = many := by omega
      rw [e1, ih, List.filter_cons_of_neg (p := fun o : List Int => decide (o.sum = many)) (by rw [decide_eq_false h3]; decide)]
/-- all fillings of a column -/
def fills (rests : List Int) (many : Int) (pairs : List (Int × Int)) : List (Tu Int) := ((fitL (rests.zip pairs) [[]]).filter fun o => decide (o.sum = many)).map Tu.mk
theorem m_fillings_ok {rests : List Int} {pairs : List (Int × Int)} {many : Int} (h0 : 0 ≤ many) (hl : rests.length = pairs.length) (h4 : rests.length ≤ 4) (hg : ∀ x ∈ rests.zip pairs, FGood x) : m_fillings rests many pairs = .ok (fills rests many pairs) := by
  have e : m_fillings rests many pairs = M.bind (zipSM rests pairs) fun xs_ => M.bind (M.fold xs_ ([((Tu.mk ([] : List Int)), 0)] : List ((Tu Int) × Int)) (fillS many)) fun s_1 => .ok ((s_1.filter (fun (x_3 : (Tu Int) × Int) => decide (x_3.2 = many))).map (fun (x_3 : (Tu Int) × Int) => x_3.1)) := rfl
  have e0 : ([((Tu.mk ([] : List Int)), 0)] : List ((Tu Int) × Int)) = pruned many [[]] := by
    rw [prune_pos (by simpa using h0)]; rfl
  have hz : (rests.zip pairs).length ≤ 4 := by rw [List.length_zip]; omega
  unfold zipSM at e
  rw [if_pos hl, M.ok_bind, e0, fill_fold (n := 0) hg hz (by decide) (fun o ho => by rw [List.mem_singleton.mp ho]; decide), M.ok_bind, prune_end] at e
  exact e
end EV

namespace K03
open PySem PySem.Spec PyProof.Rows L2 EV
def top (i : Nat) : Stmt := PySem.Challenge.pw_edgetally_k03_fillings_told.main.body.getD i (.Pass ⟨0, 0, 0, 0⟩)
def clsTop (s : Stmt) : Stmt := match s with
  | .ClassDef _ _ _ (b :: _) _ _ _ _ _ _ _ => b
  | _ => .Pass ⟨0, 0, 0, 0⟩
def mk (x : Str) (i : Nat) : He.DefD := ⟨(x, none), x, x, defArgs (top i), defBody (top i), defScope (top i), [], []⟩
def law_bagD : Df where
  d := mk "_law_bag" 3
  N := ["_law_script", "_law_cell"]
  ps := ["_law_script"]
  pm := [.F]
  rm := .O (.O .Z)
  io := [false]
  bl := ["abs"]
  ir := ir_law_bag
theorem ck_law_bag : law_bagD.ck [] = true := by decide +kernel
def law_pullD : He.DefD := mk "_law_pull" 4
def law_fitD : Df where
  d := mk "_law_fit" 6
  N := ["_law_rests", "_law_lot", "_law_pairs", "_law_found", "_law_rest", "_law_duo", "_law_longer", "_law_one", "_law_count"]
  ps := ["_law_rests", "_law_lot", "_law_pairs"]
  pm := [.F, .F, .F]
  rm := .F
  io := [false, false, false]
  bl := ["zip", "range", "min", "sum"]
  ex := []
  exm := []
  gc := []
  ir := ir_law_fit
theorem ck_law_fit : law_fitD.ck [] = true := by decide +kernel
def law_sameD : Df where
  d := mk "_law_same" 5
  N := ["_law_found", "_law_due", "_law_one", "_law_other"]
  ps := ["_law_found", "_law_due"]
  pm := [.F, .F]
  rm := .Z
  io := [false, false]
  bl := ["isinstance", "list", "tuple", "len", "zip", "str", "bool", "int"]
  ir := sameIR
theorem ck_law_same : law_sameD.ck [⟨"_law_same", [.F, .F], .Z, [], []⟩] = true := by decide +kernel
def fillingsD : Df where
  d := mk "fillings" 1
  N := ["rests", "many", "pairs", "found", "rest", "low", "high", "top", "counts", "so_far", "count"]
  ps := ["rests", "many", "pairs"]
  pm := [.F, .F, .F]
  rm := .F
  io := [false, false, false]
  bl := ["zip", "min", "range"]
  ex := []
  exm := []
  gc := []
  ir := ir_fillings
theorem ck_fillings : fillingsD.ck [] = true := by decide +kernel
def law_k03D : Df where
  d := mk "law" 7
  N := ["_law_script", "_law_bag_here", "_law_utmost", "_law_lot", "_law_column", "_law_rests", "_law_k", "_law_pairs", "_law_rest", "_law_way", "_law_base", "_law_duo", "_law_handed", "_law_limits", "_law_due", "_law_one"]
  ps := ["_law_script"]
  pm := [.F]
  rm := .Z
  io := [false]
  bl := ["range", "list", "tuple"]
  ex := []
  exm := []
  gc := []
  ir := ir_law_k03
theorem ck_law_k03 : law_k03D.ck [⟨"_law_bag", [.F], .O (.O .Z), [], []⟩, ⟨"_law_pull", [.O (.O .Z), .Z], .Z, [], []⟩, ⟨"_law_fit", [.F, .F, .F], .F, [], []⟩, ⟨"_law_same", [.F, .F], .Z, [], []⟩, ⟨"fillings", [.F, .F, .F], .F, [], []⟩] = true := by decide +kernel
theorem sc_law_bag : FnScope law_bagD.N law_bagD.ps law_bagD.d.scope := ⟨rfl, rfl, rfl, by decide +kernel, rfl, by decide +kernel, by decide +kernel⟩
theorem sc_law_pull : FnScope ["_law_bag_here", "_law_lot", "_law_cells", "_law_at", "_law_cell"] ["_law_bag_here", "_law_lot"] law_pullD.scope := ⟨rfl, rfl, rfl, by decide +kernel, rfl, by decide +kernel, by decide +kernel⟩
theorem sc_law_fit : FnScope law_fitD.N law_fitD.ps law_fitD.d.scope := ⟨rfl, rfl, rfl, by decide +kernel, rfl, by decide +kernel, by decide +kernel⟩
theorem sc_law_same : FnScope law_sameD.N law_sameD.ps law_sameD.d.scope := ⟨rfl, rfl, rfl, by decide +kernel, rfl, by decide +kernel, by decide +kernel⟩
theorem sc_fillings : FnScope fillingsD.N fillingsD.ps fillingsD.d.scope := ⟨rfl, rfl, rfl, by decide +kernel, rfl, by decide +kernel, by decide +kernel⟩
theorem sc_law_k03 : FnScope law_k03D.N law_k03D.ps law_k03D.d.scope := ⟨rfl, rfl, rfl, by decide +kernel, rfl, by decide +kernel, by decide +kernel⟩
def fn : List He.DefD := [law_bagD.d, law_pullD, law_fitD.d, law_sameD.d, fillingsD.d, law_k03D.d]
def fa : List He.Fa := [.glo "_law_bag", .glo "_law_pull", .glo "_law_fit", .glo "_law_same", .glo "fillings", .glo "law", .free "abs", .free "len", .free "zip", .free "range", .free "min", .free "sum", .free "isinstance", .free "list", .free "tuple", .free "str", .free "bool", .free "int"]
def exs_ : List (PySem.W.Frag → Bool) := []
abbrev R : PySem.W.OpenRow := PySem.W.OpenLaw.row PySem.Challenge.rw_edgetally_k03_fillings_told
abbrev hk : PySem.W.Hook := hookX 6 fa fn exs_
def ob (s : PySem.W.SharedT) : AlX := obsXG 6 fa fn exs_ (HandSHeadRun.getT s)
theorem ob_eq (s : PySem.W.SharedT) : ob s = hk.obs s.abs := obsXG_eq (HandSHeadRun.getT_eq s)
def loose : List Str := ["__name__", "fillings", "_law_bag", "_law_pull", "_law_same", "_law_fit"]
theorem run (w : World) : HandSHeadRun.RunEq R (PySem.W.view R.prog [7]) hk ob 800 loose w := by
  intro os
  kernel_rfl
theorem ok_pull {P : Program} {w : World} {K : PySem.W.Frag} {mg : Str → Option Value} {base : Heap} {f : Addr} {fd : FuncData} (F : FunD K law_pullD.name law_pullD.qual law_pullD.params law_pullD.body law_pullD.scope [] [] f fd) (gL : mg "len" = none) : FnOk P w K mg base (L2.CX P w) 1 f fd ["_law_bag_here", "_law_lot"] (spD K [.O (.O .Z), .Z] .Z pullF) := by
  refine F.ok sc_law_pull (fun vs H Q E h => ?_) (fun cdv A outer s H vs Q E hr h => ⟨t_pull K, ?_, pull_pure vs H Q E h⟩)
  · obtain ⟨B, ds, fp, _, ra, _⟩ := h
    rw [ra.len.1]; rfl
  · have nd := sc_law_pull.nd
    exact pss_cons (ps_set (i := 2) nd rfl (Or.inl rfl) (pe_ix ix_seq (pv 0) pe_int (plain_of rfl)))
      (pss_cons (ps_set (i := 3) nd rfl (Or.inl rfl) (pe_op op_mod (pe_ix ix_seq (pv 0) pe_int (plain_of rfl)) (pe_callB call_len_seq rfl gL boot_len (pa_cons (pv 2) pa_nil))))
      (pss_cons (ps_set (i := 4) nd rfl (Or.inl rfl) (pe_ix ix_seq (pv 2) (pv 3) (plain_of rfl)))
      (pss_cons (ps_if (pt_cmpR op_ge (pv 4) (pe_op op_pow pe_int pe_int) (nobehind _ (by decide) (by decide))) (pss_cons (ps_asg (pe_op op_fdivW (pv 4) (pv 1)) (pg_sub (pv 2) (pv 3) set_list)) (pss_one (ps_ret (pe_op op_mod (pv 4) (pv 1))))) pss_nil)
      (pss_cons (ps_asg (pe_op op_add (pe_ix ix_seq (pv 0) pe_int (plain_of rfl)) pe_int) (pg_sub (pv 0) pe_int set_list))
      (pss_cons (ps_asg (pe_op op_mod (pe_op op_mulW (pe_op op_add (pe_op op_add (pe_ix ix_seq (pv 0) pe_int (plain_of rfl)) (pe_op op_mod (pv 4) pe_int)) pe_int) pe_int) pe_int) (pg_sub (pv 0) pe_int set_list))
      (pss_one (ps_ret (pe_op op_mod (pe_op op_fdivW (pe_ix ix_seq (pv 0) pe_int (plain_of rfl)) pe_int) (pv 1)))))))))

theorem facts {P : Program} {w : World} {K : PySem.W.Frag} {h : Heap} {mg : Str → Option Value} {f : Addr} (X : K.In h) (G : h.Ns mainGlobals mg) (hfa : mg ("law" : Str) = some (.ref f)) (cx : SaysX fa fn exs_ K) :
    ∃ fd : FuncData, (∀ (s : Shared) (v : Value), BindsTo s fd ⟨[v], []⟩ [("_law_script", v)]) ∧ ∀ base : Heap, K.In base → base.Ns mainGlobals mg → FnOk P w K mg base (L2.CX P w) 7 f fd ["_law_script"] (spD K [.F] .Z F_law_k03) := by
  have c := cx.d
  obtain ⟨fd0, F0⟩ := c.def_ 0 (d := law_bagD.d) rfl
  obtain ⟨fd1, F1⟩ := c.def_ 1 (d := law_pullD) rfl
  obtain ⟨fd2, F2⟩ := c.def_ 2 (d := law_fitD.d) rfl
  obtain ⟨fd3, F3⟩ := c.def_ 3 (d := law_sameD.d) rfl
  obtain ⟨fd4, F4⟩ := c.def_ 4 (d := fillingsD.d) rfl
  obtain ⟨fd5, F5⟩ := c.def_ 5 (d := law_k03D.d) rfl
  have gl : ∀ (i : Nat) (x : Str), fa[i]? = some (.glo x) → mg x = some (.ref (He.ga K x)) := fun i x e => He.glo_ok X G (c.fact i (f := .glo x) e)
  have fr : ∀ (i : Nat) (x : Str), fa[i]? = some (.free x) → mg x = none := fun i x e => He.free_ok X G (c.fact i (f := .free x) e)
  have g_0 := gl 0 "_law_bag" rfl
  have g_1 := gl 1 "_law_pull" rfl
  have g_2 := gl 2 "_law_fit" rfl
  have g_3 := gl 3 "_law_same" rfl
  have g_4 := gl 4 "fillings" rfl
  have g_5 := gl 5 "law" rfl
  have e := hfa.symm.trans g_5
  cases e
  have free : ∀ x ∈ (["abs", "len", "zip", "range", "min", "sum", "isinstance", "list", "tuple", "str", "bool", "int"] : List Str), mg x = none := fun x hx => by
    simp only [List.mem_cons, List.not_mem_nil, or_false] at hx
    rcases hx with rfl | rfl | rfl | rfl | rfl | rfl | rfl | rfl | rfl | rfl | rfl | rfl
    · exact fr 6 _ rfl
    · exact fr 7 _ rfl
    · exact fr 8 _ rfl
    · exact fr 9 _ rfl
    · exact fr 10 _ rfl
    · exact fr 11 _ rfl
    · exact fr 12 _ rfl
    · exact fr 13 _ rfl
    · exact fr 14 _ rfl
    · exact fr 15 _ rfl
    · exact fr 16 _ rfl
    · exact fr 17 _ rfl
  have bl := FunD.bindsA (ps := ["_law_script"]) F5 fun _ _ _ _ _ _ us hl => match us, hl with | [_], _ => rfl
  refine ⟨fd5, fun s v => bl s [v] rfl, fun base _ _ => ?_⟩
  have a_law_bag : FnAt P w K mg base 1 fn_law_bag := Df.at (a := law_bagD) (fs := []) (k := 0) (F := F_law_bag) F0 g_0 sc_law_bag ck_law_bag (fun _ _ _ _ _ _ us hl => match us, hl with | [_], _ => rfl) (fun z hm => nomatch hm) ⟨fun x hx => free x (by revert x; decide), (fun _ _ h => nomatch h), (fun _ _ h => nomatch h), (fun _ _ _ h => nomatch h), (fun _ _ h => nomatch h)⟩ (fun _ _ => rfl)
  have a_law_pull : FnAt P w K mg base 1 fn_law_pull := ⟨_, fd1, ["_law_bag_here", "_law_lot"], [], [], ok_pull F1 (free _ (by decide)), g_1, F1.kp, F1.bindsN (fun _ _ _ _ _ _ us hl => match us, hl with | [_, _], _ => rfl), .nil, fun B H => ⟨rfl, rfl⟩⟩
  have a_law_fit : FnAt P w K mg base 1 fn_law_fit := Df.at (a := law_fitD) (fs := []) (k := 0) (F := F_law_fit) F2 g_2 sc_law_fit ck_law_fit (fun _ _ _ _ _ _ us hl => match us, hl with | [_, _, _], _ => rfl) (fun z hm => nomatch hm) ⟨fun x hx => free x (by revert x; decide), (fun _ _ h => nomatch h), (fun _ _ h => nomatch h), (fun _ _ _ h => nomatch h), (fun _ _ h => nomatch h)⟩ (fun _ _ => rfl)
  have a_law_same : FnAt P w K mg base 6 fn_law_same := same_at (a := law_sameD) rfl rfl rfl rfl rfl rfl F3 g_3 sc_law_same ck_law_same (fun _ _ _ _ _ _ us hl => match us, hl with | [_, _], _ => rfl) (fun k => ⟨fun x hx => free x (by revert x; decide), (fun _ _ h => nomatch h), (fun _ _ h => nomatch h), (fun _ _ _ h => nomatch h), (fun _ _ h => nomatch h)⟩) 6 (by decide)
  have a_fillings : FnAt P w K mg base 1 fn_fillings := Df.at (a := fillingsD) (fs := []) (k := 0) (F := F_fillings) F4 g_4 sc_fillings ck_fillings (fun _ _ _ _ _ _ us hl => match us, hl with | [_, _, _], _ => rfl) (fun z hm => nomatch hm) ⟨fun x hx => free x (by revert x; decide), (fun _ _ h => nomatch h), (fun _ _ h => nomatch h), (fun _ _ _ h => nomatch h), (fun _ _ h => nomatch h)⟩ (fun _ _ => rfl)
  refine Df.ok (a := law_k03D) (fs := [fn_law_bag, fn_law_pull, fn_law_fit, fn_law_same, fn_fillings]) (k := 6) F5 sc_law_k03 ck_law_k03 (fun z hm => ?_) ⟨fun x hx => free x (by revert x; decide), (fun _ _ h => nomatch h), (fun _ _ h => nomatch h), (fun _ _ _ h => nomatch h), (fun _ _ h => nomatch h)⟩
  simp only [List.mem_cons, List.not_mem_nil, or_false] at hm
  rcases hm with rfl | rfl | rfl | rfl | rfl
  · exact a_law_bag.mono (by decide)
  · exact a_law_pull.mono (by decide)
  · exact a_law_fit.mono (by decide)
  · exact a_law_same.mono (by decide)
  · exact a_fillings.mono (by decide)
end K03

namespace K03
open PySem PySem.Spec L2 EV
theorem law_true (ns : List Int) (hn : ns.length ≤ 63) : m_law_k03 ns = .ok true := by
  refine M.Ens.eq ?_
  unfold m_law_k03
  refine M.Ens.bind (M.Ens.of (P := Bag.good) rfl (mkBag_good ns)) fun b hb => ?_
  refine M.Ens.bind (pull_lt hb) fun p hp => ?_
  rw [M.ok_bind]
  refine M.Ens.bind (pull_lt hp.2.2) fun p1 hp1 => ?_
  refine M.Ens.bind (pull_lt hp1.2.2) fun p2 hp2 => ?_
  refine M.Ens.bind (P := fun s : Int × Int × Bag × Int => 0 < s.1 ∧ s.1 ≤ 21 ∧ 1 ≤ s.2.1 ∧ s.2.1 ≤ 4 ∧ s.2.2.1.good ∧ 0 ≤ s.2.2.2) ?_ fun s hs => ?_
  · split
    · refine M.Ens.bind (pull_lt hp2.2.2) fun p3 hp3 => ?_
      rw [M.ok_bind]
      refine M.Ens.bind (pull_lt hp3.2.2) fun p4 hp4 => ?_
      exact .ok ⟨show (0:Int) < 21 by decide, show (21:Int) ≤ 21 by decide, by show 1 ≤ 1 + p3.1; omega, by show 1 + p3.1 ≤ 4; omega, hp4.2.2, hp4.1⟩
    · exact .ok ⟨show (0:Int) < 4 by decide, show (4:Int) ≤ 21 by decide, by show 1 ≤ 1 + p.1; omega, by show 1 + p.1 ≤ 4; omega, hp2.2.2, hp1.1⟩
  obtain ⟨utmost, lot, bag, column⟩ := s
  obtain ⟨u0, u1, l0, l1, hb2, c0⟩ := hs
  dsimp only at u0 u1 l0 l1 hb2 c0 ⊢
  rw [rangeM_ok (by decide) (by decide) (by omega) (by omega), M.ok_bind, Int.sub_zero]
  refine M.Ens.bind (P := fun r : List Int × Bag => r.1.length = lot.toNat ∧ (∀ x ∈ r.1, 0 ≤ x ∧ x < utmost) ∧ r.2.good) ?_ fun r hr => ?_
  · have h := M.Ens.smap (f := fun (s_1 : Bag) (x_ : Int) => M.bind (M.nox (m_law_pull s_1 utmost)) fun p_5 => .ok (p_5.1, p_5.2)) (fun (xs : List Int) (ys : List Int) (b : Bag) => ys.length + xs.length = lot.toNat ∧ (∀ x ∈ ys, 0 ≤ x ∧ x < utmost) ∧ b.good) (xs := uptoI 0 lot.toNat) (ys := []) (s := bag) ⟨by rw [uptoI_length]; simp, fun x hx => (nomatch hx), hb2⟩ (fun x xs ys b hq => ?_)
    · exact h.imp fun a ha => ⟨by simpa using ha.1, ha.2⟩
    · refine M.Ens.bind (M.Ens.nox (pull_lt hq.2.2 u0 (by omega))) fun p5 hp5 => .ok ⟨?_, fun y hy => ?_, hp5.2.2⟩
      · have := hq.1
        simp only [List.length_append, List.length_cons, List.length_nil] at this ⊢; omega
      · rcases List.mem_append.mp hy with hy | hy
        · exact hq.2.1 y hy
        · rw [List.mem_singleton.mp hy]; exact ⟨hp5.1, hp5.2.1⟩
  obtain ⟨rests, b3⟩ := r
  obtain ⟨r1, r2, hb3⟩ := hr
  dsimp only at r1 r2 hb3 ⊢
  rw [M.ok_bind]
  refine M.Ens.bind (P := fun s : Bag × List (Int × Int) => s.2.length = rests.length ∧ ∀ d ∈ s.2, 0 ≤ d.1 ∧ d.1 ≤ 100 ∧ 0 ≤ d.2 ∧ d.2 ≤ 100) ?_ fun s hs => ?_
  · have hR : rests.length ≤ 4 := by omega
    have h := M.Ens.fold (f := fun (s_3 : Bag × (List (Int × Int))) (x_1 : Int) => M.bind (m_law_pull s_3.1 4) fun p_6 =>
        M.bind (m_law_pull p_6.2 3) fun p_7 =>
        M.bind (.ok ((0, 40) : Int × Int)) fun duo_ =>
        M.bind (if decide (p_6.1 = 0) = true then (M.bind (m_law_pull p_7.2 4) fun p_8 =>
        M.bind (.ok ((p_7.1, (p_7.1 + p_8.1)) : Int × Int)) fun duo_1 =>
        .ok (duo_1, p_8.2)) else (.ok (duo_, p_7.2))) fun s_4 =>
        M.bind (if decide (p_6.1 = 1) = true then (M.bind (.ok ((0, p_7.1) : Int × Int)) fun duo_2 =>
        .ok duo_2) else (.ok s_4.1)) fun s_5 =>
        M.bind (M.opt (appO s_3.2 s_5)) fun pairs_1 =>
        .ok (s_4.2, pairs_1)) (fun (xs : List Int) (s : Bag × List (Int × Int)) => s.2.length + xs.length = rests.length ∧ (∀ d ∈ s.2, 0 ≤ d.1 ∧ d.1 ≤ 100 ∧ 0 ≤ d.2 ∧ d.2 ≤ 100) ∧ s.1.good) (xs := rests) (s := (b3, [])) ⟨by simp, fun d hd => (nomatch hd), hb3⟩ (fun x xs s hq => ?_)
    · exact h.imp fun a ha => ⟨by simpa using ha.1, ha.2.1⟩
    · obtain ⟨q1, q2, q3⟩ := hq
      refine M.Ens.bind (pull_lt q3) fun p6 hp6 => ?_
      refine M.Ens.bind (pull_lt hp6.2.2) fun p7 hp7 => ?_
      rw [M.ok_bind]
      refine M.Ens.bind (P := fun z : (Int × Int) × Bag => (0 ≤ z.1.1 ∧ z.1.1 ≤ 100 ∧ 0 ≤ z.1.2 ∧ z.1.2 ≤ 100) ∧ z.2.good) ?_ fun z hz => ?_
      · split
        · refine M.Ens.bind (pull_lt hp7.2.2) fun p8 hp8 => ?_
          rw [M.ok_bind]
          exact .ok ⟨⟨hp7.1, by show p7.1 ≤ 100; omega, by show 0 ≤ p7.1 + p8.1; omega, by show p7.1 + p8.1 ≤ 100; omega⟩, hp8.2.2⟩
        · exact .ok ⟨⟨show (0:Int) ≤ 0 by decide, show (0:Int) ≤ 100 by decide, show (0:Int) ≤ 40 by decide, show (40:Int) ≤ 100 by decide⟩, hp7.2.2⟩
      refine M.Ens.bind (P := fun z : Int × Int => 0 ≤ z.1 ∧ z.1 ≤ 100 ∧ 0 ≤ z.2 ∧ z.2 ≤ 100) ?_ fun d hd => ?_
      · split
        · rw [M.ok_bind]
          exact   .ok ⟨show (0:Int) ≤ 0 by decide, show (0:Int) ≤ 100 by decide, hp7.1, by show p7.1 ≤ 100; omega⟩
        · exact .ok hz.1
      have hq1 : s.2.length + (xs.length + 1) = rests.length := q1
      rw [appO_ok (by omega), M.opt_some, M.ok_bind]
      refine .ok ⟨?_, fun e he => ?_, hz.2⟩
      · show (s.2 ++ [d]).length + xs.length = _
        simp only [List.length_append, List.length_cons, List.length_nil]; omega
      · rcases List.mem_append.mp he with he | he
        · exact q2 e he
        · rw [List.mem_singleton.mp he]; exact hd
  obtain ⟨b4, pairs⟩ := s
  obtain ⟨s1, s2⟩ := hs
  dsimp only at s1 s2 ⊢
  have hg : ∀ x ∈ rests.zip pairs, FGood x := fun x hx => by
    have h1 := List.of_mem_zip hx
    have a := r2 x.1 h1.1
    have d := s2 x.2 h1.2
    exact ⟨a.1, by omega, d.1, d.2.1, d.2.2.1, d.2.2.2⟩
  rw [m_law_fit_ok hg (by rw [List.length_zip]; omega), M.ok_bind, M.ok_bind, m_fillings_ok c0 s1.symm (by omega) hg, M.ok_bind]
  have e : m_law_same (fills rests column pairs) (((fitL (rests.zip pairs) [[]]).filter fun o => decide (o.sum = column)).map fun (x_2 : List Int) => (Tu.mk x_2)) = .ok true := sameM_ok rfl
  rw [e, M.ok_bind]
  refine .ok ?_
  simp
end K03

namespace K03
end K03
open PySem PySem.W PySem.Calls PyProof.Rows
theorem PySem.Challenge.cw_edgetally_k03_fillings_told_holds : PySem.Challenge.rw_edgetally_k03_fillings_told.Holds := by
  w_on; o_law
  refine HandSHeadRun.head_any (r := OpenLaw.row PySem.Challenge.rw_edgetally_k03_fillings_told) (q := view (OpenLaw.row PySem.Challenge.rw_edgetally_k03_fillings_told).prog [7]) (H := K03.hk) (ob := K03.ob) (M := 800) (loose := K03.loose) (d := HandSHeadRun.topDef (OpenLaw.row PySem.Challenge.rw_edgetally_k03_fillings_told).prog 7) (kwd := []) K03.ob_eq
    (by kernel_rfl) (fun s => by kernel_rfl) K03.run (by kernel_rfl) (by kernel_rfl) (by kernel_rfl) (by rfl) (by first | assumption | decide +kernel) (by decide +kernel) ⟨rfl, rfl, rfl, rfl, rfl, by decide +kernel⟩ ?hw ?hc
  case hw => w_witness2
  case hc =>
    refine EV.walk_x (lw := PySem.Challenge.rw_edgetally_k03_fillings_told) (cap := 63) (lvl := 7) (x := "_law_script") rfl (by decide) (by kernel_rfl) ⟨rfl, by decide, by decide⟩ ?F
    intro w mg fa h Y G hmg0
    obtain ⟨K, KX, c⟩ := Y
    have hmg : mg ("law" : PySem.Str) = some (.ref fa) := by
      have e : (HandSHeadRun.topDef (OpenLaw.row PySem.Challenge.rw_edgetally_k03_fillings_told).prog 7).name = ("law" : PySem.Str) := by kernel_rfl
      rw [← e]
      exact hmg0
    obtain ⟨fd, hb, hF⟩ := K03.facts (P := (PySem.Challenge.rw_edgetally_k03_fillings_told).prog) (w := w) KX G hmg c
    exact ⟨K, fd, _, KX, hb, fun ns hn => ⟨_, EV.FoTie.ok (EV.t_law_k03 ns) (K03.law_true ns hn)⟩, hF⟩
