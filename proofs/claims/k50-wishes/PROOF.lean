import PyProof.Rows.All
import HandS.ForMost
import HandS.ForExc
import HandS.Flow
import HandS.Defaults
import HandS.MakeKwOnly
import HandS.TupAny
import HandS.Wide
import HandS.Deep
import HandS.Style
import HandS.TupLe
import HandS.IsInst
import HandS.Zip
import HandS.Iter
import HandS.Conv
import HandS.Set
import HandS.SetKeys
import HandS.SetFor
import KE.SortData
import KE.GoesMore
import PySem.Challenge.RW_curvebells_k50_wishes_that_read_tales
import Wide.All
import OpenK.AllK
import Wide.FinOn
set_option Elab.async false
set_option linter.all false
set_option maxRecDepth 100000
set_option maxHeartbeats 4000000
/-! T3: a layer of trees over HandS: tuples, frozen lists and instances are trees (D), what may change stands in a small heap (AH). -/
namespace T3
open PySem PySem.Spec L2
open PyProof.Rows hiding St

inductive D where
  | non | bl (b : Bool) | int (i : Int) | str (x : Str)
  | tup (l : List D) | lst (l : List D) | lok (l : List D) | ins (C : Addr) (fs : List (Str × D)) | ref (a : Addr)

inductive O where
  | lst (l : List D) | ins (C : Addr) (fs : List (Str × D)) | dK (kvs : List (Key × D)) | dT (kvs : List (List Key × D))

abbrev AH := Addr → Option O
def ud (h : AH) (a : Addr) (o : O) : AH := fun b => if b = a then some o else h b
def er (h : AH) (a : Addr) : AH := fun b => if b = a then none else h b
theorem ud_same {h : AH} {a : Addr} {o : O} : ud h a o a = some o := if_pos rfl
theorem ud_ne {h : AH} {a b : Addr} {o : O} (e : b ≠ a) : ud h a o b = h b := if_neg e
theorem er_same {h : AH} {a : Addr} : er h a a = none := if_pos rfl
theorem er_ne {h : AH} {a b : Addr} (e : b ≠ a) : er h a b = h b := if_neg e
theorem ud_ud {h : AH} {a : Addr} {o o' : O} : ud (ud h a o) a o' = ud h a o' := by
  funext b; unfold ud; split <;> rfl
theorem er_ud {h : AH} {a : Addr} {o : O} (e : h a = none) : er (ud h a o) a = h := by
  funext b; unfold er ud; split
  · next q => rw [q, e]
  · rfl
theorem ud_comm {h : AH} {a b : Addr} {o o' : O} (e : a ≠ b) : ud (ud h a o) b o' = ud (ud h b o') a o := by
  funext c; unfold ud; by_cases h1 : c = a <;> by_cases h2 : c = b <;> simp_all
theorem er_ud_ne {h : AH} {a b : Addr} {o : O} (e : a ≠ b) : er (ud h b o) a = ud (er h a) b o := by
  funext c; unfold er ud; by_cases h1 : c = a <;> by_cases h2 : c = b <;> simp_all

abbrev SD := List (Option D)
abbrev QD := D → AH → Prop
abbrev TED := SD → AH → QD → Prop
abbrev TTD := SD → AH → (Bool → AH → Prop) → Prop
abbrev TAD := SD → AH → (List D → AH → Prop) → Prop
structure EndsD where
  nx : SD → AH → Prop
  rt : QD
  bk : SD → AH → Prop := fun _ _ => False
  ct : SD → AH → Prop := fun _ _ => False
abbrev TSD := EndsD → SD → AH → Prop
abbrev TGD := D → SD → AH → (SD → AH → Prop) → Prop

/-! ### trees over the heap -/
section
variable (K : PySem.W.Frag)
mutual
def Den (Z : Hp) : D → V → Prop
  | .non, v => v = .non
  | .bl b, v => v = .bl b
  | .int i, v => v = .int i
  | .str x, v => v = .str x
  | .ref a, v => v = .ref a
  | .tup l, v => ∃ a vs, v = .ref a ∧ SqT K Z a vs ∧ DenL Z l vs
  | .lst l, v => ∃ a vs, v = .ref a ∧ Z a = some (.lst vs) ∧ DenL Z l vs
  | .lok l, v => ∃ a vs, v = .ref a ∧ SqL K Z a vs ∧ DenL Z l vs
  | .ins C fs, v => ∃ a dx vfs, v = .ref a ∧ Z a = some (.ins C dx vfs) ∧ DenF Z fs vfs
def DenL (Z : Hp) : List D → List V → Prop
  | [], vs => vs = []
  | d :: ds, vs => ∃ v r, vs = v :: r ∧ Den Z d v ∧ DenL Z ds r
def DenF (Z : Hp) : List (Str × D) → List (Str × V) → Prop
  | [], vs => vs = []
  | (f, d) :: ds, vs => ∃ v r, vs = (f, v) :: r ∧ Den Z d v ∧ DenF Z ds r
end
/-- values of dict entries -/
def DenKV {κ : Type} (Z : Hp) (kvs : List (κ × D)) (vs : List (κ × V)) : Prop := kvs.map (·.1) = vs.map (·.1) ∧ DenL K Z (kvs.map (·.2)) (vs.map (·.2))
def OD (Z : Hp) : O → HO → Prop
  | .lst l, u => ∃ vs, u = .lst vs ∧ DenL K Z l vs
  | .ins C fs, u => ∃ dx vfs, u = .ins C dx vfs ∧ DenF K Z fs vfs
  | .dK kvs, u => ∃ vs, u = .dK vs ∧ DenKV K Z kvs vs
  | .dT kvs, u => ∃ vs, u = .dT vs ∧ DenKV K Z kvs vs
/-- the heap of trees h, and the frozen part Z, are held by H -/
structure Sat (Z : Hp) (h : AH) (H : Hp) : Prop where
  zs : Same Z H
  hs : ∀ a o, h a = some o → ∃ u, H a = some u ∧ OD K Z o u
  ds : ∀ a o, h a = some o → Z a = none
/-- the slots -/
def DenS (Z : Hp) (σ : SD) (σV : St) : Prop := σ.length = σV.length ∧ ∀ (i : Nat) d, σ[i]? = some (some d) → ∃ v, σV[i]? = some (some v) ∧ Den K Z d v
end

section
variable {K : PySem.W.Frag} {Z Z' H : Hp} {h : AH}
theorem Same.sqt {a : Addr} {xs : List V} (e : Same Z Z') (q : SqT K Z a xs) : SqT K Z' a xs := by
  rcases q with (q | ⟨o, q⟩) | q
  · exact .inl (.inl (e _ _ q))
  · exact .inl (.inr ⟨o, e _ _ q⟩)
  · exact .inr q
mutual
theorem Den.mono (e : Same Z Z') : ∀ {d : D} {v : V}, Den K Z d v → Den K Z' d v
  | .non, _, q => q
  | .bl _, _, q => q
  | .int _, _, q => q
  | .str _, _, q => q
  | .ref _, _, q => q
  | .tup l, v, q => by
    unfold Den at q ⊢
    obtain ⟨a, vs, r, s, t⟩ := q
    exact ⟨a, vs, r, Same.sqt e s, DenL.mono e t⟩
  | .lst l, v, q => by
    unfold Den at q ⊢
    obtain ⟨a, vs, r, s, t⟩ := q
    exact ⟨a, vs, r, e _ _ s, DenL.mono e t⟩
  | .lok l, v, q => by
    unfold Den at q ⊢
    obtain ⟨a, vs, r, s, t⟩ := q
    exact ⟨a, vs, r, Same.seq e s, DenL.mono e t⟩
  | .ins C fs, v, q => by
    unfold Den at q ⊢
    obtain ⟨a, dx, vs, r, s, t⟩ := q
    exact ⟨a, dx, vs, r, e _ _ s, DenF.mono e t⟩
theorem DenL.mono (e : Same Z Z') : ∀ {l : List D} {vs : List V}, DenL K Z l vs → DenL K Z' l vs
  | [], _, q => by unfold DenL at q ⊢; exact q
  | d :: ds, _, q => by
    unfold DenL at q ⊢
    obtain ⟨v, r, x, s, t⟩ := q
    exact ⟨v, r, x, Den.mono e s, DenL.mono e t⟩
theorem DenF.mono (e : Same Z Z') : ∀ {l : List (Str × D)} {vs : List (Str × V)}, DenF K Z l vs → DenF K Z' l vs
  | [], _, q => by unfold DenF at q ⊢; exact q
  | (f, d) :: ds, _, q => by
    unfold DenF at q ⊢
    obtain ⟨v, r, x, s, t⟩ := q
    exact ⟨v, r, x, Den.mono e s, DenF.mono e t⟩
end
theorem OD.mono (e : Same Z Z') : ∀ {o : O} {u : HO}, OD K Z o u → OD K Z' o u
  | .lst _, _, ⟨vs, r, q⟩ => ⟨vs, r, q.mono e⟩
  | .ins _ _, _, ⟨dx, vs, r, q⟩ => ⟨dx, vs, r, q.mono e⟩
  | .dK _, _, ⟨vs, r, q⟩ => ⟨vs, r, q.1, q.2.mono e⟩
  | .dT _, _, ⟨vs, r, q⟩ => ⟨vs, r, q.1, q.2.mono e⟩
theorem DenS.mono {σ : SD} {σV : St} (e : Same Z Z') (q : DenS K Z σ σV) : DenS K Z' σ σV :=
  ⟨q.1, fun i d x => let ⟨v, a, b⟩ := q.2 i d x; ⟨v, a, b.mono e⟩⟩
theorem DenS.set {σ : SD} {σV : St} {d : D} {v : V} (i : Nat) (q : DenS K Z σ σV) (r : Den K Z d v) : DenS K Z (σ.set i (some d)) (σV.set i (some v)) := by
  refine ⟨by rw [List.length_set, List.length_set]; exact q.1, fun j x e => ?_⟩
  by_cases hij : i = j
  · subst hij
    by_cases hl : i < σ.length
    · rw [List.getElem?_set_self hl] at e
      cases e
      exact ⟨v, by rw [List.getElem?_set_self (by rw [← q.1]; exact hl)], r⟩
    · rw [List.getElem?_eq_none (by simpa using hl)] at e; cases e
  · rw [List.getElem?_set_ne hij] at e
    obtain ⟨w, a, b⟩ := q.2 j x e
    exact ⟨w, by rw [List.getElem?_set_ne hij]; exact a, b⟩
theorem DenL.length : ∀ {l : List D} {vs : List V}, DenL K Z l vs → l.length = vs.length
  | [], _, q => by unfold DenL at q; rw [q]; rfl
  | _ :: _, _, q => by
    unfold DenL at q
    obtain ⟨v, r, rfl, _, t⟩ := q
    rw [List.length_cons, List.length_cons, t.length]
theorem DenL.get : ∀ {l : List D} {vs : List V} {i : Nat} {d : D}, DenL K Z l vs → l[i]? = some d → ∃ v, vs[i]? = some v ∧ Den K Z d v
  | [], _, _, _, _, e => by simp at e
  | _ :: _, _, 0, _, q, e => by
    unfold DenL at q
    obtain ⟨v, r, rfl, s, t⟩ := q
    cases e
    exact ⟨v, rfl, s⟩
  | _ :: ds, _, i + 1, d, q, e => by
    unfold DenL at q
    obtain ⟨v, r, rfl, s, t⟩ := q
    exact t.get (i := i) e
theorem DenL.append : ∀ {l m : List D} {vs ws : List V}, DenL K Z l vs → DenL K Z m ws → DenL K Z (l ++ m) (vs ++ ws)
  | [], _, _, _, q, r => by unfold DenL at q; rw [q]; exact r
  | d :: ds, m, _, ws, q, r => by
    unfold DenL at q
    obtain ⟨v, x, rfl, s, t⟩ := q
    show DenL K Z (d :: (ds ++ m)) (v :: (x ++ ws))
    unfold DenL
    exact ⟨v, x ++ ws, rfl, s, t.append r⟩
theorem denL_nil : DenL K Z [] [] := by unfold DenL; rfl
theorem denL_cons {d : D} {v : V} {ds : List D} {vs : List V} (a : Den K Z d v) (b : DenL K Z ds vs) : DenL K Z (d :: ds) (v :: vs) := by
  unfold DenL; exact ⟨v, vs, rfl, a, b⟩
theorem denL_one {d : D} {v : V} (a : Den K Z d v) : DenL K Z [d] [v] := denL_cons a denL_nil
theorem DenL.cons_inv {d : D} {ds : List D} {vs : List V} (q : DenL K Z (d :: ds) vs) : ∃ v r, vs = v :: r ∧ Den K Z d v ∧ DenL K Z ds r := by
  unfold DenL at q; exact q
theorem DenL.nil_inv {vs : List V} (q : DenL K Z [] vs) : vs = [] := by unfold DenL at q; exact q
theorem DenL.set : ∀ {l : List D} {vs : List V} {d : D} {v : V} (i : Nat), DenL K Z l vs → Den K Z d v → DenL K Z (l.set i d) (vs.set i v)
  | [], _, _, _, _, q, _ => by rw [q.nil_inv]; exact denL_nil
  | x :: xs, _, d, v, 0, q, r => by obtain ⟨w, y, rfl, s, t⟩ := q.cons_inv; exact denL_cons r t
  | x :: xs, _, d, v, i + 1, q, r => by obtain ⟨w, y, rfl, s, t⟩ := q.cons_inv; exact denL_cons s (t.set i r)
theorem DenL.take : ∀ {l : List D} {vs : List V} (n : Nat), DenL K Z l vs → DenL K Z (l.take n) (vs.take n)
  | _, _, 0, _ => by simp; exact denL_nil
  | [], _, n + 1, q => by rw [q.nil_inv]; exact denL_nil
  | x :: xs, _, n + 1, q => by obtain ⟨w, y, rfl, s, t⟩ := q.cons_inv; exact denL_cons s (t.take n)
theorem DenL.drop : ∀ {l : List D} {vs : List V} (n : Nat), DenL K Z l vs → DenL K Z (l.drop n) (vs.drop n)
  | _, _, 0, q => q
  | [], _, n + 1, q => by rw [q.nil_inv]; exact denL_nil
  | x :: xs, _, n + 1, q => by obtain ⟨w, y, rfl, s, t⟩ := q.cons_inv; exact t.drop n
theorem DenL.reverse : ∀ {l : List D} {vs : List V}, DenL K Z l vs → DenL K Z l.reverse vs.reverse
  | [], _, q => by rw [q.nil_inv]; exact denL_nil
  | x :: xs, _, q => by
    obtain ⟨w, y, rfl, s, t⟩ := q.cons_inv
    rw [List.reverse_cons, List.reverse_cons]
    exact t.reverse.append (denL_one s)

/-! ### steps of the heaps -/
theorem Sat.fresh (S : Sat K Z h H) {p : Addr} (e : H p = none) : h p = none ∧ Z p = none := by
  refine ⟨?_, S.zs.free e⟩
  cases q : h p with
  | none => rfl
  | some o => obtain ⟨u, x, _⟩ := S.hs p o q; rw [e] at x; cases x
theorem same_upd {Z : Hp} {p : Addr} {u : HO} (e : Z p = none) : Same Z (upd Z p u) := fun b o q => by
  rw [upd_ne (fun z => by rw [z, e] at q; cases q)]; exact q
/-- a new frozen thing -/
theorem Sat.newZ (S : Sat K Z h H) {p : Addr} {u : HO} (e : H p = none) : Same Z (upd Z p u) ∧ Sat K (upd Z p u) h (upd H p u) := by
  obtain ⟨e1, e2⟩ := S.fresh e
  refine ⟨same_upd e2, fun b o q => ?_, fun a o q => ?_, fun a o q => ?_⟩
  · by_cases hb : b = p
    · subst hb; rw [upd_same] at q ⊢; exact q
    · rw [upd_ne hb] at q ⊢; exact S.zs b o q
  · obtain ⟨x, y, z⟩ := S.hs a o q
    have hne : a ≠ p := fun z => by rw [z, e1] at q; cases q
    exact ⟨x, by rw [upd_ne hne]; exact y, z.mono (same_upd e2)⟩
  · have hne : a ≠ p := fun z => by rw [z, e1] at q; cases q
    rw [upd_ne hne]; exact S.ds a o q
/-- a new thing that may change, or a change of one -/
theorem Sat.put (S : Sat K Z h H) {p : Addr} {u : HO} {o : O} (e : Z p = none) (r : OD K Z o u) : Sat K Z (ud h p o) (upd H p u) := by
  refine ⟨fun b x q => ?_, fun a x q => ?_, fun a x q => ?_⟩
  · rw [upd_ne (fun z => by rw [z, e] at q; cases q)]; exact S.zs b x q
  · by_cases ha : a = p
    · subst ha
      rw [ud_same] at q; cases q
      exact ⟨u, upd_same, r⟩
    · rw [ud_ne ha] at q
      rw [upd_ne ha]; exact S.hs a x q
  · by_cases ha : a = p
    · subst ha; exact e
    · rw [ud_ne ha] at q; exact S.ds a x q
theorem Sat.new (S : Sat K Z h H) {p : Addr} {u : HO} {o : O} (e : H p = none) (r : OD K Z o u) : Sat K Z (ud h p o) (upd H p u) := S.put (S.fresh e).2 r
/-- what is known in addition is forgotten -/
theorem Sat.sub (S : Sat K Z h H) {h' : AH} (e : ∀ a o, h' a = some o → h a = some o) : Sat K Z h' H := ⟨S.zs, fun a o q => S.hs a o (e a o q), fun a o q => S.ds a o (e a o q)⟩
theorem Sat.er (S : Sat K Z h H) (a : Addr) : Sat K Z (er h a) H := S.sub fun b o q => by
  by_cases hb : b = a
  · rw [hb, er_same] at q; cases q
  · rw [er_ne hb] at q; exact q
/-- a list that may change is frozen -/
theorem Sat.freeze (S : Sat K Z h H) {a : Addr} {u : HO} {o : O} (e : h a = some o) (x : H a = some u) : Same Z (upd Z a u) ∧ Sat K (upd Z a u) (T3.er h a) H := by
  have e2 := S.ds a _ e
  refine ⟨same_upd e2, fun b o q => ?_, fun b o q => ?_, fun b o q => ?_⟩
  · by_cases hb : b = a
    · subst hb; rw [upd_same] at q; cases q; exact x
    · rw [upd_ne hb] at q; exact S.zs b o q
  · have hb : b ≠ a := fun z => by rw [z, er_same] at q; cases q
    rw [er_ne hb] at q
    obtain ⟨x, y, z⟩ := S.hs b o q
    exact ⟨x, y, z.mono (same_upd e2)⟩
  · have hb : b ≠ a := fun z => by rw [z, er_same] at q; cases q
    rw [er_ne hb] at q
    rw [upd_ne hb]; exact S.ds b o q
end

/-- what was there and does not stand in the heap of trees stays as it is -/
structure Kp (Z : Hp) (h : AH) (H : Hp) (Z' : Hp) (h' : AH) (H' : Hp) : Prop where
  same : Same Z Z'
  keep : ∀ a u, H a = some u → h a = none → H' a = some u ∧ h' a = none ∧ (Z a = none → Z' a = none)
theorem Kp.refl {Z : Hp} {h : AH} {H : Hp} : Kp Z h H Z h H := ⟨Same.refl Z, fun _ _ a b => ⟨a, b, id⟩⟩
theorem Kp.trans {Z Z1 Z2 H H1 H2 : Hp} {h h1 h2 : AH} (p : Kp Z h H Z1 h1 H1) (q : Kp Z1 h1 H1 Z2 h2 H2) : Kp Z h H Z2 h2 H2 :=
  ⟨p.same.trans q.same, fun a u x y => let ⟨a1, a2, a3⟩ := p.keep a u x y; let ⟨b1, b2, b3⟩ := q.keep a u a1 a2; ⟨b1, b2, fun z => b3 (a3 z)⟩⟩
theorem Kp.newZ {Z H : Hp} {h : AH} {p : Addr} {u : HO} (e : H p = none) (eZ : Z p = none) : Kp Z h H (upd Z p u) h (upd H p u) :=
  ⟨same_upd eZ, fun a x q n => by
    have hne : a ≠ p := fun z => by rw [z, e] at q; cases q
    rw [upd_ne hne, upd_ne hne]; exact ⟨q, n, id⟩⟩
theorem Kp.new {Z H : Hp} {h : AH} {p : Addr} {u : HO} {o : O} (e : H p = none) : Kp Z h H Z (ud h p o) (upd H p u) :=
  ⟨Same.refl Z, fun a x q n => by
    have hne : a ≠ p := fun z => by rw [z, e] at q; cases q
    rw [upd_ne hne, ud_ne hne]; exact ⟨q, n, id⟩⟩
theorem Kp.write {Z H : Hp} {h : AH} {p : Addr} {u : HO} {o o' : O} (e : h p = some o') : Kp Z h H Z (ud h p o) (upd H p u) :=
  ⟨Same.refl Z, fun a x q n => by
    have hne : a ≠ p := fun z => by rw [z, e] at n; cases n
    rw [upd_ne hne, ud_ne hne]; exact ⟨q, n, id⟩⟩
theorem Kp.sub {Z H : Hp} {h h' : AH} (e : ∀ a o, h' a = some o → h a = some o) : Kp Z h H Z h' H :=
  ⟨Same.refl Z, fun a x q n => by
    have hn : h' a = Option.none := by
      cases z : h' a with
      | none => rfl
      | some o =>
        rw [e a o z] at n
        cases n
    exact ⟨q, hn, id⟩⟩
theorem Kp.freeze {Z H : Hp} {h : AH} {p : Addr} {u : HO} {o : O} (e : h p = some o) (eZ : Z p = none) : Kp Z h H (upd Z p u) (T3.er h p) H :=
  ⟨same_upd eZ, fun a x q n => by
    have hne : a ≠ p := fun z => by rw [z, e] at n; cases n
    rw [upd_ne hne, er_ne hne]; exact ⟨q, n, id⟩⟩

/-! ### the judgements -/
section
variable (K : PySem.W.Frag)
def lE (t : TED) : TE := fun σV H Q => ∃ (Z : Hp) (σ : SD) (h : AH) (R : QD), Sat K Z h H ∧ DenS K Z σ σV ∧ t σ h R ∧ ∀ Z' d v h' H', Kp Z h H Z' h' H' → Sat K Z' h' H' → Den K Z' d v → R d h' → Q v H'
def lT (t : TTD) : TT := fun σV H Q => ∃ (Z : Hp) (σ : SD) (h : AH) (R : Bool → AH → Prop), Sat K Z h H ∧ DenS K Z σ σV ∧ t σ h R ∧ ∀ Z' b h' H', Kp Z h H Z' h' H' → Sat K Z' h' H' → R b h' → Q b H'
def lA (t : TAD) : TA := fun σV H Q => ∃ (Z : Hp) (σ : SD) (h : AH) (R : List D → AH → Prop), Sat K Z h H ∧ DenS K Z σ σV ∧ t σ h R ∧ ∀ Z' ds vs h' H', Kp Z h H Z' h' H' → Sat K Z' h' H' → DenL K Z' ds vs → R ds h' → Q vs H'
structure FinS (Z : Hp) (h : AH) (H : Hp) (R : EndsD) (E : Ends) : Prop where
  nx : ∀ Z' σ' σV' h' H', Kp Z h H Z' h' H' → Sat K Z' h' H' → DenS K Z' σ' σV' → R.nx σ' h' → E.nx σV' H'
  rt : ∀ Z' d v h' H', Kp Z h H Z' h' H' → Sat K Z' h' H' → Den K Z' d v → R.rt d h' → E.rt v H'
  bk : ∀ Z' σ' σV' h' H', Kp Z h H Z' h' H' → Sat K Z' h' H' → DenS K Z' σ' σV' → R.bk σ' h' → E.bk σV' H'
  ct : ∀ Z' σ' σV' h' H', Kp Z h H Z' h' H' → Sat K Z' h' H' → DenS K Z' σ' σV' → R.ct σ' h' → E.ct σV' H'
def lS (t : TSD) : TS := fun E σV H => ∃ (Z : Hp) (σ : SD) (h : AH) (R : EndsD), Sat K Z h H ∧ DenS K Z σ σV ∧ t R σ h ∧ FinS K Z h H R E
def lG (vs : List Nat) (g : TGD) : TG := fun v σV H Q => ∃ (Z : Hp) (σ : SD) (h : AH) (d : D) (R : SD → AH → Prop), Sat K Z h H ∧ DenS K Z σ σV ∧ Den K Z d v ∧ g d σ h R ∧ ∀ Z' σ' σV' h' H', Kp Z h H Z' h' H' → Sat K Z' h' H' → DenS K Z' σ' σV' → wipe σV' vs = wipe σV vs → R σ' h' → Q σV' H'
end
def SE (X : Cx) (e : Expr) (t : TED) : Prop := PE X e (lE X.K t)
def ST (X : Cx) (e : Expr) (t : TTD) : Prop := PT X e (lT X.K t)
def SA (X : Cx) (es : List Expr) (t : TAD) : Prop := PA X es (lA X.K t)
def SS (X : Cx) (st : Stmt) (t : TSD) : Prop := PS X st (lS X.K t)
def SSs (X : Cx) (st : List Stmt) (t : TSD) : Prop := PSs X st (lS X.K t)
def SG (X : Cx) (tg : Expr) (vs : List Nat) (g : TGD) : Prop := PG X tg (lG X.K vs g)

section
variable {X : Cx} {a b e : Expr} {pos : Pos}
theorem _root_.L2.PE.imp {t t' : TE} (p : PE X e t) (f : ∀ σ H Q, t' σ H Q → t σ H Q) : PE X e t' := ⟨fun pins s σ H Q I q => p.run pins s σ H Q I (f σ H Q q)⟩
theorem _root_.L2.PT.imp {t t' : TT} (p : PT X e t) (f : ∀ σ H Q, t' σ H Q → t σ H Q) : PT X e t' := ⟨fun pins s σ H Q I q => p.run pins s σ H Q I (f σ H Q q)⟩
theorem _root_.L2.PW.imp {t t' : TT} (p : PW X e t) (f : ∀ σ H Q, t' σ H Q → t σ H Q) : PW X e t' := ⟨fun w pins s σ H Q I q => p.run w pins s σ H Q I (f σ H Q q)⟩
theorem _root_.L2.PA.imp {es : List Expr} {t t' : TA} (p : PA X es t) (f : ∀ σ H Q, t' σ H Q → t σ H Q) : PA X es t' := ⟨fun ps pins s σ H Q I q => p.run ps pins s σ H Q I (f σ H Q q)⟩
theorem _root_.L2.PS.imp {st : Stmt} {t t' : TS} (p : PS X st t) (f : ∀ E σ H, t' E σ H → t E σ H) : PS X st t' := ⟨fun pins s σ H Q I q => p.run pins s σ H Q I (f Q σ H q)⟩
theorem _root_.L2.PSs.imp {st : List Stmt} {t t' : TS} (p : PSs X st t) (f : ∀ E σ H, t' E σ H → t E σ H) : PSs X st t' := ⟨fun pins s σ H Q I q => p.run pins s σ H Q I (f Q σ H q)⟩
theorem _root_.L2.PG.imp {t t' : TG} (p : PG X e t) (f : ∀ v σ H Q, t' v σ H Q → t v σ H Q) : PG X e t' := by
  refine ⟨?_⟩
  intro pins s σ H v u Q I r q
  exact p.run pins s σ H v u Q I r (f v σ H Q q)

/-! ### names and constants -/
def tVar (i : Nat) : TED := fun σ h Q => match σ[i]? with
  | some (some d) => Q d h
  | _ => False
def tC (d : D) : TED := fun _ h Q => Q d h
theorem se_var (i : Nat) {x : Str} {pos : Pos} (hN : X.N[i]? = some x := by rfl) (hv : Vis X.env.scope x := by first | exact Or.inl rfl | exact Or.inr (Or.inl rfl) | exact Or.inr (Or.inr rfl)) (hd : (x == ("__debug__" : Str)) = false := by decide)
    (hcd : (x == ("__classdict__" : Str)) = false := by decide) : SE X (.Name x pos) (T3.tVar i) := (pe_var hN hv hd hcd).imp fun σV H Q ⟨Z, σ, h, R, S, dS, q, f⟩ => by
  unfold T3.tVar at q
  split at q
  · next d e =>
    obtain ⟨v, x, y⟩ := dS.2 i d e
    exact ⟨v, x, f Z d v h H Kp.refl S y q⟩
  · exact q.elim
theorem se_c {d : D} {v : V} (p : PE X e (L2.tC v)) (r : ∀ Z, Den X.K Z d v) : SE X e (T3.tC d) := p.imp fun σV H Q ⟨Z, σ, h, R, S, dS, q, f⟩ => f Z d v h H Kp.refl S (r Z) q
theorem se_int {i j pos} : SE X (.Constant (.int i) j pos) (T3.tC (.int i)) := se_c pe_int fun _ => by unfold Den; rfl
theorem se_bl {b j pos} : SE X (.Constant (.bool b) j pos) (T3.tC (.bl b)) := se_c pe_bl fun _ => by unfold Den; rfl
theorem se_non {j pos} : SE X (.Constant .none j pos) (T3.tC .non) := se_c pe_non fun _ => by unfold Den; rfl
theorem se_str {x j pos} : SE X (.Constant (.str x) j pos) (T3.tC (.str x)) := se_c pe_str fun _ => by unfold Den; rfl
theorem se_globI {x : Str} {i : Int} {t : Tok} (hg : Gl X x) (hm : X.mg x = some (.int i t)) (hd : (x == ("__debug__" : Str)) = false := by decide) : SE X (.Name x pos) (T3.tC (.int i)) := se_c (pe_glob (v := .int i) hg hm ⟨t, rfl⟩ hd) fun _ => by unfold Den; rfl
theorem se_globS {x : Str} {i : Str} {t : Tok} (hg : Gl X x) (hm : X.mg x = some (.str i t)) (hd : (x == ("__debug__" : Str)) = false := by decide) : SE X (.Name x pos) (T3.tC (.str i)) := se_c (pe_glob (v := .str i) hg hm ⟨t, rfl⟩ hd) fun _ => by unfold Den; rfl

/-! ### operators -/
abbrev R2D := D → D → AH → QD → Prop
def lR (K : PySem.W.Frag) (r : R2D) : R2 := fun x y H Q => ∃ (Z : Hp) (d e : D) (h : AH) (R : QD), Sat K Z h H ∧ Den K Z d x ∧ Den K Z e y ∧ r d e h R ∧ ∀ Z' d v h' H', Kp Z h H Z' h' H' → Sat K Z' h' H' → Den K Z' d v → R d h' → Q v H'
def OpS (X : Cx) (f : Value → Value → Sem Value) (r : R2D) : Prop := OpR X f (lR X.K r)
theorem _root_.L2.OpR.imp {f : Value → Value → Sem Value} {r r' : R2} (p : OpR X f r) (g : ∀ x y H Q, r' x y H Q → r x y H Q) : OpR X f r' := by
  intro pins s σ H x y u v Q I rx ry q
  exact p pins s σ H x y u v Q I rx ry (g x y H Q q)
def tOp (r : R2D) (ta tb : TED) : TED := fun σ h Q => ta σ h fun x h1 => tb σ h1 fun y h2 => r x y h2 Q
theorem lop {K : PySem.W.Frag} {r : R2D} {ta tb : TED} {σV : St} {H : Hp} {Q : VK} : lE K (T3.tOp r ta tb) σV H Q → L2.tOp (lR K r) (lE K ta) (lE K tb) σV H Q := fun ⟨Z, σ, h, R, S, dS, q, f⟩ =>
  ⟨Z, σ, h, _, S, dS, q, fun Z1 d v h1 H1 e1 S1 r1 q1 => ⟨Z1, σ, h1, _, S1, dS.mono e1.same, q1, fun Z2 d2 v2 h2 H2 e2 S2 r2 q2 => ⟨Z2, d, d2, h2, R, S2, r1.mono e2.same, r2, q2, fun Z3 d3 v3 h3 H3 e3 S3 r3 q3 => f Z3 d3 v3 h3 H3 ((e1.trans e2).trans e3) S3 r3 q3⟩⟩⟩
theorem se_op {op : Operator} {r : R2D} {ta tb : TED} (ho : OpS X (binaryOp op) r) (ha : SE X a ta) (hb : SE X b tb) : SE X (.BinOp a op b pos) (T3.tOp r ta tb) := (pe_op ho ha hb).imp fun _ _ _ => lop
theorem se_cmp {op : CmpOp} {r : R2D} {ta tb : TED} (ho : OpS X (compareOp op) r) (ha : SE X a ta) (hb : SE X b tb) (hm : behindInMarks op b = false) : SE X (.Compare a [op] [b] pos) (T3.tOp r ta tb) := (pe_cmpR ho ha hb hm).imp fun _ _ _ => lop
end
end T3

/-! T3: tests, statements, loops, comprehensions. -/
namespace T3
open PySem PySem.Spec L2
open PyProof.Rows hiding St

section
variable {K : PySem.W.Frag} {Z Z1 H H1 : Hp} {h h1 : AH} {σ : SD} {σV : L2.St}
theorem FinS.mono {R : EndsD} {E : Ends} (f : FinS K Z h H R E) (e : Kp Z h H Z1 h1 H1) : FinS K Z1 h1 H1 R E :=
  ⟨fun Z' σ' σV' h' H' x => f.nx Z' σ' σV' h' H' (e.trans x), fun Z' d v h' H' x => f.rt Z' d v h' H' (e.trans x), fun Z' σ' σV' h' H' x => f.bk Z' σ' σV' h' H' (e.trans x), fun Z' σ' σV' h' H' x => f.ct Z' σ' σV' h' H' (e.trans x)⟩
theorem goE {t : TED} {R : QD} {Q : VK} (e : Kp Z h H Z1 h1 H1) (S : Sat K Z1 h1 H1) (dS : DenS K Z σ σV) (q : t σ h1 R) (f : ∀ Z' d v h' H', Kp Z h H Z' h' H' → Sat K Z' h' H' → Den K Z' d v → R d h' → Q v H') : lE K t σV H1 Q :=
  ⟨Z1, σ, h1, R, S, dS.mono e.same, q, fun Z' d v h' H' x => f Z' d v h' H' (e.trans x)⟩
theorem goT {t : TTD} {R : Bool → AH → Prop} {Q : Bool → Hp → Prop} (e : Kp Z h H Z1 h1 H1) (S : Sat K Z1 h1 H1) (dS : DenS K Z σ σV) (q : t σ h1 R) (f : ∀ Z' b h' H', Kp Z h H Z' h' H' → Sat K Z' h' H' → R b h' → Q b H') : lT K t σV H1 Q :=
  ⟨Z1, σ, h1, R, S, dS.mono e.same, q, fun Z' b h' H' x => f Z' b h' H' (e.trans x)⟩
theorem goS {t : TSD} {R : EndsD} {E : Ends} (e : Kp Z h H Z1 h1 H1) (S : Sat K Z1 h1 H1) (dS : DenS K Z σ σV) (q : t R σ h1) (f : FinS K Z h H R E) : lS K t E σV H1 :=
  ⟨Z1, σ, h1, R, S, dS.mono e.same, q, f.mono e⟩
theorem den_bl {c : Bool} {v : V} (q : Den K Z (.bl c) v) : v = .bl c := by unfold Den at q; exact q
theorem den_int {c : Int} {v : V} (q : Den K Z (.int c) v) : v = .int c := by unfold Den at q; exact q
theorem den_str {c : Str} {v : V} (q : Den K Z (.str c) v) : v = .str c := by unfold Den at q; exact q
theorem den_ref {c : Addr} {v : V} (q : Den K Z (.ref c) v) : v = .ref c := by unfold Den at q; exact q
theorem den_non {v : V} (q : Den K Z .non v) : v = .non := by unfold Den at q; exact q
theorem dbl (c : Bool) : Den K Z (.bl c) (.bl c) := by unfold Den; rfl
theorem dint (c : Int) : Den K Z (.int c) (.int c) := by unfold Den; rfl
theorem dstr (c : Str) : Den K Z (.str c) (.str c) := by unfold Den; rfl
theorem dref (c : Addr) : Den K Z (.ref c) (.ref c) := by unfold Den; rfl
theorem dnon : Den K Z .non .non := by unfold Den; rfl
end

section
variable {X : Cx} {a b c e : Expr} {pos : Pos} {ta tb : TED} {tA tB' : TTD}
/-! ### truth as values -/
def tAndV (ta tb : TED) : TED := fun σ h Q => ta σ h fun x h1 => match x with
  | .bl c => if c = true then tb σ h1 Q else Q (.bl false) h1
  | _ => False
def tOrV (ta tb : TED) : TED := fun σ h Q => ta σ h fun x h1 => match x with
  | .bl c => if c = true then Q (.bl true) h1 else tb σ h1 Q
  | _ => False
def tNotV (ta : TED) : TED := fun σ h Q => ta σ h fun x h1 => match x with
  | .bl c => Q (.bl (!c)) h1
  | _ => False
theorem se_one {op} (h : SE X a ta) : SE X (.BoolOp op [a] pos) ta := pe_one h
theorem se_and {rest : List Expr} (ha : SE X a ta) (hb : SE X (.BoolOp .And (b :: rest) pos) tb) : SE X (.BoolOp .And (a :: b :: rest) pos) (T3.tAndV ta tb) :=
  (pe_and ha hb).imp fun σV H Q ⟨Z, σ, h, R, S, dS, q, f⟩ => ⟨Z, σ, h, _, S, dS, q, fun Z1 d v h1 H1 e1 S1 r1 q1 => by
    cases d <;> first | exact q1.elim | skip
    next c =>
      refine ⟨c, den_bl r1, ?_⟩
      cases c
      · exact f _ _ _ _ _ e1 S1 (dbl _) q1
      · exact goE e1 S1 dS q1 f⟩
theorem se_or {rest : List Expr} (ha : SE X a ta) (hb : SE X (.BoolOp .Or (b :: rest) pos) tb) : SE X (.BoolOp .Or (a :: b :: rest) pos) (T3.tOrV ta tb) :=
  (pe_or ha hb).imp fun σV H Q ⟨Z, σ, h, R, S, dS, q, f⟩ => ⟨Z, σ, h, _, S, dS, q, fun Z1 d v h1 H1 e1 S1 r1 q1 => by
    cases d <;> first | exact q1.elim | skip
    next c =>
      refine ⟨c, den_bl r1, ?_⟩
      cases c
      · exact goE e1 S1 dS q1 f
      · exact f _ _ _ _ _ e1 S1 (dbl _) q1⟩
theorem se_not (ha : SE X a ta) : SE X (.UnaryOp .Not a pos) (T3.tNotV ta) :=
  (pe_not ha).imp fun σV H Q ⟨Z, σ, h, R, S, dS, q, f⟩ => ⟨Z, σ, h, _, S, dS, q, fun Z1 d v h1 H1 e1 S1 r1 q1 => by
    cases d <;> first | exact q1.elim | skip
    next c => exact ⟨c, den_bl r1, f _ _ _ _ _ e1 S1 (dbl _) q1⟩⟩

/-! ### tests -/
def tB (ta : TED) : TTD := fun σ h Q => ta σ h fun x h1 => match x with
  | .bl c => Q c h1
  | _ => False
def tAnd (t u : TTD) : TTD := fun σ h Q => t σ h fun c h1 => if c = true then u σ h1 Q else Q false h1
def tOr (t u : TTD) : TTD := fun σ h Q => t σ h fun c h1 => if c = true then Q true h1 else u σ h1 Q
def tNot (t : TTD) : TTD := fun σ h Q => t σ h fun c h1 => Q (!c) h1
def tIf (t : TTD) (ta tb : TED) : TED := fun σ h Q => t σ h fun c h1 => if c = true then ta σ h1 Q else tb σ h1 Q
def SW (X : Cx) (e : Expr) (t : TTD) : Prop := PW X e (lT X.K t)
theorem SW.st (h : SW X e tA) : ST X e tA := PW.pt h
theorem ltB {σV : L2.St} {H : Hp} {Q : Bool → Hp → Prop} (q : lT X.K (T3.tB ta) σV H Q) : L2.tB (lE X.K ta) σV H Q := by
  obtain ⟨Z, σ, h, R, S, dS, q, f⟩ := q
  exact ⟨Z, σ, h, _, S, dS, q, fun Z1 d v h1 H1 e1 S1 r1 q1 => by
    cases d <;> first | exact q1.elim | skip
    next c => exact ⟨c, den_bl r1, f _ _ _ _ e1 S1 q1⟩⟩
theorem st_val (h : SE X e ta) (he : ∀ whole, isTrue e X.env whole = (do let v ← whole; standAt e.pos; holding [v] (truthy v)) := by intro _; rfl) : ST X e (T3.tB ta) := (pt_val h he).imp fun _ _ _ => ltB
theorem st_cmp {op : CmpOp} {r : R2D} (ho : OpS X (compareOp op) r) (ha : SE X a ta) (hb : SE X b tb) (hm : behindInMarks op b = false) : ST X (.Compare a [op] [b] pos) (T3.tB (T3.tOp r ta tb)) :=
  (pt_cmpR ho ha hb hm).imp fun σV H Q q => by
    obtain ⟨Z, σ, h, R, S, dS, q, f⟩ := q
    refine lop ⟨Z, σ, h, _, S, dS, q, fun Z1 d v h1 H1 e1 S1 r1 q1 => ?_⟩
    cases d <;> first | exact q1.elim | skip
    next c => exact ⟨c, den_bl r1, f _ _ _ _ e1 S1 q1⟩
theorem sw_and1 (ha : ST X a tA) : SW X (.BoolOp .And [a] pos) tA := pw_and1 ha
theorem sw_or1 (ha : ST X a tA) : SW X (.BoolOp .Or [a] pos) tA := pw_or1 ha
theorem sw_and {rest : List Expr} (ha : ST X a tA) (hb : SW X (.BoolOp .And (b :: rest) pos) tB') : SW X (.BoolOp .And (a :: b :: rest) pos) (T3.tAnd tA tB') :=
  (pw_and ha hb).imp fun σV H Q ⟨Z, σ, h, R, S, dS, q, f⟩ => ⟨Z, σ, h, _, S, dS, q, fun Z1 c h1 H1 e1 S1 q1 => by
    cases c
    · exact f _ _ _ _ e1 S1 q1
    · exact goT e1 S1 dS q1 f⟩
theorem sw_or {rest : List Expr} (ha : ST X a tA) (hb : SW X (.BoolOp .Or (b :: rest) pos) tB') : SW X (.BoolOp .Or (a :: b :: rest) pos) (T3.tOr tA tB') :=
  (pw_or ha hb).imp fun σV H Q ⟨Z, σ, h, R, S, dS, q, f⟩ => ⟨Z, σ, h, _, S, dS, q, fun Z1 c h1 H1 e1 S1 q1 => by
    cases c
    · exact goT e1 S1 dS q1 f
    · exact f _ _ _ _ e1 S1 q1⟩
theorem st_not (ha : ST X a tA) : ST X (.UnaryOp .Not a pos) (T3.tNot tA) :=
  (pt_not ha).imp fun σV H Q ⟨Z, σ, h, R, S, dS, q, f⟩ => ⟨Z, σ, h, _, S, dS, q, fun Z1 c h1 H1 e1 S1 q1 => f _ _ _ _ e1 S1 q1⟩
theorem se_if (hc : ST X c tA) (ha : SE X a ta) (hb : SE X b tb) : SE X (.IfExp c a b pos) (T3.tIf tA ta tb) :=
  (pe_ifExp hc ha hb).imp fun σV H Q ⟨Z, σ, h, R, S, dS, q, f⟩ => ⟨Z, σ, h, _, S, dS, q, fun Z1 c h1 H1 e1 S1 q1 => by
    cases c
    · exact goE e1 S1 dS q1 f
    · exact goE e1 S1 dS q1 f⟩
/-- a chain of two comparisons -/
def tChain (r r' : R2D) (ta tb tc : TED) : TED := fun σ h Q => ta σ h fun x h1 => tb σ h1 fun y h2 => r x y h2 fun z h3 => match z with
  | .bl k => if k = true then tc σ h3 fun w h4 => r' y w h4 Q else Q (.bl false) h3
  | _ => False
end

/-! ### statements -/
def tNext : TSD := fun E σ h => E.nx σ h
def tSeq (t u : TSD) : TSD := fun E σ h => t { E with nx := u E } σ h
def tBreak : TSD := fun E σ h => E.bk σ h
def tCont : TSD := fun E σ h => E.ct σ h
def tDrop (te : TED) : TSD := fun E σ h => te σ h fun _ h1 => E.nx σ h1
def tRet (te : TED) : TSD := fun E σ h => te σ h E.rt
def tRetN : TSD := fun E _ h => E.rt .non h
def tIfS (c : TTD) (t u : TSD) : TSD := fun E σ h => c σ h fun b h1 => if b = true then t E σ h1 else u E σ h1
def tNever : TSD := fun _ _ _ => False
def tAsg (te : TED) (g : TGD) : TSD := fun E σ h => te σ h fun x h1 => g x σ h1 E.nx
def gName (i : Nat) : TGD := fun d σ h Q => Q (σ.set i (some d)) h
def gList : List TGD → List D → SD → AH → (SD → AH → Prop) → Prop
  | [], ds, σ, h, Q => match ds with
    | [] => Q σ h
    | _ :: _ => False
  | g :: gs, ds, σ, h, Q => match ds with
    | [] => False
    | d :: r => g d σ h fun σ1 h1 => gList gs r σ1 h1 Q
/-- a list in the i-th slot is frozen ahead of a statement -/
def tFrz (i : Nat) (t : TSD) : TSD := fun E σ h => match σ[i]? with
  | some (some (.ref a)) => match h a with
    | some (.lst l) => t E (σ.set i (some (.lst l))) (er h a)
    | _ => False
  | _ => False
section
variable {X : Cx} {c e : Expr} {pos : Pos} {te : TED} {tc : TTD} {t u : TSD} {st : Stmt} {sts : List Stmt}
theorem sss_nil : SSs X [] T3.tNext := pss_nil.imp fun E σV H ⟨Z, σ, h, R, S, dS, q, f⟩ => f.nx _ _ _ _ _ Kp.refl S dS q
theorem sss_one (h1 : SS X st t) : SSs X [st] t := pss_one h1
theorem sss_cons (h1 : SS X st t) (h2 : SSs X sts u) : SSs X (st :: sts) (T3.tSeq t u) := (pss_cons h1 h2).imp fun E σV H ⟨Z, σ, h, R, S, dS, q, f⟩ =>
  ⟨Z, σ, h, _, S, dS, q, ⟨fun Z' σ' σV' h' H' x S' d' q' => ⟨Z', σ', h', R, S', d', q', f.mono x⟩, f.rt, f.bk, f.ct⟩⟩
theorem ss_pass : SS X (.Pass pos) T3.tNext := ps_pass.imp fun E σV H ⟨Z, σ, h, R, S, dS, q, f⟩ => f.nx _ _ _ _ _ Kp.refl S dS q
theorem ss_break : SS X (.Break pos) T3.tBreak := ps_break.imp fun E σV H ⟨Z, σ, h, R, S, dS, q, f⟩ => f.bk _ _ _ _ _ Kp.refl S dS q
theorem ss_continue : SS X (.Continue pos) T3.tCont := ps_continue.imp fun E σV H ⟨Z, σ, h, R, S, dS, q, f⟩ => f.ct _ _ _ _ _ Kp.refl S dS q
theorem ss_expr (he : SE X e te) (hs : swapsWith e none pos.line X.env = pure false := by rfl) : SS X (.Expr e pos) (T3.tDrop te) := (ps_expr he hs).imp fun E σV H ⟨Z, σ, h, R, S, dS, q, f⟩ =>
  ⟨Z, σ, h, _, S, dS, q, fun Z1 d v h1 H1 e1 S1 r1 q1 => f.nx _ _ _ _ _ e1 S1 (dS.mono e1.same) q1⟩
theorem ss_ret (he : SE X e te) : SS X (.Return (some e) pos) (T3.tRet te) := (ps_ret he).imp fun E σV H ⟨Z, σ, h, R, S, dS, q, f⟩ =>
  ⟨Z, σ, h, _, S, dS, q, fun Z1 d v h1 H1 e1 S1 r1 q1 => f.rt _ _ _ _ _ e1 S1 r1 q1⟩
theorem ss_retN : SS X (.Return none pos) T3.tRetN := ps_retN.imp fun E σV H ⟨Z, σ, h, R, S, dS, q, f⟩ => f.rt _ _ _ _ _ Kp.refl S dnon q
theorem ss_if {a b : List Stmt} (hc : ST X c tc) (ha : SSs X a t) (hb : SSs X b u) : SS X (.If c a b pos) (T3.tIfS tc t u) := (ps_if hc ha hb).imp fun E σV H ⟨Z, σ, h, R, S, dS, q, f⟩ =>
  ⟨Z, σ, h, _, S, dS, q, fun Z1 c h1 H1 e1 S1 q1 => by
    cases c
    · exact goS e1 S1 dS q1 f
    · exact goS e1 S1 dS q1 f⟩
theorem ss_never : SS X st T3.tNever := ps_never.imp fun E σV H ⟨Z, σ, h, R, S, dS, q, f⟩ => q.elim
theorem sss_never : SSs X sts T3.tNever := pss_never.imp fun E σV H ⟨Z, σ, h, R, S, dS, q, f⟩ => q.elim
theorem ss_asg {tg : Expr} {vs : List Nat} {g : TGD} (he : SE X e te) (hg : SG X tg vs g) (hs : swapsWithSole [tg] e pos.line X.env = pure false := by rfl) (hw : swappedStores [tg] e X.env = pure none := by rfl)
    (h1 : (assignEach [tg] X.env).map (·.2) = [assign tg X.env] := by rfl) : SS X (.Assign [tg] e pos) (T3.tAsg te g) := (ps_asg he hg hs hw h1).imp fun E σV H ⟨Z, σ, h, R, S, dS, q, f⟩ =>
  ⟨Z, σ, h, _, S, dS, q, fun Z1 d v h1 H1 e1 S1 r1 q1 => ⟨Z1, σ, h1, d, _, S1, dS.mono e1.same, r1, q1, fun Z' σ' σV' h' H' x S' d' _ q' => f.nx _ _ _ _ _ (e1.trans x) S' d' q'⟩⟩
theorem ss_set {i : Nat} {x : Str} {pos' : Pos} (hN : X.N.Nodup) (hi : X.N[i]? = some x) (hx : Loc X.env.scope x) (he : SE X e te) (hs : swapsWith e (some (.Name x pos')) pos.line X.env = pure false := by rfl) (hf : X.fn x = true ∨ X.env.scope.names.lookup x = some .local := by first | exact .inl rfl | exact .inr rfl | assumption) :
    SS X (.Assign [.Name x pos'] e pos) (T3.tAsg te (T3.gName i)) := (ps_set hN hi hx he hs hf).imp fun E σV H ⟨Z, σ, h, R, S, dS, q, f⟩ =>
  ⟨Z, σ, h, _, S, dS, q, fun Z1 d v h1 H1 e1 S1 r1 q1 => f.nx _ _ _ _ _ e1 S1 ((dS.mono e1.same).set i r1) q1⟩
theorem SSs.frz {i : Nat} (p : SSs X sts t) : SSs X sts (tFrz i t) := PSs.imp p fun E σV H ⟨Z, σ, h, R, S, dS, q, f⟩ => by
  unfold tFrz at q
  split at q
  · next a ea =>
    split at q
    · next l el =>
      obtain ⟨v, hv, dv⟩ := dS.2 i _ ea
      obtain rfl := den_ref dv
      obtain ⟨uu, hu, vs, rfl, dl⟩ := S.hs a _ el
      obtain ⟨e1, S1⟩ := S.freeze el hu
      refine ⟨_, σ.set i (some (.lst l)), er h a, R, S1, ?_, q, f.mono (Kp.freeze el (S.ds a _ el))⟩
      have dd := (dS.mono e1).set i (d := .lst l) (v := .ref a) (by unfold Den; exact ⟨a, vs, rfl, upd_same, dl.mono e1⟩)
      have es : σV.set i (some (V.ref a)) = σV := by
        apply List.ext_getElem?
        intro j
        by_cases hj : i = j
        · subst hj
          rw [hv]
          have hl : i < σV.length := (List.getElem?_eq_some_iff.mp hv).1
          rw [List.getElem?_set_self hl]
        · rw [List.getElem?_set_ne hj]
      rw [es] at dd
      exact dd
    · exact q.elim
  · exact q.elim
theorem SS.frz {i : Nat} (p : SS X st t) : SS X st (tFrz i t) := by
  have q := (sss_one p).frz (i := i)
  refine ⟨fun pins s σ H D I h => ?_⟩
  obtain ⟨Z, σ', h', R, S, dS, q', f⟩ := h
  unfold tFrz at q'
  split at q'
  · next a ea =>
    split at q'
    · next l el =>
      obtain ⟨v, hv, dv⟩ := dS.2 i _ ea
      obtain rfl := den_ref dv
      obtain ⟨uu, hu, vs, rfl, dl⟩ := S.hs a _ el
      obtain ⟨e1, S1⟩ := S.freeze el hu
      refine p.run pins s σ H D I ⟨_, σ'.set i (some (.lst l)), er h' a, R, S1, ?_, q', f.mono (Kp.freeze el (S.ds a _ el))⟩
      have dd := (dS.mono e1).set i (d := .lst l) (v := .ref a) (by unfold Den; exact ⟨a, vs, rfl, upd_same, dl.mono e1⟩)
      have es : σ.set i (some (V.ref a)) = σ := by
        apply List.ext_getElem?
        intro j
        by_cases hj : i = j
        · subst hj
          rw [hv]
          have hl : i < σ.length := (List.getElem?_eq_some_iff.mp hv).1
          rw [List.getElem?_set_self hl]
        · rw [List.getElem?_set_ne hj]
      rw [es] at dd
      exact dd
    · exact q'.elim
  · exact q'.elim

/-! ### targets -/
theorem wipe_set {σ : L2.St} {i : Nat} {x : Option V} : ∀ {vs : List Nat}, i ∈ vs → wipe (σ.set i x) vs = wipe σ vs
  | v :: vs, h => by
    unfold wipe
    by_cases e : i = v
    · subst e
      have : ∀ (vs : List Nat), (wipe (σ.set i x) vs).set i none = (wipe σ vs).set i none := by
        intro vs
        induction vs with
        | nil => unfold wipe; rw [List.set_set]
        | cons w ws ih =>
          unfold wipe
          by_cases e : w = i
          · subst e; rw [List.set_set, List.set_set]; exact ih
          · rw [List.set_comm _ _ e, List.set_comm _ _ e, ih]
      exact this vs
    · have hi : i ∈ vs := by
        rcases List.mem_cons.mp h with q | q
        · exact (e q).elim
        · exact q
      rw [wipe_set hi]
theorem sg_name {i : Nat} {x : Str} {vs : List Nat} {pos : Pos} (hN : X.N.Nodup) (hi : X.N[i]? = some x) (hx : Loc X.env.scope x) (hv : i ∈ vs := by decide) (hf : X.fn x = true ∨ X.env.scope.names.lookup x = some .local := by first | exact .inl rfl | exact .inr rfl | assumption) :
    SG X (.Name x pos) vs (T3.gName i) := (pg_name hN hi hx hf).imp fun v σV H Q ⟨Z, σ, h, d, R, S, dS, r, q, f⟩ =>
  f _ _ _ _ _ Kp.refl S (dS.set i r) (wipe_set hv) q
def lGs (K : PySem.W.Frag) (vs : List Nat) (gs : List TGD) : TGs := fun us σV H Q => ∃ (Z : Hp) (σ : SD) (h : AH) (ds : List D) (R : SD → AH → Prop), Sat K Z h H ∧ DenS K Z σ σV ∧ DenL K Z ds us ∧ gList gs ds σ h R ∧ ∀ Z' σ' σV' h' H', Kp Z h H Z' h' H' → Sat K Z' h' H' → DenS K Z' σ' σV' → wipe σV' vs = wipe σV vs → R σ' h' → Q σV' H'
theorem _root_.L2.PGs.imp {es : List Expr} {t t' : TGs} (p : PGs X es t) (f : ∀ v σ H Q, t' v σ H Q → t v σ H Q) : PGs X es t' := by
  refine ⟨?_⟩
  intro pins s σ H v u Q I r q
  exact p.run pins s σ H v u Q I r (f v σ H Q q)
def SGs (X : Cx) (es : List Expr) (vs : List Nat) (gs : List TGD) : Prop := PGs X es (lGs X.K vs gs)
theorem sgs_nil {vs : List Nat} : SGs X [] vs [] := pgs_nil.imp fun v σV H Q ⟨Z, σ, h, ds, R, S, dS, r, q, f⟩ => by
  unfold gList at q
  split at q
  · exact ⟨r.nil_inv, f _ _ _ _ _ Kp.refl S dS rfl q⟩
  · exact q.elim
theorem sgs_cons {es : List Expr} {vs : List Nat} {g : TGD} {gs : List TGD} (h1 : SG X e vs g) (h2 : SGs X es vs gs)
    (hs : (assignEach (e :: es) X.env).map (·.2) = assign e X.env :: (assignEach es X.env).map (·.2) := by rfl) : SGs X (e :: es) vs (g :: gs) :=
  (pgs_cons h1 h2 hs).imp fun v σV H Q ⟨Z, σ, h, ds, R, S, dS, r, q, f⟩ => by
    cases ds with
    | nil => exact q.elim
    | cons d ds =>
      obtain ⟨v, us, rfl, r1, r2⟩ := r.cons_inv
      exact ⟨v, us, rfl, Z, σ, h, d, _, S, dS, r1, q, fun Z1 σ1 σV1 h1 H1 e1 S1 d1 w1 q1 => ⟨Z1, σ1, h1, ds, R, S1, d1, r2.mono e1.same, q1, fun Z2 σ2 σV2 h2 H2 e2 S2 d2 w2 q2 => f _ _ _ _ _ (e1.trans e2) S2 d2 (w2.trans w1) q2⟩⟩
theorem gList_len : ∀ {gs : List TGD} {ds : List D} {σ : SD} {h : AH} {R : SD → AH → Prop}, gList gs ds σ h R → (∀ g ∈ gs, ∀ d σ h (R : SD → AH → Prop), g d σ h R → ∃ σ' h', R σ' h') → ds.length = gs.length
  | [], [], _, _, _, _, _ => rfl
  | [], _ :: _, _, _, _, q, _ => q.elim
  | _ :: _, [], _, _, _, q, _ => q.elim
  | g :: gs, d :: ds, _, _, _, q, hg => by
    have q : g d _ _ _ := q
    obtain ⟨σ', h', q'⟩ := hg g List.mem_cons_self _ _ _ _ q
    have := gList_len q' fun g' hm => hg g' (List.mem_cons_of_mem _ hm)
    rw [List.length_cons, List.length_cons, this]
/-- (a, b, ..) = a tuple of that length -/
def gTupN (n : Nat) (gs : List TGD) : TGD := fun d σ h Q => match d with
  | .tup l => l.length = n ∧ gList gs l σ h Q
  | _ => False
theorem sg_tup {es : List Expr} {k n : Nat} {pos : Pos} {vs : List Nat} {gs : List TGD} (hc : X.calm = true) (h : SGs X es vs gs)
    (hn : (assignEach es X.env).length = n := by rfl) (hst : (assignEach es X.env).findIdx? (·.1) = none := by rfl) : SG X (.Tuple es k pos) vs (gTupN n gs) :=
  (pg_tup hc h hn hst).imp fun v σV H Q ⟨Z, σ, h, d, R, S, dS, r, q, f⟩ => by
    cases d <;> first | exact q.elim | skip
    next l =>
      unfold Den at r
      obtain ⟨a, us, rfl, sq, dl⟩ := r
      exact ⟨a, us, rfl, by
        rcases sq with (x | ⟨o, x⟩) | x
        · exact .inl (.inl (S.zs _ _ x))
        · exact .inl (.inr ⟨o, S.zs _ _ x⟩)
        · exact .inr x, dl.length.symm.trans q.1, Z, σ, h, l, R, S, dS, dl, q.2, f⟩
end
end T3

/-! T3: loops, comprehensions. -/
namespace T3
open PySem PySem.Spec L2
open PyProof.Rows hiding St

/-! ### what is walked -/
abbrev TID := SD → AH → (List D → (AH → Prop) → AH → Prop) → Prop
structure Yl (K : PySem.W.Frag) (Z0 : Hp) (l : List D) (ok : AH → Prop) (J : It) : Prop where
  go : ∀ (i : Nat) d Z h H, l[i]? = some d → Same Z0 Z → Sat K Z h H → ok h → J.go i H ∧ ∀ x H', J.yld i H x H' → ∃ Z', Kp Z h H Z' h H' ∧ Sat K Z' h H' ∧ Den K Z' d x
  stop : ∀ Z h H, Same Z0 Z → Sat K Z h H → ok h → J.stop l.length H
theorem Yl.mono {K : PySem.W.Frag} {Z0 Z1 : Hp} {l : List D} {ok : AH → Prop} {J : It} (y : Yl K Z0 l ok J) (e : Same Z0 Z1) : Yl K Z1 l ok J :=
  ⟨fun i d Z h H a b => y.go i d Z h H a (e.trans b), fun Z h H b => y.stop Z h H (e.trans b)⟩
def lI (K : PySem.W.Frag) (ti : TID) : TI := fun σV H R => ∃ (Z : Hp) (σ : SD) (h : AH) (S : List D → (AH → Prop) → AH → Prop), Sat K Z h H ∧ DenS K Z σ σV ∧ ti σ h S ∧ ∀ Z' l ok h' H' J, Kp Z h H Z' h' H' → Sat K Z' h' H' → S l ok h' → Yl K Z' l ok J → R J H'
def SI (X : Cx) (tg e : Expr) (ti : TID) : Prop := PI X tg e (lI X.K ti)
theorem _root_.L2.PI.imp {X : Cx} {tg e : Expr} {t t' : TI} (p : PI X tg e t) (f : ∀ σ H R, t' σ H R → t σ H R) : PI X tg e t' := ⟨fun pins s σ H R I q => p.run pins s σ H R I (f σ H R q)⟩

/-! ### for -/
def forL (ok : AH → Prop) (g : TGD) (tb : TSD) (E : EndsD) : List D → SD → AH → Prop
  | [], σ, h => ok h ∧ E.nx σ h
  | x :: xs, σ, h => ok h ∧ g x σ h fun σ2 h2 => tb { E with nx := forL ok g tb E xs, ct := forL ok g tb E xs, bk := E.nx } σ2 h2
def tFor (ti : TID) (g : TGD) (tb : TSD) : TSD := fun E σ h => ti σ h fun l ok h1 => forL ok g tb E l σ h1
section
variable {X : Cx} {pos : Pos}
theorem ss_for {tg iter : Expr} {body : List Stmt} {ti : TID} {vs : List Nat} {g : TGD} {tb : TSD} (hp : PassesOwn (model X.prog X.w) X.A X.env X.xe) (hc : X.calm = true) (hi : SI X tg iter ti) (hg : SG X tg vs g) (hb : SSs X body tb)
    (hs : ∀ x, foldedSetIterable iter X.env x = pure x := by intro _; rfl) : SS X (.For tg iter body [] pos) (T3.tFor ti g tb) := (ps_for hp hc hi hg hb hs).imp fun E σV H ⟨Z, σ, h, R, S, dS, q, f⟩ => by
  refine ⟨Z, σ, h, _, S, dS, q, fun Z0 l ok h0 H0 J k0 S0 q0 y => ?_⟩
  have f0 := f.mono k0
  refine ⟨fun i m σV1 H1 => ∃ Z1 σ1 h1, Kp Z0 h0 H0 Z1 h1 H1 ∧ Sat X.K Z1 h1 H1 ∧ DenS X.K Z1 σ1 σV1 ∧ m = l.length - i ∧ i ≤ l.length ∧ forL ok g tb R (l.drop i) σ1 h1,
    ⟨l.length, Z0, σ, h0, Kp.refl, S0, dS.mono k0.same, rfl, Nat.zero_le _, q0⟩, ?_⟩
  rintro i m σV1 H1 ⟨Z1, σ1, h1, k1, S1, d1, rfl, hi, q1⟩
  by_cases hlt : i < l.length
  · have ed : l.drop i = l[i] :: l.drop (i + 1) := List.drop_eq_getElem_cons hlt
    rw [ed] at q1
    obtain ⟨ok1, q1⟩ := q1
    obtain ⟨gg, yy⟩ := y.go i l[i] Z1 h1 H1 (List.getElem?_eq_getElem hlt) k1.same S1 ok1
    refine .inr ⟨gg, fun σ' H' => ∃ Z2 σ2 h2, Kp Z0 h0 H0 Z2 h2 H' ∧ Sat X.K Z2 h2 H' ∧ DenS X.K Z2 σ2 σ' ∧ forL ok g tb R (l.drop (i + 1)) σ2 h2, ?_, fun x H' yx => ?_⟩
    · rintro σ' H' ⟨Z2, σ2, h2, a1, a2, a3, a4⟩
      exact ⟨l.length - (i + 1), by omega, Z2, σ2, h2, a1, a2, a3, rfl, hlt, a4⟩
    · obtain ⟨Z2, k2, S2, r2⟩ := yy x H' yx
      refine ⟨Z2, σ1, h1, l[i], _, S2, d1.mono k2.same, r2, q1, fun Z3 σ3 σV3 h3 H3 k3 S3 d3 _ q3 => ?_⟩
      have k13 := (k1.trans k2).trans k3
      refine ⟨Z3, σ3, h3, _, S3, d3, q3, ⟨?_, ?_, ?_, ?_⟩⟩
      · intro Z' σ' σV' h' H' kk SS dd qq
        exact ⟨Z', σ', h', k13.trans kk, SS, dd, qq⟩
      · intro Z' d v h' H' kk SS dd qq
        exact f0.rt Z' d v h' H' (k13.trans kk) SS dd qq
      · intro Z' σ' σV' h' H' kk SS dd qq
        exact f0.nx Z' σ' σV' h' H' (k13.trans kk) SS dd qq
      · intro Z' σ' σV' h' H' kk SS dd qq
        exact ⟨Z', σ', h', k13.trans kk, SS, dd, qq⟩
  · have e : i = l.length := by omega
    subst e
    rw [List.drop_length] at q1
    obtain ⟨ok1, q1⟩ := q1
    exact .inl ⟨y.stop Z1 h1 H1 k1.same S1 ok1, f0.nx Z1 σ1 σV1 h1 H1 k1 S1 d1 q1⟩
end

/-! ### while -/
def tWhile (c : TTD) (tb : TSD) : TSD := fun E σ h => ∃ W : Nat → SD → AH → Prop, (∃ m, W m σ h) ∧ ∀ m σ h, W m σ h →
  c σ h fun b h1 => if b = true then tb { E with nx := fun σ' h' => ∃ m', m' < m ∧ W m' σ' h', ct := fun σ' h' => ∃ m', m' < m ∧ W m' σ' h', bk := E.nx } σ h1 else E.nx σ h1
section
variable {X : Cx} {pos : Pos}
theorem ss_while {c : Expr} {body : List Stmt} {tc : TTD} {tb : TSD} (hp : PassesOwn (model X.prog X.w) X.A X.env X.xe) (hc : ST X c tc) (hb : SSs X body tb) : SS X (.While c body [] pos) (T3.tWhile tc tb) := (ps_while hp hc hb).imp fun E σV H ⟨Z, σ, h, R, S, dS, q, f⟩ => by
  obtain ⟨W, ⟨m0, w0⟩, q⟩ := q
  refine ⟨fun m σV1 H1 => ∃ Z1 σ1 h1, Kp Z h H Z1 h1 H1 ∧ Sat X.K Z1 h1 H1 ∧ DenS X.K Z1 σ1 σV1 ∧ W m σ1 h1, ⟨m0, Z, σ, h, Kp.refl, S, dS, w0⟩, ?_⟩
  rintro m σV1 H1 ⟨Z1, σ1, h1, k1, S1, d1, w1⟩
  refine ⟨Z1, σ1, h1, _, S1, d1, q m σ1 h1 w1, fun Z2 b h2 H2 k2 S2 q2 => ?_⟩
  cases b
  · exact f.nx _ _ _ _ _ (k1.trans k2) S2 (d1.mono k2.same) q2
  · refine ⟨fun σ' H' => ∃ m', m' < m ∧ ∃ Z1 σ1 h1, Kp Z h H Z1 h1 H' ∧ Sat X.K Z1 h1 H' ∧ DenS X.K Z1 σ1 σ' ∧ W m' σ1 h1, fun σ' H' z => z, Z2, σ1, h2, _, S2, d1.mono k2.same, q2, ⟨?_, ?_, ?_, ?_⟩⟩
    · rintro Z' σ' σV' h' H' kk SS dd ⟨m', hm, ww⟩
      exact ⟨m', hm, Z', σ', h', (k1.trans k2).trans kk, SS, dd, ww⟩
    · intro Z' d v h' H' kk SS dd qq
      exact f.rt Z' d v h' H' ((k1.trans k2).trans kk) SS dd qq
    · intro Z' σ' σV' h' H' kk SS dd qq
      exact f.nx Z' σ' σV' h' H' ((k1.trans k2).trans kk) SS dd qq
    · rintro Z' σ' σV' h' H' kk SS dd ⟨m', hm, ww⟩
      exact ⟨m', hm, Z', σ', h', (k1.trans k2).trans kk, SS, dd, ww⟩
end

/-! ### comprehensions -/
def wipeD (σ : SD) : List Nat → SD
  | [] => σ
  | v :: vs => (wipeD σ vs).set v none
theorem DenS.wipe {K : PySem.W.Frag} {Z : Hp} {σ : SD} {σV : L2.St} (d : DenS K Z σ σV) : ∀ vs : List Nat, DenS K Z (wipeD σ vs) (L2.wipe σV vs)
  | [] => d
  | v :: vs => by
    have ih := DenS.wipe d vs
    unfold wipeD L2.wipe
    refine ⟨by rw [List.length_set, List.length_set]; exact ih.1, fun j x e => ?_⟩
    by_cases hij : v = j
    · subst hij
      by_cases hl : v < (wipeD σ vs).length
      · rw [List.getElem?_set_self hl] at e; cases e
      · rw [List.getElem?_eq_none (by simpa using hl)] at e; cases e
    · rw [List.getElem?_set_ne hij] at e ⊢
      exact ih.2 j x e
theorem set_wipe {σ : L2.St} {i : Nat} : ∀ {vs : List Nat}, i ∈ vs → (wipe σ vs).set i none = wipe σ vs
  | v :: vs, h => by
    unfold wipe
    by_cases e : i = v
    · subst e; rw [List.set_set]
    · have hi : i ∈ vs := by
        rcases List.mem_cons.mp h with q | q
        · exact (e q).elim
        · exact q
      rw [List.set_comm _ _ (fun z => e z.symm), set_wipe hi]
theorem wipe_sub {σ : L2.St} {us : List Nat} : ∀ {vs : List Nat}, (∀ v ∈ vs, v ∈ us) → wipe (wipe σ us) vs = wipe σ us
  | [], _ => rfl
  | v :: vs, h => by
    show (wipe (wipe σ us) vs).set v none = wipe σ us
    rw [wipe_sub fun x hx => h x (List.mem_cons_of_mem _ hx), set_wipe (h v List.mem_cons_self)]
theorem wipe_wipe {σ : L2.St} {vs : List Nat} : wipe (wipe σ vs) vs = wipe σ vs := wipe_sub fun _ h => h
def lcL (ok : AH → Prop) (g : TGD) (tt : TTD) (te : TED) (σ : SD) : List D → List D → AH → (List D → AH → Prop) → Prop
  | [], acc, h, Q => ok h ∧ Q acc h
  | x :: xs, acc, h, Q => ok h ∧ g x σ h fun σ2 h2 => tt σ2 h2 fun b h3 => if b = true then te σ2 h3 fun y h4 => acc.length < sizeLine ∧ lcL ok g tt te σ xs (acc ++ [y]) h4 Q else lcL ok g tt te σ xs acc h3 Q
/-- the new list is frozen -/
def tLc (ti : TID) (g : TGD) (tt : TTD) (te : TED) (vs : List Nat) : TED := fun σ h Q => ti σ h fun l ok h1 => lcL ok g tt te (wipeD σ vs) l [] h1 fun acc h2 => Q (.lst acc) h2
/-- the new list may change -/
def tLcM (ti : TID) (g : TGD) (tt : TTD) (te : TED) (vs : List Nat) : TED := fun σ h Q => ti σ h fun l ok h1 => lcL ok g tt te (wipeD σ vs) l [] h1 fun acc h2 => ∀ a, h2 a = none → Q (.ref a) (ud h2 a (.lst acc))
def STs (X : Cx) (ifs : List Expr) (t : TTD) : Prop := PTs X ifs (lT X.K t)
def tYes : TTD := fun _ h Q => Q true h
theorem sts_nil {X : Cx} : STs X [] T3.tYes := ⟨fun pins s σV H Q I ⟨Z, σ, h, R, S, dS, q, f⟩ => pts_nil.run pins s σV H Q I (f _ _ _ _ Kp.refl S q)⟩
theorem sts_one {X : Cx} {c : Expr} {t : TTD} (h : ST X c t) : STs X [c] t := pts_one h
theorem Sat.at {K : PySem.W.Frag} {Z H : Hp} {h : AH} {p : Addr} {u : HO} (S : Sat K Z h H) (eZ : Z p = none) (eh : h p = none) : Sat K Z h (upd H p u) := by
  refine ⟨fun b x q => ?_, fun a x q => ?_, S.ds⟩
  · rw [upd_ne (fun z => by rw [z, eZ] at q; cases q)]; exact S.zs b x q
  · rw [upd_ne (fun z => by rw [z, eh] at q; cases q)]; exact S.hs a x q
/-- a thing that is not told: a comprehension's list on its way -/
structure Way (K : PySem.W.Frag) (D : Addr) (Z : Hp) (h : AH) (H : Hp) (acc : List T3.D) : Prop where
  z : Z D = none
  h : h D = none
  v : ∃ us, H D = some (.lst us) ∧ DenL K Z acc us
theorem Way.kp {K : PySem.W.Frag} {D : Addr} {Z Z' H H' : Hp} {h h' : AH} {acc : List T3.D} (w : Way K D Z h H acc) (k : Kp Z h H Z' h' H') : Way K D Z' h' H' acc := by
  obtain ⟨us, e, d⟩ := w.v
  obtain ⟨a, b, c⟩ := k.keep D _ e w.h
  exact ⟨c w.z, b, us, a, d.mono k.same⟩
/-- all but D is kept -/
structure KpD (D : Addr) (Z : Hp) (h : AH) (H : Hp) (Z' : Hp) (h' : AH) (H' : Hp) : Prop where
  same : Same Z Z'
  keep : ∀ a u, a ≠ D → H a = some u → h a = none → H' a = some u ∧ h' a = none ∧ (Z a = none → Z' a = none)
theorem KpD.trans {D : Addr} {Z Z1 Z2 H H1 H2 : Hp} {h h1 h2 : AH} (p : KpD D Z h H Z1 h1 H1) (q : KpD D Z1 h1 H1 Z2 h2 H2) : KpD D Z h H Z2 h2 H2 :=
  ⟨p.same.trans q.same, fun a u ne x y => let ⟨a1, a2, a3⟩ := p.keep a u ne x y; let ⟨b1, b2, b3⟩ := q.keep a u ne a1 a2; ⟨b1, b2, fun z => b3 (a3 z)⟩⟩
theorem Kp.d {D : Addr} {Z Z' H H' : Hp} {h h' : AH} (k : Kp Z h H Z' h' H') : KpD D Z h H Z' h' H' := ⟨k.same, fun a u _ => k.keep a u⟩
theorem KpD.at {D : Addr} {Z H : Hp} {h : AH} {u : HO} : KpD D Z h H Z h (upd H D u) := ⟨Same.refl Z, fun a x ne q n => by rw [upd_ne ne]; exact ⟨q, n, id⟩⟩
section
variable {X : Cx} {pos : Pos}
theorem lc_imp {K : PySem.W.Frag} {ti : TID} {g : TGD} {tt : TTD} {te : TED} {vs : List Nat} {σV : L2.St} {H : Hp} {Q : VK} {Z : Hp} {σ : SD} {h : AH} {P : List D → AH → Prop} (S : Sat K Z h H) (dS : DenS K Z σ σV)
    (q : ti σ h fun l ok h1 => lcL ok g tt te (wipeD σ vs) l [] h1 P)
    (f : ∀ (Z2 : Hp) (acc : List D) (h2 : AH) (H2 : Hp) (D : Addr), KpD D Z h H Z2 h2 H2 → Sat K Z2 h2 H2 → Way K D Z2 h2 H2 acc → (∀ u, H D = some u → h D = none → False) → P acc h2 → Q (.ref D) H2) :
    L2.tLc (lI K ti) (lG K vs g) (lT K tt) (lE K te) vs σV H Q := by
  refine ⟨Z, σ, h, _, S, dS, q, fun Z0 l ok h0 H0 J k0 S0 q0 y => fun D hD => ?_⟩
  obtain ⟨nh, nZ⟩ := S0.fresh hD
  have hne : ∀ u, H D = some u → h D = none → False := fun u a b => by
    have := (k0.keep D u a b).1
    rw [hD] at this; cases this
  refine ⟨fun i m H1 => ∃ Z1 h1 acc, KpD D Z h H Z1 h1 H1 ∧ Same Z0 Z1 ∧ Sat K Z1 h1 H1 ∧ Way K D Z1 h1 H1 acc ∧ m = l.length - i ∧ i ≤ l.length ∧ lcL ok g tt te (wipeD σ vs) (l.drop i) acc h1 P,
    ⟨l.length, Z0, h0, [], k0.d.trans .at, Same.refl _, S0.at nZ nh, ⟨nZ, nh, [], upd_same, denL_nil⟩, rfl, Nat.zero_le _, q0⟩, ?_⟩
  rintro i m H1 ⟨Z1, h1, acc, k1, s1, S1, w1, rfl, hi, q1⟩
  by_cases hlt : i < l.length
  · have ed : l.drop i = l[i] :: l.drop (i + 1) := List.drop_eq_getElem_cons hlt
    rw [ed] at q1
    obtain ⟨ok1, q1⟩ := q1
    obtain ⟨gg, yy⟩ := y.go i l[i] Z1 h1 H1 (List.getElem?_eq_getElem hlt) s1 S1 ok1
    refine .inr ⟨gg, fun H' => ∃ Z1 h1 acc, KpD D Z h H Z1 h1 H' ∧ Same Z0 Z1 ∧ Sat K Z1 h1 H' ∧ Way K D Z1 h1 H' acc ∧ lcL ok g tt te (wipeD σ vs) (l.drop (i + 1)) acc h1 P, ?_, fun x H' yx => ?_⟩
    · rintro H' ⟨Z2, h2, acc2, a1, a2, a3, a4, a5⟩
      exact ⟨l.length - (i + 1), by omega, Z2, h2, acc2, a1, a2, a3, a4, rfl, hlt, a5⟩
    · obtain ⟨Z2, k2, S2, r2⟩ := yy x H' yx
      have sZ : Same Z Z2 := k1.same.trans k2.same
      refine ⟨Z2, wipeD σ vs, h1, l[i], _, S2, (dS.mono sZ).wipe vs, r2, q1, fun Z3 σ3 σV3 h3 H3 k3 S3 d3 w3 q3 => ⟨w3.trans wipe_wipe, ?_⟩⟩
      have w13 := (w1.kp k2).kp k3
      refine ⟨Z3, σ3, h3, _, S3, d3, q3, fun Z4 b h4 H4 k4 S4 q4 => ?_⟩
      have w14 := w13.kp k4
      have k14 : KpD D Z h H Z4 h4 H4 := ((k1.trans k2.d).trans k3.d).trans k4.d
      have s14 : Same Z0 Z4 := ((s1.trans k2.same).trans k3.same).trans k4.same
      cases b
      · exact ⟨Z4, h4, acc, k14, s14, S4, w14, q4⟩
      · refine ⟨Z4, σ3, h4, _, S4, d3.mono k4.same, q4, fun Z5 d v h5 H5 k5 S5 r5 q5 => ?_⟩
        have w15 := w14.kp k5
        obtain ⟨us, e5, d5⟩ := w15.v
        refine ⟨us, e5, by rw [← d5.length]; exact q5.1, Z5, h5, acc ++ [d], (k14.trans k5.d).trans .at, s14.trans k5.same, S5.at w15.z w15.h, ⟨w15.z, w15.h, us ++ [v], upd_same, d5.append (denL_one r5)⟩, q5.2⟩
  · have e : i = l.length := by omega
    subst e
    rw [List.drop_length] at q1
    obtain ⟨ok1, q1⟩ := q1
    exact .inl ⟨y.stop Z1 h1 H1 s1 S1 ok1, f Z1 acc h1 H1 D k1 S1 w1 hne q1⟩
theorem lc_frz {K : PySem.W.Frag} {ti : TID} {g : TGD} {tt : TTD} {te : TED} {vs : List Nat} {σV : L2.St} {H : Hp} {Q : VK} (q : lE K (T3.tLc ti g tt te vs) σV H Q) : L2.tLc (lI K ti) (lG K vs g) (lT K tt) (lE K te) vs σV H Q := by
  obtain ⟨Z, σ, h, R, S, dS, q, f⟩ := q
  refine lc_imp S dS q fun Z2 acc h2 H2 D k2 S2 w2 hne q2 => ?_
  obtain ⟨us, e, d⟩ := w2.v
  have S3 : Sat K (upd Z2 D (.lst us)) h2 H2 := by
    refine ⟨fun b x q => ?_, fun a x q => ?_, fun a x q => ?_⟩
    · by_cases hb : b = D
      · subst hb; rw [upd_same] at q; cases q; exact e
      · rw [upd_ne hb] at q; exact S2.zs b x q
    · obtain ⟨u, a1, a2⟩ := S2.hs a x q
      exact ⟨u, a1, a2.mono (same_upd w2.z)⟩
    · rw [upd_ne (fun z => by rw [z, w2.h] at q; cases q)]; exact S2.ds a x q
  refine f (upd Z2 D (.lst us)) (.lst acc) (.ref D) h2 H2 ⟨k2.same.trans (same_upd w2.z), fun a u x n => ?_⟩ S3 (by unfold Den; exact ⟨D, us, rfl, upd_same, d.mono (same_upd w2.z)⟩) q2
  have ne : a ≠ D := fun z => by subst z; exact hne u x n
  rw [upd_ne ne]
  exact k2.keep a u ne x n
theorem lc_mut {K : PySem.W.Frag} {ti : TID} {g : TGD} {tt : TTD} {te : TED} {vs : List Nat} {σV : L2.St} {H : Hp} {Q : VK} (q : lE K (T3.tLcM ti g tt te vs) σV H Q) : L2.tLc (lI K ti) (lG K vs g) (lT K tt) (lE K te) vs σV H Q := by
  obtain ⟨Z, σ, h, R, S, dS, q, f⟩ := q
  refine lc_imp S dS q fun Z2 acc h2 H2 D k2 S2 w2 hne q2 => ?_
  obtain ⟨us, e, d⟩ := w2.v
  have eH : upd H2 D (.lst us) = H2 := by
    funext b
    by_cases hb : b = D
    · subst hb; rw [upd_same]; exact e.symm
    · rw [upd_ne hb]
  have S3 : Sat K Z2 (ud h2 D (.lst acc)) H2 := by
    have := S2.put (u := .lst us) (o := .lst acc) w2.z ⟨us, rfl, d⟩
    rw [eH] at this; exact this
  refine f Z2 (.ref D) (.ref D) _ H2 ⟨k2.same, fun a u x n => ?_⟩ S3 (dref D) (q2 D w2.h)
  have ne : a ≠ D := fun z => by subst z; exact hne u x n
  rw [ud_ne ne]
  exact k2.keep a u ne x n

abbrev Blk (X : Cx) (scope : Scope) (P : Cx → Prop) : Prop := ∀ (s : Shared) (H : Hp) (C : Addr) (cl : List (Str × Addr)) (fp : List Addr), P (X.blk s H scope (compEnvC scope cl C X.env) fp)
section
variable {elt tg iter : Expr} {ifs : List Expr} {scope : Scope} {own : List (Str × Nat)} {ti : TID} {g : TGD} {tt : TTD} {te : TED}
theorem se_lc (hc : X.calm = true) (hN : X.N.Nodup) (hi : SI X tg iter ti) (ok : BlkOk X.N X.env.scope scope own)
    (hg : Blk X scope fun X => SG X tg (own.map (·.2)) g) (ht : Blk X scope fun X => STs X ifs tt) (he : Blk X scope fun X => SE X elt te) (hs : ∀ x, foldedSetIterable iter X.env x = pure x := by intro _; rfl) :
    SE X (.ListComp elt [⟨tg, iter, ifs, 0⟩] scope pos) (T3.tLc ti g tt te (own.map (·.2))) := (pe_lc (g := lG X.K (List.map (fun (x : Str × Nat) => x.2) own) g) (tt := lT X.K tt) (te := lE X.K te) hc hN hi ok hg ht he hs).imp fun _ _ _ q => lc_frz q
theorem se_lcM (hc : X.calm = true) (hN : X.N.Nodup) (hi : SI X tg iter ti) (ok : BlkOk X.N X.env.scope scope own)
    (hg : Blk X scope fun X => SG X tg (own.map (·.2)) g) (ht : Blk X scope fun X => STs X ifs tt) (he : Blk X scope fun X => SE X elt te) (hs : ∀ x, foldedSetIterable iter X.env x = pure x := by intro _; rfl) :
    SE X (.ListComp elt [⟨tg, iter, ifs, 0⟩] scope pos) (T3.tLcM ti g tt te (own.map (·.2))) := (pe_lc (g := lG X.K (List.map (fun (x : Str × Nat) => x.2) own) g) (tt := lT X.K tt) (te := lE X.K te) hc hN hi ok hg ht he hs).imp fun _ _ _ q => lc_mut q
/-- what an assignment of a comprehension asks -/
theorem asg_imp {X : Cx} {tv : TE} {te : TED} {i : Nat} (hq : ∀ σV H Q, lE X.K te σV H Q → tv σV H Q) {E : Ends} {σV : L2.St} {H : Hp} (q : lS X.K (T3.tAsg te (T3.gName i)) E σV H) : L2.tAsg tv (L2.gName i) E σV H := by
  obtain ⟨Z, σ, h, R, S, dS, q, f⟩ := q
  exact hq _ _ _ ⟨Z, σ, h, _, S, dS, q, fun Z1 d v h1 H1 e1 S1 r1 q1 => f.nx _ _ _ _ _ e1 S1 ((dS.mono e1.same).set i r1) q1⟩
theorem ss_setLc {i : Nat} {y : Str} {py : Pos} {spos : Pos} (hc : X.calm = true) (hN : X.N.Nodup) (hy : X.N[i]? = some y) (hyl : X.env.scope.names.lookup y = some .local)
    (hsw : swapsWith (.ListComp elt [⟨tg, iter, ifs, 0⟩] scope pos) (some (.Name y py)) spos.line X.env = pure true) (hi : SI X tg iter ti) (ok : BlkOk X.N X.env.scope scope own)
    (hg : Blk X scope fun X => SG X tg (own.map (·.2)) g) (ht : Blk X scope fun X => STs X ifs tt) (he : Blk X scope fun X => SE X elt te) (hs : ∀ x, foldedSetIterable iter X.env x = pure x := by intro _; rfl) :
    SS X (.Assign [.Name y py] (.ListComp elt [⟨tg, iter, ifs, 0⟩] scope pos) spos) (T3.tAsg (T3.tLc ti g tt te (own.map (·.2))) (T3.gName i)) :=
  (ps_setLc (g := lG X.K (List.map (fun (x : Str × Nat) => x.2) own) g) (tt := lT X.K tt) (te := lE X.K te) hc hN hy hyl hsw hi ok hg ht he hs).imp fun _ _ _ q => asg_imp (fun _ _ _ z => lc_frz z) q
theorem ss_setLcM {i : Nat} {y : Str} {py : Pos} {spos : Pos} (hc : X.calm = true) (hN : X.N.Nodup) (hy : X.N[i]? = some y) (hyl : X.env.scope.names.lookup y = some .local)
    (hsw : swapsWith (.ListComp elt [⟨tg, iter, ifs, 0⟩] scope pos) (some (.Name y py)) spos.line X.env = pure true) (hi : SI X tg iter ti) (ok : BlkOk X.N X.env.scope scope own)
    (hg : Blk X scope fun X => SG X tg (own.map (·.2)) g) (ht : Blk X scope fun X => STs X ifs tt) (he : Blk X scope fun X => SE X elt te) (hs : ∀ x, foldedSetIterable iter X.env x = pure x := by intro _; rfl) :
    SS X (.Assign [.Name y py] (.ListComp elt [⟨tg, iter, ifs, 0⟩] scope pos) spos) (T3.tAsg (T3.tLcM ti g tt te (own.map (·.2))) (T3.gName i)) :=
  (ps_setLc (g := lG X.K (List.map (fun (x : Str × Nat) => x.2) own) g) (tt := lT X.K tt) (te := lE X.K te) hc hN hy hyl hsw hi ok hg ht he hs).imp fun _ _ _ q => asg_imp (fun _ _ _ z => lc_mut z) q
end
end
end T3

/-! T3: defs, calls, instances. -/
namespace T3
open PySem PySem.Spec L2
open PyProof.Rows hiding St

abbrev FSp := List D → AH → QD → Prop
def spL (K : PySem.W.Frag) (fs : FSp) : Sp := fun vs H Q _ => ∃ (Z : Hp) (ds : List D) (h : AH) (R : QD), Sat K Z h H ∧ DenL K Z ds vs ∧ fs ds h R ∧ ∀ Z' d v h' H', Kp Z h H Z' h' H' → Sat K Z' h' H' → Den K Z' d v → R d h' → Q v H'
def Sub (h' h : AH) : Prop := ∀ a o, h' a = some o → h a = some o
theorem Sub.refl {h : AH} : Sub h h := fun _ _ q => q
theorem Sub.trans {h h1 h2 : AH} (p : Sub h h1) (q : Sub h1 h2) : Sub h h2 := fun a o x => q a o (p a o x)
theorem Sub.ud {h h' : AH} {a : Addr} {o : O} (p : Sub h h') (e : h a = none) : Sub h (T3.ud h' a o) := fun b u q => by
  rw [ud_ne (fun z => by rw [z, e] at q; cases q)]; exact p b u q
theorem Sub.er {h h' : AH} {a : Addr} (p : Sub h h') (e : h a = none) : Sub h (T3.er h' a) := fun b u q => by
  rw [er_ne (fun z => by rw [z, e] at q; cases q)]; exact p b u q
theorem Sub.ud2 {h h' : AH} {a : Addr} {o : O} (p : Sub h h') : Sub (T3.ud h a o) (T3.ud h' a o) := fun b u q => by
  unfold T3.ud at q ⊢; split
  · next e => rw [if_pos e] at q; exact q
  · next e => rw [if_neg e] at q; exact p b u q
/-- what a def hands back: something may be forgotten, a list or an instance frozen -/
inductive Out (h : AH) : D → AH → D → Prop
  | as {d : D} {h2 : AH} (s : Sub h2 h) : Out h d h2 d
  | lst {a : Addr} {l : List D} {h2 : AH} (e : h a = some (.lst l)) (s : Sub h2 (er h a)) : Out h (.ref a) h2 (.lst l)
def fnEnds (R : QD) : EndsD := { nx := fun _ h => ∃ h2, Sub h2 h ∧ R .non h2, rt := fun d h => ∃ h2 d2, Out h d h2 d2 ∧ R d2 h2 }
def startD (N : List Str) (ds : List D) : SD := ds.map some ++ List.replicate (N.length - ds.length) none
section
variable {K : PySem.W.Frag} {Z H : Hp} {h : AH}
theorem denS_start {N : List Str} {ds : List D} {vs : List V} (q : DenL K Z ds vs) : DenS K Z (startD N ds) (L2.start N vs) := by
  unfold startD L2.start
  refine ⟨by simp [q.length], fun i d e => ?_⟩
  by_cases hi : i < ds.length
  · rw [List.getElem?_append_left (by simpa using hi), List.getElem?_map] at e
    cases z : ds[i]? with
    | none => rw [z] at e; cases e
    | some x =>
      rw [z] at e; cases e
      obtain ⟨v, a, b⟩ := q.get z
      refine ⟨v, ?_, b⟩
      rw [List.getElem?_append_left (by have := q.length; simp; omega), List.getElem?_map, a]; rfl
  · rw [List.getElem?_append_right (by simpa using hi)] at e
    rw [List.getElem?_replicate] at e
    split at e <;> cases e
theorem out_fin {d d2 : D} {v : V} {h2 : AH} {Z0 H0 : Hp} {h0 : AH} (o : Out h d h2 d2) (k : Kp Z0 h0 H0 Z h H) (S : Sat K Z h H) (r : Den K Z d v) : ∃ Z2, Kp Z0 h0 H0 Z2 h2 H ∧ Sat K Z2 h2 H ∧ Den K Z2 d2 v := by
  cases o with
  | as s => exact ⟨Z, k.trans (Kp.sub s), S.sub s, r⟩
  | @lst a l h2 e s =>
    obtain rfl := den_ref r
    obtain ⟨uu, hu, vs, rfl, dl⟩ := S.hs a _ e
    obtain ⟨e1, S1⟩ := S.freeze e hu
    exact ⟨_, (k.trans (Kp.freeze e (S.ds a _ e))).trans (Kp.sub s), S1.sub s, by unfold Den; exact ⟨a, vs, rfl, upd_same, dl.mono e1⟩⟩
end

/-- a call of the def at f with n values and keywords ks -/
structure Cl (P : Program) (w : World) (K : PySem.W.Frag) (mg : Str → Option Value) (base : Heap) (k : Nat) (f : Addr) (n : Nat) (ks : List Str) (fs : FSp) : Prop where
  ex : ∃ (fd : FuncData) (ps : List Str) (sp : Sp) (g : List Value → List Value → List Value) (gV : List V → List V → List V), FnOk P w K mg base CX0 k f fd ps sp ∧ KBn K fd ps n ks g gV ∧
    ∀ vs zs H Q, vs.length = n → zs.length = ks.length → spL K fs (vs ++ zs) H Q E0 → sp (gV vs zs) H Q E0
  kp : PySem.W.keepIn K (.ref f) = true
  len : ∀ ds h R, fs ds h R → ds.length = n + ks.length

section
variable {P : Program} {w : World} {K : PySem.W.Frag} {mg : Str → Option Value} {base : Heap}
/-- a def of the text by its body -/
theorem fun_okL {x qual : Str} {st : Stmt} {f : Addr} {fd : FuncData} {N ps : List Str} {k : Nat} {fs : FSp} (F : Fun K x qual st f fd) (S : FnScope N ps (defScope st)) (len : ∀ ds h R, fs ds h R → ds.length = ps.length)
    (body : ∀ (cdv : Value) (A : Around) (outer : List Env) (s : Shared) (H : Hp) (E : XK), Room k (A.deeper (envOfC qual (defScope st) s.heap.objs.size f cdv)) →
      ∃ t, SSs (cxOf CX0 P w K mg base N qual (defScope st) f cdv A outer s H E).nox (defBody st) t ∧ ∀ ds h R, fs ds h R → t (fnEnds R) (startD N ds) h) : FnOk P w K mg base CX0 (k + 1) f fd ps (spL K fs) := by
  refine F.ok S (fun vs H Q E ⟨Z, ds, h, R, Sa, dl, q, f⟩ => dl.length.symm.trans (len ds h R q)) (fun cdv A outer s H vs Q E hr ⟨Z, ds, h, R, Sa, dl, q, fin⟩ => ?_)
  obtain ⟨t, hb, hq⟩ := body cdv A outer s H E hr
  refine ⟨_, hb, ⟨Z, startD N ds, h, _, Sa, denS_start dl, hq ds h R q, ⟨?_, ?_, ?_, ?_⟩⟩⟩
  · rintro Z' σ' σV' h' H' kk SS dd ⟨h2, sb, r⟩
    exact fin Z' .non .non h2 H' (kk.trans (Kp.sub sb)) (SS.sub sb) dnon r
  · rintro Z' d v h' H' kk SS dd ⟨h2, d2, o, r⟩
    obtain ⟨Z2, k2, S2, r2⟩ := out_fin o kk SS dd
    exact fin Z2 d2 v h2 H' k2 S2 r2 r
  · intro _ _ _ _ _ _ _ _ z; exact z.elim
  · intro _ _ _ _ _ _ _ _ z; exact z.elim
/-- .. with defaults -/
theorem fun_okD {x qual : Str} {st : Stmt} {f : Addr} {fd : FuncData} {N ps : List Str} {k : Nat} {fs : FSp} {dvs : List V} {kws : List (Str × V)} (F : FunD K x qual (defArgs st) (defBody st) (defScope st) dvs kws f fd) (S : FnScope N ps (defScope st)) (len : ∀ ds h R, fs ds h R → ds.length = ps.length)
    (body : ∀ (cdv : Value) (A : Around) (outer : List Env) (s : Shared) (H : Hp) (E : XK), Room k (A.deeper (envOfC qual (defScope st) s.heap.objs.size f cdv)) →
      ∃ t, SSs (cxOf CX0 P w K mg base N qual (defScope st) f cdv A outer s H E).nox (defBody st) t ∧ ∀ ds h R, fs ds h R → t (fnEnds R) (startD N ds) h) : FnOk P w K mg base CX0 (k + 1) f fd ps (spL K fs) := by
  refine F.ok (CX := CX0) S (fun vs H Q E ⟨Z, ds, h, R, Sa, dl, q, f⟩ => dl.length.symm.trans (len ds h R q)) (fun cdv A outer s H vs Q E hr ⟨Z, ds, h, R, Sa, dl, q, fin⟩ => ?_)
  obtain ⟨t, hb, hq⟩ := body cdv A outer s H E hr
  refine ⟨_, PSs.nox hb, ⟨Z, startD N ds, h, _, Sa, denS_start dl, hq ds h R q, ⟨?_, ?_, ?_, ?_⟩⟩⟩
  · rintro Z' σ' σV' h' H' kk SS dd ⟨h2, sb, r⟩
    exact fin Z' .non .non h2 H' (kk.trans (Kp.sub sb)) (SS.sub sb) dnon r
  · rintro Z' d v h' H' kk SS dd ⟨h2, d2, o, r⟩
    obtain ⟨Z2, k2, S2, r2⟩ := out_fin o kk SS dd
    exact fin Z2 d2 v h2 H' k2 S2 r2 r
  · intro _ _ _ _ _ _ _ _ z; exact z.elim
  · intro _ _ _ _ _ _ _ _ z; exact z.elim

/-- all parameters by position -/
theorem cl_of {x qual : Str} {st : Stmt} {f : Addr} {fd : FuncData} {ps : List Str} {k : Nat} {fs : FSp} (F : Fun K x qual st f fd) (G : FnOk P w K mg base CX0 k f fd ps (spL K fs)) (len : ∀ ds h R, fs ds h R → ds.length = ps.length)
    (h : ∀ (kV doc pm : Value) (an : Option Addr) (cdv ct : Value) (us : List Value), us.length = ps.length → bindArgs (PySem.W.fnOf x qual (defArgs st) (defBody st) (defScope st) .none kV doc pm an cdv ct) ⟨us, []⟩ = pure (ps.zip us)) : Cl P w K mg base k f ps.length [] fs := by
  have B := F.binds h
  refine ⟨⟨fd, ps, _, fun us _ => us, fun vs _ => vs, G, ⟨fun s us ws X l1 l2 => ?_, fun r _ => r⟩, fun vs zs H Q l1 l2 q => ?_⟩, F.kp, fun ds h R q => len ds h R q⟩
  · have := B s us X (by rw [List.append_nil]; exact l1)
    rw [List.append_nil] at this
    have e : ([] : List Str).zip ws = [] := rfl
    rw [e]; exact this
  · have : zs = [] := List.length_eq_zero_iff.mp l2
    rw [this, List.append_nil] at q
    exact q
/-- some parameters by keywords: us the values by position, ws those of the keywords ks; g puts them in order -/
theorem cl_kw {x qual : Str} {st : Stmt} {f : Addr} {fd : FuncData} {ps ks : List Str} {k n : Nat} {fs fs' : FSp} (F : Fun K x qual st f fd) (G : FnOk P w K mg base CX0 k f fd ps (spL K fs)) (g : {α : Type} → List α → List α → List α)
    (hg : ∀ {Z : Hp} {ds es : List D} {vs zs : List V}, ds.length = n → es.length = ks.length → DenL K Z ds vs → DenL K Z es zs → DenL K Z (g ds es) (g vs zs))
    (hv : ∀ {vs : List V} {us : List Value} {zs : List V} {ws : List Value}, Vals vs us → Vals zs ws → Vals (g vs zs) (g us ws))
    (h : ∀ (kV doc pm : Value) (an : Option Addr) (cdv ct : Value) (us ws : List Value), us.length = n → ws.length = ks.length → bindArgs (PySem.W.fnOf x qual (defArgs st) (defBody st) (defScope st) .none kV doc pm an cdv ct) ⟨us, ks.zip ws⟩ = pure (ps.zip (g us ws)))
    (len : ∀ ds h R, fs' ds h R → ds.length = n + ks.length) (hf : ∀ ds es h R, ds.length = n → es.length = ks.length → fs' (ds ++ es) h R → fs (g ds es) h R) : Cl P w K mg base k f n ks fs' := by
  obtain ⟨oc, od, kV, doc, pm, an, cdv, ct, osl, rfl, lk, hcd⟩ := F.ex
  refine ⟨⟨_, ps, _, g, g, G, ⟨fun s us ws X l1 l2 => .of_eq (h kV doc pm an cdv ct us ws l1 l2), hv⟩, fun vs zs H Q l1 l2 q => ?_⟩, F.kp, len⟩
  obtain ⟨Z, ds, h, R, Sa, dl, q, fin⟩ := q
  have hl := len ds h R q
  have e1 : ds.take n ++ ds.drop n = ds := List.take_append_drop n ds
  have l3 : (ds.take n).length = n := by rw [List.length_take]; omega
  have l4 : (ds.drop n).length = ks.length := by rw [List.length_drop]; omega
  have d1 := dl.take n
  have d2 := dl.drop n
  rw [List.take_left' l1] at d1
  rw [List.drop_left' l1] at d2
  rw [← e1] at q
  exact ⟨Z, g (ds.take n) (ds.drop n), h, R, Sa, hg l3 l4 d1 d2, hf _ _ _ _ l3 l4 q, fin⟩
end

/-! ### argument lists -/
def tNil : TAD := fun _ h Q => Q [] h
def tCons (te : TED) (tr : TAD) : TAD := fun σ h Q => te σ h fun x h1 => tr σ h1 fun xs h2 => Q (x :: xs) h2
section
variable {X : Cx} {e : Expr} {es : List Expr} {te : TED} {t : TAD}
theorem lA_cons {K : PySem.W.Frag} {σV : L2.St} {H : Hp} {Q : List V → Hp → Prop} (q : lA K (T3.tCons te t) σV H Q) : L2.tCons (lE K te) (lA K t) σV H Q := by
  obtain ⟨Z, σ, h, R, S, dS, q, f⟩ := q
  refine ⟨Z, σ, h, _, S, dS, q, fun Z1 d v h1 H1 k1 S1 r1 q1 => ⟨Z1, σ, h1, _, S1, dS.mono k1.same, q1, fun Z2 ds vs h2 H2 k2 S2 r2 q2 => f Z2 (d :: ds) (v :: vs) h2 H2 (k1.trans k2) S2 (denL_cons (r1.mono k2.same) r2) q2⟩⟩
theorem sa_nil : SA X [] T3.tNil := pa_nil.imp fun σV H Q ⟨Z, σ, h, R, S, dS, q, f⟩ => f Z [] [] h H Kp.refl S denL_nil q
theorem sa_cons (ha : SE X e te) (hr : SA X es t) (hs : starEach (e :: es) X.env = (false, eval e X.env) :: starEach es X.env := by rfl) : SA X (e :: es) (T3.tCons te t) := (pa_cons ha hr hs).imp fun _ _ _ q => lA_cons q
def SK (X : Cx) (kws : List Keyword) (t : TAD) : Prop := PK X kws (lA X.K t)
theorem sk_nil : SK X [] T3.tNil := ⟨fun pos pins s σ H Q I q => pk_nil.run pos pins s σ H Q I (by
  obtain ⟨Z, σ, h, R, S, dS, q, f⟩ := q
  exact f Z [] [] h H Kp.refl S denL_nil q)⟩
theorem sk_cons {nm : Option Str} {kpos : Pos} {kws : List Keyword} (ha : SE X e te) (hr : SK X kws t) : SK X (⟨nm, e, kpos⟩ :: kws) (T3.tCons te t) := ⟨fun pos pins s σ H Q I q => (pk_cons ha hr).run pos pins s σ H Q I (lA_cons q)⟩
end
end T3

/-! T3: calls, instances. -/
namespace T3
open PySem PySem.Spec L2
open PyProof.Rows hiding St

section
variable {X : Cx} {k n : Nat} {f C : Addr} {ks : List Str} {fs : FSp} {x m : Str} {p pos apos : Pos} {e o : Expr} {es : List Expr} {kws : List Keyword} {ta tk : TAD} {to te : TED}
theorem Cl.run {pins : List (Addr × Obj)} {σ : L2.St} {H : Hp} {s : Shared} {Q : VK} {us ws : List Value} {vs zs : List V} (c : Cl X.prog X.w X.K X.mg X.base k f n ks fs) (hr : Room k X.A) (I : Inv X pins σ H s) (r : Vals vs us) (rz : Vals zs ws)
    (l1 : vs.length = n) (l2 : zs.length = ks.length) (h : spL X.K fs (vs ++ zs) H Q E0) : wpAny (model X.prog X.w) X.A (call (.ref f) us (ks.zip ws)) (EP X pins σ Q) X.xe s := by
  obtain ⟨fd, ps, sp, g, gV, F, B, hs⟩ := c.ex
  exact run_fnN (CX := CX0) (E := E0) F hr B pass0 I r rz l1 l2 (hs vs zs H Q l1 l2 h)

/-- what a call asks, by trees -/
theorem spL_go {K : PySem.W.Frag} {Z H Z1 H1 : Hp} {h h1 : AH} {R : QD} {Q : VK} {ds : List D} {vs : List V} (kk : Kp Z h H Z1 h1 H1) (S : Sat K Z1 h1 H1) (dl : DenL K Z1 ds vs) (q : fs ds h1 R) (f : ∀ Z' d v h' H', Kp Z h H Z' h' H' → Sat K Z' h' H' → Den K Z' d v → R d h' → Q v H') {E : XK} : spL K fs vs H1 Q E :=
  ⟨Z1, ds, h1, R, S, dl, q, fun Z' d v h' H' x => f Z' d v h' H' (kk.trans x)⟩
def tCall (fs : FSp) (ta : TAD) : TED := fun σ h Q => ta σ h fun ds h1 => fs ds h1 Q
theorem se_call (c : Cl X.prog X.w X.K X.mg X.base k f n [] fs) {j : Nat} (hr : Room j X.A) (hk : k ≤ j) (hg : Gl X x) (hm : X.mg x = some (.ref f)) (ha : SA X (e :: es) ta) (hdb : (x == ("__debug__" : Str)) = false := by decide)
    (he : starEach (e :: es) X.env = (false, eval e X.env) :: starEach es X.env := by rfl) (hpl : (backTo pos (starEach es X.env)).any (·.1) = false := by rfl) : SE X (.Call (.Name x p) (e :: es) [] pos) (T3.tCall fs ta) := by
  refine ⟨fun pins s σV H Q I q => ?_⟩
  obtain ⟨Z, σ, h, R, S, dS, q, fin⟩ := q
  refine wpAny_Call_Name_kw (ld_glob I hg hm ?_ hdb)
  refine PySem.W.callWith_K (h₀ := X.base) I.ok.mod.kin c.kp (thn (ha.run pos pins s σV H (fun vs H1 => spL X.K fs (vs ++ []) H1 Q E0 ∧ vs.length = n) I ⟨Z, σ, h, _, S, dS, q, fun Z1 ds vs h1 H1 k1 S1 r1 q1 => ⟨?_, ?_⟩⟩) fun us s1 ⟨vs, H1, I1, r, q1, l1⟩ => ⟨I1.kIn, ?_⟩) he hpl
  · rw [List.append_nil]; exact spL_go k1 S1 r1 q1 fin
  · rw [← r1.length]; exact c.len ds h1 _ q1
  · exact c.run (ws := []) (hr.mono hk) I1 r .nil l1 rfl q1
def tCallK (n : Nat) (fs : FSp) (ta tk : TAD) : TED := fun σ h Q => ta σ h fun ds h1 => tk σ h1 fun es h2 => ds.length = n ∧ fs (ds ++ es) h2 Q
theorem se_callK0 (c : Cl X.prog X.w X.K X.mg X.base k f 0 ks fs) {j : Nat} (hr : Room j X.A) (hk : k ≤ j) (hg : Gl X x) (hm : X.mg x = some (.ref f)) (hkw : SK X kws tk)
    (hall : (backToKw pos (keywordEach kws X.env)).all (·.1.isSome) = true := by rfl) (hks : (backToKw pos (keywordEach kws X.env)).filterMap (·.1) = ks := by rfl) (hdb : (x == ("__debug__" : Str)) = false := by decide)
    (hpl : ((backTo pos (starEach [] X.env)).any (·.1) || (backToKw pos (keywordEach kws X.env)).any (·.1.isNone)) = false := by rfl) : SE X (.Call (.Name x p) [] kws pos) (T3.tCall fs tk) := by
  refine ⟨fun pins s σV H Q I q => ?_⟩
  obtain ⟨Z, σ, h, R, S, dS, q, fin⟩ := q
  refine wpAny_Call_Name_kw (ld_glob I hg hm ?_ hdb)
  refine PySem.W.callWith_KW0 (h₀ := X.base) I.ok.mod.kin c.kp hall ?_ hpl
  refine thn (hkw.run pos pins s σV H (fun zs H1 => spL X.K fs ([] ++ zs) H1 Q E0 ∧ zs.length = ks.length) I ⟨Z, σ, h, _, S, dS, q, fun Z1 ds vs h1 H1 k1 S1 r1 q1 => ⟨spL_go k1 S1 r1 q1 fin, ?_⟩⟩) fun ws s2 ⟨zs, H2, I2, rz, q2, l2⟩ => ⟨I2.kIn, ?_⟩
  · rw [← r1.length]; have := c.len ds h1 _ q1; omega
  · rw [hks]; exact c.run (us := []) (vs := []) (hr.mono hk) I2 .nil rz rfl l2 q2
theorem se_callK (c : Cl X.prog X.w X.K X.mg X.base k f n ks fs) {j : Nat} (hr : Room j X.A) (hk : k ≤ j) (hg : Gl X x) (hm : X.mg x = some (.ref f)) (ha : SA X (e :: es) ta) (hkw : SK X kws tk)
    (hall : (backToKw pos (keywordEach kws X.env)).all (·.1.isSome) = true := by rfl) (hks : (backToKw pos (keywordEach kws X.env)).filterMap (·.1) = ks := by rfl) (hdb : (x == ("__debug__" : Str)) = false := by decide)
    (he : starEach (e :: es) X.env = (false, eval e X.env) :: starEach es X.env := by rfl) (hpl : ((backTo pos (starEach (e :: es) X.env)).any (·.1) || (backToKw pos (keywordEach kws X.env)).any (·.1.isNone)) = false := by rfl) : SE X (.Call (.Name x p) (e :: es) kws pos) (T3.tCallK n fs ta tk) := by
  refine ⟨fun pins s σV H Q I q => ?_⟩
  obtain ⟨Z, σ, h, R, S, dS, q, fin⟩ := q
  refine wpAny_Call_Name_kw (ld_glob I hg hm ?_ hdb)
  refine PySem.W.callWith_KW (h₀ := X.base) I.ok.mod.kin c.kp hall (thn (ha.run pos pins s σV H (fun vs H1 => lA X.K tk σV H1 fun zs H2 => vs.length = n ∧ zs.length = ks.length ∧ spL X.K fs (vs ++ zs) H2 Q E0) I ⟨Z, σ, h, _, S, dS, q, fun Z1 ds vs h1 H1 k1 S1 r1 q1 => ⟨Z1, σ, h1, _, S1, dS.mono k1.same, q1, fun Z2 es zs h2 H2 k2 S2 r2 q2 => ?_⟩⟩) fun us s1 ⟨vs, H1, I1, r, q1⟩ => ?_) hpl he
  · have hl := c.len _ _ _ q2.2
    rw [List.length_append] at hl
    exact ⟨by rw [← r1.length]; exact q2.1, by rw [← r2.length]; omega, spL_go (k1.trans k2) S2 ((r1.mono k2.same).append r2) q2.2 fin⟩
  · refine thn (hkw.run pos pins s1 σV H1 _ I1 q1) fun ws s2 ⟨zs, H2, I2, rz, l1, l2, q2⟩ => ⟨I2.kIn, ?_⟩
    rw [hks]; exact c.run (hr.mono hk) I2 r rz l1 l2 q2

/-! ### instances -/
def insOf (h : AH) : D → Option (Addr × List (Str × D))
  | .ins C fs => some (C, fs)
  | .ref a => match h a with
    | some (.ins C fs) => some (C, fs)
    | _ => none
  | _ => none
theorem denF_lookup {K : PySem.W.Frag} {Z : Hp} {f : Str} : ∀ {fl : List (Str × D)} {vf : List (Str × V)}, DenF K Z fl vf → (∀ d, fl.lookup f = some d → ∃ v, vf.lookup f = some v ∧ Den K Z d v) ∧ (fl.lookup f = none → vf.lookup f = none)
  | [], _, q => by
    unfold DenF at q; subst q
    exact ⟨(fun d e => by cases e), fun _ => rfl⟩
  | (g, d0) :: fl, _, q => by
    unfold DenF at q
    obtain ⟨v, r, rfl, a, b⟩ := q
    obtain ⟨h1, h2⟩ := denF_lookup (f := f) b
    rw [List.lookup_cons, List.lookup_cons]
    cases hh : f == g with
    | true => exact ⟨(fun d e => by cases e; exact ⟨v, rfl, a⟩), (fun e => by cases e)⟩
    | false => exact ⟨h1, h2⟩
theorem insOf_den {K : PySem.W.Frag} {Z H : Hp} {h : AH} {d : D} {v : V} {C : Addr} {fl : List (Str × D)} (S : Sat K Z h H) (r : Den K Z d v) (e : insOf h d = some (C, fl)) : ∃ a dx vf, v = .ref a ∧ H a = some (.ins C dx vf) ∧ DenF K Z fl vf := by
  cases d with
  | ins C' fs =>
    have e : some (C', fs) = some (C, fl) := e
    cases e
    unfold Den at r
    obtain ⟨a, dx, vf, rfl, z, f⟩ := r
    exact ⟨a, dx, vf, rfl, S.zs _ _ z, f⟩
  | ref a =>
    obtain rfl := den_ref r
    unfold insOf at e
    simp only at e
    split at e
    · next C' fs' ea =>
      cases e
      obtain ⟨u, hu, dx, vf, rfl, df⟩ := S.hs a _ ea
      exact ⟨a, dx, vf, rfl, hu, df⟩
    · cases e
  | _ => exact absurd (show (none : Option (Addr × List (Str × D))) = some (C, fl) from e) (fun z => by cases z)
/-- o.f -/
def tFld (C : Addr) (f : Str) (to : TED) : TED := fun σ h Q => to σ h fun x h1 => match insOf h1 x with
  | some (C', fl) => C' = C ∧ match fl.lookup f with
    | some d => Q d h1
    | none => False
  | none => False
theorem se_fld (cl : Cls X.K C) (na : NoAttr X.K C x) (he : SE X e te) (hb : attributeBase e x X.env (eval e X.env) = eval e X.env) : SE X (.Attribute e x pos) (T3.tFld C x te) :=
  (pe_fld he hb).imp fun σV H Q ⟨Z, σ, h, R, S, dS, q, fin⟩ => ⟨Z, σ, h, _, S, dS, q, fun Z1 d v h1 H1 k1 S1 r1 q1 => by
    split at q1
    · next C' fl ei =>
      obtain ⟨rfl, q1⟩ := q1
      obtain ⟨a, dx, vf, rfl, ea, df⟩ := insOf_den S1 r1 ei
      split at q1
      · next d1 el =>
        obtain ⟨v1, e1, e2⟩ := (denF_lookup df).1 d1 el
        exact ⟨a, C', dx, vf, v1, rfl, ea, cl, na, e1, fin Z1 d1 v1 h1 H1 k1 S1 e2 q1⟩
      · exact q1.elim
    · exact q1.elim⟩
def putD (f : Str) (v : D) : List (Str × D) → List (Str × D)
  | [] => [(f, v)]
  | (g, x) :: r => if g = f then (g, v) :: r else (g, x) :: putD f v r
theorem denF_put {K : PySem.W.Frag} {Z : Hp} {f : Str} {d : D} {v : V} (r : Den K Z d v) : ∀ {fl : List (Str × D)} {vf : List (Str × V)}, DenF K Z fl vf → DenF K Z (putD f d fl) (putF f v vf)
  | [], _, q => by
    unfold DenF at q; subst q
    show DenF K Z [(f, d)] [(f, v)]
    unfold DenF; exact ⟨v, [], rfl, r, by unfold DenF; rfl⟩
  | (g, d0) :: fl, _, q => by
    unfold DenF at q
    obtain ⟨v0, r0, rfl, a, b⟩ := q
    unfold putD putF
    split
    · unfold DenF; exact ⟨v, r0, rfl, r, b⟩
    · unfold DenF; exact ⟨v0, _, rfl, a, denF_put r b⟩
theorem denF_len {K : PySem.W.Frag} {Z : Hp} : ∀ {fl : List (Str × D)} {vf : List (Str × V)}, DenF K Z fl vf → fl.length = vf.length
  | [], _, q => by unfold DenF at q; subst q; rfl
  | (g, d0) :: fl, _, q => by
    unfold DenF at q
    obtain ⟨v0, r0, rfl, a, b⟩ := q
    rw [List.length_cons, List.length_cons, denF_len b]
/-- o.f = e, o an instance on its way -/
def sFld (C : Addr) (f : Str) (to tv : TED) : TSD := fun E σ h => tv σ h fun y h1 => to σ h1 fun x h2 => match x with
  | .ref a => match h2 a with
    | some (.ins C' fl) => C' = C ∧ fl.length < 1000 ∧ E.nx σ (ud h2 a (.ins C (putD f y fl)))
    | _ => False
  | _ => False
theorem ss_fld {value : Expr} {tv : TED} {pos' : Pos} (cl : Cls X.K C) (na : NoAttr X.K C x) (ha : SE X o to) (hv : SE X value tv) (hs : swapsWith value (some (.Attribute o x pos')) pos.line X.env = pure false := by rfl) : SS X (.Assign [.Attribute o x pos'] value pos) (T3.sFld C x to tv) :=
  (ps_fld ha hv hs).imp fun E σV H ⟨Z, σ, h, R, S, dS, q, fin⟩ => ⟨Z, σ, h, _, S, dS, q, fun Z1 d v h1 H1 k1 S1 r1 q1 => ⟨Z1, σ, h1, _, S1, dS.mono k1.same, q1, fun Z2 d2 v2 h2 H2 k2 S2 r2 q2 => by
    cases d2 <;> first | exact q2.elim | skip
    next a =>
      obtain rfl := den_ref r2
      simp only at q2
      split at q2
      · next C' fl ea =>
        obtain ⟨rfl, hl, q2⟩ := q2
        obtain ⟨u, hu, dx, vf, rfl, df⟩ := S2.hs a _ ea
        refine ⟨a, C', dx, vf, rfl, hu, cl, na, by rw [← denF_len df]; exact hl, ?_⟩
        refine fin.nx Z2 σ σV _ _ ((k1.trans k2).trans (Kp.write ea)) (S2.put (o := .ins C' (putD x d fl)) (S2.ds a _ ea) ⟨dx, _, rfl, denF_put (r1.mono k2.same) df⟩) (dS.mono (k1.trans k2).same) q2
      · exact q2.elim⟩⟩

/-- o.m(..) -/
def tMeth (C : Addr) (m : Str) (fs : FSp) (to : TED) (ta : TAD) : TED := fun σ h Q => to σ h fun x h1 => match insOf h1 x with
  | some (C', fl) => C' = C ∧ fl.lookup m = none ∧ ta σ h1 fun ds h2 => fs (x :: ds) h2 Q
  | none => False
theorem meth_core {σV : L2.St} {H : Hp} {Q : VK} {Z : Hp} {σ : SD} {h : AH} {R : QD} (S : Sat X.K Z h H) (dS : DenS X.K Z σ σV) (q : T3.tMeth C m fs to ta σ h R)
    (fin : ∀ Z' d v h' H', Kp Z h H Z' h' H' → Sat X.K Z' h' H' → Den X.K Z' d v → R d h' → Q v H') :
    lE X.K to σV H (fun x H1 => ∃ a dx vf, x = .ref a ∧ H1 a = some (.ins C dx vf) ∧ vf.lookup m = none ∧ lA X.K ta σV H1 fun vs H2 => spL X.K fs (.ref a :: vs) H2 Q E0 ∧ ∃ ds h R, ds.length = vs.length + 1 ∧ fs ds h R) :=
  ⟨Z, σ, h, _, S, dS, q, fun Z1 d v h1 H1 k1 S1 r1 q1 => by
    split at q1
    · next C' fl ei =>
      obtain ⟨rfl, lm, q1⟩ := q1
      obtain ⟨a, dx, vf, rfl, ea, df⟩ := insOf_den S1 r1 ei
      exact ⟨a, dx, vf, rfl, ea, (denF_lookup df).2 lm, Z1, σ, h1, _, S1, dS.mono k1.same, q1, fun Z2 ds vs h2 H2 k2 S2 r2 q2 => ⟨spL_go (k1.trans k2) S2 (denL_cons (r1.mono k2.same) r2) q2 fin, d :: ds, h2, R, by rw [List.length_cons, r2.length], q2⟩⟩
    · exact q1.elim⟩
theorem se_meth {pl : Sem Bool} (cl : Cls X.K C) (hm : Meth X.K C m f) (c : Cl X.prog X.w X.K X.mg X.base k f n [] fs) {j : Nat} (hr : Room j X.A) (hk : k ≤ j) (he : SE X o to) (ha : SA X (e :: es) ta)
    (hst : starEach (e :: es) X.env = (false, eval e X.env) :: starEach es X.env := by rfl) (hpl : (backTo pos (starEach es X.env)).any (·.1) = false := by rfl)
    (ht : eval (.Call (.Attribute o m apos) (e :: es) [] pos) X.env = (do
      let ov ← eval o X.env
      standAt apos.atName
      let (f, first) ← holding [ov] (getMethod ov m pl)
      callWith pos f first (backTo pos (starEach (e :: es) X.env)) (backToKw pos (keywordEach [] X.env))) := by rfl) : SE X (.Call (.Attribute o m apos) (e :: es) [] pos) (T3.tMeth C m fs to ta) := by
  refine ⟨fun pins s σV H Q I q => ?_⟩
  obtain ⟨Z, σ, h, R, S, dS, q, fin⟩ := q
  refine PySem.W.methodCall_KW (pl := pl) (thn (he.run pins s σV H _ I (meth_core (ta := ta) S dS q fin)) fun u s1 ⟨x, H1, I1, rx, a, dx, vf, ex, ea, l, q⟩ => ?_) ht
  subst ex
  obtain rfl : u = Value.ref a := rx
  refine getmeth_ok I1 ea cl hm l ?_
  refine PySem.W.callWith_K (first := [.ref a]) (h₀ := X.base) I.ok.mod.kin hm.kp (thn (ha.run pos pins s1 σV H1 _ I1 q) fun us s2 ⟨vs, H2, I2, r, q2, ds, h2, R2, l2, qq⟩ => ⟨I2.kIn, ?_⟩) hst hpl
  have := c.len ds h2 R2 qq
  exact c.run (us := .ref a :: us) (vs := .ref a :: vs) (ws := []) (zs := []) (hr.mono hk) I2 (.cons rfl r) .nil (by rw [List.length_cons]; rw [l2] at this; exact this) rfl (by rw [List.append_nil]; exact q2)
theorem se_meth0 {pl : Sem Bool} (cl : Cls X.K C) (hm : Meth X.K C m f) (c : Cl X.prog X.w X.K X.mg X.base k f 1 [] fs) {j : Nat} (hr : Room j X.A) (hk : k ≤ j) (he : SE X o to)
    (ht : eval (.Call (.Attribute o m apos) [] [] pos) X.env = (do
      let ov ← eval o X.env
      standAt apos.atName
      let (f, first) ← holding [ov] (getMethod ov m pl)
      callWith pos f first (backTo pos (starEach [] X.env)) (backToKw pos (keywordEach [] X.env))) := by rfl) : SE X (.Call (.Attribute o m apos) [] [] pos) (T3.tMeth C m fs to T3.tNil) := by
  refine ⟨fun pins s σV H Q I q => ?_⟩
  obtain ⟨Z, σ, h, R, S, dS, q, fin⟩ := q
  refine PySem.W.methodCall_KW (pl := pl) (thn (he.run pins s σV H _ I (meth_core (ta := T3.tNil) S dS q fin)) fun u s1 ⟨x, H1, I1, rx, a, dx, vf, ex, ea, l, q⟩ => ?_) ht
  subst ex
  obtain rfl : u = Value.ref a := rx
  refine getmeth_ok I1 ea cl hm l ?_
  obtain ⟨Z1, σ1, h1, R1, S1, dS1, q1, f1⟩ := q
  have := (f1 Z1 [] [] h1 H1 Kp.refl S1 denL_nil q1).1
  exact PySem.W.callWith_K0 (first := [.ref a]) I1.kIn hm.kp (c.run (us := [.ref a]) (vs := [.ref a]) (ws := []) (zs := []) (hr.mono hk) I1 (.cons rfl .nil) .nil rfl rfl this)
theorem se_methK0 {pl : Sem Bool} (cl : Cls X.K C) (hm : Meth X.K C m f) (c : Cl X.prog X.w X.K X.mg X.base k f 1 ks fs) {j : Nat} (hr : Room j X.A) (hk : k ≤ j) (he : SE X o to) (hkw : SK X kws tk)
    (hall : (backToKw pos (keywordEach kws X.env)).all (·.1.isSome) = true := by rfl) (hks : (backToKw pos (keywordEach kws X.env)).filterMap (·.1) = ks := by rfl)
    (hpl : ((backTo pos (starEach [] X.env)).any (·.1) || (backToKw pos (keywordEach kws X.env)).any (·.1.isNone)) = false := by rfl)
    (ht : eval (.Call (.Attribute o m apos) [] kws pos) X.env = (do
      let ov ← eval o X.env
      standAt apos.atName
      let (f, first) ← holding [ov] (getMethod ov m pl)
      callWith pos f first (backTo pos (starEach [] X.env)) (backToKw pos (keywordEach kws X.env))) := by rfl) : SE X (.Call (.Attribute o m apos) [] kws pos) (T3.tMeth C m fs to tk) := by
  refine ⟨fun pins s σV H Q I q => ?_⟩
  obtain ⟨Z, σ, h, R, S, dS, q, fin⟩ := q
  refine PySem.W.methodCall_KW (pl := pl) (thn (he.run pins s σV H _ I (meth_core (ta := tk) S dS q fin)) fun u s1 ⟨x, H1, I1, rx, a, dx, vf, ex, ea, l, q⟩ => ?_) ht
  subst ex
  obtain rfl : u = Value.ref a := rx
  refine getmeth_ok I1 ea cl hm l ?_
  refine PySem.W.callWith_KW0 (first := [.ref a]) (h₀ := X.base) I.ok.mod.kin hm.kp hall ?_ hpl
  refine thn (hkw.run pos pins s1 σV H1 _ I1 q) fun ws s2 ⟨zs, H2, I2, rz, q2, ds, h2, R2, l2, qq⟩ => ⟨I2.kIn, ?_⟩
  rw [hks]
  have := c.len ds h2 R2 qq
  exact c.run (us := [.ref a]) (vs := [.ref a]) (hr.mono hk) I2 (.cons rfl .nil) rz rfl (by omega) q2

/-- C(..): made, then frozen -/
def tMake (C : Addr) (fs : FSp) (ta : TAD) : TED := fun σ h Q => ta σ h fun ds h1 => ∀ x, h1 x = none → fs (.ref x :: ds) (ud h1 x (.ins C [])) fun d h2 => d = .non ∧ match h2 x with
  | some (.ins C' fl) => C' = C ∧ Q (.ins C fl) (er h2 x)
  | _ => False
theorem make_go {K : PySem.W.Frag} {Z H Z1 H1 : Hp} {h h1 : AH} {R : QD} {Q : VK} {ds : List D} {vs : List V} {x dx : Addr} (kk : Kp Z h H Z1 h1 H1) (S : Sat K Z1 h1 H1) (dl : DenL K Z1 ds vs)
    (hx : H1 x = none) (hdx : H1 dx = none) (hne : dx ≠ x) (q : ∀ x, h1 x = none → fs (.ref x :: ds) (ud h1 x (.ins C [])) fun d h2 => d = .non ∧ match h2 x with
      | some (.ins C' fl) => C' = C ∧ R (.ins C fl) (er h2 x)
      | _ => False)
    (fin : ∀ Z' d v h' H', Kp Z h H Z' h' H' → Sat K Z' h' H' → Den K Z' d v → R d h' → Q v H') : spL K fs (.ref x :: vs) (upd (upd H1 dx (.own x)) x (.ins C dx [])) (fun v H2 => v = .non ∧ Q (.ref x) H2) E0 := by
  obtain ⟨nh, nZ⟩ := S.fresh hx
  obtain ⟨nh2, nZ2⟩ := S.fresh hdx
  have Sd : Sat K Z1 h1 (upd H1 dx (.own x)) := S.at nZ2 nh2
  have kd : Kp Z1 h1 H1 Z1 h1 (upd H1 dx (.own x)) := ⟨Same.refl _, fun a u e n => by
    rw [upd_ne (fun z => by rw [z, hdx] at e; cases e)]; exact ⟨e, n, id⟩⟩
  have hx' : upd H1 dx (.own x) x = none := by rw [upd_ne hne.symm]; exact hx
  have S2 : Sat K Z1 (ud h1 x (.ins C [])) (upd (upd H1 dx (.own x)) x (.ins C dx [])) := Sd.new hx' ⟨dx, [], rfl, by unfold DenF; rfl⟩
  have k2 : Kp Z1 h1 H1 Z1 (ud h1 x (.ins C [])) (upd (upd H1 dx (.own x)) x (.ins C dx [])) := kd.trans (Kp.new hx')
  refine ⟨Z1, .ref x :: ds, _, _, S2, denL_cons (dref x) dl, q x nh, fun Z3 d v h3 H3 k3 S3 r3 q3 => ?_⟩
  obtain ⟨rfl, q3⟩ := q3
  refine ⟨den_non r3, ?_⟩
  split at q3
  · next C' fl ex =>
    obtain ⟨rfl, q3⟩ := q3
    obtain ⟨u, hu, dx', vf, rfl, df⟩ := S3.hs x _ ex
    obtain ⟨e4, S4⟩ := S3.freeze ex hu
    exact fin _ (.ins C' fl) (.ref x) _ H3 (((kk.trans k2).trans k3).trans (Kp.freeze ex (S3.ds x _ ex))) S4 (by unfold Den; exact ⟨x, dx', vf, rfl, upd_same, DenF.mono e4 df⟩) q3
  · exact q3.elim
theorem se_make (M : Mk X.K C f) (c : Cl X.prog X.w X.K X.mg X.base k f n [] fs) {j : Nat} (hr : Room j X.A) (hk : k + 1 ≤ j) (hg : Gl X x) (hm : X.mg x = some (.ref C)) (ha : SA X (e :: es) ta) (hdb : (x == ("__debug__" : Str)) = false := by decide)
    (he : starEach (e :: es) X.env = (false, eval e X.env) :: starEach es X.env := by rfl) (hpl : (backTo pos (starEach es X.env)).any (·.1) = false := by rfl) : SE X (.Call (.Name x p) (e :: es) [] pos) (T3.tMake C fs ta) := by
  refine ⟨fun pins s σV H Q I q => ?_⟩
  obtain ⟨Z, σ, h, R, S, dS, q, fin⟩ := q
  obtain ⟨fd, ps, sp, g, gV, F, B, hs⟩ := c.ex
  refine wpAny_Call_Name_kw (ld_glob I hg hm ?_ hdb)
  refine PySem.W.callWith_K (h₀ := X.base) I.ok.mod.kin M.kp (thn (ha.run pos pins s σV H (fun vs H1 => ∀ x dx, H1 x = none → H1 dx = none → dx ≠ x → spL X.K fs (.ref x :: vs) (upd (upd H1 dx (.own x)) x (.ins C dx [])) (fun v H2 => v = .non ∧ Q (.ref x) H2) E0) I
    ⟨Z, σ, h, _, S, dS, q, fun Z1 ds vs h1 H1 k1 S1 r1 q1 => fun x dx hx hdx hne => make_go k1 S1 r1 hx hdx hne q1 fin⟩) fun us s1 ⟨vs, H1, I1, r, q1⟩ => ⟨I1.kIn, ?_⟩) he hpl
  · have l1 : vs.length + 1 = n := by
      obtain ⟨Z1, ds, h1, R1, S1, dl, qq, _⟩ := q1 (s1.heap.objs.size + 1) s1.heap.objs.size (I1.hok.fresh (Nat.le_succ _)) (I1.hok.fresh (Nat.le_refl _)) (Nat.ne_of_lt (Nat.lt_succ_self _))
      have := c.len _ _ _ qq
      rw [dl.length] at this; exact this
    subst l1
    exact run_makeK (CX := CX0) (E := E0) (ws := []) (zs := []) M F (hr.mono hk) B pass0 I1 r .nil rfl rfl fun x dx hx hdx hne => by
      refine hs _ [] _ _ rfl rfl ?_
      rw [List.append_nil]; exact q1 x dx hx hdx hne
theorem se_makeK0 (M : Mk X.K C f) (c : Cl X.prog X.w X.K X.mg X.base k f 1 ks fs) {j : Nat} (hr : Room j X.A) (hk : k + 1 ≤ j) (hg : Gl X x) (hm : X.mg x = some (.ref C)) (hkw : SK X kws tk)
    (hall : (backToKw pos (keywordEach kws X.env)).all (·.1.isSome) = true := by rfl) (hks : (backToKw pos (keywordEach kws X.env)).filterMap (·.1) = ks := by rfl) (hdb : (x == ("__debug__" : Str)) = false := by decide)
    (hpl : ((backTo pos (starEach [] X.env)).any (·.1) || (backToKw pos (keywordEach kws X.env)).any (·.1.isNone)) = false := by rfl) : SE X (.Call (.Name x p) [] kws pos) (T3.tMake C fs tk) := by
  refine ⟨fun pins s σV H Q I q => ?_⟩
  obtain ⟨Z, σ, h, R, S, dS, q, fin⟩ := q
  obtain ⟨fd, ps, sp, g, gV, F, B, hs⟩ := c.ex
  refine wpAny_Call_Name_kw (ld_glob I hg hm ?_ hdb)
  refine PySem.W.callWith_KW0 (h₀ := X.base) I.ok.mod.kin M.kp hall ?_ hpl
  refine thn (hkw.run pos pins s σV H (fun zs H1 => ∀ x dx, H1 x = none → H1 dx = none → dx ≠ x → spL X.K fs (.ref x :: zs) (upd (upd H1 dx (.own x)) x (.ins C dx [])) (fun v H2 => v = .non ∧ Q (.ref x) H2) E0) I
    ⟨Z, σ, h, _, S, dS, q, fun Z1 ds vs h1 H1 k1 S1 r1 q1 => fun x dx hx hdx hne => make_go k1 S1 r1 hx hdx hne q1 fin⟩) fun ws s2 ⟨zs, H1, I1, rz, q1⟩ => ⟨I1.kIn, ?_⟩
  rw [hks]
  have l2 : zs.length = ks.length := by
    obtain ⟨Z1, ds, h1, R1, S1, dl, qq, _⟩ := q1 (s2.heap.objs.size + 1) s2.heap.objs.size (I1.hok.fresh (Nat.le_succ _)) (I1.hok.fresh (Nat.le_refl _)) (Nat.ne_of_lt (Nat.lt_succ_self _))
    have := c.len _ _ _ qq
    rw [dl.length, List.length_cons] at this; omega
  exact run_makeK (CX := CX0) (E := E0) (n := 0) (us := []) (vs := []) M F (hr.mono hk) B pass0 I1 .nil rz rfl l2 fun x dx hx hdx hne => hs _ zs _ _ rfl l2 (q1 x dx hx hdx hne)
end
end T3

/-! T3: operators, subscripts, slices. -/
namespace T3
open PySem PySem.Spec L2
open PyProof.Rows hiding St

/-- the items of a list or tuple -/
def seqOf (h : AH) : D → Option (List D)
  | .tup l => some l
  | .lst l => some l
  | .lok l => some l
  | .ref a => match h a with
    | some (.lst l) => some l
    | _ => none
  | _ => none
/-- the items of a list of one's own -/
def lstOf (h : AH) : D → Option (List D)
  | .lst l => some l
  | .ref a => match h a with
    | some (.lst l) => some l
    | _ => none
  | _ => none
section
variable {K : PySem.W.Frag} {Z H : Hp} {h : AH} {d : D} {v : V} {l : List D}
theorem Sat.sqt (S : Sat K Z h H) {a : Addr} {vs : List V} (q : SqT K Z a vs) : SqT K H a vs := Same.sqt S.zs q
theorem lstOf_den (S : Sat K Z h H) (r : Den K Z d v) (e : lstOf h d = some l) : ∃ a vs, v = .ref a ∧ H a = some (.lst vs) ∧ DenL K Z l vs := by
  cases d with
  | lst m =>
    have e : some m = some l := e
    cases e
    unfold Den at r
    obtain ⟨a, vs, rfl, z, f⟩ := r
    exact ⟨a, vs, rfl, S.zs _ _ z, f⟩
  | ref a =>
    obtain rfl := den_ref r
    unfold lstOf at e
    simp only at e
    split at e
    · next m ea =>
      cases e
      obtain ⟨u, hu, vs, rfl, df⟩ := S.hs a _ ea
      exact ⟨a, vs, rfl, hu, df⟩
    · cases e
  | _ => exact absurd (show (none : Option (List D)) = some l from e) (fun z => by cases z)
theorem seqOf_den (S : Sat K Z h H) (r : Den K Z d v) (e : seqOf h d = some l) : ∃ a vs, v = .ref a ∧ DenL K Z l vs ∧ (SqL K H a vs ∨ SqT K H a vs) := by
  cases d with
  | tup m =>
    have e : some m = some l := e
    cases e
    unfold Den at r
    obtain ⟨a, vs, rfl, z, f⟩ := r
    exact ⟨a, vs, rfl, f, .inr (S.sqt z)⟩
  | lst m =>
    have e : some m = some l := e
    cases e
    unfold Den at r
    obtain ⟨a, vs, rfl, z, f⟩ := r
    exact ⟨a, vs, rfl, f, .inl (.of (S.zs _ _ z))⟩
  | lok m =>
    have e : some m = some l := e
    cases e
    unfold Den at r
    obtain ⟨a, vs, rfl, z, f⟩ := r
    exact ⟨a, vs, rfl, f, .inl (Same.seq S.zs z)⟩
  | ref a =>
    obtain ⟨b, vs, e1, e2, e3⟩ := lstOf_den S r (show lstOf h (.ref a) = some l from e)
    exact ⟨b, vs, e1, e3, .inl (.of e2)⟩
  | _ => exact absurd (show (none : Option (List D)) = some l from e) (fun z => by cases z)
/-- a new tuple -/
theorem new_tup {R : QD} {Q : VK} {vs : List V} {p : Addr} (S : Sat K Z h H) (dl : DenL K Z l vs) (hp : H p = none) (q : R (.tup l) h) (f : ∀ Z' d v h' H', Kp Z h H Z' h' H' → Sat K Z' h' H' → Den K Z' d v → R d h' → Q v H') : Q (.ref p) (upd H p (.tup vs)) := by
  obtain ⟨e1, S1⟩ := S.newZ (u := .tup vs) hp
  exact f _ (.tup l) (.ref p) h _ (Kp.newZ hp (S.fresh hp).2) S1 (by unfold Den; exact ⟨p, vs, rfl, .of upd_same, dl.mono e1⟩) q
/-- a new frozen list -/
theorem new_lst {R : QD} {Q : VK} {vs : List V} {p : Addr} (S : Sat K Z h H) (dl : DenL K Z l vs) (hp : H p = none) (q : R (.lst l) h) (f : ∀ Z' d v h' H', Kp Z h H Z' h' H' → Sat K Z' h' H' → Den K Z' d v → R d h' → Q v H') : Q (.ref p) (upd H p (.lst vs)) := by
  obtain ⟨e1, S1⟩ := S.newZ (u := .lst vs) hp
  exact f _ (.lst l) (.ref p) h _ (Kp.newZ hp (S.fresh hp).2) S1 (by unfold Den; exact ⟨p, vs, rfl, upd_same, dl.mono e1⟩) q
/-- a new list that may change -/
theorem new_ref {R : QD} {Q : VK} {vs : List V} {p : Addr} (S : Sat K Z h H) (dl : DenL K Z l vs) (hp : H p = none) (q : ∀ p, h p = none → R (.ref p) (ud h p (.lst l))) (f : ∀ Z' d v h' H', Kp Z h H Z' h' H' → Sat K Z' h' H' → Den K Z' d v → R d h' → Q v H') : Q (.ref p) (upd H p (.lst vs)) :=
  f Z (.ref p) (.ref p) _ _ (Kp.new hp) (S.new (o := .lst l) hp ⟨vs, rfl, dl⟩) (dref p) (q p (S.fresh hp).1)
end

/-! ### displays -/
def tTup (t : TAD) : TED := fun σ h Q => t σ h fun l h1 => l.length ≤ sizeLine ∧ Q (.tup l) h1
def tLst (t : TAD) : TED := fun σ h Q => t σ h fun l h1 => l.length ≤ sizeLine ∧ Q (.lst l) h1
def tLstM (t : TAD) : TED := fun σ h Q => t σ h fun l h1 => l.length ≤ sizeLine ∧ ∀ p, h1 p = none → Q (.ref p) (ud h1 p (.lst l))
section
variable {X : Cx} {es : List Expr} {pos : Pos} {ta : TAD}
theorem se_tup {x1} (p : SA X es ta) : SE X (.Tuple es x1 pos) (T3.tTup ta) := (pe_tup p).imp fun σV H Q ⟨Z, σ, h, R, S, dS, q, f⟩ =>
  ⟨Z, σ, h, _, S, dS, q, fun Z1 ds vs h1 H1 k1 S1 r1 q1 => ⟨by rw [← r1.length]; exact q1.1, fun p hp => new_tup S1 r1 hp q1.2 fun Z' d v h' H' x => f Z' d v h' H' (k1.trans x)⟩⟩
theorem se_lst (p : SA X es ta) : SE X (.List es pos) (T3.tLst ta) := (pe_lst p).imp fun σV H Q ⟨Z, σ, h, R, S, dS, q, f⟩ =>
  ⟨Z, σ, h, _, S, dS, q, fun Z1 ds vs h1 H1 k1 S1 r1 q1 => ⟨by rw [← r1.length]; exact q1.1, fun p hp => new_lst S1 r1 hp q1.2 fun Z' d v h' H' x => f Z' d v h' H' (k1.trans x)⟩⟩
theorem se_lstM (p : SA X es ta) : SE X (.List es pos) (T3.tLstM ta) := (pe_lst p).imp fun σV H Q ⟨Z, σ, h, R, S, dS, q, f⟩ =>
  ⟨Z, σ, h, _, S, dS, q, fun Z1 ds vs h1 H1 k1 S1 r1 q1 => ⟨by rw [← r1.length]; exact q1.1, fun p hp => new_ref S1 r1 hp q1.2 fun Z' d v h' H' x => f Z' d v h' H' (k1.trans x)⟩⟩
/-- a, b = x, y of two plain names -/
theorem ss_par {i j : Nat} {x y : Str} {a b : Expr} {ta : TAD} {px py pt : Pos} {kt k2 pt2} (hc : X.calm = true) (hN : X.N.Nodup) (hi : X.N[i]? = some x) (hj : X.N[j]? = some y) (hij : i ≠ j)
    (hx : X.env.scope.names.lookup x = some .local) (hy : X.env.scope.names.lookup y = some .local) (ha : SA X [a, b] ta) (hw : swappedStores [.Tuple [.Name x px, .Name y py] kt pt] (.Tuple [a, b] k2 pt2) X.env = pure (some [x, y]))
    (hs : swapsWithSole [.Tuple [.Name x px, .Name y py] kt pt] (.Tuple [a, b] k2 pt2) pos.line X.env = pure false := by rfl) :
    SS X (.Assign [.Tuple [.Name x px, .Name y py] kt pt] (.Tuple [a, b] k2 pt2) pos) (T3.tAsg (T3.tTup ta) (gTupN 2 [T3.gName i, T3.gName j])) := (ps_par hc hN hi hj hij hx hy ha hw hs).imp fun E σV H ⟨Z, σ, h, R, S, dS, q, f⟩ =>
  ⟨Z, σ, h, _, S, dS, q, fun Z1 ds vs h1 H1 k1 S1 r1 q1 => by
    obtain ⟨_, l2, q1⟩ := q1
    match ds, l2, q1, r1 with
    | [d, e], _, q1, r1 =>
      obtain ⟨v, vs', rfl, r, r1⟩ := r1.cons_inv
      obtain ⟨w, vs'', rfl, r', r1⟩ := r1.cons_inv
      obtain rfl := r1.nil_inv
      exact ⟨v, w, rfl, f.nx _ _ _ _ _ k1 S1 (((dS.mono k1.same).set i r).set j r') q1⟩⟩
end

/-! ### + - * // % ** -/
def addR : R2D := fun x y h Q => match x, y with
  | .int i, .int j => Q (.int (i + j)) h
  | .str a, .str b => a.length + b.length ≤ sizeLine ∧ Q (.str (a ++ b)) h
  | .tup a, .tup b => a.length + b.length ≤ sizeLine ∧ Q (.tup (a ++ b)) h
  | x, y => match lstOf h x, lstOf h y with
    | some a, some b => a.length + b.length ≤ sizeLine ∧ Q (.lst (a ++ b)) h
    | _, _ => False
/-- the sum of two lists may change -/
def addM : R2D := fun x y h Q => match lstOf h x, lstOf h y with
  | some a, some b => a.length + b.length ≤ sizeLine ∧ ∀ p, h p = none → Q (.ref p) (ud h p (.lst (a ++ b)))
  | _, _ => False
def intR (C : Int → Int → Prop) (g : Int → Int → D) : R2D := fun x y h Q => match x, y with
  | .int i, .int j => C i j ∧ Q (g i j) h
  | _, _ => False
section
variable {X : Cx}
theorem os_add : OpS X (binaryOp .Add) addR := (OpR.or op_add (OpR.or op_add_str (OpR.or op_catA op_cat))).imp fun xv yv H Q ⟨Z, x, y, h, R, S, rx, ry, q, f⟩ => by
  unfold addR at q
  split at q
  · exact .inl ⟨_, _, den_int rx, den_int ry, f _ _ _ _ _ Kp.refl S (dint _) q⟩
  · exact .inr (.inl ⟨_, _, den_str rx, den_str ry, q.1, f _ _ _ _ _ Kp.refl S (dstr _) q.2⟩)
  · next a b =>
    unfold Den at rx ry
    obtain ⟨p, vs, rfl, sa, da⟩ := rx
    obtain ⟨r, ws, rfl, sb, db⟩ := ry
    refine .inr (.inr (.inl ⟨p, r, vs, ws, rfl, rfl, S.sqt sa, S.sqt sb, by rw [← da.length, ← db.length]; exact q.1, fun e => ?_, fun e1 e2 => ?_, fun e1 e2 t ht => ?_⟩))
    · have : a = [] := List.length_eq_zero_iff.mp (by rw [da.length, e]; rfl)
      subst this
      exact f _ (.tup b) _ _ _ Kp.refl S (by unfold Den; exact ⟨r, ws, rfl, sb, db⟩) q.2
    · have : b = [] := List.length_eq_zero_iff.mp (by rw [db.length, e2]; rfl)
      subst this
      have q2 := q.2
      rw [List.append_nil] at q2
      exact f _ (.tup a) _ _ _ Kp.refl S (by unfold Den; exact ⟨p, vs, rfl, sa, da⟩) q2
    · exact new_tup S (da.append db) ht q.2 f
  · split at q
    · next a b ea eb =>
      obtain ⟨p, vs, rfl, sa, da⟩ := lstOf_den S rx ea
      obtain ⟨r, ws, rfl, sb, db⟩ := lstOf_den S ry eb
      exact .inr (.inr (.inr ⟨p, r, vs, ws, rfl, rfl, sa, sb, by rw [← da.length, ← db.length]; exact q.1, fun t ht => new_lst S (da.append db) ht q.2 f⟩))
    · exact q.elim
theorem os_addM : OpS X (binaryOp .Add) addM := op_cat.imp fun xv yv H Q ⟨Z, x, y, h, R, S, rx, ry, q, f⟩ => by
  unfold addM at q
  split at q
  · next a b ea eb =>
    obtain ⟨p, vs, rfl, sa, da⟩ := lstOf_den S rx ea
    obtain ⟨r, ws, rfl, sb, db⟩ := lstOf_den S ry eb
    exact ⟨p, r, vs, ws, rfl, rfl, sa, sb, by rw [← da.length, ← db.length]; exact q.1, fun t ht => new_ref S (da.append db) ht q.2 f⟩
  · exact q.elim
theorem os_intC {f : Value → Value → Sem Value} {C : Int → Int → Prop} {g : Int → Int → Int} (o : OpR X f (rI C fun i j => .int (g i j))) : OpS X f (intR C fun i j => .int (g i j)) := o.imp fun xv yv H Q ⟨Z, x, y, h, R, S, rx, ry, q, f⟩ => by
  unfold intR at q
  split at q
  · exact ⟨_, _, den_int rx, den_int ry, q.1, f _ _ _ _ _ Kp.refl S (dint _) q.2⟩
  · exact q.elim
def TrueC (_ _ : Int) : Prop := True
theorem os_sub : OpS X (binaryOp .Sub) (intR TrueC fun i j => .int (i - j)) := op_sub.imp fun xv yv H Q ⟨Z, x, y, h, R, S, rx, ry, q, f⟩ => by
  unfold intR at q
  split at q
  · exact ⟨_, _, den_int rx, den_int ry, f _ _ _ _ _ Kp.refl S (dint _) q.2⟩
  · exact q.elim
theorem os_mul : OpS X (binaryOp .Mult) (intR CMul fun i j => .int (i * j)) := os_intC op_mul
theorem os_mulW : OpS X (binaryOp .Mult) (intR CMulW fun i j => .int (i * j)) := os_intC op_mulW
theorem os_fdiv : OpS X (binaryOp .FloorDiv) (intR CDiv fun i j => .int (i / j)) := os_intC op_fdiv
theorem os_fdivW : OpS X (binaryOp .FloorDiv) (intR CDivW fun i j => .int (i / j)) := os_intC op_fdivW
theorem os_mod : OpS X (binaryOp .Mod) (intR (fun _ j => 0 < j) fun i j => .int (i % j)) := os_intC op_mod
theorem os_pow : OpS X (binaryOp .Pow) (intR CPow fun i j => .int (i ^ j.toNat)) := os_intC op_pow
end

/-! ### comparisons -/
def ordR (p : Int → Int → Bool) (r : Str → Str → Bool) : R2D := fun x y h Q => match x, y with
  | .int i, .int j => Q (.bl (p i j)) h
  | .str a, .str b => Q (.bl (r a b)) h
  | _, _ => False
def ltS (a b : Str) : Bool := decide (a.cps.toList < b.cps.toList)
section
variable {X : Cx}
theorem os_ord {f : Value → Value → Sem Value} {p : Int → Int → Bool} {r : Str → Str → Bool} (o1 : OpR X f (rI0 fun i j => .bl (p i j))) (o2 : OpR X f (fun x y H Q => ∃ i j, x = .str i ∧ y = .str j ∧ Q (.bl (r i j)) H)) : OpS X f (ordR p r) :=
  (OpR.or o1 o2).imp fun xv yv H Q ⟨Z, x, y, h, R, S, rx, ry, q, f⟩ => by
    unfold ordR at q
    split at q
    · exact .inl ⟨_, _, den_int rx, den_int ry, f _ _ _ _ _ Kp.refl S (dbl _) q⟩
    · exact .inr ⟨_, _, den_str rx, den_str ry, f _ _ _ _ _ Kp.refl S (dbl _) q⟩
    · exact q.elim
theorem os_lt : OpS X (compareOp .Lt) (ordR (fun i j => decide (i < j)) ltS) := os_ord op_lt op_lt_str
theorem os_le : OpS X (compareOp .LtE) (ordR (fun i j => decide (i ≤ j)) fun a b => !ltS b a) := os_ord op_le op_le_str
theorem os_gt : OpS X (compareOp .Gt) (ordR (fun i j => decide (j < i)) fun a b => ltS b a) := os_ord op_gt op_gt_str
theorem os_ge : OpS X (compareOp .GtE) (ordR (fun i j => decide (j ≤ i)) fun a b => !ltS a b) := os_ord op_ge op_ge_str
end
mutual
def toP : D → PyData
  | .non => .none
  | .bl b => .bool b
  | .int i => .int i
  | .str x => .str x
  | .tup l => .tuple (toPs l)
  | .lst l => .list (toPs l)
  | .lok l => .list (toPs l)
  | .ins _ _ => .none
  | .ref _ => .none
def toPs : List D → List PyData
  | [] => []
  | d :: ds => toP d :: toPs ds
end
theorem toPs_map : ∀ l : List D, toPs l = l.map toP
  | [] => rfl
  | d :: ds => by unfold toPs; rw [toPs_map ds]; rfl
/-- == of trees -/
def eqD (x y : D) : Bool := PyData.eqv (toP x) (toP y)
/-- data of depth n at most -/
def okD : Nat → D → Bool
  | _, .non => true
  | _, .bl _ => true
  | _, .int _ => true
  | _, .str x => PyData.strOk x
  | 0, _ => false
  | n + 1, .tup l => l.all (okD n)
  | n + 1, .lst l => l.all (okD n)
  | n + 1, .lok l => l.all (okD n)
  | _ + 1, .ins _ _ => false
  | _ + 1, .ref _ => false
theorem toPs_shaped {n : Nat} (ih : ∀ d, okD n d = true → (toP d).canLay0 = true ∧ (toP d).depth ≤ n) : ∀ l : List D, l.all (okD n) = true → PyData.canLayAll0 (toPs l) = true ∧ PyData.depthAll (toPs l) ≤ n
  | [], _ => by unfold toPs PyData.canLayAll0 PyData.depthAll; exact ⟨rfl, Nat.zero_le _⟩
  | d :: ds, h => by
    rw [List.all_cons, Bool.and_eq_true] at h
    obtain ⟨a1, a2⟩ := ih d h.1
    obtain ⟨b1, b2⟩ := toPs_shaped ih ds h.2
    unfold toPs PyData.canLayAll0 PyData.depthAll
    rw [a1, b1]; exact ⟨rfl, Nat.max_le.mpr ⟨a2, b2⟩⟩
theorem toP_shaped : ∀ (n : Nat) (d : D), okD n d = true → (toP d).canLay0 = true ∧ (toP d).depth ≤ n
  | n, .non, _ => by simp [toP, PyData.canLay0, PyData.depth]
  | n, .bl _, _ => by simp [toP, PyData.canLay0, PyData.depth]
  | n, .int _, _ => by simp [toP, PyData.canLay0, PyData.depth]
  | n, .str x, h => by
    have : PyData.strOk x = true := by cases n <;> exact h
    simp [toP, PyData.canLay0, PyData.depth, this]
  | 0, .tup _, h => by cases h
  | 0, .lst _, h => by cases h
  | 0, .lok _, h => by cases h
  | 0, .ins _ _, h => by cases h
  | 0, .ref _, h => by cases h
  | n + 1, .ins _ _, h => by cases h
  | n + 1, .ref _, h => by cases h
  | n + 1, .tup l, h => by
    obtain ⟨a, b⟩ := toPs_shaped (toP_shaped n) l h
    unfold toP PyData.canLay0 PyData.depth; exact ⟨a, Nat.succ_le_succ b⟩
  | n + 1, .lst l, h => by
    obtain ⟨a, b⟩ := toPs_shaped (toP_shaped n) l h
    unfold toP PyData.canLay0 PyData.depth; exact ⟨a, Nat.succ_le_succ b⟩
  | n + 1, .lok l, h => by
    obtain ⟨a, b⟩ := toPs_shaped (toP_shaped n) l h
    unfold toP PyData.canLay0 PyData.depth; exact ⟨a, Nat.succ_le_succ b⟩
theorem okD_shaped {n : Nat} {d : D} (h : okD n d = true) (hn : n ≤ 64) : SeqAt.shaped (toP d) = true := by
  obtain ⟨a, b⟩ := toP_shaped n d h
  unfold SeqAt.shaped
  rw [a, Bool.true_and]; exact decide_eq_true (Nat.le_trans b hn)
section
variable {K : PySem.W.Frag} {Z H : Hp} {h : AH}
theorem DpAll.of {n : Nat} (ih : ∀ d v, okD n d = true → Den K Z d v → Dp K H v (toP d)) : ∀ (l : List D) (vs : List V), l.all (okD n) = true → DenL K Z l vs → DpAll K H vs (toPs l)
  | [], _, _, q => by rw [q.nil_inv]; unfold toPs; exact .nil
  | d :: ds, _, h, q => by
    rw [List.all_cons, Bool.and_eq_true] at h
    obtain ⟨v, r, rfl, a, b⟩ := q.cons_inv
    unfold toPs
    exact .cons (ih d v h.1 a) (DpAll.of ih ds r h.2 b)
theorem dp_of (e : Same Z H) : ∀ (n : Nat) (d : D) (v : V), okD n d = true → Den K Z d v → Dp K H v (toP d)
  | _, .non, _, _, q => by rw [den_non q]; unfold toP; exact .non
  | _, .bl b, _, _, q => by rw [den_bl q]; unfold toP; exact .bl b
  | _, .int b, _, _, q => by rw [den_int q]; unfold toP; exact .int b
  | _, .str b, _, _, q => by rw [den_str q]; unfold toP; exact .str b
  | 0, .tup _, _, h, _ => by cases h
  | 0, .lst _, _, h, _ => by cases h
  | 0, .lok _, _, h, _ => by cases h
  | 0, .ins _ _, _, h, _ => by cases h
  | 0, .ref _, _, h, _ => by cases h
  | n + 1, .ins _ _, _, h, _ => by cases h
  | n + 1, .ref _, _, h, _ => by cases h
  | n + 1, .tup l, v, h, q => by
    unfold Den at q
    obtain ⟨a, vs, rfl, s, t⟩ := q
    unfold toP
    exact .tup (Same.sqt e s) (DpAll.of (dp_of e n) l vs h t)
  | n + 1, .lst l, v, h, q => by
    unfold Den at q
    obtain ⟨a, vs, rfl, s, t⟩ := q
    unfold toP
    exact .lst (.of (e _ _ s)) (DpAll.of (dp_of e n) l vs h t)
  | n + 1, .lok l, v, h, q => by
    unfold Den at q
    obtain ⟨a, vs, rfl, s, t⟩ := q
    unfold toP
    exact .lst (Same.seq e s) (DpAll.of (dp_of e n) l vs h t)
/-- a list that may change, as it stands -/
def resD (h : AH) : D → D
  | .ref a => match h a with
    | some (.lst l) => .lst l
    | _ => .ref a
  | d => d
theorem dp_res (S : Sat K Z h H) {n : Nat} {d : D} {v : V} (r : Den K Z d v) (o : okD n (resD h d) = true) : Dp K H v (toP (resD h d)) := by
  cases d with
  | ref a =>
    unfold resD at o ⊢
    simp only at o ⊢
    split at o
    · next l ea =>
      obtain rfl := den_ref r
      obtain ⟨u, hu, vs, rfl, df⟩ := S.hs a _ ea
      match n, o with
      | n + 1, o =>
        unfold toP
        exact .lst (.of hu) (DpAll.of (dp_of S.zs n) l vs o df)
    · cases n <;> cases o
  | _ => exact dp_of S.zs n _ v o r
end
def eqR : R2D := fun x y h Q => okD 40 (resD h x) = true ∧ okD 40 (resD h y) = true ∧ Q (.bl (eqD (resD h x) (resD h y))) h
def neR : R2D := fun x y h Q => okD 40 (resD h x) = true ∧ okD 40 (resD h y) = true ∧ Q (.bl (!eqD (resD h x) (resD h y))) h
def inL (x : D) (l : List D) : Bool := l.any fun z => eqD z x
def inR (neg : Bool) : R2D := fun x y h Q => match y with
  | .str z => match x with
    | .str c => match c.cps.toList with
      | [k] => Q (.bl (neg ^^ decide (k ∈ z.cps.toList))) h
      | _ => False
    | _ => False
  | y => match seqOf h y with
    | some l => okD 40 (resD h x) = true ∧ l.all (okD 40) = true ∧ Q (.bl (neg ^^ inL (resD h x) l)) h
    | none => False
def isNR (neg : Bool) : R2D := fun x y h Q => match y with
  | .non => match x with
    | .non => Q (.bl (neg ^^ true)) h
    | _ => Q (.bl (neg ^^ false)) h
  | _ => False
theorem den_non_iff {K : PySem.W.Frag} {Z : Hp} {d : D} {v : V} (r : Den K Z d v) : (v = .non ↔ d = .non) := by
  cases d with
  | non => unfold Den at r; rw [r]; simp
  | tup l => unfold Den at r; obtain ⟨a, b, rfl, _⟩ := r; simp
  | lst l => unfold Den at r; obtain ⟨a, b, rfl, _⟩ := r; simp
  | lok l => unfold Den at r; obtain ⟨a, b, rfl, _⟩ := r; simp
  | ins C l => unfold Den at r; obtain ⟨a, b, c, rfl, _⟩ := r; simp
  | _ => unfold Den at r; rw [r]; simp
section
variable {X : Cx}
theorem inL_any (x : D) (l : List D) : (toPs l).any (fun z => PyData.eqv z (toP x)) = inL x l := by
  rw [toPs_map, List.any_map]; rfl
theorem os_eq (hu : X.A.units + 64 < cLine) : OpS X (compareOp .Eq) eqR := (op_eqD hu).imp fun xv yv H Q ⟨Z, x, y, h, R, S, rx, ry, q, f⟩ =>
  ⟨_, _, dp_res S rx q.1, dp_res S ry q.2.1, okD_shaped q.1 (by decide), okD_shaped q.2.1 (by decide), f _ _ _ _ _ Kp.refl S (dbl _) q.2.2⟩
theorem os_ne (hu : X.A.units + 64 < cLine) : OpS X (compareOp .NotEq) neR := (op_neD hu).imp fun xv yv H Q ⟨Z, x, y, h, R, S, rx, ry, q, f⟩ =>
  ⟨_, _, dp_res S rx q.1, dp_res S ry q.2.1, okD_shaped q.1 (by decide), okD_shaped q.2.1 (by decide), f _ _ _ _ _ Kp.refl S (dbl _) q.2.2⟩
/-- x in a tuple -/
def rInT (K : PySem.W.Frag) (neg : Bool) : R2 := fun x y H Q => ∃ d ds, Dp K H x d ∧ Dp K H y (.tuple ds) ∧ SeqAt.shaped d = true ∧ SeqAt.shaped (.tuple ds) = true ∧ Q (.bl (neg ^^ ds.any fun z => PyData.eqv z d)) H
theorem op_inT (hu : X.A.units + 65 < cLine) : OpR X (compareOp .In) (rInT X.K false) := by
  intro pins s σ H x y v u Q I rx ry h
  obtain ⟨d, ds, hd, he, sd, se, q⟩ := h
  obtain ⟨as, r1⟩ := Dp.reads I d x v hd rx
  obtain ⟨bs, r2⟩ := Dp.reads I (.tuple ds) y u he ry
  rw [Bool.false_xor] at q
  exact SeqAt.in_tuple_reads r2 r1 (SeqAt.canLay_of_shaped se) (SeqAt.canLay_of_shaped sd) (PyProof.Rows.room_in_shaped sd hu) ⟨.bl _, H, I, rfl, q⟩
theorem op_notInT (hu : X.A.units + 65 < cLine) : OpR X (compareOp .NotIn) (rInT X.K true) := by
  intro pins s σ H x y v u Q I rx ry h
  obtain ⟨d, ds, hd, he, sd, se, q⟩ := h
  obtain ⟨as, r1⟩ := Dp.reads I d x v hd rx
  obtain ⟨bs, r2⟩ := Dp.reads I (.tuple ds) y u he ry
  rw [Bool.true_xor] at q
  exact SeqAt.notIn_tuple_reads r2 r1 (SeqAt.canLay_of_shaped se) (SeqAt.canLay_of_shaped sd) (PyProof.Rows.room_in_shaped sd hu) ⟨.bl _, H, I, rfl, q⟩
theorem notI {b : Bool} : (!b) = (true ^^ b) := by cases b <;> rfl
theorem os_inAny {op : CmpOp} {neg : Bool} (o1 : OpR X (compareOp op) (fun x y H Q => ∃ (c : Nat) (z : Str), x = .str ⟨#[c]⟩ ∧ y = .str z ∧ Q (.bl (neg ^^ decide (c ∈ z.cps.toList))) H)) (o2 : OpR X (compareOp op) (rInT X.K neg))
    (o3 : OpR X (compareOp op) (fun x y H Q => ∃ d ds, Dp X.K H x d ∧ Dp X.K H y (.list ds) ∧ SeqAt.shaped d = true ∧ SeqAt.shaped (.list ds) = true ∧ Q (.bl (neg ^^ ds.any fun z => PyData.eqv z d)) H)) : OpS X (compareOp op) (inR neg) :=
  (OpR.or o1 (OpR.or o2 o3)).imp fun xv yv H Q ⟨Z, x, y, h, R, S, rx, ry, q, f⟩ => by
    unfold inR at q
    split at q
    · split at q
      · next c =>
        split at q
        · next k ek =>
          refine .inl ⟨k, _, ?_, den_str ry, f _ _ _ _ _ Kp.refl S (dbl _) q⟩
          rw [den_str rx]
          obtain ⟨⟨cl⟩⟩ := c
          have : cl = [k] := ek
          subst this; rfl
        · exact q.elim
      · exact q.elim
    · split at q
      · next l el =>
        obtain ⟨ox, ol, q⟩ := q
        have dx := dp_res S rx ox
        have sx := okD_shaped ox (by decide)
        have hs : ∀ d, okD 41 d = true → SeqAt.shaped (toP d) = true := fun d h => okD_shaped h (by decide)
        rw [← inL_any] at q
        have qq := f _ _ _ _ _ Kp.refl S (dbl _) q
        cases y with
        | tup m =>
          cases (show some m = some l from el)
          have h2 : okD 41 (.tup l) = true := ol
          have e : toP (.tup l) = .tuple (toPs l) := by unfold toP; rfl
          exact .inr (.inl ⟨_, toPs l, dx, e ▸ dp_of S.zs 41 _ _ h2 ry, sx, e ▸ hs _ h2, qq⟩)
        | lst m =>
          cases (show some m = some l from el)
          have h2 : okD 41 (.lst l) = true := ol
          have e : toP (.lst l) = .list (toPs l) := by unfold toP; rfl
          exact .inr (.inr ⟨_, toPs l, dx, e ▸ dp_of S.zs 41 _ _ h2 ry, sx, e ▸ hs _ h2, qq⟩)
        | lok m =>
          cases (show some m = some l from el)
          have h2 : okD 41 (.lok l) = true := ol
          have e : toP (.lok l) = .list (toPs l) := by unfold toP; rfl
          exact .inr (.inr ⟨_, toPs l, dx, e ▸ dp_of S.zs 41 _ _ h2 ry, sx, e ▸ hs _ h2, qq⟩)
        | ref a =>
          obtain ⟨b, vs, rfl, e2, e3⟩ := lstOf_den S ry (show lstOf h (.ref a) = some l from el)
          have e : toP (.lst l) = .list (toPs l) := by unfold toP; rfl
          have h2 : okD 41 (.lst l) = true := ol
          exact .inr (.inr ⟨_, toPs l, dx, .lst (.of e2) (DpAll.of (dp_of S.zs 40) l vs ol e3), sx, e ▸ hs _ h2, qq⟩)
        | _ => exact absurd (show (none : Option (List D)) = some l from el) (fun z => by cases z)
      · exact q.elim
theorem os_in (hu : X.A.units + 65 < cLine) : OpS X (compareOp .In) (inR false) := os_inAny (op_in_sign.imp fun x y H Q ⟨c, z, a, b, q⟩ => ⟨c, z, a, b, by rw [Bool.false_xor] at q; exact q⟩) (op_inT hu) ((op_inD hu).imp fun x y H Q ⟨d, ds, a, b, c, e, q⟩ => ⟨d, ds, a, b, c, e, by rw [Bool.false_xor] at q; exact q⟩)
theorem os_notIn (hu : X.A.units + 65 < cLine) : OpS X (compareOp .NotIn) (inR true) := os_inAny (op_notIn_sign.imp fun x y H Q ⟨c, z, a, b, q⟩ => ⟨c, z, a, b, by rw [Bool.true_xor] at q; exact q⟩) (op_notInT hu) ((op_notInD hu).imp fun x y H Q ⟨d, ds, a, b, c, e, q⟩ => ⟨d, ds, a, b, c, e, by rw [Bool.true_xor] at q; exact q⟩)
theorem os_is : OpS X (compareOp .Is) (isNR false) := op_isN.imp fun xv yv H Q ⟨Z, x, y, h, R, S, rx, ry, q, f⟩ => by
  unfold isNR at q
  split at q
  · refine ⟨den_non ry, ?_⟩
    split at q
    · exact f _ _ _ _ _ Kp.refl S (by rw [(den_non_iff rx).mpr rfl]; exact dbl _) q
    · next hn => exact f _ _ _ _ _ Kp.refl S (by rw [decide_eq_false (fun z => hn ((den_non_iff rx).mp z))]; exact dbl _) q
  · exact q.elim
theorem os_isnot : OpS X (compareOp .IsNot) (isNR true) := op_notN.imp fun xv yv H Q ⟨Z, x, y, h, R, S, rx, ry, q, f⟩ => by
  unfold isNR at q
  split at q
  · refine ⟨den_non ry, ?_⟩
    split at q
    · exact f _ _ _ _ _ Kp.refl S (by rw [(den_non_iff rx).mpr rfl]; exact dbl _) q
    · next hn => exact f _ _ _ _ _ Kp.refl S (by rw [decide_eq_false (fun z => hn ((den_non_iff rx).mp z))]; exact dbl _) q
  · exact q.elim
/-- a chain of two comparisons -/
theorem lchain {K : PySem.W.Frag} {r r' : R2D} {ta tb tc : TED} {σV : L2.St} {H : Hp} {Q : VK} (q : lE K (T3.tChain r r' ta tb tc) σV H Q) : L2.tChain (lR K r) (lR K r') (lE K ta) (lE K tb) (lE K tc) σV H Q := by
  obtain ⟨Z, σ, h, R, S, dS, q, f⟩ := q
  refine ⟨Z, σ, h, _, S, dS, q, fun Z1 d1 v1 h1 H1 k1 S1 r1 q1 => ⟨Z1, σ, h1, _, S1, dS.mono k1.same, q1, fun Z2 d2 v2 h2 H2 k2 S2 r2 q2 => ⟨Z2, d1, d2, h2, _, S2, r1.mono k2.same, r2, q2, fun Z3 d3 v3 h3 H3 k3 S3 r3 q3 => ?_⟩⟩⟩
  cases d3 <;> first | exact q3.elim | skip
  next k =>
    refine ⟨k, den_bl r3, ?_⟩
    have kk := (k1.trans k2).trans k3
    cases k
    · exact f _ _ _ _ _ kk S3 (dbl _) q3
    · exact ⟨Z3, σ, h3, _, S3, dS.mono kk.same, q3, fun Z4 d4 v4 h4 H4 k4 S4 r4 q4 => ⟨Z4, d2, d4, h4, R, S4, (r2.mono k3.same).mono k4.same, r4, q4, fun Z5 d5 v5 h5 H5 k5 => f Z5 d5 v5 h5 H5 ((kk.trans k4).trans k5)⟩⟩
theorem se_chain {op op' : CmpOp} {r r' : R2D} {a b c : Expr} {ta tb tc : TED} {pos : Pos} (ho : OpS X (compareOp op) r) (ho' : OpS X (compareOp op') r') (ha : SE X a ta) (hb : SE X b tb) (hc : SE X c tc) (hm : lastMarks [op, op'] [b, c] = false := by with_unfolding_all rfl) :
    SE X (.Compare a [op, op'] [b, c] pos) (T3.tChain r r' ta tb tc) := (pe_chain ho ho' ha hb hc hm).imp fun _ _ _ q => lchain q
theorem st_chain {op op' : CmpOp} {r r' : R2D} {a b c : Expr} {ta tb tc : TED} {pos : Pos} (ho : OpS X (compareOp op) r) (ho' : OpS X (compareOp op') r') (ha : SE X a ta) (hb : SE X b tb) (hc : SE X c tc) (hm : lastMarks [op, op'] [b, c] = false := by with_unfolding_all rfl) :
    ST X (.Compare a [op, op'] [b, c] pos) (T3.tB (T3.tChain r r' ta tb tc)) := (pt_chain ho ho' ha hb hc hm).imp fun σV H Q q => by
  obtain ⟨Z, σ, h, R, S, dS, q, f⟩ := q
  refine lchain ⟨Z, σ, h, _, S, dS, q, fun Z1 d v h1 H1 k1 S1 r1 q1 => ?_⟩
  cases d <;> first | exact q1.elim | skip
  next c => exact ⟨c, den_bl r1, f _ _ _ _ k1 S1 q1⟩
end
end T3

/-! T3: subscripts, slices, built-ins, methods of lists. -/
namespace T3
open PySem PySem.Spec L2
open PyProof.Rows hiding St

/-! ### subscripts -/
def ixR : R2D := fun x y h Q => match y with
  | .int i => match x with
    | .str z => z.length ≤ sizeLine ∧ match atI z.cps.toList i with
      | some c => Q (.str ⟨#[c]⟩) h
      | none => False
    | x => match seqOf h x with
      | some l => match atI l i with
        | some d => Q d h
        | none => False
      | none => False
  | _ => False
theorem DenL.atI {K : PySem.W.Frag} {Z : Hp} {l : List D} {vs : List V} {i : Int} {d : D} (q : DenL K Z l vs) (e : L2.atI l i = some d) : ∃ v, L2.atI vs i = some v ∧ Den K Z d v := by
  unfold L2.atI at e ⊢
  rw [← q.length]
  cases z : ixN l.length i with
  | none => rw [z] at e; cases e
  | some j => rw [z] at e; exact q.get e
section
variable {X : Cx} {a b e : Expr} {ta tb te : TED} {pos p2 : Pos}
theorem lix {K : PySem.W.Frag} {xv yv : V} {H : Hp} {Q : VK} (q : lR K ixR xv yv H Q) : rIx K xv yv H Q := by
  obtain ⟨Z, x, y, h, R, S, rx, ry, q, f⟩ := q
  unfold ixR at q
  split at q
  · next i =>
    obtain rfl := den_int ry
    split at q
    · next z =>
      obtain rfl := den_str rx
      obtain ⟨hl, q⟩ := q
      split at q
      · next c hc => exact .inr (.inr ⟨z, i, c, rfl, rfl, hl, hc, f _ _ _ _ _ Kp.refl S (dstr _) q⟩)
      · exact q.elim
    · split at q
      · next l el =>
        split at q
        · next d ed =>
          obtain ⟨p, vs, rfl, dl, sq⟩ := seqOf_den S rx el
          obtain ⟨v, e1, e2⟩ := dl.atI ed
          have fin := f _ _ _ _ _ Kp.refl S e2 q
          rcases sq with sq | sq
          · exact .inl ⟨p, vs, i, v, rfl, rfl, sq, e1, fin⟩
          · exact .inr (.inl ⟨p, vs, i, v, rfl, rfl, sq, e1, fin⟩)
        · exact q.elim
      · exact q.elim
  · exact q.elim
theorem se_ix (ha : SE X a ta) (hb : SE X b tb) (hs : PlainIx b := by exact fun _ _ => rfl) : SE X (.Subscript a b pos) (T3.tOp ixR ta tb) := (pe_ix ix_seq ha hb hs).imp fun _ _ _ q => by
  have q2 := lop q
  obtain ⟨Z, σ, h, R, S, dS, q2, f⟩ := q2
  exact ⟨Z, σ, h, R, S, dS, q2, fun Z1 d v h1 H1 k1 S1 r1 q1 => by
    obtain ⟨Z2, σ2, h2, R2, S2, dS2, q3, f2⟩ := f Z1 d v h1 H1 k1 S1 r1 q1
    exact ⟨Z2, σ2, h2, R2, S2, dS2, q3, fun Z3 d3 v3 h3 H3 k3 S3 r3 q4 => lix (f2 Z3 d3 v3 h3 H3 k3 S3 r3 q4)⟩⟩

/-! ### slices -/
def cutL {α : Type} (xs : List α) (lo hi : Option Int) : List α := (xs.drop (HT.sIx xs.length 0 lo)).take (HT.sIx xs.length xs.length hi - HT.sIx xs.length 0 lo)
abbrev TOD := SD → AH → (Option Int → AH → Prop) → Prop
def lO (K : PySem.W.Frag) (t : TOD) : TO := fun σV H Q => ∃ (Z : Hp) (σ : SD) (h : AH) (R : Option Int → AH → Prop), Sat K Z h H ∧ DenS K Z σ σV ∧ t σ h R ∧ ∀ Z' o h' H', Kp Z h H Z' h' H' → Sat K Z' h' H' → R o h' → Q o H'
def SO (X : Cx) (e : Option Expr) (t : TOD) : Prop := PO X e (lO X.K t)
def tNoPart : TOD := fun _ h Q => Q none h
def tPart (t : TED) : TOD := fun σ h Q => t σ h fun x h1 => match x with
  | .int i => Q (some i) h1
  | _ => False
theorem _root_.L2.PO.imp {e : Option Expr} {t t' : TO} (p : PO X e t) (f : ∀ σ H Q, t' σ H Q → t σ H Q) : PO X e t' := ⟨fun pins s σ H Q I q => p.run pins s σ H Q I (f σ H Q q)⟩
theorem so_none : SO X none T3.tNoPart := po_none.imp fun σV H Q ⟨Z, σ, h, R, S, dS, q, f⟩ => f _ _ _ _ Kp.refl S q
theorem so_some (p : SE X e te) : SO X (some e) (T3.tPart te) := (po_some p).imp fun σV H Q ⟨Z, σ, h, R, S, dS, q, f⟩ => ⟨Z, σ, h, _, S, dS, q, fun Z1 d v h1 H1 k1 S1 r1 q1 => by
  cases d <;> first | exact q1.elim | skip
  next i => exact ⟨i, den_int r1, f _ _ _ _ k1 S1 q1⟩⟩
def slR (x : D) (lo hi : Option Int) (h : AH) (Q : QD) : Prop := match x with
  | .str z => z.length ≤ sizeLine ∧ Q (.str (cutS z lo hi)) h
  | .tup l => Q (.tup (cutL l lo hi)) h
  | x => match seqOf h x with
    | some l => Q (.lst (cutL l lo hi)) h
    | none => False
def tSl (r : D → Option Int → Option Int → AH → QD → Prop) (te : TED) (tl th : TOD) : TED := fun σ h Q => te σ h fun x h1 => tl σ h1 fun l h2 => th σ h2 fun u h3 => r x l u h3 Q
theorem denL_cut {K : PySem.W.Frag} {Z : Hp} {l : List D} {vs : List V} (q : DenL K Z l vs) (lo hi : Option Int) : DenL K Z (cutL l lo hi) (cutV vs lo hi) := by
  unfold cutL cutV
  rw [← q.length]
  exact (q.drop _).take _
theorem cut_whole {α : Type} {xs : List α} {lo hi : Option Int} (h1 : HT.sIx xs.length 0 lo = 0) (h2 : HT.sIx xs.length xs.length hi = xs.length) : cutL xs lo hi = xs := by
  unfold cutL
  rw [h1, h2]
  simp
def lSlR (K : PySem.W.Frag) (r : D → Option Int → Option Int → AH → QD → Prop) : V → Option Int → Option Int → Hp → VK → Prop := fun xv lo hi H Q => ∃ (Z : Hp) (x : D) (h : AH) (R : QD), Sat K Z h H ∧ Den K Z x xv ∧ r x lo hi h R ∧ ∀ Z' d v h' H', Kp Z h H Z' h' H' → Sat K Z' h' H' → Den K Z' d v → R d h' → Q v H'
theorem SlR.imp {r r' : V → Option Int → Option Int → Hp → VK → Prop} (p : SlR X r) (g : ∀ x lo hi H Q, r' x lo hi H Q → r x lo hi H Q) : SlR X r' := by
  intro pins s σ H x v vl vu lo hi sl Q I rx hs pl pu q
  exact p pins s σ H x v vl vu lo hi sl Q I rx hs pl pu (g x lo hi H Q q)
theorem sl_all : SlR X (lSlR X.K slR) := SlR.imp (SlR.or sl_str (SlR.or sl_tupA sl_list)) fun xv lo hi H Q ⟨Z, x, h, R, S, rx, q, f⟩ => by
  unfold slR at q
  split at q
  · exact .inl ⟨_, den_str rx, q.1, f _ _ _ _ _ Kp.refl S (dstr _) q.2⟩
  · next l =>
    have rx' := rx
    unfold Den at rx
    obtain ⟨a, vs, rfl, sq, dl⟩ := rx
    refine .inr (.inl ⟨a, vs, rfl, S.sqt sq, fun hw => ?_, fun hw p hp => new_tup S (denL_cut dl lo hi) hp q f⟩)
    rw [← dl.length] at hw
    rw [cut_whole hw.1 hw.2] at q
    exact f _ _ _ _ _ Kp.refl S rx' q
  · next hns hnt =>
    split at q
    · next l el =>
      obtain ⟨a, vs, rfl, dl, sq⟩ := seqOf_den S rx el
      rcases sq with sq | sq
      · exact .inr (.inr ⟨a, vs, rfl, sq, fun p hp => new_lst S (denL_cut dl lo hi) hp q f⟩)
      · -- a list is no tuple
        cases x with
        | tup m => exact absurd rfl (hnt m)
        | lst m =>
          unfold Den at rx
          obtain ⟨a', vs', e, z, dl'⟩ := rx
          cases e
          cases (show some m = some l from el)
          exact .inr (.inr ⟨a, vs', rfl, .of (S.zs _ _ z), fun p hp => new_lst S (denL_cut dl' lo hi) hp q f⟩)
        | lok m =>
          unfold Den at rx
          obtain ⟨a', vs', e, z, dl'⟩ := rx
          cases e
          cases (show some m = some l from el)
          exact .inr (.inr ⟨a, vs', rfl, Same.seq S.zs z, fun p hp => new_lst S (denL_cut dl' lo hi) hp q f⟩)
        | ref b =>
          obtain ⟨b', vs', e, z, dl'⟩ := lstOf_den S rx (show lstOf h (.ref b) = some l from el)
          cases e
          exact .inr (.inr ⟨a, vs', rfl, .of z, fun p hp => new_lst S (denL_cut dl' lo hi) hp q f⟩)
        | _ => exact absurd (show (none : Option (List D)) = some l from el) (fun z => by cases z)
    · exact q.elim
theorem se_slice {lo hi : Option Expr} {tl th : TOD} (he : SE X e te) (hl : SO X lo tl) (hu : SO X hi th) : SE X (.Subscript e (.Slice lo hi none p2) pos) (T3.tSl slR te tl th) := (pe_slice sl_all he hl hu).imp fun σV H Q ⟨Z, σ, h, R, S, dS, q, f⟩ =>
  ⟨Z, σ, h, _, S, dS, q, fun Z1 d v h1 H1 k1 S1 r1 q1 => ⟨Z1, σ, h1, _, S1, dS.mono k1.same, q1, fun Z2 o2 h2 H2 k2 S2 q2 => ⟨Z2, σ, h2, _, S2, dS.mono (k1.trans k2).same, q2, fun Z3 o3 h3 H3 k3 S3 q3 =>
    ⟨Z3, d, h3, R, S3, (r1.mono k2.same).mono k3.same, q3, fun Z4 d4 v4 h4 H4 k4 => f Z4 d4 v4 h4 H4 (((k1.trans k2).trans k3).trans k4)⟩⟩⟩⟩
/-- xs[::c] of a list, c a way to say -1 -/
theorem pe_revX {c : Expr} {tc : TE} {p3 : Pos} (he : PE X e (lE X.K te)) (hst : PE X c tc) (hc : ∀ σ H Q, Q (V.int (-1)) H → tc σ H Q) (ht : ∀ o i, subscripted (.Slice none none (some c) p3) false o i = operate [o, i] (getItem o i)) : PE X (.Subscript e (.Slice none none (some c) p3) pos) (tRevL X.K (lE X.K te)) := by
  refine ⟨fun pins s σ H Q inv hyp => ?_⟩
  refine Subscript_ (thn (he.run pins s σ H _ inv hyp) fun v u1 ⟨x, H1, I1, rel, a, xs, ex, sq, want⟩ => ?_)
  obtain rfl := ex
  obtain rfl : v = Value.ref a := rel
  refine wpAny_Slice (thn (po_none.run pins u1 σ H1 (fun o H2 => o = none ∧ H2 = H1) I1 ⟨rfl, rfl⟩) fun vl u2 ⟨l, H2, I2, pl, el, e2⟩ => ?_)
  obtain rfl := el
  obtain rfl := e2
  refine thn (po_none.run pins u2 σ H2 (fun o H3 => o = none ∧ H3 = H2) I2 ⟨rfl, rfl⟩) fun vu u3 ⟨u, H3, I3, pu, eu, e3⟩ => ?_
  obtain rfl := eu
  obtain rfl := e3
  refine thn ((po_some hst).run pins u3 σ H3 (fun o H4 => o = some (-1) ∧ H4 = H3) I3 (hc _ _ _ ⟨-1, rfl, rfl, rfl⟩)) fun vs u4 ⟨o, H4, I4, ps, eo, e4⟩ => ?_
  obtain rfl := eo
  obtain rfl := e4
  have J := I4.kept (h' := u4.heap.push { cls := .type "slice", data := .fields #[vl, vu, vs] }) (t' := u4.toks) fun b ob z => Heap.get?_push_of_some _ z
  obtain ⟨its, r, plain, hz⟩ := J.list sq
  have len := r.length
  refine tail_any (ops := [.ref a, .ref u4.heap.objs.size]) plain.isList.typeIs PySem.slot_list_getitem.lookup ?_ (ht _ _)
  refine wpAny_getItem_list_slice plain.isList (Heap.IsSliceOf.new _ vl vu vs) pl pu ps (by decide) ?_ (by rw [List.size_toArray, ← len]; exact hz)
  rw [PySem.W.krv_pick]
  exact ⟨.ref _, _, J.laid (t' := u4.toks) (o := .lst xs.reverse) (fun b ob z => Heap.get?_push_of_some _ z) (Nat.le_refl _) ⟨by rw [List.length_reverse]; exact hz, _, 0, r.reverse, Heap.get?_push_size _ rfl⟩, rfl, want _ (J.hok.fresh (Nat.le_refl _))⟩
/-- a list's own items -/
def slOf (h : AH) : D → Option (List D)
  | .lst l => some l
  | .lok l => some l
  | .ref a => match h a with
    | some (.lst l) => some l
    | _ => none
  | _ => none
theorem slOf_den {K : PySem.W.Frag} {Z H : Hp} {h : AH} {d : D} {v : V} {l : List D} (S : Sat K Z h H) (r : Den K Z d v) (ee : slOf h d = some l) : ∃ a vs, v = .ref a ∧ DenL K Z l vs ∧ SqL K H a vs := by
  cases d with
  | lst m =>
    cases (show some m = some l from ee)
    unfold Den at r
    obtain ⟨a, vs, rfl, z, f⟩ := r
    exact ⟨a, vs, rfl, f, .of (S.zs _ _ z)⟩
  | lok m =>
    cases (show some m = some l from ee)
    unfold Den at r
    obtain ⟨a, vs, rfl, z, f⟩ := r
    exact ⟨a, vs, rfl, f, Same.seq S.zs z⟩
  | ref a =>
    obtain ⟨b, vs, e1, e2, e3⟩ := lstOf_den S r (show lstOf h (.ref a) = some l from ee)
    exact ⟨b, vs, e1, e3, .of e2⟩
  | _ => exact absurd (show (none : Option (List D)) = some l from ee) (fun z => by cases z)
def tRevD (te : TED) : TED := fun σ h Q => te σ h fun x h1 => match slOf h1 x with
  | some l => Q (.lst l.reverse) h1
  | none => False
def tRevDM (te : TED) : TED := fun σ h Q => te σ h fun x h1 => match slOf h1 x with
  | some l => ∀ p, h1 p = none → Q (.ref p) (ud h1 p (.lst l.reverse))
  | none => False
theorem lrev {K : PySem.W.Frag} {σV : L2.St} {H : Hp} {Q : VK} (q : lE K (tRevD te) σV H Q) : tRevL K (lE K te) σV H Q := by
  obtain ⟨Z, σ, h, R, S, dS, q, f⟩ := q
  exact ⟨Z, σ, h, _, S, dS, q, fun Z1 d v h1 H1 k1 S1 r1 q1 => by
    split at q1
    · next l el =>
      obtain ⟨a, vs, rfl, dl, sq⟩ := slOf_den S1 r1 el
      exact ⟨a, vs, rfl, sq, fun p hp => new_lst S1 dl.reverse hp q1 fun Z' d v h' H' x => f Z' d v h' H' (k1.trans x)⟩
    · exact q1.elim⟩
theorem lrevM {K : PySem.W.Frag} {σV : L2.St} {H : Hp} {Q : VK} (q : lE K (tRevDM te) σV H Q) : tRevL K (lE K te) σV H Q := by
  obtain ⟨Z, σ, h, R, S, dS, q, f⟩ := q
  exact ⟨Z, σ, h, _, S, dS, q, fun Z1 d v h1 H1 k1 S1 r1 q1 => by
    split at q1
    · next l el =>
      obtain ⟨a, vs, rfl, dl, sq⟩ := slOf_den S1 r1 el
      exact ⟨a, vs, rfl, sq, fun p hp => new_ref S1 dl.reverse hp q1 fun Z' d v h' H' x => f Z' d v h' H' (k1.trans x)⟩
    · exact q1.elim⟩
section
variable {k : Nat} {q1 q2 q3 : Pos} {k1 k2 : Nat}
theorem se_rev1 (he : SE X e te) : SE X (.Subscript e (.Slice none none (some (.UnaryOp .USub (.Constant (.int 1) k q1) q2)) q3) pos) (tRevD te) :=
  (pe_revX he (pe_un un_neg pe_int) (fun σ H Q q => ⟨1, rfl, q⟩) (by with_unfolding_all exact fun _ _ => rfl)).imp fun _ _ _ q => lrev q
theorem se_rev1M (he : SE X e te) : SE X (.Subscript e (.Slice none none (some (.UnaryOp .USub (.Constant (.int 1) k q1) q2)) q3) pos) (tRevDM te) :=
  (pe_revX he (pe_un un_neg pe_int) (fun σ H Q q => ⟨1, rfl, q⟩) (by with_unfolding_all exact fun _ _ => rfl)).imp fun _ _ _ q => lrevM q
theorem se_rev0 (he : SE X e te) : SE X (.Subscript e (.Slice none none (some (.BinOp (.Constant (.int 0) k1 q1) .Sub (.Constant (.int 1) k2 q2) p2)) q3) pos) (tRevD te) :=
  (pe_revX he (pe_op op_sub pe_int pe_int) (fun σ H Q q => ⟨0, 1, rfl, rfl, q⟩) (by with_unfolding_all exact fun _ _ => rfl)).imp fun _ _ _ q => lrev q
end
/-! ### stores -/
def gSub (to ti : TED) : TGD := fun v σ h Q => to σ h fun o h1 => ti σ h1 fun i h2 => match o, i with
  | .ref a, .int k => match h2 a with
    | some (.lst l) => match ixN l.length k with
      | some j => Q σ (ud h2 a (.lst (l.set j v)))
      | none => False
    | _ => False
  | _, _ => False
theorem sg_sub {o i : Expr} {to ti : TED} {vs : List Nat} (ho : SE X o to) (hi : SE X i ti)
    (ha : ∀ v, assign (.Subscript o i pos) X.env v = (do let ov ← holding [v] (eval o X.env); let iv ← holding [v, ov] (eval i X.env); standAt pos; holding [v, ov, iv] (setItem ov iv v); release [v, ov, iv] []) := by intro _; rfl) :
    SG X (.Subscript o i pos) vs (T3.gSub to ti) := (pg_sub ho hi set_list ha).imp fun v σV H Q ⟨Z, σ, h, d, R, S, dS, r, q, f⟩ =>
  ⟨Z, σ, h, _, S, dS, q, fun Z1 d1 v1 h1 H1 k1 S1 r1 q1 => ⟨Z1, σ, h1, _, S1, dS.mono k1.same, q1, fun Z2 d2 v2 h2 H2 k2 S2 r2 q2 => by
    split at q2
    · next a k =>
      obtain rfl := den_ref r1
      obtain rfl := den_int r2
      split at q2
      · next l ea =>
        obtain ⟨u, hu, vs', rfl, dl⟩ := S2.hs a _ ea
        split at q2
        · next j ej =>
          have kk := k1.trans k2
          refine ⟨a, vs', k, j, rfl, rfl, hu, by rw [← dl.length]; exact ej, ?_⟩
          exact f Z2 σ σV _ _ (kk.trans (Kp.write ea)) (S2.put (o := .lst (l.set j d)) (S2.ds a _ ea) ⟨_, rfl, dl.set j (r.mono kk.same)⟩) (dS.mono kk.same) rfl q2
        · exact q2.elim
      · exact q2.elim
    · exact q2.elim⟩⟩
end
end T3

/-! T3: what is walked; built-ins; methods of lists. -/
namespace T3
open PySem PySem.Spec L2
open PyProof.Rows hiding St

/-! ### what is walked, by value -/
/-- the items of a list, a tuple, a text -/
def itOf (h : AH) : D → Option (List D)
  | .str x => some (x.cps.toList.map fun c => .str ⟨#[c]⟩)
  | d => seqOf h d
section
variable {X : Cx} {tg e : Expr} {te : TED} {ta : TAD} {pos p : Pos}
theorem walk_list {pins : List (Addr × Obj)} {s : Shared} {σ : L2.St} {H : Hp} {R : It → Hp → Prop} {a : Addr} {xs : List V} (inv : Inv X pins σ H s) (sq : SqL X.K H a xs) (want : R (Itl X.K a) H) : wpAny (model X.prog X.w) X.A (pyIter (.ref a)) (PIE X pins σ tg R) X.xe s := by
  obtain ⟨its, rv, plain, hz⟩ := inv.list sq
  refine wpAny_pyIter_list plain.isList ⟨s.heap.objs.size, [s.heap.objs.size], _, _, H, rfl, inv.kept (t' := s.toks) fun b o z => Heap.get?_push_of_some _ z, turn_list a _, ⟨_, Heap.get?_push_size _ rfl, rfl, rfl⟩, fun b hb => ?_, want⟩
  obtain rfl : b = s.heap.objs.size := by simpa using hb
  exact inv.fpOk (Nat.le_refl _) (inv.hok.fresh (Nat.le_refl _))
theorem walk_tup {pins : List (Addr × Obj)} {s : Shared} {σ : L2.St} {H : Hp} {R : It → Hp → Prop} {a : Addr} {xs : List V} (inv : Inv X pins σ H s) (sq : SqT X.K H a xs) (want : R (Itt X.K a) H) : wpAny (model X.prog X.w) X.A (pyIter (.ref a)) (PIE X pins σ tg R) X.xe s := by
  obtain ⟨its, rv, plain, hz⟩ := inv.tuple sq
  refine wpAny_pyIter_tuple (show s.heap.IsTuple a its.toArray from plain) ⟨s.heap.objs.size, [s.heap.objs.size], _, _, H, rfl, inv.kept (t' := s.toks) fun b o z => Heap.get?_push_of_some _ z, turn_tuple a _, ⟨_, Heap.get?_push_size _ rfl, rfl, rfl⟩, fun b hb => ?_, want⟩
  obtain rfl : b = s.heap.objs.size := by simpa using hb
  exact inv.fpOk (Nat.le_refl _) (inv.hok.fresh (Nat.le_refl _))
/-- a list, a tuple or a text, walked -/
def iAny (te : TED) : TID := fun σ h S => te σ h fun x h1 => match itOf h1 x with
  | some l => S l (fun h => itOf h x = some l) h1
  | none => False
/-- what the three iterators give -/
theorem yl_list {K : PySem.W.Frag} {Z : Hp} {x : D} {a : Addr} {l : List D} (hd : Den K Z x (.ref a)) (hn : ∀ y, x ≠ .tup y) (hs : ∀ y, x ≠ .str y) : Yl K Z l (fun h => itOf h x = some l) (Itl K a) := by
  have key : ∀ (Z' : Hp) h H, Same Z Z' → Sat K Z' h H → itOf h x = some l → ∃ vs, SqL K H a vs ∧ DenL K Z' l vs := by
    intro Z' h H e S q
    have q' : slOf h x = some l := by
      cases x <;> first | exact q | skip
      · exact absurd rfl (hs _)
      · exact absurd rfl (hn _)
    obtain ⟨b, vs, e1, dl, sq⟩ := slOf_den S (hd.mono e) q'
    cases e1
    exact ⟨vs, sq, dl⟩
  refine ⟨fun i d Z' h H hi e S q => ?_, fun Z' h H e S q => ?_⟩
  · obtain ⟨vs, sq, dl⟩ := key Z' h H e S q
    obtain ⟨v, hv, r⟩ := dl.get hi
    exact ⟨⟨vs, v, sq, hv⟩, fun x' H' ⟨eH, yx⟩ => ⟨Z', by subst eH; exact Kp.refl, by subst eH; exact S, by have := yx vs sq; rw [hv] at this; cases this; exact r⟩⟩
  · obtain ⟨vs, sq, dl⟩ := key Z' h H e S q
    exact ⟨vs, sq, by rw [dl.length]; exact Nat.le_refl _⟩
theorem yl_tup {K : PySem.W.Frag} {Z : Hp} {l : List D} {a : Addr} {vs : List V} (sq : SqT K Z a vs) (dl : DenL K Z l vs) {ok : AH → Prop} : Yl K Z l ok (Itt K a) := by
  refine ⟨fun i d Z' h H hi e S q => ?_, fun Z' h H e S q => ⟨vs, Same.sqt (e.trans S.zs) sq, by rw [dl.length]; exact Nat.le_refl _⟩⟩
  obtain ⟨v, hv, r⟩ := dl.get hi
  have sq' := Same.sqt (e.trans S.zs) sq
  exact ⟨⟨vs, v, sq', hv⟩, fun x' H' ⟨eH, yx⟩ => ⟨Z', by subst eH; exact Kp.refl, by subst eH; exact S, by have := yx vs sq'; rw [hv] at this; cases this; exact r.mono e⟩⟩
theorem yl_str {K : PySem.W.Frag} {Z : Hp} {x : Str} {ok : AH → Prop} : Yl K Z (x.cps.toList.map fun c => D.str ⟨#[c]⟩) ok (Its x) := by
  refine ⟨fun i d Z' h H hi e S q => ?_, fun Z' h H e S q => by show x.cps.size ≤ _; simp⟩
  rw [List.getElem?_map] at hi
  cases hc : x.cps.toList[i]? with
  | none => rw [hc] at hi; cases hi
  | some c =>
    rw [hc] at hi; cases hi
    have hi' : i < x.cps.size := by have := (List.getElem?_eq_some_iff.mp hc).1; simpa using this
    refine ⟨hi', fun x' H' ⟨eH, c', e1, e2⟩ => ⟨Z', by subst eH; exact Kp.refl, by subst eH; exact S, ?_⟩⟩
    have : x.cps[i]? = some c := by simpa using hc
    rw [this] at e1; cases e1; rw [e2]; exact dstr _
theorem yl_range {K : PySem.W.Frag} {Z : Hp} {lo : Int} {n : Nat} {ok : AH → Prop} : Yl K Z ((List.range n).map fun (i : Nat) => D.int (lo + (i : Int))) ok (Itr lo n) := by
  refine ⟨fun i d Z' h H hi e S q => ?_, fun Z' h H e S q => by show n ≤ _; simp⟩
  rw [List.getElem?_map] at hi
  cases hc : (List.range n)[i]? with
  | none => rw [hc] at hi; cases hi
  | some c =>
    rw [hc] at hi; cases hi
    obtain ⟨h1, h2⟩ := List.getElem?_eq_some_iff.mp hc
    rw [List.getElem_range] at h2
    subst h2
    refine ⟨by show i < n; simpa using h1, fun x' H' ⟨eH, e1⟩ => ⟨Z', by subst eH; exact Kp.refl, by subst eH; exact S, by rw [e1]; exact dint _⟩⟩
theorem si_any (he : SE X e te) : SI X tg e (iAny te) := ⟨fun pins s σV H R inv q => by
  obtain ⟨Z, σ, h, T, S, dS, q, f⟩ := q
  refine thn (he.run pins s σV H (fun v H1 => (∃ a xs, v = .ref a ∧ SqL X.K H1 a xs ∧ R (Itl X.K a) H1) ∨ (∃ a xs, v = .ref a ∧ SqT X.K H1 a xs ∧ R (Itt X.K a) H1) ∨ ∃ y, v = .str y ∧ R (Its y) H1) inv
    ⟨Z, σ, h, _, S, dS, q, fun Z1 d v h1 H1 k1 S1 r1 q1 => ?_⟩) fun u s1 ⟨v, H1, I1, r1, q1⟩ => ?_
  · split at q1
    · next l el =>
      cases d with
      | str y =>
        cases (show some (y.cps.toList.map fun c => D.str ⟨#[c]⟩) = some l from el)
        exact .inr (.inr ⟨y, den_str r1, f Z1 _ _ h1 H1 _ k1 S1 q1 yl_str⟩)
      | tup m =>
        cases (show some m = some l from el)
        unfold Den at r1
        obtain ⟨a, vs, rfl, sq, dl⟩ := r1
        exact .inr (.inl ⟨a, vs, rfl, S1.sqt sq, f Z1 _ _ h1 H1 _ k1 S1 q1 (yl_tup sq dl)⟩)
      | lst m =>
        obtain ⟨a, vs, rfl, dl, sq⟩ := slOf_den S1 r1 (show slOf h1 (.lst m) = some l from el)
        exact .inl ⟨a, vs, rfl, sq, f Z1 _ _ h1 H1 _ k1 S1 q1 (yl_list r1 (fun _ z => by cases z) (fun _ z => by cases z))⟩
      | lok m =>
        obtain ⟨a, vs, rfl, dl, sq⟩ := slOf_den S1 r1 (show slOf h1 (.lok m) = some l from el)
        exact .inl ⟨a, vs, rfl, sq, f Z1 _ _ h1 H1 _ k1 S1 q1 (yl_list r1 (fun _ z => by cases z) (fun _ z => by cases z))⟩
      | ref m =>
        obtain ⟨a, vs, rfl, dl, sq⟩ := slOf_den S1 r1 (show slOf h1 (.ref m) = some l from el)
        exact .inl ⟨a, vs, rfl, sq, f Z1 _ _ h1 H1 _ k1 S1 q1 (yl_list r1 (fun _ z => by cases z) (fun _ z => by cases z))⟩
      | _ => exact absurd (show (none : Option (List D)) = some l from el) (fun z => by cases z)
    · exact q1.elim
  · rcases q1 with ⟨a, xs, rfl, sq, w⟩ | ⟨a, xs, rfl, sq, w⟩ | ⟨y, rfl, w⟩
    · cases r1; exact walk_list I1 sq w
    · cases r1; exact walk_tup I1 sq w
    · obtain ⟨t, rfl⟩ := r1
      cases ha : y.cps.all (· < 128)
      · exact wpAny_pyIter_wide ha (pi_one (tk := s1.toks) I1 _ (turn_str _ y t "str_iterator" (.inr rfl)) ⟨_, Heap.get?_push_size _ rfl, rfl, rfl⟩ w)
      · exact wpAny_pyIter_ascii ha (pi_one (tk := s1.toks) I1 _ (turn_str _ y t "str_ascii_iterator" (.inl rfl)) ⟨_, Heap.get?_push_size _ rfl, rfl, rfl⟩ w)⟩
def rangeD (lo : Int) (n : Nat) : List D := (List.range n).map fun (i : Nat) => D.int (lo + (i : Int))
def iRng1 (ta : TAD) : TID := fun σ h S => ta σ h fun ds h1 => match ds with
  | [.int j] => (-(2 ^ 62) ≤ j ∧ j < 2 ^ 62) ∧ S (rangeD 0 j.toNat) (fun _ => True) h1
  | _ => False
def iRng2 (ta : TAD) : TID := fun σ h S => ta σ h fun ds h1 => match ds with
  | [.int i, .int j] => (-(2 ^ 62) ≤ i ∧ i < 2 ^ 62 ∧ -(2 ^ 62) ≤ j ∧ j < 2 ^ 62) ∧ S (rangeD i (j - i).toNat) (fun _ => True) h1
  | _ => False
theorem si_range1 (hg : Gl X "range") (hm : X.mg "range" = none) (ha : SA X [e] ta) (hs : starEach [e] X.env = [(false, eval e X.env)] := by rfl) : SI X tg (.Call (.Name "range" p) [e] [] pos) (T3.iRng1 ta) := (pi_range1 hg hm ha hs).imp fun σV H R ⟨Z, σ, h, T, S, dS, q, f⟩ =>
  ⟨Z, σ, h, _, S, dS, q, fun Z1 ds vs h1 H1 k1 S1 r1 q1 => by
    split at q1
    · next j =>
      obtain ⟨v, vs', rfl, r, r1⟩ := r1.cons_inv
      obtain rfl := r1.nil_inv
      obtain rfl := den_int r
      exact ⟨j, rfl, q1.1.1, q1.1.2, f Z1 _ _ h1 H1 _ k1 S1 q1.2 yl_range⟩
    · exact q1.elim⟩
theorem si_range2 {e2 : Expr} (hg : Gl X "range") (hm : X.mg "range" = none) (ha : SA X [e, e2] ta) (hs : starEach [e, e2] X.env = [(false, eval e X.env), (false, eval e2 X.env)] := by rfl) (hs2 : starEach [e2] X.env = [(false, eval e2 X.env)] := by rfl) : SI X tg (.Call (.Name "range" p) [e, e2] [] pos) (T3.iRng2 ta) := (pi_range2 hg hm ha hs hs2).imp fun σV H R ⟨Z, σ, h, T, S, dS, q, f⟩ =>
  ⟨Z, σ, h, _, S, dS, q, fun Z1 ds vs h1 H1 k1 S1 r1 q1 => by
    split at q1
    · next i j =>
      obtain ⟨v, vs', rfl, r, r1⟩ := r1.cons_inv
      obtain ⟨v', vs', rfl, r', r1⟩ := r1.cons_inv
      obtain rfl := r1.nil_inv
      obtain rfl := den_int r
      obtain rfl := den_int r'
      exact ⟨i, j, rfl, q1.1, f Z1 _ _ h1 H1 _ k1 S1 q1.2 yl_range⟩
    · exact q1.elim⟩
end

/-! ### built-ins by value -/
abbrev RLD := List D → AH → QD → Prop
def lC (K : PySem.W.Frag) (r : RLD) : List V → Hp → VK → Prop := fun vs H Q => ∃ (Z : Hp) (ds : List D) (h : AH) (R : QD), Sat K Z h H ∧ DenL K Z ds vs ∧ r ds h R ∧ ∀ Z' d v h' H', Kp Z h H Z' h' H' → Sat K Z' h' H' → Den K Z' d v → R d h' → Q v H'
def CallS (X : Cx) (f : Value) (r : RLD) : Prop := CallR X f (lC X.K r)
theorem _root_.L2.CallR.imp {X : Cx} {f : Value} {r r' : List V → Hp → VK → Prop} (p : CallR X f r) (g : ∀ xs H Q, r' xs H Q → r xs H Q) : CallR X f r' := by
  intro pins s σ H xs us Q inv rel q
  exact p pins s σ H xs us Q inv rel (g xs H Q q)
def tCB (r : RLD) (ta : TAD) : TED := fun σ h Q => ta σ h fun ds h1 => r ds h1 Q
section
variable {X : Cx} {e : Expr} {es : List Expr} {ta : TAD} {pos p : Pos} {x : Str} {id T : String} {r : RLD}
theorem lcb {K : PySem.W.Frag} {σV : L2.St} {H : Hp} {Q : VK} (q : lE K (T3.tCB r ta) σV H Q) : L2.tCB (lC K r) (lA K ta) σV H Q := by
  obtain ⟨Z, σ, h, R, S, dS, q, f⟩ := q
  exact ⟨Z, σ, h, _, S, dS, q, fun Z1 ds vs h1 H1 k1 S1 r1 q1 => ⟨Z1, ds, h1, R, S1, r1, q1, fun Z' d v h' H' x => f Z' d v h' H' (k1.trans x)⟩⟩
theorem se_callB (hc : CallS X (.builtin id) r) (hg : Gl X x) (hm : X.mg x = none) (hv : bootBuiltins x = some (.builtin id)) (ha : SA X (e :: es) ta) (hn : x ≠ "__name__" := by decide) (hdb : (x == ("__debug__" : Str)) = false := by decide)
    (h1 : starEach (e :: es) X.env = (false, eval e X.env) :: starEach es X.env := by rfl) (h2 : (backTo pos (starEach es X.env)).any (·.1) = false := by rfl) : SE X (.Call (.Name x p) (e :: es) [] pos) (T3.tCB r ta) := (pe_callB hc hg hm hv ha hn hdb h1 h2).imp fun _ _ _ q => lcb q
theorem se_callTy (hc : CallS X (.type T) r) (hg : Gl X x) (hm : X.mg x = none) (hv : bootBuiltins x = some (.type T)) (ha : SA X (e :: es) ta) (hn : x ≠ "__name__" := by decide) (hdb : (x == ("__debug__" : Str)) = false := by decide)
    (h1 : starEach (e :: es) X.env = (false, eval e X.env) :: starEach es X.env := by rfl) (h2 : (backTo pos (starEach es X.env)).any (·.1) = false := by rfl) : SE X (.Call (.Name x p) (e :: es) [] pos) (T3.tCB r ta) := (pe_callTy hc hg hm hv ha hn hdb h1 h2).imp fun _ _ _ q => lcb q
theorem one_inv {K : PySem.W.Frag} {Z : Hp} {d : D} {vs : List V} (q : DenL K Z [d] vs) : ∃ v, vs = [v] ∧ Den K Z d v := by
  obtain ⟨v, vs', rfl, r, r1⟩ := q.cons_inv
  obtain rfl := r1.nil_inv
  exact ⟨v, rfl, r⟩
theorem two_inv {K : PySem.W.Frag} {Z : Hp} {d d' : D} {vs : List V} (q : DenL K Z [d, d'] vs) : ∃ v v', vs = [v, v'] ∧ Den K Z d v ∧ Den K Z d' v' := by
  obtain ⟨v, vs', rfl, r, r1⟩ := q.cons_inv
  obtain ⟨v', rfl, r'⟩ := one_inv r1
  exact ⟨v, v', rfl, r, r'⟩
def lenR : RLD := fun ds h Q => match ds with
  | [.str z] => z.length ≤ sizeLine ∧ Q (.int z.length) h
  | [x] => match seqOf h x with
    | some l => Q (.int l.length) h
    | none => False
  | _ => False
theorem cs_len : CallS X (.builtin "len") lenR := call_len.imp fun vs H Q ⟨Z, ds, h, R, S, dl, q, f⟩ => by
  unfold lenR at q
  split at q
  · obtain ⟨v, rfl, r⟩ := one_inv dl
    obtain rfl := den_str r
    exact ⟨_, _, rfl, ⟨q.1, rfl⟩, f _ _ _ _ _ Kp.refl S (dint _) q.2⟩
  · obtain ⟨v, rfl, r⟩ := one_inv dl
    split at q
    · next l el =>
      obtain ⟨a, vs, rfl, dl, sq⟩ := seqOf_den S r el
      rw [dl.length] at q
      rcases sq with sq | sq
      · exact ⟨_, _, rfl, .inl ⟨vs, sq, rfl⟩, f _ _ _ _ _ Kp.refl S (dint _) q⟩
      · exact ⟨_, _, rfl, .inr ⟨vs, sq, rfl⟩, f _ _ _ _ _ Kp.refl S (dint _) q⟩
    · exact q.elim
  · exact q.elim
def absR : RLD := fun ds h Q => match ds with
  | [.int i] => Q (.int (if i < 0 then -i else i)) h
  | _ => False
theorem cs_abs : CallS X (.builtin "abs") absR := call_abs.imp fun vs H Q ⟨Z, ds, h, R, S, dl, q, f⟩ => by
  unfold absR at q
  split at q
  · obtain ⟨v, rfl, r⟩ := one_inv dl
    obtain rfl := den_int r
    exact ⟨_, rfl, f _ _ _ _ _ Kp.refl S (dint _) q⟩
  · exact q.elim
def intR1 : RLD := fun ds h Q => match ds with
  | [.int i] => Q (.int i) h
  | [.bl b] => Q (.int (if b then 1 else 0)) h
  | _ => False
theorem cs_int : CallS X (.type "int") intR1 := call_int1.imp fun vs H Q ⟨Z, ds, h, R, S, dl, q, f⟩ => by
  unfold intR1 at q
  split at q
  · obtain ⟨v, rfl, r⟩ := one_inv dl
    obtain rfl := den_int r
    exact .inl ⟨_, rfl, f _ _ _ _ _ Kp.refl S (dint _) q⟩
  · obtain ⟨v, rfl, r⟩ := one_inv dl
    obtain rfl := den_bl r
    exact .inr ⟨_, rfl, f _ _ _ _ _ Kp.refl S (dint _) q⟩
  · exact q.elim
def blsOf : List D → Option (List Bool)
  | [] => some []
  | .bl b :: l => match blsOf l with
    | some bs => some (b :: bs)
    | none => none
  | _ :: _ => none
theorem bls_den {K : PySem.W.Frag} {Z : Hp} : ∀ {l : List D} {bs : List Bool} {vs : List V}, blsOf l = some bs → DenL K Z l vs → vs = bs.map V.bl
  | [], bs, vs, e, q => by cases e; rw [q.nil_inv]; rfl
  | .bl b :: l, bs, vs, e, q => by
    unfold blsOf at e
    split at e
    · next cs ec =>
      cases e
      obtain ⟨v, r, rfl, a, b'⟩ := q.cons_inv
      rw [den_bl a, bls_den ec b']; rfl
    · cases e
  | .non :: _, _, _, e, _ | .int _ :: _, _, _, e, _ | .str _ :: _, _, _, e, _ | .tup _ :: _, _, _, e, _ | .lst _ :: _, _, _, e, _ | .lok _ :: _, _, _, e, _ | .ins _ _ :: _, _, _, e, _ | .ref _ :: _, _, _, e, _ => by cases e
theorem blsOf_map : ∀ bs : List Bool, blsOf (bs.map D.bl) = some bs
  | [] => rfl
  | b :: bs => by rw [List.map_cons]; unfold blsOf; rw [blsOf_map bs]
def allR (g : List Bool → Bool) : RLD := fun ds h Q => match ds with
  | [x] => match slOf h x with
    | some l => match blsOf l with
      | some bs => Q (.bl (g bs)) h
      | none => False
    | none => False
  | _ => False
theorem cs_allg {f : Value} {g : List Bool → Bool} (o : CallR X f (fun vs H Q => ∃ (a : Addr) (bs : List Bool), vs = [V.ref a] ∧ SqL X.K H a (bs.map V.bl) ∧ Q (.bl (g bs)) H)) : CallS X f (allR g) := o.imp fun vs H Q ⟨Z, ds, h, R, S, dl, q, f⟩ => by
  unfold allR at q
  split at q
  · obtain ⟨v, rfl, r⟩ := one_inv dl
    split at q
    · next l el =>
      split at q
      · next bs eb =>
        obtain ⟨a, vs, rfl, dl, sq⟩ := slOf_den S r el
        rw [bls_den eb dl] at sq
        exact ⟨a, bs, rfl, sq, f _ _ _ _ _ Kp.refl S (dbl _) q⟩
      · exact q.elim
    · exact q.elim
  · exact q.elim
theorem cs_all (hc : X.calm = true) : CallS X (.builtin "all") (allR fun bs => bs.all fun b => b) := cs_allg (cr_all hc)
theorem cs_any (hc : X.calm = true) : CallS X (.builtin "any") (allR fun bs => bs.any fun b => b) := cs_allg (cr_any hc)
def minR : RLD := fun ds h Q => match ds with
  | [.int i, .int j] => Q (.int (if j < i then j else i)) h
  | _ => False
theorem cs_min (hc : X.calm = true) : CallS X (.builtin "min") minR := (call_min2 hc).imp fun vs H Q ⟨Z, ds, h, R, S, dl, q, f⟩ => by
  unfold minR at q
  split at q
  · obtain ⟨v, v', rfl, r, r'⟩ := two_inv dl
    obtain rfl := den_int r
    obtain rfl := den_int r'
    exact ⟨_, _, rfl, f _ _ _ _ _ Kp.refl S (dint _) q⟩
  · exact q.elim
def tupR : RLD := fun ds h Q => match ds with
  | [x] => match seqOf h x with
    | some l => Q (.tup l) h
    | none => False
  | _ => False
theorem cs_tuple : CallS X (.type "tuple") tupR := call_tuple_of.imp fun vs H Q ⟨Z, ds, h, R, S, dl, q, f⟩ => by
  unfold tupR at q
  split at q
  · next x =>
    obtain ⟨v, rfl, r⟩ := one_inv dl
    split at q
    · next l el =>
      by_cases hx : ∃ m, x = .tup m
      · obtain ⟨m, rfl⟩ := hx
        cases (show some m = some l from el)
        have r' := r
        unfold Den at r
        obtain ⟨a, vs, rfl, sq, dl⟩ := r
        exact ⟨a, vs, rfl, .inr ⟨S.sqt sq, f _ _ _ _ _ Kp.refl S r' q⟩⟩
      · have el' : slOf h x = some l := by
          cases x <;> first | exact el | exact absurd ⟨_, rfl⟩ hx
        obtain ⟨a, vs, rfl, dl, sq⟩ := slOf_den S r el'
        exact ⟨a, vs, rfl, .inl ⟨sq, fun p hp => new_tup S dl hp q f⟩⟩
    · exact q.elim
  · exact q.elim
def listR : RLD := fun ds h Q => match ds with
  | [x] => match seqOf h x with
    | some l => Q (.lst l) h
    | none => False
  | _ => False
def listRM : RLD := fun ds h Q => match ds with
  | [x] => match seqOf h x with
    | some l => ∀ p, h p = none → Q (.ref p) (ud h p (.lst l))
    | none => False
  | _ => False
theorem cs_list : CallS X (.type "list") listR := call_list_of.imp fun vs H Q ⟨Z, ds, h, R, S, dl, q, f⟩ => by
  unfold listR at q
  split at q
  · next x =>
    obtain ⟨v, rfl, r⟩ := one_inv dl
    split at q
    · next l el =>
      obtain ⟨a, vs, rfl, dl, sq⟩ := seqOf_den S r el
      exact ⟨a, vs, rfl, sq, fun p hp => new_lst S dl hp q f⟩
    · exact q.elim
  · exact q.elim
theorem cs_listM : CallS X (.type "list") listRM := call_list_of.imp fun vs H Q ⟨Z, ds, h, R, S, dl, q, f⟩ => by
  unfold listRM at q
  split at q
  · next x =>
    obtain ⟨v, rfl, r⟩ := one_inv dl
    split at q
    · next l el =>
      obtain ⟨a, vs, rfl, dl, sq⟩ := seqOf_den S r el
      exact ⟨a, vs, rfl, sq, fun p hp => new_ref S dl hp q f⟩
    · exact q.elim
  · exact q.elim
end
end T3

/-! T3: isinstance; methods of lists. -/
namespace T3
open PySem PySem.Spec L2
open PyProof.Rows hiding St

/-! ### isinstance -/
def tyOf (h : AH) : D → Option String
  | .non => some "NoneType"
  | .bl _ => some "bool"
  | .int _ => some "int"
  | .str _ => some "str"
  | .tup _ => some "tuple"
  | .lst _ => some "list"
  | .lok _ => some "list"
  | .ins _ _ => none
  | .ref a => match h a with
    | some (.lst _) => some "list"
    | _ => none
theorem tyx_of {K : PySem.W.Frag} {Z H : Hp} {h : AH} {d : D} {v : V} {n : String} (S : Sat K Z h H) (r : Den K Z d v) (e : tyOf h d = some n) : TyX K H v (.type n) := by
  cases d with
  | non => cases e; rw [den_non r]; exact .base .non
  | bl b => cases e; rw [den_bl r]; exact .base (.bl b)
  | int b => cases e; rw [den_int r]; exact .base (.int b)
  | str b => cases e; rw [den_str r]; exact .base (.str b)
  | tup l =>
    cases e
    unfold Den at r
    obtain ⟨a, vs, rfl, sq, dl⟩ := r
    rcases sq with (z | ⟨o, z⟩) | ⟨o, its, m, hk, hc, _⟩
    · exact .base (.tup (S.zs _ _ z))
    · exact .fTuple (S.zs _ _ z)
    · exact .kTuple hk hc
  | lst l =>
    cases e
    unfold Den at r
    obtain ⟨a, vs, rfl, z, dl⟩ := r
    exact .base (.lst (S.zs _ _ z))
  | lok l =>
    cases e
    unfold Den at r
    obtain ⟨a, vs, rfl, sq, dl⟩ := r
    rcases sq with (z | ⟨o, z⟩) | ⟨o, its, m, hk, hc, _⟩
    · exact .base (.lst (S.zs _ _ z))
    · exact .base (.frz (S.zs _ _ z))
    · exact .kList hk hc
  | ins C fs => cases e
  | ref a =>
    unfold tyOf at e
    simp only at e
    split at e
    · next l ea =>
      cases e
      obtain rfl := den_ref r
      obtain ⟨u, hu, vs, rfl, dl⟩ := S.hs a _ ea
      exact .base (.lst hu)
    · cases e
def isTab (n T : String) : Bool := n == T || (n == "bool" && T == "int")
def tyNames : List String := ["NoneType", "bool", "int", "str", "tuple", "list"]
def toNames : List String := ["bool", "int", "str", "tuple", "list"]
theorem tyOf_mem {h : AH} {d : D} {n : String} (e : tyOf h d = some n) : n ∈ tyNames := by
  cases d <;> unfold tyOf at e <;> first | (cases e <;> decide) | skip
  simp only at e
  split at e
  · cases e; decide
  · cases e
theorem kitTab {K : PySem.W.Frag} : ∀ n ∈ tyNames, ∀ T ∈ toNames, PySem.W.kitOne K (.type n) (.type T) = some (isTab n T) := by
  have e : ∀ n ∈ tyNames, ∀ T ∈ toNames, kitB n T = some (isTab n T) := by decide +kernel
  exact fun n hn T hT => kit_ty (e n hn T hT)
/-- what is known of an own class beside built-in ones -/
structure ClsI (K : PySem.W.Frag) (C : Addr) : Prop where
  cls : Cls K C
  ha : PySem.W.findIn K (.ref C) "__class__" = some (some (.builtin "object.__class__"))
  hn : PySem.W.specialIn K (.builtin "object.__class__") "__get__" = some (some (.builtin "getset_descriptor.__get__"))
  tk : PySem.W.takesIn K (.builtin "object.__class__") = some true
  mro : PySem.W.mroIn K C (.type "object") = some true
theorem ins_ty {K : PySem.W.Frag} {Z H : Hp} {h : AH} {d : D} {v : V} {C : Addr} {fl : List (Str × D)} (S : Sat K Z h H) (r : Den K Z d v) (e : insOf h d = some (C, fl)) (I : ClsI K C) : TyX K H v (.ref C) := by
  obtain ⟨a, dx, vf, rfl, z, _⟩ := insOf_den S r e
  exact .base (.ins z I.cls I.ha I.hn I.tk I.mro)
/-- isinstance(x, T), T a built-in type; ok: own classes that are known to be none -/
def isR (ok : Addr → Prop) (T : String) : D → AH → QD → Prop := fun x h Q => match tyOf h x with
  | some n => Q (.bl (isTab n T)) h
  | none => match insOf h x with
    | some (C, _) => ok C ∧ Q (.bl false) h
    | none => False
/-- isinstance(x, (T, U)) -/
def isR2 (ok : Addr → Prop) (T U : String) : D → AH → QD → Prop := fun x h Q => match tyOf h x with
  | some n => Q (.bl (isTab n T || isTab n U)) h
  | none => match insOf h x with
    | some (C, _) => ok C ∧ Q (.bl false) h
    | none => False
/-- isinstance(x, C), C an own class -/
def isRC (C : Addr) : D → AH → QD → Prop := fun x h Q => match tyOf h x with
  | some _ => Q (.bl false) h
  | none => match insOf h x with
    | some (C', _) => C' = C ∧ Q (.bl true) h
    | none => False
def tIsi (r : D → AH → QD → Prop) (te : TED) : TED := fun σ h Q => te σ h fun x h1 => r x h1 Q
section
variable {X : Cx} {e : Expr} {te : TED} {pos p p2 p3 p4 : Pos} {ok : Addr → Prop} {C : Addr}
theorem bty {x : Str} {T : String} (hg : Gl X x) (hm : X.mg x = none) (hv : bootBuiltins x = some (.type T)) (hn : x ≠ "__name__" := by decide) (hd : (x == ("__debug__" : Str)) = false := by decide) : PE X (.Name x pos) (L2.tC (.ty T)) := pe_bltn hg hm hv rfl hn hd
theorem se_isi {x : Str} {T : String} (hT : T ∈ toNames) (hok : ∀ C, ok C → ClsI X.K C ∧ PySem.W.kitOne X.K (.ref C) (.type T) = some false) (hg : Gl X "isinstance") (hm : X.mg "isinstance" = none) (he : SE X e te)
    (hg2 : Gl X x) (hm2 : X.mg x = none) (hv : bootBuiltins x = some (.type T)) (hn : x ≠ "__name__" := by decide) (hd : (x == ("__debug__" : Str)) = false := by decide)
    (h1 : starEach [e, .Name x p2] X.env = (false, eval e X.env) :: starEach [.Name x p2] X.env := by rfl) (h2 : starEach [.Name x p2] X.env = (false, eval (.Name x p2) X.env) :: starEach [] X.env := by rfl) (h3 : (backTo pos (starEach [.Name x p2] X.env)).any (·.1) = false := by rfl) :
    SE X (.Call (.Name "isinstance" p) [e, .Name x p2] [] pos) (tIsi (isR ok T) te) :=
  (pe_callB call_isi hg hm PyProof.Rows.boot_isinstance (pa_cons he (pa_cons (bty hg2 hm2 hv hn hd) pa_nil h2) h1) (by decide) (by decide) h1 h3).imp fun σV H Q ⟨Z, σ, h, R, S, dS, q, f⟩ => ⟨Z, σ, h, _, S, dS, q, fun Z1 d v h1 H1 k1 S1 r1 q1 => by
    unfold isR at q1
    split at q1
    · next n en => exact ⟨v, .ty T, .type n, .type T, isTab n T, rfl, .ty T, tyx_of S1 r1 en, kitTab n (tyOf_mem en) T hT, f _ _ _ _ _ k1 S1 (dbl _) q1⟩
    · split at q1
      · next C fl ei => exact ⟨v, .ty T, .ref C, .type T, false, rfl, .ty T, ins_ty S1 r1 ei (hok C q1.1).1, (hok C q1.1).2, f _ _ _ _ _ k1 S1 (dbl _) q1.2⟩
      · exact q1.elim⟩
theorem kitTab2 {K : PySem.W.Frag} {n T U : String} (hn : n ∈ tyNames) (hT : T ∈ toNames) (hU : U ∈ toNames) : PySem.W.kitAny K (.type n) [.type T, .type U] = some (isTab n T || isTab n U) :=
  kitAny_cons (kitTab n hn T hT) (fun e => by rw [e, Bool.false_or]; exact kitAny_cons (kitTab n hn U hU) (fun e => by rw [e]; exact kitAny_nil) (fun e => e)) (fun e => by rw [e]; rfl)
theorem se_isi2 {x y : Str} {T U : String} {kk : Nat} (hT : T ∈ toNames) (hU : U ∈ toNames) (hok : ∀ C, ok C → ClsI X.K C ∧ PySem.W.kitOne X.K (.ref C) (.type T) = some false ∧ PySem.W.kitOne X.K (.ref C) (.type U) = some false) (hg : Gl X "isinstance") (hm : X.mg "isinstance" = none) (he : SE X e te)
    (hg2 : Gl X x) (hm2 : X.mg x = none) (hv : bootBuiltins x = some (.type T)) (hg3 : Gl X y) (hm3 : X.mg y = none) (hv3 : bootBuiltins y = some (.type U))
    (hn : x ≠ "__name__" := by decide) (hd : (x == ("__debug__" : Str)) = false := by decide) (hn3 : y ≠ "__name__" := by decide) (hd3 : (y == ("__debug__" : Str)) = false := by decide)
    (h1 : starEach [e, .Tuple [.Name x p2, .Name y p3] kk p4] X.env = (false, eval e X.env) :: starEach [.Tuple [.Name x p2, .Name y p3] kk p4] X.env := by rfl) (h2 : starEach [.Tuple [.Name x p2, .Name y p3] kk p4] X.env = (false, eval (.Tuple [.Name x p2, .Name y p3] kk p4) X.env) :: starEach [] X.env := by rfl)
    (h3 : (backTo pos (starEach [.Tuple [.Name x p2, .Name y p3] kk p4] X.env)).any (·.1) = false := by rfl) (h4 : starEach [.Name x p2, .Name y p3] X.env = (false, eval (.Name x p2) X.env) :: starEach [.Name y p3] X.env := by rfl) (h5 : starEach [.Name y p3] X.env = (false, eval (.Name y p3) X.env) :: starEach [] X.env := by rfl) :
    SE X (.Call (.Name "isinstance" p) [e, .Tuple [.Name x p2, .Name y p3] kk p4] [] pos) (tIsi (isR2 ok T U) te) :=
  (pe_callB call_isiT hg hm PyProof.Rows.boot_isinstance (pa_cons he (pa_cons (pe_tup (pa_cons (bty hg2 hm2 hv hn hd) (pa_cons (bty hg3 hm3 hv3 hn3 hd3) pa_nil h5) h4)) pa_nil h2) h1) (by decide) (by decide) h1 h3).imp fun σV H Q ⟨Z, σ, h, R, S, dS, q, f⟩ => ⟨Z, σ, h, _, S, dS, q, fun Z1 d v h1 H1 k1 S1 r1 q1 => by
    refine ⟨by show 2 ≤ sizeLine; decide, fun t ht => ?_⟩
    obtain ⟨eZ, S2⟩ := S1.newZ (u := .tup [.ty T, .ty U]) ht
    have k2 := k1.trans (Kp.newZ (u := .tup [.ty T, .ty U]) ht (S1.fresh ht).2)
    have r2 := r1.mono eZ
    unfold isR2 at q1
    split at q1
    · next n en => exact ⟨v, t, [.ty T, .ty U], .type n, [.type T, .type U], _, rfl, upd_same, .cons (.ty T) (.cons (.ty U) .nil), tyx_of S2 r2 en, kitTab2 (tyOf_mem en) hT hU, f _ _ _ _ _ k2 S2 (dbl _) q1⟩
    · split at q1
      · next C fl ei => exact ⟨v, t, [.ty T, .ty U], .ref C, [.type T, .type U], false, rfl, upd_same, .cons (.ty T) (.cons (.ty U) .nil), ins_ty S2 r2 ei (hok C q1.1).1, kitAny_cons (hok C q1.1).2.1 (fun _ => kitAny_cons (hok C q1.1).2.2 (fun _ => kitAny_nil) (fun z => z)) (fun z => z), f _ _ _ _ _ k2 S2 (dbl _) q1.2⟩
      · exact q1.elim⟩
theorem se_isiC {x : Str} (hC : ClsI X.K C) (hB : ∀ n ∈ tyNames, PySem.W.kitOne X.K (.type n) (.ref C) = some false) (hS : PySem.W.kitOne X.K (.ref C) (.ref C) = some true) (hg : Gl X "isinstance") (hm : X.mg "isinstance" = none) (he : SE X e te)
    (hg2 : Gl X x) (hm2 : X.mg x = some (.ref C)) (hd : (x == ("__debug__" : Str)) = false := by decide)
    (h1 : starEach [e, .Name x p2] X.env = (false, eval e X.env) :: starEach [.Name x p2] X.env := by rfl) (h2 : starEach [.Name x p2] X.env = (false, eval (.Name x p2) X.env) :: starEach [] X.env := by rfl) (h3 : (backTo pos (starEach [.Name x p2] X.env)).any (·.1) = false := by rfl) :
    SE X (.Call (.Name "isinstance" p) [e, .Name x p2] [] pos) (tIsi (isRC C) te) :=
  (pe_callB call_isi hg hm PyProof.Rows.boot_isinstance (pa_cons he (pa_cons (pe_glob (v := .ref C) hg2 hm2 rfl hd) pa_nil h2) h1) (by decide) (by decide) h1 h3).imp fun σV H Q ⟨Z, σ, h, R, S, dS, q, f⟩ => ⟨Z, σ, h, _, S, dS, q, fun Z1 d v h1 H1 k1 S1 r1 q1 => by
    unfold isRC at q1
    split at q1
    · next n en => exact ⟨v, .ref C, .type n, .ref C, false, rfl, .own C, tyx_of S1 r1 en, hB n (tyOf_mem en), f _ _ _ _ _ k1 S1 (dbl _) q1⟩
    · split at q1
      · next C' fl ei =>
        obtain ⟨rfl, q1⟩ := q1
        exact ⟨v, .ref C', .ref C', .ref C', true, rfl, .own C', ins_ty S1 r1 ei hC, hS, f _ _ _ _ _ k1 S1 (dbl _) q1⟩
      · exact q1.elim⟩
end

/-! ### methods of lists -/
abbrev RMD := D → List D → AH → QD → Prop
def lM (K : PySem.W.Frag) (r : RMD) : V → List V → Hp → VK → Prop := fun xv vs H Q => ∃ (Z : Hp) (x : D) (ds : List D) (h : AH) (R : QD), Sat K Z h H ∧ Den K Z x xv ∧ DenL K Z ds vs ∧ r x ds h R ∧ ∀ Z' d v h' H', Kp Z h H Z' h' H' → Sat K Z' h' H' → Den K Z' d v → R d h' → Q v H'
theorem MtR.imp {X : Cx} {id : String} {r r' : V → List V → Hp → VK → Prop} (p : MtR X id r) (g : ∀ x xs H Q, r' x xs H Q → r x xs H Q) : MtR X id r' := by
  intro pins s σ H x xs v us Q inv rx rel q
  exact p pins s σ H x xs v us Q inv rx rel (g x xs H Q q)
def isTy (T : String) (h : AH) (d : D) : Prop := match d with
  | .str _ => T = "str"
  | .int _ => T = "int"
  | d => T = "list" ∧ (slOf h d).isSome = true
def tBM (T : String) (r : RMD) (to : TED) (ta : TAD) : TED := fun σ h Q => to σ h fun x h1 => isTy T h1 x ∧ ta σ h1 fun ds h2 => r x ds h2 Q
theorem isTy_v {K : PySem.W.Frag} {Z H : Hp} {h : AH} {d : D} {v : V} {T : String} (S : Sat K Z h H) (r : Den K Z d v) (e : isTy T h d) : tyV K T v H := by
  have key : T = "list" ∧ (slOf h d).isSome = true → tyV K T v H := by
    rintro ⟨rfl, hs⟩
    obtain ⟨l, el⟩ := Option.isSome_iff_exists.mp hs
    obtain ⟨a, vs, rfl, dl, sq⟩ := slOf_den S r el
    exact .inl ⟨rfl, vs, sq⟩
  cases d with
  | str y => rw [den_str r]; exact e
  | int y => rw [den_int r]; exact e
  | _ => exact key e
section
variable {X : Cx} {o e : Expr} {es : List Expr} {to : TED} {ta : TAD} {apos cpos : Pos} {T id : String} {name : Str} {r : RMD}
theorem lbm {K : PySem.W.Frag} {σV : L2.St} {H : Hp} {Q : VK} (q : lE K (T3.tBM T r to ta) σV H Q) : L2.tBM K T (lM K r) (lE K to) (lA K ta) σV H Q := by
  obtain ⟨Z, σ, h, R, S, dS, q, f⟩ := q
  exact ⟨Z, σ, h, _, S, dS, q, fun Z1 d v h1 H1 k1 S1 r1 q1 => ⟨isTy_v S1 r1 q1.1, Z1, σ, h1, _, S1, dS.mono k1.same, q1.2, fun Z2 ds vs h2 H2 k2 S2 r2 q2 =>
    ⟨Z2, d, ds, h2, R, S2, r1.mono k2.same, r2, q2, fun Z' d v h' H' x => f Z' d v h' H' ((k1.trans k2).trans x)⟩⟩⟩
theorem se_bm (pa : PlainAttrs T) (slot : Slot T name id) (hty : typeOf (.builtin id) = pure (.type "method_descriptor")) (hm : MtR X id (lM X.K r)) (ho : SE X o to) (ha : SA X (e :: es) ta)
    (hb : attributeBase o name X.env (eval o X.env) = eval o X.env := by rfl) (hf : ((backTo cpos (starEach (e :: es) X.env)).all (fun x => !x.1) && (backToKw cpos (keywordEach [] X.env)).all (fun x => x.1.isSome) && decide ((e :: es).length + ([] : List Keyword).length + (if ([] : List Keyword).isEmpty then 0 else 1) < 30)) = true := by rfl)
    (hl : (apos.endLine == cpos.line) = true := by rfl) (hs : starEach (e :: es) X.env = (false, eval e X.env) :: starEach es X.env := by rfl) (hp : (backTo cpos (starEach es X.env)).any (·.1) = false := by rfl) :
    SE X (.Call (.Attribute o name apos) (e :: es) [] cpos) (T3.tBM T r to ta) := (pe_bm pa slot hty hm ho ha hb hf hl hs hp).imp fun _ _ _ q => lbm q
theorem se_bm0 (pa : PlainAttrs T) (slot : Slot T name id) (hty : typeOf (.builtin id) = pure (.type "method_descriptor")) (hm : MtR X id (lM X.K r)) (ho : SE X o to)
    (hb : attributeBase o name X.env (eval o X.env) = eval o X.env := by rfl) (hl : (apos.endLine == cpos.line) = true := by rfl) : SE X (.Call (.Attribute o name apos) [] [] cpos) (T3.tBM T r to T3.tNil) := (pe_bm0 pa slot hty hm ho hb hl).imp fun σV H Q q => by
  obtain ⟨Z, σ, h, R, S, dS, q, f⟩ := q
  exact ⟨Z, σ, h, _, S, dS, q, fun Z1 d v h1 H1 k1 S1 r1 q1 => ⟨isTy_v S1 r1 q1.1, Z1, d, [], h1, R, S1, r1, denL_nil, q1.2, fun Z' d v h' H' x => f Z' d v h' H' (k1.trans x)⟩⟩
def appR : RMD := fun x ds h Q => match x, ds with
  | .ref a, [y] => match h a with
    | some (.lst l) => l.length < sizeLine ∧ Q .non (ud h a (.lst (l ++ [y])))
    | _ => False
  | _, _ => False
theorem ms_append : MtR X "list.append" (lM X.K appR) := MtR.imp mt_append fun xv vs H Q ⟨Z, x, ds, h, R, S, rx, dl, q, f⟩ => by
  unfold appR at q
  split at q
  · next a y =>
    split at q
    · next l ea =>
      obtain rfl := den_ref rx
      obtain ⟨v, rfl, r⟩ := one_inv dl
      obtain ⟨u, hu, us, rfl, dl⟩ := S.hs a _ ea
      exact ⟨a, us, v, rfl, rfl, hu, by rw [← dl.length]; exact q.1, f _ _ _ _ _ (Kp.write ea) (S.put (o := .lst (l ++ [y])) (S.ds a _ ea) ⟨_, rfl, dl.append (denL_one r)⟩) dnon q.2⟩
    · exact q.elim
  · exact q.elim
def popR : RMD := fun x ds h Q => match x, ds with
  | .ref a, [] => match h a with
    | some (.lst l) => match l[l.length - 1]? with
      | some y => Q y (ud h a (.lst l.dropLast))
      | none => False
    | _ => False
  | _, _ => False
theorem DenL.dropLast {K : PySem.W.Frag} {Z : Hp} {l : List D} {vs : List V} (q : DenL K Z l vs) : DenL K Z l.dropLast vs.dropLast := by
  rw [List.dropLast_eq_take, List.dropLast_eq_take, q.length]
  exact q.take _
theorem ms_pop : MtR X "list.pop" (lM X.K popR) := MtR.imp mt_pop fun xv vs H Q ⟨Z, x, ds, h, R, S, rx, dl, q, f⟩ => by
  unfold popR at q
  split at q
  · next a =>
    split at q
    · next l ea =>
      split at q
      · next y ey =>
        obtain rfl := den_ref rx
        obtain rfl := dl.nil_inv
        obtain ⟨u, hu, us, rfl, dl⟩ := S.hs a _ ea
        obtain ⟨v, ev, r⟩ := dl.get ey
        rw [dl.length] at ev
        exact ⟨a, us, v, rfl, rfl, hu, ev, f _ _ _ _ _ (Kp.write ea) (S.put (o := .lst l.dropLast) (S.ds a _ ea) ⟨_, rfl, dl.dropLast⟩) r q⟩
      · exact q.elim
    · exact q.elim
  · exact q.elim
end
end T3

/-! T3: set(xs) of ints and texts, sorted(..) of it; sorted(xs) of data. -/
namespace T3
open PySem PySem.Spec L2
open PyProof.Rows hiding St

/-! ### the set of keys at a -/
def kOf (e : Int × Value) : Key := match e.2 with
  | .int k _ => .inl k
  | .str x _ => .inr x
  | _ => .inl 0
def memK (j : Key) (l : List Key) : Bool := l.any fun i => decide (i = j)
theorem memK_iff {j : Key} {l : List Key} : memK j l = true ↔ j ∈ l := by
  unfold memK
  rw [List.any_eq_true]
  constructor
  · rintro ⟨x, h1, h2⟩
    rw [← of_decide_eq_true h2]; exact h1
  · intro h; exact ⟨j, h, decide_eq_true rfl⟩
def KeyE (w : World) (e : Int × Value) : Prop := ∃ k : Key, keyIs k e.2 = true ∧ e.1 = keyH w k
theorem KeyE.kOf {w : World} {e : Int × Value} {k : Key} (h : keyIs k e.2 = true) : kOf e = k := by
  obtain ⟨c, v⟩ := e
  rcases keyIs_shape h with ⟨i, t, rfl, q⟩ | ⟨x, t, rfl, q⟩ <;> (cases q; rfl)
/-- its members (by S), their number; its table can be walked -/
def KSet (w : World) (h : Heap) (a : Addr) (S : Key → Bool) (n : Nat) : Prop :=
  ∃ o es ep t, h.get? a = some o ∧ o.ExactSet ∧ o.data = .set es ep t ∧ (∀ e ∈ es.toList, KeyE w e) ∧ (es.toList.map kOf).Nodup ∧ (∀ k, S k = true ↔ k ∈ es.toList.map kOf) ∧
    es.size < scanBound ∧ t.fits es.size = true ∧ es.size = n ∧ Ris t.place.toList ∧ (w.params.followText "set-order" = true ∨ t.led = true)
section
variable {P : Program} {w : World} {h h' : Heap} {a : Addr} {S : Key → Bool} {n : Nat}
theorem KSet.stay (R : KSet w h a S n) (k : ∀ o, h.get? a = some o → h'.get? a = some o) : KSet w h' a S n :=
  let ⟨o, es, ep, t, ho, r⟩ := R; ⟨o, es, ep, t, k o ho, r⟩
theorem KSet.same {S' : Key → Bool} (R : KSet w h a S n) (e : ∀ k, S' k = S k) : KSet w h a S' n := (funext e : S' = S) ▸ R
theorem keyE_elems {l : List (Int × Value)} (g : ∀ e ∈ l, KeyE w e) : ElemsOf (mixKind P w) l := fun e he => by
  obtain ⟨k, h1, h2⟩ := g e he
  refine ⟨⟨k, h1, h2⟩, ?_⟩
  rcases keyIs_shape h1 with ⟨i, t, _, q⟩ | ⟨x, t, _, q⟩ <;> (rw [q]; rfl)
theorem keyE_is {e : Int × Value} (g : KeyE w e) (k : Key) : (mixKind P w).is k e.2 = true ↔ kOf e = k := by
  obtain ⟨k0, h1, _⟩ := g
  rw [mixKind_is, KeyE.kOf (w := w) h1]
  constructor
  · intro h2; exact (KeyE.kOf (w := w) h1).symm.trans (KeyE.kOf (w := w) h2)
  · intro q; rw [← q]; exact h1
theorem keyE_mem {l : List (Int × Value)} (g : ∀ e ∈ l, KeyE w e) (k : Key) : k ∈ l.map kOf ↔ ∃ e ∈ l, (mixKind P w).is k e.2 = true :=
  ⟨fun z => let ⟨e, he, q⟩ := List.mem_map.mp z; ⟨e, he, (keyE_is (g e he) k).mpr q⟩, fun ⟨e, he, q⟩ => List.mem_map.mpr ⟨e, he, (keyE_is (g e he) k).mp q⟩⟩
end

section
variable {P : Program} {w : World} {A : Around} {E : Value → Shared → Prop} {s : Shared} {a : Addr} {S : Key → Bool} {n : Nat}
theorem kset_tail {gv : Bool → Sem Unit} (hgv : ∀ (b : Bool) (u : Shared) (Q' : Unit → Shared → Prop), Q' () u → wpAny (model P w) A (gv b) Q' E u)
    {o : Obj} {es : Array (Int × Value)} {ep : Nat} {t : SetTable} (ho : s.heap.get? a = some o) (hx : o.ExactSet) (hd : o.data = .set es ep t)
    {fs : Array (Int × Value)} {t2 : SetTable} {S' : Key → Bool} (gd : ∀ e ∈ fs.toList, KeyE w e) (nd : (fs.toList.map kOf).Nodup) (me : ∀ k, S' k = true ↔ k ∈ fs.toList.map kOf)
    (bd : fs.size < scanBound) (ft : t2.fits fs.size = true) (ri : Ris t2.place.toList) (ld : w.params.followText "set-order" = true ∨ t2.led = true) {wd : Bool} {R : Option Bool → Shared → Prop}
    (hR : ∀ h', Heap.SameBut a s.heap h' → KSet w h' a S' fs.size → R (some true) { s with heap := h' }) :
    wpAny (model P w) A (do storeSet a fs t2; if (!wd && t2.tooFull) = true then do { gv (relayAll t2 fs (SetTable.grown fs.size)).2.2; storeSet a (relayAll t2 fs (SetTable.grown fs.size)).1 (relayAll t2 fs (SetTable.grown fs.size)).2.1; pure (some true) } else pure (some true)) R E s := by
  refine wpAny_bind (wpAny_storeSet_of ho hd ?_ (fits_of_scanBound bd))
  have hs1 := store_at (es' := fs) (t' := t2) ho hd
  have sb := Heap.SameBut.update s.heap a (Obj.putSet fs t2)
  by_cases full : (!wd && t2.tooFull) = true
  · rw [if_pos full]
    have r1 := relayAll_perm t2 fs (SetTable.grown fs.size)
    have r2 := relayAll_fits t2 fs (SetTable.grown fs.size)
    have r3 := relayAll_ris t2 fs (SetTable.grown fs.size)
    have r4 := relayAll_led t2 fs (SetTable.grown fs.size)
    generalize relayAll t2 fs (SetTable.grown fs.size) = Y at r1 r2 r3 r4 ⊢
    obtain ⟨gs, t3, gave⟩ := Y
    dsimp only at r1 r2 r3 r4 ⊢
    have sz : gs.size = fs.size := by rw [← Array.length_toList, r1.length_eq, Array.length_toList]
    have bd2 : gs.size < scanBound := sz ▸ bd
    refine wpAny_bind (hgv _ _ _ (wpAny_bind (wpAny_storeSet_of hs1 rfl ?_ (fits_of_scanBound bd2))))
    have hs2 := store_at (es' := gs) (t' := t3) hs1 rfl
    exact wpAny_pure (hR _ (sb.trans (Heap.SameBut.update _ a _)) ⟨_, gs, _, t3, hs2, hx, rfl, fun e he => gd e (r1.mem_iff.mp he), (r1.map kOf).nodup_iff.mpr nd, fun k => (me k).trans (r1.map kOf).mem_iff.symm, bd2, r2, sz, r3, ld.imp id fun z => by rw [r4]; exact z⟩)
  · rw [if_neg full]
    exact wpAny_pure (hR _ sb ⟨_, fs, _, t2, hs1, hx, rfl, gd, nd, me, bd, ft, rfl, ri, ld⟩)
theorem gave_ok (b : Bool) {u : Shared} {Q' : Unit → Shared → Prop} (q : Q' () u) : wpAny (model P w) A (match b with | true => rule "set.scan.the-table-gave-way" | false => pure ()) Q' E u := by
  cases b <;> first | exact wpAny_pure q | exact wpAny_rule q
theorem kset_add {k : Key} {v : Value} {Q : Bool → Shared → Prop} (hk : keyIs k v = true) (R : KSet w s.heap a S n) (room : n + 1 < scanBound)
    (hQ : ∀ h', Heap.SameBut a s.heap h' → KSet w h' a (fun j => S j || decide (j = k)) (if S k = true then n else n + 1) → Q (!S k) { s with heap := h' }) :
    wpAny (model P w) A (setAddHashed a v ((mixKind P w).hash k)) Q E s := by
  obtain ⟨o, es, ep, t, ho, hx, hd, g, nd, me, bd, ft, num, ri, ld⟩ := R
  have key : (mixKind P w).is k v = true := hk
  have scan : v.scannable = true := by rcases keyIs_shape hk with ⟨i, t, _, q⟩ | ⟨x, t, _, q⟩ <;> (rw [q]; rfl)
  have el : ElemsOf (mixKind P w) es.toList := keyE_elems g
  unfold setAddHashed setAddHashedIn
  refine wpAny_holding (wpAny_bind (wpAny_setState_of ho hd ft ?_))
  dsimp only
  rw [byScan_of scan bd el]
  simp only [↓reduceIte]
  unfold setAddByScan
  refine wpAny_bind (wpAny_bind (wpAny_rule (wpAny_bind (wpAny_setScan_of key ho hd ft el ?_))))
  cases hfi : List.findIdx? (fun e => (mixKind P w).is k e.2) es.toList with
  | some j =>
    dsimp only
    obtain ⟨hj, pj, _⟩ := List.findIdx?_eq_some_iff_getElem.mp hfi
    have there : S k = true := (me k).mpr ((keyE_mem (P := P) g k).mpr ⟨es.toList[j], List.getElem_mem hj, pj⟩)
    have q := hQ s.heap (Heap.SameBut.refl a s.heap) ⟨o, es, ep, t, ho, hx, hd, g, nd, fun i => by
      rw [Bool.or_eq_true, decide_eq_true_eq, ← me i]
      exact ⟨fun z => z.elim id (fun e => e ▸ there), .inl⟩, bd, ft, by rw [if_pos there]; exact num, ri, ld⟩
    rw [there] at q
    exact wpAny_pure (wpAny_pure q)
  | none =>
    dsimp only
    have new : k ∉ es.toList.map kOf := fun z => by
      obtain ⟨e, he, q⟩ := (keyE_mem (P := P) g k).mp z
      have c := List.findIdx?_eq_none_iff.mp hfi e he
      rw [q] at c; cases c
    have not : S k = false := Bool.eq_false_iff.mpr fun q => new ((me k).mp q)
    have l1 := layNew_perm t es ((mixKind P w).hash k) v
    have l2 := layNew_fits t es ((mixKind P w).hash k) v
    have l3 := layNew_ris t es ((mixKind P w).hash k) v ri
    have l4 := layNew_led t es ((mixKind P w).hash k) v
    generalize layNew t es ((mixKind P w).hash k) v = Y at l1 l2 l3 l4 ⊢
    obtain ⟨fs, t1, wd, gave⟩ := Y
    dsimp only at l1 l2 l3 l4 ⊢
    rw [Array.toList_push] at l1
    have p1 : fs.toList.Perm (((mixKind P w).hash k, v) :: es.toList) := l1.trans (List.perm_append_singleton _ _)
    have p2 : (fs.toList.map kOf).Perm (k :: es.toList.map kOf) := by
      have := p1.map kOf
      rw [List.map_cons, KeyE.kOf (w := w) (e := ((mixKind P w).hash k, v)) hk] at this; exact this
    have gd : ∀ e ∈ fs.toList, KeyE w e := fun e he => by
      rcases List.mem_cons.mp (p1.mem_iff.mp he) with z | z
      · rw [z]; exact ⟨k, hk, rfl⟩
      · exact g e z
    have nd1 : (fs.toList.map kOf).Nodup := p2.nodup_iff.mpr (List.nodup_cons.mpr ⟨new, nd⟩)
    have me1 : ∀ i, (S i || decide (i = k)) = true ↔ i ∈ fs.toList.map kOf := fun i => by
      rw [Bool.or_eq_true, decide_eq_true_eq, me i, p2.mem_iff, List.mem_cons]; exact Or.comm
    have sz : fs.size = n + 1 := by rw [← Array.length_toList, p1.length_eq, List.length_cons, Array.length_toList, num]
    have bd1 : fs.size < scanBound := sz ▸ room
    have ld1 : w.params.followText "set-order" = true ∨ t1.led = true := ld.imp id fun z => by rw [l4]; exact z
    have fin : ∀ h', Heap.SameBut a s.heap h' → KSet w h' a (fun j => S j || decide (j = k)) fs.size → Q true { s with heap := h' } := fun h' sb r => by
      have q := hQ h' sb
      rw [not] at q
      rw [sz] at r
      exact q r
    refine wpAny_bind (gave_ok _ ?_)
    split
    · refine wpAny_bind ?_
      rw [hashByValue_scannable 8 scan]
      refine wpAny_pure (kset_tail (fun b u Q' q => gave_ok b q) ho hx hd gd nd1 me1 bd1 ?_ ?_ ?_ fun h' sb r => ?_)
      · first | (split <;> first | exact l2 | exact SetTable.fits_plain_off l2) | exact l2
      · first | (split <;> exact l3) | exact l3
      · first | (split <;> exact ld1) | exact ld1
      · dsimp only; exact wpAny_pure (fin h' sb r)
    · refine wpAny_bind (wpAny_pure ?_)
      simp only [↓reduceIte]
      refine kset_tail (fun b u Q' q => gave_ok b q) ho hx hd gd nd1 me1 bd1 l2 l3 ld1 fun h' sb r => ?_
      dsimp only; exact wpAny_pure (fin h' sb r)

/-! ### set(xs) -/
abbrev freshSet (w : World) : Obj := { cls := .type "set", dict := none, data := .set #[] 0 (.fresh 0 0 (!w.params.followText "set-order")) }
theorem kset_fresh {h : Heap} (ho : h.get? a = some (freshSet w)) : KSet w h a (fun _ => false) 0 :=
  ⟨_, #[], 0, _, ho, ⟨rfl, rfl, rfl⟩, rfl, (fun e he => by simp at he), (by simp), (fun k => by simp), (by decide), (by rfl), rfl, List.Pairwise.nil, by
    show _ ∨ (!w.params.followText "set-order") = true
    cases w.params.followText "set-order" <;> simp⟩
theorem kset_loop {I : Addr} {fp wr : List Addr} {G : Array GenState → Array GenState → Prop} {n : Nat} {Pv : Nat → Value → Prop} {St : Nat → Shared → Prop} {R : Result → Shared → Prop}
    (W : WalksS P w A.in1 I fp wr G n Pv St) (T : Addr) (hT : T ∉ fp) (ks : List Key) (hn : n = ks.length) (hb : ks.length + 1 < scanBound) (hv : ∀ i v, Pv i v → ∃ k, ks[i]? = some k ∧ keyIs k v = true) :
    ∀ (m i : Nat) (u : Shared), n - i = m → i ≤ n → St i u → (∃ c, c ≤ i ∧ KSet w u.heap T (fun j => memK j (ks.take i)) c) →
      (∀ u' c, Moved (T :: wr) G u u' → c ≤ n → KSet w u'.heap T (fun j => memK j ks) c → R (.ok (.ret .none)) u') →
      codeAny (model P w) A (.builtin "set.update.loop" ⟨[.ref T, .ref I], []⟩) R u := by
  have hTw : T ∉ wr := fun z => hT (W.sub _ z)
  have sub : ∀ b ∈ wr, b ∈ T :: wr := fun b z => List.mem_cons_of_mem _ z
  intro m
  induction m with
  | zero =>
    intro i u hm hi st ⟨c, hc, K⟩ fin
    obtain rfl : i = n := by omega
    refine codeAny_builtin F.entry_set_update_loop ?_
    rw [Around.under_plainId F.plain_set_update_loop _]
    show wpAny _ A.in1 (pyNext (.ref I) >>= _) _ _ u
    refine wpAny_bind (W.done u _ _ st fun u' mv => ?_)
    rw [List.take_of_length_le (by omega)] at K
    exact wpAny_pure (fin u' c (mv.mono sub) hc (K.stay fun o e => mv.heap T o hTw e))
  | succ m ih =>
    intro i u hm hi st ⟨c, hc, K⟩ fin
    have lt : i < n := by omega
    refine codeAny_builtin F.entry_set_update_loop ?_
    rw [Around.under_plainId F.plain_set_update_loop _]
    show wpAny _ A.in1 (pyNext (.ref I) >>= _) _ _ u
    refine wpAny_bind (W.item i u _ _ lt st fun v u' pv st' mv => ?_)
    obtain ⟨z, hz, kz⟩ := hv i v pv
    have K1 : KSet w u'.heap T (fun j => memK j (ks.take i)) c := K.stay fun o e => mv.heap T o hTw e
    show wpAny _ A.in1 (holding [v] (setAdd T v) >>= _) _ _ u'
    refine wpAny_bind (wpAny_holding ?_)
    unfold setAdd
    refine wpAny_holding (wpAny_bind ((mixKind P w).pyHash (k := z) kz ?_))
    refine kset_add (s := { u' with toks := u'.toks + 1 }) kz K1 (by omega) fun h' sb K2 => ?_
    have K3 : KSet w h' T (fun j => memK j (ks.take (i + 1))) (if memK z (ks.take i) = true then c else c + 1) := K2.same fun j => by
      rw [List.take_add_one, hz]
      unfold memK
      rw [List.any_append]
      by_cases q : j = z
      · subst q; simp
      · have q' : ¬ z = j := fun x => q x.symm
        simp [q, q']
    refine wpAny_pure ⟨plainId_quiet F.plain_set_update_loop _, ih (i + 1) _ (by omega) lt (W.frame _ u' _ _ st' (Nat.le_succ _) fun b hb o e => ?_) ⟨_, by split <;> omega, K3⟩ fun u2 c2 mv2 hc2 K4 => ?_⟩
    · rw [sb.2 b (fun z => hT (by rw [← z]; exact hb))]; exact e
    · refine fin u2 c2 (Moved.trans W.gtrans ((mv.mono sub).then_heap (Nat.le_succ _) fun b o nb e => ?_) mv2) hc2 K4
      rw [sb.2 b (fun z => nb (by rw [z]; exact List.mem_cons_self))]; exact e
theorem paired_at {α β : Type} {F : α → β → Prop} : ∀ {l : List α} {m : List β} {i : Nat} {x : α} {y : β}, Paired F l m → l[i]? = some x → m[i]? = some y → F x y
  | _, _, _, _, _, .nil, e, _ => by simp at e
  | _, _, 0, _, _, .cons r _, e, e' => by cases e; cases e'; exact r
  | _, _, i + 1, x, y, .cons _ t, e, e' => paired_at (i := i) t (by simpa using e) (by simpa using e')

set_option maxHeartbeats 6400000 in
theorem set_of_list {l : Addr} {items : Array Value} (ks : List Key) {Q : Value → Shared → Prop} (hh : A.handled = none) (hl : s.heap.IsList l items) (hit : Paired (fun (k : Key) v => keyIs k v = true) ks items.toList) (hb : ks.length + 1 < scanBound)
    (fin : ∀ (h' : Heap) (tk c : Nat), KSet w h' s.heap.objs.size (fun j => memK j ks) c → c ≤ ks.length → (∀ b o, s.heap.get? b = some o → h'.get? b = some o) → Q (.ref s.heap.objs.size) { s with heap := h', toks := tk }) :
    wpAny (model P w) A (call (.type "set") [.ref l]) Q E s := by
  have isz : items.size = ks.length := by rw [← Array.length_toList]; exact hit.length.symm
  obtain ⟨c, tl, hmro⟩ := F.called_set.mro
  have f1 := F.called_set.made
  have f2 := F.called_set.sub
  refine wpAny_call (codeAny_of_tree ?_)
  show wpAny _ _ (callAny (.type "set") _) _ _ _
  refine wpAny_pure ⟨Code.quiet_builtin _ (by decide +kernel), codeAny_builtin F.entry_type_call ?_⟩
  rw [Around.under_plain (weight_type_call_type "set" [.ref l] []) rfl]
  have f3 := F.called_set.notType
  have f4 := F.called_set.canCreate
  have f5 := F.typeCall_set_1 (.ref l)
  repeat (any_goals (first | assumption | wp_step))

  refine codeAny_mono (code_set_led1 (.ref l) (E := E) (Q₁ := fun obj u => obj = .ref s.heap.objs.size ∧ u = { s with heap := s.heap.push (freshSet w) }) ⟨rfl, rfl⟩) fun r u hr => ?_
  cases r with
  | error e => exact hr
  | ok fl =>
    cases fl with
    | next => exact hr.elim
    | brk => exact hr.elim
    | cont => exact hr.elim
    | ret obj =>
      obtain ⟨rfl, rfl⟩ := hr
      have new : (s.heap.push (freshSet w)).get? s.heap.objs.size = some (freshSet w) := Heap.get?_push_size _ rfl
      have ty : Shared.TypeIs { s with heap := s.heap.push (freshSet w) } (.ref s.heap.objs.size) "set" := ⟨_, new, rfl⟩
      have f6 := F.called_set.init.lookup
      have f7 := F.called_set.init.bind (.ref s.heap.objs.size)
      repeat (any_goals (first | assumption | wp_step))

      refine codeAny_mono (codeAny_call_builtin (R := wants (fun r u2 => r = .none ∧ ∃ h' tk c, u2 = { s with heap := h', toks := tk } ∧ KSet w h' s.heap.objs.size (fun j => memK j ks) c ∧ c ≤ ks.length ∧
          (∀ b o, s.heap.get? b = some o → h'.get? b = some o)) E) F.called_set.init.plain F.entry_set_init (check_set_init_1 ty ?_)) fun r2 u2 hr2 => ?_
      · obtain ⟨ol, hol, hcl, nl, hdl⟩ := hl
        obtain ⟨oc, od, odt, osl⟩ := ol
        simp only at hcl hdl
        subst hcl; subst hdl
        have hol' : (s.heap.push (freshSet w)).get? l = some { cls := .type "list", dict := od, data := .seq items nl, slots := osl } := Heap.get?_push_of_some _ hol
        have f8 := F.sub_list_set
        have f9 := F.sub_list_frozenset
        have f10 : (Value.type "list" == Value.type "dict") = false := by decide
        have hl1 : (s.heap.push (freshSet w)).IsList l items := ⟨_, hol', rfl, nl, rfl⟩
        unfold Builtin.«set.__init__» noKeywords Builtin.Frozenset.updateFrom
        generalize hPI : pyIter = PI
        wp_walk
        subst hPI

        refine wpAny_pyIter_list hl1 (wpAny_bind (wpAny_runValue ?_))
        have ls : l < s.heap.objs.size := Heap.lt_size hol
        have hh3 : A.in1.in1.in1.handled = none := by simp [hh]
        have ne1 : l ≠ (s.heap.push (freshSet w)).objs.size := by rw [Heap.size_push]; exact Nat.ne_of_lt (Nat.lt_succ_of_lt ls)
        have nfp : s.heap.objs.size ∉ [(s.heap.push (freshSet w)).objs.size, l] := by
          rw [Heap.size_push]; simp only [List.mem_cons, List.mem_singleton, List.not_mem_nil, or_false, not_or]
          exact ⟨Nat.ne_of_lt (Nat.lt_succ_self _), Nat.ne_of_gt ls⟩
        have hv : ∀ (i : Nat) (v : Value), items[i]? = some v → ∃ k, ks[i]? = some k ∧ keyIs k v = true := fun i v hv => by
          have hi : i < ks.length := by rw [← isz]; exact (Array.getElem?_eq_some_iff.mp hv).1
          refine ⟨ks[i], List.getElem?_eq_getElem hi, ?_⟩
          exact paired_at (F := fun (k : Key) v => keyIs k v = true) hit (List.getElem?_eq_getElem hi) (by rw [Array.getElem?_toList]; exact hv)
        refine kset_loop ((Walks.list hh3 _ l ne1 items).toS) s.heap.objs.size nfp ks isz hb hv (items.size - 0) 0 _ (by omega) (Nat.zero_le _)
          ⟨⟨_, Heap.get?_push_size _ rfl, rfl, rfl⟩, (hl1.push _)⟩ ⟨0, Nat.le_refl 0, ?g0⟩ ?g1
        case g0 => exact (kset_fresh (Heap.get?_push_of_some _ new)).same fun j => rfl
        case g1 =>
          intro u c' mv hc' K
          obtain ⟨h', g2, d', tk', os'⟩ := u
          obtain rfl : g2 = s.gens := mv.gens
          obtain rfl : d' = s.drawn := mv.drawn
          obtain rfl : os' = s.os := mv.os
          rw [isz] at hc'
          refine wpAny_pure (wpAny_pure ⟨rfl, h', tk', c', rfl, K, hc', fun b o e => ?_⟩)
          have b0 : b < s.heap.objs.size := Heap.lt_size e
          have b2 : b ≠ (s.heap.push (freshSet w)).objs.size := by rw [Heap.size_push]; exact Nat.ne_of_lt (Nat.lt_succ_of_lt b0)
          exact mv.heap b o (by simp only [List.mem_cons, List.mem_singleton, List.not_mem_nil, or_false, not_or]; exact ⟨Nat.ne_of_lt b0, b2⟩) (Heap.get?_push_of_some _ (Heap.get?_push_of_some _ e))
      · cases r2 with
        | error e => exact hr2
        | ok fl2 =>
          cases fl2 with
          | ret r =>
            obtain ⟨rfl, h', tk', c', rfl, K, hc', kp⟩ := hr2
            have q := fin h' tk' c' K hc' kp
            repeat (any_goals (first | assumption | wp_step))
          | next => exact hr2.elim
          | brk => exact hr2.elim
          | cont => exact hr2.elim

set_option maxHeartbeats 6400000 in
theorem set_of_tuple {l : Addr} {items : Array Value} (ks : List Key) {Q : Value → Shared → Prop} (hh : A.handled = none) (hl : s.heap.IsTuple l items) (hit : Paired (fun (k : Key) v => keyIs k v = true) ks items.toList) (hb : ks.length + 1 < scanBound)
    (fin : ∀ (h' : Heap) (tk c : Nat), KSet w h' s.heap.objs.size (fun j => memK j ks) c → c ≤ ks.length → (∀ b o, s.heap.get? b = some o → h'.get? b = some o) → Q (.ref s.heap.objs.size) { s with heap := h', toks := tk }) :
    wpAny (model P w) A (call (.type "set") [.ref l]) Q E s := by
  have isz : items.size = ks.length := by rw [← Array.length_toList]; exact hit.length.symm
  obtain ⟨c, tl, hmro⟩ := F.called_set.mro
  have f1 := F.called_set.made
  have f2 := F.called_set.sub
  refine wpAny_call (codeAny_of_tree ?_)
  show wpAny _ _ (callAny (.type "set") _) _ _ _
  refine wpAny_pure ⟨Code.quiet_builtin _ (by decide +kernel), codeAny_builtin F.entry_type_call ?_⟩
  rw [Around.under_plain (weight_type_call_type "set" [.ref l] []) rfl]
  have f3 := F.called_set.notType
  have f4 := F.called_set.canCreate
  have f5 := F.typeCall_set_1 (.ref l)
  repeat (any_goals (first | assumption | wp_step))

  refine codeAny_mono (code_set_led1 (.ref l) (E := E) (Q₁ := fun obj u => obj = .ref s.heap.objs.size ∧ u = { s with heap := s.heap.push (freshSet w) }) ⟨rfl, rfl⟩) fun r u hr => ?_
  cases r with
  | error e => exact hr
  | ok fl =>
    cases fl with
    | next => exact hr.elim
    | brk => exact hr.elim
    | cont => exact hr.elim
    | ret obj =>
      obtain ⟨rfl, rfl⟩ := hr
      have new : (s.heap.push (freshSet w)).get? s.heap.objs.size = some (freshSet w) := Heap.get?_push_size _ rfl
      have ty : Shared.TypeIs { s with heap := s.heap.push (freshSet w) } (.ref s.heap.objs.size) "set" := ⟨_, new, rfl⟩
      have f6 := F.called_set.init.lookup
      have f7 := F.called_set.init.bind (.ref s.heap.objs.size)
      repeat (any_goals (first | assumption | wp_step))

      refine codeAny_mono (codeAny_call_builtin (R := wants (fun r u2 => r = .none ∧ ∃ h' tk c, u2 = { s with heap := h', toks := tk } ∧ KSet w h' s.heap.objs.size (fun j => memK j ks) c ∧ c ≤ ks.length ∧
          (∀ b o, s.heap.get? b = some o → h'.get? b = some o)) E) F.called_set.init.plain F.entry_set_init (check_set_init_1 ty ?_)) fun r2 u2 hr2 => ?_
      · obtain ⟨ol, hol, hcl, nl, hdl⟩ := hl
        obtain ⟨oc, od, odt, osl⟩ := ol
        simp only at hcl hdl
        subst hcl; subst hdl
        have hol' : (s.heap.push (freshSet w)).get? l = some { cls := .type "tuple", dict := od, data := .seq items nl, slots := osl } := Heap.get?_push_of_some _ hol
        have f8 := F.sub_tuple_set
        have f9 := F.sub_tuple_frozenset
        have f10 : (Value.type "tuple" == Value.type "dict") = false := by decide
        have hl1 : (s.heap.push (freshSet w)).IsTuple l items := ⟨_, hol', rfl, nl, rfl⟩
        unfold Builtin.«set.__init__» noKeywords Builtin.Frozenset.updateFrom
        generalize hPI : pyIter = PI
        wp_walk
        subst hPI

        refine wpAny_pyIter_tuple hl1 (wpAny_bind (wpAny_runValue ?_))
        have ls : l < s.heap.objs.size := Heap.lt_size hol
        have hh3 : A.in1.in1.in1.handled = none := by simp [hh]
        have ne1 : l ≠ (s.heap.push (freshSet w)).objs.size := by rw [Heap.size_push]; exact Nat.ne_of_lt (Nat.lt_succ_of_lt ls)
        have nfp : s.heap.objs.size ∉ [(s.heap.push (freshSet w)).objs.size, l] := by
          rw [Heap.size_push]; simp only [List.mem_cons, List.mem_singleton, List.not_mem_nil, or_false, not_or]
          exact ⟨Nat.ne_of_lt (Nat.lt_succ_self _), Nat.ne_of_gt ls⟩
        have hv : ∀ (i : Nat) (v : Value), items[i]? = some v → ∃ k, ks[i]? = some k ∧ keyIs k v = true := fun i v hv => by
          have hi : i < ks.length := by rw [← isz]; exact (Array.getElem?_eq_some_iff.mp hv).1
          refine ⟨ks[i], List.getElem?_eq_getElem hi, ?_⟩
          exact paired_at (F := fun (k : Key) v => keyIs k v = true) hit (List.getElem?_eq_getElem hi) (by rw [Array.getElem?_toList]; exact hv)
        refine kset_loop ((Walks.tuple hh3 _ l ne1 items).toS) s.heap.objs.size nfp ks isz hb hv (items.size - 0) 0 _ (by omega) (Nat.zero_le _)
          ⟨⟨_, Heap.get?_push_size _ rfl, rfl, rfl⟩, (hl1.push _)⟩ ⟨0, Nat.le_refl 0, ?g0⟩ ?g1
        case g0 => exact (kset_fresh (Heap.get?_push_of_some _ new)).same fun j => rfl
        case g1 =>
          intro u c' mv hc' K
          obtain ⟨h', g2, d', tk', os'⟩ := u
          obtain rfl : g2 = s.gens := mv.gens
          obtain rfl : d' = s.drawn := mv.drawn
          obtain rfl : os' = s.os := mv.os
          rw [isz] at hc'
          refine wpAny_pure (wpAny_pure ⟨rfl, h', tk', c', rfl, K, hc', fun b o e => ?_⟩)
          have b0 : b < s.heap.objs.size := Heap.lt_size e
          have b2 : b ≠ (s.heap.push (freshSet w)).objs.size := by rw [Heap.size_push]; exact Nat.ne_of_lt (Nat.lt_succ_of_lt b0)
          exact mv.heap b o (by simp only [List.mem_cons, List.mem_singleton, List.not_mem_nil, or_false, not_or]; exact ⟨Nat.ne_of_lt b0, b2⟩) (Heap.get?_push_of_some _ (Heap.get?_push_of_some _ e))
      · cases r2 with
        | error e => exact hr2
        | ok fl2 =>
          cases fl2 with
          | ret r =>
            obtain ⟨rfl, h', tk', c', rfl, K, hc', kp⟩ := hr2
            have q := fin h' tk' c' K hc' kp
            repeat (any_goals (first | assumption | wp_step))
          | next => exact hr2.elim
          | brk => exact hr2.elim
          | cont => exact hr2.elim

end
end T3

/-! T3: sorted(xs) of data, sorted(set(xs)) of ints or texts. -/
namespace T3
open PySem PySem.Spec L2 PySem.W
open PyProof.Rows hiding St

/-! ### sorted(xs) -/
def leD (a b : D) : Bool := dataLe false toP a b
def alikeL (l : List D) : Bool := l.all fun a => l.all fun b => alike (toP a) (toP b)
def isSeq : D → Bool
  | .tup (_ :: _) => true
  | _ => false
def isAtom : D → Bool
  | .bl _ => true
  | .int _ => true
  | .str _ => true
  | .lst _ => true
  | .lok _ => true
  | _ => false
def sortOk (l : List D) : Bool := (l.all isSeq || l.all isAtom) && alikeL l && l.all (okD 30)
theorem sort_alike {l : List D} (h : sortOk l = true) : AllAlike (l.map toP) := by
  unfold sortOk at h
  rw [Bool.and_eq_true, Bool.and_eq_true] at h
  have h2 := h.1.2
  unfold alikeL at h2
  rw [List.all_eq_true] at h2
  intro d hd d' hd'
  obtain ⟨a, ha, rfl⟩ := List.mem_map.mp hd
  obtain ⟨b, hb, rfl⟩ := List.mem_map.mp hd'
  exact (List.all_eq_true.mp (h2 a ha)) b hb
theorem sort_able {l : List D} (h : sortOk l = true) : PySem.W.Sortable (l.map toP) := by
  unfold sortOk at h
  rw [Bool.and_eq_true, Bool.and_eq_true, Bool.or_eq_true] at h
  rcases h.1.1 with q | q
  · refine .inl fun d hd => ?_
    obtain ⟨a, ha, rfl⟩ := List.mem_map.mp hd
    have := List.all_eq_true.mp q a ha
    unfold isSeq at this
    split at this
    · next x r => unfold toP toPs; exact ⟨_, _, rfl⟩
    · cases this
  · refine .inr fun d hd => ?_
    obtain ⟨a, ha, rfl⟩ := List.mem_map.mp hd
    have := List.all_eq_true.mp q a ha
    cases a <;> first | cases this | skip
    all_goals (unfold toP; exact ⟨(fun z => by cases z), (fun xs z => by cases z)⟩)
def RD (K : PySem.W.Frag) (Z : Hp) (u : Value) (d : D) : Prop := ∃ v, RelV v u ∧ Den K Z d v
theorem each_of {K : PySem.W.Frag} {Z : Hp} : ∀ {l : List D} {vs : List V} {us : List Value}, DenL K Z l vs → Vals vs us → EachIs (RD K Z) us l
  | [], _, _, q, r => by rw [q.nil_inv] at r; cases r; exact .nil
  | d :: ds, _, _, q, r => by
    obtain ⟨v, vs, rfl, a, b⟩ := q.cons_inv
    cases r with
    | cons r1 r2 => exact .cons ⟨v, r1, a⟩ (each_of b r2)
theorem of_each {K : PySem.W.Frag} {Z : Hp} : ∀ {us : List Value} {l : List D}, EachIs (RD K Z) us l → ∃ vs, Vals vs us ∧ DenL K Z l vs
  | _, _, .nil => ⟨[], .nil, denL_nil⟩
  | _, _, .cons ⟨v, r, a⟩ t => let ⟨vs, x, y⟩ := of_each t; ⟨v :: vs, .cons r x, denL_cons a y⟩
section
variable {X : Cx} {pins : List (Addr × Obj)} {σ : L2.St} {H : Hp} {s : Shared}
theorem each_reads {Z : Hp} (inv : Inv X pins σ H s) (e : Same Z H) : ∀ {us : List Value} {l : List D}, l.all (okD 30) = true → EachIs (RD X.K Z) us l → EachIs (fun u d => ∃ as, Reads s.heap u (toP d) as) us l
  | _, _, _, .nil => .nil
  | _, _, h, .cons ⟨v, r, a⟩ t => by
    rw [List.all_cons, Bool.and_eq_true] at h
    exact .cons (Dp.reads inv _ v _ (dp_of e 30 _ v h.1 a) r) (each_reads inv e h.2 t)
theorem all_depth {l : List D} (h : l.all (okD 30) = true) {A : Around} (hu : A.units + 64 < cLine) : ∀ b, b ∈ l → A.units + 2 + (toP b).depth < cLine := fun b hb => by
  have := (toP_shaped 30 b (List.all_eq_true.mp h b hb)).2
  omega
def sortR : RLD := fun ds h Q => match ds with
  | [x] => match slOf h x with
    | some l => sortOk l = true ∧ Q (.lst (l.mergeSort leD)) h
    | none => False
  | _ => False
theorem cs_sorted (hu : X.A.units + 64 < cLine) : CallS X (.builtin "sorted") sortR := by
  intro pins s σ H vs us Q inv rel ⟨Z, ds, h, R, S, dl, q, f⟩
  unfold sortR at q
  split at q
  · next x =>
    obtain ⟨v, rfl, r⟩ := one_inv dl
    split at q
    · next l el =>
      obtain ⟨a, ws, rfl, dl, sq⟩ := slOf_den S r el
      obtain ⟨u, rfl, ru⟩ := rel.one
      obtain rfl : u = .ref a := ru
      obtain ⟨its, rv, plain, hz⟩ := inv.list sq
      have ok3 : l.all (okD 30) = true := by
        have h := q.1
        unfold sortOk at h
        rw [Bool.and_eq_true] at h; exact h.2
      have e := each_of dl rv
      refine sorted_data (enc := toP) (bs := l) (R := RD X.K Z) plain.isList e (each_reads inv S.zs ok3 e) (sort_alike q.1) (sort_able q.1) (by rw [dl.length]; exact hz) (all_depth ok3 hu) fun out ho eo => ?_
      obtain ⟨zs, r1, d1⟩ := of_each eo
      obtain ⟨c, hc⟩ := sortedAll_at s.heap its out.toArray
      have hsz : s.heap.objs.size ≤ s.heap.objs.size + 1 := Nat.le_succ _
      have J : Inv X pins σ (upd H (s.heap.objs.size + 1) (.lst zs)) { s with heap := sortedAll s.heap its out.toArray } := inv.laid (t' := s.toks) (fun b o q => sortedAll_old q) hsz
        ⟨by rw [r1.length, ho, dl.length]; exact hz, out, c, r1, hc⟩
      exact ⟨.ref (s.heap.objs.size + 1), _, J, rfl, new_lst S d1 (inv.hok.fresh hsz) q.2 f⟩
    · exact q.elim
  · exact q.elim

/-! ### set(xs), sorted(set(xs)) -/
def ksHO (w : World) (a : Addr) (ks : List Key) : HO := .ext fun h => ∃ c, KSet w h a (fun j => memK j ks) c ∧ c ≤ ks.length
theorem paired_keys {ks : List Key} : ∀ {vs : List V} {us : List Value}, vs = ks.map kV → Vals vs us → Paired (fun (k : Key) v => keyIs k v = true) ks us := by
  induction ks with
  | nil => intro vs us e r; subst e; cases r; exact .nil
  | cons k ks ih =>
    intro vs us e r
    subst e
    cases r with
    | cons r1 r2 =>
      refine .cons ?_ (ih rfl r2)
      cases k with
      | inl i => obtain ⟨t, rfl⟩ := r1; exact keyIs_int i t
      | inr x => obtain ⟨t, rfl⟩ := r1; exact keyIs_str x t
def rSetK (X : Cx) : List V → Hp → VK → Prop := fun vs H Q => ∃ (l : Addr) (ks : List Key), vs = [V.ref l] ∧ (SqL X.K H l (ks.map kV) ∨ SqT X.K H l (ks.map kV)) ∧ ks.length + 1 < scanBound ∧ ∀ p, H p = none → Q (.ref p) (upd H p (ksHO X.w p ks))
theorem cr_setK (hc : X.calm = true) : CallR X (.type "set") (rSetK X) := by
  intro pins s σ H vs us Q inv rel ⟨l, ks, ev, sq, hb, q⟩
  subst ev
  obtain ⟨u, rfl, ru⟩ := rel.one
  obtain rfl : u = .ref l := ru
  have fin : ∀ (h' : Heap) (tk c : Nat), KSet X.w h' s.heap.objs.size (fun j => memK j ks) c → c ≤ ks.length → (∀ b o, s.heap.get? b = some o → h'.get? b = some o) → EP X pins σ Q (.ref s.heap.objs.size) { s with heap := h', toks := tk } := fun h' tk c K1 hc' kp => by
    have ⟨o, _, _, _, ho, _⟩ := K1
    refine ⟨.ref s.heap.objs.size, _, inv.laid (o := ksHO X.w s.heap.objs.size ks) kp (Nat.le_refl _) ⟨⟨c, K1, hc'⟩, ⟨o, ho⟩, fun h1 h2 ⟨c, p, hp⟩ k => ⟨c, p.stay k, hp⟩⟩, rfl, q _ (inv.hok.fresh (Nat.le_refl _))⟩
  rcases sq with sq | sq
  · obtain ⟨its, rv, plain, hz⟩ := inv.list sq
    exact set_of_list ks (inv.ok.hd hc) plain.isList (paired_keys rfl rv) hb fin
  · obtain ⟨its, rv, plain, hz⟩ := inv.tuple sq
    exact set_of_tuple ks (inv.ok.hd hc) (show s.heap.IsTuple l its.toArray from plain) (paired_keys rfl rv) hb fin
def keyP : Key → PyData
  | .inl i => .int i
  | .inr x => .str x
def kLe (a b : Key) : Bool := dataLe false keyP a b
/-- all ints or all texts -/
def oneKind (ks : List Key) : Bool := ks.all (fun k => k.isLeft) || ks.all fun k => !k.isLeft
def keyOkS (ks : List Key) : Bool := ks.all fun k => match k with
  | .inl _ => true
  | .inr x => PyData.strOk x
theorem kind_alike {ks : List Key} (h : oneKind ks = true) : AllAlike (ks.map keyP) := by
  intro d hd d' hd'
  obtain ⟨a, ha, rfl⟩ := List.mem_map.mp hd
  obtain ⟨b, hb, rfl⟩ := List.mem_map.mp hd'
  unfold oneKind at h
  rw [Bool.or_eq_true, List.all_eq_true, List.all_eq_true] at h
  rcases h with h | h
  · have h1 := h a ha
    have h2 := h b hb
    cases a <;> cases b <;> first | rfl | exact absurd (show false = true from h1) Bool.false_ne_true | exact absurd (show false = true from h2) Bool.false_ne_true
  · have h1 := h a ha
    have h2 := h b hb
    cases a <;> cases b <;> first | rfl | exact absurd (show false = true from h1) Bool.false_ne_true | exact absurd (show false = true from h2) Bool.false_ne_true
theorem kind_able {ks : List Key} : PySem.W.Sortable (ks.map keyP) := .inr fun d hd => by
  obtain ⟨a, ha, rfl⟩ := List.mem_map.mp hd
  cases a <;> exact ⟨(fun z => by cases z), (fun xs z => by cases z)⟩
def rSortK (X : Cx) : List V → Hp → VK → Prop := fun vs H Q => ∃ (a : Addr) (ks : List Key), vs = [V.ref a] ∧ H a = some (ksHO X.w a ks) ∧ oneKind ks = true ∧ keyOkS ks = true ∧ ks.length ≤ sizeLine ∧
  ∀ (l : List Key) (p : Addr), l.Nodup → (∀ k, k ∈ l ↔ k ∈ ks) → l.Pairwise (fun a b => kLe a b = true) → H p = none → Q (.ref p) (upd H p (.lst (l.map kV)))
theorem each_keys {es : List (Int × Value)} (g : ∀ e ∈ es, KeyE X.w e) : EachIs (fun u (k : Key) => keyIs k u = true) (es.map (·.2)) (es.map kOf) := by
  induction es with
  | nil => exact .nil
  | cons e es ih =>
    obtain ⟨k, h1, _⟩ := g e List.mem_cons_self
    refine .cons ?_ (ih fun x hx => g x (List.mem_cons_of_mem _ hx))
    rw [KeyE.kOf (w := X.w) h1]; exact h1
def vKey : Value → Key
  | .int k _ => .inl k
  | .str x _ => .inr x
  | _ => .inl 0
theorem vKey_of {k : Key} {v : Value} (h : keyIs k v = true) : vKey v = k := by
  rcases keyIs_shape h with ⟨i, t, rfl, q⟩ | ⟨x, t, rfl, q⟩ <;> (rw [q]; rfl)
theorem each_vKey : ∀ {us : List Value}, (∀ u ∈ us, ∃ k : Key, keyIs k u = true) → EachIs (fun u (k : Key) => keyIs k u = true) us (us.map vKey)
  | [], _ => .nil
  | u :: us, h => by
    obtain ⟨k, hk⟩ := h u List.mem_cons_self
    exact .cons (by rw [vKey_of hk]; exact hk) (each_vKey fun x hx => h x (List.mem_cons_of_mem _ hx))
theorem key_reads {h : Heap} {k : Key} {u : Value} (e : keyIs k u = true) : Reads h u (keyP k) [] := by
  rcases keyIs_shape e with ⟨i, t, rfl, q⟩ | ⟨x, t, rfl, q⟩
  · rw [q]; exact Reads.int i t
  · rw [q]; exact Reads.str x t
theorem of_eachK : ∀ {us : List Value} {l : List Key}, EachIs (fun u (k : Key) => keyIs k u = true) us l → Vals (l.map kV) us
  | _, _, .nil => .nil
  | _, _, .cons (b := k) r t => by
    refine .cons ?_ (of_eachK t)
    rcases keyIs_shape r with ⟨i, t, rfl, q⟩ | ⟨x, t, rfl, q⟩ <;> (rw [q]; exact ⟨_, rfl⟩)
theorem cr_sortK (hc : X.calm = true) (hu : X.A.units + 64 < cLine) : CallR X (.builtin "sorted") (rSortK X) := by
  intro pins s σ H vs us Q inv rel ⟨a, ks, ev, ha, one, okk, hz, q⟩
  subst ev
  obtain ⟨u, rfl, ru⟩ := rel.one
  obtain rfl : u = .ref a := ru
  obtain ⟨⟨c, ⟨o, es, ep, t, ho, hx, hd, g, nd, me, bd, ft, num, ri, ld⟩, hcl⟩, _⟩ := (show ObjOk X.prog X.w H s.heap a (ksHO X.w a ks) from inv.hok a _ ha)
  refine Calls.call_function_entry kind_sorted plain_sorted entry_sorted (args_sorted1 _) ?_
  unfold Builtin.«sorted»
  refine wpAny_bind (m := checkCount "sorted" 1 1 _) (wpAny_pure ?_)
  refine wpAny_bind (collect_set (A := X.A.in1) (inv.ok.hd hc) ⟨o, ho, hx.1, hd⟩ ft bd ri ld fun s1 out k1 hz1 g1 o1 pm => ?_)
  have good : ∀ u ∈ out, ∃ k : Key, keyIs k u = true := fun u hu => by
    obtain ⟨e, he, q⟩ := List.mem_map.mp (pm.mem_iff.mp hu)
    obtain ⟨k, h1, _⟩ := g e he
    exact ⟨k, by rw [← q]; exact h1⟩
  have pk : (out.map vKey).Perm (es.toList.map kOf) := by
    have := pm.map vKey
    rw [List.map_map] at this; exact this
  have lenO : out.length ≤ sizeLine := by
    rw [pm.length_eq, List.length_map, Array.length_toList, num]; exact Nat.le_trans hcl hz
  have memK' : ∀ k, k ∈ out.map vKey ↔ k ∈ ks := fun k => by rw [pk.mem_iff, ← me k]; exact memK_iff
  have one' : oneKind (out.map vKey) = true := by
    unfold oneKind at one ⊢
    rw [Bool.or_eq_true, List.all_eq_true, List.all_eq_true] at one ⊢
    exact one.imp (fun h k hk => h k ((memK' k).mp hk)) fun h k hk => h k ((memK' k).mp hk)
  refine wpAny_bind (wpAny_newList ?_ (by rw [sizeLine_eq] at lenO ⊢; omega))
  have hoL : (s1.heap.push (seqObj "list" out.toArray 0)).get? s1.heap.objs.size = some (seqObj "list" out.toArray 0) := Heap.get?_push_size _ rfl
  have eK := each_vKey good
  refine wpAny_bind (wpAny_holding (list_sort_data (R := fun u (k : Key) => keyIs k u = true) (enc := keyP) (bs := out.map vKey) hoL eK (eK.mono fun u k r => ⟨[], key_reads r, by simp⟩) (kind_alike one') kind_able (by rw [List.length_map]; exact lenO) ?_ fun res hr er => ?_))
  · intro k hk
    have : (keyP k).depth = 0 := by cases k <;> rfl
    rw [this]
    have : X.A.in1.units = X.A.units + 1 := rfl
    omega
  · obtain ⟨n', hn'⟩ := sortedHeap_at (vs := out) (out := res.toArray) hoL
    have hp : s.heap.objs.size ≤ s1.heap.objs.size := hz1
    have keep : ∀ b u, s.heap.get? b = some u → (sortedHeap (s1.heap.push (seqObj "list" out.toArray 0)) s1.heap.objs.size out res.toArray).get? b = some u := fun b u e => by
      have q := k1 b u e
      have hlt := Heap.lt_size q
      rw [sortedHeap_old (Nat.ne_of_lt hlt) (by rw [Heap.size_push]; exact Nat.lt_succ_of_lt hlt)]
      exact Heap.get?_push_of_some _ q
    have perm : ((out.map vKey).mergeSort kLe).Perm (out.map vKey) := List.mergeSort_perm _ _
    have len2 : (((out.map vKey).mergeSort kLe).map kV).length ≤ sizeLine := by rw [List.length_map, perm.length_eq, List.length_map]; exact lenO
    have J : Inv X pins σ (upd H s1.heap.objs.size (.lst (((out.map vKey).mergeSort kLe).map kV))) { s with heap := sortedHeap (s1.heap.push (seqObj "list" out.toArray 0)) s1.heap.objs.size out res.toArray, gens := s1.gens, drawn := s1.drawn, toks := s1.toks } :=
      inv.call (ch := []) (Un.laid keep hp (inv.hok.fresh hp)) (inv.hok.laid keep hp ⟨len2, res, n', of_eachK er, hn'⟩) (by rw [g1]; exact inv.bare) (fun _ z => nomatch z)
    have eo : ({ s1 with heap := sortedHeap (s1.heap.push (seqObj "list" out.toArray 0)) s1.heap.objs.size out res.toArray } : Shared) = { s with heap := sortedHeap (s1.heap.push (seqObj "list" out.toArray 0)) s1.heap.objs.size out res.toArray, gens := s1.gens, drawn := s1.drawn, toks := s1.toks } := by
      rw [← o1]
    refine wpAny_pure ⟨_, rfl, ?_⟩
    refine (show EP X pins σ Q (.ref s1.heap.objs.size) { s1 with heap := sortedHeap (s1.heap.push (seqObj "list" out.toArray 0)) s1.heap.objs.size out res.toArray } from ?_)
    rw [eo]
    refine ⟨.ref s1.heap.objs.size, _, J, rfl, q _ _ (perm.nodup_iff.mpr (pk.nodup_iff.mpr nd)) (fun k => (perm.mem_iff).trans (memK' k)) ?_ (inv.hok.fresh hp)⟩
    exact sort_pairwise (sortLe_total _ false _) _
end
end T3

/-! T3: sorted(set(xs)); enumerate; extend; own ==. -/
namespace T3
open PySem PySem.Spec L2 PySem.W
open PyProof.Rows hiding St

/-! ### sorted(set(xs)) -/
def kD : Key → D
  | .inl i => .int i
  | .inr x => .str x
def keysOf : List D → Option (List Key)
  | [] => some []
  | .int i :: l => match keysOf l with
    | some ks => some (.inl i :: ks)
    | none => none
  | .str i :: l => match keysOf l with
    | some ks => some (.inr i :: ks)
    | none => none
  | _ :: _ => none
theorem keysOf_map : ∀ ks : List Key, keysOf (ks.map kD) = some ks
  | [] => rfl
  | .inl i :: ks => by
    rw [List.map_cons]
    show (match keysOf (ks.map kD) with | some ks => some (Sum.inl i :: ks) | none => none) = _
    rw [keysOf_map ks]
  | .inr i :: ks => by
    rw [List.map_cons]
    show (match keysOf (ks.map kD) with | some ks => some (Sum.inr i :: ks) | none => none) = _
    rw [keysOf_map ks]
theorem keys_den {K : PySem.W.Frag} {Z : Hp} : ∀ {l : List D} {ks : List Key} {vs : List V}, keysOf l = some ks → DenL K Z l vs → vs = ks.map kV
  | [], ks, vs, e, q => by cases e; rw [q.nil_inv]; rfl
  | .int b :: l, ks, vs, e, q => by
    unfold keysOf at e
    split at e
    · next cs ec =>
      cases e
      obtain ⟨v, r, rfl, a, b'⟩ := q.cons_inv
      rw [den_int a, keys_den ec b']; rfl
    · cases e
  | .str b :: l, ks, vs, e, q => by
    unfold keysOf at e
    split at e
    · next cs ec =>
      cases e
      obtain ⟨v, r, rfl, a, b'⟩ := q.cons_inv
      rw [den_str a, keys_den ec b']; rfl
    · cases e
  | .non :: _, _, _, e, _ | .bl _ :: _, _, _, e, _ | .tup _ :: _, _, _, e, _ | .lst _ :: _, _, _, e, _ | .lok _ :: _, _, _, e, _ | .ins _ _ :: _, _, _, e, _ | .ref _ :: _, _, _, e, _ => by cases e
theorem den_keys {K : PySem.W.Frag} {Z : Hp} : ∀ ks : List Key, DenL K Z (ks.map kD) (ks.map kV)
  | [] => denL_nil
  | .inl i :: ks => denL_cons (dint i) (den_keys ks)
  | .inr i :: ks => denL_cons (dstr i) (den_keys ks)
/-- each once -/
def onceK : List Key → List Key
  | [] => []
  | k :: ks => if memK k (onceK ks) = true then onceK ks else k :: onceK ks
theorem mem_onceK {j : Key} : ∀ {ks : List Key}, j ∈ onceK ks ↔ j ∈ ks
  | [] => Iff.rfl
  | k :: ks => by
    unfold onceK
    split
    · next h =>
      rw [mem_onceK, List.mem_cons]
      have := mem_onceK.mp (memK_iff.mp h)
      exact ⟨.inr, fun q => q.elim (fun e => e ▸ this) id⟩
    · rw [List.mem_cons, List.mem_cons, mem_onceK]
theorem nodup_onceK : ∀ ks : List Key, (onceK ks).Nodup
  | [] => List.nodup_nil
  | k :: ks => by
    unfold onceK
    split
    · exact nodup_onceK ks
    · next h => exact List.nodup_cons.mpr ⟨fun z => h (memK_iff.mpr z), nodup_onceK ks⟩
/-- ascending, each once -/
def ascK (ks : List Key) : List Key := (onceK ks).mergeSort kLe
theorem kLe_anti {a b : Key} (h1 : kLe a b = true) (h2 : kLe b a = true) (hk : a.isLeft = b.isLeft) : a = b := by
  cases a with
  | inl i =>
    cases b with
    | inl j =>
      have e := congrFun (congrFun (dataLe_int (β := Int) id) i) j
      have e' := congrFun (congrFun (dataLe_int (β := Int) id) j) i
      have h1 : dataLe false (fun b : Int => PyData.int (id b)) i j = true := h1
      have h2 : dataLe false (fun b : Int => PyData.int (id b)) j i = true := h2
      rw [e] at h1; rw [e'] at h2
      have a1 := of_decide_eq_true h1
      have a2 := of_decide_eq_true h2
      simp only [id] at a1 a2
      rw [Int.le_antisymm a1 a2]
    | inr y => cases hk
  | inr x =>
    cases b with
    | inl j => cases hk
    | inr y =>
      have e := congrFun (congrFun (dataLe_str (β := Str) id) x) y
      have e' := congrFun (congrFun (dataLe_str (β := Str) id) y) x
      have h1 : dataLe false (fun b : Str => PyData.str (id b)) x y = true := h1
      have h2 : dataLe false (fun b : Str => PyData.str (id b)) y x = true := h2
      rw [e] at h1; rw [e'] at h2
      have a1 := of_decide_eq_true h1
      have a2 := of_decide_eq_true h2
      simp only [id] at a1 a2
      have : x.cps.toList = y.cps.toList := List.le_antisymm a1 a2
      obtain ⟨⟨xs⟩⟩ := x
      obtain ⟨⟨ys⟩⟩ := y
      have : xs = ys := this
      rw [this]
theorem kind_left {ks : List Key} (h : oneKind ks = true) {a b : Key} (ha : a ∈ ks) (hb : b ∈ ks) : a.isLeft = b.isLeft := by
  unfold oneKind at h
  rw [Bool.or_eq_true, List.all_eq_true, List.all_eq_true] at h
  rcases h with h | h
  · rw [h a ha, h b hb]
  · have h1 := h a ha
    have h2 := h b hb
    cases e1 : a.isLeft <;> cases e2 : b.isLeft <;> simp_all
theorem asc_one : ∀ {l m : List Key}, l.Perm m → (∀ a ∈ l, ∀ b ∈ l, a.isLeft = b.isLeft) → l.Pairwise (fun a b => kLe a b = true) → m.Pairwise (fun a b => kLe a b = true) → l = m
  | [], m, p, _, _, _ => (List.Perm.nil_eq p)
  | x :: l, [], p, _, _, _ => by have := p.length_eq; simp at this
  | x :: l, y :: m, p, hk, h1, h2 => by
    obtain ⟨a1, a2⟩ := List.pairwise_cons.mp h1
    obtain ⟨b1, b2⟩ := List.pairwise_cons.mp h2
    have hxy : x = y := by
      have hx : x ∈ y :: m := p.mem_iff.mp List.mem_cons_self
      have hy : y ∈ x :: l := p.mem_iff.mpr List.mem_cons_self
      rcases List.mem_cons.mp hx with e | e
      · exact e
      · rcases List.mem_cons.mp hy with e' | e'
        · exact e'.symm
        · exact kLe_anti (a1 y e') (b1 x e) (hk x List.mem_cons_self y hy)
    subst hxy
    rw [asc_one ((List.perm_cons x).mp p) (fun a ha b hb => hk a (List.mem_cons_of_mem _ ha) b (List.mem_cons_of_mem _ hb)) a2 b2]
theorem asc_unique {ks l : List Key} (h : oneKind ks = true) (nd : l.Nodup) (me : ∀ k, k ∈ l ↔ k ∈ ks) (so : l.Pairwise (fun a b => kLe a b = true)) : l = ascK ks := by
  have p1 : l.Perm (onceK ks) := (List.perm_ext_iff_of_nodup nd (nodup_onceK ks)).mpr fun k => (me k).trans mem_onceK.symm
  have p2 : (ascK ks).Perm (onceK ks) := List.mergeSort_perm _ _
  exact asc_one (p1.trans p2.symm) (fun a ha b hb => kind_left h ((me a).mp ha) ((me b).mp hb)) so (sort_pairwise (sortLe_total _ false _) _)
def tAsc (te : TED) : TED := fun σ h Q => te σ h fun x h1 => match seqOf h1 x with
  | some l => match keysOf l with
    | some ks => (oneKind ks = true ∧ keyOkS ks = true ∧ ks.length + 1 < scanBound) ∧ Q (.lst ((ascK ks).map kD)) h1
    | none => False
  | none => False
section
variable {X : Cx} {a : Expr} {te : TED} {pos p p2 q : Pos}
theorem se_asc (hc : X.calm = true) (hu : X.A.units + 64 < cLine) (hg : Gl X "sorted") (hm : X.mg "sorted" = none) (hg2 : Gl X "set") (hm2 : X.mg "set" = none) (ha : SE X a te)
    (h1 : starEach [.Call (.Name "set" p2) [a] [] q] X.env = (false, eval (.Call (.Name "set" p2) [a] [] q) X.env) :: starEach [] X.env := by rfl) (h2 : starEach [a] X.env = (false, eval a X.env) :: starEach [] X.env := by rfl) :
    SE X (.Call (.Name "sorted" p) [.Call (.Name "set" p2) [a] [] q] [] pos) (tAsc te) :=
  (pe_callB (cr_sortK hc hu) hg hm PyProof.Rows.boot_sorted (pa_cons (pe_callTy (cr_setK hc) hg2 hm2 PyProof.Rows.boot_set (pa_cons ha pa_nil h2) (by decide) (by decide) h2 rfl) pa_nil h1) (by decide) (by decide) h1 rfl).imp fun σV H Q ⟨Z, σ, h, R, S, dS, q, f⟩ =>
    ⟨Z, σ, h, _, S, dS, q, fun Z1 d v h1 H1 k1 S1 r1 q1 => by
      split at q1
      · next l el =>
        split at q1
        · next ks ek =>
          obtain ⟨⟨g1, g2, g3⟩, q1⟩ := q1
          obtain ⟨b, vs, rfl, dl, sq⟩ := seqOf_den S1 r1 el
          rw [keys_den ek dl] at sq
          refine ⟨b, ks, rfl, sq, g3, fun t ht => ?_⟩
          obtain ⟨nh, nZ⟩ := S1.fresh ht
          have S2 : Sat X.K Z1 h1 (upd H1 t (ksHO X.w t ks)) := S1.at nZ nh
          have k2 : Kp Z1 h1 H1 Z1 h1 (upd H1 t (ksHO X.w t ks)) := ⟨Same.refl _, fun c u e n => by
            rw [upd_ne (fun z => by rw [z, ht] at e; cases e)]; exact ⟨e, n, id⟩⟩
          refine ⟨t, ks, rfl, upd_same, g1, g2, by rw [sizeLine_eq]; unfold scanBound at g3; omega, fun l' t2 nd me so ht2 => ?_⟩
          rw [asc_unique g1 nd me so]
          exact new_lst S2 (den_keys _) ht2 q1 fun Z' d v h' H' x => f Z' d v h' H' ((k1.trans k2).trans x)
        · exact q1.elim
      · exact q1.elim⟩
end

/-! ### extend -/
theorem ext_tuple (l : Addr) (items : Array Value) (n : Nat) (b : Addr) (items2 : Array Value) (n2 : Nat) (od : Option Addr) (osl : Array (Option Value)) (g0 : ¬(!items.isEmpty && Builtin.List.listTooLong (items.size + items2.size)) = true) (g1 : items.size ≤ sizeLine) (g2 : items.size + items2.size ≤ sizeLine + 1) :
    Meets (Builtin.«list.extend» ⟨[.ref l, .ref b], []⟩) (fun _ R s => s.heap.get? l = some { cls := .type "list", dict := none, data := .seq items n, slots := #[] } ∧ s.heap.get? b = some { cls := .type "tuple", dict := od, data := .seq items2 n2, slots := osl } ∧ R (.ok (.ret Value.none)) { s with heap := s.heap.update l (Obj.mapSeq fun x => x ++ items2), toks := s.toks }) :=
  .of_wp fun prog w A R s h => by
    obtain ⟨hp, g, d, tk, os⟩ := s
    obtain ⟨hl, hb, h⟩ := h
    have f1 := AutoSeq1.idx_int
    have f2 := AutoSeq1.sub_tuple_tuple
    have f3 := AutoSeq1.sub_list_list
    have f4 := AutoSeq1.sub_tuple_list
    have f5 := AutoSeq1.sub_list_tuple
    have hz' : (items ++ items2).size ≤ sizeLine + 1 := by rw [Array.size_append]; exact g2
    wp_walk using (PySem.wpAny_updateSeq hl rfl (hz := g1) (_hz' := hz')), AutoSeq1.wpAny_loadPart' hl, AutoSeq1.wpAny_loadPart' hb
    exact ⟨_, rfl, h⟩
section
variable {X : Cx}
def rExtT (K : PySem.W.Frag) : V → List V → Hp → VK → Prop := fun x vs H Q => ∃ l b xs zs, x = .ref l ∧ vs = [.ref b] ∧ H l = some (.lst xs) ∧ SqT K H b zs ∧ xs.length + zs.length ≤ sizeLine ∧ Q .non (upd H l (.lst (xs ++ zs)))
theorem mt_extT : MtR X "list.extend" (rExtT X.K) := by
  intro pins s σ H x vs v us Q inv rx rv ⟨l, b, xs, zs, ex, ev, hl, hb, hz, q⟩
  subst ex ev
  obtain rfl : v = .ref l := rx
  obtain ⟨u, rfl, ru⟩ := rv.one
  obtain rfl : u = .ref b := ru
  obtain ⟨z, its, n, r, len, e⟩ := inv.lstM hl
  obtain ⟨its2, r2, ⟨⟨oc, od, odt, osl⟩, e2, c2, n2, d2⟩, z2⟩ := inv.tuple hb
  simp only at c2 d2
  subst c2; subst d2
  have l2 := r2.length
  have sz : its.toArray.size + its2.toArray.size ≤ sizeLine := by rw [List.size_toArray, List.size_toArray]; omega
  refine call_meets PySem.F.slot_list_extend ⟨_, e, rfl⟩ PySem.F.entry_list_extend (PySem.F.args_list_extend_2 _ _)
    (ext_tuple l its.toArray n b its2.toArray n2 od osl (by rw [notLongL sz, Bool.and_false]; exact Bool.false_ne_true) (by rw [List.size_toArray]; omega) (by omega)) ⟨e, e2, ?_⟩
  exact ⟨.non, _, inv.lset (its' := its ++ its2) hl e (by simp) (r.append r2) (by rw [List.length_append]; omega), rfl, q⟩
def extR : RMD := fun x ds h Q => match x, ds with
  | .ref a, [y] => match h a with
    | some (.lst l) => match y with
      | .tup m => l.length + m.length ≤ sizeLine ∧ Q .non (ud h a (.lst (l ++ m)))
      | y => match lstOf h y with
        | some m => l.length + m.length ≤ sizeLine ∧ Q .non (ud h a (.lst (l ++ m)))
        | none => False
    | _ => False
  | _, _ => False
theorem ms_extend : MtR X "list.extend" (lM X.K extR) := MtR.imp (MtR.or mt_extT mt_extend) fun xv vs H Q ⟨Z, x, ds, h, R, S, rx, dl, q, f⟩ => by
  unfold extR at q
  split at q
  · next a y =>
    split at q
    · next l ea =>
      obtain rfl := den_ref rx
      obtain ⟨v, rfl, r⟩ := one_inv dl
      obtain ⟨u, hu, us, rfl, da⟩ := S.hs a _ ea
      split at q
      · next m =>
        unfold Den at r
        obtain ⟨b, ws, rfl, sq, dm⟩ := r
        exact .inl ⟨a, b, us, ws, rfl, rfl, hu, S.sqt sq, by rw [← da.length, ← dm.length]; exact q.1, f _ _ _ _ _ (Kp.write ea) (S.put (o := .lst (l ++ m)) (S.ds a _ ea) ⟨_, rfl, da.append dm⟩) dnon q.2⟩
      · split at q
        · next m em =>
          obtain ⟨b, ws, rfl, e2, dm⟩ := lstOf_den S r em
          exact .inr ⟨a, b, us, ws, rfl, rfl, hu, e2, by rw [← da.length, ← dm.length]; exact q.1, f _ _ _ _ _ (Kp.write ea) (S.put (o := .lst (l ++ m)) (S.ds a _ ea) ⟨_, rfl, da.append dm⟩) dnon q.2⟩
        · exact q.elim
    · exact q.elim
  · exact q.elim
end

/-! ### own == -/
/-- x == y by the own def -/
def eqOwn (C : Addr) (fs : FSp) : R2D := fun x y h Q => match insOf h x with
  | some (C', _) => C' = C ∧ ((insOf h y).any (fun z => z.1 == C) = true ∨ (slOf h y).isSome = true) ∧ fs [x, y] h Q
  | none => False
section
variable {X : Cx} {k : Nat} {f C : Addr} {fs : FSp}
theorem os_eqOwn {j : Nat} (hr : Room j X.A) (hk : k ≤ j) (c : Cl X.prog X.w X.K X.mg X.base k f 2 [] fs) (hs : findIn X.K (.ref C) "__eq__" = some (some (.ref f))) (hf : isFn X.K (.ref f) = true) (hl : notFirst X.K C (.type "list") = true)
    (hbl : ∀ (ds : List D) (h : AH) (R : QD), fs ds h R → ∀ R' : QD, (∀ b h', R (.bl b) h' → R' (.bl b) h') → fs ds h fun d h' => ∃ b, d = .bl b ∧ R' (.bl b) h') : OpS X (compareOp .Eq) (eqOwn C fs) := by
  intro pins s σ H x y v u Q inv rx ry ⟨Z, d, e, h, R, S, dx, dy, q, fin⟩
  unfold eqOwn at q
  split at q
  · next C' fl ei =>
    obtain ⟨rfl, hy, q⟩ := q
    obtain ⟨a, dxx, vf, rfl, ea, df⟩ := insOf_den S dx ei
    obtain rfl : v = .ref a := rx
    obtain ⟨mA, J, _⟩ := ins_get inv.hok ea
    obtain ⟨od, J, _⟩ := J.look
    obtain ⟨m, hF⟩ := inv.fr
    have q' := hbl _ _ _ q R (fun b h' z => z)
    have go : ∀ (b : Addr) (tb : Value), u = .ref b → y = .ref b → Looks (model X.prog X.w) s.heap (typeOf (.ref b)) tb → notFirst X.K C' tb = true → wpAny (model X.prog X.w) X.A (richCompare .Eq (.ref a) u) (EP X pins σ Q) X.xe s := by
      intro b tb eu ey lk nf
      subst eu ey
      refine PySem.W.cmp_K (op := .Eq) (tb := tb) hr.units0 hF inv.ok.mod.kin J lk nf hs hf ?_
      refine thn (c.run (us := [.ref a, .ref b]) (vs := [.ref a, .ref b]) (ws := []) (zs := []) (Q := fun v' H' => ∃ bb, v' = .bl bb ∧ Q (.bl bb) H') (hr.mono hk) inv (.cons rfl (.cons rfl .nil)) .nil rfl rfl
        ⟨Z, [d, e], h, _, S, denL_cons dx (denL_one dy), q', fun Z' d' v' h' H' kk S' r' ⟨bb, eb, qq⟩ => ?_⟩) fun w' s' ⟨v', H', I', rw', bb, eb, qq⟩ => ?_
      · subst eb
        exact ⟨bb, den_bl r', fin Z' _ _ h' H' kk S' (dbl bb) qq⟩
      · subst eb
        obtain rfl : w' = Value.bool bb := rw'
        exact ⟨.bl bb, H', I', rfl, qq⟩
    show wpAny (model X.prog X.w) X.A (richCompare .Eq (.ref a) u) (EP X pins σ Q) X.xe s
    rcases hy with hy | hy
    · cases ey : insOf h e with
      | none => rw [ey] at hy; cases hy
      | some z =>
        obtain ⟨C2, fl2⟩ := z
        rw [ey] at hy
        have : C2 = C' := by simpa using hy
        subst this
        obtain ⟨b, dyy, vf2, rfl, eb, _⟩ := insOf_den S dy ey
        obtain rfl : u = .ref b := ry
        obtain ⟨mB, J2, _⟩ := ins_get inv.hok eb
        obtain ⟨od2, J2, _⟩ := J2.look
        exact go b (.ref C2) rfl rfl J2.type (by simp [PySem.W.notFirst])
    · obtain ⟨l, el⟩ := Option.isSome_iff_exists.mp hy
      obtain ⟨b, vs, rfl, dl, sq⟩ := slOf_den S dy el
      obtain rfl : u = .ref b := ry
      obtain ⟨its, rv, ⟨o, n, ho, hc, _⟩, hz⟩ := inv.list sq
      exact go b (.type "list") rfl rfl (hc ▸ (Looks.ld ho).andThen .now) hl
  · exact q.elim
end
end T3

/-! T3: enumerate(list or tuple). -/
namespace T3
open PySem PySem.Spec L2 PySem.W
open PyProof.Rows hiding St

theorem enum_new1 {v : Value} {o : Obj} {F : Heap → Prop} (B : PySem.Begins v o F) :
    Meets (Builtin.«enumerate.__new__» ⟨[.type "enumerate", v], []⟩) (fun _ R s => F s.heap ∧
      R (.ok (.ret (.ref (s.heap.push o).objs.size))) { s with heap := (s.heap.push o).push { cls := .type "enumerate", data := .fields #[.none, .bool false, .ref s.heap.objs.size, rawInt 0, .none, .none] } }) :=
  .of_wp fun prog w A R s h => by
    obtain ⟨hp, g, d, tk, os⟩ := s
    obtain ⟨h1, h⟩ := h
    have f1 := sub_enumerate
    have q1 : ∀ {A' : Around} {E : Value → Shared → Prop} {Q : Value → Shared → Prop}, Q (.ref hp.objs.size) ⟨hp.push o, g, d, tk, os⟩ → wpAny (model prog w) A' (pyIter v) Q E ⟨hp, g, d, tk, os⟩ :=
      fun q => B.iter prog w _ _ ⟨hp, g, d, tk, os⟩ _ h1 q
    wp_walk using q1
    refine wpAny_stack_any fun st => wpAny_pure ?_
    split
    · rename_i c _ _ _ _ _
      cases (c == Value.type "enumerate") <;> (wp_walk using q1; exact ⟨_, rfl, h⟩)
    · wp_walk using q1
      exact ⟨_, rfl, h⟩
theorem enum_tuple {prog : Program} {w : World} {A : Around} {E : Value → Shared → Prop} {s : Shared} {t : Addr} {items : Array Value} {Q : Value → Shared → Prop} (hT : s.heap.IsTuple t items)
    (h : ∀ h', IsEnum h' (s.heap.objs.size + 1) s.heap.objs.size 0 .none → h'.IsTupleIter s.heap.objs.size t 0 → (∀ b o, s.heap.get? b = some o → h'.get? b = some o) → Q (.ref (s.heap.objs.size + 1)) { s with heap := h' }) :
    wpAny (model prog w) A (call (.type "enumerate") [.ref t]) Q E s := by
  refine callType_new F.called_enumerate (by decide) (F.typeCall_enumerate_1 _) (F.newCall_enumerate_1 _) (fun obj => F.args_object_init_2 obj _) F.entry_enumerate_new (enum_new1 (begins_tuple t items)) ⟨hT, ?_⟩
  have hz : (s.heap.push { cls := .type "tuple_iterator", data := .fields #[.ref t, .int 0 0] }).objs.size = s.heap.objs.size + 1 := Heap.size_push ..
  show _ ∧ _
  rw [hz]
  have e1 : ((s.heap.push { cls := .type "tuple_iterator", data := .fields #[.ref t, .int 0 0] }).push { cls := .type "enumerate", data := .fields #[.none, .bool false, .ref s.heap.objs.size, rawInt 0, .none, .none] }).get? (s.heap.objs.size + 1) = some { cls := .type "enumerate", data := .fields #[.none, .bool false, .ref s.heap.objs.size, rawInt 0, .none, .none] } := by
    rw [← hz]; exact Heap.get?_push_size _ rfl
  exact ⟨⟨_, e1, rfl⟩, h _ e1 ⟨_, Heap.get?_push_of_some _ (Heap.get?_push_size _ rfl), rfl, rfl⟩ fun b o e => Heap.get?_push_of_some _ (Heap.get?_push_of_some _ e)⟩
/-- the tuple at a, each item in a new pair -/
def IteT (K : PySem.W.Frag) (a : Addr) : It :=
  ⟨fun i H => ∃ (xs : List V) (x : V), SqT K H a xs ∧ xs[i]? = some x, fun i H v H' => ∃ T x, v = .ref T ∧ H T = none ∧ H' = upd H T (.tup [.int (i : Nat), x]) ∧ ∀ xs, SqT K H a xs → xs[i]? = some x, fun i H => ∃ xs : List V, SqT K H a xs ∧ xs.length = i⟩
theorem turn_enumT {P : Program} {w : World} {K : PySem.W.Frag} {elts : List Expr} {kk : Nat} {tpos : Pos} (a e it : Addr) (hane : a ≠ it) :
    Turn P w K (.Tuple elts kk tpos) (IteT K a) [e, it] e (fun i h => (∃ old, IsEnum h e it ((i : Nat) : Int) old) ∧ h.IsTupleIter it a i ∧ e ≠ it) where
  mem := by simp
  obj := fun i h st b hb => by
    obtain ⟨⟨old, he⟩, ⟨o, ho, hc, hd⟩, _⟩ := st
    rcases (by simpa using hb : b = e ∨ b = it) with z | z
    · rw [z]; exact ⟨_, he, fun v q => nomatch q⟩
    · rw [z]; exact ⟨o, ho, fun v q => by rw [hd] at q; cases q⟩
  keep := fun i h h' st k => let ⟨⟨old, he⟩, hi, hne⟩ := st; ⟨⟨old, k e (by simp) _ he⟩, hi.at fun o q => k it (by simp) o q, hne⟩
  item := by
    intro X hP hw hK hc i pins s σ H E inv hf st hg
    subst hP hw hK
    obtain ⟨⟨old, he⟩, hit, hne⟩ := st
    obtain ⟨xs, x, hq, hx⟩ := hg
    obtain ⟨its, rv, p, hz⟩ := inv.tuple hq
    obtain ⟨u, hu, ru⟩ := rv.get hx
    have hel : e < s.heap.objs.size := Heap.lt_size he
    have hil : it < s.heap.objs.size := by obtain ⟨_, q, _⟩ := hit; exact Heap.lt_size q
    have hlt : i < its.toArray.size := by
      have := (List.getElem?_eq_some_iff.mp hu).1
      simpa using this
    have hTup : s.heap.IsTuple a its.toArray := p
    have hea : e ≠ a := fun z => by
      obtain ⟨o, ho, hcl, _⟩ := hTup
      rw [← z, he] at ho
      cases ho
      exact absurd (show Value.type "enumerate" = Value.type "tuple" from hcl) (by decide)
    refine wpAny_pyNext_enum_itemD (Draws.tuple (show X.A.in1.handled = none from inv.ok.hd hc) it a hane its.toArray) he ⟨hit, hTup⟩ hlt hne (by simp; exact ⟨hne, hea⟩) fun y h' tk hy ho hst hT hsz hk => ?_
    have ey : y = u := by
      have h1 : its.toArray[i]? = some u := by simpa using hu
      rw [h1] at hy; cases hy; rfl
    subst ey
    refine ⟨_, rfl, wpAny_letOwnedTupleGo_enum (s := { s with heap := h', toks := tk + 1 }) ho fun h'' he' sb => ?_⟩
    have hT2 : h''.get? s.heap.objs.size = some { cls := .type "tuple", data := .seq #[.int i tk, y] } := (sb.2 _ (Nat.ne_of_gt hel)).trans hT
    have new : ObjOk X.prog X.w (upd H s.heap.objs.size (.tup [.int (i : Nat), x])) h'' s.heap.objs.size (.tup [.int (i : Nat), x]) :=
      ⟨by show 2 ≤ sizeLine; decide, [.int i tk, y], .cons ⟨_, rfl⟩ (.cons ru .nil), ⟨_, hT2, rfl, _, rfl⟩⟩
    have J : Inv X pins σ (upd H s.heap.objs.size (.tup [.int (i : Nat), x])) { s with heap := h'', toks := tk + 1 } :=
      inv.turnedNew (ch := [e, it]) (fun b ob hb q => (sb.2 b (fun z => hb (by simp [z]))).trans (hk b ob (fun z => hb (by simp [z])) (fun z => hb (by simp [z])) q)) hf (Nat.le_refl _) new
    refine ⟨.ref s.heap.objs.size, _, J, rfl, ⟨_, x, rfl, inv.hok.fresh (Nat.le_refl _), rfl, fun ys hy => by rw [inv.tuple_inj hy hq]; exact hx⟩, ⟨⟨y, ?_⟩, hst.1.at fun o q => (sb.2 it (Ne.symm hne)).trans q, hne⟩, fun b hb => ?_⟩
    · rw [show ((i + 1 : Nat) : Int) = (i : Int) + 1 by omega]; exact he'
    · have hb' : b < s.heap.objs.size := by
        rcases (by simpa using hb : b = e ∨ b = it) with z | z
        · rw [z]; exact hel
        · rw [z]; exact hil
      rw [upd_ne (Nat.ne_of_lt hb')]
      exact (hf b hb).1
  done := by
    intro X hP hw hK hc i pins s σ H E inv hf st hg
    subst hP hw hK
    obtain ⟨⟨old, he⟩, hit, hne⟩ := st
    obtain ⟨xs, hq, hx⟩ := hg
    obtain ⟨its, rv, p, hz⟩ := inv.tuple hq
    obtain ⟨f0, f1, f2, f3, f4, f5⟩ := hf it (by simp)
    have hl := rv.length
    have hi : its.toArray.size = i := by rw [List.size_toArray, ← hl]; exact hx
    subst hi
    exact wpAny_pyNext_enum_endD (Draws.tuple (show X.A.in1.handled = none from inv.ok.hd hc) it a hane its.toArray) he ⟨hit, p⟩ fun h' eb => ⟨rfl, inv.turned (t' := s.toks) (fun b o hb q => eb b o hb q) f0 f1 f3 f4 f5⟩
  self := fun A i s Q E st h => let ⟨⟨_, he⟩, _⟩ := st; wpAny_pyIter_enum he h

def enumD (l : List D) : List D := l.zipIdx.map fun z => .tup [.int (z.2 : Int), z.1]
theorem enumD_get {l : List D} {i : Nat} {d : D} (h : (enumD l)[i]? = some d) : ∃ x, l[i]? = some x ∧ d = .tup [.int (i : Int), x] := by
  unfold enumD at h
  rw [List.getElem?_map, List.getElem?_zipIdx] at h
  cases z : l[i]? with
  | none => rw [z] at h; cases h
  | some x => rw [z] at h; cases h; exact ⟨x, rfl, by rw [Nat.zero_add]⟩
theorem enumD_length (l : List D) : (enumD l).length = l.length := by unfold enumD; simp
def iEnum (te : TED) : TID := fun σ h S => te σ h fun x h1 => match seqOf h1 x with
  | some l => S (enumD l) (fun h => seqOf h x = some l) h1
  | none => False
section
variable {K : PySem.W.Frag} {Z : Hp}
theorem yl_pair {Z' H : Hp} {h : AH} {T : Addr} {n : Nat} {v : V} {d : D} (S : Sat K Z' h H) (nT : H T = none) (r : Den K Z' d v) : Kp Z' h H (upd Z' T (.tup [.int (n : Nat), v])) h (upd H T (.tup [.int (n : Nat), v])) ∧ Sat K (upd Z' T (.tup [.int (n : Nat), v])) h (upd H T (.tup [.int (n : Nat), v])) ∧ Den K (upd Z' T (.tup [.int (n : Nat), v])) (.tup [.int (n : Int), d]) (.ref T) := by
  obtain ⟨e1, S1⟩ := S.newZ (u := .tup [.int (n : Nat), v]) nT
  exact ⟨Kp.newZ nT (S.fresh nT).2, S1, by unfold Den; exact ⟨T, _, rfl, .of upd_same, denL_cons (dint _) (denL_one (r.mono e1))⟩⟩
theorem yl_enumL {x : D} {a : Addr} {l : List D} (hd : Den K Z x (.ref a)) (hn : ∀ y, x ≠ .tup y) : Yl K Z (enumD l) (fun h => seqOf h x = some l) (Ite K a) := by
  have key : ∀ (Z' : Hp) h H, Same Z Z' → Sat K Z' h H → seqOf h x = some l → ∃ vs, SqL K H a vs ∧ DenL K Z' l vs := by
    intro Z' h H e S q
    have q' : slOf h x = some l := by
      cases x <;> first | exact q | exact absurd rfl (hn _)
    obtain ⟨b, vs, e1, dl, sq⟩ := slOf_den S (hd.mono e) q'
    cases e1
    exact ⟨vs, sq, dl⟩
  refine ⟨fun i d Z' h H hi e S q => ?_, fun Z' h H e S q => ?_⟩
  · obtain ⟨vs, sq, dl⟩ := key Z' h H e S q
    obtain ⟨x0, hx0, rfl⟩ := enumD_get hi
    obtain ⟨v, hv, r⟩ := dl.get hx0
    refine ⟨⟨vs, v, sq, hv⟩, fun x' H' ⟨T, y, e1, nT, eH, yx⟩ => ?_⟩
    have : y = v := by have := yx vs sq; rw [hv] at this; cases this; rfl
    subst this e1 eH
    obtain ⟨a1, a2, a3⟩ := yl_pair (n := i) S nT r
    exact ⟨_, a1, a2, a3⟩
  · obtain ⟨vs, sq, dl⟩ := key Z' h H e S q
    exact ⟨vs, sq, by rw [enumD_length, dl.length]; exact Nat.le_refl _⟩
theorem yl_enumT {l : List D} {a : Addr} {vs : List V} (sq : SqT K Z a vs) (dl : DenL K Z l vs) {ok : AH → Prop} : Yl K Z (enumD l) ok (IteT K a) := by
  refine ⟨fun i d Z' h H hi e S q => ?_, fun Z' h H e S q => ⟨vs, Same.sqt (e.trans S.zs) sq, by rw [enumD_length, dl.length]⟩⟩
  obtain ⟨x0, hx0, rfl⟩ := enumD_get hi
  obtain ⟨v, hv, r⟩ := dl.get hx0
  have sq' := Same.sqt (e.trans S.zs) sq
  refine ⟨⟨vs, v, sq', hv⟩, fun x' H' ⟨T, y, e1, nT, eH, yx⟩ => ?_⟩
  have : y = v := by have := yx vs sq'; rw [hv] at this; cases this; rfl
  subst this e1 eH
  obtain ⟨a1, a2, a3⟩ := yl_pair (n := i) S nT (r.mono e)
  exact ⟨_, a1, a2, a3⟩
end
section
variable {X : Cx} {e : Expr} {te : TED} {p pos tpos : Pos} {elts : List Expr} {kk : Nat}
theorem si_enum (hg : Gl X "enumerate") (hm : X.mg "enumerate" = none) (he : SE X e te) (hs : starEach [e] X.env = (false, eval e X.env) :: starEach [] X.env := by rfl) :
    SI X (.Tuple elts kk tpos) (.Call (.Name "enumerate" p) [e] [] pos) (T3.iEnum te) := ⟨fun pins s σV H R inv q => by
  obtain ⟨Z, σ, h, T, S, dS, q, f⟩ := q
  have ha : PA X [e] (L2.tCons (lE X.K te) L2.tNil) := pa_cons he pa_nil hs
  refine Call_ (ld_blt inv hg hm boot_enumerate (PyProof.Rows.callWith_type1 (thn (ha.run pos pins s σV H (fun vs H1 => (∃ a xs, vs = [.ref a] ∧ SqL X.K H1 a xs ∧ R (Ite X.K a) H1) ∨ (∃ a xs, vs = [.ref a] ∧ SqT X.K H1 a xs ∧ R (IteT X.K a) H1)) inv
    ⟨Z, σ, h, _, S, dS, q, fun Z1 d v h1 H1 k1 S1 r1 q1 => ?_⟩) fun us s1 ⟨vs, H1, I1, r1, q1⟩ => ?_) hs rfl))
  · split at q1
    · next l el =>
      cases d with
      | tup m =>
        cases (show some m = some l from el)
        unfold Den at r1
        obtain ⟨a, vs, rfl, sq, dl⟩ := r1
        exact .inr ⟨a, vs, rfl, S1.sqt sq, f Z1 _ _ h1 H1 _ k1 S1 q1 (yl_enumT sq dl)⟩
      | lst m =>
        obtain ⟨a, vs, rfl, dl, sq⟩ := slOf_den S1 r1 (show slOf h1 (.lst m) = some l from el)
        exact .inl ⟨a, vs, rfl, sq, f Z1 _ _ h1 H1 _ k1 S1 q1 (yl_enumL r1 (fun _ z => by cases z))⟩
      | lok m =>
        obtain ⟨a, vs, rfl, dl, sq⟩ := slOf_den S1 r1 (show slOf h1 (.lok m) = some l from el)
        exact .inl ⟨a, vs, rfl, sq, f Z1 _ _ h1 H1 _ k1 S1 q1 (yl_enumL r1 (fun _ z => by cases z))⟩
      | ref m =>
        obtain ⟨a, vs, rfl, dl, sq⟩ := slOf_den S1 r1 (show slOf h1 (.ref m) = some l from el)
        exact .inl ⟨a, vs, rfl, sq, f Z1 _ _ h1 H1 _ k1 S1 q1 (yl_enumL r1 (fun _ z => by cases z))⟩
      | _ => exact absurd (show (none : Option (List D)) = some l from el) (fun z => by cases z)
    · exact q1.elim
  · have fin : ∀ (h' : Heap) (b : Addr), b = s1.heap.objs.size + 1 ∨ b = s1.heap.objs.size → FpOk X pins H1 b := fun h' b hb => by
      have hle : s1.heap.objs.size ≤ b := by
        rcases hb with z | z
        · rw [z]; exact Nat.le_add_right _ _
        · rw [z]; exact Nat.le_refl _
      exact I1.fpOk hle (I1.hok.fresh hle)
    rcases q1 with ⟨a, xs, rfl, sq, w⟩ | ⟨a, xs, rfl, sq, w⟩
    · obtain ⟨u, rfl, ru⟩ := r1.one
      obtain rfl : u = .ref a := ru
      obtain ⟨its, rv, plain, hz⟩ := I1.list sq
      refine call_enumerate_list plain.isList fun h' he hit hsz hk => wpAny_pyIter_enum he ?_
      exact ⟨s1.heap.objs.size + 1, [s1.heap.objs.size + 1, s1.heap.objs.size], _, _, H1, rfl, I1.kept (t' := s1.toks) hk, turn_enum a (s1.heap.objs.size + 1) s1.heap.objs.size, ⟨⟨.none, he⟩, hit, Nat.succ_ne_self _⟩, fun b hb => fin h' b (by simpa using hb), w⟩
    · obtain ⟨u, rfl, ru⟩ := r1.one
      obtain rfl : u = .ref a := ru
      obtain ⟨its, rv, plain, hz⟩ := I1.tuple sq
      have hT : s1.heap.IsTuple a its.toArray := plain
      have ha' : a ≠ s1.heap.objs.size := by
        obtain ⟨o, ho, _⟩ := plain
        exact Nat.ne_of_lt (Heap.lt_size ho)
      refine enum_tuple hT fun h' he hit hk => wpAny_pyIter_enum he ?_
      exact ⟨s1.heap.objs.size + 1, [s1.heap.objs.size + 1, s1.heap.objs.size], _, _, H1, rfl, I1.kept (t' := s1.toks) hk, turn_enumT a (s1.heap.objs.size + 1) s1.heap.objs.size ha', ⟨⟨.none, he⟩, hit, Nat.succ_ne_self _⟩, fun b hb => fin h' b (by simpa using hb), w⟩⟩
end
end T3

/-! T3: comprehensions of two clauses. -/
namespace T3
open PySem PySem.Spec L2
open PyProof.Rows hiding St

def lc2L (ok : AH → Prop) (g : TGD) (tt : TTD) (ti1 : TID) (g1 : TGD) (tt1 : TTD) (te : TED) (vs1 : List Nat) (σ : SD) : List D → List D → AH → (List D → AH → Prop) → Prop
  | [], acc, h, Q => ok h ∧ Q acc h
  | x :: xs, acc, h, Q => ok h ∧ g x σ h fun σ2 h2 => tt σ2 h2 fun b h3 => if b = true then ti1 σ2 h3 fun l1 ok1 h4 => lcL ok1 g1 tt1 te (wipeD σ2 vs1) l1 acc h4 fun acc' h5 => lc2L ok g tt ti1 g1 tt1 te vs1 σ xs acc' h5 Q
    else lc2L ok g tt ti1 g1 tt1 te vs1 σ xs acc h3 Q
/-- the new list is frozen -/
def tLc2 (ti : TID) (g : TGD) (tt : TTD) (ti1 : TID) (g1 : TGD) (tt1 : TTD) (te : TED) (vs vs1 : List Nat) : TED := fun σ h Q => ti σ h fun l ok h1 => lc2L ok g tt ti1 g1 tt1 te vs1 (wipeD σ vs) l [] h1 fun acc h2 => Q (.lst acc) h2
/-- a list on its way is frozen -/
theorem way_frz {K : PySem.W.Frag} {R : QD} {Q : VK} {Z H Z2 H2 : Hp} {h h2 : AH} {acc : List T3.D} {D : Addr} (k2 : KpD D Z h H Z2 h2 H2) (S2 : Sat K Z2 h2 H2) (w2 : Way K D Z2 h2 H2 acc) (hne : ∀ u, H D = some u → h D = none → False) (q2 : R (.lst acc) h2)
    (f : ∀ Z' d v h' H', Kp Z h H Z' h' H' → Sat K Z' h' H' → Den K Z' d v → R d h' → Q v H') : Q (.ref D) H2 := by
  obtain ⟨us, e, d⟩ := w2.v
  have S3 : Sat K (upd Z2 D (.lst us)) h2 H2 := by
    refine ⟨fun b x q => ?_, fun a x q => ?_, fun a x q => ?_⟩
    · by_cases hb : b = D
      · subst hb; rw [upd_same] at q; cases q; exact e
      · rw [upd_ne hb] at q; exact S2.zs b x q
    · obtain ⟨u, a1, a2⟩ := S2.hs a x q
      exact ⟨u, a1, a2.mono (same_upd w2.z)⟩
    · rw [upd_ne (fun z => by rw [z, w2.h] at q; cases q)]; exact S2.ds a x q
  refine f (upd Z2 D (.lst us)) (.lst acc) (.ref D) h2 H2 ⟨k2.same.trans (same_upd w2.z), fun a u x n => ?_⟩ S3 (by unfold Den; exact ⟨D, us, rfl, upd_same, d.mono (same_upd w2.z)⟩) q2
  have ne : a ≠ D := fun z => by subst z; exact hne u x n
  rw [upd_ne ne]
  exact k2.keep a u ne x n
theorem lc2_imp {K : PySem.W.Frag} {ti ti1 : TID} {g g1 : TGD} {tt tt1 : TTD} {te : TED} {vs vs1 : List Nat} {σV : L2.St} {H : Hp} {Q : VK} {Z : Hp} {σ : SD} {h : AH} {P : List D → AH → Prop} (S : Sat K Z h H) (dS : DenS K Z σ σV)
    (q : ti σ h fun l ok h1 => lc2L ok g tt ti1 g1 tt1 te vs1 (wipeD σ vs) l [] h1 P)
    (f : ∀ (Z2 : Hp) (acc : List D) (h2 : AH) (H2 : Hp) (D : Addr), KpD D Z h H Z2 h2 H2 → Sat K Z2 h2 H2 → Way K D Z2 h2 H2 acc → (∀ u, H D = some u → h D = none → False) → P acc h2 → Q (.ref D) H2) :
    L2.tLc2 (lI K ti) (lG K vs g) (lT K tt) (lI K ti1) (lG K vs1 g1) (lT K tt1) (lE K te) vs vs1 σV H Q := by
  refine ⟨Z, σ, h, _, S, dS, q, fun Z0 l ok h0 H0 J k0 S0 q0 y => fun D hD => ?_⟩
  obtain ⟨nh, nZ⟩ := S0.fresh hD
  have hne : ∀ u, H D = some u → h D = none → False := fun u a b => by
    have := (k0.keep D u a b).1
    rw [hD] at this; cases this
  refine ⟨fun i m H1 => ∃ Z1 h1 acc, KpD D Z h H Z1 h1 H1 ∧ Same Z0 Z1 ∧ Sat K Z1 h1 H1 ∧ Way K D Z1 h1 H1 acc ∧ m = l.length - i ∧ i ≤ l.length ∧ lc2L ok g tt ti1 g1 tt1 te vs1 (wipeD σ vs) (l.drop i) acc h1 P,
    ⟨l.length, Z0, h0, [], k0.d.trans .at, Same.refl _, S0.at nZ nh, ⟨nZ, nh, [], upd_same, denL_nil⟩, rfl, Nat.zero_le _, q0⟩, ?_⟩
  rintro i m H1 ⟨Z1, h1, acc, k1, s1, S1, w1, rfl, hi, q1⟩
  by_cases hlt : i < l.length
  · have ed : l.drop i = l[i] :: l.drop (i + 1) := List.drop_eq_getElem_cons hlt
    rw [ed] at q1
    obtain ⟨ok1, q1⟩ := q1
    obtain ⟨gg, yy⟩ := y.go i l[i] Z1 h1 H1 (List.getElem?_eq_getElem hlt) s1 S1 ok1
    refine .inr ⟨gg, fun H' => ∃ Z1 h1 acc, KpD D Z h H Z1 h1 H' ∧ Same Z0 Z1 ∧ Sat K Z1 h1 H' ∧ Way K D Z1 h1 H' acc ∧ lc2L ok g tt ti1 g1 tt1 te vs1 (wipeD σ vs) (l.drop (i + 1)) acc h1 P, ?_, fun x H' yx => ?_⟩
    · rintro H' ⟨Z2, h2, acc2, a1, a2, a3, a4, a5⟩
      exact ⟨l.length - (i + 1), by omega, Z2, h2, acc2, a1, a2, a3, a4, rfl, hlt, a5⟩
    · obtain ⟨Z2, k2, S2, r2⟩ := yy x H' yx
      have sZ : Same Z Z2 := k1.same.trans k2.same
      refine ⟨Z2, wipeD σ vs, h1, l[i], _, S2, (dS.mono sZ).wipe vs, r2, q1, fun Z3 σ3 σV3 h3 H3 k3 S3 d3 w3 q3 => ⟨w3.trans wipe_wipe, ?_⟩⟩
      have w13 := (w1.kp k2).kp k3
      refine ⟨Z3, σ3, h3, _, S3, d3, q3, fun Z4 b h4 H4 k4 S4 q4 => ?_⟩
      have w14 := w13.kp k4
      have k14 : KpD D Z h H Z4 h4 H4 := ((k1.trans k2.d).trans k3.d).trans k4.d
      have s14 : Same Z0 Z4 := ((s1.trans k2.same).trans k3.same).trans k4.same
      cases b
      · exact ⟨Z4, h4, acc, k14, s14, S4, w14, q4⟩
      · refine ⟨Z4, σ3, h4, _, S4, d3.mono k4.same, q4, fun Z5 l5 ok5 h5 H5 J5 k5 S5 q5 y5 => ?_⟩
        have w15 := w14.kp k5
        have k15 := k14.trans k5.d
        have s15 := s14.trans k5.same
        have d5 := (d3.mono k4.same).mono k5.same
        refine ⟨fun j m H6 => ∃ Z6 h6 acc6, KpD D Z h H Z6 h6 H6 ∧ Same Z5 Z6 ∧ Sat K Z6 h6 H6 ∧ Way K D Z6 h6 H6 acc6 ∧ m = l5.length - j ∧ j ≤ l5.length ∧ lcL ok5 g1 tt1 te (wipeD σ3 vs1) (l5.drop j) acc6 h6 (fun acc' h' => lc2L ok g tt ti1 g1 tt1 te vs1 (wipeD σ vs) (l.drop (i + 1)) acc' h' P),
          ⟨l5.length, Z5, h5, acc, k15, Same.refl _, S5, w15, rfl, Nat.zero_le _, q5⟩, ?_⟩
        rintro j m H6 ⟨Z6, h6, acc6, k6, s6, S6, w6, rfl, hj, q6⟩
        by_cases hltj : j < l5.length
        · have edj : l5.drop j = l5[j] :: l5.drop (j + 1) := List.drop_eq_getElem_cons hltj
          rw [edj] at q6
          obtain ⟨ok6, q6⟩ := q6
          obtain ⟨gg6, yy6⟩ := y5.go j l5[j] Z6 h6 H6 (List.getElem?_eq_getElem hltj) s6 S6 ok6
          refine .inr ⟨gg6, fun H' => ∃ Z6 h6 acc6, KpD D Z h H Z6 h6 H' ∧ Same Z5 Z6 ∧ Sat K Z6 h6 H' ∧ Way K D Z6 h6 H' acc6 ∧ lcL ok5 g1 tt1 te (wipeD σ3 vs1) (l5.drop (j + 1)) acc6 h6 (fun acc' h' => lc2L ok g tt ti1 g1 tt1 te vs1 (wipeD σ vs) (l.drop (i + 1)) acc' h' P), ?_, fun x H' yx => ?_⟩
          · rintro H' ⟨Z7, h7, acc7, a1, a2, a3, a4, a5⟩
            exact ⟨l5.length - (j + 1), by omega, Z7, h7, acc7, a1, a2, a3, a4, rfl, hltj, a5⟩
          · obtain ⟨Z7, k7, S7, r7⟩ := yy6 x H' yx
            refine ⟨Z7, wipeD σ3 vs1, h6, l5[j], _, S7, ((d5.mono s6).mono k7.same).wipe vs1, r7, q6, fun Z8 σ8 σV8 h8 H8 k8 S8 d8 w8 q8 => ⟨w8.trans wipe_wipe, ?_⟩⟩
            have w18 := (w6.kp k7).kp k8
            refine ⟨Z8, σ8, h8, _, S8, d8, q8, fun Z9 b9 h9 H9 k9 S9 q9 => ?_⟩
            have w19 := w18.kp k9
            have k19 : KpD D Z h H Z9 h9 H9 := ((k6.trans k7.d).trans k8.d).trans k9.d
            have s19 : Same Z5 Z9 := ((s6.trans k7.same).trans k8.same).trans k9.same
            cases b9
            · exact ⟨Z9, h9, acc6, k19, s19, S9, w19, q9⟩
            · refine ⟨Z9, σ8, h9, _, S9, d8.mono k9.same, q9, fun Z10 d v h10 H10 k10 S10 r10 q10 => ?_⟩
              have w20 := w19.kp k10
              obtain ⟨us, e20, d20⟩ := w20.v
              refine ⟨us, e20, by rw [← d20.length]; exact q10.1, Z10, h10, acc6 ++ [d], (k19.trans k10.d).trans .at, s19.trans k10.same, S10.at w20.z w20.h, ⟨w20.z, w20.h, us ++ [v], upd_same, d20.append (denL_one r10)⟩, q10.2⟩
        · have e : j = l5.length := by omega
          subst e
          rw [List.drop_length] at q6
          obtain ⟨ok6, q6⟩ := q6
          exact .inl ⟨y5.stop Z6 h6 H6 s6 S6 ok6, Z6, h6, acc6, k6, s15.trans s6, S6, w6, q6⟩
  · have e : i = l.length := by omega
    subst e
    rw [List.drop_length] at q1
    obtain ⟨ok1, q1⟩ := q1
    exact .inl ⟨y.stop Z1 h1 H1 s1 S1 ok1, f Z1 acc h1 H1 D k1 S1 w1 hne q1⟩
theorem lc2_frz {K : PySem.W.Frag} {ti ti1 : TID} {g g1 : TGD} {tt tt1 : TTD} {te : TED} {vs vs1 : List Nat} {σV : L2.St} {H : Hp} {Q : VK} (q : lE K (T3.tLc2 ti g tt ti1 g1 tt1 te vs vs1) σV H Q) : L2.tLc2 (lI K ti) (lG K vs g) (lT K tt) (lI K ti1) (lG K vs1 g1) (lT K tt1) (lE K te) vs vs1 σV H Q := by
  obtain ⟨Z, σ, h, R, S, dS, q, f⟩ := q
  exact lc2_imp S dS q fun Z2 acc h2 H2 D k2 S2 w2 hne q2 => way_frz k2 S2 w2 hne q2 f
section
variable {X : Cx} {pos : Pos} {elt tg iter tg1 iter1 : Expr} {ifs ifs1 : List Expr} {scope : Scope} {own : List (Str × Nat)} {vs1 : List Nat} {ti ti1 : TID} {g g1 : TGD} {tt tt1 : TTD} {te : TED}
theorem se_lc2 (hc : X.calm = true) (hN : X.N.Nodup) (hi : SI X tg iter ti) (ok : BlkOk X.N X.env.scope scope own) (hv : ∀ i ∈ vs1, i ∈ own.map (·.2))
    (hg : Blk X scope fun X => SG X tg (own.map (·.2)) g) (ht : Blk X scope fun X => STs X ifs tt) (hi1 : Blk X scope fun X => SI X tg1 iter1 ti1) (hg1 : Blk X scope fun X => SG X tg1 vs1 g1) (ht1 : Blk X scope fun X => STs X ifs1 tt1) (he : Blk X scope fun X => SE X elt te)
    (hs : ∀ x, foldedSetIterable iter X.env x = pure x := by intro _; rfl) (hs1 : ∀ env x, foldedSetIterable iter1 env x = pure x := by intro _ _; rfl) :
    SE X (.ListComp elt [⟨tg, iter, ifs, 0⟩, ⟨tg1, iter1, ifs1, 0⟩] scope pos) (T3.tLc2 ti g tt ti1 g1 tt1 te (own.map (·.2)) vs1) :=
  (pe_lc2 (g := lG X.K (List.map (fun (x : Str × Nat) => x.2) own) g) (tt := lT X.K tt) (te := lE X.K te) (wi1 := lI X.K ti1) (g1 := lG X.K vs1 g1) (tt1 := lT X.K tt1) hc hN hi ok hv hg ht hi1 hg1 ht1 he hs hs1).imp fun _ _ _ q => lc2_frz q
theorem ss_setLc2 {i : Nat} {y : Str} {py : Pos} {spos : Pos} (hc : X.calm = true) (hN : X.N.Nodup) (hy : X.N[i]? = some y) (hyl : X.env.scope.names.lookup y = some .local)
    (hsw : swapsWith (.ListComp elt [⟨tg, iter, ifs, 0⟩, ⟨tg1, iter1, ifs1, 0⟩] scope pos) (some (.Name y py)) spos.line X.env = pure true) (hi : SI X tg iter ti) (ok : BlkOk X.N X.env.scope scope own) (hv : ∀ i ∈ vs1, i ∈ own.map (·.2))
    (hg : Blk X scope fun X => SG X tg (own.map (·.2)) g) (ht : Blk X scope fun X => STs X ifs tt) (hi1 : Blk X scope fun X => SI X tg1 iter1 ti1) (hg1 : Blk X scope fun X => SG X tg1 vs1 g1) (ht1 : Blk X scope fun X => STs X ifs1 tt1) (he : Blk X scope fun X => SE X elt te)
    (hs : ∀ x, foldedSetIterable iter X.env x = pure x := by intro _; rfl) (hs1 : ∀ env x, foldedSetIterable iter1 env x = pure x := by intro _ _; rfl) :
    SS X (.Assign [.Name y py] (.ListComp elt [⟨tg, iter, ifs, 0⟩, ⟨tg1, iter1, ifs1, 0⟩] scope pos) spos) (T3.tAsg (T3.tLc2 ti g tt ti1 g1 tt1 te (own.map (·.2)) vs1) (T3.gName i)) :=
  (ps_setLc2 (g := lG X.K (List.map (fun (x : Str × Nat) => x.2) own) g) (tt := lT X.K tt) (te := lE X.K te) (wi1 := lI X.K ti1) (g1 := lG X.K vs1 g1) (tt1 := lT X.K tt1) hc hN hy hyl hsw hi ok hv hg ht hi1 hg1 ht1 he hs hs1).imp fun _ _ _ q => asg_imp (fun _ _ _ z => lc2_frz z) q
end
end T3

/-! T3: plain lemmas on readings: loops by invariants, comprehensions, == of trees. -/
namespace T3
open PySem PySem.Spec L2
open PyProof.Rows hiding St

/-- a loop by what holds ahead of each turn (the items that are still to come, the slots, the heap) -/
theorem forL_inv {ok : AH → Prop} {g : TGD} {tb : TSD} {E : EndsD} (I : List D → SD → AH → Prop) (hok : ∀ l σ h, I l σ h → ok h)
    (step : ∀ x xs σ h, I (x :: xs) σ h → g x σ h fun σ2 h2 => ∀ E', E'.rt = E.rt → E'.bk = E.nx → (∀ σ h, I xs σ h → E'.nx σ h) → (∀ σ h, I xs σ h → E'.ct σ h) → tb E' σ2 h2)
    (hg : ∀ d σ h (P Q : SD → AH → Prop), (∀ σ h, P σ h → Q σ h) → g d σ h P → g d σ h Q)
    (fin : ∀ σ h, I [] σ h → E.nx σ h) : ∀ (l : List D) {σ : SD} {h : AH}, I l σ h → forL ok g tb E l σ h
  | [], _, _, i => ⟨hok _ _ _ i, fin _ _ i⟩
  | x :: xs, _, _, i => ⟨hok _ _ _ i, hg _ _ _ _ _ (fun σ h q => q _ rfl rfl (fun _ _ => forL_inv I hok step hg fin xs) (fun _ _ => forL_inv I hok step hg fin xs)) (step x xs _ _ i)⟩
theorem lcL_inv {ok : AH → Prop} {g : TGD} {tt : TTD} {te : TED} {σ : SD} {Q : List D → AH → Prop} (I : List D → List D → AH → Prop) (hok : ∀ l acc h, I l acc h → ok h)
    (step : ∀ x xs acc h, I (x :: xs) acc h → ∀ F : List D → AH → Prop, (∀ acc h, I xs acc h → F acc h) → g x σ h fun σ2 h2 => tt σ2 h2 fun b h3 => if b = true then te σ2 h3 fun y h4 => acc.length < sizeLine ∧ F (acc ++ [y]) h4 else F acc h3)
    (fin : ∀ acc h, I [] acc h → Q acc h) : ∀ (l : List D) {acc : List D} {h : AH}, I l acc h → lcL ok g tt te σ l acc h Q
  | [], _, _, i => ⟨hok _ _ _ i, fin _ _ i⟩
  | x :: xs, _, _, i => ⟨hok _ _ _ i, step x xs _ _ i (fun acc h => lcL ok g tt te σ xs acc h Q) fun _ _ j => lcL_inv I hok step fin xs j⟩
/-- a comprehension whose parts are plain: what is kept, and what comes of it -/
theorem lcL_pure {ok : AH → Prop} {g : TGD} {tt : TTD} {te : TED} {σ : SD} {Q : List D → AH → Prop} {h : AH} (fb : D → Bool) (fv : D → D) (hok : ok h) :
    ∀ (l : List D) {acc : List D}, (∀ x ∈ l, ∀ (F : Prop) (G : D → Prop), (fb x = false → F) → (fb x = true → G (fv x)) → ∀ (F' : AH → Prop) (G' : D → AH → Prop), (F → F' h) → (∀ y, G y → G' y h) → g x σ h fun σ2 h2 => tt σ2 h2 fun b h3 => if b = true then te σ2 h3 G' else F' h3) →
    acc.length + l.length ≤ sizeLine → Q (acc ++ (l.filter fb).map fv) h → lcL ok g tt te σ l acc h Q
  | [], acc, _, _, q => ⟨hok, by simpa using q⟩
  | x :: xs, acc, st, hl, q => by
    have hl' : acc.length + (xs.length + 1) ≤ sizeLine := hl
    refine ⟨hok, st x (List.mem_cons_self ..) (fb x = false) (fun y => y = fv x ∧ fb x = true) id (fun e => ⟨rfl, e⟩) _ _ (fun e => ?_) (fun y ⟨ey, e⟩ => ⟨by omega, ?_⟩)⟩
    · refine lcL_pure fb fv hok xs (fun y hy => st y (List.mem_cons_of_mem _ hy)) (by omega) ?_
      rw [List.filter_cons, e] at q
      exact q
    · subst ey
      refine lcL_pure fb fv hok xs (fun y hy => st y (List.mem_cons_of_mem _ hy)) (by rw [List.length_append]; simp; omega) ?_
      rw [List.filter_cons, e] at q
      simpa using q
/-- .. without a test -/
theorem lcL_map {ok : AH → Prop} {g : TGD} {te : TED} {σ : SD} {Q : List D → AH → Prop} {h : AH} (fv : D → D) (hok : ok h) (l : List D) {acc : List D} (st : ∀ x ∈ l, ∀ G : D → AH → Prop, G (fv x) h → g x σ h fun σ2 h2 => te σ2 h2 G)
    (hl : acc.length + l.length ≤ sizeLine) (q : Q (acc ++ l.map fv) h) (hg : ∀ d σ h (P Q : SD → AH → Prop), (∀ σ h, P σ h → Q σ h) → g d σ h P → g d σ h Q) : lcL ok g tYes te σ l acc h Q := by
  refine lcL_pure (fun _ => true) fv hok l (fun x hx F G _ hG F' G' _ hG' => ?_) hl (by rw [List.filter_eq_self.mpr (fun _ _ => rfl)]; exact q)
  exact hg _ _ _ _ _ (fun σ2 h2 z => by show (if true = true then te σ2 h2 G' else F' h2); rw [if_pos rfl]; exact z) (st x hx G' (hG' _ (hG rfl)))
theorem gName_mono {i : Nat} : ∀ d σ h (P Q : SD → AH → Prop), (∀ σ h, P σ h → Q σ h) → gName i d σ h P → gName i d σ h Q := fun _ _ _ _ _ f q => f _ _ q
theorem gList_mono : ∀ {gs : List TGD}, (∀ g ∈ gs, ∀ d σ h (P Q : SD → AH → Prop), (∀ σ h, P σ h → Q σ h) → g d σ h P → g d σ h Q) → ∀ ds σ h (P Q : SD → AH → Prop), (∀ σ h, P σ h → Q σ h) → gList gs ds σ h P → gList gs ds σ h Q
  | [], _, [], _, _, _, _, f, q => f _ _ q
  | [], _, _ :: _, _, _, _, _, _, q => q.elim
  | _ :: _, _, [], _, _, _, _, _, q => q.elim
  | g :: gs, hg, d :: ds, _, _, _, _, f, q => hg g (List.mem_cons_self ..) _ _ _ _ _ (fun σ h q => gList_mono (fun g h => hg g (List.mem_cons_of_mem _ h)) _ _ _ _ _ f q) q
theorem gTup_mono {n : Nat} {gs : List TGD} (hg : ∀ g ∈ gs, ∀ d σ h (P Q : SD → AH → Prop), (∀ σ h, P σ h → Q σ h) → g d σ h P → g d σ h Q) : ∀ d σ h (P Q : SD → AH → Prop), (∀ σ h, P σ h → Q σ h) → gTupN n gs d σ h P → gTupN n gs d σ h Q := fun d _ _ _ _ f q => by
  unfold gTupN at q ⊢
  split at q
  · exact ⟨q.1, gList_mono hg _ _ _ _ _ f q.2⟩
  · exact q.elim
theorem gNames_mono {is : List Nat} {n : Nat} : ∀ d σ h (P Q : SD → AH → Prop), (∀ σ h, P σ h → Q σ h) → gTupN n (is.map gName) d σ h P → gTupN n (is.map gName) d σ h Q := gTup_mono fun g hg => by
  obtain ⟨i, _, rfl⟩ := List.mem_map.mp hg
  exact gName_mono

/-! ### == of trees -/
theorem eqD_int {i j : Int} : eqD (.int i) (.int j) = decide (i = j) := by unfold eqD toP PyData.eqv; rfl
theorem eqD_str {i j : Str} : eqD (.str i) (.str j) = decide (i = j) := by
  unfold eqD toP PyData.eqv
  by_cases e : i = j
  · subst e; simp
  · simp [e]
theorem eqD_bl {i j : Bool} : eqD (.bl i) (.bl j) = (i == j) := by unfold eqD toP PyData.eqv; rfl
theorem eqD_refl {n : Nat} {d : D} (h : okD n d = true) : eqD d d = true := PySem.SeqAt.eqv_refl _ (toP_shaped n d h).1
theorem eqD_lst_nil {l : List D} : eqD (.lst l) (.lst []) = l.isEmpty := by
  unfold eqD toP PyData.eqv
  cases l with
  | nil => unfold toPs PyData.eqvAll; rfl
  | cons a b => simp [toPs, PyData.eqvAll]
theorem eqD_tup_lst {l m : List D} : eqD (.tup l) (.tup m) = eqD (.lst l) (.lst m) := by
  unfold eqD toP PyData.eqv; rfl
theorem eqD_lst_cons {a b : D} {l m : List D} : eqD (.lst (a :: l)) (.lst (b :: m)) = (eqD a b && eqD (.lst l) (.lst m)) := by
  unfold eqD
  simp [toP, toPs, PyData.eqv, PyData.eqvAll]
theorem eqD_ints : ∀ {l m : List Int}, eqD (.lst (l.map .int)) (.lst (m.map .int)) = decide (l = m)
  | [], [] => rfl
  | [], b :: m => by simp [eqD, toP, toPs, PyData.eqv, PyData.eqvAll]
  | a :: l, [] => by simp [eqD, toP, toPs, PyData.eqv, PyData.eqvAll]
  | a :: l, b :: m => by
    rw [List.map_cons, List.map_cons, eqD_lst_cons, eqD_int, eqD_ints (l := l) (m := m)]
    by_cases h1 : a = b <;> by_cases h2 : l = m <;> simp [h1, h2]
theorem inL_strs {x : Str} {l : List Str} : inL (.str x) (l.map .str) = decide (x ∈ l) := by
  unfold inL
  rw [List.any_map]
  induction l with
  | nil => rfl
  | cons a l ih =>
    rw [List.any_cons, ih]
    show (eqD (.str a) (.str x) || _) = _
    rw [eqD_str]
    by_cases h : a = x
    · subst h; simp
    · simp [h]; exact fun z => absurd z.symm h
theorem inL_ints {x : Int} {l : List Int} : inL (.int x) (l.map .int) = decide (x ∈ l) := by
  unfold inL
  rw [List.any_map]
  induction l with
  | nil => rfl
  | cons a l ih =>
    rw [List.any_cons, ih]
    show (eqD (.int a) (.int x) || _) = _
    rw [eqD_int]
    by_cases h : a = x
    · subst h; simp
    · simp [h]; exact fun z => absurd z.symm h
theorem keys_strs : ∀ l : List Str, keysOf (l.map .str) = some (l.map Sum.inr)
  | [] => rfl
  | a :: l => by rw [List.map_cons]; unfold keysOf; rw [keys_strs l]; rfl
theorem keys_ints : ∀ l : List Int, keysOf (l.map .int) = some (l.map Sum.inl)
  | [] => rfl
  | a :: l => by rw [List.map_cons]; unfold keysOf; rw [keys_ints l]; rfl
/-- sorted(set(..)) of texts, of ints -/
def ascS (l : List Str) : List Str := (ascK (l.map Sum.inr)).filterMap fun k => match k with
  | .inr x => some x
  | .inl _ => none
def ascI (l : List Int) : List Int := (ascK (l.map Sum.inl)).filterMap fun k => match k with
  | .inl x => some x
  | .inr _ => none
theorem mem_ascK {k : Key} {ks : List Key} : k ∈ ascK ks ↔ k ∈ ks := by
  unfold ascK
  rw [List.mem_mergeSort, mem_onceK]
theorem ascK_S (l : List Str) : (ascK (l.map Sum.inr)).map kD = (ascS l).map .str := by
  unfold ascS
  have : ∀ ks : List Key, (∀ k ∈ ks, ∃ x, k = Sum.inr x) → ks.map kD = (ks.filterMap fun k => match k with | .inr x => some x | .inl _ => none).map .str := by
    intro ks
    induction ks with
    | nil => intro _; rfl
    | cons k ks ih =>
      intro h
      obtain ⟨x, rfl⟩ := h k (List.mem_cons_self ..)
      rw [List.map_cons, ih fun k hk => h k (List.mem_cons_of_mem _ hk)]; rfl
  refine this _ fun k hk => ?_
  obtain ⟨x, _, e⟩ := List.mem_map.mp (mem_ascK.mp hk)
  exact ⟨x, e.symm⟩
theorem ascK_I (l : List Int) : (ascK (l.map Sum.inl)).map kD = (ascI l).map .int := by
  unfold ascI
  have : ∀ ks : List Key, (∀ k ∈ ks, ∃ x, k = Sum.inl x) → ks.map kD = (ks.filterMap fun k => match k with | .inl x => some x | .inr _ => none).map .int := by
    intro ks
    induction ks with
    | nil => intro _; rfl
    | cons k ks ih =>
      intro h
      obtain ⟨x, rfl⟩ := h k (List.mem_cons_self ..)
      rw [List.map_cons, ih fun k hk => h k (List.mem_cons_of_mem _ hk)]; rfl
  refine this _ fun k hk => ?_
  obtain ⟨x, _, e⟩ := List.mem_map.mp (mem_ascK.mp hk)
  exact ⟨x, e.symm⟩
theorem mem_ascS {x : Str} {l : List Str} : x ∈ ascS l ↔ x ∈ l := by
  unfold ascS
  rw [List.mem_filterMap]
  constructor
  · rintro ⟨k, hk, e⟩
    obtain ⟨y, hy, rfl⟩ := List.mem_map.mp (mem_ascK.mp hk)
    cases e; exact hy
  · intro h
    exact ⟨.inr x, mem_ascK.mpr (List.mem_map.mpr ⟨x, h, rfl⟩), rfl⟩
theorem mem_ascI {x : Int} {l : List Int} : x ∈ ascI l ↔ x ∈ l := by
  unfold ascI
  rw [List.mem_filterMap]
  constructor
  · rintro ⟨k, hk, e⟩
    obtain ⟨y, hy, rfl⟩ := List.mem_map.mp (mem_ascK.mp hk)
    cases e; exact hy
  · intro h
    exact ⟨.inl x, mem_ascK.mpr (List.mem_map.mpr ⟨x, h, rfl⟩), rfl⟩
theorem oneKind_S (l : List Str) : oneKind (l.map Sum.inr) = true := by
  unfold oneKind
  rw [Bool.or_eq_true, List.all_map, List.all_map]
  exact .inr (List.all_eq_true.mpr fun _ _ => rfl)
theorem oneKind_I (l : List Int) : oneKind (l.map Sum.inl) = true := by
  unfold oneKind
  rw [Bool.or_eq_true, List.all_map, List.all_map]
  exact .inl (List.all_eq_true.mpr fun _ _ => rfl)
theorem keyOk_I (l : List Int) : keyOkS (l.map Sum.inl) = true := by
  unfold keyOkS
  rw [List.all_map]
  exact List.all_eq_true.mpr fun _ _ => rfl
theorem keyOk_S {l : List Str} (h : ∀ x ∈ l, PyData.strOk x = true) : keyOkS (l.map Sum.inr) = true := by
  unfold keyOkS
  rw [List.all_map]
  exact List.all_eq_true.mpr fun x hx => h x hx
end T3

/-! T3: calls of defs with defaults. -/
namespace T3
open PySem PySem.Spec L2
open PyProof.Rows hiding St
section
variable {P : Program} {w : World} {K : PySem.W.Frag} {mg : Str → Option Value} {base : Heap}
/-- a def with defaults dds; g puts the values by position, the defaults and the keywords' values in order -/
theorem cl_dfl {x qual : Str} {st : Stmt} {f : Addr} {fd : FuncData} {ps ks : List Str} {k n : Nat} {fs fs' : FSp} {dvs : List V} {dds : List D} (F : FunD K x qual (defArgs st) (defBody st) (defScope st) dvs [] f fd) (hd : dvs ≠ []) (hdd : ∀ Z : Hp, DenL K Z dds dvs) (G : FnOk P w K mg base CX0 k f fd ps (spL K fs))
    (g : {α : Type} → List α → List α → List α → List α)
    (hg : ∀ {Z : Hp} {ds es : List D} {vs zs : List V}, ds.length = n → es.length = ks.length → DenL K Z ds vs → DenL K Z es zs → DenL K Z (g ds dds es) (g vs dvs zs))
    (hv : ∀ {vs : List V} {us : List Value} {zs : List V} {ws : List Value} {its : List Value}, Vals vs us → Vals dvs its → Vals zs ws → Vals (g vs dvs zs) (g us its ws))
    (h : ∀ (T : Addr) (kV doc pm : Value) (an : Option Addr) (cdv ct : Value) (us its ws : List Value), us.length = n → its.length = dvs.length → ws.length = ks.length → ∃ k, bindArgs (PySem.W.fnOf x qual (defArgs st) (defBody st) (defScope st) (.ref T) kV doc pm an cdv ct) ⟨us, ks.zip ws⟩ = seqItems? (.ref T) >>= k ∧ k (some its.toArray) = pure (ps.zip (g us its ws)))
    (len : ∀ ds h R, fs' ds h R → ds.length = n + ks.length) (hf : ∀ ds es h R, ds.length = n → es.length = ks.length → fs' (ds ++ es) h R → fs (g ds dds es) h R) : Cl P w K mg base k f n ks fs' := by
  obtain ⟨oc, od, dV, kV, doc, pm, an, cdv, ct, osl, rfl, lk, hcd, hD, hK⟩ := F.ex
  rcases hD with ⟨e, _⟩ | ⟨_, T, o, its, m, rfl, lT, oT, rT⟩
  · exact absurd e hd
  refine ⟨⟨_, ps, _, fun us ws => g us its ws, fun vs zs => g vs dvs zs, G, ⟨fun s us ws X l1 l2 => ?_, fun r1 r2 => hv r1 rT r2⟩, fun vs zs H Q l1 l2 q => ?_⟩, F.kp, len⟩
  · obtain ⟨k, e1, e2⟩ := h T kV doc pm an cdv ct us its ws l1 rT.length.symm l2
    refine BindsTo.of_looks fun M => ?_
    rw [e1]
    exact looks_items X lT oT (.of_pure e2)
  · obtain ⟨Z, ds, h, R, Sa, dl, q, fin⟩ := q
    have hl := len ds h R q
    have e1 : ds.take n ++ ds.drop n = ds := List.take_append_drop n ds
    have l3 : (ds.take n).length = n := by rw [List.length_take]; omega
    have l4 : (ds.drop n).length = ks.length := by rw [List.length_drop]; omega
    have d1 := dl.take n
    have d2 := dl.drop n
    rw [List.take_left' l1] at d1
    rw [List.drop_left' l1] at d2
    rw [← e1] at q
    exact ⟨Z, g (ds.take n) dds (ds.drop n), h, R, Sa, hg l3 l4 d1 d2, hf _ _ _ _ l3 l4 q, fin⟩
/-- all parameters by position -/
theorem cl_full {x qual : Str} {st : Stmt} {f : Addr} {fd : FuncData} {ps : List Str} {k : Nat} {fs : FSp} {dvs : List V} (F : FunD K x qual (defArgs st) (defBody st) (defScope st) dvs [] f fd) (hd : dvs ≠ []) (G : FnOk P w K mg base CX0 k f fd ps (spL K fs)) (len : ∀ ds h R, fs ds h R → ds.length = ps.length)
    (h : ∀ (T : Addr) (kV doc pm : Value) (an : Option Addr) (cdv ct : Value) (us its : List Value), us.length = ps.length → its.length = dvs.length → bindArgs (PySem.W.fnOf x qual (defArgs st) (defBody st) (defScope st) (.ref T) kV doc pm an cdv ct) ⟨us, []⟩ = pure (ps.zip us) ∨
      ∃ k, bindArgs (PySem.W.fnOf x qual (defArgs st) (defBody st) (defScope st) (.ref T) kV doc pm an cdv ct) ⟨us, []⟩ = seqItems? (.ref T) >>= k ∧ k (some its.toArray) = pure (ps.zip us)) : Cl P w K mg base k f ps.length [] fs := by
  obtain ⟨oc, od, dV, kV, doc, pm, an, cdv, ct, osl, rfl, lk, hcd, hD, hK⟩ := F.ex
  rcases hD with ⟨e, _⟩ | ⟨_, T, o, its, m, rfl, lT, oT, rT⟩
  · exact absurd e hd
  refine ⟨⟨_, ps, _, fun us _ => us, fun vs _ => vs, G, ⟨fun s us ws X l1 l2 => ?_, fun r _ => r⟩, fun vs zs H Q l1 l2 q => ?_⟩, F.kp, fun ds h R q => len ds h R q⟩
  · have e : ([] : List Str).zip ws = [] := rfl
    rw [e]
    rcases h T kV doc pm an cdv ct us its l1 rT.length.symm with e1 | ⟨k, e1, e2⟩
    · exact .of_eq e1
    · refine BindsTo.of_looks fun M => ?_
      rw [e1]
      exact looks_items X lT oT (.of_pure e2)
  · have : zs = [] := List.length_eq_zero_iff.mp l2
    rw [this, List.append_nil] at q
    exact q
end
end T3

/-! T3: small lemmas for readings. -/
namespace T3
open PySem PySem.Spec L2
open PyProof.Rows hiding St
theorem nat_ofNat {n : Nat} : ((no_index (OfNat.ofNat n) : Nat) : Int) = (OfNat.ofNat n) := rfl
theorem tab_ii : isTab "int" "int" = true := by decide
theorem tab_ib : isTab "int" "bool" = false := by decide
theorem tab_ss : isTab "str" "str" = true := by decide
theorem tab_ll : isTab "list" "list" = true := by decide
theorem tab_lt : isTab "list" "tuple" = false := by decide
theorem tab_tl : isTab "tuple" "list" = false := by decide
theorem tab_tt : isTab "tuple" "tuple" = true := by decide
theorem out_as {R : QD} {d : D} {h : AH} (q : R d h) : ∃ h2 d2, Out h d h2 d2 ∧ R d2 h2 := ⟨h, d, .as Sub.refl, q⟩
theorem out_sub {R : QD} {d : D} {h h2 : AH} (s : Sub h2 h) (q : R d h2) : ∃ h2 d2, Out h d h2 d2 ∧ R d2 h2 := ⟨h2, d, .as s, q⟩
theorem out_lst {R : QD} {a : Addr} {l : List D} {h h2 : AH} (e : h a = some (.lst l)) (s : Sub h2 (er h a)) (q : R (.lst l) h2) : ∃ h2 d2, Out h (.ref a) h2 d2 ∧ R d2 h2 := ⟨h2, _, .lst e s, q⟩
theorem sl65 {n : Nat} (h : n ≤ 65536) : n < sizeLine := by rw [sizeLine_eq]; omega
theorem sl65' {n : Nat} (h : n ≤ 65536) : n ≤ sizeLine := Nat.le_of_lt (sl65 h)
/-- what a list or tuple holds stays where something else is stored -/
theorem seqOf_ud {h : AH} {p : Addr} {o : O} {d : D} {l : List D} (hp : ∀ m, h p ≠ some (.lst m)) (e : seqOf h d = some l) : seqOf (ud h p o) d = some l := by
  cases d with
  | ref a =>
    unfold seqOf at e ⊢
    simp only at e ⊢
    have hne : a ≠ p := by
      intro z
      subst z
      split at e
      · next m em => exact hp m em
      · cases e
    rw [ud_ne hne]; exact e
  | _ => exact e
theorem no_lst {h : AH} {p : Addr} (e : h p = none) : ∀ m, h p ≠ some (.lst m) := fun m z => by rw [e] at z; cases z
theorem itOf_seq {h : AH} {x : D} {l : List D} (e : seqOf h x = some l) : itOf h x = some l := by
  cases x <;> first | exact e | cases e
theorem tyOf_seq {h : AH} {x : D} {l : List D} (e : seqOf h x = some l) : tyOf h x = some "list" ∨ tyOf h x = some "tuple" := by
  cases x with
  | tup m => exact .inr rfl
  | lst m => exact .inl rfl
  | lok m => exact .inl rfl
  | ref a =>
    left
    unfold seqOf at e
    unfold tyOf
    simp only at e ⊢
    split at e
    · next m em => first | rfl | rw [em]
    · cases e
  | _ => cases e
theorem rangeD_upto {n : Int} : rangeD 0 n.toNat = ((List.range n.toNat).map fun (i : Nat) => (i : Int)).map D.int := by
  unfold rangeD
  rw [List.map_map]
  apply List.map_congr_left
  intro i _
  show D.int (0 + (i : Int)) = D.int (i : Int)
  rw [Int.zero_add]
theorem all_bls (l : List D) (f : D → Bool) : blsOf (l.map fun d => .bl (f d)) = some (l.map f) := by
  have := blsOf_map (l.map f)
  rw [List.map_map] at this
  exact this
def enumFrom (k : Nat) (l : List D) : List D := (l.zipIdx k).map fun z => .tup [.int (z.2 : Int), z.1]
theorem enumFrom_cons {k : Nat} {d : D} {l : List D} : enumFrom k (d :: l) = .tup [.int (k : Int), d] :: enumFrom (k + 1) l := by
  unfold enumFrom
  rw [List.zipIdx_cons]; rfl
theorem enumFrom_nil {k : Nat} : enumFrom k [] = [] := rfl
theorem enumD_from (l : List D) : enumD l = enumFrom 0 l := rfl
theorem lenR_seq {h : AH} {x : D} {l : List D} {Q : QD} (e : seqOf h x = some l) (q : Q (.int l.length) h) : lenR [x] h Q := by
  cases x with
  | str z => cases e
  | _ => unfold lenR; simp only [e]; exact q
theorem ixR_seq {h : AH} {x d : D} {l : List D} {i : Int} {Q : QD} (e : seqOf h x = some l) (ei : atI l i = some d) (q : Q d h) : ixR x (.int i) h Q := by
  cases x with
  | str z => cases e
  | _ => unfold ixR; simp only [e, ei]; exact q
end T3

/-! k50: the data, and the promise of each def. -/
namespace K50
open PySem PySem.Spec L2 T3
open PyProof.Rows hiding St

structure Rule where
  one : Int
  need : List Str
  bar : List Str
  two : Int
def namesD (l : List Str) : List D := l.map .str
/-- a step in a Wish -/
def rD (r : Rule) : D := .tup [.int r.one, .tup (namesD r.need), .tup (namesD r.bar), .int r.two]
/-- a step as told -/
def sD (r : Rule) : D := .tup [.int r.one, .lst (namesD r.need), .lst (namesD r.bar), .int r.two]
def nr (r : Rule) : Rule := ⟨r.one, ascS r.need, ascS r.bar, r.two⟩
def wF (n : Int) (good : List Int) (rs : List Rule) : List (Str × D) := [("states", .int n), ("good", .tup (good.map .int)), ("steps", .tup (rs.map rD))]
def wD (C : Addr) (n : Int) (good : List Int) (rs : List Rule) : D := .ins C (wF n good rs)
/-- a Wish as made -/
def mk (C : Addr) (n : Int) (good : List Int) (rs : List Rule) : D := wD C n (ascI good) (rs.map nr)
def toldD (n : Int) (good : List Int) (rs : List Rule) : D := .tup [.int n, .lst (good.map .int), .lst (rs.map sD)]
def lotD (l : List Str) : D := .tup (namesD l)
def taleD (t : List (List Str)) : D := .tup (t.map lotD)
def LET : Str := "abcdefghijklmnopqrstuvwxyz"
def nameOk (x : Str) : Bool := decide (1 ≤ x.length) && decide (x.length ≤ 8) && x.cps.toList.all fun c => decide (c ∈ LET.cps.toList)
def hasR (r : Rule) (st : Int) (lot : List Str) : Bool := decide (r.one = st) && (r.need.all (fun x => decide (x ∈ lot)) && !(r.bar.any fun x => decide (x ∈ lot)))
def aft : List Rule → Int → List Str → Int
  | [], st, _ => st
  | r :: rs, st, lot => if hasR r st lot = true then r.two else aft rs st lot
def run (rs : List Rule) (st : Int) (tale : List (List Str)) : Int := tale.foldl (fun s lot => aft rs s lot) st

def ruleOk (n : Int) (r : Rule) : Prop := (0 ≤ r.one ∧ r.one < n) ∧ (0 ≤ r.two ∧ r.two < n) ∧ (∀ x ∈ r.need, nameOk x = true) ∧ (∀ x ∈ r.bar, nameOk x = true) ∧ r.need.length ≤ 100 ∧ r.bar.length ≤ 100
def wOk (n : Int) (good : List Int) (rs : List Rule) : Prop := (1 ≤ n ∧ n ≤ 1000) ∧ (∀ i ∈ good, 0 ≤ i ∧ i < n) ∧ good.length ≤ 1000 ∧ (∀ r ∈ rs, ruleOk n r) ∧ rs.length ≤ 10000
/-- a small one -/
def wSm (n : Int) (good : List Int) (rs : List Rule) : Prop := wOk n good rs ∧ n ≤ 3 ∧ good.length ≤ 3 ∧ rs.length ≤ 6 ∧ ∀ r ∈ rs, r.need.length ≤ 50 ∧ r.bar.length ≤ 50
def lotOk (lot : List Str) : Prop := (∀ x ∈ lot, nameOk x = true) ∧ lot.length ≤ 1000
def taleOk (t : List (List Str)) : Prop := (∀ l ∈ t, lotOk l) ∧ t.length ≤ 1000

def bx (g s : Int) : O := .lst [.int g, .int s]
def BoxOk (g s : Int) : Prop := 0 ≤ g ∧ 1 ≤ s ∧ s ≤ 2147483629
def atBox (h : AH) (b : Addr) : Prop := ∃ g s, h b = some (bx g s) ∧ BoxOk g s
/-- after draws from the box at b -/
def Dr (h : AH) (b : Addr) (R : AH → Prop) : Prop := ∀ g s, BoxOk g s → R (ud h b (bx g s))

def stepIs (h : AH) (d : D) (r : Rule) : Prop := ∃ y z, seqOf h d = some [.int r.one, y, z, .int r.two] ∧ seqOf h y = some (namesD r.need) ∧ seqOf h z = some (namesD r.bar)
def stepsAre (h : AH) : List D → List Rule → Prop
  | [], [] => True
  | d :: ds, r :: rs => stepIs h d r ∧ stepsAre h ds rs
  | _, _ => False

def fs_is_integer (C : Addr) : FSp := fun ds h R => ∃ i, ds = [.int i] ∧ R (.bl true) h
def fs_is_number (C : Addr) : FSp := fun ds h R => ∃ i, ds = [.int i] ∧ R (.bl (decide (0 ≤ i))) h
def fs_is_text (C : Addr) : FSp := fun ds h R => ∃ x, ds = [.str x] ∧ R (.bl true) h
def fs_is_sequence (C : Addr) : FSp := fun ds h R => ∃ x, ds = [x] ∧ (seqOf h x).isSome = true ∧ R (.bl true) h
def fs_is_name (C : Addr) : FSp := fun ds h R => ∃ x, ds = [.str x] ∧ nameOk x = true ∧ R (.bl true) h
def fs_ascending_names (C : Addr) : FSp := fun ds h R => ∃ x l ks, ds = [x] ∧ seqOf h x = some l ∧ keysOf l = some ks ∧ oneKind ks = true ∧ keyOkS ks = true ∧ ks.length ≤ 1000 ∧ R (.tup ((ascK ks).map kD)) h
def fs_is_state (C : Addr) : FSp := fun ds h R => ∃ i n, ds = [.int i, .int n] ∧ 0 ≤ i ∧ i < n ∧ R (.bl true) h
def fs_are_names (C : Addr) : FSp := fun ds h R => ∃ x l, ds = [x] ∧ seqOf h x = some (namesD l) ∧ l.length ≤ 1000 ∧ (∀ y ∈ l, nameOk y = true) ∧ R (.bl true) h
def fs_is_step (C : Addr) : FSp := fun ds h R => ∃ x n r, ds = [x, .int n] ∧ stepIs h x r ∧ ruleOk n r ∧ R (.bl true) h
def fs_Wish_init (C : Addr) : FSp := fun ds h R => ∃ p n g st good rs sl, ds = [.ref p, .int n, g, st] ∧ h p = some (.ins C []) ∧ seqOf h g = some (good.map .int) ∧ seqOf h st = some sl ∧ stepsAre h sl rs ∧ wOk n good rs ∧ R .non (ud h p (.ins C (wF n (ascI good) (rs.map nr))))
def fs_Wish_init_k (C : Addr) : FSp := fun ds h R => ∃ p n g st, ds = [.ref p, st, g, n] ∧ fs_Wish_init C [.ref p, n, g, st] h R
def eqW (n : Int) (good : List Int) (rs : List Rule) (n' : Int) (good' : List Int) (rs' : List Rule) : Bool :=
  eqD (.int n) (.int n') && (eqD (.tup (good.map .int)) (.tup (good'.map .int)) && eqD (.tup (rs.map rD)) (.tup (rs'.map rD)))
def fs_Wish_eq (C : Addr) : FSp := fun ds h R => ∃ n good rs y, ds = [wD C n good rs, y] ∧ wOk n good rs ∧ ((∃ n' good' rs', y = wD C n' good' rs' ∧ wOk n' good' rs' ∧ R (.bl (eqW n good rs n' good' rs')) h) ∨ ((slOf h y).isSome = true ∧ R (.bl false) h))
def rung (rs : List Rule) : List Str := rs.flatMap fun r => r.need ++ r.bar
def fs_Wish_rung_bells (C : Addr) : FSp := fun ds h R => ∃ n good rs, ds = [wD C n good rs] ∧ wOk n good rs ∧ (rung rs).length ≤ 1000 ∧ R (.tup (namesD (ascS (rung rs)))) h
def fs_Wish_after (C : Addr) : FSp := fun ds h R => ∃ n good rs st lot, ds = [wD C n good rs, .int st, lotD lot] ∧ wOk n good rs ∧ lotOk lot ∧ R (.int (aft rs st lot)) h
def fs_Wish_end (C : Addr) : FSp := fun ds h R => ∃ n good rs tale st, ds = [wD C n good rs, taleD tale, .int st] ∧ wOk n good rs ∧ taleOk tale ∧ R (.int (run rs st tale)) h
def fs_Wish_end_1 (C : Addr) : FSp := fun ds h R => ∃ x y, ds = [x, y] ∧ fs_Wish_end C [x, y, .int 0] h R
def fs_Wish_end_k (C : Addr) : FSp := fs_Wish_end_1 C
def fs_Wish_end_2 (C : Addr) : FSp := fs_Wish_end C
def fs_Wish_takes (C : Addr) : FSp := fun ds h R => ∃ n good rs tale, ds = [wD C n good rs, taleD tale] ∧ wOk n good rs ∧ taleOk tale ∧ R (.bl (decide (run rs 0 tale ∈ good))) h
def ringsR (b : Str) (t : Int) : List Rule := (List.range t.toNat).map fun (i : Nat) => ⟨(i : Int), [b], [], (i : Int) + 1⟩
def fs_wish_rings (C : Addr) : FSp := fun ds h R => ∃ b t, ds = [.str b, .int t] ∧ nameOk b = true ∧ 1 ≤ t ∧ t ≤ 900 ∧ R (mk C (t + 1) [t] (ringsR b t)) h
def fs_wish_rings_1 (C : Addr) : FSp := fun ds h R => ∃ b, ds = [b] ∧ fs_wish_rings C [b, .int 1] h R
def fs_wish_rings_k (C : Addr) : FSp := fs_wish_rings C
def aheadR (a b : Str) : List Rule := [⟨0, [b], [], 2⟩, ⟨0, [a], [], 1⟩]
def fs_wish_ahead (C : Addr) : FSp := fun ds h R => ∃ a b, ds = [.str a, .str b] ∧ nameOk a = true ∧ nameOk b = true ∧ R (mk C 3 [1] (aheadR a b)) h
def lastR (b : Str) : List Rule := [⟨0, [b], [], 1⟩, ⟨1, [], [b], 0⟩]
def fs_wish_last (C : Addr) : FSp := fun ds h R => ∃ b, ds = [.str b] ∧ nameOk b = true ∧ R (mk C 2 [1] (lastR b)) h
def upto (n : Int) : List Int := (List.range n.toNat).map fun (i : Nat) => (i : Int)
def compl (n : Int) (good : List Int) : List Int := (upto n).filter fun i => !decide (i ∈ good)
def fs_wish_denied (C : Addr) : FSp := fun ds h R => ∃ n good rs, ds = [wD C n good rs] ∧ wOk n good rs ∧ R (mk C n (compl n good) rs) h
def metR (good : List Int) (rs : List Rule) : List Rule := rs.filter fun r => !decide (r.one ∈ good)
def fs_wish_met (C : Addr) : FSp := fun ds h R => ∃ n good rs, ds = [wD C n good rs] ∧ wOk n good rs ∧ R (mk C n good (metR good rs)) h
def opn (rs : List Rule) (st : Int) : List (List Str × List Str × Int) := ((rs.filter fun r => decide (r.one = st)).map fun r => (r.need, r.bar, r.two)) ++ [([], [], st)]
def oD (t : List Str × List Str × Int) : D := .tup [.tup (namesD t.1), .tup (namesD t.2.1), .int t.2.2]
def fs_open_steps (C : Addr) : FSp := fun ds h R => ∃ n good rs st, ds = [wD C n good rs, .int st] ∧ wOk n good rs ∧ R (.lst ((opn rs st).map oD)) h
def pairR (n1 n2 : Int) (rs1 rs2 : List Rule) : List Rule := (upto n1).flatMap fun i => (upto n2).flatMap fun j => (opn rs1 i).flatMap fun x => (opn rs2 j).map fun y => ⟨i * n2 + j, x.1 ++ y.1, x.2.1 ++ y.2.1, x.2.2 * n2 + y.2.2⟩
def pD (t : Int × Int) : D := .tup [.int t.1, .int t.2]
def fs_paired_wish (C : Addr) : FSp := fun ds h R => ∃ n1 g1 r1 n2 g2 r2, ∃ ps : List (Int × Int), ds = [wD C n1 g1 r1, wD C n2 g2 r2, .lst (ps.map pD)] ∧ wSm n1 g1 r1 ∧ wSm n2 g2 r2 ∧ (∀ t ∈ ps, (0 ≤ t.1 ∧ t.1 < n1) ∧ 0 ≤ t.2 ∧ t.2 < n2) ∧ ps.length ≤ 9 ∧ R (mk C (n1 * n2) (ps.map fun t => t.1 * n2 + t.2) (pairR n1 n2 r1 r2)) h
def bothP (g1 g2 : List Int) : List (Int × Int) := g1.flatMap fun i => g2.map fun j => (i, j)
def eithP (n1 n2 : Int) (g1 g2 : List Int) : List (Int × Int) := (bothP (upto n1) (upto n2)).filter fun t => decide (t.1 ∈ g1) || decide (t.2 ∈ g2)
def fs_wish_both (C : Addr) : FSp := fun ds h R => ∃ n1 g1 r1 n2 g2 r2, ds = [wD C n1 g1 r1, wD C n2 g2 r2] ∧ wSm n1 g1 r1 ∧ wSm n2 g2 r2 ∧ R (mk C (n1 * n2) ((bothP g1 g2).map fun t => t.1 * n2 + t.2) (pairR n1 n2 r1 r2)) h
def fs_wish_either (C : Addr) : FSp := fun ds h R => ∃ n1 g1 r1 n2 g2 r2, ds = [wD C n1 g1 r1, wD C n2 g2 r2] ∧ wSm n1 g1 r1 ∧ wSm n2 g2 r2 ∧ R (mk C (n1 * n2) ((eithP n1 n2 g1 g2).map fun t => t.1 * n2 + t.2) (pairR n1 n2 r1 r2)) h

def fs__law_box (C : Addr) : FSp := fun ds h R => ∃ ns : List Int, ds = [.lok (ns.map .int), .int 0] ∧ ∀ p, h p = none → Dr h p fun h' => R (.ref p) h'
def fs__law_take (C : Addr) : FSp := fun ds h R => ∃ b m, ds = [.ref b, .int m] ∧ atBox h b ∧ 0 < m ∧ m ≤ 1000 ∧ ∀ d, 0 ≤ d → d < m → Dr h b fun h' => R (.int d) h'
def fs__law_pick (C : Addr) : FSp := fun ds h R => ∃ b l, ds = [.ref b, .lst l] ∧ atBox h b ∧ l ≠ [] ∧ l.length ≤ 1000 ∧ ∀ d ∈ l, Dr h b fun h' => R d h'
def fs__law_names (C : Addr) : FSp := fun ds h R => ∃ b m, ds = [.ref b, .int m] ∧ atBox h b ∧ 0 < m ∧ m ≤ 4 ∧ ∀ l : List Str, (l.length : Int) = m → (∀ x ∈ l, nameOk x = true) → Dr h b fun h' => R (.lst (namesD l)) h'
/-- the states, the good ones and the steps of a wish as told -/
def toldOk (rings : List Str) (n : Int) (good : List Int) (rs : List Rule) : Prop := ((n = 2 ∧ (good = [1] ∨ good = [0])) ∨ (n = 3 ∧ good.Sublist [0, 1, 2])) ∧ rs.length ≤ 4 ∧
  ∀ r ∈ rs, (0 ≤ r.one ∧ r.one < n) ∧ (0 ≤ r.two ∧ r.two < n) ∧ (∀ x ∈ r.need, x ∈ rings) ∧ (∀ x ∈ r.bar, x ∈ rings) ∧ r.need.length ≤ 4 ∧ r.bar.length ≤ 4
def ringsOk (rings : List Str) : Prop := rings ≠ [] ∧ rings.length ≤ 4 ∧ ∀ x ∈ rings, nameOk x = true
def fs__law_wish (C : Addr) : FSp := fun ds h R => ∃ b rings, ds = [.ref b, .lst (namesD rings)] ∧ atBox h b ∧ ringsOk rings ∧ ∀ n good rs, toldOk rings n good rs → Dr h b fun h' => R (toldD n good rs) h'
def fs__law_read (C : Addr) : FSp := fun ds h R => ∃ n good rs st lot, ds = [toldD n good rs, .int st, lotD lot] ∧ wOk n good rs ∧ lotOk lot ∧ R (.int (aft rs st lot)) h
def fs__law_lots (C : Addr) : FSp := fun ds h R => ∃ b rings m, ds = [.ref b, .lst (namesD rings), .int m] ∧ atBox h b ∧ rings ≠ [] ∧ rings.length ≤ 10 ∧ (∀ x ∈ rings, nameOk x = true) ∧ 0 ≤ m ∧ m ≤ 10 ∧ ∀ t : List (List Str), (t.length : Int) = m → taleOk t → Dr h b fun h' => R (taleD t) h'
def fs__law_end (C : Addr) : FSp := fun ds h R => ∃ n good rs tale, ds = [toldD n good rs, taleD tale] ∧ wOk n good rs ∧ taleOk tale ∧ R (.int (run rs 0 tale)) h
def talesOk (ts : List (List (List Str))) : Prop := (∀ t ∈ ts, taleOk t) ∧ ts.length ≤ 10 ∧ ts ≠ []
def fs__law_made_right (C : Addr) : FSp := fun ds h R => ∃ b rings, ∃ ts : List (List (List Str)), ds = [.ref b, .lst (namesD rings), .lst (ts.map taleD)] ∧ atBox h b ∧ ringsOk rings ∧ talesOk ts ∧ Dr h b fun h' => R (.bl true) h'
/-- a wish as told, and as made -/
def toldSm (n : Int) (good : List Int) (rs : List Rule) : Prop := (n = 2 ∨ n = 3) ∧ wSm n good rs
def fs__law_joined_right (C : Addr) : FSp := fun ds h R => ∃ b n g r n' g' r' ga ra ga' ra', ∃ ts : List (List (List Str)), ds = [b, wD C n ga ra, wD C n' ga' ra', toldD n g r, toldD n' g' r', .lst (ts.map taleD)] ∧
  wSm n ga ra ∧ wSm n' ga' ra' ∧ toldSm n g r ∧ toldSm n' g' r' ∧ (∀ i, i ∈ ga ↔ i ∈ g) ∧ (∀ i, i ∈ ga' ↔ i ∈ g') ∧ (∀ st lot, aft ra st lot = aft r st lot) ∧ (∀ st lot, aft ra' st lot = aft r' st lot) ∧ talesOk ts ∧ R (.bl true) h
def fs__law_sorted_steps (C : Addr) : FSp := fun ds h R => ∃ n good rs, ds = [toldD n good rs] ∧ wOk n good rs ∧ R (.tup ((rs.map nr).map rD)) h
def fs_law (C : Addr) : FSp := fun ds h R => ∃ ns : List Int, ds = [.lok (ns.map .int)] ∧ ns.length ≤ 63 ∧ ∀ h', R (.bl true) h'
end K50

/-! The readings of the defs of the program (printed). -/
namespace K50
open PySem PySem.Spec L2 T3
open PyProof.Rows hiding St


/-- is_integer: 0 value -/
def N_is_integer : List Str := ["value"]
def t_is_integer (C : Addr) : TSD := (T3.tRet (tAndV (tIsi (isR (fun _ => False) "int") (tVar 0)) (tNotV (tIsi (isR (fun _ => False) "bool") (tVar 0)))))

/-- is_number: 0 value -/
def N_is_number : List Str := ["value"]
def t_is_number (C : Addr) : TSD := (T3.tRet (tAndV (T3.tCall (fs_is_integer C) (tCons (tVar 0) tNil)) (tOp (ordR (fun i j => decide (j ≤ i)) fun a b => !ltS a b) (tVar 0) (tC (.int 0)))))

/-- is_text: 0 value -/
def N_is_text : List Str := ["value"]
def t_is_text (C : Addr) : TSD := (T3.tRet (tIsi (isR (fun _ => False) "str") (tVar 0)))

/-- is_sequence: 0 value -/
def N_is_sequence : List Str := ["value"]
def t_is_sequence (C : Addr) : TSD := (T3.tRet (tIsi (isR2 (fun _ => False) "list" "tuple") (tVar 0)))

/-- is_name: 0 value, 1 sign -/
def N_is_name : List Str := ["value", "sign"]
def g0_is_name (C : Addr) : TGD := (gName 1)
def e1_is_name (C : Addr) : TED := (tOp (inR false) (tVar 1) (tC (.str "abcdefghijklmnopqrstuvwxyz")))
def t_is_name (C : Addr) : TSD := (T3.tRet (tAndV (T3.tCall (fs_is_text C) (tCons (tVar 0) tNil)) (tAndV (tChain (ordR (fun i j => decide (i ≤ j)) fun a b => !ltS b a) (ordR (fun i j => decide (i ≤ j)) fun a b => !ltS b a) (tC (.int 1)) (T3.tCB lenR (tCons (tVar 0) tNil)) (tC (.int 8))) (T3.tCB (allR fun bs => bs.all fun b => b) (tCons (T3.tLc (iAny (tVar 0)) (g0_is_name C) tYes (e1_is_name C) [1]) tNil)))))

/-- ascending_names: 0 things -/
def N_ascending_names : List Str := ["things"]
def t_ascending_names (C : Addr) : TSD := (T3.tRet (T3.tCB tupR (tCons (tAsc (tVar 0)) tNil)))

/-- is_state: 0 value, 1 states -/
def N_is_state : List Str := ["value", "states"]
def t_is_state (C : Addr) : TSD := (T3.tRet (tAndV (T3.tCall (fs_is_number C) (tCons (tVar 0) tNil)) (tOp (ordR (fun i j => decide (i < j)) ltS) (tVar 0) (tVar 1))))

/-- are_names: 0 value, 1 name -/
def N_are_names : List Str := ["value", "name"]
def g0_are_names (C : Addr) : TGD := (gName 1)
def e1_are_names (C : Addr) : TED := (T3.tCall (fs_is_name C) (tCons (tVar 1) tNil))
def t_are_names (C : Addr) : TSD := (T3.tRet (tAndV (T3.tCall (fs_is_sequence C) (tCons (tVar 0) tNil)) (T3.tCB (allR fun bs => bs.all fun b => b) (tCons (T3.tLc (iAny (tVar 0)) (g0_are_names C) tYes (e1_are_names C) [1]) tNil))))

/-- is_step: 0 value, 1 states -/
def N_is_step : List Str := ["value", "states"]
def t_is_step (C : Addr) : TSD := (T3.tSeq (T3.tIfS (tOr (tNot (tB (T3.tCall (fs_is_sequence C) (tCons (tVar 0) tNil)))) (tB (tOp neR (T3.tCB lenR (tCons (tVar 0) tNil)) (tC (.int 4))))) (T3.tRet (tC (.bl false))) T3.tNext)
  (T3.tSeq (T3.tIfS (tOr (tNot (tB (T3.tCall (fs_is_state C) (tCons (tOp ixR (tVar 0) (tC (.int 0))) (tCons (tVar 1) tNil))))) (tNot (tB (T3.tCall (fs_is_state C) (tCons (tOp ixR (tVar 0) (tC (.int 3))) (tCons (tVar 1) tNil)))))) (T3.tRet (tC (.bl false))) T3.tNext)
  (T3.tRet (tAndV (T3.tCall (fs_are_names C) (tCons (tOp ixR (tVar 0) (tC (.int 1))) tNil)) (T3.tCall (fs_are_names C) (tCons (tOp ixR (tVar 0) (tC (.int 2))) tNil))))))

/-- __init__: 0 self, 1 states, 2 good, 3 steps, 4 found, 5 at, 6 step, 7 state -/
def N_Wish_init : List Str := ["self", "states", "good", "steps", "found", "at", "step", "state"]
def g0_Wish_init (C : Addr) : TGD := (gName 7)
def e1_Wish_init (C : Addr) : TED := (T3.tCall (fs_is_state C) (tCons (tVar 7) (tCons (tVar 1) tNil)))
def g2_Wish_init (C : Addr) : TGD := (gTupN 2 [(gName 5), (gName 6)])
def b3_Wish_init (C : Addr) : TSD := (T3.tSeq (T3.tIfS (tNot (tB (T3.tCall (fs_is_step C) (tCons (tVar 6) (tCons (tVar 1) tNil))))) tNever T3.tNext)
  (T3.tDrop (T3.tBM "list" appR (tVar 4) (tCons (tTup (tCons (tOp ixR (tVar 6) (tC (.int 0))) (tCons (T3.tCall (fs_ascending_names C) (tCons (tOp ixR (tVar 6) (tC (.int 1))) tNil)) (tCons (T3.tCall (fs_ascending_names C) (tCons (tOp ixR (tVar 6) (tC (.int 2))) tNil)) (tCons (tOp ixR (tVar 6) (tC (.int 3))) tNil))))) tNil))))
def t_Wish_init (C : Addr) : TSD := (T3.tSeq (T3.tIfS (tOr (tNot (tB (T3.tCall (fs_is_integer C) (tCons (tVar 1) tNil)))) (tB (tOp (ordR (fun i j => decide (i < j)) ltS) (tVar 1) (tC (.int 1))))) tNever T3.tNext)
  (T3.tSeq (T3.tIfS (tOr (tNot (tB (T3.tCall (fs_is_sequence C) (tCons (tVar 2) tNil)))) (tNot (tB (T3.tCB (allR fun bs => bs.all fun b => b) (tCons (T3.tLc (iAny (tVar 2)) (g0_Wish_init C) tYes (e1_Wish_init C) [7]) tNil))))) tNever T3.tNext)
  (T3.tSeq (T3.tIfS (tNot (tB (T3.tCall (fs_is_sequence C) (tCons (tVar 3) tNil)))) tNever T3.tNext)
  (T3.tSeq (T3.tAsg (tLstM tNil) (gName 4))
  (T3.tSeq (T3.tFor (T3.iEnum (tVar 3)) (g2_Wish_init C) (b3_Wish_init C))
  (T3.tSeq (sFld C "states" (tVar 0) (tVar 1))
  (T3.tSeq (sFld C "good" (tVar 0) (T3.tCall (fs_ascending_names C) (tCons (tVar 2) tNil)))
  (sFld C "steps" (tVar 0) (T3.tCB tupR (tCons (tVar 4) tNil))))))))))

/-- __eq__: 0 self, 1 other -/
def N_Wish_eq : List Str := ["self", "other"]
def t_Wish_eq (C : Addr) : TSD := (T3.tSeq (T3.tIfS (tNot (tB (tIsi (isRC C) (tVar 1)))) (T3.tRet (tC (.bl false))) T3.tNext)
  (T3.tRet (tAndV (tOp eqR (tFld C "states" (tVar 0)) (tFld C "states" (tVar 1))) (tAndV (tOp eqR (tFld C "good" (tVar 0)) (tFld C "good" (tVar 1))) (tOp eqR (tFld C "steps" (tVar 0)) (tFld C "steps" (tVar 1)))))))

/-- rung_bells: 0 self, 1 found, 2 one, 3 need, 4 bar, 5 later -/
def N_Wish_rung_bells : List Str := ["self", "found", "one", "need", "bar", "later"]
def g0_Wish_rung_bells (C : Addr) : TGD := (gTupN 4 [(gName 2), (gName 3), (gName 4), (gName 5)])
def b1_Wish_rung_bells (C : Addr) : TSD := (T3.tDrop (T3.tBM "list" extR (tVar 1) (tCons (tOp addR (tVar 3) (tVar 4)) tNil)))
def t_Wish_rung_bells (C : Addr) : TSD := (T3.tSeq (T3.tAsg (tLstM tNil) (gName 1))
  (T3.tSeq (T3.tFor (iAny (tFld C "steps" (tVar 0))) (g0_Wish_rung_bells C) (b1_Wish_rung_bells C))
  (T3.tRet (T3.tCall (fs_ascending_names C) (tCons (tVar 1) tNil)))))

/-- after: 0 self, 1 state, 2 lot, 3 one, 4 need, 5 bar, 6 later, 7 name -/
def N_Wish_after : List Str := ["self", "state", "lot", "one", "need", "bar", "later", "name"]
def g0_Wish_after (C : Addr) : TGD := (gName 7)
def e1_Wish_after (C : Addr) : TED := (tOp (inR false) (tVar 7) (tVar 2))
def g2_Wish_after (C : Addr) : TGD := (gName 7)
def e3_Wish_after (C : Addr) : TED := (tOp (inR false) (tVar 7) (tVar 2))
def g4_Wish_after (C : Addr) : TGD := (gTupN 4 [(gName 3), (gName 4), (gName 5), (gName 6)])
def b5_Wish_after (C : Addr) : TSD := (T3.tIfS (tAnd (tB (tOp eqR (tVar 3) (tVar 1))) (tAnd (tB (T3.tCB (allR fun bs => bs.all fun b => b) (tCons (T3.tLc (iAny (tVar 4)) (g0_Wish_after C) tYes (e1_Wish_after C) [7]) tNil))) (tNot (tB (T3.tCB (allR fun bs => bs.any fun b => b) (tCons (T3.tLc (iAny (tVar 5)) (g2_Wish_after C) tYes (e3_Wish_after C) [7]) tNil)))))) (T3.tRet (tVar 6)) T3.tNext)
def t_Wish_after (C : Addr) : TSD := (T3.tSeq (T3.tFor (iAny (tFld C "steps" (tVar 0))) (g4_Wish_after C) (b5_Wish_after C))
  (T3.tRet (tVar 1)))

/-- end: 0 self, 1 tale, 2 state, 3 lot -/
def N_Wish_end : List Str := ["self", "tale", "state", "lot"]
def g0_Wish_end (C : Addr) : TGD := (gName 3)
def b1_Wish_end (C : Addr) : TSD := (T3.tAsg (tMeth C "after" (fs_Wish_after C) (tVar 0) (tCons (tVar 2) (tCons (tVar 3) tNil))) (gName 2))
def t_Wish_end (C : Addr) : TSD := (T3.tSeq (T3.tFor (iAny (tVar 1)) (g0_Wish_end C) (b1_Wish_end C))
  (T3.tRet (tVar 2)))

/-- takes: 0 self, 1 tale -/
def N_Wish_takes : List Str := ["self", "tale"]
def t_Wish_takes (C : Addr) : TSD := (T3.tRet (tOp (inR false) (tMeth C "end" (fs_Wish_end_1 C) (tVar 0) (tCons (tVar 1) tNil)) (tFld C "good" (tVar 0))))

/-- wish_rings: 0 bell, 1 times, 2 at -/
def N_wish_rings : List Str := ["bell", "times", "at"]
def g0_wish_rings (C : Addr) : TGD := (gName 2)
def e1_wish_rings (C : Addr) : TED := (tTup (tCons (tVar 2) (tCons (tTup (tCons (tVar 0) tNil)) (tCons (tTup tNil) (tCons (tOp addR (tVar 2) (tC (.int 1))) tNil)))))
def t_wish_rings (C : Addr) : TSD := (T3.tSeq (T3.tIfS (tOr (tNot (tB (T3.tCall (fs_is_integer C) (tCons (tVar 1) tNil)))) (tB (tOp (ordR (fun i j => decide (i < j)) ltS) (tVar 1) (tC (.int 1))))) tNever T3.tNext)
  (T3.tRet (tMake C (fs_Wish_init C) (tCons (tOp addR (tVar 1) (tC (.int 1))) (tCons (tTup (tCons (tVar 1) tNil)) (tCons (T3.tLc (iRng1 (tCons (tVar 1) tNil)) (g0_wish_rings C) tYes (e1_wish_rings C) [2]) tNil))))))

/-- wish_ahead: 0 one, 1 other -/
def N_wish_ahead : List Str := ["one", "other"]
def t_wish_ahead (C : Addr) : TSD := (T3.tRet (tMake C (fs_Wish_init C) (tCons (tC (.int 3)) (tCons (tTup (tCons (tC (.int 1)) tNil)) (tCons (tTup (tCons (tTup (tCons (tC (.int 0)) (tCons (tTup (tCons (tVar 1) tNil)) (tCons (tTup tNil) (tCons (tC (.int 2)) tNil))))) (tCons (tTup (tCons (tC (.int 0)) (tCons (tTup (tCons (tVar 0) tNil)) (tCons (tTup tNil) (tCons (tC (.int 1)) tNil))))) tNil))) tNil)))))

/-- wish_last: 0 bell -/
def N_wish_last : List Str := ["bell"]
def t_wish_last (C : Addr) : TSD := (T3.tRet (tMake C (fs_Wish_init C) (tCons (tC (.int 2)) (tCons (tTup (tCons (tC (.int 1)) tNil)) (tCons (tTup (tCons (tTup (tCons (tC (.int 0)) (tCons (tTup (tCons (tVar 0) tNil)) (tCons (tTup tNil) (tCons (tC (.int 1)) tNil))))) (tCons (tTup (tCons (tC (.int 1)) (tCons (tTup tNil) (tCons (tTup (tCons (tVar 0) tNil)) (tCons (tC (.int 0)) tNil))))) tNil))) tNil)))))

/-- wish_denied: 0 wish, 1 state -/
def N_wish_denied : List Str := ["wish", "state"]
def g0_wish_denied (C : Addr) : TGD := (gName 1)
def c1_wish_denied (C : Addr) : TTD := (tB (tOp (inR true) (tVar 1) (tFld C "good" (tVar 0))))
def e2_wish_denied (C : Addr) : TED := (tVar 1)
def t_wish_denied (C : Addr) : TSD := (T3.tRet (tMake C (fs_Wish_init C) (tCons (tFld C "states" (tVar 0)) (tCons (T3.tLc (iRng1 (tCons (tFld C "states" (tVar 0)) tNil)) (g0_wish_denied C) (c1_wish_denied C) (e2_wish_denied C) [1]) (tCons (tFld C "steps" (tVar 0)) tNil)))))

/-- wish_met: 0 wish, 1 step -/
def N_wish_met : List Str := ["wish", "step"]
def g0_wish_met (C : Addr) : TGD := (gName 1)
def c1_wish_met (C : Addr) : TTD := (tB (tOp (inR true) (tOp ixR (tVar 1) (tC (.int 0))) (tFld C "good" (tVar 0))))
def e2_wish_met (C : Addr) : TED := (tVar 1)
def t_wish_met (C : Addr) : TSD := (T3.tRet (tMake C (fs_Wish_init C) (tCons (tFld C "states" (tVar 0)) (tCons (tFld C "good" (tVar 0)) (tCons (T3.tLc (iAny (tFld C "steps" (tVar 0))) (g0_wish_met C) (c1_wish_met C) (e2_wish_met C) [1]) tNil)))))

/-- open_steps: 0 wish, 1 state, 2 found, 3 one, 4 need, 5 bar, 6 later -/
def N_open_steps : List Str := ["wish", "state", "found", "one", "need", "bar", "later"]
def g0_open_steps (C : Addr) : TGD := (gTupN 4 [(gName 3), (gName 4), (gName 5), (gName 6)])
def c1_open_steps (C : Addr) : TTD := (tB (tOp eqR (tVar 3) (tVar 1)))
def e2_open_steps (C : Addr) : TED := (tTup (tCons (tVar 4) (tCons (tVar 5) (tCons (tVar 6) tNil))))
def t_open_steps (C : Addr) : TSD := (T3.tSeq (T3.tAsg (T3.tLc (iAny (tFld C "steps" (tVar 0))) (g0_open_steps C) (c1_open_steps C) (e2_open_steps C) [3, 4, 5, 6]) (gName 2))
  (T3.tRet (tOp addR (tVar 2) (tLst (tCons (tTup (tCons (tTup tNil) (tCons (tTup tNil) (tCons (tVar 1) tNil)))) tNil)))))

/-- paired_wish: 0 one, 1 other, 2 good, 3 many, 4 steps, 5 i, 6 j, 7 need, 8 bar, 9 k, 10 more, 11 less, 12 m -/
def N_paired_wish : List Str := ["one", "other", "good", "many", "steps", "i", "j", "need", "bar", "k", "more", "less", "m"]
def g0_paired_wish (C : Addr) : TGD := (gTupN 3 [(gName 10), (gName 11), (gName 12)])
def b1_paired_wish (C : Addr) : TSD := (T3.tDrop (T3.tBM "list" appR (tVar 4) (tCons (tTup (tCons (tOp addR (tOp (intR CMul fun i j => .int (i * j)) (tVar 5) (tVar 3)) (tVar 6)) (tCons (tOp addR (tVar 7) (tVar 10)) (tCons (tOp addR (tVar 8) (tVar 11)) (tCons (tOp addR (tOp (intR CMul fun i j => .int (i * j)) (tVar 9) (tVar 3)) (tVar 12)) tNil))))) tNil)))
def g2_paired_wish (C : Addr) : TGD := (gTupN 3 [(gName 7), (gName 8), (gName 9)])
def b3_paired_wish (C : Addr) : TSD := (T3.tFor (iAny (T3.tCall (fs_open_steps C) (tCons (tVar 1) (tCons (tVar 6) tNil)))) (g0_paired_wish C) (b1_paired_wish C))
def g4_paired_wish (C : Addr) : TGD := (gName 6)
def b5_paired_wish (C : Addr) : TSD := (T3.tFor (iAny (T3.tCall (fs_open_steps C) (tCons (tVar 0) (tCons (tVar 5) tNil)))) (g2_paired_wish C) (b3_paired_wish C))
def g6_paired_wish (C : Addr) : TGD := (gName 5)
def b7_paired_wish (C : Addr) : TSD := (T3.tFor (iRng1 (tCons (tVar 3) tNil)) (g4_paired_wish C) (b5_paired_wish C))
def g8_paired_wish (C : Addr) : TGD := (gTupN 2 [(gName 5), (gName 6)])
def e9_paired_wish (C : Addr) : TED := (tOp addR (tOp (intR CMul fun i j => .int (i * j)) (tVar 5) (tVar 3)) (tVar 6))
def t_paired_wish (C : Addr) : TSD := (T3.tSeq (T3.tAsg (tTup (tCons (tFld C "states" (tVar 1)) (tCons (tLstM tNil) tNil))) (gTupN 2 [(gName 3), (gName 4)]))
  (T3.tSeq (T3.tFor (iRng1 (tCons (tFld C "states" (tVar 0)) tNil)) (g6_paired_wish C) (b7_paired_wish C))
  (T3.tRet (tMake C (fs_Wish_init C) (tCons (tOp (intR CMul fun i j => .int (i * j)) (tFld C "states" (tVar 0)) (tVar 3)) (tCons (T3.tLc (iAny (tVar 2)) (g8_paired_wish C) tYes (e9_paired_wish C) [5, 6]) (tCons (tVar 4) tNil)))))))

/-- wish_both: 0 one, 1 other, 2 i, 3 j -/
def N_wish_both : List Str := ["one", "other", "i", "j"]
def g0_wish_both (C : Addr) : TGD := (gName 2)
def g1_wish_both (C : Addr) : TGD := (gName 3)
def i2_wish_both (C : Addr) : TID := (iAny (tFld C "good" (tVar 1)))
def e3_wish_both (C : Addr) : TED := (tTup (tCons (tVar 2) (tCons (tVar 3) tNil)))
def t_wish_both (C : Addr) : TSD := (T3.tRet (T3.tCall (fs_paired_wish C) (tCons (tVar 0) (tCons (tVar 1) (tCons (T3.tLc2 (iAny (tFld C "good" (tVar 0))) (g0_wish_both C) tYes (i2_wish_both C) (g1_wish_both C) tYes (e3_wish_both C) [2, 3] [3]) tNil)))))

/-- wish_either: 0 one, 1 other, 2 pairs, 3 i, 4 j -/
def N_wish_either : List Str := ["one", "other", "pairs", "i", "j"]
def g0_wish_either (C : Addr) : TGD := (gName 3)
def g1_wish_either (C : Addr) : TGD := (gName 4)
def i2_wish_either (C : Addr) : TID := (iRng1 (tCons (tFld C "states" (tVar 1)) tNil))
def e3_wish_either (C : Addr) : TED := (tTup (tCons (tVar 3) (tCons (tVar 4) tNil)))
def g4_wish_either (C : Addr) : TGD := (gTupN 2 [(gName 3), (gName 4)])
def c5_wish_either (C : Addr) : TTD := (tOr (tB (tOp (inR false) (tVar 3) (tFld C "good" (tVar 0)))) (tB (tOp (inR false) (tVar 4) (tFld C "good" (tVar 1)))))
def e6_wish_either (C : Addr) : TED := (tTup (tCons (tVar 3) (tCons (tVar 4) tNil)))
def t_wish_either (C : Addr) : TSD := (T3.tSeq (T3.tAsg (T3.tLc2 (iRng1 (tCons (tFld C "states" (tVar 0)) tNil)) (g0_wish_either C) tYes (i2_wish_either C) (g1_wish_either C) tYes (e3_wish_either C) [3, 4] [4]) (gName 2))
  (T3.tRet (T3.tCall (fs_paired_wish C) (tCons (tVar 0) (tCons (tVar 1) (tCons (T3.tLc (iAny (tVar 2)) (g4_wish_either C) (c5_wish_either C) (e6_wish_either C) [3, 4]) tNil))))))

/-- _law_box: 0 script, 1 k, 2 cell, 3 great -/
def N__law_box : List Str := ["script", "k", "cell", "great"]
def t__law_box (C : Addr) : TSD := (T3.tSeq (T3.tAsg (tOp addR (tOp (intR CMul fun i j => .int (i * j)) (tC (.int 9661)) (tVar 1)) (tC (.int 149))) (gName 2))
  (T3.tSeq (T3.tIfS (tB (tOp (ordR (fun i j => decide (i < j)) ltS) (tVar 1) (T3.tCB lenR (tCons (tVar 0) tNil)))) (T3.tAsg (T3.tCB absR (tCons (T3.tCB intR1 (tCons (tOp ixR (tVar 0) (tVar 1)) tNil)) tNil)) (gName 2)) (T3.tIfS (tB (tOp (ordR (fun i j => decide (j < i)) fun a b => ltS b a) (T3.tCB lenR (tCons (tVar 0) tNil)) (tC (.int 0)))) (T3.tAsg (tOp addR (tVar 2) (tOp (intR CMul fun i j => .int (i * j)) (tOp (intR (fun _ j => 0 < j) fun i j => .int (i % j)) (T3.tCB intR1 (tCons (T3.tCB absR (tCons (T3.tCB intR1 (tCons (tOp ixR (tVar 0) (tOp (intR (fun _ j => 0 < j) fun i j => .int (i % j)) (T3.tCB intR1 (tCons (tVar 1) tNil)) (T3.tCB lenR (tCons (tVar 0) tNil)))) tNil)) tNil)) tNil)) (tC (.int 2147483629))) (tC (.int 64081)))) (gName 2)) T3.tNext))
  (T3.tSeq (T3.tAsg (tIf (tB (tOp (ordR (fun i j => decide (j ≤ i)) fun a b => !ltS a b) (tVar 2) (tOp (intR CPow fun i j => .int (i ^ j.toNat)) (tC (.int 10)) (tC (.int 18))))) (tVar 2) (tC (.int 0))) (gName 3))
  (T3.tRet (tLstM (tCons (tVar 3) (tCons (tOp addR (tOp (intR (fun _ j => 0 < j) fun i j => .int (i % j)) (T3.tCB intR1 (tCons (tOp addR (tOp (intR CMul fun i j => .int (i * j)) (tOp (intR (fun _ j => 0 < j) fun i j => .int (i % j)) (T3.tCB intR1 (tCons (tVar 2) tNil)) (tC (.int 2147483629))) (tC (.int 48271))) (tOp (intR CMul fun i j => .int (i * j)) (tC (.int 42641)) (tVar 1))) tNil)) (tC (.int 2147483629))) (tC (.int 1))) tNil)))))))

/-- _law_take: 0 box, 1 many, 2 digit, 3 raw -/
def N__law_take : List Str := ["box", "many", "digit", "raw"]
def t__law_take (C : Addr) : TSD := (T3.tSeq (T3.tIfS (tB (tOp (ordR (fun i j => decide (j < i)) fun a b => ltS b a) (tOp ixR (tVar 0) (tC (.int 0))) (tC (.int 0)))) (T3.tSeq (T3.tAsg (tOp (intR (fun _ j => 0 < j) fun i j => .int (i % j)) (T3.tCB intR1 (tCons (tOp ixR (tVar 0) (tC (.int 0))) tNil)) (tVar 1)) (gName 2))
  (T3.tSeq (T3.tAsg (tOp (intR CDivW fun i j => .int (i / j)) (tOp ixR (tVar 0) (tC (.int 0))) (tVar 1)) (gSub (tVar 0) (tC (.int 0))))
  (T3.tRet (tVar 2)))) T3.tNext)
  (T3.tSeq (T3.tAsg (tOp (intR (fun _ j => 0 < j) fun i j => .int (i % j)) (T3.tCB intR1 (tCons (tOp addR (tOp (intR CMul fun i j => .int (i * j)) (tOp ixR (tVar 0) (tC (.int 1))) (tC (.int 40014))) (tC (.int 73))) tNil)) (tC (.int 2147483563))) (gName 3))
  (T3.tSeq (T3.tAsg (tOp addR (tOp (intR (fun _ j => 0 < j) fun i j => .int (i % j)) (T3.tCB intR1 (tCons (tOp addR (tOp (intR CMul fun i j => .int (i * j)) (tVar 3) (tC (.int 40692))) (tC (.int 4513))) tNil)) (tC (.int 2147483629))) (tC (.int 1))) (gSub (tVar 0) (tC (.int 1))))
  (T3.tRet (tOp (intR (fun _ j => 0 < j) fun i j => .int (i % j)) (T3.tCB intR1 (tCons (tOp (intR CDiv fun i j => .int (i / j)) (tOp addR (tOp (intR CMul fun i j => .int (i * j)) (tVar 3) (tC (.int 2147483647))) (tOp ixR (tVar 0) (tC (.int 1)))) (tC (.int 8191))) tNil)) (tVar 1))))))

/-- _law_pick: 0 box, 1 some -/
def N__law_pick : List Str := ["box", "some"]
def t__law_pick (C : Addr) : TSD := (T3.tRet (tOp ixR (tVar 1) (T3.tCall (fs__law_take C) (tCons (tVar 0) (tCons (T3.tCB lenR (tCons (tVar 1) tNil)) tNil)))))

/-- _law_names: 0 box, 1 many, 2 found, 3 turn, 4 name, 5 sign, 6 more -/
def N__law_names : List Str := ["box", "many", "found", "turn", "name", "sign", "more"]
def g0__law_names (C : Addr) : TGD := (gName 5)
def b1__law_names (C : Addr) : TSD := (T3.tAsg (tOp addR (tVar 4) (tOp ixR (tC (.str "abcdefghijklmnopqrstuvwxyz")) (T3.tCall (fs__law_take C) (tCons (tVar 0) (tCons (tC (.int 26)) tNil))))) (gName 4))
def g2__law_names (C : Addr) : TGD := (gName 6)
def b3__law_names (C : Addr) : TSD := (T3.tIfS (tB (tOp (inR false) (tVar 4) (tVar 2))) (T3.tAsg (tOp addR (tVar 4) (tC (.str "z"))) (gName 4)) T3.tNext)
def g4__law_names (C : Addr) : TGD := (gName 3)
def b5__law_names (C : Addr) : TSD := (T3.tSeq (T3.tAsg (tC (.str "")) (gName 4))
  (T3.tSeq (T3.tFor (iRng1 (tCons (tOp addR (tC (.int 1)) (T3.tCall (fs__law_take C) (tCons (tVar 0) (tCons (tC (.int 3)) tNil)))) tNil)) (g0__law_names C) (b1__law_names C))
  (T3.tSeq (T3.tFor (iRng1 (tCons (tVar 1) tNil)) (g2__law_names C) (b3__law_names C))
  (T3.tDrop (T3.tBM "list" appR (tVar 2) (tCons (tVar 4) tNil))))))
def t__law_names (C : Addr) : TSD := (T3.tSeq (T3.tAsg (tLstM tNil) (gName 2))
  (T3.tSeq (T3.tFor (iRng1 (tCons (tVar 1) tNil)) (g4__law_names C) (b5__law_names C))
  (T3.tRet (tVar 2))))

/-- _law_wish: 0 box, 1 rings, 2 one, 3 two, 4 form, 5 good, 6 steps, 7 turn, 8 need, 9 bar, 10 ring, 11 k -/
def N__law_wish : List Str := ["box", "rings", "one", "two", "form", "good", "steps", "turn", "need", "bar", "ring", "k"]
def g0__law_wish (C : Addr) : TGD := (gName 10)
def c1__law_wish (C : Addr) : TTD := (tB (tOp eqR (T3.tCall (fs__law_take C) (tCons (tVar 0) (tCons (tC (.int 3)) tNil))) (tC (.int 0))))
def e2__law_wish (C : Addr) : TED := (tVar 10)
def g3__law_wish (C : Addr) : TGD := (gName 10)
def c4__law_wish (C : Addr) : TTD := (tAnd (tB (tOp (inR true) (tVar 10) (tVar 8))) (tB (tOp eqR (T3.tCall (fs__law_take C) (tCons (tVar 0) (tCons (tC (.int 3)) tNil))) (tC (.int 0)))))
def e5__law_wish (C : Addr) : TED := (tVar 10)
def g6__law_wish (C : Addr) : TGD := (gName 7)
def b7__law_wish (C : Addr) : TSD := (T3.tSeq (T3.tAsg (T3.tLc (iAny (tVar 1)) (g0__law_wish C) (c1__law_wish C) (e2__law_wish C) [10]) (gName 8))
  (T3.tSeq (T3.tAsg (T3.tLc (iAny (tVar 1)) (g3__law_wish C) (c4__law_wish C) (e5__law_wish C) [10]) (gName 9))
  (T3.tDrop (T3.tBM "list" appR (tVar 6) (tCons (tTup (tCons (T3.tCall (fs__law_take C) (tCons (tVar 0) (tCons (tC (.int 3)) tNil))) (tCons (tVar 8) (tCons (tVar 9) (tCons (T3.tCall (fs__law_take C) (tCons (tVar 0) (tCons (tC (.int 3)) tNil))) tNil))))) tNil)))))
def g8__law_wish (C : Addr) : TGD := (gName 11)
def c9__law_wish (C : Addr) : TTD := (tB (tOp eqR (T3.tCall (fs__law_take C) (tCons (tVar 0) (tCons (tC (.int 2)) tNil))) (tC (.int 0))))
def e10__law_wish (C : Addr) : TED := (tVar 11)
def t__law_wish (C : Addr) : TSD := (T3.tSeq (T3.tAsg (tTup (tCons (T3.tCall (fs__law_pick C) (tCons (tVar 0) (tCons (tVar 1) tNil))) (tCons (T3.tCall (fs__law_pick C) (tCons (tVar 0) (tCons (tVar 1) tNil))) tNil))) (gTupN 2 [gName 2, gName 3]))
  (T3.tSeq (T3.tAsg (T3.tCall (fs__law_take C) (tCons (tVar 0) (tCons (tC (.int 8)) tNil))) (gName 4))
  (T3.tSeq (T3.tAsg (tOp ixR (tLst (tCons (tLst (tCons (tC (.int 1)) tNil)) (tCons (tLst (tCons (tC (.int 0)) tNil)) tNil))) (T3.tCall (fs__law_take C) (tCons (tVar 0) (tCons (tC (.int 2)) tNil)))) (gName 5))
  (T3.tSeq (T3.tIfS (tB (tOp eqR (tVar 4) (tC (.int 0)))) (T3.tRet (tTup (tCons (tC (.int 2)) (tCons (tVar 5) (tCons (tLst (tCons (tTup (tCons (tC (.int 0)) (tCons (tLst (tCons (tVar 2) tNil)) (tCons (tLst tNil) (tCons (tC (.int 1)) tNil))))) tNil)) tNil))))) T3.tNext)
  (T3.tSeq (T3.tIfS (tB (tOp eqR (tVar 4) (tC (.int 1)))) (T3.tRet (tTup (tCons (tC (.int 3)) (tCons (tLst (tCons (tC (.int 1)) tNil)) (tCons (tLst (tCons (tTup (tCons (tC (.int 0)) (tCons (tLst (tCons (tVar 3) tNil)) (tCons (tLst tNil) (tCons (tC (.int 2)) tNil))))) (tCons (tTup (tCons (tC (.int 0)) (tCons (tLst (tCons (tVar 2) tNil)) (tCons (tLst tNil) (tCons (tC (.int 1)) tNil))))) tNil))) tNil))))) T3.tNext)
  (T3.tSeq (T3.tIfS (tB (tOp eqR (tVar 4) (tC (.int 2)))) (T3.tRet (tTup (tCons (tC (.int 2)) (tCons (tVar 5) (tCons (tLst (tCons (tTup (tCons (tC (.int 0)) (tCons (tLst (tCons (tVar 2) tNil)) (tCons (tLst tNil) (tCons (tC (.int 1)) tNil))))) (tCons (tTup (tCons (tC (.int 1)) (tCons (tLst (tCons (tVar 2) tNil)) (tCons (tLst tNil) (tCons (tC (.int 0)) tNil))))) tNil))) tNil))))) T3.tNext)
  (T3.tSeq (T3.tIfS (tB (tOp eqR (tVar 4) (tC (.int 3)))) (T3.tRet (tTup (tCons (tC (.int 2)) (tCons (tLst (tCons (tC (.int 1)) tNil)) (tCons (tLst (tCons (tTup (tCons (tC (.int 0)) (tCons (tLst (tCons (tVar 2) tNil)) (tCons (tLst tNil) (tCons (tC (.int 1)) tNil))))) (tCons (tTup (tCons (tC (.int 1)) (tCons (tLst tNil) (tCons (tLst (tCons (tVar 2) tNil)) (tCons (tC (.int 0)) tNil))))) tNil))) tNil))))) T3.tNext)
  (T3.tSeq (T3.tIfS (tB (tOp eqR (tVar 4) (tC (.int 4)))) (T3.tRet (tTup (tCons (tC (.int 3)) (tCons (tLst (tCons (tC (.int 2)) tNil)) (tCons (tLst (tCons (tTup (tCons (tC (.int 0)) (tCons (tLst (tCons (tVar 2) tNil)) (tCons (tLst tNil) (tCons (tC (.int 1)) tNil))))) (tCons (tTup (tCons (tC (.int 1)) (tCons (tLst (tCons (tVar 3) tNil)) (tCons (tLst tNil) (tCons (tC (.int 2)) tNil))))) tNil))) tNil))))) T3.tNext)
  (T3.tSeq (T3.tAsg (tLstM tNil) (gName 6))
  (T3.tSeq (T3.tFor (iRng1 (tCons (tOp addR (tC (.int 2)) (T3.tCall (fs__law_take C) (tCons (tVar 0) (tCons (tC (.int 3)) tNil)))) tNil)) (g6__law_wish C) (b7__law_wish C))
  (tFrz 6 (T3.tRet (tTup (tCons (tC (.int 3)) (tCons (T3.tLc (iRng1 (tCons (tC (.int 3)) tNil)) (g8__law_wish C) (c9__law_wish C) (e10__law_wish C) [11]) (tCons (tVar 6) tNil))))))))))))))))

/-- _law_read: 0 wish, 1 state, 2 lot, 3 one, 4 need, 5 bar, 6 later, 7 ring -/
def N__law_read : List Str := ["wish", "state", "lot", "one", "need", "bar", "later", "ring"]
def g0__law_read (C : Addr) : TGD := (gName 7)
def c1__law_read (C : Addr) : TTD := (tB (tOp (inR true) (tVar 7) (tVar 2)))
def e2__law_read (C : Addr) : TED := (tVar 7)
def g3__law_read (C : Addr) : TGD := (gName 7)
def c4__law_read (C : Addr) : TTD := (tB (tOp (inR false) (tVar 7) (tVar 2)))
def e5__law_read (C : Addr) : TED := (tVar 7)
def g6__law_read (C : Addr) : TGD := (gTupN 4 [(gName 3), (gName 4), (gName 5), (gName 6)])
def b7__law_read (C : Addr) : TSD := (T3.tIfS (tAnd (tB (tOp eqR (tVar 3) (tVar 1))) (tB (tOp eqR (tOp addR (T3.tLc (iAny (tVar 4)) (g0__law_read C) (c1__law_read C) (e2__law_read C) [7]) (T3.tLc (iAny (tVar 5)) (g3__law_read C) (c4__law_read C) (e5__law_read C) [7])) (tLst tNil)))) (T3.tRet (tVar 6)) T3.tNext)
def t__law_read (C : Addr) : TSD := (T3.tSeq (T3.tFor (iAny (tOp ixR (tVar 0) (tC (.int 2)))) (g6__law_read C) (b7__law_read C))
  (T3.tRet (tVar 1)))

/-- _law_lots: 0 box, 1 rings, 2 many, 3 found, 4 turn, 5 lot, 6 ring -/
def N__law_lots : List Str := ["box", "rings", "many", "found", "turn", "lot", "ring"]
def g0__law_lots (C : Addr) : TGD := (gName 6)
def c1__law_lots (C : Addr) : TTD := (tB (tOp (ordR (fun i j => decide (i < j)) ltS) (T3.tCall (fs__law_take C) (tCons (tVar 0) (tCons (tC (.int 5)) tNil))) (tC (.int 2))))
def e2__law_lots (C : Addr) : TED := (tVar 6)
def g3__law_lots (C : Addr) : TGD := (gName 4)
def b4__law_lots (C : Addr) : TSD := (T3.tSeq (T3.tAsg (T3.tLc (iAny (tVar 1)) (g0__law_lots C) (c1__law_lots C) (e2__law_lots C) [6]) (gName 5))
  (T3.tDrop (T3.tBM "list" appR (tVar 3) (tCons (T3.tCB tupR (tCons (T3.tCB sortR (tCons (tIf (tB (tOp neR (tVar 5) (tLst tNil))) (tVar 5) (tLst (tCons (T3.tCall (fs__law_pick C) (tCons (tVar 0) (tCons (tVar 1) tNil))) tNil))) tNil)) tNil)) tNil))))
def t__law_lots (C : Addr) : TSD := (T3.tSeq (T3.tAsg (tLstM tNil) (gName 3))
  (T3.tSeq (T3.tFor (iRng1 (tCons (tVar 2) tNil)) (g3__law_lots C) (b4__law_lots C))
  (T3.tRet (T3.tCB tupR (tCons (tVar 3) tNil)))))

/-- _law_end: 0 wish, 1 tale, 2 state, 3 lot -/
def N__law_end : List Str := ["wish", "tale", "state", "lot"]
def g0__law_end (C : Addr) : TGD := (gName 3)
def b1__law_end (C : Addr) : TSD := (T3.tAsg (T3.tCall (fs__law_read C) (tCons (tVar 0) (tCons (tVar 2) (tCons (tVar 3) tNil)))) (gName 2))
def t__law_end (C : Addr) : TSD := (T3.tSeq (T3.tAsg (tC (.int 0)) (gName 2))
  (T3.tSeq (T3.tFor (iAny (tVar 1)) (g0__law_end C) (b1__law_end C))
  (T3.tRet (tVar 2))))

/-- _law_made_right: 0 box, 1 rings, 2 tales, 3 one, 4 other, 5 times, 6 some, 7 tale, 8 many, 9 spots, 10 first, 11 is_ahead, 12 due, 13 k, 14 lot, 15 wish -/
def N__law_made_right : List Str := ["box", "rings", "tales", "one", "other", "times", "some", "tale", "many", "spots", "first", "is_ahead", "due", "k", "lot", "wish"]
def g0__law_made_right (C : Addr) : TGD := (gName 14)
def c1__law_made_right (C : Addr) : TTD := (tB (tOp (inR false) (tVar 3) (tVar 14)))
def e2__law_made_right (C : Addr) : TED := (tVar 14)
def g3__law_made_right (C : Addr) : TGD := (gName 13)
def c4__law_made_right (C : Addr) : TTD := (tB (tOp (inR false) (tVar 3) (tOp ixR (tVar 7) (tVar 13))))
def e5__law_made_right (C : Addr) : TED := (tVar 13)
def g6__law_made_right (C : Addr) : TGD := (gName 14)
def c7__law_made_right (C : Addr) : TTD := (tB (tOp (inR false) (tVar 4) (tVar 14)))
def e8__law_made_right (C : Addr) : TED := (tVar 14)
def g9__law_made_right (C : Addr) : TGD := (gName 15)
def e10__law_made_right (C : Addr) : TED := (tMeth C "takes" (fs_Wish_takes C) (tVar 15) (tCons (tVar 7) tNil))
def g11__law_made_right (C : Addr) : TGD := (gName 7)
def b12__law_made_right (C : Addr) : TSD := (T3.tSeq (T3.tAsg (T3.tCB lenR (tCons (T3.tLc (iAny (tVar 7)) (g0__law_made_right C) (c1__law_made_right C) (e2__law_made_right C) [14]) tNil)) (gName 8))
  (T3.tSeq (T3.tAsg (T3.tLc (iRng1 (tCons (T3.tCB lenR (tCons (tVar 7) tNil)) tNil)) (g3__law_made_right C) (c4__law_made_right C) (e5__law_made_right C) [13]) (gName 9))
  (T3.tSeq (T3.tAsg (tIf (tB (tOp neR (tVar 9) (tLst tNil))) (tOp ixR (tVar 9) (tC (.int 0))) (tOp (intR TrueC fun i j => .int (i - j)) (tC (.int 0)) (tC (.int 1)))) (gName 10))
  (T3.tSeq (T3.tAsg (tAndV (tOp (ordR (fun i j => decide (j ≤ i)) fun a b => !ltS a b) (tVar 10) (tC (.int 0))) (tOp eqR (T3.tLc (iAny (tSl slR (tVar 7) tNoPart (tPart (tOp addR (tVar 10) (tC (.int 1)))))) (g6__law_made_right C) (c7__law_made_right C) (e8__law_made_right C) [14]) (tLst tNil))) (gName 11))
  (T3.tSeq (T3.tAsg (tLstM (tCons (tOp (ordR (fun i j => decide (j < i)) fun a b => ltS b a) (tVar 8) (tC (.int 0))) (tCons (tOp (ordR (fun i j => decide (j ≤ i)) fun a b => !ltS a b) (tVar 8) (tVar 5)) (tCons (tVar 11) tNil)))) (gName 12))
  (T3.tSeq (T3.tDrop (T3.tBM "list" appR (tVar 12) (tCons (tAndV (tOp (ordR (fun i j => decide (j < i)) fun a b => ltS b a) (T3.tCB lenR (tCons (tVar 7) tNil)) (tC (.int 0))) (tOp (inR false) (tVar 4) (tOp ixR (tVar 7) (tOp (intR TrueC fun i j => .int (i - j)) (T3.tCB lenR (tCons (tVar 7) tNil)) (tC (.int 1)))))) tNil)))
  (T3.tIfS (tB (tOp neR (T3.tLc (iAny (tVar 6)) (g9__law_made_right C) tYes (e10__law_made_right C) [15]) (tVar 12))) (T3.tRet (tC (.bl false))) T3.tNext)))))))
def t__law_made_right (C : Addr) : TSD := (T3.tSeq (T3.tAsg (tTup (tCons (T3.tCall (fs__law_pick C) (tCons (tVar 0) (tCons (tVar 1) tNil))) (tCons (T3.tCall (fs__law_pick C) (tCons (tVar 0) (tCons (tVar 1) tNil))) (tCons (tOp addR (tC (.int 1)) (T3.tCall (fs__law_take C) (tCons (tVar 0) (tCons (tC (.int 3)) tNil)))) tNil)))) (gTupN 3 [(gName 3), (gName 4), (gName 5)]))
  (T3.tSeq (T3.tAsg (tLst (tCons (T3.tCall (fs_wish_rings_1 C) (tCons (tVar 3) tNil)) (tCons (T3.tCall (fs_wish_rings_k C) (tCons (tVar 3) (tCons (tVar 5) tNil))) (tCons (T3.tCall (fs_wish_ahead C) (tCons (tVar 3) (tCons (tVar 4) tNil))) (tCons (T3.tCall (fs_wish_last C) (tCons (tVar 4) tNil)) tNil))))) (gName 6))
  (T3.tSeq (T3.tFor (iAny (tVar 2)) (g11__law_made_right C) (b12__law_made_right C))
  (T3.tRet (tC (.bl true))))))

/-- _law_joined_right: 0 box, 1 one, 2 other, 3 told, 4 more, 5 tales, 6 some, 7 tale, 8 is_one, 9 is_other, 10 begun, 11 due, 12 k, 13 wish -/
def N__law_joined_right : List Str := ["box", "one", "other", "told", "more", "tales", "some", "tale", "is_one", "is_other", "begun", "due", "k", "wish"]
def g0__law_joined_right (C : Addr) : TGD := (gName 12)
def c1__law_joined_right (C : Addr) : TTD := (tB (tOp (inR false) (T3.tCall (fs__law_end C) (tCons (tVar 3) (tCons (tSl slR (tVar 7) tNoPart (tPart (tVar 12))) tNil))) (tOp ixR (tVar 3) (tC (.int 1)))))
def e2__law_joined_right (C : Addr) : TED := (tVar 12)
def g3__law_joined_right (C : Addr) : TGD := (gName 13)
def e4__law_joined_right (C : Addr) : TED := (tMeth C "takes" (fs_Wish_takes C) (tVar 13) (tCons (tVar 7) tNil))
def g5__law_joined_right (C : Addr) : TGD := (gName 7)
def b6__law_joined_right (C : Addr) : TSD := (T3.tSeq (T3.tAsg (tTup (tCons (tOp (inR false) (T3.tCall (fs__law_end C) (tCons (tVar 3) (tCons (tVar 7) tNil))) (tOp ixR (tVar 3) (tC (.int 1)))) (tCons (tOp (inR false) (T3.tCall (fs__law_end C) (tCons (tVar 4) (tCons (tVar 7) tNil))) (tOp ixR (tVar 4) (tC (.int 1)))) tNil))) (gTupN 2 [gName 8, gName 9]))
  (T3.tSeq (T3.tAsg (T3.tLc (iRng1 (tCons (tOp addR (T3.tCB lenR (tCons (tVar 7) tNil)) (tC (.int 1))) tNil)) (g0__law_joined_right C) (c1__law_joined_right C) (e2__law_joined_right C) [12]) (gName 10))
  (T3.tSeq (T3.tAsg (tLst (tCons (tNotV (tVar 8)) (tCons (tAndV (tVar 8) (tVar 9)) (tCons (tOrV (tVar 8) (tVar 9)) (tCons (tOp neR (tVar 10) (tLst tNil)) tNil))))) (gName 11))
  (T3.tIfS (tOr (tB (tOp neR (T3.tLc (iAny (tVar 6)) (g3__law_joined_right C) tYes (e4__law_joined_right C) [13]) (tVar 11))) (tB (tOp neR (tMeth C "takes" (fs_Wish_takes C) (tVar 1) (tCons (tVar 7) tNil)) (tVar 8)))) (T3.tRet (tC (.bl false))) T3.tNext))))
def t__law_joined_right (C : Addr) : TSD := (T3.tSeq (T3.tAsg (tLst (tCons (T3.tCall (fs_wish_denied C) (tCons (tVar 1) tNil)) (tCons (T3.tCall (fs_wish_both C) (tCons (tVar 1) (tCons (tVar 2) tNil))) (tCons (T3.tCall (fs_wish_either C) (tCons (tVar 2) (tCons (tVar 1) tNil))) (tCons (T3.tCall (fs_wish_met C) (tCons (tVar 1) tNil)) tNil))))) (gName 6))
  (T3.tSeq (T3.tFor (iAny (tVar 5)) (g5__law_joined_right C) (b6__law_joined_right C))
  (T3.tRet (tOp eqR (tMeth C "takes" (fs_Wish_takes C) (T3.tCall (fs_wish_denied C) (tCons (T3.tCall (fs_wish_denied C) (tCons (tVar 1) tNil)) tNil)) (tCons (tOp ixR (tVar 5) (tC (.int 0))) tNil)) (tMeth C "takes" (fs_Wish_takes C) (tVar 1) (tCons (tOp ixR (tVar 5) (tC (.int 0))) tNil))))))

/-- _law_sorted_steps: 0 told, 1 one, 2 need, 3 bar, 4 two -/
def N__law_sorted_steps : List Str := ["told", "one", "need", "bar", "two"]
def g0__law_sorted_steps (C : Addr) : TGD := (gTupN 4 [(gName 1), (gName 2), (gName 3), (gName 4)])
def e1__law_sorted_steps (C : Addr) : TED := (tTup (tCons (tVar 1) (tCons (T3.tCB tupR (tCons (tAsc (tVar 2)) tNil)) (tCons (T3.tCB tupR (tCons (tAsc (tVar 3)) tNil)) (tCons (tVar 4) tNil)))))
def t__law_sorted_steps (C : Addr) : TSD := (T3.tRet (T3.tCB tupR (tCons (T3.tLc (iAny (tOp ixR (tVar 0) (tC (.int 2)))) (g0__law_sorted_steps C) tYes (e1__law_sorted_steps C) [1, 2, 3, 4]) tNil)))

/-- law: 0 script, 1 box, 2 rings, 3 told, 4 more, 5 steps, 6 good, 7 wish, 8 other, 9 one, 10 need, 11 bar, 12 later, 13 names, 14 tales, 15 tale, 16 state, 17 due, 18 lot, 19 is_like, 20 turn, 21 k -/
def N_law : List Str := ["script", "box", "rings", "told", "more", "steps", "good", "wish", "other", "one", "need", "bar", "later", "names", "tales", "tale", "state", "due", "lot", "is_like", "turn", "k"]
def g0_law (C : Addr) : TGD := (gTupN 4 [(gName 9), (gName 10), (gName 11), (gName 12)])
def e1_law (C : Addr) : TED := (tTup (tCons (tVar 9) (tCons (tOp addM (tVar 10) (tRevD (tVar 10))) (tCons (T3.tCB tupR (tCons (tVar 11) tNil)) (tCons (tVar 12) tNil)))))
def g2_law (C : Addr) : TGD := (gTupN 4 [(gName 9), (gName 10), (gName 11), (gName 12)])
def b3_law (C : Addr) : TSD := (T3.tDrop (T3.tBM "list" appR (tVar 10) (tCons (tC (.str "odd")) tNil)))
def g4_law (C : Addr) : TGD := (gTupN 4 [(gName 9), (gName 10), (gName 11), (gName 12)])
def b5_law (C : Addr) : TSD := (T3.tAsg (tOp addR (tOp addR (tVar 13) (tVar 10)) (tVar 11)) (gName 13))
def g6_law (C : Addr) : TGD := (gName 20)
def e7_law (C : Addr) : TED := (T3.tCall (fs__law_lots C) (tCons (tVar 1) (tCons (tOp addR (tVar 2) (tLst (tCons (tC (.str "other")) tNil))) (tCons (T3.tCall (fs__law_take C) (tCons (tVar 1) (tCons (tC (.int 7)) tNil))) tNil))))
def g8_law (C : Addr) : TGD := (gName 18)
def b9_law (C : Addr) : TSD := (T3.tSeq (T3.tIfS (tB (tOp neR (tMeth C "after" (fs_Wish_after C) (tVar 7) (tCons (tVar 17) (tCons (tVar 18) tNil))) (T3.tCall (fs__law_read C) (tCons (tVar 3) (tCons (tVar 17) (tCons (tVar 18) tNil)))))) (T3.tRet (tC (.bl false))) T3.tNext)
  (T3.tAsg (T3.tCall (fs__law_read C) (tCons (tVar 3) (tCons (tVar 17) (tCons (tVar 18) tNil)))) (gName 17)))
def g10_law (C : Addr) : TGD := (gName 15)
def b11_law (C : Addr) : TSD := (T3.tSeq (T3.tAsg (T3.tCall (fs__law_take C) (tCons (tVar 1) (tCons (tOp ixR (tVar 3) (tC (.int 0))) tNil))) (gName 16))
  (T3.tSeq (T3.tAsg (tVar 16) (gName 17))
  (T3.tSeq (T3.tFor (iAny (tVar 15)) (g8_law C) (b9_law C))
  (T3.tSeq (T3.tIfS (tOr (tB (tOp neR (tMeth C "end" (fs_Wish_end_2 C) (tVar 7) (tCons (tVar 15) (tCons (tVar 16) tNil))) (tVar 17))) (tB (tOp neR (tMeth C "end" (fs_Wish_end_k C) (tVar 7) (tCons (tVar 15) tNil)) (T3.tCall (fs__law_end C) (tCons (tVar 3) (tCons (tVar 15) tNil)))))) (T3.tRet (tC (.bl false))) T3.tNext)
  (T3.tIfS (tB (tOp neR (tMeth C "takes" (fs_Wish_takes C) (tVar 7) (tCons (tVar 15) tNil)) (tOp (inR false) (T3.tCall (fs__law_end C) (tCons (tVar 3) (tCons (tVar 15) tNil))) (tOp ixR (tVar 3) (tC (.int 1)))))) (T3.tRet (tC (.bl false))) T3.tNext)))))
def g12_law (C : Addr) : TGD := (gName 21)
def c13_law (C : Addr) : TTD := (tB (tOp (inR true) (tVar 21) (tOp ixR (tVar 3) (tC (.int 1)))))
def e14_law (C : Addr) : TED := (tVar 21)
def t_law (C : Addr) : TSD := (T3.tSeq (T3.tAsg (T3.tCall (fs__law_box C) (tCons (tVar 0) (tCons (tC (.int 0)) tNil))) (gName 1))
  (T3.tSeq (T3.tAsg (T3.tCall (fs__law_names C) (tCons (tVar 1) (tCons (tOp addR (tC (.int 2)) (T3.tCall (fs__law_take C) (tCons (tVar 1) (tCons (tC (.int 3)) tNil)))) tNil))) (gName 2))
  (T3.tSeq (T3.tAsg (tTup (tCons (T3.tCall (fs__law_wish C) (tCons (tVar 1) (tCons (tVar 2) tNil))) (tCons (T3.tCall (fs__law_wish C) (tCons (tVar 1) (tCons (tVar 2) tNil))) tNil))) (gTupN 2 [(gName 3), (gName 4)]))
  (T3.tSeq (T3.tAsg (tLcM (iAny (tOp ixR (tVar 3) (tC (.int 2)))) (g0_law C) tYes (e1_law C) [9, 10, 11, 12]) (gName 5))
  (T3.tSeq (T3.tAsg (tOp addM (tOp ixR (tVar 3) (tC (.int 1))) (tSl slR (tOp ixR (tVar 3) (tC (.int 1))) tNoPart (tPart (tC (.int 1))))) (gName 6))
  (T3.tSeq (T3.tAsg (tTup (tCons (tMake C (fs_Wish_init_k C) (tCons (tVar 5) (tCons (tVar 6) (tCons (tOp ixR (tVar 3) (tC (.int 0))) tNil)))) (tCons (tMake C (fs_Wish_init C) (tCons (tOp ixR (tVar 4) (tC (.int 0))) (tCons (T3.tCB tupR (tCons (tOp ixR (tVar 4) (tC (.int 1))) tNil)) (tCons (T3.tCB tupR (tCons (tOp ixR (tVar 4) (tC (.int 2))) tNil)) tNil)))) tNil))) (gTupN 2 [gName 7, gName 8]))
  (T3.tSeq (T3.tFor (iAny (tVar 5)) (g2_law C) (b3_law C))
  (T3.tSeq (T3.tDrop (T3.tBM "list" appR (tVar 6) (tCons (tC (.int 0)) tNil)))
  (T3.tSeq (T3.tDrop (T3.tBM "list" appR (tVar 5) (tCons (tTup (tCons (tC (.int 0)) (tCons (tLst (tCons (tC (.str "odd")) tNil)) (tCons (tLst tNil) (tCons (tC (.int 0)) tNil))))) tNil)))
  (T3.tSeq (T3.tIfS (tOr (tB (tOp neR (tFld C "states" (tVar 7)) (tOp ixR (tVar 3) (tC (.int 0))))) (tOr (tB (tOp neR (tFld C "good" (tVar 7)) (T3.tCB tupR (tCons (T3.tCB sortR (tCons (tOp ixR (tVar 3) (tC (.int 1))) tNil)) tNil)))) (tB (tOp neR (tFld C "steps" (tVar 7)) (T3.tCall (fs__law_sorted_steps C) (tCons (tVar 3) tNil)))))) (T3.tRet (tC (.bl false))) T3.tNext)
  (T3.tSeq (T3.tAsg (tLst tNil) (gName 13))
  (T3.tSeq (T3.tFor (iAny (tOp ixR (tVar 3) (tC (.int 2)))) (g4_law C) (b5_law C))
  (T3.tSeq (T3.tIfS (tOr (tB (tOp neR (tMeth C "rung_bells" (fs_Wish_rung_bells C) (tVar 7) T3.tNil) (T3.tCB tupR (tCons (tAsc (tVar 13)) tNil)))) (tB (tIsi (isR (fun _ => False) "bool") (tFld C "states" (tVar 7))))) (T3.tRet (tC (.bl false))) T3.tNext)
  (T3.tSeq (T3.tAsg (tOp addR (T3.tLc (iRng1 (tCons (tC (.int 4)) tNil)) (g6_law C) tYes (e7_law C) [20]) (tLst (tCons (tTup tNil) tNil))) (gName 14))
  (T3.tSeq (T3.tFor (iAny (tVar 14)) (g10_law C) (b11_law C))
  (T3.tSeq (T3.tAsg (tAndV (tOp eqR (tOp ixR (tVar 3) (tC (.int 0))) (tOp ixR (tVar 4) (tC (.int 0)))) (tAndV (tOp eqR (T3.tCB sortR (tCons (tOp ixR (tVar 3) (tC (.int 1))) tNil)) (T3.tCB sortR (tCons (tOp ixR (tVar 4) (tC (.int 1))) tNil))) (tOp eqR (T3.tCall (fs__law_sorted_steps C) (tCons (tVar 3) tNil)) (T3.tCall (fs__law_sorted_steps C) (tCons (tVar 4) tNil))))) (gName 19))
  (T3.tSeq (T3.tIfS (tOr (tB (tOp neR (tOp (eqOwn C (fs_Wish_eq C)) (tVar 7) (tVar 8)) (tVar 19))) (tOr (tB (tOp (eqOwn C (fs_Wish_eq C)) (tVar 7) (tVar 5))) (tNot (tB (tOp (eqOwn C (fs_Wish_eq C)) (tVar 7) (tMake C (fs_Wish_init C) (tCons (tOp ixR (tVar 3) (tC (.int 0))) (tCons (tOp ixR (tVar 3) (tC (.int 1))) (tCons (tOp ixR (tVar 3) (tC (.int 2))) tNil))))))))) (T3.tRet (tC (.bl false))) T3.tNext)
  (T3.tSeq (T3.tIfS (tOr (tB (tOp (eqOwn C (fs_Wish_eq C)) (tVar 7) (tMake C (fs_Wish_init C) (tCons (tOp addR (tOp ixR (tVar 3) (tC (.int 0))) (tC (.int 1))) (tCons (tOp ixR (tVar 3) (tC (.int 1))) (tCons (tOp ixR (tVar 3) (tC (.int 2))) tNil)))))) (tB (tOp (eqOwn C (fs_Wish_eq C)) (tVar 7) (tMake C (fs_Wish_init C) (tCons (tOp ixR (tVar 3) (tC (.int 0))) (tCons (T3.tLc (iRng1 (tCons (tOp ixR (tVar 3) (tC (.int 0))) tNil)) (g12_law C) (c13_law C) (e14_law C) [21]) (tCons (tVar 5) tNil))))))) (T3.tRet (tC (.bl false))) T3.tNext)
  (T3.tRet (tAndV (T3.tCall (fs__law_made_right C) (tCons (tVar 1) (tCons (tVar 2) (tCons (tVar 14) tNil)))) (T3.tCall (fs__law_joined_right C) (tCons (tVar 1) (tCons (tVar 7) (tCons (tVar 8) (tCons (tVar 3) (tCons (tVar 4) (tCons (tVar 14) tNil)))))))))))))))))))))))))))

end K50

/-! k50: the plain law. -/
namespace K50
open PySem PySem.Spec L2 T3
open PyProof.Rows hiding St

theorem aft_c {r : Rule} {rs : List Rule} {st : Int} {lot : List Str} : aft (r :: rs) st lot = if hasR r st lot = true then r.two else aft rs st lot := rfl
theorem has_nr (r : Rule) (st : Int) (lot : List Str) : hasR (nr r) st lot = hasR r st lot := by
  unfold hasR nr
  have e1 : (ascS r.need).all (fun x => decide (x ∈ lot)) = r.need.all fun x => decide (x ∈ lot) := by
    rw [Bool.eq_iff_iff, List.all_eq_true, List.all_eq_true]
    exact ⟨fun h x hx => h x (mem_ascS.mpr hx), fun h x hx => h x (mem_ascS.mp hx)⟩
  have e2 : (ascS r.bar).any (fun x => decide (x ∈ lot)) = r.bar.any fun x => decide (x ∈ lot) := by
    rw [Bool.eq_iff_iff, List.any_eq_true, List.any_eq_true]
    exact ⟨fun ⟨x, hx, h⟩ => ⟨x, mem_ascS.mp hx, h⟩, fun ⟨x, hx, h⟩ => ⟨x, mem_ascS.mpr hx, h⟩⟩
  simp only [e1, e2]
theorem aft_nr (rs : List Rule) (st : Int) (lot : List Str) : aft (rs.map nr) st lot = aft rs st lot := by
  induction rs with
  | nil => rfl
  | cons r rs ih =>
    rw [List.map_cons, aft_c, aft_c, has_nr, ih]; rfl
theorem run_congr {rs rs' : List Rule} (h : ∀ st lot, aft rs st lot = aft rs' st lot) (st : Int) (t : List (List Str)) : run rs st t = run rs' st t := by
  unfold run
  congr 1
  funext s l
  exact h s l
theorem run_nr (rs : List Rule) (st : Int) (t : List (List Str)) : run (rs.map nr) st t = run rs st t := run_congr (aft_nr rs) st t
theorem run_cons (rs : List Rule) (st : Int) (l : List Str) (t : List (List Str)) : run rs st (l :: t) = run rs (aft rs st l) t := rfl
theorem run_nil (rs : List Rule) (st : Int) : run rs st [] = st := rfl
theorem dec_congr {p q : Prop} [Decidable p] [Decidable q] (h : p ↔ q) : decide p = decide q := by
  by_cases hp : p
  · rw [decide_eq_true hp, decide_eq_true (h.mp hp)]
  · rw [decide_eq_false hp, decide_eq_false fun z => hp (h.mpr z)]

/-! ### rings -/
theorem aft_ringsAux (b : Str) (lot : List Str) : ∀ (n k : Nat) (s : Int), aft ((List.range' k n).map fun (i : Nat) => ⟨(i : Int), [b], [], (i : Int) + 1⟩) s lot = if b ∈ lot ∧ (k : Int) ≤ s ∧ s < (k : Int) + (n : Int) then s + 1 else s
  | 0, k, s => by
    rw [if_neg (by omega)]; rfl
  | n + 1, k, s => by
    rw [List.range'_succ, List.map_cons, aft_c, aft_ringsAux b lot n (k + 1) s]
    unfold hasR
    simp only [List.all_cons, List.all_nil, List.any_nil, Bool.and_true, Bool.not_false, Bool.and_eq_true, decide_eq_true_eq]
    by_cases hb : b ∈ lot
    · by_cases hk : (k : Int) = s
      · rw [if_pos ⟨hk, hb⟩, if_pos ⟨hb, by omega, by omega⟩, hk]
      · rw [if_neg (fun z => hk z.1)]
        by_cases h2 : (k : Int) ≤ s ∧ s < (k : Int) + ((n + 1 : Nat) : Int)
        · rw [if_pos ⟨hb, by omega, by omega⟩, if_pos ⟨hb, h2.1, h2.2⟩]
        · rw [if_neg (fun z => h2 ⟨by omega, by omega⟩), if_neg (fun z => h2 z.2)]
    · rw [if_neg (fun z => hb z.2), if_neg (fun z => hb z.1), if_neg (fun z => hb z.1)]
theorem aft_rings (b : Str) (t s : Int) (lot : List Str) (h0 : 0 ≤ t) : aft (ringsR b t) s lot = if b ∈ lot ∧ 0 ≤ s ∧ s < t then s + 1 else s := by
  unfold ringsR
  rw [List.range_eq_range', aft_ringsAux]
  have : ((0 : Nat) : Int) + (t.toNat : Int) = t := by omega
  rw [this]; rfl
def cnt (b : Str) (t : List (List Str)) : Nat := (t.filter fun l => decide (b ∈ l)).length
theorem run_rings (b : Str) (n : Int) (h0 : 0 ≤ n) : ∀ (t : List (List Str)) (s : Int), 0 ≤ s → s ≤ n → run (ringsR b n) s t = if s + (cnt b t : Int) ≤ n then s + (cnt b t : Int) else n
  | [], s, _, h => by
    rw [run_nil]
    show s = if s + ((0 : Nat) : Int) ≤ n then s + ((0 : Nat) : Int) else n
    rw [if_pos (by omega)]; omega
  | l :: t, s, h1, h2 => by
    rw [run_cons, aft_rings b n s l h0]
    have hc : cnt b (l :: t) = if b ∈ l then cnt b t + 1 else cnt b t := by
      unfold cnt
      rw [List.filter_cons]
      by_cases hb : b ∈ l
      · rw [if_pos (decide_eq_true hb), if_pos hb]; rfl
      · rw [if_neg (by simpa using hb), if_neg hb]
    rw [hc]
    by_cases hb : b ∈ l
    · rw [if_pos hb]
      by_cases hs : s < n
      · rw [if_pos ⟨hb, h1, hs⟩, run_rings b n h0 t (s + 1) (by omega) (by omega)]
        by_cases hh : s + 1 + (cnt b t : Int) ≤ n
        · rw [if_pos hh, if_pos (by omega)]; omega
        · rw [if_neg hh, if_neg (by omega)]
      · rw [if_neg (fun z => hs z.2.2), run_rings b n h0 t s h1 h2]
        by_cases hh : s + (cnt b t : Int) ≤ n
        · rw [if_pos hh, if_neg (by omega)]; omega
        · rw [if_neg hh, if_neg (by omega)]
    · rw [if_neg hb, if_neg (fun z => hb z.1), run_rings b n h0 t s h1 h2]
theorem takes_rings (b : Str) (n : Int) (h0 : 0 ≤ n) (t : List (List Str)) : decide (run ((ringsR b n).map nr) 0 t ∈ ascI [n]) = decide (n ≤ (cnt b t : Int)) := by
  apply dec_congr
  rw [mem_ascI, run_nr, run_rings b n h0 t 0 (by omega) h0, List.mem_singleton]
  by_cases hh : 0 + (cnt b t : Int) ≤ n
  · rw [if_pos hh]; omega
  · rw [if_neg hh]; omega

/-! ### ahead -/
def ahd (a b : Str) : List (List Str) → Bool
  | [] => false
  | l :: t => if b ∈ l then false else if a ∈ l then true else ahd a b t
theorem aft_ahead (a b : Str) (s : Int) (l : List Str) : aft (aheadR a b) s l = if s = 0 then (if b ∈ l then 2 else if a ∈ l then 1 else 0) else s := by
  unfold aheadR
  rw [aft_c, aft_c]
  unfold hasR
  simp only [List.all_cons, List.all_nil, List.any_nil, Bool.and_true, Bool.not_false, Bool.and_eq_true, decide_eq_true_eq]
  by_cases hs : s = 0
  · subst hs
    by_cases hb : b ∈ l <;> by_cases ha : a ∈ l <;> simp [hb, ha, aft]
  · rw [if_neg (fun z => hs z.1.symm), if_neg (fun z => hs z.1.symm), if_neg hs]; rfl
theorem run_ahead_stay (a b : Str) : ∀ (t : List (List Str)) (s : Int), s ≠ 0 → run (aheadR a b) s t = s
  | [], s, _ => rfl
  | l :: t, s, h => by rw [run_cons, aft_ahead, if_neg h, run_ahead_stay a b t s h]
theorem run_ahead (a b : Str) : ∀ t : List (List Str), (run (aheadR a b) 0 t = 1 ↔ ahd a b t = true)
  | [] => by rw [run_nil]; unfold ahd; simp
  | l :: t => by
    rw [run_cons, aft_ahead, if_pos rfl]
    unfold ahd
    by_cases hb : b ∈ l
    · rw [if_pos hb, if_pos hb, run_ahead_stay a b t 2 (by decide)]; simp
    · rw [if_neg hb, if_neg hb]
      by_cases ha : a ∈ l
      · rw [if_pos ha, if_pos ha, run_ahead_stay a b t 1 (by decide)]; simp
      · rw [if_neg ha, if_neg ha]; exact run_ahead a b t
theorem takes_ahead (a b : Str) (t : List (List Str)) : decide (run ((aheadR a b).map nr) 0 t ∈ ascI [1]) = ahd a b t := by
  rw [Bool.eq_iff_iff, decide_eq_true_eq, mem_ascI, run_nr, List.mem_singleton]
  exact run_ahead a b t
theorem ahd_none (a b : Str) : ∀ t : List (List Str), (∀ l ∈ t, a ∉ l) → ahd a b t = false
  | [], _ => rfl
  | l :: t, h => by
    unfold ahd
    rw [if_neg (h l (List.mem_cons_self ..))]
    split
    · rfl
    · exact ahd_none a b t fun l hl => h l (List.mem_cons_of_mem _ hl)
theorem ahd_at (a b : Str) : ∀ (t : List (List Str)) (k : Nat) (l : List Str), t[k]? = some l → a ∈ l → (∀ j, j < k → ∀ m, t[j]? = some m → a ∉ m) → ahd a b t = (t.take (k + 1)).all fun l => !decide (b ∈ l)
  | [], k, l, e, _, _ => by simp at e
  | x :: t, 0, l, e, ha, _ => by
    cases e
    unfold ahd
    rw [if_pos ha]
    by_cases hb : b ∈ x
    · simp [hb]
    · simp [hb]
  | x :: t, k + 1, l, e, ha, hj => by
    unfold ahd
    have hx : a ∉ x := hj 0 (by omega) x rfl
    rw [if_neg hx, ahd_at a b t k l e ha fun j hlt m em => hj (j + 1) (by omega) m em]
    by_cases hb : b ∈ x
    · simp [hb]
    · simp [hb]
/-! ### last -/
theorem aft_last (b : Str) (s : Int) (l : List Str) (hs : s = 0 ∨ s = 1) : aft (lastR b) s l = if b ∈ l then 1 else 0 := by
  unfold lastR
  rw [aft_c, aft_c]
  unfold hasR
  simp only [List.all_cons, List.all_nil, List.any_nil, List.any_cons, Bool.and_true, Bool.or_false, Bool.not_false, Bool.and_eq_true, decide_eq_true_eq, Bool.true_and]
  by_cases hb : b ∈ l <;> rcases hs with rfl | rfl <;> simp [hb, aft]
theorem run_last (b : Str) : ∀ (t : List (List Str)) (s : Int), s = 0 ∨ s = 1 → run (lastR b) s t = match t.getLast? with
    | some l => if b ∈ l then 1 else 0
    | none => s
  | [], s, _ => rfl
  | l :: t, s, hs => by
    rw [run_cons, aft_last b s l hs, run_last b t _ (by split <;> simp)]
    cases t with
    | nil => rfl
    | cons y t => rw [List.getLast?_cons_cons]; cases h : (y :: t).getLast? with
      | none => simp at h
      | some z => rfl
theorem takes_last (b : Str) (t : List (List Str)) : decide (run ((lastR b).map nr) 0 t ∈ ascI [1]) = match t.getLast? with
    | some l => decide (b ∈ l)
    | none => false := by
  rw [Bool.eq_iff_iff, decide_eq_true_eq, mem_ascI, run_nr, List.mem_singleton, run_last b t 0 (.inl rfl)]
  cases t.getLast? with
  | none => simp
  | some l => by_cases hb : b ∈ l <;> simp [hb]

/-! ### the range of the states -/
theorem aft_in {n : Int} {rs : List Rule} (h : ∀ r ∈ rs, 0 ≤ r.two ∧ r.two < n) {s : Int} (hs : 0 ≤ s ∧ s < n) (l : List Str) : 0 ≤ aft rs s l ∧ aft rs s l < n := by
  induction rs with
  | nil => exact hs
  | cons r rs ih =>
    rw [aft_c]
    split
    · exact h r (List.mem_cons_self ..)
    · exact ih fun r hr => h r (List.mem_cons_of_mem _ hr)
theorem run_in {n : Int} {rs : List Rule} (h : ∀ r ∈ rs, 0 ≤ r.two ∧ r.two < n) : ∀ (t : List (List Str)) {s : Int}, 0 ≤ s ∧ s < n → 0 ≤ run rs s t ∧ run rs s t < n
  | [], _, hs => hs
  | l :: t, s, hs => by rw [run_cons]; exact run_in h t (aft_in h hs l)
theorem up_iff {n i : Int} : i ∈ upto n ↔ 0 ≤ i ∧ i < n := by
  unfold upto
  rw [List.mem_map]
  constructor
  · rintro ⟨k, hk, rfl⟩
    have : k < n.toNat := by simpa using hk
    omega
  · rintro ⟨h1, h2⟩
    exact ⟨i.toNat, by simp; omega, by omega⟩
theorem compl_iff {n i : Int} {g : List Int} : i ∈ compl n g ↔ (0 ≤ i ∧ i < n) ∧ i ∉ g := by
  unfold compl
  rw [List.mem_filter, up_iff]
  simp

/-! ### met -/
theorem aft_met {g : List Int} {rs : List Rule} {s : Int} {l : List Str} : aft (metR g rs) s l = if s ∈ g then s else aft rs s l := by
  induction rs with
  | nil => unfold metR; simp [aft]
  | cons r rs ih =>
    unfold metR at ih ⊢
    rw [List.filter_cons]
    by_cases hr : r.one ∈ g
    · rw [if_neg (by simp [hr]), ih]
      by_cases hs : s ∈ g
      · rw [if_pos hs, if_pos hs]
      · rw [if_neg hs, if_neg hs, aft_c]
        have : hasR r s l = false := by
          unfold hasR
          rw [decide_eq_false (fun z : r.one = s => hs (z ▸ hr))]; rfl
        rw [this]; rfl
    · rw [if_pos (by simp [hr]), aft_c, ih, aft_c]
      by_cases hs : s ∈ g
      · have : hasR r s l = false := by
          unfold hasR
          rw [decide_eq_false (fun z : r.one = s => hr (z.symm ▸ hs))]; rfl
        rw [this, if_pos hs, if_pos hs]; rfl
      · rw [if_neg hs, if_neg hs]
theorem run_met_stay {g : List Int} {rs : List Rule} : ∀ (t : List (List Str)) {s : Int}, s ∈ g → run (metR g rs) s t = s
  | [], _, _ => rfl
  | l :: t, s, h => by rw [run_cons, aft_met, if_pos h, run_met_stay t h]
theorem run_met {g : List Int} {rs : List Rule} : ∀ (t : List (List Str)) (s : Int), (run (metR g rs) s t ∈ g ↔ ∃ k, k ≤ t.length ∧ run rs s (t.take k) ∈ g)
  | [], s => by
    rw [run_nil]
    constructor
    · intro h; exact ⟨0, Nat.le_refl _, h⟩
    · rintro ⟨k, hk, h⟩; rw [List.take_nil] at h; exact h
  | l :: t, s => by
    by_cases hs : s ∈ g
    · rw [run_met_stay _ hs]
      exact ⟨fun _ => ⟨0, Nat.zero_le _, hs⟩, fun _ => hs⟩
    · rw [run_cons, aft_met, if_neg hs, run_met t]
      constructor
      · rintro ⟨k, hk, h⟩
        exact ⟨k + 1, Nat.succ_le_succ hk, by rw [List.take_succ_cons, run_cons]; exact h⟩
      · rintro ⟨k, hk, h⟩
        match k, hk, h with
        | 0, _, h => exact absurd h hs
        | k + 1, hk, h => rw [List.take_succ_cons, run_cons] at h; exact ⟨k, Nat.le_of_succ_le_succ hk, h⟩

/-! ### pairs -/
def hitT (x : List Str × List Str × Int) (lot : List Str) : Bool := x.1.all (fun y => decide (y ∈ lot)) && !(x.2.1.any fun y => decide (y ∈ lot))
theorem aft_find (rs : List Rule) (st : Int) (lot : List Str) : aft rs st lot = match rs.find? fun r => hasR r st lot with
    | some r => r.two
    | none => st := by
  induction rs with
  | nil => rfl
  | cons r rs ih =>
    rw [aft_c, List.find?_cons]
    cases hasR r st lot with
    | true => rfl
    | false => exact ih
theorem opn_find (rs : List Rule) (st : Int) (lot : List Str) : ∃ x, (opn rs st).find? (fun x => hitT x lot) = some x ∧ x.2.2 = aft rs st lot := by
  unfold opn
  induction rs with
  | nil => exact ⟨([], [], st), rfl, rfl⟩
  | cons r rs ih =>
    rw [List.filter_cons]
    by_cases hr : r.one = st
    · rw [if_pos (by simpa using hr), List.map_cons, List.cons_append, List.find?_cons, aft_c]
      have e : hasR r st lot = hitT (r.need, r.bar, r.two) lot := by
        unfold hasR hitT
        rw [decide_eq_true hr, Bool.true_and]
      rw [e]
      cases hitT (r.need, r.bar, r.two) lot with
      | true => exact ⟨_, rfl, rfl⟩
      | false => exact ih
    · rw [if_neg (by simpa using hr), aft_c]
      have e : hasR r st lot = false := by
        unfold hasR
        rw [decide_eq_false hr]; rfl
      rw [e]
      exact ih
theorem find_skip {α β : Type} {p : β → Bool} {f : α → List β} : ∀ {l : List α}, (∀ x ∈ l, (f x).find? p = none) → (l.flatMap f).find? p = none
  | [], _ => rfl
  | x :: l, h => by
    rw [List.flatMap_cons, List.find?_append, h x (List.mem_cons_self ..), find_skip fun y hy => h y (List.mem_cons_of_mem _ hy)]; rfl
theorem find_hit {α β : Type} {p : β → Bool} {f : α → List β} {q : α → Bool} {x : α} {y : β} : ∀ {l : List α}, l.find? q = some x → (∀ z, q z = false → (f z).find? p = none) → (f x).find? p = some y → (l.flatMap f).find? p = some y
  | [], e, _, _ => by cases e
  | z :: l, e, h, hy => by
    rw [List.flatMap_cons, List.find?_append]
    rw [List.find?_cons] at e
    cases hz : q z with
    | true =>
      rw [hz] at e
      cases e
      rw [hy]; rfl
    | false =>
      rw [hz] at e
      rw [h z hz, Option.none_or]
      exact find_hit e h hy
theorem code_inj {n i j i' j' : Int} (hj : 0 ≤ j ∧ j < n) (hj' : 0 ≤ j' ∧ j' < n) (e : i * n + j = i' * n + j') : i = i' ∧ j = j' := by
  have hn : 0 < n := by omega
  have h1 : (i * n + j) / n = i := by
    rw [Int.add_comm, Int.add_mul_ediv_right _ _ (by omega), Int.ediv_eq_zero_of_lt hj.1 hj.2, Int.zero_add]
  have h2 : (i' * n + j') / n = i' := by
    rw [Int.add_comm, Int.add_mul_ediv_right _ _ (by omega), Int.ediv_eq_zero_of_lt hj'.1 hj'.2, Int.zero_add]
  have : i = i' := by rw [← h1, ← h2, e]
  subst this
  exact ⟨rfl, by omega⟩
theorem has_pair {n2 i j i' j' : Int} {x y : List Str × List Str × Int} {lot : List Str} (hj : 0 ≤ j ∧ j < n2) (hj' : 0 ≤ j' ∧ j' < n2) :
    hasR ⟨i' * n2 + j', x.1 ++ y.1, x.2.1 ++ y.2.1, x.2.2 * n2 + y.2.2⟩ (i * n2 + j) lot = (decide (i' = i) && decide (j' = j) && hitT x lot && hitT y lot) := by
  have e : decide (i' * n2 + j' = i * n2 + j) = (decide (i' = i) && decide (j' = j)) := by
    by_cases h : i' * n2 + j' = i * n2 + j
    · obtain ⟨rfl, rfl⟩ := code_inj hj' hj h
      simp
    · rw [decide_eq_false h]
      by_cases hi : i' = i
      · by_cases hjj : j' = j
        · exact absurd (by rw [hi, hjj]) h
        · simp [hjj]
      · simp [hi]
  unfold hasR hitT
  simp only [e, List.all_append, List.any_append, Bool.not_or]
  generalize decide (i' = i) = a1
  generalize decide (j' = j) = a2
  generalize (x.1.all fun y => decide (y ∈ lot)) = a3
  generalize (y.1.all fun y => decide (y ∈ lot)) = a4
  generalize (x.2.1.any fun y => decide (y ∈ lot)) = a5
  generalize (y.2.1.any fun y => decide (y ∈ lot)) = a6
  cases a1 <;> cases a2 <;> cases a3 <;> cases a4 <;> cases a5 <;> cases a6 <;> rfl
theorem find_up {n i : Int} (h : 0 ≤ i ∧ i < n) : (upto n).find? (fun k => decide (k = i)) = some i := by
  cases e : (upto n).find? (fun k => decide (k = i)) with
  | none => have := List.find?_eq_none.mp e i (up_iff.mpr h); simp at this
  | some k => have := List.find?_some e; simp at this; rw [this]
theorem aft_pair {n1 n2 i j : Int} {r1 r2 : List Rule} {lot : List Str} (hi : 0 ≤ i ∧ i < n1) (hj : 0 ≤ j ∧ j < n2) : aft (pairR n1 n2 r1 r2) (i * n2 + j) lot = aft r1 i lot * n2 + aft r2 j lot := by
  obtain ⟨x, ex, hx⟩ := opn_find r1 i lot
  obtain ⟨y, ey, hy⟩ := opn_find r2 j lot
  have hitx : hitT x lot = true := List.find?_some (p := fun x => hitT x lot) ex
  have hity : hitT y lot = true := List.find?_some (p := fun x => hitT x lot) ey
  have key : (pairR n1 n2 r1 r2).find? (fun r => hasR r (i * n2 + j) lot) = some ⟨i * n2 + j, x.1 ++ y.1, x.2.1 ++ y.2.1, x.2.2 * n2 + y.2.2⟩ := by
    unfold pairR
    refine find_hit (find_up hi) (fun i' hi' => ?_) ?_
    · have hi' : i' ≠ i := by simpa using hi'
      refine find_skip fun j' hj' => find_skip fun x' _ => ?_
      rw [List.find?_eq_none]
      intro r hr
      obtain ⟨y', _, rfl⟩ := List.mem_map.mp hr
      rw [has_pair hj (up_iff.mp hj'), decide_eq_false hi']; simp
    · have s1 : ((opn r1 i).flatMap fun x => (opn r2 j).map fun y => (⟨i * n2 + j, x.1 ++ y.1, x.2.1 ++ y.2.1, x.2.2 * n2 + y.2.2⟩ : Rule)).find? (fun r => hasR r (i * n2 + j) lot) = some ⟨i * n2 + j, x.1 ++ y.1, x.2.1 ++ y.2.1, x.2.2 * n2 + y.2.2⟩ := by
        refine find_hit ex (fun x' hx' => ?_) ?_
        · rw [List.find?_eq_none]
          intro r hr
          obtain ⟨y', _, rfl⟩ := List.mem_map.mp hr
          rw [has_pair hj hj, hx']; simp
        · rw [List.find?_map]
          have : (fun r => hasR r (i * n2 + j) lot) ∘ (fun y => (⟨i * n2 + j, x.1 ++ y.1, x.2.1 ++ y.2.1, x.2.2 * n2 + y.2.2⟩ : Rule)) = fun y => hitT y lot := by
            funext y'
            show hasR _ _ _ = _
            rw [has_pair hj hj, hitx]; simp
          rw [this, ey]; rfl
      have sk : ∀ m : List Int, (∀ j' ∈ m, 0 ≤ j' ∧ j' < n2) → j ∈ m → (m.flatMap fun j' => (opn r1 i).flatMap fun x => (opn r2 j').map fun y => (⟨i * n2 + j', x.1 ++ y.1, x.2.1 ++ y.2.1, x.2.2 * n2 + y.2.2⟩ : Rule)).find? (fun r => hasR r (i * n2 + j) lot) = some ⟨i * n2 + j, x.1 ++ y.1, x.2.1 ++ y.2.1, x.2.2 * n2 + y.2.2⟩ := by
        intro m
        induction m with
        | nil => intro _ h; cases h
        | cons j' m ih =>
          intro hm hjm
          rw [List.flatMap_cons, List.find?_append]
          by_cases hjj : j' = j
          · rw [hjj, s1]; rfl
          · have : ((opn r1 i).flatMap fun x => (opn r2 j').map fun y => (⟨i * n2 + j', x.1 ++ y.1, x.2.1 ++ y.2.1, x.2.2 * n2 + y.2.2⟩ : Rule)).find? (fun r => hasR r (i * n2 + j) lot) = none := by
              refine find_skip fun x' _ => ?_
              rw [List.find?_eq_none]
              intro r hr
              obtain ⟨y', _, rfl⟩ := List.mem_map.mp hr
              rw [has_pair hj (hm j' (List.mem_cons_self ..)), decide_eq_false hjj]; simp
            rw [this, Option.none_or]
            refine ih (fun k hk => hm k (List.mem_cons_of_mem _ hk)) ?_
            rcases List.mem_cons.mp hjm with e | e
            · exact absurd e.symm hjj
            · exact e
      exact sk (upto n2) (fun j' hj' => up_iff.mp hj') (up_iff.mpr hj)
  rw [aft_find, key, hx, hy]
theorem run_pair {n1 n2 : Int} {r1 r2 : List Rule} (h1 : ∀ r ∈ r1, 0 ≤ r.two ∧ r.two < n1) (h2 : ∀ r ∈ r2, 0 ≤ r.two ∧ r.two < n2) : ∀ (t : List (List Str)) {i j : Int}, 0 ≤ i ∧ i < n1 → 0 ≤ j ∧ j < n2 → run (pairR n1 n2 r1 r2) (i * n2 + j) t = run r1 i t * n2 + run r2 j t
  | [], _, _, _, _ => rfl
  | l :: t, i, j, hi, hj => by
    rw [run_cons, run_cons, run_cons, aft_pair hi hj]
    exact run_pair h1 h2 t (aft_in h1 hi l) (aft_in h2 hj l)
end K50

/-! k50: the readings of the defs. -/
namespace K50
open PySem PySem.Spec L2 T3
open PyProof.Rows hiding St

theorem len_is_integer (C : Addr) : ∀ ds h R, fs_is_integer C ds h R → ds.length = (["value"] : List Str).length := by
  rintro ds h R ⟨i, rfl, q⟩
  rfl
theorem rd_is_integer (C : Addr) : ∀ ds h R, fs_is_integer C ds h R → t_is_integer C (fnEnds R) (startD N_is_integer ds) h := by
  rintro ds h R ⟨i, rfl, q⟩
  simp only [t_is_integer, N_is_integer, T3.tRet, T3.tRetN, T3.tSeq, T3.tNext, T3.tAsg, T3.gName, T3.gTupN, T3.gList, T3.tVar, T3.tC, T3.tOp, T3.tNotV, T3.tAndV, T3.tOrV, T3.tB, T3.tAnd, T3.tOr, T3.tNot, T3.tIf, T3.tIfS, T3.tCall, T3.tCB, T3.tCons, T3.tNil, T3.tIsi, T3.isR, T3.isR2, T3.isRC, T3.tyOf, T3.ordR, T3.intR, T3.addR, T3.addM, T3.ixR, T3.lenR, T3.absR, T3.intR1, T3.tChain, T3.tTup, T3.tLst, T3.tLstM, T3.tNever, T3.tDrop, T3.tBM, T3.isTy, T3.appR, T3.extR, T3.popR, T3.tFld, T3.insOf, T3.tMeth, T3.tMake, T3.sFld, T3.tYes, T3.iAny, T3.tFor, T3.iRng1, T3.iRng2, T3.iEnum, T3.tLc, T3.tLcM, T3.tLc2, T3.wipeD, T3.seqOf, T3.lstOf, T3.slOf, T3.itOf, T3.tupR, T3.listR, T3.tAsc, T3.allR, T3.sortR, T3.tSl, T3.tNoPart, T3.tPart, T3.slR, T3.gSub, T3.tRevD, T3.tBreak, T3.tCont, T3.tFrz, T3.startD, T3.fnEnds, T3.tab_ii, T3.tab_ib, T3.tab_ss, T3.tab_ll, T3.tab_lt, T3.tab_tl, T3.tab_tt, Bool.or_true, Bool.true_or, eq_self, List.map_cons, List.map_nil, List.length_cons, List.length_nil, List.cons_append, List.nil_append, List.getElem?_cons_zero, List.getElem?_cons_succ, List.getElem?_nil, List.set_cons_zero, List.set_cons_succ, List.replicate, Nat.sub_self, Nat.reduceAdd, Nat.reduceSub, ite_true, ite_false, if_true, if_false, Bool.not_true, Bool.not_false, reduceCtorEq, Bool.false_eq_true, ↓reduceIte, true_and, and_true]
  exact out_as q
theorem len_is_number (C : Addr) : ∀ ds h R, fs_is_number C ds h R → ds.length = (["value"] : List Str).length := by
  rintro ds h R ⟨i, rfl, q⟩
  rfl
theorem rd_is_number (C : Addr) : ∀ ds h R, fs_is_number C ds h R → t_is_number C (fnEnds R) (startD N_is_number ds) h := by
  rintro ds h R ⟨i, rfl, q⟩
  simp only [t_is_number, N_is_number, T3.tRet, T3.tRetN, T3.tSeq, T3.tNext, T3.tAsg, T3.gName, T3.gTupN, T3.gList, T3.tVar, T3.tC, T3.tOp, T3.tNotV, T3.tAndV, T3.tOrV, T3.tB, T3.tAnd, T3.tOr, T3.tNot, T3.tIf, T3.tIfS, T3.tCall, T3.tCB, T3.tCons, T3.tNil, T3.tIsi, T3.isR, T3.isR2, T3.isRC, T3.tyOf, T3.ordR, T3.intR, T3.addR, T3.addM, T3.ixR, T3.lenR, T3.absR, T3.intR1, T3.tChain, T3.tTup, T3.tLst, T3.tLstM, T3.tNever, T3.tDrop, T3.tBM, T3.isTy, T3.appR, T3.extR, T3.popR, T3.tFld, T3.insOf, T3.tMeth, T3.tMake, T3.sFld, T3.tYes, T3.iAny, T3.tFor, T3.iRng1, T3.iRng2, T3.iEnum, T3.tLc, T3.tLcM, T3.tLc2, T3.wipeD, T3.seqOf, T3.lstOf, T3.slOf, T3.itOf, T3.tupR, T3.listR, T3.tAsc, T3.allR, T3.sortR, T3.tSl, T3.tNoPart, T3.tPart, T3.slR, T3.gSub, T3.tRevD, T3.tBreak, T3.tCont, T3.tFrz, T3.startD, T3.fnEnds, T3.tab_ii, T3.tab_ib, T3.tab_ss, T3.tab_ll, T3.tab_lt, T3.tab_tl, T3.tab_tt, Bool.or_true, Bool.true_or, eq_self, List.map_cons, List.map_nil, List.length_cons, List.length_nil, List.cons_append, List.nil_append, List.getElem?_cons_zero, List.getElem?_cons_succ, List.getElem?_nil, List.set_cons_zero, List.set_cons_succ, List.replicate, Nat.sub_self, Nat.reduceAdd, Nat.reduceSub, ite_true, ite_false, if_true, if_false, Bool.not_true, Bool.not_false, reduceCtorEq, Bool.false_eq_true, ↓reduceIte, true_and, and_true]
  refine ⟨_, rfl, ?_⟩
  simp only [T3.nat_ofNat, decide_true, Bool.not_true, Bool.not_false, Bool.false_eq_true, eq_self, ↓reduceIte, true_and, and_true]
  exact out_as q
theorem len_is_text (C : Addr) : ∀ ds h R, fs_is_text C ds h R → ds.length = (["value"] : List Str).length := by
  rintro ds h R ⟨i, rfl, q⟩
  rfl
theorem rd_is_text (C : Addr) : ∀ ds h R, fs_is_text C ds h R → t_is_text C (fnEnds R) (startD N_is_text ds) h := by
  rintro ds h R ⟨i, rfl, q⟩
  simp only [t_is_text, N_is_text, T3.tRet, T3.tRetN, T3.tSeq, T3.tNext, T3.tAsg, T3.gName, T3.gTupN, T3.gList, T3.tVar, T3.tC, T3.tOp, T3.tNotV, T3.tAndV, T3.tOrV, T3.tB, T3.tAnd, T3.tOr, T3.tNot, T3.tIf, T3.tIfS, T3.tCall, T3.tCB, T3.tCons, T3.tNil, T3.tIsi, T3.isR, T3.isR2, T3.isRC, T3.tyOf, T3.ordR, T3.intR, T3.addR, T3.addM, T3.ixR, T3.lenR, T3.absR, T3.intR1, T3.tChain, T3.tTup, T3.tLst, T3.tLstM, T3.tNever, T3.tDrop, T3.tBM, T3.isTy, T3.appR, T3.extR, T3.popR, T3.tFld, T3.insOf, T3.tMeth, T3.tMake, T3.sFld, T3.tYes, T3.iAny, T3.tFor, T3.iRng1, T3.iRng2, T3.iEnum, T3.tLc, T3.tLcM, T3.tLc2, T3.wipeD, T3.seqOf, T3.lstOf, T3.slOf, T3.itOf, T3.tupR, T3.listR, T3.tAsc, T3.allR, T3.sortR, T3.tSl, T3.tNoPart, T3.tPart, T3.slR, T3.gSub, T3.tRevD, T3.tBreak, T3.tCont, T3.tFrz, T3.startD, T3.fnEnds, T3.tab_ii, T3.tab_ib, T3.tab_ss, T3.tab_ll, T3.tab_lt, T3.tab_tl, T3.tab_tt, Bool.or_true, Bool.true_or, eq_self, List.map_cons, List.map_nil, List.length_cons, List.length_nil, List.cons_append, List.nil_append, List.getElem?_cons_zero, List.getElem?_cons_succ, List.getElem?_nil, List.set_cons_zero, List.set_cons_succ, List.replicate, Nat.sub_self, Nat.reduceAdd, Nat.reduceSub, ite_true, ite_false, if_true, if_false, Bool.not_true, Bool.not_false, reduceCtorEq, Bool.false_eq_true, ↓reduceIte, true_and, and_true]
  exact out_as q
theorem len_is_sequence (C : Addr) : ∀ ds h R, fs_is_sequence C ds h R → ds.length = (["value"] : List Str).length := by
  rintro ds h R ⟨i, rfl, q⟩
  rfl
theorem rd_is_sequence (C : Addr) : ∀ ds h R, fs_is_sequence C ds h R → t_is_sequence C (fnEnds R) (startD N_is_sequence ds) h := by
  rintro ds h R ⟨x, rfl, q1, q⟩
  obtain ⟨l, el⟩ := Option.isSome_iff_exists.mp q1
  simp only [t_is_sequence, N_is_sequence, T3.tRet, tIsi, isR2, T3.tVar, startD, List.map_cons, List.map_nil, List.cons_append, List.getElem?_cons_zero]
  rcases tyOf_seq el with e | e
  · rw [e]
    simp only [tab_ll, Bool.true_or]
    exact out_as q
  · rw [e]
    simp only [tab_tt, Bool.or_true]
    exact out_as q
theorem len_is_name (C : Addr) : ∀ ds h R, fs_is_name C ds h R → ds.length = (["value"] : List Str).length := by
  rintro ds h R ⟨i, rfl, _, q⟩
  rfl
theorem nameOk_iff {x : Str} (h : nameOk x = true) : 1 ≤ x.length ∧ x.length ≤ 8 ∧ ∀ c ∈ x.cps.toList, c ∈ LET.cps.toList := by
  unfold nameOk at h
  rw [Bool.and_eq_true, Bool.and_eq_true, decide_eq_true_eq, decide_eq_true_eq, List.all_eq_true] at h
  exact ⟨h.1.1, h.1.2, fun c hc => by simpa using h.2 c hc⟩
theorem nameOk_str {x : Str} (h : nameOk x = true) : PyData.strOk x = true := by
  have h3 := (nameOk_iff h).2.2
  unfold PyData.strOk
  rw [← Array.all_toList, List.all_eq_true]
  intro c hc
  have := h3 c hc
  have all : ∀ c ∈ LET.cps.toList, c < 0x110000 := by decide +kernel
  exact decide_eq_true (all c this)
theorem rd_is_name (C : Addr) : ∀ ds h R, fs_is_name C ds h R → t_is_name C (fnEnds R) (startD N_is_name ds) h := by
  rintro ds h R ⟨x, rfl, hx, q⟩
  obtain ⟨h1, h8, hc⟩ := nameOk_iff hx
  simp only [t_is_name, N_is_name, T3.tRet, T3.tRetN, T3.tSeq, T3.tNext, T3.tAsg, T3.gName, T3.gTupN, T3.gList, T3.tVar, T3.tC, T3.tOp, T3.tNotV, T3.tAndV, T3.tOrV, T3.tB, T3.tAnd, T3.tOr, T3.tNot, T3.tIf, T3.tIfS, T3.tCall, T3.tCB, T3.tCons, T3.tNil, T3.tIsi, T3.isR, T3.isR2, T3.isRC, T3.tyOf, T3.ordR, T3.intR, T3.addR, T3.addM, T3.ixR, T3.lenR, T3.absR, T3.intR1, T3.tChain, T3.tTup, T3.tLst, T3.tLstM, T3.tNever, T3.tDrop, T3.tBM, T3.isTy, T3.appR, T3.extR, T3.popR, T3.tFld, T3.insOf, T3.tMeth, T3.tMake, T3.sFld, T3.tYes, T3.iAny, T3.tFor, T3.iRng1, T3.iRng2, T3.iEnum, T3.tLc, T3.tLcM, T3.tLc2, T3.wipeD, T3.seqOf, T3.lstOf, T3.slOf, T3.itOf, T3.tupR, T3.listR, T3.tAsc, T3.allR, T3.sortR, T3.tSl, T3.tNoPart, T3.tPart, T3.slR, T3.gSub, T3.tRevD, T3.tBreak, T3.tCont, T3.tFrz, T3.startD, T3.fnEnds, T3.tab_ii, T3.tab_ib, T3.tab_ss, T3.tab_ll, T3.tab_lt, T3.tab_tl, T3.tab_tt, Bool.or_true, Bool.true_or, eq_self, List.map_cons, List.map_nil, List.length_cons, List.length_nil, List.cons_append, List.nil_append, List.getElem?_cons_zero, List.getElem?_cons_succ, List.getElem?_nil, List.set_cons_zero, List.set_cons_succ, List.replicate, Nat.sub_self, Nat.reduceAdd, Nat.reduceSub, ite_true, ite_false, if_true, if_false, Bool.not_true, Bool.not_false, reduceCtorEq, Bool.false_eq_true, ↓reduceIte, true_and, and_true]
  refine ⟨_, rfl, ?_⟩
  have e1 : decide ((1 : Int) ≤ (x.length : Int)) = true := decide_eq_true (by omega)
  have e8 : decide ((x.length : Int) ≤ (8 : Int)) = true := decide_eq_true (by omega)
  simp only [T3.nat_ofNat, decide_true, Bool.not_true, Bool.not_false, Bool.false_eq_true, eq_self, ↓reduceIte, true_and, and_true, e1, e8]
  have hz : x.cps.toList.length = x.length := by simp [Str.length]
  refine ⟨sl65' (by omega), ?_⟩
  refine lcL_map (acc := []) (fun _ => .bl true) trivial _ (fun d hd G q' => ?_) ?_ ?_ gName_mono
  · obtain ⟨c, hcm, rfl⟩ := List.mem_map.mp hd
    simp only [g0_is_name, e1_is_name, T3.inR, T3.tRet, T3.tRetN, T3.tSeq, T3.tNext, T3.tAsg, T3.gName, T3.gTupN, T3.gList, T3.tVar, T3.tC, T3.tOp, T3.tNotV, T3.tAndV, T3.tOrV, T3.tB, T3.tAnd, T3.tOr, T3.tNot, T3.tIf, T3.tIfS, T3.tCall, T3.tCB, T3.tCons, T3.tNil, T3.tIsi, T3.isR, T3.isR2, T3.isRC, T3.tyOf, T3.ordR, T3.intR, T3.addR, T3.addM, T3.ixR, T3.lenR, T3.absR, T3.intR1, T3.tChain, T3.tTup, T3.tLst, T3.tLstM, T3.tNever, T3.tDrop, T3.tBM, T3.isTy, T3.appR, T3.extR, T3.popR, T3.tFld, T3.insOf, T3.tMeth, T3.tMake, T3.sFld, T3.tYes, T3.iAny, T3.tFor, T3.iRng1, T3.iRng2, T3.iEnum, T3.tLc, T3.tLcM, T3.tLc2, T3.wipeD, T3.seqOf, T3.lstOf, T3.slOf, T3.itOf, T3.tupR, T3.listR, T3.tAsc, T3.allR, T3.sortR, T3.tSl, T3.tNoPart, T3.tPart, T3.slR, T3.gSub, T3.tRevD, T3.tBreak, T3.tCont, T3.tFrz, T3.startD, T3.fnEnds, T3.tab_ii, T3.tab_ib, T3.tab_ss, T3.tab_ll, T3.tab_lt, T3.tab_tl, T3.tab_tt, Bool.or_true, Bool.true_or, eq_self, List.map_cons, List.map_nil, List.length_cons, List.length_nil, List.cons_append, List.nil_append, List.getElem?_cons_zero, List.getElem?_cons_succ, List.getElem?_nil, List.set_cons_zero, List.set_cons_succ, List.replicate, Nat.sub_self, Nat.reduceAdd, Nat.reduceSub, ite_true, ite_false, if_true, if_false, Bool.not_true, Bool.not_false, reduceCtorEq, Bool.false_eq_true, ↓reduceIte, true_and, and_true]
    have : decide (c ∈ LET.cps.toList) = true := decide_eq_true (hc c hcm)
    show G (.bl (false ^^ decide (c ∈ LET.cps.toList))) h
    rw [this]; exact q'
  · rw [List.length_map, hz, List.length_nil]; exact sl65' (by omega)
  · simp only [List.nil_append]
    rw [show (List.map (fun _ => D.bl true) (List.map (fun c => D.str { cps := #[c] }) x.cps.toList)) = (List.map (fun c => D.str { cps := #[c] }) x.cps.toList).map (fun d => D.bl ((fun _ => true) d)) from rfl, all_bls]
    have : (List.map (fun (_ : D) => true) (List.map (fun c => D.str { cps := #[c] }) x.cps.toList)).all (fun b => b) = true := by
      rw [List.all_map]; exact List.all_eq_true.mpr fun _ _ => rfl
    simp only [this]
    exact out_as q
theorem len_ascending_names (C : Addr) : ∀ ds h R, fs_ascending_names C ds h R → ds.length = (["things"] : List Str).length := by
  rintro ds h R ⟨i, _, _, rfl, _⟩
  rfl
theorem rd_ascending_names (C : Addr) : ∀ ds h R, fs_ascending_names C ds h R → t_ascending_names C (fnEnds R) (startD N_ascending_names ds) h := by
  rintro ds h R ⟨x, l, ks, rfl, el, ek, k1, k2, k3, q⟩
  simp only [t_ascending_names, N_ascending_names, T3.tRet, T3.tCB, T3.tCons, T3.tNil, tAsc, T3.tVar, startD, List.map_cons, List.map_nil, List.cons_append, List.getElem?_cons_zero]
  rw [el]
  simp only [ek]
  refine ⟨⟨k1, k2, by unfold scanBound; omega⟩, ?_⟩
  simp only [tupR, seqOf]
  exact out_as q
theorem len_is_state (C : Addr) : ∀ ds h R, fs_is_state C ds h R → ds.length = (["value", "states"] : List Str).length := by
  rintro ds h R ⟨i, n, rfl, _, q⟩
  rfl
theorem rd_is_state (C : Addr) : ∀ ds h R, fs_is_state C ds h R → t_is_state C (fnEnds R) (startD N_is_state ds) h := by
  rintro ds h R ⟨i, n, rfl, h1, h2, q⟩
  simp only [t_is_state, N_is_state, T3.tRet, T3.tRetN, T3.tSeq, T3.tNext, T3.tAsg, T3.gName, T3.gTupN, T3.gList, T3.tVar, T3.tC, T3.tOp, T3.tNotV, T3.tAndV, T3.tOrV, T3.tB, T3.tAnd, T3.tOr, T3.tNot, T3.tIf, T3.tIfS, T3.tCall, T3.tCB, T3.tCons, T3.tNil, T3.tIsi, T3.isR, T3.isR2, T3.isRC, T3.tyOf, T3.ordR, T3.intR, T3.addR, T3.addM, T3.ixR, T3.lenR, T3.absR, T3.intR1, T3.tChain, T3.tTup, T3.tLst, T3.tLstM, T3.tNever, T3.tDrop, T3.tBM, T3.isTy, T3.appR, T3.extR, T3.popR, T3.tFld, T3.insOf, T3.tMeth, T3.tMake, T3.sFld, T3.tYes, T3.iAny, T3.tFor, T3.iRng1, T3.iRng2, T3.iEnum, T3.tLc, T3.tLcM, T3.tLc2, T3.wipeD, T3.seqOf, T3.lstOf, T3.slOf, T3.itOf, T3.tupR, T3.listR, T3.tAsc, T3.allR, T3.sortR, T3.tSl, T3.tNoPart, T3.tPart, T3.slR, T3.gSub, T3.tRevD, T3.tBreak, T3.tCont, T3.tFrz, T3.startD, T3.fnEnds, T3.tab_ii, T3.tab_ib, T3.tab_ss, T3.tab_ll, T3.tab_lt, T3.tab_tl, T3.tab_tt, Bool.or_true, Bool.true_or, eq_self, List.map_cons, List.map_nil, List.length_cons, List.length_nil, List.cons_append, List.nil_append, List.getElem?_cons_zero, List.getElem?_cons_succ, List.getElem?_nil, List.set_cons_zero, List.set_cons_succ, List.replicate, Nat.sub_self, Nat.reduceAdd, Nat.reduceSub, ite_true, ite_false, if_true, if_false, Bool.not_true, Bool.not_false, reduceCtorEq, Bool.false_eq_true, ↓reduceIte, true_and, and_true]
  refine ⟨_, rfl, ?_⟩
  rw [decide_eq_true h1, decide_eq_true h2]
  simp only [T3.nat_ofNat, decide_true, Bool.not_true, Bool.not_false, Bool.false_eq_true, eq_self, ↓reduceIte, true_and, and_true]
  exact out_as q
theorem len_are_names (C : Addr) : ∀ ds h R, fs_are_names C ds h R → ds.length = (["value"] : List Str).length := by
  rintro ds h R ⟨i, _, rfl, _⟩
  rfl
theorem rd_are_names (C : Addr) : ∀ ds h R, fs_are_names C ds h R → t_are_names C (fnEnds R) (startD N_are_names ds) h := by
  rintro ds h R ⟨x, l, rfl, el, hl, hn, q⟩
  simp only [t_are_names, N_are_names, T3.tRet, T3.tAndV, T3.tCall, T3.tCB, T3.tLc, T3.iAny, T3.tCons, T3.tNil, T3.tVar, startD, wipeD, List.length_cons, List.length_nil, Nat.reduceAdd, Nat.reduceSub, List.replicate, List.map_cons, List.map_nil, List.cons_append, List.nil_append, List.getElem?_cons_zero, List.set_cons_zero, List.set_cons_succ]
  refine ⟨_, rfl, by rw [el]; rfl, ?_⟩
  simp only [T3.nat_ofNat, decide_true, Bool.not_true, Bool.not_false, Bool.false_eq_true, eq_self, ↓reduceIte, true_and, and_true, itOf_seq el]
  refine lcL_map (acc := []) (fun _ => .bl true) (itOf_seq el) _ (fun d hd G q' => ?_) (by simp only [namesD, List.length_map, List.length_nil]; exact sl65' (by omega)) ?_ gName_mono
  · obtain ⟨c, hcm, rfl⟩ := List.mem_map.mp hd
    simp only [g0_are_names, e1_are_names, T3.tRet, T3.tRetN, T3.tSeq, T3.tNext, T3.tAsg, T3.gName, T3.gTupN, T3.gList, T3.tVar, T3.tC, T3.tOp, T3.tNotV, T3.tAndV, T3.tOrV, T3.tB, T3.tAnd, T3.tOr, T3.tNot, T3.tIf, T3.tIfS, T3.tCall, T3.tCB, T3.tCons, T3.tNil, T3.tIsi, T3.isR, T3.isR2, T3.isRC, T3.tyOf, T3.ordR, T3.intR, T3.addR, T3.addM, T3.ixR, T3.lenR, T3.absR, T3.intR1, T3.tChain, T3.tTup, T3.tLst, T3.tLstM, T3.tNever, T3.tDrop, T3.tBM, T3.isTy, T3.appR, T3.extR, T3.popR, T3.tFld, T3.insOf, T3.tMeth, T3.tMake, T3.sFld, T3.tYes, T3.iAny, T3.tFor, T3.iRng1, T3.iRng2, T3.iEnum, T3.tLc, T3.tLcM, T3.tLc2, T3.wipeD, T3.seqOf, T3.lstOf, T3.slOf, T3.itOf, T3.tupR, T3.listR, T3.tAsc, T3.allR, T3.sortR, T3.tSl, T3.tNoPart, T3.tPart, T3.slR, T3.gSub, T3.tRevD, T3.tBreak, T3.tCont, T3.tFrz, T3.startD, T3.fnEnds, T3.tab_ii, T3.tab_ib, T3.tab_ss, T3.tab_ll, T3.tab_lt, T3.tab_tl, T3.tab_tt, Bool.or_true, Bool.true_or, eq_self, List.map_cons, List.map_nil, List.length_cons, List.length_nil, List.cons_append, List.nil_append, List.getElem?_cons_zero, List.getElem?_cons_succ, List.getElem?_nil, List.set_cons_zero, List.set_cons_succ, List.replicate, Nat.sub_self, Nat.reduceAdd, Nat.reduceSub, ite_true, ite_false, if_true, if_false, Bool.not_true, Bool.not_false, reduceCtorEq, Bool.false_eq_true, ↓reduceIte, true_and, and_true]
    exact ⟨_, rfl, hn c hcm, q'⟩
  · simp only [List.nil_append, allR, slOf]
    rw [show (List.map (fun _ => D.bl true) (namesD l)) = (namesD l).map (fun d => D.bl ((fun _ => true) d)) from rfl, all_bls]
    have : (List.map (fun (_ : D) => true) (namesD l)).all (fun b => b) = true := by
      rw [List.all_map]; exact List.all_eq_true.mpr fun _ _ => rfl
    simp only [this]
    exact out_as q
theorem len_is_step (C : Addr) : ∀ ds h R, fs_is_step C ds h R → ds.length = (["value", "states"] : List Str).length := by
  rintro ds h R ⟨i, _, _, rfl, _⟩
  rfl
theorem rd_is_step (C : Addr) : ∀ ds h R, fs_is_step C ds h R → t_is_step C (fnEnds R) (startD N_is_step ds) h := by
  rintro ds h R ⟨x, n, r, rfl, ⟨y, z, ex, ey, ez⟩, ok, q⟩
  obtain ⟨o1, o2, o3, o4, o5, o6⟩ := ok
  simp only [t_is_step, N_is_step, T3.tRet, T3.tSeq, T3.tIfS, T3.tOr, T3.tNot, T3.tB, T3.tOp, T3.tAndV, T3.tCall, T3.tCB, T3.tCons, T3.tNil, T3.tVar, T3.tC, startD, List.length_cons, List.length_nil, Nat.reduceAdd, Nat.reduceSub, List.replicate, List.map_cons, List.map_nil, List.cons_append, List.nil_append, List.getElem?_cons_zero, List.getElem?_cons_succ, List.set_cons_zero, List.set_cons_succ]
  refine ⟨_, rfl, by rw [ex]; rfl, ?_⟩
  simp only [T3.nat_ofNat, decide_true, Bool.not_true, Bool.not_false, Bool.false_eq_true, eq_self, ↓reduceIte, true_and, and_true]
  refine lenR_seq ex ?_
  simp only [neR, resD, okD, eqD_int, List.length_cons, List.length_nil, Nat.reduceAdd, T3.nat_ofNat, decide_true, Bool.not_true, Bool.not_false, Bool.false_eq_true, eq_self, ↓reduceIte, true_and, and_true, T3.tNext, T3.tSeq, T3.tIfS, T3.tOr, T3.tNot, T3.tB, T3.tOp, T3.tCall, T3.tCons, T3.tNil, T3.tVar, T3.tC, List.getElem?_cons_zero, List.getElem?_cons_succ]
  refine ixR_seq ex (i := 0) rfl ?_
  refine ⟨_, _, rfl, o1.1, o1.2, ?_⟩
  simp only [T3.nat_ofNat, decide_true, Bool.not_true, Bool.not_false, Bool.false_eq_true, eq_self, ↓reduceIte, true_and, and_true]
  refine ixR_seq ex (i := 3) rfl ?_
  refine ⟨_, _, rfl, o2.1, o2.2, ?_⟩
  simp only [T3.nat_ofNat, decide_true, Bool.not_true, Bool.not_false, Bool.false_eq_true, eq_self, ↓reduceIte, true_and, and_true, T3.tNext, T3.tRet, T3.tAndV, T3.tOp, T3.tCall, T3.tCons, T3.tNil, T3.tVar, T3.tC, List.getElem?_cons_zero, List.getElem?_cons_succ]
  refine ixR_seq ex (i := 1) rfl ?_
  refine ⟨_, _, rfl, ey, by omega, o3, ?_⟩
  simp only [T3.nat_ofNat, decide_true, Bool.not_true, Bool.not_false, Bool.false_eq_true, eq_self, ↓reduceIte, true_and, and_true]
  refine ixR_seq ex (i := 2) rfl ?_
  exact ⟨_, _, rfl, ez, by omega, o4, out_as q⟩
end K50

/-! k50: the readings of the defs. -/
namespace K50
open PySem PySem.Spec L2 T3
open PyProof.Rows hiding St

theorem len_Wish_init (C : Addr) : ∀ ds h R, fs_Wish_init C ds h R → ds.length = (["self", "states", "good", "steps"] : List Str).length := by
  rintro ds h R ⟨p, n, g, st, good, rs, sl, rfl, q⟩
  rfl
theorem steps_ud {h : AH} {p : Addr} {o : O} (hp : ∀ m, h p ≠ some (.lst m)) {d : D} {r : Rule} (e : stepIs h d r) : stepIs (ud h p o) d r := by
  obtain ⟨y, z, a, b, c⟩ := e
  exact ⟨y, z, seqOf_ud hp a, seqOf_ud hp b, seqOf_ud hp c⟩
theorem stepsAre_ud {h : AH} {p : Addr} {o : O} (hp : ∀ m, h p ≠ some (.lst m)) : ∀ {sl : List D} {rs : List Rule}, stepsAre h sl rs → stepsAre (ud h p o) sl rs
  | [], [], _ => trivial
  | [], _ :: _, q => q.elim
  | _ :: _, [], q => q.elim
  | _ :: _, _ :: _, q => ⟨steps_ud hp q.1, stepsAre_ud hp q.2⟩
theorem stepsAre_len {h : AH} : ∀ {sl : List D} {rs : List Rule}, stepsAre h sl rs → sl.length = rs.length
  | [], [], _ => rfl
  | [], _ :: _, q => q.elim
  | _ :: _, [], q => q.elim
  | _ :: _, _ :: _, q => congrArg Nat.succ (stepsAre_len q.2)
theorem tup_names {l : List Str} : (ascK (l.map Sum.inr)).map kD = namesD (ascS l) := ascK_S l
theorem asc_names {C : Addr} {y : D} {l : List Str} {h : AH} {R : QD} (e : seqOf h y = some (namesD l)) (hl : l.length ≤ 1000) (hn : ∀ x ∈ l, nameOk x = true) (q : R (.tup (namesD (ascS l))) h) : fs_ascending_names C [y] h R :=
  ⟨y, _, _, rfl, e, keys_strs l, oneKind_S l, keyOk_S fun x hx => nameOk_str (hn x hx), by rw [List.length_map]; exact hl, by rw [ascK_S]; exact q⟩
theorem asc_ints {C : Addr} {y : D} {l : List Int} {h : AH} {R : QD} (e : seqOf h y = some (l.map .int)) (hl : l.length ≤ 1000) (q : R (.tup ((ascI l).map .int)) h) : fs_ascending_names C [y] h R :=
  ⟨y, _, _, rfl, e, keys_ints l, oneKind_I l, keyOk_I l, by rw [List.length_map]; exact hl, by rw [ascK_I]; exact q⟩
theorem put1 (a : D) : putD "states" a [] = [(("states" : Str), a)] := rfl
theorem put2 (a b : D) : putD "good" b [(("states" : Str), a)] = [(("states" : Str), a), (("good" : Str), b)] := by
  have h : ¬ (("states" : Str) = "good") := by decide +kernel
  simp only [putD]
  rw [if_neg h]
theorem put3 (a b c : D) : putD "steps" c [(("states" : Str), a), (("good" : Str), b)] = [(("states" : Str), a), (("good" : Str), b), (("steps" : Str), c)] := by
  have h : ¬ (("states" : Str) = "steps") := by decide +kernel
  have h2 : ¬ (("good" : Str) = "steps") := by decide +kernel
  simp only [putD]
  rw [if_neg h, if_neg h2]
theorem rd_Wish_init (C : Addr) : ∀ ds h R, fs_Wish_init C ds h R → t_Wish_init C (fnEnds R) (startD N_Wish_init ds) h := by
  rintro ds h R ⟨p, n, g, st, good, rs, sl, rfl, hp, eg, es, st', ok, q⟩
  obtain ⟨⟨n1, n2⟩, og, lg, ors, lrs⟩ := ok
  simp only [t_Wish_init, N_Wish_init, T3.tSeq, T3.tIfS, T3.tOr, T3.tNot, T3.tB, T3.tCall, T3.tCB, T3.tCons, T3.tNil, T3.tVar, T3.tNext, T3.tOp, T3.tC, T3.ordR, T3.tNever, T3.startD, List.map_cons, List.map_nil, List.length_cons, List.length_nil, List.cons_append, List.nil_append, Nat.reduceAdd, Nat.reduceSub, List.replicate, List.getElem?_cons_zero, List.getElem?_cons_succ]
  refine ⟨_, rfl, ?_⟩
  have e1 : decide (n < 1) = false := decide_eq_false (by omega)
  simp only [T3.nat_ofNat, decide_true, Bool.not_true, Bool.not_false, Bool.false_eq_true, eq_self, ↓reduceIte, true_and, and_true, e1]
  refine ⟨_, rfl, by rw [eg]; rfl, ?_⟩
  simp only [T3.nat_ofNat, decide_true, Bool.not_true, Bool.not_false, Bool.false_eq_true, eq_self, ↓reduceIte, true_and, and_true, T3.tLc, T3.iAny, T3.tVar, T3.wipeD, List.set_cons_succ, List.set_cons_zero, List.getElem?_cons_zero, List.getElem?_cons_succ, itOf_seq eg]
  refine lcL_map (acc := []) (fun _ => .bl true) (itOf_seq eg) _ (fun d hd G q' => ?_) ?_ ?_ gName_mono
  · obtain ⟨c, hcm, rfl⟩ := List.mem_map.mp hd
    simp only [g0_Wish_init, e1_Wish_init, T3.tRet, T3.tRetN, T3.tSeq, T3.tNext, T3.tAsg, T3.gName, T3.gTupN, T3.gList, T3.tVar, T3.tC, T3.tOp, T3.tNotV, T3.tAndV, T3.tOrV, T3.tB, T3.tAnd, T3.tOr, T3.tNot, T3.tIf, T3.tIfS, T3.tCall, T3.tCB, T3.tCons, T3.tNil, T3.tIsi, T3.isR, T3.isR2, T3.isRC, T3.tyOf, T3.ordR, T3.intR, T3.addR, T3.addM, T3.ixR, T3.lenR, T3.absR, T3.intR1, T3.tChain, T3.tTup, T3.tLst, T3.tLstM, T3.tNever, T3.tDrop, T3.tBM, T3.isTy, T3.appR, T3.extR, T3.popR, T3.tFld, T3.insOf, T3.tMeth, T3.tMake, T3.sFld, T3.tYes, T3.iAny, T3.tFor, T3.iRng1, T3.iRng2, T3.iEnum, T3.tLc, T3.tLcM, T3.tLc2, T3.wipeD, T3.seqOf, T3.lstOf, T3.slOf, T3.itOf, T3.tupR, T3.listR, T3.tAsc, T3.allR, T3.sortR, T3.tSl, T3.tNoPart, T3.tPart, T3.slR, T3.gSub, T3.tRevD, T3.tBreak, T3.tCont, T3.tFrz, T3.startD, T3.fnEnds, T3.tab_ii, T3.tab_ib, T3.tab_ss, T3.tab_ll, T3.tab_lt, T3.tab_tl, T3.tab_tt, Bool.or_true, Bool.true_or, eq_self, List.map_cons, List.map_nil, List.length_cons, List.length_nil, List.cons_append, List.nil_append, List.getElem?_cons_zero, List.getElem?_cons_succ, List.getElem?_nil, List.set_cons_zero, List.set_cons_succ, List.replicate, Nat.sub_self, Nat.reduceAdd, Nat.reduceSub, ite_true, ite_false, if_true, if_false, Bool.not_true, Bool.not_false, reduceCtorEq, Bool.false_eq_true, ↓reduceIte, true_and, and_true]
    exact ⟨_, _, rfl, (og c hcm).1, (og c hcm).2, q'⟩
  · rw [List.length_map, List.length_nil]; exact sl65' (by omega)
  simp only [List.nil_append, allR, slOf]
  rw [show (List.map (fun _ => D.bl true) (List.map D.int good)) = (List.map D.int good).map (fun d => D.bl ((fun _ => true) d)) from rfl, all_bls]
  have : (List.map (fun (_ : D) => true) (List.map D.int good)).all (fun b => b) = true := by
    rw [List.all_map]; exact List.all_eq_true.mpr fun _ _ => rfl
  simp only [this, T3.nat_ofNat, decide_true, Bool.not_true, Bool.not_false, Bool.false_eq_true, eq_self, ↓reduceIte, true_and, and_true]
  refine ⟨_, rfl, by rw [es]; rfl, ?_⟩
  simp only [T3.nat_ofNat, decide_true, Bool.not_true, Bool.not_false, Bool.false_eq_true, eq_self, ↓reduceIte, true_and, and_true, T3.tAsg, T3.gName, tLstM, T3.tNil, List.set_cons_succ, List.set_cons_zero, List.length_nil, Nat.zero_le]
  intro q' hq'
  have hpq : p ≠ q' := fun z => by rw [← z, hp] at hq'; cases hq'
  have es' := seqOf_ud (o := .lst []) (no_lst hq') es
  simp only [T3.tRet, T3.tRetN, T3.tSeq, T3.tNext, T3.tAsg, T3.gName, T3.gTupN, T3.gList, T3.tVar, T3.tC, T3.tOp, T3.tNotV, T3.tAndV, T3.tOrV, T3.tB, T3.tAnd, T3.tOr, T3.tNot, T3.tIf, T3.tIfS, T3.tCall, T3.tCB, T3.tCons, T3.tNil, T3.tIsi, T3.ordR, T3.intR, T3.absR, T3.intR1, T3.tChain, T3.tTup, T3.tLst, T3.tLstM, T3.tNever, T3.tDrop, T3.appR, T3.extR, T3.popR, T3.tFld, T3.insOf, T3.tMeth, T3.tMake, T3.sFld, T3.tYes, T3.iAny, T3.tFor, T3.iRng1, T3.iRng2, T3.iEnum, T3.tLc, T3.tLcM, T3.tLc2, T3.wipeD, T3.allR, T3.tSl, T3.tNoPart, T3.tPart, T3.slR, T3.gSub, T3.tRevD, T3.tBreak, T3.tCont, T3.tFrz, T3.startD, T3.fnEnds, T3.tab_ii, T3.tab_ib, T3.tab_ss, T3.tab_ll, T3.tab_lt, T3.tab_tl, T3.tab_tt, Bool.or_true, Bool.true_or, eq_self, List.map_cons, List.map_nil, List.length_cons, List.length_nil, List.cons_append, List.nil_append, List.getElem?_cons_zero, List.getElem?_cons_succ, List.getElem?_nil, List.set_cons_zero, List.set_cons_succ, List.replicate, Nat.sub_self, Nat.reduceAdd, Nat.reduceSub, ite_true, ite_false, if_true, if_false, Bool.not_true, Bool.not_false, reduceCtorEq, Bool.false_eq_true, ↓reduceIte, true_and, and_true, es']
  refine forL_inv (I := fun l σ h1 => ∃ k sl' rs' acc a b c, l = enumFrom k sl' ∧ σ = [some (.ref p), some (.int n), some g, some st, some (.ref q'), a, b, c] ∧ h1 = ud h q' (.lst (List.map (fun r => rD (nr r)) acc)) ∧ stepsAre h sl' rs' ∧ acc ++ rs' = rs) ?_ ?_ (gNames_mono (is := [5, 6]) (n := 2)) ?_ _ ⟨0, sl, rs, [], none, none, none, (enumD_from _), rfl, rfl, st', rfl⟩
  · rintro l σ h1 ⟨k, sl', rs', acc, a, b, c, rfl, rfl, rfl, _, _⟩
    exact seqOf_ud (no_lst hq') es
  · rintro x xs σ h1 ⟨k, sl', rs', acc, a, b, c, e0, rfl, rfl, e1, e2⟩
    match sl', rs', e0, e1 with
    | s :: sl', r :: rs', e0, e1 =>
      rw [enumFrom_cons] at e0
      cases e0
      have si := steps_ud (o := .lst (List.map (fun r => rD (nr r)) acc)) (no_lst hq') e1.1
      have okr := ors r (by rw [← e2]; simp)
      have lacc : acc.length ≤ 10000 := by
        have := congrArg List.length e2
        rw [List.length_append] at this; omega
      obtain ⟨y, z, ey, ay, az⟩ := id si
      simp only [g2_Wish_init, b3_Wish_init, T3.tRet, T3.tRetN, T3.tSeq, T3.tNext, T3.tAsg, T3.gName, T3.gTupN, T3.gList, T3.tVar, T3.tC, T3.tOp, T3.tNotV, T3.tAndV, T3.tOrV, T3.tB, T3.tAnd, T3.tOr, T3.tNot, T3.tIf, T3.tIfS, T3.tCall, T3.tCB, T3.tCons, T3.tNil, T3.tIsi, T3.ordR, T3.intR, T3.absR, T3.intR1, T3.tChain, T3.tTup, T3.tLst, T3.tLstM, T3.tNever, T3.tDrop, T3.appR, T3.extR, T3.popR, T3.tFld, T3.insOf, T3.tMeth, T3.tMake, T3.sFld, T3.tYes, T3.iAny, T3.tFor, T3.iRng1, T3.iRng2, T3.iEnum, T3.tLc, T3.tLcM, T3.tLc2, T3.wipeD, T3.allR, T3.tSl, T3.tNoPart, T3.tPart, T3.slR, T3.gSub, T3.tRevD, T3.tBreak, T3.tCont, T3.tFrz, T3.startD, T3.fnEnds, T3.tab_ii, T3.tab_ib, T3.tab_ss, T3.tab_ll, T3.tab_lt, T3.tab_tl, T3.tab_tt, Bool.or_true, Bool.true_or, eq_self, List.map_cons, List.map_nil, List.length_cons, List.length_nil, List.cons_append, List.nil_append, List.getElem?_cons_zero, List.getElem?_cons_succ, List.getElem?_nil, List.set_cons_zero, List.set_cons_succ, List.replicate, Nat.sub_self, Nat.reduceAdd, Nat.reduceSub, ite_true, ite_false, if_true, if_false, Bool.not_true, Bool.not_false, reduceCtorEq, Bool.false_eq_true, ↓reduceIte, true_and, and_true, T3.tBM, T3.isTy, T3.slOf]
      intro E' _ _ e3 _
      refine ⟨_, _, r, rfl, si, okr, ?_⟩
      simp only [T3.nat_ofNat, decide_true, Bool.not_true, Bool.not_false, Bool.false_eq_true, eq_self, ↓reduceIte, true_and, and_true, ud_same, Option.isSome]
      refine ixR_seq ey (i := 0) rfl ?_
      refine ixR_seq ey (i := 1) rfl ?_
      refine asc_names ay (Nat.le_trans okr.2.2.2.2.1 (by decide)) okr.2.2.1 ?_
      refine ixR_seq ey (i := 2) rfl ?_
      refine asc_names az (Nat.le_trans okr.2.2.2.2.2 (by decide)) okr.2.2.2.1 ?_
      refine ixR_seq ey (i := 3) rfl ?_
      refine ⟨sl65' (by decide), ?_⟩
      rw [ud_same]
      refine ⟨by rw [List.length_map]; exact sl65 (by omega), ?_⟩
      refine e3 _ _ ⟨k + 1, sl', rs', acc ++ [r], _, _, _, rfl, rfl, ?_, e1.2, by rw [List.append_assoc]; exact e2⟩
      rw [ud_ud, List.map_append]; rfl
    | [], _, e0, _ => cases e0
  · rintro σ h1 ⟨k, sl', rs', acc, a, b, c, e0, rfl, rfl, e1, e2⟩
    match sl', rs', e0, e1 with
    | [], [], _, _ =>
      rw [List.append_nil] at e2
      subst e2
      simp only [T3.tRet, T3.tRetN, T3.tSeq, T3.tNext, T3.tAsg, T3.gName, T3.gTupN, T3.gList, T3.tVar, T3.tC, T3.tOp, T3.tNotV, T3.tAndV, T3.tOrV, T3.tB, T3.tAnd, T3.tOr, T3.tNot, T3.tIf, T3.tIfS, T3.tCall, T3.tCB, T3.tCons, T3.tNil, T3.tIsi, T3.isR, T3.isR2, T3.isRC, T3.tyOf, T3.ordR, T3.intR, T3.addR, T3.addM, T3.ixR, T3.lenR, T3.absR, T3.intR1, T3.tChain, T3.tTup, T3.tLst, T3.tLstM, T3.tNever, T3.tDrop, T3.tBM, T3.isTy, T3.appR, T3.extR, T3.popR, T3.tFld, T3.insOf, T3.tMeth, T3.tMake, T3.sFld, T3.tYes, T3.iAny, T3.tFor, T3.iRng1, T3.iRng2, T3.iEnum, T3.tLc, T3.tLcM, T3.tLc2, T3.wipeD, T3.seqOf, T3.lstOf, T3.slOf, T3.itOf, T3.tupR, T3.listR, T3.tAsc, T3.allR, T3.sortR, T3.tSl, T3.tNoPart, T3.tPart, T3.slR, T3.gSub, T3.tRevD, T3.tBreak, T3.tCont, T3.tFrz, T3.startD, T3.fnEnds, T3.tab_ii, T3.tab_ib, T3.tab_ss, T3.tab_ll, T3.tab_lt, T3.tab_tl, T3.tab_tt, Bool.or_true, Bool.true_or, eq_self, List.map_cons, List.map_nil, List.length_cons, List.length_nil, List.cons_append, List.nil_append, List.getElem?_cons_zero, List.getElem?_cons_succ, List.getElem?_nil, List.set_cons_zero, List.set_cons_succ, List.replicate, Nat.sub_self, Nat.reduceAdd, Nat.reduceSub, ite_true, ite_false, if_true, if_false, Bool.not_true, Bool.not_false, reduceCtorEq, Bool.false_eq_true, ↓reduceIte, true_and, and_true, ud_ne hpq, hp]
      have npq : ∀ o m, ud (ud h q' (.lst (List.map (fun r => rD (nr r)) acc))) p (.ins C o) p ≠ some (.lst m) := fun o m z => by rw [ud_same] at z; cases z
      have h1 : ∀ m, ud h q' (.lst (List.map (fun r => rD (nr r)) acc)) p ≠ some (.lst m) := fun m z => by rw [ud_ne hpq, hp] at z; cases z
      refine ⟨by decide, ?_⟩
      refine asc_ints (seqOf_ud h1 (seqOf_ud (no_lst hq') eg)) lg ?_
      simp only [ud_same]
      simp only [put1, put2, put3]
      refine ⟨trivial, (by decide : 1 < 1000), ?_⟩
      simp only [ud_ud, ud_ne hpq.symm, ud_same]
      refine ⟨trivial, (by decide : 2 < 1000), _, ?_, q⟩
      intro b o e
      by_cases hb : b = p
      · subst hb
        rw [ud_same] at e ⊢
        cases e
        rw [wF, List.map_map]; rfl
      · rw [ud_ne hb] at e ⊢
        rw [ud_ne (fun z => by rw [z, hq'] at e; cases e)]
        exact e
    | s :: sl', _, e0, _ => rw [enumFrom_cons] at e0; cases e0
theorem ok_ints {n : Nat} (l : List Int) : okD (n + 1) (.tup (l.map .int)) = true := by
  show (l.map D.int).all (okD n) = true
  rw [List.all_map]
  exact List.all_eq_true.mpr fun _ _ => by cases n <;> rfl
theorem ok_intsL {n : Nat} (l : List Int) : okD (n + 1) (.lst (l.map .int)) = true := ok_ints l
theorem ok_str {n : Nat} {x : Str} (h : nameOk x = true) : okD n (.str x) = true := by
  have := nameOk_str h
  cases n <;> exact this
theorem ok_all {n : Nat} {l : List Str} (h : ∀ x ∈ l, nameOk x = true) : (namesD l).all (okD n) = true := by
  unfold namesD
  rw [List.all_map]
  exact List.all_eq_true.mpr fun x hx => ok_str (h x hx)
theorem ok_names {n : Nat} {l : List Str} (h : ∀ x ∈ l, nameOk x = true) : okD (n + 1) (.tup (namesD l)) = true := ok_all h
theorem ok_namesL {n : Nat} {l : List Str} (h : ∀ x ∈ l, nameOk x = true) : okD (n + 1) (.lst (namesD l)) = true := ok_all h
theorem ok_rD {n : Nat} {m : Int} {r : Rule} (h : ruleOk m r) : okD (n + 2) (rD r) = true := by
  unfold rD
  show [D.int r.one, .tup (namesD r.need), .tup (namesD r.bar), .int r.two].all (okD (n + 1)) = true
  have e1 : okD (n + 1) (.tup (namesD r.need)) = true := ok_names h.2.2.1
  have e2 : okD (n + 1) (.tup (namesD r.bar)) = true := ok_names h.2.2.2.1
  have e3 : ∀ i, okD (n + 1) (.int i) = true := fun i => rfl
  rw [List.all_cons, List.all_cons, List.all_cons, List.all_cons, List.all_nil, e1, e2, e3, e3]; rfl
theorem ok_rs {n : Nat} {m : Int} {rs : List Rule} (h : ∀ r ∈ rs, ruleOk m r) : okD (n + 3) (.tup (rs.map rD)) = true := by
  show (rs.map rD).all (okD (n + 2)) = true
  rw [List.all_map]
  exact List.all_eq_true.mpr fun r hr => ok_rD (h r hr)
theorem isRC_lst {C : Addr} {h : AH} {y : D} {Q : QD} (e : (slOf h y).isSome = true) (q : Q (.bl false) h) : isRC C y h Q := by
  have : tyOf h y = some "list" := by
    cases y with
    | lst m => rfl
    | lok m => rfl
    | ref a =>
      unfold slOf at e
      unfold tyOf
      simp only at e ⊢
      split at e
      · next m em => first | rfl | rw [em]
      · cases e
    | _ => cases e
  unfold isRC
  rw [this]
  exact q
theorem isRC_ins {C : Addr} {h : AH} {fl : List (Str × D)} {Q : QD} (q : Q (.bl true) h) : isRC C (.ins C fl) h Q := ⟨rfl, q⟩
theorem w_st (n : Int) (good : List Int) (rs : List Rule) : (wF n good rs).lookup ("states" : Str) = some (.int n) := by
  have h : (("states" : Str) == "states") = true := by decide +kernel
  unfold wF
  rw [List.lookup_cons, h]
theorem w_gd (n : Int) (good : List Int) (rs : List Rule) : (wF n good rs).lookup ("good" : Str) = some (.tup (good.map .int)) := by
  have h : (("good" : Str) == "states") = false := by decide +kernel
  have h2 : (("good" : Str) == "good") = true := by decide +kernel
  unfold wF
  rw [List.lookup_cons, h, List.lookup_cons, h2]
theorem w_sp (n : Int) (good : List Int) (rs : List Rule) : (wF n good rs).lookup ("steps" : Str) = some (.tup (rs.map rD)) := by
  have h : (("steps" : Str) == "states") = false := by decide +kernel
  have h2 : (("steps" : Str) == "good") = false := by decide +kernel
  have h3 : (("steps" : Str) == "steps") = true := by decide +kernel
  unfold wF
  rw [List.lookup_cons, h, List.lookup_cons, h2, List.lookup_cons, h3]
theorem w_no {m : Str} (h1 : (m == "states") = false) (h2 : (m == "good") = false) (h3 : (m == "steps") = false) (n : Int) (good : List Int) (rs : List Rule) : (wF n good rs).lookup m = none := by
  unfold wF
  rw [List.lookup_cons, h1, List.lookup_cons, h2, List.lookup_cons, h3]; rfl
theorem len_Wish_eq (C : Addr) : ∀ ds h R, fs_Wish_eq C ds h R → ds.length = (["self", "other"] : List Str).length := by
  rintro ds h R ⟨n, good, rs, y, rfl, q⟩
  rfl
theorem bl_Wish_eq (C : Addr) : ∀ (ds : List D) (h : AH) (R : QD), fs_Wish_eq C ds h R → ∀ R' : QD, (∀ b h', R (.bl b) h' → R' (.bl b) h') → fs_Wish_eq C ds h fun d h' => ∃ b, d = .bl b ∧ R' (.bl b) h' := by
  rintro ds h R ⟨n, good, rs, y, rfl, ok, q⟩ R' f
  refine ⟨n, good, rs, y, rfl, ok, ?_⟩
  rcases q with ⟨n', good', rs', e, ok', q⟩ | ⟨e, q⟩
  · exact .inl ⟨n', good', rs', e, ok', _, rfl, f _ _ q⟩
  · exact .inr ⟨e, _, rfl, f _ _ q⟩
theorem rd_Wish_eq (C : Addr) : ∀ ds h R, fs_Wish_eq C ds h R → t_Wish_eq C (fnEnds R) (startD N_Wish_eq ds) h := by
  rintro ds h R ⟨n, good, rs, y, rfl, ok, q⟩
  simp only [t_Wish_eq, N_Wish_eq, T3.tRet, T3.tRetN, T3.tSeq, T3.tNext, T3.tAsg, T3.gName, T3.gTupN, T3.gList, T3.tVar, T3.tC, T3.tOp, T3.tNotV, T3.tAndV, T3.tOrV, T3.tB, T3.tAnd, T3.tOr, T3.tNot, T3.tIf, T3.tIfS, T3.tCall, T3.tCB, T3.tCons, T3.tNil, T3.tIsi, T3.ordR, T3.intR, T3.absR, T3.intR1, T3.tChain, T3.tTup, T3.tLst, T3.tLstM, T3.tNever, T3.tDrop, T3.appR, T3.extR, T3.popR, T3.tFld, T3.insOf, T3.tMeth, T3.tMake, T3.sFld, T3.tYes, T3.iAny, T3.tFor, T3.iRng1, T3.iRng2, T3.iEnum, T3.tLc, T3.tLcM, T3.tLc2, T3.wipeD, T3.allR, T3.tSl, T3.tNoPart, T3.tPart, T3.slR, T3.gSub, T3.tRevD, T3.tBreak, T3.tCont, T3.tFrz, T3.startD, T3.fnEnds, T3.tab_ii, T3.tab_ib, T3.tab_ss, T3.tab_ll, T3.tab_lt, T3.tab_tl, T3.tab_tt, Bool.or_true, Bool.true_or, eq_self, List.map_cons, List.map_nil, List.length_cons, List.length_nil, List.cons_append, List.nil_append, List.getElem?_cons_zero, List.getElem?_cons_succ, List.getElem?_nil, List.set_cons_zero, List.set_cons_succ, List.replicate, Nat.sub_self, Nat.reduceAdd, Nat.reduceSub, ite_true, ite_false, if_true, if_false, Bool.not_true, Bool.not_false, reduceCtorEq, Bool.false_eq_true, ↓reduceIte, true_and, and_true]
  rcases q with ⟨n', good', rs', rfl, ok', q⟩ | ⟨e, q⟩
  · refine isRC_ins ?_
    simp only [T3.nat_ofNat, decide_true, Bool.not_true, Bool.not_false, Bool.false_eq_true, eq_self, ↓reduceIte, true_and, and_true, T3.tRet, T3.tRetN, T3.tSeq, T3.tNext, T3.tAsg, T3.gName, T3.gTupN, T3.gList, T3.tVar, T3.tC, T3.tOp, T3.tNotV, T3.tAndV, T3.tOrV, T3.tB, T3.tAnd, T3.tOr, T3.tNot, T3.tIf, T3.tIfS, T3.tCall, T3.tCB, T3.tCons, T3.tNil, T3.tIsi, T3.ordR, T3.intR, T3.absR, T3.intR1, T3.tChain, T3.tTup, T3.tLst, T3.tLstM, T3.tNever, T3.tDrop, T3.appR, T3.extR, T3.popR, T3.tFld, T3.insOf, T3.tMeth, T3.tMake, T3.sFld, T3.tYes, T3.iAny, T3.tFor, T3.iRng1, T3.iRng2, T3.iEnum, T3.tLc, T3.tLcM, T3.tLc2, T3.wipeD, T3.allR, T3.tSl, T3.tNoPart, T3.tPart, T3.slR, T3.gSub, T3.tRevD, T3.tBreak, T3.tCont, T3.tFrz, T3.startD, T3.fnEnds, T3.tab_ii, T3.tab_ib, T3.tab_ss, T3.tab_ll, T3.tab_lt, T3.tab_tl, T3.tab_tt, Bool.or_true, Bool.true_or, eq_self, List.map_cons, List.map_nil, List.length_cons, List.length_nil, List.cons_append, List.nil_append, List.getElem?_cons_zero, List.getElem?_cons_succ, List.getElem?_nil, List.set_cons_zero, List.set_cons_succ, List.replicate, Nat.sub_self, Nat.reduceAdd, Nat.reduceSub, ite_true, ite_false, if_true, if_false, Bool.not_true, Bool.not_false, reduceCtorEq, Bool.false_eq_true, ↓reduceIte, true_and, and_true, wD, T3.insOf, w_st, w_gd, w_sp, T3.eqR, resD]
    refine ⟨rfl, rfl, ?_⟩
    unfold eqW at q
    cases e1 : eqD (.int n) (.int n') with
    | false =>
      rw [e1, Bool.false_and] at q
      exact out_as q
    | true =>
      rw [e1, Bool.true_and] at q
      simp only [T3.nat_ofNat, decide_true, Bool.not_true, Bool.not_false, Bool.false_eq_true, eq_self, ↓reduceIte, true_and, and_true]
      refine ⟨ok_ints _, ok_ints _, ?_⟩
      cases e2 : eqD (.tup (good.map .int)) (.tup (good'.map .int)) with
      | false =>
        rw [e2, Bool.false_and] at q
        exact out_as q
      | true =>
        rw [e2, Bool.true_and] at q
        simp only [T3.nat_ofNat, decide_true, Bool.not_true, Bool.not_false, Bool.false_eq_true, eq_self, ↓reduceIte, true_and, and_true]
        exact ⟨ok_rs ok.2.2.2.1, ok_rs ok'.2.2.2.1, out_as q⟩
  · refine isRC_lst e ?_
    simp only [T3.nat_ofNat, decide_true, Bool.not_true, Bool.not_false, Bool.false_eq_true, eq_self, ↓reduceIte, true_and, and_true]
    exact out_as q
theorem len_Wish_rung_bells (C : Addr) : ∀ ds h R, fs_Wish_rung_bells C ds h R → ds.length = (["self"] : List Str).length := by
  rintro ds h R ⟨n, good, rs, rfl, q⟩
  rfl
theorem rung_cons (r : Rule) (rs : List Rule) : rung (r :: rs) = r.need ++ r.bar ++ rung rs := by
  unfold rung; rw [List.flatMap_cons]
theorem rung_append (l m : List Rule) : rung (l ++ m) = rung l ++ rung m := by
  unfold rung; rw [List.flatMap_append]
theorem rd_Wish_rung_bells (C : Addr) : ∀ ds h R, fs_Wish_rung_bells C ds h R → t_Wish_rung_bells C (fnEnds R) (startD N_Wish_rung_bells ds) h := by
  rintro ds h R ⟨n, good, rs, rfl, ok, hl, q⟩
  simp only [t_Wish_rung_bells, N_Wish_rung_bells, T3.tRet, T3.tRetN, T3.tSeq, T3.tNext, T3.tAsg, T3.gName, T3.gTupN, T3.gList, T3.tVar, T3.tC, T3.tOp, T3.tNotV, T3.tAndV, T3.tOrV, T3.tB, T3.tAnd, T3.tOr, T3.tNot, T3.tIf, T3.tIfS, T3.tCall, T3.tCB, T3.tCons, T3.tNil, T3.tIsi, T3.ordR, T3.intR, T3.absR, T3.intR1, T3.tChain, T3.tTup, T3.tLst, T3.tLstM, T3.tNever, T3.tDrop, T3.appR, T3.extR, T3.popR, T3.tFld, T3.insOf, T3.tMeth, T3.tMake, T3.sFld, T3.tYes, T3.iAny, T3.tFor, T3.iRng1, T3.iRng2, T3.iEnum, T3.tLc, T3.tLcM, T3.tLc2, T3.wipeD, T3.allR, T3.tSl, T3.tNoPart, T3.tPart, T3.slR, T3.gSub, T3.tRevD, T3.tBreak, T3.tCont, T3.tFrz, T3.startD, T3.fnEnds, T3.tab_ii, T3.tab_ib, T3.tab_ss, T3.tab_ll, T3.tab_lt, T3.tab_tl, T3.tab_tt, Bool.or_true, Bool.true_or, eq_self, List.map_cons, List.map_nil, List.length_cons, List.length_nil, List.cons_append, List.nil_append, List.getElem?_cons_zero, List.getElem?_cons_succ, List.getElem?_nil, List.set_cons_zero, List.set_cons_succ, List.replicate, Nat.sub_self, Nat.reduceAdd, Nat.reduceSub, ite_true, ite_false, if_true, if_false, Bool.not_true, Bool.not_false, reduceCtorEq, Bool.false_eq_true, ↓reduceIte, true_and, and_true, wD, T3.insOf, w_sp]
  refine ⟨Nat.zero_le _, fun p hp => ?_⟩
  refine forL_inv (I := fun l σ h1 => ∃ acc rs' a b c d, l = List.map rD rs' ∧ σ = [some (.ins C (wF n good rs)), some (.ref p), a, b, c, d] ∧ h1 = ud h p (.lst (namesD (rung acc))) ∧ acc ++ rs' = rs) (fun _ _ _ _ => rfl) ?_ (gNames_mono (is := [2, 3, 4, 5]) (n := 4)) ?_ _ ⟨[], rs, none, none, none, none, rfl, rfl, rfl, rfl⟩
  · rintro x xs σ h1 ⟨acc, rs', a, b, c, d, e0, rfl, rfl, e2⟩
    match rs', e0 with
    | r :: rs', e0 =>
      cases e0
      have okr := ok.2.2.2.1 r (by rw [← e2]; simp)
      have hlen : (rung acc).length + (r.need.length + r.bar.length) ≤ 1000 := by
        have := hl
        rw [← e2, rung_append, rung_cons] at this
        simp only [List.length_append] at this
        omega
      simp only [g0_Wish_rung_bells, b1_Wish_rung_bells, rD, T3.tRet, T3.tRetN, T3.tSeq, T3.tNext, T3.tAsg, T3.gName, T3.gTupN, T3.gList, T3.tVar, T3.tC, T3.tOp, T3.tNotV, T3.tAndV, T3.tOrV, T3.tB, T3.tAnd, T3.tOr, T3.tNot, T3.tIf, T3.tIfS, T3.tCall, T3.tCB, T3.tCons, T3.tNil, T3.tIsi, T3.ordR, T3.intR, T3.absR, T3.intR1, T3.tChain, T3.tTup, T3.tLst, T3.tLstM, T3.tNever, T3.tDrop, T3.appR, T3.extR, T3.popR, T3.tFld, T3.insOf, T3.tMeth, T3.tMake, T3.sFld, T3.tYes, T3.iAny, T3.tFor, T3.iRng1, T3.iRng2, T3.iEnum, T3.tLc, T3.tLcM, T3.tLc2, T3.wipeD, T3.allR, T3.tSl, T3.tNoPart, T3.tPart, T3.slR, T3.gSub, T3.tRevD, T3.tBreak, T3.tCont, T3.tFrz, T3.startD, T3.fnEnds, T3.tab_ii, T3.tab_ib, T3.tab_ss, T3.tab_ll, T3.tab_lt, T3.tab_tl, T3.tab_tt, Bool.or_true, Bool.true_or, eq_self, List.map_cons, List.map_nil, List.length_cons, List.length_nil, List.cons_append, List.nil_append, List.getElem?_cons_zero, List.getElem?_cons_succ, List.getElem?_nil, List.set_cons_zero, List.set_cons_succ, List.replicate, Nat.sub_self, Nat.reduceAdd, Nat.reduceSub, ite_true, ite_false, if_true, if_false, Bool.not_true, Bool.not_false, reduceCtorEq, Bool.false_eq_true, ↓reduceIte, true_and, and_true, T3.tBM, T3.isTy, T3.slOf, T3.addR, ud_same, Option.isSome]
      intro E' _ _ e3 _
      simp only [namesD, List.length_map]
      refine ⟨sl65' (by have := okr.2.2.2.2; omega), ?_⟩
      simp only [List.length_append, List.length_map]
      refine ⟨sl65' (by omega), e3 _ _ ⟨acc ++ [r], rs', _, _, _, _, rfl, rfl, ?_, by rw [List.append_assoc]; exact e2⟩⟩
      rw [ud_ud, rung_append, rung_cons]
      simp only [namesD, List.map_append, rung, List.flatMap_nil, List.append_nil]
    | [], e0 => cases e0
  · rintro σ h1 ⟨acc, rs', a, b, c, d, e0, rfl, rfl, e2⟩
    match rs', e0 with
    | [], _ =>
      rw [List.append_nil] at e2
      subst e2
      simp only [T3.tRet, T3.tRetN, T3.tSeq, T3.tNext, T3.tAsg, T3.gName, T3.gTupN, T3.gList, T3.tVar, T3.tC, T3.tOp, T3.tNotV, T3.tAndV, T3.tOrV, T3.tB, T3.tAnd, T3.tOr, T3.tNot, T3.tIf, T3.tIfS, T3.tCall, T3.tCB, T3.tCons, T3.tNil, T3.tIsi, T3.ordR, T3.intR, T3.absR, T3.intR1, T3.tChain, T3.tTup, T3.tLst, T3.tLstM, T3.tNever, T3.tDrop, T3.appR, T3.extR, T3.popR, T3.tFld, T3.insOf, T3.tMeth, T3.tMake, T3.sFld, T3.tYes, T3.iAny, T3.tFor, T3.iRng1, T3.iRng2, T3.iEnum, T3.tLc, T3.tLcM, T3.tLc2, T3.wipeD, T3.allR, T3.tSl, T3.tNoPart, T3.tPart, T3.slR, T3.gSub, T3.tRevD, T3.tBreak, T3.tCont, T3.tFrz, T3.startD, T3.fnEnds, T3.tab_ii, T3.tab_ib, T3.tab_ss, T3.tab_ll, T3.tab_lt, T3.tab_tl, T3.tab_tt, Bool.or_true, Bool.true_or, eq_self, List.map_cons, List.map_nil, List.length_cons, List.length_nil, List.cons_append, List.nil_append, List.getElem?_cons_zero, List.getElem?_cons_succ, List.getElem?_nil, List.set_cons_zero, List.set_cons_succ, List.replicate, Nat.sub_self, Nat.reduceAdd, Nat.reduceSub, ite_true, ite_false, if_true, if_false, Bool.not_true, Bool.not_false, reduceCtorEq, Bool.false_eq_true, ↓reduceIte, true_and, and_true]
      refine asc_names (l := rung acc) ?_ hl ?_ ?_
      · show (match ud h p (.lst (namesD (rung acc))) p with | some (.lst l) => some l | _ => none) = _
        rw [ud_same]
      · intro x hx
        unfold rung at hx
        obtain ⟨r, hr, hx⟩ := List.mem_flatMap.mp hx
        have okr := ok.2.2.2.1 r hr
        rcases List.mem_append.mp hx with z | z
        · exact okr.2.2.1 x z
        · exact okr.2.2.2.1 x z
      · exact out_sub (Sub.refl.ud hp) q
    | _ :: _, e0 => cases e0
theorem all_in {need lot : List Str} : ((namesD need).map fun d => inL d (namesD lot)).all (fun b => b) = need.all fun x => decide (x ∈ lot) := by
  unfold namesD
  rw [List.map_map, List.all_map]
  exact List.all_congr rfl fun x => inL_strs
theorem any_in {need lot : List Str} : ((namesD need).map fun d => inL d (namesD lot)).any (fun b => b) = need.any fun x => decide (x ∈ lot) := by
  unfold namesD
  rw [List.map_map, List.any_map]
  exact List.any_congr rfl fun x => inL_strs
theorem aft_cons {r : Rule} {rs : List Rule} {st : Int} {lot : List Str} : aft (r :: rs) st lot = if hasR r st lot = true then r.two else aft rs st lot := rfl
theorem aft_nil {st : Int} {lot : List Str} : aft [] st lot = st := rfl
theorem len_Wish_after (C : Addr) : ∀ ds h R, fs_Wish_after C ds h R → ds.length = (["self", "state", "lot"] : List Str).length := by
  rintro ds h R ⟨n, good, rs, st, lot, rfl, q⟩
  rfl
theorem rd_Wish_after (C : Addr) : ∀ ds h R, fs_Wish_after C ds h R → t_Wish_after C (fnEnds R) (startD N_Wish_after ds) h := by
  rintro ds h R ⟨n, good, rs, st, lot, rfl, ok, okl, q⟩
  simp only [t_Wish_after, N_Wish_after, T3.tRet, T3.tRetN, T3.tSeq, T3.tNext, T3.tAsg, T3.gName, T3.gTupN, T3.gList, T3.tVar, T3.tC, T3.tOp, T3.tNotV, T3.tAndV, T3.tOrV, T3.tB, T3.tAnd, T3.tOr, T3.tNot, T3.tIf, T3.tIfS, T3.tCall, T3.tCB, T3.tCons, T3.tNil, T3.tIsi, T3.ordR, T3.intR, T3.absR, T3.intR1, T3.tChain, T3.tTup, T3.tLst, T3.tLstM, T3.tNever, T3.tDrop, T3.appR, T3.extR, T3.popR, T3.tFld, T3.insOf, T3.tMeth, T3.tMake, T3.sFld, T3.tYes, T3.iAny, T3.tFor, T3.iRng1, T3.iRng2, T3.iEnum, T3.tLc, T3.tLcM, T3.tLc2, T3.wipeD, T3.allR, T3.tSl, T3.tNoPart, T3.tPart, T3.slR, T3.gSub, T3.tRevD, T3.tBreak, T3.tCont, T3.tFrz, T3.startD, T3.fnEnds, T3.tab_ii, T3.tab_ib, T3.tab_ss, T3.tab_ll, T3.tab_lt, T3.tab_tl, T3.tab_tt, Bool.or_true, Bool.true_or, eq_self, List.map_cons, List.map_nil, List.length_cons, List.length_nil, List.cons_append, List.nil_append, List.getElem?_cons_zero, List.getElem?_cons_succ, List.getElem?_nil, List.set_cons_zero, List.set_cons_succ, List.replicate, Nat.sub_self, Nat.reduceAdd, Nat.reduceSub, ite_true, ite_false, if_true, if_false, Bool.not_true, Bool.not_false, reduceCtorEq, Bool.false_eq_true, ↓reduceIte, true_and, and_true, wD, T3.insOf, w_sp]
  refine forL_inv (I := fun l σ h1 => ∃ rs' a b c d e, l = List.map rD rs' ∧ σ = [some (.ins C (wF n good rs)), some (.int st), some (lotD lot), a, b, c, d, e] ∧ h1 = h ∧ aft rs' st lot = aft rs st lot ∧ (∀ r ∈ rs', ruleOk n r)) (fun _ _ _ _ => rfl) ?_ (gNames_mono (is := [3, 4, 5, 6]) (n := 4)) ?_ _ ⟨rs, none, none, none, none, none, rfl, rfl, rfl, rfl, ok.2.2.2.1⟩
  · rintro x xs σ h1 ⟨rs', a, b, c, d, e, e0, rfl, rfl, ea, ok'⟩
    match rs', e0 with
    | r :: rs', e0 =>
      cases e0
      have okr := ok' r (List.mem_cons_self ..)
      simp only [g4_Wish_after, b5_Wish_after, rD, T3.tRet, T3.tRetN, T3.tSeq, T3.tNext, T3.tAsg, T3.gName, T3.gTupN, T3.gList, T3.tVar, T3.tC, T3.tOp, T3.tNotV, T3.tAndV, T3.tOrV, T3.tB, T3.tAnd, T3.tOr, T3.tNot, T3.tIf, T3.tIfS, T3.tCall, T3.tCB, T3.tCons, T3.tNil, T3.tIsi, T3.ordR, T3.intR, T3.absR, T3.intR1, T3.tChain, T3.tTup, T3.tLst, T3.tLstM, T3.tNever, T3.tDrop, T3.appR, T3.extR, T3.popR, T3.tFld, T3.insOf, T3.tMeth, T3.tMake, T3.sFld, T3.tYes, T3.iAny, T3.tFor, T3.iRng1, T3.iRng2, T3.iEnum, T3.tLc, T3.tLcM, T3.tLc2, T3.wipeD, T3.allR, T3.tSl, T3.tNoPart, T3.tPart, T3.slR, T3.gSub, T3.tRevD, T3.tBreak, T3.tCont, T3.tFrz, T3.startD, T3.fnEnds, T3.tab_ii, T3.tab_ib, T3.tab_ss, T3.tab_ll, T3.tab_lt, T3.tab_tl, T3.tab_tt, Bool.or_true, Bool.true_or, eq_self, List.map_cons, List.map_nil, List.length_cons, List.length_nil, List.cons_append, List.nil_append, List.getElem?_cons_zero, List.getElem?_cons_succ, List.getElem?_nil, List.set_cons_zero, List.set_cons_succ, List.replicate, Nat.sub_self, Nat.reduceAdd, Nat.reduceSub, ite_true, ite_false, if_true, if_false, Bool.not_true, Bool.not_false, reduceCtorEq, Bool.false_eq_true, ↓reduceIte, true_and, and_true, T3.eqR, resD, eqD_int]
      intro E' e1 _ e3 _
      refine ⟨rfl, rfl, ?_⟩
      have go : hasR r st lot = false → E'.nx [some (.ins C (wF n good rs)), some (.int st), some (lotD lot), some (.int r.one), some (.tup (namesD r.need)), some (.tup (namesD r.bar)), some (.int r.two), e] h1 := fun hf => by
        refine e3 _ _ ⟨rs', _, _, _, _, _, rfl, rfl, rfl, ?_, fun r hr => ok' r (List.mem_cons_of_mem _ hr)⟩
        rw [aft_cons, hf] at ea
        simp only [T3.nat_ofNat, decide_true, Bool.not_true, Bool.not_false, Bool.false_eq_true, eq_self, ↓reduceIte, true_and, and_true] at ea
        exact ea
      cases c1 : decide (r.one = st) with
      | false =>
        simp only [T3.nat_ofNat, decide_true, Bool.not_true, Bool.not_false, Bool.false_eq_true, eq_self, ↓reduceIte, true_and, and_true]
        exact go (by unfold hasR; rw [c1]; rfl)
      | true =>
        simp only [T3.nat_ofNat, decide_true, Bool.not_true, Bool.not_false, Bool.false_eq_true, eq_self, ↓reduceIte, true_and, and_true, T3.itOf, T3.seqOf, T3.slOf]
        refine lcL_map (acc := []) (fun d => .bl (inL d (namesD lot))) trivial (namesD r.need) (fun d hd G q' => ?_) ?_ ?_ gName_mono
        · obtain ⟨y, hy, rfl⟩ := List.mem_map.mp hd
          simp only [g0_Wish_after, e1_Wish_after, T3.tRet, T3.tRetN, T3.tSeq, T3.tNext, T3.tAsg, T3.gName, T3.gTupN, T3.gList, T3.tVar, T3.tC, T3.tOp, T3.tNotV, T3.tAndV, T3.tOrV, T3.tB, T3.tAnd, T3.tOr, T3.tNot, T3.tIf, T3.tIfS, T3.tCall, T3.tCB, T3.tCons, T3.tNil, T3.tIsi, T3.ordR, T3.intR, T3.absR, T3.intR1, T3.tChain, T3.tTup, T3.tLst, T3.tLstM, T3.tNever, T3.tDrop, T3.appR, T3.extR, T3.popR, T3.tFld, T3.insOf, T3.tMeth, T3.tMake, T3.sFld, T3.tYes, T3.iAny, T3.tFor, T3.iRng1, T3.iRng2, T3.iEnum, T3.tLc, T3.tLcM, T3.tLc2, T3.wipeD, T3.allR, T3.tSl, T3.tNoPart, T3.tPart, T3.slR, T3.gSub, T3.tRevD, T3.tBreak, T3.tCont, T3.tFrz, T3.startD, T3.fnEnds, T3.tab_ii, T3.tab_ib, T3.tab_ss, T3.tab_ll, T3.tab_lt, T3.tab_tl, T3.tab_tt, Bool.or_true, Bool.true_or, eq_self, List.map_cons, List.map_nil, List.length_cons, List.length_nil, List.cons_append, List.nil_append, List.getElem?_cons_zero, List.getElem?_cons_succ, List.getElem?_nil, List.set_cons_zero, List.set_cons_succ, List.replicate, Nat.sub_self, Nat.reduceAdd, Nat.reduceSub, ite_true, ite_false, if_true, if_false, Bool.not_true, Bool.not_false, reduceCtorEq, Bool.false_eq_true, ↓reduceIte, true_and, and_true, T3.inR, lotD, T3.seqOf, resD, Bool.false_xor]
          exact ⟨ok_str (okr.2.2.1 y hy), ok_all okl.1, q'⟩
        · rw [namesD, List.length_map, List.length_nil]; exact sl65' (by have := okr.2.2.2.2.1; omega)
        simp only [List.nil_append, allR, T3.slOf, all_bls, all_in]
        cases c2 : (r.need.all fun x => decide (x ∈ lot)) with
        | false =>
          simp only [T3.nat_ofNat, decide_true, Bool.not_true, Bool.not_false, Bool.false_eq_true, eq_self, ↓reduceIte, true_and, and_true]
          exact go (by unfold hasR; rw [c1, c2]; rfl)
        | true =>
          simp only [T3.nat_ofNat, decide_true, Bool.not_true, Bool.not_false, Bool.false_eq_true, eq_self, ↓reduceIte, true_and, and_true, T3.itOf, T3.seqOf, T3.slOf]
          refine lcL_map (acc := []) (fun d => .bl (inL d (namesD lot))) trivial (namesD r.bar) (fun d hd G q' => ?_) ?_ ?_ gName_mono
          · obtain ⟨y, hy, rfl⟩ := List.mem_map.mp hd
            simp only [g2_Wish_after, e3_Wish_after, T3.tRet, T3.tRetN, T3.tSeq, T3.tNext, T3.tAsg, T3.gName, T3.gTupN, T3.gList, T3.tVar, T3.tC, T3.tOp, T3.tNotV, T3.tAndV, T3.tOrV, T3.tB, T3.tAnd, T3.tOr, T3.tNot, T3.tIf, T3.tIfS, T3.tCall, T3.tCB, T3.tCons, T3.tNil, T3.tIsi, T3.ordR, T3.intR, T3.absR, T3.intR1, T3.tChain, T3.tTup, T3.tLst, T3.tLstM, T3.tNever, T3.tDrop, T3.appR, T3.extR, T3.popR, T3.tFld, T3.insOf, T3.tMeth, T3.tMake, T3.sFld, T3.tYes, T3.iAny, T3.tFor, T3.iRng1, T3.iRng2, T3.iEnum, T3.tLc, T3.tLcM, T3.tLc2, T3.wipeD, T3.allR, T3.tSl, T3.tNoPart, T3.tPart, T3.slR, T3.gSub, T3.tRevD, T3.tBreak, T3.tCont, T3.tFrz, T3.startD, T3.fnEnds, T3.tab_ii, T3.tab_ib, T3.tab_ss, T3.tab_ll, T3.tab_lt, T3.tab_tl, T3.tab_tt, Bool.or_true, Bool.true_or, eq_self, List.map_cons, List.map_nil, List.length_cons, List.length_nil, List.cons_append, List.nil_append, List.getElem?_cons_zero, List.getElem?_cons_succ, List.getElem?_nil, List.set_cons_zero, List.set_cons_succ, List.replicate, Nat.sub_self, Nat.reduceAdd, Nat.reduceSub, ite_true, ite_false, if_true, if_false, Bool.not_true, Bool.not_false, reduceCtorEq, Bool.false_eq_true, ↓reduceIte, true_and, and_true, T3.inR, lotD, T3.seqOf, resD, Bool.false_xor]
            exact ⟨ok_str (okr.2.2.2.1 y hy), ok_all okl.1, q'⟩
          · rw [namesD, List.length_map, List.length_nil]; exact sl65' (by have := okr.2.2.2.2.2; omega)
          simp only [List.nil_append, allR, T3.slOf, all_bls, any_in]
          cases c3 : (r.bar.any fun x => decide (x ∈ lot)) with
          | true =>
            simp only [T3.nat_ofNat, decide_true, Bool.not_true, Bool.not_false, Bool.false_eq_true, eq_self, ↓reduceIte, true_and, and_true]
            exact go (by unfold hasR; rw [c1, c2, c3]; rfl)
          | false =>
            simp only [T3.nat_ofNat, decide_true, Bool.not_true, Bool.not_false, Bool.false_eq_true, eq_self, ↓reduceIte, true_and, and_true, e1]
            have hh : hasR r st lot = true := by unfold hasR; rw [c1, c2, c3]; rfl
            rw [aft_cons, hh] at ea
            simp only [T3.nat_ofNat, decide_true, Bool.not_true, Bool.not_false, Bool.false_eq_true, eq_self, ↓reduceIte, true_and, and_true] at ea
            rw [ea]
            exact out_as q
    | [], e0 => cases e0
  · rintro σ h1 ⟨rs', a, b, c, d, e, e0, rfl, rfl, ea, _⟩
    match rs', e0 with
    | [], _ =>
      simp only [T3.tRet, T3.tRetN, T3.tSeq, T3.tNext, T3.tAsg, T3.gName, T3.gTupN, T3.gList, T3.tVar, T3.tC, T3.tOp, T3.tNotV, T3.tAndV, T3.tOrV, T3.tB, T3.tAnd, T3.tOr, T3.tNot, T3.tIf, T3.tIfS, T3.tCall, T3.tCB, T3.tCons, T3.tNil, T3.tIsi, T3.ordR, T3.intR, T3.absR, T3.intR1, T3.tChain, T3.tTup, T3.tLst, T3.tLstM, T3.tNever, T3.tDrop, T3.appR, T3.extR, T3.popR, T3.tFld, T3.insOf, T3.tMeth, T3.tMake, T3.sFld, T3.tYes, T3.iAny, T3.tFor, T3.iRng1, T3.iRng2, T3.iEnum, T3.tLc, T3.tLcM, T3.tLc2, T3.wipeD, T3.allR, T3.tSl, T3.tNoPart, T3.tPart, T3.slR, T3.gSub, T3.tRevD, T3.tBreak, T3.tCont, T3.tFrz, T3.startD, T3.fnEnds, T3.tab_ii, T3.tab_ib, T3.tab_ss, T3.tab_ll, T3.tab_lt, T3.tab_tl, T3.tab_tt, Bool.or_true, Bool.true_or, eq_self, List.map_cons, List.map_nil, List.length_cons, List.length_nil, List.cons_append, List.nil_append, List.getElem?_cons_zero, List.getElem?_cons_succ, List.getElem?_nil, List.set_cons_zero, List.set_cons_succ, List.replicate, Nat.sub_self, Nat.reduceAdd, Nat.reduceSub, ite_true, ite_false, if_true, if_false, Bool.not_true, Bool.not_false, reduceCtorEq, Bool.false_eq_true, ↓reduceIte, true_and, and_true]
      rw [aft_nil] at ea
      rw [← ea] at q
      exact out_as q
    | _ :: _, e0 => cases e0
theorem len_Wish_end (C : Addr) : ∀ ds h R, fs_Wish_end C ds h R → ds.length = (["self", "tale", "state"] : List Str).length := by
  rintro ds h R ⟨n, good, rs, tale, st, rfl, q⟩
  rfl
theorem rd_Wish_end (C : Addr) : ∀ ds h R, fs_Wish_end C ds h R → t_Wish_end C (fnEnds R) (startD N_Wish_end ds) h := by
  rintro ds h R ⟨n, good, rs, tale, st, rfl, ok, okt, q⟩
  simp only [t_Wish_end, N_Wish_end, T3.tRet, T3.tRetN, T3.tSeq, T3.tNext, T3.tAsg, T3.gName, T3.gTupN, T3.gList, T3.tVar, T3.tC, T3.tOp, T3.tNotV, T3.tAndV, T3.tOrV, T3.tB, T3.tAnd, T3.tOr, T3.tNot, T3.tIf, T3.tIfS, T3.tCall, T3.tCB, T3.tCons, T3.tNil, T3.tIsi, T3.ordR, T3.intR, T3.absR, T3.intR1, T3.tChain, T3.tTup, T3.tLst, T3.tLstM, T3.tNever, T3.tDrop, T3.appR, T3.extR, T3.popR, T3.tFld, T3.insOf, T3.tMeth, T3.tMake, T3.sFld, T3.tYes, T3.iAny, T3.tFor, T3.iRng1, T3.iRng2, T3.iEnum, T3.tLc, T3.tLcM, T3.tLc2, T3.wipeD, T3.allR, T3.tSl, T3.tNoPart, T3.tPart, T3.slR, T3.gSub, T3.tRevD, T3.tBreak, T3.tCont, T3.tFrz, T3.startD, T3.fnEnds, T3.tab_ii, T3.tab_ib, T3.tab_ss, T3.tab_ll, T3.tab_lt, T3.tab_tl, T3.tab_tt, Bool.or_true, Bool.true_or, eq_self, List.map_cons, List.map_nil, List.length_cons, List.length_nil, List.cons_append, List.nil_append, List.getElem?_cons_zero, List.getElem?_cons_succ, List.getElem?_nil, List.set_cons_zero, List.set_cons_succ, List.replicate, Nat.sub_self, Nat.reduceAdd, Nat.reduceSub, ite_true, ite_false, if_true, if_false, Bool.not_true, Bool.not_false, reduceCtorEq, Bool.false_eq_true, ↓reduceIte, true_and, and_true, taleD, T3.itOf, T3.seqOf]
  refine forL_inv (I := fun l σ h1 => ∃ t' st' a, l = List.map lotD t' ∧ σ = [some (wD C n good rs), some (.tup (List.map lotD tale)), some (.int st'), a] ∧ h1 = h ∧ run rs st' t' = run rs st tale ∧ (∀ l ∈ t', lotOk l)) (fun _ _ _ _ => trivial) ?_ gName_mono ?_ _ ⟨tale, st, none, rfl, rfl, rfl, rfl, okt.1⟩
  · rintro x xs σ h1 ⟨t', st', a, e0, rfl, rfl, ea, ok'⟩
    match t', e0 with
    | l :: t', e0 =>
      cases e0
      simp only [g0_Wish_end, b1_Wish_end, T3.tRet, T3.tRetN, T3.tSeq, T3.tNext, T3.tAsg, T3.gName, T3.gTupN, T3.gList, T3.tVar, T3.tC, T3.tOp, T3.tNotV, T3.tAndV, T3.tOrV, T3.tB, T3.tAnd, T3.tOr, T3.tNot, T3.tIf, T3.tIfS, T3.tCall, T3.tCB, T3.tCons, T3.tNil, T3.tIsi, T3.ordR, T3.intR, T3.absR, T3.intR1, T3.tChain, T3.tTup, T3.tLst, T3.tLstM, T3.tNever, T3.tDrop, T3.appR, T3.extR, T3.popR, T3.tFld, T3.insOf, T3.tMeth, T3.tMake, T3.sFld, T3.tYes, T3.iAny, T3.tFor, T3.iRng1, T3.iRng2, T3.iEnum, T3.tLc, T3.tLcM, T3.tLc2, T3.wipeD, T3.allR, T3.tSl, T3.tNoPart, T3.tPart, T3.slR, T3.gSub, T3.tRevD, T3.tBreak, T3.tCont, T3.tFrz, T3.startD, T3.fnEnds, T3.tab_ii, T3.tab_ib, T3.tab_ss, T3.tab_ll, T3.tab_lt, T3.tab_tl, T3.tab_tt, Bool.or_true, Bool.true_or, eq_self, List.map_cons, List.map_nil, List.length_cons, List.length_nil, List.cons_append, List.nil_append, List.getElem?_cons_zero, List.getElem?_cons_succ, List.getElem?_nil, List.set_cons_zero, List.set_cons_succ, List.replicate, Nat.sub_self, Nat.reduceAdd, Nat.reduceSub, ite_true, ite_false, if_true, if_false, Bool.not_true, Bool.not_false, reduceCtorEq, Bool.false_eq_true, ↓reduceIte, true_and, and_true, wD, T3.insOf, w_no (m := "after") (by decide +kernel) (by decide +kernel) (by decide +kernel)]
      intro E' _ _ e3 _
      refine ⟨n, good, rs, st', l, rfl, ok, ok' l (List.mem_cons_self ..), ?_⟩
      exact e3 _ _ ⟨t', _, _, rfl, rfl, rfl, ea, fun l hl => ok' l (List.mem_cons_of_mem _ hl)⟩
    | [], e0 => cases e0
  · rintro σ h1 ⟨t', st', a, e0, rfl, rfl, ea, _⟩
    match t', e0 with
    | [], _ =>
      simp only [T3.tRet, T3.tRetN, T3.tSeq, T3.tNext, T3.tAsg, T3.gName, T3.gTupN, T3.gList, T3.tVar, T3.tC, T3.tOp, T3.tNotV, T3.tAndV, T3.tOrV, T3.tB, T3.tAnd, T3.tOr, T3.tNot, T3.tIf, T3.tIfS, T3.tCall, T3.tCB, T3.tCons, T3.tNil, T3.tIsi, T3.ordR, T3.intR, T3.absR, T3.intR1, T3.tChain, T3.tTup, T3.tLst, T3.tLstM, T3.tNever, T3.tDrop, T3.appR, T3.extR, T3.popR, T3.tFld, T3.insOf, T3.tMeth, T3.tMake, T3.sFld, T3.tYes, T3.iAny, T3.tFor, T3.iRng1, T3.iRng2, T3.iEnum, T3.tLc, T3.tLcM, T3.tLc2, T3.wipeD, T3.allR, T3.tSl, T3.tNoPart, T3.tPart, T3.slR, T3.gSub, T3.tRevD, T3.tBreak, T3.tCont, T3.tFrz, T3.startD, T3.fnEnds, T3.tab_ii, T3.tab_ib, T3.tab_ss, T3.tab_ll, T3.tab_lt, T3.tab_tl, T3.tab_tt, Bool.or_true, Bool.true_or, eq_self, List.map_cons, List.map_nil, List.length_cons, List.length_nil, List.cons_append, List.nil_append, List.getElem?_cons_zero, List.getElem?_cons_succ, List.getElem?_nil, List.set_cons_zero, List.set_cons_succ, List.replicate, Nat.sub_self, Nat.reduceAdd, Nat.reduceSub, ite_true, ite_false, if_true, if_false, Bool.not_true, Bool.not_false, reduceCtorEq, Bool.false_eq_true, ↓reduceIte, true_and, and_true]
      rw [← ea] at q
      exact out_as q
    | _ :: _, e0 => cases e0
theorem len_Wish_takes (C : Addr) : ∀ ds h R, fs_Wish_takes C ds h R → ds.length = (["self", "tale"] : List Str).length := by
  rintro ds h R ⟨n, good, rs, tale, rfl, q⟩
  rfl
theorem ints_ok {n : Nat} (l : List Int) : (l.map D.int).all (okD n) = true := by
  rw [List.all_map]
  exact List.all_eq_true.mpr fun _ _ => by cases n <;> rfl
theorem rd_Wish_takes (C : Addr) : ∀ ds h R, fs_Wish_takes C ds h R → t_Wish_takes C (fnEnds R) (startD N_Wish_takes ds) h := by
  rintro ds h R ⟨n, good, rs, tale, rfl, ok, okt, q⟩
  simp only [t_Wish_takes, N_Wish_takes, T3.tRet, T3.tRetN, T3.tSeq, T3.tNext, T3.tAsg, T3.gName, T3.gTupN, T3.gList, T3.tVar, T3.tC, T3.tOp, T3.tNotV, T3.tAndV, T3.tOrV, T3.tB, T3.tAnd, T3.tOr, T3.tNot, T3.tIf, T3.tIfS, T3.tCall, T3.tCB, T3.tCons, T3.tNil, T3.tIsi, T3.ordR, T3.intR, T3.absR, T3.intR1, T3.tChain, T3.tTup, T3.tLst, T3.tLstM, T3.tNever, T3.tDrop, T3.appR, T3.extR, T3.popR, T3.tFld, T3.insOf, T3.tMeth, T3.tMake, T3.sFld, T3.tYes, T3.iAny, T3.tFor, T3.iRng1, T3.iRng2, T3.iEnum, T3.tLc, T3.tLcM, T3.tLc2, T3.wipeD, T3.allR, T3.tSl, T3.tNoPart, T3.tPart, T3.slR, T3.gSub, T3.tRevD, T3.tBreak, T3.tCont, T3.tFrz, T3.startD, T3.fnEnds, T3.tab_ii, T3.tab_ib, T3.tab_ss, T3.tab_ll, T3.tab_lt, T3.tab_tl, T3.tab_tt, Bool.or_true, Bool.true_or, eq_self, List.map_cons, List.map_nil, List.length_cons, List.length_nil, List.cons_append, List.nil_append, List.getElem?_cons_zero, List.getElem?_cons_succ, List.getElem?_nil, List.set_cons_zero, List.set_cons_succ, List.replicate, Nat.sub_self, Nat.reduceAdd, Nat.reduceSub, ite_true, ite_false, if_true, if_false, Bool.not_true, Bool.not_false, reduceCtorEq, Bool.false_eq_true, ↓reduceIte, true_and, and_true, wD, T3.insOf, w_gd, w_no (m := "end") (by decide +kernel) (by decide +kernel) (by decide +kernel)]
  refine ⟨_, _, rfl, n, good, rs, tale, 0, rfl, ok, okt, ?_⟩
  simp only [T3.inR, T3.seqOf, resD, Bool.false_xor, inL_ints]
  exact ⟨rfl, ints_ok _, out_as q⟩
end K50

/-! k50: the readings of the makers of wishes. -/
namespace K50
open PySem PySem.Spec L2 T3
open PyProof.Rows hiding St

theorem stepsAre_rD {h : AH} : ∀ rs : List Rule, stepsAre h (rs.map rD) rs
  | [] => trivial
  | r :: rs => ⟨⟨_, _, rfl, rfl, rfl⟩, stepsAre_rD rs⟩
theorem stepsAre_sD {h : AH} : ∀ rs : List Rule, stepsAre h (rs.map sD) rs
  | [] => trivial
  | r :: rs => ⟨⟨_, _, rfl, rfl, rfl⟩, stepsAre_sD rs⟩
/-- Wish(..) -/
theorem mk_go {C : Addr} {h : AH} {n : Int} {g st : D} {good : List Int} {rs : List Rule} {sl : List D} {Q : QD} (eg : seqOf h g = some (good.map .int)) (es : seqOf h st = some sl) (st' : stepsAre h sl rs) (ok : wOk n good rs) (q : Q (mk C n good rs) h) :
    ∀ x, h x = none → fs_Wish_init C [.ref x, .int n, g, st] (ud h x (.ins C [])) fun d h2 => d = .non ∧ match h2 x with
      | some (.ins C' fl) => C' = C ∧ Q (.ins C fl) (er h2 x)
      | _ => False := by
  intro x hx
  refine ⟨x, n, g, st, good, rs, sl, rfl, ud_same, seqOf_ud (no_lst hx) eg, seqOf_ud (no_lst hx) es, stepsAre_ud (no_lst hx) st', ok, rfl, ?_⟩
  rw [ud_ud, ud_same]
  refine ⟨rfl, ?_⟩
  rw [er_ud hx]
  exact q
theorem ruleOk_of {n one two : Int} {need bar : List Str} (h1 : 0 ≤ one) (h2 : one < n) (h3 : 0 ≤ two) (h4 : two < n) (h5 : ∀ x ∈ need, nameOk x = true) (h6 : ∀ x ∈ bar, nameOk x = true) (h7 : need.length ≤ 100) (h8 : bar.length ≤ 100) : ruleOk n ⟨one, need, bar, two⟩ := ⟨⟨h1, h2⟩, ⟨h3, h4⟩, h5, h6, h7, h8⟩
theorem name1 {b : Str} (h : nameOk b = true) : ∀ x ∈ [b], nameOk x = true := fun x hx => by
  have : x = b := by simpa using hx
  rw [this]; exact h
theorem name0 : ∀ x ∈ ([] : List Str), nameOk x = true := fun x hx => by cases hx
theorem len1 {b : Str} : [b].length ≤ 100 := (by decide : 1 ≤ 100)
theorem len0 : ([] : List Str).length ≤ 100 := (by decide : 0 ≤ 100)
theorem len_wish_rings (C : Addr) : ∀ ds h R, fs_wish_rings C ds h R → ds.length = (["bell", "times"] : List Str).length := by
  rintro ds h R ⟨b, t, rfl, q⟩
  rfl
theorem rd_wish_rings (C : Addr) : ∀ ds h R, fs_wish_rings C ds h R → t_wish_rings C (fnEnds R) (startD N_wish_rings ds) h := by
  rintro ds h R ⟨b, t, rfl, hb, t1, t2, q⟩
  simp only [t_wish_rings, N_wish_rings, T3.tRet, T3.tRetN, T3.tSeq, T3.tNext, T3.tAsg, T3.gName, T3.gTupN, T3.gList, T3.tVar, T3.tC, T3.tOp, T3.tNotV, T3.tAndV, T3.tOrV, T3.tB, T3.tAnd, T3.tOr, T3.tNot, T3.tIf, T3.tIfS, T3.tCall, T3.tCB, T3.tCons, T3.tNil, T3.tIsi, T3.isR, T3.isR2, T3.isRC, T3.tyOf, T3.ordR, T3.intR, T3.addR, T3.addM, T3.ixR, T3.lenR, T3.absR, T3.intR1, T3.tChain, T3.tTup, T3.tLst, T3.tLstM, T3.tNever, T3.tDrop, T3.tBM, T3.isTy, T3.appR, T3.extR, T3.popR, T3.tFld, T3.insOf, T3.tMeth, T3.tMake, T3.sFld, T3.tYes, T3.iAny, T3.tFor, T3.iRng1, T3.iRng2, T3.iEnum, T3.tLc, T3.tLcM, T3.tLc2, T3.wipeD, T3.seqOf, T3.lstOf, T3.slOf, T3.itOf, T3.tupR, T3.listR, T3.tAsc, T3.allR, T3.sortR, T3.tSl, T3.tNoPart, T3.tPart, T3.slR, T3.gSub, T3.tRevD, T3.tBreak, T3.tCont, T3.tFrz, T3.startD, T3.fnEnds, T3.tab_ii, T3.tab_ib, T3.tab_ss, T3.tab_ll, T3.tab_lt, T3.tab_tl, T3.tab_tt, Bool.or_true, Bool.true_or, eq_self, List.map_cons, List.map_nil, List.length_cons, List.length_nil, List.cons_append, List.nil_append, List.getElem?_cons_zero, List.getElem?_cons_succ, List.getElem?_nil, List.set_cons_zero, List.set_cons_succ, List.replicate, Nat.sub_self, Nat.reduceAdd, Nat.reduceSub, ite_true, ite_false, if_true, if_false, Bool.not_true, Bool.not_false, reduceCtorEq, Bool.false_eq_true, ↓reduceIte, true_and, and_true]
  refine ⟨_, rfl, ?_⟩
  have e1 : decide (t < 1) = false := decide_eq_false (by omega)
  simp only [T3.nat_ofNat, decide_true, Bool.not_true, Bool.not_false, Bool.false_eq_true, eq_self, ↓reduceIte, true_and, and_true, e1]
  refine ⟨sl65' (by decide), ⟨by omega, by omega⟩, ?_⟩
  refine lcL_map (acc := []) (fun d => match d with | .int i => rD ⟨i, [b], [], i + 1⟩ | d => d) trivial _ (fun d hd G q' => ?_) ?_ ?_ gName_mono
  · unfold rangeD at hd
    obtain ⟨c, hcm, rfl⟩ := List.mem_map.mp hd
    simp only [g0_wish_rings, e1_wish_rings, T3.tRet, T3.tRetN, T3.tSeq, T3.tNext, T3.tAsg, T3.gName, T3.gTupN, T3.gList, T3.tVar, T3.tC, T3.tOp, T3.tNotV, T3.tAndV, T3.tOrV, T3.tB, T3.tAnd, T3.tOr, T3.tNot, T3.tIf, T3.tIfS, T3.tCall, T3.tCB, T3.tCons, T3.tNil, T3.tIsi, T3.isR, T3.isR2, T3.isRC, T3.tyOf, T3.ordR, T3.intR, T3.addR, T3.addM, T3.ixR, T3.lenR, T3.absR, T3.intR1, T3.tChain, T3.tTup, T3.tLst, T3.tLstM, T3.tNever, T3.tDrop, T3.tBM, T3.isTy, T3.appR, T3.extR, T3.popR, T3.tFld, T3.insOf, T3.tMeth, T3.tMake, T3.sFld, T3.tYes, T3.iAny, T3.tFor, T3.iRng1, T3.iRng2, T3.iEnum, T3.tLc, T3.tLcM, T3.tLc2, T3.wipeD, T3.seqOf, T3.lstOf, T3.slOf, T3.itOf, T3.tupR, T3.listR, T3.tAsc, T3.allR, T3.sortR, T3.tSl, T3.tNoPart, T3.tPart, T3.slR, T3.gSub, T3.tRevD, T3.tBreak, T3.tCont, T3.tFrz, T3.startD, T3.fnEnds, T3.tab_ii, T3.tab_ib, T3.tab_ss, T3.tab_ll, T3.tab_lt, T3.tab_tl, T3.tab_tt, Bool.or_true, Bool.true_or, eq_self, List.map_cons, List.map_nil, List.length_cons, List.length_nil, List.cons_append, List.nil_append, List.getElem?_cons_zero, List.getElem?_cons_succ, List.getElem?_nil, List.set_cons_zero, List.set_cons_succ, List.replicate, Nat.sub_self, Nat.reduceAdd, Nat.reduceSub, ite_true, ite_false, if_true, if_false, Bool.not_true, Bool.not_false, reduceCtorEq, Bool.false_eq_true, ↓reduceIte, true_and, and_true]
    exact ⟨sl65' (by decide), sl65' (by decide), sl65' (by decide), q'⟩
  · unfold rangeD; rw [List.length_map, List.length_range, List.length_nil]; exact sl65' (by omega)
  have es : (rangeD 0 t.toNat).map (fun d => match d with | .int i => rD ⟨i, [b], [], i + 1⟩ | d => d) = (ringsR b t).map rD := by
    unfold rangeD ringsR
    rw [List.map_map, List.map_map]
    apply List.map_congr_left
    intro i _
    show rD ⟨0 + (i : Int), [b], [], 0 + (i : Int) + 1⟩ = _
    rw [Int.zero_add]; rfl
  rw [List.nil_append, es]
  refine mk_go (Q := fun d h => ∃ h2 d2, Out h d h2 d2 ∧ R d2 h2) (good := [t]) rfl rfl (stepsAre_rD _) ⟨⟨by omega, by omega⟩, ?_, (show 1 ≤ 1000 by decide), ?_, ?_⟩ (out_as q)
  · intro i hi
    have : i = t := by simpa using hi
    omega
  · intro r hr
    unfold ringsR at hr
    obtain ⟨i, hi, rfl⟩ := List.mem_map.mp hr
    have hi' : i < t.toNat := by simpa using hi
    exact ruleOk_of (by omega) (by omega) (by omega) (by omega) (name1 hb) name0 len1 len0
  · unfold ringsR; rw [List.length_map, List.length_range]; omega
theorem len_wish_ahead (C : Addr) : ∀ ds h R, fs_wish_ahead C ds h R → ds.length = (["one", "other"] : List Str).length := by
  rintro ds h R ⟨b, t, rfl, q⟩
  rfl
theorem rd_wish_ahead (C : Addr) : ∀ ds h R, fs_wish_ahead C ds h R → t_wish_ahead C (fnEnds R) (startD N_wish_ahead ds) h := by
  rintro ds h R ⟨a, b, rfl, ha, hb, q⟩
  simp only [t_wish_ahead, N_wish_ahead, T3.tRet, T3.tRetN, T3.tSeq, T3.tNext, T3.tAsg, T3.gName, T3.gTupN, T3.gList, T3.tVar, T3.tC, T3.tOp, T3.tNotV, T3.tAndV, T3.tOrV, T3.tB, T3.tAnd, T3.tOr, T3.tNot, T3.tIf, T3.tIfS, T3.tCall, T3.tCB, T3.tCons, T3.tNil, T3.tIsi, T3.isR, T3.isR2, T3.isRC, T3.tyOf, T3.ordR, T3.intR, T3.addR, T3.addM, T3.ixR, T3.lenR, T3.absR, T3.intR1, T3.tChain, T3.tTup, T3.tLst, T3.tLstM, T3.tNever, T3.tDrop, T3.tBM, T3.isTy, T3.appR, T3.extR, T3.popR, T3.tFld, T3.insOf, T3.tMeth, T3.tMake, T3.sFld, T3.tYes, T3.iAny, T3.tFor, T3.iRng1, T3.iRng2, T3.iEnum, T3.tLc, T3.tLcM, T3.tLc2, T3.wipeD, T3.seqOf, T3.lstOf, T3.slOf, T3.itOf, T3.tupR, T3.listR, T3.tAsc, T3.allR, T3.sortR, T3.tSl, T3.tNoPart, T3.tPart, T3.slR, T3.gSub, T3.tRevD, T3.tBreak, T3.tCont, T3.tFrz, T3.startD, T3.fnEnds, T3.tab_ii, T3.tab_ib, T3.tab_ss, T3.tab_ll, T3.tab_lt, T3.tab_tl, T3.tab_tt, Bool.or_true, Bool.true_or, eq_self, List.map_cons, List.map_nil, List.length_cons, List.length_nil, List.cons_append, List.nil_append, List.getElem?_cons_zero, List.getElem?_cons_succ, List.getElem?_nil, List.set_cons_zero, List.set_cons_succ, List.replicate, Nat.sub_self, Nat.reduceAdd, Nat.reduceSub, ite_true, ite_false, if_true, if_false, Bool.not_true, Bool.not_false, reduceCtorEq, Bool.false_eq_true, ↓reduceIte, true_and, and_true]
  refine ⟨sl65' (by decide), sl65' (by decide), sl65' (by decide), sl65' (by decide), sl65' (by decide), sl65' (by decide), sl65' (by decide), sl65' (by decide), ?_⟩
  refine mk_go (Q := fun d h => ∃ h2 d2, Out h d h2 d2 ∧ R d2 h2) (n := 3) (good := [1]) rfl rfl (stepsAre_rD (aheadR a b)) ⟨⟨by decide, by decide⟩, ?_, by decide, ?_, (show 2 ≤ 10000 by decide)⟩ (out_as q)
  · intro i hi
    have : i = 1 := by simpa using hi
    omega
  · intro r hr
    have : r = ⟨0, [b], [], 2⟩ ∨ r = ⟨0, [a], [], 1⟩ := by simpa [aheadR] using hr
    rcases this with rfl | rfl
    · exact ruleOk_of (by decide) (by decide) (by decide) (by decide) (name1 hb) name0 len1 len0
    · exact ruleOk_of (by decide) (by decide) (by decide) (by decide) (name1 ha) name0 len1 len0
theorem len_wish_last (C : Addr) : ∀ ds h R, fs_wish_last C ds h R → ds.length = (["bell"] : List Str).length := by
  rintro ds h R ⟨b, rfl, q⟩
  rfl
theorem rd_wish_last (C : Addr) : ∀ ds h R, fs_wish_last C ds h R → t_wish_last C (fnEnds R) (startD N_wish_last ds) h := by
  rintro ds h R ⟨b, rfl, hb, q⟩
  simp only [t_wish_last, N_wish_last, T3.tRet, T3.tRetN, T3.tSeq, T3.tNext, T3.tAsg, T3.gName, T3.gTupN, T3.gList, T3.tVar, T3.tC, T3.tOp, T3.tNotV, T3.tAndV, T3.tOrV, T3.tB, T3.tAnd, T3.tOr, T3.tNot, T3.tIf, T3.tIfS, T3.tCall, T3.tCB, T3.tCons, T3.tNil, T3.tIsi, T3.isR, T3.isR2, T3.isRC, T3.tyOf, T3.ordR, T3.intR, T3.addR, T3.addM, T3.ixR, T3.lenR, T3.absR, T3.intR1, T3.tChain, T3.tTup, T3.tLst, T3.tLstM, T3.tNever, T3.tDrop, T3.tBM, T3.isTy, T3.appR, T3.extR, T3.popR, T3.tFld, T3.insOf, T3.tMeth, T3.tMake, T3.sFld, T3.tYes, T3.iAny, T3.tFor, T3.iRng1, T3.iRng2, T3.iEnum, T3.tLc, T3.tLcM, T3.tLc2, T3.wipeD, T3.seqOf, T3.lstOf, T3.slOf, T3.itOf, T3.tupR, T3.listR, T3.tAsc, T3.allR, T3.sortR, T3.tSl, T3.tNoPart, T3.tPart, T3.slR, T3.gSub, T3.tRevD, T3.tBreak, T3.tCont, T3.tFrz, T3.startD, T3.fnEnds, T3.tab_ii, T3.tab_ib, T3.tab_ss, T3.tab_ll, T3.tab_lt, T3.tab_tl, T3.tab_tt, Bool.or_true, Bool.true_or, eq_self, List.map_cons, List.map_nil, List.length_cons, List.length_nil, List.cons_append, List.nil_append, List.getElem?_cons_zero, List.getElem?_cons_succ, List.getElem?_nil, List.set_cons_zero, List.set_cons_succ, List.replicate, Nat.sub_self, Nat.reduceAdd, Nat.reduceSub, ite_true, ite_false, if_true, if_false, Bool.not_true, Bool.not_false, reduceCtorEq, Bool.false_eq_true, ↓reduceIte, true_and, and_true]
  refine ⟨sl65' (by decide), sl65' (by decide), sl65' (by decide), sl65' (by decide), sl65' (by decide), sl65' (by decide), sl65' (by decide), sl65' (by decide), ?_⟩
  refine mk_go (Q := fun d h => ∃ h2 d2, Out h d h2 d2 ∧ R d2 h2) (n := 2) (good := [1]) rfl rfl (stepsAre_rD (lastR b)) ⟨⟨by decide, by decide⟩, ?_, by decide, ?_, (show 2 ≤ 10000 by decide)⟩ (out_as q)
  · intro i hi
    have : i = 1 := by simpa using hi
    omega
  · intro r hr
    have : r = ⟨0, [b], [], 1⟩ ∨ r = ⟨1, [], [b], 0⟩ := by simpa [lastR] using hr
    rcases this with rfl | rfl
    · exact ruleOk_of (by decide) (by decide) (by decide) (by decide) (name1 hb) name0 len1 len0
    · exact ruleOk_of (by decide) (by decide) (by decide) (by decide) name0 (name1 hb) len0 len1
theorem mem_upto {n i : Int} : i ∈ upto n ↔ 0 ≤ i ∧ i < n := by
  unfold upto
  rw [List.mem_map]
  constructor
  · rintro ⟨k, hk, rfl⟩
    have : k < n.toNat := by simpa using hk
    omega
  · rintro ⟨h1, h2⟩
    exact ⟨i.toNat, by simp; omega, by omega⟩
theorem len_upto {n : Int} : (upto n).length = n.toNat := by unfold upto; simp
theorem len_wish_denied (C : Addr) : ∀ ds h R, fs_wish_denied C ds h R → ds.length = (["wish"] : List Str).length := by
  rintro ds h R ⟨n, good, rs, rfl, q⟩
  rfl
theorem rd_wish_denied (C : Addr) : ∀ ds h R, fs_wish_denied C ds h R → t_wish_denied C (fnEnds R) (startD N_wish_denied ds) h := by
  rintro ds h R ⟨n, good, rs, rfl, ok, q⟩
  simp only [t_wish_denied, N_wish_denied, T3.tRet, T3.tRetN, T3.tSeq, T3.tNext, T3.tAsg, T3.gName, T3.gTupN, T3.gList, T3.tVar, T3.tC, T3.tOp, T3.tNotV, T3.tAndV, T3.tOrV, T3.tB, T3.tAnd, T3.tOr, T3.tNot, T3.tIf, T3.tIfS, T3.tCall, T3.tCB, T3.tCons, T3.tNil, T3.tIsi, T3.isR, T3.isR2, T3.isRC, T3.tyOf, T3.ordR, T3.intR, T3.addR, T3.addM, T3.ixR, T3.lenR, T3.absR, T3.intR1, T3.tChain, T3.tTup, T3.tLst, T3.tLstM, T3.tNever, T3.tDrop, T3.tBM, T3.isTy, T3.appR, T3.extR, T3.popR, T3.tFld, T3.insOf, T3.tMeth, T3.tMake, T3.sFld, T3.tYes, T3.iAny, T3.tFor, T3.iRng1, T3.iRng2, T3.iEnum, T3.tLc, T3.tLcM, T3.tLc2, T3.wipeD, T3.seqOf, T3.lstOf, T3.slOf, T3.itOf, T3.tupR, T3.listR, T3.tAsc, T3.allR, T3.sortR, T3.tSl, T3.tNoPart, T3.tPart, T3.slR, T3.gSub, T3.tRevD, T3.tBreak, T3.tCont, T3.tFrz, T3.startD, T3.fnEnds, T3.tab_ii, T3.tab_ib, T3.tab_ss, T3.tab_ll, T3.tab_lt, T3.tab_tl, T3.tab_tt, Bool.or_true, Bool.true_or, eq_self, List.map_cons, List.map_nil, List.length_cons, List.length_nil, List.cons_append, List.nil_append, List.getElem?_cons_zero, List.getElem?_cons_succ, List.getElem?_nil, List.set_cons_zero, List.set_cons_succ, List.replicate, Nat.sub_self, Nat.reduceAdd, Nat.reduceSub, ite_true, ite_false, if_true, if_false, Bool.not_true, Bool.not_false, reduceCtorEq, Bool.false_eq_true, ↓reduceIte, true_and, and_true, wD, w_st, w_gd, w_sp]
  have hn := ok.1
  refine ⟨⟨by omega, by omega⟩, ?_⟩
  refine lcL_pure (acc := []) (fun d => !(inL d (good.map .int))) id trivial _ (fun d hd F G hF hG F' G' hF' hG' => ?_) ?_ ?_
  · unfold rangeD at hd
    obtain ⟨c, hcm, rfl⟩ := List.mem_map.mp hd
    simp only [g0_wish_denied, c1_wish_denied, e2_wish_denied, T3.tRet, T3.tRetN, T3.tSeq, T3.tNext, T3.tAsg, T3.gName, T3.gTupN, T3.gList, T3.tVar, T3.tC, T3.tOp, T3.tNotV, T3.tAndV, T3.tOrV, T3.tB, T3.tAnd, T3.tOr, T3.tNot, T3.tIf, T3.tIfS, T3.tCall, T3.tCB, T3.tCons, T3.tNil, T3.tIsi, T3.isR, T3.isR2, T3.isRC, T3.tyOf, T3.ordR, T3.intR, T3.addR, T3.addM, T3.ixR, T3.lenR, T3.absR, T3.intR1, T3.tChain, T3.tTup, T3.tLst, T3.tLstM, T3.tNever, T3.tDrop, T3.tBM, T3.isTy, T3.appR, T3.extR, T3.popR, T3.tFld, T3.insOf, T3.tMeth, T3.tMake, T3.sFld, T3.tYes, T3.iAny, T3.tFor, T3.iRng1, T3.iRng2, T3.iEnum, T3.tLc, T3.tLcM, T3.tLc2, T3.wipeD, T3.seqOf, T3.lstOf, T3.slOf, T3.itOf, T3.tupR, T3.listR, T3.tAsc, T3.allR, T3.sortR, T3.tSl, T3.tNoPart, T3.tPart, T3.slR, T3.gSub, T3.tRevD, T3.tBreak, T3.tCont, T3.tFrz, T3.startD, T3.fnEnds, T3.tab_ii, T3.tab_ib, T3.tab_ss, T3.tab_ll, T3.tab_lt, T3.tab_tl, T3.tab_tt, Bool.or_true, Bool.true_or, eq_self, List.map_cons, List.map_nil, List.length_cons, List.length_nil, List.cons_append, List.nil_append, List.getElem?_cons_zero, List.getElem?_cons_succ, List.getElem?_nil, List.set_cons_zero, List.set_cons_succ, List.replicate, Nat.sub_self, Nat.reduceAdd, Nat.reduceSub, ite_true, ite_false, if_true, if_false, Bool.not_true, Bool.not_false, reduceCtorEq, Bool.false_eq_true, ↓reduceIte, true_and, and_true, T3.inR, resD, wD, w_gd, Bool.true_xor]
    refine ⟨rfl, ints_ok _, ?_⟩
    cases e : inL (.int (0 + (c : Int))) (good.map .int) with
    | true => simp only [T3.nat_ofNat, decide_true, Bool.not_true, Bool.not_false, Bool.false_eq_true, eq_self, ↓reduceIte, true_and, and_true]; exact hF' (hF (by simp only [e, Bool.not_true]))
    | false => simp only [T3.nat_ofNat, decide_true, Bool.not_true, Bool.not_false, Bool.false_eq_true, eq_self, ↓reduceIte, true_and, and_true]; exact hG' _ (hG (by simp only [e, Bool.not_false]))
  · unfold rangeD; rw [List.length_map, List.length_range, List.length_nil]; exact sl65' (by omega)
  have es : ((rangeD 0 n.toNat).filter fun d => !(inL d (good.map .int))).map id = (compl n good).map D.int := by
    rw [List.map_id, rangeD_upto, List.filter_map]
    unfold compl upto
    congr 1
    apply List.filter_congr
    intro i _
    show (!(inL (.int i) (good.map .int))) = !(decide (i ∈ good))
    rw [inL_ints]
  rw [List.nil_append, es]
  have hc : ∀ i ∈ compl n good, 0 ≤ i ∧ i < n := fun i hi => mem_upto.mp (List.mem_filter.mp hi).1
  refine mk_go (Q := fun d h => ∃ h2 d2, Out h d h2 d2 ∧ R d2 h2) (good := compl n good) rfl rfl (stepsAre_rD rs) ⟨ok.1, hc, ?_, ok.2.2.2⟩ (out_as q)
  have := List.length_filter_le (fun i => !decide (i ∈ good)) (upto n)
  rw [len_upto] at this
  show (List.filter _ _).length ≤ _
  omega
theorem len_wish_met (C : Addr) : ∀ ds h R, fs_wish_met C ds h R → ds.length = (["wish"] : List Str).length := by
  rintro ds h R ⟨n, good, rs, rfl, q⟩
  rfl
def oneOf : D → D
  | .tup (d :: _) => d
  | d => d
theorem rd_wish_met (C : Addr) : ∀ ds h R, fs_wish_met C ds h R → t_wish_met C (fnEnds R) (startD N_wish_met ds) h := by
  rintro ds h R ⟨n, good, rs, rfl, ok, q⟩
  simp only [t_wish_met, N_wish_met, T3.tRet, T3.tRetN, T3.tSeq, T3.tNext, T3.tAsg, T3.gName, T3.gTupN, T3.gList, T3.tVar, T3.tC, T3.tOp, T3.tNotV, T3.tAndV, T3.tOrV, T3.tB, T3.tAnd, T3.tOr, T3.tNot, T3.tIf, T3.tIfS, T3.tCall, T3.tCB, T3.tCons, T3.tNil, T3.tIsi, T3.isR, T3.isR2, T3.isRC, T3.tyOf, T3.ordR, T3.intR, T3.addR, T3.addM, T3.ixR, T3.lenR, T3.absR, T3.intR1, T3.tChain, T3.tTup, T3.tLst, T3.tLstM, T3.tNever, T3.tDrop, T3.tBM, T3.isTy, T3.appR, T3.extR, T3.popR, T3.tFld, T3.insOf, T3.tMeth, T3.tMake, T3.sFld, T3.tYes, T3.iAny, T3.tFor, T3.iRng1, T3.iRng2, T3.iEnum, T3.tLc, T3.tLcM, T3.tLc2, T3.wipeD, T3.seqOf, T3.lstOf, T3.slOf, T3.itOf, T3.tupR, T3.listR, T3.tAsc, T3.allR, T3.sortR, T3.tSl, T3.tNoPart, T3.tPart, T3.slR, T3.gSub, T3.tRevD, T3.tBreak, T3.tCont, T3.tFrz, T3.startD, T3.fnEnds, T3.tab_ii, T3.tab_ib, T3.tab_ss, T3.tab_ll, T3.tab_lt, T3.tab_tl, T3.tab_tt, Bool.or_true, Bool.true_or, eq_self, List.map_cons, List.map_nil, List.length_cons, List.length_nil, List.cons_append, List.nil_append, List.getElem?_cons_zero, List.getElem?_cons_succ, List.getElem?_nil, List.set_cons_zero, List.set_cons_succ, List.replicate, Nat.sub_self, Nat.reduceAdd, Nat.reduceSub, ite_true, ite_false, if_true, if_false, Bool.not_true, Bool.not_false, reduceCtorEq, Bool.false_eq_true, ↓reduceIte, true_and, and_true, wD, w_st, w_gd, w_sp]
  refine lcL_pure (acc := []) (fun d => !(inL (oneOf d) (good.map .int))) id trivial _ (fun d hd F G hF hG F' G' hF' hG' => ?_) ?_ ?_
  · obtain ⟨r, hr, rfl⟩ := List.mem_map.mp hd
    simp only [g0_wish_met, c1_wish_met, e2_wish_met, T3.tRet, T3.tRetN, T3.tSeq, T3.tNext, T3.tAsg, T3.gName, T3.gTupN, T3.gList, T3.tVar, T3.tC, T3.tOp, T3.tNotV, T3.tAndV, T3.tOrV, T3.tB, T3.tAnd, T3.tOr, T3.tNot, T3.tIf, T3.tIfS, T3.tCall, T3.tCB, T3.tCons, T3.tNil, T3.tIsi, T3.ordR, T3.intR, T3.absR, T3.intR1, T3.tChain, T3.tTup, T3.tLst, T3.tLstM, T3.tNever, T3.tDrop, T3.appR, T3.extR, T3.popR, T3.tFld, T3.insOf, T3.tMeth, T3.tMake, T3.sFld, T3.tYes, T3.iAny, T3.tFor, T3.iRng1, T3.iRng2, T3.iEnum, T3.tLc, T3.tLcM, T3.tLc2, T3.wipeD, T3.allR, T3.tSl, T3.tNoPart, T3.tPart, T3.slR, T3.gSub, T3.tRevD, T3.tBreak, T3.tCont, T3.tFrz, T3.startD, T3.fnEnds, T3.tab_ii, T3.tab_ib, T3.tab_ss, T3.tab_ll, T3.tab_lt, T3.tab_tl, T3.tab_tt, Bool.or_true, Bool.true_or, eq_self, List.map_cons, List.map_nil, List.length_cons, List.length_nil, List.cons_append, List.nil_append, List.getElem?_cons_zero, List.getElem?_cons_succ, List.getElem?_nil, List.set_cons_zero, List.set_cons_succ, List.replicate, Nat.sub_self, Nat.reduceAdd, Nat.reduceSub, ite_true, ite_false, if_true, if_false, Bool.not_true, Bool.not_false, reduceCtorEq, Bool.false_eq_true, ↓reduceIte, true_and, and_true, wD, T3.insOf, w_gd]
    refine ixR_seq (l := [.int r.one, .tup (namesD r.need), .tup (namesD r.bar), .int r.two]) rfl (i := 0) rfl ?_
    simp only [T3.inR, T3.seqOf, resD, wD, w_gd, Bool.true_xor]
    refine ⟨rfl, ints_ok _, ?_⟩
    cases e : inL (.int r.one) (good.map .int) with
    | true => simp only [T3.nat_ofNat, decide_true, Bool.not_true, Bool.not_false, Bool.false_eq_true, eq_self, ↓reduceIte, true_and, and_true]; exact hF' (hF (by show (!(inL (.int r.one) (good.map .int))) = false; rw [e]; rfl))
    | false => simp only [T3.nat_ofNat, decide_true, Bool.not_true, Bool.not_false, Bool.false_eq_true, eq_self, ↓reduceIte, true_and, and_true]; exact hG' _ (hG (by show (!(inL (.int r.one) (good.map .int))) = true; rw [e]; rfl))
  · rw [List.length_map, List.length_nil]; exact sl65' (by have := ok.2.2.2.2; omega)
  have es : ((rs.map rD).filter fun d => !(inL (oneOf d) (good.map .int))).map id = (metR good rs).map rD := by
    rw [List.map_id, List.filter_map]
    unfold metR
    congr 1
    apply List.filter_congr
    intro r _
    show (!(inL (.int r.one) (good.map .int))) = !(decide (r.one ∈ good))
    rw [inL_ints]
  rw [List.nil_append, es]
  refine mk_go (Q := fun d h => ∃ h2 d2, Out h d h2 d2 ∧ R d2 h2) (good := good) rfl rfl (stepsAre_rD (metR good rs)) ⟨ok.1, ok.2.1, ok.2.2.1, fun r hr => ok.2.2.2.1 r (List.mem_filter.mp hr).1, ?_⟩ (out_as q)
  exact Nat.le_trans (List.length_filter_le _ _) ok.2.2.2.2
def fbO (st : Int) (d : D) : Bool := match oneOf d with
  | .int a => decide (a = st)
  | _ => false
def fvO : D → D
  | .tup [_, a, b, c] => .tup [a, b, c]
  | d => d
theorem len_open_steps (C : Addr) : ∀ ds h R, fs_open_steps C ds h R → ds.length = (["wish", "state"] : List Str).length := by
  rintro ds h R ⟨n, good, rs, st, rfl, q⟩
  rfl
theorem rd_open_steps (C : Addr) : ∀ ds h R, fs_open_steps C ds h R → t_open_steps C (fnEnds R) (startD N_open_steps ds) h := by
  rintro ds h R ⟨n, good, rs, st, rfl, ok, q⟩
  simp only [t_open_steps, N_open_steps, T3.tRet, T3.tRetN, T3.tSeq, T3.tNext, T3.tAsg, T3.gName, T3.gTupN, T3.gList, T3.tVar, T3.tC, T3.tOp, T3.tNotV, T3.tAndV, T3.tOrV, T3.tB, T3.tAnd, T3.tOr, T3.tNot, T3.tIf, T3.tIfS, T3.tCall, T3.tCB, T3.tCons, T3.tNil, T3.tIsi, T3.isR, T3.isR2, T3.isRC, T3.tyOf, T3.ordR, T3.intR, T3.addR, T3.addM, T3.ixR, T3.lenR, T3.absR, T3.intR1, T3.tChain, T3.tTup, T3.tLst, T3.tLstM, T3.tNever, T3.tDrop, T3.tBM, T3.isTy, T3.appR, T3.extR, T3.popR, T3.tFld, T3.insOf, T3.tMeth, T3.tMake, T3.sFld, T3.tYes, T3.iAny, T3.tFor, T3.iRng1, T3.iRng2, T3.iEnum, T3.tLc, T3.tLcM, T3.tLc2, T3.wipeD, T3.seqOf, T3.lstOf, T3.slOf, T3.itOf, T3.tupR, T3.listR, T3.tAsc, T3.allR, T3.sortR, T3.tSl, T3.tNoPart, T3.tPart, T3.slR, T3.gSub, T3.tRevD, T3.tBreak, T3.tCont, T3.tFrz, T3.startD, T3.fnEnds, T3.tab_ii, T3.tab_ib, T3.tab_ss, T3.tab_ll, T3.tab_lt, T3.tab_tl, T3.tab_tt, Bool.or_true, Bool.true_or, eq_self, List.map_cons, List.map_nil, List.length_cons, List.length_nil, List.cons_append, List.nil_append, List.getElem?_cons_zero, List.getElem?_cons_succ, List.getElem?_nil, List.set_cons_zero, List.set_cons_succ, List.replicate, Nat.sub_self, Nat.reduceAdd, Nat.reduceSub, ite_true, ite_false, if_true, if_false, Bool.not_true, Bool.not_false, reduceCtorEq, Bool.false_eq_true, ↓reduceIte, true_and, and_true, wD, w_st, w_gd, w_sp]
  refine lcL_pure (acc := []) (fbO st) fvO trivial _ (fun d hd F G hF hG F' G' hF' hG' => ?_) ?_ ?_
  · obtain ⟨r, hr, rfl⟩ := List.mem_map.mp hd
    simp only [g0_open_steps, c1_open_steps, e2_open_steps, rD, T3.tRet, T3.tRetN, T3.tSeq, T3.tNext, T3.tAsg, T3.gName, T3.gTupN, T3.gList, T3.tVar, T3.tC, T3.tOp, T3.tNotV, T3.tAndV, T3.tOrV, T3.tB, T3.tAnd, T3.tOr, T3.tNot, T3.tIf, T3.tIfS, T3.tCall, T3.tCB, T3.tCons, T3.tNil, T3.tIsi, T3.isR, T3.isR2, T3.isRC, T3.tyOf, T3.ordR, T3.intR, T3.addR, T3.addM, T3.ixR, T3.lenR, T3.absR, T3.intR1, T3.tChain, T3.tTup, T3.tLst, T3.tLstM, T3.tNever, T3.tDrop, T3.tBM, T3.isTy, T3.appR, T3.extR, T3.popR, T3.tFld, T3.insOf, T3.tMeth, T3.tMake, T3.sFld, T3.tYes, T3.iAny, T3.tFor, T3.iRng1, T3.iRng2, T3.iEnum, T3.tLc, T3.tLcM, T3.tLc2, T3.wipeD, T3.seqOf, T3.lstOf, T3.slOf, T3.itOf, T3.tupR, T3.listR, T3.tAsc, T3.allR, T3.sortR, T3.tSl, T3.tNoPart, T3.tPart, T3.slR, T3.gSub, T3.tRevD, T3.tBreak, T3.tCont, T3.tFrz, T3.startD, T3.fnEnds, T3.tab_ii, T3.tab_ib, T3.tab_ss, T3.tab_ll, T3.tab_lt, T3.tab_tl, T3.tab_tt, Bool.or_true, Bool.true_or, eq_self, List.map_cons, List.map_nil, List.length_cons, List.length_nil, List.cons_append, List.nil_append, List.getElem?_cons_zero, List.getElem?_cons_succ, List.getElem?_nil, List.set_cons_zero, List.set_cons_succ, List.replicate, Nat.sub_self, Nat.reduceAdd, Nat.reduceSub, ite_true, ite_false, if_true, if_false, Bool.not_true, Bool.not_false, reduceCtorEq, Bool.false_eq_true, ↓reduceIte, true_and, and_true, T3.eqR, resD, eqD_int]
    refine ⟨rfl, rfl, ?_⟩
    cases e : decide (r.one = st) with
    | true => simp only [T3.nat_ofNat, decide_true, Bool.not_true, Bool.not_false, Bool.false_eq_true, eq_self, ↓reduceIte, true_and, and_true]; exact ⟨sl65' (by decide), hG' _ (hG e)⟩
    | false => simp only [T3.nat_ofNat, decide_true, Bool.not_true, Bool.not_false, Bool.false_eq_true, eq_self, ↓reduceIte, true_and, and_true]; exact hF' (hF e)
  · rw [List.length_map, List.length_nil]; exact sl65' (by have := ok.2.2.2.2; omega)
  have es : ((rs.map rD).filter (fbO st)).map fvO = ((rs.filter fun r => decide (r.one = st)).map fun r => (r.need, r.bar, r.two)).map oD := by
    rw [List.filter_map, List.map_map, List.map_map]; rfl
  have hl : ((rs.map rD).filter (fbO st)).length ≤ 10000 := by
    have := List.length_filter_le (fbO st) (rs.map rD)
    rw [List.length_map] at this
    have := ok.2.2.2.2
    omega
  refine ⟨sl65' (by decide), sl65' (by decide), sl65' (by decide), sl65' (by decide), ?_⟩
  rw [List.nil_append, List.length_map]
  refine ⟨sl65' (by omega), ?_⟩
  rw [es]
  refine out_as ?_
  have : opn rs st = ((rs.filter fun r => decide (r.one = st)).map fun r => (r.need, r.bar, r.two)) ++ [([], [], st)] := rfl
  rw [this, List.map_append] at q
  exact q
end K50

/-! k50: the readings of paired wishes. -/
namespace K50
open PySem PySem.Spec L2 T3
open PyProof.Rows hiding St

def tripOk (n : Int) (x : List Str × List Str × Int) : Prop := (0 ≤ x.2.2 ∧ x.2.2 < n) ∧ x.1.length ≤ 50 ∧ x.2.1.length ≤ 50 ∧ (∀ y ∈ x.1, nameOk y = true) ∧ ∀ y ∈ x.2.1, nameOk y = true
theorem opn_ok {n : Int} {g : List Int} {rs : List Rule} {i : Int} (w : wSm n g rs) (h0 : 0 ≤ i) (h1 : i < n) : (∀ x ∈ opn rs i, tripOk n x) ∧ (opn rs i).length ≤ 7 := by
  unfold opn
  constructor
  · intro x hx
    rcases List.mem_append.mp hx with hx | hx
    · obtain ⟨r, hr, rfl⟩ := List.mem_map.mp hx
      have hr := (List.mem_filter.mp hr).1
      have ok := w.1.2.2.2.1 r hr
      have l := w.2.2.2.2 r hr
      exact ⟨ok.2.1, l.1, l.2, ok.2.2.1, ok.2.2.2.1⟩
    · have : x = ([], [], i) := by simpa using hx
      subst this
      exact ⟨⟨h0, h1⟩, (by decide : 0 ≤ 50), (by decide : 0 ≤ 50), name0, name0⟩
  · rw [List.length_append, List.length_map]
    have := List.length_filter_le (fun r => decide (r.one = i)) rs
    have := w.2.2.2.1
    show _ + 1 ≤ 7
    omega
def pR (i j n2 : Int) (x y : List Str × List Str × Int) : Rule := ⟨i * n2 + j, x.1 ++ y.1, x.2.1 ++ y.2.1, x.2.2 * n2 + y.2.2⟩
theorem small_mul {i n : Int} (h0 : 0 ≤ i) (h1 : i < n) (h3 : n ≤ 3) : CMul i n' := .inl ⟨by omega, by omega⟩
theorem pair4 {C : Addr} {h : AH} {p : Addr} {E : EndsD} {w1 w2 g : D} {i j n1 n2 : Int} {x : List Str × List Str × Int} {ok : AH → Prop} (hok : ∀ h, ok h) (hi : 0 ≤ i ∧ i < n1) (hx : tripOk n1 x) (h3 : n1 ≤ 3) : ∀ (ys : List (List Str × List Str × Int)) (acc : List Rule) (a b c : Option D), acc.length + ys.length ≤ 10000 → (∀ y ∈ ys, tripOk n2 y) →
    (∀ a b c, E.nx [some w1, some w2, some g, some (.int n2), some (.ref p), some (.int i), some (.int j), some (.tup (namesD x.1)), some (.tup (namesD x.2.1)), some (.int x.2.2), a, b, c] (ud h p (.lst ((acc ++ ys.map (pR i j n2 x)).map rD)))) →
    forL ok (g0_paired_wish C) (b1_paired_wish C) E (ys.map oD) [some w1, some w2, some g, some (.int n2), some (.ref p), some (.int i), some (.int j), some (.tup (namesD x.1)), some (.tup (namesD x.2.1)), some (.int x.2.2), a, b, c] (ud h p (.lst (acc.map rD)))
  | [], acc, a, b, c, _, _, q => ⟨hok _, by have := q a b c; rw [List.map_nil, List.append_nil] at this; exact this⟩
  | y :: ys, acc, a, b, c, hl, hy, q => by
    have hl' : acc.length + (ys.length + 1) ≤ 10000 := hl
    have oy := hy y (List.mem_cons_self ..)
    refine ⟨hok _, ?_⟩
    simp only [g0_paired_wish, b1_paired_wish, oD, T3.tRet, T3.tRetN, T3.tSeq, T3.tNext, T3.tAsg, T3.gName, T3.gTupN, T3.gList, T3.tVar, T3.tC, T3.tOp, T3.tNotV, T3.tAndV, T3.tOrV, T3.tB, T3.tAnd, T3.tOr, T3.tNot, T3.tIf, T3.tIfS, T3.tCall, T3.tCB, T3.tCons, T3.tNil, T3.tIsi, T3.ordR, T3.intR, T3.absR, T3.intR1, T3.tChain, T3.tTup, T3.tLst, T3.tLstM, T3.tNever, T3.tDrop, T3.appR, T3.extR, T3.popR, T3.tFld, T3.insOf, T3.tMeth, T3.tMake, T3.sFld, T3.tYes, T3.iAny, T3.tFor, T3.iRng1, T3.iRng2, T3.iEnum, T3.tLc, T3.tLcM, T3.tLc2, T3.wipeD, T3.allR, T3.tSl, T3.tNoPart, T3.tPart, T3.slR, T3.gSub, T3.tRevD, T3.tBreak, T3.tCont, T3.tFrz, T3.startD, T3.fnEnds, T3.tab_ii, T3.tab_ib, T3.tab_ss, T3.tab_ll, T3.tab_lt, T3.tab_tl, T3.tab_tt, Bool.or_true, Bool.true_or, eq_self, List.map_cons, List.map_nil, List.length_cons, List.length_nil, List.cons_append, List.nil_append, List.getElem?_cons_zero, List.getElem?_cons_succ, List.getElem?_nil, List.set_cons_zero, List.set_cons_succ, List.replicate, Nat.sub_self, Nat.reduceAdd, Nat.reduceSub, ite_true, ite_false, if_true, if_false, Bool.not_true, Bool.not_false, reduceCtorEq, Bool.false_eq_true, ↓reduceIte, true_and, and_true, T3.tBM, T3.isTy, T3.slOf, T3.addR, ud_same, Option.isSome, namesD, List.length_map]
    have ci : ∀ (z : Int), 0 ≤ z → z < n1 → CMul z n2 := fun z h0 h1 => .inl ⟨by omega, by omega⟩
    have := hx.2.1
    have := hx.2.2.1
    have := oy.2.1
    have := oy.2.2.1
    refine ⟨ci i hi.1 hi.2, sl65' (by omega), sl65' (by omega), ci _ hx.1.1 hx.1.2, sl65' (by decide), sl65 (by omega), ?_⟩
    rw [ud_ud]
    have step := pair4 (C := C) (h := h) (p := p) (E := E) (w1 := w1) (w2 := w2) (g := g) (j := j) (n2 := n2) hok hi hx h3 ys (acc ++ [pR i j n2 x y]) (some (.tup (namesD y.1))) (some (.tup (namesD y.2.1))) (some (.int y.2.2)) (by rw [List.length_append]; show acc.length + 1 + _ ≤ _; omega) (fun z hz => hy z (List.mem_cons_of_mem _ hz))
      (fun a b c => by have := q a b c; rw [List.append_assoc]; exact this)
    have e : ((acc ++ [pR i j n2 x y]).map rD) = acc.map rD ++ [.tup [.int (i * n2 + j), .tup (x.1.map D.str ++ y.1.map D.str), .tup (x.2.1.map D.str ++ y.2.1.map D.str), .int (x.2.2 * n2 + y.2.2)]] := by
      rw [List.map_append]
      simp only [List.map_cons, List.map_nil, rD, pR, namesD, List.map_append]
    rw [e] at step
    exact step
theorem pair3 {C : Addr} {h : AH} {p : Addr} {E : EndsD} {g : D} {i j n1 n2 : Int} {g1 g2 : List Int} {r1 r2 : List Rule} {ok : AH → Prop} (hok : ∀ h, ok h) (o1 : wSm n1 g1 r1) (o2 : wSm n2 g2 r2) (hi : 0 ≤ i ∧ i < n1) (hj : 0 ≤ j ∧ j < n2) : ∀ (xs : List (List Str × List Str × Int)) (acc : List Rule) (a b c d e f : Option D), acc.length + xs.length * 7 ≤ 10000 → (∀ y ∈ xs, tripOk n1 y) →
    (∀ a b c d e f, E.nx [some (wD C n1 g1 r1), some (wD C n2 g2 r2), some g, some (.int n2), some (.ref p), some (.int i), some (.int j), a, b, c, d, e, f] (ud h p (.lst ((acc ++ xs.flatMap fun x => (opn r2 j).map (pR i j n2 x)).map rD)))) →
    forL ok (g2_paired_wish C) (b3_paired_wish C) E (xs.map oD) [some (wD C n1 g1 r1), some (wD C n2 g2 r2), some g, some (.int n2), some (.ref p), some (.int i), some (.int j), a, b, c, d, e, f] (ud h p (.lst (acc.map rD)))
  | [], acc, a, b, c, d, e, f, _, _, q => ⟨hok _, by have := q a b c d e f; rw [List.flatMap_nil, List.append_nil] at this; exact this⟩
  | x :: xs, acc, a, b, c, d, e, f, hl, hx, q => by
    have hl' : acc.length + (xs.length + 1) * 7 ≤ 10000 := hl
    have ox := hx x (List.mem_cons_self ..)
    obtain ⟨oo, ol⟩ := opn_ok o2 hj.1 hj.2
    refine ⟨hok _, ?_⟩
    simp only [g2_paired_wish, b3_paired_wish, oD, T3.tRet, T3.tRetN, T3.tSeq, T3.tNext, T3.tAsg, T3.gName, T3.gTupN, T3.gList, T3.tVar, T3.tC, T3.tOp, T3.tNotV, T3.tAndV, T3.tOrV, T3.tB, T3.tAnd, T3.tOr, T3.tNot, T3.tIf, T3.tIfS, T3.tCall, T3.tCB, T3.tCons, T3.tNil, T3.tIsi, T3.ordR, T3.intR, T3.absR, T3.intR1, T3.tChain, T3.tTup, T3.tLst, T3.tLstM, T3.tNever, T3.tDrop, T3.appR, T3.extR, T3.popR, T3.tFld, T3.insOf, T3.tMeth, T3.tMake, T3.sFld, T3.tYes, T3.iAny, T3.tFor, T3.iRng1, T3.iRng2, T3.iEnum, T3.tLc, T3.tLcM, T3.tLc2, T3.wipeD, T3.allR, T3.tSl, T3.tNoPart, T3.tPart, T3.slR, T3.gSub, T3.tRevD, T3.tBreak, T3.tCont, T3.tFrz, T3.startD, T3.fnEnds, T3.tab_ii, T3.tab_ib, T3.tab_ss, T3.tab_ll, T3.tab_lt, T3.tab_tl, T3.tab_tt, Bool.or_true, Bool.true_or, eq_self, List.map_cons, List.map_nil, List.length_cons, List.length_nil, List.cons_append, List.nil_append, List.getElem?_cons_zero, List.getElem?_cons_succ, List.getElem?_nil, List.set_cons_zero, List.set_cons_succ, List.replicate, Nat.sub_self, Nat.reduceAdd, Nat.reduceSub, ite_true, ite_false, if_true, if_false, Bool.not_true, Bool.not_false, reduceCtorEq, Bool.false_eq_true, ↓reduceIte, true_and, and_true]
    refine ⟨n2, g2, r2, j, rfl, o2.1, ?_⟩
    simp only [T3.itOf, T3.seqOf]
    refine pair4 (fun _ => trivial) hi ox o1.2.1 (opn r2 j) acc _ _ _ (by omega) oo fun a' b' c' => ?_
    refine pair3 hok o1 o2 hi hj xs (acc ++ (opn r2 j).map (pR i j n2 x)) _ _ _ _ _ _ (by rw [List.length_append, List.length_map]; omega) (fun z hz => hx z (List.mem_cons_of_mem _ hz)) fun a b c d e f => ?_
    have := q a b c d e f
    rw [List.flatMap_cons, ← List.append_assoc] at this
    exact this
theorem pair2 {C : Addr} {h : AH} {p : Addr} {E : EndsD} {g : D} {i n1 n2 : Int} {g1 g2 : List Int} {r1 r2 : List Rule} {ok : AH → Prop} (hok : ∀ h, ok h) (o1 : wSm n1 g1 r1) (o2 : wSm n2 g2 r2) (hi : 0 ≤ i ∧ i < n1) : ∀ (js : List Int) (acc : List Rule) (a b c d e f k : Option D), acc.length + js.length * 49 ≤ 10000 → (∀ j ∈ js, 0 ≤ j ∧ j < n2) →
    (∀ a b c d e f k, E.nx [some (wD C n1 g1 r1), some (wD C n2 g2 r2), some g, some (.int n2), some (.ref p), some (.int i), a, b, c, d, e, f, k] (ud h p (.lst ((acc ++ js.flatMap fun j => (opn r1 i).flatMap fun x => (opn r2 j).map (pR i j n2 x)).map rD)))) →
    forL ok (g4_paired_wish C) (b5_paired_wish C) E (js.map D.int) [some (wD C n1 g1 r1), some (wD C n2 g2 r2), some g, some (.int n2), some (.ref p), some (.int i), a, b, c, d, e, f, k] (ud h p (.lst (acc.map rD)))
  | [], acc, a, b, c, d, e, f, k, _, _, q => ⟨hok _, by have := q a b c d e f k; rw [List.flatMap_nil, List.append_nil] at this; exact this⟩
  | j :: js, acc, a, b, c, d, e, f, k, hl, hj, q => by
    have hl' : acc.length + (js.length + 1) * 49 ≤ 10000 := hl
    have oj := hj j (List.mem_cons_self ..)
    obtain ⟨oo, ol⟩ := opn_ok o1 hi.1 hi.2
    obtain ⟨oo2, ol2⟩ := opn_ok o2 oj.1 oj.2
    refine ⟨hok _, ?_⟩
    simp only [g4_paired_wish, b5_paired_wish, T3.tRet, T3.tRetN, T3.tSeq, T3.tNext, T3.tAsg, T3.gName, T3.gTupN, T3.gList, T3.tVar, T3.tC, T3.tOp, T3.tNotV, T3.tAndV, T3.tOrV, T3.tB, T3.tAnd, T3.tOr, T3.tNot, T3.tIf, T3.tIfS, T3.tCall, T3.tCB, T3.tCons, T3.tNil, T3.tIsi, T3.ordR, T3.intR, T3.absR, T3.intR1, T3.tChain, T3.tTup, T3.tLst, T3.tLstM, T3.tNever, T3.tDrop, T3.appR, T3.extR, T3.popR, T3.tFld, T3.insOf, T3.tMeth, T3.tMake, T3.sFld, T3.tYes, T3.iAny, T3.tFor, T3.iRng1, T3.iRng2, T3.iEnum, T3.tLc, T3.tLcM, T3.tLc2, T3.wipeD, T3.allR, T3.tSl, T3.tNoPart, T3.tPart, T3.slR, T3.gSub, T3.tRevD, T3.tBreak, T3.tCont, T3.tFrz, T3.startD, T3.fnEnds, T3.tab_ii, T3.tab_ib, T3.tab_ss, T3.tab_ll, T3.tab_lt, T3.tab_tl, T3.tab_tt, Bool.or_true, Bool.true_or, eq_self, List.map_cons, List.map_nil, List.length_cons, List.length_nil, List.cons_append, List.nil_append, List.getElem?_cons_zero, List.getElem?_cons_succ, List.getElem?_nil, List.set_cons_zero, List.set_cons_succ, List.replicate, Nat.sub_self, Nat.reduceAdd, Nat.reduceSub, ite_true, ite_false, if_true, if_false, Bool.not_true, Bool.not_false, reduceCtorEq, Bool.false_eq_true, ↓reduceIte, true_and, and_true]
    refine ⟨n1, g1, r1, i, rfl, o1.1, ?_⟩
    simp only [T3.itOf, T3.seqOf]
    refine pair3 (fun _ => trivial) o1 o2 hi oj (opn r1 i) acc _ _ _ _ _ _ (by omega) oo fun a' b' c' d' e' f' => ?_
    have lm : ∀ l : List (List Str × List Str × Int), (l.flatMap fun x => (opn r2 j).map (pR i j n2 x)).length = l.length * (opn r2 j).length := by
      intro l
      induction l with
      | nil => simp
      | cons y l ih => rw [List.flatMap_cons, List.length_append, ih, List.length_map, List.length_cons, Nat.succ_mul, Nat.add_comm]
    have : (opn r1 i).length * (opn r2 j).length ≤ 7 * 7 := Nat.mul_le_mul ol ol2
    refine pair2 hok o1 o2 hi js (acc ++ (opn r1 i).flatMap fun x => (opn r2 j).map (pR i j n2 x)) _ _ _ _ _ _ _ (by rw [List.length_append, lm]; omega) (fun z hz => hj z (List.mem_cons_of_mem _ hz)) fun a b c d e f k => ?_
    have := q a b c d e f k
    rw [List.flatMap_cons, ← List.append_assoc] at this
    exact this
theorem pair1 {C : Addr} {h : AH} {p : Addr} {E : EndsD} {g : D} {n1 n2 : Int} {g1 g2 : List Int} {r1 r2 : List Rule} {ok : AH → Prop} (hok : ∀ h, ok h) (o1 : wSm n1 g1 r1) (o2 : wSm n2 g2 r2) : ∀ (is : List Int) (acc : List Rule) (a b c d e f k l : Option D), acc.length + is.length * 147 ≤ 10000 → (∀ i ∈ is, 0 ≤ i ∧ i < n1) →
    (∀ a b c d e f k l, E.nx [some (wD C n1 g1 r1), some (wD C n2 g2 r2), some g, some (.int n2), some (.ref p), a, b, c, d, e, f, k, l] (ud h p (.lst ((acc ++ is.flatMap fun i => (upto n2).flatMap fun j => (opn r1 i).flatMap fun x => (opn r2 j).map (pR i j n2 x)).map rD)))) →
    forL ok (g6_paired_wish C) (b7_paired_wish C) E (is.map D.int) [some (wD C n1 g1 r1), some (wD C n2 g2 r2), some g, some (.int n2), some (.ref p), a, b, c, d, e, f, k, l] (ud h p (.lst (acc.map rD)))
  | [], acc, a, b, c, d, e, f, k, l, _, _, q => ⟨hok _, by have := q a b c d e f k l; rw [List.flatMap_nil, List.append_nil] at this; exact this⟩
  | i :: is, acc, a, b, c, d, e, f, k, l, hl, hi, q => by
    have hl' : acc.length + (is.length + 1) * 147 ≤ 10000 := hl
    have oi := hi i (List.mem_cons_self ..)
    have n2' := o2.2.1
    have n2'' := o2.1.1
    refine ⟨hok _, ?_⟩
    simp only [g6_paired_wish, b7_paired_wish, T3.tRet, T3.tRetN, T3.tSeq, T3.tNext, T3.tAsg, T3.gName, T3.gTupN, T3.gList, T3.tVar, T3.tC, T3.tOp, T3.tNotV, T3.tAndV, T3.tOrV, T3.tB, T3.tAnd, T3.tOr, T3.tNot, T3.tIf, T3.tIfS, T3.tCall, T3.tCB, T3.tCons, T3.tNil, T3.tIsi, T3.ordR, T3.intR, T3.absR, T3.intR1, T3.tChain, T3.tTup, T3.tLst, T3.tLstM, T3.tNever, T3.tDrop, T3.appR, T3.extR, T3.popR, T3.tFld, T3.insOf, T3.tMeth, T3.tMake, T3.sFld, T3.tYes, T3.iAny, T3.tFor, T3.iRng1, T3.iRng2, T3.iEnum, T3.tLc, T3.tLcM, T3.tLc2, T3.wipeD, T3.allR, T3.tSl, T3.tNoPart, T3.tPart, T3.slR, T3.gSub, T3.tRevD, T3.tBreak, T3.tCont, T3.tFrz, T3.startD, T3.fnEnds, T3.tab_ii, T3.tab_ib, T3.tab_ss, T3.tab_ll, T3.tab_lt, T3.tab_tl, T3.tab_tt, Bool.or_true, Bool.true_or, eq_self, List.map_cons, List.map_nil, List.length_cons, List.length_nil, List.cons_append, List.nil_append, List.getElem?_cons_zero, List.getElem?_cons_succ, List.getElem?_nil, List.set_cons_zero, List.set_cons_succ, List.replicate, Nat.sub_self, Nat.reduceAdd, Nat.reduceSub, ite_true, ite_false, if_true, if_false, Bool.not_true, Bool.not_false, reduceCtorEq, Bool.false_eq_true, ↓reduceIte, true_and, and_true]
    refine ⟨⟨by omega, by omega⟩, ?_⟩
    rw [rangeD_upto]
    refine pair2 (fun _ => trivial) o1 o2 oi (upto n2) acc _ _ _ _ _ _ _ (by rw [len_upto]; omega) (fun j hj => mem_upto.mp hj) fun a' b' c' d' e' f' k' => ?_
    have lm : ∀ m : List Int, (∀ j ∈ m, 0 ≤ j ∧ j < n2) → (m.flatMap fun j => (opn r1 i).flatMap fun x => (opn r2 j).map (pR i j n2 x)).length ≤ m.length * 49 := by
      intro m
      induction m with
      | nil => intro _; simp
      | cons j m ih =>
        intro hm
        have oj := hm j (List.mem_cons_self ..)
        have ih := ih fun z hz => hm z (List.mem_cons_of_mem _ hz)
        obtain ⟨_, ol⟩ := opn_ok o1 oi.1 oi.2
        obtain ⟨_, ol2⟩ := opn_ok o2 oj.1 oj.2
        have lm2 : ∀ l : List (List Str × List Str × Int), (l.flatMap fun x => (opn r2 j).map (pR i j n2 x)).length = l.length * (opn r2 j).length := by
          intro l
          induction l with
          | nil => simp
          | cons y l ih => rw [List.flatMap_cons, List.length_append, ih, List.length_map, List.length_cons, Nat.succ_mul, Nat.add_comm]
        have : (opn r1 i).length * (opn r2 j).length ≤ 7 * 7 := Nat.mul_le_mul ol ol2
        rw [List.flatMap_cons, List.length_append, lm2, List.length_cons]
        omega
    have lu := lm (upto n2) fun j hj => mem_upto.mp hj
    rw [len_upto] at lu
    refine pair1 hok o1 o2 is (acc ++ (upto n2).flatMap fun j => (opn r1 i).flatMap fun x => (opn r2 j).map (pR i j n2 x)) _ _ _ _ _ _ _ _ (by rw [List.length_append]; omega) (fun z hz => hi z (List.mem_cons_of_mem _ hz)) fun a b c d e f k l => ?_
    have := q a b c d e f k l
    rw [List.flatMap_cons, ← List.append_assoc] at this
    exact this
theorem pair_lt {n1 n2 i j : Int} (hi : 0 ≤ i ∧ i < n1) (hj : 0 ≤ j ∧ j < n2) : 0 ≤ i * n2 + j ∧ i * n2 + j < n1 * n2 := by
  have h1 : 0 ≤ i * n2 := Int.mul_nonneg hi.1 (by omega)
  have h2 : (i + 1) * n2 ≤ n1 * n2 := Int.mul_le_mul_of_nonneg_right (by omega) (by omega)
  rw [Int.add_mul, Int.one_mul] at h2
  omega
theorem pair_ok {n1 n2 : Int} {g1 g2 : List Int} {r1 r2 : List Rule} {ps : List (Int × Int)} (o1 : wSm n1 g1 r1) (o2 : wSm n2 g2 r2) (hp : ∀ t ∈ ps, (0 ≤ t.1 ∧ t.1 < n1) ∧ 0 ≤ t.2 ∧ t.2 < n2) (hl : ps.length ≤ 9) : wOk (n1 * n2) (ps.map fun t => t.1 * n2 + t.2) (pairR n1 n2 r1 r2) := by
  have a1 := o1.1.1
  have a2 := o2.1.1
  have b1 := o1.2.1
  have b2 := o2.2.1
  refine ⟨⟨?_, ?_⟩, ?_, by rw [List.length_map]; omega, ?_, ?_⟩
  · have : 1 * 1 ≤ n1 * n2 := Int.mul_le_mul a1.1 a2.1 (by decide) (by omega)
    omega
  · have : n1 * n2 ≤ 3 * 3 := Int.mul_le_mul b1 b2 (by omega) (by decide)
    omega
  · intro i hi
    obtain ⟨t, ht, rfl⟩ := List.mem_map.mp hi
    exact pair_lt (hp t ht).1 (hp t ht).2
  · intro r hr
    unfold pairR at hr
    obtain ⟨i, hi, hr⟩ := List.mem_flatMap.mp hr
    obtain ⟨j, hj, hr⟩ := List.mem_flatMap.mp hr
    obtain ⟨x, hx, hr⟩ := List.mem_flatMap.mp hr
    obtain ⟨y, hy, rfl⟩ := List.mem_map.mp hr
    have hi := mem_upto.mp hi
    have hj := mem_upto.mp hj
    have ox := (opn_ok o1 hi.1 hi.2).1 x hx
    have oy := (opn_ok o2 hj.1 hj.2).1 y hy
    have p1 := pair_lt hi hj
    have p2 := pair_lt ox.1 oy.1
    refine ruleOk_of p1.1 p1.2 p2.1 p2.2 (fun z hz => ?_) (fun z hz => ?_) (by rw [List.length_append]; have := ox.2.1; have := oy.2.1; omega) (by rw [List.length_append]; have := ox.2.2.1; have := oy.2.2.1; omega)
    · rcases List.mem_append.mp hz with hz | hz
      · exact ox.2.2.2.1 z hz
      · exact oy.2.2.2.1 z hz
    · rcases List.mem_append.mp hz with hz | hz
      · exact ox.2.2.2.2 z hz
      · exact oy.2.2.2.2 z hz
  · have lf : ∀ {α β : Type} (l : List α) (f : α → List β) (k : Nat), (∀ x ∈ l, (f x).length ≤ k) → (l.flatMap f).length ≤ l.length * k := by
      intro α β l f k
      induction l with
      | nil => intro _; simp
      | cons x l ih =>
        intro hh
        have := ih fun z hz => hh z (List.mem_cons_of_mem _ hz)
        have := hh x (List.mem_cons_self ..)
        rw [List.flatMap_cons, List.length_append, List.length_cons, Nat.succ_mul]
        omega
    have : (pairR n1 n2 r1 r2).length ≤ (upto n1).length * 147 := by
      refine lf _ _ _ fun i hi => ?_
      have hi := mem_upto.mp hi
      refine Nat.le_trans (lf (upto n2) _ 49 fun j hj => ?_) (by rw [len_upto]; omega)
      have hj := mem_upto.mp hj
      have l1 := (opn_ok o1 hi.1 hi.2).2
      have l2 := (opn_ok o2 hj.1 hj.2).2
      refine Nat.le_trans (lf (opn r1 i) _ 7 fun x _ => ?_) (by omega)
      rw [List.length_map]; exact l2
    rw [len_upto] at this
    omega
theorem len_paired_wish (C : Addr) : ∀ ds h R, fs_paired_wish C ds h R → ds.length = (["one", "other", "good"] : List Str).length := by
  rintro ds h R ⟨n1, g1, r1, n2, g2, r2, ps, rfl, q⟩
  rfl
def codeD (n2 : Int) : D → D
  | .tup [.int i, .int j] => .int (i * n2 + j)
  | d => d
theorem rd_paired_wish (C : Addr) : ∀ ds h R, fs_paired_wish C ds h R → t_paired_wish C (fnEnds R) (startD N_paired_wish ds) h := by
  rintro ds h R ⟨n1, g1, r1, n2, g2, r2, ps, rfl, o1, o2, hp, hl, q⟩
  have a1 := o1.1.1
  have a2 := o2.1.1
  have b1 := o1.2.1
  have b2 := o2.2.1
  simp only [t_paired_wish, N_paired_wish, T3.tRet, T3.tRetN, T3.tSeq, T3.tNext, T3.tAsg, T3.gName, T3.gTupN, T3.gList, T3.tVar, T3.tC, T3.tOp, T3.tNotV, T3.tAndV, T3.tOrV, T3.tB, T3.tAnd, T3.tOr, T3.tNot, T3.tIf, T3.tIfS, T3.tCall, T3.tCB, T3.tCons, T3.tNil, T3.tIsi, T3.ordR, T3.intR, T3.absR, T3.intR1, T3.tChain, T3.tTup, T3.tLst, T3.tLstM, T3.tNever, T3.tDrop, T3.appR, T3.extR, T3.popR, T3.tFld, T3.insOf, T3.tMeth, T3.tMake, T3.sFld, T3.tYes, T3.iAny, T3.tFor, T3.iRng1, T3.iRng2, T3.iEnum, T3.tLc, T3.tLcM, T3.tLc2, T3.wipeD, T3.allR, T3.tSl, T3.tNoPart, T3.tPart, T3.slR, T3.gSub, T3.tRevD, T3.tBreak, T3.tCont, T3.tFrz, T3.startD, T3.fnEnds, T3.tab_ii, T3.tab_ib, T3.tab_ss, T3.tab_ll, T3.tab_lt, T3.tab_tl, T3.tab_tt, Bool.or_true, Bool.true_or, eq_self, List.map_cons, List.map_nil, List.length_cons, List.length_nil, List.cons_append, List.nil_append, List.getElem?_cons_zero, List.getElem?_cons_succ, List.getElem?_nil, List.set_cons_zero, List.set_cons_succ, List.replicate, Nat.sub_self, Nat.reduceAdd, Nat.reduceSub, ite_true, ite_false, if_true, if_false, Bool.not_true, Bool.not_false, reduceCtorEq, Bool.false_eq_true, ↓reduceIte, true_and, and_true, wD, T3.insOf, w_st]
  refine ⟨Nat.zero_le _, fun p hp' => ?_⟩
  refine ⟨sl65' (by decide), ?_⟩
  refine ⟨⟨by omega, by omega⟩, ?_⟩
  rw [rangeD_upto]
  refine pair1 (fun _ => trivial) o1 o2 (upto n1) [] _ _ _ _ _ _ _ _ (by rw [len_upto]; show 0 + _ ≤ _; omega) (fun j hj => mem_upto.mp hj) fun a b c d e f k l => ?_
  simp only [T3.tRet, T3.tRetN, T3.tSeq, T3.tNext, T3.tAsg, T3.gName, T3.gTupN, T3.gList, T3.tVar, T3.tC, T3.tOp, T3.tNotV, T3.tAndV, T3.tOrV, T3.tB, T3.tAnd, T3.tOr, T3.tNot, T3.tIf, T3.tIfS, T3.tCall, T3.tCB, T3.tCons, T3.tNil, T3.tIsi, T3.ordR, T3.intR, T3.absR, T3.intR1, T3.tChain, T3.tTup, T3.tLst, T3.tLstM, T3.tNever, T3.tDrop, T3.appR, T3.extR, T3.popR, T3.tFld, T3.insOf, T3.tMeth, T3.tMake, T3.sFld, T3.tYes, T3.iAny, T3.tFor, T3.iRng1, T3.iRng2, T3.iEnum, T3.tLc, T3.tLcM, T3.tLc2, T3.wipeD, T3.allR, T3.tSl, T3.tNoPart, T3.tPart, T3.slR, T3.gSub, T3.tRevD, T3.tBreak, T3.tCont, T3.tFrz, T3.startD, T3.fnEnds, T3.tab_ii, T3.tab_ib, T3.tab_ss, T3.tab_ll, T3.tab_lt, T3.tab_tl, T3.tab_tt, Bool.or_true, Bool.true_or, eq_self, List.map_cons, List.map_nil, List.length_cons, List.length_nil, List.cons_append, List.nil_append, List.getElem?_cons_zero, List.getElem?_cons_succ, List.getElem?_nil, List.set_cons_zero, List.set_cons_succ, List.replicate, Nat.sub_self, Nat.reduceAdd, Nat.reduceSub, ite_true, ite_false, if_true, if_false, Bool.not_true, Bool.not_false, reduceCtorEq, Bool.false_eq_true, ↓reduceIte, true_and, and_true, wD, T3.insOf, w_st]
  refine ⟨.inl ⟨by omega, by omega⟩, ?_⟩
  simp only [T3.itOf, T3.seqOf]
  refine lcL_map (acc := []) (codeD n2) trivial _ (fun d hd G q' => ?_) ?_ ?_ (gNames_mono (is := [5, 6]) (n := 2))
  · obtain ⟨t, ht, rfl⟩ := List.mem_map.mp hd
    simp only [g8_paired_wish, e9_paired_wish, pD, T3.tRet, T3.tRetN, T3.tSeq, T3.tNext, T3.tAsg, T3.gName, T3.gTupN, T3.gList, T3.tVar, T3.tC, T3.tOp, T3.tNotV, T3.tAndV, T3.tOrV, T3.tB, T3.tAnd, T3.tOr, T3.tNot, T3.tIf, T3.tIfS, T3.tCall, T3.tCB, T3.tCons, T3.tNil, T3.tIsi, T3.ordR, T3.intR, T3.absR, T3.intR1, T3.tChain, T3.tTup, T3.tLst, T3.tLstM, T3.tNever, T3.tDrop, T3.appR, T3.extR, T3.popR, T3.tFld, T3.insOf, T3.tMeth, T3.tMake, T3.sFld, T3.tYes, T3.iAny, T3.tFor, T3.iRng1, T3.iRng2, T3.iEnum, T3.tLc, T3.tLcM, T3.tLc2, T3.wipeD, T3.allR, T3.tSl, T3.tNoPart, T3.tPart, T3.slR, T3.gSub, T3.tRevD, T3.tBreak, T3.tCont, T3.tFrz, T3.startD, T3.fnEnds, T3.tab_ii, T3.tab_ib, T3.tab_ss, T3.tab_ll, T3.tab_lt, T3.tab_tl, T3.tab_tt, Bool.or_true, Bool.true_or, eq_self, List.map_cons, List.map_nil, List.length_cons, List.length_nil, List.cons_append, List.nil_append, List.getElem?_cons_zero, List.getElem?_cons_succ, List.getElem?_nil, List.set_cons_zero, List.set_cons_succ, List.replicate, Nat.sub_self, Nat.reduceAdd, Nat.reduceSub, ite_true, ite_false, if_true, if_false, Bool.not_true, Bool.not_false, reduceCtorEq, Bool.false_eq_true, ↓reduceIte, true_and, and_true, T3.addR]
    exact ⟨.inl ⟨by have := (hp t ht).1; omega, by have := (hp t ht).1; omega⟩, q'⟩
  · rw [List.length_map, List.length_nil]; exact sl65' (by omega)
  have es : (ps.map pD).map (codeD n2) = (ps.map fun t => t.1 * n2 + t.2).map D.int := by
    rw [List.map_map, List.map_map]; rfl
  rw [List.nil_append, es]
  refine mk_go (Q := fun d h => ∃ h2 d2, Out h d h2 d2 ∧ R d2 h2) (good := ps.map fun t => t.1 * n2 + t.2) rfl ?_ (stepsAre_rD (pairR n1 n2 r1 r2)) (pair_ok o1 o2 hp hl) (out_sub (Sub.refl.ud hp') q)
  show (match ud h p _ p with | some (.lst l) => some l | _ => none) = _
  rw [ud_same]; rfl
end K50

/-! k50: the readings of both, either, of the law's box. -/
namespace K50
open PySem PySem.Spec L2 T3
open PyProof.Rows hiding St

theorem lc2L_flat {ok : AH → Prop} {g g1 : TGD} {tt tt1 : TTD} {ti1 : TID} {te : TED} {vs1 : List Nat} {σ : SD} {Q : List D → AH → Prop} {h : AH} (f : D → List D) (k : Nat) (hok : ok h) : ∀ (l : List D) {acc : List D},
    (∀ x ∈ l, (f x).length ≤ k ∧ ∀ (acc : List D) (F G : List D → AH → Prop), acc.length + (f x).length ≤ 60000 → F (acc ++ f x) h → g x σ h fun σ2 h2 => tt σ2 h2 fun b h3 => if b = true then ti1 σ2 h3 fun l1 ok1 h4 => lcL ok1 g1 tt1 te (wipeD σ2 vs1) l1 acc h4 F else G acc h3) →
    acc.length + l.length * k ≤ 60000 → Q (acc ++ l.flatMap f) h → lc2L ok g tt ti1 g1 tt1 te vs1 σ l acc h Q
  | [], acc, _, _, q => ⟨hok, by simpa using q⟩
  | x :: xs, acc, st, hl, q => by
    have hl' : acc.length + (xs.length + 1) * k ≤ 60000 := hl
    rw [Nat.succ_mul] at hl'
    obtain ⟨l1, s1⟩ := st x (List.mem_cons_self ..)
    refine ⟨hok, s1 acc (fun a h' => lc2L ok g tt ti1 g1 tt1 te vs1 σ xs a h' Q) (fun a h' => lc2L ok g tt ti1 g1 tt1 te vs1 σ xs a h' Q) (by omega) ?_⟩
    refine lc2L_flat f k hok xs (fun y hy => st y (List.mem_cons_of_mem _ hy)) (by rw [List.length_append]; omega) ?_
    rw [List.append_assoc, ← List.flatMap_cons]
    exact q
theorem both_ok {n1 n2 : Int} {g1 g2 : List Int} (h1 : ∀ i ∈ g1, 0 ≤ i ∧ i < n1) (h2 : ∀ i ∈ g2, 0 ≤ i ∧ i < n2) : ∀ t ∈ bothP g1 g2, (0 ≤ t.1 ∧ t.1 < n1) ∧ 0 ≤ t.2 ∧ t.2 < n2 := by
  intro t ht
  unfold bothP at ht
  obtain ⟨i, hi, ht⟩ := List.mem_flatMap.mp ht
  obtain ⟨j, hj, rfl⟩ := List.mem_map.mp ht
  exact ⟨h1 i hi, h2 j hj⟩
theorem both_len (g1 g2 : List Int) : (bothP g1 g2).length = g1.length * g2.length := by
  unfold bothP
  induction g1 with
  | nil => simp
  | cons i g ih => rw [List.flatMap_cons, List.length_append, ih, List.length_map, List.length_cons, Nat.succ_mul, Nat.add_comm]
def pairsD (l2 : List Int) : D → List D
  | .int i => l2.map fun j => pD (i, j)
  | _ => []
theorem pairsD_flat (l1 l2 : List Int) : (l1.map D.int).flatMap (pairsD l2) = (bothP l1 l2).map pD := by
  unfold bothP
  rw [List.map_flatMap, List.flatMap_map]
  congr 1
  funext i
  show l2.map _ = _
  rw [List.map_map]; rfl
theorem len_wish_both (C : Addr) : ∀ ds h R, fs_wish_both C ds h R → ds.length = (["one", "other"] : List Str).length := by
  rintro ds h R ⟨n1, g1, r1, n2, g2, r2, rfl, q⟩
  rfl
theorem rd_wish_both (C : Addr) : ∀ ds h R, fs_wish_both C ds h R → t_wish_both C (fnEnds R) (startD N_wish_both ds) h := by
  rintro ds h R ⟨n1, g1, r1, n2, g2, r2, rfl, o1, o2, q⟩
  simp only [t_wish_both, N_wish_both, T3.tRet, T3.tRetN, T3.tSeq, T3.tNext, T3.tAsg, T3.gName, T3.gTupN, T3.gList, T3.tVar, T3.tC, T3.tOp, T3.tNotV, T3.tAndV, T3.tOrV, T3.tB, T3.tAnd, T3.tOr, T3.tNot, T3.tIf, T3.tIfS, T3.tCall, T3.tCB, T3.tCons, T3.tNil, T3.tIsi, T3.ordR, T3.intR, T3.absR, T3.intR1, T3.tChain, T3.tTup, T3.tLst, T3.tLstM, T3.tNever, T3.tDrop, T3.appR, T3.extR, T3.popR, T3.tFld, T3.insOf, T3.tMeth, T3.tMake, T3.sFld, T3.tYes, T3.iAny, T3.tFor, T3.iRng1, T3.iRng2, T3.iEnum, T3.tLc, T3.tLcM, T3.tLc2, T3.wipeD, T3.allR, T3.tSl, T3.tNoPart, T3.tPart, T3.slR, T3.gSub, T3.tRevD, T3.tBreak, T3.tCont, T3.tFrz, T3.startD, T3.fnEnds, T3.tab_ii, T3.tab_ib, T3.tab_ss, T3.tab_ll, T3.tab_lt, T3.tab_tl, T3.tab_tt, Bool.or_true, Bool.true_or, eq_self, List.map_cons, List.map_nil, List.length_cons, List.length_nil, List.cons_append, List.nil_append, List.getElem?_cons_zero, List.getElem?_cons_succ, List.getElem?_nil, List.set_cons_zero, List.set_cons_succ, List.replicate, Nat.sub_self, Nat.reduceAdd, Nat.reduceSub, ite_true, ite_false, if_true, if_false, Bool.not_true, Bool.not_false, reduceCtorEq, Bool.false_eq_true, ↓reduceIte, true_and, and_true, wD, T3.insOf, w_gd, T3.itOf, T3.seqOf]
  have l1 := o1.2.2.1
  have l2 := o2.2.2.1
  refine lc2L_flat (acc := []) (pairsD g2) 3 trivial _ (fun d hd => ?_) ?_ ?_
  · obtain ⟨i, hi, rfl⟩ := List.mem_map.mp hd
    refine ⟨by show (List.map _ _).length ≤ 3; rw [List.length_map]; exact l2, fun acc F G hl hF => ?_⟩
    simp only [g0_wish_both, i2_wish_both, T3.tRet, T3.tRetN, T3.tSeq, T3.tNext, T3.tAsg, T3.gName, T3.gTupN, T3.gList, T3.tVar, T3.tC, T3.tOp, T3.tNotV, T3.tAndV, T3.tOrV, T3.tB, T3.tAnd, T3.tOr, T3.tNot, T3.tIf, T3.tIfS, T3.tCall, T3.tCB, T3.tCons, T3.tNil, T3.tIsi, T3.ordR, T3.intR, T3.absR, T3.intR1, T3.tChain, T3.tTup, T3.tLst, T3.tLstM, T3.tNever, T3.tDrop, T3.appR, T3.extR, T3.popR, T3.tFld, T3.insOf, T3.tMeth, T3.tMake, T3.sFld, T3.tYes, T3.iAny, T3.tFor, T3.iRng1, T3.iRng2, T3.iEnum, T3.tLc, T3.tLcM, T3.tLc2, T3.wipeD, T3.allR, T3.tSl, T3.tNoPart, T3.tPart, T3.slR, T3.gSub, T3.tRevD, T3.tBreak, T3.tCont, T3.tFrz, T3.startD, T3.fnEnds, T3.tab_ii, T3.tab_ib, T3.tab_ss, T3.tab_ll, T3.tab_lt, T3.tab_tl, T3.tab_tt, Bool.or_true, Bool.true_or, eq_self, List.map_cons, List.map_nil, List.length_cons, List.length_nil, List.cons_append, List.nil_append, List.getElem?_cons_zero, List.getElem?_cons_succ, List.getElem?_nil, List.set_cons_zero, List.set_cons_succ, List.replicate, Nat.sub_self, Nat.reduceAdd, Nat.reduceSub, ite_true, ite_false, if_true, if_false, Bool.not_true, Bool.not_false, reduceCtorEq, Bool.false_eq_true, ↓reduceIte, true_and, and_true, wD, T3.insOf, w_gd, T3.itOf, T3.seqOf]
    refine lcL_map (fun d => match d with | .int j => pD (i, j) | d => d) trivial _ (fun d hd G' q' => ?_) ?_ ?_ gName_mono
    · obtain ⟨j, hj, rfl⟩ := List.mem_map.mp hd
      simp only [g1_wish_both, e3_wish_both, T3.tRet, T3.tRetN, T3.tSeq, T3.tNext, T3.tAsg, T3.gName, T3.gTupN, T3.gList, T3.tVar, T3.tC, T3.tOp, T3.tNotV, T3.tAndV, T3.tOrV, T3.tB, T3.tAnd, T3.tOr, T3.tNot, T3.tIf, T3.tIfS, T3.tCall, T3.tCB, T3.tCons, T3.tNil, T3.tIsi, T3.ordR, T3.intR, T3.absR, T3.intR1, T3.tChain, T3.tTup, T3.tLst, T3.tLstM, T3.tNever, T3.tDrop, T3.appR, T3.extR, T3.popR, T3.tFld, T3.insOf, T3.tMeth, T3.tMake, T3.sFld, T3.tYes, T3.iAny, T3.tFor, T3.iRng1, T3.iRng2, T3.iEnum, T3.tLc, T3.tLcM, T3.tLc2, T3.wipeD, T3.allR, T3.tSl, T3.tNoPart, T3.tPart, T3.slR, T3.gSub, T3.tRevD, T3.tBreak, T3.tCont, T3.tFrz, T3.startD, T3.fnEnds, T3.tab_ii, T3.tab_ib, T3.tab_ss, T3.tab_ll, T3.tab_lt, T3.tab_tl, T3.tab_tt, Bool.or_true, Bool.true_or, eq_self, List.map_cons, List.map_nil, List.length_cons, List.length_nil, List.cons_append, List.nil_append, List.getElem?_cons_zero, List.getElem?_cons_succ, List.getElem?_nil, List.set_cons_zero, List.set_cons_succ, List.replicate, Nat.sub_self, Nat.reduceAdd, Nat.reduceSub, ite_true, ite_false, if_true, if_false, Bool.not_true, Bool.not_false, reduceCtorEq, Bool.false_eq_true, ↓reduceIte, true_and, and_true]
      exact ⟨sl65' (by decide), q'⟩
    · have : (pairsD g2 (.int i)).length = g2.length := by show (List.map _ _).length = _; rw [List.length_map]
      rw [List.length_map]; exact sl65' (by omega)
    · have : (g2.map D.int).map (fun d => match d with | .int j => pD (i, j) | d => d) = pairsD g2 (.int i) := by rw [List.map_map]; rfl
      rw [this]; exact hF
  · rw [List.length_map, List.length_nil]; omega
  rw [List.nil_append, pairsD_flat]
  exact ⟨n1, g1, r1, n2, g2, r2, bothP g1 g2, rfl, o1, o2, both_ok o1.1.2.1 o2.1.2.1, by
    rw [both_len]; exact Nat.mul_le_mul l1 l2, out_as q⟩
theorem len_wish_either (C : Addr) : ∀ ds h R, fs_wish_either C ds h R → ds.length = (["one", "other"] : List Str).length := by
  rintro ds h R ⟨n1, g1, r1, n2, g2, r2, rfl, q⟩
  rfl
def fbE (g1 g2 : List Int) : D → Bool
  | .tup [.int i, .int j] => decide (i ∈ g1) || decide (j ∈ g2)
  | _ => false
theorem rd_wish_either (C : Addr) : ∀ ds h R, fs_wish_either C ds h R → t_wish_either C (fnEnds R) (startD N_wish_either ds) h := by
  rintro ds h R ⟨n1, g1, r1, n2, g2, r2, rfl, o1, o2, q⟩
  simp only [t_wish_either, N_wish_either, T3.tRet, T3.tRetN, T3.tSeq, T3.tNext, T3.tAsg, T3.gName, T3.gTupN, T3.gList, T3.tVar, T3.tC, T3.tOp, T3.tNotV, T3.tAndV, T3.tOrV, T3.tB, T3.tAnd, T3.tOr, T3.tNot, T3.tIf, T3.tIfS, T3.tCall, T3.tCB, T3.tCons, T3.tNil, T3.tIsi, T3.ordR, T3.intR, T3.absR, T3.intR1, T3.tChain, T3.tTup, T3.tLst, T3.tLstM, T3.tNever, T3.tDrop, T3.appR, T3.extR, T3.popR, T3.tFld, T3.insOf, T3.tMeth, T3.tMake, T3.sFld, T3.tYes, T3.iAny, T3.tFor, T3.iRng1, T3.iRng2, T3.iEnum, T3.tLc, T3.tLcM, T3.tLc2, T3.wipeD, T3.allR, T3.tSl, T3.tNoPart, T3.tPart, T3.slR, T3.gSub, T3.tRevD, T3.tBreak, T3.tCont, T3.tFrz, T3.startD, T3.fnEnds, T3.tab_ii, T3.tab_ib, T3.tab_ss, T3.tab_ll, T3.tab_lt, T3.tab_tl, T3.tab_tt, Bool.or_true, Bool.true_or, eq_self, List.map_cons, List.map_nil, List.length_cons, List.length_nil, List.cons_append, List.nil_append, List.getElem?_cons_zero, List.getElem?_cons_succ, List.getElem?_nil, List.set_cons_zero, List.set_cons_succ, List.replicate, Nat.sub_self, Nat.reduceAdd, Nat.reduceSub, ite_true, ite_false, if_true, if_false, Bool.not_true, Bool.not_false, reduceCtorEq, Bool.false_eq_true, ↓reduceIte, true_and, and_true, wD, T3.insOf, w_gd, w_st, T3.itOf, T3.seqOf]
  have l1 := o1.2.2.1
  have l2 := o2.2.2.1
  have a1 := o1.1.1
  have a2 := o2.1.1
  have b1 := o1.2.1
  have b2 := o2.2.1
  refine ⟨⟨by omega, by omega⟩, ?_⟩
  have lu2 : (upto n2).length ≤ 3 := by rw [len_upto]; omega
  have lu1 : (upto n1).length ≤ 3 := by rw [len_upto]; omega
  rw [rangeD_upto]
  refine lc2L_flat (acc := []) (pairsD (upto n2)) 3 trivial ((upto n1).map D.int) (fun d hd => ?_) ?_ ?_
  · obtain ⟨i, hi, rfl⟩ := List.mem_map.mp hd
    refine ⟨by show (List.map _ _).length ≤ 3; rw [List.length_map]; exact lu2, fun acc F G hl hF => ?_⟩
    simp only [g0_wish_either, i2_wish_either, T3.tRet, T3.tRetN, T3.tSeq, T3.tNext, T3.tAsg, T3.gName, T3.gTupN, T3.gList, T3.tVar, T3.tC, T3.tOp, T3.tNotV, T3.tAndV, T3.tOrV, T3.tB, T3.tAnd, T3.tOr, T3.tNot, T3.tIf, T3.tIfS, T3.tCall, T3.tCB, T3.tCons, T3.tNil, T3.tIsi, T3.ordR, T3.intR, T3.absR, T3.intR1, T3.tChain, T3.tTup, T3.tLst, T3.tLstM, T3.tNever, T3.tDrop, T3.appR, T3.extR, T3.popR, T3.tFld, T3.insOf, T3.tMeth, T3.tMake, T3.sFld, T3.tYes, T3.iAny, T3.tFor, T3.iRng1, T3.iRng2, T3.iEnum, T3.tLc, T3.tLcM, T3.tLc2, T3.wipeD, T3.allR, T3.tSl, T3.tNoPart, T3.tPart, T3.slR, T3.gSub, T3.tRevD, T3.tBreak, T3.tCont, T3.tFrz, T3.startD, T3.fnEnds, T3.tab_ii, T3.tab_ib, T3.tab_ss, T3.tab_ll, T3.tab_lt, T3.tab_tl, T3.tab_tt, Bool.or_true, Bool.true_or, eq_self, List.map_cons, List.map_nil, List.length_cons, List.length_nil, List.cons_append, List.nil_append, List.getElem?_cons_zero, List.getElem?_cons_succ, List.getElem?_nil, List.set_cons_zero, List.set_cons_succ, List.replicate, Nat.sub_self, Nat.reduceAdd, Nat.reduceSub, ite_true, ite_false, if_true, if_false, Bool.not_true, Bool.not_false, reduceCtorEq, Bool.false_eq_true, ↓reduceIte, true_and, and_true, wD, T3.insOf, w_st, T3.itOf, T3.seqOf]
    refine ⟨⟨by omega, by omega⟩, ?_⟩
    rw [rangeD_upto]
    refine lcL_map (fun d => match d with | .int j => pD (i, j) | d => d) trivial ((upto n2).map D.int) (fun d hd G' q' => ?_) ?_ ?_ gName_mono
    · obtain ⟨j, hj, rfl⟩ := List.mem_map.mp hd
      simp only [g1_wish_either, e3_wish_either, T3.tRet, T3.tRetN, T3.tSeq, T3.tNext, T3.tAsg, T3.gName, T3.gTupN, T3.gList, T3.tVar, T3.tC, T3.tOp, T3.tNotV, T3.tAndV, T3.tOrV, T3.tB, T3.tAnd, T3.tOr, T3.tNot, T3.tIf, T3.tIfS, T3.tCall, T3.tCB, T3.tCons, T3.tNil, T3.tIsi, T3.ordR, T3.intR, T3.absR, T3.intR1, T3.tChain, T3.tTup, T3.tLst, T3.tLstM, T3.tNever, T3.tDrop, T3.appR, T3.extR, T3.popR, T3.tFld, T3.insOf, T3.tMeth, T3.tMake, T3.sFld, T3.tYes, T3.iAny, T3.tFor, T3.iRng1, T3.iRng2, T3.iEnum, T3.tLc, T3.tLcM, T3.tLc2, T3.wipeD, T3.allR, T3.tSl, T3.tNoPart, T3.tPart, T3.slR, T3.gSub, T3.tRevD, T3.tBreak, T3.tCont, T3.tFrz, T3.startD, T3.fnEnds, T3.tab_ii, T3.tab_ib, T3.tab_ss, T3.tab_ll, T3.tab_lt, T3.tab_tl, T3.tab_tt, Bool.or_true, Bool.true_or, eq_self, List.map_cons, List.map_nil, List.length_cons, List.length_nil, List.cons_append, List.nil_append, List.getElem?_cons_zero, List.getElem?_cons_succ, List.getElem?_nil, List.set_cons_zero, List.set_cons_succ, List.replicate, Nat.sub_self, Nat.reduceAdd, Nat.reduceSub, ite_true, ite_false, if_true, if_false, Bool.not_true, Bool.not_false, reduceCtorEq, Bool.false_eq_true, ↓reduceIte, true_and, and_true]
      exact ⟨sl65' (by decide), q'⟩
    · have : (pairsD (upto n2) (.int i)).length = (upto n2).length := by show (List.map _ _).length = _; rw [List.length_map]
      rw [List.length_map]; exact sl65' (by omega)
    · have : ((upto n2).map D.int).map (fun d => match d with | .int j => pD (i, j) | d => d) = pairsD (upto n2) (.int i) := by rw [List.map_map]; rfl
      rw [this]; exact hF
  · rw [List.length_map, List.length_nil]; omega
  rw [List.nil_append, pairsD_flat]
  have lb : (bothP (upto n1) (upto n2)).length ≤ 3 * 3 := by rw [both_len]; exact Nat.mul_le_mul lu1 lu2
  refine lcL_pure (acc := []) (fbE g1 g2) id trivial _ (fun d hd F G hF hG F' G' hF' hG' => ?_) ?_ ?_
  · obtain ⟨⟨i, j⟩, ht, rfl⟩ := List.mem_map.mp hd
    simp only [g4_wish_either, c5_wish_either, e6_wish_either, pD, T3.tRet, T3.tRetN, T3.tSeq, T3.tNext, T3.tAsg, T3.gName, T3.gTupN, T3.gList, T3.tVar, T3.tC, T3.tOp, T3.tNotV, T3.tAndV, T3.tOrV, T3.tB, T3.tAnd, T3.tOr, T3.tNot, T3.tIf, T3.tIfS, T3.tCall, T3.tCB, T3.tCons, T3.tNil, T3.tIsi, T3.ordR, T3.intR, T3.absR, T3.intR1, T3.tChain, T3.tTup, T3.tLst, T3.tLstM, T3.tNever, T3.tDrop, T3.appR, T3.extR, T3.popR, T3.tFld, T3.insOf, T3.tMeth, T3.tMake, T3.sFld, T3.tYes, T3.iAny, T3.tFor, T3.iRng1, T3.iRng2, T3.iEnum, T3.tLc, T3.tLcM, T3.tLc2, T3.wipeD, T3.allR, T3.tSl, T3.tNoPart, T3.tPart, T3.slR, T3.gSub, T3.tRevD, T3.tBreak, T3.tCont, T3.tFrz, T3.startD, T3.fnEnds, T3.tab_ii, T3.tab_ib, T3.tab_ss, T3.tab_ll, T3.tab_lt, T3.tab_tl, T3.tab_tt, Bool.or_true, Bool.true_or, eq_self, List.map_cons, List.map_nil, List.length_cons, List.length_nil, List.cons_append, List.nil_append, List.getElem?_cons_zero, List.getElem?_cons_succ, List.getElem?_nil, List.set_cons_zero, List.set_cons_succ, List.replicate, Nat.sub_self, Nat.reduceAdd, Nat.reduceSub, ite_true, ite_false, if_true, if_false, Bool.not_true, Bool.not_false, reduceCtorEq, Bool.false_eq_true, ↓reduceIte, true_and, and_true, wD, T3.insOf, w_gd, T3.inR, T3.seqOf, resD, Bool.false_xor, inL_ints]
    refine ⟨rfl, ints_ok _, ?_⟩
    have e0 : fbE g1 g2 (pD (i, j)) = (decide (i ∈ g1) || decide (j ∈ g2)) := rfl
    cases c1 : decide (i ∈ g1) with
    | true =>
      simp only [T3.nat_ofNat, decide_true, Bool.not_true, Bool.not_false, Bool.false_eq_true, eq_self, ↓reduceIte, true_and, and_true]
      exact ⟨sl65' (by decide), hG' _ (hG (by rw [e0, c1]; rfl))⟩
    | false =>
      simp only [T3.nat_ofNat, decide_true, Bool.not_true, Bool.not_false, Bool.false_eq_true, eq_self, ↓reduceIte, true_and, and_true]
      refine ⟨rfl, ints_ok _, ?_⟩
      cases c2 : decide (j ∈ g2) with
      | true =>
        simp only [T3.nat_ofNat, decide_true, Bool.not_true, Bool.not_false, Bool.false_eq_true, eq_self, ↓reduceIte, true_and, and_true]
        exact ⟨sl65' (by decide), hG' _ (hG (by rw [e0, c1, c2]; rfl))⟩
      | false =>
        simp only [T3.nat_ofNat, decide_true, Bool.not_true, Bool.not_false, Bool.false_eq_true, eq_self, ↓reduceIte, true_and, and_true]
        exact hF' (hF (by rw [e0, c1, c2]; rfl))
  · rw [List.length_map, List.length_nil]; exact sl65' (by omega)
  have es : (((bothP (upto n1) (upto n2)).map pD).filter (fbE g1 g2)).map id = (eithP n1 n2 g1 g2).map pD := by
    rw [List.map_id, List.filter_map]; rfl
  rw [List.nil_append, es]
  refine ⟨n1, g1, r1, n2, g2, r2, eithP n1 n2 g1 g2, rfl, o1, o2, fun t ht => ?_, ?_, out_as q⟩
  · exact both_ok (fun i hi => mem_upto.mp hi) (fun i hi => mem_upto.mp hi) t (List.mem_filter.mp ht).1
  · exact Nat.le_trans (List.length_filter_le _ _) (by omega)

/-! ### the box -/
theorem ixN20 : ixN 2 0 = some 0 := by decide
theorem ixN21 : ixN 2 1 = some 1 := by decide
theorem box_seq {h : AH} {b : Addr} {g s : Int} (e : h b = some (bx g s)) : seqOf h (.ref b) = some [.int g, .int s] := by
  show (match h b with | some (.lst l) => some l | _ => none) = _
  rw [e]; rfl
theorem len__law_take (C : Addr) : ∀ ds h R, fs__law_take C ds h R → ds.length = (["box", "many"] : List Str).length := by
  rintro ds h R ⟨b, m, rfl, q⟩
  rfl
theorem rd__law_take (C : Addr) : ∀ ds h R, fs__law_take C ds h R → t__law_take C (fnEnds R) (startD N__law_take ds) h := by
  rintro ds h R ⟨b, m, rfl, ⟨g, s, e, g0, s1, s2⟩, m0, m1, q⟩
  simp only [t__law_take, N__law_take, T3.tRet, T3.tRetN, T3.tSeq, T3.tNext, T3.tAsg, T3.gName, T3.gTupN, T3.gList, T3.tVar, T3.tC, T3.tOp, T3.tNotV, T3.tAndV, T3.tOrV, T3.tB, T3.tAnd, T3.tOr, T3.tNot, T3.tIf, T3.tIfS, T3.tCall, T3.tCB, T3.tCons, T3.tNil, T3.tIsi, T3.ordR, T3.intR, T3.absR, T3.intR1, T3.tChain, T3.tTup, T3.tLst, T3.tLstM, T3.tNever, T3.tDrop, T3.appR, T3.extR, T3.popR, T3.tFld, T3.insOf, T3.tMeth, T3.tMake, T3.sFld, T3.tYes, T3.iAny, T3.tFor, T3.iRng1, T3.iRng2, T3.iEnum, T3.tLc, T3.tLcM, T3.tLc2, T3.wipeD, T3.allR, T3.tSl, T3.tNoPart, T3.tPart, T3.slR, T3.gSub, T3.tRevD, T3.tBreak, T3.tCont, T3.tFrz, T3.startD, T3.fnEnds, T3.tab_ii, T3.tab_ib, T3.tab_ss, T3.tab_ll, T3.tab_lt, T3.tab_tl, T3.tab_tt, Bool.or_true, Bool.true_or, eq_self, List.map_cons, List.map_nil, List.length_cons, List.length_nil, List.cons_append, List.nil_append, List.getElem?_cons_zero, List.getElem?_cons_succ, List.getElem?_nil, List.set_cons_zero, List.set_cons_succ, List.replicate, Nat.sub_self, Nat.reduceAdd, Nat.reduceSub, ite_true, ite_false, if_true, if_false, Bool.not_true, Bool.not_false, reduceCtorEq, Bool.false_eq_true, ↓reduceIte, true_and, and_true, T3.addR]
  refine ixR_seq (box_seq e) (i := 0) rfl ?_
  by_cases hg : 0 < g
  · simp only [decide_eq_true hg, T3.nat_ofNat, decide_true, Bool.not_true, Bool.not_false, Bool.false_eq_true, eq_self, ↓reduceIte, true_and, and_true]
    refine ixR_seq (box_seq e) (i := 0) rfl ?_
    refine ⟨m0, ?_⟩
    refine ixR_seq (box_seq e) (i := 0) rfl ?_
    refine ⟨⟨m0, ?_⟩, ?_⟩
    · exact Nat.lt_of_le_of_lt (Nat.log2_le_self _) (by omega)
    simp only [e, bx, List.length_cons, List.length_nil, Nat.reduceAdd, ixN20, List.set_cons_zero]
    exact out_as (q _ (Int.emod_nonneg _ (by omega)) (Int.emod_lt_of_pos _ m0) _ _ ⟨Int.ediv_nonneg g0 (by omega), s1, s2⟩)
  · simp only [decide_eq_false hg, T3.nat_ofNat, decide_true, Bool.not_true, Bool.not_false, Bool.false_eq_true, eq_self, ↓reduceIte, true_and, and_true]
    refine ixR_seq (box_seq e) (i := 1) rfl ?_
    refine ⟨.inr ⟨by decide, by decide⟩, by decide, ?_⟩
    have r0 := Int.emod_nonneg (s * 40014 + 73) (by decide : (2147483563 : Int) ≠ 0)
    have r1 := Int.emod_lt_of_pos (s * 40014 + 73) (by decide : (0 : Int) < 2147483563)
    refine ⟨.inr ⟨by decide, by decide⟩, by decide, ?_⟩
    simp only [e, bx, List.length_cons, List.length_nil, Nat.reduceAdd, ixN21, List.set_cons_zero, List.set_cons_succ]
    refine ⟨.inr ⟨by decide, by decide⟩, ?_⟩
    refine ixR_seq (box_seq (g := g) ud_same) (i := 1) rfl ?_
    refine ⟨⟨by decide, by decide⟩, m0, ?_⟩
    refine out_as (q _ (Int.emod_nonneg _ (by omega)) (Int.emod_lt_of_pos _ m0) _ _ ⟨g0, ?_, ?_⟩)
    · have := Int.emod_nonneg ((s * 40014 + 73) % 2147483563 * 40692 + 4513) (by decide : (2147483629 : Int) ≠ 0)
      omega
    · have := Int.emod_lt_of_pos ((s * 40014 + 73) % 2147483563 * 40692 + 4513) (by decide : (0 : Int) < 2147483629)
      omega
theorem len__law_pick (C : Addr) : ∀ ds h R, fs__law_pick C ds h R → ds.length = (["box", "some"] : List Str).length := by
  rintro ds h R ⟨b, m, rfl, q⟩
  rfl
theorem atI_nat {α : Type} {l : List α} {i : Int} (h0 : 0 ≤ i) (h1 : i < l.length) : ∃ d, atI l i = some d ∧ d ∈ l := by
  obtain ⟨k, rfl⟩ := Int.eq_ofNat_of_zero_le h0
  have hk : k < l.length := by omega
  refine ⟨l[k], ?_, List.getElem_mem hk⟩
  unfold atI ixN
  rw [if_pos (by omega), if_pos (by omega)]
  show l[((k : Int)).toNat]? = _
  rw [Int.toNat_natCast, List.getElem?_eq_getElem hk]
theorem rd__law_pick (C : Addr) : ∀ ds h R, fs__law_pick C ds h R → t__law_pick C (fnEnds R) (startD N__law_pick ds) h := by
  rintro ds h R ⟨b, l, rfl, ab, hne, hl, q⟩
  simp only [t__law_pick, N__law_pick, T3.tRet, T3.tRetN, T3.tSeq, T3.tNext, T3.tAsg, T3.gName, T3.gTupN, T3.gList, T3.tVar, T3.tC, T3.tOp, T3.tNotV, T3.tAndV, T3.tOrV, T3.tB, T3.tAnd, T3.tOr, T3.tNot, T3.tIf, T3.tIfS, T3.tCall, T3.tCB, T3.tCons, T3.tNil, T3.tIsi, T3.ordR, T3.intR, T3.absR, T3.intR1, T3.tChain, T3.tTup, T3.tLst, T3.tLstM, T3.tNever, T3.tDrop, T3.appR, T3.extR, T3.popR, T3.tFld, T3.insOf, T3.tMeth, T3.tMake, T3.sFld, T3.tYes, T3.iAny, T3.tFor, T3.iRng1, T3.iRng2, T3.iEnum, T3.tLc, T3.tLcM, T3.tLc2, T3.wipeD, T3.allR, T3.tSl, T3.tNoPart, T3.tPart, T3.slR, T3.gSub, T3.tRevD, T3.tBreak, T3.tCont, T3.tFrz, T3.startD, T3.fnEnds, T3.tab_ii, T3.tab_ib, T3.tab_ss, T3.tab_ll, T3.tab_lt, T3.tab_tl, T3.tab_tt, Bool.or_true, Bool.true_or, eq_self, List.map_cons, List.map_nil, List.length_cons, List.length_nil, List.cons_append, List.nil_append, List.getElem?_cons_zero, List.getElem?_cons_succ, List.getElem?_nil, List.set_cons_zero, List.set_cons_succ, List.replicate, Nat.sub_self, Nat.reduceAdd, Nat.reduceSub, ite_true, ite_false, if_true, if_false, Bool.not_true, Bool.not_false, reduceCtorEq, Bool.false_eq_true, ↓reduceIte, true_and, and_true]
  refine lenR_seq (l := l) rfl ?_
  have hp : 0 < l.length := List.length_pos_iff.mpr hne
  refine ⟨b, l.length, rfl, ab, by omega, by omega, fun d d0 d1 => fun g s ok => ?_⟩
  obtain ⟨x, ex, hx⟩ := atI_nat d0 d1
  exact ixR_seq (l := l) rfl ex (out_as (q x hx g s ok))
theorem atI_zero {α : Type} {d : α} {l : List α} : atI (d :: l) 0 = some d := by
  unfold atI ixN
  rw [if_pos (by decide), if_pos (by rw [List.length_cons]; omega)]; rfl
theorem len__law_box (C : Addr) : ∀ ds h R, fs__law_box C ds h R → ds.length = (["script", "k"] : List Str).length := by
  rintro ds h R ⟨ns, rfl, q⟩
  rfl
theorem box_end {h : AH} {R : QD} {cell : Int} {C : Addr} (hc : 0 ≤ cell) (q : ∀ p, h p = none → Dr h p fun h' => R (.ref p) h') : 
    ∀ p, h p = none → ∃ h2 d2, Out (ud h p (.lst [.int (if 1000000000000000000 ≤ cell then cell else 0), .int ((cell % 2147483629 * 48271 + 0) % 2147483629 + 1)])) (.ref p) h2 d2 ∧ R d2 h2 := fun p hp => by
  refine out_as (q p hp _ _ ⟨?_, ?_, ?_⟩)
  · split <;> omega
  · have := Int.emod_nonneg (cell % 2147483629 * 48271 + 0) (by decide : (2147483629 : Int) ≠ 0)
    omega
  · have := Int.emod_lt_of_pos (cell % 2147483629 * 48271 + 0) (by decide : (0 : Int) < 2147483629)
    omega
theorem rd__law_box (C : Addr) : ∀ ds h R, fs__law_box C ds h R → t__law_box C (fnEnds R) (startD N__law_box ds) h := by
  rintro ds h R ⟨ns, rfl, q⟩
  simp only [t__law_box, N__law_box, T3.tRet, T3.tRetN, T3.tSeq, T3.tNext, T3.tAsg, T3.gName, T3.gTupN, T3.gList, T3.tVar, T3.tC, T3.tOp, T3.tNotV, T3.tAndV, T3.tOrV, T3.tB, T3.tAnd, T3.tOr, T3.tNot, T3.tIf, T3.tIfS, T3.tCall, T3.tCB, T3.tCons, T3.tNil, T3.tIsi, T3.ordR, T3.intR, T3.absR, T3.intR1, T3.tChain, T3.tTup, T3.tLst, T3.tLstM, T3.tNever, T3.tDrop, T3.appR, T3.extR, T3.popR, T3.tFld, T3.insOf, T3.tMeth, T3.tMake, T3.sFld, T3.tYes, T3.iAny, T3.tFor, T3.iRng1, T3.iRng2, T3.iEnum, T3.tLc, T3.tLcM, T3.tLc2, T3.wipeD, T3.allR, T3.tSl, T3.tNoPart, T3.tPart, T3.slR, T3.gSub, T3.tRevD, T3.tBreak, T3.tCont, T3.tFrz, T3.startD, T3.fnEnds, T3.tab_ii, T3.tab_ib, T3.tab_ss, T3.tab_ll, T3.tab_lt, T3.tab_tl, T3.tab_tt, Bool.or_true, Bool.true_or, eq_self, List.map_cons, List.map_nil, List.length_cons, List.length_nil, List.cons_append, List.nil_append, List.getElem?_cons_zero, List.getElem?_cons_succ, List.getElem?_nil, List.set_cons_zero, List.set_cons_succ, List.replicate, Nat.sub_self, Nat.reduceAdd, Nat.reduceSub, ite_true, ite_false, if_true, if_false, Bool.not_true, Bool.not_false, reduceCtorEq, Bool.false_eq_true, ↓reduceIte, true_and, and_true, T3.addR]
  refine ⟨.inr ⟨by decide, by decide⟩, ?_⟩
  refine lenR_seq (l := ns.map .int) rfl ?_
  have p18 : (10 : Int) ^ Int.toNat 18 = 1000000000000000000 := by decide
  have cp : CPow 10 18 := ⟨by decide, by decide, by decide⟩
  have fin : ∀ cell : Int, 0 ≤ cell → ∀ p, h p = none → ∃ h2 d2, Out (ud h p (.lst [.int (if 1000000000000000000 ≤ cell then cell else 0), .int ((cell % 2147483629 * 48271 + 42641 * 0) % 2147483629 + 1)])) (.ref p) h2 d2 ∧ R d2 h2 := fun cell hc p hp => by
    rw [show (42641 : Int) * 0 = 0 from rfl]
    exact box_end (C := C) hc q p hp
  simp only [List.length_map]
  cases ns with
  | cons z ns =>
    have e1 : decide ((0 : Int) < ((z :: ns).length : Int)) = true := decide_eq_true (by rw [List.length_cons]; omega)
    simp only [e1, T3.nat_ofNat, decide_true, Bool.not_true, Bool.not_false, Bool.false_eq_true, eq_self, ↓reduceIte, true_and, and_true]
    refine ixR_seq (l := (z :: ns).map .int) rfl (i := 0) (d := .int z) atI_zero ?_
    simp only [p18]
    have f := fin (if z < 0 then -z else z) (by split <;> omega)
    refine ⟨cp, ?_⟩
    by_cases hc : (1000000000000000000 : Int) ≤ (if z < 0 then -z else z)
    · simp only [decide_eq_true hc, T3.nat_ofNat, decide_true, Bool.not_true, Bool.not_false, Bool.false_eq_true, eq_self, ↓reduceIte, true_and, and_true]
      simp only [if_pos hc] at f
      exact ⟨by decide, .inr ⟨by decide, by decide⟩, .inr ⟨by decide, by decide⟩, by decide, sl65' (by decide), f⟩
    · simp only [decide_eq_false hc, T3.nat_ofNat, decide_true, Bool.not_true, Bool.not_false, Bool.false_eq_true, eq_self, ↓reduceIte, true_and, and_true]
      simp only [if_neg hc] at f
      exact ⟨by decide, .inr ⟨by decide, by decide⟩, .inr ⟨by decide, by decide⟩, by decide, sl65' (by decide), f⟩
  | nil =>
    simp only [List.length_nil, List.map_nil]
    have e1 : decide ((0 : Int) < (0 : Int)) = false := by decide
    simp only [e1, T3.nat_ofNat, decide_true, Bool.not_true, Bool.not_false, Bool.false_eq_true, eq_self, ↓reduceIte, true_and, and_true]
    refine lenR_seq (x := .lok []) (l := []) rfl ?_
    simp only [List.length_nil, e1, T3.nat_ofNat, decide_true, Bool.not_true, Bool.not_false, Bool.false_eq_true, eq_self, ↓reduceIte, true_and, and_true, p18]
    have e2 : decide ((1000000000000000000 : Int) ≤ 9661 * 0 + 149) = false := by decide
    simp only [e2, T3.nat_ofNat, decide_true, Bool.not_true, Bool.not_false, Bool.false_eq_true, eq_self, ↓reduceIte, true_and, and_true]
    have f := fin (9661 * 0 + 149) (by decide)
    rw [if_neg (by decide)] at f
    exact ⟨cp, by decide, .inr ⟨by decide, by decide⟩, .inr ⟨by decide, by decide⟩, by decide, sl65' (by decide), f⟩
end K50

/-! k50: the readings of the law's helpers. -/
namespace K50
open PySem PySem.Spec L2 T3
open PyProof.Rows hiding St

theorem ud3 {h : AH} {p b : Addr} {x y z : O} (e : p ≠ b) : ud (ud (ud h p x) b y) p z = ud (ud h p z) b y := by
  rw [ud_comm e, ud_ud, ud_comm e.symm]
theorem sub_er {h : AH} {p b : Addr} {x y : O} (hp : h p = none) (e : p ≠ b) : T3.Sub (ud h b y) (er (ud (ud h p x) b y) p) := fun a o q => by
  by_cases ha : a = p
  · subst ha; rw [ud_ne e, hp] at q; cases q
  · rw [er_ne ha]
    by_cases hb : a = b
    · subst hb; rw [ud_same] at q ⊢; exact q
    · rw [ud_ne hb] at q ⊢; rw [ud_ne ha]; exact q
theorem sub_un {h : AH} {p b : Addr} {x y : O} (hp : h p = none) (e : p ≠ b) : T3.Sub (ud h b y) (ud (ud h p x) b y) := fun a o q => by
  by_cases hb : a = b
  · subst hb; rw [ud_same] at q ⊢; exact q
  · have ha : a ≠ p := fun z => by rw [z, ud_ne e, hp] at q; cases q
    rw [ud_ne hb] at q ⊢; rw [ud_ne ha]; exact q
theorem box_ne {h : AH} {p b : Addr} (ab : atBox h b) (hp : h p = none) : p ≠ b := fun z => by
  obtain ⟨g, s, e, _⟩ := ab
  rw [z, e] at hp; cases hp
theorem atBox_ud {h : AH} {b : Addr} {g s : Int} (ok : BoxOk g s) : atBox (ud h b (bx g s)) b := ⟨g, s, ud_same, ok⟩
theorem ixR_str {h : AH} {z : Str} {i : Int} {c : Nat} {Q : QD} (hz : z.length ≤ sizeLine) (e : atI z.cps.toList i = some c) (q : Q (.str ⟨#[c]⟩) h) : ixR (.str z) (.int i) h Q := by
  unfold ixR
  simp only [e]
  exact ⟨hz, q⟩
def letters (x : Str) : Prop := ∀ c ∈ x.cps.toList, c ∈ LET.cps.toList
theorem letters_ok {x : Str} (h : letters x) (h1 : 1 ≤ x.length) (h8 : x.length ≤ 8) : nameOk x = true := by
  unfold nameOk
  rw [decide_eq_true h1, decide_eq_true h8, Bool.true_and, Bool.true_and]
  exact List.all_eq_true.mpr fun c hc => decide_eq_true (h c hc)
theorem letters_str {x : Str} (h : letters x) : PyData.strOk x = true := by
  unfold PyData.strOk
  rw [← Array.all_toList, List.all_eq_true]
  intro c hc
  have all : ∀ c ∈ LET.cps.toList, c < 0x110000 := by decide +kernel
  exact decide_eq_true (all c (h c hc))
theorem str_app (a b : Str) : (a ++ b).cps.toList = a.cps.toList ++ b.cps.toList := by
  rw [Str.cps_append, Array.toList_append]
theorem str_len (a b : Str) : (a ++ b).length = a.length + b.length := by
  have h : ∀ z : Str, z.length = z.cps.toList.length := fun z => by simp [Str.length]
  rw [h, h, h, str_app, List.length_append]
theorem letters_app {a b : Str} (h1 : letters a) (h2 : letters b) : letters (a ++ b) := fun c hc => by
  rw [str_app] at hc
  rcases List.mem_append.mp hc with hc | hc
  · exact h1 c hc
  · exact h2 c hc
theorem len__law_names (C : Addr) : ∀ ds h R, fs__law_names C ds h R → ds.length = (["box", "many"] : List Str).length := by
  rintro ds h R ⟨b, m, rfl, q⟩
  rfl
theorem rd__law_names (C : Addr) : ∀ ds h R, fs__law_names C ds h R → t__law_names C (fnEnds R) (startD N__law_names ds) h := by
  rintro ds h R ⟨b, m, rfl, ab, m0, m4, q⟩
  simp only [t__law_names, N__law_names, T3.tRet, T3.tRetN, T3.tSeq, T3.tNext, T3.tAsg, T3.gName, T3.gTupN, T3.gList, T3.tVar, T3.tC, T3.tOp, T3.tNotV, T3.tAndV, T3.tOrV, T3.tB, T3.tAnd, T3.tOr, T3.tNot, T3.tIf, T3.tIfS, T3.tCall, T3.tCB, T3.tCons, T3.tNil, T3.tIsi, T3.ordR, T3.intR, T3.absR, T3.intR1, T3.tChain, T3.tTup, T3.tLst, T3.tLstM, T3.tNever, T3.tDrop, T3.appR, T3.extR, T3.popR, T3.tFld, T3.insOf, T3.tMeth, T3.tMake, T3.sFld, T3.tYes, T3.iAny, T3.tFor, T3.iRng1, T3.iRng2, T3.iEnum, T3.tLc, T3.tLcM, T3.tLc2, T3.wipeD, T3.allR, T3.tSl, T3.tNoPart, T3.tPart, T3.slR, T3.gSub, T3.tRevD, T3.tBreak, T3.tCont, T3.tFrz, T3.startD, T3.fnEnds, T3.tab_ii, T3.tab_ib, T3.tab_ss, T3.tab_ll, T3.tab_lt, T3.tab_tl, T3.tab_tt, Bool.or_true, Bool.true_or, eq_self, List.map_cons, List.map_nil, List.length_cons, List.length_nil, List.cons_append, List.nil_append, List.getElem?_cons_zero, List.getElem?_cons_succ, List.getElem?_nil, List.set_cons_zero, List.set_cons_succ, List.replicate, Nat.sub_self, Nat.reduceAdd, Nat.reduceSub, ite_true, ite_false, if_true, if_false, Bool.not_true, Bool.not_false, reduceCtorEq, Bool.false_eq_true, ↓reduceIte, true_and, and_true]
  refine ⟨Nat.zero_le _, fun p hp => ?_⟩
  have hpb := box_ne ab hp
  obtain ⟨g0, s0, eb, ok0⟩ := ab
  refine ⟨⟨by omega, by omega⟩, ?_⟩
  refine forL_inv (I := fun l σ h1 => ∃ acc g s a c d e, σ = [some (.ref b), some (.int m), some (.ref p), a, c, d, e] ∧ h1 = ud (ud h p (.lst (namesD acc))) b (bx g s) ∧ BoxOk g s ∧ acc.length + l.length = m.toNat ∧ ∀ x ∈ acc, nameOk x = true) (fun _ _ _ _ => trivial) ?_ gName_mono ?_ _
    ⟨[], g0, s0, none, none, none, none, rfl, ?_, ok0, ?_, name0⟩
  · rintro x xs σ h1 ⟨acc, g, s, a, c, d, e, rfl, rfl, ok, hl, hn⟩
    rw [List.length_cons] at hl
    simp only [g4__law_names, b5__law_names, T3.tRet, T3.tRetN, T3.tSeq, T3.tNext, T3.tAsg, T3.gName, T3.gTupN, T3.gList, T3.tVar, T3.tC, T3.tOp, T3.tNotV, T3.tAndV, T3.tOrV, T3.tB, T3.tAnd, T3.tOr, T3.tNot, T3.tIf, T3.tIfS, T3.tCall, T3.tCB, T3.tCons, T3.tNil, T3.tIsi, T3.ordR, T3.intR, T3.absR, T3.intR1, T3.tChain, T3.tTup, T3.tLst, T3.tLstM, T3.tNever, T3.tDrop, T3.appR, T3.extR, T3.popR, T3.tFld, T3.insOf, T3.tMeth, T3.tMake, T3.sFld, T3.tYes, T3.iAny, T3.tFor, T3.iRng1, T3.iRng2, T3.iEnum, T3.tLc, T3.tLcM, T3.tLc2, T3.wipeD, T3.allR, T3.tSl, T3.tNoPart, T3.tPart, T3.slR, T3.gSub, T3.tRevD, T3.tBreak, T3.tCont, T3.tFrz, T3.startD, T3.fnEnds, T3.tab_ii, T3.tab_ib, T3.tab_ss, T3.tab_ll, T3.tab_lt, T3.tab_tl, T3.tab_tt, Bool.or_true, Bool.true_or, eq_self, List.map_cons, List.map_nil, List.length_cons, List.length_nil, List.cons_append, List.nil_append, List.getElem?_cons_zero, List.getElem?_cons_succ, List.getElem?_nil, List.set_cons_zero, List.set_cons_succ, List.replicate, Nat.sub_self, Nat.reduceAdd, Nat.reduceSub, ite_true, ite_false, if_true, if_false, Bool.not_true, Bool.not_false, reduceCtorEq, Bool.false_eq_true, ↓reduceIte, true_and, and_true]
    intro E' _ _ e3 _
    refine ⟨b, 3, rfl, atBox_ud ok, by decide, by decide, fun k k0 k1 => fun g1 s1 ok1 => ?_⟩
    simp only [T3.addR, ud_ud]
    refine ⟨⟨by omega, by omega⟩, ?_⟩
    refine forL_inv (I := fun l σ h1 => ∃ nm g s a d e, σ = [some (.ref b), some (.int m), some (.ref p), a, some (.str nm), d, e] ∧ h1 = ud (ud h p (.lst (namesD acc))) b (bx g s) ∧ BoxOk g s ∧ nm.length + l.length = (1 + k).toNat ∧ letters nm) (fun _ _ _ _ => trivial) ?_ gName_mono ?_ _
      ⟨"", g1, s1, _, _, _, rfl, rfl, ok1, ?_, ?_⟩
    · rintro y ys σ h1 ⟨nm, g, s, a, d, e, rfl, rfl, ok, hnl, hle⟩
      rw [List.length_cons] at hnl
      simp only [g0__law_names, b1__law_names, T3.tRet, T3.tRetN, T3.tSeq, T3.tNext, T3.tAsg, T3.gName, T3.gTupN, T3.gList, T3.tVar, T3.tC, T3.tOp, T3.tNotV, T3.tAndV, T3.tOrV, T3.tB, T3.tAnd, T3.tOr, T3.tNot, T3.tIf, T3.tIfS, T3.tCall, T3.tCB, T3.tCons, T3.tNil, T3.tIsi, T3.ordR, T3.intR, T3.absR, T3.intR1, T3.tChain, T3.tTup, T3.tLst, T3.tLstM, T3.tNever, T3.tDrop, T3.appR, T3.extR, T3.popR, T3.tFld, T3.insOf, T3.tMeth, T3.tMake, T3.sFld, T3.tYes, T3.iAny, T3.tFor, T3.iRng1, T3.iRng2, T3.iEnum, T3.tLc, T3.tLcM, T3.tLc2, T3.wipeD, T3.allR, T3.tSl, T3.tNoPart, T3.tPart, T3.slR, T3.gSub, T3.tRevD, T3.tBreak, T3.tCont, T3.tFrz, T3.startD, T3.fnEnds, T3.tab_ii, T3.tab_ib, T3.tab_ss, T3.tab_ll, T3.tab_lt, T3.tab_tl, T3.tab_tt, Bool.or_true, Bool.true_or, eq_self, List.map_cons, List.map_nil, List.length_cons, List.length_nil, List.cons_append, List.nil_append, List.getElem?_cons_zero, List.getElem?_cons_succ, List.getElem?_nil, List.set_cons_zero, List.set_cons_succ, List.replicate, Nat.sub_self, Nat.reduceAdd, Nat.reduceSub, ite_true, ite_false, if_true, if_false, Bool.not_true, Bool.not_false, reduceCtorEq, Bool.false_eq_true, ↓reduceIte, true_and, and_true]
      intro E' _ _ e3 _
      refine ⟨b, 26, rfl, atBox_ud ok, by decide, by decide, fun j j0 j1 => fun g2 s2 ok2 => ?_⟩
      have hLl : LET.cps.toList.length = 26 := by decide +kernel
      obtain ⟨ch, ec, hc⟩ := atI_nat (l := LET.cps.toList) j0 (by rw [hLl]; exact j1)
      refine ixR_str (c := ch) (sl65' (by decide +kernel)) ec ?_
      simp only [T3.addR, ud_ud]
      have l1 : (⟨#[ch]⟩ : Str).length = 1 := rfl
      refine ⟨sl65' (by rw [l1]; omega), e3 _ _ ⟨_, g2, s2, _, _, _, rfl, rfl, ok2, by rw [str_len, l1]; omega, letters_app hle fun z hz => ?_⟩⟩
      have : z = ch := by simpa using hz
      rw [this]; exact hc
    · rintro σ h1 ⟨nm, g, s, a, d, e, rfl, rfl, ok, hnl, hle⟩
      simp only [T3.tRet, T3.tRetN, T3.tSeq, T3.tNext, T3.tAsg, T3.gName, T3.gTupN, T3.gList, T3.tVar, T3.tC, T3.tOp, T3.tNotV, T3.tAndV, T3.tOrV, T3.tB, T3.tAnd, T3.tOr, T3.tNot, T3.tIf, T3.tIfS, T3.tCall, T3.tCB, T3.tCons, T3.tNil, T3.tIsi, T3.ordR, T3.intR, T3.absR, T3.intR1, T3.tChain, T3.tTup, T3.tLst, T3.tLstM, T3.tNever, T3.tDrop, T3.appR, T3.extR, T3.popR, T3.tFld, T3.insOf, T3.tMeth, T3.tMake, T3.sFld, T3.tYes, T3.iAny, T3.tFor, T3.iRng1, T3.iRng2, T3.iEnum, T3.tLc, T3.tLcM, T3.tLc2, T3.wipeD, T3.allR, T3.tSl, T3.tNoPart, T3.tPart, T3.slR, T3.gSub, T3.tRevD, T3.tBreak, T3.tCont, T3.tFrz, T3.startD, T3.fnEnds, T3.tab_ii, T3.tab_ib, T3.tab_ss, T3.tab_ll, T3.tab_lt, T3.tab_tl, T3.tab_tt, Bool.or_true, Bool.true_or, eq_self, List.map_cons, List.map_nil, List.length_cons, List.length_nil, List.cons_append, List.nil_append, List.getElem?_cons_zero, List.getElem?_cons_succ, List.getElem?_nil, List.set_cons_zero, List.set_cons_succ, List.replicate, Nat.sub_self, Nat.reduceAdd, Nat.reduceSub, ite_true, ite_false, if_true, if_false, Bool.not_true, Bool.not_false, reduceCtorEq, Bool.false_eq_true, ↓reduceIte, true_and, and_true]
      refine ⟨⟨by omega, by omega⟩, ?_⟩
      refine forL_inv (I := fun l σ h1 => ∃ nm a d e, σ = [some (.ref b), some (.int m), some (.ref p), a, some (.str nm), d, e] ∧ h1 = ud (ud h p (.lst (namesD acc))) b (bx g s) ∧ nm.length + l.length ≤ 7 ∧ 1 ≤ nm.length ∧ letters nm) (fun _ _ _ _ => trivial) ?_ gName_mono ?_ _
        ⟨nm, _, _, _, rfl, rfl, ?_, ?_, hle⟩
      · rintro y ys σ h1 ⟨nm, a, d, e, rfl, rfl, hnl, h1l, hle⟩
        rw [List.length_cons] at hnl
        simp only [g2__law_names, b3__law_names, T3.tRet, T3.tRetN, T3.tSeq, T3.tNext, T3.tAsg, T3.gName, T3.gTupN, T3.gList, T3.tVar, T3.tC, T3.tOp, T3.tNotV, T3.tAndV, T3.tOrV, T3.tB, T3.tAnd, T3.tOr, T3.tNot, T3.tIf, T3.tIfS, T3.tCall, T3.tCB, T3.tCons, T3.tNil, T3.tIsi, T3.ordR, T3.intR, T3.absR, T3.intR1, T3.tChain, T3.tTup, T3.tLst, T3.tLstM, T3.tNever, T3.tDrop, T3.appR, T3.extR, T3.popR, T3.tFld, T3.insOf, T3.tMeth, T3.tMake, T3.sFld, T3.tYes, T3.iAny, T3.tFor, T3.iRng1, T3.iRng2, T3.iEnum, T3.tLc, T3.tLcM, T3.tLc2, T3.wipeD, T3.allR, T3.tSl, T3.tNoPart, T3.tPart, T3.slR, T3.gSub, T3.tRevD, T3.tBreak, T3.tCont, T3.tFrz, T3.startD, T3.fnEnds, T3.tab_ii, T3.tab_ib, T3.tab_ss, T3.tab_ll, T3.tab_lt, T3.tab_tl, T3.tab_tt, Bool.or_true, Bool.true_or, eq_self, List.map_cons, List.map_nil, List.length_cons, List.length_nil, List.cons_append, List.nil_append, List.getElem?_cons_zero, List.getElem?_cons_succ, List.getElem?_nil, List.set_cons_zero, List.set_cons_succ, List.replicate, Nat.sub_self, Nat.reduceAdd, Nat.reduceSub, ite_true, ite_false, if_true, if_false, Bool.not_true, Bool.not_false, reduceCtorEq, Bool.false_eq_true, ↓reduceIte, true_and, and_true, T3.inR]
        intro E' _ _ e3 _
        have es : seqOf (ud (ud h p (.lst (namesD acc))) b (bx g s)) (.ref p) = some (namesD acc) := by
          show (match ud (ud h p (.lst (namesD acc))) b (bx g s) p with | some (.lst l) => some l | _ => none) = _
          rw [ud_ne hpb, ud_same]
        simp only [es, resD]
        refine ⟨letters_str hle, ok_all hn, ?_⟩
        have hb : inL (.str nm) (namesD acc) = false ∨ inL (.str nm) (namesD acc) = true := by cases inL (.str nm) (namesD acc) <;> simp
        rcases hb with hb | hb
        · simp only [hb, Bool.false_xor, T3.nat_ofNat, decide_true, Bool.not_true, Bool.not_false, Bool.false_eq_true, eq_self, ↓reduceIte, true_and, and_true]
          exact e3 _ _ ⟨nm, _, _, _, rfl, rfl, by omega, h1l, hle⟩
        · simp only [hb, Bool.false_xor, T3.nat_ofNat, decide_true, Bool.not_true, Bool.not_false, Bool.false_eq_true, eq_self, ↓reduceIte, true_and, and_true, T3.addR]
          have l1 : ("z" : Str).length = 1 := by decide +kernel
          refine ⟨sl65' (by rw [l1]; omega), e3 _ _ ⟨_, _, _, _, rfl, rfl, by rw [str_len, l1]; omega, by rw [str_len, l1]; omega, letters_app hle ?_⟩⟩
          intro z hz
          have : ∀ z ∈ ("z" : Str).cps.toList, z ∈ LET.cps.toList := by decide +kernel
          exact this z hz
      · rintro σ h1 ⟨nm, a, d, e, rfl, rfl, hnl, h1l, hle⟩
        simp only [T3.tRet, T3.tRetN, T3.tSeq, T3.tNext, T3.tAsg, T3.gName, T3.gTupN, T3.gList, T3.tVar, T3.tC, T3.tOp, T3.tNotV, T3.tAndV, T3.tOrV, T3.tB, T3.tAnd, T3.tOr, T3.tNot, T3.tIf, T3.tIfS, T3.tCall, T3.tCB, T3.tCons, T3.tNil, T3.tIsi, T3.ordR, T3.intR, T3.absR, T3.intR1, T3.tChain, T3.tTup, T3.tLst, T3.tLstM, T3.tNever, T3.tDrop, T3.appR, T3.extR, T3.popR, T3.tFld, T3.insOf, T3.tMeth, T3.tMake, T3.sFld, T3.tYes, T3.iAny, T3.tFor, T3.iRng1, T3.iRng2, T3.iEnum, T3.tLc, T3.tLcM, T3.tLc2, T3.wipeD, T3.allR, T3.tSl, T3.tNoPart, T3.tPart, T3.slR, T3.gSub, T3.tRevD, T3.tBreak, T3.tCont, T3.tFrz, T3.startD, T3.fnEnds, T3.tab_ii, T3.tab_ib, T3.tab_ss, T3.tab_ll, T3.tab_lt, T3.tab_tl, T3.tab_tt, Bool.or_true, Bool.true_or, eq_self, List.map_cons, List.map_nil, List.length_cons, List.length_nil, List.cons_append, List.nil_append, List.getElem?_cons_zero, List.getElem?_cons_succ, List.getElem?_nil, List.set_cons_zero, List.set_cons_succ, List.replicate, Nat.sub_self, Nat.reduceAdd, Nat.reduceSub, ite_true, ite_false, if_true, if_false, Bool.not_true, Bool.not_false, reduceCtorEq, Bool.false_eq_true, ↓reduceIte, true_and, and_true, T3.tBM, T3.isTy, T3.slOf, ud_ne hpb, ud_same, Option.isSome]
        refine ⟨by rw [namesD, List.length_map]; exact sl65 (by omega), ?_⟩
        rw [ud3 hpb]
        refine e3 _ _ ⟨acc ++ [nm], g, s, _, _, _, _, rfl, ?_, ok, by rw [List.length_append]; show acc.length + 1 + _ = _; omega, ?_⟩
        · rw [namesD, namesD, List.map_append]; rfl
        · intro x hx
          rcases List.mem_append.mp hx with hx | hx
          · exact hn x hx
          · have : x = nm := by simpa using hx
            rw [this]; exact letters_ok hle h1l (by rw [List.length_nil] at hnl; omega)
      · unfold rangeD; rw [List.length_map, List.length_range]; rw [List.length_nil] at hnl; omega
      · rw [List.length_nil] at hnl; omega
    · have : ("" : Str).length = 0 := by decide +kernel
      unfold rangeD; rw [this, List.length_map, List.length_range]; omega
    · intro c hc
      have : ("" : Str).cps.toList = [] := by decide +kernel
      rw [this] at hc; cases hc
  · rintro σ h1 ⟨acc, g, s, a, c, d, e, rfl, rfl, ok, hl, hn⟩
    simp only [T3.tRet, T3.tRetN, T3.tSeq, T3.tNext, T3.tAsg, T3.gName, T3.gTupN, T3.gList, T3.tVar, T3.tC, T3.tOp, T3.tNotV, T3.tAndV, T3.tOrV, T3.tB, T3.tAnd, T3.tOr, T3.tNot, T3.tIf, T3.tIfS, T3.tCall, T3.tCB, T3.tCons, T3.tNil, T3.tIsi, T3.ordR, T3.intR, T3.absR, T3.intR1, T3.tChain, T3.tTup, T3.tLst, T3.tLstM, T3.tNever, T3.tDrop, T3.appR, T3.extR, T3.popR, T3.tFld, T3.insOf, T3.tMeth, T3.tMake, T3.sFld, T3.tYes, T3.iAny, T3.tFor, T3.iRng1, T3.iRng2, T3.iEnum, T3.tLc, T3.tLcM, T3.tLc2, T3.wipeD, T3.allR, T3.tSl, T3.tNoPart, T3.tPart, T3.slR, T3.gSub, T3.tRevD, T3.tBreak, T3.tCont, T3.tFrz, T3.startD, T3.fnEnds, T3.tab_ii, T3.tab_ib, T3.tab_ss, T3.tab_ll, T3.tab_lt, T3.tab_tl, T3.tab_tt, Bool.or_true, Bool.true_or, eq_self, List.map_cons, List.map_nil, List.length_cons, List.length_nil, List.cons_append, List.nil_append, List.getElem?_cons_zero, List.getElem?_cons_succ, List.getElem?_nil, List.set_cons_zero, List.set_cons_succ, List.replicate, Nat.sub_self, Nat.reduceAdd, Nat.reduceSub, ite_true, ite_false, if_true, if_false, Bool.not_true, Bool.not_false, reduceCtorEq, Bool.false_eq_true, ↓reduceIte, true_and, and_true]
    rw [List.length_nil] at hl
    exact out_lst (by rw [ud_ne hpb, ud_same]) (sub_er hp hpb) (q acc (by omega) hn g s ok)
  · funext a
    by_cases ha : a = b
    · subst ha; rw [ud_same, ud_ne hpb.symm, eb]
    · rw [ud_ne ha]; rfl
  · unfold rangeD; rw [List.length_map, List.length_range, List.length_nil]; omega
end K50

/-! k50: the reading of _law_wish. -/
namespace K50
open PySem PySem.Spec L2 T3
open PyProof.Rows hiding St

theorem need_lc {C : Addr} {hX : AH} {b : Addr} {rings : List Str} {g s : Int} {a1 a2 a3 a4 a5 a6 a7 a8 a9 a10 a11 : Option D} {ok : AH → Prop} {Q : List D → AH → Prop} (hok : ∀ h, ok h) (hr : rings.length ≤ 4) (bok : BoxOk g s)
    (q : ∀ (nm : List Str) g s, BoxOk g s → (∀ x ∈ nm, x ∈ rings) → nm.length ≤ 4 → Q (namesD nm) (ud hX b (bx g s))) :
    lcL ok (g0__law_wish C) (c1__law_wish C) (e2__law_wish C) [some (.ref b), a1, a2, a3, a4, a5, a6, a7, a8, a9, a10, a11] (namesD rings) [] (ud hX b (bx g s)) Q := by
  refine lcL_inv (I := fun l acc h1 => ∃ (nm rest : List Str) (g s : Int), l = namesD rest ∧ acc = namesD nm ∧ h1 = ud hX b (bx g s) ∧ BoxOk g s ∧ (∀ x ∈ nm, x ∈ rings) ∧ (∀ x ∈ rest, x ∈ rings) ∧ nm.length + rest.length ≤ 4) (fun _ _ _ _ => hok _) ?_ ?_ _ ⟨[], rings, g, s, rfl, rfl, rfl, bok, (fun _ h => by cases h), fun _ h => h, by rw [List.length_nil]; omega⟩
  · rintro x xs acc h1 ⟨nm, rest, g, s, e0, rfl, rfl, bok, hn, hre, hl⟩ F hF
    match rest, e0 with
    | y :: rest, e0 =>
      cases e0
      rw [List.length_cons] at hl
      simp only [g0__law_wish, c1__law_wish, e2__law_wish, T3.tRet, T3.tRetN, T3.tSeq, T3.tNext, T3.tAsg, T3.gName, T3.gTupN, T3.gList, T3.tVar, T3.tC, T3.tOp, T3.tNotV, T3.tAndV, T3.tOrV, T3.tB, T3.tAnd, T3.tOr, T3.tNot, T3.tIf, T3.tIfS, T3.tCall, T3.tCB, T3.tCons, T3.tNil, T3.tIsi, T3.ordR, T3.intR, T3.absR, T3.intR1, T3.tChain, T3.tTup, T3.tLst, T3.tLstM, T3.tNever, T3.tDrop, T3.appR, T3.extR, T3.popR, T3.tFld, T3.insOf, T3.tMeth, T3.tMake, T3.sFld, T3.tYes, T3.iAny, T3.tFor, T3.iRng1, T3.iRng2, T3.iEnum, T3.tLc, T3.tLcM, T3.tLc2, T3.wipeD, T3.allR, T3.tSl, T3.tNoPart, T3.tPart, T3.slR, T3.gSub, T3.tRevD, T3.tBreak, T3.tCont, T3.tFrz, T3.startD, T3.fnEnds, T3.tab_ii, T3.tab_ib, T3.tab_ss, T3.tab_ll, T3.tab_lt, T3.tab_tl, T3.tab_tt, Bool.or_true, Bool.true_or, eq_self, List.map_cons, List.map_nil, List.length_cons, List.length_nil, List.cons_append, List.nil_append, List.getElem?_cons_zero, List.getElem?_cons_succ, List.getElem?_nil, List.set_cons_zero, List.set_cons_succ, List.replicate, Nat.sub_self, Nat.reduceAdd, Nat.reduceSub, ite_true, ite_false, if_true, if_false, Bool.not_true, Bool.not_false, reduceCtorEq, Bool.false_eq_true, ↓reduceIte, true_and, and_true]
      refine ⟨b, 3, rfl, atBox_ud bok, by decide, by decide, fun k k0 k1 => fun g1 s1 ok1 => ?_⟩
      simp only [T3.eqR, resD, eqD_int, ud_ud]
      refine ⟨rfl, rfl, ?_⟩
      cases hk : decide (k = 0) with
      | true =>
        simp only [T3.nat_ofNat, decide_true, Bool.not_true, Bool.not_false, Bool.false_eq_true, eq_self, ↓reduceIte, true_and, and_true]
        refine ⟨by rw [namesD, List.length_map]; exact sl65 (by omega), hF _ _ ⟨nm ++ [y], rest, g1, s1, rfl, ?_, rfl, ok1, ?_, fun x hx => hre x (List.mem_cons_of_mem _ hx), by rw [List.length_append]; show nm.length + 1 + _ ≤ _; omega⟩⟩
        · rw [namesD, namesD, List.map_append]; rfl
        · intro x hx
          rcases List.mem_append.mp hx with hx | hx
          · exact hn x hx
          · have : x = y := by simpa using hx
            rw [this]; exact hre y (List.mem_cons_self ..)
      | false =>
        simp only [T3.nat_ofNat, decide_true, Bool.not_true, Bool.not_false, Bool.false_eq_true, eq_self, ↓reduceIte, true_and, and_true]
        exact hF _ _ ⟨nm, rest, g1, s1, rfl, rfl, rfl, ok1, hn, fun x hx => hre x (List.mem_cons_of_mem _ hx), by omega⟩
    | [], e0 => cases e0
  · rintro acc h1 ⟨nm, rest, g, s, e0, rfl, rfl, bok, hn, hre, hl⟩
    exact q nm g s bok hn (by omega)
theorem bar_lc {C : Addr} {hX : AH} {b : Addr} {rings nd : List Str} {g s : Int} {a1 a2 a3 a4 a5 a6 a7 a9 a10 a11 : Option D} {ok : AH → Prop} {Q : List D → AH → Prop} (hok : ∀ h, ok h) (hr : rings.length ≤ 4) (bok : BoxOk g s) (ho : ∀ x ∈ rings, nameOk x = true) (hnd : ∀ x ∈ nd, nameOk x = true)
    (q : ∀ (nm : List Str) g s, BoxOk g s → (∀ x ∈ nm, x ∈ rings) → nm.length ≤ 4 → Q (namesD nm) (ud hX b (bx g s))) :
    lcL ok (g3__law_wish C) (c4__law_wish C) (e5__law_wish C) [some (.ref b), a1, a2, a3, a4, a5, a6, a7, some (.lst (namesD nd)), a9, a10, a11] (namesD rings) [] (ud hX b (bx g s)) Q := by
  refine lcL_inv (I := fun l acc h1 => ∃ (nm rest : List Str) (g s : Int), l = namesD rest ∧ acc = namesD nm ∧ h1 = ud hX b (bx g s) ∧ BoxOk g s ∧ (∀ x ∈ nm, x ∈ rings) ∧ (∀ x ∈ rest, x ∈ rings) ∧ nm.length + rest.length ≤ 4) (fun _ _ _ _ => hok _) ?_ ?_ _ ⟨[], rings, g, s, rfl, rfl, rfl, bok, (fun _ h => by cases h), fun _ h => h, by rw [List.length_nil]; omega⟩
  · rintro x xs acc h1 ⟨nm, rest, g, s, e0, rfl, rfl, bok, hn, hre, hl⟩ F hF
    match rest, e0 with
    | y :: rest, e0 =>
      cases e0
      rw [List.length_cons] at hl
      simp only [g3__law_wish, c4__law_wish, e5__law_wish, T3.tRet, T3.tRetN, T3.tSeq, T3.tNext, T3.tAsg, T3.gName, T3.gTupN, T3.gList, T3.tVar, T3.tC, T3.tOp, T3.tNotV, T3.tAndV, T3.tOrV, T3.tB, T3.tAnd, T3.tOr, T3.tNot, T3.tIf, T3.tIfS, T3.tCall, T3.tCB, T3.tCons, T3.tNil, T3.tIsi, T3.ordR, T3.intR, T3.absR, T3.intR1, T3.tChain, T3.tTup, T3.tLst, T3.tLstM, T3.tNever, T3.tDrop, T3.appR, T3.extR, T3.popR, T3.tFld, T3.insOf, T3.tMeth, T3.tMake, T3.sFld, T3.tYes, T3.iAny, T3.tFor, T3.iRng1, T3.iRng2, T3.iEnum, T3.tLc, T3.tLcM, T3.tLc2, T3.wipeD, T3.allR, T3.tSl, T3.tNoPart, T3.tPart, T3.slR, T3.gSub, T3.tRevD, T3.tBreak, T3.tCont, T3.tFrz, T3.startD, T3.fnEnds, T3.tab_ii, T3.tab_ib, T3.tab_ss, T3.tab_ll, T3.tab_lt, T3.tab_tl, T3.tab_tt, Bool.or_true, Bool.true_or, eq_self, List.map_cons, List.map_nil, List.length_cons, List.length_nil, List.cons_append, List.nil_append, List.getElem?_cons_zero, List.getElem?_cons_succ, List.getElem?_nil, List.set_cons_zero, List.set_cons_succ, List.replicate, Nat.sub_self, Nat.reduceAdd, Nat.reduceSub, ite_true, ite_false, if_true, if_false, Bool.not_true, Bool.not_false, reduceCtorEq, Bool.false_eq_true, ↓reduceIte, true_and, and_true, T3.inR, T3.seqOf, resD]
      refine ⟨ok_str (ho y (hre y (List.mem_cons_self ..))), ok_all hnd, ?_⟩
      have hb : inL (.str y) (namesD nd) = false ∨ inL (.str y) (namesD nd) = true := by cases inL (.str y) (namesD nd) <;> simp
      rcases hb with hb | hb
      · simp only [hb, Bool.true_xor, T3.nat_ofNat, decide_true, Bool.not_true, Bool.not_false, Bool.false_eq_true, eq_self, ↓reduceIte, true_and, and_true]
        refine ⟨b, 3, rfl, atBox_ud bok, by decide, by decide, fun k k0 k1 => fun g1 s1 ok1 => ?_⟩
        simp only [T3.eqR, resD, eqD_int, ud_ud]
        refine ⟨rfl, rfl, ?_⟩
        cases hk : decide (k = 0) with
        | true =>
          simp only [T3.nat_ofNat, decide_true, Bool.not_true, Bool.not_false, Bool.false_eq_true, eq_self, ↓reduceIte, true_and, and_true]
          refine ⟨by rw [namesD, List.length_map]; exact sl65 (by omega), hF _ _ ⟨nm ++ [y], rest, g1, s1, rfl, ?_, rfl, ok1, ?_, fun x hx => hre x (List.mem_cons_of_mem _ hx), by rw [List.length_append]; show nm.length + 1 + _ ≤ _; omega⟩⟩
          · rw [namesD, namesD, List.map_append]; rfl
          · intro x hx
            rcases List.mem_append.mp hx with hx | hx
            · exact hn x hx
            · have : x = y := by simpa using hx
              rw [this]; exact hre y (List.mem_cons_self ..)
        | false =>
          simp only [T3.nat_ofNat, decide_true, Bool.not_true, Bool.not_false, Bool.false_eq_true, eq_self, ↓reduceIte, true_and, and_true]
          exact hF _ _ ⟨nm, rest, g1, s1, rfl, rfl, rfl, ok1, hn, fun x hx => hre x (List.mem_cons_of_mem _ hx), by omega⟩
      · simp only [hb, Bool.true_xor, T3.nat_ofNat, decide_true, Bool.not_true, Bool.not_false, Bool.false_eq_true, eq_self, ↓reduceIte, true_and, and_true]
        exact hF _ _ ⟨nm, rest, g, s, rfl, rfl, rfl, bok, hn, fun x hx => hre x (List.mem_cons_of_mem _ hx), by omega⟩
    | [], e0 => cases e0
  · rintro acc h1 ⟨nm, rest, g, s, e0, rfl, rfl, bok, hn, hre, hl⟩
    exact q nm g s bok hn (by omega)
/-- [k for k in range(3) if _law_take(box, 2) == 0] -/
theorem good_lc {C : Addr} {hX : AH} {b : Addr} {g s : Int} {a1 a2 a3 a4 a5 a6 a7 a8 a9 a10 a11 : Option D} {ok : AH → Prop} {Q : List D → AH → Prop} (hok : ∀ h, ok h) (bok : BoxOk g s)
    (q : ∀ (gd : List Int) g s, BoxOk g s → gd.Sublist [0, 1, 2] → Q (gd.map .int) (ud hX b (bx g s))) :
    lcL ok (g8__law_wish C) (c9__law_wish C) (e10__law_wish C) [some (.ref b), a1, a2, a3, a4, a5, a6, a7, a8, a9, a10, a11] (rangeD 0 3) [] (ud hX b (bx g s)) Q := by
  have e3 : rangeD 0 3 = ([0, 1, 2] : List Int).map .int := rfl
  rw [e3]
  refine lcL_inv (I := fun l acc h1 => ∃ (pre gd rest : List Int) (g s : Int), l = rest.map .int ∧ acc = gd.map .int ∧ h1 = ud hX b (bx g s) ∧ BoxOk g s ∧ gd.Sublist pre ∧ pre ++ rest = [0, 1, 2]) (fun _ _ _ _ => hok _) ?_ ?_ _ ⟨[], [], [0, 1, 2], g, s, rfl, rfl, rfl, bok, List.Sublist.refl _, rfl⟩
  · rintro x xs acc h1 ⟨pre, gd, rest, g, s, e0, rfl, rfl, bok, hs, he⟩ F hF
    match rest, e0 with
    | y :: rest, e0 =>
      cases e0
      have hl : gd.length ≤ 3 := by
        have h1 := hs.length_le
        have h2 := congrArg List.length he
        rw [List.length_append] at h2
        have h3 : ([0, 1, 2] : List Int).length = 3 := rfl
        omega
      have he' : (pre ++ [y]) ++ rest = [0, 1, 2] := by rw [List.append_assoc]; exact he
      simp only [g8__law_wish, c9__law_wish, e10__law_wish, T3.tRet, T3.tRetN, T3.tSeq, T3.tNext, T3.tAsg, T3.gName, T3.gTupN, T3.gList, T3.tVar, T3.tC, T3.tOp, T3.tNotV, T3.tAndV, T3.tOrV, T3.tB, T3.tAnd, T3.tOr, T3.tNot, T3.tIf, T3.tIfS, T3.tCall, T3.tCB, T3.tCons, T3.tNil, T3.tIsi, T3.ordR, T3.intR, T3.absR, T3.intR1, T3.tChain, T3.tTup, T3.tLst, T3.tLstM, T3.tNever, T3.tDrop, T3.appR, T3.extR, T3.popR, T3.tFld, T3.insOf, T3.tMeth, T3.tMake, T3.sFld, T3.tYes, T3.iAny, T3.tFor, T3.iRng1, T3.iRng2, T3.iEnum, T3.tLc, T3.tLcM, T3.tLc2, T3.wipeD, T3.allR, T3.tSl, T3.tNoPart, T3.tPart, T3.slR, T3.gSub, T3.tRevD, T3.tBreak, T3.tCont, T3.tFrz, T3.startD, T3.fnEnds, T3.tab_ii, T3.tab_ib, T3.tab_ss, T3.tab_ll, T3.tab_lt, T3.tab_tl, T3.tab_tt, Bool.or_true, Bool.true_or, eq_self, List.map_cons, List.map_nil, List.length_cons, List.length_nil, List.cons_append, List.nil_append, List.getElem?_cons_zero, List.getElem?_cons_succ, List.getElem?_nil, List.set_cons_zero, List.set_cons_succ, List.replicate, Nat.sub_self, Nat.reduceAdd, Nat.reduceSub, ite_true, ite_false, if_true, if_false, Bool.not_true, Bool.not_false, reduceCtorEq, Bool.false_eq_true, ↓reduceIte, true_and, and_true]
      refine ⟨b, 2, rfl, atBox_ud bok, by decide, by decide, fun k k0 k1 => fun g1 s1 ok1 => ?_⟩
      simp only [T3.eqR, resD, eqD_int, ud_ud]
      refine ⟨rfl, rfl, ?_⟩
      cases hk : decide (k = 0) with
      | true =>
        simp only [T3.nat_ofNat, decide_true, Bool.not_true, Bool.not_false, Bool.false_eq_true, eq_self, ↓reduceIte, true_and, and_true]
        refine ⟨by rw [List.length_map]; exact sl65 (by omega), hF _ _ ⟨pre ++ [y], gd ++ [y], rest, g1, s1, rfl, by rw [List.map_append]; rfl, rfl, ok1, hs.append (List.Sublist.refl _), he'⟩⟩
      | false =>
        simp only [T3.nat_ofNat, decide_true, Bool.not_true, Bool.not_false, Bool.false_eq_true, eq_self, ↓reduceIte, true_and, and_true]
        exact hF _ _ ⟨pre ++ [y], gd, rest, g1, s1, rfl, rfl, rfl, ok1, hs.trans (List.sublist_append_left _ _), he'⟩
    | [], e0 => cases e0
  · rintro acc h1 ⟨pre, gd, rest, g, s, e0, rfl, rfl, bok, hs, he⟩
    match rest, e0 with
    | [], _ =>
      rw [List.append_nil] at he
      subst he
      exact q gd g s bok hs
    | _ :: _, e0 => cases e0
theorem len__law_wish (C : Addr) : ∀ ds h R, fs__law_wish C ds h R → ds.length = (["box", "rings"] : List Str).length := by
  rintro ds h R ⟨b, m, rfl, q⟩
  rfl
theorem names_mem {x : D} {l : List Str} (h : x ∈ namesD l) : ∃ y, x = .str y ∧ y ∈ l := by
  obtain ⟨y, hy, rfl⟩ := List.mem_map.mp h
  exact ⟨y, rfl, hy⟩
/-- a step as told -/
theorem tr {rings : List Str} {n one two : Int} {need bar : List Str} (h1 : 0 ≤ one) (h2 : one < n) (h3 : 0 ≤ two) (h4 : two < n) (h5 : ∀ x ∈ need, x ∈ rings) (h6 : ∀ x ∈ bar, x ∈ rings) (h7 : need.length ≤ 4) (h8 : bar.length ≤ 4) :
    (0 ≤ (⟨one, need, bar, two⟩ : Rule).one ∧ (⟨one, need, bar, two⟩ : Rule).one < n) ∧ (0 ≤ (⟨one, need, bar, two⟩ : Rule).two ∧ (⟨one, need, bar, two⟩ : Rule).two < n) ∧ (∀ x ∈ (⟨one, need, bar, two⟩ : Rule).need, x ∈ rings) ∧ (∀ x ∈ (⟨one, need, bar, two⟩ : Rule).bar, x ∈ rings) ∧ (⟨one, need, bar, two⟩ : Rule).need.length ≤ 4 ∧ (⟨one, need, bar, two⟩ : Rule).bar.length ≤ 4 := ⟨⟨h1, h2⟩, ⟨h3, h4⟩, h5, h6, h7, h8⟩
theorem in1 {x : Str} {rings : List Str} (h : x ∈ rings) : ∀ y ∈ [x], y ∈ rings := fun y hy => by
  have : y = x := by simpa using hy
  rw [this]; exact h
theorem in0 {rings : List Str} : ∀ y ∈ ([] : List Str), y ∈ rings := fun y hy => by cases hy
theorem l41 {x : Str} : [x].length ≤ 4 := (by decide : 1 ≤ 4)
theorem l40 : ([] : List Str).length ≤ 4 := (by decide : 0 ≤ 4)
theorem ok1r {rings : List Str} {n : Int} {good : List Int} {a : Rule} (h0 : (n = 2 ∧ (good = [1] ∨ good = [0])) ∨ (n = 3 ∧ good.Sublist [0, 1, 2])) (ha : (0 ≤ a.one ∧ a.one < n) ∧ (0 ≤ a.two ∧ a.two < n) ∧ (∀ x ∈ a.need, x ∈ rings) ∧ (∀ x ∈ a.bar, x ∈ rings) ∧ a.need.length ≤ 4 ∧ a.bar.length ≤ 4) : toldOk rings n good [a] :=
  ⟨h0, (by decide : 1 ≤ 4), fun r hr => by have : r = a := by simpa using hr
                                           rw [this]; exact ha⟩
theorem ok2r {rings : List Str} {n : Int} {good : List Int} {a c : Rule} (h0 : (n = 2 ∧ (good = [1] ∨ good = [0])) ∨ (n = 3 ∧ good.Sublist [0, 1, 2])) (ha : (0 ≤ a.one ∧ a.one < n) ∧ (0 ≤ a.two ∧ a.two < n) ∧ (∀ x ∈ a.need, x ∈ rings) ∧ (∀ x ∈ a.bar, x ∈ rings) ∧ a.need.length ≤ 4 ∧ a.bar.length ≤ 4)
    (hc : (0 ≤ c.one ∧ c.one < n) ∧ (0 ≤ c.two ∧ c.two < n) ∧ (∀ x ∈ c.need, x ∈ rings) ∧ (∀ x ∈ c.bar, x ∈ rings) ∧ c.need.length ≤ 4 ∧ c.bar.length ≤ 4) : toldOk rings n good [a, c] :=
  ⟨h0, (by decide : 2 ≤ 4), fun r hr => by have : r = a ∨ r = c := by simpa using hr
                                           rcases this with rfl | rfl
                                           · exact ha
                                           · exact hc⟩
theorem rd__law_wish (C : Addr) : ∀ ds h R, fs__law_wish C ds h R → t__law_wish C (fnEnds R) (startD N__law_wish ds) h := by
  rintro ds h R ⟨b, rings, rfl, ab, ⟨r0, r4, rn⟩, q⟩
  have rl : (namesD rings) ≠ [] := fun z => r0 (List.map_eq_nil_iff.mp z)
  have rll : (namesD rings).length ≤ 1000 := by rw [namesD, List.length_map]; omega
  simp only [t__law_wish, N__law_wish, T3.tRet, T3.tRetN, T3.tSeq, T3.tNext, T3.tAsg, T3.gName, T3.gTupN, T3.gList, T3.tVar, T3.tC, T3.tOp, T3.tNotV, T3.tAndV, T3.tOrV, T3.tB, T3.tAnd, T3.tOr, T3.tNot, T3.tIf, T3.tIfS, T3.tCall, T3.tCB, T3.tCons, T3.tNil, T3.tIsi, T3.ordR, T3.intR, T3.absR, T3.intR1, T3.tChain, T3.tTup, T3.tLst, T3.tLstM, T3.tNever, T3.tDrop, T3.appR, T3.extR, T3.popR, T3.tFld, T3.insOf, T3.tMeth, T3.tMake, T3.sFld, T3.tYes, T3.iAny, T3.tFor, T3.iRng1, T3.iRng2, T3.iEnum, T3.tLc, T3.tLcM, T3.tLc2, T3.wipeD, T3.allR, T3.tSl, T3.tNoPart, T3.tPart, T3.slR, T3.gSub, T3.tRevD, T3.tBreak, T3.tCont, T3.tFrz, T3.startD, T3.fnEnds, T3.tab_ii, T3.tab_ib, T3.tab_ss, T3.tab_ll, T3.tab_lt, T3.tab_tl, T3.tab_tt, Bool.or_true, Bool.true_or, eq_self, List.map_cons, List.map_nil, List.length_cons, List.length_nil, List.cons_append, List.nil_append, List.getElem?_cons_zero, List.getElem?_cons_succ, List.getElem?_nil, List.set_cons_zero, List.set_cons_succ, List.replicate, Nat.sub_self, Nat.reduceAdd, Nat.reduceSub, ite_true, ite_false, if_true, if_false, Bool.not_true, Bool.not_false, reduceCtorEq, Bool.false_eq_true, ↓reduceIte, true_and, and_true]
  refine ⟨b, _, rfl, ab, rl, rll, fun x hx => fun g1 s1 ok1 => ?_⟩
  obtain ⟨x1, rfl, hx1⟩ := names_mem hx
  refine ⟨b, _, rfl, atBox_ud ok1, rl, rll, fun x hx => fun g2 s2 ok2 => ?_⟩
  obtain ⟨x2, rfl, hx2⟩ := names_mem hx
  simp only [ud_ud]
  refine ⟨sl65' (by decide), ?_⟩
  refine ⟨b, 8, rfl, atBox_ud ok2, by decide, by decide, fun f f0 f1 => fun g3 s3 ok3 => ?_⟩
  simp only [ud_ud]
  refine ⟨sl65' (by decide), sl65' (by decide), sl65' (by decide), ?_⟩
  refine ⟨b, 2, rfl, atBox_ud ok3, by decide, by decide, fun gi gi0 gi1 => fun g4 s4 ok4 => ?_⟩
  simp only [ud_ud]
  obtain ⟨gx, eg, hg⟩ := atI_nat (l := [D.lst [.int 1], .lst [.int 0]]) gi0 gi1
  have hgd : ∃ gd : List Int, gx = .lst (gd.map .int) ∧ (gd = [1] ∨ gd = [0]) := by
    have : gx = .lst [.int 1] ∨ gx = .lst [.int 0] := by simpa using hg
    rcases this with e | e
    · exact ⟨[1], e, .inl rfl⟩
    · exact ⟨[0], e, .inr rfl⟩
  obtain ⟨gd, rfl, hgd⟩ := hgd
  refine ixR_seq (l := [D.lst [.int 1], .lst [.int 0]]) rfl eg ?_
  simp only [T3.eqR, resD, eqD_int]
  refine ⟨rfl, rfl, ?_⟩
  cases c0 : decide (f = 0) with
  | true =>
    simp only [T3.nat_ofNat, decide_true, Bool.not_true, Bool.not_false, Bool.false_eq_true, eq_self, ↓reduceIte, true_and, and_true]
    refine ⟨sl65' (by decide), sl65' (by decide), sl65' (by decide), sl65' (by decide), sl65' (by decide), ?_⟩
    exact out_as (q 2 gd [⟨0, [x1], [], 1⟩] (ok1r (.inl ⟨rfl, hgd⟩) (tr (by decide) (by decide) (by decide) (by decide) (in1 hx1) in0 l41 l40)) g4 s4 ok4)
  | false =>
  simp only [T3.nat_ofNat, decide_true, Bool.not_true, Bool.not_false, Bool.false_eq_true, eq_self, ↓reduceIte, true_and, and_true]
  refine ⟨rfl, rfl, ?_⟩
  cases c1 : decide (f = 1) with
  | true =>
    simp only [T3.nat_ofNat, decide_true, Bool.not_true, Bool.not_false, Bool.false_eq_true, eq_self, ↓reduceIte, true_and, and_true]
    refine ⟨sl65' (by decide), sl65' (by decide), sl65' (by decide), sl65' (by decide), sl65' (by decide), sl65' (by decide), sl65' (by decide), sl65' (by decide), sl65' (by decide), ?_⟩
    exact out_as (q 3 [1] [⟨0, [x2], [], 2⟩, ⟨0, [x1], [], 1⟩] (ok2r (.inr ⟨rfl, by decide⟩) (tr (by decide) (by decide) (by decide) (by decide) (in1 hx2) in0 l41 l40) (tr (by decide) (by decide) (by decide) (by decide) (in1 hx1) in0 l41 l40)) g4 s4 ok4)
  | false =>
  simp only [T3.nat_ofNat, decide_true, Bool.not_true, Bool.not_false, Bool.false_eq_true, eq_self, ↓reduceIte, true_and, and_true]
  refine ⟨rfl, rfl, ?_⟩
  cases c2 : decide (f = 2) with
  | true =>
    simp only [T3.nat_ofNat, decide_true, Bool.not_true, Bool.not_false, Bool.false_eq_true, eq_self, ↓reduceIte, true_and, and_true]
    refine ⟨sl65' (by decide), sl65' (by decide), sl65' (by decide), sl65' (by decide), sl65' (by decide), sl65' (by decide), sl65' (by decide), sl65' (by decide), ?_⟩
    exact out_as (q 2 gd [⟨0, [x1], [], 1⟩, ⟨1, [x1], [], 0⟩] (ok2r (.inl ⟨rfl, hgd⟩) (tr (by decide) (by decide) (by decide) (by decide) (in1 hx1) in0 l41 l40) (tr (by decide) (by decide) (by decide) (by decide) (in1 hx1) in0 l41 l40)) g4 s4 ok4)
  | false =>
  simp only [T3.nat_ofNat, decide_true, Bool.not_true, Bool.not_false, Bool.false_eq_true, eq_self, ↓reduceIte, true_and, and_true]
  refine ⟨rfl, rfl, ?_⟩
  cases c3 : decide (f = 3) with
  | true =>
    simp only [T3.nat_ofNat, decide_true, Bool.not_true, Bool.not_false, Bool.false_eq_true, eq_self, ↓reduceIte, true_and, and_true]
    refine ⟨sl65' (by decide), sl65' (by decide), sl65' (by decide), sl65' (by decide), sl65' (by decide), sl65' (by decide), sl65' (by decide), sl65' (by decide), sl65' (by decide), ?_⟩
    exact out_as (q 2 [1] [⟨0, [x1], [], 1⟩, ⟨1, [], [x1], 0⟩] (ok2r (.inl ⟨rfl, .inl rfl⟩) (tr (by decide) (by decide) (by decide) (by decide) (in1 hx1) in0 l41 l40) (tr (by decide) (by decide) (by decide) (by decide) in0 (in1 hx1) l40 l41)) g4 s4 ok4)
  | false =>
  simp only [T3.nat_ofNat, decide_true, Bool.not_true, Bool.not_false, Bool.false_eq_true, eq_self, ↓reduceIte, true_and, and_true]
  refine ⟨rfl, rfl, ?_⟩
  cases c4 : decide (f = 4) with
  | true =>
    simp only [T3.nat_ofNat, decide_true, Bool.not_true, Bool.not_false, Bool.false_eq_true, eq_self, ↓reduceIte, true_and, and_true]
    refine ⟨sl65' (by decide), sl65' (by decide), sl65' (by decide), sl65' (by decide), sl65' (by decide), sl65' (by decide), sl65' (by decide), sl65' (by decide), sl65' (by decide), ?_⟩
    exact out_as (q 3 [2] [⟨0, [x1], [], 1⟩, ⟨1, [x2], [], 2⟩] (ok2r (.inr ⟨rfl, by decide⟩) (tr (by decide) (by decide) (by decide) (by decide) (in1 hx1) in0 l41 l40) (tr (by decide) (by decide) (by decide) (by decide) (in1 hx2) in0 l41 l40)) g4 s4 ok4)
  | false =>
  simp only [T3.nat_ofNat, decide_true, Bool.not_true, Bool.not_false, Bool.false_eq_true, eq_self, ↓reduceIte, true_and, and_true]
  refine ⟨Nat.zero_le _, fun p hp0 => ?_⟩
  have hpb := box_ne (atBox_ud (h := h) (b := b) ok4) hp0
  have hp : h p = none := by rw [ud_ne hpb] at hp0; exact hp0
  have e4 : ud (ud h b (bx g4 s4)) p (.lst []) = ud (ud h p (.lst [])) b (bx g4 s4) := ud_comm hpb.symm
  rw [e4]
  refine ⟨b, 3, rfl, atBox_ud ok4, by decide, by decide, fun k k0 k1 => fun g5 s5 ok5 => ?_⟩
  simp only [T3.addR, ud_ud]
  refine ⟨⟨by omega, by omega⟩, ?_⟩
  refine forL_inv (I := fun l σ h1 => ∃ rs g s a7 a8 a9, σ = [some (.ref b), some (.lst (namesD rings)), some (.str x1), some (.str x2), some (.int f), some (.lst (gd.map .int)), some (.ref p), a7, a8, a9, none, none] ∧ h1 = ud (ud h p (.lst (rs.map sD))) b (bx g s) ∧ BoxOk g s ∧ rs.length + l.length ≤ 4 ∧
    ∀ r ∈ rs, (0 ≤ r.one ∧ r.one < 3) ∧ (0 ≤ r.two ∧ r.two < 3) ∧ (∀ x ∈ r.need, x ∈ rings) ∧ (∀ x ∈ r.bar, x ∈ rings) ∧ r.need.length ≤ 4 ∧ r.bar.length ≤ 4) (fun _ _ _ _ => trivial) ?_ gName_mono ?_ _
    ⟨[], g5, s5, none, none, none, rfl, rfl, ok5, ?_, fun _ h => by cases h⟩
  · rintro x xs σ h1 ⟨rs, g, s, a7, a8, a9, rfl, rfl, ok, hl, hr⟩
    rw [List.length_cons] at hl
    simp only [g6__law_wish, b7__law_wish, T3.tRet, T3.tRetN, T3.tSeq, T3.tNext, T3.tAsg, T3.gName, T3.gTupN, T3.gList, T3.tVar, T3.tC, T3.tOp, T3.tNotV, T3.tAndV, T3.tOrV, T3.tB, T3.tAnd, T3.tOr, T3.tNot, T3.tIf, T3.tIfS, T3.tCall, T3.tCB, T3.tCons, T3.tNil, T3.tIsi, T3.ordR, T3.intR, T3.absR, T3.intR1, T3.tChain, T3.tTup, T3.tLst, T3.tLstM, T3.tNever, T3.tDrop, T3.appR, T3.extR, T3.popR, T3.tFld, T3.insOf, T3.tMeth, T3.tMake, T3.sFld, T3.tYes, T3.iAny, T3.tFor, T3.iRng1, T3.iRng2, T3.iEnum, T3.tLc, T3.tLcM, T3.tLc2, T3.wipeD, T3.allR, T3.tSl, T3.tNoPart, T3.tPart, T3.slR, T3.gSub, T3.tRevD, T3.tBreak, T3.tCont, T3.tFrz, T3.startD, T3.fnEnds, T3.tab_ii, T3.tab_ib, T3.tab_ss, T3.tab_ll, T3.tab_lt, T3.tab_tl, T3.tab_tt, Bool.or_true, Bool.true_or, eq_self, List.map_cons, List.map_nil, List.length_cons, List.length_nil, List.cons_append, List.nil_append, List.getElem?_cons_zero, List.getElem?_cons_succ, List.getElem?_nil, List.set_cons_zero, List.set_cons_succ, List.replicate, Nat.sub_self, Nat.reduceAdd, Nat.reduceSub, ite_true, ite_false, if_true, if_false, Bool.not_true, Bool.not_false, reduceCtorEq, Bool.false_eq_true, ↓reduceIte, true_and, and_true, T3.itOf, T3.seqOf]
    intro E' _ _ e3 _
    refine need_lc (fun _ => trivial) r4 ok fun nd g6 s6 ok6 hnd lnd => ?_
    refine bar_lc (fun _ => trivial) r4 ok6 rn (fun x hx => rn x (hnd x hx)) fun br g7 s7 ok7 hbr lbr => ?_
    simp only [T3.tBM, T3.isTy, T3.slOf, ud_ne hpb, ud_same, Option.isSome, T3.tRet, T3.tRetN, T3.tSeq, T3.tNext, T3.tAsg, T3.gName, T3.gTupN, T3.gList, T3.tVar, T3.tC, T3.tOp, T3.tNotV, T3.tAndV, T3.tOrV, T3.tB, T3.tAnd, T3.tOr, T3.tNot, T3.tIf, T3.tIfS, T3.tCall, T3.tCB, T3.tCons, T3.tNil, T3.tIsi, T3.ordR, T3.intR, T3.absR, T3.intR1, T3.tChain, T3.tTup, T3.tLst, T3.tLstM, T3.tNever, T3.tDrop, T3.appR, T3.extR, T3.popR, T3.tFld, T3.insOf, T3.tMeth, T3.tMake, T3.sFld, T3.tYes, T3.iAny, T3.tFor, T3.iRng1, T3.iRng2, T3.iEnum, T3.tLc, T3.tLcM, T3.tLc2, T3.wipeD, T3.allR, T3.tSl, T3.tNoPart, T3.tPart, T3.slR, T3.gSub, T3.tRevD, T3.tBreak, T3.tCont, T3.tFrz, T3.startD, T3.fnEnds, T3.tab_ii, T3.tab_ib, T3.tab_ss, T3.tab_ll, T3.tab_lt, T3.tab_tl, T3.tab_tt, Bool.or_true, Bool.true_or, eq_self, List.map_cons, List.map_nil, List.length_cons, List.length_nil, List.cons_append, List.nil_append, List.getElem?_cons_zero, List.getElem?_cons_succ, List.getElem?_nil, List.set_cons_zero, List.set_cons_succ, List.replicate, Nat.sub_self, Nat.reduceAdd, Nat.reduceSub, ite_true, ite_false, if_true, if_false, Bool.not_true, Bool.not_false, reduceCtorEq, Bool.false_eq_true, ↓reduceIte, true_and, and_true]
    refine ⟨b, 3, rfl, atBox_ud ok7, by decide, by decide, fun one o0 o1 => fun g8 s8 ok8 => ?_⟩
    simp only [ud_ud]
    refine ⟨b, 3, rfl, atBox_ud ok8, by decide, by decide, fun two t0 t1 => fun g9 s9 ok9 => ?_⟩
    simp only [ud_ud, ud_ne hpb, ud_same]
    refine ⟨sl65' (by decide), by rw [List.length_map]; exact sl65 (by omega), ?_⟩
    rw [ud3 hpb]
    refine e3 _ _ ⟨rs ++ [⟨one, nd, br, two⟩], g9, s9, _, _, _, rfl, ?_, ok9, by rw [List.length_append]; show rs.length + 1 + _ ≤ _; omega, fun r hr' => ?_⟩
    · rw [List.map_append]; rfl
    · rcases List.mem_append.mp hr' with z | z
      · exact hr r z
      · have : r = ⟨one, nd, br, two⟩ := by simpa using z
        rw [this]; exact tr o0 o1 t0 t1 hnd hbr lnd lbr
  · rintro σ h1 ⟨rs, g, s, a7, a8, a9, rfl, rfl, ok, hl, hr⟩
    simp only [T3.tRet, T3.tRetN, T3.tSeq, T3.tNext, T3.tAsg, T3.gName, T3.gTupN, T3.gList, T3.tVar, T3.tC, T3.tOp, T3.tNotV, T3.tAndV, T3.tOrV, T3.tB, T3.tAnd, T3.tOr, T3.tNot, T3.tIf, T3.tIfS, T3.tCall, T3.tCB, T3.tCons, T3.tNil, T3.tIsi, T3.ordR, T3.intR, T3.absR, T3.intR1, T3.tChain, T3.tTup, T3.tLst, T3.tLstM, T3.tNever, T3.tDrop, T3.appR, T3.extR, T3.popR, T3.tFld, T3.insOf, T3.tMeth, T3.tMake, T3.sFld, T3.tYes, T3.iAny, T3.tFor, T3.iRng1, T3.iRng2, T3.iEnum, T3.tLc, T3.tLcM, T3.tLc2, T3.wipeD, T3.allR, T3.tSl, T3.tNoPart, T3.tPart, T3.slR, T3.gSub, T3.tRevD, T3.tBreak, T3.tCont, T3.tFrz, T3.startD, T3.fnEnds, T3.tab_ii, T3.tab_ib, T3.tab_ss, T3.tab_ll, T3.tab_lt, T3.tab_tl, T3.tab_tt, Bool.or_true, Bool.true_or, eq_self, List.map_cons, List.map_nil, List.length_cons, List.length_nil, List.cons_append, List.nil_append, List.getElem?_cons_zero, List.getElem?_cons_succ, List.getElem?_nil, List.set_cons_zero, List.set_cons_succ, List.replicate, Nat.sub_self, Nat.reduceAdd, Nat.reduceSub, ite_true, ite_false, if_true, if_false, Bool.not_true, Bool.not_false, reduceCtorEq, Bool.false_eq_true, ↓reduceIte, true_and, and_true, ud_ne hpb, ud_same]
    have e5 : er (ud (ud h p (.lst (rs.map sD))) b (bx g s)) p = ud h b (bx g s) := by
      rw [er_ud_ne hpb, er_ud hp]
    rw [e5]
    refine ⟨⟨by decide, by decide⟩, ?_⟩
    rw [show Int.toNat 3 = 3 from rfl]
    refine good_lc (fun _ => trivial) ok fun gd' g6 s6 ok6 hs => ?_
    refine ⟨sl65' (by decide), ?_⟩
    exact out_as (q 3 gd' rs ⟨.inr ⟨rfl, hs⟩, by rw [List.length_nil] at hl; omega, hr⟩ g6 s6 ok6)
  · unfold rangeD; rw [List.length_map, List.length_range, List.length_nil]; omega
end K50

/-! k50: the readings of _law_read, _law_lots, _law_end, _law_sorted_steps. -/
namespace K50
open PySem PySem.Spec L2 T3
open PyProof.Rows hiding St

theorem empty_filter {α : Type} (p : α → Bool) : ∀ l : List α, (l.filter p).isEmpty = l.all fun x => !p x
  | [] => rfl
  | a :: l => by
    rw [List.filter_cons, List.all_cons]
    cases h : p a with
    | true => simp
    | false => simp [empty_filter p l]
theorem empty_app {α : Type} (l m : List α) : (l ++ m).isEmpty = (l.isEmpty && m.isEmpty) := by
  cases l <;> rfl
theorem read_test (need bar lot : List Str) : ((namesD need).filter (fun d => !(inL d (namesD lot))) ++ (namesD bar).filter (fun d => inL d (namesD lot))).isEmpty = (need.all (fun x => decide (x ∈ lot)) && !(bar.any fun x => decide (x ∈ lot))) := by
  rw [empty_app, empty_filter, empty_filter]
  have e1 : (namesD need).all (fun d => !(!(inL d (namesD lot)))) = need.all fun x => decide (x ∈ lot) := by
    unfold namesD
    rw [List.all_map]
    refine List.all_congr rfl fun x => ?_
    show (!(!(inL (.str x) (lot.map .str)))) = _
    rw [Bool.not_not, inL_strs]
  have e2 : (namesD bar).all (fun d => !(inL d (namesD lot))) = !(bar.any fun x => decide (x ∈ lot)) := by
    unfold namesD
    rw [List.all_map, List.not_any_eq_all_not]
    refine List.all_congr rfl fun x => ?_
    show (!(inL (.str x) (lot.map .str))) = _
    rw [inL_strs]
  rw [e1, e2]
theorem filter_ok {n : Nat} {l : List Str} {p : D → Bool} (h : ∀ x ∈ l, nameOk x = true) : ((namesD l).filter p).all (okD n) = true := by
  rw [List.all_eq_true]
  intro d hd
  exact (List.all_eq_true.mp (ok_all h)) d (List.mem_filter.mp hd).1
theorem len__law_read (C : Addr) : ∀ ds h R, fs__law_read C ds h R → ds.length = (["wish", "state", "lot"] : List Str).length := by
  rintro ds h R ⟨n, good, rs, st, lot, rfl, q⟩
  rfl
theorem rd__law_read (C : Addr) : ∀ ds h R, fs__law_read C ds h R → t__law_read C (fnEnds R) (startD N__law_read ds) h := by
  rintro ds h R ⟨n, good, rs, st, lot, rfl, ok, okl, q⟩
  simp only [t__law_read, N__law_read, T3.tRet, T3.tRetN, T3.tSeq, T3.tNext, T3.tAsg, T3.gName, T3.gTupN, T3.gList, T3.tVar, T3.tC, T3.tOp, T3.tNotV, T3.tAndV, T3.tOrV, T3.tB, T3.tAnd, T3.tOr, T3.tNot, T3.tIf, T3.tIfS, T3.tCall, T3.tCB, T3.tCons, T3.tNil, T3.tIsi, T3.ordR, T3.intR, T3.absR, T3.intR1, T3.tChain, T3.tTup, T3.tLst, T3.tLstM, T3.tNever, T3.tDrop, T3.appR, T3.extR, T3.popR, T3.tFld, T3.insOf, T3.tMeth, T3.tMake, T3.sFld, T3.tYes, T3.iAny, T3.tFor, T3.iRng1, T3.iRng2, T3.iEnum, T3.tLc, T3.tLcM, T3.tLc2, T3.wipeD, T3.allR, T3.tSl, T3.tNoPart, T3.tPart, T3.slR, T3.gSub, T3.tRevD, T3.tBreak, T3.tCont, T3.tFrz, T3.startD, T3.fnEnds, T3.tab_ii, T3.tab_ib, T3.tab_ss, T3.tab_ll, T3.tab_lt, T3.tab_tl, T3.tab_tt, Bool.or_true, Bool.true_or, eq_self, List.map_cons, List.map_nil, List.length_cons, List.length_nil, List.cons_append, List.nil_append, List.getElem?_cons_zero, List.getElem?_cons_succ, List.getElem?_nil, List.set_cons_zero, List.set_cons_succ, List.replicate, Nat.sub_self, Nat.reduceAdd, Nat.reduceSub, ite_true, ite_false, if_true, if_false, Bool.not_true, Bool.not_false, reduceCtorEq, Bool.false_eq_true, ↓reduceIte, true_and, and_true]
  refine ixR_seq (l := [.int n, .lst (good.map .int), .lst (rs.map sD)]) rfl (i := 2) rfl ?_
  simp only [T3.itOf, T3.seqOf]
  refine forL_inv (I := fun l σ h1 => ∃ rs' a b c d e, l = List.map sD rs' ∧ σ = [some (toldD n good rs), some (.int st), some (lotD lot), a, b, c, d, e] ∧ h1 = h ∧ aft rs' st lot = aft rs st lot ∧ (∀ r ∈ rs', ruleOk n r)) (fun _ _ _ _ => trivial) ?_ (gNames_mono (is := [3, 4, 5, 6]) (n := 4)) ?_ _ ⟨rs, none, none, none, none, none, rfl, rfl, rfl, rfl, ok.2.2.2.1⟩
  · rintro x xs σ h1 ⟨rs', a, b, c, d, e, e0, rfl, rfl, ea, ok'⟩
    match rs', e0 with
    | r :: rs', e0 =>
      cases e0
      have okr := ok' r (List.mem_cons_self ..)
      simp only [g6__law_read, b7__law_read, sD, T3.tRet, T3.tRetN, T3.tSeq, T3.tNext, T3.tAsg, T3.gName, T3.gTupN, T3.gList, T3.tVar, T3.tC, T3.tOp, T3.tNotV, T3.tAndV, T3.tOrV, T3.tB, T3.tAnd, T3.tOr, T3.tNot, T3.tIf, T3.tIfS, T3.tCall, T3.tCB, T3.tCons, T3.tNil, T3.tIsi, T3.ordR, T3.intR, T3.absR, T3.intR1, T3.tChain, T3.tTup, T3.tLst, T3.tLstM, T3.tNever, T3.tDrop, T3.appR, T3.extR, T3.popR, T3.tFld, T3.insOf, T3.tMeth, T3.tMake, T3.sFld, T3.tYes, T3.iAny, T3.tFor, T3.iRng1, T3.iRng2, T3.iEnum, T3.tLc, T3.tLcM, T3.tLc2, T3.wipeD, T3.allR, T3.tSl, T3.tNoPart, T3.tPart, T3.slR, T3.gSub, T3.tRevD, T3.tBreak, T3.tCont, T3.tFrz, T3.startD, T3.fnEnds, T3.tab_ii, T3.tab_ib, T3.tab_ss, T3.tab_ll, T3.tab_lt, T3.tab_tl, T3.tab_tt, Bool.or_true, Bool.true_or, eq_self, List.map_cons, List.map_nil, List.length_cons, List.length_nil, List.cons_append, List.nil_append, List.getElem?_cons_zero, List.getElem?_cons_succ, List.getElem?_nil, List.set_cons_zero, List.set_cons_succ, List.replicate, Nat.sub_self, Nat.reduceAdd, Nat.reduceSub, ite_true, ite_false, if_true, if_false, Bool.not_true, Bool.not_false, reduceCtorEq, Bool.false_eq_true, ↓reduceIte, true_and, and_true, T3.eqR, resD, eqD_int]
      intro E' e1 _ e3 _
      refine ⟨rfl, rfl, ?_⟩
      have go : hasR r st lot = false → E'.nx [some (toldD n good rs), some (.int st), some (lotD lot), some (.int r.one), some (.lst (namesD r.need)), some (.lst (namesD r.bar)), some (.int r.two), e] h1 := fun hf => by
        refine e3 _ _ ⟨rs', _, _, _, _, _, rfl, rfl, rfl, ?_, fun r hr => ok' r (List.mem_cons_of_mem _ hr)⟩
        rw [aft_cons, hf] at ea
        simp only [T3.nat_ofNat, decide_true, Bool.not_true, Bool.not_false, Bool.false_eq_true, eq_self, ↓reduceIte, true_and, and_true] at ea
        exact ea
      cases c1 : decide (r.one = st) with
      | false =>
        simp only [T3.nat_ofNat, decide_true, Bool.not_true, Bool.not_false, Bool.false_eq_true, eq_self, ↓reduceIte, true_and, and_true]
        exact go (by unfold hasR; rw [c1]; rfl)
      | true =>
        simp only [T3.nat_ofNat, decide_true, Bool.not_true, Bool.not_false, Bool.false_eq_true, eq_self, ↓reduceIte, true_and, and_true, T3.itOf, T3.seqOf]
        have ln := okr.2.2.2.2.1
        have lb := okr.2.2.2.2.2
        refine lcL_pure (acc := []) (fun d => !(inL d (namesD lot))) id trivial (namesD r.need) (fun d hd F G hF hG F' G' hF' hG' => ?_) ?_ ?_
        · obtain ⟨y, rfl, hy⟩ := names_mem hd
          simp only [g0__law_read, c1__law_read, e2__law_read, T3.tRet, T3.tRetN, T3.tSeq, T3.tNext, T3.tAsg, T3.gName, T3.gTupN, T3.gList, T3.tVar, T3.tC, T3.tOp, T3.tNotV, T3.tAndV, T3.tOrV, T3.tB, T3.tAnd, T3.tOr, T3.tNot, T3.tIf, T3.tIfS, T3.tCall, T3.tCB, T3.tCons, T3.tNil, T3.tIsi, T3.ordR, T3.intR, T3.absR, T3.intR1, T3.tChain, T3.tTup, T3.tLst, T3.tLstM, T3.tNever, T3.tDrop, T3.appR, T3.extR, T3.popR, T3.tFld, T3.insOf, T3.tMeth, T3.tMake, T3.sFld, T3.tYes, T3.iAny, T3.tFor, T3.iRng1, T3.iRng2, T3.iEnum, T3.tLc, T3.tLcM, T3.tLc2, T3.wipeD, T3.allR, T3.tSl, T3.tNoPart, T3.tPart, T3.slR, T3.gSub, T3.tRevD, T3.tBreak, T3.tCont, T3.tFrz, T3.startD, T3.fnEnds, T3.tab_ii, T3.tab_ib, T3.tab_ss, T3.tab_ll, T3.tab_lt, T3.tab_tl, T3.tab_tt, Bool.or_true, Bool.true_or, eq_self, List.map_cons, List.map_nil, List.length_cons, List.length_nil, List.cons_append, List.nil_append, List.getElem?_cons_zero, List.getElem?_cons_succ, List.getElem?_nil, List.set_cons_zero, List.set_cons_succ, List.replicate, Nat.sub_self, Nat.reduceAdd, Nat.reduceSub, ite_true, ite_false, if_true, if_false, Bool.not_true, Bool.not_false, reduceCtorEq, Bool.false_eq_true, ↓reduceIte, true_and, and_true, T3.inR, lotD, T3.seqOf, resD]
          refine ⟨ok_str (okr.2.2.1 y hy), ok_all okl.1, ?_⟩
          have hb : inL (.str y) (namesD lot) = false ∨ inL (.str y) (namesD lot) = true := by cases inL (.str y) (namesD lot) <;> simp
          rcases hb with hb | hb
          · simp only [hb, Bool.true_xor, T3.nat_ofNat, decide_true, Bool.not_true, Bool.not_false, Bool.false_eq_true, eq_self, ↓reduceIte, true_and, and_true]; exact hG' _ (hG (by simp only [hb, Bool.not_false]))
          · simp only [hb, Bool.true_xor, T3.nat_ofNat, decide_true, Bool.not_true, Bool.not_false, Bool.false_eq_true, eq_self, ↓reduceIte, true_and, and_true]; exact hF' (hF (by simp only [hb, Bool.not_true]))
        · rw [namesD, List.length_map, List.length_nil]; exact sl65' (by omega)
        refine lcL_pure (acc := []) (fun d => inL d (namesD lot)) id trivial (namesD r.bar) (fun d hd F G hF hG F' G' hF' hG' => ?_) ?_ ?_
        · obtain ⟨y, rfl, hy⟩ := names_mem hd
          simp only [g3__law_read, c4__law_read, e5__law_read, T3.tRet, T3.tRetN, T3.tSeq, T3.tNext, T3.tAsg, T3.gName, T3.gTupN, T3.gList, T3.tVar, T3.tC, T3.tOp, T3.tNotV, T3.tAndV, T3.tOrV, T3.tB, T3.tAnd, T3.tOr, T3.tNot, T3.tIf, T3.tIfS, T3.tCall, T3.tCB, T3.tCons, T3.tNil, T3.tIsi, T3.ordR, T3.intR, T3.absR, T3.intR1, T3.tChain, T3.tTup, T3.tLst, T3.tLstM, T3.tNever, T3.tDrop, T3.appR, T3.extR, T3.popR, T3.tFld, T3.insOf, T3.tMeth, T3.tMake, T3.sFld, T3.tYes, T3.iAny, T3.tFor, T3.iRng1, T3.iRng2, T3.iEnum, T3.tLc, T3.tLcM, T3.tLc2, T3.wipeD, T3.allR, T3.tSl, T3.tNoPart, T3.tPart, T3.slR, T3.gSub, T3.tRevD, T3.tBreak, T3.tCont, T3.tFrz, T3.startD, T3.fnEnds, T3.tab_ii, T3.tab_ib, T3.tab_ss, T3.tab_ll, T3.tab_lt, T3.tab_tl, T3.tab_tt, Bool.or_true, Bool.true_or, eq_self, List.map_cons, List.map_nil, List.length_cons, List.length_nil, List.cons_append, List.nil_append, List.getElem?_cons_zero, List.getElem?_cons_succ, List.getElem?_nil, List.set_cons_zero, List.set_cons_succ, List.replicate, Nat.sub_self, Nat.reduceAdd, Nat.reduceSub, ite_true, ite_false, if_true, if_false, Bool.not_true, Bool.not_false, reduceCtorEq, Bool.false_eq_true, ↓reduceIte, true_and, and_true, T3.inR, lotD, T3.seqOf, resD]
          refine ⟨ok_str (okr.2.2.2.1 y hy), ok_all okl.1, ?_⟩
          have hb : inL (.str y) (namesD lot) = false ∨ inL (.str y) (namesD lot) = true := by cases inL (.str y) (namesD lot) <;> simp
          rcases hb with hb | hb
          · simp only [hb, Bool.false_xor, T3.nat_ofNat, decide_true, Bool.not_true, Bool.not_false, Bool.false_eq_true, eq_self, ↓reduceIte, true_and, and_true]; exact hF' (hF hb)
          · simp only [hb, Bool.false_xor, T3.nat_ofNat, decide_true, Bool.not_true, Bool.not_false, Bool.false_eq_true, eq_self, ↓reduceIte, true_and, and_true]; exact hG' _ (hG hb)
        · rw [namesD, List.length_map, List.length_nil]; exact sl65' (by omega)
        simp only [List.nil_append, List.map_id, T3.addR, T3.lstOf, T3.tRet, T3.tRetN, T3.tSeq, T3.tNext, T3.tAsg, T3.gName, T3.gTupN, T3.gList, T3.tVar, T3.tC, T3.tOp, T3.tNotV, T3.tAndV, T3.tOrV, T3.tB, T3.tAnd, T3.tOr, T3.tNot, T3.tIf, T3.tIfS, T3.tCall, T3.tCB, T3.tCons, T3.tNil, T3.tIsi, T3.ordR, T3.intR, T3.absR, T3.intR1, T3.tChain, T3.tTup, T3.tLst, T3.tLstM, T3.tNever, T3.tDrop, T3.appR, T3.extR, T3.popR, T3.tFld, T3.insOf, T3.tMeth, T3.tMake, T3.sFld, T3.tYes, T3.iAny, T3.tFor, T3.iRng1, T3.iRng2, T3.iEnum, T3.tLc, T3.tLcM, T3.tLc2, T3.wipeD, T3.allR, T3.tSl, T3.tNoPart, T3.tPart, T3.slR, T3.gSub, T3.tRevD, T3.tBreak, T3.tCont, T3.tFrz, T3.startD, T3.fnEnds, T3.tab_ii, T3.tab_ib, T3.tab_ss, T3.tab_ll, T3.tab_lt, T3.tab_tl, T3.tab_tt, Bool.or_true, Bool.true_or, eq_self, List.map_cons, List.map_nil, List.length_cons, List.length_nil, List.cons_append, List.nil_append, List.getElem?_cons_zero, List.getElem?_cons_succ, List.getElem?_nil, List.set_cons_zero, List.set_cons_succ, List.replicate, Nat.sub_self, Nat.reduceAdd, Nat.reduceSub, ite_true, ite_false, if_true, if_false, Bool.not_true, Bool.not_false, reduceCtorEq, Bool.false_eq_true, ↓reduceIte, true_and, and_true]
        have f1 := List.length_filter_le (fun d => !(inL d (namesD lot))) (namesD r.need)
        have f2 := List.length_filter_le (fun d => inL d (namesD lot)) (namesD r.bar)
        rw [show ∀ l : List Str, (namesD l).length = l.length from fun l => List.length_map _] at f1 f2
        refine ⟨sl65' (by omega), ?_⟩
        refine ⟨Nat.zero_le _, ?_, rfl, ?_⟩
        · show (_ ++ _ : List D).all (okD 39) = true
          rw [List.all_append, filter_ok okr.2.2.1, filter_ok okr.2.2.2.1]; rfl
        have c2 : (r.need.all (fun x => decide (x ∈ lot)) && !(r.bar.any fun x => decide (x ∈ lot))) = false ∨ (r.need.all (fun x => decide (x ∈ lot)) && !(r.bar.any fun x => decide (x ∈ lot))) = true := by
          cases (r.need.all (fun x => decide (x ∈ lot)) && !(r.bar.any fun x => decide (x ∈ lot))) <;> simp
        rcases c2 with c2 | c2
        · simp only [eqD_lst_nil, read_test, c2, T3.nat_ofNat, decide_true, Bool.not_true, Bool.not_false, Bool.false_eq_true, eq_self, ↓reduceIte, true_and, and_true]
          exact go (by unfold hasR; rw [c1, c2]; rfl)
        · simp only [eqD_lst_nil, read_test, c2, T3.nat_ofNat, decide_true, Bool.not_true, Bool.not_false, Bool.false_eq_true, eq_self, ↓reduceIte, true_and, and_true, e1]
          have hh : hasR r st lot = true := by unfold hasR; rw [c1, c2]; rfl
          rw [aft_cons, hh] at ea
          simp only [T3.nat_ofNat, decide_true, Bool.not_true, Bool.not_false, Bool.false_eq_true, eq_self, ↓reduceIte, true_and, and_true] at ea
          rw [ea]
          exact out_as q
    | [], e0 => cases e0
  · rintro σ h1 ⟨rs', a, b, c, d, e, e0, rfl, rfl, ea, _⟩
    match rs', e0 with
    | [], _ =>
      simp only [T3.tRet, T3.tRetN, T3.tSeq, T3.tNext, T3.tAsg, T3.gName, T3.gTupN, T3.gList, T3.tVar, T3.tC, T3.tOp, T3.tNotV, T3.tAndV, T3.tOrV, T3.tB, T3.tAnd, T3.tOr, T3.tNot, T3.tIf, T3.tIfS, T3.tCall, T3.tCB, T3.tCons, T3.tNil, T3.tIsi, T3.ordR, T3.intR, T3.absR, T3.intR1, T3.tChain, T3.tTup, T3.tLst, T3.tLstM, T3.tNever, T3.tDrop, T3.appR, T3.extR, T3.popR, T3.tFld, T3.insOf, T3.tMeth, T3.tMake, T3.sFld, T3.tYes, T3.iAny, T3.tFor, T3.iRng1, T3.iRng2, T3.iEnum, T3.tLc, T3.tLcM, T3.tLc2, T3.wipeD, T3.allR, T3.tSl, T3.tNoPart, T3.tPart, T3.slR, T3.gSub, T3.tRevD, T3.tBreak, T3.tCont, T3.tFrz, T3.startD, T3.fnEnds, T3.tab_ii, T3.tab_ib, T3.tab_ss, T3.tab_ll, T3.tab_lt, T3.tab_tl, T3.tab_tt, Bool.or_true, Bool.true_or, eq_self, List.map_cons, List.map_nil, List.length_cons, List.length_nil, List.cons_append, List.nil_append, List.getElem?_cons_zero, List.getElem?_cons_succ, List.getElem?_nil, List.set_cons_zero, List.set_cons_succ, List.replicate, Nat.sub_self, Nat.reduceAdd, Nat.reduceSub, ite_true, ite_false, if_true, if_false, Bool.not_true, Bool.not_false, reduceCtorEq, Bool.false_eq_true, ↓reduceIte, true_and, and_true]
      rw [aft_nil] at ea
      rw [← ea] at q
      exact out_as q
    | _ :: _, e0 => cases e0
theorem len__law_end (C : Addr) : ∀ ds h R, fs__law_end C ds h R → ds.length = (["wish", "tale"] : List Str).length := by
  rintro ds h R ⟨n, good, rs, tale, rfl, q⟩
  rfl
theorem rd__law_end (C : Addr) : ∀ ds h R, fs__law_end C ds h R → t__law_end C (fnEnds R) (startD N__law_end ds) h := by
  rintro ds h R ⟨n, good, rs, tale, rfl, ok, okt, q⟩
  simp only [t__law_end, N__law_end, T3.tRet, T3.tRetN, T3.tSeq, T3.tNext, T3.tAsg, T3.gName, T3.gTupN, T3.gList, T3.tVar, T3.tC, T3.tOp, T3.tNotV, T3.tAndV, T3.tOrV, T3.tB, T3.tAnd, T3.tOr, T3.tNot, T3.tIf, T3.tIfS, T3.tCall, T3.tCB, T3.tCons, T3.tNil, T3.tIsi, T3.ordR, T3.intR, T3.absR, T3.intR1, T3.tChain, T3.tTup, T3.tLst, T3.tLstM, T3.tNever, T3.tDrop, T3.appR, T3.extR, T3.popR, T3.tFld, T3.insOf, T3.tMeth, T3.tMake, T3.sFld, T3.tYes, T3.iAny, T3.tFor, T3.iRng1, T3.iRng2, T3.iEnum, T3.tLc, T3.tLcM, T3.tLc2, T3.wipeD, T3.allR, T3.tSl, T3.tNoPart, T3.tPart, T3.slR, T3.gSub, T3.tRevD, T3.tBreak, T3.tCont, T3.tFrz, T3.startD, T3.fnEnds, T3.tab_ii, T3.tab_ib, T3.tab_ss, T3.tab_ll, T3.tab_lt, T3.tab_tl, T3.tab_tt, Bool.or_true, Bool.true_or, eq_self, List.map_cons, List.map_nil, List.length_cons, List.length_nil, List.cons_append, List.nil_append, List.getElem?_cons_zero, List.getElem?_cons_succ, List.getElem?_nil, List.set_cons_zero, List.set_cons_succ, List.replicate, Nat.sub_self, Nat.reduceAdd, Nat.reduceSub, ite_true, ite_false, if_true, if_false, Bool.not_true, Bool.not_false, reduceCtorEq, Bool.false_eq_true, ↓reduceIte, true_and, and_true, taleD, T3.itOf, T3.seqOf]
  refine forL_inv (I := fun l σ h1 => ∃ t' st' a, l = List.map lotD t' ∧ σ = [some (toldD n good rs), some (.tup (List.map lotD tale)), some (.int st'), a] ∧ h1 = h ∧ run rs st' t' = run rs 0 tale ∧ (∀ l ∈ t', lotOk l)) (fun _ _ _ _ => trivial) ?_ gName_mono ?_ _ ⟨tale, 0, none, rfl, rfl, rfl, rfl, okt.1⟩
  · rintro x xs σ h1 ⟨t', st', a, e0, rfl, rfl, ea, ok'⟩
    match t', e0 with
    | l :: t', e0 =>
      cases e0
      simp only [g0__law_end, b1__law_end, T3.tRet, T3.tRetN, T3.tSeq, T3.tNext, T3.tAsg, T3.gName, T3.gTupN, T3.gList, T3.tVar, T3.tC, T3.tOp, T3.tNotV, T3.tAndV, T3.tOrV, T3.tB, T3.tAnd, T3.tOr, T3.tNot, T3.tIf, T3.tIfS, T3.tCall, T3.tCB, T3.tCons, T3.tNil, T3.tIsi, T3.ordR, T3.intR, T3.absR, T3.intR1, T3.tChain, T3.tTup, T3.tLst, T3.tLstM, T3.tNever, T3.tDrop, T3.appR, T3.extR, T3.popR, T3.tFld, T3.insOf, T3.tMeth, T3.tMake, T3.sFld, T3.tYes, T3.iAny, T3.tFor, T3.iRng1, T3.iRng2, T3.iEnum, T3.tLc, T3.tLcM, T3.tLc2, T3.wipeD, T3.allR, T3.tSl, T3.tNoPart, T3.tPart, T3.slR, T3.gSub, T3.tRevD, T3.tBreak, T3.tCont, T3.tFrz, T3.startD, T3.fnEnds, T3.tab_ii, T3.tab_ib, T3.tab_ss, T3.tab_ll, T3.tab_lt, T3.tab_tl, T3.tab_tt, Bool.or_true, Bool.true_or, eq_self, List.map_cons, List.map_nil, List.length_cons, List.length_nil, List.cons_append, List.nil_append, List.getElem?_cons_zero, List.getElem?_cons_succ, List.getElem?_nil, List.set_cons_zero, List.set_cons_succ, List.replicate, Nat.sub_self, Nat.reduceAdd, Nat.reduceSub, ite_true, ite_false, if_true, if_false, Bool.not_true, Bool.not_false, reduceCtorEq, Bool.false_eq_true, ↓reduceIte, true_and, and_true]
      intro E' _ _ e3 _
      refine ⟨n, good, rs, st', l, rfl, ok, ok' l (List.mem_cons_self ..), ?_⟩
      exact e3 _ _ ⟨t', _, _, rfl, rfl, rfl, ea, fun l hl => ok' l (List.mem_cons_of_mem _ hl)⟩
    | [], e0 => cases e0
  · rintro σ h1 ⟨t', st', a, e0, rfl, rfl, ea, _⟩
    match t', e0 with
    | [], _ =>
      simp only [T3.tRet, T3.tRetN, T3.tSeq, T3.tNext, T3.tAsg, T3.gName, T3.gTupN, T3.gList, T3.tVar, T3.tC, T3.tOp, T3.tNotV, T3.tAndV, T3.tOrV, T3.tB, T3.tAnd, T3.tOr, T3.tNot, T3.tIf, T3.tIfS, T3.tCall, T3.tCB, T3.tCons, T3.tNil, T3.tIsi, T3.ordR, T3.intR, T3.absR, T3.intR1, T3.tChain, T3.tTup, T3.tLst, T3.tLstM, T3.tNever, T3.tDrop, T3.appR, T3.extR, T3.popR, T3.tFld, T3.insOf, T3.tMeth, T3.tMake, T3.sFld, T3.tYes, T3.iAny, T3.tFor, T3.iRng1, T3.iRng2, T3.iEnum, T3.tLc, T3.tLcM, T3.tLc2, T3.wipeD, T3.allR, T3.tSl, T3.tNoPart, T3.tPart, T3.slR, T3.gSub, T3.tRevD, T3.tBreak, T3.tCont, T3.tFrz, T3.startD, T3.fnEnds, T3.tab_ii, T3.tab_ib, T3.tab_ss, T3.tab_ll, T3.tab_lt, T3.tab_tl, T3.tab_tt, Bool.or_true, Bool.true_or, eq_self, List.map_cons, List.map_nil, List.length_cons, List.length_nil, List.cons_append, List.nil_append, List.getElem?_cons_zero, List.getElem?_cons_succ, List.getElem?_nil, List.set_cons_zero, List.set_cons_succ, List.replicate, Nat.sub_self, Nat.reduceAdd, Nat.reduceSub, ite_true, ite_false, if_true, if_false, Bool.not_true, Bool.not_false, reduceCtorEq, Bool.false_eq_true, ↓reduceIte, true_and, and_true]
      rw [← ea] at q
      exact out_as q
    | _ :: _, e0 => cases e0
theorem len__law_sorted_steps (C : Addr) : ∀ ds h R, fs__law_sorted_steps C ds h R → ds.length = (["told"] : List Str).length := by
  rintro ds h R ⟨n, good, rs, rfl, q⟩
  rfl
def ascD (l : List D) : D := .tup ((ascK ((keysOf l).getD [])).map kD)
def fvS : D → D
  | .tup [a, .lst x, .lst y, b] => .tup [a, ascD x, ascD y, b]
  | d => d
theorem ascD_names (l : List Str) : ascD (namesD l) = .tup (namesD (ascS l)) := by
  unfold ascD
  rw [show keysOf (namesD l) = some (l.map Sum.inr) from keys_strs l]
  show D.tup ((ascK (l.map Sum.inr)).map kD) = _
  rw [ascK_S]; rfl
theorem fvS_sD (r : Rule) : fvS (sD r) = rD (nr r) := by
  show D.tup [.int r.one, ascD (namesD r.need), ascD (namesD r.bar), .int r.two] = _
  rw [ascD_names, ascD_names]; rfl
theorem tAsc_go {l : List Str} {σ : SD} {h : AH} {te : TED} {Q : QD} (hl : l.length ≤ 1000) (hn : ∀ x ∈ l, nameOk x = true) (e : ∀ R : QD, R (.lst (namesD l)) h → te σ h R) (q : Q (.lst (namesD (ascS l))) h) : tAsc te σ h Q := by
  refine e _ ?_
  show (match keysOf (namesD l) with | some ks => _ | none => False)
  rw [show keysOf (namesD l) = some (l.map Sum.inr) from keys_strs l]
  refine ⟨⟨oneKind_S l, keyOk_S fun x hx => nameOk_str (hn x hx), by rw [List.length_map]; unfold scanBound; omega⟩, ?_⟩
  rw [ascK_S]; exact q
theorem rd__law_sorted_steps (C : Addr) : ∀ ds h R, fs__law_sorted_steps C ds h R → t__law_sorted_steps C (fnEnds R) (startD N__law_sorted_steps ds) h := by
  rintro ds h R ⟨n, good, rs, rfl, ok, q⟩
  simp only [t__law_sorted_steps, N__law_sorted_steps, T3.tRet, T3.tRetN, T3.tSeq, T3.tNext, T3.tAsg, T3.gName, T3.gTupN, T3.gList, T3.tVar, T3.tC, T3.tOp, T3.tNotV, T3.tAndV, T3.tOrV, T3.tB, T3.tAnd, T3.tOr, T3.tNot, T3.tIf, T3.tIfS, T3.tCall, T3.tCB, T3.tCons, T3.tNil, T3.tIsi, T3.ordR, T3.intR, T3.absR, T3.intR1, T3.tChain, T3.tTup, T3.tLst, T3.tLstM, T3.tNever, T3.tDrop, T3.appR, T3.extR, T3.popR, T3.tFld, T3.insOf, T3.tMeth, T3.tMake, T3.sFld, T3.tYes, T3.iAny, T3.tFor, T3.iRng1, T3.iRng2, T3.iEnum, T3.tLc, T3.tLcM, T3.tLc2, T3.wipeD, T3.allR, T3.tSl, T3.tNoPart, T3.tPart, T3.slR, T3.gSub, T3.tRevD, T3.tBreak, T3.tCont, T3.tFrz, T3.startD, T3.fnEnds, T3.tab_ii, T3.tab_ib, T3.tab_ss, T3.tab_ll, T3.tab_lt, T3.tab_tl, T3.tab_tt, Bool.or_true, Bool.true_or, eq_self, List.map_cons, List.map_nil, List.length_cons, List.length_nil, List.cons_append, List.nil_append, List.getElem?_cons_zero, List.getElem?_cons_succ, List.getElem?_nil, List.set_cons_zero, List.set_cons_succ, List.replicate, Nat.sub_self, Nat.reduceAdd, Nat.reduceSub, ite_true, ite_false, if_true, if_false, Bool.not_true, Bool.not_false, reduceCtorEq, Bool.false_eq_true, ↓reduceIte, true_and, and_true]
  refine ixR_seq (l := [.int n, .lst (good.map .int), .lst (rs.map sD)]) rfl (i := 2) rfl ?_
  simp only [T3.itOf, T3.seqOf]
  refine lcL_map (acc := []) fvS trivial (rs.map sD) (fun d hd G q' => ?_) ?_ ?_ (gNames_mono (is := [1, 2, 3, 4]) (n := 4))
  · obtain ⟨r, hr, rfl⟩ := List.mem_map.mp hd
    have okr := ok.2.2.2.1 r hr
    simp only [g0__law_sorted_steps, e1__law_sorted_steps, sD, T3.tRet, T3.tRetN, T3.tSeq, T3.tNext, T3.tAsg, T3.gName, T3.gTupN, T3.gList, T3.tVar, T3.tC, T3.tOp, T3.tNotV, T3.tAndV, T3.tOrV, T3.tB, T3.tAnd, T3.tOr, T3.tNot, T3.tIf, T3.tIfS, T3.tCall, T3.tCB, T3.tCons, T3.tNil, T3.tIsi, T3.ordR, T3.intR, T3.absR, T3.intR1, T3.tChain, T3.tTup, T3.tLst, T3.tLstM, T3.tNever, T3.tDrop, T3.appR, T3.extR, T3.popR, T3.tFld, T3.insOf, T3.tMeth, T3.tMake, T3.sFld, T3.tYes, T3.iAny, T3.tFor, T3.iRng1, T3.iRng2, T3.iEnum, T3.tLc, T3.tLcM, T3.tLc2, T3.wipeD, T3.allR, T3.tSl, T3.tNoPart, T3.tPart, T3.slR, T3.gSub, T3.tRevD, T3.tBreak, T3.tCont, T3.tFrz, T3.startD, T3.fnEnds, T3.tab_ii, T3.tab_ib, T3.tab_ss, T3.tab_ll, T3.tab_lt, T3.tab_tl, T3.tab_tt, Bool.or_true, Bool.true_or, eq_self, List.map_cons, List.map_nil, List.length_cons, List.length_nil, List.cons_append, List.nil_append, List.getElem?_cons_zero, List.getElem?_cons_succ, List.getElem?_nil, List.set_cons_zero, List.set_cons_succ, List.replicate, Nat.sub_self, Nat.reduceAdd, Nat.reduceSub, ite_true, ite_false, if_true, if_false, Bool.not_true, Bool.not_false, reduceCtorEq, Bool.false_eq_true, ↓reduceIte, true_and, and_true]
    refine tAsc_go (l := r.need) (Nat.le_trans okr.2.2.2.2.1 (by decide)) okr.2.2.1 (fun R q => q) ?_
    simp only [T3.tupR, T3.seqOf]
    refine tAsc_go (l := r.bar) (Nat.le_trans okr.2.2.2.2.2 (by decide)) okr.2.2.2.1 (fun R q => q) ?_
    refine ⟨sl65' (by decide), ?_⟩
    rw [fvS_sD] at q'
    exact q'
  · rw [List.length_map, List.length_nil]; exact sl65' (by have := ok.2.2.2.2; omega)
  have es : (rs.map sD).map fvS = (rs.map nr).map rD := by
    rw [List.map_map, List.map_map]
    apply List.map_congr_left
    intro r _
    exact fvS_sD r
  rw [List.nil_append, es]
  simp only [T3.tupR, T3.seqOf]
  exact out_as q
/-! ### lots -/
theorem alike_names {l : List Str} : alikeL (namesD l) = true := by
  unfold alikeL namesD
  rw [List.all_map]
  refine List.all_eq_true.mpr fun x _ => ?_
  show ((l.map D.str).all fun b => PySem.W.alike (toP (.str x)) (toP b)) = true
  rw [List.all_map]
  exact List.all_eq_true.mpr fun y _ => rfl
theorem sort_names {l : List Str} (h : ∀ x ∈ l, nameOk x = true) : sortOk (namesD l) = true := by
  unfold sortOk
  rw [alike_names, ok_all h]
  have : (namesD l).all isAtom = true := by
    unfold namesD
    rw [List.all_map]
    exact List.all_eq_true.mpr fun _ _ => rfl
  rw [this, Bool.or_true]; rfl
theorem sorted_names (l : List Str) : ∃ m : List Str, (namesD l).mergeSort leD = namesD m ∧ (∀ x ∈ m, x ∈ l) ∧ m.length = l.length := by
  have key : ∀ k : List D, (∀ d ∈ k, d ∈ namesD l) → ∃ m : List Str, k = namesD m ∧ ∀ x ∈ m, x ∈ l := by
    intro k
    induction k with
    | nil => intro _; exact ⟨[], rfl, fun _ h => by cases h⟩
    | cons d k ih =>
      intro hk
      obtain ⟨m, rfl, hm⟩ := ih fun d hd => hk d (List.mem_cons_of_mem _ hd)
      obtain ⟨y, rfl, hy⟩ := names_mem (hk d (List.mem_cons_self ..))
      refine ⟨y :: m, rfl, fun x hx => ?_⟩
      rcases List.mem_cons.mp hx with e | e
      · rw [e]; exact hy
      · exact hm x e
  obtain ⟨m, e, hm⟩ := key ((namesD l).mergeSort leD) fun d hd => List.mem_mergeSort.mp hd
  refine ⟨m, e, hm, ?_⟩
  have := congrArg List.length e
  rw [List.length_mergeSort, namesD, namesD, List.length_map, List.length_map] at this
  exact this.symm
theorem sortR_names {l : List Str} {h : AH} {Q : QD} (hn : ∀ x ∈ l, nameOk x = true) (q : ∀ m : List Str, (∀ x ∈ m, x ∈ l) → m.length = l.length → Q (.lst (namesD m)) h) : sortR [.lst (namesD l)] h Q := by
  obtain ⟨m, e, hm, lm⟩ := sorted_names l
  refine ⟨sort_names hn, ?_⟩
  rw [e]
  exact q m hm lm
theorem lot_lc {C : Addr} {hX : AH} {b : Addr} {rings : List Str} {g s : Int} {a1 a2 a3 a4 a5 a6 : Option D} {ok : AH → Prop} {Q : List D → AH → Prop} (hok : ∀ h, ok h) (hr : rings.length ≤ 10) (bok : BoxOk g s)
    (q : ∀ (nm : List Str) g s, BoxOk g s → (∀ x ∈ nm, x ∈ rings) → nm.length ≤ 10 → Q (namesD nm) (ud hX b (bx g s))) :
    lcL ok (g0__law_lots C) (c1__law_lots C) (e2__law_lots C) [some (.ref b), a1, a2, a3, a4, a5, a6] (namesD rings) [] (ud hX b (bx g s)) Q := by
  refine lcL_inv (I := fun l acc h1 => ∃ (nm rest : List Str) (g s : Int), l = namesD rest ∧ acc = namesD nm ∧ h1 = ud hX b (bx g s) ∧ BoxOk g s ∧ (∀ x ∈ nm, x ∈ rings) ∧ (∀ x ∈ rest, x ∈ rings) ∧ nm.length + rest.length ≤ 10) (fun _ _ _ _ => hok _) ?_ ?_ _ ⟨[], rings, g, s, rfl, rfl, rfl, bok, (fun _ h => by cases h), fun _ h => h, by rw [List.length_nil]; omega⟩
  · rintro x xs acc h1 ⟨nm, rest, g, s, e0, rfl, rfl, bok, hn, hre, hl⟩ F hF
    match rest, e0 with
    | y :: rest, e0 =>
      cases e0
      rw [List.length_cons] at hl
      simp only [g0__law_lots, c1__law_lots, e2__law_lots, T3.tRet, T3.tRetN, T3.tSeq, T3.tNext, T3.tAsg, T3.gName, T3.gTupN, T3.gList, T3.tVar, T3.tC, T3.tOp, T3.tNotV, T3.tAndV, T3.tOrV, T3.tB, T3.tAnd, T3.tOr, T3.tNot, T3.tIf, T3.tIfS, T3.tCall, T3.tCB, T3.tCons, T3.tNil, T3.tIsi, T3.ordR, T3.intR, T3.absR, T3.intR1, T3.tChain, T3.tTup, T3.tLst, T3.tLstM, T3.tNever, T3.tDrop, T3.appR, T3.extR, T3.popR, T3.tFld, T3.insOf, T3.tMeth, T3.tMake, T3.sFld, T3.tYes, T3.iAny, T3.tFor, T3.iRng1, T3.iRng2, T3.iEnum, T3.tLc, T3.tLcM, T3.tLc2, T3.wipeD, T3.allR, T3.tSl, T3.tNoPart, T3.tPart, T3.slR, T3.gSub, T3.tRevD, T3.tBreak, T3.tCont, T3.tFrz, T3.startD, T3.fnEnds, T3.tab_ii, T3.tab_ib, T3.tab_ss, T3.tab_ll, T3.tab_lt, T3.tab_tl, T3.tab_tt, Bool.or_true, Bool.true_or, eq_self, List.map_cons, List.map_nil, List.length_cons, List.length_nil, List.cons_append, List.nil_append, List.getElem?_cons_zero, List.getElem?_cons_succ, List.getElem?_nil, List.set_cons_zero, List.set_cons_succ, List.replicate, Nat.sub_self, Nat.reduceAdd, Nat.reduceSub, ite_true, ite_false, if_true, if_false, Bool.not_true, Bool.not_false, reduceCtorEq, Bool.false_eq_true, ↓reduceIte, true_and, and_true]
      refine ⟨b, 5, rfl, atBox_ud bok, by decide, by decide, fun k k0 k1 => fun g1 s1 ok1 => ?_⟩
      simp only [ud_ud]
      cases hk : decide (k < 2) with
      | true =>
        simp only [T3.nat_ofNat, decide_true, Bool.not_true, Bool.not_false, Bool.false_eq_true, eq_self, ↓reduceIte, true_and, and_true]
        refine ⟨by rw [namesD, List.length_map]; exact sl65 (by omega), hF _ _ ⟨nm ++ [y], rest, g1, s1, rfl, ?_, rfl, ok1, ?_, fun x hx => hre x (List.mem_cons_of_mem _ hx), by rw [List.length_append]; show nm.length + 1 + _ ≤ _; omega⟩⟩
        · rw [namesD, namesD, List.map_append]; rfl
        · intro x hx
          rcases List.mem_append.mp hx with hx | hx
          · exact hn x hx
          · have : x = y := by simpa using hx
            rw [this]; exact hre y (List.mem_cons_self ..)
      | false =>
        simp only [T3.nat_ofNat, decide_true, Bool.not_true, Bool.not_false, Bool.false_eq_true, eq_self, ↓reduceIte, true_and, and_true]
        exact hF _ _ ⟨nm, rest, g1, s1, rfl, rfl, rfl, ok1, hn, fun x hx => hre x (List.mem_cons_of_mem _ hx), by omega⟩
    | [], e0 => cases e0
  · rintro acc h1 ⟨nm, rest, g, s, e0, rfl, rfl, bok, hn, hre, hl⟩
    exact q nm g s bok hn (by omega)
theorem len__law_lots (C : Addr) : ∀ ds h R, fs__law_lots C ds h R → ds.length = (["box", "rings", "many"] : List Str).length := by
  rintro ds h R ⟨b, m, n, rfl, q⟩
  rfl
theorem rd__law_lots (C : Addr) : ∀ ds h R, fs__law_lots C ds h R → t__law_lots C (fnEnds R) (startD N__law_lots ds) h := by
  rintro ds h R ⟨b, rings, m, rfl, ab, r0, r10, rn, m0, m10, q⟩
  have rl : (namesD rings) ≠ [] := fun z => r0 (List.map_eq_nil_iff.mp z)
  have rll : (namesD rings).length ≤ 1000 := by rw [namesD, List.length_map]; omega
  simp only [t__law_lots, N__law_lots, T3.tRet, T3.tRetN, T3.tSeq, T3.tNext, T3.tAsg, T3.gName, T3.gTupN, T3.gList, T3.tVar, T3.tC, T3.tOp, T3.tNotV, T3.tAndV, T3.tOrV, T3.tB, T3.tAnd, T3.tOr, T3.tNot, T3.tIf, T3.tIfS, T3.tCall, T3.tCB, T3.tCons, T3.tNil, T3.tIsi, T3.ordR, T3.intR, T3.absR, T3.intR1, T3.tChain, T3.tTup, T3.tLst, T3.tLstM, T3.tNever, T3.tDrop, T3.appR, T3.extR, T3.popR, T3.tFld, T3.insOf, T3.tMeth, T3.tMake, T3.sFld, T3.tYes, T3.iAny, T3.tFor, T3.iRng1, T3.iRng2, T3.iEnum, T3.tLc, T3.tLcM, T3.tLc2, T3.wipeD, T3.allR, T3.tSl, T3.tNoPart, T3.tPart, T3.slR, T3.gSub, T3.tRevD, T3.tBreak, T3.tCont, T3.tFrz, T3.startD, T3.fnEnds, T3.tab_ii, T3.tab_ib, T3.tab_ss, T3.tab_ll, T3.tab_lt, T3.tab_tl, T3.tab_tt, Bool.or_true, Bool.true_or, eq_self, List.map_cons, List.map_nil, List.length_cons, List.length_nil, List.cons_append, List.nil_append, List.getElem?_cons_zero, List.getElem?_cons_succ, List.getElem?_nil, List.set_cons_zero, List.set_cons_succ, List.replicate, Nat.sub_self, Nat.reduceAdd, Nat.reduceSub, ite_true, ite_false, if_true, if_false, Bool.not_true, Bool.not_false, reduceCtorEq, Bool.false_eq_true, ↓reduceIte, true_and, and_true]
  refine ⟨Nat.zero_le _, fun p hp => ?_⟩
  have hpb := box_ne ab hp
  obtain ⟨g0, s0, eb, ok0⟩ := ab
  refine ⟨⟨by omega, by omega⟩, ?_⟩
  refine forL_inv (I := fun l σ h1 => ∃ t g s a c d, σ = [some (.ref b), some (.lst (namesD rings)), some (.int m), some (.ref p), a, c, d] ∧ h1 = ud (ud h p (.lst (t.map lotD))) b (bx g s) ∧ BoxOk g s ∧ t.length + l.length = m.toNat ∧ ∀ x ∈ t, lotOk x) (fun _ _ _ _ => trivial) ?_ gName_mono ?_ _
    ⟨[], g0, s0, none, none, none, rfl, ?_, ok0, ?_, fun _ h => by cases h⟩
  · rintro x0 xs σ h1 ⟨t, g, s, a, c, d, rfl, rfl, ok, hl, hn⟩
    rw [List.length_cons] at hl
    simp only [g3__law_lots, b4__law_lots, T3.tRet, T3.tRetN, T3.tSeq, T3.tNext, T3.tAsg, T3.gName, T3.gTupN, T3.gList, T3.tVar, T3.tC, T3.tOp, T3.tNotV, T3.tAndV, T3.tOrV, T3.tB, T3.tAnd, T3.tOr, T3.tNot, T3.tIf, T3.tIfS, T3.tCall, T3.tCB, T3.tCons, T3.tNil, T3.tIsi, T3.ordR, T3.intR, T3.absR, T3.intR1, T3.tChain, T3.tTup, T3.tLst, T3.tLstM, T3.tNever, T3.tDrop, T3.appR, T3.extR, T3.popR, T3.tFld, T3.insOf, T3.tMeth, T3.tMake, T3.sFld, T3.tYes, T3.iAny, T3.tFor, T3.iRng1, T3.iRng2, T3.iEnum, T3.tLc, T3.tLcM, T3.tLc2, T3.wipeD, T3.allR, T3.tSl, T3.tNoPart, T3.tPart, T3.slR, T3.gSub, T3.tRevD, T3.tBreak, T3.tCont, T3.tFrz, T3.startD, T3.fnEnds, T3.tab_ii, T3.tab_ib, T3.tab_ss, T3.tab_ll, T3.tab_lt, T3.tab_tl, T3.tab_tt, Bool.or_true, Bool.true_or, eq_self, List.map_cons, List.map_nil, List.length_cons, List.length_nil, List.cons_append, List.nil_append, List.getElem?_cons_zero, List.getElem?_cons_succ, List.getElem?_nil, List.set_cons_zero, List.set_cons_succ, List.replicate, Nat.sub_self, Nat.reduceAdd, Nat.reduceSub, ite_true, ite_false, if_true, if_false, Bool.not_true, Bool.not_false, reduceCtorEq, Bool.false_eq_true, ↓reduceIte, true_and, and_true, T3.itOf, T3.seqOf]
    intro E' _ _ e3 _
    refine lot_lc (fun _ => trivial) r10 ok fun nm g1 s1 ok1 hnm lnm => ?_
    have nok : ∀ x ∈ nm, nameOk x = true := fun x hx => rn x (hnm x hx)
    simp only [T3.tBM, T3.isTy, T3.slOf, ud_ne hpb, ud_same, Option.isSome, T3.tRet, T3.tRetN, T3.tSeq, T3.tNext, T3.tAsg, T3.gName, T3.gTupN, T3.gList, T3.tVar, T3.tC, T3.tOp, T3.tNotV, T3.tAndV, T3.tOrV, T3.tB, T3.tAnd, T3.tOr, T3.tNot, T3.tIf, T3.tIfS, T3.tCall, T3.tCB, T3.tCons, T3.tNil, T3.tIsi, T3.ordR, T3.intR, T3.absR, T3.intR1, T3.tChain, T3.tTup, T3.tLst, T3.tLstM, T3.tNever, T3.tDrop, T3.appR, T3.extR, T3.popR, T3.tFld, T3.insOf, T3.tMeth, T3.tMake, T3.sFld, T3.tYes, T3.iAny, T3.tFor, T3.iRng1, T3.iRng2, T3.iEnum, T3.tLc, T3.tLcM, T3.tLc2, T3.wipeD, T3.allR, T3.tSl, T3.tNoPart, T3.tPart, T3.slR, T3.gSub, T3.tRevD, T3.tBreak, T3.tCont, T3.tFrz, T3.startD, T3.fnEnds, T3.tab_ii, T3.tab_ib, T3.tab_ss, T3.tab_ll, T3.tab_lt, T3.tab_tl, T3.tab_tt, Bool.or_true, Bool.true_or, eq_self, List.map_cons, List.map_nil, List.length_cons, List.length_nil, List.cons_append, List.nil_append, List.getElem?_cons_zero, List.getElem?_cons_succ, List.getElem?_nil, List.set_cons_zero, List.set_cons_succ, List.replicate, Nat.sub_self, Nat.reduceAdd, Nat.reduceSub, ite_true, ite_false, if_true, if_false, Bool.not_true, Bool.not_false, reduceCtorEq, Bool.false_eq_true, ↓reduceIte, true_and, and_true, T3.neR, resD, eqD_lst_nil]
    have fin : ∀ (nm : List Str) g s (e : Option D), BoxOk g s → (∀ x ∈ nm, nameOk x = true) → nm.length ≤ 10 → sortR [.lst (namesD nm)] (ud (ud h p (.lst (t.map lotD))) b (bx g s)) (fun x h1 => tupR [x] h1 fun x h1 => match h1 p with
        | some (.lst l) => l.length < sizeLine ∧ E'.nx [some (.ref b), some (.lst (namesD rings)), some (.int m), some (.ref p), some x0, e, d] (ud h1 p (.lst (l ++ [x])))
        | _ => False) := fun nm g s e ok nok lnm => by
      refine sortR_names nok fun k hk lk => ?_
      simp only [T3.tupR, T3.seqOf, ud_ne hpb, ud_same]
      refine ⟨by rw [List.length_map]; exact sl65 (by omega), ?_⟩
      rw [ud3 hpb]
      refine e3 _ _ ⟨t ++ [k], g, s, _, _, _, rfl, by rw [List.map_append]; rfl, ok, by rw [List.length_append]; show t.length + 1 + _ = _; omega, fun x hx => ?_⟩
      rcases List.mem_append.mp hx with hx | hx
      · exact hn x hx
      · have : x = k := by simpa using hx
        rw [this]; exact ⟨fun y hy => nok y (hk y hy), by omega⟩
    refine ⟨Nat.zero_le _, ok_namesL nok, rfl, ?_⟩
    cases nm with
    | nil =>
      simp only [namesD, List.map_nil, List.isEmpty_nil, T3.nat_ofNat, decide_true, Bool.not_true, Bool.not_false, Bool.false_eq_true, eq_self, ↓reduceIte, true_and, and_true]
      refine ⟨b, _, rfl, atBox_ud ok1, rl, rll, fun x hx => fun g2 s2 ok2 => ?_⟩
      obtain ⟨x1, rfl, hx1⟩ := names_mem hx
      simp only [ud_ud]
      refine ⟨sl65' (by decide), ?_⟩
      exact fin [x1] g2 s2 _ ok2 (name1 (rn x1 hx1)) (by decide : 1 ≤ 10)
    | cons y nm =>
      simp only [namesD, List.map_cons, List.isEmpty_cons, T3.nat_ofNat, decide_true, Bool.not_true, Bool.not_false, Bool.false_eq_true, eq_self, ↓reduceIte, true_and, and_true]
      exact fin (y :: nm) g1 s1 _ ok1 nok lnm
  · rintro σ h1 ⟨t, g, s, a, c, d, rfl, rfl, ok, hl, hn⟩
    rw [List.length_nil] at hl
    simp only [T3.tRet, T3.tRetN, T3.tSeq, T3.tNext, T3.tAsg, T3.gName, T3.gTupN, T3.gList, T3.tVar, T3.tC, T3.tOp, T3.tNotV, T3.tAndV, T3.tOrV, T3.tB, T3.tAnd, T3.tOr, T3.tNot, T3.tIf, T3.tIfS, T3.tCall, T3.tCB, T3.tCons, T3.tNil, T3.tIsi, T3.ordR, T3.intR, T3.absR, T3.intR1, T3.tChain, T3.tTup, T3.tLst, T3.tLstM, T3.tNever, T3.tDrop, T3.appR, T3.extR, T3.popR, T3.tFld, T3.insOf, T3.tMeth, T3.tMake, T3.sFld, T3.tYes, T3.iAny, T3.tFor, T3.iRng1, T3.iRng2, T3.iEnum, T3.tLc, T3.tLcM, T3.tLc2, T3.wipeD, T3.allR, T3.tSl, T3.tNoPart, T3.tPart, T3.slR, T3.gSub, T3.tRevD, T3.tBreak, T3.tCont, T3.tFrz, T3.startD, T3.fnEnds, T3.tab_ii, T3.tab_ib, T3.tab_ss, T3.tab_ll, T3.tab_lt, T3.tab_tl, T3.tab_tt, Bool.or_true, Bool.true_or, eq_self, List.map_cons, List.map_nil, List.length_cons, List.length_nil, List.cons_append, List.nil_append, List.getElem?_cons_zero, List.getElem?_cons_succ, List.getElem?_nil, List.set_cons_zero, List.set_cons_succ, List.replicate, Nat.sub_self, Nat.reduceAdd, Nat.reduceSub, ite_true, ite_false, if_true, if_false, Bool.not_true, Bool.not_false, reduceCtorEq, Bool.false_eq_true, ↓reduceIte, true_and, and_true, T3.tupR, T3.seqOf, ud_ne hpb, ud_same]
    exact out_sub (sub_un hp hpb) (q t (by omega) ⟨hn, by omega⟩ g s ok)
  · funext a
    by_cases ha : a = b
    · subst ha; rw [ud_same, ud_ne hpb.symm, eb]
    · rw [ud_ne ha]; rfl
  · unfold rangeD; rw [List.length_map, List.length_range, List.length_nil]; omega
end K50

/-! k50: the reading of _law_made_right. -/
namespace K50
open PySem PySem.Spec L2 T3
open PyProof.Rows hiding St

theorem onceK_len : ∀ ks : List Key, (onceK ks).length ≤ ks.length
  | [] => Nat.le_refl _
  | k :: ks => by
    unfold onceK
    split
    · exact Nat.le_succ_of_le (onceK_len ks)
    · exact Nat.succ_le_succ (onceK_len ks)
theorem ascS_len (l : List Str) : (ascS l).length ≤ l.length := by
  unfold ascS
  refine Nat.le_trans (List.length_filterMap_le _ _) ?_
  unfold ascK
  rw [List.length_mergeSort]
  refine Nat.le_trans (onceK_len _) ?_
  rw [List.length_map]; exact Nat.le_refl _
theorem ascI_len (l : List Int) : (ascI l).length ≤ l.length := by
  unfold ascI
  refine Nat.le_trans (List.length_filterMap_le _ _) ?_
  unfold ascK
  rw [List.length_mergeSort]
  refine Nat.le_trans (onceK_len _) ?_
  rw [List.length_map]; exact Nat.le_refl _
theorem ruleOk_nr {n : Int} {r : Rule} (h : ruleOk n r) : ruleOk n (nr r) :=
  ⟨h.1, h.2.1, fun x hx => h.2.2.1 x (mem_ascS.mp hx), fun x hx => h.2.2.2.1 x (mem_ascS.mp hx), Nat.le_trans (ascS_len _) h.2.2.2.2.1, Nat.le_trans (ascS_len _) h.2.2.2.2.2⟩
theorem wOk_mk {n : Int} {good : List Int} {rs : List Rule} (h : wOk n good rs) : wOk n (ascI good) (rs.map nr) :=
  ⟨h.1, fun i hi => h.2.1 i (mem_ascI.mp hi), Nat.le_trans (ascI_len _) h.2.2.1, fun r hr => by
    obtain ⟨r', hr', rfl⟩ := List.mem_map.mp hr
    exact ruleOk_nr (h.2.2.2.1 r' hr'), by rw [List.length_map]; exact h.2.2.2.2⟩
theorem wSm_mk {n : Int} {good : List Int} {rs : List Rule} (h : wSm n good rs) : wSm n (ascI good) (rs.map nr) :=
  ⟨wOk_mk h.1, h.2.1, Nat.le_trans (ascI_len _) h.2.2.1, by rw [List.length_map]; exact h.2.2.2.1, fun r hr => by
    obtain ⟨r', hr', rfl⟩ := List.mem_map.mp hr
    exact ⟨Nat.le_trans (ascS_len _) (h.2.2.2.2 r' hr').1, Nat.le_trans (ascS_len _) (h.2.2.2.2 r' hr').2⟩⟩
theorem one_int {a i : Int} (h : i ∈ [a]) : i = a := by simpa using h
theorem rings_ok {b : Str} {t : Int} (hb : nameOk b = true) (t1 : 1 ≤ t) (t2 : t ≤ 900) : wOk (t + 1) [t] (ringsR b t) := by
  refine ⟨⟨by omega, by omega⟩, fun i hi => by rw [one_int hi]; omega, (show 1 ≤ 1000 by decide), fun r hr => ?_, ?_⟩
  · unfold ringsR at hr
    obtain ⟨i, hi, rfl⟩ := List.mem_map.mp hr
    have hi' : i < t.toNat := by simpa using hi
    exact ruleOk_of (by omega) (by omega) (by omega) (by omega) (name1 hb) name0 len1 len0
  · unfold ringsR; rw [List.length_map, List.length_range]; omega
theorem ahead_ok {a b : Str} (ha : nameOk a = true) (hb : nameOk b = true) : wOk 3 [1] (aheadR a b) := by
  refine ⟨⟨by decide, by decide⟩, fun i hi => by rw [one_int hi]; decide, (show 1 ≤ 1000 by decide), fun r hr => ?_, (show 2 ≤ 10000 by decide)⟩
  have : r = ⟨0, [b], [], 2⟩ ∨ r = ⟨0, [a], [], 1⟩ := by simpa [aheadR] using hr
  rcases this with rfl | rfl
  · exact ruleOk_of (by decide) (by decide) (by decide) (by decide) (name1 hb) name0 len1 len0
  · exact ruleOk_of (by decide) (by decide) (by decide) (by decide) (name1 ha) name0 len1 len0
theorem last_ok {b : Str} (hb : nameOk b = true) : wOk 2 [1] (lastR b) := by
  refine ⟨⟨by decide, by decide⟩, fun i hi => by rw [one_int hi]; decide, (show 1 ≤ 1000 by decide), fun r hr => ?_, (show 2 ≤ 10000 by decide)⟩
  have : r = ⟨0, [b], [], 1⟩ ∨ r = ⟨1, [], [b], 0⟩ := by simpa [lastR] using hr
  rcases this with rfl | rfl
  · exact ruleOk_of (by decide) (by decide) (by decide) (by decide) (name1 hb) name0 len1 len0
  · exact ruleOk_of (by decide) (by decide) (by decide) (by decide) name0 (name1 hb) len0 len1
theorem sub_new {h h' : AH} {p : Addr} {o : O} (s : T3.Sub h h') (e : h' p = none) : T3.Sub h (ud h' p o) := s.ud (by
  cases z : h p with
  | none => rfl
  | some x => have := s p x z; rw [e] at this; cases this)
/-- is the text in the lot -/
def inLot (x : Str) : D → Bool
  | .tup l => inL (.str x) l
  | _ => false
theorem inLot_lot (x : Str) (l : List Str) : inLot x (lotD l) = decide (x ∈ l) := inL_strs
theorem filter_lots (p : D → Bool) (q : List Str → Bool) (h : ∀ l, p (lotD l) = q l) (t : List (List Str)) : (t.map lotD).filter p = (t.filter q).map lotD := by
  rw [List.filter_map]
  congr 1
  apply List.filter_congr
  intro l _
  exact h l
/-- the places whose lot holds the text -/
def spots (a : Str) (t : List (List Str)) : List Int := (upto t.length).filter fun i => decide (a ∈ (t[i.toNat]?).getD [])
def inSpot (a : Str) (t : List (List Str)) : D → Bool
  | .int i => decide (a ∈ (t[i.toNat]?).getD [])
  | _ => false
theorem atI_lot {t : List (List Str)} {k : Nat} {l : List Str} (e : t[k]? = some l) : atI (t.map lotD) (k : Int) = some (lotD l) := by
  have hk : k < t.length := (List.getElem?_eq_some_iff.mp e).1
  unfold atI ixN
  rw [if_pos (by omega), if_pos (by rw [List.length_map]; omega)]
  show (t.map lotD)[((k : Int)).toNat]? = _
  rw [Int.toNat_natCast, List.getElem?_map, e]; rfl
theorem upto_pw (n : Int) : (upto n).Pairwise (· < ·) := by
  unfold upto
  rw [List.pairwise_map]
  exact List.Pairwise.imp (fun h => by omega) (List.pairwise_lt_range)
theorem spots_ahd (a b : Str) (t : List (List Str)) : match spots a t with
    | [] => ahd a b t = false
    | i :: _ => ∃ k : Nat, i = (k : Int) ∧ ahd a b t = (t.take (k + 1)).all fun l => !decide (b ∈ l) := by
  have mem : ∀ j : Nat, ∀ l, t[j]? = some l → a ∈ l → (j : Int) ∈ spots a t := fun j l e ha => by
    unfold spots
    have hj : j < t.length := (List.getElem?_eq_some_iff.mp e).1
    refine List.mem_filter.mpr ⟨up_iff.mpr ⟨by omega, by omega⟩, ?_⟩
    rw [Int.toNat_natCast, e]
    simpa using ha
  cases hs : spots a t with
  | nil =>
    refine ahd_none a b t fun l hl ha => ?_
    obtain ⟨j, hj⟩ := List.getElem?_of_mem hl
    have := mem j l hj ha
    rw [hs] at this; cases this
  | cons i is =>
    have hi : i ∈ spots a t := by rw [hs]; exact List.mem_cons_self ..
    have pw : (spots a t).Pairwise (· < ·) := (upto_pw _).filter _
    rw [hs] at pw
    unfold spots at hi
    obtain ⟨h1, h2⟩ := List.mem_filter.mp hi
    have h1 := up_iff.mp h1
    have h2 : a ∈ (t[i.toNat]?).getD [] := by simpa using h2
    refine ⟨i.toNat, by omega, ?_⟩
    cases e : t[i.toNat]? with
    | none => rw [e] at h2; simp at h2
    | some l =>
      rw [e] at h2
      refine ahd_at a b t i.toNat l e h2 fun j hj m em ham => ?_
      have := mem j m em ham
      rw [hs] at this
      rcases List.mem_cons.mp this with z | z
      · omega
      · have := (List.pairwise_cons.mp pw).1 _ z
        omega
theorem cut_take {l : List D} (k : Nat) : cutL l none (some ((k : Int) + 1)) = l.take (k + 1) := by
  unfold cutL
  have e : HT.sIx l.length l.length (some ((k : Int) + 1)) = min (k + 1) l.length := by
    have := HT.sIx_nat l.length l.length (k + 1)
    rw [show (((k + 1 : Nat)) : Int) = (k : Int) + 1 by omega] at this
    exact this
  rw [e, HT.sIx_none, List.drop_zero, Nat.sub_zero]
  by_cases h : k + 1 ≤ l.length
  · rw [Nat.min_eq_left h]
  · rw [Nat.min_eq_right (by omega), List.take_length, List.take_of_length_le (by omega)]
/-- the last three statements of the loop's body -/
def b12tail (C : Addr) : TSD := (T3.tSeq (T3.tAsg (tLstM (tCons (tOp (ordR (fun i j => decide (j < i)) fun a b => ltS b a) (tVar 8) (tC (.int 0))) (tCons (tOp (ordR (fun i j => decide (j ≤ i)) fun a b => !ltS a b) (tVar 8) (tVar 5)) (tCons (tVar 11) tNil)))) (gName 12))
  (T3.tSeq (T3.tDrop (T3.tBM "list" appR (tVar 12) (tCons (tAndV (tOp (ordR (fun i j => decide (j < i)) fun a b => ltS b a) (T3.tCB lenR (tCons (tVar 7) tNil)) (tC (.int 0))) (tOp (inR false) (tVar 4) (tOp ixR (tVar 7) (tOp (intR TrueC fun i j => .int (i - j)) (T3.tCB lenR (tCons (tVar 7) tNil)) (tC (.int 1)))))) tNil)))
  (T3.tIfS (tB (tOp neR (T3.tLc (iAny (tVar 6)) (g9__law_made_right C) tYes (e10__law_made_right C) [15]) (tVar 12))) (T3.tRet (tC (.bl false))) T3.tNext)))
theorem b12_eq (C : Addr) : b12__law_made_right C = (T3.tSeq (T3.tAsg (T3.tCB lenR (tCons (T3.tLc (iAny (tVar 7)) (g0__law_made_right C) (c1__law_made_right C) (e2__law_made_right C) [14]) tNil)) (gName 8))
  (T3.tSeq (T3.tAsg (T3.tLc (iRng1 (tCons (T3.tCB lenR (tCons (tVar 7) tNil)) tNil)) (g3__law_made_right C) (c4__law_made_right C) (e5__law_made_right C) [13]) (gName 9))
  (T3.tSeq (T3.tAsg (tIf (tB (tOp neR (tVar 9) (tLst tNil))) (tOp ixR (tVar 9) (tC (.int 0))) (tOp (intR TrueC fun i j => .int (i - j)) (tC (.int 0)) (tC (.int 1)))) (gName 10))
  (T3.tSeq (T3.tAsg (tAndV (tOp (ordR (fun i j => decide (j ≤ i)) fun a b => !ltS a b) (tVar 10) (tC (.int 0))) (tOp eqR (T3.tLc (iAny (tSl slR (tVar 7) tNoPart (tPart (tOp addR (tVar 10) (tC (.int 1)))))) (g6__law_made_right C) (c7__law_made_right C) (e8__law_made_right C) [14]) (tLst tNil))) (gName 11))
  (b12tail C))))) := rfl
theorem wish_takes {C : Addr} {n : Int} {good : List Int} {rs : List Rule} {t : List (List Str)} {h : AH} {Q : QD} (ok : wOk n good rs) (ht : taleOk t) (q : Q (.bl (decide (run (rs.map nr) 0 t ∈ ascI good))) h) : fs_Wish_takes C [mk C n good rs, taleD t] h Q := ⟨n, _, _, t, rfl, wOk_mk ok, ht, q⟩
def lastIn (b : Str) (t : List (List Str)) : Bool := match t.getLast? with
  | some l => decide (b ∈ l)
  | none => false
theorem takes_lastIn (b : Str) (t : List (List Str)) : decide (run ((lastR b).map nr) 0 t ∈ ascI [1]) = lastIn b t := takes_last b t
theorem tail12 {C : Addr} {E : EndsD} {h1 : AH} {a0 a1 a2 a9 a10 a12 : Option D} {x1 x2 : Str} {k : Int} {t : List (List Str)} (k0 : 0 ≤ k) (k1 : k < 3) (n1 : nameOk x1 = true) (n2 : nameOk x2 = true) (ht : taleOk t)
    (q : ∀ p l, h1 p = none → E.nx [a0, a1, a2, some (.str x1), some (.str x2), some (.int (1 + k)), some (.lst [mk C (1 + 1) [1] (ringsR x1 1), mk C (1 + k + 1) [1 + k] (ringsR x1 (1 + k)), mk C 3 [1] (aheadR x1 x2), mk C 2 [1] (lastR x2)]), some (.tup (t.map lotD)), some (.int (cnt x1 t)), a9, a10, some (.bl (ahd x1 x2 t)), some (.ref p), none, none, none] (ud h1 p l)) :
    b12tail C E [a0, a1, a2, some (.str x1), some (.str x2), some (.int (1 + k)), some (.lst [mk C (1 + 1) [1] (ringsR x1 1), mk C (1 + k + 1) [1 + k] (ringsR x1 (1 + k)), mk C 3 [1] (aheadR x1 x2), mk C 2 [1] (lastR x2)]), some (.tup (t.map lotD)), some (.int (cnt x1 t)), a9, a10, some (.bl (ahd x1 x2 t)), a12, none, none, none] h1 := by
  simp only [b12tail, T3.tRet, T3.tRetN, T3.tSeq, T3.tNext, T3.tAsg, T3.gName, T3.gTupN, T3.gList, T3.tVar, T3.tC, T3.tOp, T3.tNotV, T3.tAndV, T3.tOrV, T3.tB, T3.tAnd, T3.tOr, T3.tNot, T3.tIf, T3.tIfS, T3.tCall, T3.tCB, T3.tCons, T3.tNil, T3.tIsi, T3.ordR, T3.intR, T3.absR, T3.intR1, T3.tChain, T3.tTup, T3.tLst, T3.tLstM, T3.tNever, T3.tDrop, T3.appR, T3.extR, T3.popR, T3.tFld, T3.insOf, T3.tMeth, T3.tMake, T3.sFld, T3.tYes, T3.iAny, T3.tFor, T3.iRng1, T3.iRng2, T3.iEnum, T3.tLc, T3.tLcM, T3.tLc2, T3.wipeD, T3.allR, T3.tSl, T3.tNoPart, T3.tPart, T3.slR, T3.gSub, T3.tRevD, T3.tBreak, T3.tCont, T3.tFrz, T3.startD, T3.fnEnds, T3.tab_ii, T3.tab_ib, T3.tab_ss, T3.tab_ll, T3.tab_lt, T3.tab_tl, T3.tab_tt, Bool.or_true, Bool.true_or, eq_self, List.map_cons, List.map_nil, List.length_cons, List.length_nil, List.cons_append, List.nil_append, List.getElem?_cons_zero, List.getElem?_cons_succ, List.getElem?_nil, List.set_cons_zero, List.set_cons_succ, List.replicate, Nat.sub_self, Nat.reduceAdd, Nat.reduceSub, ite_true, ite_false, if_true, if_false, Bool.not_true, Bool.not_false, reduceCtorEq, Bool.false_eq_true, ↓reduceIte, true_and, and_true]
  refine ⟨sl65' (by decide), fun p hp => ?_⟩
  simp only [T3.tBM, T3.isTy, T3.slOf, ud_same, Option.isSome, T3.tRet, T3.tRetN, T3.tSeq, T3.tNext, T3.tAsg, T3.gName, T3.gTupN, T3.gList, T3.tVar, T3.tC, T3.tOp, T3.tNotV, T3.tAndV, T3.tOrV, T3.tB, T3.tAnd, T3.tOr, T3.tNot, T3.tIf, T3.tIfS, T3.tCall, T3.tCB, T3.tCons, T3.tNil, T3.tIsi, T3.ordR, T3.intR, T3.absR, T3.intR1, T3.tChain, T3.tTup, T3.tLst, T3.tLstM, T3.tNever, T3.tDrop, T3.appR, T3.extR, T3.popR, T3.tFld, T3.insOf, T3.tMeth, T3.tMake, T3.sFld, T3.tYes, T3.iAny, T3.tFor, T3.iRng1, T3.iRng2, T3.iEnum, T3.tLc, T3.tLcM, T3.tLc2, T3.wipeD, T3.allR, T3.tSl, T3.tNoPart, T3.tPart, T3.slR, T3.gSub, T3.tRevD, T3.tBreak, T3.tCont, T3.tFrz, T3.startD, T3.fnEnds, T3.tab_ii, T3.tab_ib, T3.tab_ss, T3.tab_ll, T3.tab_lt, T3.tab_tl, T3.tab_tt, Bool.or_true, Bool.true_or, eq_self, List.map_cons, List.map_nil, List.length_cons, List.length_nil, List.cons_append, List.nil_append, List.getElem?_cons_zero, List.getElem?_cons_succ, List.getElem?_nil, List.set_cons_zero, List.set_cons_succ, List.replicate, Nat.sub_self, Nat.reduceAdd, Nat.reduceSub, ite_true, ite_false, if_true, if_false, Bool.not_true, Bool.not_false, reduceCtorEq, Bool.false_eq_true, ↓reduceIte, true_and, and_true]
  refine lenR_seq (l := t.map lotD) rfl ?_
  rw [List.length_map]
  have fin : ∀ c : Bool, c = lastIn x2 t → (3 < sizeLine ∧ lcL (fun h => True) (g9__law_made_right C) T3.tYes (e10__law_made_right C) [a0, a1, a2, some (.str x1), some (.str x2), some (.int (1 + k)), some (.lst [mk C (1 + 1) [1] (ringsR x1 1), mk C (1 + k + 1) [1 + k] (ringsR x1 (1 + k)), mk C 3 [1] (aheadR x1 x2), mk C 2 [1] (lastR x2)]), some (.tup (t.map lotD)), some (.int (cnt x1 t)), a9, a10, some (.bl (ahd x1 x2 t)), some (.ref p), none, none, none]
      [mk C (1 + 1) [1] (ringsR x1 1), mk C (1 + k + 1) [1 + k] (ringsR x1 (1 + k)), mk C 3 [1] (aheadR x1 x2), mk C 2 [1] (lastR x2)] [] (ud h1 p (.lst [.bl (decide (0 < (cnt x1 t : Int))), .bl (decide (1 + k ≤ (cnt x1 t : Int))), .bl (ahd x1 x2 t), .bl c])) fun acc h2 => neR (.lst acc) (.ref p) h2 fun x h3 => match x with
        | .bl c => if c = true then E.rt (.bl false) h3 else E.nx [a0, a1, a2, some (.str x1), some (.str x2), some (.int (1 + k)), some (.lst [mk C (1 + 1) [1] (ringsR x1 1), mk C (1 + k + 1) [1 + k] (ringsR x1 (1 + k)), mk C 3 [1] (aheadR x1 x2), mk C 2 [1] (lastR x2)]), some (.tup (t.map lotD)), some (.int (cnt x1 t)), a9, a10, some (.bl (ahd x1 x2 t)), some (.ref p), none, none, none] h3
        | _ => False) := fun c hc => by
    refine ⟨sl65 (by decide), ?_⟩
    have sz : ∀ n, n ≤ 10 → n < sizeLine := fun n hn => sl65 (by omega)
    simp only [lcL, g9__law_made_right, e10__law_made_right, T3.tYes, T3.tMeth, mk, wD, T3.insOf, w_no (m := "takes") (by decide +kernel) (by decide +kernel) (by decide +kernel), T3.tRet, T3.tRetN, T3.tSeq, T3.tNext, T3.tAsg, T3.gName, T3.gTupN, T3.gList, T3.tVar, T3.tC, T3.tOp, T3.tNotV, T3.tAndV, T3.tOrV, T3.tB, T3.tAnd, T3.tOr, T3.tNot, T3.tIf, T3.tIfS, T3.tCall, T3.tCB, T3.tCons, T3.tNil, T3.tIsi, T3.ordR, T3.intR, T3.absR, T3.intR1, T3.tChain, T3.tTup, T3.tLst, T3.tLstM, T3.tNever, T3.tDrop, T3.appR, T3.extR, T3.popR, T3.tFld, T3.insOf, T3.tMeth, T3.tMake, T3.sFld, T3.tYes, T3.iAny, T3.tFor, T3.iRng1, T3.iRng2, T3.iEnum, T3.tLc, T3.tLcM, T3.tLc2, T3.wipeD, T3.allR, T3.tSl, T3.tNoPart, T3.tPart, T3.slR, T3.gSub, T3.tRevD, T3.tBreak, T3.tCont, T3.tFrz, T3.startD, T3.fnEnds, T3.tab_ii, T3.tab_ib, T3.tab_ss, T3.tab_ll, T3.tab_lt, T3.tab_tl, T3.tab_tt, Bool.or_true, Bool.true_or, eq_self, List.map_cons, List.map_nil, List.length_cons, List.length_nil, List.cons_append, List.nil_append, List.getElem?_cons_zero, List.getElem?_cons_succ, List.getElem?_nil, List.set_cons_zero, List.set_cons_succ, List.replicate, Nat.sub_self, Nat.reduceAdd, Nat.reduceSub, ite_true, ite_false, if_true, if_false, Bool.not_true, Bool.not_false, reduceCtorEq, Bool.false_eq_true, ↓reduceIte, true_and, and_true]
    refine wish_takes (rings_ok n1 (by decide) (by decide)) ht ?_
    refine ⟨sz _ (by decide), ?_⟩
    refine wish_takes (rings_ok n1 (by omega) (by omega)) ht ?_
    refine ⟨sz _ (by decide), ?_⟩
    refine wish_takes (ahead_ok n1 n2) ht ?_
    refine ⟨sz _ (by decide), ?_⟩
    refine wish_takes (last_ok n2) ht ?_
    refine ⟨sz _ (by decide), ?_⟩
    rw [takes_rings x1 1 (by decide), takes_rings x1 (1 + k) (by omega), takes_ahead, takes_lastIn, ← hc]
    have e1 : decide ((1 : Int) ≤ (cnt x1 t : Int)) = decide (0 < (cnt x1 t : Int)) := dec_congr (by omega)
    rw [e1]
    simp only [T3.neR, resD, ud_same]
    refine ⟨rfl, rfl, ?_⟩
    have er := eqD_refl (n := 40) (d := .lst [.bl (decide (0 < (cnt x1 t : Int))), .bl (decide (1 + k ≤ (cnt x1 t : Int))), .bl (ahd x1 x2 t), .bl c]) rfl
    simp only [er, T3.nat_ofNat, decide_true, Bool.not_true, Bool.not_false, Bool.false_eq_true, eq_self, ↓reduceIte, true_and, and_true]
    exact q p _ hp
  cases ht0 : t.getLast? with
  | none =>
    have : t = [] := List.getLast?_eq_none_iff.mp ht0
    subst this
    have e0 : decide ((0 : Int) < 0) = false := by decide
    simp only [List.length_nil, e0, T3.nat_ofNat, decide_true, Bool.not_true, Bool.not_false, Bool.false_eq_true, eq_self, ↓reduceIte, true_and, and_true, ud_same, ud_ud, T3.itOf, T3.seqOf, List.length_cons, List.cons_append, List.nil_append]
    exact fin false rfl
  | some l =>
    have hne : t ≠ [] := fun z => by rw [z] at ht0; cases ht0
    have hp1 : 0 < t.length := List.length_pos_iff.mpr hne
    have el : t[t.length - 1]? = some l := by rw [← ht0, List.getLast?_eq_getElem?]
    have hl : l ∈ t := List.mem_of_getElem? el
    have e1 : decide ((0 : Int) < (t.length : Int)) = true := decide_eq_true (by omega)
    simp only [e1, T3.nat_ofNat, decide_true, Bool.not_true, Bool.not_false, Bool.false_eq_true, eq_self, ↓reduceIte, true_and, and_true]
    refine lenR_seq (l := t.map lotD) rfl ?_
    rw [List.length_map]
    refine ⟨trivial, ?_⟩
    rw [show (t.length : Int) - 1 = ((t.length - 1 : Nat) : Int) by omega]
    refine ixR_seq (l := t.map lotD) rfl (atI_lot el) ?_
    simp only [lotD, T3.inR, T3.seqOf, resD, Bool.false_xor]
    refine ⟨ok_str n2, ok_all (ht.1 l hl).1, ?_⟩
    simp only [ud_same, ud_ud, T3.itOf, T3.seqOf, List.length_cons, List.length_nil, Nat.reduceAdd, List.cons_append, List.nil_append]
    refine fin (inL (.str x2) (namesD l)) ?_
    unfold lastIn
    rw [ht0]
    exact inL_strs
theorem len__law_made_right (C : Addr) : ∀ ds h R, fs__law_made_right C ds h R → ds.length = (["box", "rings", "tales"] : List Str).length := by
  rintro ds h R ⟨b, rings, ts, rfl, q⟩
  rfl
theorem rd__law_made_right (C : Addr) : ∀ ds h R, fs__law_made_right C ds h R → t__law_made_right C (fnEnds R) (startD N__law_made_right ds) h := by
  rintro ds h R ⟨b, rings, ts, rfl, ab, ⟨r0, r4, rn⟩, ⟨tok, tl, _⟩, q⟩
  have rl : (namesD rings) ≠ [] := fun z => r0 (List.map_eq_nil_iff.mp z)
  have rll : (namesD rings).length ≤ 1000 := by rw [namesD, List.length_map]; omega
  simp only [t__law_made_right, N__law_made_right, T3.tRet, T3.tRetN, T3.tSeq, T3.tNext, T3.tAsg, T3.gName, T3.gTupN, T3.gList, T3.tVar, T3.tC, T3.tOp, T3.tNotV, T3.tAndV, T3.tOrV, T3.tB, T3.tAnd, T3.tOr, T3.tNot, T3.tIf, T3.tIfS, T3.tCall, T3.tCB, T3.tCons, T3.tNil, T3.tIsi, T3.ordR, T3.intR, T3.absR, T3.intR1, T3.tChain, T3.tTup, T3.tLst, T3.tLstM, T3.tNever, T3.tDrop, T3.appR, T3.extR, T3.popR, T3.tFld, T3.insOf, T3.tMeth, T3.tMake, T3.sFld, T3.tYes, T3.iAny, T3.tFor, T3.iRng1, T3.iRng2, T3.iEnum, T3.tLc, T3.tLcM, T3.tLc2, T3.wipeD, T3.allR, T3.tSl, T3.tNoPart, T3.tPart, T3.slR, T3.gSub, T3.tRevD, T3.tBreak, T3.tCont, T3.tFrz, T3.startD, T3.fnEnds, T3.tab_ii, T3.tab_ib, T3.tab_ss, T3.tab_ll, T3.tab_lt, T3.tab_tl, T3.tab_tt, Bool.or_true, Bool.true_or, eq_self, List.map_cons, List.map_nil, List.length_cons, List.length_nil, List.cons_append, List.nil_append, List.getElem?_cons_zero, List.getElem?_cons_succ, List.getElem?_nil, List.set_cons_zero, List.set_cons_succ, List.replicate, Nat.sub_self, Nat.reduceAdd, Nat.reduceSub, ite_true, ite_false, if_true, if_false, Bool.not_true, Bool.not_false, reduceCtorEq, Bool.false_eq_true, ↓reduceIte, true_and, and_true]
  refine ⟨b, _, rfl, ab, rl, rll, fun x hx => fun g1 s1 ok1 => ?_⟩
  obtain ⟨x1, rfl, hx1⟩ := names_mem hx
  refine ⟨b, _, rfl, atBox_ud ok1, rl, rll, fun x hx => fun g2 s2 ok2 => ?_⟩
  obtain ⟨x2, rfl, hx2⟩ := names_mem hx
  simp only [ud_ud]
  refine ⟨b, 3, rfl, atBox_ud ok2, by decide, by decide, fun k k0 k1 => fun g3 s3 ok3 => ?_⟩
  simp only [T3.addR, ud_ud]
  have n1 := rn x1 hx1
  have n2 := rn x2 hx2
  refine ⟨sl65' (by decide), ?_⟩
  refine ⟨.str x1, rfl, x1, 1, rfl, n1, by decide, by decide, ?_⟩
  refine ⟨x1, 1 + k, rfl, n1, by omega, by omega, ?_⟩
  refine ⟨x1, x2, rfl, n1, n2, ?_⟩
  refine ⟨x2, rfl, n2, ?_⟩
  refine ⟨sl65' (by decide), ?_⟩
  simp only [T3.itOf, T3.seqOf]
  refine forL_inv (I := fun l σ h1 => ∃ ts' a7 a8 a9 a10 a11 a12, l = ts'.map taleD ∧ σ = [some (.ref b), some (.lst (namesD rings)), some (.lst (ts.map taleD)), some (.str x1), some (.str x2), some (.int (1 + k)), some (.lst [mk C (1 + 1) [1] (ringsR x1 1), mk C (1 + k + 1) [1 + k] (ringsR x1 (1 + k)), mk C 3 [1] (aheadR x1 x2), mk C 2 [1] (lastR x2)]), a7, a8, a9, a10, a11, a12, none, none, none] ∧
    T3.Sub (ud h b (bx g3 s3)) h1 ∧ ∀ t ∈ ts', taleOk t) (fun _ _ _ _ => trivial) ?_ gName_mono ?_ _ ⟨ts, none, none, none, none, none, none, rfl, rfl, T3.Sub.refl, tok⟩
  · rintro x xs σ h1 ⟨ts', a7, a8, a9, a10, a11, a12, e0, rfl, hs, tok'⟩
    match ts', e0 with
    | t :: ts', e0 =>
      cases e0
      have ht := tok' t (List.mem_cons_self ..)
      have htl := ht.2
      simp only [g11__law_made_right, b12_eq, taleD, T3.tRet, T3.tRetN, T3.tSeq, T3.tNext, T3.tAsg, T3.gName, T3.gTupN, T3.gList, T3.tVar, T3.tC, T3.tOp, T3.tNotV, T3.tAndV, T3.tOrV, T3.tB, T3.tAnd, T3.tOr, T3.tNot, T3.tIf, T3.tIfS, T3.tCall, T3.tCB, T3.tCons, T3.tNil, T3.tIsi, T3.ordR, T3.intR, T3.absR, T3.intR1, T3.tChain, T3.tTup, T3.tLst, T3.tLstM, T3.tNever, T3.tDrop, T3.appR, T3.extR, T3.popR, T3.tFld, T3.insOf, T3.tMeth, T3.tMake, T3.sFld, T3.tYes, T3.iAny, T3.tFor, T3.iRng1, T3.iRng2, T3.iEnum, T3.tLc, T3.tLcM, T3.tLc2, T3.wipeD, T3.allR, T3.tSl, T3.tNoPart, T3.tPart, T3.slR, T3.gSub, T3.tRevD, T3.tBreak, T3.tCont, T3.tFrz, T3.startD, T3.fnEnds, T3.tab_ii, T3.tab_ib, T3.tab_ss, T3.tab_ll, T3.tab_lt, T3.tab_tl, T3.tab_tt, Bool.or_true, Bool.true_or, eq_self, List.map_cons, List.map_nil, List.length_cons, List.length_nil, List.cons_append, List.nil_append, List.getElem?_cons_zero, List.getElem?_cons_succ, List.getElem?_nil, List.set_cons_zero, List.set_cons_succ, List.replicate, Nat.sub_self, Nat.reduceAdd, Nat.reduceSub, ite_true, ite_false, if_true, if_false, Bool.not_true, Bool.not_false, reduceCtorEq, Bool.false_eq_true, ↓reduceIte, true_and, and_true, T3.itOf, T3.seqOf]
      intro E' e1 _ e3 _
      -- the lots that hold one
      refine lcL_pure (acc := []) (inLot x1) id trivial (t.map lotD) (fun d hd F G hF hG F' G' hF' hG' => ?_) ?_ ?_
      · obtain ⟨l, hl, rfl⟩ := List.mem_map.mp hd
        simp only [g0__law_made_right, c1__law_made_right, e2__law_made_right, lotD, T3.tRet, T3.tRetN, T3.tSeq, T3.tNext, T3.tAsg, T3.gName, T3.gTupN, T3.gList, T3.tVar, T3.tC, T3.tOp, T3.tNotV, T3.tAndV, T3.tOrV, T3.tB, T3.tAnd, T3.tOr, T3.tNot, T3.tIf, T3.tIfS, T3.tCall, T3.tCB, T3.tCons, T3.tNil, T3.tIsi, T3.ordR, T3.intR, T3.absR, T3.intR1, T3.tChain, T3.tTup, T3.tLst, T3.tLstM, T3.tNever, T3.tDrop, T3.appR, T3.extR, T3.popR, T3.tFld, T3.insOf, T3.tMeth, T3.tMake, T3.sFld, T3.tYes, T3.iAny, T3.tFor, T3.iRng1, T3.iRng2, T3.iEnum, T3.tLc, T3.tLcM, T3.tLc2, T3.wipeD, T3.allR, T3.tSl, T3.tNoPart, T3.tPart, T3.slR, T3.gSub, T3.tRevD, T3.tBreak, T3.tCont, T3.tFrz, T3.startD, T3.fnEnds, T3.tab_ii, T3.tab_ib, T3.tab_ss, T3.tab_ll, T3.tab_lt, T3.tab_tl, T3.tab_tt, Bool.or_true, Bool.true_or, eq_self, List.map_cons, List.map_nil, List.length_cons, List.length_nil, List.cons_append, List.nil_append, List.getElem?_cons_zero, List.getElem?_cons_succ, List.getElem?_nil, List.set_cons_zero, List.set_cons_succ, List.replicate, Nat.sub_self, Nat.reduceAdd, Nat.reduceSub, ite_true, ite_false, if_true, if_false, Bool.not_true, Bool.not_false, reduceCtorEq, Bool.false_eq_true, ↓reduceIte, true_and, and_true, T3.inR, T3.seqOf, resD, Bool.false_xor]
        refine ⟨ok_str n1, ok_all (ht.1 l hl).1, ?_⟩
        have hb : inLot x1 (lotD l) = false ∨ inLot x1 (lotD l) = true := by cases inLot x1 (lotD l) <;> simp
        rcases hb with hb | hb
        · have hb' : inL (.str x1) (namesD l) = false := hb
          simp only [hb', T3.nat_ofNat, decide_true, Bool.not_true, Bool.not_false, Bool.false_eq_true, eq_self, ↓reduceIte, true_and, and_true]; exact hF' (hF hb)
        · have hb' : inL (.str x1) (namesD l) = true := hb
          simp only [hb', T3.nat_ofNat, decide_true, Bool.not_true, Bool.not_false, Bool.false_eq_true, eq_self, ↓reduceIte, true_and, and_true]; exact hG' _ (hG hb)
      · rw [List.length_map, List.length_nil]; exact sl65' (by omega)
      rw [List.nil_append, List.map_id, filter_lots (inLot x1) (fun l => decide (x1 ∈ l)) (inLot_lot x1) t]
      refine lenR_seq (l := (t.filter fun l => decide (x1 ∈ l)).map lotD) rfl ?_
      rw [List.length_map, show (t.filter fun l => decide (x1 ∈ l)).length = cnt x1 t from rfl]
      -- the places
      refine lenR_seq (l := t.map lotD) rfl ?_
      rw [List.length_map]
      refine ⟨⟨by omega, by omega⟩, ?_⟩
      rw [show rangeD 0 ((t.length : Int)).toNat = (upto t.length).map D.int from rangeD_upto]
      refine lcL_pure (acc := []) (inSpot x1 t) id trivial _ (fun d hd F G hF hG F' G' hF' hG' => ?_) ?_ ?_
      · obtain ⟨i, hi, rfl⟩ := List.mem_map.mp hd
        have hi := up_iff.mp hi
        obtain ⟨j, rfl⟩ := Int.eq_ofNat_of_zero_le hi.1
        have hj : j < t.length := by omega
        have ej : t[j]? = some t[j] := List.getElem?_eq_getElem hj
        simp only [g3__law_made_right, c4__law_made_right, e5__law_made_right, T3.tRet, T3.tRetN, T3.tSeq, T3.tNext, T3.tAsg, T3.gName, T3.gTupN, T3.gList, T3.tVar, T3.tC, T3.tOp, T3.tNotV, T3.tAndV, T3.tOrV, T3.tB, T3.tAnd, T3.tOr, T3.tNot, T3.tIf, T3.tIfS, T3.tCall, T3.tCB, T3.tCons, T3.tNil, T3.tIsi, T3.ordR, T3.intR, T3.absR, T3.intR1, T3.tChain, T3.tTup, T3.tLst, T3.tLstM, T3.tNever, T3.tDrop, T3.appR, T3.extR, T3.popR, T3.tFld, T3.insOf, T3.tMeth, T3.tMake, T3.sFld, T3.tYes, T3.iAny, T3.tFor, T3.iRng1, T3.iRng2, T3.iEnum, T3.tLc, T3.tLcM, T3.tLc2, T3.wipeD, T3.allR, T3.tSl, T3.tNoPart, T3.tPart, T3.slR, T3.gSub, T3.tRevD, T3.tBreak, T3.tCont, T3.tFrz, T3.startD, T3.fnEnds, T3.tab_ii, T3.tab_ib, T3.tab_ss, T3.tab_ll, T3.tab_lt, T3.tab_tl, T3.tab_tt, Bool.or_true, Bool.true_or, eq_self, List.map_cons, List.map_nil, List.length_cons, List.length_nil, List.cons_append, List.nil_append, List.getElem?_cons_zero, List.getElem?_cons_succ, List.getElem?_nil, List.set_cons_zero, List.set_cons_succ, List.replicate, Nat.sub_self, Nat.reduceAdd, Nat.reduceSub, ite_true, ite_false, if_true, if_false, Bool.not_true, Bool.not_false, reduceCtorEq, Bool.false_eq_true, ↓reduceIte, true_and, and_true]
        refine ixR_seq (l := t.map lotD) rfl (atI_lot ej) ?_
        simp only [lotD, T3.inR, T3.seqOf, resD, Bool.false_xor]
        refine ⟨ok_str n1, ok_all (ht.1 _ (List.getElem_mem hj)).1, ?_⟩
        have es : inSpot x1 t (.int (j : Int)) = inL (.str x1) (namesD t[j]) := by
          show decide (x1 ∈ (t[((j : Int)).toNat]?).getD []) = _
          rw [Int.toNat_natCast, ej]
          exact inL_strs.symm
        have hb : inSpot x1 t (.int (j : Int)) = false ∨ inSpot x1 t (.int (j : Int)) = true := by cases inSpot x1 t (.int (j : Int)) <;> simp
        rcases hb with hb | hb
        · rw [es] at hb
          simp only [hb, T3.nat_ofNat, decide_true, Bool.not_true, Bool.not_false, Bool.false_eq_true, eq_self, ↓reduceIte, true_and, and_true]; exact hF' (hF (es.trans hb))
        · rw [es] at hb
          simp only [hb, T3.nat_ofNat, decide_true, Bool.not_true, Bool.not_false, Bool.false_eq_true, eq_self, ↓reduceIte, true_and, and_true]; exact hG' _ (hG (es.trans hb))
      · rw [List.length_map, len_upto, List.length_nil]; exact sl65' (by omega)
      have esp : ((upto t.length).map D.int).filter (inSpot x1 t) = (spots x1 t).map D.int := by
        rw [List.filter_map]; rfl
      rw [List.nil_append, List.map_id, esp]
      -- first, is_ahead
      have nxt : ∀ (a9 a10 : Option D), b12tail C E' [some (.ref b), some (.lst (namesD rings)), some (.lst (ts.map taleD)), some (.str x1), some (.str x2), some (.int (1 + k)), some (.lst [mk C (1 + 1) [1] (ringsR x1 1), mk C (1 + k + 1) [1 + k] (ringsR x1 (1 + k)), mk C 3 [1] (aheadR x1 x2), mk C 2 [1] (lastR x2)]), some (.tup (t.map lotD)), some (.int (cnt x1 t)), a9, a10, some (.bl (ahd x1 x2 t)), a12, none, none, none] h1 := fun a9 a10 =>
        tail12 k0 k1 n1 n2 ht fun p l hp => e3 _ _ ⟨ts', _, _, _, _, _, _, rfl, rfl, sub_new hs hp, fun t ht => tok' t (List.mem_cons_of_mem _ ht)⟩
      have sa := spots_ahd x1 x2 t
      simp only [T3.neR, resD, eqD_lst_nil]
      refine ⟨Nat.zero_le _, ok_intsL _, rfl, ?_⟩
      cases hsp : spots x1 t with
      | nil =>
        rw [hsp] at sa
        have sa : ahd x1 x2 t = false := sa
        simp only [List.map_nil, List.isEmpty_nil, T3.nat_ofNat, decide_true, Bool.not_true, Bool.not_false, Bool.false_eq_true, eq_self, ↓reduceIte, true_and, and_true]
        rw [sa] at nxt
        have em : decide ((0 : Int) ≤ 0 - 1) = false := by decide
        refine ⟨trivial, ?_⟩
        simp only [em, T3.nat_ofNat, decide_true, Bool.not_true, Bool.not_false, Bool.false_eq_true, eq_self, ↓reduceIte, true_and, and_true]
        exact nxt _ _
      | cons i is =>
        rw [hsp] at sa
        obtain ⟨j, rfl, sa⟩ := sa
        simp only [List.map_cons, List.isEmpty_cons, T3.nat_ofNat, decide_true, Bool.not_true, Bool.not_false, Bool.false_eq_true, eq_self, ↓reduceIte, true_and, and_true]
        refine ixR_seq (l := .int (j : Int) :: is.map .int) rfl atI_zero ?_
        simp only [decide_eq_true (show (0 : Int) ≤ (j : Int) by omega), T3.nat_ofNat, decide_true, Bool.not_true, Bool.not_false, Bool.false_eq_true, eq_self, ↓reduceIte, true_and, and_true, T3.addR]
        rw [cut_take, ← List.map_take]
        have lt := List.length_take_le (j + 1) t
        have lt2 : (t.take (j + 1)).length ≤ t.length := by rw [List.length_take]; omega
        refine lcL_pure (acc := []) (inLot x2) id trivial ((t.take (j + 1)).map lotD) (fun d hd F G hF hG F' G' hF' hG' => ?_) ?_ ?_
        · obtain ⟨l, hl, rfl⟩ := List.mem_map.mp hd
          have hl := List.mem_of_mem_take hl
          simp only [g6__law_made_right, c7__law_made_right, e8__law_made_right, lotD, T3.tRet, T3.tRetN, T3.tSeq, T3.tNext, T3.tAsg, T3.gName, T3.gTupN, T3.gList, T3.tVar, T3.tC, T3.tOp, T3.tNotV, T3.tAndV, T3.tOrV, T3.tB, T3.tAnd, T3.tOr, T3.tNot, T3.tIf, T3.tIfS, T3.tCall, T3.tCB, T3.tCons, T3.tNil, T3.tIsi, T3.ordR, T3.intR, T3.absR, T3.intR1, T3.tChain, T3.tTup, T3.tLst, T3.tLstM, T3.tNever, T3.tDrop, T3.appR, T3.extR, T3.popR, T3.tFld, T3.insOf, T3.tMeth, T3.tMake, T3.sFld, T3.tYes, T3.iAny, T3.tFor, T3.iRng1, T3.iRng2, T3.iEnum, T3.tLc, T3.tLcM, T3.tLc2, T3.wipeD, T3.allR, T3.tSl, T3.tNoPart, T3.tPart, T3.slR, T3.gSub, T3.tRevD, T3.tBreak, T3.tCont, T3.tFrz, T3.startD, T3.fnEnds, T3.tab_ii, T3.tab_ib, T3.tab_ss, T3.tab_ll, T3.tab_lt, T3.tab_tl, T3.tab_tt, Bool.or_true, Bool.true_or, eq_self, List.map_cons, List.map_nil, List.length_cons, List.length_nil, List.cons_append, List.nil_append, List.getElem?_cons_zero, List.getElem?_cons_succ, List.getElem?_nil, List.set_cons_zero, List.set_cons_succ, List.replicate, Nat.sub_self, Nat.reduceAdd, Nat.reduceSub, ite_true, ite_false, if_true, if_false, Bool.not_true, Bool.not_false, reduceCtorEq, Bool.false_eq_true, ↓reduceIte, true_and, and_true, T3.inR, T3.seqOf, resD, Bool.false_xor]
          refine ⟨ok_str n2, ok_all (ht.1 l hl).1, ?_⟩
          have hb : inLot x2 (lotD l) = false ∨ inLot x2 (lotD l) = true := by cases inLot x2 (lotD l) <;> simp
          rcases hb with hb | hb
          · have hb' : inL (.str x2) (namesD l) = false := hb
            simp only [hb', T3.nat_ofNat, decide_true, Bool.not_true, Bool.not_false, Bool.false_eq_true, eq_self, ↓reduceIte, true_and, and_true]; exact hF' (hF hb)
          · have hb' : inL (.str x2) (namesD l) = true := hb
            simp only [hb', T3.nat_ofNat, decide_true, Bool.not_true, Bool.not_false, Bool.false_eq_true, eq_self, ↓reduceIte, true_and, and_true]; exact hG' _ (hG hb)
        · rw [List.length_map, List.length_nil]; exact sl65' (by omega)
        rw [List.nil_append, List.map_id, filter_lots (inLot x2) (fun l => decide (x2 ∈ l)) (inLot_lot x2)]
        simp only [T3.eqR, resD, eqD_lst_nil]
        refine ⟨Nat.zero_le _, ?_, rfl, ?_⟩
        · show (List.map lotD _).all (okD 39) = true
          rw [List.all_map]
          refine List.all_eq_true.mpr fun l hl => ?_
          have hl := List.mem_of_mem_take (List.mem_filter.mp hl).1
          exact ok_names (ht.1 l hl).1
        · have ee : (List.map lotD ((t.take (j + 1)).filter fun l => decide (x2 ∈ l))).isEmpty = ahd x1 x2 t := by
            rw [sa, ← empty_filter]
            cases (t.take (j + 1)).filter fun l => decide (x2 ∈ l) <;> rfl
          rw [ee]
          exact nxt _ _
    | [], e0 => cases e0
  · rintro σ h1 ⟨ts', a7, a8, a9, a10, a11, a12, e0, rfl, hs, _⟩
    simp only [T3.tRet, T3.tRetN, T3.tSeq, T3.tNext, T3.tAsg, T3.gName, T3.gTupN, T3.gList, T3.tVar, T3.tC, T3.tOp, T3.tNotV, T3.tAndV, T3.tOrV, T3.tB, T3.tAnd, T3.tOr, T3.tNot, T3.tIf, T3.tIfS, T3.tCall, T3.tCB, T3.tCons, T3.tNil, T3.tIsi, T3.ordR, T3.intR, T3.absR, T3.intR1, T3.tChain, T3.tTup, T3.tLst, T3.tLstM, T3.tNever, T3.tDrop, T3.appR, T3.extR, T3.popR, T3.tFld, T3.insOf, T3.tMeth, T3.tMake, T3.sFld, T3.tYes, T3.iAny, T3.tFor, T3.iRng1, T3.iRng2, T3.iEnum, T3.tLc, T3.tLcM, T3.tLc2, T3.wipeD, T3.allR, T3.tSl, T3.tNoPart, T3.tPart, T3.slR, T3.gSub, T3.tRevD, T3.tBreak, T3.tCont, T3.tFrz, T3.startD, T3.fnEnds, T3.tab_ii, T3.tab_ib, T3.tab_ss, T3.tab_ll, T3.tab_lt, T3.tab_tl, T3.tab_tt, Bool.or_true, Bool.true_or, eq_self, List.map_cons, List.map_nil, List.length_cons, List.length_nil, List.cons_append, List.nil_append, List.getElem?_cons_zero, List.getElem?_cons_succ, List.getElem?_nil, List.set_cons_zero, List.set_cons_succ, List.replicate, Nat.sub_self, Nat.reduceAdd, Nat.reduceSub, ite_true, ite_false, if_true, if_false, Bool.not_true, Bool.not_false, reduceCtorEq, Bool.false_eq_true, ↓reduceIte, true_and, and_true]
    exact out_sub hs (q g3 s3 ok3)
end K50

/-! k50: the reading of _law_joined_right. -/
namespace K50
open PySem PySem.Spec L2 T3
open PyProof.Rows hiding St

theorem two_in {n : Int} {g : List Int} {r : List Rule} (w : wOk n g r) : ∀ x ∈ r, 0 ≤ x.two ∧ x.two < n := fun x hx => (w.2.2.2.1 x hx).2.1
theorem run0_in {n : Int} {g : List Int} {r : List Rule} (w : wOk n g r) (t : List (List Str)) : 0 ≤ run r 0 t ∧ run r 0 t < n := run_in (two_in w) t ⟨Int.le_refl _, by have := w.1; omega⟩
theorem p_denied {n : Int} {g : List Int} {r : List Rule} (w : wOk n g r) (t : List (List Str)) : decide (run (r.map nr) 0 t ∈ ascI (compl n g)) = !decide (run r 0 t ∈ g) := by
  have h := run0_in w t
  rw [run_nr]
  by_cases hg : run r 0 t ∈ g
  · rw [decide_eq_true hg, decide_eq_false fun z => (compl_iff.mp (mem_ascI.mp z)).2 hg]; rfl
  · rw [decide_eq_false hg, decide_eq_true (mem_ascI.mpr (compl_iff.mpr ⟨h, hg⟩))]; rfl
theorem run_pair0 {n1 n2 : Int} {g1 g2 : List Int} {r1 r2 : List Rule} (w1 : wOk n1 g1 r1) (w2 : wOk n2 g2 r2) (t : List (List Str)) : run (pairR n1 n2 r1 r2) 0 t = run r1 0 t * n2 + run r2 0 t := by
  have := run_pair (n1 := n1) (n2 := n2) (two_in w1) (two_in w2) t (i := 0) (j := 0) ⟨Int.le_refl _, by have := w1.1; omega⟩ ⟨Int.le_refl _, by have := w2.1; omega⟩
  rw [Int.zero_mul, Int.zero_add] at this
  exact this
theorem mem_both {i j : Int} {g1 g2 : List Int} : (i, j) ∈ bothP g1 g2 ↔ i ∈ g1 ∧ j ∈ g2 := by
  unfold bothP
  rw [List.mem_flatMap]
  constructor
  · rintro ⟨a, ha, h⟩
    obtain ⟨c, hc, e⟩ := List.mem_map.mp h
    cases e
    exact ⟨ha, hc⟩
  · rintro ⟨h1, h2⟩
    exact ⟨i, h1, List.mem_map.mpr ⟨j, h2, rfl⟩⟩
theorem mem_code {n1 n2 i j : Int} {ps : List (Int × Int)} (hp : ∀ t ∈ ps, (0 ≤ t.1 ∧ t.1 < n1) ∧ 0 ≤ t.2 ∧ t.2 < n2) (hj : 0 ≤ j ∧ j < n2) : i * n2 + j ∈ ascI (ps.map fun t => t.1 * n2 + t.2) ↔ (i, j) ∈ ps := by
  rw [mem_ascI, List.mem_map]
  constructor
  · rintro ⟨t, ht, e⟩
    obtain ⟨e1, e2⟩ := code_inj (hp t ht).2 hj e
    obtain ⟨a, c⟩ := t
    cases e1; cases e2
    exact ht
  · intro h
    exact ⟨(i, j), h, rfl⟩
theorem p_both {n1 n2 : Int} {g1 g2 : List Int} {r1 r2 : List Rule} (w1 : wOk n1 g1 r1) (w2 : wOk n2 g2 r2) (t : List (List Str)) :
    decide (run ((pairR n1 n2 r1 r2).map nr) 0 t ∈ ascI ((bothP g1 g2).map fun t => t.1 * n2 + t.2)) = (decide (run r1 0 t ∈ g1) && decide (run r2 0 t ∈ g2)) := by
  rw [run_nr, run_pair0 w1 w2, Bool.eq_iff_iff, decide_eq_true_eq, mem_code (both_ok w1.2.1 w2.2.1) (run0_in w2 t), mem_both, Bool.and_eq_true, decide_eq_true_eq, decide_eq_true_eq]
theorem p_eith {n1 n2 : Int} {g1 g2 : List Int} {r1 r2 : List Rule} (w1 : wOk n1 g1 r1) (w2 : wOk n2 g2 r2) (t : List (List Str)) :
    decide (run ((pairR n1 n2 r1 r2).map nr) 0 t ∈ ascI ((eithP n1 n2 g1 g2).map fun t => t.1 * n2 + t.2)) = (decide (run r2 0 t ∈ g2) || decide (run r1 0 t ∈ g1)) := by
  have hp : ∀ t ∈ eithP n1 n2 g1 g2, (0 ≤ t.1 ∧ t.1 < n1) ∧ 0 ≤ t.2 ∧ t.2 < n2 := fun t ht => both_ok (fun i hi => up_iff.mp hi) (fun i hi => up_iff.mp hi) t (List.mem_filter.mp ht).1
  rw [run_nr, run_pair0 w1 w2, Bool.eq_iff_iff, decide_eq_true_eq, mem_code hp (run0_in w2 t)]
  unfold eithP
  rw [List.mem_filter, mem_both, up_iff, up_iff, Bool.or_eq_true, Bool.or_eq_true, decide_eq_true_eq, decide_eq_true_eq]
  have h1 := run0_in w1 t
  have h2 := run0_in w2 t
  constructor
  · rintro ⟨_, h | h⟩
    · exact .inr h
    · exact .inl h
  · rintro (h | h)
    · exact ⟨⟨h1, h2⟩, .inr h⟩
    · exact ⟨⟨h1, h2⟩, .inl h⟩
/-- the turns at which a tale stands well -/
def begun (g : List Int) (r : List Rule) (t : List (List Str)) : List Int := (upto (t.length + 1)).filter fun i => decide (run r 0 (t.take i.toNat) ∈ g)
theorem p_met (g : List Int) (r : List Rule) (t : List (List Str)) : decide (run ((metR g r).map nr) 0 t ∈ ascI g) = !(begun g r t).isEmpty := by
  rw [run_nr, Bool.eq_iff_iff, decide_eq_true_eq, mem_ascI, run_met]
  have : ((!(begun g r t).isEmpty) = true) ↔ ∃ i, i ∈ begun g r t := by
    cases begun g r t with
    | nil => simp
    | cons a l => simp only [List.isEmpty_cons, Bool.not_false, true_iff]; exact ⟨a, List.mem_cons_self ..⟩
  rw [this]
  unfold begun
  constructor
  · rintro ⟨k, hk, h⟩
    exact ⟨(k : Int), List.mem_filter.mpr ⟨up_iff.mpr ⟨by omega, by omega⟩, by rw [Int.toNat_natCast]; exact decide_eq_true h⟩⟩
  · rintro ⟨i, hi⟩
    obtain ⟨h1, h2⟩ := List.mem_filter.mp hi
    have h1 := up_iff.mp h1
    exact ⟨i.toNat, by omega, of_decide_eq_true h2⟩
theorem wOk_compl {n : Int} {g : List Int} {r : List Rule} (w : wOk n g r) : wOk n (compl n g) r := by
  refine ⟨w.1, fun i hi => (compl_iff.mp hi).1, ?_, w.2.2.2⟩
  have := List.length_filter_le (fun i => !decide (i ∈ g)) (upto n)
  rw [len_upto] at this
  have := w.1
  show (List.filter _ _).length ≤ _
  omega
theorem wOk_met {n : Int} {g : List Int} {r : List Rule} (w : wOk n g r) : wOk n g (metR g r) := ⟨w.1, w.2.1, w.2.2.1, fun x hx => w.2.2.2.1 x (List.mem_filter.mp hx).1, Nat.le_trans (List.length_filter_le _ _) w.2.2.2.2⟩
theorem taleOk_take {t : List (List Str)} (h : taleOk t) (k : Nat) : taleOk (t.take k) := ⟨fun l hl => h.1 l (List.mem_of_mem_take hl), by have := h.2; rw [List.length_take]; omega⟩
theorem cut_take' {l : List D} (k : Nat) : cutL l none (some (k : Int)) = l.take k := by
  unfold cutL
  rw [HT.sIx_nat, HT.sIx_none, List.drop_zero, Nat.sub_zero]
  by_cases h : k ≤ l.length
  · rw [Nat.min_eq_left h]
  · rw [Nat.min_eq_right (by omega), List.take_length, List.take_of_length_le (by omega)]
theorem eith_ok {n1 n2 : Int} {g1 g2 : List Int} : ∀ t ∈ eithP n1 n2 g1 g2, (0 ≤ t.1 ∧ t.1 < n1) ∧ 0 ≤ t.2 ∧ t.2 < n2 := fun t ht => both_ok (fun i hi => up_iff.mp hi) (fun i hi => up_iff.mp hi) t (List.mem_filter.mp ht).1
theorem eith_len {n1 n2 : Int} {g1 g2 : List Int} (h1 : n1 ≤ 3) (h2 : n2 ≤ 3) : (eithP n1 n2 g1 g2).length ≤ 9 := by
  refine Nat.le_trans (List.length_filter_le _ _) ?_
  rw [both_len, len_upto, len_upto]
  have : n1.toNat * n2.toNat ≤ 3 * 3 := Nat.mul_le_mul (by omega) (by omega)
  exact this
def fbG (g : List Int) (r : List Rule) (t : List (List Str)) : D → Bool
  | .int i => decide (run r 0 (t.take i.toNat) ∈ g)
  | _ => false
/-- what is due -/
def dueE : TED := (tLst (tCons (tNotV (tVar 8)) (tCons (tAndV (tVar 8) (tVar 9)) (tCons (tOrV (tVar 8) (tVar 9)) (tCons (tOp neR (tVar 10) (tLst tNil)) tNil)))))
/-- the last statements of the loop's body -/
def b6tail (C : Addr) : TSD := (T3.tSeq (T3.tAsg dueE (gName 11))
  (T3.tIfS (tOr (tB (tOp neR (T3.tLc (iAny (tVar 6)) (g3__law_joined_right C) tYes (e4__law_joined_right C) [13]) (tVar 11))) (tB (tOp neR (tMeth C "takes" (fs_Wish_takes C) (tVar 1) (tCons (tVar 7) tNil)) (tVar 8)))) (T3.tRet (tC (.bl false))) T3.tNext))
theorem b6_eq (C : Addr) : b6__law_joined_right C = (T3.tSeq (T3.tAsg (tTup (tCons (tOp (inR false) (T3.tCall (fs__law_end C) (tCons (tVar 3) (tCons (tVar 7) tNil))) (tOp ixR (tVar 3) (tC (.int 1)))) (tCons (tOp (inR false) (T3.tCall (fs__law_end C) (tCons (tVar 4) (tCons (tVar 7) tNil))) (tOp ixR (tVar 4) (tC (.int 1)))) tNil))) (gTupN 2 [gName 8, gName 9]))
  (T3.tSeq (T3.tAsg (T3.tLc (iRng1 (tCons (tOp addR (T3.tCB lenR (tCons (tVar 7) tNil)) (tC (.int 1))) tNil)) (g0__law_joined_right C) (c1__law_joined_right C) (e2__law_joined_right C) [12]) (gName 10))
  (b6tail C))) := rfl
theorem due_go {a0 a1 a2 a3 a4 a5 a6 a7 a11 a12 a13 : Option D} {a c : Bool} {l : List Int} {h : AH} {Q : QD} (q : Q (.lst [.bl (!a), .bl (a && c), .bl (a || c), .bl (!l.isEmpty)]) h) : dueE [a0, a1, a2, a3, a4, a5, a6, a7, some (.bl a), some (.bl c), some (.lst (l.map .int)), a11, a12, a13] h Q := by
  have em : (l.map D.int).isEmpty = l.isEmpty := by cases l <;> rfl
  simp only [dueE, T3.tRet, T3.tRetN, T3.tSeq, T3.tNext, T3.tAsg, T3.gName, T3.gTupN, T3.gList, T3.tVar, T3.tC, T3.tOp, T3.tNotV, T3.tAndV, T3.tOrV, T3.tB, T3.tAnd, T3.tOr, T3.tNot, T3.tIf, T3.tIfS, T3.tCall, T3.tCB, T3.tCons, T3.tNil, T3.tIsi, T3.ordR, T3.intR, T3.absR, T3.intR1, T3.tChain, T3.tTup, T3.tLst, T3.tLstM, T3.tNever, T3.tDrop, T3.appR, T3.extR, T3.popR, T3.tFld, T3.insOf, T3.tMeth, T3.tMake, T3.sFld, T3.tYes, T3.iAny, T3.tFor, T3.iRng1, T3.iRng2, T3.iEnum, T3.tLc, T3.tLcM, T3.tLc2, T3.wipeD, T3.allR, T3.tSl, T3.tNoPart, T3.tPart, T3.slR, T3.gSub, T3.tRevD, T3.tBreak, T3.tCont, T3.tFrz, T3.startD, T3.fnEnds, T3.tab_ii, T3.tab_ib, T3.tab_ss, T3.tab_ll, T3.tab_lt, T3.tab_tl, T3.tab_tt, Bool.or_true, Bool.true_or, eq_self, List.map_cons, List.map_nil, List.length_cons, List.length_nil, List.cons_append, List.nil_append, List.getElem?_cons_zero, List.getElem?_cons_succ, List.getElem?_nil, List.set_cons_zero, List.set_cons_succ, List.replicate, Nat.sub_self, Nat.reduceAdd, Nat.reduceSub, ite_true, ite_false, if_true, if_false, Bool.not_true, Bool.not_false, reduceCtorEq, Bool.false_eq_true, ↓reduceIte, true_and, and_true, T3.neR, resD, eqD_lst_nil, em]
  cases a with
  | false =>
    simp only [T3.nat_ofNat, decide_true, Bool.not_true, Bool.not_false, Bool.false_eq_true, eq_self, ↓reduceIte, true_and, and_true]
    exact ⟨Nat.zero_le _, ok_intsL _, rfl, sl65' (by decide), q⟩
  | true =>
    simp only [T3.nat_ofNat, decide_true, Bool.not_true, Bool.not_false, Bool.false_eq_true, eq_self, ↓reduceIte, true_and, and_true]
    exact ⟨Nat.zero_le _, ok_intsL _, rfl, sl65' (by decide), q⟩
theorem tail6 {C : Addr} {E : EndsD} {h1 : AH} {a0 a2 a3 a4 a5 a11 : Option D} {n n' : Int} {g g' ga ga' : List Int} {r r' ra ra' : List Rule} {t : List (List Str)} (w : wSm n ga ra) (w' : wSm n' ga' ra') (ht : taleOk t)
    (v1 : ∀ t, decide (run ra 0 t ∈ ga) = decide (run r 0 t ∈ g)) (v2 : ∀ t, decide (run ra' 0 t ∈ ga') = decide (run r' 0 t ∈ g')) (vm : begun ga ra t = begun g r t)
    (q : ∀ d, E.nx [a0, some (wD C n ga ra), a2, a3, a4, a5, some (.lst [mk C n (compl n ga) ra, mk C (n * n') ((bothP ga ga').map fun t => t.1 * n' + t.2) (pairR n n' ra ra'), mk C (n' * n) ((eithP n' n ga' ga).map fun t => t.1 * n + t.2) (pairR n' n ra' ra), mk C n ga (metR ga ra)]), some (taleD t), some (.bl (decide (run r 0 t ∈ g))), some (.bl (decide (run r' 0 t ∈ g'))), some (.lst ((begun g r t).map .int)), d, none, none] h1) :
    b6tail C E [a0, some (wD C n ga ra), a2, a3, a4, a5, some (.lst [mk C n (compl n ga) ra, mk C (n * n') ((bothP ga ga').map fun t => t.1 * n' + t.2) (pairR n n' ra ra'), mk C (n' * n) ((eithP n' n ga' ga).map fun t => t.1 * n + t.2) (pairR n' n ra' ra), mk C n ga (metR ga ra)]), some (taleD t), some (.bl (decide (run r 0 t ∈ g))), some (.bl (decide (run r' 0 t ∈ g'))), some (.lst ((begun g r t).map .int)), a11, none, none] h1 := by
  have sz : ∀ n, n ≤ 10 → n < sizeLine := fun n hn => sl65 (by omega)
  simp only [b6tail, T3.tSeq, T3.tAsg]
  refine due_go ?_
  simp only [T3.tRet, T3.tRetN, T3.tSeq, T3.tNext, T3.tAsg, T3.gName, T3.gTupN, T3.gList, T3.tVar, T3.tC, T3.tOp, T3.tNotV, T3.tAndV, T3.tOrV, T3.tB, T3.tAnd, T3.tOr, T3.tNot, T3.tIf, T3.tIfS, T3.tCall, T3.tCB, T3.tCons, T3.tNil, T3.tIsi, T3.ordR, T3.intR, T3.absR, T3.intR1, T3.tChain, T3.tTup, T3.tLst, T3.tLstM, T3.tNever, T3.tDrop, T3.appR, T3.extR, T3.popR, T3.tFld, T3.insOf, T3.tMeth, T3.tMake, T3.sFld, T3.tYes, T3.iAny, T3.tFor, T3.iRng1, T3.iRng2, T3.iEnum, T3.tLc, T3.tLcM, T3.tLc2, T3.wipeD, T3.allR, T3.tSl, T3.tNoPart, T3.tPart, T3.slR, T3.gSub, T3.tRevD, T3.tBreak, T3.tCont, T3.tFrz, T3.startD, T3.fnEnds, T3.tab_ii, T3.tab_ib, T3.tab_ss, T3.tab_ll, T3.tab_lt, T3.tab_tl, T3.tab_tt, Bool.or_true, Bool.true_or, eq_self, List.map_cons, List.map_nil, List.length_cons, List.length_nil, List.cons_append, List.nil_append, List.getElem?_cons_zero, List.getElem?_cons_succ, List.getElem?_nil, List.set_cons_zero, List.set_cons_succ, List.replicate, Nat.sub_self, Nat.reduceAdd, Nat.reduceSub, ite_true, ite_false, if_true, if_false, Bool.not_true, Bool.not_false, reduceCtorEq, Bool.false_eq_true, ↓reduceIte, true_and, and_true, T3.itOf, T3.seqOf]
  simp only [lcL, g3__law_joined_right, e4__law_joined_right, T3.tYes, T3.tMeth, mk, wD, T3.insOf, w_no (m := "takes") (by decide +kernel) (by decide +kernel) (by decide +kernel), T3.tRet, T3.tRetN, T3.tSeq, T3.tNext, T3.tAsg, T3.gName, T3.gTupN, T3.gList, T3.tVar, T3.tC, T3.tOp, T3.tNotV, T3.tAndV, T3.tOrV, T3.tB, T3.tAnd, T3.tOr, T3.tNot, T3.tIf, T3.tIfS, T3.tCall, T3.tCB, T3.tCons, T3.tNil, T3.tIsi, T3.ordR, T3.intR, T3.absR, T3.intR1, T3.tChain, T3.tTup, T3.tLst, T3.tLstM, T3.tNever, T3.tDrop, T3.appR, T3.extR, T3.popR, T3.tFld, T3.insOf, T3.tMeth, T3.tMake, T3.sFld, T3.tYes, T3.iAny, T3.tFor, T3.iRng1, T3.iRng2, T3.iEnum, T3.tLc, T3.tLcM, T3.tLc2, T3.wipeD, T3.allR, T3.tSl, T3.tNoPart, T3.tPart, T3.slR, T3.gSub, T3.tRevD, T3.tBreak, T3.tCont, T3.tFrz, T3.startD, T3.fnEnds, T3.tab_ii, T3.tab_ib, T3.tab_ss, T3.tab_ll, T3.tab_lt, T3.tab_tl, T3.tab_tt, Bool.or_true, Bool.true_or, eq_self, List.map_cons, List.map_nil, List.length_cons, List.length_nil, List.cons_append, List.nil_append, List.getElem?_cons_zero, List.getElem?_cons_succ, List.getElem?_nil, List.set_cons_zero, List.set_cons_succ, List.replicate, Nat.sub_self, Nat.reduceAdd, Nat.reduceSub, ite_true, ite_false, if_true, if_false, Bool.not_true, Bool.not_false, reduceCtorEq, Bool.false_eq_true, ↓reduceIte, true_and, and_true]
  refine wish_takes (wOk_compl w.1) ht ?_
  refine ⟨sz _ (by decide), ?_⟩
  refine wish_takes (pair_ok w w' (both_ok w.1.2.1 w'.1.2.1) (by rw [both_len]; exact Nat.mul_le_mul w.2.2.1 w'.2.2.1)) ht ?_
  refine ⟨sz _ (by decide), ?_⟩
  refine wish_takes (pair_ok w' w (eith_ok (g1 := ga') (g2 := ga)) (eith_len w'.2.1 w.2.1)) ht ?_
  refine ⟨sz _ (by decide), ?_⟩
  refine wish_takes (wOk_met w.1) ht ?_
  refine ⟨sz _ (by decide), ?_⟩
  rw [p_denied w.1, p_both w.1 w'.1, p_eith w'.1 w.1, p_met, v1, v2, vm]
  simp only [T3.neR, resD]
  refine ⟨rfl, rfl, ?_⟩
  have er := eqD_refl (n := 40) (d := .lst [.bl (!decide (run r 0 t ∈ g)), .bl (decide (run r 0 t ∈ g) && decide (run r' 0 t ∈ g')), .bl (decide (run r 0 t ∈ g) || decide (run r' 0 t ∈ g')), .bl (!(begun g r t).isEmpty)]) rfl
  simp only [er, T3.nat_ofNat, decide_true, Bool.not_true, Bool.not_false, Bool.false_eq_true, eq_self, ↓reduceIte, true_and, and_true]
  refine ⟨n, ga, ra, t, rfl, w.1, ht, ?_⟩
  simp only [v1, T3.neR, resD]
  refine ⟨rfl, rfl, ?_⟩
  rw [eqD_bl, beq_self_eq_true]
  simp only [T3.nat_ofNat, decide_true, Bool.not_true, Bool.not_false, Bool.false_eq_true, eq_self, ↓reduceIte, true_and, and_true]
  exact q _
theorem len__law_joined_right (C : Addr) : ∀ ds h R, fs__law_joined_right C ds h R → ds.length = (["box", "one", "other", "told", "more", "tales"] : List Str).length := by
  rintro ds h R ⟨b, n, g, r, n', g', r', ga, ra, ga', ra', ts, rfl, q⟩
  rfl
theorem rd__law_joined_right (C : Addr) : ∀ ds h R, fs__law_joined_right C ds h R → t__law_joined_right C (fnEnds R) (startD N__law_joined_right ds) h := by
  rintro ds h R ⟨b, n, g, r, n', g', r', ga, ra, ga', ra', ts, rfl, w, w', ⟨_, tw⟩, ⟨_, tw'⟩, eg, eg', er, er', ⟨tok, tl, tne⟩, q⟩
  have v1 : ∀ t, decide (run ra 0 t ∈ ga) = decide (run r 0 t ∈ g) := fun t => dec_congr (by rw [eg, run_congr er])
  have v2 : ∀ t, decide (run ra' 0 t ∈ ga') = decide (run r' 0 t ∈ g') := fun t => dec_congr (by rw [eg', run_congr er'])
  have vm : ∀ t, begun ga ra t = begun g r t := fun t => by
    unfold begun
    apply List.filter_congr
    intro i _
    exact v1 _
  simp only [t__law_joined_right, N__law_joined_right, T3.tRet, T3.tRetN, T3.tSeq, T3.tNext, T3.tAsg, T3.gName, T3.gTupN, T3.gList, T3.tVar, T3.tC, T3.tOp, T3.tNotV, T3.tAndV, T3.tOrV, T3.tB, T3.tAnd, T3.tOr, T3.tNot, T3.tIf, T3.tIfS, T3.tCall, T3.tCB, T3.tCons, T3.tNil, T3.tIsi, T3.ordR, T3.intR, T3.absR, T3.intR1, T3.tChain, T3.tTup, T3.tLst, T3.tLstM, T3.tNever, T3.tDrop, T3.appR, T3.extR, T3.popR, T3.tFld, T3.insOf, T3.tMeth, T3.tMake, T3.sFld, T3.tYes, T3.iAny, T3.tFor, T3.iRng1, T3.iRng2, T3.iEnum, T3.tLc, T3.tLcM, T3.tLc2, T3.wipeD, T3.allR, T3.tSl, T3.tNoPart, T3.tPart, T3.slR, T3.gSub, T3.tRevD, T3.tBreak, T3.tCont, T3.tFrz, T3.startD, T3.fnEnds, T3.tab_ii, T3.tab_ib, T3.tab_ss, T3.tab_ll, T3.tab_lt, T3.tab_tl, T3.tab_tt, Bool.or_true, Bool.true_or, eq_self, List.map_cons, List.map_nil, List.length_cons, List.length_nil, List.cons_append, List.nil_append, List.getElem?_cons_zero, List.getElem?_cons_succ, List.getElem?_nil, List.set_cons_zero, List.set_cons_succ, List.replicate, Nat.sub_self, Nat.reduceAdd, Nat.reduceSub, ite_true, ite_false, if_true, if_false, Bool.not_true, Bool.not_false, reduceCtorEq, Bool.false_eq_true, ↓reduceIte, true_and, and_true]
  refine ⟨n, ga, ra, rfl, w.1, ?_⟩
  refine ⟨n, ga, ra, n', ga', ra', rfl, w, w', ?_⟩
  refine ⟨n', ga', ra', n, ga, ra, rfl, w', w, ?_⟩
  refine ⟨n, ga, ra, rfl, w.1, ?_⟩
  refine ⟨sl65' (by decide), ?_⟩
  simp only [T3.itOf, T3.seqOf]
  refine forL_inv (I := fun l σ h1 => ∃ ts' a7 a8 a9 a10 a11, l = ts'.map taleD ∧ σ = [some b, some (wD C n ga ra), some (wD C n' ga' ra'), some (toldD n g r), some (toldD n' g' r'), some (.lst (ts.map taleD)), some (.lst [mk C n (compl n ga) ra, mk C (n * n') ((bothP ga ga').map fun t => t.1 * n' + t.2) (pairR n n' ra ra'), mk C (n' * n) ((eithP n' n ga' ga).map fun t => t.1 * n + t.2) (pairR n' n ra' ra), mk C n ga (metR ga ra)]), a7, a8, a9, a10, a11, none, none] ∧ h1 = h ∧ ∀ t ∈ ts', taleOk t) (fun _ _ _ _ => trivial) ?_ gName_mono ?_ _ ⟨ts, none, none, none, none, none, rfl, rfl, rfl, tok⟩
  · rintro x xs σ h1 ⟨ts', a7, a8, a9, a10, a11, e0, rfl, rfl, tok'⟩
    match ts', e0 with
    | t :: ts', e0 =>
      cases e0
      have ht := tok' t (List.mem_cons_self ..)
      have htl := ht.2
      simp only [g5__law_joined_right, b6_eq, T3.tRet, T3.tRetN, T3.tSeq, T3.tNext, T3.tAsg, T3.gName, T3.gTupN, T3.gList, T3.tVar, T3.tC, T3.tOp, T3.tNotV, T3.tAndV, T3.tOrV, T3.tB, T3.tAnd, T3.tOr, T3.tNot, T3.tIf, T3.tIfS, T3.tCall, T3.tCB, T3.tCons, T3.tNil, T3.tIsi, T3.ordR, T3.intR, T3.absR, T3.intR1, T3.tChain, T3.tTup, T3.tLst, T3.tLstM, T3.tNever, T3.tDrop, T3.appR, T3.extR, T3.popR, T3.tFld, T3.insOf, T3.tMeth, T3.tMake, T3.sFld, T3.tYes, T3.iAny, T3.tFor, T3.iRng1, T3.iRng2, T3.iEnum, T3.tLc, T3.tLcM, T3.tLc2, T3.wipeD, T3.allR, T3.tSl, T3.tNoPart, T3.tPart, T3.slR, T3.gSub, T3.tRevD, T3.tBreak, T3.tCont, T3.tFrz, T3.startD, T3.fnEnds, T3.tab_ii, T3.tab_ib, T3.tab_ss, T3.tab_ll, T3.tab_lt, T3.tab_tl, T3.tab_tt, Bool.or_true, Bool.true_or, eq_self, List.map_cons, List.map_nil, List.length_cons, List.length_nil, List.cons_append, List.nil_append, List.getElem?_cons_zero, List.getElem?_cons_succ, List.getElem?_nil, List.set_cons_zero, List.set_cons_succ, List.replicate, Nat.sub_self, Nat.reduceAdd, Nat.reduceSub, ite_true, ite_false, if_true, if_false, Bool.not_true, Bool.not_false, reduceCtorEq, Bool.false_eq_true, ↓reduceIte, true_and, and_true]
      intro E' e1 _ e3 _
      refine ⟨n, g, r, t, rfl, tw.1, ht, ?_⟩
      refine ixR_seq (l := [.int n, .lst (g.map .int), .lst (r.map sD)]) rfl (i := 1) rfl ?_
      simp only [T3.inR, T3.seqOf, resD, Bool.false_xor, inL_ints]
      refine ⟨rfl, ints_ok _, ?_⟩
      refine ⟨n', g', r', t, rfl, tw'.1, ht, ?_⟩
      refine ixR_seq (l := [.int n', .lst (g'.map .int), .lst (r'.map sD)]) rfl (i := 1) rfl ?_
      simp only [T3.inR, T3.seqOf, resD, Bool.false_xor, inL_ints]
      refine ⟨rfl, ints_ok _, ?_⟩
      refine ⟨sl65' (by decide), ?_⟩
      refine lenR_seq (l := t.map lotD) rfl ?_
      rw [List.length_map]
      simp only [T3.addR]
      refine ⟨⟨by omega, by omega⟩, ?_⟩
      rw [show rangeD 0 ((t.length : Int) + 1).toNat = (upto (t.length + 1)).map D.int from rangeD_upto]
      refine lcL_pure (acc := []) (fbG g r t) id trivial _ (fun d hd F G hF hG F' G' hF' hG' => ?_) ?_ ?_
      · obtain ⟨i, hi, rfl⟩ := List.mem_map.mp hd
        have hi := up_iff.mp hi
        obtain ⟨j, rfl⟩ := Int.eq_ofNat_of_zero_le hi.1
        simp only [g0__law_joined_right, c1__law_joined_right, e2__law_joined_right, taleD, T3.tRet, T3.tRetN, T3.tSeq, T3.tNext, T3.tAsg, T3.gName, T3.gTupN, T3.gList, T3.tVar, T3.tC, T3.tOp, T3.tNotV, T3.tAndV, T3.tOrV, T3.tB, T3.tAnd, T3.tOr, T3.tNot, T3.tIf, T3.tIfS, T3.tCall, T3.tCB, T3.tCons, T3.tNil, T3.tIsi, T3.ordR, T3.intR, T3.absR, T3.intR1, T3.tChain, T3.tTup, T3.tLst, T3.tLstM, T3.tNever, T3.tDrop, T3.appR, T3.extR, T3.popR, T3.tFld, T3.insOf, T3.tMeth, T3.tMake, T3.sFld, T3.tYes, T3.iAny, T3.tFor, T3.iRng1, T3.iRng2, T3.iEnum, T3.tLc, T3.tLcM, T3.tLc2, T3.wipeD, T3.allR, T3.tSl, T3.tNoPart, T3.tPart, T3.slR, T3.gSub, T3.tRevD, T3.tBreak, T3.tCont, T3.tFrz, T3.startD, T3.fnEnds, T3.tab_ii, T3.tab_ib, T3.tab_ss, T3.tab_ll, T3.tab_lt, T3.tab_tl, T3.tab_tt, Bool.or_true, Bool.true_or, eq_self, List.map_cons, List.map_nil, List.length_cons, List.length_nil, List.cons_append, List.nil_append, List.getElem?_cons_zero, List.getElem?_cons_succ, List.getElem?_nil, List.set_cons_zero, List.set_cons_succ, List.replicate, Nat.sub_self, Nat.reduceAdd, Nat.reduceSub, ite_true, ite_false, if_true, if_false, Bool.not_true, Bool.not_false, reduceCtorEq, Bool.false_eq_true, ↓reduceIte, true_and, and_true]
        rw [cut_take', ← List.map_take]
        refine ⟨n, g, r, t.take j, rfl, tw.1, taleOk_take ht j, ?_⟩
        refine ixR_seq (l := [.int n, .lst (g.map .int), .lst (r.map sD)]) rfl (i := 1) rfl ?_
        simp only [T3.inR, T3.seqOf, resD, Bool.false_xor, inL_ints]
        refine ⟨rfl, ints_ok _, ?_⟩
        have es : fbG g r t (.int (j : Int)) = decide (run r 0 (t.take j) ∈ g) := by
          show decide (run r 0 (t.take ((j : Int)).toNat) ∈ g) = _
          rw [Int.toNat_natCast]
        cases hb : decide (run r 0 (t.take j) ∈ g) with
        | false => simp only [T3.nat_ofNat, decide_true, Bool.not_true, Bool.not_false, Bool.false_eq_true, eq_self, ↓reduceIte, true_and, and_true]; exact hF' (hF (es.trans hb))
        | true => simp only [T3.nat_ofNat, decide_true, Bool.not_true, Bool.not_false, Bool.false_eq_true, eq_self, ↓reduceIte, true_and, and_true]; exact hG' _ (hG (es.trans hb))
      · rw [List.length_map, len_upto, List.length_nil]; exact sl65' (by omega)
      have esp : ((upto (t.length + 1)).map D.int).filter (fbG g r t) = (begun g r t).map D.int := by
        rw [List.filter_map]; rfl
      rw [List.nil_append, List.map_id, esp]
      exact tail6 w w' ht v1 v2 (vm t) fun d => e3 _ _ ⟨ts', _, _, _, _, _, rfl, rfl, rfl, fun t ht => tok' t (List.mem_cons_of_mem _ ht)⟩
    | [], e0 => cases e0
  · rintro σ h1 ⟨ts', a7, a8, a9, a10, a11, e0, rfl, rfl, _⟩
    simp only [T3.tRet, T3.tRetN, T3.tSeq, T3.tNext, T3.tAsg, T3.gName, T3.gTupN, T3.gList, T3.tVar, T3.tC, T3.tOp, T3.tNotV, T3.tAndV, T3.tOrV, T3.tB, T3.tAnd, T3.tOr, T3.tNot, T3.tIf, T3.tIfS, T3.tCall, T3.tCB, T3.tCons, T3.tNil, T3.tIsi, T3.ordR, T3.intR, T3.absR, T3.intR1, T3.tChain, T3.tTup, T3.tLst, T3.tLstM, T3.tNever, T3.tDrop, T3.appR, T3.extR, T3.popR, T3.tFld, T3.insOf, T3.tMeth, T3.tMake, T3.sFld, T3.tYes, T3.iAny, T3.tFor, T3.iRng1, T3.iRng2, T3.iEnum, T3.tLc, T3.tLcM, T3.tLc2, T3.wipeD, T3.allR, T3.tSl, T3.tNoPart, T3.tPart, T3.slR, T3.gSub, T3.tRevD, T3.tBreak, T3.tCont, T3.tFrz, T3.startD, T3.fnEnds, T3.tab_ii, T3.tab_ib, T3.tab_ss, T3.tab_ll, T3.tab_lt, T3.tab_tl, T3.tab_tt, Bool.or_true, Bool.true_or, eq_self, List.map_cons, List.map_nil, List.length_cons, List.length_nil, List.cons_append, List.nil_append, List.getElem?_cons_zero, List.getElem?_cons_succ, List.getElem?_nil, List.set_cons_zero, List.set_cons_succ, List.replicate, Nat.sub_self, Nat.reduceAdd, Nat.reduceSub, ite_true, ite_false, if_true, if_false, Bool.not_true, Bool.not_false, reduceCtorEq, Bool.false_eq_true, ↓reduceIte, true_and, and_true]
    cases ts with
    | nil => exact absurd rfl tne
    | cons t0 ts =>
      have ht := tok t0 (List.mem_cons_self ..)
      have w1 := wOk_compl (wOk_mk (wOk_compl w.1))
      refine ⟨n, ga, ra, rfl, w.1, ?_⟩
      refine ⟨n, ascI (compl n ga), ra.map nr, rfl, wOk_mk (wOk_compl w.1), ?_⟩
      simp only [mk, wD, T3.insOf, w_no (m := "takes") (by decide +kernel) (by decide +kernel) (by decide +kernel), T3.tRet, T3.tRetN, T3.tSeq, T3.tNext, T3.tAsg, T3.gName, T3.gTupN, T3.gList, T3.tVar, T3.tC, T3.tOp, T3.tNotV, T3.tAndV, T3.tOrV, T3.tB, T3.tAnd, T3.tOr, T3.tNot, T3.tIf, T3.tIfS, T3.tCall, T3.tCB, T3.tCons, T3.tNil, T3.tIsi, T3.ordR, T3.intR, T3.absR, T3.intR1, T3.tChain, T3.tTup, T3.tLst, T3.tLstM, T3.tNever, T3.tDrop, T3.appR, T3.extR, T3.popR, T3.tFld, T3.insOf, T3.tMeth, T3.tMake, T3.sFld, T3.tYes, T3.iAny, T3.tFor, T3.iRng1, T3.iRng2, T3.iEnum, T3.tLc, T3.tLcM, T3.tLc2, T3.wipeD, T3.allR, T3.tSl, T3.tNoPart, T3.tPart, T3.slR, T3.gSub, T3.tRevD, T3.tBreak, T3.tCont, T3.tFrz, T3.startD, T3.fnEnds, T3.tab_ii, T3.tab_ib, T3.tab_ss, T3.tab_ll, T3.tab_lt, T3.tab_tl, T3.tab_tt, Bool.or_true, Bool.true_or, eq_self, List.map_cons, List.map_nil, List.length_cons, List.length_nil, List.cons_append, List.nil_append, List.getElem?_cons_zero, List.getElem?_cons_succ, List.getElem?_nil, List.set_cons_zero, List.set_cons_succ, List.replicate, Nat.sub_self, Nat.reduceAdd, Nat.reduceSub, ite_true, ite_false, if_true, if_false, Bool.not_true, Bool.not_false, reduceCtorEq, Bool.false_eq_true, ↓reduceIte, true_and, and_true]
      refine ixR_seq (l := taleD t0 :: ts.map taleD) rfl atI_zero ?_
      refine wish_takes w1 ht ?_
      refine ixR_seq (l := taleD t0 :: ts.map taleD) rfl atI_zero ?_
      refine ⟨n, ga, ra, t0, rfl, w.1, ht, ?_⟩
      rw [p_denied (wOk_mk (wOk_compl w.1)), p_denied w.1, Bool.not_not]
      simp only [T3.eqR, resD]
      refine ⟨rfl, rfl, ?_⟩
      rw [eqD_bl, beq_self_eq_true]
      exact out_as q
end K50

/-! k50: the reading of law. -/
namespace K50
open PySem PySem.Spec L2 T3
open PyProof.Rows hiding St

def law18 (C : Addr) : TSD := (T3.tRet (tAndV (T3.tCall (fs__law_made_right C) (tCons (tVar 1) (tCons (tVar 2) (tCons (tVar 14) tNil)))) (T3.tCall (fs__law_joined_right C) (tCons (tVar 1) (tCons (tVar 7) (tCons (tVar 8) (tCons (tVar 3) (tCons (tVar 4) (tCons (tVar 14) tNil)))))))))
def law17 (C : Addr) : TSD := T3.tSeq (T3.tIfS (tOr (tB (tOp (eqOwn C (fs_Wish_eq C)) (tVar 7) (tMake C (fs_Wish_init C) (tCons (tOp addR (tOp ixR (tVar 3) (tC (.int 0))) (tC (.int 1))) (tCons (tOp ixR (tVar 3) (tC (.int 1))) (tCons (tOp ixR (tVar 3) (tC (.int 2))) tNil)))))) (tB (tOp (eqOwn C (fs_Wish_eq C)) (tVar 7) (tMake C (fs_Wish_init C) (tCons (tOp ixR (tVar 3) (tC (.int 0))) (tCons (T3.tLc (iRng1 (tCons (tOp ixR (tVar 3) (tC (.int 0))) tNil)) (g12_law C) (c13_law C) (e14_law C) [21]) (tCons (tVar 5) tNil))))))) (T3.tRet (tC (.bl false))) T3.tNext) (law18 C)
def law16 (C : Addr) : TSD := T3.tSeq (T3.tIfS (tOr (tB (tOp neR (tOp (eqOwn C (fs_Wish_eq C)) (tVar 7) (tVar 8)) (tVar 19))) (tOr (tB (tOp (eqOwn C (fs_Wish_eq C)) (tVar 7) (tVar 5))) (tNot (tB (tOp (eqOwn C (fs_Wish_eq C)) (tVar 7) (tMake C (fs_Wish_init C) (tCons (tOp ixR (tVar 3) (tC (.int 0))) (tCons (tOp ixR (tVar 3) (tC (.int 1))) (tCons (tOp ixR (tVar 3) (tC (.int 2))) tNil))))))))) (T3.tRet (tC (.bl false))) T3.tNext) (law17 C)
def law15 (C : Addr) : TSD := T3.tSeq (T3.tAsg (tAndV (tOp eqR (tOp ixR (tVar 3) (tC (.int 0))) (tOp ixR (tVar 4) (tC (.int 0)))) (tAndV (tOp eqR (T3.tCB sortR (tCons (tOp ixR (tVar 3) (tC (.int 1))) tNil)) (T3.tCB sortR (tCons (tOp ixR (tVar 4) (tC (.int 1))) tNil))) (tOp eqR (T3.tCall (fs__law_sorted_steps C) (tCons (tVar 3) tNil)) (T3.tCall (fs__law_sorted_steps C) (tCons (tVar 4) tNil))))) (gName 19)) (law16 C)
def law14 (C : Addr) : TSD := T3.tSeq (T3.tFor (iAny (tVar 14)) (g10_law C) (b11_law C)) (law15 C)
def law13 (C : Addr) : TSD := T3.tSeq (T3.tAsg (tOp addR (T3.tLc (iRng1 (tCons (tC (.int 4)) tNil)) (g6_law C) tYes (e7_law C) [20]) (tLst (tCons (tTup tNil) tNil))) (gName 14)) (law14 C)
def law12 (C : Addr) : TSD := T3.tSeq (T3.tIfS (tOr (tB (tOp neR (tMeth C "rung_bells" (fs_Wish_rung_bells C) (tVar 7) T3.tNil) (T3.tCB tupR (tCons (tAsc (tVar 13)) tNil)))) (tB (tIsi (isR (fun _ => False) "bool") (tFld C "states" (tVar 7))))) (T3.tRet (tC (.bl false))) T3.tNext) (law13 C)
def law11 (C : Addr) : TSD := T3.tSeq (T3.tFor (iAny (tOp ixR (tVar 3) (tC (.int 2)))) (g4_law C) (b5_law C)) (law12 C)
def law10 (C : Addr) : TSD := T3.tSeq (T3.tAsg (tLst tNil) (gName 13)) (law11 C)
def law9 (C : Addr) : TSD := T3.tSeq (T3.tIfS (tOr (tB (tOp neR (tFld C "states" (tVar 7)) (tOp ixR (tVar 3) (tC (.int 0))))) (tOr (tB (tOp neR (tFld C "good" (tVar 7)) (T3.tCB tupR (tCons (T3.tCB sortR (tCons (tOp ixR (tVar 3) (tC (.int 1))) tNil)) tNil)))) (tB (tOp neR (tFld C "steps" (tVar 7)) (T3.tCall (fs__law_sorted_steps C) (tCons (tVar 3) tNil)))))) (T3.tRet (tC (.bl false))) T3.tNext) (law10 C)
def law8 (C : Addr) : TSD := T3.tSeq (T3.tDrop (T3.tBM "list" appR (tVar 5) (tCons (tTup (tCons (tC (.int 0)) (tCons (tLst (tCons (tC (.str "odd")) tNil)) (tCons (tLst tNil) (tCons (tC (.int 0)) tNil))))) tNil))) (law9 C)
def law7 (C : Addr) : TSD := T3.tSeq (T3.tDrop (T3.tBM "list" appR (tVar 6) (tCons (tC (.int 0)) tNil))) (law8 C)
def law6 (C : Addr) : TSD := T3.tSeq (T3.tFor (iAny (tVar 5)) (g2_law C) (b3_law C)) (law7 C)
def law5 (C : Addr) : TSD := T3.tSeq (T3.tAsg (tTup (tCons (tMake C (fs_Wish_init_k C) (tCons (tVar 5) (tCons (tVar 6) (tCons (tOp ixR (tVar 3) (tC (.int 0))) tNil)))) (tCons (tMake C (fs_Wish_init C) (tCons (tOp ixR (tVar 4) (tC (.int 0))) (tCons (T3.tCB tupR (tCons (tOp ixR (tVar 4) (tC (.int 1))) tNil)) (tCons (T3.tCB tupR (tCons (tOp ixR (tVar 4) (tC (.int 2))) tNil)) tNil)))) tNil))) (gTupN 2 [gName 7, gName 8])) (law6 C)
def law4 (C : Addr) : TSD := T3.tSeq (T3.tAsg (tOp addM (tOp ixR (tVar 3) (tC (.int 1))) (tSl slR (tOp ixR (tVar 3) (tC (.int 1))) tNoPart (tPart (tC (.int 1))))) (gName 6)) (law5 C)
def law3 (C : Addr) : TSD := T3.tSeq (T3.tAsg (tLcM (iAny (tOp ixR (tVar 3) (tC (.int 2)))) (g0_law C) tYes (e1_law C) [9, 10, 11, 12]) (gName 5)) (law4 C)
def law2 (C : Addr) : TSD := T3.tSeq (T3.tAsg (tTup (tCons (T3.tCall (fs__law_wish C) (tCons (tVar 1) (tCons (tVar 2) tNil))) (tCons (T3.tCall (fs__law_wish C) (tCons (tVar 1) (tCons (tVar 2) tNil))) tNil))) (gTupN 2 [(gName 3), (gName 4)])) (law3 C)
def law1 (C : Addr) : TSD := T3.tSeq (T3.tAsg (T3.tCall (fs__law_names C) (tCons (tVar 1) (tCons (tOp addR (tC (.int 2)) (T3.tCall (fs__law_take C) (tCons (tVar 1) (tCons (tC (.int 3)) tNil)))) tNil))) (gName 2)) (law2 C)
def law0 (C : Addr) : TSD := T3.tSeq (T3.tAsg (T3.tCall (fs__law_box C) (tCons (tVar 0) (tCons (tC (.int 0)) tNil))) (gName 1)) (law1 C)
theorem law_eq (C : Addr) : t_law C = law0 C := rfl
/-! ### asc -/
theorem ascK_pw (ks : List Key) : (ascK ks).Pairwise (fun a b => kLe a b = true) := PySem.W.sort_pairwise (PySem.W.sortLe_total _ false _) _
theorem ascK_nd (ks : List Key) : (ascK ks).Nodup := (List.mergeSort_perm (onceK ks) kLe).nodup_iff.mpr (nodup_onceK ks)
theorem ascK_congr {ks ks' : List Key} (h : oneKind ks' = true) (me : ∀ k, k ∈ ks ↔ k ∈ ks') : ascK ks = ascK ks' := asc_unique h (ascK_nd ks) (fun k => mem_ascK.trans (me k)) (ascK_pw ks)
theorem ascS_congr {l m : List Str} (h : ∀ x, x ∈ l ↔ x ∈ m) : ascS l = ascS m := by
  unfold ascS
  rw [ascK_congr (oneKind_S m) (ks := l.map Sum.inr) fun k => ?_]
  rw [List.mem_map, List.mem_map]
  exact ⟨fun ⟨x, hx, e⟩ => ⟨x, (h x).mp hx, e⟩, fun ⟨x, hx, e⟩ => ⟨x, (h x).mpr hx, e⟩⟩
theorem ascI_congr {l m : List Int} (h : ∀ x, x ∈ l ↔ x ∈ m) : ascI l = ascI m := by
  unfold ascI
  rw [ascK_congr (oneKind_I m) (ks := l.map Sum.inl) fun k => ?_]
  rw [List.mem_map, List.mem_map]
  exact ⟨fun ⟨x, hx, e⟩ => ⟨x, (h x).mp hx, e⟩, fun ⟨x, hx, e⟩ => ⟨x, (h x).mpr hx, e⟩⟩
def needL (r : Rule) : List Str := r.need ++ r.need.reverse
def rule1 (r : Rule) : Rule := ⟨r.one, needL r, r.bar, r.two⟩
theorem nr_rule1 (r : Rule) : nr (rule1 r) = nr r := by
  unfold nr rule1 needL
  rw [ascS_congr (m := r.need) fun x => ?_]
  simp
theorem nr_rules1 (rs : List Rule) : (rs.map rule1).map nr = rs.map nr := by
  rw [List.map_map]
  exact List.map_congr_left fun r _ => nr_rule1 r
/-- small ascending ints -/
def upOk (a b : Int) : Prop := a < b ∧ leD (.int a) (.int b) = true ∧ kLe (.inl a) (.inl b) = true
theorem pw012 : ([0, 1, 2] : List Int).Pairwise upOk := by
  refine .cons ?_ (.cons ?_ (.cons ?_ .nil))
  · intro b hb
    have : b = 1 ∨ b = 2 := by simpa using hb
    rcases this with rfl | rfl <;> exact ⟨by decide, by decide +kernel, by decide +kernel⟩
  · intro b hb
    have : b = 2 := by simpa using hb
    rw [this]; exact ⟨by decide, by decide +kernel, by decide +kernel⟩
  · intro b hb; cases hb
theorem good_sub {rings : List Str} {n : Int} {g : List Int} {r : List Rule} (h : toldOk rings n g r) : g.Sublist [0, 1, 2] := by
  rcases h.1 with ⟨_, rfl | rfl⟩ | ⟨_, h⟩
  · decide
  · decide
  · exact h
theorem asc_good {g : List Int} (h : g.Sublist [0, 1, 2]) : ascI g = g := by
  have pw := pw012.sublist h
  have e : g.map Sum.inl = ascK (g.map Sum.inl) := by
    refine asc_unique (oneKind_I g) ?_ (fun _ => Iff.rfl) ?_
    · rw [List.nodup_iff_pairwise_ne, List.pairwise_map]
      exact pw.imp fun hh z => by cases z; have := hh.1; omega
    · rw [List.pairwise_map]
      exact pw.imp fun hh => hh.2.2
  unfold ascI
  rw [← e]
  rw [List.filterMap_map]
  exact List.filterMap_some
theorem sort_good {g : List Int} (h : g.Sublist [0, 1, 2]) : (g.map D.int).mergeSort leD = g.map D.int := by
  refine List.mergeSort_of_pairwise ?_
  rw [List.pairwise_map]
  exact (pw012.sublist h).imp fun hh => hh.2.1
theorem asc_good1 {g : List Int} (h : g.Sublist [0, 1, 2]) : ascI (g ++ g.take 1) = g := by
  rw [ascI_congr (m := g) fun x => ?_, asc_good h]
  rw [List.mem_append]
  exact ⟨fun z => z.elim id List.mem_of_mem_take, .inl⟩
theorem sortOk_ints (g : List Int) : sortOk (g.map .int) = true := by
  unfold sortOk
  have e1 : (g.map D.int).all isAtom = true := by rw [List.all_map]; exact List.all_eq_true.mpr fun _ _ => rfl
  have e2 : alikeL (g.map D.int) = true := by
    unfold alikeL
    rw [List.all_map]
    refine List.all_eq_true.mpr fun x _ => ?_
    show ((g.map D.int).all fun b => PySem.W.alike (toP (.int x)) (toP b)) = true
    rw [List.all_map]
    exact List.all_eq_true.mpr fun _ _ => rfl
  rw [e1, e2, ints_ok, Bool.or_true]; rfl
end K50

/-! k50: the reading of law, from its end. -/
namespace K50
open PySem PySem.Spec L2 T3
open PyProof.Rows hiding St

theorem sub_len {g : List Int} (h : g.Sublist [0, 1, 2]) : g.length ≤ 3 := h.length_le
theorem told_n {rings : List Str} {n : Int} {g : List Int} {r : List Rule} (h : toldOk rings n g r) : n = 2 ∨ n = 3 := by
  rcases h.1 with ⟨e, _⟩ | ⟨e, _⟩
  · exact .inl e
  · exact .inr e
theorem told_sm {rings : List Str} {n : Int} {g : List Int} {r : List Rule} (hR : ringsOk rings) (h : toldOk rings n g r) : toldSm n g r := by
  have hn := told_n h
  have hg := good_sub h
  refine ⟨hn, ⟨⟨by omega, by omega⟩, fun i hi => ?_, Nat.le_trans (sub_len hg) (by decide), fun x hx => ?_, Nat.le_trans h.2.1 (by decide)⟩, by omega, sub_len hg, Nat.le_trans h.2.1 (by decide), fun x hx => ?_⟩
  · have h3 : i = 0 ∨ i = 1 ∨ i = 2 := by simpa using hg.subset hi
    rcases h.1 with ⟨e, e2⟩ | ⟨e, _⟩
    · have : i = 1 ∨ i = 0 := by
        rcases e2 with rfl | rfl
        · exact .inl (one_int hi)
        · exact .inr (one_int hi)
      omega
    · omega
  · obtain ⟨a1, a2, a3, a4, a5, a6⟩ := h.2.2 x hx
    exact ⟨a1, a2, fun y hy => hR.2.2 y (a3 y hy), fun y hy => hR.2.2 y (a4 y hy), by omega, by omega⟩
  · obtain ⟨a1, a2, a3, a4, a5, a6⟩ := h.2.2 x hx
    exact ⟨by omega, by omega⟩
theorem told_w {rings : List Str} {n : Int} {g : List Int} {r : List Rule} (hR : ringsOk rings) (h : toldOk rings n g r) : wSm n g (r.map nr) := by
  have := wSm_mk (told_sm hR h).2
  rw [asc_good (good_sub h)] at this
  exact this
theorem mk_told {C : Addr} {rings : List Str} {n : Int} {g : List Int} {r : List Rule} (h : toldOk rings n g r) : mk C n g r = wD C n g (r.map nr) := by
  unfold mk
  rw [asc_good (good_sub h)]
theorem mk_told1 {C : Addr} {rings : List Str} {n : Int} {g : List Int} {r : List Rule} (h : toldOk rings n g r) : mk C n (g ++ g.take 1) (r.map rule1) = wD C n g (r.map nr) := by
  unfold mk
  rw [asc_good1 (good_sub h), nr_rules1]
/-- 18: the last statement -/
theorem st18 {C b : Addr} {E : EndsD} {hX : AH} {gb sb : Int} {rings : List Str} {n n' : Int} {g g' : List Int} {r r' : List Rule} {ts : List (List (List Str))} {a0 a5 a6 a9 a10 a11 a12 a13 a15 a16 a17 a18 a19 a20 a21 : Option D}
    (hE : ∀ h', E.rt (.bl true) h') (ok : BoxOk gb sb) (hR : ringsOk rings) (hT : toldOk rings n g r) (hT' : toldOk rings n' g' r') (hts : talesOk ts) :
    law18 C E [a0, some (.ref b), some (.lst (namesD rings)), some (toldD n g r), some (toldD n' g' r'), a5, a6, some (wD C n g (r.map nr)), some (wD C n' g' (r'.map nr)), a9, a10, a11, a12, a13, some (.lst (ts.map taleD)), a15, a16, a17, a18, a19, a20, a21] (ud hX b (bx gb sb)) := by
  simp only [law18, T3.tRet, T3.tRetN, T3.tSeq, T3.tNext, T3.tAsg, T3.gName, T3.gTupN, T3.gList, T3.tVar, T3.tC, T3.tOp, T3.tNotV, T3.tAndV, T3.tOrV, T3.tB, T3.tAnd, T3.tOr, T3.tNot, T3.tIf, T3.tIfS, T3.tCall, T3.tCB, T3.tCons, T3.tNil, T3.tIsi, T3.ordR, T3.intR, T3.absR, T3.intR1, T3.tChain, T3.tTup, T3.tLst, T3.tLstM, T3.tNever, T3.tDrop, T3.appR, T3.extR, T3.popR, T3.tFld, T3.insOf, T3.tMeth, T3.tMake, T3.sFld, T3.tYes, T3.iAny, T3.tFor, T3.iRng1, T3.iRng2, T3.iEnum, T3.tLc, T3.tLcM, T3.tLc2, T3.wipeD, T3.allR, T3.tSl, T3.tNoPart, T3.tPart, T3.slR, T3.gSub, T3.tRevD, T3.tBreak, T3.tCont, T3.tFrz, T3.startD, T3.fnEnds, T3.tab_ii, T3.tab_ib, T3.tab_ss, T3.tab_ll, T3.tab_lt, T3.tab_tl, T3.tab_tt, Bool.or_true, Bool.true_or, eq_self, List.map_cons, List.map_nil, List.length_cons, List.length_nil, List.cons_append, List.nil_append, List.getElem?_cons_zero, List.getElem?_cons_succ, List.getElem?_nil, List.set_cons_zero, List.set_cons_succ, List.replicate, Nat.sub_self, Nat.reduceAdd, Nat.reduceSub, ite_true, ite_false, if_true, if_false, Bool.not_true, Bool.not_false, reduceCtorEq, Bool.false_eq_true, ↓reduceIte, true_and, and_true]
  refine ⟨b, rings, ts, rfl, atBox_ud ok, hR, hts, fun g2 s2 ok2 => ?_⟩
  simp only [T3.nat_ofNat, decide_true, Bool.not_true, Bool.not_false, Bool.false_eq_true, eq_self, ↓reduceIte, true_and, and_true]
  exact ⟨.ref b, n, g, r, n', g', r', g, r.map nr, g', r'.map nr, ts, rfl, told_w hR hT, told_w hR hT', told_sm hR hT, told_sm hR hT', fun _ => Iff.rfl, fun _ => Iff.rfl, aft_nr r, aft_nr r', hts, hE _⟩
/-- the steps that changed behind the first Wish -/
def HS (hX : AH) (b p5 : Addr) (n : Int) : Prop := ∀ g s, ∃ sl rs2, seqOf (ud hX b (bx g s)) (.ref p5) = some sl ∧ stepsAre (ud hX b (bx g s)) sl rs2 ∧ (∀ x ∈ rs2, ruleOk n x) ∧ rs2.length ≤ 100
/-- == of a Wish and a Wish -/
theorem own_ww {C : Addr} {n n' : Int} {g g' : List Int} {r r' : List Rule} {h : AH} {Q : QD} (w : wOk n g r) (w' : wOk n' g' r') (q : Q (.bl (eqW n g r n' g' r')) h) : eqOwn C (fs_Wish_eq C) (wD C n g r) (wD C n' g' r') h Q :=
  ⟨rfl, .inl (by show (C == C) = true; simp), n, g, r, _, rfl, w, .inl ⟨n', g', r', rfl, w', q⟩⟩
theorem own_wl {C p : Addr} {n : Int} {g : List Int} {r : List Rule} {h : AH} {Q : QD} {l : List D} (w : wOk n g r) (e : seqOf h (.ref p) = some l) (q : Q (.bl false) h) : eqOwn C (fs_Wish_eq C) (wD C n g r) (.ref p) h Q := by
  have es : (slOf h (.ref p)).isSome = true := by
    have : slOf h (.ref p) = some l := e
    rw [this]; rfl
  exact ⟨rfl, .inr es, n, g, r, _, rfl, w, .inr ⟨es, q⟩⟩
theorem eqW_refl {n : Int} {g : List Int} {r : List Rule} (w : wOk n g r) : eqW n g r n g r = true := by
  unfold eqW
  rw [eqD_refl (n := 40) (d := .int n) rfl, eqD_refl (n := 40) (ok_ints g), eqD_refl (n := 40) (ok_rs w.2.2.2.1)]; rfl
theorem eqR_int {i j : Int} {h : AH} {Q : QD} (q : Q (.bl (eqD (.int i) (.int j))) h) : eqR (.int i) (.int j) h Q := ⟨rfl, rfl, q⟩
theorem eqR_lst {l m : List D} {h : AH} {Q : QD} (a : okD 40 (.lst l) = true) (b : okD 40 (.lst m) = true) (q : Q (.bl (eqD (.lst l) (.lst m))) h) : eqR (.lst l) (.lst m) h Q := ⟨a, b, q⟩
theorem eqR_tup {l m : List D} {h : AH} {Q : QD} (a : okD 40 (.tup l) = true) (b : okD 40 (.tup m) = true) (q : Q (.bl (eqD (.tup l) (.tup m))) h) : eqR (.tup l) (.tup m) h Q := ⟨a, b, q⟩
theorem neR_int {i j : Int} {h : AH} {Q : QD} (q : Q (.bl (!eqD (.int i) (.int j))) h) : neR (.int i) (.int j) h Q := ⟨rfl, rfl, q⟩
theorem neR_bl {i j : Bool} {h : AH} {Q : QD} (q : Q (.bl (!eqD (.bl i) (.bl j))) h) : neR (.bl i) (.bl j) h Q := ⟨rfl, rfl, q⟩
theorem neR_tup {l m : List D} {h : AH} {Q : QD} (a : okD 40 (.tup l) = true) (b : okD 40 (.tup m) = true) (q : Q (.bl (!eqD (.tup l) (.tup m))) h) : neR (.tup l) (.tup m) h Q := ⟨a, b, q⟩
theorem bool2 (b : Bool) : b = false ∨ b = true := by cases b <;> simp
theorem mk_at {C x : Addr} {h : AH} {n : Int} {g st : D} {good : List Int} {rs : List Rule} {sl : List D} {R : QD} (hx : h x = none) (eg : seqOf h g = some (good.map .int)) (es : seqOf h st = some sl) (st' : stepsAre h sl rs) (ok : wOk n good rs) (q : R .non (ud h x (.ins C (wF n (ascI good) (rs.map nr))))) :
    fs_Wish_init C [.ref x, .int n, g, st] (ud h x (.ins C [])) R :=
  ⟨x, n, g, st, good, rs, sl, rfl, ud_same, seqOf_ud (no_lst hx) eg, seqOf_ud (no_lst hx) es, stepsAre_ud (no_lst hx) st', ok, by rw [ud_ud]; exact q⟩
theorem ix0 (n : Int) (g : List Int) (r : List Rule) {h : AH} {Q : QD} (q : Q (.int n) h) : ixR (toldD n g r) (.int 0) h Q := ixR_seq (l := [.int n, .lst (g.map .int), .lst (r.map sD)]) rfl (i := 0) rfl q
theorem ix1 (n : Int) (g : List Int) (r : List Rule) {h : AH} {Q : QD} (q : Q (.lst (g.map .int)) h) : ixR (toldD n g r) (.int 1) h Q := ixR_seq (l := [.int n, .lst (g.map .int), .lst (r.map sD)]) rfl (i := 1) rfl q
theorem ix2 (n : Int) (g : List Int) (r : List Rule) {h : AH} {Q : QD} (q : Q (.lst (r.map sD)) h) : ixR (toldD n g r) (.int 2) h Q := ixR_seq (l := [.int n, .lst (g.map .int), .lst (r.map sD)]) rfl (i := 2) rfl q
theorem st17 {C b p5 : Addr} {E : EndsD} {hX : AH} {gb sb : Int} {rings : List Str} {n n' : Int} {g g' : List Int} {r r' : List Rule} {ts : List (List (List Str))} {a0 a6 a9 a10 a11 a12 a13 a15 a16 a17 a18 a19 a20 a21 : Option D}
    (hE : ∀ h', E.rt (.bl true) h') (ok : BoxOk gb sb) (hR : ringsOk rings) (hT : toldOk rings n g r) (hT' : toldOk rings n' g' r') (hts : talesOk ts) (hS : HS hX b p5 n) :
    law17 C E [a0, some (.ref b), some (.lst (namesD rings)), some (toldD n g r), some (toldD n' g' r'), some (.ref p5), a6, some (wD C n g (r.map nr)), some (wD C n' g' (r'.map nr)), a9, a10, a11, a12, a13, some (.lst (ts.map taleD)), a15, a16, a17, a18, a19, a20, a21] (ud hX b (bx gb sb)) := by
  have w := (told_w hR hT).1
  have wt := (told_sm hR hT).2.1
  have hn := told_n hT
  have w1 : wOk (n + 1) g r := ⟨⟨by omega, by omega⟩, fun i hi => by have := wt.2.1 i hi; omega, wt.2.2.1, fun x hx => by
    have := wt.2.2.2.1 x hx
    exact ⟨by have := this.1; omega, by have := this.2.1; omega, this.2.2⟩, wt.2.2.2.2⟩
  simp only [law17, T3.tRet, T3.tRetN, T3.tSeq, T3.tNext, T3.tAsg, T3.gName, T3.gTupN, T3.gList, T3.tVar, T3.tC, T3.tOp, T3.tNotV, T3.tAndV, T3.tOrV, T3.tB, T3.tAnd, T3.tOr, T3.tNot, T3.tIf, T3.tIfS, T3.tCall, T3.tCB, T3.tCons, T3.tNil, T3.tIsi, T3.ordR, T3.intR, T3.absR, T3.intR1, T3.tChain, T3.tTup, T3.tLst, T3.tLstM, T3.tNever, T3.tDrop, T3.appR, T3.extR, T3.popR, T3.tFld, T3.insOf, T3.tMeth, T3.tMake, T3.sFld, T3.tYes, T3.iAny, T3.tFor, T3.iRng1, T3.iRng2, T3.iEnum, T3.tLc, T3.tLcM, T3.tLc2, T3.wipeD, T3.allR, T3.tSl, T3.tNoPart, T3.tPart, T3.slR, T3.gSub, T3.tRevD, T3.tBreak, T3.tCont, T3.tFrz, T3.startD, T3.fnEnds, T3.tab_ii, T3.tab_ib, T3.tab_ss, T3.tab_ll, T3.tab_lt, T3.tab_tl, T3.tab_tt, Bool.or_true, Bool.true_or, eq_self, List.map_cons, List.map_nil, List.length_cons, List.length_nil, List.cons_append, List.nil_append, List.getElem?_cons_zero, List.getElem?_cons_succ, List.getElem?_nil, List.set_cons_zero, List.set_cons_succ, List.replicate, Nat.sub_self, Nat.reduceAdd, Nat.reduceSub, ite_true, ite_false, if_true, if_false, Bool.not_true, Bool.not_false, reduceCtorEq, Bool.false_eq_true, ↓reduceIte, true_and, and_true]
  refine ix0 _ _ _ ?_
  simp only [T3.addR]
  refine ix1 _ _ _ ?_
  refine ix2 _ _ _ ?_
  intro x hx
  refine mk_at (good := g) (rs := r) hx rfl rfl (stepsAre_sD r) w1 ?_
  simp only [ud_same, er_ud hx, T3.nat_ofNat, decide_true, Bool.not_true, Bool.not_false, Bool.false_eq_true, eq_self, ↓reduceIte, true_and, and_true]
  refine own_ww w (wOk_mk w1) ?_
  have f1 : eqW n g (r.map nr) (n + 1) (ascI g) (r.map nr) = false := by
    unfold eqW
    rw [eqD_int, decide_eq_false (by omega)]; rfl
  simp only [f1, T3.nat_ofNat, decide_true, Bool.not_true, Bool.not_false, Bool.false_eq_true, eq_self, ↓reduceIte, true_and, and_true]
  refine ix0 _ _ _ ?_
  refine ix0 _ _ _ ?_
  refine ⟨⟨by omega, by omega⟩, ?_⟩
  rw [rangeD_upto]
  refine lcL_pure (acc := []) (fun d => !(inL d (g.map .int))) id trivial ((upto n).map D.int) (fun d hd F G hF hG F' G' hF' hG' => ?_) ?_ ?_
  · obtain ⟨i, hi, rfl⟩ := List.mem_map.mp hd
    simp only [g12_law, c13_law, e14_law, T3.tRet, T3.tRetN, T3.tSeq, T3.tNext, T3.tAsg, T3.gName, T3.gTupN, T3.gList, T3.tVar, T3.tC, T3.tOp, T3.tNotV, T3.tAndV, T3.tOrV, T3.tB, T3.tAnd, T3.tOr, T3.tNot, T3.tIf, T3.tIfS, T3.tCall, T3.tCB, T3.tCons, T3.tNil, T3.tIsi, T3.ordR, T3.intR, T3.absR, T3.intR1, T3.tChain, T3.tTup, T3.tLst, T3.tLstM, T3.tNever, T3.tDrop, T3.appR, T3.extR, T3.popR, T3.tFld, T3.insOf, T3.tMeth, T3.tMake, T3.sFld, T3.tYes, T3.iAny, T3.tFor, T3.iRng1, T3.iRng2, T3.iEnum, T3.tLc, T3.tLcM, T3.tLc2, T3.wipeD, T3.allR, T3.tSl, T3.tNoPart, T3.tPart, T3.slR, T3.gSub, T3.tRevD, T3.tBreak, T3.tCont, T3.tFrz, T3.startD, T3.fnEnds, T3.tab_ii, T3.tab_ib, T3.tab_ss, T3.tab_ll, T3.tab_lt, T3.tab_tl, T3.tab_tt, Bool.or_true, Bool.true_or, eq_self, List.map_cons, List.map_nil, List.length_cons, List.length_nil, List.cons_append, List.nil_append, List.getElem?_cons_zero, List.getElem?_cons_succ, List.getElem?_nil, List.set_cons_zero, List.set_cons_succ, List.replicate, Nat.sub_self, Nat.reduceAdd, Nat.reduceSub, ite_true, ite_false, if_true, if_false, Bool.not_true, Bool.not_false, reduceCtorEq, Bool.false_eq_true, ↓reduceIte, true_and, and_true]
    refine ix1 _ _ _ ?_
    simp only [T3.inR, T3.seqOf, resD, Bool.true_xor]
    refine ⟨rfl, ints_ok _, ?_⟩
    cases e : inL (.int i) (g.map .int) with
    | true => simp only [T3.nat_ofNat, decide_true, Bool.not_true, Bool.not_false, Bool.false_eq_true, eq_self, ↓reduceIte, true_and, and_true]; exact hF' (hF (by simp only [e, Bool.not_true]))
    | false => simp only [T3.nat_ofNat, decide_true, Bool.not_true, Bool.not_false, Bool.false_eq_true, eq_self, ↓reduceIte, true_and, and_true]; exact hG' _ (hG (by simp only [e, Bool.not_false]))
  · rw [List.length_map, len_upto, List.length_nil]; exact sl65' (by omega)
  have es : (((upto n).map D.int).filter fun d => !(inL d (g.map .int))).map id = (compl n g).map D.int := by
    rw [List.map_id, List.filter_map]
    unfold compl
    congr 1
    apply List.filter_congr
    intro i _
    show (!(inL (.int i) (g.map .int))) = !(decide (i ∈ g))
    rw [inL_ints]
  rw [List.nil_append, es]
  obtain ⟨sl, rs2, s1, s2, s3, s4⟩ := hS gb sb
  have wc := wOk_compl wt
  have w2 : wOk n (compl n g) rs2 := ⟨wt.1, wc.2.1, wc.2.2.1, s3, by omega⟩
  intro x hx
  refine mk_at (good := compl n g) (rs := rs2) hx rfl s1 s2 w2 ?_
  simp only [ud_same, er_ud hx, T3.nat_ofNat, decide_true, Bool.not_true, Bool.not_false, Bool.false_eq_true, eq_self, ↓reduceIte, true_and, and_true]
  refine own_ww w (wOk_mk w2) ?_
  have f2 : eqW n g (r.map nr) n (ascI (compl n g)) (rs2.map nr) = false := by
    unfold eqW
    rw [eqD_tup_lst, eqD_ints]
    have : ¬ (g = ascI (compl n g)) := fun z => by
      have th : (0 : Int) ∈ g ↔ (0 : Int) ∈ compl n g := by
        constructor
        · intro hg; rw [z] at hg; exact mem_ascI.mp hg
        · intro hg; rw [z]; exact mem_ascI.mpr hg
      by_cases h1 : (0 : Int) ∈ g
      · exact (compl_iff.mp (th.mp h1)).2 h1
      · exact h1 (th.mpr (compl_iff.mpr ⟨⟨Int.le_refl _, by omega⟩, h1⟩))
    rw [decide_eq_false this, Bool.false_and, Bool.and_false]
  simp only [f2, T3.nat_ofNat, decide_true, Bool.not_true, Bool.not_false, Bool.false_eq_true, eq_self, ↓reduceIte, true_and, and_true]
  exact st18 hE ok hR hT hT' hts
theorem st16 {C b p5 : Addr} {E : EndsD} {hX : AH} {gb sb : Int} {rings : List Str} {n n' : Int} {g g' : List Int} {r r' : List Rule} {ts : List (List (List Str))} {a0 a6 a9 a10 a11 a12 a13 a15 a16 a17 a18 a20 a21 : Option D}
    (hE : ∀ h', E.rt (.bl true) h') (ok : BoxOk gb sb) (hR : ringsOk rings) (hT : toldOk rings n g r) (hT' : toldOk rings n' g' r') (hts : talesOk ts) (hS : HS hX b p5 n) :
    law16 C E [a0, some (.ref b), some (.lst (namesD rings)), some (toldD n g r), some (toldD n' g' r'), some (.ref p5), a6, some (wD C n g (r.map nr)), some (wD C n' g' (r'.map nr)), a9, a10, a11, a12, a13, some (.lst (ts.map taleD)), a15, a16, a17, a18, some (.bl (eqW n g (r.map nr) n' g' (r'.map nr))), a20, a21] (ud hX b (bx gb sb)) := by
  have w := (told_w hR hT).1
  have w' := (told_w hR hT').1
  have wt := (told_sm hR hT).2.1
  obtain ⟨sl, rs2, s1, s2, s3, s4⟩ := hS gb sb
  simp only [law16, T3.tRet, T3.tRetN, T3.tSeq, T3.tNext, T3.tAsg, T3.gName, T3.gTupN, T3.gList, T3.tVar, T3.tC, T3.tOp, T3.tNotV, T3.tAndV, T3.tOrV, T3.tB, T3.tAnd, T3.tOr, T3.tNot, T3.tIf, T3.tIfS, T3.tCall, T3.tCB, T3.tCons, T3.tNil, T3.tIsi, T3.ordR, T3.intR, T3.absR, T3.intR1, T3.tChain, T3.tTup, T3.tLst, T3.tLstM, T3.tNever, T3.tDrop, T3.appR, T3.extR, T3.popR, T3.tFld, T3.insOf, T3.tMeth, T3.tMake, T3.sFld, T3.tYes, T3.iAny, T3.tFor, T3.iRng1, T3.iRng2, T3.iEnum, T3.tLc, T3.tLcM, T3.tLc2, T3.wipeD, T3.allR, T3.tSl, T3.tNoPart, T3.tPart, T3.slR, T3.gSub, T3.tRevD, T3.tBreak, T3.tCont, T3.tFrz, T3.startD, T3.fnEnds, T3.tab_ii, T3.tab_ib, T3.tab_ss, T3.tab_ll, T3.tab_lt, T3.tab_tl, T3.tab_tt, Bool.or_true, Bool.true_or, eq_self, List.map_cons, List.map_nil, List.length_cons, List.length_nil, List.cons_append, List.nil_append, List.getElem?_cons_zero, List.getElem?_cons_succ, List.getElem?_nil, List.set_cons_zero, List.set_cons_succ, List.replicate, Nat.sub_self, Nat.reduceAdd, Nat.reduceSub, ite_true, ite_false, if_true, if_false, Bool.not_true, Bool.not_false, reduceCtorEq, Bool.false_eq_true, ↓reduceIte, true_and, and_true]
  refine own_ww w w' ?_
  simp only [T3.neR, resD]
  refine ⟨rfl, rfl, ?_⟩
  simp only [eqD_bl, beq_self_eq_true, T3.nat_ofNat, decide_true, Bool.not_true, Bool.not_false, Bool.false_eq_true, eq_self, ↓reduceIte, true_and, and_true]
  refine own_wl w s1 ?_
  simp only [T3.nat_ofNat, decide_true, Bool.not_true, Bool.not_false, Bool.false_eq_true, eq_self, ↓reduceIte, true_and, and_true]
  refine ix0 _ _ _ ?_
  refine ix1 _ _ _ ?_
  refine ix2 _ _ _ ?_
  intro x hx
  refine mk_at (good := g) (rs := r) hx rfl rfl (stepsAre_sD r) wt ?_
  simp only [ud_same, er_ud hx, T3.nat_ofNat, decide_true, Bool.not_true, Bool.not_false, Bool.false_eq_true, eq_self, ↓reduceIte, true_and, and_true]
  refine own_ww w (wOk_mk wt) ?_
  rw [asc_good (good_sub hT)]
  simp only [eqW_refl w, T3.nat_ofNat, decide_true, Bool.not_true, Bool.not_false, Bool.false_eq_true, eq_self, ↓reduceIte, true_and, and_true]
  exact st17 hE ok hR hT hT' hts hS
theorem st15 {C b p5 : Addr} {E : EndsD} {hX : AH} {gb sb : Int} {rings : List Str} {n n' : Int} {g g' : List Int} {r r' : List Rule} {ts : List (List (List Str))} {a0 a6 a9 a10 a11 a12 a13 a15 a16 a17 a18 a19 a20 a21 : Option D}
    (hE : ∀ h', E.rt (.bl true) h') (ok : BoxOk gb sb) (hR : ringsOk rings) (hT : toldOk rings n g r) (hT' : toldOk rings n' g' r') (hts : talesOk ts) (hS : HS hX b p5 n) :
    law15 C E [a0, some (.ref b), some (.lst (namesD rings)), some (toldD n g r), some (toldD n' g' r'), some (.ref p5), a6, some (wD C n g (r.map nr)), some (wD C n' g' (r'.map nr)), a9, a10, a11, a12, a13, some (.lst (ts.map taleD)), a15, a16, a17, a18, a19, a20, a21] (ud hX b (bx gb sb)) := by
  have wt := (told_sm hR hT).2.1
  have wt' := (told_sm hR hT').2.1
  have w := (told_w hR hT).1
  have w' := (told_w hR hT').1
  have fin := st16 (C := C) (b := b) (p5 := p5) (a0 := a0) (a6 := a6) (a9 := a9) (a10 := a10) (a11 := a11) (a12 := a12) (a13 := a13) (a15 := a15) (a16 := a16) (a17 := a17) (a18 := a18) (a20 := a20) (a21 := a21) hE ok hR hT hT' hts hS
  unfold eqW at fin
  simp only [law15, T3.tRet, T3.tRetN, T3.tSeq, T3.tNext, T3.tAsg, T3.gName, T3.gTupN, T3.gList, T3.tVar, T3.tC, T3.tOp, T3.tNotV, T3.tAndV, T3.tOrV, T3.tB, T3.tAnd, T3.tOr, T3.tNot, T3.tIf, T3.tIfS, T3.tCall, T3.tCB, T3.tCons, T3.tNil, T3.tIsi, T3.ordR, T3.intR, T3.absR, T3.intR1, T3.tChain, T3.tTup, T3.tLst, T3.tLstM, T3.tNever, T3.tDrop, T3.appR, T3.extR, T3.popR, T3.tFld, T3.insOf, T3.tMeth, T3.tMake, T3.sFld, T3.tYes, T3.iAny, T3.tFor, T3.iRng1, T3.iRng2, T3.iEnum, T3.tLc, T3.tLcM, T3.tLc2, T3.wipeD, T3.allR, T3.tSl, T3.tNoPart, T3.tPart, T3.slR, T3.gSub, T3.tRevD, T3.tBreak, T3.tCont, T3.tFrz, T3.startD, T3.fnEnds, T3.tab_ii, T3.tab_ib, T3.tab_ss, T3.tab_ll, T3.tab_lt, T3.tab_tl, T3.tab_tt, Bool.or_true, Bool.true_or, eq_self, List.map_cons, List.map_nil, List.length_cons, List.length_nil, List.cons_append, List.nil_append, List.getElem?_cons_zero, List.getElem?_cons_succ, List.getElem?_nil, List.set_cons_zero, List.set_cons_succ, List.replicate, Nat.sub_self, Nat.reduceAdd, Nat.reduceSub, ite_true, ite_false, if_true, if_false, Bool.not_true, Bool.not_false, reduceCtorEq, Bool.false_eq_true, ↓reduceIte, true_and, and_true]
  refine ix0 _ _ _ ?_
  refine ix0 _ _ _ ?_
  refine eqR_int ?_
  rcases bool2 (eqD (.int n) (.int n')) with e1 | e1
  · simp only [e1, T3.nat_ofNat, decide_true, Bool.not_true, Bool.not_false, Bool.false_eq_true, eq_self, ↓reduceIte, true_and, and_true]
    rw [e1, Bool.false_and] at fin
    exact fin
  · simp only [e1, T3.nat_ofNat, decide_true, Bool.not_true, Bool.not_false, Bool.false_eq_true, eq_self, ↓reduceIte, true_and, and_true]
    rw [e1, Bool.true_and] at fin
    refine ix1 _ _ _ ?_
    refine ⟨sortOk_ints _, ?_⟩
    rw [sort_good (good_sub hT)]
    refine ix1 _ _ _ ?_
    refine ⟨sortOk_ints _, ?_⟩
    rw [sort_good (good_sub hT')]
    refine eqR_lst (ok_intsL _) (ok_intsL _) ?_
    rw [eqD_tup_lst] at fin
    rcases bool2 (eqD (.lst (g.map .int)) (.lst (g'.map .int))) with e2 | e2
    · simp only [e2, T3.nat_ofNat, decide_true, Bool.not_true, Bool.not_false, Bool.false_eq_true, eq_self, ↓reduceIte, true_and, and_true]
      rw [e2, Bool.false_and] at fin
      exact fin
    · simp only [e2, T3.nat_ofNat, decide_true, Bool.not_true, Bool.not_false, Bool.false_eq_true, eq_self, ↓reduceIte, true_and, and_true]
      rw [e2, Bool.true_and] at fin
      refine ⟨n, g, r, rfl, wt, ?_⟩
      refine ⟨n', g', r', rfl, wt', ?_⟩
      exact eqR_tup (ok_rs w.2.2.2.1) (ok_rs w'.2.2.2.1) fin
end K50

/-! k50: the reading of law, stages 9 to 14. -/
namespace K50
open PySem PySem.Spec L2 T3
open PyProof.Rows hiding St

theorem no_after (n : Int) (g : List Int) (r : List Rule) : (wF n g r).lookup ("after" : Str) = none := w_no (by decide +kernel) (by decide +kernel) (by decide +kernel) n g r
theorem no_end (n : Int) (g : List Int) (r : List Rule) : (wF n g r).lookup ("end" : Str) = none := w_no (by decide +kernel) (by decide +kernel) (by decide +kernel) n g r
theorem no_takes (n : Int) (g : List Int) (r : List Rule) : (wF n g r).lookup ("takes" : Str) = none := w_no (by decide +kernel) (by decide +kernel) (by decide +kernel) n g r
theorem no_rung (n : Int) (g : List Int) (r : List Rule) : (wF n g r).lookup ("rung_bells" : Str) = none := w_no (by decide +kernel) (by decide +kernel) (by decide +kernel) n g r
theorem st14 {C b p5 : Addr} {E : EndsD} {hX : AH} {gb sb : Int} {rings : List Str} {n n' : Int} {g g' : List Int} {r r' : List Rule} {ts : List (List (List Str))} {a0 a6 a9 a10 a11 a12 a13 a15 a16 a17 a18 a19 a20 a21 : Option D}
    (hE : ∀ h', E.rt (.bl true) h') (ok : BoxOk gb sb) (hR : ringsOk rings) (hT : toldOk rings n g r) (hT' : toldOk rings n' g' r') (hts : talesOk ts) (hS : HS hX b p5 n) :
    law14 C E [a0, some (.ref b), some (.lst (namesD rings)), some (toldD n g r), some (toldD n' g' r'), some (.ref p5), a6, some (wD C n g (r.map nr)), some (wD C n' g' (r'.map nr)), a9, a10, a11, a12, a13, some (.lst (ts.map taleD)), a15, a16, a17, a18, a19, a20, a21] (ud hX b (bx gb sb)) := by
  have w := (told_w hR hT).1
  have wt := (told_sm hR hT).2.1
  have hn := told_n hT
  simp only [law14, T3.tSeq, T3.tFor, T3.iAny, T3.tVar, List.getElem?_cons_zero, List.getElem?_cons_succ, T3.itOf, T3.seqOf]
  refine forL_inv (I := fun l σ h1 => ∃ ts' gb sb a15 a16 a17 a18, l = ts'.map taleD ∧ σ = [a0, some (.ref b), some (.lst (namesD rings)), some (toldD n g r), some (toldD n' g' r'), some (.ref p5), a6, some (wD C n g (r.map nr)), some (wD C n' g' (r'.map nr)), a9, a10, a11, a12, a13, some (.lst (ts.map taleD)), a15, a16, a17, a18, a19, a20, a21] ∧ h1 = ud hX b (bx gb sb) ∧ BoxOk gb sb ∧ ∀ t ∈ ts', taleOk t) (fun _ _ _ _ => trivial) ?_ gName_mono ?_ _ ⟨ts, gb, sb, a15, a16, a17, a18, rfl, rfl, rfl, ok, hts.1⟩
  · rintro x xs σ h1 ⟨ts', gb, sb, a15, a16, a17, a18, e0, rfl, rfl, ok, tok'⟩
    match ts', e0 with
    | t :: ts', e0 =>
      cases e0
      have ht := tok' t (List.mem_cons_self ..)
      simp only [g10_law, b11_law, T3.tRet, T3.tRetN, T3.tSeq, T3.tNext, T3.tAsg, T3.gName, T3.gTupN, T3.gList, T3.tVar, T3.tC, T3.tOp, T3.tNotV, T3.tAndV, T3.tOrV, T3.tB, T3.tAnd, T3.tOr, T3.tNot, T3.tIf, T3.tIfS, T3.tCall, T3.tCB, T3.tCons, T3.tNil, T3.tIsi, T3.ordR, T3.intR, T3.absR, T3.intR1, T3.tChain, T3.tTup, T3.tLst, T3.tLstM, T3.tNever, T3.tDrop, T3.appR, T3.extR, T3.popR, T3.tFld, T3.insOf, T3.tMeth, T3.tMake, T3.sFld, T3.tYes, T3.iAny, T3.tFor, T3.iRng1, T3.iRng2, T3.iEnum, T3.tLc, T3.tLcM, T3.tLc2, T3.wipeD, T3.allR, T3.tSl, T3.tNoPart, T3.tPart, T3.slR, T3.gSub, T3.tRevD, T3.tBreak, T3.tCont, T3.tFrz, T3.startD, T3.fnEnds, T3.tab_ii, T3.tab_ib, T3.tab_ss, T3.tab_ll, T3.tab_lt, T3.tab_tl, T3.tab_tt, Bool.or_true, Bool.true_or, eq_self, List.map_cons, List.map_nil, List.length_cons, List.length_nil, List.cons_append, List.nil_append, List.getElem?_cons_zero, List.getElem?_cons_succ, List.getElem?_nil, List.set_cons_zero, List.set_cons_succ, List.replicate, Nat.sub_self, Nat.reduceAdd, Nat.reduceSub, ite_true, ite_false, if_true, if_false, Bool.not_true, Bool.not_false, reduceCtorEq, Bool.false_eq_true, ↓reduceIte, true_and, and_true]
      intro E' e1 _ e3 _
      refine ix0 _ _ _ ?_
      refine ⟨b, n, rfl, atBox_ud ok, by omega, by omega, fun d d0 d1 => fun g2 s2 ok2 => ?_⟩
      simp only [ud_ud, taleD, T3.itOf, T3.seqOf]
      refine forL_inv (I := fun l σ h1 => ∃ t' st' a18, l = List.map lotD t' ∧ σ = [a0, some (.ref b), some (.lst (namesD rings)), some (toldD n g r), some (toldD n' g' r'), some (.ref p5), a6, some (wD C n g (r.map nr)), some (wD C n' g' (r'.map nr)), a9, a10, a11, a12, a13, some (.lst (ts.map taleD)), some (taleD t), some (.int d), some (.int st'), a18, a19, a20, a21] ∧ h1 = ud hX b (bx g2 s2) ∧ run r st' t' = run r d t ∧ ∀ l ∈ t', lotOk l) (fun _ _ _ _ => trivial) ?_ gName_mono ?_ _ ⟨t, d, a18, rfl, rfl, rfl, rfl, ht.1⟩
      · rintro y ys σ h1 ⟨t', st', a18, e0, rfl, rfl, ea, ok'⟩
        match t', e0 with
        | l :: t', e0 =>
          cases e0
          have hl := ok' l (List.mem_cons_self ..)
          simp only [g8_law, b9_law, T3.tRet, T3.tRetN, T3.tSeq, T3.tNext, T3.tAsg, T3.gName, T3.gTupN, T3.gList, T3.tVar, T3.tC, T3.tOp, T3.tNotV, T3.tAndV, T3.tOrV, T3.tB, T3.tAnd, T3.tOr, T3.tNot, T3.tIf, T3.tIfS, T3.tCall, T3.tCB, T3.tCons, T3.tNil, T3.tIsi, T3.ordR, T3.intR, T3.absR, T3.intR1, T3.tChain, T3.tTup, T3.tLst, T3.tLstM, T3.tNever, T3.tDrop, T3.appR, T3.extR, T3.popR, T3.tFld, T3.insOf, T3.tMeth, T3.tMake, T3.sFld, T3.tYes, T3.iAny, T3.tFor, T3.iRng1, T3.iRng2, T3.iEnum, T3.tLc, T3.tLcM, T3.tLc2, T3.wipeD, T3.allR, T3.tSl, T3.tNoPart, T3.tPart, T3.slR, T3.gSub, T3.tRevD, T3.tBreak, T3.tCont, T3.tFrz, T3.startD, T3.fnEnds, T3.tab_ii, T3.tab_ib, T3.tab_ss, T3.tab_ll, T3.tab_lt, T3.tab_tl, T3.tab_tt, Bool.or_true, Bool.true_or, eq_self, List.map_cons, List.map_nil, List.length_cons, List.length_nil, List.cons_append, List.nil_append, List.getElem?_cons_zero, List.getElem?_cons_succ, List.getElem?_nil, List.set_cons_zero, List.set_cons_succ, List.replicate, Nat.sub_self, Nat.reduceAdd, Nat.reduceSub, ite_true, ite_false, if_true, if_false, Bool.not_true, Bool.not_false, reduceCtorEq, Bool.false_eq_true, ↓reduceIte, true_and, and_true, wD, T3.insOf, no_after]
          intro E' _ _ e3 _
          refine ⟨n, g, r.map nr, st', l, rfl, w, hl, ?_⟩
          refine ⟨n, g, r, st', l, rfl, wt, hl, ?_⟩
          refine neR_int ?_
          simp only [aft_nr, eqD_int, T3.nat_ofNat, decide_true, Bool.not_true, Bool.not_false, Bool.false_eq_true, eq_self, ↓reduceIte, true_and, and_true]
          refine ⟨n, g, r, st', l, rfl, wt, hl, ?_⟩
          exact e3 _ _ ⟨t', _, _, rfl, rfl, rfl, ea, fun l hl => ok' l (List.mem_cons_of_mem _ hl)⟩
        | [], e0 => cases e0
      · rintro σ h1 ⟨t', st', a18, e0, rfl, rfl, ea, _⟩
        match t', e0 with
        | [], _ =>
          have ea : st' = run r d t := ea
          subst ea
          simp only [T3.tRet, T3.tRetN, T3.tSeq, T3.tNext, T3.tAsg, T3.gName, T3.gTupN, T3.gList, T3.tVar, T3.tC, T3.tOp, T3.tNotV, T3.tAndV, T3.tOrV, T3.tB, T3.tAnd, T3.tOr, T3.tNot, T3.tIf, T3.tIfS, T3.tCall, T3.tCB, T3.tCons, T3.tNil, T3.tIsi, T3.ordR, T3.intR, T3.absR, T3.intR1, T3.tChain, T3.tTup, T3.tLst, T3.tLstM, T3.tNever, T3.tDrop, T3.appR, T3.extR, T3.popR, T3.tFld, T3.insOf, T3.tMeth, T3.tMake, T3.sFld, T3.tYes, T3.iAny, T3.tFor, T3.iRng1, T3.iRng2, T3.iEnum, T3.tLc, T3.tLcM, T3.tLc2, T3.wipeD, T3.allR, T3.tSl, T3.tNoPart, T3.tPart, T3.slR, T3.gSub, T3.tRevD, T3.tBreak, T3.tCont, T3.tFrz, T3.startD, T3.fnEnds, T3.tab_ii, T3.tab_ib, T3.tab_ss, T3.tab_ll, T3.tab_lt, T3.tab_tl, T3.tab_tt, Bool.or_true, Bool.true_or, eq_self, List.map_cons, List.map_nil, List.length_cons, List.length_nil, List.cons_append, List.nil_append, List.getElem?_cons_zero, List.getElem?_cons_succ, List.getElem?_nil, List.set_cons_zero, List.set_cons_succ, List.replicate, Nat.sub_self, Nat.reduceAdd, Nat.reduceSub, ite_true, ite_false, if_true, if_false, Bool.not_true, Bool.not_false, reduceCtorEq, Bool.false_eq_true, ↓reduceIte, true_and, and_true, wD, T3.insOf, no_end, no_takes]
          refine ⟨n, g, r.map nr, t, d, rfl, w, ht, ?_⟩
          refine neR_int ?_
          simp only [run_nr, eqD_int, T3.nat_ofNat, decide_true, Bool.not_true, Bool.not_false, Bool.false_eq_true, eq_self, ↓reduceIte, true_and, and_true]
          refine ⟨_, _, rfl, n, g, r.map nr, t, 0, rfl, w, ht, ?_⟩
          refine ⟨n, g, r, t, rfl, wt, ht, ?_⟩
          refine neR_int ?_
          simp only [run_nr, eqD_int, T3.nat_ofNat, decide_true, Bool.not_true, Bool.not_false, Bool.false_eq_true, eq_self, ↓reduceIte, true_and, and_true]
          refine ⟨n, g, r.map nr, t, rfl, w, ht, ?_⟩
          refine ⟨n, g, r, t, rfl, wt, ht, ?_⟩
          refine ix1 _ _ _ ?_
          simp only [T3.inR, T3.seqOf, resD, Bool.false_xor, inL_ints]
          refine ⟨rfl, ints_ok _, ?_⟩
          refine neR_bl ?_
          simp only [run_nr, eqD_bl, beq_self_eq_true, T3.nat_ofNat, decide_true, Bool.not_true, Bool.not_false, Bool.false_eq_true, eq_self, ↓reduceIte, true_and, and_true]
          exact e3 _ _ ⟨ts', g2, s2, _, _, _, _, rfl, rfl, rfl, ok2, fun t ht => tok' t (List.mem_cons_of_mem _ ht)⟩
        | _ :: _, e0 => cases e0
    | [], e0 => cases e0
  · rintro σ h1 ⟨ts', gb, sb, a15, a16, a17, a18, e0, rfl, rfl, ok, _⟩
    exact st15 hE ok hR hT hT' hts hS
theorem names_other (rings : List Str) : namesD rings ++ [.str "other"] = namesD (rings ++ [("other" : Str)]) := by
  unfold namesD
  rw [List.map_append]; rfl
theorem st13 {C b p5 : Addr} {E : EndsD} {hX : AH} {gb sb : Int} {rings : List Str} {n n' : Int} {g g' : List Int} {r r' : List Rule} {a0 a6 a9 a10 a11 a12 a13 a14 a15 a16 a17 a18 a19 a20 a21 : Option D}
    (hE : ∀ h', E.rt (.bl true) h') (ok : BoxOk gb sb) (hR : ringsOk rings) (hT : toldOk rings n g r) (hT' : toldOk rings n' g' r') (hS : HS hX b p5 n) :
    law13 C E [a0, some (.ref b), some (.lst (namesD rings)), some (toldD n g r), some (toldD n' g' r'), some (.ref p5), a6, some (wD C n g (r.map nr)), some (wD C n' g' (r'.map nr)), a9, a10, a11, a12, a13, a14, a15, a16, a17, a18, a19, a20, a21] (ud hX b (bx gb sb)) := by
  simp only [law13, T3.tRet, T3.tRetN, T3.tSeq, T3.tNext, T3.tAsg, T3.gName, T3.gTupN, T3.gList, T3.tVar, T3.tC, T3.tOp, T3.tNotV, T3.tAndV, T3.tOrV, T3.tB, T3.tAnd, T3.tOr, T3.tNot, T3.tIf, T3.tIfS, T3.tCall, T3.tCB, T3.tCons, T3.tNil, T3.tIsi, T3.ordR, T3.intR, T3.absR, T3.intR1, T3.tChain, T3.tTup, T3.tLst, T3.tLstM, T3.tNever, T3.tDrop, T3.appR, T3.extR, T3.popR, T3.tFld, T3.insOf, T3.tMeth, T3.tMake, T3.sFld, T3.tYes, T3.iAny, T3.tFor, T3.iRng1, T3.iRng2, T3.iEnum, T3.tLc, T3.tLcM, T3.tLc2, T3.wipeD, T3.allR, T3.tSl, T3.tNoPart, T3.tPart, T3.slR, T3.gSub, T3.tRevD, T3.tBreak, T3.tCont, T3.tFrz, T3.startD, T3.fnEnds, T3.tab_ii, T3.tab_ib, T3.tab_ss, T3.tab_ll, T3.tab_lt, T3.tab_tl, T3.tab_tt, Bool.or_true, Bool.true_or, eq_self, List.map_cons, List.map_nil, List.length_cons, List.length_nil, List.cons_append, List.nil_append, List.getElem?_cons_zero, List.getElem?_cons_succ, List.getElem?_nil, List.set_cons_zero, List.set_cons_succ, List.replicate, Nat.sub_self, Nat.reduceAdd, Nat.reduceSub, ite_true, ite_false, if_true, if_false, Bool.not_true, Bool.not_false, reduceCtorEq, Bool.false_eq_true, ↓reduceIte, true_and, and_true]
  refine ⟨⟨by decide, by decide⟩, ?_⟩
  rw [show Int.toNat 4 = 4 from rfl]
  refine lcL_inv (I := fun l acc h1 => ∃ ts gb sb, acc = List.map taleD ts ∧ h1 = ud hX b (bx gb sb) ∧ BoxOk gb sb ∧ (∀ t ∈ ts, taleOk t) ∧ ts.length + l.length = 4) (fun _ _ _ _ => trivial) ?_ ?_ _ ⟨[], gb, sb, rfl, rfl, ok, (fun _ h => by cases h), by unfold rangeD; rw [List.length_map, List.length_range]; rfl⟩
  · rintro x xs acc h1 ⟨ts, gb, sb, rfl, rfl, ok, tok, hl⟩ F hF
    rw [List.length_cons] at hl
    simp only [g6_law, e7_law, T3.tRet, T3.tRetN, T3.tSeq, T3.tNext, T3.tAsg, T3.gName, T3.gTupN, T3.gList, T3.tVar, T3.tC, T3.tOp, T3.tNotV, T3.tAndV, T3.tOrV, T3.tB, T3.tAnd, T3.tOr, T3.tNot, T3.tIf, T3.tIfS, T3.tCall, T3.tCB, T3.tCons, T3.tNil, T3.tIsi, T3.ordR, T3.intR, T3.absR, T3.intR1, T3.tChain, T3.tTup, T3.tLst, T3.tLstM, T3.tNever, T3.tDrop, T3.appR, T3.extR, T3.popR, T3.tFld, T3.insOf, T3.tMeth, T3.tMake, T3.sFld, T3.tYes, T3.iAny, T3.tFor, T3.iRng1, T3.iRng2, T3.iEnum, T3.tLc, T3.tLcM, T3.tLc2, T3.wipeD, T3.allR, T3.tSl, T3.tNoPart, T3.tPart, T3.slR, T3.gSub, T3.tRevD, T3.tBreak, T3.tCont, T3.tFrz, T3.startD, T3.fnEnds, T3.tab_ii, T3.tab_ib, T3.tab_ss, T3.tab_ll, T3.tab_lt, T3.tab_tl, T3.tab_tt, Bool.or_true, Bool.true_or, eq_self, List.map_cons, List.map_nil, List.length_cons, List.length_nil, List.cons_append, List.nil_append, List.getElem?_cons_zero, List.getElem?_cons_succ, List.getElem?_nil, List.set_cons_zero, List.set_cons_succ, List.replicate, Nat.sub_self, Nat.reduceAdd, Nat.reduceSub, ite_true, ite_false, if_true, if_false, Bool.not_true, Bool.not_false, reduceCtorEq, Bool.false_eq_true, ↓reduceIte, true_and, and_true, T3.addR, T3.lstOf]
    refine ⟨sl65' (by decide), by rw [namesD, List.length_map]; exact sl65' (by have := hR.2.1; omega), ?_⟩
    refine ⟨b, 7, rfl, atBox_ud ok, by decide, by decide, fun d d0 d1 => fun g2 s2 ok2 => ?_⟩
    simp only [ud_ud, names_other]
    refine ⟨b, rings ++ [("other" : Str)], d, rfl, atBox_ud ok2, by simp, by rw [List.length_append]; have := hR.2.1; show _ + 1 ≤ 10; omega, fun x hx => ?_, by omega, by omega, fun t lt tt => fun g3 s3 ok3 => ?_⟩
    · rcases List.mem_append.mp hx with hx | hx
      · exact hR.2.2 x hx
      · have : x = "other" := by simpa using hx
        rw [this]; decide +kernel
    · simp only [ud_ud]
      refine ⟨by rw [List.length_map]; exact sl65 (by omega), hF _ _ ⟨ts ++ [t], g3, s3, by rw [List.map_append]; rfl, rfl, ok3, fun z hz => ?_, by rw [List.length_append]; show ts.length + 1 + _ = _; omega⟩⟩
      rcases List.mem_append.mp hz with hz | hz
      · exact tok z hz
      · have : z = t := by simpa using hz
        rw [this]; exact tt
  · rintro acc h1 ⟨ts, gb, sb, rfl, rfl, ok, tok, hl⟩
    rw [List.length_nil] at hl
    simp only [T3.addR, T3.lstOf, T3.tRet, T3.tRetN, T3.tSeq, T3.tNext, T3.tAsg, T3.gName, T3.gTupN, T3.gList, T3.tVar, T3.tC, T3.tOp, T3.tNotV, T3.tAndV, T3.tOrV, T3.tB, T3.tAnd, T3.tOr, T3.tNot, T3.tIf, T3.tIfS, T3.tCall, T3.tCB, T3.tCons, T3.tNil, T3.tIsi, T3.ordR, T3.intR, T3.absR, T3.intR1, T3.tChain, T3.tTup, T3.tLst, T3.tLstM, T3.tNever, T3.tDrop, T3.appR, T3.extR, T3.popR, T3.tFld, T3.insOf, T3.tMeth, T3.tMake, T3.sFld, T3.tYes, T3.iAny, T3.tFor, T3.iRng1, T3.iRng2, T3.iEnum, T3.tLc, T3.tLcM, T3.tLc2, T3.wipeD, T3.allR, T3.tSl, T3.tNoPart, T3.tPart, T3.slR, T3.gSub, T3.tRevD, T3.tBreak, T3.tCont, T3.tFrz, T3.startD, T3.fnEnds, T3.tab_ii, T3.tab_ib, T3.tab_ss, T3.tab_ll, T3.tab_lt, T3.tab_tl, T3.tab_tt, Bool.or_true, Bool.true_or, eq_self, List.map_cons, List.map_nil, List.length_cons, List.length_nil, List.cons_append, List.nil_append, List.getElem?_cons_zero, List.getElem?_cons_succ, List.getElem?_nil, List.set_cons_zero, List.set_cons_succ, List.replicate, Nat.sub_self, Nat.reduceAdd, Nat.reduceSub, ite_true, ite_false, if_true, if_false, Bool.not_true, Bool.not_false, reduceCtorEq, Bool.false_eq_true, ↓reduceIte, true_and, and_true]
    refine ⟨sl65' (by decide), sl65' (by decide), by rw [List.length_map]; exact sl65' (by omega), ?_⟩
    have e : List.map taleD ts ++ [.tup []] = List.map taleD (ts ++ [[]]) := by rw [List.map_append]; rfl
    rw [e]
    refine st14 hE ok hR hT hT' ⟨fun z hz => ?_, by rw [List.length_append]; show _ + 1 ≤ 10; omega, by simp⟩ hS
    rcases List.mem_append.mp hz with hz | hz
    · exact tok z hz
    · have : z = [] := by simpa using hz
      rw [this]; exact ⟨(fun _ h => by cases h), by decide⟩
theorem rung_mem (r : List Rule) (x : Str) : x ∈ rung (r.map nr) ↔ x ∈ rung r := by
  unfold rung
  rw [List.mem_flatMap, List.mem_flatMap]
  constructor
  · rintro ⟨y, hy, hx⟩
    obtain ⟨z, hz, rfl⟩ := List.mem_map.mp hy
    refine ⟨z, hz, ?_⟩
    rcases List.mem_append.mp hx with h | h
    · exact List.mem_append.mpr (.inl (mem_ascS.mp h))
    · exact List.mem_append.mpr (.inr (mem_ascS.mp h))
  · rintro ⟨z, hz, hx⟩
    refine ⟨nr z, List.mem_map.mpr ⟨z, hz, rfl⟩, ?_⟩
    rcases List.mem_append.mp hx with h | h
    · exact List.mem_append.mpr (.inl (mem_ascS.mpr h))
    · exact List.mem_append.mpr (.inr (mem_ascS.mpr h))
theorem rung_len (r : List Rule) (k : Nat) (h : ∀ x ∈ r, x.need.length + x.bar.length ≤ k) : (rung r).length ≤ r.length * k := by
  induction r with
  | nil => simp [rung]
  | cons x r ih =>
    have := ih fun y hy => h y (List.mem_cons_of_mem _ hy)
    have := h x (List.mem_cons_self ..)
    rw [rung_cons, List.length_append, List.length_append, List.length_cons, Nat.succ_mul]
    omega
theorem told_rung {rings : List Str} {n : Int} {g : List Int} {r : List Rule} (h : toldOk rings n g r) : (rung r).length ≤ 32 ∧ (rung (r.map nr)).length ≤ 32 := by
  have h1 := rung_len r 8 fun x hx => by have := (h.2.2 x hx).2.2.2.2; omega
  have h2 := rung_len (r.map nr) 8 fun x hx => by
    obtain ⟨y, hy, rfl⟩ := List.mem_map.mp hx
    have := (h.2.2 y hy).2.2.2.2
    have l1 : (nr y).need.length ≤ y.need.length := ascS_len _
    have l2 : (nr y).bar.length ≤ y.bar.length := ascS_len _
    omega
  rw [List.length_map] at h2
  have := h.2.1
  omega
theorem told_rung_ok {rings : List Str} {n : Int} {g : List Int} {r : List Rule} (hR : ringsOk rings) (h : toldOk rings n g r) : ∀ x ∈ rung r, nameOk x = true := by
  intro x hx
  unfold rung at hx
  obtain ⟨y, hy, hx⟩ := List.mem_flatMap.mp hx
  have := h.2.2 y hy
  rcases List.mem_append.mp hx with z | z
  · exact hR.2.2 x (this.2.2.1 x z)
  · exact hR.2.2 x (this.2.2.2.1 x z)
theorem st12 {C b p5 : Addr} {E : EndsD} {hX : AH} {gb sb : Int} {rings : List Str} {n n' : Int} {g g' : List Int} {r r' : List Rule} {a0 a6 a9 a10 a11 a12 a14 a15 a16 a17 a18 a19 a20 a21 : Option D}
    (hE : ∀ h', E.rt (.bl true) h') (ok : BoxOk gb sb) (hR : ringsOk rings) (hT : toldOk rings n g r) (hT' : toldOk rings n' g' r') (hS : HS hX b p5 n) :
    law12 C E [a0, some (.ref b), some (.lst (namesD rings)), some (toldD n g r), some (toldD n' g' r'), some (.ref p5), a6, some (wD C n g (r.map nr)), some (wD C n' g' (r'.map nr)), a9, a10, a11, a12, some (.lst (namesD (rung r))), a14, a15, a16, a17, a18, a19, a20, a21] (ud hX b (bx gb sb)) := by
  have w := (told_w hR hT).1
  obtain ⟨l1, l2⟩ := told_rung hT
  have nok := told_rung_ok hR hT
  simp only [law12, T3.tRet, T3.tRetN, T3.tSeq, T3.tNext, T3.tAsg, T3.gName, T3.gTupN, T3.gList, T3.tVar, T3.tC, T3.tOp, T3.tNotV, T3.tAndV, T3.tOrV, T3.tB, T3.tAnd, T3.tOr, T3.tNot, T3.tIf, T3.tIfS, T3.tCall, T3.tCB, T3.tCons, T3.tNil, T3.tIsi, T3.ordR, T3.intR, T3.absR, T3.intR1, T3.tChain, T3.tTup, T3.tLst, T3.tLstM, T3.tNever, T3.tDrop, T3.appR, T3.extR, T3.popR, T3.tFld, T3.insOf, T3.tMeth, T3.tMake, T3.sFld, T3.tYes, T3.iAny, T3.tFor, T3.iRng1, T3.iRng2, T3.iEnum, T3.tLc, T3.tLcM, T3.tLc2, T3.wipeD, T3.allR, T3.tSl, T3.tNoPart, T3.tPart, T3.slR, T3.gSub, T3.tRevD, T3.tBreak, T3.tCont, T3.tFrz, T3.startD, T3.fnEnds, T3.tab_ii, T3.tab_ib, T3.tab_ss, T3.tab_ll, T3.tab_lt, T3.tab_tl, T3.tab_tt, Bool.or_true, Bool.true_or, eq_self, List.map_cons, List.map_nil, List.length_cons, List.length_nil, List.cons_append, List.nil_append, List.getElem?_cons_zero, List.getElem?_cons_succ, List.getElem?_nil, List.set_cons_zero, List.set_cons_succ, List.replicate, Nat.sub_self, Nat.reduceAdd, Nat.reduceSub, ite_true, ite_false, if_true, if_false, Bool.not_true, Bool.not_false, reduceCtorEq, Bool.false_eq_true, ↓reduceIte, true_and, and_true, wD, T3.insOf, no_rung, w_st]
  refine ⟨n, g, r.map nr, rfl, w, by omega, ?_⟩
  refine tAsc_go (l := rung r) (by omega) nok (fun R q => q) ?_
  simp only [T3.tupR, T3.seqOf]
  refine neR_tup (ok_names fun x hx => nok x ((rung_mem r x).mp (mem_ascS.mp hx))) (ok_names fun x hx => nok x (mem_ascS.mp hx)) ?_
  rw [ascS_congr (rung_mem r)]
  have e1 := eqD_refl (n := 40) (d := .tup (namesD (ascS (rung r)))) (ok_names fun x hx => nok x (mem_ascS.mp hx))
  simp only [e1, T3.nat_ofNat, decide_true, Bool.not_true, Bool.not_false, Bool.false_eq_true, eq_self, ↓reduceIte, true_and, and_true, isR, T3.tyOf, T3.tab_ib]
  exact st13 hE ok hR hT hT' hS
theorem st10 {C b p5 : Addr} {E : EndsD} {hX : AH} {gb sb : Int} {rings : List Str} {n n' : Int} {g g' : List Int} {r r' : List Rule} {a0 a6 a9 a10 a11 a12 a13 a14 a15 a16 a17 a18 a19 a20 a21 : Option D}
    (hE : ∀ h', E.rt (.bl true) h') (ok : BoxOk gb sb) (hR : ringsOk rings) (hT : toldOk rings n g r) (hT' : toldOk rings n' g' r') (hS : HS hX b p5 n) :
    law10 C E [a0, some (.ref b), some (.lst (namesD rings)), some (toldD n g r), some (toldD n' g' r'), some (.ref p5), a6, some (wD C n g (r.map nr)), some (wD C n' g' (r'.map nr)), a9, a10, a11, a12, a13, a14, a15, a16, a17, a18, a19, a20, a21] (ud hX b (bx gb sb)) := by
  have l1 := (told_rung hT).1
  simp only [law10, law11, T3.tRet, T3.tRetN, T3.tSeq, T3.tNext, T3.tAsg, T3.gName, T3.gTupN, T3.gList, T3.tVar, T3.tC, T3.tOp, T3.tNotV, T3.tAndV, T3.tOrV, T3.tB, T3.tAnd, T3.tOr, T3.tNot, T3.tIf, T3.tIfS, T3.tCall, T3.tCB, T3.tCons, T3.tNil, T3.tIsi, T3.ordR, T3.intR, T3.absR, T3.intR1, T3.tChain, T3.tTup, T3.tLst, T3.tLstM, T3.tNever, T3.tDrop, T3.appR, T3.extR, T3.popR, T3.tFld, T3.insOf, T3.tMeth, T3.tMake, T3.sFld, T3.tYes, T3.iAny, T3.tFor, T3.iRng1, T3.iRng2, T3.iEnum, T3.tLc, T3.tLcM, T3.tLc2, T3.wipeD, T3.allR, T3.tSl, T3.tNoPart, T3.tPart, T3.slR, T3.gSub, T3.tRevD, T3.tBreak, T3.tCont, T3.tFrz, T3.startD, T3.fnEnds, T3.tab_ii, T3.tab_ib, T3.tab_ss, T3.tab_ll, T3.tab_lt, T3.tab_tl, T3.tab_tt, Bool.or_true, Bool.true_or, eq_self, List.map_cons, List.map_nil, List.length_cons, List.length_nil, List.cons_append, List.nil_append, List.getElem?_cons_zero, List.getElem?_cons_succ, List.getElem?_nil, List.set_cons_zero, List.set_cons_succ, List.replicate, Nat.sub_self, Nat.reduceAdd, Nat.reduceSub, ite_true, ite_false, if_true, if_false, Bool.not_true, Bool.not_false, reduceCtorEq, Bool.false_eq_true, ↓reduceIte, true_and, and_true]
  refine ⟨Nat.zero_le _, ?_⟩
  refine ix2 _ _ _ ?_
  simp only [T3.itOf, T3.seqOf]
  refine forL_inv (I := fun l σ h1 => ∃ acc r1 a9 a10 a11 a12, l = List.map sD r1 ∧ σ = [a0, some (.ref b), some (.lst (namesD rings)), some (toldD n g r), some (toldD n' g' r'), some (.ref p5), a6, some (wD C n g (r.map nr)), some (wD C n' g' (r'.map nr)), a9, a10, a11, a12, some (.lst (namesD (rung acc))), a14, a15, a16, a17, a18, a19, a20, a21] ∧ h1 = ud hX b (bx gb sb) ∧ acc ++ r1 = r) (fun _ _ _ _ => trivial) ?_ (gNames_mono (is := [9, 10, 11, 12]) (n := 4)) ?_ _ ⟨[], r, a9, a10, a11, a12, rfl, rfl, rfl, rfl⟩
  · rintro x xs σ h1 ⟨acc, r1, a9, a10, a11, a12, e0, rfl, rfl, e2⟩
    match r1, e0 with
    | y :: r1, e0 =>
      cases e0
      have hlen : (rung acc).length + (y.need.length + y.bar.length) ≤ 32 := by
        have := l1
        rw [← e2, rung_append, rung_cons] at this
        simp only [List.length_append] at this
        omega
      simp only [g4_law, b5_law, sD, T3.tRet, T3.tRetN, T3.tSeq, T3.tNext, T3.tAsg, T3.gName, T3.gTupN, T3.gList, T3.tVar, T3.tC, T3.tOp, T3.tNotV, T3.tAndV, T3.tOrV, T3.tB, T3.tAnd, T3.tOr, T3.tNot, T3.tIf, T3.tIfS, T3.tCall, T3.tCB, T3.tCons, T3.tNil, T3.tIsi, T3.ordR, T3.intR, T3.absR, T3.intR1, T3.tChain, T3.tTup, T3.tLst, T3.tLstM, T3.tNever, T3.tDrop, T3.appR, T3.extR, T3.popR, T3.tFld, T3.insOf, T3.tMeth, T3.tMake, T3.sFld, T3.tYes, T3.iAny, T3.tFor, T3.iRng1, T3.iRng2, T3.iEnum, T3.tLc, T3.tLcM, T3.tLc2, T3.wipeD, T3.allR, T3.tSl, T3.tNoPart, T3.tPart, T3.slR, T3.gSub, T3.tRevD, T3.tBreak, T3.tCont, T3.tFrz, T3.startD, T3.fnEnds, T3.tab_ii, T3.tab_ib, T3.tab_ss, T3.tab_ll, T3.tab_lt, T3.tab_tl, T3.tab_tt, Bool.or_true, Bool.true_or, eq_self, List.map_cons, List.map_nil, List.length_cons, List.length_nil, List.cons_append, List.nil_append, List.getElem?_cons_zero, List.getElem?_cons_succ, List.getElem?_nil, List.set_cons_zero, List.set_cons_succ, List.replicate, Nat.sub_self, Nat.reduceAdd, Nat.reduceSub, ite_true, ite_false, if_true, if_false, Bool.not_true, Bool.not_false, reduceCtorEq, Bool.false_eq_true, ↓reduceIte, true_and, and_true, T3.addR, T3.lstOf]
      intro E' _ _ e3 _
      have nl : ∀ l : List Str, (namesD l).length = l.length := fun l => List.length_map _
      simp only [nl, List.length_append]
      refine ⟨sl65' (by omega), sl65' (by omega), ?_⟩
      have es : namesD (rung acc) ++ namesD y.need ++ namesD y.bar = namesD (rung (acc ++ [y])) := by
        rw [rung_append, rung_cons]
        simp only [namesD, List.map_append, rung, List.flatMap_nil, List.append_nil, List.append_assoc]
      rw [es]
      exact e3 _ _ ⟨acc ++ [y], r1, _, _, _, _, rfl, rfl, rfl, by rw [List.append_assoc]; exact e2⟩
    | [], e0 => cases e0
  · rintro σ h1 ⟨acc, r1, a9, a10, a11, a12, e0, rfl, rfl, e2⟩
    match r1, e0 with
    | [], _ =>
      rw [List.append_nil] at e2
      subst e2
      exact st12 hE ok hR hT hT' hS
    | _ :: _, e0 => cases e0
theorem st9 {C b p5 : Addr} {E : EndsD} {hX : AH} {gb sb : Int} {rings : List Str} {n n' : Int} {g g' : List Int} {r r' : List Rule} {a0 a6 a9 a10 a11 a12 a13 a14 a15 a16 a17 a18 a19 a20 a21 : Option D}
    (hE : ∀ h', E.rt (.bl true) h') (ok : BoxOk gb sb) (hR : ringsOk rings) (hT : toldOk rings n g r) (hT' : toldOk rings n' g' r') (hS : HS hX b p5 n) :
    law9 C E [a0, some (.ref b), some (.lst (namesD rings)), some (toldD n g r), some (toldD n' g' r'), some (.ref p5), a6, some (wD C n g (r.map nr)), some (wD C n' g' (r'.map nr)), a9, a10, a11, a12, a13, a14, a15, a16, a17, a18, a19, a20, a21] (ud hX b (bx gb sb)) := by
  have w := (told_w hR hT).1
  have wt := (told_sm hR hT).2.1
  simp only [law9, T3.tRet, T3.tRetN, T3.tSeq, T3.tNext, T3.tAsg, T3.gName, T3.gTupN, T3.gList, T3.tVar, T3.tC, T3.tOp, T3.tNotV, T3.tAndV, T3.tOrV, T3.tB, T3.tAnd, T3.tOr, T3.tNot, T3.tIf, T3.tIfS, T3.tCall, T3.tCB, T3.tCons, T3.tNil, T3.tIsi, T3.ordR, T3.intR, T3.absR, T3.intR1, T3.tChain, T3.tTup, T3.tLst, T3.tLstM, T3.tNever, T3.tDrop, T3.appR, T3.extR, T3.popR, T3.tFld, T3.insOf, T3.tMeth, T3.tMake, T3.sFld, T3.tYes, T3.iAny, T3.tFor, T3.iRng1, T3.iRng2, T3.iEnum, T3.tLc, T3.tLcM, T3.tLc2, T3.wipeD, T3.allR, T3.tSl, T3.tNoPart, T3.tPart, T3.slR, T3.gSub, T3.tRevD, T3.tBreak, T3.tCont, T3.tFrz, T3.startD, T3.fnEnds, T3.tab_ii, T3.tab_ib, T3.tab_ss, T3.tab_ll, T3.tab_lt, T3.tab_tl, T3.tab_tt, Bool.or_true, Bool.true_or, eq_self, List.map_cons, List.map_nil, List.length_cons, List.length_nil, List.cons_append, List.nil_append, List.getElem?_cons_zero, List.getElem?_cons_succ, List.getElem?_nil, List.set_cons_zero, List.set_cons_succ, List.replicate, Nat.sub_self, Nat.reduceAdd, Nat.reduceSub, ite_true, ite_false, if_true, if_false, Bool.not_true, Bool.not_false, reduceCtorEq, Bool.false_eq_true, ↓reduceIte, true_and, and_true, wD, T3.insOf, w_st, w_gd, w_sp]
  refine ix0 _ _ _ ?_
  refine neR_int ?_
  simp only [eqD_int, T3.nat_ofNat, decide_true, Bool.not_true, Bool.not_false, Bool.false_eq_true, eq_self, ↓reduceIte, true_and, and_true]
  refine ix1 _ _ _ ?_
  refine ⟨sortOk_ints _, ?_⟩
  rw [sort_good (good_sub hT)]
  simp only [T3.tupR, T3.seqOf]
  refine neR_tup (ok_ints _) (ok_ints _) ?_
  have e1 := eqD_refl (n := 40) (d := .tup (g.map .int)) (ok_ints _)
  simp only [e1, T3.nat_ofNat, decide_true, Bool.not_true, Bool.not_false, Bool.false_eq_true, eq_self, ↓reduceIte, true_and, and_true]
  refine ⟨n, g, r, rfl, wt, ?_⟩
  refine neR_tup (ok_rs w.2.2.2.1) (ok_rs w.2.2.2.1) ?_
  have e2 := eqD_refl (n := 40) (d := .tup ((r.map nr).map rD)) (ok_rs w.2.2.2.1)
  simp only [e2, T3.nat_ofNat, decide_true, Bool.not_true, Bool.not_false, Bool.false_eq_true, eq_self, ↓reduceIte, true_and, and_true]
  exact st10 hE ok hR hT hT' hS
end K50

/-! k50: the reading of law, stages 0 to 8. -/
namespace K50
open PySem PySem.Spec L2 T3
open PyProof.Rows hiding St

def stD (x : Addr × Rule) : D := .tup [.int x.2.one, .ref x.1, .tup (namesD x.2.bar), .int x.2.two]
def oddL (r : Rule) : List Str := needL r ++ [("odd" : Str)]
def rule2 (r : Rule) : Rule := ⟨r.one, oddL r, r.bar, r.two⟩
def oddR : Rule := ⟨0, [("odd" : Str)], [], 0⟩
structure HQ (h : AH) (b : Addr) (g s : Int) (prs : List (Addr × List Str)) : Prop where
  hb : h b = some (bx g s)
  hq : ∀ x ∈ prs, h x.1 = some (.lst (namesD x.2))
  nd : (b :: prs.map (·.1)).Nodup
theorem HQ.new {h : AH} {b q : Addr} {g s : Int} {prs : List (Addr × List Str)} {L : List Str} (H : HQ h b g s prs) (hq : h q = none) : HQ (ud h q (.lst (namesD L))) b g s (prs ++ [(q, L)]) := by
  have nb : b ≠ q := fun z => by have := H.hb; rw [z, hq] at this; cases this
  have nq : ∀ x ∈ prs, x.1 ≠ q := fun x hx z => by have := H.hq x hx; rw [z, hq] at this; cases this
  refine ⟨by rw [ud_ne nb]; exact H.hb, fun x hx => ?_, ?_⟩
  · rcases List.mem_append.mp hx with hx | hx
    · rw [ud_ne (nq x hx)]; exact H.hq x hx
    · have : x = (q, L) := by simpa using hx
      subst this; exact ud_same
  · rw [List.map_append, ← List.cons_append, List.nodup_append]
    refine ⟨H.nd, by simp, fun a ha c hc => ?_⟩
    have : c = q := by simpa using hc
    subst this
    rcases List.mem_cons.mp ha with e | e
    · rw [e]; exact nb
    · obtain ⟨x, hx, rfl⟩ := List.mem_map.mp e
      exact nq x hx
structure HP (h : AH) (b p5 p6 : Addr) (g s : Int) (sl gl : List D) (prs : List (Addr × List Str)) : Prop where
  hb : h b = some (bx g s)
  h5 : h p5 = some (.lst sl)
  h6 : h p6 = some (.lst gl)
  hq : ∀ x ∈ prs, h x.1 = some (.lst (namesD x.2))
  n1 : b ≠ p5
  n2 : b ≠ p6
  n3 : p5 ≠ p6
  n4 : ∀ x ∈ prs, x.1 ≠ b ∧ x.1 ≠ p5 ∧ x.1 ≠ p6
  nd : (prs.map (·.1)).Nodup
theorem HQ.two {h : AH} {b p5 p6 : Addr} {g s : Int} {sl gl : List D} {prs : List (Addr × List Str)} (H : HQ h b g s prs) (e5 : h p5 = none) (e6 : ud h p5 (.lst sl) p6 = none) : HP (ud (ud h p5 (.lst sl)) p6 (.lst gl)) b p5 p6 g s sl gl prs := by
  have n3 : p5 ≠ p6 := fun z => by rw [← z, ud_same] at e6; cases e6
  have e6' : h p6 = none := by rw [ud_ne n3.symm] at e6; exact e6
  have n1 : b ≠ p5 := fun z => by have := H.hb; rw [z, e5] at this; cases this
  have n2 : b ≠ p6 := fun z => by have := H.hb; rw [z, e6'] at this; cases this
  have n5 : ∀ x ∈ prs, x.1 ≠ p5 := fun x hx z => by have := H.hq x hx; rw [z, e5] at this; cases this
  have n6 : ∀ x ∈ prs, x.1 ≠ p6 := fun x hx z => by have := H.hq x hx; rw [z, e6'] at this; cases this
  have nd := List.nodup_cons.mp H.nd
  exact ⟨by rw [ud_ne n2, ud_ne n1]; exact H.hb, by rw [ud_ne n3, ud_same], ud_same, fun x hx => by rw [ud_ne (n6 x hx), ud_ne (n5 x hx)]; exact H.hq x hx, n1, n2, n3,
    fun x hx => ⟨fun z => nd.1 (List.mem_map.mpr ⟨x, hx, z⟩), n5 x hx, n6 x hx⟩, nd.2⟩
theorem HP.s5 {h : AH} {b p5 p6 : Addr} {g s : Int} {sl sl' gl : List D} {prs : List (Addr × List Str)} (H : HP h b p5 p6 g s sl gl prs) : HP (ud h p5 (.lst sl')) b p5 p6 g s sl' gl prs :=
  ⟨by rw [ud_ne H.n1]; exact H.hb, ud_same, by rw [ud_ne H.n3.symm]; exact H.h6, fun x hx => by rw [ud_ne (H.n4 x hx).2.1]; exact H.hq x hx, H.n1, H.n2, H.n3, H.n4, H.nd⟩
theorem HP.s6 {h : AH} {b p5 p6 : Addr} {g s : Int} {sl gl gl' : List D} {prs : List (Addr × List Str)} (H : HP h b p5 p6 g s sl gl prs) : HP (ud h p6 (.lst gl')) b p5 p6 g s sl gl' prs :=
  ⟨by rw [ud_ne H.n2]; exact H.hb, by rw [ud_ne H.n3]; exact H.h5, ud_same, fun x hx => by rw [ud_ne (H.n4 x hx).2.2]; exact H.hq x hx, H.n1, H.n2, H.n3, H.n4, H.nd⟩
theorem HP.sq {h : AH} {b p5 p6 q : Addr} {g s : Int} {sl gl : List D} {pre post : List (Addr × List Str)} {L L' : List Str} (H : HP h b p5 p6 g s sl gl (pre ++ (q, L) :: post)) : HP (ud h q (.lst (namesD L'))) b p5 p6 g s sl gl (pre ++ (q, L') :: post) := by
  have hq := H.n4 (q, L) (by simp)
  have nd := H.nd
  rw [List.map_append, List.map_cons] at nd
  have nd2 := List.nodup_append.mp nd
  have nd3 := List.nodup_cons.mp nd2.2.1
  refine ⟨by rw [ud_ne hq.1.symm]; exact H.hb, by rw [ud_ne hq.2.1.symm]; exact H.h5, by rw [ud_ne hq.2.2.symm]; exact H.h6, fun x hx => ?_, H.n1, H.n2, H.n3, fun x hx => ?_, by rw [List.map_append, List.map_cons]; exact nd⟩
  · rcases List.mem_append.mp hx with hx | hx
    · have : x.1 ≠ q := nd2.2.2 x.1 (List.mem_map.mpr ⟨x, hx, rfl⟩) q (List.mem_cons_self ..)
      rw [ud_ne this]; exact H.hq x (List.mem_append.mpr (.inl hx))
    · rcases List.mem_cons.mp hx with e | hx
      · subst e; exact ud_same
      · have : x.1 ≠ q := fun z => nd3.1 (z ▸ List.mem_map.mpr ⟨x, hx, rfl⟩)
        rw [ud_ne this]; exact H.hq x (List.mem_append.mpr (.inr (List.mem_cons_of_mem _ hx)))
  · rcases List.mem_append.mp hx with hx | hx
    · exact H.n4 x (List.mem_append.mpr (.inl hx))
    · rcases List.mem_cons.mp hx with e | hx
      · subst e; exact hq
      · exact H.n4 x (List.mem_append.mpr (.inr (List.mem_cons_of_mem _ hx)))
theorem seq_ref {h : AH} {p : Addr} {l : List D} (e : h p = some (.lst l)) : seqOf h (.ref p) = some l := by
  show (match h p with | some (.lst l) => some l | _ => none) = _
  rw [e]
theorem steps_q {h : AH} {f : Rule → List Str} : ∀ {ps : List (Addr × Rule)}, (∀ x ∈ ps, h x.1 = some (.lst (namesD (f x.2)))) → stepsAre h (ps.map stD) (ps.map fun x => ⟨x.2.one, f x.2, x.2.bar, x.2.two⟩)
  | [], _ => trivial
  | x :: ps, hq => ⟨⟨.ref x.1, .tup (namesD x.2.bar), rfl, seq_ref (hq x (List.mem_cons_self ..)), rfl⟩, steps_q fun y hy => hq y (List.mem_cons_of_mem _ hy)⟩
theorem steps_app {h : AH} : ∀ {sl sm : List D} {rs rm : List Rule}, stepsAre h sl rs → stepsAre h sm rm → stepsAre h (sl ++ sm) (rs ++ rm)
  | [], _, [], _, _, q => q
  | [], _, _ :: _, _, q, _ => q.elim
  | _ :: _, _, [], _, q, _ => q.elim
  | _ :: _, _, _ :: _, _, q, q' => ⟨q.1, steps_app q.2 q'⟩
theorem needL_len {rings : List Str} {n : Int} {g : List Int} {r : List Rule} (h : toldOk rings n g r) : ∀ x ∈ r, (needL x).length ≤ 8 := fun x hx => by
  have := (h.2.2 x hx).2.2.2.2.1
  unfold needL
  rw [List.length_append, List.length_reverse]; omega
theorem needL_ok {rings : List Str} {n : Int} {g : List Int} {r : List Rule} (hR : ringsOk rings) (h : toldOk rings n g r) : ∀ x ∈ r, ∀ y ∈ needL x, nameOk y = true := fun x hx y hy => by
  have := (h.2.2 x hx).2.2.1
  unfold needL at hy
  rcases List.mem_append.mp hy with z | z
  · exact hR.2.2 y (this y z)
  · exact hR.2.2 y (this y (List.mem_reverse.mp z))
theorem odd_ok : nameOk ("odd" : Str) = true := by decide +kernel
theorem rule2_ok {rings : List Str} {n : Int} {g : List Int} {r : List Rule} (hR : ringsOk rings) (h : toldOk rings n g r) : ∀ x ∈ r, ruleOk n (rule2 x) := fun x hx => by
  obtain ⟨a1, a2, a3, a4, a5, a6⟩ := h.2.2 x hx
  have := needL_len h x hx
  refine ⟨a1, a2, fun y hy => ?_, fun y hy => hR.2.2 y (a4 y hy), ?_, Nat.le_trans a6 (by decide)⟩
  · rcases List.mem_append.mp hy with z | z
    · exact needL_ok hR h x hx y z
    · exact name1 odd_ok y z
  · show (needL x ++ _).length ≤ 100
    rw [List.length_append]; show _ + 1 ≤ 100; omega
theorem rule1_ok {rings : List Str} {n : Int} {g : List Int} {r : List Rule} (hR : ringsOk rings) (h : toldOk rings n g r) : ∀ x ∈ r, ruleOk n (rule1 x) := fun x hx => by
  obtain ⟨a1, a2, a3, a4, a5, a6⟩ := h.2.2 x hx
  have := needL_len h x hx
  exact ⟨a1, a2, needL_ok hR h x hx, fun y hy => hR.2.2 y (a4 y hy), by show (needL x).length ≤ 100; omega, Nat.le_trans a6 (by decide)⟩
/-- 8: steps.append(..) -/
theorem st8 {C b p5 p6 : Addr} {E : EndsD} {h1 : AH} {gb sb : Int} {gl : List D} {rings : List Str} {n n' : Int} {g g' : List Int} {r r' : List Rule} {ps : List (Addr × Rule)} {a0 a9 a10 a11 a12 a13 a14 a15 a16 a17 a18 a19 a20 a21 : Option D}
    (hE : ∀ h', E.rt (.bl true) h') (ok : BoxOk gb sb) (hR : ringsOk rings) (hT : toldOk rings n g r) (hT' : toldOk rings n' g' r') (hp : ps.map (·.2) = r) (H : HP h1 b p5 p6 gb sb (ps.map stD) gl (ps.map fun x => (x.1, oddL x.2))) :
    law8 C E [a0, some (.ref b), some (.lst (namesD rings)), some (toldD n g r), some (toldD n' g' r'), some (.ref p5), some (.ref p6), some (wD C n g (r.map nr)), some (wD C n' g' (r'.map nr)), a9, a10, a11, a12, a13, a14, a15, a16, a17, a18, a19, a20, a21] h1 := by
  have hl : ps.length ≤ 4 := by rw [← hp] at hT; have := hT.2.1; rw [List.length_map] at this; exact this
  have hn := told_n hT
  simp only [law8, T3.tRet, T3.tRetN, T3.tSeq, T3.tNext, T3.tAsg, T3.gName, T3.gTupN, T3.gList, T3.tVar, T3.tC, T3.tOp, T3.tNotV, T3.tAndV, T3.tOrV, T3.tB, T3.tAnd, T3.tOr, T3.tNot, T3.tIf, T3.tIfS, T3.tCall, T3.tCB, T3.tCons, T3.tNil, T3.tIsi, T3.ordR, T3.intR, T3.absR, T3.intR1, T3.tChain, T3.tTup, T3.tLst, T3.tLstM, T3.tNever, T3.tDrop, T3.appR, T3.extR, T3.popR, T3.tFld, T3.insOf, T3.tMeth, T3.tMake, T3.sFld, T3.tYes, T3.iAny, T3.tFor, T3.iRng1, T3.iRng2, T3.iEnum, T3.tLc, T3.tLcM, T3.tLc2, T3.wipeD, T3.allR, T3.tSl, T3.tNoPart, T3.tPart, T3.slR, T3.gSub, T3.tRevD, T3.tBreak, T3.tCont, T3.tFrz, T3.startD, T3.fnEnds, T3.tab_ii, T3.tab_ib, T3.tab_ss, T3.tab_ll, T3.tab_lt, T3.tab_tl, T3.tab_tt, Bool.or_true, Bool.true_or, eq_self, List.map_cons, List.map_nil, List.length_cons, List.length_nil, List.cons_append, List.nil_append, List.getElem?_cons_zero, List.getElem?_cons_succ, List.getElem?_nil, List.set_cons_zero, List.set_cons_succ, List.replicate, Nat.sub_self, Nat.reduceAdd, Nat.reduceSub, ite_true, ite_false, if_true, if_false, Bool.not_true, Bool.not_false, reduceCtorEq, Bool.false_eq_true, ↓reduceIte, true_and, and_true, T3.tBM, T3.isTy, T3.slOf, H.h5, Option.isSome]
  refine ⟨sl65' (by decide), sl65' (by decide), sl65' (by decide), by rw [List.length_map]; exact sl65 (by omega), ?_⟩
  have H' := H.s5 (sl' := ps.map stD ++ [.tup [.int 0, .lst [.str "odd"], .lst [], .int 0]])
  have eh : ud (ud h1 p5 (.lst (ps.map stD ++ [.tup [.int 0, .lst [.str "odd"], .lst [], .int 0]]))) b (bx gb sb) = ud h1 p5 (.lst (ps.map stD ++ [.tup [.int 0, .lst [.str "odd"], .lst [], .int 0]])) := by
    funext a
    by_cases ha : a = b
    · subst ha; rw [ud_same, H'.hb]
    · rw [ud_ne ha]
  rw [← eh]
  refine st9 hE ok hR hT hT' fun g2 s2 => ?_
  refine ⟨_, (ps.map fun x => ⟨x.2.one, oddL x.2, x.2.bar, x.2.two⟩) ++ [oddR], seq_ref (by rw [ud_ne H'.n1.symm]; exact H'.h5), steps_app (sm := [.tup [.int 0, .lst [.str "odd"], .lst [], .int 0]]) (rm := [oddR]) (steps_q fun x hx => ?_) ⟨⟨_, _, rfl, rfl, rfl⟩, trivial⟩, fun x hx => ?_, ?_⟩
  · have := H'.n4 (x.1, oddL x.2) (List.mem_map.mpr ⟨x, hx, rfl⟩)
    rw [ud_ne this.1]
    exact H'.hq (x.1, oddL x.2) (List.mem_map.mpr ⟨x, hx, rfl⟩)
  · rcases List.mem_append.mp hx with hx | hx
    · obtain ⟨y, hy, rfl⟩ := List.mem_map.mp hx
      exact rule2_ok hR hT y.2 (by rw [← hp]; exact List.mem_map.mpr ⟨y, hy, rfl⟩)
    · have : x = oddR := by simpa using hx
      rw [this]
      exact ruleOk_of (by decide) (by omega) (by decide) (by omega) (name1 odd_ok) name0 len1 len0
  · rw [List.length_append, List.length_map]; show _ + 1 ≤ 100; omega
/-- 7: good.append(0) -/
theorem st7 {C b p5 p6 : Addr} {E : EndsD} {h1 : AH} {gb sb : Int} {gl : List D} {rings : List Str} {n n' : Int} {g g' : List Int} {r r' : List Rule} {ps : List (Addr × Rule)} {a0 a9 a10 a11 a12 a13 a14 a15 a16 a17 a18 a19 a20 a21 : Option D}
    (hE : ∀ h', E.rt (.bl true) h') (ok : BoxOk gb sb) (hR : ringsOk rings) (hT : toldOk rings n g r) (hT' : toldOk rings n' g' r') (hp : ps.map (·.2) = r) (hg : gl.length ≤ 10) (H : HP h1 b p5 p6 gb sb (ps.map stD) gl (ps.map fun x => (x.1, oddL x.2))) :
    law7 C E [a0, some (.ref b), some (.lst (namesD rings)), some (toldD n g r), some (toldD n' g' r'), some (.ref p5), some (.ref p6), some (wD C n g (r.map nr)), some (wD C n' g' (r'.map nr)), a9, a10, a11, a12, a13, a14, a15, a16, a17, a18, a19, a20, a21] h1 := by
  simp only [law7, T3.tRet, T3.tRetN, T3.tSeq, T3.tNext, T3.tAsg, T3.gName, T3.gTupN, T3.gList, T3.tVar, T3.tC, T3.tOp, T3.tNotV, T3.tAndV, T3.tOrV, T3.tB, T3.tAnd, T3.tOr, T3.tNot, T3.tIf, T3.tIfS, T3.tCall, T3.tCB, T3.tCons, T3.tNil, T3.tIsi, T3.ordR, T3.intR, T3.absR, T3.intR1, T3.tChain, T3.tTup, T3.tLst, T3.tLstM, T3.tNever, T3.tDrop, T3.appR, T3.extR, T3.popR, T3.tFld, T3.insOf, T3.tMeth, T3.tMake, T3.sFld, T3.tYes, T3.iAny, T3.tFor, T3.iRng1, T3.iRng2, T3.iEnum, T3.tLc, T3.tLcM, T3.tLc2, T3.wipeD, T3.allR, T3.tSl, T3.tNoPart, T3.tPart, T3.slR, T3.gSub, T3.tRevD, T3.tBreak, T3.tCont, T3.tFrz, T3.startD, T3.fnEnds, T3.tab_ii, T3.tab_ib, T3.tab_ss, T3.tab_ll, T3.tab_lt, T3.tab_tl, T3.tab_tt, Bool.or_true, Bool.true_or, eq_self, List.map_cons, List.map_nil, List.length_cons, List.length_nil, List.cons_append, List.nil_append, List.getElem?_cons_zero, List.getElem?_cons_succ, List.getElem?_nil, List.set_cons_zero, List.set_cons_succ, List.replicate, Nat.sub_self, Nat.reduceAdd, Nat.reduceSub, ite_true, ite_false, if_true, if_false, Bool.not_true, Bool.not_false, reduceCtorEq, Bool.false_eq_true, ↓reduceIte, true_and, and_true, T3.tBM, T3.isTy, T3.slOf, H.h6, Option.isSome]
  refine ⟨sl65 (by omega), ?_⟩
  exact st8 hE ok hR hT hT' hp H.s6
/-- 6: need.append('odd') -/
theorem st6 {C b p5 p6 : Addr} {E : EndsD} {h1 : AH} {gb sb : Int} {gl : List D} {rings : List Str} {n n' : Int} {g g' : List Int} {r r' : List Rule} {ps : List (Addr × Rule)} {a0 a9 a10 a11 a12 a13 a14 a15 a16 a17 a18 a19 a20 a21 : Option D}
    (hE : ∀ h', E.rt (.bl true) h') (ok : BoxOk gb sb) (hR : ringsOk rings) (hT : toldOk rings n g r) (hT' : toldOk rings n' g' r') (hp : ps.map (·.2) = r) (hg : gl.length ≤ 10) (H : HP h1 b p5 p6 gb sb (ps.map stD) gl (ps.map fun x => (x.1, needL x.2))) :
    law6 C E [a0, some (.ref b), some (.lst (namesD rings)), some (toldD n g r), some (toldD n' g' r'), some (.ref p5), some (.ref p6), some (wD C n g (r.map nr)), some (wD C n' g' (r'.map nr)), a9, a10, a11, a12, a13, a14, a15, a16, a17, a18, a19, a20, a21] h1 := by
  have it : ∀ {h : AH} {prs : List (Addr × List Str)}, HP h b p5 p6 gb sb (ps.map stD) gl prs → itOf h (.ref p5) = some (ps.map stD) := fun H => itOf_seq (seq_ref H.h5)
  simp only [law6, T3.tSeq, T3.tFor, T3.iAny, T3.tVar, List.getElem?_cons_zero, List.getElem?_cons_succ, it H]
  refine forL_inv (I := fun l σ h1 => ∃ done rest a9 a10 a11 a12, l = List.map stD rest ∧ σ = [a0, some (.ref b), some (.lst (namesD rings)), some (toldD n g r), some (toldD n' g' r'), some (.ref p5), some (.ref p6), some (wD C n g (r.map nr)), some (wD C n' g' (r'.map nr)), a9, a10, a11, a12, a13, a14, a15, a16, a17, a18, a19, a20, a21] ∧ done ++ rest = ps ∧
    HP h1 b p5 p6 gb sb (ps.map stD) gl ((done.map fun x => (x.1, oddL x.2)) ++ rest.map fun x => (x.1, needL x.2))) ?_ ?_ (gNames_mono (is := [9, 10, 11, 12]) (n := 4)) ?_ _ ⟨[], ps, a9, a10, a11, a12, rfl, rfl, rfl, H⟩
  · rintro l σ h1 ⟨done, rest, a9, a10, a11, a12, rfl, rfl, _, H⟩
    exact it H
  · rintro x xs σ h1 ⟨done, rest, a9, a10, a11, a12, e0, rfl, e2, H⟩
    cases rest with
    | nil => cases e0
    | cons y rest =>
      cases e0
      have hy : h1 y.1 = some (.lst (namesD (needL y.2))) := H.hq (y.1, needL y.2) (by simp)
      have ly := needL_len hT y.2 (by rw [← hp, ← e2]; simp)
      simp only [g2_law, b3_law, stD, T3.tRet, T3.tRetN, T3.tSeq, T3.tNext, T3.tAsg, T3.gName, T3.gTupN, T3.gList, T3.tVar, T3.tC, T3.tOp, T3.tNotV, T3.tAndV, T3.tOrV, T3.tB, T3.tAnd, T3.tOr, T3.tNot, T3.tIf, T3.tIfS, T3.tCall, T3.tCB, T3.tCons, T3.tNil, T3.tIsi, T3.ordR, T3.intR, T3.absR, T3.intR1, T3.tChain, T3.tTup, T3.tLst, T3.tLstM, T3.tNever, T3.tDrop, T3.appR, T3.extR, T3.popR, T3.tFld, T3.insOf, T3.tMeth, T3.tMake, T3.sFld, T3.tYes, T3.iAny, T3.tFor, T3.iRng1, T3.iRng2, T3.iEnum, T3.tLc, T3.tLcM, T3.tLc2, T3.wipeD, T3.allR, T3.tSl, T3.tNoPart, T3.tPart, T3.slR, T3.gSub, T3.tRevD, T3.tBreak, T3.tCont, T3.tFrz, T3.startD, T3.fnEnds, T3.tab_ii, T3.tab_ib, T3.tab_ss, T3.tab_ll, T3.tab_lt, T3.tab_tl, T3.tab_tt, Bool.or_true, Bool.true_or, eq_self, List.map_cons, List.map_nil, List.length_cons, List.length_nil, List.cons_append, List.nil_append, List.getElem?_cons_zero, List.getElem?_cons_succ, List.getElem?_nil, List.set_cons_zero, List.set_cons_succ, List.replicate, Nat.sub_self, Nat.reduceAdd, Nat.reduceSub, ite_true, ite_false, if_true, if_false, Bool.not_true, Bool.not_false, reduceCtorEq, Bool.false_eq_true, ↓reduceIte, true_and, and_true, T3.tBM, T3.isTy, T3.slOf, hy, Option.isSome]
      intro E' _ _ e3 _
      refine ⟨by rw [namesD, List.length_map]; exact sl65 (by omega), ?_⟩
      have en : namesD (needL y.2) ++ [.str "odd"] = namesD (oddL y.2) := by
        unfold namesD oddL
        rw [List.map_append]; rfl
      rw [en]
      refine e3 _ _ ⟨done ++ [y], rest, _, _, _, _, rfl, rfl, by rw [List.append_assoc]; exact e2, ?_⟩
      rw [List.map_cons] at H
      have H' := H.sq (L' := oddL y.2)
      rw [List.map_append, List.append_assoc]
      exact H'
  · rintro σ h1 ⟨done, rest, a9, a10, a11, a12, e0, rfl, e2, H⟩
    cases rest with
    | nil =>
      rw [List.append_nil] at e2
      rw [List.map_nil, List.append_nil, e2] at H
      exact st7 hE ok hR hT hT' hp hg H
    | cons y rest => cases e0
/-- 5: the two Wishes -/
theorem st5 {C b p5 p6 : Addr} {E : EndsD} {h1 : AH} {gb sb : Int} {rings : List Str} {n n' : Int} {g g' : List Int} {r r' : List Rule} {ps : List (Addr × Rule)} {a0 a7 a8 a9 a10 a11 a12 a13 a14 a15 a16 a17 a18 a19 a20 a21 : Option D}
    (hE : ∀ h', E.rt (.bl true) h') (ok : BoxOk gb sb) (hR : ringsOk rings) (hT : toldOk rings n g r) (hT' : toldOk rings n' g' r') (hp : ps.map (·.2) = r) (H : HP h1 b p5 p6 gb sb (ps.map stD) ((g ++ g.take 1).map .int) (ps.map fun x => (x.1, needL x.2))) :
    law5 C E [a0, some (.ref b), some (.lst (namesD rings)), some (toldD n g r), some (toldD n' g' r'), some (.ref p5), some (.ref p6), a7, a8, a9, a10, a11, a12, a13, a14, a15, a16, a17, a18, a19, a20, a21] h1 := by
  have wt := (told_sm hR hT).2.1
  have wt' := (told_sm hR hT').2.1
  have lg : (g ++ g.take 1).length ≤ 4 := by
    have := sub_len (good_sub hT)
    rw [List.length_append, List.length_take]; omega
  have w1 : wOk n (g ++ g.take 1) (r.map rule1) := ⟨wt.1, fun i hi => by
    rcases List.mem_append.mp hi with z | z
    · exact wt.2.1 i z
    · exact wt.2.1 i (List.mem_of_mem_take z), by omega, fun x hx => by
    obtain ⟨y, hy, rfl⟩ := List.mem_map.mp hx
    exact rule1_ok hR hT y hy, by rw [List.length_map]; exact wt.2.2.2.2⟩
  have sa : stepsAre h1 (ps.map stD) (r.map rule1) := by
    have := steps_q (h := h1) (f := needL) (ps := ps) fun x hx => H.hq (x.1, needL x.2) (List.mem_map.mpr ⟨x, hx, rfl⟩)
    rw [← hp, List.map_map]
    exact this
  simp only [law5, T3.tRet, T3.tRetN, T3.tSeq, T3.tNext, T3.tAsg, T3.gName, T3.gTupN, T3.gList, T3.tVar, T3.tC, T3.tOp, T3.tNotV, T3.tAndV, T3.tOrV, T3.tB, T3.tAnd, T3.tOr, T3.tNot, T3.tIf, T3.tIfS, T3.tCall, T3.tCB, T3.tCons, T3.tNil, T3.tIsi, T3.ordR, T3.intR, T3.absR, T3.intR1, T3.tChain, T3.tTup, T3.tLst, T3.tLstM, T3.tNever, T3.tDrop, T3.appR, T3.extR, T3.popR, T3.tFld, T3.insOf, T3.tMeth, T3.tMake, T3.sFld, T3.tYes, T3.iAny, T3.tFor, T3.iRng1, T3.iRng2, T3.iEnum, T3.tLc, T3.tLcM, T3.tLc2, T3.wipeD, T3.allR, T3.tSl, T3.tNoPart, T3.tPart, T3.slR, T3.gSub, T3.tRevD, T3.tBreak, T3.tCont, T3.tFrz, T3.startD, T3.fnEnds, T3.tab_ii, T3.tab_ib, T3.tab_ss, T3.tab_ll, T3.tab_lt, T3.tab_tl, T3.tab_tt, Bool.or_true, Bool.true_or, eq_self, List.map_cons, List.map_nil, List.length_cons, List.length_nil, List.cons_append, List.nil_append, List.getElem?_cons_zero, List.getElem?_cons_succ, List.getElem?_nil, List.set_cons_zero, List.set_cons_succ, List.replicate, Nat.sub_self, Nat.reduceAdd, Nat.reduceSub, ite_true, ite_false, if_true, if_false, Bool.not_true, Bool.not_false, reduceCtorEq, Bool.false_eq_true, ↓reduceIte, true_and, and_true]
  refine ix0 _ _ _ ?_
  intro x hx
  refine ⟨x, .int n, .ref p6, .ref p5, rfl, mk_at (good := g ++ g.take 1) (rs := r.map rule1) hx (seq_ref H.h6) (seq_ref H.h5) sa w1 ?_⟩
  simp only [ud_same, er_ud hx, T3.nat_ofNat, decide_true, Bool.not_true, Bool.not_false, Bool.false_eq_true, eq_self, ↓reduceIte, true_and, and_true]
  refine ix0 _ _ _ ?_
  refine ix1 _ _ _ ?_
  simp only [T3.tupR, T3.seqOf]
  refine ix2 _ _ _ ?_
  simp only [T3.tupR, T3.seqOf]
  intro x' hx'
  refine mk_at (g := .tup (g'.map .int)) (st := .tup (r'.map sD)) (good := g') (rs := r') hx' rfl rfl (stepsAre_sD r') wt' ?_
  simp only [ud_same, er_ud hx', T3.nat_ofNat, decide_true, Bool.not_true, Bool.not_false, Bool.false_eq_true, eq_self, ↓reduceIte, true_and, and_true]
  refine ⟨sl65' (by decide), ?_⟩
  rw [asc_good1 (good_sub hT), nr_rules1, asc_good (good_sub hT')]
  exact st6 hE ok hR hT hT' hp (by rw [List.length_map]; omega) H
theorem cut_one (g : List Int) : cutL (g.map D.int) none (some 1) = (g.take 1).map D.int := by
  have := cut_take' (l := g.map D.int) 1
  rw [← List.map_take] at this
  exact this
/-- 3, 4: steps, good -/
theorem st3 {C b : Addr} {E : EndsD} {h1 : AH} {gb sb : Int} {rings : List Str} {n n' : Int} {g g' : List Int} {r r' : List Rule} {a0 a5 a6 a7 a8 a9 a10 a11 a12 a13 a14 a15 a16 a17 a18 a19 a20 a21 : Option D}
    (hE : ∀ h', E.rt (.bl true) h') (ok : BoxOk gb sb) (hR : ringsOk rings) (hT : toldOk rings n g r) (hT' : toldOk rings n' g' r') :
    law3 C E [a0, some (.ref b), some (.lst (namesD rings)), some (toldD n g r), some (toldD n' g' r'), a5, a6, a7, a8, a9, a10, a11, a12, a13, a14, a15, a16, a17, a18, a19, a20, a21] (ud h1 b (bx gb sb)) := by
  simp only [law3, T3.tRet, T3.tRetN, T3.tSeq, T3.tNext, T3.tAsg, T3.gName, T3.gTupN, T3.gList, T3.tVar, T3.tC, T3.tOp, T3.tNotV, T3.tAndV, T3.tOrV, T3.tB, T3.tAnd, T3.tOr, T3.tNot, T3.tIf, T3.tIfS, T3.tCall, T3.tCB, T3.tCons, T3.tNil, T3.tIsi, T3.ordR, T3.intR, T3.absR, T3.intR1, T3.tChain, T3.tTup, T3.tLst, T3.tLstM, T3.tNever, T3.tDrop, T3.appR, T3.extR, T3.popR, T3.tFld, T3.insOf, T3.tMeth, T3.tMake, T3.sFld, T3.tYes, T3.iAny, T3.tFor, T3.iRng1, T3.iRng2, T3.iEnum, T3.tLc, T3.tLcM, T3.tLc2, T3.wipeD, T3.allR, T3.tSl, T3.tNoPart, T3.tPart, T3.slR, T3.gSub, T3.tRevD, T3.tBreak, T3.tCont, T3.tFrz, T3.startD, T3.fnEnds, T3.tab_ii, T3.tab_ib, T3.tab_ss, T3.tab_ll, T3.tab_lt, T3.tab_tl, T3.tab_tt, Bool.or_true, Bool.true_or, eq_self, List.map_cons, List.map_nil, List.length_cons, List.length_nil, List.cons_append, List.nil_append, List.getElem?_cons_zero, List.getElem?_cons_succ, List.getElem?_nil, List.set_cons_zero, List.set_cons_succ, List.replicate, Nat.sub_self, Nat.reduceAdd, Nat.reduceSub, ite_true, ite_false, if_true, if_false, Bool.not_true, Bool.not_false, reduceCtorEq, Bool.false_eq_true, ↓reduceIte, true_and, and_true]
  refine ix2 _ _ _ ?_
  simp only [T3.itOf, T3.seqOf]
  refine lcL_inv (I := fun l acc h2 => ∃ (ps : List (Addr × Rule)) (rest : List Rule), l = List.map sD rest ∧ acc = ps.map stD ∧ ps.map (·.2) ++ rest = r ∧ HQ h2 b gb sb (ps.map fun x => (x.1, needL x.2))) (fun _ _ _ _ => trivial) ?_ ?_ _ ⟨[], r, rfl, rfl, rfl, ⟨ud_same, (fun _ h => by cases h), by simp⟩⟩
  · rintro x xs acc h2 ⟨ps, rest, e0, rfl, e2, H⟩ F hF
    match rest, e0 with
    | y :: rest, e0 =>
      cases e0
      have hy : y ∈ r := by rw [← e2]; simp
      have ly := (hT.2.2 y hy).2.2.2.2.1
      have lp : ps.length ≤ 4 := by
        have h1 := hT.2.1
        have h2 := congrArg List.length e2
        rw [List.length_append, List.length_map] at h2
        omega
      simp only [g0_law, e1_law, sD, T3.tRet, T3.tRetN, T3.tSeq, T3.tNext, T3.tAsg, T3.gName, T3.gTupN, T3.gList, T3.tVar, T3.tC, T3.tOp, T3.tNotV, T3.tAndV, T3.tOrV, T3.tB, T3.tAnd, T3.tOr, T3.tNot, T3.tIf, T3.tIfS, T3.tCall, T3.tCB, T3.tCons, T3.tNil, T3.tIsi, T3.ordR, T3.intR, T3.absR, T3.intR1, T3.tChain, T3.tTup, T3.tLst, T3.tLstM, T3.tNever, T3.tDrop, T3.appR, T3.extR, T3.popR, T3.tFld, T3.insOf, T3.tMeth, T3.tMake, T3.sFld, T3.tYes, T3.iAny, T3.tFor, T3.iRng1, T3.iRng2, T3.iEnum, T3.tLc, T3.tLcM, T3.tLc2, T3.wipeD, T3.allR, T3.tSl, T3.tNoPart, T3.tPart, T3.slR, T3.gSub, T3.tRevD, T3.tBreak, T3.tCont, T3.tFrz, T3.startD, T3.fnEnds, T3.tab_ii, T3.tab_ib, T3.tab_ss, T3.tab_ll, T3.tab_lt, T3.tab_tl, T3.tab_tt, Bool.or_true, Bool.true_or, eq_self, List.map_cons, List.map_nil, List.length_cons, List.length_nil, List.cons_append, List.nil_append, List.getElem?_cons_zero, List.getElem?_cons_succ, List.getElem?_nil, List.set_cons_zero, List.set_cons_succ, List.replicate, Nat.sub_self, Nat.reduceAdd, Nat.reduceSub, ite_true, ite_false, if_true, if_false, Bool.not_true, Bool.not_false, reduceCtorEq, Bool.false_eq_true, ↓reduceIte, true_and, and_true, T3.addM, T3.lstOf, T3.slOf, T3.tupR, T3.seqOf]
      refine ⟨by rw [List.length_reverse, namesD, List.length_map]; exact sl65' (by omega), fun q hq => ?_⟩
      have en : namesD y.need ++ (namesD y.need).reverse = namesD (needL y) := by
        unfold namesD needL
        rw [List.map_append, List.map_reverse]
      rw [en]
      refine ⟨sl65' (by decide), by rw [List.length_map]; exact sl65 (by omega), ?_⟩
      refine hF _ _ ⟨ps ++ [(q, y)], rest, rfl, by rw [List.map_append]; rfl, by rw [List.map_append, List.append_assoc]; exact e2, ?_⟩
      rw [List.map_append]
      exact H.new hq
    | [], e0 => cases e0
  · rintro acc h2 ⟨ps, rest, e0, rfl, e2, H⟩
    match rest, e0 with
    | [], _ =>
      rw [List.append_nil] at e2
      intro p5 hp5
      simp only [law4, T3.tRet, T3.tRetN, T3.tSeq, T3.tNext, T3.tAsg, T3.gName, T3.gTupN, T3.gList, T3.tVar, T3.tC, T3.tOp, T3.tNotV, T3.tAndV, T3.tOrV, T3.tB, T3.tAnd, T3.tOr, T3.tNot, T3.tIf, T3.tIfS, T3.tCall, T3.tCB, T3.tCons, T3.tNil, T3.tIsi, T3.ordR, T3.intR, T3.absR, T3.intR1, T3.tChain, T3.tTup, T3.tLst, T3.tLstM, T3.tNever, T3.tDrop, T3.appR, T3.extR, T3.popR, T3.tFld, T3.insOf, T3.tMeth, T3.tMake, T3.sFld, T3.tYes, T3.iAny, T3.tFor, T3.iRng1, T3.iRng2, T3.iEnum, T3.tLc, T3.tLcM, T3.tLc2, T3.wipeD, T3.allR, T3.tSl, T3.tNoPart, T3.tPart, T3.slR, T3.gSub, T3.tRevD, T3.tBreak, T3.tCont, T3.tFrz, T3.startD, T3.fnEnds, T3.tab_ii, T3.tab_ib, T3.tab_ss, T3.tab_ll, T3.tab_lt, T3.tab_tl, T3.tab_tt, Bool.or_true, Bool.true_or, eq_self, List.map_cons, List.map_nil, List.length_cons, List.length_nil, List.cons_append, List.nil_append, List.getElem?_cons_zero, List.getElem?_cons_succ, List.getElem?_nil, List.set_cons_zero, List.set_cons_succ, List.replicate, Nat.sub_self, Nat.reduceAdd, Nat.reduceSub, ite_true, ite_false, if_true, if_false, Bool.not_true, Bool.not_false, reduceCtorEq, Bool.false_eq_true, ↓reduceIte, true_and, and_true]
      refine ix1 _ _ _ ?_
      refine ix1 _ _ _ ?_
      simp only [T3.seqOf, T3.addM, T3.lstOf, cut_one]
      refine ⟨?_, fun p6 hp6 => ?_⟩
      · have := sub_len (good_sub hT)
        rw [List.length_map, List.length_map, List.length_take]; exact sl65' (by omega)
      · rw [← List.map_append]
        exact st5 hE ok hR hT hT' e2 (H.two hp5 hp6)
    | _ :: _, e0 => cases e0
theorem len_law (C : Addr) : ∀ ds h R, fs_law C ds h R → ds.length = (["script"] : List Str).length := by
  rintro ds h R ⟨ns, rfl, q⟩
  rfl
theorem rd_law (C : Addr) : ∀ ds h R, fs_law C ds h R → t_law C (fnEnds R) (startD N_law ds) h := by
  rintro ds h R ⟨ns, rfl, hl, q⟩
  have hE : ∀ h', (fnEnds R).rt (.bl true) h' := fun h' => out_as (q h')
  rw [law_eq]
  generalize fnEnds R = E at hE ⊢
  simp only [law0, law1, law2, N_law, T3.tRet, T3.tRetN, T3.tSeq, T3.tNext, T3.tAsg, T3.gName, T3.gTupN, T3.gList, T3.tVar, T3.tC, T3.tOp, T3.tNotV, T3.tAndV, T3.tOrV, T3.tB, T3.tAnd, T3.tOr, T3.tNot, T3.tIf, T3.tIfS, T3.tCall, T3.tCB, T3.tCons, T3.tNil, T3.tIsi, T3.ordR, T3.intR, T3.absR, T3.intR1, T3.tChain, T3.tTup, T3.tLst, T3.tLstM, T3.tNever, T3.tDrop, T3.appR, T3.extR, T3.popR, T3.tFld, T3.insOf, T3.tMeth, T3.tMake, T3.sFld, T3.tYes, T3.iAny, T3.tFor, T3.iRng1, T3.iRng2, T3.iEnum, T3.tLc, T3.tLcM, T3.tLc2, T3.wipeD, T3.allR, T3.tSl, T3.tNoPart, T3.tPart, T3.slR, T3.gSub, T3.tRevD, T3.tBreak, T3.tCont, T3.tFrz, T3.startD, T3.fnEnds, T3.tab_ii, T3.tab_ib, T3.tab_ss, T3.tab_ll, T3.tab_lt, T3.tab_tl, T3.tab_tt, Bool.or_true, Bool.true_or, eq_self, List.map_cons, List.map_nil, List.length_cons, List.length_nil, List.cons_append, List.nil_append, List.getElem?_cons_zero, List.getElem?_cons_succ, List.getElem?_nil, List.set_cons_zero, List.set_cons_succ, List.replicate, Nat.sub_self, Nat.reduceAdd, Nat.reduceSub, ite_true, ite_false, if_true, if_false, Bool.not_true, Bool.not_false, reduceCtorEq, Bool.false_eq_true, ↓reduceIte, true_and, and_true]
  refine ⟨ns, rfl, fun b hb => fun g1 s1 ok1 => ?_⟩
  refine ⟨b, 3, rfl, atBox_ud ok1, by decide, by decide, fun k k0 k1 => fun g2 s2 ok2 => ?_⟩
  simp only [ud_ud, T3.addR]
  refine ⟨b, 2 + k, rfl, atBox_ud ok2, by omega, by omega, fun rings lr rn => fun g3 s3 ok3 => ?_⟩
  simp only [ud_ud]
  have hR : ringsOk rings := ⟨fun z => by rw [z] at lr; simp at lr; omega, by omega, rn⟩
  refine ⟨b, rings, rfl, atBox_ud ok3, hR, fun n g r hT => fun g4 s4 ok4 => ?_⟩
  refine ⟨b, rings, rfl, atBox_ud ok4, hR, fun n' g' r' hT' => fun g5 s5 ok5 => ?_⟩
  simp only [ud_ud]
  refine ⟨sl65' (by decide), ?_⟩
  exact st3 hE ok5 hR hT hT'
end K50

/-! The text by places, what the top has written, the derivations (printed). -/
namespace K50
open PySem PySem.Spec L2 T3
open PyProof.Rows hiding St


def top (i : Nat) : Stmt := PySem.Challenge.pw_curvebells_k50_wishes_that_read_tales.main.body.getD i (.Pass ⟨0, 0, 0, 0⟩)
abbrev s_is_integer : Stmt := top 7
abbrev s_is_number : Stmt := top 8
abbrev s_is_text : Stmt := top 9
abbrev s_is_sequence : Stmt := top 10
abbrev s_is_name : Stmt := top 11
abbrev s_ascending_names : Stmt := top 13
abbrev s_is_state : Stmt := top 14
abbrev s_are_names : Stmt := top 15
abbrev s_is_step : Stmt := top 16
abbrev s_Wish_init : Stmt := inClass (top 17) 0
abbrev s_Wish_eq : Stmt := inClass (top 17) 1
abbrev s_Wish_rung_bells : Stmt := inClass (top 17) 2
abbrev s_Wish_after : Stmt := inClass (top 17) 3
abbrev s_Wish_end : Stmt := inClass (top 17) 4
abbrev s_Wish_takes : Stmt := inClass (top 17) 5
abbrev s_wish_rings : Stmt := top 18
abbrev s_wish_ahead : Stmt := top 19
abbrev s_wish_last : Stmt := top 20
abbrev s_wish_denied : Stmt := top 21
abbrev s_wish_met : Stmt := top 22
abbrev s_open_steps : Stmt := top 23
abbrev s_paired_wish : Stmt := top 24
abbrev s_wish_both : Stmt := top 25
abbrev s_wish_either : Stmt := top 26
abbrev s__law_box : Stmt := top 28
abbrev s__law_take : Stmt := top 29
abbrev s__law_pick : Stmt := top 30
abbrev s__law_names : Stmt := top 31
abbrev s__law_wish : Stmt := top 32
abbrev s__law_read : Stmt := top 33
abbrev s__law_lots : Stmt := top 34
abbrev s__law_end : Stmt := top 35
abbrev s__law_made_right : Stmt := top 36
abbrev s__law_joined_right : Stmt := top 37
abbrev s__law_sorted_steps : Stmt := top 38
abbrev s_law : Stmt := top 39
theorem u64 {k : Nat} {A : Around} (r : Room k A) : A.units + 64 < cLine := r.units
theorem u65 {k : Nat} {A : Around} (r : Room k A) : A.units + 65 < cLine := by have := r.un; omega
/-- what the top has written -/
structure Tx (K : PySem.W.Frag) (mg : Str → Option Value) where
  c_Wish : Addr
  a_is_integer : Addr
  d_is_integer : FuncData
  a_is_number : Addr
  d_is_number : FuncData
  a_is_text : Addr
  d_is_text : FuncData
  a_is_sequence : Addr
  d_is_sequence : FuncData
  a_is_name : Addr
  d_is_name : FuncData
  a_ascending_names : Addr
  d_ascending_names : FuncData
  a_is_state : Addr
  d_is_state : FuncData
  a_are_names : Addr
  d_are_names : FuncData
  a_is_step : Addr
  d_is_step : FuncData
  a_Wish_init : Addr
  d_Wish_init : FuncData
  a_Wish_eq : Addr
  d_Wish_eq : FuncData
  a_Wish_rung_bells : Addr
  d_Wish_rung_bells : FuncData
  a_Wish_after : Addr
  d_Wish_after : FuncData
  a_Wish_end : Addr
  d_Wish_end : FuncData
  a_Wish_takes : Addr
  d_Wish_takes : FuncData
  a_wish_rings : Addr
  d_wish_rings : FuncData
  a_wish_ahead : Addr
  d_wish_ahead : FuncData
  a_wish_last : Addr
  d_wish_last : FuncData
  a_wish_denied : Addr
  d_wish_denied : FuncData
  a_wish_met : Addr
  d_wish_met : FuncData
  a_open_steps : Addr
  d_open_steps : FuncData
  a_paired_wish : Addr
  d_paired_wish : FuncData
  a_wish_both : Addr
  d_wish_both : FuncData
  a_wish_either : Addr
  d_wish_either : FuncData
  a__law_box : Addr
  d__law_box : FuncData
  a__law_take : Addr
  d__law_take : FuncData
  a__law_pick : Addr
  d__law_pick : FuncData
  a__law_names : Addr
  d__law_names : FuncData
  a__law_wish : Addr
  d__law_wish : FuncData
  a__law_read : Addr
  d__law_read : FuncData
  a__law_lots : Addr
  d__law_lots : FuncData
  a__law_end : Addr
  d__law_end : FuncData
  a__law_made_right : Addr
  d__law_made_right : FuncData
  a__law_joined_right : Addr
  d__law_joined_right : FuncData
  a__law_sorted_steps : Addr
  d__law_sorted_steps : FuncData
  a_law : Addr
  d_law : FuncData
  k_LETTERS : Tok
  k_LONGEST : Tok
  F_is_integer : Fun K "is_integer" "is_integer" s_is_integer a_is_integer d_is_integer
  m_is_integer : mg "is_integer" = some (.ref a_is_integer)
  F_is_number : Fun K "is_number" "is_number" s_is_number a_is_number d_is_number
  m_is_number : mg "is_number" = some (.ref a_is_number)
  F_is_text : Fun K "is_text" "is_text" s_is_text a_is_text d_is_text
  m_is_text : mg "is_text" = some (.ref a_is_text)
  F_is_sequence : Fun K "is_sequence" "is_sequence" s_is_sequence a_is_sequence d_is_sequence
  m_is_sequence : mg "is_sequence" = some (.ref a_is_sequence)
  F_is_name : Fun K "is_name" "is_name" s_is_name a_is_name d_is_name
  m_is_name : mg "is_name" = some (.ref a_is_name)
  F_ascending_names : Fun K "ascending_names" "ascending_names" s_ascending_names a_ascending_names d_ascending_names
  m_ascending_names : mg "ascending_names" = some (.ref a_ascending_names)
  F_is_state : Fun K "is_state" "is_state" s_is_state a_is_state d_is_state
  m_is_state : mg "is_state" = some (.ref a_is_state)
  F_are_names : Fun K "are_names" "are_names" s_are_names a_are_names d_are_names
  m_are_names : mg "are_names" = some (.ref a_are_names)
  F_is_step : Fun K "is_step" "is_step" s_is_step a_is_step d_is_step
  m_is_step : mg "is_step" = some (.ref a_is_step)
  F_Wish_init : Fun K "__init__" "Wish.__init__" s_Wish_init a_Wish_init d_Wish_init
  F_Wish_eq : Fun K "__eq__" "Wish.__eq__" s_Wish_eq a_Wish_eq d_Wish_eq
  F_Wish_rung_bells : Fun K "rung_bells" "Wish.rung_bells" s_Wish_rung_bells a_Wish_rung_bells d_Wish_rung_bells
  M_Wish_rung_bells : Meth K c_Wish "rung_bells" a_Wish_rung_bells
  F_Wish_after : Fun K "after" "Wish.after" s_Wish_after a_Wish_after d_Wish_after
  M_Wish_after : Meth K c_Wish "after" a_Wish_after
  F_Wish_end : FunD K "end" "Wish.end" (defArgs s_Wish_end) (defBody s_Wish_end) (defScope s_Wish_end) [.int 0] [] a_Wish_end d_Wish_end
  M_Wish_end : Meth K c_Wish "end" a_Wish_end
  F_Wish_takes : Fun K "takes" "Wish.takes" s_Wish_takes a_Wish_takes d_Wish_takes
  M_Wish_takes : Meth K c_Wish "takes" a_Wish_takes
  F_wish_rings : FunD K "wish_rings" "wish_rings" (defArgs s_wish_rings) (defBody s_wish_rings) (defScope s_wish_rings) [.int 1] [] a_wish_rings d_wish_rings
  m_wish_rings : mg "wish_rings" = some (.ref a_wish_rings)
  F_wish_ahead : Fun K "wish_ahead" "wish_ahead" s_wish_ahead a_wish_ahead d_wish_ahead
  m_wish_ahead : mg "wish_ahead" = some (.ref a_wish_ahead)
  F_wish_last : Fun K "wish_last" "wish_last" s_wish_last a_wish_last d_wish_last
  m_wish_last : mg "wish_last" = some (.ref a_wish_last)
  F_wish_denied : Fun K "wish_denied" "wish_denied" s_wish_denied a_wish_denied d_wish_denied
  m_wish_denied : mg "wish_denied" = some (.ref a_wish_denied)
  F_wish_met : Fun K "wish_met" "wish_met" s_wish_met a_wish_met d_wish_met
  m_wish_met : mg "wish_met" = some (.ref a_wish_met)
  F_open_steps : Fun K "open_steps" "open_steps" s_open_steps a_open_steps d_open_steps
  m_open_steps : mg "open_steps" = some (.ref a_open_steps)
  F_paired_wish : Fun K "paired_wish" "paired_wish" s_paired_wish a_paired_wish d_paired_wish
  m_paired_wish : mg "paired_wish" = some (.ref a_paired_wish)
  F_wish_both : Fun K "wish_both" "wish_both" s_wish_both a_wish_both d_wish_both
  m_wish_both : mg "wish_both" = some (.ref a_wish_both)
  F_wish_either : Fun K "wish_either" "wish_either" s_wish_either a_wish_either d_wish_either
  m_wish_either : mg "wish_either" = some (.ref a_wish_either)
  F__law_box : Fun K "_law_box" "_law_box" s__law_box a__law_box d__law_box
  m__law_box : mg "_law_box" = some (.ref a__law_box)
  F__law_take : Fun K "_law_take" "_law_take" s__law_take a__law_take d__law_take
  m__law_take : mg "_law_take" = some (.ref a__law_take)
  F__law_pick : Fun K "_law_pick" "_law_pick" s__law_pick a__law_pick d__law_pick
  m__law_pick : mg "_law_pick" = some (.ref a__law_pick)
  F__law_names : Fun K "_law_names" "_law_names" s__law_names a__law_names d__law_names
  m__law_names : mg "_law_names" = some (.ref a__law_names)
  F__law_wish : Fun K "_law_wish" "_law_wish" s__law_wish a__law_wish d__law_wish
  m__law_wish : mg "_law_wish" = some (.ref a__law_wish)
  F__law_read : Fun K "_law_read" "_law_read" s__law_read a__law_read d__law_read
  m__law_read : mg "_law_read" = some (.ref a__law_read)
  F__law_lots : Fun K "_law_lots" "_law_lots" s__law_lots a__law_lots d__law_lots
  m__law_lots : mg "_law_lots" = some (.ref a__law_lots)
  F__law_end : Fun K "_law_end" "_law_end" s__law_end a__law_end d__law_end
  m__law_end : mg "_law_end" = some (.ref a__law_end)
  F__law_made_right : Fun K "_law_made_right" "_law_made_right" s__law_made_right a__law_made_right d__law_made_right
  m__law_made_right : mg "_law_made_right" = some (.ref a__law_made_right)
  F__law_joined_right : Fun K "_law_joined_right" "_law_joined_right" s__law_joined_right a__law_joined_right d__law_joined_right
  m__law_joined_right : mg "_law_joined_right" = some (.ref a__law_joined_right)
  F__law_sorted_steps : Fun K "_law_sorted_steps" "_law_sorted_steps" s__law_sorted_steps a__law_sorted_steps d__law_sorted_steps
  m__law_sorted_steps : mg "_law_sorted_steps" = some (.ref a__law_sorted_steps)
  F_law : Fun K "law" "law" s_law a_law d_law
  m_law : mg "law" = some (.ref a_law)
  m_Wish : mg "Wish" = some (.ref c_Wish)
  cl_Wish : Cls K c_Wish
  na_Wish_good : NoAttr K c_Wish "good"
  na_Wish_states : NoAttr K c_Wish "states"
  na_Wish_steps : NoAttr K c_Wish "steps"
  mk_Wish : Mk K c_Wish a_Wish_init
  eq_Wish : PySem.W.findIn K (.ref c_Wish) "__eq__" = some (some (.ref a_Wish_eq)) ∧ PySem.W.isFn K (.ref a_Wish_eq) = true ∧ PySem.W.notFirst K c_Wish (.type "list") = true
  ci_Wish : ClsI K c_Wish
  cb_Wish : ∀ n ∈ tyNames, PySem.W.kitOne K (.type n) (.ref c_Wish) = some false
  cs_Wish : PySem.W.kitOne K (.ref c_Wish) (.ref c_Wish) = some true
  g_LETTERS : mg "LETTERS" = some (.str "abcdefghijklmnopqrstuvwxyz" k_LETTERS)
  g_LONGEST : mg "LONGEST" = some (.int 8 k_LONGEST)
  b_abs : mg "abs" = none
  b_all : mg "all" = none
  b_any : mg "any" = none
  b_bool : mg "bool" = none
  b_enumerate : mg "enumerate" = none
  b_int : mg "int" = none
  b_isinstance : mg "isinstance" = none
  b_len : mg "len" = none
  b_list : mg "list" = none
  b_range : mg "range" = none
  b_set : mg "set" = none
  b_sorted : mg "sorted" = none
  b_str : mg "str" = none
  b_tuple : mg "tuple" = none
theorem sc_is_integer : FnScope N_is_integer ["value"] (defScope s_is_integer) := ⟨rfl, rfl, rfl, by decide +kernel, rfl, by decide +kernel, by decide +kernel⟩
theorem sc_is_number : FnScope N_is_number ["value"] (defScope s_is_number) := ⟨rfl, rfl, rfl, by decide +kernel, rfl, by decide +kernel, by decide +kernel⟩
theorem sc_is_text : FnScope N_is_text ["value"] (defScope s_is_text) := ⟨rfl, rfl, rfl, by decide +kernel, rfl, by decide +kernel, by decide +kernel⟩
theorem sc_is_sequence : FnScope N_is_sequence ["value"] (defScope s_is_sequence) := ⟨rfl, rfl, rfl, by decide +kernel, rfl, by decide +kernel, by decide +kernel⟩
theorem sc_is_name : FnScope N_is_name ["value"] (defScope s_is_name) := ⟨rfl, rfl, rfl, by decide +kernel, rfl, by decide +kernel, by decide +kernel⟩
theorem sc_ascending_names : FnScope N_ascending_names ["things"] (defScope s_ascending_names) := ⟨rfl, rfl, rfl, by decide +kernel, rfl, by decide +kernel, by decide +kernel⟩
theorem sc_is_state : FnScope N_is_state ["value", "states"] (defScope s_is_state) := ⟨rfl, rfl, rfl, by decide +kernel, rfl, by decide +kernel, by decide +kernel⟩
theorem sc_are_names : FnScope N_are_names ["value"] (defScope s_are_names) := ⟨rfl, rfl, rfl, by decide +kernel, rfl, by decide +kernel, by decide +kernel⟩
theorem sc_is_step : FnScope N_is_step ["value", "states"] (defScope s_is_step) := ⟨rfl, rfl, rfl, by decide +kernel, rfl, by decide +kernel, by decide +kernel⟩
theorem sc_Wish_init : FnScope N_Wish_init ["self", "states", "good", "steps"] (defScope s_Wish_init) := ⟨rfl, rfl, rfl, by decide +kernel, rfl, by decide +kernel, by decide +kernel⟩
theorem sc_Wish_eq : FnScope N_Wish_eq ["self", "other"] (defScope s_Wish_eq) := ⟨rfl, rfl, rfl, by decide +kernel, rfl, by decide +kernel, by decide +kernel⟩
theorem sc_Wish_rung_bells : FnScope N_Wish_rung_bells ["self"] (defScope s_Wish_rung_bells) := ⟨rfl, rfl, rfl, by decide +kernel, rfl, by decide +kernel, by decide +kernel⟩
theorem sc_Wish_after : FnScope N_Wish_after ["self", "state", "lot"] (defScope s_Wish_after) := ⟨rfl, rfl, rfl, by decide +kernel, rfl, by decide +kernel, by decide +kernel⟩
theorem sc_Wish_end : FnScope N_Wish_end ["self", "tale", "state"] (defScope s_Wish_end) := ⟨rfl, rfl, rfl, by decide +kernel, rfl, by decide +kernel, by decide +kernel⟩
theorem sc_Wish_takes : FnScope N_Wish_takes ["self", "tale"] (defScope s_Wish_takes) := ⟨rfl, rfl, rfl, by decide +kernel, rfl, by decide +kernel, by decide +kernel⟩
theorem sc_wish_rings : FnScope N_wish_rings ["bell", "times"] (defScope s_wish_rings) := ⟨rfl, rfl, rfl, by decide +kernel, rfl, by decide +kernel, by decide +kernel⟩
theorem sc_wish_ahead : FnScope N_wish_ahead ["one", "other"] (defScope s_wish_ahead) := ⟨rfl, rfl, rfl, by decide +kernel, rfl, by decide +kernel, by decide +kernel⟩
theorem sc_wish_last : FnScope N_wish_last ["bell"] (defScope s_wish_last) := ⟨rfl, rfl, rfl, by decide +kernel, rfl, by decide +kernel, by decide +kernel⟩
theorem sc_wish_denied : FnScope N_wish_denied ["wish"] (defScope s_wish_denied) := ⟨rfl, rfl, rfl, by decide +kernel, rfl, by decide +kernel, by decide +kernel⟩
theorem sc_wish_met : FnScope N_wish_met ["wish"] (defScope s_wish_met) := ⟨rfl, rfl, rfl, by decide +kernel, rfl, by decide +kernel, by decide +kernel⟩
theorem sc_open_steps : FnScope N_open_steps ["wish", "state"] (defScope s_open_steps) := ⟨rfl, rfl, rfl, by decide +kernel, rfl, by decide +kernel, by decide +kernel⟩
theorem sc_paired_wish : FnScope N_paired_wish ["one", "other", "good"] (defScope s_paired_wish) := ⟨rfl, rfl, rfl, by decide +kernel, rfl, by decide +kernel, by decide +kernel⟩
theorem sc_wish_both : FnScope N_wish_both ["one", "other"] (defScope s_wish_both) := ⟨rfl, rfl, rfl, by decide +kernel, rfl, by decide +kernel, by decide +kernel⟩
theorem sc_wish_either : FnScope N_wish_either ["one", "other"] (defScope s_wish_either) := ⟨rfl, rfl, rfl, by decide +kernel, rfl, by decide +kernel, by decide +kernel⟩
theorem sc__law_box : FnScope N__law_box ["script", "k"] (defScope s__law_box) := ⟨rfl, rfl, rfl, by decide +kernel, rfl, by decide +kernel, by decide +kernel⟩
theorem sc__law_take : FnScope N__law_take ["box", "many"] (defScope s__law_take) := ⟨rfl, rfl, rfl, by decide +kernel, rfl, by decide +kernel, by decide +kernel⟩
theorem sc__law_pick : FnScope N__law_pick ["box", "some"] (defScope s__law_pick) := ⟨rfl, rfl, rfl, by decide +kernel, rfl, by decide +kernel, by decide +kernel⟩
theorem sc__law_names : FnScope N__law_names ["box", "many"] (defScope s__law_names) := ⟨rfl, rfl, rfl, by decide +kernel, rfl, by decide +kernel, by decide +kernel⟩
theorem sc__law_wish : FnScope N__law_wish ["box", "rings"] (defScope s__law_wish) := ⟨rfl, rfl, rfl, by decide +kernel, rfl, by decide +kernel, by decide +kernel⟩
theorem sc__law_read : FnScope N__law_read ["wish", "state", "lot"] (defScope s__law_read) := ⟨rfl, rfl, rfl, by decide +kernel, rfl, by decide +kernel, by decide +kernel⟩
theorem sc__law_lots : FnScope N__law_lots ["box", "rings", "many"] (defScope s__law_lots) := ⟨rfl, rfl, rfl, by decide +kernel, rfl, by decide +kernel, by decide +kernel⟩
theorem sc__law_end : FnScope N__law_end ["wish", "tale"] (defScope s__law_end) := ⟨rfl, rfl, rfl, by decide +kernel, rfl, by decide +kernel, by decide +kernel⟩
theorem sc__law_made_right : FnScope N__law_made_right ["box", "rings", "tales"] (defScope s__law_made_right) := ⟨rfl, rfl, rfl, by decide +kernel, rfl, by decide +kernel, by decide +kernel⟩
theorem sc__law_joined_right : FnScope N__law_joined_right ["box", "one", "other", "told", "more", "tales"] (defScope s__law_joined_right) := ⟨rfl, rfl, rfl, by decide +kernel, rfl, by decide +kernel, by decide +kernel⟩
theorem sc__law_sorted_steps : FnScope N__law_sorted_steps ["told"] (defScope s__law_sorted_steps) := ⟨rfl, rfl, rfl, by decide +kernel, rfl, by decide +kernel, by decide +kernel⟩
theorem sc_law : FnScope N_law ["script"] (defScope s_law) := ⟨rfl, rfl, rfl, by decide +kernel, rfl, by decide +kernel, by decide +kernel⟩
end K50

/-! The derivations and the promises of the defs (printed). -/
namespace K50
open PySem PySem.Spec L2 T3
open PyProof.Rows hiding St


section
variable {P : Program} {w : World} {K : PySem.W.Frag} {mg : Str → Option Value} {base : Heap}
theorem w_is_integer (T : Tx K mg) (cdv : Value) (A : Around) (outer : List Env) (s : Shared) (H : Hp) (E : XK) (hr : Room 0 (A.deeper (envOfC "is_integer" (defScope s_is_integer) s.heap.objs.size T.a_is_integer cdv))) :
    SSs (cxOf CX0 P w K mg base N_is_integer "is_integer" (defScope s_is_integer) T.a_is_integer cdv A outer s H E).nox (defBody s_is_integer) (t_is_integer T.c_Wish) := 
  (sss_one (ss_ret (se_and (se_isi (ok := fun _ => False) (T := "int") (by decide) (fun _ z => z.elim) rfl T.b_isinstance (se_var 0) rfl T.b_int PyProof.Rows.boot_int) (se_one (se_not (se_isi (ok := fun _ => False) (T := "bool") (by decide) (fun _ z => z.elim) rfl T.b_isinstance (se_var 0) rfl T.b_bool PyProof.Rows.boot_bool))))))
theorem fn_is_integer (T : Tx K mg) : FnOk P w K mg base CX0 1 T.a_is_integer T.d_is_integer ["value"] (spL K (fs_is_integer T.c_Wish)) :=
  fun_okL T.F_is_integer sc_is_integer (len_is_integer _) fun cdv A outer s H E hr => ⟨_, w_is_integer T cdv A outer s H E hr, rd_is_integer _⟩
theorem ok_is_integer (T : Tx K mg) : Cl P w K mg base 1 T.a_is_integer 1 [] (fs_is_integer T.c_Wish) :=
  cl_of T.F_is_integer (fn_is_integer T) (len_is_integer _) fun _ _ _ _ _ _ us hl => match us, hl with | [_], _ => rfl
theorem w_is_number (T : Tx K mg) (cdv : Value) (A : Around) (outer : List Env) (s : Shared) (H : Hp) (E : XK) (hr : Room 1 (A.deeper (envOfC "is_number" (defScope s_is_number) s.heap.objs.size T.a_is_number cdv))) :
    SSs (cxOf CX0 P w K mg base N_is_number "is_number" (defScope s_is_number) T.a_is_number cdv A outer s H E).nox (defBody s_is_number) (t_is_number T.c_Wish) := 
  (sss_one (ss_ret (se_and (se_call (ok_is_integer T) hr (by decide) rfl T.m_is_integer (sa_cons (se_var 0) sa_nil)) (se_one (se_cmp os_ge (se_var 0) se_int (nomark _))))))
theorem fn_is_number (T : Tx K mg) : FnOk P w K mg base CX0 2 T.a_is_number T.d_is_number ["value"] (spL K (fs_is_number T.c_Wish)) :=
  fun_okL T.F_is_number sc_is_number (len_is_number _) fun cdv A outer s H E hr => ⟨_, w_is_number T cdv A outer s H E hr, rd_is_number _⟩
theorem ok_is_number (T : Tx K mg) : Cl P w K mg base 2 T.a_is_number 1 [] (fs_is_number T.c_Wish) :=
  cl_of T.F_is_number (fn_is_number T) (len_is_number _) fun _ _ _ _ _ _ us hl => match us, hl with | [_], _ => rfl
theorem w_is_text (T : Tx K mg) (cdv : Value) (A : Around) (outer : List Env) (s : Shared) (H : Hp) (E : XK) (hr : Room 0 (A.deeper (envOfC "is_text" (defScope s_is_text) s.heap.objs.size T.a_is_text cdv))) :
    SSs (cxOf CX0 P w K mg base N_is_text "is_text" (defScope s_is_text) T.a_is_text cdv A outer s H E).nox (defBody s_is_text) (t_is_text T.c_Wish) := 
  (sss_one (ss_ret (se_isi (ok := fun _ => False) (T := "str") (by decide) (fun _ z => z.elim) rfl T.b_isinstance (se_var 0) rfl T.b_str PyProof.Rows.boot_str)))
theorem fn_is_text (T : Tx K mg) : FnOk P w K mg base CX0 1 T.a_is_text T.d_is_text ["value"] (spL K (fs_is_text T.c_Wish)) :=
  fun_okL T.F_is_text sc_is_text (len_is_text _) fun cdv A outer s H E hr => ⟨_, w_is_text T cdv A outer s H E hr, rd_is_text _⟩
theorem ok_is_text (T : Tx K mg) : Cl P w K mg base 1 T.a_is_text 1 [] (fs_is_text T.c_Wish) :=
  cl_of T.F_is_text (fn_is_text T) (len_is_text _) fun _ _ _ _ _ _ us hl => match us, hl with | [_], _ => rfl
theorem w_is_sequence (T : Tx K mg) (cdv : Value) (A : Around) (outer : List Env) (s : Shared) (H : Hp) (E : XK) (hr : Room 0 (A.deeper (envOfC "is_sequence" (defScope s_is_sequence) s.heap.objs.size T.a_is_sequence cdv))) :
    SSs (cxOf CX0 P w K mg base N_is_sequence "is_sequence" (defScope s_is_sequence) T.a_is_sequence cdv A outer s H E).nox (defBody s_is_sequence) (t_is_sequence T.c_Wish) := 
  (sss_one (ss_ret (se_isi2 (ok := fun _ => False) (T := "list") (U := "tuple") (by decide) (by decide) (fun _ z => z.elim) rfl T.b_isinstance (se_var 0) rfl T.b_list PyProof.Rows.boot_list rfl T.b_tuple PyProof.Rows.boot_tuple)))
theorem fn_is_sequence (T : Tx K mg) : FnOk P w K mg base CX0 1 T.a_is_sequence T.d_is_sequence ["value"] (spL K (fs_is_sequence T.c_Wish)) :=
  fun_okL T.F_is_sequence sc_is_sequence (len_is_sequence _) fun cdv A outer s H E hr => ⟨_, w_is_sequence T cdv A outer s H E hr, rd_is_sequence _⟩
theorem ok_is_sequence (T : Tx K mg) : Cl P w K mg base 1 T.a_is_sequence 1 [] (fs_is_sequence T.c_Wish) :=
  cl_of T.F_is_sequence (fn_is_sequence T) (len_is_sequence _) fun _ _ _ _ _ _ us hl => match us, hl with | [_], _ => rfl
theorem w_is_name (T : Tx K mg) (cdv : Value) (A : Around) (outer : List Env) (s : Shared) (H : Hp) (E : XK) (hr : Room 1 (A.deeper (envOfC "is_name" (defScope s_is_name) s.heap.objs.size T.a_is_name cdv))) :
    SSs (cxOf CX0 P w K mg base N_is_name "is_name" (defScope s_is_name) T.a_is_name cdv A outer s H E).nox (defBody s_is_name) (t_is_name T.c_Wish) := 
  (sss_one (ss_ret (se_and (se_call (ok_is_text T) hr (by decide) rfl T.m_is_text (sa_cons (se_var 0) sa_nil)) (se_and (se_chain os_le os_le se_int (se_callB cs_len rfl T.b_len PySem.boot_len (sa_cons (se_var 0) sa_nil)) (se_globI rfl T.g_LONGEST)) (se_one (se_callB (cs_all rfl) rfl T.b_all PyProof.Rows.boot_all (sa_cons (se_lc (own := [("sign", 1)]) rfl sc_is_name.nd (si_any (se_var 0)) (blkOk_by (own := [("sign", 1)]) rfl) (fun _ _ _ _ _ => (sg_name (vs := [1]) sc_is_name.nd rfl (by first | exact Or.inl rfl | exact Or.inr rfl))) (fun _ _ _ _ _ => sts_nil) (fun _ _ _ _ _ => (se_cmp (os_in (u65 hr)) (se_var 1) (se_globS rfl T.g_LETTERS) rfl))) sa_nil)))))))
theorem fn_is_name (T : Tx K mg) : FnOk P w K mg base CX0 2 T.a_is_name T.d_is_name ["value"] (spL K (fs_is_name T.c_Wish)) :=
  fun_okL T.F_is_name sc_is_name (len_is_name _) fun cdv A outer s H E hr => ⟨_, w_is_name T cdv A outer s H E hr, rd_is_name _⟩
theorem ok_is_name (T : Tx K mg) : Cl P w K mg base 2 T.a_is_name 1 [] (fs_is_name T.c_Wish) :=
  cl_of T.F_is_name (fn_is_name T) (len_is_name _) fun _ _ _ _ _ _ us hl => match us, hl with | [_], _ => rfl
theorem w_ascending_names (T : Tx K mg) (cdv : Value) (A : Around) (outer : List Env) (s : Shared) (H : Hp) (E : XK) (hr : Room 0 (A.deeper (envOfC "ascending_names" (defScope s_ascending_names) s.heap.objs.size T.a_ascending_names cdv))) :
    SSs (cxOf CX0 P w K mg base N_ascending_names "ascending_names" (defScope s_ascending_names) T.a_ascending_names cdv A outer s H E).nox (defBody s_ascending_names) (t_ascending_names T.c_Wish) := 
  (sss_one (ss_ret (se_callTy cs_tuple rfl T.b_tuple PyProof.Rows.boot_tuple (sa_cons (se_asc rfl (u64 hr) rfl T.b_sorted rfl T.b_set (se_var 0)) sa_nil))))
theorem fn_ascending_names (T : Tx K mg) : FnOk P w K mg base CX0 1 T.a_ascending_names T.d_ascending_names ["things"] (spL K (fs_ascending_names T.c_Wish)) :=
  fun_okL T.F_ascending_names sc_ascending_names (len_ascending_names _) fun cdv A outer s H E hr => ⟨_, w_ascending_names T cdv A outer s H E hr, rd_ascending_names _⟩
theorem ok_ascending_names (T : Tx K mg) : Cl P w K mg base 1 T.a_ascending_names 1 [] (fs_ascending_names T.c_Wish) :=
  cl_of T.F_ascending_names (fn_ascending_names T) (len_ascending_names _) fun _ _ _ _ _ _ us hl => match us, hl with | [_], _ => rfl
theorem w_is_state (T : Tx K mg) (cdv : Value) (A : Around) (outer : List Env) (s : Shared) (H : Hp) (E : XK) (hr : Room 2 (A.deeper (envOfC "is_state" (defScope s_is_state) s.heap.objs.size T.a_is_state cdv))) :
    SSs (cxOf CX0 P w K mg base N_is_state "is_state" (defScope s_is_state) T.a_is_state cdv A outer s H E).nox (defBody s_is_state) (t_is_state T.c_Wish) := 
  (sss_one (ss_ret (se_and (se_call (ok_is_number T) hr (by decide) rfl T.m_is_number (sa_cons (se_var 0) sa_nil)) (se_one (se_cmp os_lt (se_var 0) (se_var 1) (nomark _))))))
theorem fn_is_state (T : Tx K mg) : FnOk P w K mg base CX0 3 T.a_is_state T.d_is_state ["value", "states"] (spL K (fs_is_state T.c_Wish)) :=
  fun_okL T.F_is_state sc_is_state (len_is_state _) fun cdv A outer s H E hr => ⟨_, w_is_state T cdv A outer s H E hr, rd_is_state _⟩
theorem ok_is_state (T : Tx K mg) : Cl P w K mg base 3 T.a_is_state 2 [] (fs_is_state T.c_Wish) :=
  cl_of T.F_is_state (fn_is_state T) (len_is_state _) fun _ _ _ _ _ _ us hl => match us, hl with | [_, _], _ => rfl
theorem w_are_names (T : Tx K mg) (cdv : Value) (A : Around) (outer : List Env) (s : Shared) (H : Hp) (E : XK) (hr : Room 2 (A.deeper (envOfC "are_names" (defScope s_are_names) s.heap.objs.size T.a_are_names cdv))) :
    SSs (cxOf CX0 P w K mg base N_are_names "are_names" (defScope s_are_names) T.a_are_names cdv A outer s H E).nox (defBody s_are_names) (t_are_names T.c_Wish) := 
  (sss_one (ss_ret (se_and (se_call (ok_is_sequence T) hr (by decide) rfl T.m_is_sequence (sa_cons (se_var 0) sa_nil)) (se_one (se_callB (cs_all rfl) rfl T.b_all PyProof.Rows.boot_all (sa_cons (se_lc (own := [("name", 1)]) rfl sc_are_names.nd (si_any (se_var 0)) (blkOk_by (own := [("name", 1)]) rfl) (fun _ _ _ _ _ => (sg_name (vs := [1]) sc_are_names.nd rfl (by first | exact Or.inl rfl | exact Or.inr rfl))) (fun _ _ _ _ _ => sts_nil) (fun _ _ _ _ _ => (se_call (ok_is_name T) hr (by decide) rfl T.m_is_name (sa_cons (se_var 1) sa_nil)))) sa_nil))))))
theorem fn_are_names (T : Tx K mg) : FnOk P w K mg base CX0 3 T.a_are_names T.d_are_names ["value"] (spL K (fs_are_names T.c_Wish)) :=
  fun_okL T.F_are_names sc_are_names (len_are_names _) fun cdv A outer s H E hr => ⟨_, w_are_names T cdv A outer s H E hr, rd_are_names _⟩
theorem ok_are_names (T : Tx K mg) : Cl P w K mg base 3 T.a_are_names 1 [] (fs_are_names T.c_Wish) :=
  cl_of T.F_are_names (fn_are_names T) (len_are_names _) fun _ _ _ _ _ _ us hl => match us, hl with | [_], _ => rfl
theorem w_is_step (T : Tx K mg) (cdv : Value) (A : Around) (outer : List Env) (s : Shared) (H : Hp) (E : XK) (hr : Room 3 (A.deeper (envOfC "is_step" (defScope s_is_step) s.heap.objs.size T.a_is_step cdv))) :
    SSs (cxOf CX0 P w K mg base N_is_step "is_step" (defScope s_is_step) T.a_is_step cdv A outer s H E).nox (defBody s_is_step) (t_is_step T.c_Wish) := 
  (sss_cons (ss_if (SW.st (sw_or (st_not (st_val (se_call (ok_is_sequence T) hr (by decide) rfl T.m_is_sequence (sa_cons (se_var 0) sa_nil)))) (sw_or1 (st_cmp (os_ne (u64 hr)) (se_callB cs_len rfl T.b_len PySem.boot_len (sa_cons (se_var 0) sa_nil)) se_int (nomark _))))) (sss_one (ss_ret se_bl)) sss_nil)
    (sss_cons (ss_if (SW.st (sw_or (st_not (st_val (se_call (ok_is_state T) hr (by decide) rfl T.m_is_state (sa_cons (se_ix (se_var 0) se_int (by exact fun _ _ => rfl)) (sa_cons (se_var 1) sa_nil))))) (sw_or1 (st_not (st_val (se_call (ok_is_state T) hr (by decide) rfl T.m_is_state (sa_cons (se_ix (se_var 0) se_int (by exact fun _ _ => rfl)) (sa_cons (se_var 1) sa_nil)))))))) (sss_one (ss_ret se_bl)) sss_nil)
    (sss_one (ss_ret (se_and (se_call (ok_are_names T) hr (by decide) rfl T.m_are_names (sa_cons (se_ix (se_var 0) se_int (by exact fun _ _ => rfl)) sa_nil)) (se_one (se_call (ok_are_names T) hr (by decide) rfl T.m_are_names (sa_cons (se_ix (se_var 0) se_int (by exact fun _ _ => rfl)) sa_nil))))))))
theorem fn_is_step (T : Tx K mg) : FnOk P w K mg base CX0 4 T.a_is_step T.d_is_step ["value", "states"] (spL K (fs_is_step T.c_Wish)) :=
  fun_okL T.F_is_step sc_is_step (len_is_step _) fun cdv A outer s H E hr => ⟨_, w_is_step T cdv A outer s H E hr, rd_is_step _⟩
theorem ok_is_step (T : Tx K mg) : Cl P w K mg base 4 T.a_is_step 2 [] (fs_is_step T.c_Wish) :=
  cl_of T.F_is_step (fn_is_step T) (len_is_step _) fun _ _ _ _ _ _ us hl => match us, hl with | [_, _], _ => rfl
theorem w_Wish_init (T : Tx K mg) (cdv : Value) (A : Around) (outer : List Env) (s : Shared) (H : Hp) (E : XK) (hr : Room 4 (A.deeper (envOfC "Wish.__init__" (defScope s_Wish_init) s.heap.objs.size T.a_Wish_init cdv))) :
    SSs (cxOf CX0 P w K mg base N_Wish_init "Wish.__init__" (defScope s_Wish_init) T.a_Wish_init cdv A outer s H E).nox (defBody s_Wish_init) (t_Wish_init T.c_Wish) := 
  (sss_cons (ss_if (SW.st (sw_or (st_not (st_val (se_call (ok_is_integer T) hr (by decide) rfl T.m_is_integer (sa_cons (se_var 1) sa_nil)))) (sw_or1 (st_cmp os_lt (se_var 1) se_int (nomark _))))) (sss_one ss_never) sss_nil)
    (sss_cons (ss_if (SW.st (sw_or (st_not (st_val (se_call (ok_is_sequence T) hr (by decide) rfl T.m_is_sequence (sa_cons (se_var 2) sa_nil)))) (sw_or1 (st_not (st_val (se_callB (cs_all rfl) rfl T.b_all PyProof.Rows.boot_all (sa_cons (se_lc (own := [("state", 7)]) rfl sc_Wish_init.nd (si_any (se_var 2)) (blkOk_by (own := [("state", 7)]) rfl) (fun _ _ _ _ _ => (sg_name (vs := [7]) sc_Wish_init.nd rfl (by first | exact Or.inl rfl | exact Or.inr rfl))) (fun _ _ _ _ _ => sts_nil) (fun _ _ _ _ _ => (se_call (ok_is_state T) hr (by decide) rfl T.m_is_state (sa_cons (se_var 7) (sa_cons (se_var 1) sa_nil))))) sa_nil))))))) (sss_one ss_never) sss_nil)
    (sss_cons (ss_if (st_not (st_val (se_call (ok_is_sequence T) hr (by decide) rfl T.m_is_sequence (sa_cons (se_var 3) sa_nil)))) (sss_one ss_never) sss_nil)
    (sss_cons (ss_set sc_Wish_init.nd (i := 4) rfl (by first | exact Or.inl rfl | exact Or.inr rfl) (se_lstM sa_nil))
    (sss_cons (ss_for PassesOwn.never rfl (si_enum rfl T.b_enumerate (se_var 3)) (sg_tup rfl (sgs_cons (sg_name (vs := [5, 6]) sc_Wish_init.nd rfl (by first | exact Or.inl rfl | exact Or.inr rfl)) (sgs_cons (sg_name (vs := [5, 6]) sc_Wish_init.nd rfl (by first | exact Or.inl rfl | exact Or.inr rfl)) (sgs_nil (vs := [5, 6]))))) (sss_cons (ss_if (st_not (st_val (se_call (ok_is_step T) hr (by decide) rfl T.m_is_step (sa_cons (se_var 6) (sa_cons (se_var 1) sa_nil))))) (sss_one ss_never) sss_nil)
    (sss_one (ss_expr (se_bm PySem.F.plainAttrs_list PySem.F.slot_list_append PySem.F.type_list_append ms_append (se_var 4) (sa_cons (se_tup (sa_cons (se_ix (se_var 6) se_int (by exact fun _ _ => rfl)) (sa_cons (se_call (ok_ascending_names T) hr (by decide) rfl T.m_ascending_names (sa_cons (se_ix (se_var 6) se_int (by exact fun _ _ => rfl)) sa_nil)) (sa_cons (se_call (ok_ascending_names T) hr (by decide) rfl T.m_ascending_names (sa_cons (se_ix (se_var 6) se_int (by exact fun _ _ => rfl)) sa_nil)) (sa_cons (se_ix (se_var 6) se_int (by exact fun _ _ => rfl)) sa_nil))))) sa_nil))))))
    (sss_cons (ss_fld T.cl_Wish T.na_Wish_states (se_var 0) (se_var 1))
    (sss_cons (ss_fld T.cl_Wish T.na_Wish_good (se_var 0) (se_call (ok_ascending_names T) hr (by decide) rfl T.m_ascending_names (sa_cons (se_var 2) sa_nil)))
    (sss_one (ss_fld T.cl_Wish T.na_Wish_steps (se_var 0) (se_callTy cs_tuple rfl T.b_tuple PyProof.Rows.boot_tuple (sa_cons (se_var 4) sa_nil)))))))))))
theorem fn_Wish_init (T : Tx K mg) : FnOk P w K mg base CX0 5 T.a_Wish_init T.d_Wish_init ["self", "states", "good", "steps"] (spL K (fs_Wish_init T.c_Wish)) :=
  fun_okL T.F_Wish_init sc_Wish_init (len_Wish_init _) fun cdv A outer s H E hr => ⟨_, w_Wish_init T cdv A outer s H E hr, rd_Wish_init _⟩
theorem ok_Wish_init (T : Tx K mg) : Cl P w K mg base 5 T.a_Wish_init 4 [] (fs_Wish_init T.c_Wish) :=
  cl_of T.F_Wish_init (fn_Wish_init T) (len_Wish_init _) fun _ _ _ _ _ _ us hl => match us, hl with | [_, _, _, _], _ => rfl
theorem ok_Wish_init_k (T : Tx K mg) : Cl P w K mg base 5 T.a_Wish_init 1 ["steps", "good", "states"] (fs_Wish_init_k T.c_Wish) :=
  cl_kw T.F_Wish_init (fn_Wish_init T) (fun {α} (a b : List α) => match a, b with | [p], [s, g, n] => [p, n, g, s] | _, _ => [])
    (fun {Z ds es vs zs} l1 l2 r1 r2 => by
      match ds, es, l1, l2, r1, r2 with
      | [p], [s, g, n], _, _, r1, r2 =>
        obtain ⟨v, rfl, rp⟩ := one_inv r1
        obtain ⟨a, vs', rfl, ra, r2⟩ := r2.cons_inv
        obtain ⟨b, c, rfl, rb, rc⟩ := two_inv r2
        exact denL_cons rp (denL_cons rc (denL_cons rb (denL_one ra))))
    (fun {vs us zs ws} r1 r2 => by
      cases r1 with
      | nil => exact .nil
      | cons a r1 =>
        cases r1 with
        | cons b c => exact .nil
        | nil =>
          cases r2 with
          | nil => exact .nil
          | cons x r2 =>
            cases r2 with
            | nil => exact .nil
            | cons y r2 =>
              cases r2 with
              | nil => exact .nil
              | cons z r2 =>
                cases r2 with
                | cons _ _ => exact .nil
                | nil => exact .cons a (.cons z (.cons y (.cons x .nil))))
    (fun _ _ _ _ _ _ us ws h1 h2 => match us, ws, h1, h2 with | [_], [_, _, _], _, _ => rfl)
    (fun ds h R q => by obtain ⟨p, n, g, st, rfl, _⟩ := q; rfl)
    (fun ds es h R l1 l2 q => by obtain ⟨p, n, g, st, e, q⟩ := q; match ds, es, l1, l2, e with | [_], [_, _, _], _, _, e => cases e; exact q)
theorem w_Wish_eq (T : Tx K mg) (cdv : Value) (A : Around) (outer : List Env) (s : Shared) (H : Hp) (E : XK) (hr : Room 0 (A.deeper (envOfC "Wish.__eq__" (defScope s_Wish_eq) s.heap.objs.size T.a_Wish_eq cdv))) :
    SSs (cxOf CX0 P w K mg base N_Wish_eq "Wish.__eq__" (defScope s_Wish_eq) T.a_Wish_eq cdv A outer s H E).nox (defBody s_Wish_eq) (t_Wish_eq T.c_Wish) := 
  (sss_cons (ss_if (st_not (st_val (se_isiC T.ci_Wish T.cb_Wish T.cs_Wish rfl T.b_isinstance (se_var 1) rfl T.m_Wish))) (sss_one (ss_ret se_bl)) sss_nil)
    (sss_one (ss_ret (se_and (se_cmp (os_eq (u64 hr)) (se_fld T.cl_Wish T.na_Wish_states (se_var 0) rfl) (se_fld T.cl_Wish T.na_Wish_states (se_var 1) rfl) (nomark _)) (se_and (se_cmp (os_eq (u64 hr)) (se_fld T.cl_Wish T.na_Wish_good (se_var 0) rfl) (se_fld T.cl_Wish T.na_Wish_good (se_var 1) rfl) (nomark _)) (se_one (se_cmp (os_eq (u64 hr)) (se_fld T.cl_Wish T.na_Wish_steps (se_var 0) rfl) (se_fld T.cl_Wish T.na_Wish_steps (se_var 1) rfl) (nomark _))))))))
theorem fn_Wish_eq (T : Tx K mg) : FnOk P w K mg base CX0 1 T.a_Wish_eq T.d_Wish_eq ["self", "other"] (spL K (fs_Wish_eq T.c_Wish)) :=
  fun_okL T.F_Wish_eq sc_Wish_eq (len_Wish_eq _) fun cdv A outer s H E hr => ⟨_, w_Wish_eq T cdv A outer s H E hr, rd_Wish_eq _⟩
theorem ok_Wish_eq (T : Tx K mg) : Cl P w K mg base 1 T.a_Wish_eq 2 [] (fs_Wish_eq T.c_Wish) :=
  cl_of T.F_Wish_eq (fn_Wish_eq T) (len_Wish_eq _) fun _ _ _ _ _ _ us hl => match us, hl with | [_, _], _ => rfl
theorem w_Wish_rung_bells (T : Tx K mg) (cdv : Value) (A : Around) (outer : List Env) (s : Shared) (H : Hp) (E : XK) (hr : Room 1 (A.deeper (envOfC "Wish.rung_bells" (defScope s_Wish_rung_bells) s.heap.objs.size T.a_Wish_rung_bells cdv))) :
    SSs (cxOf CX0 P w K mg base N_Wish_rung_bells "Wish.rung_bells" (defScope s_Wish_rung_bells) T.a_Wish_rung_bells cdv A outer s H E).nox (defBody s_Wish_rung_bells) (t_Wish_rung_bells T.c_Wish) := 
  (sss_cons (ss_set sc_Wish_rung_bells.nd (i := 1) rfl (by first | exact Or.inl rfl | exact Or.inr rfl) (se_lstM sa_nil))
    (sss_cons (ss_for PassesOwn.never rfl (si_any (se_fld T.cl_Wish T.na_Wish_steps (se_var 0) rfl)) (sg_tup rfl (sgs_cons (sg_name (vs := [2, 3, 4, 5]) sc_Wish_rung_bells.nd rfl (by first | exact Or.inl rfl | exact Or.inr rfl)) (sgs_cons (sg_name (vs := [2, 3, 4, 5]) sc_Wish_rung_bells.nd rfl (by first | exact Or.inl rfl | exact Or.inr rfl)) (sgs_cons (sg_name (vs := [2, 3, 4, 5]) sc_Wish_rung_bells.nd rfl (by first | exact Or.inl rfl | exact Or.inr rfl)) (sgs_cons (sg_name (vs := [2, 3, 4, 5]) sc_Wish_rung_bells.nd rfl (by first | exact Or.inl rfl | exact Or.inr rfl)) (sgs_nil (vs := [2, 3, 4, 5]))))))) (sss_one (ss_expr (se_bm PySem.F.plainAttrs_list PySem.F.slot_list_extend PySem.F.type_list_extend ms_extend (se_var 1) (sa_cons (se_op os_add (se_var 3) (se_var 4)) sa_nil)))))
    (sss_one (ss_ret (se_call (ok_ascending_names T) hr (by decide) rfl T.m_ascending_names (sa_cons (se_var 1) sa_nil))))))
theorem fn_Wish_rung_bells (T : Tx K mg) : FnOk P w K mg base CX0 2 T.a_Wish_rung_bells T.d_Wish_rung_bells ["self"] (spL K (fs_Wish_rung_bells T.c_Wish)) :=
  fun_okL T.F_Wish_rung_bells sc_Wish_rung_bells (len_Wish_rung_bells _) fun cdv A outer s H E hr => ⟨_, w_Wish_rung_bells T cdv A outer s H E hr, rd_Wish_rung_bells _⟩
theorem ok_Wish_rung_bells (T : Tx K mg) : Cl P w K mg base 2 T.a_Wish_rung_bells 1 [] (fs_Wish_rung_bells T.c_Wish) :=
  cl_of T.F_Wish_rung_bells (fn_Wish_rung_bells T) (len_Wish_rung_bells _) fun _ _ _ _ _ _ us hl => match us, hl with | [_], _ => rfl
theorem w_Wish_after (T : Tx K mg) (cdv : Value) (A : Around) (outer : List Env) (s : Shared) (H : Hp) (E : XK) (hr : Room 0 (A.deeper (envOfC "Wish.after" (defScope s_Wish_after) s.heap.objs.size T.a_Wish_after cdv))) :
    SSs (cxOf CX0 P w K mg base N_Wish_after "Wish.after" (defScope s_Wish_after) T.a_Wish_after cdv A outer s H E).nox (defBody s_Wish_after) (t_Wish_after T.c_Wish) := 
  (sss_cons (ss_for PassesOwn.never rfl (si_any (se_fld T.cl_Wish T.na_Wish_steps (se_var 0) rfl)) (sg_tup rfl (sgs_cons (sg_name (vs := [3, 4, 5, 6]) sc_Wish_after.nd rfl (by first | exact Or.inl rfl | exact Or.inr rfl)) (sgs_cons (sg_name (vs := [3, 4, 5, 6]) sc_Wish_after.nd rfl (by first | exact Or.inl rfl | exact Or.inr rfl)) (sgs_cons (sg_name (vs := [3, 4, 5, 6]) sc_Wish_after.nd rfl (by first | exact Or.inl rfl | exact Or.inr rfl)) (sgs_cons (sg_name (vs := [3, 4, 5, 6]) sc_Wish_after.nd rfl (by first | exact Or.inl rfl | exact Or.inr rfl)) (sgs_nil (vs := [3, 4, 5, 6]))))))) (sss_one (ss_if (SW.st (sw_and (st_cmp (os_eq (u64 hr)) (se_var 3) (se_var 1) (nomark _)) (sw_and (st_val (se_callB (cs_all rfl) rfl T.b_all PyProof.Rows.boot_all (sa_cons (se_lc (own := [("name", 7)]) rfl sc_Wish_after.nd (si_any (se_var 4)) (blkOk_by (own := [("name", 7)]) rfl) (fun _ _ _ _ _ => (sg_name (vs := [7]) sc_Wish_after.nd rfl (by first | exact Or.inl rfl | exact Or.inr rfl))) (fun _ _ _ _ _ => sts_nil) (fun _ _ _ _ _ => (se_cmp (os_in (u65 hr)) (se_var 7) (se_var 2) rfl))) sa_nil))) (sw_and1 (st_not (st_val (se_callB (cs_any rfl) rfl T.b_any PyProof.Rows.boot_any (sa_cons (se_lc (own := [("name", 7)]) rfl sc_Wish_after.nd (si_any (se_var 5)) (blkOk_by (own := [("name", 7)]) rfl) (fun _ _ _ _ _ => (sg_name (vs := [7]) sc_Wish_after.nd rfl (by first | exact Or.inl rfl | exact Or.inr rfl))) (fun _ _ _ _ _ => sts_nil) (fun _ _ _ _ _ => (se_cmp (os_in (u65 hr)) (se_var 7) (se_var 2) rfl))) sa_nil)))))))) (sss_one (ss_ret (se_var 6))) sss_nil)))
    (sss_one (ss_ret (se_var 1))))
theorem fn_Wish_after (T : Tx K mg) : FnOk P w K mg base CX0 1 T.a_Wish_after T.d_Wish_after ["self", "state", "lot"] (spL K (fs_Wish_after T.c_Wish)) :=
  fun_okL T.F_Wish_after sc_Wish_after (len_Wish_after _) fun cdv A outer s H E hr => ⟨_, w_Wish_after T cdv A outer s H E hr, rd_Wish_after _⟩
theorem ok_Wish_after (T : Tx K mg) : Cl P w K mg base 1 T.a_Wish_after 3 [] (fs_Wish_after T.c_Wish) :=
  cl_of T.F_Wish_after (fn_Wish_after T) (len_Wish_after _) fun _ _ _ _ _ _ us hl => match us, hl with | [_, _, _], _ => rfl
theorem w_Wish_end (T : Tx K mg) (cdv : Value) (A : Around) (outer : List Env) (s : Shared) (H : Hp) (E : XK) (hr : Room 1 (A.deeper (envOfC "Wish.end" (defScope s_Wish_end) s.heap.objs.size T.a_Wish_end cdv))) :
    SSs (cxOf CX0 P w K mg base N_Wish_end "Wish.end" (defScope s_Wish_end) T.a_Wish_end cdv A outer s H E).nox (defBody s_Wish_end) (t_Wish_end T.c_Wish) := 
  (sss_cons (ss_for PassesOwn.never rfl (si_any (se_var 1)) (sg_name (vs := [3]) sc_Wish_end.nd rfl (by first | exact Or.inl rfl | exact Or.inr rfl)) (sss_one (ss_set sc_Wish_end.nd (i := 2) rfl (by first | exact Or.inl rfl | exact Or.inr rfl) (se_meth T.cl_Wish T.M_Wish_after (ok_Wish_after T) hr (by decide) (se_var 0) (sa_cons (se_var 2) (sa_cons (se_var 3) sa_nil))))))
    (sss_one (ss_ret (se_var 2))))
theorem fn_Wish_end (T : Tx K mg) : FnOk P w K mg base CX0 2 T.a_Wish_end T.d_Wish_end ["self", "tale", "state"] (spL K (fs_Wish_end T.c_Wish)) :=
  fun_okD T.F_Wish_end sc_Wish_end (len_Wish_end _) fun cdv A outer s H E hr => ⟨_, w_Wish_end T cdv A outer s H E hr, rd_Wish_end _⟩
theorem ok_Wish_end_2 (T : Tx K mg) : Cl P w K mg base 2 T.a_Wish_end 3 [] (fs_Wish_end_2 T.c_Wish) :=
  cl_full T.F_Wish_end (by simp) (fn_Wish_end T) (len_Wish_end _) fun _ _ _ _ _ _ _ us its hl h2 => match us, its, hl, h2 with | [_, _, _], [_], _, _ => by first | exact .inl rfl | exact .inr ⟨_, rfl, rfl⟩
theorem ok_Wish_end_1 (T : Tx K mg) : Cl P w K mg base 2 T.a_Wish_end 2 [] (fs_Wish_end_1 T.c_Wish) :=
  cl_dfl (dds := [.int 0]) T.F_Wish_end (by simp) (fun Z => denL_one (dint 0)) (fn_Wish_end T) (fun a d _ => a ++ d)
    (fun l1 l2 r1 r2 => r1.append (denL_one (dint 0))) (fun r1 r2 r3 => r1.append r2)
    (fun _ _ _ _ _ _ _ us its ws h1 h2 h3 => match us, its, ws, h1, h2, h3 with | [_, _], [_], [], _, _, _ => ⟨_, rfl, rfl⟩)
    (fun ds h R q => by obtain ⟨x, y, rfl, _⟩ := q; rfl) (fun ds es h R l1 l2 q => by obtain ⟨x, y, e, q⟩ := q; match ds, es, l1, l2, e with | [_, _], [], _, _, e => cases e; exact q)
theorem ok_Wish_end_k (T : Tx K mg) : Cl P w K mg base 2 T.a_Wish_end 1 ["tale"] (fs_Wish_end_k T.c_Wish) :=
  cl_dfl (dds := [.int 0]) T.F_Wish_end (by simp) (fun Z => denL_one (dint 0)) (fn_Wish_end T) (fun a d b => a ++ (b ++ d))
    (fun l1 l2 r1 r2 => r1.append (r2.append (denL_one (dint 0)))) (fun r1 r2 r3 => r1.append (r3.append r2))
    (fun _ _ _ _ _ _ _ us its ws h1 h2 h3 => match us, its, ws, h1, h2, h3 with | [_], [_], [_], _, _, _ => ⟨_, rfl, rfl⟩)
    (fun ds h R q => by obtain ⟨x, y, rfl, _⟩ := q; rfl) (fun ds es h R l1 l2 q => by obtain ⟨x, y, e, q⟩ := q; match ds, es, l1, l2, e with | [_], [_], _, _, e => cases e; exact q)
theorem w_Wish_takes (T : Tx K mg) (cdv : Value) (A : Around) (outer : List Env) (s : Shared) (H : Hp) (E : XK) (hr : Room 2 (A.deeper (envOfC "Wish.takes" (defScope s_Wish_takes) s.heap.objs.size T.a_Wish_takes cdv))) :
    SSs (cxOf CX0 P w K mg base N_Wish_takes "Wish.takes" (defScope s_Wish_takes) T.a_Wish_takes cdv A outer s H E).nox (defBody s_Wish_takes) (t_Wish_takes T.c_Wish) := 
  (sss_one (ss_ret (se_cmp (os_in (u65 hr)) (se_meth T.cl_Wish T.M_Wish_end (ok_Wish_end_1 T) hr (by decide) (se_var 0) (sa_cons (se_var 1) sa_nil)) (se_fld T.cl_Wish T.na_Wish_good (se_var 0) rfl) rfl)))
theorem fn_Wish_takes (T : Tx K mg) : FnOk P w K mg base CX0 3 T.a_Wish_takes T.d_Wish_takes ["self", "tale"] (spL K (fs_Wish_takes T.c_Wish)) :=
  fun_okL T.F_Wish_takes sc_Wish_takes (len_Wish_takes _) fun cdv A outer s H E hr => ⟨_, w_Wish_takes T cdv A outer s H E hr, rd_Wish_takes _⟩
theorem ok_Wish_takes (T : Tx K mg) : Cl P w K mg base 3 T.a_Wish_takes 2 [] (fs_Wish_takes T.c_Wish) :=
  cl_of T.F_Wish_takes (fn_Wish_takes T) (len_Wish_takes _) fun _ _ _ _ _ _ us hl => match us, hl with | [_, _], _ => rfl
theorem w_wish_rings (T : Tx K mg) (cdv : Value) (A : Around) (outer : List Env) (s : Shared) (H : Hp) (E : XK) (hr : Room 6 (A.deeper (envOfC "wish_rings" (defScope s_wish_rings) s.heap.objs.size T.a_wish_rings cdv))) :
    SSs (cxOf CX0 P w K mg base N_wish_rings "wish_rings" (defScope s_wish_rings) T.a_wish_rings cdv A outer s H E).nox (defBody s_wish_rings) (t_wish_rings T.c_Wish) := 
  (sss_cons (ss_if (SW.st (sw_or (st_not (st_val (se_call (ok_is_integer T) hr (by decide) rfl T.m_is_integer (sa_cons (se_var 1) sa_nil)))) (sw_or1 (st_cmp os_lt (se_var 1) se_int (nomark _))))) (sss_one ss_never) sss_nil)
    (sss_one (ss_ret (se_make T.mk_Wish (ok_Wish_init T) hr (by decide) rfl T.m_Wish (sa_cons (se_op os_add (se_var 1) se_int) (sa_cons (se_tup (sa_cons (se_var 1) sa_nil)) (sa_cons (se_lc (own := [("at", 2)]) rfl sc_wish_rings.nd (si_range1 rfl T.b_range (sa_cons (se_var 1) sa_nil)) (blkOk_by (own := [("at", 2)]) rfl) (fun _ _ _ _ _ => (sg_name (vs := [2]) sc_wish_rings.nd rfl (by first | exact Or.inl rfl | exact Or.inr rfl))) (fun _ _ _ _ _ => sts_nil) (fun _ _ _ _ _ => (se_tup (sa_cons (se_var 2) (sa_cons (se_tup (sa_cons (se_var 0) sa_nil)) (sa_cons (se_tup sa_nil) (sa_cons (se_op os_add (se_var 2) se_int) sa_nil))))))) sa_nil)))))))
theorem fn_wish_rings (T : Tx K mg) : FnOk P w K mg base CX0 7 T.a_wish_rings T.d_wish_rings ["bell", "times"] (spL K (fs_wish_rings T.c_Wish)) :=
  fun_okD T.F_wish_rings sc_wish_rings (len_wish_rings _) fun cdv A outer s H E hr => ⟨_, w_wish_rings T cdv A outer s H E hr, rd_wish_rings _⟩
theorem ok_wish_rings_1 (T : Tx K mg) : Cl P w K mg base 7 T.a_wish_rings 1 [] (fs_wish_rings_1 T.c_Wish) :=
  cl_dfl (dds := [.int 1]) T.F_wish_rings (by simp) (fun Z => denL_one (dint 1)) (fn_wish_rings T) (fun a d _ => a ++ d)
    (fun l1 l2 r1 r2 => r1.append (denL_one (dint 1))) (fun r1 r2 r3 => r1.append r2)
    (fun _ _ _ _ _ _ _ us its ws h1 h2 h3 => match us, its, ws, h1, h2, h3 with | [_], [_], [], _, _, _ => ⟨_, rfl, rfl⟩)
    (fun ds h R q => by obtain ⟨x, rfl, _⟩ := q; rfl) (fun ds es h R l1 l2 q => by obtain ⟨x, e, q⟩ := q; match ds, es, l1, l2, e with | [_], [], _, _, e => cases e; exact q)
theorem ok_wish_rings_k (T : Tx K mg) : Cl P w K mg base 7 T.a_wish_rings 0 ["bell", "times"] (fs_wish_rings_k T.c_Wish) :=
  cl_dfl (dds := [.int 1]) T.F_wish_rings (by simp) (fun Z => denL_one (dint 1)) (fn_wish_rings T) (fun _ _ b => b)
    (fun l1 l2 r1 r2 => r2) (fun r1 r2 r3 => r3)
    (fun _ _ _ _ _ _ _ us its ws h1 h2 h3 => match us, its, ws, h1, h2, h3 with | [], [_], [_, _], _, _, _ => ⟨_, rfl, rfl⟩)
    (fun ds h R q => by obtain ⟨b, t, rfl, _⟩ := q; rfl) (fun ds es h R l1 l2 q => by match ds, es, l1, l2 with | [], [_, _], _, _ => exact q)
theorem w_wish_ahead (T : Tx K mg) (cdv : Value) (A : Around) (outer : List Env) (s : Shared) (H : Hp) (E : XK) (hr : Room 6 (A.deeper (envOfC "wish_ahead" (defScope s_wish_ahead) s.heap.objs.size T.a_wish_ahead cdv))) :
    SSs (cxOf CX0 P w K mg base N_wish_ahead "wish_ahead" (defScope s_wish_ahead) T.a_wish_ahead cdv A outer s H E).nox (defBody s_wish_ahead) (t_wish_ahead T.c_Wish) := 
  (sss_one (ss_ret (se_make T.mk_Wish (ok_Wish_init T) hr (by decide) rfl T.m_Wish (sa_cons se_int (sa_cons (se_tup (sa_cons se_int sa_nil)) (sa_cons (se_tup (sa_cons (se_tup (sa_cons se_int (sa_cons (se_tup (sa_cons (se_var 1) sa_nil)) (sa_cons (se_tup sa_nil) (sa_cons se_int sa_nil))))) (sa_cons (se_tup (sa_cons se_int (sa_cons (se_tup (sa_cons (se_var 0) sa_nil)) (sa_cons (se_tup sa_nil) (sa_cons se_int sa_nil))))) sa_nil))) sa_nil))))))
theorem fn_wish_ahead (T : Tx K mg) : FnOk P w K mg base CX0 7 T.a_wish_ahead T.d_wish_ahead ["one", "other"] (spL K (fs_wish_ahead T.c_Wish)) :=
  fun_okL T.F_wish_ahead sc_wish_ahead (len_wish_ahead _) fun cdv A outer s H E hr => ⟨_, w_wish_ahead T cdv A outer s H E hr, rd_wish_ahead _⟩
theorem ok_wish_ahead (T : Tx K mg) : Cl P w K mg base 7 T.a_wish_ahead 2 [] (fs_wish_ahead T.c_Wish) :=
  cl_of T.F_wish_ahead (fn_wish_ahead T) (len_wish_ahead _) fun _ _ _ _ _ _ us hl => match us, hl with | [_, _], _ => rfl
theorem w_wish_last (T : Tx K mg) (cdv : Value) (A : Around) (outer : List Env) (s : Shared) (H : Hp) (E : XK) (hr : Room 6 (A.deeper (envOfC "wish_last" (defScope s_wish_last) s.heap.objs.size T.a_wish_last cdv))) :
    SSs (cxOf CX0 P w K mg base N_wish_last "wish_last" (defScope s_wish_last) T.a_wish_last cdv A outer s H E).nox (defBody s_wish_last) (t_wish_last T.c_Wish) := 
  (sss_one (ss_ret (se_make T.mk_Wish (ok_Wish_init T) hr (by decide) rfl T.m_Wish (sa_cons se_int (sa_cons (se_tup (sa_cons se_int sa_nil)) (sa_cons (se_tup (sa_cons (se_tup (sa_cons se_int (sa_cons (se_tup (sa_cons (se_var 0) sa_nil)) (sa_cons (se_tup sa_nil) (sa_cons se_int sa_nil))))) (sa_cons (se_tup (sa_cons se_int (sa_cons (se_tup sa_nil) (sa_cons (se_tup (sa_cons (se_var 0) sa_nil)) (sa_cons se_int sa_nil))))) sa_nil))) sa_nil))))))
theorem fn_wish_last (T : Tx K mg) : FnOk P w K mg base CX0 7 T.a_wish_last T.d_wish_last ["bell"] (spL K (fs_wish_last T.c_Wish)) :=
  fun_okL T.F_wish_last sc_wish_last (len_wish_last _) fun cdv A outer s H E hr => ⟨_, w_wish_last T cdv A outer s H E hr, rd_wish_last _⟩
theorem ok_wish_last (T : Tx K mg) : Cl P w K mg base 7 T.a_wish_last 1 [] (fs_wish_last T.c_Wish) :=
  cl_of T.F_wish_last (fn_wish_last T) (len_wish_last _) fun _ _ _ _ _ _ us hl => match us, hl with | [_], _ => rfl
theorem w_wish_denied (T : Tx K mg) (cdv : Value) (A : Around) (outer : List Env) (s : Shared) (H : Hp) (E : XK) (hr : Room 6 (A.deeper (envOfC "wish_denied" (defScope s_wish_denied) s.heap.objs.size T.a_wish_denied cdv))) :
    SSs (cxOf CX0 P w K mg base N_wish_denied "wish_denied" (defScope s_wish_denied) T.a_wish_denied cdv A outer s H E).nox (defBody s_wish_denied) (t_wish_denied T.c_Wish) := 
  (sss_one (ss_ret (se_make T.mk_Wish (ok_Wish_init T) hr (by decide) rfl T.m_Wish (sa_cons (se_fld T.cl_Wish T.na_Wish_states (se_var 0) rfl) (sa_cons (se_lc (own := [("state", 1)]) rfl sc_wish_denied.nd (si_range1 rfl T.b_range (sa_cons (se_fld T.cl_Wish T.na_Wish_states (se_var 0) rfl) sa_nil)) (blkOk_by (own := [("state", 1)]) rfl) (fun _ _ _ _ _ => (sg_name (vs := [1]) sc_wish_denied.nd rfl (by first | exact Or.inl rfl | exact Or.inr rfl))) (fun _ _ _ _ _ => (sts_one (st_cmp (os_notIn (u65 hr)) (se_var 1) (se_fld T.cl_Wish T.na_Wish_good (se_var 0) rfl) rfl))) (fun _ _ _ _ _ => (se_var 1))) (sa_cons (se_fld T.cl_Wish T.na_Wish_steps (se_var 0) rfl) sa_nil))))))
theorem fn_wish_denied (T : Tx K mg) : FnOk P w K mg base CX0 7 T.a_wish_denied T.d_wish_denied ["wish"] (spL K (fs_wish_denied T.c_Wish)) :=
  fun_okL T.F_wish_denied sc_wish_denied (len_wish_denied _) fun cdv A outer s H E hr => ⟨_, w_wish_denied T cdv A outer s H E hr, rd_wish_denied _⟩
theorem ok_wish_denied (T : Tx K mg) : Cl P w K mg base 7 T.a_wish_denied 1 [] (fs_wish_denied T.c_Wish) :=
  cl_of T.F_wish_denied (fn_wish_denied T) (len_wish_denied _) fun _ _ _ _ _ _ us hl => match us, hl with | [_], _ => rfl
theorem w_wish_met (T : Tx K mg) (cdv : Value) (A : Around) (outer : List Env) (s : Shared) (H : Hp) (E : XK) (hr : Room 6 (A.deeper (envOfC "wish_met" (defScope s_wish_met) s.heap.objs.size T.a_wish_met cdv))) :
    SSs (cxOf CX0 P w K mg base N_wish_met "wish_met" (defScope s_wish_met) T.a_wish_met cdv A outer s H E).nox (defBody s_wish_met) (t_wish_met T.c_Wish) := 
  (sss_one (ss_ret (se_make T.mk_Wish (ok_Wish_init T) hr (by decide) rfl T.m_Wish (sa_cons (se_fld T.cl_Wish T.na_Wish_states (se_var 0) rfl) (sa_cons (se_fld T.cl_Wish T.na_Wish_good (se_var 0) rfl) (sa_cons (se_lc (own := [("step", 1)]) rfl sc_wish_met.nd (si_any (se_fld T.cl_Wish T.na_Wish_steps (se_var 0) rfl)) (blkOk_by (own := [("step", 1)]) rfl) (fun _ _ _ _ _ => (sg_name (vs := [1]) sc_wish_met.nd rfl (by first | exact Or.inl rfl | exact Or.inr rfl))) (fun _ _ _ _ _ => (sts_one (st_cmp (os_notIn (u65 hr)) (se_ix (se_var 1) se_int (by exact fun _ _ => rfl)) (se_fld T.cl_Wish T.na_Wish_good (se_var 0) rfl) rfl))) (fun _ _ _ _ _ => (se_var 1))) sa_nil))))))
theorem fn_wish_met (T : Tx K mg) : FnOk P w K mg base CX0 7 T.a_wish_met T.d_wish_met ["wish"] (spL K (fs_wish_met T.c_Wish)) :=
  fun_okL T.F_wish_met sc_wish_met (len_wish_met _) fun cdv A outer s H E hr => ⟨_, w_wish_met T cdv A outer s H E hr, rd_wish_met _⟩
theorem ok_wish_met (T : Tx K mg) : Cl P w K mg base 7 T.a_wish_met 1 [] (fs_wish_met T.c_Wish) :=
  cl_of T.F_wish_met (fn_wish_met T) (len_wish_met _) fun _ _ _ _ _ _ us hl => match us, hl with | [_], _ => rfl
theorem w_open_steps (T : Tx K mg) (cdv : Value) (A : Around) (outer : List Env) (s : Shared) (H : Hp) (E : XK) (hr : Room 0 (A.deeper (envOfC "open_steps" (defScope s_open_steps) s.heap.objs.size T.a_open_steps cdv))) :
    SSs (cxOf CX0 P w K mg base N_open_steps "open_steps" (defScope s_open_steps) T.a_open_steps cdv A outer s H E).nox (defBody s_open_steps) (t_open_steps T.c_Wish) := 
  (sss_cons (ss_setLc (own := [("one", 3), ("need", 4), ("bar", 5), ("later", 6)]) rfl sc_open_steps.nd rfl rfl rfl (si_any (se_fld T.cl_Wish T.na_Wish_steps (se_var 0) rfl)) (blkOk_by (own := [("one", 3), ("need", 4), ("bar", 5), ("later", 6)]) rfl) (fun _ _ _ _ _ => (sg_tup rfl (sgs_cons (sg_name (vs := [3, 4, 5, 6]) sc_open_steps.nd rfl (by first | exact Or.inl rfl | exact Or.inr rfl)) (sgs_cons (sg_name (vs := [3, 4, 5, 6]) sc_open_steps.nd rfl (by first | exact Or.inl rfl | exact Or.inr rfl)) (sgs_cons (sg_name (vs := [3, 4, 5, 6]) sc_open_steps.nd rfl (by first | exact Or.inl rfl | exact Or.inr rfl)) (sgs_cons (sg_name (vs := [3, 4, 5, 6]) sc_open_steps.nd rfl (by first | exact Or.inl rfl | exact Or.inr rfl)) (sgs_nil (vs := [3, 4, 5, 6])))))))) (fun _ _ _ _ _ => (sts_one (st_cmp (os_eq (u64 hr)) (se_var 3) (se_var 1) (nomark _)))) (fun _ _ _ _ _ => (se_tup (sa_cons (se_var 4) (sa_cons (se_var 5) (sa_cons (se_var 6) sa_nil))))))
    (sss_one (ss_ret (se_op os_add (se_var 2) (se_lst (sa_cons (se_tup (sa_cons (se_tup sa_nil) (sa_cons (se_tup sa_nil) (sa_cons (se_var 1) sa_nil)))) sa_nil))))))
theorem fn_open_steps (T : Tx K mg) : FnOk P w K mg base CX0 1 T.a_open_steps T.d_open_steps ["wish", "state"] (spL K (fs_open_steps T.c_Wish)) :=
  fun_okL T.F_open_steps sc_open_steps (len_open_steps _) fun cdv A outer s H E hr => ⟨_, w_open_steps T cdv A outer s H E hr, rd_open_steps _⟩
theorem ok_open_steps (T : Tx K mg) : Cl P w K mg base 1 T.a_open_steps 2 [] (fs_open_steps T.c_Wish) :=
  cl_of T.F_open_steps (fn_open_steps T) (len_open_steps _) fun _ _ _ _ _ _ us hl => match us, hl with | [_, _], _ => rfl
theorem w_paired_wish (T : Tx K mg) (cdv : Value) (A : Around) (outer : List Env) (s : Shared) (H : Hp) (E : XK) (hr : Room 6 (A.deeper (envOfC "paired_wish" (defScope s_paired_wish) s.heap.objs.size T.a_paired_wish cdv))) :
    SSs (cxOf CX0 P w K mg base N_paired_wish "paired_wish" (defScope s_paired_wish) T.a_paired_wish cdv A outer s H E).nox (defBody s_paired_wish) (t_paired_wish T.c_Wish) := 
  (sss_cons (ss_asg (se_tup (sa_cons (se_fld T.cl_Wish T.na_Wish_states (se_var 1) rfl) (sa_cons (se_lstM sa_nil) sa_nil))) (sg_tup rfl (sgs_cons (sg_name (vs := [3, 4]) sc_paired_wish.nd rfl (by first | exact Or.inl rfl | exact Or.inr rfl)) (sgs_cons (sg_name (vs := [3, 4]) sc_paired_wish.nd rfl (by first | exact Or.inl rfl | exact Or.inr rfl)) (sgs_nil (vs := [3, 4]))))))
    (sss_cons (ss_for PassesOwn.never rfl (si_range1 rfl T.b_range (sa_cons (se_fld T.cl_Wish T.na_Wish_states (se_var 0) rfl) sa_nil)) (sg_name (vs := [5]) sc_paired_wish.nd rfl (by first | exact Or.inl rfl | exact Or.inr rfl)) (sss_one (ss_for PassesOwn.never rfl (si_range1 rfl T.b_range (sa_cons (se_var 3) sa_nil)) (sg_name (vs := [6]) sc_paired_wish.nd rfl (by first | exact Or.inl rfl | exact Or.inr rfl)) (sss_one (ss_for PassesOwn.never rfl (si_any (se_call (ok_open_steps T) hr (by decide) rfl T.m_open_steps (sa_cons (se_var 0) (sa_cons (se_var 5) sa_nil)))) (sg_tup rfl (sgs_cons (sg_name (vs := [7, 8, 9]) sc_paired_wish.nd rfl (by first | exact Or.inl rfl | exact Or.inr rfl)) (sgs_cons (sg_name (vs := [7, 8, 9]) sc_paired_wish.nd rfl (by first | exact Or.inl rfl | exact Or.inr rfl)) (sgs_cons (sg_name (vs := [7, 8, 9]) sc_paired_wish.nd rfl (by first | exact Or.inl rfl | exact Or.inr rfl)) (sgs_nil (vs := [7, 8, 9])))))) (sss_one (ss_for PassesOwn.never rfl (si_any (se_call (ok_open_steps T) hr (by decide) rfl T.m_open_steps (sa_cons (se_var 1) (sa_cons (se_var 6) sa_nil)))) (sg_tup rfl (sgs_cons (sg_name (vs := [10, 11, 12]) sc_paired_wish.nd rfl (by first | exact Or.inl rfl | exact Or.inr rfl)) (sgs_cons (sg_name (vs := [10, 11, 12]) sc_paired_wish.nd rfl (by first | exact Or.inl rfl | exact Or.inr rfl)) (sgs_cons (sg_name (vs := [10, 11, 12]) sc_paired_wish.nd rfl (by first | exact Or.inl rfl | exact Or.inr rfl)) (sgs_nil (vs := [10, 11, 12])))))) (sss_one (ss_expr (se_bm PySem.F.plainAttrs_list PySem.F.slot_list_append PySem.F.type_list_append ms_append (se_var 4) (sa_cons (se_tup (sa_cons (se_op os_add (se_op os_mul (se_var 5) (se_var 3)) (se_var 6)) (sa_cons (se_op os_add (se_var 7) (se_var 10)) (sa_cons (se_op os_add (se_var 8) (se_var 11)) (sa_cons (se_op os_add (se_op os_mul (se_var 9) (se_var 3)) (se_var 12)) sa_nil))))) sa_nil)))))))))))
    (sss_one (ss_ret (se_make T.mk_Wish (ok_Wish_init T) hr (by decide) rfl T.m_Wish (sa_cons (se_op os_mul (se_fld T.cl_Wish T.na_Wish_states (se_var 0) rfl) (se_var 3)) (sa_cons (se_lc (own := [("i", 5), ("j", 6)]) rfl sc_paired_wish.nd (si_any (se_var 2)) (blkOk_by (own := [("i", 5), ("j", 6)]) rfl) (fun _ _ _ _ _ => (sg_tup rfl (sgs_cons (sg_name (vs := [5, 6]) sc_paired_wish.nd rfl (by first | exact Or.inl rfl | exact Or.inr rfl)) (sgs_cons (sg_name (vs := [5, 6]) sc_paired_wish.nd rfl (by first | exact Or.inl rfl | exact Or.inr rfl)) (sgs_nil (vs := [5, 6])))))) (fun _ _ _ _ _ => sts_nil) (fun _ _ _ _ _ => (se_op os_add (se_op os_mul (se_var 5) (se_var 3)) (se_var 6)))) (sa_cons (se_var 4) sa_nil))))))))
theorem fn_paired_wish (T : Tx K mg) : FnOk P w K mg base CX0 7 T.a_paired_wish T.d_paired_wish ["one", "other", "good"] (spL K (fs_paired_wish T.c_Wish)) :=
  fun_okL T.F_paired_wish sc_paired_wish (len_paired_wish _) fun cdv A outer s H E hr => ⟨_, w_paired_wish T cdv A outer s H E hr, rd_paired_wish _⟩
theorem ok_paired_wish (T : Tx K mg) : Cl P w K mg base 7 T.a_paired_wish 3 [] (fs_paired_wish T.c_Wish) :=
  cl_of T.F_paired_wish (fn_paired_wish T) (len_paired_wish _) fun _ _ _ _ _ _ us hl => match us, hl with | [_, _, _], _ => rfl
theorem w_wish_both (T : Tx K mg) (cdv : Value) (A : Around) (outer : List Env) (s : Shared) (H : Hp) (E : XK) (hr : Room 7 (A.deeper (envOfC "wish_both" (defScope s_wish_both) s.heap.objs.size T.a_wish_both cdv))) :
    SSs (cxOf CX0 P w K mg base N_wish_both "wish_both" (defScope s_wish_both) T.a_wish_both cdv A outer s H E).nox (defBody s_wish_both) (t_wish_both T.c_Wish) := 
  (sss_one (ss_ret (se_call (ok_paired_wish T) hr (by decide) rfl T.m_paired_wish (sa_cons (se_var 0) (sa_cons (se_var 1) (sa_cons (se_lc2 (own := [("i", 2), ("j", 3)]) rfl sc_wish_both.nd (si_any (se_fld T.cl_Wish T.na_Wish_good (se_var 0) rfl)) (blkOk_by (own := [("i", 2), ("j", 3)]) rfl) (by decide) (fun _ _ _ _ _ => (sg_name (vs := [2, 3]) sc_wish_both.nd rfl (by first | exact Or.inl rfl | exact Or.inr rfl))) (fun _ _ _ _ _ => sts_nil) (fun _ _ _ _ _ => (si_any (se_fld T.cl_Wish T.na_Wish_good (se_var 1) rfl))) (fun _ _ _ _ _ => (sg_name (vs := [3]) sc_wish_both.nd rfl (by first | exact Or.inl rfl | exact Or.inr rfl))) (fun _ _ _ _ _ => sts_nil) (fun _ _ _ _ _ => (se_tup (sa_cons (se_var 2) (sa_cons (se_var 3) sa_nil))))) sa_nil))))))
theorem fn_wish_both (T : Tx K mg) : FnOk P w K mg base CX0 8 T.a_wish_both T.d_wish_both ["one", "other"] (spL K (fs_wish_both T.c_Wish)) :=
  fun_okL T.F_wish_both sc_wish_both (len_wish_both _) fun cdv A outer s H E hr => ⟨_, w_wish_both T cdv A outer s H E hr, rd_wish_both _⟩
theorem ok_wish_both (T : Tx K mg) : Cl P w K mg base 8 T.a_wish_both 2 [] (fs_wish_both T.c_Wish) :=
  cl_of T.F_wish_both (fn_wish_both T) (len_wish_both _) fun _ _ _ _ _ _ us hl => match us, hl with | [_, _], _ => rfl
theorem w_wish_either (T : Tx K mg) (cdv : Value) (A : Around) (outer : List Env) (s : Shared) (H : Hp) (E : XK) (hr : Room 7 (A.deeper (envOfC "wish_either" (defScope s_wish_either) s.heap.objs.size T.a_wish_either cdv))) :
    SSs (cxOf CX0 P w K mg base N_wish_either "wish_either" (defScope s_wish_either) T.a_wish_either cdv A outer s H E).nox (defBody s_wish_either) (t_wish_either T.c_Wish) := 
  (sss_cons (ss_setLc2 (own := [("i", 3), ("j", 4)]) rfl sc_wish_either.nd rfl rfl rfl (si_range1 rfl T.b_range (sa_cons (se_fld T.cl_Wish T.na_Wish_states (se_var 0) rfl) sa_nil)) (blkOk_by (own := [("i", 3), ("j", 4)]) rfl) (by decide) (fun _ _ _ _ _ => (sg_name (vs := [3, 4]) sc_wish_either.nd rfl (by first | exact Or.inl rfl | exact Or.inr rfl))) (fun _ _ _ _ _ => sts_nil) (fun _ _ _ _ _ => (si_range1 rfl T.b_range (sa_cons (se_fld T.cl_Wish T.na_Wish_states (se_var 1) rfl) sa_nil))) (fun _ _ _ _ _ => (sg_name (vs := [4]) sc_wish_either.nd rfl (by first | exact Or.inl rfl | exact Or.inr rfl))) (fun _ _ _ _ _ => sts_nil) (fun _ _ _ _ _ => (se_tup (sa_cons (se_var 3) (sa_cons (se_var 4) sa_nil)))))
    (sss_one (ss_ret (se_call (ok_paired_wish T) hr (by decide) rfl T.m_paired_wish (sa_cons (se_var 0) (sa_cons (se_var 1) (sa_cons (se_lc (own := [("i", 3), ("j", 4)]) rfl sc_wish_either.nd (si_any (se_var 2)) (blkOk_by (own := [("i", 3), ("j", 4)]) rfl) (fun _ _ _ _ _ => (sg_tup rfl (sgs_cons (sg_name (vs := [3, 4]) sc_wish_either.nd rfl (by first | exact Or.inl rfl | exact Or.inr rfl)) (sgs_cons (sg_name (vs := [3, 4]) sc_wish_either.nd rfl (by first | exact Or.inl rfl | exact Or.inr rfl)) (sgs_nil (vs := [3, 4])))))) (fun _ _ _ _ _ => (sts_one (SW.st (sw_or (st_cmp (os_in (u65 hr)) (se_var 3) (se_fld T.cl_Wish T.na_Wish_good (se_var 0) rfl) rfl) (sw_or1 (st_cmp (os_in (u65 hr)) (se_var 4) (se_fld T.cl_Wish T.na_Wish_good (se_var 1) rfl) rfl)))))) (fun _ _ _ _ _ => (se_tup (sa_cons (se_var 3) (sa_cons (se_var 4) sa_nil))))) sa_nil)))))))
theorem fn_wish_either (T : Tx K mg) : FnOk P w K mg base CX0 8 T.a_wish_either T.d_wish_either ["one", "other"] (spL K (fs_wish_either T.c_Wish)) :=
  fun_okL T.F_wish_either sc_wish_either (len_wish_either _) fun cdv A outer s H E hr => ⟨_, w_wish_either T cdv A outer s H E hr, rd_wish_either _⟩
theorem ok_wish_either (T : Tx K mg) : Cl P w K mg base 8 T.a_wish_either 2 [] (fs_wish_either T.c_Wish) :=
  cl_of T.F_wish_either (fn_wish_either T) (len_wish_either _) fun _ _ _ _ _ _ us hl => match us, hl with | [_, _], _ => rfl
theorem w__law_box (T : Tx K mg) (cdv : Value) (A : Around) (outer : List Env) (s : Shared) (H : Hp) (E : XK) (hr : Room 0 (A.deeper (envOfC "_law_box" (defScope s__law_box) s.heap.objs.size T.a__law_box cdv))) :
    SSs (cxOf CX0 P w K mg base N__law_box "_law_box" (defScope s__law_box) T.a__law_box cdv A outer s H E).nox (defBody s__law_box) (t__law_box T.c_Wish) := 
  (sss_cons (ss_set sc__law_box.nd (i := 2) rfl (by first | exact Or.inl rfl | exact Or.inr rfl) (se_op os_add (se_op os_mul se_int (se_var 1)) se_int))
    (sss_cons (ss_if (st_cmp os_lt (se_var 1) (se_callB cs_len rfl T.b_len PySem.boot_len (sa_cons (se_var 0) sa_nil)) (nomark _)) (sss_one (ss_set sc__law_box.nd (i := 2) rfl (by first | exact Or.inl rfl | exact Or.inr rfl) (se_callB cs_abs rfl T.b_abs PyProof.Rows.boot_abs (sa_cons (se_callTy cs_int rfl T.b_int PyProof.Rows.boot_int (sa_cons (se_ix (se_var 0) (se_var 1) (by exact fun _ _ => rfl)) sa_nil)) sa_nil)))) (sss_one (ss_if (st_cmp os_gt (se_callB cs_len rfl T.b_len PySem.boot_len (sa_cons (se_var 0) sa_nil)) se_int (nomark _)) (sss_one (ss_set sc__law_box.nd (i := 2) rfl (by first | exact Or.inl rfl | exact Or.inr rfl) (se_op os_add (se_var 2) (se_op os_mul (se_op os_mod (se_callTy cs_int rfl T.b_int PyProof.Rows.boot_int (sa_cons (se_callB cs_abs rfl T.b_abs PyProof.Rows.boot_abs (sa_cons (se_callTy cs_int rfl T.b_int PyProof.Rows.boot_int (sa_cons (se_ix (se_var 0) (se_op os_mod (se_callTy cs_int rfl T.b_int PyProof.Rows.boot_int (sa_cons (se_var 1) sa_nil)) (se_callB cs_len rfl T.b_len PySem.boot_len (sa_cons (se_var 0) sa_nil))) (by exact fun _ _ => rfl)) sa_nil)) sa_nil)) sa_nil)) se_int) se_int)))) sss_nil)))
    (sss_cons (ss_set sc__law_box.nd (i := 3) rfl (by first | exact Or.inl rfl | exact Or.inr rfl) (se_if (st_cmp os_ge (se_var 2) (se_op os_pow se_int se_int) (nomark _)) (se_var 2) se_int))
    (sss_one (ss_ret (se_lstM (sa_cons (se_var 3) (sa_cons (se_op os_add (se_op os_mod (se_callTy cs_int rfl T.b_int PyProof.Rows.boot_int (sa_cons (se_op os_add (se_op os_mul (se_op os_mod (se_callTy cs_int rfl T.b_int PyProof.Rows.boot_int (sa_cons (se_var 2) sa_nil)) se_int) se_int) (se_op os_mul se_int (se_var 1))) sa_nil)) se_int) se_int) sa_nil))))))))
theorem fn__law_box (T : Tx K mg) : FnOk P w K mg base CX0 1 T.a__law_box T.d__law_box ["script", "k"] (spL K (fs__law_box T.c_Wish)) :=
  fun_okL T.F__law_box sc__law_box (len__law_box _) fun cdv A outer s H E hr => ⟨_, w__law_box T cdv A outer s H E hr, rd__law_box _⟩
theorem ok__law_box (T : Tx K mg) : Cl P w K mg base 1 T.a__law_box 2 [] (fs__law_box T.c_Wish) :=
  cl_of T.F__law_box (fn__law_box T) (len__law_box _) fun _ _ _ _ _ _ us hl => match us, hl with | [_, _], _ => rfl
theorem w__law_take (T : Tx K mg) (cdv : Value) (A : Around) (outer : List Env) (s : Shared) (H : Hp) (E : XK) (hr : Room 0 (A.deeper (envOfC "_law_take" (defScope s__law_take) s.heap.objs.size T.a__law_take cdv))) :
    SSs (cxOf CX0 P w K mg base N__law_take "_law_take" (defScope s__law_take) T.a__law_take cdv A outer s H E).nox (defBody s__law_take) (t__law_take T.c_Wish) := 
  (sss_cons (ss_if (st_cmp os_gt (se_ix (se_var 0) se_int (by exact fun _ _ => rfl)) se_int (nomark _)) (sss_cons (ss_set sc__law_take.nd (i := 2) rfl (by first | exact Or.inl rfl | exact Or.inr rfl) (se_op os_mod (se_callTy cs_int rfl T.b_int PyProof.Rows.boot_int (sa_cons (se_ix (se_var 0) se_int (by exact fun _ _ => rfl)) sa_nil)) (se_var 1)))
    (sss_cons (ss_asg (se_op os_fdivW (se_ix (se_var 0) se_int (by exact fun _ _ => rfl)) (se_var 1)) (sg_sub (vs := []) (se_var 0) se_int))
    (sss_one (ss_ret (se_var 2))))) sss_nil)
    (sss_cons (ss_set sc__law_take.nd (i := 3) rfl (by first | exact Or.inl rfl | exact Or.inr rfl) (se_op os_mod (se_callTy cs_int rfl T.b_int PyProof.Rows.boot_int (sa_cons (se_op os_add (se_op os_mul (se_ix (se_var 0) se_int (by exact fun _ _ => rfl)) se_int) se_int) sa_nil)) se_int))
    (sss_cons (ss_asg (se_op os_add (se_op os_mod (se_callTy cs_int rfl T.b_int PyProof.Rows.boot_int (sa_cons (se_op os_add (se_op os_mul (se_var 3) se_int) se_int) sa_nil)) se_int) se_int) (sg_sub (vs := []) (se_var 0) se_int))
    (sss_one (ss_ret (se_op os_mod (se_callTy cs_int rfl T.b_int PyProof.Rows.boot_int (sa_cons (se_op os_fdiv (se_op os_add (se_op os_mul (se_var 3) se_int) (se_ix (se_var 0) se_int (by exact fun _ _ => rfl))) se_int) sa_nil)) (se_var 1)))))))
theorem fn__law_take (T : Tx K mg) : FnOk P w K mg base CX0 1 T.a__law_take T.d__law_take ["box", "many"] (spL K (fs__law_take T.c_Wish)) :=
  fun_okL T.F__law_take sc__law_take (len__law_take _) fun cdv A outer s H E hr => ⟨_, w__law_take T cdv A outer s H E hr, rd__law_take _⟩
theorem ok__law_take (T : Tx K mg) : Cl P w K mg base 1 T.a__law_take 2 [] (fs__law_take T.c_Wish) :=
  cl_of T.F__law_take (fn__law_take T) (len__law_take _) fun _ _ _ _ _ _ us hl => match us, hl with | [_, _], _ => rfl
theorem w__law_pick (T : Tx K mg) (cdv : Value) (A : Around) (outer : List Env) (s : Shared) (H : Hp) (E : XK) (hr : Room 1 (A.deeper (envOfC "_law_pick" (defScope s__law_pick) s.heap.objs.size T.a__law_pick cdv))) :
    SSs (cxOf CX0 P w K mg base N__law_pick "_law_pick" (defScope s__law_pick) T.a__law_pick cdv A outer s H E).nox (defBody s__law_pick) (t__law_pick T.c_Wish) := 
  (sss_one (ss_ret (se_ix (se_var 1) (se_call (ok__law_take T) hr (by decide) rfl T.m__law_take (sa_cons (se_var 0) (sa_cons (se_callB cs_len rfl T.b_len PySem.boot_len (sa_cons (se_var 1) sa_nil)) sa_nil))) (by exact fun _ _ => rfl))))
theorem fn__law_pick (T : Tx K mg) : FnOk P w K mg base CX0 2 T.a__law_pick T.d__law_pick ["box", "some"] (spL K (fs__law_pick T.c_Wish)) :=
  fun_okL T.F__law_pick sc__law_pick (len__law_pick _) fun cdv A outer s H E hr => ⟨_, w__law_pick T cdv A outer s H E hr, rd__law_pick _⟩
theorem ok__law_pick (T : Tx K mg) : Cl P w K mg base 2 T.a__law_pick 2 [] (fs__law_pick T.c_Wish) :=
  cl_of T.F__law_pick (fn__law_pick T) (len__law_pick _) fun _ _ _ _ _ _ us hl => match us, hl with | [_, _], _ => rfl
theorem w__law_names (T : Tx K mg) (cdv : Value) (A : Around) (outer : List Env) (s : Shared) (H : Hp) (E : XK) (hr : Room 1 (A.deeper (envOfC "_law_names" (defScope s__law_names) s.heap.objs.size T.a__law_names cdv))) :
    SSs (cxOf CX0 P w K mg base N__law_names "_law_names" (defScope s__law_names) T.a__law_names cdv A outer s H E).nox (defBody s__law_names) (t__law_names T.c_Wish) := 
  (sss_cons (ss_set sc__law_names.nd (i := 2) rfl (by first | exact Or.inl rfl | exact Or.inr rfl) (se_lstM sa_nil))
    (sss_cons (ss_for PassesOwn.never rfl (si_range1 rfl T.b_range (sa_cons (se_var 1) sa_nil)) (sg_name (vs := [3]) sc__law_names.nd rfl (by first | exact Or.inl rfl | exact Or.inr rfl)) (sss_cons (ss_set sc__law_names.nd (i := 4) rfl (by first | exact Or.inl rfl | exact Or.inr rfl) se_str)
    (sss_cons (ss_for PassesOwn.never rfl (si_range1 rfl T.b_range (sa_cons (se_op os_add se_int (se_call (ok__law_take T) hr (by decide) rfl T.m__law_take (sa_cons (se_var 0) (sa_cons se_int sa_nil)))) sa_nil)) (sg_name (vs := [5]) sc__law_names.nd rfl (by first | exact Or.inl rfl | exact Or.inr rfl)) (sss_one (ss_set sc__law_names.nd (i := 4) rfl (by first | exact Or.inl rfl | exact Or.inr rfl) (se_op os_add (se_var 4) (se_ix se_str (se_call (ok__law_take T) hr (by decide) rfl T.m__law_take (sa_cons (se_var 0) (sa_cons se_int sa_nil))) (by exact fun _ _ => rfl))))))
    (sss_cons (ss_for PassesOwn.never rfl (si_range1 rfl T.b_range (sa_cons (se_var 1) sa_nil)) (sg_name (vs := [6]) sc__law_names.nd rfl (by first | exact Or.inl rfl | exact Or.inr rfl)) (sss_one (ss_if (st_cmp (os_in (u65 hr)) (se_var 4) (se_var 2) rfl) (sss_one (ss_set sc__law_names.nd (i := 4) rfl (by first | exact Or.inl rfl | exact Or.inr rfl) (se_op os_add (se_var 4) se_str))) sss_nil)))
    (sss_one (ss_expr (se_bm PySem.F.plainAttrs_list PySem.F.slot_list_append PySem.F.type_list_append ms_append (se_var 2) (sa_cons (se_var 4) sa_nil))))))))
    (sss_one (ss_ret (se_var 2)))))
theorem fn__law_names (T : Tx K mg) : FnOk P w K mg base CX0 2 T.a__law_names T.d__law_names ["box", "many"] (spL K (fs__law_names T.c_Wish)) :=
  fun_okL T.F__law_names sc__law_names (len__law_names _) fun cdv A outer s H E hr => ⟨_, w__law_names T cdv A outer s H E hr, rd__law_names _⟩
theorem ok__law_names (T : Tx K mg) : Cl P w K mg base 2 T.a__law_names 2 [] (fs__law_names T.c_Wish) :=
  cl_of T.F__law_names (fn__law_names T) (len__law_names _) fun _ _ _ _ _ _ us hl => match us, hl with | [_, _], _ => rfl
theorem w__law_wish (T : Tx K mg) (cdv : Value) (A : Around) (outer : List Env) (s : Shared) (H : Hp) (E : XK) (hr : Room 2 (A.deeper (envOfC "_law_wish" (defScope s__law_wish) s.heap.objs.size T.a__law_wish cdv))) :
    SSs (cxOf CX0 P w K mg base N__law_wish "_law_wish" (defScope s__law_wish) T.a__law_wish cdv A outer s H E).nox (defBody s__law_wish) (t__law_wish T.c_Wish) := 
  (sss_cons (ss_par rfl sc__law_wish.nd (i := 2) (j := 3) rfl rfl (by decide) rfl rfl (sa_cons (se_call (ok__law_pick T) hr (by decide) rfl T.m__law_pick (sa_cons (se_var 0) (sa_cons (se_var 1) sa_nil))) (sa_cons (se_call (ok__law_pick T) hr (by decide) rfl T.m__law_pick (sa_cons (se_var 0) (sa_cons (se_var 1) sa_nil))) sa_nil)) rfl)
    (sss_cons (ss_set sc__law_wish.nd (i := 4) rfl (by first | exact Or.inl rfl | exact Or.inr rfl) (se_call (ok__law_take T) hr (by decide) rfl T.m__law_take (sa_cons (se_var 0) (sa_cons se_int sa_nil))))
    (sss_cons (ss_set sc__law_wish.nd (i := 5) rfl (by first | exact Or.inl rfl | exact Or.inr rfl) (se_ix (se_lst (sa_cons (se_lst (sa_cons se_int sa_nil)) (sa_cons (se_lst (sa_cons se_int sa_nil)) sa_nil))) (se_call (ok__law_take T) hr (by decide) rfl T.m__law_take (sa_cons (se_var 0) (sa_cons se_int sa_nil))) (by exact fun _ _ => rfl)))
    (sss_cons (ss_if (st_cmp (os_eq (u64 hr)) (se_var 4) se_int (nomark _)) (sss_one (ss_ret (se_tup (sa_cons se_int (sa_cons (se_var 5) (sa_cons (se_lst (sa_cons (se_tup (sa_cons se_int (sa_cons (se_lst (sa_cons (se_var 2) sa_nil)) (sa_cons (se_lst sa_nil) (sa_cons se_int sa_nil))))) sa_nil)) sa_nil)))))) sss_nil)
    (sss_cons (ss_if (st_cmp (os_eq (u64 hr)) (se_var 4) se_int (nomark _)) (sss_one (ss_ret (se_tup (sa_cons se_int (sa_cons (se_lst (sa_cons se_int sa_nil)) (sa_cons (se_lst (sa_cons (se_tup (sa_cons se_int (sa_cons (se_lst (sa_cons (se_var 3) sa_nil)) (sa_cons (se_lst sa_nil) (sa_cons se_int sa_nil))))) (sa_cons (se_tup (sa_cons se_int (sa_cons (se_lst (sa_cons (se_var 2) sa_nil)) (sa_cons (se_lst sa_nil) (sa_cons se_int sa_nil))))) sa_nil))) sa_nil)))))) sss_nil)
    (sss_cons (ss_if (st_cmp (os_eq (u64 hr)) (se_var 4) se_int (nomark _)) (sss_one (ss_ret (se_tup (sa_cons se_int (sa_cons (se_var 5) (sa_cons (se_lst (sa_cons (se_tup (sa_cons se_int (sa_cons (se_lst (sa_cons (se_var 2) sa_nil)) (sa_cons (se_lst sa_nil) (sa_cons se_int sa_nil))))) (sa_cons (se_tup (sa_cons se_int (sa_cons (se_lst (sa_cons (se_var 2) sa_nil)) (sa_cons (se_lst sa_nil) (sa_cons se_int sa_nil))))) sa_nil))) sa_nil)))))) sss_nil)
    (sss_cons (ss_if (st_cmp (os_eq (u64 hr)) (se_var 4) se_int (nomark _)) (sss_one (ss_ret (se_tup (sa_cons se_int (sa_cons (se_lst (sa_cons se_int sa_nil)) (sa_cons (se_lst (sa_cons (se_tup (sa_cons se_int (sa_cons (se_lst (sa_cons (se_var 2) sa_nil)) (sa_cons (se_lst sa_nil) (sa_cons se_int sa_nil))))) (sa_cons (se_tup (sa_cons se_int (sa_cons (se_lst sa_nil) (sa_cons (se_lst (sa_cons (se_var 2) sa_nil)) (sa_cons se_int sa_nil))))) sa_nil))) sa_nil)))))) sss_nil)
    (sss_cons (ss_if (st_cmp (os_eq (u64 hr)) (se_var 4) se_int (nomark _)) (sss_one (ss_ret (se_tup (sa_cons se_int (sa_cons (se_lst (sa_cons se_int sa_nil)) (sa_cons (se_lst (sa_cons (se_tup (sa_cons se_int (sa_cons (se_lst (sa_cons (se_var 2) sa_nil)) (sa_cons (se_lst sa_nil) (sa_cons se_int sa_nil))))) (sa_cons (se_tup (sa_cons se_int (sa_cons (se_lst (sa_cons (se_var 3) sa_nil)) (sa_cons (se_lst sa_nil) (sa_cons se_int sa_nil))))) sa_nil))) sa_nil)))))) sss_nil)
    (sss_cons (ss_set sc__law_wish.nd (i := 6) rfl (by first | exact Or.inl rfl | exact Or.inr rfl) (se_lstM sa_nil))
    (sss_cons (ss_for PassesOwn.never rfl (si_range1 rfl T.b_range (sa_cons (se_op os_add se_int (se_call (ok__law_take T) hr (by decide) rfl T.m__law_take (sa_cons (se_var 0) (sa_cons se_int sa_nil)))) sa_nil)) (sg_name (vs := [7]) sc__law_wish.nd rfl (by first | exact Or.inl rfl | exact Or.inr rfl)) (sss_cons (ss_set sc__law_wish.nd (i := 8) rfl (by first | exact Or.inl rfl | exact Or.inr rfl) (se_lc (own := [("ring", 10)]) rfl sc__law_wish.nd (si_any (se_var 1)) (blkOk_by (own := [("ring", 10)]) rfl) (fun _ _ _ _ _ => (sg_name (vs := [10]) sc__law_wish.nd rfl (by first | exact Or.inl rfl | exact Or.inr rfl))) (fun _ _ _ _ _ => (sts_one (st_cmp (os_eq (u64 hr)) (se_call (ok__law_take T) hr (by decide) rfl T.m__law_take (sa_cons (se_var 0) (sa_cons se_int sa_nil))) se_int (nomark _)))) (fun _ _ _ _ _ => (se_var 10))))
    (sss_cons (ss_setLc (own := [("ring", 10)]) rfl sc__law_wish.nd rfl rfl rfl (si_any (se_var 1)) (blkOk_by (own := [("ring", 10)]) rfl) (fun _ _ _ _ _ => (sg_name (vs := [10]) sc__law_wish.nd rfl (by first | exact Or.inl rfl | exact Or.inr rfl))) (fun _ _ _ _ _ => (sts_one (SW.st (sw_and (st_cmp (os_notIn (u65 hr)) (se_var 10) (se_var 8) rfl) (sw_and1 (st_cmp (os_eq (u64 hr)) (se_call (ok__law_take T) hr (by decide) rfl T.m__law_take (sa_cons (se_var 0) (sa_cons se_int sa_nil))) se_int (nomark _))))))) (fun _ _ _ _ _ => (se_var 10)))
    (sss_one (ss_expr (se_bm PySem.F.plainAttrs_list PySem.F.slot_list_append PySem.F.type_list_append ms_append (se_var 6) (sa_cons (se_tup (sa_cons (se_call (ok__law_take T) hr (by decide) rfl T.m__law_take (sa_cons (se_var 0) (sa_cons se_int sa_nil))) (sa_cons (se_var 8) (sa_cons (se_var 9) (sa_cons (se_call (ok__law_take T) hr (by decide) rfl T.m__law_take (sa_cons (se_var 0) (sa_cons se_int sa_nil))) sa_nil))))) sa_nil)))))))
    (sss_one (SS.frz (i := 6) (ss_ret (se_tup (sa_cons se_int (sa_cons (se_lc (own := [("k", 11)]) rfl sc__law_wish.nd (si_range1 rfl T.b_range (sa_cons se_int sa_nil)) (blkOk_by (own := [("k", 11)]) rfl) (fun _ _ _ _ _ => (sg_name (vs := [11]) sc__law_wish.nd rfl (by first | exact Or.inl rfl | exact Or.inr rfl))) (fun _ _ _ _ _ => (sts_one (st_cmp (os_eq (u64 hr)) (se_call (ok__law_take T) hr (by decide) rfl T.m__law_take (sa_cons (se_var 0) (sa_cons se_int sa_nil))) se_int (nomark _)))) (fun _ _ _ _ _ => (se_var 11))) (sa_cons (se_var 6) sa_nil)))))))))))))))))
theorem fn__law_wish (T : Tx K mg) : FnOk P w K mg base CX0 3 T.a__law_wish T.d__law_wish ["box", "rings"] (spL K (fs__law_wish T.c_Wish)) :=
  fun_okL T.F__law_wish sc__law_wish (len__law_wish _) fun cdv A outer s H E hr => ⟨_, w__law_wish T cdv A outer s H E hr, rd__law_wish _⟩
theorem ok__law_wish (T : Tx K mg) : Cl P w K mg base 3 T.a__law_wish 2 [] (fs__law_wish T.c_Wish) :=
  cl_of T.F__law_wish (fn__law_wish T) (len__law_wish _) fun _ _ _ _ _ _ us hl => match us, hl with | [_, _], _ => rfl
theorem w__law_read (T : Tx K mg) (cdv : Value) (A : Around) (outer : List Env) (s : Shared) (H : Hp) (E : XK) (hr : Room 0 (A.deeper (envOfC "_law_read" (defScope s__law_read) s.heap.objs.size T.a__law_read cdv))) :
    SSs (cxOf CX0 P w K mg base N__law_read "_law_read" (defScope s__law_read) T.a__law_read cdv A outer s H E).nox (defBody s__law_read) (t__law_read T.c_Wish) := 
  (sss_cons (ss_for PassesOwn.never rfl (si_any (se_ix (se_var 0) se_int (by exact fun _ _ => rfl))) (sg_tup rfl (sgs_cons (sg_name (vs := [3, 4, 5, 6]) sc__law_read.nd rfl (by first | exact Or.inl rfl | exact Or.inr rfl)) (sgs_cons (sg_name (vs := [3, 4, 5, 6]) sc__law_read.nd rfl (by first | exact Or.inl rfl | exact Or.inr rfl)) (sgs_cons (sg_name (vs := [3, 4, 5, 6]) sc__law_read.nd rfl (by first | exact Or.inl rfl | exact Or.inr rfl)) (sgs_cons (sg_name (vs := [3, 4, 5, 6]) sc__law_read.nd rfl (by first | exact Or.inl rfl | exact Or.inr rfl)) (sgs_nil (vs := [3, 4, 5, 6]))))))) (sss_one (ss_if (SW.st (sw_and (st_cmp (os_eq (u64 hr)) (se_var 3) (se_var 1) (nomark _)) (sw_and1 (st_cmp (os_eq (u64 hr)) (se_op os_add (se_lc (own := [("ring", 7)]) rfl sc__law_read.nd (si_any (se_var 4)) (blkOk_by (own := [("ring", 7)]) rfl) (fun _ _ _ _ _ => (sg_name (vs := [7]) sc__law_read.nd rfl (by first | exact Or.inl rfl | exact Or.inr rfl))) (fun _ _ _ _ _ => (sts_one (st_cmp (os_notIn (u65 hr)) (se_var 7) (se_var 2) rfl))) (fun _ _ _ _ _ => (se_var 7))) (se_lc (own := [("ring", 7)]) rfl sc__law_read.nd (si_any (se_var 5)) (blkOk_by (own := [("ring", 7)]) rfl) (fun _ _ _ _ _ => (sg_name (vs := [7]) sc__law_read.nd rfl (by first | exact Or.inl rfl | exact Or.inr rfl))) (fun _ _ _ _ _ => (sts_one (st_cmp (os_in (u65 hr)) (se_var 7) (se_var 2) rfl))) (fun _ _ _ _ _ => (se_var 7)))) (se_lst sa_nil) (nomark _))))) (sss_one (ss_ret (se_var 6))) sss_nil)))
    (sss_one (ss_ret (se_var 1))))
theorem fn__law_read (T : Tx K mg) : FnOk P w K mg base CX0 1 T.a__law_read T.d__law_read ["wish", "state", "lot"] (spL K (fs__law_read T.c_Wish)) :=
  fun_okL T.F__law_read sc__law_read (len__law_read _) fun cdv A outer s H E hr => ⟨_, w__law_read T cdv A outer s H E hr, rd__law_read _⟩
theorem ok__law_read (T : Tx K mg) : Cl P w K mg base 1 T.a__law_read 3 [] (fs__law_read T.c_Wish) :=
  cl_of T.F__law_read (fn__law_read T) (len__law_read _) fun _ _ _ _ _ _ us hl => match us, hl with | [_, _, _], _ => rfl
theorem w__law_lots (T : Tx K mg) (cdv : Value) (A : Around) (outer : List Env) (s : Shared) (H : Hp) (E : XK) (hr : Room 2 (A.deeper (envOfC "_law_lots" (defScope s__law_lots) s.heap.objs.size T.a__law_lots cdv))) :
    SSs (cxOf CX0 P w K mg base N__law_lots "_law_lots" (defScope s__law_lots) T.a__law_lots cdv A outer s H E).nox (defBody s__law_lots) (t__law_lots T.c_Wish) := 
  (sss_cons (ss_set sc__law_lots.nd (i := 3) rfl (by first | exact Or.inl rfl | exact Or.inr rfl) (se_lstM sa_nil))
    (sss_cons (ss_for PassesOwn.never rfl (si_range1 rfl T.b_range (sa_cons (se_var 2) sa_nil)) (sg_name (vs := [4]) sc__law_lots.nd rfl (by first | exact Or.inl rfl | exact Or.inr rfl)) (sss_cons (ss_setLc (own := [("ring", 6)]) rfl sc__law_lots.nd rfl rfl rfl (si_any (se_var 1)) (blkOk_by (own := [("ring", 6)]) rfl) (fun _ _ _ _ _ => (sg_name (vs := [6]) sc__law_lots.nd rfl (by first | exact Or.inl rfl | exact Or.inr rfl))) (fun _ _ _ _ _ => (sts_one (st_cmp os_lt (se_call (ok__law_take T) hr (by decide) rfl T.m__law_take (sa_cons (se_var 0) (sa_cons se_int sa_nil))) se_int (nomark _)))) (fun _ _ _ _ _ => (se_var 6)))
    (sss_one (ss_expr (se_bm PySem.F.plainAttrs_list PySem.F.slot_list_append PySem.F.type_list_append ms_append (se_var 3) (sa_cons (se_callTy cs_tuple rfl T.b_tuple PyProof.Rows.boot_tuple (sa_cons (se_callB (cs_sorted (u64 hr)) rfl T.b_sorted PyProof.Rows.boot_sorted (sa_cons (se_if (st_cmp (os_ne (u64 hr)) (se_var 5) (se_lst sa_nil) (nomark _)) (se_var 5) (se_lst (sa_cons (se_call (ok__law_pick T) hr (by decide) rfl T.m__law_pick (sa_cons (se_var 0) (sa_cons (se_var 1) sa_nil))) sa_nil))) sa_nil)) sa_nil)) sa_nil))))))
    (sss_one (ss_ret (se_callTy cs_tuple rfl T.b_tuple PyProof.Rows.boot_tuple (sa_cons (se_var 3) sa_nil))))))
theorem fn__law_lots (T : Tx K mg) : FnOk P w K mg base CX0 3 T.a__law_lots T.d__law_lots ["box", "rings", "many"] (spL K (fs__law_lots T.c_Wish)) :=
  fun_okL T.F__law_lots sc__law_lots (len__law_lots _) fun cdv A outer s H E hr => ⟨_, w__law_lots T cdv A outer s H E hr, rd__law_lots _⟩
theorem ok__law_lots (T : Tx K mg) : Cl P w K mg base 3 T.a__law_lots 3 [] (fs__law_lots T.c_Wish) :=
  cl_of T.F__law_lots (fn__law_lots T) (len__law_lots _) fun _ _ _ _ _ _ us hl => match us, hl with | [_, _, _], _ => rfl
theorem w__law_end (T : Tx K mg) (cdv : Value) (A : Around) (outer : List Env) (s : Shared) (H : Hp) (E : XK) (hr : Room 1 (A.deeper (envOfC "_law_end" (defScope s__law_end) s.heap.objs.size T.a__law_end cdv))) :
    SSs (cxOf CX0 P w K mg base N__law_end "_law_end" (defScope s__law_end) T.a__law_end cdv A outer s H E).nox (defBody s__law_end) (t__law_end T.c_Wish) := 
  (sss_cons (ss_set sc__law_end.nd (i := 2) rfl (by first | exact Or.inl rfl | exact Or.inr rfl) se_int)
    (sss_cons (ss_for PassesOwn.never rfl (si_any (se_var 1)) (sg_name (vs := [3]) sc__law_end.nd rfl (by first | exact Or.inl rfl | exact Or.inr rfl)) (sss_one (ss_set sc__law_end.nd (i := 2) rfl (by first | exact Or.inl rfl | exact Or.inr rfl) (se_call (ok__law_read T) hr (by decide) rfl T.m__law_read (sa_cons (se_var 0) (sa_cons (se_var 2) (sa_cons (se_var 3) sa_nil)))))))
    (sss_one (ss_ret (se_var 2)))))
theorem fn__law_end (T : Tx K mg) : FnOk P w K mg base CX0 2 T.a__law_end T.d__law_end ["wish", "tale"] (spL K (fs__law_end T.c_Wish)) :=
  fun_okL T.F__law_end sc__law_end (len__law_end _) fun cdv A outer s H E hr => ⟨_, w__law_end T cdv A outer s H E hr, rd__law_end _⟩
theorem ok__law_end (T : Tx K mg) : Cl P w K mg base 2 T.a__law_end 2 [] (fs__law_end T.c_Wish) :=
  cl_of T.F__law_end (fn__law_end T) (len__law_end _) fun _ _ _ _ _ _ us hl => match us, hl with | [_, _], _ => rfl
theorem w__law_made_right (T : Tx K mg) (cdv : Value) (A : Around) (outer : List Env) (s : Shared) (H : Hp) (E : XK) (hr : Room 7 (A.deeper (envOfC "_law_made_right" (defScope s__law_made_right) s.heap.objs.size T.a__law_made_right cdv))) :
    SSs (cxOf CX0 P w K mg base N__law_made_right "_law_made_right" (defScope s__law_made_right) T.a__law_made_right cdv A outer s H E).nox (defBody s__law_made_right) (t__law_made_right T.c_Wish) := 
  (sss_cons (ss_asg (se_tup (sa_cons (se_call (ok__law_pick T) hr (by decide) rfl T.m__law_pick (sa_cons (se_var 0) (sa_cons (se_var 1) sa_nil))) (sa_cons (se_call (ok__law_pick T) hr (by decide) rfl T.m__law_pick (sa_cons (se_var 0) (sa_cons (se_var 1) sa_nil))) (sa_cons (se_op os_add se_int (se_call (ok__law_take T) hr (by decide) rfl T.m__law_take (sa_cons (se_var 0) (sa_cons se_int sa_nil)))) sa_nil)))) (sg_tup rfl (sgs_cons (sg_name (vs := [3, 4, 5]) sc__law_made_right.nd rfl (by first | exact Or.inl rfl | exact Or.inr rfl)) (sgs_cons (sg_name (vs := [3, 4, 5]) sc__law_made_right.nd rfl (by first | exact Or.inl rfl | exact Or.inr rfl)) (sgs_cons (sg_name (vs := [3, 4, 5]) sc__law_made_right.nd rfl (by first | exact Or.inl rfl | exact Or.inr rfl)) (sgs_nil (vs := [3, 4, 5])))))))
    (sss_cons (ss_set sc__law_made_right.nd (i := 6) rfl (by first | exact Or.inl rfl | exact Or.inr rfl) (se_lst (sa_cons (se_call (ok_wish_rings_1 T) hr (by decide) rfl T.m_wish_rings (sa_cons (se_var 3) sa_nil)) (sa_cons (se_callK0 (ok_wish_rings_k T) hr (by decide) rfl T.m_wish_rings (sk_cons (se_var 3) (sk_cons (se_var 5) sk_nil))) (sa_cons (se_call (ok_wish_ahead T) hr (by decide) rfl T.m_wish_ahead (sa_cons (se_var 3) (sa_cons (se_var 4) sa_nil))) (sa_cons (se_call (ok_wish_last T) hr (by decide) rfl T.m_wish_last (sa_cons (se_var 4) sa_nil)) sa_nil))))))
    (sss_cons (ss_for PassesOwn.never rfl (si_any (se_var 2)) (sg_name (vs := [7]) sc__law_made_right.nd rfl (by first | exact Or.inl rfl | exact Or.inr rfl)) (sss_cons (ss_set sc__law_made_right.nd (i := 8) rfl (by first | exact Or.inl rfl | exact Or.inr rfl) (se_callB cs_len rfl T.b_len PySem.boot_len (sa_cons (se_lc (own := [("lot", 14)]) rfl sc__law_made_right.nd (si_any (se_var 7)) (blkOk_by (own := [("lot", 14)]) rfl) (fun _ _ _ _ _ => (sg_name (vs := [14]) sc__law_made_right.nd rfl (by first | exact Or.inl rfl | exact Or.inr rfl))) (fun _ _ _ _ _ => (sts_one (st_cmp (os_in (u65 hr)) (se_var 3) (se_var 14) rfl))) (fun _ _ _ _ _ => (se_var 14))) sa_nil)))
    (sss_cons (ss_setLc (own := [("k", 13)]) rfl sc__law_made_right.nd rfl rfl rfl (si_range1 rfl T.b_range (sa_cons (se_callB cs_len rfl T.b_len PySem.boot_len (sa_cons (se_var 7) sa_nil)) sa_nil)) (blkOk_by (own := [("k", 13)]) rfl) (fun _ _ _ _ _ => (sg_name (vs := [13]) sc__law_made_right.nd rfl (by first | exact Or.inl rfl | exact Or.inr rfl))) (fun _ _ _ _ _ => (sts_one (st_cmp (os_in (u65 hr)) (se_var 3) (se_ix (se_var 7) (se_var 13) (by exact fun _ _ => rfl)) rfl))) (fun _ _ _ _ _ => (se_var 13)))
    (sss_cons (ss_set sc__law_made_right.nd (i := 10) rfl (by first | exact Or.inl rfl | exact Or.inr rfl) (se_if (st_cmp (os_ne (u64 hr)) (se_var 9) (se_lst sa_nil) (nomark _)) (se_ix (se_var 9) se_int (by exact fun _ _ => rfl)) (se_op os_sub se_int se_int)))
    (sss_cons (ss_set sc__law_made_right.nd (i := 11) rfl (by first | exact Or.inl rfl | exact Or.inr rfl) (se_and (se_cmp os_ge (se_var 10) se_int (nomark _)) (se_one (se_cmp (os_eq (u64 hr)) (se_lc (own := [("lot", 14)]) rfl sc__law_made_right.nd (si_any (se_slice (se_var 7) so_none (so_some (se_op os_add (se_var 10) se_int)))) (blkOk_by (own := [("lot", 14)]) rfl) (fun _ _ _ _ _ => (sg_name (vs := [14]) sc__law_made_right.nd rfl (by first | exact Or.inl rfl | exact Or.inr rfl))) (fun _ _ _ _ _ => (sts_one (st_cmp (os_in (u65 hr)) (se_var 4) (se_var 14) rfl))) (fun _ _ _ _ _ => (se_var 14))) (se_lst sa_nil) (nomark _)))))
    (sss_cons (ss_set sc__law_made_right.nd (i := 12) rfl (by first | exact Or.inl rfl | exact Or.inr rfl) (se_lstM (sa_cons (se_cmp os_gt (se_var 8) se_int (nomark _)) (sa_cons (se_cmp os_ge (se_var 8) (se_var 5) (nomark _)) (sa_cons (se_var 11) sa_nil)))))
    (sss_cons (ss_expr (se_bm PySem.F.plainAttrs_list PySem.F.slot_list_append PySem.F.type_list_append ms_append (se_var 12) (sa_cons (se_and (se_cmp os_gt (se_callB cs_len rfl T.b_len PySem.boot_len (sa_cons (se_var 7) sa_nil)) se_int (nomark _)) (se_one (se_cmp (os_in (u65 hr)) (se_var 4) (se_ix (se_var 7) (se_op os_sub (se_callB cs_len rfl T.b_len PySem.boot_len (sa_cons (se_var 7) sa_nil)) se_int) (by exact fun _ _ => rfl)) rfl))) sa_nil)))
    (sss_one (ss_if (st_cmp (os_ne (u64 hr)) (se_lc (own := [("wish", 15)]) rfl sc__law_made_right.nd (si_any (se_var 6)) (blkOk_by (own := [("wish", 15)]) rfl) (fun _ _ _ _ _ => (sg_name (vs := [15]) sc__law_made_right.nd rfl (by first | exact Or.inl rfl | exact Or.inr rfl))) (fun _ _ _ _ _ => sts_nil) (fun _ _ _ _ _ => (se_meth T.cl_Wish T.M_Wish_takes (ok_Wish_takes T) hr (by decide) (se_var 15) (sa_cons (se_var 7) sa_nil)))) (se_var 12) (nomark _)) (sss_one (ss_ret se_bl)) sss_nil)))))))))
    (sss_one (ss_ret se_bl)))))
theorem fn__law_made_right (T : Tx K mg) : FnOk P w K mg base CX0 8 T.a__law_made_right T.d__law_made_right ["box", "rings", "tales"] (spL K (fs__law_made_right T.c_Wish)) :=
  fun_okL T.F__law_made_right sc__law_made_right (len__law_made_right _) fun cdv A outer s H E hr => ⟨_, w__law_made_right T cdv A outer s H E hr, rd__law_made_right _⟩
theorem ok__law_made_right (T : Tx K mg) : Cl P w K mg base 8 T.a__law_made_right 3 [] (fs__law_made_right T.c_Wish) :=
  cl_of T.F__law_made_right (fn__law_made_right T) (len__law_made_right _) fun _ _ _ _ _ _ us hl => match us, hl with | [_, _, _], _ => rfl
theorem w__law_joined_right (T : Tx K mg) (cdv : Value) (A : Around) (outer : List Env) (s : Shared) (H : Hp) (E : XK) (hr : Room 8 (A.deeper (envOfC "_law_joined_right" (defScope s__law_joined_right) s.heap.objs.size T.a__law_joined_right cdv))) :
    SSs (cxOf CX0 P w K mg base N__law_joined_right "_law_joined_right" (defScope s__law_joined_right) T.a__law_joined_right cdv A outer s H E).nox (defBody s__law_joined_right) (t__law_joined_right T.c_Wish) := 
  (sss_cons (ss_set sc__law_joined_right.nd (i := 6) rfl (by first | exact Or.inl rfl | exact Or.inr rfl) (se_lst (sa_cons (se_call (ok_wish_denied T) hr (by decide) rfl T.m_wish_denied (sa_cons (se_var 1) sa_nil)) (sa_cons (se_call (ok_wish_both T) hr (by decide) rfl T.m_wish_both (sa_cons (se_var 1) (sa_cons (se_var 2) sa_nil))) (sa_cons (se_call (ok_wish_either T) hr (by decide) rfl T.m_wish_either (sa_cons (se_var 2) (sa_cons (se_var 1) sa_nil))) (sa_cons (se_call (ok_wish_met T) hr (by decide) rfl T.m_wish_met (sa_cons (se_var 1) sa_nil)) sa_nil))))))
    (sss_cons (ss_for PassesOwn.never rfl (si_any (se_var 5)) (sg_name (vs := [7]) sc__law_joined_right.nd rfl (by first | exact Or.inl rfl | exact Or.inr rfl)) (sss_cons (ss_par rfl sc__law_joined_right.nd (i := 8) (j := 9) rfl rfl (by decide) rfl rfl (sa_cons (se_cmp (os_in (u65 hr)) (se_call (ok__law_end T) hr (by decide) rfl T.m__law_end (sa_cons (se_var 3) (sa_cons (se_var 7) sa_nil))) (se_ix (se_var 3) se_int (by exact fun _ _ => rfl)) rfl) (sa_cons (se_cmp (os_in (u65 hr)) (se_call (ok__law_end T) hr (by decide) rfl T.m__law_end (sa_cons (se_var 4) (sa_cons (se_var 7) sa_nil))) (se_ix (se_var 4) se_int (by exact fun _ _ => rfl)) rfl) sa_nil)) rfl)
    (sss_cons (ss_setLc (own := [("k", 12)]) rfl sc__law_joined_right.nd rfl rfl rfl (si_range1 rfl T.b_range (sa_cons (se_op os_add (se_callB cs_len rfl T.b_len PySem.boot_len (sa_cons (se_var 7) sa_nil)) se_int) sa_nil)) (blkOk_by (own := [("k", 12)]) rfl) (fun _ _ _ _ _ => (sg_name (vs := [12]) sc__law_joined_right.nd rfl (by first | exact Or.inl rfl | exact Or.inr rfl))) (fun _ _ _ _ _ => (sts_one (st_cmp (os_in (u65 hr)) (se_call (ok__law_end T) hr (by decide) rfl T.m__law_end (sa_cons (se_var 3) (sa_cons (se_slice (se_var 7) so_none (so_some (se_var 12))) sa_nil))) (se_ix (se_var 3) se_int (by exact fun _ _ => rfl)) rfl))) (fun _ _ _ _ _ => (se_var 12)))
    (sss_cons (ss_set sc__law_joined_right.nd (i := 11) rfl (by first | exact Or.inl rfl | exact Or.inr rfl) (se_lst (sa_cons (se_not (se_var 8)) (sa_cons (se_and (se_var 8) (se_one (se_var 9))) (sa_cons (se_or (se_var 8) (se_one (se_var 9))) (sa_cons (se_cmp (os_ne (u64 hr)) (se_var 10) (se_lst sa_nil) (nomark _)) sa_nil))))))
    (sss_one (ss_if (SW.st (sw_or (st_cmp (os_ne (u64 hr)) (se_lc (own := [("wish", 13)]) rfl sc__law_joined_right.nd (si_any (se_var 6)) (blkOk_by (own := [("wish", 13)]) rfl) (fun _ _ _ _ _ => (sg_name (vs := [13]) sc__law_joined_right.nd rfl (by first | exact Or.inl rfl | exact Or.inr rfl))) (fun _ _ _ _ _ => sts_nil) (fun _ _ _ _ _ => (se_meth T.cl_Wish T.M_Wish_takes (ok_Wish_takes T) hr (by decide) (se_var 13) (sa_cons (se_var 7) sa_nil)))) (se_var 11) (nomark _)) (sw_or1 (st_cmp (os_ne (u64 hr)) (se_meth T.cl_Wish T.M_Wish_takes (ok_Wish_takes T) hr (by decide) (se_var 1) (sa_cons (se_var 7) sa_nil)) (se_var 8) (nomark _))))) (sss_one (ss_ret se_bl)) sss_nil))))))
    (sss_one (ss_ret (se_cmp (os_eq (u64 hr)) (se_meth T.cl_Wish T.M_Wish_takes (ok_Wish_takes T) hr (by decide) (se_call (ok_wish_denied T) hr (by decide) rfl T.m_wish_denied (sa_cons (se_call (ok_wish_denied T) hr (by decide) rfl T.m_wish_denied (sa_cons (se_var 1) sa_nil)) sa_nil)) (sa_cons (se_ix (se_var 5) se_int (by exact fun _ _ => rfl)) sa_nil)) (se_meth T.cl_Wish T.M_Wish_takes (ok_Wish_takes T) hr (by decide) (se_var 1) (sa_cons (se_ix (se_var 5) se_int (by exact fun _ _ => rfl)) sa_nil)) (nomark _))))))
theorem fn__law_joined_right (T : Tx K mg) : FnOk P w K mg base CX0 9 T.a__law_joined_right T.d__law_joined_right ["box", "one", "other", "told", "more", "tales"] (spL K (fs__law_joined_right T.c_Wish)) :=
  fun_okL T.F__law_joined_right sc__law_joined_right (len__law_joined_right _) fun cdv A outer s H E hr => ⟨_, w__law_joined_right T cdv A outer s H E hr, rd__law_joined_right _⟩
theorem ok__law_joined_right (T : Tx K mg) : Cl P w K mg base 9 T.a__law_joined_right 6 [] (fs__law_joined_right T.c_Wish) :=
  cl_of T.F__law_joined_right (fn__law_joined_right T) (len__law_joined_right _) fun _ _ _ _ _ _ us hl => match us, hl with | [_, _, _, _, _, _], _ => rfl
theorem w__law_sorted_steps (T : Tx K mg) (cdv : Value) (A : Around) (outer : List Env) (s : Shared) (H : Hp) (E : XK) (hr : Room 0 (A.deeper (envOfC "_law_sorted_steps" (defScope s__law_sorted_steps) s.heap.objs.size T.a__law_sorted_steps cdv))) :
    SSs (cxOf CX0 P w K mg base N__law_sorted_steps "_law_sorted_steps" (defScope s__law_sorted_steps) T.a__law_sorted_steps cdv A outer s H E).nox (defBody s__law_sorted_steps) (t__law_sorted_steps T.c_Wish) := 
  (sss_one (ss_ret (se_callTy cs_tuple rfl T.b_tuple PyProof.Rows.boot_tuple (sa_cons (se_lc (own := [("one", 1), ("need", 2), ("bar", 3), ("two", 4)]) rfl sc__law_sorted_steps.nd (si_any (se_ix (se_var 0) se_int (by exact fun _ _ => rfl))) (blkOk_by (own := [("one", 1), ("need", 2), ("bar", 3), ("two", 4)]) rfl) (fun _ _ _ _ _ => (sg_tup rfl (sgs_cons (sg_name (vs := [1, 2, 3, 4]) sc__law_sorted_steps.nd rfl (by first | exact Or.inl rfl | exact Or.inr rfl)) (sgs_cons (sg_name (vs := [1, 2, 3, 4]) sc__law_sorted_steps.nd rfl (by first | exact Or.inl rfl | exact Or.inr rfl)) (sgs_cons (sg_name (vs := [1, 2, 3, 4]) sc__law_sorted_steps.nd rfl (by first | exact Or.inl rfl | exact Or.inr rfl)) (sgs_cons (sg_name (vs := [1, 2, 3, 4]) sc__law_sorted_steps.nd rfl (by first | exact Or.inl rfl | exact Or.inr rfl)) (sgs_nil (vs := [1, 2, 3, 4])))))))) (fun _ _ _ _ _ => sts_nil) (fun _ _ _ _ _ => (se_tup (sa_cons (se_var 1) (sa_cons (se_callTy cs_tuple rfl T.b_tuple PyProof.Rows.boot_tuple (sa_cons (se_asc rfl (u64 hr) rfl T.b_sorted rfl T.b_set (se_var 2)) sa_nil)) (sa_cons (se_callTy cs_tuple rfl T.b_tuple PyProof.Rows.boot_tuple (sa_cons (se_asc rfl (u64 hr) rfl T.b_sorted rfl T.b_set (se_var 3)) sa_nil)) (sa_cons (se_var 4) sa_nil))))))) sa_nil))))
theorem fn__law_sorted_steps (T : Tx K mg) : FnOk P w K mg base CX0 1 T.a__law_sorted_steps T.d__law_sorted_steps ["told"] (spL K (fs__law_sorted_steps T.c_Wish)) :=
  fun_okL T.F__law_sorted_steps sc__law_sorted_steps (len__law_sorted_steps _) fun cdv A outer s H E hr => ⟨_, w__law_sorted_steps T cdv A outer s H E hr, rd__law_sorted_steps _⟩
theorem ok__law_sorted_steps (T : Tx K mg) : Cl P w K mg base 1 T.a__law_sorted_steps 1 [] (fs__law_sorted_steps T.c_Wish) :=
  cl_of T.F__law_sorted_steps (fn__law_sorted_steps T) (len__law_sorted_steps _) fun _ _ _ _ _ _ us hl => match us, hl with | [_], _ => rfl
theorem w_law (T : Tx K mg) (cdv : Value) (A : Around) (outer : List Env) (s : Shared) (H : Hp) (E : XK) (hr : Room 9 (A.deeper (envOfC "law" (defScope s_law) s.heap.objs.size T.a_law cdv))) :
    SSs (cxOf CX0 P w K mg base N_law "law" (defScope s_law) T.a_law cdv A outer s H E).nox (defBody s_law) (t_law T.c_Wish) := 
  (sss_cons (ss_set sc_law.nd (i := 1) rfl (by first | exact Or.inl rfl | exact Or.inr rfl) (se_call (ok__law_box T) hr (by decide) rfl T.m__law_box (sa_cons (se_var 0) (sa_cons se_int sa_nil))))
    (sss_cons (ss_set sc_law.nd (i := 2) rfl (by first | exact Or.inl rfl | exact Or.inr rfl) (se_call (ok__law_names T) hr (by decide) rfl T.m__law_names (sa_cons (se_var 1) (sa_cons (se_op os_add se_int (se_call (ok__law_take T) hr (by decide) rfl T.m__law_take (sa_cons (se_var 1) (sa_cons se_int sa_nil)))) sa_nil))))
    (sss_cons (ss_asg (se_tup (sa_cons (se_call (ok__law_wish T) hr (by decide) rfl T.m__law_wish (sa_cons (se_var 1) (sa_cons (se_var 2) sa_nil))) (sa_cons (se_call (ok__law_wish T) hr (by decide) rfl T.m__law_wish (sa_cons (se_var 1) (sa_cons (se_var 2) sa_nil))) sa_nil))) (sg_tup rfl (sgs_cons (sg_name (vs := [3, 4]) sc_law.nd rfl (by first | exact Or.inl rfl | exact Or.inr rfl)) (sgs_cons (sg_name (vs := [3, 4]) sc_law.nd rfl (by first | exact Or.inl rfl | exact Or.inr rfl)) (sgs_nil (vs := [3, 4]))))))
    (sss_cons (ss_setLcM (own := [("one", 9), ("need", 10), ("bar", 11), ("later", 12)]) rfl sc_law.nd rfl rfl rfl (si_any (se_ix (se_var 3) se_int (by exact fun _ _ => rfl))) (blkOk_by (own := [("one", 9), ("need", 10), ("bar", 11), ("later", 12)]) rfl) (fun _ _ _ _ _ => (sg_tup rfl (sgs_cons (sg_name (vs := [9, 10, 11, 12]) sc_law.nd rfl (by first | exact Or.inl rfl | exact Or.inr rfl)) (sgs_cons (sg_name (vs := [9, 10, 11, 12]) sc_law.nd rfl (by first | exact Or.inl rfl | exact Or.inr rfl)) (sgs_cons (sg_name (vs := [9, 10, 11, 12]) sc_law.nd rfl (by first | exact Or.inl rfl | exact Or.inr rfl)) (sgs_cons (sg_name (vs := [9, 10, 11, 12]) sc_law.nd rfl (by first | exact Or.inl rfl | exact Or.inr rfl)) (sgs_nil (vs := [9, 10, 11, 12])))))))) (fun _ _ _ _ _ => sts_nil) (fun _ _ _ _ _ => (se_tup (sa_cons (se_var 9) (sa_cons (se_op os_addM (se_var 10) (se_rev0 (se_var 10))) (sa_cons (se_callTy cs_tuple rfl T.b_tuple PyProof.Rows.boot_tuple (sa_cons (se_var 11) sa_nil)) (sa_cons (se_var 12) sa_nil)))))))
    (sss_cons (ss_set sc_law.nd (i := 6) rfl (by first | exact Or.inl rfl | exact Or.inr rfl) (se_op os_addM (se_ix (se_var 3) se_int (by exact fun _ _ => rfl)) (se_slice (se_ix (se_var 3) se_int (by exact fun _ _ => rfl)) so_none (so_some se_int))))
    (sss_cons (ss_par rfl sc_law.nd (i := 7) (j := 8) rfl rfl (by decide) rfl rfl (sa_cons (se_makeK0 T.mk_Wish (ok_Wish_init_k T) hr (by decide) rfl T.m_Wish (sk_cons (se_var 5) (sk_cons (se_var 6) (sk_cons (se_ix (se_var 3) se_int (by exact fun _ _ => rfl)) sk_nil)))) (sa_cons (se_make T.mk_Wish (ok_Wish_init T) hr (by decide) rfl T.m_Wish (sa_cons (se_ix (se_var 4) se_int (by exact fun _ _ => rfl)) (sa_cons (se_callTy cs_tuple rfl T.b_tuple PyProof.Rows.boot_tuple (sa_cons (se_ix (se_var 4) se_int (by exact fun _ _ => rfl)) sa_nil)) (sa_cons (se_callTy cs_tuple rfl T.b_tuple PyProof.Rows.boot_tuple (sa_cons (se_ix (se_var 4) se_int (by exact fun _ _ => rfl)) sa_nil)) sa_nil)))) sa_nil)) rfl)
    (sss_cons (ss_for PassesOwn.never rfl (si_any (se_var 5)) (sg_tup rfl (sgs_cons (sg_name (vs := [9, 10, 11, 12]) sc_law.nd rfl (by first | exact Or.inl rfl | exact Or.inr rfl)) (sgs_cons (sg_name (vs := [9, 10, 11, 12]) sc_law.nd rfl (by first | exact Or.inl rfl | exact Or.inr rfl)) (sgs_cons (sg_name (vs := [9, 10, 11, 12]) sc_law.nd rfl (by first | exact Or.inl rfl | exact Or.inr rfl)) (sgs_cons (sg_name (vs := [9, 10, 11, 12]) sc_law.nd rfl (by first | exact Or.inl rfl | exact Or.inr rfl)) (sgs_nil (vs := [9, 10, 11, 12]))))))) (sss_one (ss_expr (se_bm PySem.F.plainAttrs_list PySem.F.slot_list_append PySem.F.type_list_append ms_append (se_var 10) (sa_cons se_str sa_nil)))))
    (sss_cons (ss_expr (se_bm PySem.F.plainAttrs_list PySem.F.slot_list_append PySem.F.type_list_append ms_append (se_var 6) (sa_cons se_int sa_nil)))
    (sss_cons (ss_expr (se_bm PySem.F.plainAttrs_list PySem.F.slot_list_append PySem.F.type_list_append ms_append (se_var 5) (sa_cons (se_tup (sa_cons se_int (sa_cons (se_lst (sa_cons se_str sa_nil)) (sa_cons (se_lst sa_nil) (sa_cons se_int sa_nil))))) sa_nil)))
    (sss_cons (ss_if (SW.st (sw_or (st_cmp (os_ne (u64 hr)) (se_fld T.cl_Wish T.na_Wish_states (se_var 7) rfl) (se_ix (se_var 3) se_int (by exact fun _ _ => rfl)) (nomark _)) (sw_or (st_cmp (os_ne (u64 hr)) (se_fld T.cl_Wish T.na_Wish_good (se_var 7) rfl) (se_callTy cs_tuple rfl T.b_tuple PyProof.Rows.boot_tuple (sa_cons (se_callB (cs_sorted (u64 hr)) rfl T.b_sorted PyProof.Rows.boot_sorted (sa_cons (se_ix (se_var 3) se_int (by exact fun _ _ => rfl)) sa_nil)) sa_nil)) (nomark _)) (sw_or1 (st_cmp (os_ne (u64 hr)) (se_fld T.cl_Wish T.na_Wish_steps (se_var 7) rfl) (se_call (ok__law_sorted_steps T) hr (by decide) rfl T.m__law_sorted_steps (sa_cons (se_var 3) sa_nil)) (nomark _)))))) (sss_one (ss_ret se_bl)) sss_nil)
    (sss_cons (ss_set sc_law.nd (i := 13) rfl (by first | exact Or.inl rfl | exact Or.inr rfl) (se_lst sa_nil))
    (sss_cons (ss_for PassesOwn.never rfl (si_any (se_ix (se_var 3) se_int (by exact fun _ _ => rfl))) (sg_tup rfl (sgs_cons (sg_name (vs := [9, 10, 11, 12]) sc_law.nd rfl (by first | exact Or.inl rfl | exact Or.inr rfl)) (sgs_cons (sg_name (vs := [9, 10, 11, 12]) sc_law.nd rfl (by first | exact Or.inl rfl | exact Or.inr rfl)) (sgs_cons (sg_name (vs := [9, 10, 11, 12]) sc_law.nd rfl (by first | exact Or.inl rfl | exact Or.inr rfl)) (sgs_cons (sg_name (vs := [9, 10, 11, 12]) sc_law.nd rfl (by first | exact Or.inl rfl | exact Or.inr rfl)) (sgs_nil (vs := [9, 10, 11, 12]))))))) (sss_one (ss_set sc_law.nd (i := 13) rfl (by first | exact Or.inl rfl | exact Or.inr rfl) (se_op os_add (se_op os_add (se_var 13) (se_var 10)) (se_var 11)))))
    (sss_cons (ss_if (SW.st (sw_or (st_cmp (os_ne (u64 hr)) (se_meth0 T.cl_Wish T.M_Wish_rung_bells (ok_Wish_rung_bells T) hr (by decide) (se_var 7)) (se_callTy cs_tuple rfl T.b_tuple PyProof.Rows.boot_tuple (sa_cons (se_asc rfl (u64 hr) rfl T.b_sorted rfl T.b_set (se_var 13)) sa_nil)) (nomark _)) (sw_or1 (st_val (se_isi (ok := fun _ => False) (T := "bool") (by decide) (fun _ z => z.elim) rfl T.b_isinstance (se_fld T.cl_Wish T.na_Wish_states (se_var 7) rfl) rfl T.b_bool PyProof.Rows.boot_bool))))) (sss_one (ss_ret se_bl)) sss_nil)
    (sss_cons (ss_set sc_law.nd (i := 14) rfl (by first | exact Or.inl rfl | exact Or.inr rfl) (se_op os_add (se_lc (own := [("turn", 20)]) rfl sc_law.nd (si_range1 rfl T.b_range (sa_cons se_int sa_nil)) (blkOk_by (own := [("turn", 20)]) rfl) (fun _ _ _ _ _ => (sg_name (vs := [20]) sc_law.nd rfl (by first | exact Or.inl rfl | exact Or.inr rfl))) (fun _ _ _ _ _ => sts_nil) (fun _ _ _ _ _ => (se_call (ok__law_lots T) hr (by decide) rfl T.m__law_lots (sa_cons (se_var 1) (sa_cons (se_op os_add (se_var 2) (se_lst (sa_cons se_str sa_nil))) (sa_cons (se_call (ok__law_take T) hr (by decide) rfl T.m__law_take (sa_cons (se_var 1) (sa_cons se_int sa_nil))) sa_nil)))))) (se_lst (sa_cons (se_tup sa_nil) sa_nil))))
    (sss_cons (ss_for PassesOwn.never rfl (si_any (se_var 14)) (sg_name (vs := [15]) sc_law.nd rfl (by first | exact Or.inl rfl | exact Or.inr rfl)) (sss_cons (ss_set sc_law.nd (i := 16) rfl (by first | exact Or.inl rfl | exact Or.inr rfl) (se_call (ok__law_take T) hr (by decide) rfl T.m__law_take (sa_cons (se_var 1) (sa_cons (se_ix (se_var 3) se_int (by exact fun _ _ => rfl)) sa_nil))))
    (sss_cons (ss_set sc_law.nd (i := 17) rfl (by first | exact Or.inl rfl | exact Or.inr rfl) (se_var 16))
    (sss_cons (ss_for PassesOwn.never rfl (si_any (se_var 15)) (sg_name (vs := [18]) sc_law.nd rfl (by first | exact Or.inl rfl | exact Or.inr rfl)) (sss_cons (ss_if (st_cmp (os_ne (u64 hr)) (se_meth T.cl_Wish T.M_Wish_after (ok_Wish_after T) hr (by decide) (se_var 7) (sa_cons (se_var 17) (sa_cons (se_var 18) sa_nil))) (se_call (ok__law_read T) hr (by decide) rfl T.m__law_read (sa_cons (se_var 3) (sa_cons (se_var 17) (sa_cons (se_var 18) sa_nil)))) (nomark _)) (sss_one (ss_ret se_bl)) sss_nil)
    (sss_one (ss_set sc_law.nd (i := 17) rfl (by first | exact Or.inl rfl | exact Or.inr rfl) (se_call (ok__law_read T) hr (by decide) rfl T.m__law_read (sa_cons (se_var 3) (sa_cons (se_var 17) (sa_cons (se_var 18) sa_nil))))))))
    (sss_cons (ss_if (SW.st (sw_or (st_cmp (os_ne (u64 hr)) (se_meth T.cl_Wish T.M_Wish_end (ok_Wish_end_2 T) hr (by decide) (se_var 7) (sa_cons (se_var 15) (sa_cons (se_var 16) sa_nil))) (se_var 17) (nomark _)) (sw_or1 (st_cmp (os_ne (u64 hr)) (se_methK0 T.cl_Wish T.M_Wish_end (ok_Wish_end_k T) hr (by decide) (se_var 7) (sk_cons (se_var 15) sk_nil)) (se_call (ok__law_end T) hr (by decide) rfl T.m__law_end (sa_cons (se_var 3) (sa_cons (se_var 15) sa_nil))) (nomark _))))) (sss_one (ss_ret se_bl)) sss_nil)
    (sss_one (ss_if (st_cmp (os_ne (u64 hr)) (se_meth T.cl_Wish T.M_Wish_takes (ok_Wish_takes T) hr (by decide) (se_var 7) (sa_cons (se_var 15) sa_nil)) (se_cmp (os_in (u65 hr)) (se_call (ok__law_end T) hr (by decide) rfl T.m__law_end (sa_cons (se_var 3) (sa_cons (se_var 15) sa_nil))) (se_ix (se_var 3) se_int (by exact fun _ _ => rfl)) rfl) (nomark _)) (sss_one (ss_ret se_bl)) sss_nil)))))))
    (sss_cons (ss_set sc_law.nd (i := 19) rfl (by first | exact Or.inl rfl | exact Or.inr rfl) (se_and (se_cmp (os_eq (u64 hr)) (se_ix (se_var 3) se_int (by exact fun _ _ => rfl)) (se_ix (se_var 4) se_int (by exact fun _ _ => rfl)) (nomark _)) (se_and (se_cmp (os_eq (u64 hr)) (se_callB (cs_sorted (u64 hr)) rfl T.b_sorted PyProof.Rows.boot_sorted (sa_cons (se_ix (se_var 3) se_int (by exact fun _ _ => rfl)) sa_nil)) (se_callB (cs_sorted (u64 hr)) rfl T.b_sorted PyProof.Rows.boot_sorted (sa_cons (se_ix (se_var 4) se_int (by exact fun _ _ => rfl)) sa_nil)) (nomark _)) (se_one (se_cmp (os_eq (u64 hr)) (se_call (ok__law_sorted_steps T) hr (by decide) rfl T.m__law_sorted_steps (sa_cons (se_var 3) sa_nil)) (se_call (ok__law_sorted_steps T) hr (by decide) rfl T.m__law_sorted_steps (sa_cons (se_var 4) sa_nil)) (nomark _))))))
    (sss_cons (ss_if (SW.st (sw_or (st_cmp (os_ne (u64 hr)) (se_cmp (os_eqOwn hr (by decide) (ok_Wish_eq T) T.eq_Wish.1 T.eq_Wish.2.1 T.eq_Wish.2.2 (bl_Wish_eq _)) (se_var 7) (se_var 8) (nomark _)) (se_var 19) (nomark _)) (sw_or (st_cmp (os_eqOwn hr (by decide) (ok_Wish_eq T) T.eq_Wish.1 T.eq_Wish.2.1 T.eq_Wish.2.2 (bl_Wish_eq _)) (se_var 7) (se_var 5) (nomark _)) (sw_or1 (st_not (st_cmp (os_eqOwn hr (by decide) (ok_Wish_eq T) T.eq_Wish.1 T.eq_Wish.2.1 T.eq_Wish.2.2 (bl_Wish_eq _)) (se_var 7) (se_make T.mk_Wish (ok_Wish_init T) hr (by decide) rfl T.m_Wish (sa_cons (se_ix (se_var 3) se_int (by exact fun _ _ => rfl)) (sa_cons (se_ix (se_var 3) se_int (by exact fun _ _ => rfl)) (sa_cons (se_ix (se_var 3) se_int (by exact fun _ _ => rfl)) sa_nil)))) (nomark _))))))) (sss_one (ss_ret se_bl)) sss_nil)
    (sss_cons (ss_if (SW.st (sw_or (st_cmp (os_eqOwn hr (by decide) (ok_Wish_eq T) T.eq_Wish.1 T.eq_Wish.2.1 T.eq_Wish.2.2 (bl_Wish_eq _)) (se_var 7) (se_make T.mk_Wish (ok_Wish_init T) hr (by decide) rfl T.m_Wish (sa_cons (se_op os_add (se_ix (se_var 3) se_int (by exact fun _ _ => rfl)) se_int) (sa_cons (se_ix (se_var 3) se_int (by exact fun _ _ => rfl)) (sa_cons (se_ix (se_var 3) se_int (by exact fun _ _ => rfl)) sa_nil)))) (nomark _)) (sw_or1 (st_cmp (os_eqOwn hr (by decide) (ok_Wish_eq T) T.eq_Wish.1 T.eq_Wish.2.1 T.eq_Wish.2.2 (bl_Wish_eq _)) (se_var 7) (se_make T.mk_Wish (ok_Wish_init T) hr (by decide) rfl T.m_Wish (sa_cons (se_ix (se_var 3) se_int (by exact fun _ _ => rfl)) (sa_cons (se_lc (own := [("k", 21)]) rfl sc_law.nd (si_range1 rfl T.b_range (sa_cons (se_ix (se_var 3) se_int (by exact fun _ _ => rfl)) sa_nil)) (blkOk_by (own := [("k", 21)]) rfl) (fun _ _ _ _ _ => (sg_name (vs := [21]) sc_law.nd rfl (by first | exact Or.inl rfl | exact Or.inr rfl))) (fun _ _ _ _ _ => (sts_one (st_cmp (os_notIn (u65 hr)) (se_var 21) (se_ix (se_var 3) se_int (by exact fun _ _ => rfl)) rfl))) (fun _ _ _ _ _ => (se_var 21))) (sa_cons (se_var 5) sa_nil)))) (nomark _))))) (sss_one (ss_ret se_bl)) sss_nil)
    (sss_one (ss_ret (se_and (se_call (ok__law_made_right T) hr (by decide) rfl T.m__law_made_right (sa_cons (se_var 1) (sa_cons (se_var 2) (sa_cons (se_var 14) sa_nil)))) (se_one (se_call (ok__law_joined_right T) hr (by decide) rfl T.m__law_joined_right (sa_cons (se_var 1) (sa_cons (se_var 7) (sa_cons (se_var 8) (sa_cons (se_var 3) (sa_cons (se_var 4) (sa_cons (se_var 14) sa_nil)))))))))))))))))))))))))))))
theorem fn_law (T : Tx K mg) : FnOk P w K mg base CX0 10 T.a_law T.d_law ["script"] (spL K (fs_law T.c_Wish)) :=
  fun_okL T.F_law sc_law (len_law _) fun cdv A outer s H E hr => ⟨_, w_law T cdv A outer s H E hr, rd_law _⟩
theorem ok_law (T : Tx K mg) : Cl P w K mg base 10 T.a_law 1 [] (fs_law T.c_Wish) :=
  cl_of T.F_law (fn_law T) (len_law _) fun _ _ _ _ _ _ us hl => match us, hl with | [_], _ => rfl
end
end K50

/-! The head and the end (printed). -/
namespace K50
open PySem PySem.Spec L2 T3
open PyProof.Rows hiding St

/-- law's promise: a list of at most 63 ints is handed in, True comes out -/
def spLaw (K : PySem.W.Frag) : Sp := fun vs H Q _ => ∃ (a : Addr) (ns : List Int), vs = [.ref a] ∧ SqL K H a (ns.map V.int) ∧ ns.length ≤ 63 ∧ ∀ H', Q (.bl true) H'
theorem kit_own {K : PySem.W.Frag} {n : String} {C : Addr} (h1 : PySem.W.isClsIn K C = true) (h2 : PySem.W.typeIn K (.ref C) = some (.type "type")) (h3 : PySem.W.subIn K (.type n) (.ref C) = some false) : PySem.W.kitOne K (.type n) (.ref C) = some false := by
  unfold PySem.W.kitOne
  rw [if_neg (by simp)]
  unfold PySem.W.isClsIn at h1
  show (if ((PySem.W.clsIn K C).isSome && PySem.W.typeIn K (.ref C) == some (.type "type")) = true then PySem.W.subIn K (.type n) (.ref C) else none) = _
  rw [if_pos (by rw [h1, h2]; rfl)]
  exact h3
theorem kit_self {K : PySem.W.Frag} {C : Addr} : PySem.W.kitOne K (.ref C) (.ref C) = some true := by
  unfold PySem.W.kitOne
  rw [if_pos (by simp)]
theorem den_ints {K : PySem.W.Frag} {Z : Hp} : ∀ ns : List Int, DenL K Z (ns.map .int) (ns.map V.int)
  | [] => denL_nil
  | n :: ns => denL_cons (dint n) (den_ints ns)
theorem law_sp {K : PySem.W.Frag} (c_Wish : Addr) (vs : List V) (H : Hp) (Q : VK) (E : XK) (h : spLaw K vs H Q E) : spL K (fs_law c_Wish) vs H Q E := by
  obtain ⟨a, ns, rfl, sq, hl, q⟩ := h
  refine ⟨H, [.lok (ns.map .int)], fun _ => none, fun d _ => d = .bl true, ⟨Same.refl H, (fun _ _ z => by cases z), fun _ _ z => by cases z⟩, denL_one (by unfold Den; exact ⟨a, _, rfl, sq, den_ints ns⟩), ⟨ns, rfl, hl, fun _ => rfl⟩, fun Z' d v h' H' _ _ r e => ?_⟩
  subst e
  rw [den_bl r]
  exact q H'
theorem all_mk {l : PySem.W.OpenLaw} {w : World} {K : PySem.W.Frag} {h : Heap} {mg : Str → Option Value} {fa c_Wish f_is_integer f_is_number f_is_text f_is_sequence f_is_name f_ascending_names f_is_state f_are_names f_is_step f_Wish_init f_Wish_eq f_Wish_rung_bells f_Wish_after f_Wish_end f_Wish_takes f_wish_rings f_wish_ahead f_wish_last f_wish_denied f_wish_met f_open_steps f_paired_wish f_wish_both f_wish_either f__law_box f__law_take f__law_pick f__law_names f__law_wish f__law_read f__law_lots f__law_end f__law_made_right f__law_joined_right f__law_sorted_steps f_law : Addr} (X : K.In h) (G : h.Ns mainGlobals mg) (hfa : mg "law" = some (.ref fa))
    {od_is_integer an_is_integer : Option Addr} {sl_is_integer : Array (Option Value)} {oc_is_integer kV_is_integer dc_is_integer pm_is_integer cd_is_integer ct_is_integer : Value} {od_is_number an_is_number : Option Addr} {sl_is_number : Array (Option Value)} {oc_is_number kV_is_number dc_is_number pm_is_number cd_is_number ct_is_number : Value} {od_is_text an_is_text : Option Addr} {sl_is_text : Array (Option Value)} {oc_is_text kV_is_text dc_is_text pm_is_text cd_is_text ct_is_text : Value} {od_is_sequence an_is_sequence : Option Addr} {sl_is_sequence : Array (Option Value)} {oc_is_sequence kV_is_sequence dc_is_sequence pm_is_sequence cd_is_sequence ct_is_sequence : Value} {od_is_name an_is_name : Option Addr} {sl_is_name : Array (Option Value)} {oc_is_name kV_is_name dc_is_name pm_is_name cd_is_name ct_is_name : Value} {od_ascending_names an_ascending_names : Option Addr} {sl_ascending_names : Array (Option Value)} {oc_ascending_names kV_ascending_names dc_ascending_names pm_ascending_names cd_ascending_names ct_ascending_names : Value} {od_is_state an_is_state : Option Addr} {sl_is_state : Array (Option Value)} {oc_is_state kV_is_state dc_is_state pm_is_state cd_is_state ct_is_state : Value} {od_are_names an_are_names : Option Addr} {sl_are_names : Array (Option Value)} {oc_are_names kV_are_names dc_are_names pm_are_names cd_are_names ct_are_names : Value} {od_is_step an_is_step : Option Addr} {sl_is_step : Array (Option Value)} {oc_is_step kV_is_step dc_is_step pm_is_step cd_is_step ct_is_step : Value} {od_Wish_init an_Wish_init : Option Addr} {sl_Wish_init : Array (Option Value)} {oc_Wish_init kV_Wish_init dc_Wish_init pm_Wish_init cd_Wish_init ct_Wish_init : Value} {od_Wish_eq an_Wish_eq : Option Addr} {sl_Wish_eq : Array (Option Value)} {oc_Wish_eq kV_Wish_eq dc_Wish_eq pm_Wish_eq cd_Wish_eq ct_Wish_eq : Value} {od_Wish_rung_bells an_Wish_rung_bells : Option Addr} {sl_Wish_rung_bells : Array (Option Value)} {oc_Wish_rung_bells kV_Wish_rung_bells dc_Wish_rung_bells pm_Wish_rung_bells cd_Wish_rung_bells ct_Wish_rung_bells : Value} {od_Wish_after an_Wish_after : Option Addr} {sl_Wish_after : Array (Option Value)} {oc_Wish_after kV_Wish_after dc_Wish_after pm_Wish_after cd_Wish_after ct_Wish_after : Value} {od_Wish_end an_Wish_end : Option Addr} {sl_Wish_end : Array (Option Value)} {oc_Wish_end kV_Wish_end dc_Wish_end pm_Wish_end cd_Wish_end ct_Wish_end : Value} {T_Wish_end : Addr} {tk0_Wish_end : Tok} {oT_Wish_end : Value} {odT_Wish_end : Option Addr} {slT_Wish_end : Array (Option Value)} {nT_Wish_end : Nat} {od_Wish_takes an_Wish_takes : Option Addr} {sl_Wish_takes : Array (Option Value)} {oc_Wish_takes kV_Wish_takes dc_Wish_takes pm_Wish_takes cd_Wish_takes ct_Wish_takes : Value} {od_wish_rings an_wish_rings : Option Addr} {sl_wish_rings : Array (Option Value)} {oc_wish_rings kV_wish_rings dc_wish_rings pm_wish_rings cd_wish_rings ct_wish_rings : Value} {T_wish_rings : Addr} {tk0_wish_rings : Tok} {oT_wish_rings : Value} {odT_wish_rings : Option Addr} {slT_wish_rings : Array (Option Value)} {nT_wish_rings : Nat} {od_wish_ahead an_wish_ahead : Option Addr} {sl_wish_ahead : Array (Option Value)} {oc_wish_ahead kV_wish_ahead dc_wish_ahead pm_wish_ahead cd_wish_ahead ct_wish_ahead : Value} {od_wish_last an_wish_last : Option Addr} {sl_wish_last : Array (Option Value)} {oc_wish_last kV_wish_last dc_wish_last pm_wish_last cd_wish_last ct_wish_last : Value} {od_wish_denied an_wish_denied : Option Addr} {sl_wish_denied : Array (Option Value)} {oc_wish_denied kV_wish_denied dc_wish_denied pm_wish_denied cd_wish_denied ct_wish_denied : Value} {od_wish_met an_wish_met : Option Addr} {sl_wish_met : Array (Option Value)} {oc_wish_met kV_wish_met dc_wish_met pm_wish_met cd_wish_met ct_wish_met : Value} {od_open_steps an_open_steps : Option Addr} {sl_open_steps : Array (Option Value)} {oc_open_steps kV_open_steps dc_open_steps pm_open_steps cd_open_steps ct_open_steps : Value} {od_paired_wish an_paired_wish : Option Addr} {sl_paired_wish : Array (Option Value)} {oc_paired_wish kV_paired_wish dc_paired_wish pm_paired_wish cd_paired_wish ct_paired_wish : Value} {od_wish_both an_wish_both : Option Addr} {sl_wish_both : Array (Option Value)} {oc_wish_both kV_wish_both dc_wish_both pm_wish_both cd_wish_both ct_wish_both : Value} {od_wish_either an_wish_either : Option Addr} {sl_wish_either : Array (Option Value)} {oc_wish_either kV_wish_either dc_wish_either pm_wish_either cd_wish_either ct_wish_either : Value} {od__law_box an__law_box : Option Addr} {sl__law_box : Array (Option Value)} {oc__law_box kV__law_box dc__law_box pm__law_box cd__law_box ct__law_box : Value} {od__law_take an__law_take : Option Addr} {sl__law_take : Array (Option Value)} {oc__law_take kV__law_take dc__law_take pm__law_take cd__law_take ct__law_take : Value} {od__law_pick an__law_pick : Option Addr} {sl__law_pick : Array (Option Value)} {oc__law_pick kV__law_pick dc__law_pick pm__law_pick cd__law_pick ct__law_pick : Value} {od__law_names an__law_names : Option Addr} {sl__law_names : Array (Option Value)} {oc__law_names kV__law_names dc__law_names pm__law_names cd__law_names ct__law_names : Value} {od__law_wish an__law_wish : Option Addr} {sl__law_wish : Array (Option Value)} {oc__law_wish kV__law_wish dc__law_wish pm__law_wish cd__law_wish ct__law_wish : Value} {od__law_read an__law_read : Option Addr} {sl__law_read : Array (Option Value)} {oc__law_read kV__law_read dc__law_read pm__law_read cd__law_read ct__law_read : Value} {od__law_lots an__law_lots : Option Addr} {sl__law_lots : Array (Option Value)} {oc__law_lots kV__law_lots dc__law_lots pm__law_lots cd__law_lots ct__law_lots : Value} {od__law_end an__law_end : Option Addr} {sl__law_end : Array (Option Value)} {oc__law_end kV__law_end dc__law_end pm__law_end cd__law_end ct__law_end : Value} {od__law_made_right an__law_made_right : Option Addr} {sl__law_made_right : Array (Option Value)} {oc__law_made_right kV__law_made_right dc__law_made_right pm__law_made_right cd__law_made_right ct__law_made_right : Value} {od__law_joined_right an__law_joined_right : Option Addr} {sl__law_joined_right : Array (Option Value)} {oc__law_joined_right kV__law_joined_right dc__law_joined_right pm__law_joined_right cd__law_joined_right ct__law_joined_right : Value} {od__law_sorted_steps an__law_sorted_steps : Option Addr} {sl__law_sorted_steps : Array (Option Value)} {oc__law_sorted_steps kV__law_sorted_steps dc__law_sorted_steps pm__law_sorted_steps cd__law_sorted_steps ct__law_sorted_steps : Value} {od_law an_law : Option Addr} {sl_law : Array (Option Value)} {oc_law kV_law dc_law pm_law cd_law ct_law : Value} {tc_LETTERS : Tok} {tc_LONGEST : Tok}
    (aCWish : PySem.W.nsIn K mainGlobals "Wish" = some (some (.ref c_Wish)))
    (a_is_integer : PySem.W.nsIn K mainGlobals "is_integer" = some (some (.ref f_is_integer)))
    (l_is_integer : K.lookup f_is_integer = some ⟨oc_is_integer, od_is_integer, .func (PySem.W.fnOf "is_integer" "is_integer" (defArgs s_is_integer) (defBody s_is_integer) (defScope s_is_integer) .none kV_is_integer dc_is_integer pm_is_integer an_is_integer cd_is_integer ct_is_integer), sl_is_integer⟩)
    (cd_is_integer_ : PySem.W.codeIn K cd_is_integer "is_integer" = true)
    (kp_is_integer : PySem.W.keepIn K (.ref f_is_integer) = true)
    (a_is_number : PySem.W.nsIn K mainGlobals "is_number" = some (some (.ref f_is_number)))
    (l_is_number : K.lookup f_is_number = some ⟨oc_is_number, od_is_number, .func (PySem.W.fnOf "is_number" "is_number" (defArgs s_is_number) (defBody s_is_number) (defScope s_is_number) .none kV_is_number dc_is_number pm_is_number an_is_number cd_is_number ct_is_number), sl_is_number⟩)
    (cd_is_number_ : PySem.W.codeIn K cd_is_number "is_number" = true)
    (kp_is_number : PySem.W.keepIn K (.ref f_is_number) = true)
    (a_is_text : PySem.W.nsIn K mainGlobals "is_text" = some (some (.ref f_is_text)))
    (l_is_text : K.lookup f_is_text = some ⟨oc_is_text, od_is_text, .func (PySem.W.fnOf "is_text" "is_text" (defArgs s_is_text) (defBody s_is_text) (defScope s_is_text) .none kV_is_text dc_is_text pm_is_text an_is_text cd_is_text ct_is_text), sl_is_text⟩)
    (cd_is_text_ : PySem.W.codeIn K cd_is_text "is_text" = true)
    (kp_is_text : PySem.W.keepIn K (.ref f_is_text) = true)
    (a_is_sequence : PySem.W.nsIn K mainGlobals "is_sequence" = some (some (.ref f_is_sequence)))
    (l_is_sequence : K.lookup f_is_sequence = some ⟨oc_is_sequence, od_is_sequence, .func (PySem.W.fnOf "is_sequence" "is_sequence" (defArgs s_is_sequence) (defBody s_is_sequence) (defScope s_is_sequence) .none kV_is_sequence dc_is_sequence pm_is_sequence an_is_sequence cd_is_sequence ct_is_sequence), sl_is_sequence⟩)
    (cd_is_sequence_ : PySem.W.codeIn K cd_is_sequence "is_sequence" = true)
    (kp_is_sequence : PySem.W.keepIn K (.ref f_is_sequence) = true)
    (a_is_name : PySem.W.nsIn K mainGlobals "is_name" = some (some (.ref f_is_name)))
    (l_is_name : K.lookup f_is_name = some ⟨oc_is_name, od_is_name, .func (PySem.W.fnOf "is_name" "is_name" (defArgs s_is_name) (defBody s_is_name) (defScope s_is_name) .none kV_is_name dc_is_name pm_is_name an_is_name cd_is_name ct_is_name), sl_is_name⟩)
    (cd_is_name_ : PySem.W.codeIn K cd_is_name "is_name" = true)
    (kp_is_name : PySem.W.keepIn K (.ref f_is_name) = true)
    (a_ascending_names : PySem.W.nsIn K mainGlobals "ascending_names" = some (some (.ref f_ascending_names)))
    (l_ascending_names : K.lookup f_ascending_names = some ⟨oc_ascending_names, od_ascending_names, .func (PySem.W.fnOf "ascending_names" "ascending_names" (defArgs s_ascending_names) (defBody s_ascending_names) (defScope s_ascending_names) .none kV_ascending_names dc_ascending_names pm_ascending_names an_ascending_names cd_ascending_names ct_ascending_names), sl_ascending_names⟩)
    (cd_ascending_names_ : PySem.W.codeIn K cd_ascending_names "ascending_names" = true)
    (kp_ascending_names : PySem.W.keepIn K (.ref f_ascending_names) = true)
    (a_is_state : PySem.W.nsIn K mainGlobals "is_state" = some (some (.ref f_is_state)))
    (l_is_state : K.lookup f_is_state = some ⟨oc_is_state, od_is_state, .func (PySem.W.fnOf "is_state" "is_state" (defArgs s_is_state) (defBody s_is_state) (defScope s_is_state) .none kV_is_state dc_is_state pm_is_state an_is_state cd_is_state ct_is_state), sl_is_state⟩)
    (cd_is_state_ : PySem.W.codeIn K cd_is_state "is_state" = true)
    (kp_is_state : PySem.W.keepIn K (.ref f_is_state) = true)
    (a_are_names : PySem.W.nsIn K mainGlobals "are_names" = some (some (.ref f_are_names)))
    (l_are_names : K.lookup f_are_names = some ⟨oc_are_names, od_are_names, .func (PySem.W.fnOf "are_names" "are_names" (defArgs s_are_names) (defBody s_are_names) (defScope s_are_names) .none kV_are_names dc_are_names pm_are_names an_are_names cd_are_names ct_are_names), sl_are_names⟩)
    (cd_are_names_ : PySem.W.codeIn K cd_are_names "are_names" = true)
    (kp_are_names : PySem.W.keepIn K (.ref f_are_names) = true)
    (a_is_step : PySem.W.nsIn K mainGlobals "is_step" = some (some (.ref f_is_step)))
    (l_is_step : K.lookup f_is_step = some ⟨oc_is_step, od_is_step, .func (PySem.W.fnOf "is_step" "is_step" (defArgs s_is_step) (defBody s_is_step) (defScope s_is_step) .none kV_is_step dc_is_step pm_is_step an_is_step cd_is_step ct_is_step), sl_is_step⟩)
    (cd_is_step_ : PySem.W.codeIn K cd_is_step "is_step" = true)
    (kp_is_step : PySem.W.keepIn K (.ref f_is_step) = true)
    (a_Wish_init : PySem.W.findIn K (.ref c_Wish) "__init__" = some (some (.ref f_Wish_init)))
    (i_Wish_init : PySem.W.isFn K (.ref f_Wish_init) = true)
    (l_Wish_init : K.lookup f_Wish_init = some ⟨oc_Wish_init, od_Wish_init, .func (PySem.W.fnOf "__init__" "Wish.__init__" (defArgs s_Wish_init) (defBody s_Wish_init) (defScope s_Wish_init) .none kV_Wish_init dc_Wish_init pm_Wish_init an_Wish_init cd_Wish_init ct_Wish_init), sl_Wish_init⟩)
    (cd_Wish_init_ : PySem.W.codeIn K cd_Wish_init "Wish.__init__" = true)
    (kp_Wish_init : PySem.W.keepIn K (.ref f_Wish_init) = true)
    (a_Wish_eq : PySem.W.findIn K (.ref c_Wish) "__eq__" = some (some (.ref f_Wish_eq)))
    (i_Wish_eq : PySem.W.isFn K (.ref f_Wish_eq) = true)
    (l_Wish_eq : K.lookup f_Wish_eq = some ⟨oc_Wish_eq, od_Wish_eq, .func (PySem.W.fnOf "__eq__" "Wish.__eq__" (defArgs s_Wish_eq) (defBody s_Wish_eq) (defScope s_Wish_eq) .none kV_Wish_eq dc_Wish_eq pm_Wish_eq an_Wish_eq cd_Wish_eq ct_Wish_eq), sl_Wish_eq⟩)
    (cd_Wish_eq_ : PySem.W.codeIn K cd_Wish_eq "Wish.__eq__" = true)
    (kp_Wish_eq : PySem.W.keepIn K (.ref f_Wish_eq) = true)
    (a_Wish_rung_bells : PySem.W.findIn K (.ref c_Wish) "rung_bells" = some (some (.ref f_Wish_rung_bells)))
    (i_Wish_rung_bells : PySem.W.isFn K (.ref f_Wish_rung_bells) = true)
    (l_Wish_rung_bells : K.lookup f_Wish_rung_bells = some ⟨oc_Wish_rung_bells, od_Wish_rung_bells, .func (PySem.W.fnOf "rung_bells" "Wish.rung_bells" (defArgs s_Wish_rung_bells) (defBody s_Wish_rung_bells) (defScope s_Wish_rung_bells) .none kV_Wish_rung_bells dc_Wish_rung_bells pm_Wish_rung_bells an_Wish_rung_bells cd_Wish_rung_bells ct_Wish_rung_bells), sl_Wish_rung_bells⟩)
    (cd_Wish_rung_bells_ : PySem.W.codeIn K cd_Wish_rung_bells "Wish.rung_bells" = true)
    (kp_Wish_rung_bells : PySem.W.keepIn K (.ref f_Wish_rung_bells) = true)
    (a_Wish_after : PySem.W.findIn K (.ref c_Wish) "after" = some (some (.ref f_Wish_after)))
    (i_Wish_after : PySem.W.isFn K (.ref f_Wish_after) = true)
    (l_Wish_after : K.lookup f_Wish_after = some ⟨oc_Wish_after, od_Wish_after, .func (PySem.W.fnOf "after" "Wish.after" (defArgs s_Wish_after) (defBody s_Wish_after) (defScope s_Wish_after) .none kV_Wish_after dc_Wish_after pm_Wish_after an_Wish_after cd_Wish_after ct_Wish_after), sl_Wish_after⟩)
    (cd_Wish_after_ : PySem.W.codeIn K cd_Wish_after "Wish.after" = true)
    (kp_Wish_after : PySem.W.keepIn K (.ref f_Wish_after) = true)
    (a_Wish_end : PySem.W.findIn K (.ref c_Wish) "end" = some (some (.ref f_Wish_end)))
    (i_Wish_end : PySem.W.isFn K (.ref f_Wish_end) = true)
    (l_Wish_end : K.lookup f_Wish_end = some ⟨oc_Wish_end, od_Wish_end, .func (PySem.W.fnOf "end" "Wish.end" (defArgs s_Wish_end) (defBody s_Wish_end) (defScope s_Wish_end) (.ref T_Wish_end) kV_Wish_end dc_Wish_end pm_Wish_end an_Wish_end cd_Wish_end ct_Wish_end), sl_Wish_end⟩)
    (cd_Wish_end_ : PySem.W.codeIn K cd_Wish_end "Wish.end" = true)
    (kp_Wish_end : PySem.W.keepIn K (.ref f_Wish_end) = true)
    (lT_Wish_end : K.lookup T_Wish_end = some ⟨oT_Wish_end, odT_Wish_end, .seq #[.int 0 tk0_Wish_end] nT_Wish_end, slT_Wish_end⟩)
    (a_Wish_takes : PySem.W.findIn K (.ref c_Wish) "takes" = some (some (.ref f_Wish_takes)))
    (i_Wish_takes : PySem.W.isFn K (.ref f_Wish_takes) = true)
    (l_Wish_takes : K.lookup f_Wish_takes = some ⟨oc_Wish_takes, od_Wish_takes, .func (PySem.W.fnOf "takes" "Wish.takes" (defArgs s_Wish_takes) (defBody s_Wish_takes) (defScope s_Wish_takes) .none kV_Wish_takes dc_Wish_takes pm_Wish_takes an_Wish_takes cd_Wish_takes ct_Wish_takes), sl_Wish_takes⟩)
    (cd_Wish_takes_ : PySem.W.codeIn K cd_Wish_takes "Wish.takes" = true)
    (kp_Wish_takes : PySem.W.keepIn K (.ref f_Wish_takes) = true)
    (a_wish_rings : PySem.W.nsIn K mainGlobals "wish_rings" = some (some (.ref f_wish_rings)))
    (l_wish_rings : K.lookup f_wish_rings = some ⟨oc_wish_rings, od_wish_rings, .func (PySem.W.fnOf "wish_rings" "wish_rings" (defArgs s_wish_rings) (defBody s_wish_rings) (defScope s_wish_rings) (.ref T_wish_rings) kV_wish_rings dc_wish_rings pm_wish_rings an_wish_rings cd_wish_rings ct_wish_rings), sl_wish_rings⟩)
    (cd_wish_rings_ : PySem.W.codeIn K cd_wish_rings "wish_rings" = true)
    (kp_wish_rings : PySem.W.keepIn K (.ref f_wish_rings) = true)
    (lT_wish_rings : K.lookup T_wish_rings = some ⟨oT_wish_rings, odT_wish_rings, .seq #[.int 1 tk0_wish_rings] nT_wish_rings, slT_wish_rings⟩)
    (a_wish_ahead : PySem.W.nsIn K mainGlobals "wish_ahead" = some (some (.ref f_wish_ahead)))
    (l_wish_ahead : K.lookup f_wish_ahead = some ⟨oc_wish_ahead, od_wish_ahead, .func (PySem.W.fnOf "wish_ahead" "wish_ahead" (defArgs s_wish_ahead) (defBody s_wish_ahead) (defScope s_wish_ahead) .none kV_wish_ahead dc_wish_ahead pm_wish_ahead an_wish_ahead cd_wish_ahead ct_wish_ahead), sl_wish_ahead⟩)
    (cd_wish_ahead_ : PySem.W.codeIn K cd_wish_ahead "wish_ahead" = true)
    (kp_wish_ahead : PySem.W.keepIn K (.ref f_wish_ahead) = true)
    (a_wish_last : PySem.W.nsIn K mainGlobals "wish_last" = some (some (.ref f_wish_last)))
    (l_wish_last : K.lookup f_wish_last = some ⟨oc_wish_last, od_wish_last, .func (PySem.W.fnOf "wish_last" "wish_last" (defArgs s_wish_last) (defBody s_wish_last) (defScope s_wish_last) .none kV_wish_last dc_wish_last pm_wish_last an_wish_last cd_wish_last ct_wish_last), sl_wish_last⟩)
    (cd_wish_last_ : PySem.W.codeIn K cd_wish_last "wish_last" = true)
    (kp_wish_last : PySem.W.keepIn K (.ref f_wish_last) = true)
    (a_wish_denied : PySem.W.nsIn K mainGlobals "wish_denied" = some (some (.ref f_wish_denied)))
    (l_wish_denied : K.lookup f_wish_denied = some ⟨oc_wish_denied, od_wish_denied, .func (PySem.W.fnOf "wish_denied" "wish_denied" (defArgs s_wish_denied) (defBody s_wish_denied) (defScope s_wish_denied) .none kV_wish_denied dc_wish_denied pm_wish_denied an_wish_denied cd_wish_denied ct_wish_denied), sl_wish_denied⟩)
    (cd_wish_denied_ : PySem.W.codeIn K cd_wish_denied "wish_denied" = true)
    (kp_wish_denied : PySem.W.keepIn K (.ref f_wish_denied) = true)
    (a_wish_met : PySem.W.nsIn K mainGlobals "wish_met" = some (some (.ref f_wish_met)))
    (l_wish_met : K.lookup f_wish_met = some ⟨oc_wish_met, od_wish_met, .func (PySem.W.fnOf "wish_met" "wish_met" (defArgs s_wish_met) (defBody s_wish_met) (defScope s_wish_met) .none kV_wish_met dc_wish_met pm_wish_met an_wish_met cd_wish_met ct_wish_met), sl_wish_met⟩)
    (cd_wish_met_ : PySem.W.codeIn K cd_wish_met "wish_met" = true)
    (kp_wish_met : PySem.W.keepIn K (.ref f_wish_met) = true)
    (a_open_steps : PySem.W.nsIn K mainGlobals "open_steps" = some (some (.ref f_open_steps)))
    (l_open_steps : K.lookup f_open_steps = some ⟨oc_open_steps, od_open_steps, .func (PySem.W.fnOf "open_steps" "open_steps" (defArgs s_open_steps) (defBody s_open_steps) (defScope s_open_steps) .none kV_open_steps dc_open_steps pm_open_steps an_open_steps cd_open_steps ct_open_steps), sl_open_steps⟩)
    (cd_open_steps_ : PySem.W.codeIn K cd_open_steps "open_steps" = true)
    (kp_open_steps : PySem.W.keepIn K (.ref f_open_steps) = true)
    (a_paired_wish : PySem.W.nsIn K mainGlobals "paired_wish" = some (some (.ref f_paired_wish)))
    (l_paired_wish : K.lookup f_paired_wish = some ⟨oc_paired_wish, od_paired_wish, .func (PySem.W.fnOf "paired_wish" "paired_wish" (defArgs s_paired_wish) (defBody s_paired_wish) (defScope s_paired_wish) .none kV_paired_wish dc_paired_wish pm_paired_wish an_paired_wish cd_paired_wish ct_paired_wish), sl_paired_wish⟩)
    (cd_paired_wish_ : PySem.W.codeIn K cd_paired_wish "paired_wish" = true)
    (kp_paired_wish : PySem.W.keepIn K (.ref f_paired_wish) = true)
    (a_wish_both : PySem.W.nsIn K mainGlobals "wish_both" = some (some (.ref f_wish_both)))
    (l_wish_both : K.lookup f_wish_both = some ⟨oc_wish_both, od_wish_both, .func (PySem.W.fnOf "wish_both" "wish_both" (defArgs s_wish_both) (defBody s_wish_both) (defScope s_wish_both) .none kV_wish_both dc_wish_both pm_wish_both an_wish_both cd_wish_both ct_wish_both), sl_wish_both⟩)
    (cd_wish_both_ : PySem.W.codeIn K cd_wish_both "wish_both" = true)
    (kp_wish_both : PySem.W.keepIn K (.ref f_wish_both) = true)
    (a_wish_either : PySem.W.nsIn K mainGlobals "wish_either" = some (some (.ref f_wish_either)))
    (l_wish_either : K.lookup f_wish_either = some ⟨oc_wish_either, od_wish_either, .func (PySem.W.fnOf "wish_either" "wish_either" (defArgs s_wish_either) (defBody s_wish_either) (defScope s_wish_either) .none kV_wish_either dc_wish_either pm_wish_either an_wish_either cd_wish_either ct_wish_either), sl_wish_either⟩)
    (cd_wish_either_ : PySem.W.codeIn K cd_wish_either "wish_either" = true)
    (kp_wish_either : PySem.W.keepIn K (.ref f_wish_either) = true)
    (a__law_box : PySem.W.nsIn K mainGlobals "_law_box" = some (some (.ref f__law_box)))
    (l__law_box : K.lookup f__law_box = some ⟨oc__law_box, od__law_box, .func (PySem.W.fnOf "_law_box" "_law_box" (defArgs s__law_box) (defBody s__law_box) (defScope s__law_box) .none kV__law_box dc__law_box pm__law_box an__law_box cd__law_box ct__law_box), sl__law_box⟩)
    (cd__law_box_ : PySem.W.codeIn K cd__law_box "_law_box" = true)
    (kp__law_box : PySem.W.keepIn K (.ref f__law_box) = true)
    (a__law_take : PySem.W.nsIn K mainGlobals "_law_take" = some (some (.ref f__law_take)))
    (l__law_take : K.lookup f__law_take = some ⟨oc__law_take, od__law_take, .func (PySem.W.fnOf "_law_take" "_law_take" (defArgs s__law_take) (defBody s__law_take) (defScope s__law_take) .none kV__law_take dc__law_take pm__law_take an__law_take cd__law_take ct__law_take), sl__law_take⟩)
    (cd__law_take_ : PySem.W.codeIn K cd__law_take "_law_take" = true)
    (kp__law_take : PySem.W.keepIn K (.ref f__law_take) = true)
    (a__law_pick : PySem.W.nsIn K mainGlobals "_law_pick" = some (some (.ref f__law_pick)))
    (l__law_pick : K.lookup f__law_pick = some ⟨oc__law_pick, od__law_pick, .func (PySem.W.fnOf "_law_pick" "_law_pick" (defArgs s__law_pick) (defBody s__law_pick) (defScope s__law_pick) .none kV__law_pick dc__law_pick pm__law_pick an__law_pick cd__law_pick ct__law_pick), sl__law_pick⟩)
    (cd__law_pick_ : PySem.W.codeIn K cd__law_pick "_law_pick" = true)
    (kp__law_pick : PySem.W.keepIn K (.ref f__law_pick) = true)
    (a__law_names : PySem.W.nsIn K mainGlobals "_law_names" = some (some (.ref f__law_names)))
    (l__law_names : K.lookup f__law_names = some ⟨oc__law_names, od__law_names, .func (PySem.W.fnOf "_law_names" "_law_names" (defArgs s__law_names) (defBody s__law_names) (defScope s__law_names) .none kV__law_names dc__law_names pm__law_names an__law_names cd__law_names ct__law_names), sl__law_names⟩)
    (cd__law_names_ : PySem.W.codeIn K cd__law_names "_law_names" = true)
    (kp__law_names : PySem.W.keepIn K (.ref f__law_names) = true)
    (a__law_wish : PySem.W.nsIn K mainGlobals "_law_wish" = some (some (.ref f__law_wish)))
    (l__law_wish : K.lookup f__law_wish = some ⟨oc__law_wish, od__law_wish, .func (PySem.W.fnOf "_law_wish" "_law_wish" (defArgs s__law_wish) (defBody s__law_wish) (defScope s__law_wish) .none kV__law_wish dc__law_wish pm__law_wish an__law_wish cd__law_wish ct__law_wish), sl__law_wish⟩)
    (cd__law_wish_ : PySem.W.codeIn K cd__law_wish "_law_wish" = true)
    (kp__law_wish : PySem.W.keepIn K (.ref f__law_wish) = true)
    (a__law_read : PySem.W.nsIn K mainGlobals "_law_read" = some (some (.ref f__law_read)))
    (l__law_read : K.lookup f__law_read = some ⟨oc__law_read, od__law_read, .func (PySem.W.fnOf "_law_read" "_law_read" (defArgs s__law_read) (defBody s__law_read) (defScope s__law_read) .none kV__law_read dc__law_read pm__law_read an__law_read cd__law_read ct__law_read), sl__law_read⟩)
    (cd__law_read_ : PySem.W.codeIn K cd__law_read "_law_read" = true)
    (kp__law_read : PySem.W.keepIn K (.ref f__law_read) = true)
    (a__law_lots : PySem.W.nsIn K mainGlobals "_law_lots" = some (some (.ref f__law_lots)))
    (l__law_lots : K.lookup f__law_lots = some ⟨oc__law_lots, od__law_lots, .func (PySem.W.fnOf "_law_lots" "_law_lots" (defArgs s__law_lots) (defBody s__law_lots) (defScope s__law_lots) .none kV__law_lots dc__law_lots pm__law_lots an__law_lots cd__law_lots ct__law_lots), sl__law_lots⟩)
    (cd__law_lots_ : PySem.W.codeIn K cd__law_lots "_law_lots" = true)
    (kp__law_lots : PySem.W.keepIn K (.ref f__law_lots) = true)
    (a__law_end : PySem.W.nsIn K mainGlobals "_law_end" = some (some (.ref f__law_end)))
    (l__law_end : K.lookup f__law_end = some ⟨oc__law_end, od__law_end, .func (PySem.W.fnOf "_law_end" "_law_end" (defArgs s__law_end) (defBody s__law_end) (defScope s__law_end) .none kV__law_end dc__law_end pm__law_end an__law_end cd__law_end ct__law_end), sl__law_end⟩)
    (cd__law_end_ : PySem.W.codeIn K cd__law_end "_law_end" = true)
    (kp__law_end : PySem.W.keepIn K (.ref f__law_end) = true)
    (a__law_made_right : PySem.W.nsIn K mainGlobals "_law_made_right" = some (some (.ref f__law_made_right)))
    (l__law_made_right : K.lookup f__law_made_right = some ⟨oc__law_made_right, od__law_made_right, .func (PySem.W.fnOf "_law_made_right" "_law_made_right" (defArgs s__law_made_right) (defBody s__law_made_right) (defScope s__law_made_right) .none kV__law_made_right dc__law_made_right pm__law_made_right an__law_made_right cd__law_made_right ct__law_made_right), sl__law_made_right⟩)
    (cd__law_made_right_ : PySem.W.codeIn K cd__law_made_right "_law_made_right" = true)
    (kp__law_made_right : PySem.W.keepIn K (.ref f__law_made_right) = true)
    (a__law_joined_right : PySem.W.nsIn K mainGlobals "_law_joined_right" = some (some (.ref f__law_joined_right)))
    (l__law_joined_right : K.lookup f__law_joined_right = some ⟨oc__law_joined_right, od__law_joined_right, .func (PySem.W.fnOf "_law_joined_right" "_law_joined_right" (defArgs s__law_joined_right) (defBody s__law_joined_right) (defScope s__law_joined_right) .none kV__law_joined_right dc__law_joined_right pm__law_joined_right an__law_joined_right cd__law_joined_right ct__law_joined_right), sl__law_joined_right⟩)
    (cd__law_joined_right_ : PySem.W.codeIn K cd__law_joined_right "_law_joined_right" = true)
    (kp__law_joined_right : PySem.W.keepIn K (.ref f__law_joined_right) = true)
    (a__law_sorted_steps : PySem.W.nsIn K mainGlobals "_law_sorted_steps" = some (some (.ref f__law_sorted_steps)))
    (l__law_sorted_steps : K.lookup f__law_sorted_steps = some ⟨oc__law_sorted_steps, od__law_sorted_steps, .func (PySem.W.fnOf "_law_sorted_steps" "_law_sorted_steps" (defArgs s__law_sorted_steps) (defBody s__law_sorted_steps) (defScope s__law_sorted_steps) .none kV__law_sorted_steps dc__law_sorted_steps pm__law_sorted_steps an__law_sorted_steps cd__law_sorted_steps ct__law_sorted_steps), sl__law_sorted_steps⟩)
    (cd__law_sorted_steps_ : PySem.W.codeIn K cd__law_sorted_steps "_law_sorted_steps" = true)
    (kp__law_sorted_steps : PySem.W.keepIn K (.ref f__law_sorted_steps) = true)
    (a_law : PySem.W.nsIn K mainGlobals "law" = some (some (.ref f_law)))
    (l_law : K.lookup f_law = some ⟨oc_law, od_law, .func (PySem.W.fnOf "law" "law" (defArgs s_law) (defBody s_law) (defScope s_law) .none kV_law dc_law pm_law an_law cd_law ct_law), sl_law⟩)
    (cd_law_ : PySem.W.codeIn K cd_law "law" = true)
    (kp_law : PySem.W.keepIn K (.ref f_law) = true)
    (pgWish : PySem.W.plainGet K c_Wish Str.empty = true)
    (hdWish : PySem.W.hasDictIn K c_Wish = true)
    (poWish : PySem.W.plainOver K c_Wish = true)
    (saWish : PySem.W.findIn K (.ref c_Wish) "__setattr__" = some (some (.builtin "object.__setattr__")))
    (mkWish : PySem.W.makesIn K c_Wish = true)
    (kcWish : PySem.W.keepIn K (.ref c_Wish) = true)
    (n_Wish_good : PySem.W.findIn K (.ref c_Wish) "good" = some none)
    (n_Wish_states : PySem.W.findIn K (.ref c_Wish) "states" = some none)
    (n_Wish_steps : PySem.W.findIn K (.ref c_Wish) "steps" = some none)
    (nfWish : PySem.W.notFirst K c_Wish (.type "list") = true)
    (haWish : PySem.W.findIn K (.ref c_Wish) "__class__" = some (some (.builtin "object.__class__")))
    (hnWish : PySem.W.specialIn K (.builtin "object.__class__") "__get__" = some (some (.builtin "getset_descriptor.__get__")))
    (tkWish : PySem.W.takesIn K (.builtin "object.__class__") = some true)
    (mrWish : PySem.W.mroIn K c_Wish (.type "object") = some true)
    (kbWish_NoneType : PySem.W.subIn K (.type "NoneType") (.ref c_Wish) = some false)
    (kbWish_bool : PySem.W.subIn K (.type "bool") (.ref c_Wish) = some false)
    (kbWish_int : PySem.W.subIn K (.type "int") (.ref c_Wish) = some false)
    (kbWish_str : PySem.W.subIn K (.type "str") (.ref c_Wish) = some false)
    (kbWish_tuple : PySem.W.subIn K (.type "tuple") (.ref c_Wish) = some false)
    (kbWish_list : PySem.W.subIn K (.type "list") (.ref c_Wish) = some false)
    (isWish : PySem.W.isClsIn K c_Wish = true)
    (tyWish : PySem.W.typeIn K (.ref c_Wish) = some (.type "type"))
    (g_LETTERS : PySem.W.nsIn K mainGlobals "LETTERS" = some (some (.str "abcdefghijklmnopqrstuvwxyz" tc_LETTERS)))
    (g_LONGEST : PySem.W.nsIn K mainGlobals "LONGEST" = some (some (.int 8 tc_LONGEST)))
    (z_abs : PySem.W.nsIn K mainGlobals "abs" = some none)
    (z_all : PySem.W.nsIn K mainGlobals "all" = some none)
    (z_any : PySem.W.nsIn K mainGlobals "any" = some none)
    (z_bool : PySem.W.nsIn K mainGlobals "bool" = some none)
    (z_enumerate : PySem.W.nsIn K mainGlobals "enumerate" = some none)
    (z_int : PySem.W.nsIn K mainGlobals "int" = some none)
    (z_isinstance : PySem.W.nsIn K mainGlobals "isinstance" = some none)
    (z_len : PySem.W.nsIn K mainGlobals "len" = some none)
    (z_list : PySem.W.nsIn K mainGlobals "list" = some none)
    (z_range : PySem.W.nsIn K mainGlobals "range" = some none)
    (z_set : PySem.W.nsIn K mainGlobals "set" = some none)
    (z_sorted : PySem.W.nsIn K mainGlobals "sorted" = some none)
    (z_str : PySem.W.nsIn K mainGlobals "str" = some none)
    (z_tuple : PySem.W.nsIn K mainGlobals "tuple" = some none) :
    ∃ fd : FuncData, (∀ (s : Shared) (v : Value), BindsTo s fd ⟨[v], []⟩ [("script", v)]) ∧ ∀ base : Heap, K.In base → base.Ns mainGlobals mg → FnOk l.prog w K mg base CX0 10 fa fd ["script"] (spLaw K) := by
  have e := hfa.symm.trans (PySem.W.mg_of X G a_law)
  cases e
  let T : Tx K mg := {
    c_Wish := c_Wish,
    a_is_integer := f_is_integer,
    d_is_integer := _,
    a_is_number := f_is_number,
    d_is_number := _,
    a_is_text := f_is_text,
    d_is_text := _,
    a_is_sequence := f_is_sequence,
    d_is_sequence := _,
    a_is_name := f_is_name,
    d_is_name := _,
    a_ascending_names := f_ascending_names,
    d_ascending_names := _,
    a_is_state := f_is_state,
    d_is_state := _,
    a_are_names := f_are_names,
    d_are_names := _,
    a_is_step := f_is_step,
    d_is_step := _,
    a_Wish_init := f_Wish_init,
    d_Wish_init := _,
    a_Wish_eq := f_Wish_eq,
    d_Wish_eq := _,
    a_Wish_rung_bells := f_Wish_rung_bells,
    d_Wish_rung_bells := _,
    a_Wish_after := f_Wish_after,
    d_Wish_after := _,
    a_Wish_end := f_Wish_end,
    d_Wish_end := _,
    a_Wish_takes := f_Wish_takes,
    d_Wish_takes := _,
    a_wish_rings := f_wish_rings,
    d_wish_rings := _,
    a_wish_ahead := f_wish_ahead,
    d_wish_ahead := _,
    a_wish_last := f_wish_last,
    d_wish_last := _,
    a_wish_denied := f_wish_denied,
    d_wish_denied := _,
    a_wish_met := f_wish_met,
    d_wish_met := _,
    a_open_steps := f_open_steps,
    d_open_steps := _,
    a_paired_wish := f_paired_wish,
    d_paired_wish := _,
    a_wish_both := f_wish_both,
    d_wish_both := _,
    a_wish_either := f_wish_either,
    d_wish_either := _,
    a__law_box := f__law_box,
    d__law_box := _,
    a__law_take := f__law_take,
    d__law_take := _,
    a__law_pick := f__law_pick,
    d__law_pick := _,
    a__law_names := f__law_names,
    d__law_names := _,
    a__law_wish := f__law_wish,
    d__law_wish := _,
    a__law_read := f__law_read,
    d__law_read := _,
    a__law_lots := f__law_lots,
    d__law_lots := _,
    a__law_end := f__law_end,
    d__law_end := _,
    a__law_made_right := f__law_made_right,
    d__law_made_right := _,
    a__law_joined_right := f__law_joined_right,
    d__law_joined_right := _,
    a__law_sorted_steps := f__law_sorted_steps,
    d__law_sorted_steps := _,
    a_law := fa,
    d_law := _,
    k_LETTERS := tc_LETTERS,
    k_LONGEST := tc_LONGEST,
    F_is_integer := fun_mk (st := s_is_integer) l_is_integer cd_is_integer_ kp_is_integer,
    m_is_integer := PySem.W.mg_of X G a_is_integer,
    F_is_number := fun_mk (st := s_is_number) l_is_number cd_is_number_ kp_is_number,
    m_is_number := PySem.W.mg_of X G a_is_number,
    F_is_text := fun_mk (st := s_is_text) l_is_text cd_is_text_ kp_is_text,
    m_is_text := PySem.W.mg_of X G a_is_text,
    F_is_sequence := fun_mk (st := s_is_sequence) l_is_sequence cd_is_sequence_ kp_is_sequence,
    m_is_sequence := PySem.W.mg_of X G a_is_sequence,
    F_is_name := fun_mk (st := s_is_name) l_is_name cd_is_name_ kp_is_name,
    m_is_name := PySem.W.mg_of X G a_is_name,
    F_ascending_names := fun_mk (st := s_ascending_names) l_ascending_names cd_ascending_names_ kp_ascending_names,
    m_ascending_names := PySem.W.mg_of X G a_ascending_names,
    F_is_state := fun_mk (st := s_is_state) l_is_state cd_is_state_ kp_is_state,
    m_is_state := PySem.W.mg_of X G a_is_state,
    F_are_names := fun_mk (st := s_are_names) l_are_names cd_are_names_ kp_are_names,
    m_are_names := PySem.W.mg_of X G a_are_names,
    F_is_step := fun_mk (st := s_is_step) l_is_step cd_is_step_ kp_is_step,
    m_is_step := PySem.W.mg_of X G a_is_step,
    F_Wish_init := fun_mk (st := s_Wish_init) l_Wish_init cd_Wish_init_ kp_Wish_init,
    F_Wish_eq := fun_mk (st := s_Wish_eq) l_Wish_eq cd_Wish_eq_ kp_Wish_eq,
    F_Wish_rung_bells := fun_mk (st := s_Wish_rung_bells) l_Wish_rung_bells cd_Wish_rung_bells_ kp_Wish_rung_bells,
    M_Wish_rung_bells := ⟨a_Wish_rung_bells, i_Wish_rung_bells, kp_Wish_rung_bells⟩,
    F_Wish_after := fun_mk (st := s_Wish_after) l_Wish_after cd_Wish_after_ kp_Wish_after,
    M_Wish_after := ⟨a_Wish_after, i_Wish_after, kp_Wish_after⟩,
    F_Wish_end := ⟨⟨oc_Wish_end, od_Wish_end, .ref T_Wish_end, kV_Wish_end, dc_Wish_end, pm_Wish_end, an_Wish_end, cd_Wish_end, ct_Wish_end, sl_Wish_end, rfl, l_Wish_end, cd_Wish_end_, .inr ⟨by simp, T_Wish_end, _, [.int 0 tk0_Wish_end], nT_Wish_end, rfl, lT_Wish_end, rfl, (.cons ⟨_, rfl⟩ .nil)⟩, .inl rfl⟩, kp_Wish_end⟩,
    M_Wish_end := ⟨a_Wish_end, i_Wish_end, kp_Wish_end⟩,
    F_Wish_takes := fun_mk (st := s_Wish_takes) l_Wish_takes cd_Wish_takes_ kp_Wish_takes,
    M_Wish_takes := ⟨a_Wish_takes, i_Wish_takes, kp_Wish_takes⟩,
    F_wish_rings := ⟨⟨oc_wish_rings, od_wish_rings, .ref T_wish_rings, kV_wish_rings, dc_wish_rings, pm_wish_rings, an_wish_rings, cd_wish_rings, ct_wish_rings, sl_wish_rings, rfl, l_wish_rings, cd_wish_rings_, .inr ⟨by simp, T_wish_rings, _, [.int 1 tk0_wish_rings], nT_wish_rings, rfl, lT_wish_rings, rfl, (.cons ⟨_, rfl⟩ .nil)⟩, .inl rfl⟩, kp_wish_rings⟩,
    m_wish_rings := PySem.W.mg_of X G a_wish_rings,
    F_wish_ahead := fun_mk (st := s_wish_ahead) l_wish_ahead cd_wish_ahead_ kp_wish_ahead,
    m_wish_ahead := PySem.W.mg_of X G a_wish_ahead,
    F_wish_last := fun_mk (st := s_wish_last) l_wish_last cd_wish_last_ kp_wish_last,
    m_wish_last := PySem.W.mg_of X G a_wish_last,
    F_wish_denied := fun_mk (st := s_wish_denied) l_wish_denied cd_wish_denied_ kp_wish_denied,
    m_wish_denied := PySem.W.mg_of X G a_wish_denied,
    F_wish_met := fun_mk (st := s_wish_met) l_wish_met cd_wish_met_ kp_wish_met,
    m_wish_met := PySem.W.mg_of X G a_wish_met,
    F_open_steps := fun_mk (st := s_open_steps) l_open_steps cd_open_steps_ kp_open_steps,
    m_open_steps := PySem.W.mg_of X G a_open_steps,
    F_paired_wish := fun_mk (st := s_paired_wish) l_paired_wish cd_paired_wish_ kp_paired_wish,
    m_paired_wish := PySem.W.mg_of X G a_paired_wish,
    F_wish_both := fun_mk (st := s_wish_both) l_wish_both cd_wish_both_ kp_wish_both,
    m_wish_both := PySem.W.mg_of X G a_wish_both,
    F_wish_either := fun_mk (st := s_wish_either) l_wish_either cd_wish_either_ kp_wish_either,
    m_wish_either := PySem.W.mg_of X G a_wish_either,
    F__law_box := fun_mk (st := s__law_box) l__law_box cd__law_box_ kp__law_box,
    m__law_box := PySem.W.mg_of X G a__law_box,
    F__law_take := fun_mk (st := s__law_take) l__law_take cd__law_take_ kp__law_take,
    m__law_take := PySem.W.mg_of X G a__law_take,
    F__law_pick := fun_mk (st := s__law_pick) l__law_pick cd__law_pick_ kp__law_pick,
    m__law_pick := PySem.W.mg_of X G a__law_pick,
    F__law_names := fun_mk (st := s__law_names) l__law_names cd__law_names_ kp__law_names,
    m__law_names := PySem.W.mg_of X G a__law_names,
    F__law_wish := fun_mk (st := s__law_wish) l__law_wish cd__law_wish_ kp__law_wish,
    m__law_wish := PySem.W.mg_of X G a__law_wish,
    F__law_read := fun_mk (st := s__law_read) l__law_read cd__law_read_ kp__law_read,
    m__law_read := PySem.W.mg_of X G a__law_read,
    F__law_lots := fun_mk (st := s__law_lots) l__law_lots cd__law_lots_ kp__law_lots,
    m__law_lots := PySem.W.mg_of X G a__law_lots,
    F__law_end := fun_mk (st := s__law_end) l__law_end cd__law_end_ kp__law_end,
    m__law_end := PySem.W.mg_of X G a__law_end,
    F__law_made_right := fun_mk (st := s__law_made_right) l__law_made_right cd__law_made_right_ kp__law_made_right,
    m__law_made_right := PySem.W.mg_of X G a__law_made_right,
    F__law_joined_right := fun_mk (st := s__law_joined_right) l__law_joined_right cd__law_joined_right_ kp__law_joined_right,
    m__law_joined_right := PySem.W.mg_of X G a__law_joined_right,
    F__law_sorted_steps := fun_mk (st := s__law_sorted_steps) l__law_sorted_steps cd__law_sorted_steps_ kp__law_sorted_steps,
    m__law_sorted_steps := PySem.W.mg_of X G a__law_sorted_steps,
    F_law := fun_mk (st := s_law) l_law cd_law_ kp_law,
    m_law := PySem.W.mg_of X G a_law,
    m_Wish := PySem.W.mg_of X G aCWish,
    cl_Wish := ⟨pgWish, hdWish, poWish, saWish⟩,
    na_Wish_good := n_Wish_good,
    na_Wish_states := n_Wish_states,
    na_Wish_steps := n_Wish_steps,
    mk_Wish := ⟨mkWish, a_Wish_init, i_Wish_init, kcWish⟩,
    eq_Wish := ⟨a_Wish_eq, i_Wish_eq, nfWish⟩,
    ci_Wish := ⟨⟨pgWish, hdWish, poWish, saWish⟩, haWish, hnWish, tkWish, mrWish⟩,
    cs_Wish := kit_self,
    cb_Wish := fun n hn => by
      rcases (by simpa [tyNames] using hn : n = "NoneType" ∨ n = "bool" ∨ n = "int" ∨ n = "str" ∨ n = "tuple" ∨ n = "list") with rfl | rfl | rfl | rfl | rfl | rfl
      · exact kit_own isWish tyWish kbWish_NoneType
      · exact kit_own isWish tyWish kbWish_bool
      · exact kit_own isWish tyWish kbWish_int
      · exact kit_own isWish tyWish kbWish_str
      · exact kit_own isWish tyWish kbWish_tuple
      · exact kit_own isWish tyWish kbWish_list,
    g_LETTERS := PySem.W.mg_of X G g_LETTERS,
    g_LONGEST := PySem.W.mg_of X G g_LONGEST,
    b_abs := PySem.W.mg_none_of X G z_abs,
    b_all := PySem.W.mg_none_of X G z_all,
    b_any := PySem.W.mg_none_of X G z_any,
    b_bool := PySem.W.mg_none_of X G z_bool,
    b_enumerate := PySem.W.mg_none_of X G z_enumerate,
    b_int := PySem.W.mg_none_of X G z_int,
    b_isinstance := PySem.W.mg_none_of X G z_isinstance,
    b_len := PySem.W.mg_none_of X G z_len,
    b_list := PySem.W.mg_none_of X G z_list,
    b_range := PySem.W.mg_none_of X G z_range,
    b_set := PySem.W.mg_none_of X G z_set,
    b_sorted := PySem.W.mg_none_of X G z_sorted,
    b_str := PySem.W.mg_none_of X G z_str,
    b_tuple := PySem.W.mg_none_of X G z_tuple }
  exact ⟨_, fun s v => .of_eq rfl, fun base _ _ => (fn_law (P := l.prog) (w := w) (base := base) T).imp (law_sp _)⟩
theorem walk {l : PySem.W.OpenLaw} {q : Program} {loose : List Str} {XP : (Str → Option Value) → Heap → Prop} {YP : World → Heap → Prop} {d : DefRec} {K : Params → PySem.W.Frag} (hn : l.most = some 63) (hdf : d.params.defaults = [])
    (hY : ∀ (w : World) (h : Heap), YP w h → (K w.params).In h)
    (F : ∀ (w : World) (mg : Str → Option Value) (fa : Addr) (h : Heap), (K w.params).In h → h.Ns mainGlobals mg → mg d.name = some (.ref fa) →
      ∃ fd : FuncData, (∀ (s : Shared) (u : Value), BindsTo s fd ⟨[u], []⟩ [("script", u)]) ∧ ∀ base : Heap, (K w.params).In base → base.Ns mainGlobals mg → FnOk l.prog w (K w.params) mg base CX0 10 fa fd ["script"] (spLaw (K w.params))) :
    PySem.W.WalkO q loose XP YP l.row.toRowW d [] (fun f vs => PySem.call f vs) :=
  L2.walk_of (n := 63) (k := 10) (x := "script") (CX := fun _ => CX0) (sp := fun w => spLaw (K w.params)) hn (by decide) hdf ⟨rfl, by decide, by decide⟩ hY F (fun _ _ a ns hl _ hS => ⟨a, ns, rfl, hS, hl, fun _ => rfl⟩) fun _ _ _ _ _ z => z
end K50
open PySem PySem.W PyProof.Rows
set_option maxRecDepth 100000 in
set_option maxHeartbeats 0 in
theorem PySem.Challenge.cw_curvebells_k50_wishes_that_read_tales_holds : PySem.Challenge.rw_curvebells_k50_wishes_that_read_tales.Holds := by
  w_on; o_law; k_head; (case hw => w_witness2)
  k_fill
  refine K50.walk (l := PySem.Challenge.rw_curvebells_k50_wishes_that_read_tales) rfl rfl (fun w h Y => PySem.W.kIn_of Y) ?F
  case F =>
    intro w mg fa h KX G hmg
    refine' K50.all_mk KX G hmg ?aCWish ?a_is_integer ?l_is_integer ?cd_is_integer_ ?kp_is_integer ?a_is_number ?l_is_number ?cd_is_number_ ?kp_is_number ?a_is_text ?l_is_text ?cd_is_text_ ?kp_is_text ?a_is_sequence ?l_is_sequence ?cd_is_sequence_ ?kp_is_sequence ?a_is_name ?l_is_name ?cd_is_name_ ?kp_is_name ?a_ascending_names ?l_ascending_names ?cd_ascending_names_ ?kp_ascending_names ?a_is_state ?l_is_state ?cd_is_state_ ?kp_is_state ?a_are_names ?l_are_names ?cd_are_names_ ?kp_are_names ?a_is_step ?l_is_step ?cd_is_step_ ?kp_is_step ?a_Wish_init ?i_Wish_init ?l_Wish_init ?cd_Wish_init_ ?kp_Wish_init ?a_Wish_eq ?i_Wish_eq ?l_Wish_eq ?cd_Wish_eq_ ?kp_Wish_eq ?a_Wish_rung_bells ?i_Wish_rung_bells ?l_Wish_rung_bells ?cd_Wish_rung_bells_ ?kp_Wish_rung_bells ?a_Wish_after ?i_Wish_after ?l_Wish_after ?cd_Wish_after_ ?kp_Wish_after ?a_Wish_end ?i_Wish_end ?l_Wish_end ?cd_Wish_end_ ?kp_Wish_end ?lT_Wish_end ?a_Wish_takes ?i_Wish_takes ?l_Wish_takes ?cd_Wish_takes_ ?kp_Wish_takes ?a_wish_rings ?l_wish_rings ?cd_wish_rings_ ?kp_wish_rings ?lT_wish_rings ?a_wish_ahead ?l_wish_ahead ?cd_wish_ahead_ ?kp_wish_ahead ?a_wish_last ?l_wish_last ?cd_wish_last_ ?kp_wish_last ?a_wish_denied ?l_wish_denied ?cd_wish_denied_ ?kp_wish_denied ?a_wish_met ?l_wish_met ?cd_wish_met_ ?kp_wish_met ?a_open_steps ?l_open_steps ?cd_open_steps_ ?kp_open_steps ?a_paired_wish ?l_paired_wish ?cd_paired_wish_ ?kp_paired_wish ?a_wish_both ?l_wish_both ?cd_wish_both_ ?kp_wish_both ?a_wish_either ?l_wish_either ?cd_wish_either_ ?kp_wish_either ?a__law_box ?l__law_box ?cd__law_box_ ?kp__law_box ?a__law_take ?l__law_take ?cd__law_take_ ?kp__law_take ?a__law_pick ?l__law_pick ?cd__law_pick_ ?kp__law_pick ?a__law_names ?l__law_names ?cd__law_names_ ?kp__law_names ?a__law_wish ?l__law_wish ?cd__law_wish_ ?kp__law_wish ?a__law_read ?l__law_read ?cd__law_read_ ?kp__law_read ?a__law_lots ?l__law_lots ?cd__law_lots_ ?kp__law_lots ?a__law_end ?l__law_end ?cd__law_end_ ?kp__law_end ?a__law_made_right ?l__law_made_right ?cd__law_made_right_ ?kp__law_made_right ?a__law_joined_right ?l__law_joined_right ?cd__law_joined_right_ ?kp__law_joined_right ?a__law_sorted_steps ?l__law_sorted_steps ?cd__law_sorted_steps_ ?kp__law_sorted_steps ?a_law ?l_law ?cd_law_ ?kp_law ?pgWish ?hdWish ?poWish ?saWish ?mkWish ?kcWish ?n_Wish_good ?n_Wish_states ?n_Wish_steps ?nfWish ?haWish ?hnWish ?tkWish ?mrWish ?kbWish_NoneType ?kbWish_bool ?kbWish_int ?kbWish_str ?kbWish_tuple ?kbWish_list ?isWish ?tyWish ?g_LETTERS ?g_LONGEST ?z_abs ?z_all ?z_any ?z_bool ?z_enumerate ?z_int ?z_isinstance ?z_len ?z_list ?z_range ?z_set ?z_sorted ?z_str ?z_tuple
    (case aCWish => k_is); (case a_is_integer => k_is); (case l_is_integer => k_is); (case cd_is_integer_ => k_is); (case kp_is_integer => k_is); (case a_is_number => k_is)
    (case l_is_number => k_is); (case cd_is_number_ => k_is); (case kp_is_number => k_is); (case a_is_text => k_is); (case l_is_text => k_is); (case cd_is_text_ => k_is)
    (case kp_is_text => k_is); (case a_is_sequence => k_is); (case l_is_sequence => k_is); (case cd_is_sequence_ => k_is); (case kp_is_sequence => k_is); (case a_is_name => k_is)
    (case l_is_name => k_is); (case cd_is_name_ => k_is); (case kp_is_name => k_is); (case a_ascending_names => k_is); (case l_ascending_names => k_is); (case cd_ascending_names_ => k_is)
    (case kp_ascending_names => k_is); (case a_is_state => k_is); (case l_is_state => k_is); (case cd_is_state_ => k_is); (case kp_is_state => k_is); (case a_are_names => k_is)
    (case l_are_names => k_is); (case cd_are_names_ => k_is); (case kp_are_names => k_is); (case a_is_step => k_is); (case l_is_step => k_is); (case cd_is_step_ => k_is)
    (case kp_is_step => k_is); (case a_Wish_init => k_is); (case i_Wish_init => k_is); (case l_Wish_init => k_is); (case cd_Wish_init_ => k_is); (case kp_Wish_init => k_is)
    (case a_Wish_eq => k_is); (case i_Wish_eq => k_is); (case l_Wish_eq => k_is); (case cd_Wish_eq_ => k_is); (case kp_Wish_eq => k_is); (case a_Wish_rung_bells => k_is)
    (case i_Wish_rung_bells => k_is); (case l_Wish_rung_bells => k_is); (case cd_Wish_rung_bells_ => k_is); (case kp_Wish_rung_bells => k_is); (case a_Wish_after => k_is); (case i_Wish_after => k_is)
    (case l_Wish_after => k_is); (case cd_Wish_after_ => k_is); (case kp_Wish_after => k_is); (case a_Wish_end => k_is); (case i_Wish_end => k_is); (case l_Wish_end => k_is)
    (case cd_Wish_end_ => k_is); (case kp_Wish_end => k_is); (case lT_Wish_end => k_is); (case a_Wish_takes => k_is); (case i_Wish_takes => k_is); (case l_Wish_takes => k_is)
    (case cd_Wish_takes_ => k_is); (case kp_Wish_takes => k_is); (case a_wish_rings => k_is); (case l_wish_rings => k_is); (case cd_wish_rings_ => k_is); (case kp_wish_rings => k_is)
    (case lT_wish_rings => k_is); (case a_wish_ahead => k_is); (case l_wish_ahead => k_is); (case cd_wish_ahead_ => k_is); (case kp_wish_ahead => k_is); (case a_wish_last => k_is)
    (case l_wish_last => k_is); (case cd_wish_last_ => k_is); (case kp_wish_last => k_is); (case a_wish_denied => k_is); (case l_wish_denied => k_is); (case cd_wish_denied_ => k_is)
    (case kp_wish_denied => k_is); (case a_wish_met => k_is); (case l_wish_met => k_is); (case cd_wish_met_ => k_is); (case kp_wish_met => k_is); (case a_open_steps => k_is)
    (case l_open_steps => k_is); (case cd_open_steps_ => k_is); (case kp_open_steps => k_is); (case a_paired_wish => k_is); (case l_paired_wish => k_is); (case cd_paired_wish_ => k_is)
    (case kp_paired_wish => k_is); (case a_wish_both => k_is); (case l_wish_both => k_is); (case cd_wish_both_ => k_is); (case kp_wish_both => k_is); (case a_wish_either => k_is)
    (case l_wish_either => k_is); (case cd_wish_either_ => k_is); (case kp_wish_either => k_is); (case a__law_box => k_is); (case l__law_box => k_is); (case cd__law_box_ => k_is)
    (case kp__law_box => k_is); (case a__law_take => k_is); (case l__law_take => k_is); (case cd__law_take_ => k_is); (case kp__law_take => k_is); (case a__law_pick => k_is)
    (case l__law_pick => k_is); (case cd__law_pick_ => k_is); (case kp__law_pick => k_is); (case a__law_names => k_is); (case l__law_names => k_is); (case cd__law_names_ => k_is)
    (case kp__law_names => k_is); (case a__law_wish => k_is); (case l__law_wish => k_is); (case cd__law_wish_ => k_is); (case kp__law_wish => k_is); (case a__law_read => k_is)
    (case l__law_read => k_is); (case cd__law_read_ => k_is); (case kp__law_read => k_is); (case a__law_lots => k_is); (case l__law_lots => k_is); (case cd__law_lots_ => k_is)
    (case kp__law_lots => k_is); (case a__law_end => k_is); (case l__law_end => k_is); (case cd__law_end_ => k_is); (case kp__law_end => k_is); (case a__law_made_right => k_is)
    (case l__law_made_right => k_is); (case cd__law_made_right_ => k_is); (case kp__law_made_right => k_is); (case a__law_joined_right => k_is); (case l__law_joined_right => k_is); (case cd__law_joined_right_ => k_is)
    (case kp__law_joined_right => k_is); (case a__law_sorted_steps => k_is); (case l__law_sorted_steps => k_is); (case cd__law_sorted_steps_ => k_is); (case kp__law_sorted_steps => k_is); (case a_law => k_is)
    (case l_law => k_is); (case cd_law_ => k_is); (case kp_law => k_is); (case pgWish => k_is); (case hdWish => k_is); (case poWish => k_is)
    (case saWish => k_is); (case mkWish => k_is); (case kcWish => k_is); (case n_Wish_good => k_is); (case n_Wish_states => k_is); (case n_Wish_steps => k_is)
    (case nfWish => k_is); (case haWish => k_is); (case hnWish => k_is); (case tkWish => k_is); (case mrWish => k_is); (case kbWish_NoneType => k_is)
    (case kbWish_bool => k_is); (case kbWish_int => k_is); (case kbWish_str => k_is); (case kbWish_tuple => k_is); (case kbWish_list => k_is); (case isWish => k_is)
    (case tyWish => k_is); (case g_LETTERS => k_is); (case g_LONGEST => k_is); (case z_abs => k_is); (case z_all => k_is); (case z_any => k_is)
    (case z_bool => k_is); (case z_enumerate => k_is); (case z_int => k_is); (case z_isinstance => k_is); (case z_len => k_is); (case z_list => k_is)
    (case z_range => k_is); (case z_set => k_is); (case z_sorted => k_is); (case z_str => k_is); (case z_tuple => k_is)
#print axioms PySem.Challenge.cw_curvebells_k50_wishes_that_read_tales_holds

