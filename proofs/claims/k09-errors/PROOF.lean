import PyProof.Rows.All
import Wide.All
import OpenK.AllK
import Wide.FinOn
import HandS.ForMost
import HandS.ForExc
import HandS.Wide
import HandS.Gcd
import HandS.ExcInit
import HandS.CallSlots
import HandS.More
import HandS.ExcOwn
import HandS.IsInst
import HandS.ExcIs
import HandS.ExcField
import KE.KExcIs
import HandS.Style
import HandS.EndBits
import HandS.Zip
import HandS.Text
import PySem.Challenge.RW_wholeworths_k09_errors_of_all_worths
set_option Elab.async false
set_option linter.all false
set_option maxRecDepth 100000
set_option maxHeartbeats 4000000
namespace DL
open PySem PySem.Spec PyProof.Rows L2

/-- what a value stands for; ol, od, oi: lists, dicts, instances that one slot alone holds and that may still change -/
inductive D where
  | non | bl (b : Bool) | int (i : Int) | str (x : Str) | ty (n : String)
  | cls (c : Nat)
  | tup (xs : List D) | lst (xs : List D) | frl (xs : List D) | dct (kvs : List (Key × D))
  | ins (c : Nat) (fs : List (Str × D))
  | exc (c : Nat) (d : D)
  | ol (xs : List D) | od (kvs : List (Key × D)) | oi (c : Nat) (fs : List (Str × D))

/-- the written part, and where the classes stand -/
structure Bd where
  K : PySem.W.Frag
  ca : Nat → Addr

abbrev FP := Addr → Prop
def nof : FP := fun _ => False

/-- an exception object, held as a value -/
def exv (C dd a : Addr) : HO := .ext fun h => ∃ (oe : Obj) (vs : Array Value), h.get? a = some oe ∧ oe.cls = .ref C ∧ oe.dict = some dd ∧ oe.data = .fields vs

/-- G: what is frozen; H: what is tracked; the value v stands for the data d; T: the addresses that are its own -/
inductive Rep (B : Bd) (G H : Hp) : V → D → FP → Prop
  | non : Rep B G H .non .non nof
  | bl (b : Bool) : Rep B G H (.bl b) (.bl b) nof
  | int (i : Int) : Rep B G H (.int i) (.int i) nof
  | str (x : Str) : Rep B G H (.str x) (.str x) nof
  | ty (n : String) : Rep B G H (.ty n) (.ty n) nof
  | cls (c : Nat) : Rep B G H (.ref (B.ca c)) (.cls c) nof
  | tup {a : Addr} {vs : List V} {ds : List D} (h : SqT B.K G a vs) (l : vs.length = ds.length)
      (c : ∀ (i : Nat) v d, vs[i]? = some v → ds[i]? = some d → Rep B G H v d nof) : Rep B G H (.ref a) (.tup ds) nof
  | lst {a : Addr} {vs : List V} {ds : List D} (h : G a = some (.lst vs)) (l : vs.length = ds.length)
      (c : ∀ (i : Nat) v d, vs[i]? = some v → ds[i]? = some d → Rep B G H v d nof) : Rep B G H (.ref a) (.lst ds) nof
  | frl {a : Addr} {vs : List V} {ds : List D} (h : SqL B.K G a vs) (l : vs.length = ds.length)
      (c : ∀ (i : Nat) v d, vs[i]? = some v → ds[i]? = some d → Rep B G H v d nof) : Rep B G H (.ref a) (.frl ds) nof
  | dct {a : Addr} {kvs : List (Key × V)} {ds : List (Key × D)} (h : G a = some (.dK kvs)) (l : kvs.map (·.1) = ds.map (·.1))
      (c : ∀ (i : Nat) k v k' d, kvs[i]? = some (k, v) → ds[i]? = some (k', d) → Rep B G H v d nof) : Rep B G H (.ref a) (.dct ds) nof
  | ins {a dx : Addr} {c : Nat} {fs : List (Str × V)} {ds : List (Str × D)} (h : G a = some (.ins (B.ca c) dx fs)) (ho : G dx = some (.own a)) (l : fs.map (·.1) = ds.map (·.1))
      (ch : ∀ (i : Nat) k v k' d, fs[i]? = some (k, v) → ds[i]? = some (k', d) → Rep B G H v d nof) : Rep B G H (.ref a) (.ins c ds) nof
  | exc {a dd : Addr} {c : Nat} {v : V} {d : D} (h : G a = some (exv (B.ca c) dd a)) (ho : G dd = some (.xd [(("value" : Str), v)]))
      (r : Rep B G H v d nof) : Rep B G H (.ref a) (.exc c d) nof
  | ol {a : Addr} {vs : List V} {ds : List D} {F : Nat → FP} (h : H a = some (.lst vs)) (g : G a = none) (l : vs.length = ds.length)
      (c : ∀ (i : Nat) v d, vs[i]? = some v → ds[i]? = some d → Rep B G H v d (F i)) (bd : ∀ i x, F i x → i < ds.length)
      (dj : ∀ i j x, F i x → F j x → i = j) (na : ∀ i, ¬ F i a) : Rep B G H (.ref a) (.ol ds) (fun x => x = a ∨ ∃ i, F i x)
  | od {a : Addr} {kvs : List (Key × V)} {ds : List (Key × D)} {F : Nat → FP} (h : H a = some (.dK kvs)) (g : G a = none) (l : kvs.map (·.1) = ds.map (·.1))
      (c : ∀ (i : Nat) k v k' d, kvs[i]? = some (k, v) → ds[i]? = some (k', d) → Rep B G H v d (F i)) (bd : ∀ i x, F i x → i < ds.length)
      (dj : ∀ i j x, F i x → F j x → i = j) (na : ∀ i, ¬ F i a) : Rep B G H (.ref a) (.od ds) (fun x => x = a ∨ ∃ i, F i x)
  | oi {a dx : Addr} {c : Nat} {fs : List (Str × V)} {ds : List (Str × D)} {F : Nat → FP} (h : H a = some (.ins (B.ca c) dx fs)) (ho : H dx = some (.own a)) (g : G a = none) (g2 : G dx = none) (l : fs.map (·.1) = ds.map (·.1))
      (ch : ∀ (i : Nat) k v k' d, fs[i]? = some (k, v) → ds[i]? = some (k', d) → Rep B G H v d (F i)) (bd : ∀ i x, F i x → i < ds.length)
      (dj : ∀ i j x, F i x → F j x → i = j) (na : ∀ i, ¬ F i a) (na2 : ∀ i, ¬ F i dx) : Rep B G H (.ref a) (.oi c ds) (fun x => x = a ∨ x = dx ∨ ∃ i, F i x)

section
variable {B : Bd} {G H G' H' : Hp} {v : V} {d : D} {T : FP}
theorem get_both {α β : Type} {xs : List α} {ys : List β} (l : xs.length = ys.length) {i : Nat} (hi : i < ys.length) : ∃ x y, xs[i]? = some x ∧ ys[i]? = some y :=
  ⟨xs[i], ys[i], List.getElem?_eq_getElem (by omega), List.getElem?_eq_getElem hi⟩
theorem len_of_keys {κ α β : Type} {xs : List (κ × α)} {ys : List (κ × β)} (l : xs.map (·.1) = ys.map (·.1)) : xs.length = ys.length := by
  have := congrArg List.length l
  simpa using this
/-- own addresses stand in the heap, not frozen -/
theorem Rep.dom (r : Rep B G H v d T) : ∀ x, T x → (∃ o, H x = some o) ∧ G x = none := by
  induction r with
  | non | bl | int | str | ty | cls | tup | lst | frl | dct | ins | exc => intro x h; exact h.elim
  | ol h g l c bd dj na ih =>
    rintro x (rfl | ⟨i, hx⟩)
    · exact ⟨⟨_, h⟩, g⟩
    · obtain ⟨v, d, e1, e2⟩ := get_both l (bd i x hx)
      exact ih i v d e1 e2 x hx
  | od h g l c bd dj na ih =>
    rintro x (rfl | ⟨i, hx⟩)
    · exact ⟨⟨_, h⟩, g⟩
    · obtain ⟨⟨k, v⟩, ⟨k', d⟩, e1, e2⟩ := get_both (len_of_keys l) (bd i x hx)
      exact ih i k v k' d e1 e2 x hx
  | oi h ho g g2 l c bd dj na na2 ih =>
    rintro x (rfl | rfl | ⟨i, hx⟩)
    · exact ⟨⟨_, h⟩, g⟩
    · exact ⟨⟨_, ho⟩, g2⟩
    · obtain ⟨⟨k, v⟩, ⟨k', d⟩, e1, e2⟩ := get_both (len_of_keys l) (bd i x hx)
      exact ih i k v k' d e1 e2 x hx
theorem sqL_mono {K : PySem.W.Frag} {a : Addr} {vs : List V} (h : SqL K G a vs) (k : ∀ b o, G b = some o → G' b = some o) : SqL K G' a vs := by
  rcases h with (h | ⟨o, h⟩) | h
  · exact .inl (.inl (k _ _ h))
  · exact .inl (.inr ⟨o, k _ _ h⟩)
  · exact .inr h
theorem sqT_mono {K : PySem.W.Frag} {a : Addr} {vs : List V} (h : SqT K G a vs) (k : ∀ b o, G b = some o → G' b = some o) : SqT K G' a vs := by
  rcases h with (h | ⟨o, h⟩) | h
  · exact .inl (.inl (k _ _ h))
  · exact .inl (.inr ⟨o, k _ _ h⟩)
  · exact .inr h
/-- what stands for d still does when the frozen part grows and the own part stays -/
theorem Rep.keep (r : Rep B G H v d T) (gg : ∀ b o, G b = some o → G' b = some o) : (∀ b, T b → H' b = H b ∧ G' b = none) → Rep B G' H' v d T := by
  induction r with
  | non => intro; exact .non
  | bl b => intro; exact .bl b
  | int i => intro; exact .int i
  | str x => intro; exact .str x
  | ty n => intro; exact .ty n
  | cls c => intro; exact .cls c
  | tup h l c ih => intro _; exact .tup (sqT_mono h gg) l fun i v d e1 e2 => ih i v d e1 e2 fun b hb => hb.elim
  | lst h l c ih => intro _; exact .lst (gg _ _ h) l fun i v d e1 e2 => ih i v d e1 e2 fun b hb => hb.elim
  | frl h l c ih => intro _; exact .frl (sqL_mono h gg) l fun i v d e1 e2 => ih i v d e1 e2 fun b hb => hb.elim
  | dct h l c ih => intro _; exact .dct (gg _ _ h) l fun i k v k' d e1 e2 => ih i k v k' d e1 e2 fun b hb => hb.elim
  | ins h ho l c ih => intro _; exact .ins (gg _ _ h) (gg _ _ ho) l fun i k v k' d e1 e2 => ih i k v k' d e1 e2 fun b hb => hb.elim
  | exc h ho r ih => intro _; exact .exc (gg _ _ h) (gg _ _ ho) (ih fun b hb => hb.elim)
  | ol h g l c bd dj na ih =>
    intro k
    exact .ol ((k _ (.inl rfl)).1.trans h) (k _ (.inl rfl)).2 l (fun i v d e1 e2 => ih i v d e1 e2 fun b hb => k b (.inr ⟨i, hb⟩)) bd dj na
  | od h g l c bd dj na ih =>
    intro k
    exact .od ((k _ (.inl rfl)).1.trans h) (k _ (.inl rfl)).2 l (fun i q v q' d e1 e2 => ih i q v q' d e1 e2 fun b hb => k b (.inr ⟨i, hb⟩)) bd dj na
  | oi h ho g g2 l c bd dj na na2 ih =>
    intro k
    exact .oi ((k _ (.inl rfl)).1.trans h) ((k _ (.inr (.inl rfl))).1.trans ho) (k _ (.inl rfl)).2 (k _ (.inr (.inl rfl))).2 l
      (fun i q v q' d e1 e2 => ih i q v q' d e1 e2 fun b hb => k b (.inr (.inr ⟨i, hb⟩))) bd dj na na2
end

/-- not owned at its root -/
def D.sh : D → Bool
  | .ol _ => false | .od _ => false | .oi _ _ => false
  | _ => true
theorem Rep.sh_nof {B : Bd} {G H : Hp} {v : V} {d : D} {T : FP} (r : Rep B G H v d T) (h : d.sh = true) : T = nof := by
  cases r <;> first | rfl | cases h

/-! ### steps of the heap -/
structure Ext (G H : Hp) (W : FP) (G' H' : Hp) (W' : FP) : Prop where
  gg : ∀ b o, G b = some o → G' b = some o
  hh : ∀ b o, H b = some o → ¬ W b → H' b = some o
  ww : ∀ b, W' b → W b ∨ H b = none
  gn : ∀ b o, G' b = some o → G b = some o ∨ W b ∨ H b = none
section
variable {G H G1 H1 G2 H2 : Hp} {W W1 W2 : FP}
theorem Ext.refl (h : ∀ x, W1 x → W x) : Ext G H W G H W1 := ⟨fun _ _ e => e, fun _ _ e _ => e, fun b h' => .inl (h b h'), fun _ _ e => .inl e⟩
theorem Ext.trans (a : Ext G H W G1 H1 W1) (b : Ext G1 H1 W1 G2 H2 W2) : Ext G H W G2 H2 W2 := by
  have nn : ∀ x, H1 x = none → W x ∨ H x = none := fun x e => by
    cases q : H x with
    | none => exact .inr rfl
    | some o =>
      by_cases w : W x
      · exact .inl w
      · rw [a.hh x o q w] at e; cases e
  refine ⟨fun x o e => b.gg x o (a.gg x o e), fun x o e w => ?_, fun x w => ?_, fun x o e => ?_⟩
  · have e1 := a.hh x o e w
    refine b.hh x o e1 fun w1 => ?_
    rcases a.ww x w1 with z | z
    · exact w z
    · rw [z] at e; cases e
  · rcases b.ww x w with w1 | z
    · exact a.ww x w1
    · exact nn x z
  · rcases b.gn x o e with g1 | w1 | z
    · exact a.gn x o g1
    · exact .inr (a.ww x w1)
    · exact .inr (nn x z)
theorem Ext.mono {Wa Wb : FP} (a : Ext G H W G1 H1 W1) (h : ∀ x, W x → Wa x) (h1 : ∀ x, Wb x → W1 x) : Ext G H Wa G1 H1 Wb :=
  ⟨a.gg, fun x o e w => a.hh x o e fun z => w (h x z), fun x w => (a.ww x (h1 x w)).imp (h x) id, fun x o e => (a.gn x o e).imp id fun z => z.imp (h x) id⟩
/-- what stands apart stays, and stays apart -/
theorem Rep.frame {B : Bd} {v : V} {d : D} {T : FP} (r : Rep B G H v d T) (x : Ext G H W G1 H1 W1) (n : ∀ b, T b → ¬ W b) : Rep B G1 H1 v d T ∧ ∀ b, T b → ¬ W1 b := by
  have dm := r.dom
  refine ⟨r.keep x.gg fun b hb => ?_, fun b hb w => ?_⟩
  · obtain ⟨⟨o, e⟩, g⟩ := dm b hb
    refine ⟨(x.hh b o e (n b hb)).trans e.symm, ?_⟩
    cases q : G1 b with
    | none => rfl
    | some u =>
      rcases x.gn b u q with z | z | z
      · rw [g] at z; cases z
      · exact (n b hb z).elim
      · rw [e] at z; cases z
  · obtain ⟨⟨o, e⟩, g⟩ := dm b hb
    rcases x.ww b w with z | z
    · exact n b hb z
    · rw [e] at z; cases z
/-- a frozen thing stays whatever is done -/
theorem Rep.stay {B : Bd} {v : V} {d : D} (r : Rep B G H v d nof) (x : Ext G H W G1 H1 W1) : Rep B G1 H1 v d nof := r.keep x.gg fun _ h => h.elim
end

/-! ### freezing -/
mutual
def frz : D → D
  | .ol xs => .lst (frzL xs)
  | .od kvs => .dct (frzK kvs)
  | .oi c fs => .ins c (frzF fs)
  | d => d
def frzL : List D → List D
  | [] => []
  | d :: ds => frz d :: frzL ds
def frzK : List (Key × D) → List (Key × D)
  | [] => []
  | (k, d) :: ds => (k, frz d) :: frzK ds
def frzF : List (Str × D) → List (Str × D)
  | [] => []
  | (k, d) :: ds => (k, frz d) :: frzF ds
end
theorem frzL_map : ∀ xs : List D, frzL xs = xs.map frz
  | [] => rfl
  | d :: ds => by rw [frzL, frzL_map ds]; rfl
theorem frzK_map : ∀ xs : List (Key × D), frzK xs = xs.map fun p => (p.1, frz p.2)
  | [] => rfl
  | (k, d) :: ds => by rw [frzK, frzK_map ds]; rfl
theorem frzF_map : ∀ xs : List (Str × D), frzF xs = xs.map fun p => (p.1, frz p.2)
  | [] => rfl
  | (k, d) :: ds => by rw [frzF, frzF_map ds]; rfl
open Classical in
/-- T is frozen too -/
noncomputable def gfr (G H : Hp) (T : FP) : Hp := fun b => if T b then H b else G b
section
variable {B : Bd} {G H G1 : Hp} {v : V} {d : D} {T : FP}
theorem gfr_in {b : Addr} (h : T b) : gfr G H T b = H b := if_pos h
theorem gfr_out {b : Addr} (h : ¬ T b) : gfr G H T b = G b := if_neg h
/-- what stood for d stands for d frozen, when all of its own is frozen -/
theorem Rep.frozen (r : Rep B G H v d T) : (∀ b o, G b = some o → G1 b = some o) → (∀ b, T b → G1 b = H b) → Rep B G1 H v (frz d) nof := by
  induction r with
  | non => intros; exact .non
  | bl b => intros; exact .bl b
  | int i => intros; exact .int i
  | str x => intros; exact .str x
  | ty n => intros; exact .ty n
  | cls c => intros; exact .cls c
  | tup h l c ih => intro gg _; exact .tup (sqT_mono h gg) l fun i v d e1 e2 => (c i v d e1 e2).keep gg fun b hb => hb.elim
  | lst h l c ih => intro gg _; exact .lst (gg _ _ h) l fun i v d e1 e2 => (c i v d e1 e2).keep gg fun b hb => hb.elim
  | frl h l c ih => intro gg _; exact .frl (sqL_mono h gg) l fun i v d e1 e2 => (c i v d e1 e2).keep gg fun b hb => hb.elim
  | dct h l c ih => intro gg _; exact .dct (gg _ _ h) l fun i k v k' d e1 e2 => (c i k v k' d e1 e2).keep gg fun b hb => hb.elim
  | ins h ho l c ih => intro gg _; exact .ins (gg _ _ h) (gg _ _ ho) l fun i k v k' d e1 e2 => (c i k v k' d e1 e2).keep gg fun b hb => hb.elim
  | exc h ho r ih => intro gg _; exact .exc (gg _ _ h) (gg _ _ ho) (r.keep gg fun b hb => hb.elim)
  | ol h g l c bd dj na ih =>
    intro gg k
    rw [frz, frzL_map]
    refine .lst ((k _ (.inl rfl)).trans h) (by rw [List.length_map]; exact l) fun i v d e1 e2 => ?_
    rw [List.getElem?_map] at e2
    obtain ⟨d', e3, rfl⟩ := Option.map_eq_some_iff.mp e2
    exact ih i v d' e1 e3 gg fun b hb => k b (.inr ⟨i, hb⟩)
  | od h g l c bd dj na ih =>
    intro gg k
    rw [frz, frzK_map]
    refine .dct ((k _ (.inl rfl)).trans h) (by rw [List.map_map]; exact l) fun i q v q' d e1 e2 => ?_
    rw [List.getElem?_map] at e2
    obtain ⟨⟨q'', d'⟩, e3, e4⟩ := Option.map_eq_some_iff.mp e2
    cases e4
    exact ih i q v q'' d' e1 e3 gg fun b hb => k b (.inr ⟨i, hb⟩)
  | oi h ho g g2 l c bd dj na na2 ih =>
    intro gg k
    rw [frz, frzF_map]
    refine .ins ((k _ (.inl rfl)).trans h) ((k _ (.inr (.inl rfl))).trans ho) (by rw [List.map_map]; exact l) fun i q v q' d e1 e2 => ?_
    rw [List.getElem?_map] at e2
    obtain ⟨⟨q'', d'⟩, e3, e4⟩ := Option.map_eq_some_iff.mp e2
    cases e4
    exact ih i q v q'' d' e1 e3 gg fun b hb => k b (.inr (.inr ⟨i, hb⟩))
theorem frz_sh : ∀ d : D, d.sh = true → frz d = d
  | .non, _ => rfl | .bl _, _ => rfl | .int _, _ => rfl | .str _, _ => rfl | .ty _, _ => rfl | .cls _, _ => rfl
  | .tup _, _ => rfl | .lst _, _ => rfl | .frl _, _ => rfl | .dct _, _ => rfl | .ins _ _, _ => rfl | .exc _ _, _ => rfl
theorem frz_is (d : D) : (frz d).sh = true := by cases d <;> rfl
theorem gfr_gg (r : Rep B G H v d T) : ∀ b o, G b = some o → gfr G H T b = some o := fun b o e => by
  by_cases h : T b
  · rw [(r.dom b h).2] at e; cases e
  · rw [gfr_out h]; exact e
end
end DL

namespace DL
open PySem PySem.Spec PyProof.Rows L2

abbrev DEnv := List (Option D)
/-- what an expression comes to: a value, or the thing that a slot holds alone -/
inductive PSt where
  | ix (j : Nat) | fl (f : Str)
inductive AV where
  | val (d : D) | pl (i : Nat) (p : List PSt)
/-- where a key stands first -/
def kIdx {α : Type} (f : Str) : List (Str × α) → Option Nat
  | [] => none
  | (g, _) :: r => if g = f then some 0 else (kIdx f r).map (· + 1)
theorem kIdx_keys {α β : Type} (f : Str) : ∀ {xs : List (Str × α)} {ys : List (Str × β)}, xs.map (·.1) = ys.map (·.1) → kIdx f xs = kIdx f ys
  | [], [], _ => rfl
  | [], _ :: _, h => by cases h
  | _ :: _, [], h => by cases h
  | (g, _) :: r, (g', _) :: r', h => by
    simp only [List.map_cons, List.cons.injEq] at h
    obtain ⟨h1, h2⟩ := h
    subst h1
    unfold kIdx
    rw [kIdx_keys f h2]
theorem kIdx_get {α : Type} {f : Str} : ∀ {xs : List (Str × α)} {k : Nat}, kIdx f xs = some k → ∃ x, xs[k]? = some (f, x) ∧ xs.lookup f = some x
  | [], k, h => by cases h
  | (g, y) :: r, k, h => by
    unfold kIdx at h
    by_cases e : g = f
    · rw [if_pos e] at h
      cases h
      subst e
      exact ⟨y, rfl, by simp [List.lookup]⟩
    · rw [if_neg e] at h
      obtain ⟨k', h1, rfl⟩ := Option.map_eq_some_iff.mp h
      obtain ⟨x, e1, e2⟩ := kIdx_get h1
      refine ⟨x, by simpa using e1, ?_⟩
      have : (f == g) = false := by simpa using Ne.symm e
      simp [List.lookup, this, e2]
/-- the part of an own thing at a path -/
def getP : D → List PSt → Option D
  | d, [] => some d
  | .ol ds, .ix j :: p => match ds[j]? with
    | some d => getP d p
    | none => none
  | .oi _ fs, .fl f :: p => match kIdx f fs with
    | some k => match fs[k]? with
      | some (_, d) => getP d p
      | none => none
    | none => none
  | _, _ => none
def putP : D → List PSt → D → Option D
  | _, [], e => some e
  | .ol ds, .ix j :: p, e => match ds[j]? with
    | some d => (putP d p e).map fun u => .ol (ds.set j u)
    | none => none
  | .oi c fs, .fl f :: p, e => match kIdx f fs with
    | some k => match fs[k]? with
      | some (_, d) => (putP d p e).map fun u => .oi c (fs.set k (f, u))
      | none => none
    | none => none
  | _, _, _ => none
def PathH (H : Hp) : V → List PSt → V → Prop
  | v0, [], v => v0 = v
  | v0, .ix j :: p, v => ∃ a vs u, v0 = .ref a ∧ H a = some (.lst vs) ∧ vs[j]? = some u ∧ PathH H u p v
  | v0, .fl f :: p, v => ∃ a C dx fs k u, v0 = .ref a ∧ H a = some (.ins C dx fs) ∧ kIdx f fs = some k ∧ fs[k]? = some (f, u) ∧ PathH H u p v
inductive Out (α : Type) where
  | ok (a : α) (ρ : DEnv) | exc (e : D) (ρ : DEnv)
abbrev Ev (α : Type) := DEnv → Option (Out α)
def Ev.andThen {α β : Type} (f : Ev α) (k : α → Ev β) : Ev β := fun ρ => match f ρ with
  | none => none
  | some (.exc e ρ1) => some (.exc e ρ1)
  | some (.ok a ρ1) => k a ρ1
def Ev.pure {α : Type} (a : α) : Ev α := fun ρ => some (.ok a ρ)
def slotOf (ρ : DEnv) (i : Nat) : Option D := (ρ[i]?).bind id
theorem slotOf_eq {ρ : DEnv} {i : Nat} {d : D} (h : slotOf ρ i = some d) : ρ[i]? = some (some d) := by
  unfold slotOf at h
  cases e : ρ[i]? with
  | none => rw [e] at h; cases h
  | some o => rw [e] at h; cases o with
    | none => cases h
    | some d' => cases h; rfl
theorem slotOf_of {ρ : DEnv} {i : Nat} {d : D} (h : ρ[i]? = some (some d)) : slotOf ρ i = some d := by unfold slotOf; rw [h]; rfl
def cont (ρ : DEnv) : AV → Option D
  | .val d => some d
  | .pl i p => (slotOf ρ i).bind fun d => getP d p

theorem cont_pl (ρ : DEnv) (i : Nat) (p : List PSt) : cont ρ (.pl i p) = (slotOf ρ i).bind fun d => getP d p := rfl
section
variable {α β : Type} {f : Ev α} {k : α → Ev β} {ρ ρ1 : DEnv} {a : α} {e : D}
theorem andThen_none (h : f ρ = none) : f.andThen k ρ = none := by unfold Ev.andThen; rw [h]
theorem andThen_exc (h : f ρ = some (.exc e ρ1)) : f.andThen k ρ = some (.exc e ρ1) := by unfold Ev.andThen; rw [h]
theorem andThen_ok (h : f ρ = some (.ok a ρ1)) : f.andThen k ρ = k a ρ1 := by unfold Ev.andThen; rw [h]
end
def avF (F : Nat → FP) : AV → FP
  | .pl i _ => F i
  | .val _ => nof
def un (F : Nat → FP) : FP := fun x => ∃ i, F i x

structure Cfg (B : Bd) (G H : Hp) (σ : L2.St) (ρ : DEnv) (F : Nat → FP) : Prop where
  sub : ∀ b o, G b = some o → H b = some o
  len : ρ.length = σ.length
  slot : ∀ i d, ρ[i]? = some (some d) → ∃ v, σ[i]? = some (some v) ∧ Rep B G H v d (F i)
  emp : ∀ i, (∀ d, ρ[i]? ≠ some (some d)) → ∀ x, ¬ F i x
  dis : ∀ i j x, F i x → F j x → i = j

section
variable {B : Bd} {G H G' H' : Hp} {σ : L2.St} {ρ : DEnv} {F : Nat → FP} {W : FP}
theorem Cfg.own (c : Cfg B G H σ ρ F) {i : Nat} {x : Addr} (h : F i x) : ∃ d v, ρ[i]? = some (some d) ∧ σ[i]? = some (some v) ∧ Rep B G H v d (F i) := by
  cases e : ρ[i]? with
  | none => exact (c.emp i (fun d z => by rw [e] at z; cases z) x h).elim
  | some o =>
    cases o with
    | none => exact (c.emp i (fun d z => by rw [e] at z; cases z) x h).elim
    | some d =>
      obtain ⟨v, e1, r⟩ := c.slot i d e
      exact ⟨d, v, rfl, e1, r⟩
theorem Cfg.dom (c : Cfg B G H σ ρ F) {x : Addr} (h : un F x) : (∃ o, H x = some o) ∧ G x = none := by
  obtain ⟨i, hi⟩ := h
  obtain ⟨d, v, _, _, r⟩ := c.own hi
  exact r.dom x hi
/-- something is made, nothing is changed -/
theorem Cfg.grow (c : Cfg B G H σ ρ F) (x : Ext G H nof G' H' W) (s : ∀ b o, G' b = some o → H' b = some o) : Cfg B G' H' σ ρ F := by
  refine ⟨s, c.len, fun i d e => ?_, c.emp, c.dis⟩
  obtain ⟨v, e1, r⟩ := c.slot i d e
  exact ⟨v, e1, (r.frame x fun _ _ z => z).1⟩
/-- a step that leaves these slots apart -/
theorem Cfg.apart {W1 : FP} (c : Cfg B G H σ ρ F) (x : Ext G H W G' H' W1) (s : ∀ b o, G' b = some o → H' b = some o) (n : ∀ b, un F b → ¬ W b) : Cfg B G' H' σ ρ F := by
  refine ⟨s, c.len, fun i d e => ?_, c.emp, c.dis⟩
  obtain ⟨v, e1, r⟩ := c.slot i d e
  exact ⟨v, e1, (r.frame x fun b hb => n b ⟨i, hb⟩).1⟩
theorem Cfg.at (c : Cfg B G H σ ρ F) {i : Nat} {d : D} (h : slotOf ρ i = some d) : ∃ v, σ[i]? = some (some v) ∧ Rep B G H v d (F i) := c.slot i d (slotOf_eq h)
end

/-- a path: the parts on it are own, so it stays as long as they stay -/
theorem PathH.keep {B : Bd} {G H H' : Hp} : ∀ {p : List PSt} {v0 v : V} {d0 d : D} {T : FP}, Rep B G H v0 d0 T → getP d0 p = some d → (∀ b, T b → H' b = H b) → PathH H v0 p v → PathH H' v0 p v
  | [], _, _, _, _, _, _, _, _, h => h
  | .ix j :: p, v0, v, d0, d, T, r, e, k, h => by
    obtain ⟨a, vs, u, rfl, ha, hu, h⟩ := h
    cases r with
    | ol h' g l c bd dj na =>
      rw [h'] at ha; cases ha
      unfold getP at e
      split at e
      · rename_i dj' e2
        refine ⟨a, _, u, rfl, (k a (.inl rfl)).trans h', hu, PathH.keep (c j u dj' hu e2) e (fun b hb => k b (.inr ⟨j, hb⟩)) h⟩
      · cases e
    | _ => simp [getP] at e
  | .fl f :: p, v0, v, d0, d, T, r, e, k, h => by
    obtain ⟨a, C, dx, fs, n, u, rfl, ha, hk, hu, h⟩ := h
    cases r with
    | oi h' ho g g2 l c bd dj na na2 =>
      rw [h'] at ha; cases ha
      unfold getP at e
      rw [← kIdx_keys f l, hk] at e
      dsimp only at e
      split at e
      · rename_i f' dj' e2
        refine ⟨a, _, dx, _, n, u, rfl, (k a (.inl rfl)).trans h', hk, hu, PathH.keep (c n f u f' dj' hu e2) e (fun b hb => k b (.inr (.inr ⟨n, hb⟩))) h⟩
      · cases e
    | _ => simp [getP] at e
/-- what stands at a path -/
theorem PathH.rep {B : Bd} {G H : Hp} : ∀ {p : List PSt} {v0 v : V} {d0 d : D} {T : FP}, Rep B G H v0 d0 T → getP d0 p = some d → PathH H v0 p v → ∃ U, Rep B G H v d U ∧ ∀ x, U x → T x
  | [], v0, v, d0, d, T, r, e, h => by cases h; cases e; exact ⟨T, r, fun _ h => h⟩
  | .ix j :: p, v0, v, d0, d, T, r, e, h => by
    obtain ⟨a, vs, u, rfl, ha, hu, h⟩ := h
    cases r with
    | ol h' g l c bd dj na =>
      rw [h'] at ha; cases ha
      unfold getP at e
      split at e
      · rename_i dj' e2
        obtain ⟨U, r, s⟩ := PathH.rep (c j u dj' hu e2) e h
        exact ⟨U, r, fun x hx => .inr ⟨j, s x hx⟩⟩
      · cases e
    | _ => simp [getP] at e
  | .fl f :: p, v0, v, d0, d, T, r, e, h => by
    obtain ⟨a, C, dx, fs, n, u, rfl, ha, hk, hu, h⟩ := h
    cases r with
    | oi h' ho g g2 l c bd dj na na2 =>
      rw [h'] at ha; cases ha
      unfold getP at e
      rw [← kIdx_keys f l, hk] at e
      dsimp only at e
      split at e
      · rename_i f' dj' e2
        obtain ⟨U, r, s⟩ := PathH.rep (c n f u f' dj' hu e2) e h
        exact ⟨U, r, fun x hx => .inr (.inr ⟨n, s x hx⟩)⟩
      · cases e
    | _ => simp [getP] at e
/-- a value that is held meanwhile -/
def RepA (B : Bd) (G H : Hp) (σ : L2.St) (v : V) : AV → FP → Prop
  | .val d, T => Rep B G H v d T
  | .pl i p, T => (∃ v0, σ[i]? = some (some v0) ∧ PathH H v0 p v) ∧ T = nof
def AV.deep : AV → Bool
  | .pl _ (_ :: _) => true
  | _ => false
theorem RepA.frame {B : Bd} {G H G1 H1 : Hp} {W W1 T : FP} {σ : L2.St} {v : V} {av : AV} (r : RepA B G H σ v av T) (x : Ext G H W G1 H1 W1) (n : ∀ b, T b → ¬ W b) (hd : av.deep = false) : RepA B G1 H1 σ v av T ∧ ∀ b, T b → ¬ W1 b := by
  cases av with
  | val d => exact Rep.frame r x n
  | pl i p =>
    cases p with
    | nil => obtain ⟨⟨v0, e, h⟩, rfl⟩ := r; exact ⟨⟨⟨v0, e, h⟩, rfl⟩, fun _ h => h.elim⟩
    | cons s p => cases hd
theorem RepA.dom {B : Bd} {G H : Hp} {T : FP} {σ : L2.St} {v : V} {av : AV} (r : RepA B G H σ v av T) : ∀ x, T x → (∃ o, H x = some o) ∧ G x = none := by
  cases av with
  | val d => exact Rep.dom r
  | pl i p => obtain ⟨e, rfl⟩ := r; exact fun _ h => h.elim
/-- what it stands for -/
theorem RepA.cont {B : Bd} {G H : Hp} {T : FP} {σ : L2.St} {ρ : DEnv} {F : Nat → FP} {v : V} {av : AV} {d : D} (c : Cfg B G H σ ρ F) (r : RepA B G H σ v av T) (e : cont ρ av = some d) : ∃ U, Rep B G H v d U ∧ ∀ x, U x → T x ∨ avF F av x := by
  cases av with
  | val d' => cases e; exact ⟨T, r, fun x h => .inl h⟩
  | pl i p =>
    obtain ⟨⟨v0, e0, h⟩, rfl⟩ := r
    rw [cont_pl] at e
    cases hs : slotOf ρ i with
    | none => rw [hs] at e; cases e
    | some d0 =>
      rw [hs] at e
      obtain ⟨v', e2, r'⟩ := c.at hs
      rw [e0] at e2
      cases e2
      obtain ⟨U, r, s⟩ := h.rep r' e
      exact ⟨U, r, fun x hx => .inr (s x hx)⟩
/-- several, their own addresses within Wt, apart from one another -/
inductive RepAs (B : Bd) (G H : Hp) (σ : L2.St) : FP → List V → List AV → Prop
  | nil {Wt : FP} : RepAs B G H σ Wt [] []
  | cons {Wt Wu T : FP} {v : V} {a : AV} {vs : List V} {as : List AV} (r : RepA B G H σ v a T) (hT : ∀ x, T x → Wt x) (t : RepAs B G H σ Wu vs as) (hu : ∀ x, Wu x → Wt x) (dj : ∀ x, T x → ¬ Wu x) : RepAs B G H σ Wt (v :: vs) (a :: as)
theorem RepAs.mono {B : Bd} {G H : Hp} {Wt Wu : FP} {σ : L2.St} {vs : List V} {avs : List AV} (h : ∀ b, Wt b → Wu b) (r : RepAs B G H σ Wt vs avs) : RepAs B G H σ Wu vs avs := by
  cases r with
  | nil => exact .nil
  | cons r hT t hu dj => exact .cons r (fun x k => h x (hT x k)) t (fun x k => h x (hu x k)) dj

/-- an error of an own class with its value -/
def ExcAt (B : Bd) (G : Hp) (cls : Value) (dx : Option Addr) (e : D) : Prop := ∃ c dd v d, e = .exc c d ∧ cls = .ref (B.ca c) ∧ dx = some dd ∧ G dd = some (.xd [(("value" : Str), v)]) ∧ Rep B G G v d nof

def endE (B : Bd) (W : WX) (σ : L2.St) (G H : Hp) (W0 : FP) (Q : VK) : Out AV → Prop
  | .ok av ρ' => ∀ v G' H' F' T, Cfg B G' H' σ ρ' F' → RepA B G' H' σ v av T → (∀ x, T x → ¬ un F' x) → Ext G H W0 G' H' (fun x => un F' x ∨ T x) → Q v H'
  | .exc e ρ' => ∀ G' H' F' cls dx, Cfg B G' H' σ ρ' F' → ExcAt B G' cls dx e → Ext G H W0 G' H' (un F') → W cls dx σ H'
def tD (B : Bd) (W : WX) (f : Ev AV) : TE := fun σ H Q => ∃ G ρ F o, Cfg B G H σ ρ F ∧ f ρ = some o ∧ endE B W σ G H (un F) Q o
def endL (B : Bd) (W : WX) (σ : L2.St) (G H : Hp) (W0 : FP) (Q : List V → Hp → Prop) : Out (List AV) → Prop
  | .ok avs ρ' => ∀ vs G' H' F' Wt, Cfg B G' H' σ ρ' F' → RepAs B G' H' σ Wt vs avs → (∀ x, Wt x → ¬ un F' x) → Ext G H W0 G' H' (fun x => un F' x ∨ Wt x) → Q vs H'
  | .exc e ρ' => ∀ G' H' F' cls dx, Cfg B G' H' σ ρ' F' → ExcAt B G' cls dx e → Ext G H W0 G' H' (un F') → W cls dx σ H'
def tDL (B : Bd) (W : WX) (f : Ev (List AV)) : TA := fun σ H Q => ∃ G ρ F o, Cfg B G H σ ρ F ∧ f ρ = some o ∧ endL B W σ G H (un F) Q o

def DE (ca : Nat → Addr) (X : Cx) (e : Expr) (f : Ev AV) : Prop := ∀ W, Takes X W → PE X e (tD ⟨X.K, ca⟩ W f)
def DA (ca : Nat → Addr) (X : Cx) (es : List Expr) (f : Ev (List AV)) : Prop := ∀ W, Takes X W → PA X es (tDL ⟨X.K, ca⟩ W f)

theorem PE.imp {X : Cx} {e : Expr} {t u : TE} (h : PE X e t) (k : ∀ (σ : L2.St) (H : Hp) (Q : VK), u σ H Q → t σ H Q) : PE X e u := ⟨fun pins s σ H Q I q => h.run pins s σ H Q I (k σ H Q q)⟩
theorem PA.imp {X : Cx} {e : List Expr} {t u : TA} (h : PA X e t) (k : ∀ (σ : L2.St) (H : Hp) (Q : List V → Hp → Prop), u σ H Q → t σ H Q) : PA X e u := ⟨fun pos pins s σ H Q I q => h.run pos pins s σ H Q I (k σ H Q q)⟩

def evNil : Ev (List AV) := .pure []
/-- g, while nobody looks at slot i -/
def lockE {α : Type} (i : Nat) (p : List PSt) (g : Ev α) : Ev α := fun ρ => match cont ρ (.pl i p), slotOf ρ i with
  | some _, some d => match g (ρ.set i none) with
    | none => none
    | some (.ok a ρ') => some (.ok a (ρ'.set i (some d)))
    | some (.exc e ρ') => some (.exc e (ρ'.set i (some d)))
  | _, _ => none
section
variable {α : Type} {i : Nat} {p : List PSt} {g : Ev α} {ρ ρ' : DEnv} {d dd : D} {a : α} {e : D}
theorem lockE_none (h : g (ρ.set i none) = none) : lockE i p g ρ = none := by
  unfold lockE
  split
  · rw [h]
  · rfl
theorem lockE_ok (h1 : cont ρ (.pl i p) = some dd) (h2 : slotOf ρ i = some d) (h : g (ρ.set i none) = some (.ok a ρ')) : lockE i p g ρ = some (.ok a (ρ'.set i (some d))) := by
  unfold lockE
  rw [h1, h2]
  dsimp only
  rw [h]
theorem lockE_exc (h1 : cont ρ (.pl i p) = some dd) (h2 : slotOf ρ i = some d) (h : g (ρ.set i none) = some (.exc e ρ')) : lockE i p g ρ = some (.exc e (ρ'.set i (some d))) := by
  unfold lockE
  rw [h1, h2]
  dsimp only
  rw [h]
theorem lockE_no (h1 : cont ρ (.pl i p) = none) : lockE i p g ρ = none := by
  unfold lockE
  rw [h1]
end
def lockA {α : Type} (a : AV) (g : Ev α) : Ev α := match a with
  | .pl i (s :: p) => lockE i (s :: p) g
  | _ => g
def evCons (f : Ev AV) (g : Ev (List AV)) : Ev (List AV) := f.andThen fun a => (lockA a g).andThen fun as => .pure (a :: as)

section
variable {B : Bd} {W : WX} {σ : L2.St} {H : Hp}
/-- a first part, then the rest: the first part's reading, with the rest's -/
theorem tD_bind {f : Ev AV} {β : Type} {k : AV → Ev β} {G : Hp} {ρ : DEnv} {F : Nat → FP} {o : Out β} {Q : VK} (c : Cfg B G H σ ρ F) (e : f.andThen k ρ = some o)
    (hx : ∀ er ρ', o = .exc er ρ' → ∀ G' H' F' cls dx, Cfg B G' H' σ ρ' F' → ExcAt B G' cls dx er → Ext G H (un F) G' H' (un F') → W cls dx σ H')
    (hk : ∀ av ρ1 v G1 H1 F1 T, k av ρ1 = some o → Cfg B G1 H1 σ ρ1 F1 → RepA B G1 H1 σ v av T → (∀ x, T x → ¬ un F1 x) → Ext G H (un F) G1 H1 (fun x => un F1 x ∨ T x) → Q v H1) : tD B W f σ H Q := by
  unfold Ev.andThen at e
  cases hf : f ρ with
  | none => rw [hf] at e; cases e
  | some u =>
    rw [hf] at e
    cases u with
    | exc er ρ' => cases e; exact ⟨G, ρ, F, _, c, hf, fun G' H' F' cls dx c' x' y' => hx er ρ' rfl G' H' F' cls dx c' x' y'⟩
    | ok av ρ1 => exact ⟨G, ρ, F, _, c, hf, fun v G1 H1 F1 T c1 r n x => hk av ρ1 v G1 H1 F1 T e c1 r n x⟩
theorem tD_map {f : Ev AV} {Q Q' : VK} (h : tD B W f σ H Q) (k : ∀ v H', Q v H' → Q' v H') : tD B W f σ H Q' := by
  obtain ⟨G, ρ, F, o, c, e, z⟩ := h
  refine ⟨G, ρ, F, o, c, e, ?_⟩
  cases o with
  | ok av ρ' => exact fun v G' H' F' T c r n x => k _ _ (z v G' H' F' T c r n x)
  | exc er ρ' => exact z
theorem Cfg.drop {G H : Hp} {ρ : DEnv} {F : Nat → FP} (c : Cfg B G H σ ρ F) (i : Nat) : Cfg B G H σ (ρ.set i none) (fun j x => F j x ∧ j ≠ i) := by
  refine ⟨c.sub, by simpa using c.len, fun j d e => ?_, fun j h x hx => ?_, fun j k x a b => c.dis j k x a.1 b.1⟩
  · by_cases hj : j = i
    · subst hj
      have hl : j < (ρ.set j none).length := (List.getElem?_eq_some_iff.mp e).1
      rw [List.getElem?_set_self (by simpa using hl)] at e
      cases e
    · rw [List.getElem?_set_ne (Ne.symm hj)] at e
      obtain ⟨v, e1, r⟩ := c.slot j d e
      have en : (fun x => F j x ∧ j ≠ i) = F j := by funext x; exact propext ⟨fun z => z.1, fun z => ⟨z, hj⟩⟩
      exact ⟨v, e1, by rw [en]; exact r⟩
  · obtain ⟨d, v, e1, e2, r⟩ := c.own hx.1
    exact h d (by rw [List.getElem?_set_ne (Ne.symm hx.2)]; exact e1)
/-- a slot's content is told anew -/
theorem Cfg.put {G H : Hp} {ρ : DEnv} {F : Nat → FP} {v : V} {d : D} {T : FP} (c : Cfg B G H σ ρ F) (i : Nat) (hv : σ[i]? = some (some v)) (r : Rep B G H v d T) (n : ∀ x, T x → ∀ j, F j x → j = i) :
    Cfg B G H σ (ρ.set i (some d)) (fun j x => (j = i ∧ T x) ∨ (j ≠ i ∧ F j x)) := by
  have hi : i < ρ.length := by rw [c.len]; exact (List.getElem?_eq_some_iff.mp hv).1
  refine ⟨c.sub, by simpa using c.len, fun j d' e => ?_, fun j h x hx => ?_, fun j k x a b => ?_⟩
  · by_cases hj : j = i
    · subst hj
      rw [List.getElem?_set_self hi] at e
      cases e
      have en : (fun x => (j = j ∧ T x) ∨ (j ≠ j ∧ F j x)) = T := by funext x; exact propext ⟨fun z => z.elim (·.2) fun z => absurd rfl z.1, fun z => .inl ⟨rfl, z⟩⟩
      exact ⟨v, hv, by rw [en]; exact r⟩
    · rw [List.getElem?_set_ne (Ne.symm hj)] at e
      obtain ⟨v', e1, r'⟩ := c.slot j d' e
      have en : (fun x => (j = i ∧ T x) ∨ (j ≠ i ∧ F j x)) = F j := by funext x; exact propext ⟨fun z => z.elim (fun z => absurd z.1 hj) (·.2), fun z => .inr ⟨hj, z⟩⟩
      exact ⟨v', e1, by rw [en]; exact r'⟩
  · rcases hx with ⟨rfl, hx⟩ | ⟨hj, hx⟩
    · exact h d (List.getElem?_set_self hi)
    · obtain ⟨d', v', e1, e2, r'⟩ := c.own hx
      exact h d' (by rw [List.getElem?_set_ne (Ne.symm hj)]; exact e1)
  · rcases a with ⟨rfl, a⟩ | ⟨ha, a⟩ <;> rcases b with ⟨rfl, b⟩ | ⟨hb, b⟩
    · rfl
    · exact (hb (n x a k b)).elim
    · exact (ha (n x b j a)).elim
    · exact c.dis j k x a b
/-- a list's reading opened -/
theorem tDL_cons {f : Ev AV} {g : Ev (List AV)} {Q : List V → Hp → Prop} (h : tDL B W (evCons f g) σ H Q) : tD B W f σ H fun v H1 => tDL B W g σ H1 fun vs H2 => Q (v :: vs) H2 := by
  obtain ⟨G, ρ, F, o, c, e, z⟩ := h
  refine tD_bind c e (fun er ρ' eo => by subst eo; exact z) fun av ρ1 v G1 H1 F1 T ek c1 r1 n1 x1 => ?_
  have x1' : Ext G H (un F) G1 H1 (un F1) := x1.mono (fun _ h => h) fun _ h => .inl h
  have fin : ∀ {G2 H2 : Hp} {F2 : Nat → FP} {Wt : FP}, Ext G1 H1 (un F1) G2 H2 (fun x => un F2 x ∨ Wt x) → Ext G H (un F) G2 H2 (fun x => un F2 x ∨ Wt x ∨ T x) := fun {G2 H2 F2 Wt} x2 => by
    have x3 := x1'.trans x2
    refine ⟨x3.gg, x3.hh, fun b hb => ?_, x3.gn⟩
    rcases hb with h | h | h
    · exact x3.ww b (.inl h)
    · exact x3.ww b (.inr h)
    · exact x1.ww b (.inr h)
  cases hd : av.deep with
  | false =>
    have hl : lockA av g = g := by
      cases av with
      | val d => rfl
      | pl i p => cases p with
        | nil => rfl
        | cons s p => cases hd
    rw [hl] at ek
    unfold Ev.andThen at ek
    cases hg : g ρ1 with
    | none => rw [hg] at ek; cases ek
    | some u =>
      rw [hg] at ek
      cases u with
      | exc er ρ' =>
        cases ek
        exact ⟨G1, ρ1, F1, _, c1, hg, fun G' H' F' cls dx c' ex x' => z G' H' F' cls dx c' ex (x1'.trans x')⟩
      | ok avs ρ2 =>
        cases ek
        refine ⟨G1, ρ1, F1, _, c1, hg, fun vs G2 H2 F2 Wt c2 r2 n2 x2 => ?_⟩
        have fr := r1.frame x2 n1 hd
        refine z (v :: vs) G2 H2 F2 (fun x => Wt x ∨ T x) c2 (.cons fr.1 (fun x h => .inr h) r2 (fun x h => .inl h) fun x h u => fr.2 x h (.inr u)) (fun x h => ?_) (fin x2)
        rcases h with h | h
        · exact n2 x h
        · exact fun u => fr.2 x h (.inl u)
  | true =>
    cases av with
    | val d => cases hd
    | pl i p =>
      cases p with
      | nil => cases hd
      | cons s p =>
        obtain ⟨⟨v0, e0, hp⟩, rfl⟩ := r1
        have hl : lockA (.pl i (s :: p)) g = lockE i (s :: p) g := rfl
        rw [hl] at ek
        cases hc : cont ρ1 (.pl i (s :: p)) with
        | none => rw [andThen_none (lockE_no hc)] at ek; cases ek
        | some dd =>
          cases hs : slotOf ρ1 i with
          | none => rw [cont_pl, hs] at hc; cases hc
          | some d0 =>
            obtain ⟨v0', e0', r0⟩ := c1.at hs
            rw [e0] at e0'
            cases e0'
            have hgp : getP d0 (s :: p) = some dd := by rw [cont_pl, hs] at hc; exact hc
            have cd := c1.drop i
            have apart : ∀ b, F1 i b → ¬ un (fun j x => F1 j x ∧ j ≠ i) b := fun b hb ⟨j, hj⟩ => hj.2 (c1.dis j i b hj.1 hb)
            have back : ∀ {G2 H2 : Hp} {ρ2 : DEnv} {F2 : Nat → FP} {Wt : FP}, Cfg B G2 H2 σ ρ2 F2 → Ext G1 H1 (un fun j x => F1 j x ∧ j ≠ i) G2 H2 (fun x => un F2 x ∨ Wt x) →
                Cfg B G2 H2 σ (ρ2.set i (some d0)) (fun j x => (j = i ∧ F1 i x) ∨ (j ≠ i ∧ F2 j x)) ∧ Ext G1 H1 (un F1) G2 H2 (fun x => un (fun j x => (j = i ∧ F1 i x) ∨ (j ≠ i ∧ F2 j x)) x ∨ Wt x) ∧ (∀ b, F1 i b → ¬ Wt b) ∧ PathH H2 v0 (s :: p) v := fun {G2 H2 ρ2 F2 Wt} c2 x2 => by
              obtain ⟨r2, n2⟩ := r0.frame x2 apart
              refine ⟨c2.put i e0 r2 fun x hx j hj => (n2 x hx (.inl ⟨j, hj⟩)).elim, ⟨x2.gg, fun b o e w => x2.hh b o e fun ⟨j, hj⟩ => w ⟨j, hj.1⟩, fun b hb => ?_, fun b o e => ?_⟩, fun b hb w => n2 b hb (.inr w), ?_⟩
              · rcases hb with ⟨j, ⟨rfl, hj⟩ | ⟨_, hj⟩⟩ | hb
                · exact .inl ⟨_, hj⟩
                · exact (x2.ww b (.inl ⟨j, hj⟩)).imp (fun ⟨k, hk⟩ => ⟨k, hk.1⟩) id
                · exact (x2.ww b (.inr hb)).imp (fun ⟨k, hk⟩ => ⟨k, hk.1⟩) id
              · exact (x2.gn b o e).imp id fun z => z.imp (fun ⟨k, hk⟩ => ⟨k, hk.1⟩) id
              · refine hp.keep r0 hgp fun b hb => ?_
                obtain ⟨⟨o, eo⟩, _⟩ := r0.dom b hb
                rw [x2.hh b o eo (apart b hb), eo]
            cases hg : g (ρ1.set i none) with
            | none => rw [andThen_none (lockE_none hg)] at ek; cases ek
            | some u =>
              cases u with
              | exc er ρ' =>
                rw [andThen_exc (lockE_exc hc hs hg)] at ek
                cases ek
                refine ⟨G1, _, _, _, cd, hg, fun G' H' F' cls dx c' ex x' => ?_⟩
                obtain ⟨c3, x3, _, _⟩ := back (Wt := nof) c' (x'.mono (fun _ h => h) fun _ h => h.elim id False.elim)
                exact z G' H' _ cls dx c3 ex (x1'.trans (x3.mono (fun _ h => h) fun _ h => .inl h))
              | ok avs ρ2 =>
                rw [andThen_ok (lockE_ok hc hs hg)] at ek
                cases ek
                refine ⟨G1, _, _, _, cd, hg, fun vs G2 H2 F2 Wt c2 r2 n2 x2 => ?_⟩
                obtain ⟨c3, x3, n3, p3⟩ := back c2 x2
                refine z (v :: vs) G2 H2 _ (fun x => Wt x ∨ nof x) c3 (.cons ⟨⟨v0, e0, p3⟩, rfl⟩ (fun x h => .inr h) r2 (fun x h => .inl h) fun x h => h.elim) (fun x h => ?_) (fin x3)
                rcases h with h | h
                · rintro ⟨j, ⟨rfl, hj⟩ | ⟨_, hj⟩⟩
                  · exact n3 x hj h
                  · exact n2 x h ⟨j, hj⟩
                · exact h.elim
theorem tDL_nil {Q : List V → Hp → Prop} (h : tDL B W evNil σ H Q) : Q [] H := by
  obtain ⟨G, ρ, F, o, c, e, z⟩ := h
  cases e
  exact z [] G H F nof c .nil (fun _ h => h.elim) (.refl fun x h => h.elim id False.elim)
end
section
variable {ca : Nat → Addr} {X : Cx} {e : Expr} {es : List Expr} {f : Ev AV} {g : Ev (List AV)}
theorem da_nil : DA ca X [] evNil := fun W tk => PA.imp pa_nil fun σ H Q h => tDL_nil h
theorem da_cons (he : DE ca X e f) (hs : DA ca X es g) (hst : starEach (e :: es) X.env = (false, eval e X.env) :: starEach es X.env := by rfl) : DA ca X (e :: es) (evCons f g) :=
  fun W tk => PA.imp (pa_cons (he W tk) (hs W tk) hst) fun σ H Q h => tDL_cons h
/-- a plain value, nothing made -/
def evC (d : D) : Ev AV := .pure (.val d)
theorem de_const {v : V} {d : D} (h : PE X e (tC v)) (r : ∀ G H, Rep ⟨X.K, ca⟩ G H v d nof) : DE ca X e (evC d) := fun W tk => PE.imp h fun σ H Q q => by
  obtain ⟨G, ρ, F, o, c, e, z⟩ := q
  cases e
  exact z v G H F nof c (r G H) (fun _ h => h.elim) (.refl fun x h => h.elim id False.elim)
theorem de_int {i j pos} : DE ca X (.Constant (.int i) j pos) (evC (.int i)) := de_const pe_int fun _ _ => .int i
theorem de_bl {i j pos} : DE ca X (.Constant (.bool i) j pos) (evC (.bl i)) := de_const pe_bl fun _ _ => .bl i
theorem de_non {j pos} : DE ca X (.Constant .none j pos) (evC .non) := de_const pe_non fun _ _ => .non
theorem de_str {x j pos} : DE ca X (.Constant (.str x) j pos) (evC (.str x)) := de_const pe_str fun _ _ => .str x
/-- a name of the def -/
def evV (i : Nat) : Ev AV := fun ρ => match slotOf ρ i with
  | none => none
  | some d => if d.sh then some (.ok (.val d) ρ) else some (.ok (.pl i []) ρ)
theorem de_var {i : Nat} (h : PE X e (tVar i)) : DE ca X e (evV i) := fun W tk => PE.imp h fun σ H Q q => by
  obtain ⟨G, ρ, F, o, c, e, z⟩ := q
  unfold evV at e
  cases hs : slotOf ρ i with
  | none => rw [hs] at e; cases e
  | some d =>
    rw [hs] at e
    obtain ⟨v, e1, r⟩ := c.at hs
    refine ⟨v, e1, ?_⟩
    dsimp only at e
    split at e
    · rename_i hsh
      cases e
      have t := r.sh_nof hsh
      rw [t] at r
      exact z v G H F nof c r (fun _ h => h.elim) (.refl fun x h => h.elim id False.elim)
    · cases e
      exact z v G H F nof c ⟨⟨v, e1, rfl⟩, rfl⟩ (fun _ h => h.elim) (.refl fun x h => h.elim id False.elim)
end
end DL

namespace DL
open PySem PySem.Spec PyProof.Rows L2

/-! ### operations by values: from contents to a value -/
def conts (ρ : DEnv) : List AV → Option (List D)
  | [] => some []
  | a :: as => match cont ρ a, conts ρ as with
    | some d, some ds => some (d :: ds)
    | _, _ => none
def evOp (g : List D → Option D) (fs : Ev (List AV)) : Ev AV := fs.andThen fun avs ρ => match conts ρ avs with
  | none => none
  | some ds => match g ds with
    | none => none
    | some d => some (.ok (.val d) ρ)
abbrev Reps (B : Bd) (G H : Hp) : List V → List D → Prop := Paired fun x d => ∃ T, Rep B G H x d T
/-- what is asked of an operation by contents: its answer may be new, nothing else is changed -/
def rDL (B : Bd) (g : List D → Option D) : List V → Hp → VK → Prop := fun xs H Q => ∃ G ds d, (∀ b o, G b = some o → H b = some o) ∧ Reps B G H xs ds ∧ g ds = some d ∧
  ∀ v G' H' T, (∀ b o, G' b = some o → H' b = some o) → Rep B G' H' v d T → Ext G H nof G' H' T → Q v H'
section
variable {B : Bd} {W : WX} {σ : L2.St} {H : Hp}
theorem reps_of {G H : Hp} {σ : L2.St} {ρ : DEnv} {F : Nat → FP} {Wt : FP} (c : Cfg B G H σ ρ F) : ∀ {vs : List V} {avs : List AV} {ds : List D}, RepAs B G H σ Wt vs avs → conts ρ avs = some ds → Reps B G H vs ds
  | _, _, _, .nil, e => by cases e; exact .nil
  | v :: vs, a :: as, ds, .cons (T := T) r _ t _ _, e => by
    unfold conts at e
    cases h1 : cont ρ a with
    | none => rw [h1] at e; cases e
    | some d =>
      cases h2 : conts ρ as with
      | none => rw [h1, h2] at e; cases e
      | some ds' =>
        rw [h1, h2] at e
        cases e
        obtain ⟨U, r', _⟩ := r.cont c h1
        exact .cons ⟨U, r'⟩ (reps_of c t h2)
/-- the list's step, then what follows it -/
theorem tDL_bind {β : Type} {f : Ev (List AV)} {k : List AV → Ev β} {G : Hp} {ρ : DEnv} {F : Nat → FP} {o : Out β} {Q : List V → Hp → Prop} (c : Cfg B G H σ ρ F) (e : f.andThen k ρ = some o)
    (hx : ∀ er ρ', o = .exc er ρ' → ∀ G' H' F' cls dx, Cfg B G' H' σ ρ' F' → ExcAt B G' cls dx er → Ext G H (un F) G' H' (un F') → W cls dx σ H')
    (hk : ∀ avs ρ1 vs G1 H1 F1 Wt, k avs ρ1 = some o → Cfg B G1 H1 σ ρ1 F1 → RepAs B G1 H1 σ Wt vs avs → (∀ x, Wt x → ¬ un F1 x) → Ext G H (un F) G1 H1 (fun x => un F1 x ∨ Wt x) → Q vs H1) : tDL B W f σ H Q := by
  unfold Ev.andThen at e
  cases hf : f ρ with
  | none => rw [hf] at e; cases e
  | some u =>
    rw [hf] at e
    cases u with
    | exc er ρ' => cases e; exact ⟨G, ρ, F, _, c, hf, fun G' H' F' cls dx c' x' y' => hx er ρ' rfl G' H' F' cls dx c' x' y'⟩
    | ok av ρ1 => exact ⟨G, ρ, F, _, c, hf, fun v G1 H1 F1 T c1 r n x => hk av ρ1 v G1 H1 F1 T e c1 r n x⟩
theorem Cfg.new {G H G' H' : Hp} {ρ : DEnv} {F : Nat → FP} {T : FP} (c : Cfg B G H σ ρ F) (x : Ext G H nof G' H' T) : ∀ y, T y → ¬ un F y := fun y t u => by
  obtain ⟨⟨o, e⟩, _⟩ := c.dom u
  rcases x.ww y t with z | z
  · exact z
  · rw [e] at z; cases z
/-- behind a step of this def something is made -/
theorem Ext.more {G H G1 H1 G2 H2 : Hp} {W W1 W2 : FP} (a : Ext G H W G1 H1 W1) (b : Ext G1 H1 nof G2 H2 W2) : Ext G H W G2 H2 (fun x => W1 x ∨ W2 x) :=
  a.trans ⟨b.gg, fun x o e _ => b.hh x o e id, fun x h => h.elim .inl fun h => (b.ww x h).elim False.elim .inr, fun x o e => (b.gn x o e).imp id fun z => z.elim False.elim .inr⟩
theorem tD_op {g : List D → Option D} {fs : Ev (List AV)} {Q : VK} (h : tD B W (evOp g fs) σ H Q) : tDL B W fs σ H fun vs H1 => rDL B g vs H1 Q := by
  obtain ⟨G, ρ, F, o, c, e, z⟩ := h
  refine tDL_bind c e (fun er ρ' eo => by subst eo; exact z) fun avs ρ1 vs G1 H1 F1 Wt ek c1 r1 n1 x1 => ?_
  cases h1 : conts ρ1 avs with
  | none => rw [h1] at ek; cases ek
  | some ds =>
    rw [h1] at ek
    dsimp only at ek
    cases h2 : g ds with
    | none => rw [h2] at ek; cases ek
    | some d =>
      rw [h2] at ek
      cases ek
      refine ⟨G1, ds, d, c1.sub, reps_of c1 r1 h1, h2, fun v G' H' T s r x => ?_⟩
      have x1' : Ext G H (un F) G1 H1 (un F1) := x1.mono (fun _ h => h) fun _ h => .inl h
      exact z v G' H' F1 T (c1.grow x s) r (c1.new x) (x1'.more x)
end
section
variable {ca : Nat → Addr} {X : Cx} {a b c : Expr} {fa fb fc : Ev AV} {pos : Pos}
abbrev ev1 (g : List D → Option D) (fa : Ev AV) : Ev AV := evOp g (evCons fa evNil)
abbrev ev2 (g : List D → Option D) (fa fb : Ev AV) : Ev AV := evOp g (evCons fa (evCons fb evNil))
theorem tD_op1 {B : Bd} {W : WX} {σ : L2.St} {H : Hp} {g : List D → Option D} {Q : VK} (h : tD B W (ev1 g fa) σ H Q) : tD B W fa σ H fun x H1 => rDL B g [x] H1 Q :=
  tD_map (tDL_cons (tD_op h)) fun _ _ q => tDL_nil q
theorem tD_op2 {B : Bd} {W : WX} {σ : L2.St} {H : Hp} {g : List D → Option D} {Q : VK} (h : tD B W (ev2 g fa fb) σ H Q) : tD B W fa σ H fun x H1 => tD B W fb σ H1 fun y H2 => rDL B g [x, y] H2 Q :=
  tD_map (tDL_cons (tD_op h)) fun _ _ q => tD_map (tDL_cons q) fun _ _ q => tDL_nil q
/-- g tells the operation -/
def Op2 (ca : Nat → Addr) (X : Cx) (f : Value → Value → Sem Value) (g : List D → Option D) : Prop := OpR X f fun x y H Q => rDL ⟨X.K, ca⟩ g [x, y] H Q
def Op1 (ca : Nat → Addr) (X : Cx) (f : Value → Sem Value) (g : List D → Option D) : Prop := UnR X f fun x H Q => rDL ⟨X.K, ca⟩ g [x] H Q
theorem de_bin {op : Operator} {g : List D → Option D} (ho : Op2 ca X (binaryOp op) g) (ha : DE ca X a fa) (hb : DE ca X b fb) : DE ca X (.BinOp a op b pos) (ev2 g fa fb) :=
  fun W tk => PE.imp (pe_op ho (ha W tk) (hb W tk)) fun σ H Q h => tD_op2 h
theorem de_un {op : UnaryOp} {g : List D → Option D} (ho : Op1 ca X (unaryOp op) g) (ha : DE ca X a fa) : DE ca X (.UnaryOp op a pos) (ev1 g fa) :=
  fun W tk => PE.imp (pe_un ho (ha W tk)) fun σ H Q h => tD_op1 h
theorem de_cmp {op : CmpOp} {g : List D → Option D} (ho : Op2 ca X (compareOp op) g) (ha : DE ca X a fa) (hb : DE ca X b fb) (hm : behindInMarks op b = false) : DE ca X (.Compare a [op] [b] pos) (ev2 g fa fb) :=
  fun W tk => PE.imp (pe_cmpR ho (ha W tk) (hb W tk) hm) fun σ H Q h => tD_op2 h
end

/-! ### the operations -/
section
variable {B : Bd} {g : List D → Option D} {xs : List V} {H : Hp} {Q : VK} {G : Hp} {d : D}
/-- an answer that is nothing new -/
theorem rDL_end {v : V} (k : ∀ v G' H' T, (∀ b o, G' b = some o → H' b = some o) → Rep B G' H' v d T → Ext G H nof G' H' T → Q v H') (s : ∀ b o, G b = some o → H b = some o) (r : Rep B G H v d nof) : Q v H :=
  k v G H nof s r (.refl fun _ h => h)
/-- a new tuple, frozen -/
theorem ext_new {p : Addr} {o : HO} (hp : H p = none) (s : ∀ b o, G b = some o → H b = some o) : Ext G H nof (upd G p o) (upd H p o) nof := by
  have gp : G p = none := by
    cases q : G p with
    | none => rfl
    | some u => rw [s _ _ q] at hp; cases hp
  refine ⟨fun b u e => ?_, fun b u e _ => ?_, fun b h => h.elim, fun b u e => ?_⟩
  · rw [upd_ne (ne_of_none e gp)]; exact e
  · rw [upd_ne (ne_of_none e hp)]; exact e
  · by_cases h : b = p
    · subst h; exact .inr (.inr hp)
    · rw [upd_ne h] at e; exact .inl e
theorem sub_new {p : Addr} {o : HO} (hp : H p = none) (s : ∀ b o, G b = some o → H b = some o) : ∀ b u, upd G p o b = some u → upd H p o b = some u := fun b u e => by
  by_cases h : b = p
  · subst h; rw [upd_same] at e ⊢; exact e
  · rw [upd_ne h] at e ⊢; exact s b u e
/-- something new, not frozen -/
theorem ext_own {p : Addr} {o : HO} (hp : H p = none) : Ext G H nof G (upd H p o) (fun x => x = p) := by
  refine ⟨fun b u e => e, fun b u e _ => ?_, fun b h => .inr (by rw [show b = p from h]; exact hp), fun b u e => .inl e⟩
  rw [upd_ne (ne_of_none e hp)]; exact e
theorem sub_own {p : Addr} {o : HO} (hp : H p = none) (s : ∀ b o, G b = some o → H b = some o) : ∀ b u, G b = some u → upd H p o b = some u := fun b u e => by
  rw [upd_ne (ne_of_none (s b u e) hp)]; exact s b u e
/-- frozen parts stand for what they stood for -/
theorem Rep.up {v : V} (r : Rep B G H v d nof) {p : Addr} {o : HO} : Rep B G (upd H p o) v d nof := r.keep (fun _ _ e => e) fun _ h => h.elim
theorem Rep.any {H' : Hp} {v : V} (r : Rep B G H v d nof) : Rep B G H' v d nof := r.keep (fun _ _ e => e) fun _ h => h.elim
/-- a new list of frozen things, own -/
theorem rep_ol {p : Addr} {vs : List V} {ds : List D} (g : G p = none) (h : H p = some (.lst vs)) (l : vs.length = ds.length) (c : ∀ (i : Nat) v d, vs[i]? = some v → ds[i]? = some d → Rep B G H v d nof) : Rep B G H (.ref p) (.ol ds) (fun x => x = p) := by
  have r := Rep.ol (B := B) (F := fun _ => nof) h g l c (fun _ _ z => z.elim) (fun _ _ _ z => z.elim) (fun _ z => z)
  have e : (fun x => x = p ∨ ∃ i : Nat, nof x) = fun x => x = p := by
    funext x
    exact propext ⟨fun z => z.elim id fun ⟨_, z⟩ => z.elim, .inl⟩
  rw [e] at r
  exact r
theorem Reps.one {x : V} {ds : List D} {G H : Hp} (h : Reps B G H [x] ds) : ∃ d T, ds = [d] ∧ Rep B G H x d T := by
  cases h with
  | cons a t => cases t; obtain ⟨T, r⟩ := a; exact ⟨_, T, rfl, r⟩
theorem Reps.two {x y : V} {ds : List D} {G H : Hp} (h : Reps B G H [x, y] ds) : ∃ d T e U, ds = [d, e] ∧ Rep B G H x d T ∧ Rep B G H y e U := by
  cases h with
  | cons a t => cases t with
    | cons b t => cases t; obtain ⟨T, r⟩ := a; obtain ⟨U, q⟩ := b; exact ⟨_, T, _, U, rfl, r, q⟩
end

/-- items of a list (own, frozen), of a tuple -/
def seqD : D → Option (List D)
  | .lst xs => some xs | .frl xs => some xs | .ol xs => some xs | .tup xs => some xs
  | _ => none
def lstD : D → Option (List D)
  | .lst xs => some xs | .ol xs => some xs
  | _ => none
section
variable {B : Bd} {G H : Hp} {v : V} {d : D} {T : FP}
theorem Rep.seq (r : Rep B G H v d T) (s : ∀ b o, G b = some o → H b = some o) {ds : List D} (h : seqD d = some ds) : ∃ a vs, v = .ref a ∧ (SqL B.K H a vs ∨ SqT B.K H a vs) ∧ vs.length = ds.length ∧
    ∀ (i : Nat) v d, vs[i]? = some v → ds[i]? = some d → ∃ U, Rep B G H v d U := by
  cases r with
  | lst h' l c => cases h; exact ⟨_, _, rfl, .inl (.of (s _ _ h')), l, fun i v d e1 e2 => ⟨_, c i v d e1 e2⟩⟩
  | frl h' l c => cases h; exact ⟨_, _, rfl, .inl (sqL_mono h' s), l, fun i v d e1 e2 => ⟨_, c i v d e1 e2⟩⟩
  | tup h' l c => cases h; exact ⟨_, _, rfl, .inr (sqT_mono h' s), l, fun i v d e1 e2 => ⟨_, c i v d e1 e2⟩⟩
  | ol h' g l c bd dj na => cases h; exact ⟨_, _, rfl, .inl (.of h'), l, fun i v d e1 e2 => ⟨_, c i v d e1 e2⟩⟩
  | _ => cases h
theorem Rep.lst_of (r : Rep B G H v d T) (s : ∀ b o, G b = some o → H b = some o) {ds : List D} (h : lstD d = some ds) : ∃ a vs, v = .ref a ∧ H a = some (.lst vs) ∧ vs.length = ds.length ∧
    ∀ (i : Nat) v d, vs[i]? = some v → ds[i]? = some d → ∃ U, Rep B G H v d U := by
  cases r with
  | lst h' l c => cases h; exact ⟨_, _, rfl, s _ _ h', l, fun i v d e1 e2 => ⟨_, c i v d e1 e2⟩⟩
  | ol h' g l c bd dj na => cases h; exact ⟨_, _, rfl, h', l, fun i v d e1 e2 => ⟨_, c i v d e1 e2⟩⟩
  | _ => cases h
theorem rep_sh {U : FP} (r : Rep B G H v d U) (h : d.sh = true) : Rep B G H v d nof := by
  have := r.sh_nof h
  rw [← this]; exact r
end
def allSh (ds : List D) : Bool := ds.all D.sh
theorem allSh_get {ds : List D} (h : allSh ds = true) {i : Nat} {d : D} (e : ds[i]? = some d) : d.sh = true := List.all_eq_true.mp h d (List.mem_of_getElem? e)

/-! ints -/
def lg (i : Int) : Nat := i.natAbs.log2
def gAdd : List D → Option D
  | [.int i, .int j] => some (.int (i + j))
  | [.str a, .str b] => if a.length + b.length ≤ 16777216 then some (.str (a ++ b)) else none
  | [x, y] => match lstD x, lstD y with
    | some xs, some ys => if allSh xs = true ∧ allSh ys = true ∧ xs.length + ys.length ≤ 16777216 then some (.ol (xs ++ ys)) else none
    | _, _ => none
  | _ => none
def gSub : List D → Option D
  | [.int i, .int j] => some (.int (i - j))
  | _ => none
def gMul : List D → Option D
  | [.int i, .int j] => if lg i + lg j < 1000000 then some (.int (i * j)) else none
  | [x, .int k] => match lstD x with
    | some xs => if allSh xs = true ∧ k < 2 ^ 63 ∧ -(2 ^ 63) ≤ k ∧ xs.length * k.toNat ≤ 16777216 then some (.ol (List.replicate k.toNat xs).flatten) else none
    | none => none
  | _ => none
def gDiv : List D → Option D
  | [.int i, .int j] => if j ≠ 0 ∧ lg j < 9000 then some (.int (i.fdiv j)) else none
  | _ => none
def gMod : List D → Option D
  | [.int i, .int j] => if j ≠ 0 then some (.int (i.fmod j)) else none
  | _ => none
def gPow : List D → Option D
  | [.int i, .int j] => if 0 ≤ j ∧ (Builtin.Int.intBits i : Int) * j ≤ 2 ^ 27 then some (.int (i ^ j.toNat)) else none
  | _ => none
def gNeg : List D → Option D
  | [.int i] => some (.int (-i))
  | _ => none
section
variable {ca : Nat → Addr} {X : Cx}
/-- ints by a rule -/
theorem op2_int {f : Value → Value → Sem Value} {g : List D → Option D} {C : Int → Int → Prop} {k : Int → Int → D} (kv : Int → Int → V) (hk : ∀ B G H i j, Rep B G H (kv i j) (k i j) nof) (ho : OpR X f (rI C kv)) (hg : ∀ ds d, g ds = some d → ∃ i j, ds = [.int i, .int j] ∧ C i j ∧ d = k i j) : Op2 ca X f g := by
  intro pins s σ H x y v u Q I rx ry h
  obtain ⟨G, ds, d, sub, rs, e, q⟩ := h
  obtain ⟨i, j, rfl, hc, rfl⟩ := hg _ _ e
  obtain ⟨d1, T1, e1, U1, ed, r1, r2⟩ := rs.two
  cases ed
  cases r1; cases r2
  exact ho pins s σ H _ _ v u Q I rx ry ⟨i, j, rfl, rfl, hc, rDL_end q sub (hk _ _ _ _ _)⟩
theorem op2_int0 {f : Value → Value → Sem Value} {g : List D → Option D} {k : Int → Int → D} (kv : Int → Int → V) (hk : ∀ B G H i j, Rep B G H (kv i j) (k i j) nof) (ho : OpR X f (rI0 kv)) (hg : ∀ ds d, g ds = some d → ∃ i j, ds = [.int i, .int j] ∧ d = k i j) : Op2 ca X f g :=
  op2_int (C := fun _ _ => True) kv hk (fun pins s σ H x y v u Q I rx ry ⟨i, j, e1, e2, _, q⟩ => ho pins s σ H x y v u Q I rx ry ⟨i, j, e1, e2, q⟩) fun ds d e => by
    obtain ⟨i, j, e1, e2⟩ := hg ds d e
    exact ⟨i, j, e1, trivial, e2⟩
theorem opD_sub : Op2 ca X (binaryOp .Sub) gSub := op2_int0 (fun i j => .int (i - j)) (fun _ _ _ _ _ => .int _) op_sub fun ds d e => by
  unfold gSub at e
  split at e
  · cases e; exact ⟨_, _, rfl, rfl⟩
  · cases e
theorem op_fdivA : OpR X (binaryOp .FloorDiv) (rI (fun _ j => j ≠ 0 ∧ lg j < 9000) fun i j => .int (i.fdiv j)) := opI fun _ _ _ _ _ _ _ hc q => floordiv_int hc.1 q (.inl (PyProof.noPylong_of_log2 hc.2))
theorem op_powA : OpR X (binaryOp .Pow) (rI (fun i j => 0 ≤ j ∧ (Builtin.Int.intBits i : Int) * j ≤ 2 ^ 27) fun i j => .int (i ^ j.toNat)) := opI fun _ _ _ _ _ _ _ hc q => pow_int hc.1 hc.2 q
theorem opD_div : Op2 ca X (binaryOp .FloorDiv) gDiv := op2_int (fun i j => .int (i.fdiv j)) (fun _ _ _ _ _ => .int _) op_fdivA fun ds d e => by
  unfold gDiv at e
  split at e
  · split at e
    · rename_i h; cases e; exact ⟨_, _, rfl, h, rfl⟩
    · cases e
  · cases e
theorem opD_mod : Op2 ca X (binaryOp .Mod) gMod := op2_int (fun i j => .int (i.fmod j)) (fun _ _ _ _ _ => .int _) op_modN fun ds d e => by
  unfold gMod at e
  split at e
  · split at e
    · rename_i h; cases e; exact ⟨_, _, rfl, h, rfl⟩
    · cases e
  · cases e
theorem opD_pow : Op2 ca X (binaryOp .Pow) gPow := op2_int (fun i j => .int (i ^ j.toNat)) (fun _ _ _ _ _ => .int _) op_powA fun ds d e => by
  unfold gPow at e
  split at e
  · split at e
    · rename_i h; cases e; exact ⟨_, _, rfl, h, rfl⟩
    · cases e
  · cases e
theorem opD_neg : Op1 ca X (unaryOp .USub) gNeg := by
  intro pins s σ H x v Q I rx h
  obtain ⟨G, ds, d, sub, rs, e, q⟩ := h
  obtain ⟨d1, T1, rfl, r1⟩ := rs.one
  unfold gNeg at e
  split at e
  · rename_i i heq
    cases heq
    cases e
    cases r1
    exact un_neg pins s σ H _ v Q I rx ⟨i, rfl, rDL_end q sub (.int _)⟩
  · cases e
/-- a list's items, put one behind the other -/
theorem get_append {α : Type} {xs ys : List α} {i : Nat} {z : α} (h : (xs ++ ys)[i]? = some z) : (i < xs.length ∧ xs[i]? = some z) ∨ (xs.length ≤ i ∧ ys[i - xs.length]? = some z) := by
  by_cases hi : i < xs.length
  · rw [List.getElem?_append_left hi] at h; exact .inl ⟨hi, h⟩
  · rw [List.getElem?_append_right (by omega)] at h; exact .inr ⟨by omega, h⟩
theorem opD_add : Op2 ca X (binaryOp .Add) gAdd := by
  intro pins s σ H x y v u Q I rx ry h
  obtain ⟨G, ds, d, sub, rs, e, q⟩ := h
  obtain ⟨d1, T1, d2, T2, rfl, r1, r2⟩ := rs.two
  unfold gAdd at e
  split at e
  · rename_i i j heq
    cases heq; cases e; cases r1; cases r2
    exact op_add pins s σ H _ _ v u Q I rx ry ⟨i, j, rfl, rfl, rDL_end q sub (.int _)⟩
  · rename_i i j heq
    cases heq; cases r1; cases r2
    split at e
    · rename_i hz
      cases e
      exact op_add_str pins s σ H _ _ v u Q I rx ry ⟨i, j, rfl, rfl, by rw [sizeLine_eq]; exact hz, rDL_end q sub (.str _)⟩
    · cases e
  · rename_i x' y' _ _ heq
    cases heq
    split at e
    · rename_i xs ys h1 h2
      split at e
      · rename_i hz
        obtain ⟨s1, s2, hz⟩ := hz
        cases e
        obtain ⟨a1, vs1, rfl, k1, l1, c1⟩ := r1.lst_of sub h1
        obtain ⟨a2, vs2, rfl, k2, l2, c2⟩ := r2.lst_of sub h2
        refine op_cat pins s σ H _ _ v u Q I rx ry ⟨a1, a2, vs1, vs2, rfl, rfl, k1, k2, by rw [sizeLine_eq]; omega, fun p hp => ?_⟩
        have gp : G p = none := by
          cases z : G p with
          | none => rfl
          | some o => rw [sub _ _ z] at hp; cases hp
        refine q _ G _ _ (sub_own hp sub) (rep_ol (vs := vs1 ++ vs2) gp upd_same (by simp [l1, l2]) fun i v d e1 e2 => ?_) (ext_own hp)
        rcases get_append e1 with ⟨hi, e1⟩ | ⟨hi, e1⟩
        · rw [List.getElem?_append_left (by omega)] at e2
          obtain ⟨U, r⟩ := c1 i v d e1 e2
          exact (rep_sh r (allSh_get s1 e2)).up
        · rw [List.getElem?_append_right (by omega), ← l1] at e2
          obtain ⟨U, r⟩ := c2 _ v d e1 e2
          exact (rep_sh r (allSh_get s2 e2)).up
      · cases e
    · cases e
  · cases e
theorem rep_pair {P : V → D → Prop} {vs : List V} {ds : List D} (l : vs.length = ds.length) (c : ∀ (i : Nat) v d, vs[i]? = some v → ds[i]? = some d → P v d) :
    ∀ (n i : Nat) v d, (List.replicate n vs).flatten[i]? = some v → (List.replicate n ds).flatten[i]? = some d → P v d
  | 0, i, v, d, h, _ => by simp at h
  | n + 1, i, v, d, h, h' => by
    rw [List.replicate_succ, List.flatten_cons] at h h'
    rcases get_append h with ⟨hi, e⟩ | ⟨hi, e⟩
    · rw [List.getElem?_append_left (by omega)] at h'
      exact c i v d e h'
    · rw [List.getElem?_append_right (by omega), ← l] at h'
      exact rep_pair l c n _ v d e h'
theorem opD_mul : Op2 ca X (binaryOp .Mult) gMul := by
  intro pins s σ H x y v u Q I rx ry h
  obtain ⟨G, ds, d, sub, rs, e, q⟩ := h
  obtain ⟨d1, T1, d2, T2, rfl, r1, r2⟩ := rs.two
  unfold gMul at e
  split at e
  · rename_i i j heq
    cases heq; cases r1; cases r2
    split at e
    · rename_i hc
      cases e
      exact op_mulW pins s σ H _ _ v u Q I rx ry ⟨i, j, rfl, rfl, hc, rDL_end q sub (.int _)⟩
    · cases e
  · rename_i x' k _ heq
    cases heq
    split at e
    · rename_i xs h1
      split at e
      · rename_i hz
        obtain ⟨s1, k2, k1, hz⟩ := hz
        cases e
        cases r2
        obtain ⟨a1, vs1, rfl, ha, l1, c1⟩ := r1.lst_of sub h1
        refine op_rep pins s σ H _ _ v u Q I rx ry ⟨a1, k, vs1, rfl, rfl, ha, k1, k2, by rw [sizeLine_eq, l1]; omega, fun p hp => ?_⟩
        have gp : G p = none := by
          cases z : G p with
          | none => rfl
          | some o => rw [sub _ _ z] at hp; cases hp
        refine q _ G _ _ (sub_own hp sub) (rep_ol gp upd_same (by simp [l1]) fun i v d e1 e2 => ?_) (ext_own hp)
        have fin := rep_pair (P := fun v d => ∃ U, Rep ⟨X.K, ca⟩ G H v d U) l1 c1 _ i v d e1 e2
        obtain ⟨U, r⟩ := fin
        have hs : d.sh = true := by
          have hm := List.mem_of_getElem? e2
          obtain ⟨l, hl, hd⟩ := List.mem_flatten.mp hm
          rw [List.eq_of_mem_replicate hl] at hd
          exact List.all_eq_true.mp s1 d hd
        exact (rep_sh r hs).up
      · cases e
    · cases e
  · cases e
end
end DL

namespace DL
open PySem PySem.Spec PyProof.Rows L2

/-! ### equality -/
def eqS : D → D → Option Bool
  | .non, .non => some true
  | .int i, .int j => some (decide (i = j))
  | .bl a, .bl b => some (decide (a = b))
  | .str a, .str b => some (decide (a = b))
  | .non, .int _ => some false | .int _, .non => some false | .non, .bl _ => some false | .bl _, .non => some false
  | .non, .str _ => some false | .str _, .non => some false | .int _, .str _ => some false | .str _, .int _ => some false
  | .bl _, .str _ => some false | .str _, .bl _ => some false
  | _, _ => none
mutual
def pyd : D → Option PyData
  | .non => some .none
  | .bl b => some (.bool b)
  | .int i => some (.int i)
  | .str x => some (.str x)
  | .tup xs => match pydL xs with | some ys => some (.tuple ys) | none => none
  | .lst xs => match pydL xs with | some ys => some (.list ys) | none => none
  | .frl xs => match pydL xs with | some ys => some (.list ys) | none => none
  | .ol xs => match pydL xs with | some ys => some (.list ys) | none => none
  | _ => none
def pydL : List D → Option (List PyData)
  | [] => some []
  | d :: ds => match pyd d, pydL ds with
    | some y, some ys => some (y :: ys)
    | _, _ => none
end
def eqD (x y : D) : Option Bool := match eqS x y with
  | some b => some b
  | none => match pyd x, pyd y with
    | some p, some q => if SeqAt.shaped p = true ∧ SeqAt.shaped q = true then some (PyData.eqv p q) else none
    | _, _ => none
def gEq : List D → Option D
  | [x, y] => (eqD x y).map .bl
  | _ => none
def gNe : List D → Option D
  | [x, y] => (eqD x y).map fun b => .bl (!b)
  | _ => none
section
variable {B : Bd} {G H : Hp} {v : V} {d : D} {T : FP}
theorem dpAll_of {K : PySem.W.Frag} {vs : List V} : ∀ {ds : List D} {ps : List PyData}, vs.length = ds.length → pydL ds = some ps → (∀ (i : Nat) v d p, vs[i]? = some v → ds[i]? = some d → pyd d = some p → Dp K H v p) → DpAll K H vs ps := by
  induction vs with
  | nil =>
    intro ds ps l e c
    cases ds with
    | nil => cases e; exact .nil
    | cons d ds => cases l
  | cons v vs ih =>
    intro ds ps l e c
    cases ds with
    | nil => cases l
    | cons d ds =>
      unfold pydL at e
      cases h1 : pyd d with
      | none => rw [h1] at e; cases e
      | some p =>
        cases h2 : pydL ds with
        | none => rw [h1, h2] at e; cases e
        | some qs =>
          rw [h1, h2] at e
          cases e
          exact .cons (c 0 v d p rfl rfl h1) (ih (by simpa using l) h2 fun i v d p e1 e2 => c (i + 1) v d p (by simpa using e1) (by simpa using e2))
theorem Rep.dp (r : Rep B G H v d T) (s : ∀ b o, G b = some o → H b = some o) : ∀ {p : PyData}, pyd d = some p → Dp B.K H v p := by
  induction r with
  | non => intro p e; cases e; exact .non
  | bl b => intro p e; cases e; exact .bl b
  | int b => intro p e; cases e; exact .int b
  | str b => intro p e; cases e; exact .str b
  | tup h l c ih =>
    intro p e
    unfold pyd at e
    split at e
    · rename_i ys h1; cases e; exact .tup (sqT_mono h s) (dpAll_of l h1 fun i v d p e1 e2 e3 => ih i v d e1 e2 e3)
    · cases e
  | lst h l c ih =>
    intro p e
    unfold pyd at e
    split at e
    · rename_i ys h1; cases e; exact .lst (.of (s _ _ h)) (dpAll_of l h1 fun i v d p e1 e2 e3 => ih i v d e1 e2 e3)
    · cases e
  | frl h l c ih =>
    intro p e
    unfold pyd at e
    split at e
    · rename_i ys h1; cases e; exact .lst (sqL_mono h s) (dpAll_of l h1 fun i v d p e1 e2 e3 => ih i v d e1 e2 e3)
    · cases e
  | ol h g l c bd dj na ih =>
    intro p e
    unfold pyd at e
    split at e
    · rename_i ys h1; cases e; exact .lst (.of h) (dpAll_of l h1 fun i v d p e1 e2 e3 => ih i v d e1 e2 e3)
    · cases e
  | _ => intro p e; cases e
theorem eqS_rep {x y : V} {d1 d2 : D} {T1 T2 : FP} {b : Bool} (r1 : Rep B G H x d1 T1) (r2 : Rep B G H y d2 T2) (e : eqS d1 d2 = some b) : scal x y = true ∧ decide (x = y) = b ∨ (x = .non ∧ y = .non ∧ b = true) := by
  cases r1 <;> cases r2 <;> first | (cases e; done) | (cases e; simp [scal])
end
section
variable {ca : Nat → Addr} {X : Cx}
theorem opD_eq (hu : X.A.units + 64 < cLine) : Op2 ca X (compareOp .Eq) gEq := by
  intro pins s σ H x y v u Q I rx ry h
  obtain ⟨G, ds, d, sub, rs, e, q⟩ := h
  obtain ⟨d1, T1, d2, T2, rfl, r1, r2⟩ := rs.two
  unfold gEq at e
  dsimp only at e
  obtain ⟨b, e1, rfl⟩ := Option.map_eq_some_iff.mp e
  unfold eqD at e1
  split at e1
  · rename_i b' h1
    cases e1
    rcases eqS_rep r1 r2 h1 with ⟨k1, k2⟩ | ⟨rfl, rfl, rfl⟩
    · exact op_eq pins s σ H _ _ v u Q I rx ry ⟨k1, by rw [k2]; exact rDL_end q sub (.bl _)⟩
    · exact op_eq pins s σ H _ _ v u Q I rx ry ⟨rfl, rDL_end q sub (.bl _)⟩
  · split at e1
    · rename_i p1 p2 h1 h2
      split at e1
      · rename_i hz
        cases e1
        exact op_eqD hu pins s σ H _ _ v u Q I rx ry ⟨p1, p2, r1.dp sub h1, r2.dp sub h2, hz.1, hz.2, rDL_end q sub (.bl _)⟩
      · cases e1
    · cases e1
theorem opD_ne (hu : X.A.units + 64 < cLine) : Op2 ca X (compareOp .NotEq) gNe := by
  intro pins s σ H x y v u Q I rx ry h
  obtain ⟨G, ds, d, sub, rs, e, q⟩ := h
  obtain ⟨d1, T1, d2, T2, rfl, r1, r2⟩ := rs.two
  unfold gNe at e
  dsimp only at e
  obtain ⟨b, e1, rfl⟩ := Option.map_eq_some_iff.mp e
  unfold eqD at e1
  split at e1
  · rename_i b' h1
    cases e1
    rcases eqS_rep r1 r2 h1 with ⟨k1, k2⟩ | ⟨rfl, rfl, rfl⟩
    · exact op_ne pins s σ H _ _ v u Q I rx ry ⟨k1, by rw [k2]; exact rDL_end q sub (.bl _)⟩
    · exact op_ne pins s σ H _ _ v u Q I rx ry ⟨rfl, rDL_end q sub (.bl _)⟩
  · split at e1
    · rename_i p1 p2 h1 h2
      split at e1
      · rename_i hz
        cases e1
        exact op_neD hu pins s σ H _ _ v u Q I rx ry ⟨p1, p2, r1.dp sub h1, r2.dp sub h2, hz.1, hz.2, rDL_end q sub (.bl _)⟩
      · cases e1
    · cases e1
/-! ### order, is None -/
def sLt (a b : Str) : Bool := decide (a.cps.toList < b.cps.toList)
def gLt : List D → Option D
  | [.int i, .int j] => some (.bl (decide (i < j)))
  | [.str i, .str j] => some (.bl (sLt i j))
  | _ => none
def gLe : List D → Option D
  | [.int i, .int j] => some (.bl (decide (i ≤ j)))
  | [.str i, .str j] => some (.bl (!sLt j i))
  | _ => none
def gGt : List D → Option D
  | [.int i, .int j] => some (.bl (decide (j < i)))
  | [.str i, .str j] => some (.bl (sLt j i))
  | _ => none
def gGe : List D → Option D
  | [.int i, .int j] => some (.bl (decide (j ≤ i)))
  | [.str i, .str j] => some (.bl (!sLt i j))
  | _ => none
theorem op2_is {f : Value → Value → Sem Value} {g : List D → Option D} {ki : Int → Int → Bool} {ks : Str → Str → Bool} (hi : OpR X f (rI0 fun i j => .bl (ki i j))) (hs : OpR X f (fun x y H Q => ∃ i j, x = .str i ∧ y = .str j ∧ Q (.bl (ks i j)) H))
    (hg : ∀ ds d, g ds = some d → (∃ i j, ds = [.int i, .int j] ∧ d = .bl (ki i j)) ∨ ∃ i j, ds = [.str i, .str j] ∧ d = .bl (ks i j)) : Op2 ca X f g := by
  intro pins s σ H x y v u Q I rx ry h
  obtain ⟨G, ds, d, sub, rs, e, q⟩ := h
  obtain ⟨d1, T1, d2, T2, rfl, r1, r2⟩ := rs.two
  rcases hg _ _ e with ⟨i, j, e1, rfl⟩ | ⟨i, j, e1, rfl⟩
  · cases e1; cases r1; cases r2
    exact hi pins s σ H _ _ v u Q I rx ry ⟨i, j, rfl, rfl, rDL_end q sub (.bl _)⟩
  · cases e1; cases r1; cases r2
    exact hs pins s σ H _ _ v u Q I rx ry ⟨i, j, rfl, rfl, rDL_end q sub (.bl _)⟩
theorem opD_lt : Op2 ca X (compareOp .Lt) gLt := op2_is op_lt op_lt_str fun ds d e => by
  unfold gLt at e
  split at e
  · cases e; exact .inl ⟨_, _, rfl, rfl⟩
  · cases e; exact .inr ⟨_, _, rfl, rfl⟩
  · cases e
theorem opD_le : Op2 ca X (compareOp .LtE) gLe := op2_is op_le op_le_str fun ds d e => by
  unfold gLe at e
  split at e
  · cases e; exact .inl ⟨_, _, rfl, rfl⟩
  · cases e; exact .inr ⟨_, _, rfl, rfl⟩
  · cases e
theorem opD_gt : Op2 ca X (compareOp .Gt) gGt := op2_is op_gt op_gt_str fun ds d e => by
  unfold gGt at e
  split at e
  · cases e; exact .inl ⟨_, _, rfl, rfl⟩
  · cases e; exact .inr ⟨_, _, rfl, rfl⟩
  · cases e
theorem opD_ge : Op2 ca X (compareOp .GtE) gGe := op2_is op_ge op_ge_str fun ds d e => by
  unfold gGe at e
  split at e
  · cases e; exact .inl ⟨_, _, rfl, rfl⟩
  · cases e; exact .inr ⟨_, _, rfl, rfl⟩
  · cases e
def isNon : D → Bool
  | .non => true
  | _ => false
def gIsN : List D → Option D
  | [x, .non] => some (.bl (isNon x))
  | _ => none
def gNotN : List D → Option D
  | [x, .non] => some (.bl (!isNon x))
  | _ => none
theorem rep_isNon {B : Bd} {G H : Hp} {v : V} {d : D} {T : FP} (r : Rep B G H v d T) : decide (v = .non) = isNon d := by cases r <;> rfl
theorem opD_isN : Op2 ca X (compareOp .Is) gIsN := by
  intro pins s σ H x y v u Q I rx ry h
  obtain ⟨G, ds, d, sub, rs, e, q⟩ := h
  obtain ⟨d1, T1, d2, T2, rfl, r1, r2⟩ := rs.two
  unfold gIsN at e
  split at e
  · rename_i heq; cases heq; cases e; cases r2
    exact op_isN pins s σ H _ _ v u Q I rx ry ⟨rfl, by rw [rep_isNon r1]; exact rDL_end q sub (.bl _)⟩
  · cases e
theorem opD_notN : Op2 ca X (compareOp .IsNot) gNotN := by
  intro pins s σ H x y v u Q I rx ry h
  obtain ⟨G, ds, d, sub, rs, e, q⟩ := h
  obtain ⟨d1, T1, d2, T2, rfl, r1, r2⟩ := rs.two
  unfold gNotN at e
  split at e
  · rename_i heq; cases heq; cases e; cases r2
    exact op_notN pins s σ H _ _ v u Q I rx ry ⟨rfl, by rw [rep_isNon r1]; exact rDL_end q sub (.bl _)⟩
  · cases e
end

/-! ### tests -/
def endT (B : Bd) (W : WX) (σ : L2.St) (G H : Hp) (W0 : FP) (Q : Bool → Hp → Prop) : Out Bool → Prop
  | .ok b ρ' => ∀ G' H' F', Cfg B G' H' σ ρ' F' → Ext G H W0 G' H' (un F') → Q b H'
  | .exc e ρ' => ∀ G' H' F' cls dx, Cfg B G' H' σ ρ' F' → ExcAt B G' cls dx e → Ext G H W0 G' H' (un F') → W cls dx σ H'
def tDT (B : Bd) (W : WX) (f : Ev Bool) : TT := fun σ H Q => ∃ G ρ F o, Cfg B G H σ ρ F ∧ f ρ = some o ∧ endT B W σ G H (un F) Q o
def DT (ca : Nat → Addr) (X : Cx) (e : Expr) (f : Ev Bool) : Prop := ∀ W, Takes X W → PT X e (tDT ⟨X.K, ca⟩ W f)
/-- as DT, within and, or -/
def DW (ca : Nat → Addr) (X : Cx) (e : Expr) (f : Ev Bool) : Prop := ∀ W, Takes X W → PW X e (tDT ⟨X.K, ca⟩ W f)
theorem PT.imp {X : Cx} {e : Expr} {t u : TT} (h : PT X e t) (k : ∀ (σ : L2.St) (H : Hp) (Q : Bool → Hp → Prop), u σ H Q → t σ H Q) : PT X e u := ⟨fun pins s σ H Q I q => h.run pins s σ H Q I (k σ H Q q)⟩
theorem PW.imp {X : Cx} {e : Expr} {t u : TT} (h : PW X e t) (k : ∀ (σ : L2.St) (H : Hp) (Q : Bool → Hp → Prop), u σ H Q → t σ H Q) : PW X e u := ⟨fun w pins s σ H Q I q => h.run w pins s σ H Q I (k σ H Q q)⟩
def boolOf : AV → Option Bool
  | .val (.bl b) => some b
  | _ => none
def evT (f : Ev AV) : Ev Bool := f.andThen fun a ρ => match boolOf a with
  | some b => some (.ok b ρ)
  | none => none
/-- truth of a value -/
def truD : D → Option Bool
  | .non => some false
  | .bl b => some b
  | .int i => some (i != 0)
  | .str x => if x.length ≤ 16777216 then some ((x.length : Int) != 0) else none
  | .tup xs => some (!xs.isEmpty)
  | .lst xs => some (!xs.isEmpty)
  | .frl xs => some (!xs.isEmpty)
  | .ol xs => some (!xs.isEmpty)
  | _ => none
def evTr (f : Ev AV) : Ev Bool := f.andThen fun a ρ => match cont ρ a with
  | none => none
  | some d => match truD d with
    | some b => some (.ok b ρ)
    | none => none
section
variable {B : Bd} {W : WX} {σ : L2.St} {H : Hp}
theorem tDT_val {f : Ev AV} {Q : Bool → Hp → Prop} (h : tDT B W (evT f) σ H Q) : tD B W f σ H fun x H' => ∃ k, x = .bl k ∧ Q k H' := by
  obtain ⟨G, ρ, F, o, c, e, z⟩ := h
  refine tD_bind c e (fun er ρ' eo => by subst eo; exact z) fun av ρ1 v G1 H1 F1 T ek c1 r1 n1 x1 => ?_
  cases hb : boolOf av with
  | none => rw [hb] at ek; cases ek
  | some b =>
    rw [hb] at ek
    cases ek
    have hav : av = .val (.bl b) := by
      unfold boolOf at hb
      split at hb
      · cases hb; rfl
      · cases hb
    subst hav
    have r2 : Rep B G1 H1 v (.bl b) T := r1
    cases r2
    exact ⟨b, rfl, z G1 H1 F1 c1 (x1.mono (fun _ h => h) fun _ h => .inl h)⟩
theorem tru_rep {G : Hp} {v : V} {d : D} {T : FP} {b : Bool} (r : Rep B G H v d T) (s : ∀ b o, G b = some o → H b = some o) (e : truD d = some b) : TruV B.K v H b := by
  have emp : ∀ {vs : List V} {ds : List D}, vs.length = ds.length → (!vs.isEmpty) = !ds.isEmpty := fun {vs ds} l => by
    cases vs <;> cases ds <;> first | rfl | cases l
  cases r with
  | non => cases e; rfl
  | bl b => cases e; rfl
  | int i => cases e; rfl
  | str x =>
    unfold truD at e
    dsimp only at e
    split at e
    · cases e; exact ⟨by rw [sizeLine_eq]; assumption, rfl⟩
    · cases e
  | tup h l c => cases e; exact .inr (.inl ⟨_, sqT_mono h s, (emp l).symm⟩)
  | lst h l c => cases e; exact .inl ⟨_, .of (s _ _ h), (emp l).symm⟩
  | frl h l c => cases e; exact .inl ⟨_, sqL_mono h s, (emp l).symm⟩
  | ol h g l c bd dj na => cases e; exact .inl ⟨_, .of h, (emp l).symm⟩
  | _ => cases e
theorem tDT_tru {f : Ev AV} {Q : Bool → Hp → Prop} (h : tDT B W (evTr f) σ H Q) : tD B W f σ H fun x H' => ∃ k, TruV B.K x H' k ∧ Q k H' := by
  obtain ⟨G, ρ, F, o, c, e, z⟩ := h
  refine tD_bind c e (fun er ρ' eo => by subst eo; exact z) fun av ρ1 v G1 H1 F1 T ek c1 r1 n1 x1 => ?_
  cases hb : cont ρ1 av with
  | none => rw [hb] at ek; cases ek
  | some d =>
    rw [hb] at ek
    dsimp only at ek
    cases ht : truD d with
    | none => rw [ht] at ek; cases ek
    | some b =>
      rw [ht] at ek
      cases ek
      obtain ⟨U, r, _⟩ := r1.cont c1 hb
      exact ⟨b, tru_rep r c1.sub ht, z G1 H1 F1 c1 (x1.mono (fun _ h => h) fun _ h => .inl h)⟩
/-- a test, then what follows -/
theorem tDT_bind {β : Type} {f : Ev Bool} {k : Bool → Ev β} {G : Hp} {ρ : DEnv} {F : Nat → FP} {o : Out β} {Q : Bool → Hp → Prop} (c : Cfg B G H σ ρ F) (e : f.andThen k ρ = some o)
    (hx : ∀ er ρ', o = .exc er ρ' → ∀ G' H' F' cls dx, Cfg B G' H' σ ρ' F' → ExcAt B G' cls dx er → Ext G H (un F) G' H' (un F') → W cls dx σ H')
    (hk : ∀ b ρ1 G1 H1 F1, k b ρ1 = some o → Cfg B G1 H1 σ ρ1 F1 → Ext G H (un F) G1 H1 (un F1) → Q b H1) : tDT B W f σ H Q := by
  unfold Ev.andThen at e
  cases hf : f ρ with
  | none => rw [hf] at e; cases e
  | some u =>
    rw [hf] at e
    cases u with
    | exc er ρ' => cases e; exact ⟨G, ρ, F, _, c, hf, fun G' H' F' cls dx c' x' y' => hx er ρ' rfl G' H' F' cls dx c' x' y'⟩
    | ok b ρ1 => exact ⟨G, ρ, F, _, c, hf, fun G1 H1 F1 c1 x => hk b ρ1 G1 H1 F1 e c1 x⟩
theorem endE_trans {G G1 H1 : Hp} {W0 W1 : FP} {Q : VK} {o : Out AV} (z : endE B W σ G H W0 Q o) (x : Ext G H W0 G1 H1 W1) : endE B W σ G1 H1 W1 Q o := by
  cases o with
  | ok av ρ' => exact fun v G' H' F' T c r n x' => z v G' H' F' T c r n (x.trans x')
  | exc e ρ' => exact fun G' H' F' cls dx c r x' => z G' H' F' cls dx c r (x.trans x')
theorem endT_trans {G G1 H1 : Hp} {W0 W1 : FP} {Q : Bool → Hp → Prop} {o : Out Bool} (z : endT B W σ G H W0 Q o) (x : Ext G H W0 G1 H1 W1) : endT B W σ G1 H1 W1 Q o := by
  cases o with
  | ok av ρ' => exact fun G' H' F' c x' => z G' H' F' c (x.trans x')
  | exc e ρ' => exact fun G' H' F' cls dx c r x' => z G' H' F' cls dx c r (x.trans x')
end
def evAnd (f g : Ev Bool) : Ev Bool := f.andThen fun b => if b = true then g else .pure false
def evOr (f g : Ev Bool) : Ev Bool := f.andThen fun b => if b = true then .pure true else g
def evNot (f : Ev Bool) : Ev Bool := f.andThen fun b => .pure (!b)
def evIf (c : Ev Bool) (f g : Ev AV) : Ev AV := c.andThen fun b => if b = true then f else g
def evB (f : Ev Bool) : Ev AV := f.andThen fun b => .pure (.val (.bl b))
section
variable {ca : Nat → Addr} {X : Cx} {a b c : Expr} {fa fb fc : Ev AV} {ga gb : Ev Bool} {pos : Pos} {rest : List Expr}
theorem dt_cmp {op : CmpOp} {g : List D → Option D} (ho : Op2 ca X (compareOp op) g) (ha : DE ca X a fa) (hb : DE ca X b fb) (hm : behindInMarks op b = false) : DT ca X (.Compare a [op] [b] pos) (evT (ev2 g fa fb)) :=
  fun W tk => PT.imp (pt_cmpR ho (ha W tk) (hb W tk) hm) fun σ H Q h => tD_op2 (tDT_val h)
theorem dt_val (ha : DE ca X a fa) (he : ∀ whole, isTrue a X.env whole = (do let v ← whole; standAt a.pos; holding [v] (truthy v)) := by intro _; rfl) : DT ca X a (evT fa) :=
  fun W tk => PT.imp (pt_val (ha W tk) he) fun σ H Q h => tDT_val h
theorem dt_tru (ha : DE ca X a fa) (he : ∀ whole, isTrue a X.env whole = (do let v ← whole; standAt a.pos; holding [v] (truthy v)) := by intro _; rfl) : DT ca X a (evTr fa) :=
  fun W tk => PT.imp (pt_truth (ha W tk) he) fun σ H Q h => tDT_tru h
theorem tDT_pure {B : Bd} {W : WX} {σ : L2.St} {H : Hp} {b : Bool} {Q : Bool → Hp → Prop} {G : Hp} {ρ : DEnv} {F : Nat → FP} {o : Out Bool} (c : Cfg B G H σ ρ F) (e : Ev.pure b ρ = some o) (z : endT B W σ G H (un F) Q o) : Q b H := by
  cases e
  exact z G H F c (.refl fun _ h => h)
theorem dw_and1 (ha : DT ca X a ga) : DW ca X (.BoolOp .And [a] pos) ga := fun W tk => pw_and1 (ha W tk)
theorem dw_or1 (ha : DT ca X a ga) : DW ca X (.BoolOp .Or [a] pos) ga := fun W tk => pw_or1 (ha W tk)
theorem dw_and (ha : DT ca X a ga) (hb : DW ca X (.BoolOp .And (b :: rest) pos) gb) : DW ca X (.BoolOp .And (a :: b :: rest) pos) (evAnd ga gb) :=
  fun W tk => PW.imp (pw_and (ha W tk) (hb W tk)) fun σ H Q h => by
    obtain ⟨G, ρ, F, o, c, e, z⟩ := h
    refine tDT_bind c e (fun er ρ' eo => by subst eo; exact z) fun b ρ1 G1 H1 F1 ek c1 x1 => ?_
    cases b with
    | true => rw [if_pos rfl] at ek ⊢; exact ⟨G1, ρ1, F1, o, c1, ek, endT_trans z x1⟩
    | false => rw [if_neg Bool.false_ne_true] at ek ⊢; exact tDT_pure c1 ek (endT_trans z x1)
theorem dw_or (ha : DT ca X a ga) (hb : DW ca X (.BoolOp .Or (b :: rest) pos) gb) : DW ca X (.BoolOp .Or (a :: b :: rest) pos) (evOr ga gb) :=
  fun W tk => PW.imp (pw_or (ha W tk) (hb W tk)) fun σ H Q h => by
    obtain ⟨G, ρ, F, o, c, e, z⟩ := h
    refine tDT_bind c e (fun er ρ' eo => by subst eo; exact z) fun b ρ1 G1 H1 F1 ek c1 x1 => ?_
    cases b with
    | true => rw [if_pos rfl] at ek ⊢; exact tDT_pure c1 ek (endT_trans z x1)
    | false => rw [if_neg Bool.false_ne_true] at ek ⊢; exact ⟨G1, ρ1, F1, o, c1, ek, endT_trans z x1⟩
theorem dt_bool (h : DW ca X a ga) : DT ca X a ga := fun W tk => (h W tk).pt
theorem dt_not (ha : DT ca X a ga) : DT ca X (.UnaryOp .Not a pos) (evNot ga) := fun W tk => PT.imp (pt_not (ha W tk)) fun σ H Q h => by
  obtain ⟨G, ρ, F, o, c, e, z⟩ := h
  refine tDT_bind c e (fun er ρ' eo => by subst eo; exact z) fun b ρ1 G1 H1 F1 ek c1 x1 => tDT_pure c1 ek (endT_trans z x1)
theorem de_if (hc : DT ca X c ga) (ha : DE ca X a fa) (hb : DE ca X b fb) : DE ca X (.IfExp c a b pos) (evIf ga fa fb) := fun W tk => PE.imp (pe_ifExp (hc W tk) (ha W tk) (hb W tk)) fun σ H Q h => by
  obtain ⟨G, ρ, F, o, c, e, z⟩ := h
  refine tDT_bind c e (fun er ρ' eo => by subst eo; exact z) fun b ρ1 G1 H1 F1 ek c1 x1 => ?_
  cases b with
  | true => rw [if_pos rfl] at ek ⊢; exact ⟨G1, ρ1, F1, o, c1, ek, endE_trans z x1⟩
  | false => rw [if_neg Bool.false_ne_true] at ek ⊢; exact ⟨G1, ρ1, F1, o, c1, ek, endE_trans z x1⟩
/-- and, or, not of bools, as values -/
theorem tD_pure {B : Bd} {W : WX} {σ : L2.St} {H : Hp} {v : V} {d : D} {Q : VK} {G : Hp} {ρ : DEnv} {F : Nat → FP} {o : Out AV} (c : Cfg B G H σ ρ F) (e : Ev.pure (.val d) ρ = some o) (z : endE B W σ G H (un F) Q o) (r : Rep B G H v d nof) : Q v H := by
  cases e
  exact z v G H F nof c r (fun _ h => h.elim) (.refl fun x h => h.elim id False.elim)
def evAndV (f g : Ev AV) : Ev AV := (evT f).andThen fun b => if b = true then g else evC (.bl false)
def evOrV (f g : Ev AV) : Ev AV := (evT f).andThen fun b => if b = true then evC (.bl true) else g
def evNotV (f : Ev AV) : Ev AV := (evT f).andThen fun b => evC (.bl (!b))
theorem de_one {op} (ha : DE ca X a fa) : DE ca X (.BoolOp op [a] pos) fa := fun W tk => pe_one (ha W tk)
theorem de_and (ha : DE ca X a fa) (hb : DE ca X (.BoolOp .And (b :: rest) pos) fb) : DE ca X (.BoolOp .And (a :: b :: rest) pos) (evAndV fa fb) := fun W tk => PE.imp (pe_and (ha W tk) (hb W tk)) fun σ H Q h => by
  obtain ⟨G, ρ, F, o, c, e, z⟩ := h
  refine tDT_val (tDT_bind c e (fun er ρ' eo => by subst eo; exact z) fun b ρ1 G1 H1 F1 ek c1 x1 => ?_)
  cases b with
  | true => rw [if_pos rfl] at ek ⊢; exact ⟨G1, ρ1, F1, o, c1, ek, endE_trans z x1⟩
  | false => rw [if_neg Bool.false_ne_true] at ek ⊢; exact tD_pure c1 ek (endE_trans z x1) (.bl false)
theorem de_or (ha : DE ca X a fa) (hb : DE ca X (.BoolOp .Or (b :: rest) pos) fb) : DE ca X (.BoolOp .Or (a :: b :: rest) pos) (evOrV fa fb) := fun W tk => PE.imp (pe_or (ha W tk) (hb W tk)) fun σ H Q h => by
  obtain ⟨G, ρ, F, o, c, e, z⟩ := h
  refine tDT_val (tDT_bind c e (fun er ρ' eo => by subst eo; exact z) fun b ρ1 G1 H1 F1 ek c1 x1 => ?_)
  cases b with
  | true => rw [if_pos rfl] at ek ⊢; exact tD_pure c1 ek (endE_trans z x1) (.bl true)
  | false => rw [if_neg Bool.false_ne_true] at ek ⊢; exact ⟨G1, ρ1, F1, o, c1, ek, endE_trans z x1⟩
theorem de_not (ha : DE ca X a fa) : DE ca X (.UnaryOp .Not a pos) (evNotV fa) := fun W tk => PE.imp (pe_not (ha W tk)) fun σ H Q h => by
  obtain ⟨G, ρ, F, o, c, e, z⟩ := h
  exact tDT_val (tDT_bind c e (fun er ρ' eo => by subst eo; exact z) fun b ρ1 G1 H1 F1 ek c1 x1 => tD_pure c1 ek (endE_trans z x1) (.bl _))
end
end DL

namespace DL
open PySem PySem.Spec PyProof.Rows L2

/-! ### freezing slots -/
def frzAt (ρ : DEnv) (i : Nat) : DEnv := match slotOf ρ i with
  | some d => ρ.set i (some (frz d))
  | none => ρ
def frzS : List Nat → DEnv → DEnv
  | [], ρ => ρ
  | i :: S, ρ => frzS S (frzAt ρ i)
def plS : List AV → List Nat
  | [] => []
  | .val _ :: as => plS as
  | .pl i _ :: as => i :: plS as
theorem frzAt_len (ρ : DEnv) (i : Nat) : (frzAt ρ i).length = ρ.length := by unfold frzAt; split <;> simp
theorem frzS_len : ∀ (S : List Nat) (ρ : DEnv), (frzS S ρ).length = ρ.length
  | [], _ => rfl
  | i :: S, ρ => by rw [frzS, frzS_len S, frzAt_len]
theorem frzAt_get (ρ : DEnv) (i j : Nat) : (frzAt ρ i)[j]? = if j = i then (ρ[j]?).map (Option.map frz) else ρ[j]? := by
  unfold frzAt
  cases h : slotOf ρ i with
  | none =>
    dsimp only
    split
    · rename_i e
      subst e
      unfold slotOf at h
      cases q : ρ[j]? with
      | none => rfl
      | some o => rw [q] at h; cases o with
        | none => rfl
        | some d => cases h
    · rfl
  | some d =>
    have e := slotOf_eq h
    dsimp only
    split
    · rename_i e'
      subst e'
      rw [e]
      have hl : j < ρ.length := (List.getElem?_eq_some_iff.mp e).1
      rw [List.getElem?_set_self hl]
      rfl
    · rename_i ne
      rw [List.getElem?_set_ne (Ne.symm ne)]
theorem frz_frz (d : D) : frz (frz d) = frz d := frz_sh _ (frz_is d)
theorem frzS_get : ∀ (S : List Nat) (ρ : DEnv) (j : Nat), (frzS S ρ)[j]? = if j ∈ S then (ρ[j]?).map (Option.map frz) else ρ[j]?
  | [], ρ, j => by simp [frzS]
  | i :: S, ρ, j => by
    rw [frzS, frzS_get S, frzAt_get]
    by_cases h1 : j = i <;> by_cases h2 : j ∈ S
    · rw [if_pos h2, if_pos h1, if_pos (by simp [h1])]
      cases ρ[j]? with
      | none => rfl
      | some o => cases o with
        | none => rfl
        | some d => simp [frz_frz]
    · rw [if_neg h2, if_pos h1, if_pos (by simp [h1])]
    · rw [if_pos h2, if_neg h1, if_pos (by simp [h2])]
    · rw [if_neg h2, if_neg h1, if_neg (by simp [h1, h2])]

section
variable {B : Bd} {σ : L2.St} {G H : Hp} {ρ : DEnv} {F : Nat → FP} {W : WX}
/-- what is frozen: temporaries in Wt, the slots S -/
def frU (G H : Hp) (F : Nat → FP) (Wt : FP) (S : List Nat) : FP := fun x => (Wt x ∧ (∃ o, H x = some o) ∧ G x = none) ∨ ∃ i, i ∈ S ∧ F i x
theorem freeze_cfg {Wt : FP} (c : Cfg B G H σ ρ F) (n : ∀ x, Wt x → ¬ un F x) (S : List Nat) :
    Cfg B (gfr G H (frU G H F Wt S)) H σ (frzS S ρ) (fun j x => F j x ∧ j ∉ S) ∧ Ext G H (fun x => un F x ∨ Wt x) (gfr G H (frU G H F Wt S)) H (un fun j x => F j x ∧ j ∉ S) := by
  have dm : ∀ x, frU G H F Wt S x → (∃ o, H x = some o) ∧ G x = none := fun x h => by
    rcases h with ⟨_, h⟩ | ⟨i, _, h⟩
    · exact h
    · exact c.dom ⟨i, h⟩
  have gg : ∀ b o, G b = some o → gfr G H (frU G H F Wt S) b = some o := fun b o e => by
    by_cases h : frU G H F Wt S b
    · rw [(dm b h).2] at e; cases e
    · rw [gfr_out h]; exact e
  refine ⟨⟨fun b o e => ?_, by rw [frzS_len]; exact c.len, fun i d e => ?_, fun i h x hx => ?_, fun i j x a b => c.dis i j x a.1 b.1⟩, ⟨gg, fun b o e _ => e, fun b h => ?_, fun b o e => ?_⟩⟩
  · by_cases h : frU G H F Wt S b
    · rw [gfr_in h] at e; exact e
    · rw [gfr_out h] at e; exact c.sub b o e
  · rw [frzS_get] at e
    by_cases hS : i ∈ S
    · rw [if_pos hS] at e
      cases q : ρ[i]? with
      | none => rw [q] at e; cases e
      | some o =>
        rw [q] at e
        cases o with
        | none => cases e
        | some d' =>
          obtain ⟨v, e1, r⟩ := c.slot i d' q
          have ed : d = frz d' := by simpa using e.symm
          subst ed
          refine ⟨v, e1, ?_⟩
          have r2 := r.frozen (G1 := gfr G H (frU G H F Wt S)) gg fun b hb => gfr_in (.inr ⟨i, hS, hb⟩)
          have en : (fun x => F i x ∧ i ∉ S) = nof := by funext x; exact propext ⟨fun z => z.2 hS, fun z => z.elim⟩
          rw [en]; exact r2
    · rw [if_neg hS] at e
      obtain ⟨v, e1, r⟩ := c.slot i d e
      refine ⟨v, e1, ?_⟩
      have en : (fun x => F i x ∧ i ∉ S) = F i := by funext x; exact propext ⟨fun z => z.1, fun z => ⟨z, hS⟩⟩
      rw [en]
      refine r.keep gg fun b hb => ⟨rfl, ?_⟩
      have nb : ¬ frU G H F Wt S b := fun z => by
        rcases z with ⟨z, _⟩ | ⟨j, hj, z⟩
        · exact n b z ⟨i, hb⟩
        · have := c.dis i j b hb z
          subst this
          exact hS hj
      rw [gfr_out nb]
      exact (r.dom b hb).2
  · obtain ⟨d, v, e1, e2, r⟩ := c.own hx.1
    refine h d ?_
    rw [frzS_get, if_neg hx.2]
    exact e1
  · obtain ⟨i, hi⟩ := h
    exact .inl (.inl ⟨i, hi.1⟩)
  · by_cases h : frU G H F Wt S b
    · rcases h with ⟨z, _⟩ | ⟨i, _, z⟩
      · exact .inr (.inl (.inr z))
      · exact .inr (.inl (.inl ⟨i, z⟩))
    · rw [gfr_out h] at e; exact .inl e
theorem freeze_reps {Wt : FP} (c : Cfg B G H σ ρ F) (n : ∀ x, Wt x → ¬ un F x) (S : List Nat) : ∀ {vs : List V} {avs : List AV} {ds : List D}, RepAs B G H σ Wt vs avs → conts ρ avs = some ds → (∀ i ∈ plS avs, i ∈ S) →
    Paired (fun v d => Rep B (gfr G H (frU G H F Wt S)) H v d nof) vs (ds.map frz)
  | _, _, _, .nil, e, _ => by cases e; exact .nil
  | v :: vs, a :: as, ds, .cons (T := T) r hT t hu _, e, hS => by
    have t := t.mono hu
    have dm : ∀ x, frU G H F Wt S x → (∃ o, H x = some o) ∧ G x = none := fun x h => by
      rcases h with ⟨_, h⟩ | ⟨i, _, h⟩
      · exact h
      · exact c.dom ⟨i, h⟩
    have gg : ∀ b o, G b = some o → gfr G H (frU G H F Wt S) b = some o := fun b o e => by
      by_cases h : frU G H F Wt S b
      · rw [(dm b h).2] at e; cases e
      · rw [gfr_out h]; exact e
    unfold conts at e
    cases h1 : cont ρ a with
    | none => rw [h1] at e; cases e
    | some d =>
      cases h2 : conts ρ as with
      | none => rw [h1, h2] at e; cases e
      | some ds' =>
        rw [h1, h2] at e
        cases e
        cases a with
        | val d' =>
          cases h1
          have r' : Rep B G H v d T := r
          refine .cons ?_ (freeze_reps c n S t h2 fun i hi => hS i hi)
          exact r'.frozen gg fun b hb => gfr_in (.inl ⟨hT b hb, r'.dom b hb⟩)
        | pl i p =>
          refine .cons ?_ (freeze_reps c n S t h2 fun j hj => hS j (by simp [plS, hj]))
          obtain ⟨U, r', s⟩ := r.cont c h1
          have hT' := r.2
          exact r'.frozen gg fun b hb => gfr_in (.inr ⟨i, hS i (by simp [plS]), (s b hb).elim (fun z => by rw [hT'] at z; exact z.elim) id⟩)
end

/-! ### arguments handed over for good -/
def endF (B : Bd) (W : WX) (σ : L2.St) (G H : Hp) (W0 : FP) (Q : List V → Hp → Prop) : Out (List D) → Prop
  | .ok ds ρ' => ∀ vs G' H' F', Cfg B G' H' σ ρ' F' → Paired (fun v d => Rep B G' H' v d nof) vs ds → Ext G H W0 G' H' (un F') → Q vs H'
  | .exc e ρ' => ∀ G' H' F' cls dx, Cfg B G' H' σ ρ' F' → ExcAt B G' cls dx e → Ext G H W0 G' H' (un F') → W cls dx σ H'
def tDF (B : Bd) (W : WX) (f : Ev (List D)) : TA := fun σ H Q => ∃ G ρ F o, Cfg B G H σ ρ F ∧ f ρ = some o ∧ endF B W σ G H (un F) Q o
def DF (ca : Nat → Addr) (X : Cx) (es : List Expr) (f : Ev (List D)) : Prop := ∀ W, Takes X W → PA X es (tDF ⟨X.K, ca⟩ W f)
def consK (avs : List AV) : Ev (List D) := fun ρ => match conts ρ avs with
  | some ds => some (.ok (ds.map frz) (frzS (plS avs) ρ))
  | none => none
def evFz (fs : Ev (List AV)) : Ev (List D) := fs.andThen consK
section
variable {B : Bd} {W : WX} {σ : L2.St} {H : Hp}
theorem tDF_of {fs : Ev (List AV)} {Q : List V → Hp → Prop} (h : tDF B W (evFz fs) σ H Q) : tDL B W fs σ H Q := by
  obtain ⟨G, ρ, F, o, c, e, z⟩ := h
  refine tDL_bind c e (fun er ρ' eo => by subst eo; exact z) fun avs ρ1 vs G1 H1 F1 Wt ek c1 r1 n1 x1 => ?_
  unfold consK at ek
  cases h1 : conts ρ1 avs with
  | none => rw [h1] at ek; cases ek
  | some ds =>
    rw [h1] at ek
    cases ek
    obtain ⟨c2, x2⟩ := freeze_cfg c1 n1 (plS avs)
    exact z vs _ H1 _ c2 (freeze_reps c1 n1 (plS avs) r1 h1 fun i h => h) (x1.trans x2)
theorem tDF_bind {β : Type} {f : Ev (List D)} {k : List D → Ev β} {G : Hp} {ρ : DEnv} {F : Nat → FP} {o : Out β} {Q : List V → Hp → Prop} (c : Cfg B G H σ ρ F) (e : f.andThen k ρ = some o)
    (hx : ∀ er ρ', o = .exc er ρ' → ∀ G' H' F' cls dx, Cfg B G' H' σ ρ' F' → ExcAt B G' cls dx er → Ext G H (un F) G' H' (un F') → W cls dx σ H')
    (hk : ∀ ds ρ1 vs G1 H1 F1, k ds ρ1 = some o → Cfg B G1 H1 σ ρ1 F1 → Paired (fun v d => Rep B G1 H1 v d nof) vs ds → Ext G H (un F) G1 H1 (un F1) → Q vs H1) : tDF B W f σ H Q := by
  unfold Ev.andThen at e
  cases hf : f ρ with
  | none => rw [hf] at e; cases e
  | some u =>
    rw [hf] at e
    cases u with
    | exc er ρ' => cases e; exact ⟨G, ρ, F, _, c, hf, fun G' H' F' cls dx c' x' y' => hx er ρ' rfl G' H' F' cls dx c' x' y'⟩
    | ok ds ρ1 => exact ⟨G, ρ, F, _, c, hf, fun vs G1 H1 F1 c1 r x => hk ds ρ1 vs G1 H1 F1 e c1 r x⟩
end
theorem df_of {ca : Nat → Addr} {X : Cx} {es : List Expr} {fs : Ev (List AV)} (h : DA ca X es fs) : DF ca X es (evFz fs) := fun W tk => PA.imp (h W tk) fun σ H Q q => tDF_of q
/-- operations by frozen contents -/
def evOpF (g : List D → Option D) (fs : Ev (List D)) : Ev AV := fs.andThen fun ds ρ => match g ds with
  | none => none
  | some d => some (.ok (.val d) ρ)
theorem paired_len {α β : Type} {R : α → β → Prop} : ∀ {xs : List α} {ys : List β}, Paired R xs ys → xs.length = ys.length
  | _, _, .nil => rfl
  | _, _, .cons _ t => congrArg (· + 1) (paired_len t)
theorem paired_get {α β : Type} {R : α → β → Prop} : ∀ {xs : List α} {ys : List β}, Paired R xs ys → ∀ (i : Nat) x y, xs[i]? = some x → ys[i]? = some y → R x y
  | _, _, .nil, i, x, y, h, _ => by simp at h
  | _, _, .cons r t, 0, x, y, h, h' => by simp at h h'; subst h; subst h'; exact r
  | _, _, .cons r t, i + 1, x, y, h, h' => paired_get t i x y (by simpa using h) (by simpa using h')
def rDF (B : Bd) (g : List D → Option D) : List V → Hp → VK → Prop := fun xs H Q => ∃ G ds d, (∀ b o, G b = some o → H b = some o) ∧ Paired (fun v d => Rep B G H v d nof) xs ds ∧ g ds = some d ∧
  ∀ v G' H' T, (∀ b o, G' b = some o → H' b = some o) → Rep B G' H' v d T → Ext G H nof G' H' T → Q v H'
theorem tD_opF {B : Bd} {W : WX} {σ : L2.St} {H : Hp} {g : List D → Option D} {fs : Ev (List D)} {Q : VK} (h : tD B W (evOpF g fs) σ H Q) : tDF B W fs σ H fun vs H1 => rDF B g vs H1 Q := by
  obtain ⟨G, ρ, F, o, c, e, z⟩ := h
  refine tDF_bind c e (fun er ρ' eo => by subst eo; exact z) fun ds ρ1 vs G1 H1 F1 ek c1 r1 x1 => ?_
  cases h2 : g ds with
  | none => rw [h2] at ek; cases ek
  | some d =>
    rw [h2] at ek
    cases ek
    exact ⟨G1, ds, d, c1.sub, r1, h2, fun v G' H' T s r x => z v G' H' F1 T (c1.grow x s) r (c1.new x) (x1.more x)⟩
def gTup (ds : List D) : Option D := if ds.length ≤ 16777216 then some (.tup ds) else none
def gLst (ds : List D) : Option D := if ds.length ≤ 16777216 then some (.ol ds) else none
theorem no_g {G H : Hp} {p : Addr} (s : ∀ b o, G b = some o → H b = some o) (hp : H p = none) : G p = none := by
  cases z : G p with
  | none => rfl
  | some o => rw [s _ _ z] at hp; cases hp
section
variable {ca : Nat → Addr} {X : Cx} {es : List Expr} {fs : Ev (List D)} {pos : Pos}
theorem de_tup {x1} (h : DF ca X es fs) : DE ca X (.Tuple es x1 pos) (evOpF gTup fs) := fun W tk => PE.imp (pe_tup (h W tk)) fun σ H Q q => by
  obtain ⟨G, ρ, F, o, c, e, z⟩ := tD_opF q
  refine ⟨G, ρ, F, o, c, e, ?_⟩
  cases o with
  | exc er ρ' => exact z
  | ok ds ρ' =>
    intro vs G' H' F' c' r x
    obtain ⟨G2, ds2, d, sub, r2, e2, k⟩ := z vs G' H' F' c' r x
    unfold gTup at e2
    split at e2
    · rename_i hz
      cases e2
      refine ⟨by rw [paired_len r2, sizeLine_eq]; exact hz, fun p hp => ?_⟩
      refine k _ _ _ nof (sub_new hp sub) (.tup (.inl (.inl upd_same)) (paired_len r2) fun i v d e1 e3 => ?_) (ext_new hp sub)
      exact (paired_get r2 i v d e1 e3).keep (fun b o e => by rw [upd_ne (ne_of_none e (no_g sub hp))]; exact e) fun _ h => h.elim
    · cases e2
theorem de_lst (h : DF ca X es fs) : DE ca X (.List es pos) (evOpF gLst fs) := fun W tk => PE.imp (pe_lst (h W tk)) fun σ H Q q => by
  obtain ⟨G, ρ, F, o, c, e, z⟩ := tD_opF q
  refine ⟨G, ρ, F, o, c, e, ?_⟩
  cases o with
  | exc er ρ' => exact z
  | ok ds ρ' =>
    intro vs G' H' F' c' r x
    obtain ⟨G2, ds2, d, sub, r2, e2, k⟩ := z vs G' H' F' c' r x
    unfold gLst at e2
    split at e2
    · rename_i hz
      cases e2
      refine ⟨by rw [paired_len r2, sizeLine_eq]; exact hz, fun p hp => ?_⟩
      refine k _ G2 _ _ (sub_own hp sub) (rep_ol (no_g sub hp) upd_same (paired_len r2) fun i v d e1 e3 => ?_) (ext_own hp)
      exact (paired_get r2 i v d e1 e3).up
    · cases e2
end

/-! ### an item -/
def gIx : List D → Option D
  | [.str z, .int i] => if z.length ≤ 16777216 then (atI z.cps.toList i).map fun c => .str ⟨#[c]⟩ else none
  | [x, .int i] => match seqD x with
    | some ds => match atI ds i with
      | some d => if d.sh = true then some d else none
      | none => none
    | none => none
  | _ => none
theorem atI_pair {α β : Type} {xs : List α} {ys : List β} (l : xs.length = ys.length) {i : Int} {y : β} (h : atI ys i = some y) : ∃ (x : α) (j : Nat), atI xs i = some x ∧ xs[j]? = some x ∧ ys[j]? = some y := by
  unfold atI at h ⊢
  rw [l]
  cases hj : ixN ys.length i with
  | none => rw [hj] at h; cases h
  | some j =>
    rw [hj] at h
    have hy : ys[j]? = some y := h
    have hl : j < xs.length := by rw [l]; exact (List.getElem?_eq_some_iff.mp hy).1
    exact ⟨xs[j], j, by show xs[j]? = _; exact List.getElem?_eq_getElem hl, List.getElem?_eq_getElem hl, hy⟩
section
variable {ca : Nat → Addr} {X : Cx} {a b : Expr} {fa fb : Ev AV} {pos : Pos}
theorem ixD : IxR X fun x y H Q => rDL ⟨X.K, ca⟩ gIx [x, y] H Q := by
  intro value slice pins s σ H x y v u Q I rx ry h hs
  refine ix_seq value slice pins s σ H x y v u Q I rx ry ?_ hs
  obtain ⟨G, ds, d, sub, rs, e, q⟩ := h
  obtain ⟨d1, T1, d2, T2, rfl, r1, r2⟩ := rs.two
  unfold gIx at e
  split at e
  · rename_i z i heq
    cases heq; cases r1; cases r2
    split at e
    · rename_i hz
      obtain ⟨c, e1, rfl⟩ := Option.map_eq_some_iff.mp e
      exact .inr (.inr ⟨z, i, c, rfl, rfl, by rw [sizeLine_eq]; exact hz, e1, rDL_end q sub (.str _)⟩)
    · cases e
  · rename_i x' i _ heq
    cases heq; cases r2
    split at e
    · rename_i ds h1
      split at e
      · rename_i d' h2
        split at e
        · rename_i hs
          cases e
          obtain ⟨a1, vs1, rfl, hq, l1, c1⟩ := r1.seq sub h1
          obtain ⟨w, j, e1, e2, e3⟩ := atI_pair l1 h2
          obtain ⟨U, r⟩ := c1 j w d e2 e3
          have fin := rDL_end q sub (rep_sh r hs)
          rcases hq with hq | hq
          · exact .inl ⟨a1, vs1, i, w, rfl, rfl, hq, e1, fin⟩
          · exact .inr (.inl ⟨a1, vs1, i, w, rfl, rfl, hq, e1, fin⟩)
        · cases e
      · cases e
    · cases e
  · cases e
theorem de_ix (ha : DE ca X a fa) (hb : DE ca X b fb) (hs : PlainIx b) : DE ca X (.Subscript a b pos) (ev2 gIx fa fb) :=
  fun W tk => PE.imp (pe_ix ixD (ha W tk) (hb W tk) hs) fun σ H Q h => tD_op2 h
end

/-! ### built-in functions -/
def CallD (ca : Nat → Addr) (X : Cx) (f : Value) (g : List D → Option D) : Prop := CallR X f (rDL ⟨X.K, ca⟩ g)
section
variable {ca : Nat → Addr} {X : Cx} {x : Str} {e : Expr} {es : List Expr} {fs : Ev (List AV)} {p pos : Pos} {id T : String} {g : List D → Option D}
theorem de_callB (hc : CallD ca X (.builtin id) g) (hg : Gl X x) (hm : X.mg x = none) (hv : bootBuiltins x = some (.builtin id)) (ha : DA ca X (e :: es) fs) (hn : x ≠ "__name__" := by decide) (hdb : (x == ("__debug__" : Str)) = false := by decide)
    (he : starEach (e :: es) X.env = (false, eval e X.env) :: starEach es X.env := by rfl) (hpl : (backTo pos (starEach es X.env)).any (·.1) = false := by rfl) : DE ca X (.Call (.Name x p) (e :: es) [] pos) (evOp g fs) :=
  fun W tk => PE.imp (pe_callB hc hg hm hv (ha W tk) hn hdb he hpl) fun σ H Q h => tD_op h
theorem de_callTy (hc : CallD ca X (.type T) g) (hg : Gl X x) (hm : X.mg x = none) (hv : bootBuiltins x = some (.type T)) (ha : DA ca X (e :: es) fs) (hn : x ≠ "__name__" := by decide) (hdb : (x == ("__debug__" : Str)) = false := by decide)
    (he : starEach (e :: es) X.env = (false, eval e X.env) :: starEach es X.env := by rfl) (hpl : (backTo pos (starEach es X.env)).any (·.1) = false := by rfl) : DE ca X (.Call (.Name x p) (e :: es) [] pos) (evOp g fs) :=
  fun W tk => PE.imp (pe_callTy hc hg hm hv (ha W tk) hn hdb he hpl) fun σ H Q h => tD_op h
theorem de_callG (hc : CallD ca X (.builtin id) g) (hg : Gl X x) (hm : X.mg x = some (.builtin id)) (ha : DA ca X (e :: es) fs) (hdb : (x == ("__debug__" : Str)) = false := by decide)
    (he : starEach (e :: es) X.env = (false, eval e X.env) :: starEach es X.env := by rfl) (hpl : (backTo pos (starEach es X.env)).any (·.1) = false := by rfl) : DE ca X (.Call (.Name x p) (e :: es) [] pos) (evOp g fs) :=
  fun W tk => PE.imp (pe_callBfun hc hg hm (ha W tk) hdb he hpl) fun σ H Q h => tD_op h
def gAbs : List D → Option D
  | [.int i] => some (.int (if i < 0 then -i else i))
  | _ => none
def gInt : List D → Option D
  | [.int i] => some (.int i)
  | [.bl b] => some (.int (if b then 1 else 0))
  | _ => none
def gGcd : List D → Option D
  | [.int i, .int j] => some (.int ((Nat.gcd i.natAbs j.natAbs : Nat) : Int))
  | _ => none
def gLen : List D → Option D
  | [.str x] => if x.length ≤ 16777216 then some (.int x.length) else none
  | [.dct kvs] => some (.int kvs.length)
  | [.od kvs] => some (.int kvs.length)
  | [x] => (seqD x).map fun ds => .int ds.length
  | _ => none
theorem callD_abs : CallD ca X (.builtin "abs") gAbs := by
  intro pins s σ H xs us Q I rs h
  obtain ⟨G, ds, d, sub, rr, e, q⟩ := h
  unfold gAbs at e
  split at e
  · cases e
    cases rr with
    | cons a t => cases t; obtain ⟨T, r⟩ := a; cases r; exact call_abs pins s σ H _ us Q I rs ⟨_, rfl, rDL_end q sub (.int _)⟩
  · cases e
theorem callD_int : CallD ca X (.type "int") gInt := by
  intro pins s σ H xs us Q I rs h
  obtain ⟨G, ds, d, sub, rr, e, q⟩ := h
  unfold gInt at e
  split at e
  · cases e
    cases rr with
    | cons a t => cases t; obtain ⟨T, r⟩ := a; cases r; exact call_int1 pins s σ H _ us Q I rs (.inl ⟨_, rfl, rDL_end q sub (.int _)⟩)
  · cases e
    cases rr with
    | cons a t => cases t; obtain ⟨T, r⟩ := a; cases r; exact call_int1 pins s σ H _ us Q I rs (.inr ⟨_, rfl, rDL_end q sub (.int _)⟩)
  · cases e
theorem callD_gcd : CallD ca X (.builtin "math.gcd") gGcd := by
  intro pins s σ H xs us Q I rs h
  obtain ⟨G, ds, d, sub, rr, e, q⟩ := h
  unfold gGcd at e
  split at e
  · cases e
    cases rr with
    | cons a t => cases t with
      | cons b t => cases t; obtain ⟨T, r⟩ := a; obtain ⟨U, r'⟩ := b; cases r; cases r'; exact cr_gcd pins s σ H _ us Q I rs ⟨_, _, rfl, rDL_end q sub (.int _)⟩
  · cases e
theorem callD_len : CallD ca X (.builtin "len") gLen := by
  intro pins s σ H xs us Q I rs h
  obtain ⟨G, ds, d, sub, rr, e, q⟩ := h
  unfold gLen at e
  split at e
  · split at e
    · rename_i hz
      cases e
      cases rr with
      | cons a t => cases t; obtain ⟨T, r⟩ := a; cases r; exact call_len pins s σ H _ us Q I rs ⟨_, _, rfl, ⟨by rw [sizeLine_eq]; exact hz, rfl⟩, rDL_end q sub (.int _)⟩
    · cases e
  · cases e
    cases rr with
    | cons a t =>
      cases t
      obtain ⟨T, r⟩ := a
      cases r with
      | dct h l c => exact call_lenD pins s σ H _ us Q I rs ⟨_, _, rfl, sub _ _ h, by rw [len_of_keys l]; exact rDL_end q sub (.int _)⟩
  · cases e
    cases rr with
    | cons a t =>
      cases t
      obtain ⟨T, r⟩ := a
      cases r with
      | od h g l c bd dj na => exact call_lenD pins s σ H _ us Q I rs ⟨_, _, rfl, h, by rw [len_of_keys l]; exact rDL_end q sub (.int _)⟩
  · obtain ⟨ds', h1, rfl⟩ := Option.map_eq_some_iff.mp e
    cases rr with
    | cons a t =>
      cases t
      obtain ⟨T, r⟩ := a
      obtain ⟨a1, vs1, rfl, hq, l1, c1⟩ := r.seq sub h1
      refine call_len_seq pins s σ H _ us Q I rs ⟨a1, vs1, rfl, hq, ?_⟩
      rw [l1]
      exact rDL_end q sub (.int _)
  · cases e
end
end DL

namespace DL
open PySem PySem.Spec PyProof.Rows L2

/-! ### statements -/
inductive SOut where
  | nx (ρ : DEnv) | ret (d : D) (ρ : DEnv) | brk (ρ : DEnv) | cnt (ρ : DEnv) | exc (e : D) (ρ : DEnv)
abbrev Sv := DEnv → Option SOut
/-- the slots in I hold what they held -/
structure Prot (I : List Nat) (σ σ' : L2.St) : Prop where
  len : σ'.length = σ.length
  at_ : ∀ i ∈ I, σ'[i]? = σ[i]?
theorem Prot.refl {I : List Nat} {σ : L2.St} : Prot I σ σ := ⟨rfl, fun _ _ => rfl⟩
theorem Prot.trans {I : List Nat} {σ σ1 σ2 : L2.St} (a : Prot I σ σ1) (b : Prot I σ1 σ2) : Prot I σ σ2 := ⟨b.len.trans a.len, fun i h => (b.at_ i h).trans (a.at_ i h)⟩
def endS (B : Bd) (W : WX) (I : List Nat) (σ : L2.St) (G H : Hp) (W0 : FP) (Dn : Ends) : SOut → Prop
  | .nx ρ' => ∀ σ' G' H' F', Prot I σ σ' → Cfg B G' H' σ' ρ' F' → Ext G H W0 G' H' (un F') → Dn.nx σ' H'
  | .brk ρ' => ∀ σ' G' H' F', Prot I σ σ' → Cfg B G' H' σ' ρ' F' → Ext G H W0 G' H' (un F') → Dn.bk σ' H'
  | .cnt ρ' => ∀ σ' G' H' F', Prot I σ σ' → Cfg B G' H' σ' ρ' F' → Ext G H W0 G' H' (un F') → Dn.ct σ' H'
  | .ret d ρ' => ∀ v σ' G' H' F' T, Prot I σ σ' → Cfg B G' H' σ' ρ' F' → Rep B G' H' v d T → (∀ x, T x → ¬ un F' x) → Ext G H W0 G' H' (fun x => un F' x ∨ T x) → Dn.rt v H'
  | .exc e ρ' => ∀ σ' G' H' F' cls dx, Prot I σ σ' → Cfg B G' H' σ' ρ' F' → ExcAt B G' cls dx e → Ext G H W0 G' H' (un F') → W cls dx σ' H'
def tSD (B : Bd) (W : WX) (I : List Nat) (g : Sv) : TS := fun Dn σ H => ∃ G ρ F o, Cfg B G H σ ρ F ∧ g ρ = some o ∧ endS B W I σ G H (un F) Dn o
theorem endS_trans {B : Bd} {W : WX} {I : List Nat} {σ σ1 : L2.St} {G H G1 H1 : Hp} {W0 W1 : FP} {Dn : Ends} {o : SOut} (z : endS B W I σ G H W0 Dn o) (p : Prot I σ σ1) (x : Ext G H W0 G1 H1 W1) : endS B W I σ1 G1 H1 W1 Dn o := by
  cases o with
  | nx ρ' => exact fun σ' G' H' F' p' c x' => z σ' G' H' F' (p.trans p') c (x.trans x')
  | brk ρ' => exact fun σ' G' H' F' p' c x' => z σ' G' H' F' (p.trans p') c (x.trans x')
  | cnt ρ' => exact fun σ' G' H' F' p' c x' => z σ' G' H' F' (p.trans p') c (x.trans x')
  | ret d ρ' => exact fun v σ' G' H' F' T p' c r n x' => z v σ' G' H' F' T (p.trans p') c r n (x.trans x')
  | exc e ρ' => exact fun σ' G' H' F' cls dx p' c r x' => z σ' G' H' F' cls dx (p.trans p') c r (x.trans x')
abbrev Pass (X : Cx) : Prop := PassesOwn (model X.prog X.w) X.A X.env X.xe
def DS (ca : Nat → Addr) (X : Cx) (I : List Nat) (st : Stmt) (g : Sv) : Prop := ∀ W, Takes X W → Pass X → PS X st (tSD ⟨X.K, ca⟩ W I g)
def DB (ca : Nat → Addr) (X : Cx) (I : List Nat) (st : List Stmt) (g : Sv) : Prop := ∀ W, Takes X W → Pass X → PSs X st (tSD ⟨X.K, ca⟩ W I g)
theorem PS.imp {X : Cx} {e : Stmt} {t u : TS} (h : PS X e t) (k : ∀ (Dn : Ends) (σ : L2.St) (H : Hp), u Dn σ H → t Dn σ H) : PS X e u := ⟨fun pins s σ H Dn I q => h.run pins s σ H Dn I (k Dn σ H q)⟩
theorem PSs.imp {X : Cx} {e : List Stmt} {t u : TS} (h : PSs X e t) (k : ∀ (Dn : Ends) (σ : L2.St) (H : Hp), u Dn σ H → t Dn σ H) : PSs X e u := ⟨fun pins s σ H Dn I q => h.run pins s σ H Dn I (k Dn σ H q)⟩

def sNil : Sv := fun ρ => some (.nx ρ)
def sSeq (f g : Sv) : Sv := fun ρ => match f ρ with
  | some (.nx ρ1) => g ρ1
  | o => o
/-- an expression's step within a statement -/
def evS {α : Type} (f : Ev α) (k : α → Sv) : Sv := fun ρ => match f ρ with
  | none => none
  | some (.exc e ρ1) => some (.exc e ρ1)
  | some (.ok a ρ1) => k a ρ1
section
variable {B : Bd} {W : WX} {I : List Nat} {σ : L2.St} {H : Hp} {Dn : Ends}
theorem tSD_seq {f g : Sv} (h : tSD B W I (sSeq f g) Dn σ H) : tSeq (tSD B W I f) (tSD B W I g) Dn σ H := by
  obtain ⟨G, ρ, F, o, c, e, z⟩ := h
  unfold sSeq at e
  cases hf : f ρ with
  | none => rw [hf] at e; cases e
  | some u =>
    rw [hf] at e
    cases u with
    | nx ρ1 => exact ⟨G, ρ, F, _, c, hf, fun σ' G' H' F' p c' x => ⟨G', ρ1, F', o, c', e, endS_trans z p x⟩⟩
    | brk ρ1 => cases e; exact ⟨G, ρ, F, _, c, hf, z⟩
    | cnt ρ1 => cases e; exact ⟨G, ρ, F, _, c, hf, z⟩
    | ret d ρ1 => cases e; exact ⟨G, ρ, F, _, c, hf, z⟩
    | exc er ρ1 => cases e; exact ⟨G, ρ, F, _, c, hf, z⟩
/-- an exception's way out of an expression -/
theorem exc_out {G : Hp} {W0 : FP} {er : D} {ρ' : DEnv} (z : endS B W I σ G H W0 Dn (.exc er ρ')) : ∀ G' H' F' cls dx, Cfg B G' H' σ ρ' F' → ExcAt B G' cls dx er → Ext G H W0 G' H' (un F') → W cls dx σ H' :=
  fun G' H' F' cls dx c r x => z σ G' H' F' cls dx .refl c r x
theorem tSD_E {f : Ev AV} {k : AV → Sv} {Q : VK} (h : tSD B W I (evS f k) Dn σ H)
    (hk : ∀ av ρ1 v G1 H1 F1 T o, k av ρ1 = some o → Cfg B G1 H1 σ ρ1 F1 → RepA B G1 H1 σ v av T → (∀ x, T x → ¬ un F1 x) → endS B W I σ G1 H1 (fun x => un F1 x ∨ T x) Dn o → Q v H1) : tD B W f σ H Q := by
  obtain ⟨G, ρ, F, o, c, e, z⟩ := h
  unfold evS at e
  cases hf : f ρ with
  | none => rw [hf] at e; cases e
  | some u =>
    rw [hf] at e
    cases u with
    | exc er ρ' => cases e; exact ⟨G, ρ, F, _, c, hf, exc_out z⟩
    | ok av ρ1 => exact ⟨G, ρ, F, _, c, hf, fun v G1 H1 F1 T c1 r n x => hk av ρ1 v G1 H1 F1 T o e c1 r n (endS_trans z .refl x)⟩
theorem tSD_L {f : Ev (List AV)} {k : List AV → Sv} {Q : List V → Hp → Prop} (h : tSD B W I (evS f k) Dn σ H)
    (hk : ∀ avs ρ1 vs G1 H1 F1 Wt o, k avs ρ1 = some o → Cfg B G1 H1 σ ρ1 F1 → RepAs B G1 H1 σ Wt vs avs → (∀ x, Wt x → ¬ un F1 x) → endS B W I σ G1 H1 (fun x => un F1 x ∨ Wt x) Dn o → Q vs H1) : tDL B W f σ H Q := by
  obtain ⟨G, ρ, F, o, c, e, z⟩ := h
  unfold evS at e
  cases hf : f ρ with
  | none => rw [hf] at e; cases e
  | some u =>
    rw [hf] at e
    cases u with
    | exc er ρ' => cases e; exact ⟨G, ρ, F, _, c, hf, exc_out z⟩
    | ok avs ρ1 => exact ⟨G, ρ, F, _, c, hf, fun v G1 H1 F1 T c1 r n x => hk avs ρ1 v G1 H1 F1 T o e c1 r n (endS_trans z .refl x)⟩
theorem tSD_T {f : Ev Bool} {k : Bool → Sv} {Q : Bool → Hp → Prop} (h : tSD B W I (evS f k) Dn σ H)
    (hk : ∀ b ρ1 G1 H1 F1 o, k b ρ1 = some o → Cfg B G1 H1 σ ρ1 F1 → endS B W I σ G1 H1 (un F1) Dn o → Q b H1) : tDT B W f σ H Q := by
  obtain ⟨G, ρ, F, o, c, e, z⟩ := h
  unfold evS at e
  cases hf : f ρ with
  | none => rw [hf] at e; cases e
  | some u =>
    rw [hf] at e
    cases u with
    | exc er ρ' => cases e; exact ⟨G, ρ, F, _, c, hf, exc_out z⟩
    | ok b ρ1 => exact ⟨G, ρ, F, _, c, hf, fun G1 H1 F1 c1 x => hk b ρ1 G1 H1 F1 o e c1 (endS_trans z .refl x)⟩
end
section
variable {ca : Nat → Addr} {X : Cx} {I : List Nat} {st : Stmt} {rest : List Stmt} {f g : Sv} {e : Expr} {fe : Ev AV} {pos : Pos}
theorem db_nil : DB ca X I [] sNil := fun W tk ps => PSs.imp pss_nil fun Dn σ H h => by
  obtain ⟨G, ρ, F, o, c, e, z⟩ := h
  cases e
  exact z σ G H F .refl c (.refl fun _ h => h)
theorem db_cons (h1 : DS ca X I st f) (h2 : DB ca X I rest g) : DB ca X I (st :: rest) (sSeq f g) := fun W tk ps => PSs.imp (pss_cons (h1 W tk ps) (h2 W tk ps)) fun Dn σ H h => tSD_seq h
theorem db_one (h1 : DS ca X I st f) : DB ca X I [st] f := fun W tk ps => pss_one (h1 W tk ps)
theorem ds_pass : DS ca X I (.Pass pos) sNil := fun W tk ps => PS.imp ps_pass fun Dn σ H h => by
  obtain ⟨G, ρ, F, o, c, e, z⟩ := h
  cases e
  exact z σ G H F .refl c (.refl fun _ h => h)
def sBrk : Sv := fun ρ => some (.brk ρ)
def sCnt : Sv := fun ρ => some (.cnt ρ)
theorem ds_break : DS ca X I (.Break pos) sBrk := fun W tk ps => PS.imp ps_break fun Dn σ H h => by
  obtain ⟨G, ρ, F, o, c, e, z⟩ := h
  cases e
  exact z σ G H F .refl c (.refl fun _ h => h)
theorem ds_continue : DS ca X I (.Continue pos) sCnt := fun W tk ps => PS.imp ps_continue fun Dn σ H h => by
  obtain ⟨G, ρ, F, o, c, e, z⟩ := h
  cases e
  exact z σ G H F .refl c (.refl fun _ h => h)
theorem ds_doc {x j pos pos'} : DS ca X I (.Expr (.Constant (.str x) j pos) pos') sNil := fun W tk ps => PS.imp ps_doc fun Dn σ H h => by
  obtain ⟨G, ρ, F, o, c, e, z⟩ := h
  cases e
  exact z σ G H F .refl c (.refl fun _ h => h)
/-- an expression by itself -/
def sExpr (f : Ev AV) : Sv := evS f fun _ ρ => some (.nx ρ)
theorem ds_expr (he : DE ca X e fe) (hs : swapsWith e none pos.line X.env = pure false := by rfl) : DS ca X I (.Expr e pos) (sExpr fe) := fun W tk ps => PS.imp (ps_expr (he W tk) hs) fun Dn σ H h =>
  tSD_E h fun av ρ1 v G1 H1 F1 T o ek c1 r n z => by
    cases ek
    exact z σ G1 H1 F1 .refl c1 (.refl fun x h => .inl h)
/-- if -/
def sIf (c : Ev Bool) (f g : Sv) : Sv := evS c fun b => if b = true then f else g
theorem ds_if {c : Expr} {a b : List Stmt} {fc : Ev Bool} (hc : DT ca X c fc) (ha : DB ca X I a f) (hb : DB ca X I b g) : DS ca X I (.If c a b pos) (sIf fc f g) := fun W tk ps => PS.imp (ps_if (hc W tk) (ha W tk ps) (hb W tk ps)) fun Dn σ H h =>
  tSD_T h fun b ρ1 G1 H1 F1 o ek c1 z => by
    cases b with
    | true => rw [if_pos rfl] at ek ⊢; exact ⟨G1, ρ1, F1, o, c1, ek, z⟩
    | false => rw [if_neg Bool.false_ne_true] at ek ⊢; exact ⟨G1, ρ1, F1, o, c1, ek, z⟩
/-- return e, frozen -/
def sRet (f : Ev AV) : Sv := evS f fun a ρ => match cont ρ a with
  | some d => some (.ret (frz d) (frzS (plS [a]) ρ))
  | none => none
theorem ds_ret (he : DE ca X e fe) : DS ca X I (.Return (some e) pos) (sRet fe) := fun W tk ps => PS.imp (ps_ret (he W tk)) fun Dn σ H h =>
  tSD_E h fun av ρ1 v G1 H1 F1 T o ek c1 r n z => by
    cases hc : cont ρ1 av with
    | none => rw [hc] at ek; cases ek
    | some d =>
      rw [hc] at ek
      cases ek
      obtain ⟨c2, x2⟩ := freeze_cfg c1 n (plS [av])
      have hcs : conts ρ1 [av] = some [d] := by unfold conts conts; rw [hc]
      have rr := freeze_reps c1 n (plS [av]) (.cons r (fun _ h => h) (.nil (Wt := nof)) (fun _ h => h.elim) fun _ _ h => h) hcs fun i h => h
      cases rr with
      | cons r' t => exact z v σ _ H1 _ nof .refl c2 r' (fun _ h => h.elim) (x2.mono (fun _ h => h) fun x h => h.elim id False.elim)
def sRetN : Sv := fun ρ => some (.ret .non ρ)
theorem ds_retN : DS ca X I (.Return none pos) sRetN := fun W tk ps => PS.imp ps_retN fun Dn σ H h => by
  obtain ⟨G, ρ, F, o, c, e, z⟩ := h
  cases e
  exact z .non σ G H F nof .refl c .non (fun _ h => h.elim) (.refl fun x h => h.elim id False.elim)
/-- return e, a thing of one's own (not a parameter's) -/
def sRetO (I : List Nat) (f : Ev AV) : Sv := evS f fun a ρ => match a with
  | .val d => some (.ret d ρ)
  | .pl i [] => if i ∈ I then none else match slotOf ρ i with
    | some d => some (.ret d (ρ.set i none))
    | none => none
  | .pl _ _ => none
theorem ds_retO (he : DE ca X e fe) : DS ca X I (.Return (some e) pos) (sRetO I fe) := fun W tk ps => PS.imp (ps_ret (he W tk)) fun Dn σ H h =>
  tSD_E h fun av ρ1 v G1 H1 F1 T o ek c1 r n z => by
    cases av with
    | val d => cases ek; exact z v σ G1 H1 F1 T .refl c1 r n (.refl fun x h => h)
    | pl i p =>
      cases p with
      | cons s p => cases ek
      | nil =>
      dsimp only at ek
      split at ek
      · cases ek
      · split at ek
        · rename_i d hd
          cases ek
          obtain ⟨⟨v0, e1, hp⟩, rfl⟩ := r
          cases hp
          obtain ⟨v', e2, r'⟩ := c1.at hd
          rw [e1] at e2
          cases e2
          refine z v σ G1 H1 _ (F1 i) .refl (c1.drop i) r' (fun x hx ⟨j, hj⟩ => hj.2 (c1.dis j i x hj.1 hx)) (.refl fun x h => .inl ?_)
          rcases h with ⟨j, hj⟩ | h
          · exact ⟨j, hj.1⟩
          · exact ⟨i, h⟩
        · cases ek
end

/-! ### names bound -/
theorem Cfg.setName {B : Bd} {G H : Hp} {σ : L2.St} {ρ : DEnv} {F : Nat → FP} {v : V} {d : D} {T : FP} (c : Cfg B G H σ ρ F) (i : Nat) (r : Rep B G H v d T) (n : ∀ x, T x → ¬ un F x) (hi : i < ρ.length) :
    Cfg B G H (σ.set i (some v)) (ρ.set i (some d)) (fun j x => (j = i ∧ T x) ∨ (j ≠ i ∧ F j x)) := by
  refine ⟨c.sub, by simpa using c.len, fun j d' e => ?_, fun j h x hx => ?_, fun j k x a b => ?_⟩
  · by_cases hj : j = i
    · subst hj
      rw [List.getElem?_set_self hi] at e
      cases e
      have en : (fun x => (j = j ∧ T x) ∨ (j ≠ j ∧ F j x)) = T := by funext x; exact propext ⟨fun z => z.elim (·.2) fun z => absurd rfl z.1, fun z => .inl ⟨rfl, z⟩⟩
      exact ⟨v, List.getElem?_set_self (by rw [← c.len]; exact hi), by rw [en]; exact r⟩
    · rw [List.getElem?_set_ne (Ne.symm hj)] at e
      obtain ⟨v', e1, r'⟩ := c.slot j d' e
      have en : (fun x => (j = i ∧ T x) ∨ (j ≠ i ∧ F j x)) = F j := by funext x; exact propext ⟨fun z => z.elim (fun z => absurd z.1 hj) (·.2), fun z => .inr ⟨hj, z⟩⟩
      exact ⟨v', by rw [List.getElem?_set_ne (Ne.symm hj)]; exact e1, by rw [en]; exact r'⟩
  · rcases hx with ⟨rfl, hx⟩ | ⟨hj, hx⟩
    · exact h d (List.getElem?_set_self hi)
    · obtain ⟨d', v', e1, e2, r'⟩ := c.own hx
      exact h d' (by rw [List.getElem?_set_ne (Ne.symm hj)]; exact e1)
  · rcases a with ⟨rfl, a⟩ | ⟨ha, a⟩ <;> rcases b with ⟨rfl, b⟩ | ⟨hb, b⟩
    · rfl
    · exact (n x a ⟨k, b⟩).elim
    · exact (n x b ⟨j, a⟩).elim
    · exact c.dis j k x a b
/-- values with their own addresses, apart from one another -/
inductive RepTs (B : Bd) (G H : Hp) : FP → List V → List D → Prop
  | nil {Wt : FP} : RepTs B G H Wt [] []
  | cons {Wt Wu T : FP} {v : V} {d : D} {vs : List V} {ds : List D} (r : Rep B G H v d T) (hT : ∀ x, T x → Wt x) (t : RepTs B G H Wu vs ds) (hu : ∀ x, Wu x → Wt x) (dj : ∀ x, T x → ¬ Wu x) : RepTs B G H Wt (v :: vs) (d :: ds)
def takeL (ρ : DEnv) : List AV → Option (List D)
  | [] => some []
  | .val d :: as => (takeL ρ as).map (d :: ·)
  | .pl i p :: as => match cont ρ (.pl i p), takeL ρ as with
    | some d, some ds => some (frz d :: ds)
    | _, _ => none
theorem RepTs.mono {B : Bd} {G H : Hp} {Wt Wu : FP} {vs : List V} {ds : List D} (h : ∀ b, Wt b → Wu b) (r : RepTs B G H Wt vs ds) : RepTs B G H Wu vs ds := by
  cases r with
  | nil => exact .nil
  | cons r hT t hu dj => exact .cons r (fun x k => h x (hT x k)) t (fun x k => h x (hu x k)) dj
theorem take_reps {B : Bd} {σ : L2.St} {G H : Hp} {ρ : DEnv} {F : Nat → FP} (c : Cfg B G H σ ρ F) (S : List Nat) : ∀ {Wt : FP} {vs : List V} {avs : List AV} {ds : List D}, (∀ x, Wt x → ¬ un F x) → RepAs B G H σ Wt vs avs → takeL ρ avs = some ds → (∀ i ∈ plS avs, i ∈ S) →
    RepTs B (gfr G H (frU G H F nof S)) H Wt vs ds
  | _, _, _, _, _, .nil, e, _ => by cases e; exact .nil
  | Wt, v :: vs, a :: as, ds, n, .cons (T := T) r hT t hu dj, e, hS => by
    have dm : ∀ x, frU G H F nof S x → (∃ o, H x = some o) ∧ G x = none := fun x h => by
      rcases h with ⟨_, h⟩ | ⟨i, _, h⟩
      · exact h
      · exact c.dom ⟨i, h⟩
    have gg : ∀ b o, G b = some o → gfr G H (frU G H F nof S) b = some o := fun b o e => by
      by_cases h : frU G H F nof S b
      · rw [(dm b h).2] at e; cases e
      · rw [gfr_out h]; exact e
    cases a with
    | val d' =>
      unfold takeL at e
      obtain ⟨ds', e1, rfl⟩ := Option.map_eq_some_iff.mp e
      have r' : Rep B G H v d' T := r
      refine .cons (r'.keep gg fun b hb => ⟨rfl, ?_⟩) hT (take_reps c S (fun x h => n x (hu x h)) t e1 fun i hi => hS i hi) hu dj
      rw [gfr_out fun z => by
        rcases z with ⟨z, _⟩ | ⟨i, _, z⟩
        · exact z
        · exact n b (hT b hb) ⟨i, z⟩]
      exact (r'.dom b hb).2
    | pl i p =>
      unfold takeL at e
      cases h1 : cont ρ (.pl i p) with
      | none => rw [h1] at e; cases e
      | some d =>
        cases h2 : takeL ρ as with
        | none => rw [h1, h2] at e; cases e
        | some ds' =>
          rw [h1, h2] at e
          cases e
          obtain ⟨U, r', s⟩ := r.cont c h1
          have hT' := r.2
          subst hT'
          exact .cons (r'.frozen gg fun b hb => gfr_in (.inr ⟨i, hS i (by simp [plS]), (s b hb).elim False.elim id⟩)) (fun _ h => h.elim) (take_reps c S (fun x h => n x (hu x h)) t h2 fun j hj => hS j (by simp [plS, hj])) hu fun _ h => h.elim
/-- names bound one behind the other -/
def setN (I : List Nat) : List Nat → List D → DEnv → Option DEnv
  | [], [], ρ => some ρ
  | i :: is, d :: ds, ρ => if i ∈ I ∨ ¬ i < ρ.length then none else setN I is ds (ρ.set i (some d))
  | _, _, _ => none
def setV : List Nat → List V → L2.St → L2.St
  | i :: is, v :: vs, σ => setV is vs (σ.set i (some v))
  | _, _, σ => σ
theorem setN_cfg {B : Bd} {G H : Hp} {I : List Nat} : ∀ {is : List Nat} {ds : List D} {vs : List V} {σ : L2.St} {ρ ρ' : DEnv} {F : Nat → FP} {Wt : FP}, Cfg B G H σ ρ F → RepTs B G H Wt vs ds → (∀ x, Wt x → ¬ un F x) → setN I is ds ρ = some ρ' →
    ∃ F', Cfg B G H (setV is vs σ) ρ' F' ∧ Prot I σ (setV is vs σ) ∧ ∀ x, un F' x → un F x ∨ Wt x
  | [], _, _, σ, ρ, ρ', F, Wt, c, .nil, n, e => by cases e; exact ⟨F, c, .refl, fun _ h => .inl h⟩
  | [], _, _, σ, ρ, ρ', F, Wt, c, .cons _ _ _ _ _, n, e => by cases e
  | i :: is, _, _, σ, ρ, ρ', F, Wt, c, .nil, n, e => by cases e
  | i :: is, d :: ds, v :: vs, σ, ρ, ρ', F, Wt, c, .cons (T := T) (Wu := Wu) r hT t hu dj, n, e => by
    unfold setN at e
    split at e
    · cases e
    · rename_i hi
      have hi1 : i ∉ I := fun z => hi (.inl z)
      have hi2 : i < ρ.length := Classical.byContradiction fun z => hi (.inr z)
      have c2 := c.setName i r (fun x h => n x (hT x h)) hi2
      obtain ⟨F', c3, p3, w3⟩ := setN_cfg c2 t (fun x h ⟨j, hj⟩ => by
        rcases hj with ⟨_, hj⟩ | ⟨_, hj⟩
        · exact dj x hj h
        · exact n x (hu x h) ⟨j, hj⟩) e
      refine ⟨F', c3, ⟨?_, fun j hj => ?_⟩, fun x hx => ?_⟩
      · show (setV is vs (σ.set i (some v))).length = _
        rw [p3.len]; simp
      · show (setV is vs (σ.set i (some v)))[j]? = _
        rw [p3.at_ j hj, List.getElem?_set_ne (fun z => hi1 (by rw [z]; exact hj))]
      · rcases w3 x hx with ⟨j, hj⟩ | hx
        · rcases hj with ⟨_, hj⟩ | ⟨_, hj⟩
          · exact .inr (hT x hj)
          · exact .inl ⟨j, hj⟩
        · exact .inr (hu x hx)
/-- several names, several values -/
def sAsg (I : List Nat) (is : List Nat) (fs : Ev (List AV)) : Sv := evS fs fun avs ρ => match takeL ρ avs with
  | none => none
  | some ds => (setN I is ds (frzS (plS avs) ρ)).map .nx
theorem asg_end {B : Bd} {W : WX} {I : List Nat} {σ : L2.St} {Dn : Ends} {is : List Nat} {avs : List AV} {ρ1 : DEnv} {vs : List V} {G1 H1 : Hp} {F1 : Nat → FP} {Wt : FP} {o : SOut}
    (ek : (match takeL ρ1 avs with
      | none => none
      | some ds => (setN I is ds (frzS (plS avs) ρ1)).map SOut.nx) = some o) (c1 : Cfg B G1 H1 σ ρ1 F1) (r : RepAs B G1 H1 σ Wt vs avs) (n : ∀ x, Wt x → ¬ un F1 x) (z : endS B W I σ G1 H1 (fun x => un F1 x ∨ Wt x) Dn o) :
    Dn.nx (setV is vs σ) H1 := by
  cases ht : takeL ρ1 avs with
  | none => rw [ht] at ek; cases ek
  | some ds =>
    rw [ht] at ek
    obtain ⟨ρ', e1, rfl⟩ := Option.map_eq_some_iff.mp ek
    obtain ⟨c2, x2⟩ := freeze_cfg (Wt := nof) c1 (fun _ h => h.elim) (plS avs)
    have rr := take_reps c1 (plS avs) n r ht fun i h => h
    obtain ⟨F', c3, p3, w3⟩ := setN_cfg c2 rr (fun x h ⟨j, hj⟩ => n x h ⟨j, hj.1⟩) e1
    have xx : Ext G1 H1 (fun x => un F1 x ∨ Wt x) (gfr G1 H1 (frU G1 H1 F1 nof (plS avs))) H1 (un F') := by
      have x3 := x2.mono (Wa := fun x => un F1 x ∨ Wt x) (Wb := un fun j x => F1 j x ∧ j ∉ plS avs) (fun x h => h.elim .inl False.elim) fun _ h => h
      refine ⟨x3.gg, x3.hh, fun b hb => ?_, x3.gn⟩
      rcases w3 b hb with ⟨j, hj⟩ | h
      · exact .inl (.inl ⟨j, hj.1⟩)
      · exact .inl (.inr h)
    exact z _ _ H1 F' p3 c3 xx
section
variable {ca : Nat → Addr} {X : Cx} {I : List Nat} {st : Stmt} {fe : Ev AV}
/-- x = e -/
theorem ds_set {i : Nat} (h : ∀ (te : TE) (W : WX), (te = tD ⟨X.K, ca⟩ W fe) → Takes X W → PS X st (tAsg te (gName i))) : DS ca X I st (sAsg I [i] (evCons fe evNil)) := fun W tk ps => PS.imp (h _ W rfl tk) fun Dn σ H q => by
  have q2 : tDL ⟨X.K, ca⟩ W (evCons fe evNil) σ H fun vs H1 => Dn.nx (setV [i] vs σ) H1 := tSD_L q fun avs ρ1 vs G1 H1 F1 Wt o ek c1 r n z => asg_end ek c1 r n z
  exact tD_map (tDL_cons q2) fun v H1 k => tDL_nil k
theorem ds_par {i j : Nat} {fs : Ev (List AV)} (h : ∀ (ta : TA) (W : WX), (ta = tDL ⟨X.K, ca⟩ W fs) → Takes X W → PS X st (tPar i j ta)) (h2 : ∀ ρ avs ρ', fs ρ = some (.ok avs ρ') → avs.length = 2) : DS ca X I st (sAsg I [i, j] fs) := fun W tk ps => PS.imp (h _ W rfl tk) fun Dn σ H q => by
  obtain ⟨G, ρ, F, o, c, e, z⟩ := q
  unfold sAsg evS at e
  cases hf : fs ρ with
  | none => rw [hf] at e; cases e
  | some u =>
    rw [hf] at e
    cases u with
    | exc er ρ' => cases e; exact ⟨G, ρ, F, _, c, hf, exc_out z⟩
    | ok avs ρ1 =>
      refine ⟨G, ρ, F, _, c, hf, fun vs G1 H1 F1 Wt c1 r n x => ?_⟩
      have hl := h2 ρ avs ρ1 hf
      have hv : ∃ v w, vs = [v, w] := by
        cases r with
        | nil => cases hl
        | cons r hT t hu dj => cases t with
          | nil => cases hl
          | cons r2 hT2 t2 hu2 dj2 => cases t2 with
            | nil => exact ⟨_, _, rfl⟩
            | cons => cases hl
      obtain ⟨v, w, rfl⟩ := hv
      exact ⟨v, w, rfl, asg_end e c1 r n (endS_trans z .refl x)⟩
theorem lockA_ok {α : Type} {a : AV} {g : Ev α} {ρ ρ' : DEnv} {x : α} (h : lockA a g ρ = some (.ok x ρ')) : ∃ ρ1 ρ2, g ρ1 = some (.ok x ρ2) := by
  have lk : ∀ {i p}, lockE i p g ρ = some (.ok x ρ') → ∃ ρ1 ρ2, g ρ1 = some (.ok x ρ2) := fun {i p} h => by
    cases hc : cont ρ (.pl i p) with
    | none => rw [lockE_no hc] at h; cases h
    | some dd =>
      cases hs : slotOf ρ i with
      | none => rw [cont_pl, hs] at hc; cases hc
      | some d0 =>
        cases hg : g (ρ.set i none) with
        | none => rw [lockE_none hg] at h; cases h
        | some u =>
          cases u with
          | exc e ρ2 => rw [lockE_exc hc hs hg] at h; cases h
          | ok y ρ2 => rw [lockE_ok hc hs hg] at h; cases h; exact ⟨_, _, hg⟩
  cases a with
  | val d => exact ⟨ρ, ρ', h⟩
  | pl i p => cases p with
    | nil => exact ⟨ρ, ρ', h⟩
    | cons s p => exact lk h
theorem evCons_len {fa : Ev AV} {g : Ev (List AV)} {ρ ρ' : DEnv} {avs : List AV} (h : evCons fa g ρ = some (.ok avs ρ')) : ∃ a as ρ1 ρ2, avs = a :: as ∧ g ρ1 = some (.ok as ρ2) := by
  unfold evCons at h
  cases h1 : fa ρ with
  | none => rw [andThen_none h1] at h; cases h
  | some o =>
    cases o with
    | exc e ρ1 => rw [andThen_exc h1] at h; cases h
    | ok a ρ1 =>
      rw [andThen_ok h1] at h
      cases h2 : lockA a g ρ1 with
      | none => rw [andThen_none h2] at h; cases h
      | some o2 =>
        cases o2 with
        | exc e ρ2 => rw [andThen_exc h2] at h; cases h
        | ok as ρ2 =>
          rw [andThen_ok h2] at h
          cases h
          obtain ⟨ρ3, ρ4, h3⟩ := lockA_ok h2
          exact ⟨a, as, ρ3, ρ4, rfl, h3⟩
theorem evCons2_len {fa fb : Ev AV} {ρ ρ' : DEnv} {avs : List AV} (h : evCons fa (evCons fb evNil) ρ = some (.ok avs ρ')) : avs.length = 2 := by
  obtain ⟨a, as, ρ1, ρ2, rfl, h1⟩ := evCons_len h
  obtain ⟨b, bs, ρ3, ρ4, rfl, h2⟩ := evCons_len h1
  cases h2
  rfl
end
end DL

namespace DL
open PySem PySem.Spec PyProof.Rows L2

/-! ### an item, also one that is own -/
theorem PathH.snoc {H : Hp} : ∀ {p : List PSt} {v0 v u : V} {s : PSt}, PathH H v0 p v → PathH H v [s] u → PathH H v0 (p ++ [s]) u
  | [], v0, v, u, s, h, k => by cases h; exact k
  | .ix j :: p, v0, v, u, s, h, k => by
    obtain ⟨a, vs, x, e, ha, hu, h⟩ := h
    exact ⟨a, vs, x, e, ha, hu, PathH.snoc h k⟩
  | .fl f :: p, v0, v, u, s, h, k => by
    obtain ⟨a, C, dx, fs, n, x, e, ha, hk, hu, h⟩ := h
    exact ⟨a, C, dx, fs, n, x, e, ha, hk, hu, PathH.snoc h k⟩
def ixK : List AV → Ev AV
  | [a, b] => fun ρ => match cont ρ a, cont ρ b with
    | some x, some y => match gIx [x, y] with
      | some d => some (.ok (.val d) ρ)
      | none => match a, x, y with
        | .pl i p, .ol ds, .int k => match ixN ds.length k with
          | some j => if j < ds.length then some (.ok (.pl i (p ++ [.ix j])) ρ) else none
          | none => none
        | _, _, _ => none
    | _, _ => none
  | _ => fun _ => none
def evIx (fa fb : Ev AV) : Ev AV := (evCons fa (evCons fb evNil)).andThen ixK
theorem RepAs.two {B : Bd} {G H : Hp} {σ : L2.St} {Wt : FP} {vs : List V} {a b : AV} (r : RepAs B G H σ Wt vs [a, b]) : ∃ x y T U, vs = [x, y] ∧ RepA B G H σ x a T ∧ RepA B G H σ y b U := by
  cases r with
  | cons r hT t hu dj => cases t with
    | cons r2 hT2 t2 hu2 dj2 => cases t2 with
      | nil => exact ⟨_, _, _, _, rfl, r, r2⟩
theorem RepAs.two' {B : Bd} {G H : Hp} {σ : L2.St} {Wt : FP} {x y : V} {avs : List AV} (r : RepAs B G H σ Wt [x, y] avs) : ∃ a b T U, avs = [a, b] ∧ RepA B G H σ x a T ∧ RepA B G H σ y b U := by
  cases r with
  | cons r hT t hu dj => cases t with
    | cons r2 hT2 t2 hu2 dj2 => cases t2 with
      | nil => exact ⟨_, _, _, _, rfl, r, r2⟩
section
variable {ca : Nat → Addr} {X : Cx} {a b : Expr} {fa fb : Ev AV} {pos : Pos}
theorem de_ix2 (ha : DE ca X a fa) (hb : DE ca X b fb) (hs : PlainIx b) : DE ca X (.Subscript a b pos) (evIx fa fb) :=
  fun W tk => PE.imp (pe_ix ix_seq (ha W tk) (hb W tk) hs) fun σ H Q h => by
    obtain ⟨G, ρ, F, o, c, e, z⟩ := h
    have q2 : tDL ⟨X.K, ca⟩ W (evCons fa (evCons fb evNil)) σ H fun vs H1 => ∀ x y, vs = [x, y] → rIx X.K x y H1 Q := by
      refine tDL_bind c e (fun er ρ' eo => by subst eo; exact z) fun avs ρ1 vs G1 H1 F1 Wt ek c1 r1 n1 x1 x y hv => ?_
      subst hv
      have x1' : Ext G H (un F) G1 H1 (un F1) := x1.mono (fun _ h => h) fun _ h => .inl h
      obtain ⟨a1, b1, T, U, rfl, rx, ry⟩ := r1.two'
      clear r1
      unfold ixK at ek
      dsimp only at ek
      cases ha1 : cont ρ1 a1 with
      | none => rw [ha1] at ek; cases ek
      | some dx =>
        cases hb1 : cont ρ1 b1 with
        | none => rw [ha1, hb1] at ek; cases ek
        | some dy =>
          rw [ha1, hb1] at ek
          dsimp only at ek
          obtain ⟨U1, r1, s1⟩ := rx.cont c1 ha1
          obtain ⟨U2, r2, s2⟩ := ry.cont c1 hb1
          cases hg : gIx [dx, dy] with
          | some d =>
            rw [hg] at ek
            cases ek
            have fin : ∀ {v}, Rep ⟨X.K, ca⟩ G1 H1 v d nof → Q v H1 := fun {v} r => z v G1 H1 F1 nof c1 r (fun _ h => h.elim) (x1'.mono (fun _ h => h) fun x h => h.elim id False.elim)
            unfold gIx at hg
            split at hg
            · rename_i zz i heq
              cases heq; cases r1; cases r2
              split at hg
              · rename_i hz
                obtain ⟨ch, e1, rfl⟩ := Option.map_eq_some_iff.mp hg
                exact .inr (.inr ⟨zz, i, ch, rfl, rfl, by rw [sizeLine_eq]; exact hz, e1, fin (.str _)⟩)
              · cases hg
            · rename_i x' i _ heq
              cases heq; cases r2
              split at hg
              · rename_i ds h1
                split at hg
                · rename_i d' h2
                  split at hg
                  · rename_i hs
                    cases hg
                    obtain ⟨a1, vs1, rfl, hq, l1, cc⟩ := r1.seq c1.sub h1
                    obtain ⟨w, j, e1, e2, e3⟩ := atI_pair l1 h2
                    obtain ⟨U, r⟩ := cc j w d e2 e3
                    have fin := fin (rep_sh r hs)
                    rcases hq with hq | hq
                    · exact .inl ⟨a1, vs1, i, w, rfl, rfl, hq, e1, fin⟩
                    · exact .inr (.inl ⟨a1, vs1, i, w, rfl, rfl, hq, e1, fin⟩)
                  · cases hg
                · cases hg
              · cases hg
            · cases hg
          | none =>
            rw [hg] at ek
            dsimp only at ek
            split at ek
            · rename_i i p ds k
              split at ek
              · rename_i j hj
                split at ek
                · rename_i hl
                  cases ek
                  cases r2
                  obtain ⟨⟨v0, e0, hp⟩, rfl⟩ := rx
                  cases r1 with
                  | ol h' g' l' c' bd dj na =>
                    rename_i aa vs1 FF
                    have hl1 : j < vs1.length := by rw [l']; exact hl
                    refine .inl ⟨aa, vs1, k, vs1[j], rfl, rfl, .of h', ?_, ?_⟩
                    · unfold atI
                      rw [l', hj]
                      exact List.getElem?_eq_getElem hl1
                    · refine z _ G1 H1 F1 nof c1 ⟨⟨v0, e0, hp.snoc ⟨aa, vs1, vs1[j], rfl, h', List.getElem?_eq_getElem hl1, rfl⟩⟩, rfl⟩ (fun _ h => h.elim) (x1'.mono (fun _ h => h) fun x h => h.elim id False.elim)
                · cases ek
              · cases ek
            · cases ek
    exact tD_map (tDL_cons q2) fun x H1 k => tD_map (tDL_cons k) fun y H2 k => tDL_nil k x y rfl
end

/-! ### a check of what a value is -/
def evChk (chk : D → Bool) (f : Ev AV) : Ev AV := f.andThen fun a ρ => match cont ρ a with
  | some d => if chk d = true then some (.ok a ρ) else none
  | none => none
theorem tD_chk {B : Bd} {W : WX} {σ : L2.St} {H : Hp} {chk : D → Bool} {f : Ev AV} {P : V → Hp → Prop} {Q : VK} (hP : ∀ G H v d U, (∀ b o, G b = some o → H b = some o) → Rep B G H v d U → chk d = true → P v H)
    (h : tD B W (evChk chk f) σ H Q) : tD B W f σ H fun v H1 => P v H1 ∧ Q v H1 := by
  obtain ⟨G, ρ, F, o, c, e, z⟩ := h
  refine tD_bind c e (fun er ρ' eo => by subst eo; exact z) fun av ρ1 v G1 H1 F1 T ek c1 r1 n1 x1 => ?_
  cases hc : cont ρ1 av with
  | none => rw [hc] at ek; cases ek
  | some d =>
    rw [hc] at ek
    dsimp only at ek
    split at ek
    · rename_i hk
      cases ek
      obtain ⟨U, r, _⟩ := r1.cont c1 hc
      exact ⟨hP _ _ _ _ _ c1.sub r hk, z v G1 H1 F1 T c1 r1 n1 x1⟩
    · cases ek
def isLst : D → Bool
  | .lst _ => true | .ol _ => true | .frl _ => true
  | _ => false
def isDct : D → Bool
  | .dct _ => true | .od _ => true
  | _ => false
def isStr : D → Bool
  | .str _ => true
  | _ => false
def tyOk (T : String) (chk : D → Bool) : Prop := ∀ (B : Bd) G H v d U, (∀ b o, G b = some o → H b = some o) → Rep B G H v d U → chk d = true → tyV B.K T v H
theorem ty_lst : tyOk "list" isLst := fun B G H v d U s r h => by
  cases r with
  | lst h' l c => exact .inl ⟨rfl, _, .of (s _ _ h')⟩
  | frl h' l c => exact .inl ⟨rfl, _, sqL_mono h' s⟩
  | ol h' g l c bd dj na => exact .inl ⟨rfl, _, .of h'⟩
  | _ => cases h
theorem ty_dct : tyOk "dict" isDct := fun B G H v d U s r h => by
  cases r with
  | dct h' l c => exact .inr (.inr (.inl ⟨rfl, .inl ⟨_, s _ _ h'⟩⟩))
  | od h' g l c bd dj na => exact .inr (.inr (.inl ⟨rfl, .inl ⟨_, h'⟩⟩))
  | _ => cases h
theorem ty_str : tyOk "str" isStr := fun B G H v d U s r h => by
  cases r with
  | str x => rfl
  | _ => cases h

/-! ### methods that change nothing -/
def MethD (ca : Nat → Addr) (X : Cx) (id : String) (g : List D → Option D) : Prop := MtR X id fun x xs H Q => rDL ⟨X.K, ca⟩ g (x :: xs) H Q
section
variable {ca : Nat → Addr} {X : Cx} {o e : Expr} {es : List Expr} {fo : Ev AV} {fs : Ev (List AV)} {name : Str} {apos cpos : Pos} {T id : String} {g : List D → Option D} {chk : D → Bool}
theorem de_bm (hk : tyOk T chk) (pa : PlainAttrs T) (slot : Slot T name id) (hty : typeOf (.builtin id) = pure (.type "method_descriptor")) (hm : MethD ca X id g) (ho : DE ca X o fo) (ha : DA ca X (e :: es) fs)
    (hbase : attributeBase o name X.env (eval o X.env) = eval o X.env := by rfl)
    (hfew : ((backTo cpos (starEach (e :: es) X.env)).all (fun x => !x.1) && (backToKw cpos (keywordEach [] X.env)).all (fun x => x.1.isSome)
      && decide ((e :: es).length + ([] : List Keyword).length + (if ([] : List Keyword).isEmpty then 0 else 1) < 30)) = true := by rfl)
    (hline : (apos.endLine == cpos.line) = true := by rfl) (hs : starEach (e :: es) X.env = (false, eval e X.env) :: starEach es X.env := by rfl) (hplain : (backTo cpos (starEach es X.env)).any (·.1) = false := by rfl) :
    DE ca X (.Call (.Attribute o name apos) (e :: es) [] cpos) (evOp g (evCons (evChk chk fo) fs)) := fun W tk =>
  PE.imp (pe_bm pa slot hty hm (ho W tk) (ha W tk) hbase hfew hline hs hplain) fun σ H Q h => tD_chk (hk ⟨X.K, ca⟩) (tDL_cons (tD_op h))
theorem de_bm0 (hk : tyOk T chk) (pa : PlainAttrs T) (slot : Slot T name id) (hty : typeOf (.builtin id) = pure (.type "method_descriptor")) (hm : MethD ca X id g) (ho : DE ca X o fo)
    (hbase : attributeBase o name X.env (eval o X.env) = eval o X.env := by rfl) (hline : (apos.endLine == cpos.line) = true := by rfl) :
    DE ca X (.Call (.Attribute o name apos) [] [] cpos) (evOp g (evCons (evChk chk fo) evNil)) := fun W tk =>
  PE.imp (pe_bm0 pa slot hty hm (ho W tk) hbase hline) fun σ H Q h => tD_chk (hk ⟨X.K, ca⟩) (tD_map (tDL_cons (tD_op h)) fun x H1 k => tDL_nil k)
end

/-! ### methods that change their own -/
/-- the part at a path is changed -/
theorem PathH.put {B : Bd} {G H : Hp} : ∀ {p : List PSt} {v0 v : V} {d0 d : D} {T : FP}, Rep B G H v0 d0 T → getP d0 p = some d → PathH H v0 p v →
    ∃ U, Rep B G H v d U ∧ (∀ x, U x → T x) ∧ ∀ G' H' U' e, Ext G H U G' H' U' → Rep B G' H' v e U' → ∃ e0, putP d0 p e = some e0 ∧ Rep B G' H' v0 e0 (fun y => (T y ∧ ¬ U y) ∨ U' y)
  | [], v0, v, d0, d, T, r, e, h => by
    cases h; cases e
    refine ⟨T, r, fun _ h => h, fun G' H' U' e x r' => ⟨e, rfl, ?_⟩⟩
    have en : (fun y => (T y ∧ ¬ T y) ∨ U' y) = U' := by funext y; exact propext ⟨fun z => z.elim (fun z => absurd z.1 z.2) id, .inr⟩
    rw [en]; exact r'
  | .ix j :: p, v0, v, d0, d, T, r, e, h => by
    obtain ⟨a, vs, u, rfl, ha, hu, h⟩ := h
    have rr := r
    cases r with
    | ol h' g l c bd dj na =>
      rename_i ds FF
      rw [h'] at ha; cases ha
      unfold getP at e
      split at e
      · rename_i d1 e2
        obtain ⟨U, r1, s1, k⟩ := PathH.put (c j u d1 hu e2) e h
        refine ⟨U, r1, fun x hx => .inr ⟨j, s1 x hx⟩, fun G' H' U' q x r' => ?_⟩
        obtain ⟨e0, p0, r0⟩ := k G' H' U' q x r'
        have hj : j < ds.length := (List.getElem?_eq_some_iff.mp e2).1
        have nU : ∀ {y}, U y → ∀ {o}, H y = some o → FF j y := fun hy _ _ => s1 _ hy
        have na' : ¬ U a := fun z => na j (s1 a z)
        have hn : ∀ y, U' y → U y ∨ H y = none := x.ww
        have ia : ∀ {y}, U' y → y ≠ a := fun {y} hy z => by
          subst z
          rcases hn _ hy with w | w
          · exact na' w
          · rw [h'] at w; cases w
        refine ⟨.ol (ds.set j e0), by unfold putP; rw [e2]; dsimp only; rw [p0]; rfl, ?_⟩
        have re := Rep.ol (B := B) (G := G') (H := H') (a := a) (vs := vs) (ds := ds.set j e0) (F := fun i y => (i = j ∧ ((FF j y ∧ ¬ U y) ∨ U' y)) ∨ (i ≠ j ∧ FF i y)) (x.hh a _ h' na') ?_ (by simpa using l) (fun i v' d' q1 q2 => ?_) (fun i y hy => ?_) (fun i i' y a1 a2 => ?_) (fun i hy => ?_)
        · have en : (fun y => y = a ∨ ∃ i, (i = j ∧ ((FF j y ∧ ¬ U y) ∨ U' y)) ∨ (i ≠ j ∧ FF i y)) = fun y => ((y = a ∨ ∃ i, FF i y) ∧ ¬ U y) ∨ U' y := by
            funext y
            refine propext ⟨fun z => ?_, fun z => ?_⟩
            · rcases z with rfl | ⟨i, ⟨rfl, ⟨z1, z2⟩ | z⟩ | ⟨z1, z2⟩⟩
              · exact .inl ⟨.inl rfl, na'⟩
              · exact .inl ⟨.inr ⟨i, z1⟩, z2⟩
              · exact .inr z
              · exact .inl ⟨.inr ⟨i, z2⟩, fun w => z1 (dj i j y z2 (s1 y w))⟩
            · rcases z with ⟨rfl | ⟨i, z1⟩, z2⟩ | z
              · exact .inl rfl
              · by_cases hi : i = j
                · subst hi; exact .inr ⟨i, .inl ⟨rfl, .inl ⟨z1, z2⟩⟩⟩
                · exact .inr ⟨i, .inr ⟨hi, z1⟩⟩
              · exact .inr ⟨j, .inl ⟨rfl, .inr z⟩⟩
          rw [en] at re
          exact re
        · cases w : G' a with
          | none => rfl
          | some o =>
            rcases x.gn a o w with w | w | w
            · rw [g] at w; cases w
            · exact (na' w).elim
            · rw [h'] at w; cases w
        · by_cases hi : i = j
          · subst hi
            rw [List.getElem?_set_self hj] at q2
            cases q2
            rw [hu] at q1; cases q1
            have en : (fun y => (i = i ∧ ((FF i y ∧ ¬ U y) ∨ U' y)) ∨ (i ≠ i ∧ FF i y)) = fun y => (FF i y ∧ ¬ U y) ∨ U' y := by funext y; exact propext ⟨fun z => z.elim (·.2) fun z => absurd rfl z.1, fun z => .inl ⟨rfl, z⟩⟩
            rw [en]; exact r0
          · rw [List.getElem?_set_ne (Ne.symm hi)] at q2
            have en : (fun y => (i = j ∧ ((FF j y ∧ ¬ U y) ∨ U' y)) ∨ (i ≠ j ∧ FF i y)) = FF i := by funext y; exact propext ⟨fun z => z.elim (fun z => absurd z.1 hi) (·.2), fun z => .inr ⟨hi, z⟩⟩
            rw [en]
            exact ((c i v' d' q1 q2).frame x fun b hb w => hi (dj i j b hb (s1 b w))).1
        · rw [List.length_set]
          rcases hy with ⟨rfl, _⟩ | ⟨_, hy⟩
          · exact hj
          · exact bd i y hy
        · have un : ∀ {i'}, i' ≠ j → FF i' y → ((FF j y ∧ ¬ U y) ∨ U' y) → False := fun {i'} h1 h2 h3 => by
            rcases h3 with h3 | h3
            · exact h1 (dj i' j y h2 h3.1)
            · rcases hn y h3 with w | w
              · exact h1 (dj i' j y h2 (s1 y w))
              · obtain ⟨⟨o, eo⟩, _⟩ := rr.dom y (.inr ⟨i', h2⟩)
                rw [eo] at w; cases w
          rcases a1 with ⟨rfl, a1⟩ | ⟨h1, a1⟩ <;> rcases a2 with ⟨rfl, a2⟩ | ⟨h2, a2⟩
          · rfl
          · exact (un h2 a2 a1).elim
          · exact (un h1 a1 a2).elim
          · exact dj i i' y a1 a2
        · rcases hy with ⟨rfl, hy | hy⟩ | ⟨_, hy⟩
          · exact na _ hy.1
          · exact ia hy rfl
          · exact na i hy
      · cases e
    | _ => simp [getP] at e
  | .fl f :: p, v0, v, d0, d, T, r, e, h => by
    obtain ⟨a, C, dx, fs, n, u, rfl, ha, hk, hu, h⟩ := h
    have rr := r
    cases r with
    | oi h' ho g g2 l c bd dj na na2 =>
      rename_i cc fs0 ds FF
      rw [h'] at ha; cases ha
      unfold getP at e
      have hk' := hk
      rw [kIdx_keys f l] at hk'
      rw [hk'] at e
      dsimp only at e
      split at e
      · rename_i f' d1 e2
        obtain ⟨U, r1, s1, k⟩ := PathH.put (c n f u f' d1 hu e2) e h
        have hff : f' = f := by
          obtain ⟨x1, y1, _⟩ := kIdx_get hk'
          rw [e2] at y1
          cases y1; rfl
        subst hff
        refine ⟨U, r1, fun x hx => .inr (.inr ⟨n, s1 x hx⟩), fun G' H' U' q x r' => ?_⟩
        obtain ⟨e0, p0, r0⟩ := k G' H' U' q x r'
        have hj : n < ds.length := (List.getElem?_eq_some_iff.mp e2).1
        have na' : ¬ U a := fun z => na n (s1 a z)
        have na2' : ¬ U dx := fun z => na2 n (s1 dx z)
        have hn : ∀ y, U' y → U y ∨ H y = none := x.ww
        have ia : ∀ {y}, U' y → y ≠ a := fun {y} hy z => by
          subst z
          rcases hn _ hy with w | w
          · exact na' w
          · rw [h'] at w; cases w
        have ia2 : ∀ {y}, U' y → y ≠ dx := fun {y} hy z => by
          subst z
          rcases hn _ hy with w | w
          · exact na2' w
          · rw [ho] at w; cases w
        have gno : ∀ {b o}, H b = some o → G b = none → ¬ U b → G' b = none := fun {b o} hb gb ub => by
          cases w : G' b with
          | none => rfl
          | some o' =>
            rcases x.gn b o' w with w | w | w
            · rw [gb] at w; cases w
            · exact (ub w).elim
            · rw [hb] at w; cases w
        refine ⟨.oi cc (ds.set n (f', e0)), by unfold putP; rw [hk']; dsimp only; rw [e2]; dsimp only; rw [p0]; rfl, ?_⟩
        have re := Rep.oi (B := B) (G := G') (H := H') (a := a) (dx := dx) (c := cc) (fs := fs) (ds := ds.set n (f', e0)) (F := fun i y => (i = n ∧ ((FF n y ∧ ¬ U y) ∨ U' y)) ∨ (i ≠ n ∧ FF i y)) (x.hh a _ h' na') (x.hh dx _ ho na2') (gno h' g na') (gno ho g2 na2') ?_ (fun i q1 v' q2 d' w1 w2 => ?_) (fun i y hy => ?_) (fun i i' y a1 a2 => ?_) (fun i hy => ?_) (fun i hy => ?_)
        · have en : (fun y => y = a ∨ y = dx ∨ ∃ i, (i = n ∧ ((FF n y ∧ ¬ U y) ∨ U' y)) ∨ (i ≠ n ∧ FF i y)) = fun y => ((y = a ∨ y = dx ∨ ∃ i, FF i y) ∧ ¬ U y) ∨ U' y := by
            funext y
            refine propext ⟨fun z => ?_, fun z => ?_⟩
            · rcases z with rfl | rfl | ⟨i, ⟨rfl, ⟨z1, z2⟩ | z⟩ | ⟨z1, z2⟩⟩
              · exact .inl ⟨.inl rfl, na'⟩
              · exact .inl ⟨.inr (.inl rfl), na2'⟩
              · exact .inl ⟨.inr (.inr ⟨i, z1⟩), z2⟩
              · exact .inr z
              · exact .inl ⟨.inr (.inr ⟨i, z2⟩), fun w => z1 (dj i n y z2 (s1 y w))⟩
            · rcases z with ⟨rfl | rfl | ⟨i, z1⟩, z2⟩ | z
              · exact .inl rfl
              · exact .inr (.inl rfl)
              · by_cases hi : i = n
                · subst hi; exact .inr (.inr ⟨i, .inl ⟨rfl, .inl ⟨z1, z2⟩⟩⟩)
                · exact .inr (.inr ⟨i, .inr ⟨hi, z1⟩⟩)
              · exact .inr (.inr ⟨n, .inl ⟨rfl, .inr z⟩⟩)
          rw [en] at re
          exact re
        · rw [l]
          have e3 : (ds.map (·.1))[n]? = some f' := by rw [List.getElem?_map, e2]; rfl
          refine List.ext_getElem? fun m => ?_
          rw [List.getElem?_map, List.getElem?_map]
          by_cases hm : m = n
          · subst hm; rw [List.getElem?_set_self hj, e2]; rfl
          · rw [List.getElem?_set_ne (Ne.symm hm)]
        · by_cases hi : i = n
          · subst hi
            rw [List.getElem?_set_self hj] at w2
            cases w2
            rw [hu] at w1; cases w1
            have en : (fun y => (i = i ∧ ((FF i y ∧ ¬ U y) ∨ U' y)) ∨ (i ≠ i ∧ FF i y)) = fun y => (FF i y ∧ ¬ U y) ∨ U' y := by funext y; exact propext ⟨fun z => z.elim (·.2) fun z => absurd rfl z.1, fun z => .inl ⟨rfl, z⟩⟩
            rw [en]; exact r0
          · rw [List.getElem?_set_ne (Ne.symm hi)] at w2
            have en : (fun y => (i = n ∧ ((FF n y ∧ ¬ U y) ∨ U' y)) ∨ (i ≠ n ∧ FF i y)) = FF i := by funext y; exact propext ⟨fun z => z.elim (fun z => absurd z.1 hi) (·.2), fun z => .inr ⟨hi, z⟩⟩
            rw [en]
            exact ((c i q1 v' q2 d' w1 w2).frame x fun b hb w => hi (dj i n b hb (s1 b w))).1
        · rw [List.length_set]
          rcases hy with ⟨rfl, _⟩ | ⟨_, hy⟩
          · exact hj
          · exact bd i y hy
        · have un : ∀ {i'}, i' ≠ n → FF i' y → ((FF n y ∧ ¬ U y) ∨ U' y) → False := fun {i'} h1 h2 h3 => by
            rcases h3 with h3 | h3
            · exact h1 (dj i' n y h2 h3.1)
            · rcases hn y h3 with w | w
              · exact h1 (dj i' n y h2 (s1 y w))
              · obtain ⟨⟨o, eo⟩, _⟩ := rr.dom y (.inr (.inr ⟨i', h2⟩))
                rw [eo] at w; cases w
          rcases a1 with ⟨rfl, a1⟩ | ⟨h1, a1⟩ <;> rcases a2 with ⟨rfl, a2⟩ | ⟨h2, a2⟩
          · rfl
          · exact (un h2 a2 a1).elim
          · exact (un h1 a1 a2).elim
          · exact dj i i' y a1 a2
        · rcases hy with ⟨rfl, hy | hy⟩ | ⟨_, hy⟩
          · exact na _ hy.1
          · exact ia hy rfl
          · exact na i hy
        · rcases hy with ⟨rfl, hy | hy⟩ | ⟨_, hy⟩
          · exact na2 _ hy.1
          · exact ia2 hy rfl
          · exact na2 i hy
      · cases e
    | _ => simp [getP] at e
end DL

namespace DL
open PySem PySem.Spec PyProof.Rows L2

/-! ### what changes its own -/
def mutK (gm : D → List D → Option (D × D)) (ex : List D) : List AV → Ev AV
  | .pl i p :: as => fun ρ => match conts ρ as, slotOf (frzS (plS as) ρ) i with
    | some ds, some d0 => match getP d0 p with
      | some d => match gm d (ds.map frz ++ ex) with
        | some (d', r) => if r.sh = true then (putP d0 p d').map fun e => .ok (.val r) ((frzS (plS as) ρ).set i (some e)) else none
        | none => none
      | none => none
    | _, _ => none
  | _ => fun _ => none
def rMu (B : Bd) (gm : D → List D → Option (D × D)) : V → List V → Hp → VK → Prop := fun x xs H Q => ∃ G d U ds d' r, (∀ b o, G b = some o → H b = some o) ∧ Rep B G H x d U ∧ Paired (fun v d => Rep B G H v d nof) xs ds ∧ gm d ds = some (d', r) ∧
  ∀ v G' H' U', (∀ b o, G' b = some o → H' b = some o) → Rep B G' H' x d' U' → Rep B G' H' v r nof → Ext G H U G' H' U' → Q v H'
section
variable {B : Bd} {W : WX} {σ : L2.St}
theorem paired_append {α β : Type} {R : α → β → Prop} : ∀ {xs : List α} {ys : List β} {us : List α} {ws : List β}, Paired R xs ys → Paired R us ws → Paired R (xs ++ us) (ys ++ ws)
  | _, _, _, _, .nil, h => h
  | _, _, _, _, .cons r t, h => .cons r (paired_append t h)
theorem mut_end {gm : D → List D → Option (D × D)} {G1 H1 : Hp} {ρ : DEnv} {F : Nat → FP} {Wt : FP} {x : V} {xs : List V} {avs : List AV} {ex : List D} {xe : List V} {o : Out AV} {Q : VK} (c : Cfg B G1 H1 σ ρ F) (r : RepAs B G1 H1 σ Wt (x :: xs) avs) (n : ∀ y, Wt y → ¬ un F y)
    (hx : Paired (fun v d => Rep B G1 H1 v d nof) xe ex) (e : mutK gm ex avs ρ = some o) (z : endE B W σ G1 H1 (fun y => un F y ∨ Wt y) Q o) : rMu B gm x (xs ++ xe) H1 Q := by
  cases r with
  | cons rx hT t hu dj =>
    rename_i Wu T a as
    cases a with
    | val d => cases e
    | pl i p =>
      obtain ⟨⟨v0, e0, hp⟩, rfl⟩ := rx
      unfold mutK at e
      dsimp only at e
      cases h1 : conts ρ as with
      | none => rw [h1] at e; cases e
      | some ds =>
        cases h2 : slotOf (frzS (plS as) ρ) i with
        | none => rw [h1, h2] at e; cases e
        | some d0 =>
          rw [h1, h2] at e
          dsimp only at e
          cases h3 : getP d0 p with
          | none => rw [h3] at e; cases e
          | some d =>
            rw [h3] at e
            dsimp only at e
            cases h4 : gm d (ds.map frz ++ ex) with
            | none => rw [h4] at e; cases e
            | some q =>
              obtain ⟨d', y⟩ := q
              rw [h4] at e
              dsimp only at e
              split at e
              · rename_i hy
                obtain ⟨e1, h5, rfl⟩ := Option.map_eq_some_iff.mp e
                have n2 : ∀ y, Wu y → ¬ un F y := fun y h => n y (hu y h)
                obtain ⟨c2, x2⟩ := freeze_cfg c n2 (plS as)
                have rs := freeze_reps c n2 (plS as) t h1 fun i h => h
                obtain ⟨v0', e0', r0⟩ := c2.at h2
                rw [e0] at e0'
                cases e0'
                obtain ⟨U, rU, sU, k⟩ := hp.put r0 h3
                refine ⟨_, d, U, _, d', y, c2.sub, rU, paired_append rs (L2.Paired.mapP hx fun v d r => r.stay x2), h4, fun v G' H' U' s' r1 r2 x3 => ?_⟩
                obtain ⟨e2, k1, k2⟩ := k _ _ _ _ x3 r1
                rw [h5] at k1
                cases k1
                have cd := (c2.drop i).apart x3 s' fun b ⟨j, hj⟩ hb => hj.2 (c2.dis j i b hj.1 (sU b hb))
                have ap : ∀ y, (F i y ∧ i ∉ plS as) → ∀ j, (F j y ∧ j ∉ plS as) → j = i := fun y h j hj => c2.dis j i y hj h
                have cn := cd.put i e0 k2 fun y hy j hj => by
                  rcases hy with ⟨hy, _⟩ | hy
                  · exact ap y hy j hj.1
                  · rcases x3.ww y hy with w | w
                    · exact ap y (sU y w) j hj.1
                    · obtain ⟨⟨oo, eo⟩, _⟩ := c2.dom ⟨j, hj.1⟩
                      rw [eo] at w; cases w
                rw [List.set_set] at cn
                refine z v G' H' _ nof cn r2 (fun _ h => h.elim) ?_
                have x4 := (x2.mono (Wa := fun y => un F y ∨ Wt y) (Wb := un fun j y => F j y ∧ j ∉ plS as) (fun y h => h.imp id (hu y)) fun _ h => h).trans (x3.mono (Wa := un fun j y => F j y ∧ j ∉ plS as) (Wb := U') (fun y h => ⟨i, sU y h⟩) fun _ h => h)
                refine ⟨x4.gg, x4.hh, fun b hb => ?_, x4.gn⟩
                rcases hb with ⟨j, ⟨_, ⟨hb, _⟩ | hb⟩ | ⟨_, hb⟩⟩ | hb
                · exact .inl (.inl ⟨i, hb.1⟩)
                · exact x4.ww b hb
                · exact .inl (.inl ⟨j, hb.1.1⟩)
                · exact hb.elim
              · cases e
end
def evMut (gm : D → List D → Option (D × D)) (fs : Ev (List AV)) : Ev AV := fs.andThen (mutK gm [])
theorem tDL_map {B : Bd} {W : WX} {σ : L2.St} {H : Hp} {f : Ev (List AV)} {Q Q' : List V → Hp → Prop} (h : tDL B W f σ H Q) (k : ∀ v H', Q v H' → Q' v H') : tDL B W f σ H Q' := by
  obtain ⟨G, ρ, F, o, c, e, z⟩ := h
  refine ⟨G, ρ, F, o, c, e, ?_⟩
  cases o with
  | ok av ρ' => exact fun v G' H' F' T c r n x => k _ _ (z v G' H' F' T c r n x)
  | exc er ρ' => exact z
theorem tD_mut {B : Bd} {W : WX} {σ : L2.St} {H : Hp} {gm : D → List D → Option (D × D)} {f : Ev AV} {fs : Ev (List AV)} {Q : VK} (h : tD B W (evMut gm (evCons f fs)) σ H Q) : tD B W f σ H fun x H1 => tDL B W fs σ H1 fun xs H2 => rMu B gm x xs H2 Q := by
  obtain ⟨G, ρ, F, o, c, e, z⟩ := h
  have q : tDL B W (evCons f fs) σ H fun vs H1 => ∀ x xs, vs = x :: xs → rMu B gm x xs H1 Q := by
    refine tDL_bind c e (fun er ρ' eo => by subst eo; exact z) fun avs ρ1 vs G1 H1 F1 Wt ek c1 r1 n1 x1 x xs hv => ?_
    subst hv
    have := mut_end (xe := []) c1 r1 n1 .nil ek (endE_trans z x1)
    rw [List.append_nil] at this
    exact this
  exact tD_map (tDL_cons q) fun x H1 k => tDL_map k fun xs H2 k => k x xs rfl
def MutD (ca : Nat → Addr) (X : Cx) (id : String) (gm : D → List D → Option (D × D)) : Prop := MtR X id fun x xs H Q => rMu ⟨X.K, ca⟩ gm x xs H Q
section
variable {ca : Nat → Addr} {X : Cx} {o e : Expr} {es : List Expr} {fo : Ev AV} {fs : Ev (List AV)} {name : Str} {apos cpos : Pos} {T id : String} {gm : D → List D → Option (D × D)} {chk : D → Bool}
theorem de_mu (hk : tyOk T chk) (pa : PlainAttrs T) (slot : Slot T name id) (hty : typeOf (.builtin id) = pure (.type "method_descriptor")) (hm : MutD ca X id gm) (ho : DE ca X o fo) (ha : DA ca X (e :: es) fs)
    (hbase : attributeBase o name X.env (eval o X.env) = eval o X.env := by rfl)
    (hfew : ((backTo cpos (starEach (e :: es) X.env)).all (fun x => !x.1) && (backToKw cpos (keywordEach [] X.env)).all (fun x => x.1.isSome)
      && decide ((e :: es).length + ([] : List Keyword).length + (if ([] : List Keyword).isEmpty then 0 else 1) < 30)) = true := by rfl)
    (hline : (apos.endLine == cpos.line) = true := by rfl) (hs : starEach (e :: es) X.env = (false, eval e X.env) :: starEach es X.env := by rfl) (hplain : (backTo cpos (starEach es X.env)).any (·.1) = false := by rfl) :
    DE ca X (.Call (.Attribute o name apos) (e :: es) [] cpos) (evMut gm (evCons (evChk chk fo) fs)) := fun W tk =>
  PE.imp (pe_bm pa slot hty hm (ho W tk) (ha W tk) hbase hfew hline hs hplain) fun σ H Q h => tD_chk (hk ⟨X.K, ca⟩) (tD_mut h)
theorem de_mu0 (hk : tyOk T chk) (pa : PlainAttrs T) (slot : Slot T name id) (hty : typeOf (.builtin id) = pure (.type "method_descriptor")) (hm : MutD ca X id gm) (ho : DE ca X o fo)
    (hbase : attributeBase o name X.env (eval o X.env) = eval o X.env := by rfl) (hline : (apos.endLine == cpos.line) = true := by rfl) :
    DE ca X (.Call (.Attribute o name apos) [] [] cpos) (evMut gm (evCons (evChk chk fo) evNil)) := fun W tk =>
  PE.imp (pe_bm0 pa slot hty hm (ho W tk) hbase hline) fun σ H Q h => tD_chk (hk ⟨X.K, ca⟩) (tD_map (tD_mut h) fun x H1 k => tDL_nil k)
end

/-! ### an own list's items -/
/-- an own list's items change; m tells where each of the new ones stood -/
theorem ol_change {B : Bd} {G H : Hp} {a : Addr} {ds : List D} {U : FP} (r : Rep B G H (.ref a) (.ol ds) U) : ∃ vs, H a = some (.lst vs) ∧ vs.length = ds.length ∧ ∀ (vs' : List V) (ds' : List D) (m : Nat → Option Nat), vs'.length = ds'.length → (∀ i j k, m i = some k → m j = some k → i = j) →
    (∀ (i : Nat) v d, vs'[i]? = some v → ds'[i]? = some d → (∃ j, m i = some j ∧ vs[j]? = some v ∧ ds[j]? = some d) ∨ (m i = none ∧ Rep B G H v d nof)) → ∃ U', Rep B G (upd H a (.lst vs')) (.ref a) (.ol ds') U' ∧ Ext G H U G (upd H a (.lst vs')) U' := by
  have rr := r
  cases r with
  | ol h g l c bd dj na =>
    rename_i vs FF
    refine ⟨vs, h, l, fun vs' ds' m l' mi k => ?_⟩
    refine ⟨fun y => y = a ∨ ∃ i, ∃ j, m i = some j ∧ i < ds'.length ∧ FF j y, ?_, ⟨fun _ _ e => e, fun b o e nb => ?_, fun b hb => .inl ?_, fun _ _ e => .inl e⟩⟩
    · refine Rep.ol (F := fun i y => ∃ j, m i = some j ∧ i < ds'.length ∧ FF j y) upd_same g l' (fun i v d e1 e2 => ?_) (fun i x ⟨j, _, h, _⟩ => h) (fun i i' x ⟨j, e1, _, h1⟩ ⟨j', e2, _, h2⟩ => ?_) (fun i ⟨j, _, _, h⟩ => na j h)
      · have hi : i < ds'.length := (List.getElem?_eq_some_iff.mp e2).1
        rcases k i v d e1 e2 with ⟨j, k1, k2, k3⟩ | ⟨k1, k2⟩
        · have en : (fun y => ∃ j, m i = some j ∧ i < ds'.length ∧ FF j y) = FF j := by
            funext y
            exact propext ⟨fun ⟨j', a1, _, a2⟩ => by rw [k1] at a1; cases a1; exact a2, fun z => ⟨j, k1, hi, z⟩⟩
          rw [en]
          exact (c j v d k2 k3).keep (fun _ _ e => e) fun b hb => ⟨upd_ne fun z => na j (by rw [← z]; exact hb), (rr.dom b (.inr ⟨j, hb⟩)).2⟩
        · have en : (fun y => ∃ j, m i = some j ∧ i < ds'.length ∧ FF j y) = nof := by
            funext y
            exact propext ⟨fun ⟨j', a1, _⟩ => (by rw [k1] at a1; cases a1), fun z => z.elim⟩
          rw [en]
          exact k2.up
      · have := dj j j' x h1 h2
        subst this
        exact mi i i' j e1 e2
    · rw [upd_ne fun z => nb (.inl z)]
      exact e
    · rcases hb with rfl | ⟨i, j, _, _, hb⟩
      · exact .inl rfl
      · exact .inr ⟨j, hb⟩
def gmAppend : D → List D → Option (D × D)
  | .ol ds, [x] => if ds.length < 16777216 then some (.ol (ds ++ [x]), .non) else none
  | _, _ => none
def gmInsert : D → List D → Option (D × D)
  | .ol ds, [.int i, x] => if ds.length < 16777216 ∧ i = 0 then some (.ol (x :: ds), .non) else none
  | _, _ => none
def gmPop : D → List D → Option (D × D)
  | .ol ds, [] => match ds.getLast? with
    | some d => if d.sh = true then some (.ol ds.dropLast, d) else none
    | none => none
  | _, _ => none
def gmExtend : D → List D → Option (D × D)
  | .ol ds, [.lst xs] => if ds.length + xs.length ≤ 16777216 then some (.ol (ds ++ xs), .non) else none
  | _, _ => none
def gmSet : D → List D → Option (D × D)
  | .ol ds, [.int i, x] => match ixN ds.length i with
    | some j => some (.ol (ds.set j x), .non)
    | none => none
  | _, _ => none
theorem paired1 {R : V → D → Prop} {xs : List V} {d : D} (h : Paired R xs [d]) : ∃ x, xs = [x] ∧ R x d := by
  cases h with | cons r t => cases t; exact ⟨_, rfl, r⟩
theorem paired2 {R : V → D → Prop} {xs : List V} {d e : D} (h : Paired R xs [d, e]) : ∃ x y, xs = [x, y] ∧ R x d ∧ R y e := by
  cases h with | cons r t => cases t with | cons r2 t => cases t; exact ⟨_, _, rfl, r, r2⟩
theorem rep_ol_ref {B : Bd} {G H : Hp} {x : V} {ds : List D} {U : FP} (r : Rep B G H x (.ol ds) U) : ∃ a, x = .ref a := by cases r; exact ⟨_, rfl⟩
section
variable {ca : Nat → Addr} {X : Cx}
theorem mutD_append : MutD ca X "list.append" gmAppend := by
  intro pins s σ H x xs v us Q I rx rs h
  obtain ⟨G, d, U, ds, d', r, sub, rd, rr, e, q⟩ := h
  unfold gmAppend at e
  split at e
  · rename_i items y
    split at e
    · rename_i hz
      cases e
      obtain ⟨y', rfl, ry⟩ := paired1 rr
      obtain ⟨a, rfl⟩ := rep_ol_ref rd
      obtain ⟨vs, ha, l, ch⟩ := ol_change rd
      obtain ⟨U', r', x'⟩ := ch (vs ++ [y']) (items ++ [y]) (fun i => if i < items.length then some i else none) (by simp [l]) (fun i j k h1 h2 => by
        split at h1 <;> split at h2 <;> cases h1 <;> cases h2 <;> rfl) fun i v d e1 e2 => by
        rcases get_append e1 with ⟨hi, e1⟩ | ⟨hi, e1⟩
        · rw [List.getElem?_append_left (by omega)] at e2
          exact .inl ⟨i, if_pos (by omega), e1, e2⟩
        · rw [List.getElem?_append_right (by omega), ← l] at e2
          refine .inr ⟨if_neg (by omega), ?_⟩
          cases hk : i - vs.length with
          | zero => rw [hk] at e1 e2; cases e1; cases e2; exact ry
          | succ k => rw [hk] at e1; cases e1
      exact mt_append pins s σ H _ _ v us Q I rx rs ⟨a, vs, y', rfl, rfl, ha, by rw [sizeLine_eq, l]; exact hz, q _ _ _ _ (fun b o eb => by
        rw [upd_ne (fun z => by rw [z, (rd.dom a (by cases rd; exact .inl rfl)).2] at eb; cases eb)]; exact sub b o eb) r' .non x'⟩
    · cases e
  · cases e
theorem g_upd {B : Bd} {G H : Hp} {a : Addr} {ds : List D} {U : FP} {o : HO} (rd : Rep B G H (.ref a) (.ol ds) U) (sub : ∀ b o, G b = some o → H b = some o) : ∀ b u, G b = some u → upd H a o b = some u := fun b u eb => by
  have hd : U a := by cases rd; exact .inl rfl
  rw [upd_ne (fun z => by rw [z, (rd.dom a hd).2] at eb; cases eb)]
  exact sub b u eb
theorem mutD_insert : MutD ca X "list.insert" gmInsert := by
  intro pins s σ H x xs v us Q I rx rs h
  obtain ⟨G, d, U, ds, d', r, sub, rd, rr, e, q⟩ := h
  unfold gmInsert at e
  split at e
  · rename_i items i y
    split at e
    · rename_i hz
      obtain ⟨hz, rfl⟩ := hz
      cases e
      obtain ⟨i', y', rfl, ri, ry⟩ := paired2 rr
      cases ri
      obtain ⟨a, rfl⟩ := rep_ol_ref rd
      obtain ⟨vs, ha, l, ch⟩ := ol_change rd
      obtain ⟨U', r', x'⟩ := ch (y' :: vs) (y :: items) (fun i => match i with | 0 => none | i + 1 => some i) (by simp [l]) (fun i j k h1 h2 => by
        cases i <;> cases j <;> simp_all) fun i v d e1 e2 => by
        cases i with
        | zero => cases e1; cases e2; exact .inr ⟨rfl, ry⟩
        | succ i => exact .inl ⟨i, rfl, by simpa using e1, by simpa using e2⟩
      refine mt_insert pins s σ H _ _ v us Q I rx rs ⟨a, vs, 0, y', rfl, rfl, ha, by rw [sizeLine_eq, l]; exact hz, by decide, by decide, ?_⟩
      have := q .non _ _ _ (g_upd rd sub) r' .non x'
      simpa using this
    · cases e
  · cases e
theorem mutD_pop : MutD ca X "list.pop" gmPop := by
  intro pins s σ H x xs v us Q I rx rs h
  obtain ⟨G, d, U, ds, d', r, sub, rd, rr, e, q⟩ := h
  unfold gmPop at e
  split at e
  · rename_i items
    split at e
    · rename_i y hl
      split at e
      · rename_i hs
        injection e with e
        injection e with e1 e2
        subst e1
        subst e2
        cases rr
        obtain ⟨a, rfl⟩ := rep_ol_ref rd
        obtain ⟨vs, ha, l, ch⟩ := ol_change rd
        obtain ⟨U', r', x'⟩ := ch vs.dropLast items.dropLast (fun i => some i) (by simp [l]) (fun i j k h1 h2 => by cases h1; cases h2; rfl) fun i v d e1 e2 => by
          refine .inl ⟨i, rfl, ?_, ?_⟩
          · rw [List.getElem?_dropLast] at e1; split at e1 <;> first | exact e1 | cases e1
          · rw [List.getElem?_dropLast] at e2; split at e2 <;> first | exact e2 | cases e2
        rw [List.getLast?_eq_getElem?] at hl
        have hlt : items.length - 1 < items.length := (List.getElem?_eq_some_iff.mp hl).1
        have hv : vs[vs.length - 1]? = some (vs[vs.length - 1]'(by omega)) := List.getElem?_eq_getElem (by omega)
        have ry : ∃ U, Rep ⟨X.K, ca⟩ G H (vs[vs.length - 1]'(by omega)) y U := by
          cases rd with
          | ol h' g' l' c' bd dj na =>
            rw [ha] at h'
            cases h'
            exact ⟨_, c' (items.length - 1) _ _ (by rw [← l]; exact hv) hl⟩
        obtain ⟨U2, ry⟩ := ry
        exact mt_pop pins s σ H _ _ v us Q I rx rs ⟨a, vs, _, rfl, rfl, ha, hv, q _ _ _ _ (g_upd rd sub) r' (rep_sh ry hs).up x'⟩
      · cases e
    · cases e
  · cases e
theorem mutD_extend : MutD ca X "list.extend" gmExtend := by
  intro pins s σ H x xs v us Q I rx rs h
  obtain ⟨G, d, U, ds, d', r, sub, rd, rr, e, q⟩ := h
  unfold gmExtend at e
  split at e
  · rename_i items ys
    split at e
    · rename_i hz
      cases e
      obtain ⟨y', rfl, ry⟩ := paired1 rr
      obtain ⟨a, rfl⟩ := rep_ol_ref rd
      obtain ⟨vs, ha, l, ch⟩ := ol_change rd
      cases ry with
      | lst h' l' c' =>
        rename_i b ws
        obtain ⟨U', r', x'⟩ := ch (vs ++ ws) (items ++ ys) (fun i => if i < items.length then some i else none) (by simp [l, l']) (fun i j k h1 h2 => by
          split at h1 <;> split at h2 <;> cases h1 <;> cases h2 <;> rfl) fun i v d e1 e2 => by
          rcases get_append e1 with ⟨hi, e1⟩ | ⟨hi, e1⟩
          · rw [List.getElem?_append_left (by omega)] at e2
            exact .inl ⟨i, if_pos (by omega), e1, e2⟩
          · rw [List.getElem?_append_right (by omega), ← l] at e2
            exact .inr ⟨if_neg (by omega), c' _ v d e1 e2⟩
        exact mt_extend pins s σ H _ _ v us Q I rx rs ⟨a, b, vs, ws, rfl, rfl, ha, sub _ _ h', by rw [sizeLine_eq, l, l']; exact hz, q _ _ _ _ (g_upd rd sub) r' .non x'⟩
    · cases e
  · cases e
/-- xs[i] = v -/
def SetD (ca : Nat → Addr) (X : Cx) (gm : D → List D → Option (D × D)) : Prop := PSet X fun o i v H Q => rMu ⟨X.K, ca⟩ gm o [i, v] H fun _ H' => Q H'
theorem setD_list : SetD ca X gmSet := by
  intro pins s σ H x i y ov iv u Q I rx ri ry h
  obtain ⟨G, d, U, ds, d', r, sub, rd, rr, e, q⟩ := h
  unfold gmSet at e
  split at e
  · rename_i items k y'
    split at e
    · rename_i j hj
      cases e
      obtain ⟨i', y2, e2, r1, r2⟩ := paired2 rr
      cases e2
      cases r1
      obtain ⟨a, rfl⟩ := rep_ol_ref rd
      obtain ⟨vs, ha, l, ch⟩ := ol_change rd
      have hjl := (ixN_seq hj).2.1
      obtain ⟨U', r', x'⟩ := ch (vs.set j y) (items.set j y') (fun i => if i = j then none else some i) (by simp [l]) (fun i j k h1 h2 => by
        split at h1 <;> split at h2 <;> cases h1 <;> cases h2 <;> rfl) fun i v d e1 e2 => by
        by_cases hi : i = j
        · subst hi
          rw [List.getElem?_set_self (by omega)] at e1
          rw [List.getElem?_set_self hjl] at e2
          cases e1; cases e2
          exact .inr ⟨if_pos rfl, r2⟩
        · rw [List.getElem?_set_ne (Ne.symm hi)] at e1 e2
          exact .inl ⟨i, if_neg hi, e1, e2⟩
      exact set_list pins s σ H _ _ _ ov iv u Q I rx ri ry ⟨a, vs, k, j, rfl, rfl, ha, by rw [l]; exact hj, q .non _ _ _ (g_upd rd sub) r' .non x'⟩
    · cases e
  · cases e
end
end DL

namespace DL
open PySem PySem.Spec PyProof.Rows L2

/-! ### calls of the text's own defs -/
inductive FOut where
  | ok (d : D) (outs : List D) | exc (e : D) (outs : List D)
abbrev Mir := List D → Option FOut
def endC (B : Bd) (vs : List V) (G H : Hp) (W0 : FP) (Q : VK) (E : XK) : FOut → Prop
  | .ok d outs => ∀ v G' H' F' T, Cfg B G' H' (vs.map some) (outs.map some) F' → Rep B G' H' v d T → (∀ x, T x → ¬ un F' x) → Ext G H W0 G' H' (fun x => un F' x ∨ T x) → Q v H'
  | .exc e outs => ∀ G' H' F' cls dx, Cfg B G' H' (vs.map some) (outs.map some) F' → ExcAt B G' cls dx e → Ext G H W0 G' H' (un F') → E cls dx H'
def spD (B : Bd) (n : Nat) (m : Mir) : Sp := fun vs H Q E => vs.length = n ∧ ∃ G ds F o, Cfg B G H (vs.map some) (ds.map some) F ∧ m ds = some o ∧ endC B vs G H (un F) Q E o

def argD (ρ ρ1 : DEnv) : List Bool → List AV → Option (List (D × Option Nat))
  | [], [] => some []
  | true :: ms, .pl i [] :: as => match slotOf ρ1 i, argD ρ ρ1 ms as with
    | some d, some r => some ((d, some i) :: r)
    | _, _ => none
  | _ :: ms, a :: as => match cont ρ a, argD ρ ρ1 ms as with
    | some d, some r => some ((frz d, none) :: r)
    | _, _ => none
  | _, _ => none
def nio : List Bool → List AV → List Nat
  | true :: ms, .pl _ [] :: as => nio ms as
  | _ :: ms, a :: as => plS [a] ++ nio ms as
  | _, _ => []
def setOut : List (D × Option Nat) → List D → DEnv → DEnv
  | (_, some i) :: r, o :: os, ρ => setOut r os (ρ.set i (some o))
  | (_, none) :: r, _ :: os, ρ => setOut r os ρ
  | _, _, ρ => ρ
def callK (ms : List Bool) (m : Mir) (avs : List AV) : Ev AV := fun ρ => match argD ρ (frzS (nio ms avs) ρ) ms avs with
  | none => none
  | some l => if (l.filterMap (·.2)).Nodup then match m (l.map (·.1)) with
    | some (.ok d outs) => if outs.length = l.length then some (.ok (.val d) (setOut l outs (frzS (nio ms avs) ρ))) else none
    | some (.exc e outs) => if outs.length = l.length then some (.exc e (setOut l outs (frzS (nio ms avs) ρ))) else none
    | none => none
    else none
def evCall (ms : List Bool) (m : Mir) (fs : Ev (List AV)) : Ev AV := fs.andThen (callK ms m)

theorem arg_reps {B : Bd} {σ : L2.St} {G H : Hp} {ρ : DEnv} {F : Nat → FP} (c : Cfg B G H σ ρ F) {Wt0 : FP} (n : ∀ x, Wt0 x → ¬ un F x) (S : List Nat) : ∀ {ms : List Bool} {Wt : FP} {vs : List V} {avs : List AV} {l : List (D × Option Nat)}, (∀ x, Wt x → Wt0 x) → RepAs B G H σ Wt vs avs →
    argD ρ (frzS S ρ) ms avs = some l → (∀ i ∈ nio ms avs, i ∈ S) → vs.length = l.length ∧ ∀ (k : Nat) v d s, vs[k]? = some v → l[k]? = some (d, s) →
      (s = none → Rep B (gfr G H (frU G H F Wt0 S)) H v d nof) ∧ ∀ i, s = some i → σ[i]? = some (some v) ∧ slotOf (frzS S ρ) i = some d := by
  have dm : ∀ x, frU G H F Wt0 S x → (∃ o, H x = some o) ∧ G x = none := fun x h => by
    rcases h with ⟨_, h⟩ | ⟨i, _, h⟩
    · exact h
    · exact c.dom ⟨i, h⟩
  have gg : ∀ b o, G b = some o → gfr G H (frU G H F Wt0 S) b = some o := fun b o e => by
    by_cases h : frU G H F Wt0 S b
    · rw [(dm b h).2] at e; cases e
    · rw [gfr_out h]; exact e
  intro ms
  induction ms with
  | nil =>
    intro Wt vs avs l hW r e hS
    cases r with
    | nil => cases e; exact ⟨rfl, fun k v d s h => by simp at h⟩
    | cons => cases e
  | cons b ms ih =>
    intro Wt vs avs l hW r e hS
    cases r with
    | nil => cases b <;> cases e
    | cons rx hT t hu dj =>
      rename_i Wu T v a vs as
      have plain : ∀ {l}, (match cont ρ a, argD ρ (frzS S ρ) ms as with
          | some d, some r => some ((frz d, none) :: r)
          | _, _ => none) = some l → (∀ i ∈ plS [a] ++ nio ms as, i ∈ S) → (v :: vs).length = l.length ∧ ∀ (k : Nat) v' d s, (v :: vs)[k]? = some v' → l[k]? = some (d, s) →
      (s = none → Rep B (gfr G H (frU G H F Wt0 S)) H v' d nof) ∧ ∀ i, s = some i → σ[i]? = some (some v') ∧ slotOf (frzS S ρ) i = some d := fun {l} e hS => by
        cases h1 : cont ρ a with
        | none => rw [h1] at e; cases e
        | some d =>
          cases h2 : argD ρ (frzS S ρ) ms as with
          | none => rw [h1, h2] at e; cases e
          | some r =>
            rw [h1, h2] at e
            cases e
            obtain ⟨hl, hk⟩ := ih (fun x h => hW x (hu x h)) t h2 fun i hi => hS i (by simp [hi])
            refine ⟨by simp [hl], fun k v' d' s e1 e2 => ?_⟩
            cases k with
            | succ k => exact hk k v' d' s (by simpa using e1) (by simpa using e2)
            | zero =>
              simp at e1 e2
              obtain ⟨rfl, rfl⟩ := e2
              subst e1
              refine ⟨fun _ => ?_, fun i h => (by cases h)⟩
              obtain ⟨U, r', s⟩ := rx.cont c h1
              refine r'.frozen gg fun b hb => gfr_in ?_
              rcases s b hb with z | z
              · exact .inl ⟨hW b (hT b z), rx.dom b z⟩
              · cases a with
                | val d => exact z.elim
                | pl i p => exact .inr ⟨i, hS i (by simp [plS]), z⟩
      cases b with
      | false => exact plain (by cases a <;> exact e) (by cases a <;> exact hS)
      | true =>
        cases a with
        | val d => exact plain e hS
        | pl i p =>
          cases p with
          | cons q p => exact plain e hS
          | nil =>
            unfold argD at e
            cases h1 : slotOf (frzS S ρ) i with
            | none => rw [h1] at e; cases e
            | some d =>
              cases h2 : argD ρ (frzS S ρ) ms as with
              | none => rw [h1, h2] at e; cases e
              | some r =>
                rw [h1, h2] at e
                cases e
                obtain ⟨hl, hk⟩ := ih (fun x h => hW x (hu x h)) t h2 fun j hj => hS j hj
                refine ⟨by simp [hl], fun k v' d' s e1 e2 => ?_⟩
                cases k with
                | succ k => exact hk k v' d' s (by simpa using e1) (by simpa using e2)
                | zero =>
                  simp at e1 e2
                  obtain ⟨rfl, rfl⟩ := e2
                  subst e1
                  refine ⟨fun h => (by cases h), fun j h => ?_⟩
                  cases h
                  obtain ⟨⟨v0, e0, hp⟩, _⟩ := rx
                  cases hp
                  exact ⟨e0, h1⟩
theorem nodup_slot : ∀ {l : List (D × Option Nat)}, (l.filterMap (·.2)).Nodup → ∀ {k k' : Nat} {d d' : D} {i : Nat}, l[k]? = some (d, some i) → l[k']? = some (d', some i) → k = k'
  | [], _, k, _, _, _, _, h, _ => by simp at h
  | (d0, s) :: r, hn, k, k', d, d', i, h, h' => by
    have nr : (r.filterMap (·.2)).Nodup := by
      cases s with
      | none => simpa using hn
      | some j => simp at hn; exact hn.2
    have mem : ∀ {k : Nat} {d : D} {j : Nat}, r[k]? = some (d, some j) → j ∈ r.filterMap (·.2) := fun {k d j} h => List.mem_filterMap.mpr ⟨(d, some j), List.mem_of_getElem? h, rfl⟩
    cases k with
    | zero =>
      cases k' with
      | zero => rfl
      | succ k' =>
        simp at h h'
        obtain ⟨rfl, rfl⟩ := h
        have := mem h'
        simp at hn
        exact absurd this (by simpa using hn.1)
    | succ k =>
      cases k' with
      | zero =>
        simp at h h'
        obtain ⟨rfl, rfl⟩ := h'
        have := mem h
        simp at hn
        exact absurd this (by simpa using hn.1)
      | succ k' => exact congrArg (· + 1) (nodup_slot nr (k := k) (k' := k') (by simpa using h) (by simpa using h'))
theorem setOut_len : ∀ (l : List (D × Option Nat)) (os : List D) (ρ : DEnv), (setOut l os ρ).length = ρ.length
  | [], _, _ => rfl
  | (_, some i) :: r, [], _ => rfl
  | (_, none) :: r, [], _ => rfl
  | (_, some i) :: r, o :: os, ρ => by rw [setOut, setOut_len r]; simp
  | (_, none) :: r, o :: os, ρ => by rw [setOut, setOut_len r]
theorem setOut_out : ∀ {l : List (D × Option Nat)} {os : List D} {ρ : DEnv} {j : Nat}, (∀ (k : Nat) (d : D), l[k]? ≠ some (d, some j)) → (setOut l os ρ)[j]? = ρ[j]?
  | [], _, _, _, _ => rfl
  | (_, some i) :: r, [], _, _, _ => rfl
  | (_, none) :: r, [], _, _, _ => rfl
  | (d, some i) :: r, o :: os, ρ, j, h => by
    rw [setOut, setOut_out fun k d' e => h (k + 1) d' (by simpa using e)]
    exact List.getElem?_set_ne fun z => h 0 d (by simp [z])
  | (d, none) :: r, o :: os, ρ, j, h => by
    rw [setOut, setOut_out fun k d' e => h (k + 1) d' (by simpa using e)]
theorem setOut_in : ∀ {l : List (D × Option Nat)} {os : List D} {ρ : DEnv} {j k : Nat} {d : D}, (l.filterMap (·.2)).Nodup → l[k]? = some (d, some j) → os.length = l.length → j < ρ.length → (setOut l os ρ)[j]? = some os[k]?
  | [], _, _, _, k, _, _, h, _, _ => by simp at h
  | (_, some i) :: r, [], _, _, _, _, _, _, hl, _ => by cases hl
  | (_, none) :: r, [], _, _, _, _, _, _, hl, _ => by cases hl
  | (d0, none) :: r, o :: os, ρ, j, k, d, hn, h, hl, hj => by
    cases k with
    | zero => simp at h
    | succ k =>
      rw [setOut, setOut_in (by simpa using hn) (by simpa using h) (by simpa using hl) hj]
      simp
  | (d0, some i) :: r, o :: os, ρ, j, k, d, hn, h, hl, hj => by
    have hn' := hn
    simp at hn
    cases k with
    | zero =>
      simp at h
      obtain ⟨rfl, rfl⟩ := h
      rw [setOut, setOut_out fun k d' e => ?_, List.getElem?_set_self hj]
      · simp
      · have := nodup_slot hn' (k := 0) (k' := k + 1) (d := d0) (d' := d') (i := i) rfl (by simpa using e)
        cases this
    | succ k =>
      rw [setOut, setOut_in hn.2 (by simpa using h) (by simpa using hl) (by simpa using hj)]
      simp
section
variable {B : Bd} {W : WX} {σ : L2.St}
theorem call_end {ms : List Bool} {m : Mir} {n : Nat} {G H : Hp} {ρ : DEnv} {F : Nat → FP} {Wt : FP} {vs : List V} {avs : List AV} {o : Out AV} {Q : VK} (c : Cfg B G H σ ρ F) (r : RepAs B G H σ Wt vs avs) (hn : ∀ y, Wt y → ¬ un F y)
    (e : callK ms m avs ρ = some o) (z : endE B W σ G H (fun y => un F y ∨ Wt y) Q o) (hl : vs.length = n) : spD B n m vs H Q (WE W σ) := by
  unfold callK at e
  cases h1 : argD ρ (frzS (nio ms avs) ρ) ms avs with
  | none => rw [h1] at e; cases e
  | some l =>
    rw [h1] at e
    dsimp only at e
    split at e
    · rename_i nd
      obtain ⟨c2, x2⟩ := freeze_cfg c hn (nio ms avs)
      obtain ⟨hlen, hk⟩ := arg_reps c hn (nio ms avs) (fun _ h => h) r h1 fun i h => h
      -- the callee's view
      have lv : ∀ {k : Nat} {d : D}, (l.map (·.1))[k]? = some d → ∃ s, l[k]? = some (d, s) := fun {k d} h => by
        rw [List.getElem?_map] at h
        obtain ⟨⟨d', s⟩, q, rfl⟩ := Option.map_eq_some_iff.mp h
        exact ⟨s, q⟩
      have cc : Cfg B (gfr G H (frU G H F Wt (nio ms avs))) H (vs.map some) ((l.map (·.1)).map some) (fun (k : Nat) x => ∃ (d : D) (i : Nat), l[k]? = some (d, some i) ∧ (F i x ∧ i ∉ nio ms avs)) := by
        refine ⟨c2.sub, by simp [hlen], fun k d q => ?_, fun k q x hx => ?_, fun k k' x a b => ?_⟩
        · rw [List.getElem?_map] at q
          obtain ⟨d', q, e9⟩ := Option.map_eq_some_iff.mp q
          cases e9
          obtain ⟨s, q⟩ := lv q
          have hkl : k < vs.length := by rw [hlen]; exact (List.getElem?_eq_some_iff.mp q).1
          refine ⟨vs[k], by rw [List.getElem?_map, List.getElem?_eq_getElem hkl]; rfl, ?_⟩
          obtain ⟨k1, k2⟩ := hk k vs[k] d s (List.getElem?_eq_getElem hkl) q
          cases s with
          | none =>
            have en : (fun x => ∃ (d : D) (i : Nat), l[k]? = some (d, some i) ∧ (F i x ∧ i ∉ nio ms avs)) = nof := by
              funext x
              exact propext ⟨fun ⟨d2, i, w, _⟩ => (by rw [q] at w; cases w), fun w => w.elim⟩
            rw [en]; exact k1 rfl
          | some i =>
            obtain ⟨w1, w2⟩ := k2 i rfl
            obtain ⟨v', w3, w4⟩ := c2.at w2
            rw [w1] at w3
            cases w3
            have en : (fun x => ∃ (d : D) (i : Nat), l[k]? = some (d, some i) ∧ (F i x ∧ i ∉ nio ms avs)) = fun x => F i x ∧ i ∉ nio ms avs := by
              funext x
              exact propext ⟨fun ⟨d2, j, w, w'⟩ => (by rw [q] at w; cases w; exact w'), fun w => ⟨d, i, q, w⟩⟩
            rw [en]; exact w4
        · obtain ⟨d, i, q2, _⟩ := hx
          exact q d (by rw [List.getElem?_map, List.getElem?_map, q2]; rfl)
        · obtain ⟨d, i, q1, w1⟩ := a
          obtain ⟨d', i', q2, w2⟩ := b
          have := c.dis i i' x w1.1 w2.1
          subst this
          exact nodup_slot nd q1 q2
      -- behind the call: the caller's view
      have back : ∀ {outs : List D} {G' H' : Hp} {F' : Nat → FP} {T : FP}, outs.length = l.length → Cfg B G' H' (vs.map some) (outs.map some) F' → (∀ x, T x → ¬ un F' x) →
          Ext (gfr G H (frU G H F Wt (nio ms avs))) H (un fun (k : Nat) x => ∃ (d : D) (i : Nat), l[k]? = some (d, some i) ∧ (F i x ∧ i ∉ nio ms avs)) G' H' (fun x => un F' x ∨ T x) →
          ∃ Fn, Cfg B G' H' σ (setOut l outs (frzS (nio ms avs) ρ)) Fn ∧ (∀ x, T x → ¬ un Fn x) ∧ Ext G H (fun y => un F y ∨ Wt y) G' H' (fun x => un Fn x ∨ T x) := fun {outs G' H' F' T} ho c3 n3 x3 => by
        have apart : ∀ j, (∀ (k : Nat) (d : D), l[k]? ≠ some (d, some j)) → ∀ b, (F j b ∧ j ∉ nio ms avs) → ¬ un (fun (k : Nat) x => ∃ (d : D) (i : Nat), l[k]? = some (d, some i) ∧ (F i x ∧ i ∉ nio ms avs)) b := fun j hj b hb ⟨k, d, i, q, w⟩ => by
          have := c.dis i j b w.1 hb.1
          subst this
          exact hj k d q
        have fr : ∀ j, (∀ (k : Nat) (d : D), l[k]? ≠ some (d, some j)) → ∀ b, (F j b ∧ j ∉ nio ms avs) → ¬ (un F' b ∨ T b) := fun j hj b hb w => by
          obtain ⟨d, v, _, _, r'⟩ := c2.own hb
          exact (r'.frame x3 (apart j hj)).2 b hb w
        refine ⟨fun j x => (∃ (k : Nat) (d : D), l[k]? = some (d, some j) ∧ F' k x) ∨ ((∀ (k : Nat) (d : D), l[k]? ≠ some (d, some j)) ∧ (F j x ∧ j ∉ nio ms avs)), ⟨c3.sub, by rw [setOut_len]; exact c2.len, fun j d q => ?_, fun j q x hx => ?_, fun j j' x a b => ?_⟩, fun x hx hu => ?_, ?_⟩
        · by_cases hj : ∃ (k : Nat) (d : D), l[k]? = some (d, some j)
          · obtain ⟨k, d0, hj⟩ := hj
            have hkl : k < vs.length := by rw [hlen]; exact (List.getElem?_eq_some_iff.mp hj).1
            obtain ⟨_, k2⟩ := hk k vs[k] d0 _ (List.getElem?_eq_getElem hkl) hj
            obtain ⟨w1, w2⟩ := k2 j rfl
            have hjl : j < (frzS (nio ms avs) ρ).length := by rw [c2.len]; exact (List.getElem?_eq_some_iff.mp w1).1
            rw [setOut_in nd hj ho hjl] at q
            have q' : outs[k]? = some d := by simpa using q
            obtain ⟨v', w3, w4⟩ := c3.slot k d (by rw [List.getElem?_map, q']; rfl)
            rw [List.getElem?_map, List.getElem?_eq_getElem hkl] at w3
            cases w3
            refine ⟨_, w1, ?_⟩
            have en : (fun x => (∃ (k : Nat) (d : D), l[k]? = some (d, some j) ∧ F' k x) ∨ ((∀ (k : Nat) (d : D), l[k]? ≠ some (d, some j)) ∧ (F j x ∧ j ∉ nio ms avs))) = F' k := by
              funext x
              refine propext ⟨fun w => ?_, fun w => .inl ⟨k, d0, hj, w⟩⟩
              rcases w with ⟨k', d', q1, w⟩ | ⟨w, _⟩
              · rw [nodup_slot nd hj q1]; exact w
              · exact (w k d0 hj).elim
            rw [en]; exact w4
          · have hj' : ∀ (k : Nat) (d : D), l[k]? ≠ some (d, some j) := fun k d q => hj ⟨k, d, q⟩
            rw [setOut_out hj'] at q
            obtain ⟨v', w3, w4⟩ := c2.slot j d q
            refine ⟨v', w3, ?_⟩
            have en : (fun x => (∃ (k : Nat) (d : D), l[k]? = some (d, some j) ∧ F' k x) ∨ ((∀ (k : Nat) (d : D), l[k]? ≠ some (d, some j)) ∧ (F j x ∧ j ∉ nio ms avs))) = fun x => F j x ∧ j ∉ nio ms avs := by
              funext x
              exact propext ⟨fun w => w.elim (fun ⟨k, d, q, _⟩ => (hj' k d q).elim) (·.2), fun w => .inr ⟨hj', w⟩⟩
            rw [en]
            exact (w4.frame x3 (apart j hj')).1
        · rcases hx with ⟨k, d0, hj, hx⟩ | ⟨hj, hx⟩
          · have hkl : k < vs.length := by rw [hlen]; exact (List.getElem?_eq_some_iff.mp hj).1
            obtain ⟨_, k2⟩ := hk k vs[k] d0 _ (List.getElem?_eq_getElem hkl) hj
            obtain ⟨w1, w2⟩ := k2 j rfl
            have hjl : j < (frzS (nio ms avs) ρ).length := by rw [c2.len]; exact (List.getElem?_eq_some_iff.mp w1).1
            have hko : k < outs.length := by rw [ho, ← hlen]; exact hkl
            refine q outs[k] ?_
            rw [setOut_in nd hj ho hjl, List.getElem?_eq_getElem hko]
          · obtain ⟨d, v, w1, _, _⟩ := c2.own hx
            exact q d (by rw [setOut_out hj]; exact w1)
        · rcases a with ⟨k, d, q1, a⟩ | ⟨hj, a⟩ <;> rcases b with ⟨k', d', q2, b⟩ | ⟨hj', b⟩
          · have := c3.dis k k' x a b
            subst this
            rw [q1] at q2; cases q2; rfl
          · exact (fr j' hj' x b (.inl ⟨k, a⟩)).elim
          · exact (fr j hj x a (.inl ⟨k', b⟩)).elim
          · exact c.dis j j' x a.1 b.1
        · obtain ⟨j, ⟨k, d, _, hj⟩ | ⟨hj, w⟩⟩ := hu
          · exact n3 x hx ⟨k, hj⟩
          · exact fr j hj x w (.inr hx)
        · have x4 := x2.trans (x3.mono (Wa := un fun j x => F j x ∧ j ∉ nio ms avs) (fun x ⟨k, d, i, _, w⟩ => ⟨i, w⟩) fun _ h => h)
          refine ⟨x4.gg, x4.hh, fun b hb => ?_, x4.gn⟩
          rcases hb with ⟨j, ⟨k, d, _, hb⟩ | ⟨_, hb⟩⟩ | hb
          · exact x4.ww b (.inl ⟨k, hb⟩)
          · exact .inl (.inl ⟨j, hb.1⟩)
          · exact x4.ww b (.inr hb)
      cases h2 : m (l.map (·.1)) with
      | none => rw [h2] at e; cases e
      | some fo =>
        rw [h2] at e
        cases fo with
        | ok d outs =>
          dsimp only at e
          split at e
          · rename_i ho
            cases e
            refine ⟨hl, _, _, _, _, cc, h2, fun v G' H' F' T c3 r3 n3 x3 => ?_⟩
            obtain ⟨Fn, c4, n4, x4⟩ := back ho c3 n3 x3
            exact z v G' H' Fn T c4 r3 n4 x4
          · cases e
        | exc er outs =>
          dsimp only at e
          split at e
          · rename_i ho
            cases e
            refine ⟨hl, _, _, _, _, cc, h2, fun G' H' F' cls dx c3 r3 x3 => ?_⟩
            obtain ⟨Fn, c4, n4, x4⟩ := back (T := nof) ho c3 (fun _ h => h.elim) (x3.mono (fun _ h => h) fun _ h => h.elim id False.elim)
            exact z G' H' Fn cls dx c4 r3 (x4.mono (fun _ h => h) fun _ h => .inl h)
          · cases e
    · cases e
end
end DL

namespace DL
open PySem PySem.Spec PyProof.Rows L2

section
variable {ca : Nat → Addr} {X : Cx} {k : Nat} {f : Addr} {fd : FuncData} {ps : List Str} {x : Str} {p pos : Pos} {e : Expr} {es : List Expr} {fs : Ev (List AV)} {m : Mir}
/-- what a def of the text is: it keeps the promise of the plain function m -/
abbrev FnD (P : Program) (w : World) (K : PySem.W.Frag) (mg : Str → Option Value) (base : Heap) (ca : Nat → Addr) (k : Nat) (f : Addr) (fd : FuncData) (ps : List Str) (m : Mir) : Prop := FnOk P w K mg base (L2.CX P w) k f fd ps (spD ⟨K, ca⟩ ps.length m)
theorem tD_call {B : Bd} {W : WX} {σ : L2.St} {H : Hp} {ms : List Bool} {n : Nat} {Q : VK} (h : tD B W (evCall ms m fs) σ H Q) (hn : ∀ ρ avs ρ', fs ρ = some (.ok avs ρ') → avs.length = n) : tDL B W fs σ H fun vs H1 => spD B n m vs H1 Q (WE W σ) := by
  obtain ⟨G, ρ, F, o, c, e, z⟩ := h
  unfold evCall at e
  cases hf : fs ρ with
  | none => rw [andThen_none hf] at e; cases e
  | some u =>
    cases u with
    | exc er ρ' => rw [andThen_exc hf] at e; cases e; exact ⟨G, ρ, F, _, c, hf, z⟩
    | ok avs ρ1 =>
      rw [andThen_ok hf] at e
      refine ⟨G, ρ, F, _, c, hf, fun vs G1 H1 F1 Wt c1 r n1 x => ?_⟩
      have hl : vs.length = n := by
        rw [← hn ρ avs ρ1 hf]
        clear e hf hn
        induction r with
        | nil => rfl
        | cons r hT t hu dj ih => exact congrArg (· + 1) (ih (fun y h => n1 y (hu y h)) (x.mono (fun _ h => h) fun y h => h.imp id (hu y)))
      exact call_end c1 r n1 e (endE_trans z x) hl
/-- f(a, b, ..); modes: true where an own thing is lent -/
theorem de_call {ms : List Bool} (F : FnD X.prog X.w X.K X.mg X.base ca k f fd ps m) (hr : Room k X.A) (hm : X.mg x = some (.ref f)) (hk : PySem.W.keepIn X.K (.ref f) = true) (hb : Binds X.K fd ps []) (ha : DA ca X (e :: es) fs)
    (hn : ∀ ρ avs ρ', fs ρ = some (.ok avs ρ') → avs.length = ps.length) (hg : Gl X x := by rfl) (hdb : (x == ("__debug__" : Str)) = false := by decide) (he : starEach (e :: es) X.env = (false, eval e X.env) :: starEach es X.env := by rfl) (hpl : (backTo pos (starEach es X.env)).any (·.1) = false := by rfl) :
    DE ca X (.Call (.Name x p) (e :: es) [] pos) (evCall ms m fs) := fun W tk =>
  PE.imp (pe_callS F hr hg hm hk hb (fun σ => passAt tk σ) (ha W tk) hdb he hpl) fun σ H Q h => tD_call h hn
end
theorem len_nil : ∀ ρ avs ρ', evNil ρ = some (.ok avs ρ') → avs.length = 0 := fun ρ avs ρ' h => by cases h; rfl
theorem len_cons {f : Ev AV} {g : Ev (List AV)} {n : Nat} (h : ∀ ρ avs ρ', g ρ = some (.ok avs ρ') → avs.length = n) : ∀ ρ avs ρ', evCons f g ρ = some (.ok avs ρ') → avs.length = n + 1 := fun ρ avs ρ' e => by
  obtain ⟨a, as, ρ1, ρ2, rfl, e2⟩ := evCons_len e
  simp [h _ _ _ e2]

/-! ### a def's body -/
def outsD (I : List Nat) (ds : List D) (ρ' : DEnv) : Nat → Option (List D)
  | 0 => some []
  | n + 1 => match outsD I ds ρ' n, (if n ∈ I then slotOf ρ' n else ds[n]?) with
    | some os, some d => some (os ++ [d])
    | _, _ => none
theorem outsD_spec {I : List Nat} {ds : List D} {ρ' : DEnv} : ∀ {n : Nat} {os : List D}, outsD I ds ρ' n = some os → os.length = n ∧ ∀ i, i < n → os[i]? = if i ∈ I then slotOf ρ' i else ds[i]?
  | 0, os, h => by cases h; exact ⟨rfl, fun i h => by omega⟩
  | n + 1, os, h => by
    unfold outsD at h
    cases h1 : outsD I ds ρ' n with
    | none => rw [h1] at h; cases h
    | some os' =>
      cases h2 : (if n ∈ I then slotOf ρ' n else ds[n]?) with
      | none => rw [h1, h2] at h; cases h
      | some d =>
        rw [h1, h2] at h
        cases h
        obtain ⟨l, k⟩ := outsD_spec h1
        refine ⟨by simp [l], fun i hi => ?_⟩
        by_cases hn : i < n
        · rw [List.getElem?_append_left (by omega)]; exact k i hn
        · have : i = n := by omega
          subst this
          rw [List.getElem?_append_right (by omega), l, h2]
          simp
/-- the parameters that are not lent hold frozen things -/
def parOk (I : List Nat) (ds : List D) : Bool := (List.range ds.length).all fun i => decide (i ∈ I) || match ds[i]? with
  | some d => d.sh
  | none => true
/-- what a def with N slots and n parameters, those in I lent, makes of its arguments -/
def fnD (N n : Nat) (I : List Nat) (f : Sv) : Mir := fun ds => if ds.length = n ∧ parOk I ds = true then
    match f (ds.map some ++ List.replicate (N - n) none) with
    | some (.nx ρ') => (outsD I ds ρ' n).map fun os => .ok .non os
    | some (.ret d ρ') => (outsD I ds ρ' n).map fun os => .ok d os
    | some (.exc e ρ') => (outsD I ds ρ' n).map fun os => .exc e os
    | _ => none
  else none
section
variable {P : Program} {w : World} {K : PySem.W.Frag} {mg : Str → Option Value} {base : Heap} {ca : Nat → Addr}
theorem fn_d {x qual : Str} {st : Stmt} {f : Addr} {fd : FuncData} {N ps : List Str} {k : Nat} {I : List Nat} {g : Sv} (F : Fun K x qual st f fd) (S : FnScope N ps (defScope st)) (hN : ps.length ≤ N.length)
    (hb : ∀ (cdv : Value) (A : Around) (outer : List Env) (s : Shared) (H : Hp) (E : XK), Room k (A.deeper (envOfC qual (defScope st) s.heap.objs.size f cdv)) →
      DB ca (cxOf (L2.CX P w) P w K mg base N qual (defScope st) f cdv A outer s H E) I (defBody st) g) : FnD P w K mg base ca (k + 1) f fd ps (fnD N.length ps.length I g) := by
  refine F.okX S (fun vs H Q E h => h.1) fun cdv A outer s H vs Q E hr h => ?_
  have hx : (cxOf (L2.CX P w) P w K mg base N qual (defScope st) f cdv A outer s H E).xe = fun e s' => wpAny (model P w) (A.deeper (envOfC qual (defScope st) s.heap.objs.size f cdv)) (leaving (envOfC qual (defScope st) s.heap.objs.size f cdv) e) (fun _ s'' => L2.CX P w outer H s E e s'') (fun e' s'' => L2.CX P w outer H s E e' s'') s' := rfl
  refine ⟨_, hb cdv A outer s H E hr (fun cls d _ H => E cls d H) (takes_of rfl rfl rfl hx) (passes_of hx), ?_⟩
  obtain ⟨hl, G, ds, F0, o, c, e, z⟩ := h
  have hld : ds.length = ps.length := by have := c.len; simp at this; omega
  unfold fnD at e
  rw [hld] at e
  split at e
  · rename_i hc
    have hp := hc.2
    -- the start
    have c0 : Cfg ⟨K, ca⟩ G H (L2.start N vs) (ds.map some ++ List.replicate (N.length - ps.length) none) F0 := by
      refine ⟨c.sub, by simp [L2.start, hl, hld], fun i d q => ?_, fun i q x hx => ?_, c.dis⟩
      · rcases get_append q with ⟨hi, q⟩ | ⟨hi, q⟩
        · obtain ⟨v, e1, r⟩ := c.slot i d q
          refine ⟨v, ?_, r⟩
          unfold L2.start
          rw [List.getElem?_append_left (by simp at hi ⊢; omega)]
          exact e1
        · rw [List.getElem?_replicate] at q
          split at q <;> cases q
      · refine c.emp i (fun d z => ?_) x hx
        refine q d ?_
        rw [List.getElem?_append_left (List.getElem?_eq_some_iff.mp z).1]
        exact z
    have stv : ∀ i, i < ps.length → (L2.start N vs)[i]? = (vs.map some)[i]? := fun i hi => by
      unfold L2.start
      rw [List.getElem?_append_left (by simp; omega)]
    -- the parameters behind it
    have fin : ∀ {ρ' : DEnv} {outs : List D} {σ' : L2.St} {G' H' : Hp} {F' : Nat → FP} {W1 : FP}, outsD I ds ρ' ps.length = some outs → Prot I (L2.start N vs) σ' → Cfg ⟨K, ca⟩ G' H' σ' ρ' F' → Ext G H (un F0) G' H' W1 →
        Cfg ⟨K, ca⟩ G' H' (vs.map some) (outs.map some) (fun i x => i < ps.length ∧ i ∈ I ∧ F' i x) := fun {ρ' outs σ' G' H' F' W1} ho p c1 x1 => by
      obtain ⟨lo, ko⟩ := outsD_spec ho
      refine ⟨c1.sub, by simp [lo, hl], fun i d q => ?_, fun i q x hx => ?_, fun i j x a b => c1.dis i j x a.2.2 b.2.2⟩
      · rw [List.getElem?_map] at q
        obtain ⟨d', q, e9⟩ := Option.map_eq_some_iff.mp q
        cases e9
        have hi : i < ps.length := by rw [← lo]; exact (List.getElem?_eq_some_iff.mp q).1
        have k1 := ko i hi
        rw [q] at k1
        by_cases hI : i ∈ I
        · rw [if_pos hI] at k1
          obtain ⟨v, e1, r⟩ := c1.at k1.symm
          rw [p.at_ i hI, stv i hi] at e1
          refine ⟨v, e1, ?_⟩
          have en : (fun x => i < ps.length ∧ i ∈ I ∧ F' i x) = F' i := by funext x; exact propext ⟨fun w => w.2.2, fun w => ⟨hi, hI, w⟩⟩
          rw [en]; exact r
        · rw [if_neg hI] at k1
          obtain ⟨v, e1, r⟩ := c.slot i d (by rw [List.getElem?_map, ← k1]; rfl)
          refine ⟨v, e1, ?_⟩
          have en : (fun x => i < ps.length ∧ i ∈ I ∧ F' i x) = nof := by funext x; exact propext ⟨fun w => hI w.2.1, fun w => w.elim⟩
          rw [en]
          have hs : d.sh = true := by
            have q2 := List.all_eq_true.mp hp i (List.mem_range.mpr (by omega))
            rw [← k1] at q2
            simpa [hI] using q2
          exact (rep_sh r hs).stay x1
      · obtain ⟨hi, hI, hx⟩ := hx
        have k1 := ko i hi
        rw [if_pos hI] at k1
        obtain ⟨d, v, e1, e2, r⟩ := c1.own hx
        rw [slotOf_of e1] at k1
        exact q d (by rw [List.getElem?_map, k1]; rfl)
    cases hg : g (ds.map some ++ List.replicate (N.length - ps.length) none) with
    | none => rw [hg] at e; cases e
    | some so =>
      rw [hg] at e
      refine ⟨G, _, F0, so, c0, hg, ?_⟩
      cases so with
      | brk ρ' => cases e
      | cnt ρ' => cases e
      | nx ρ' =>
        obtain ⟨outs, ho, rfl⟩ := Option.map_eq_some_iff.mp e
        intro σ' G' H' F' p c1 x1
        exact z .non G' H' _ nof (fin ho p c1 x1) .non (fun _ h => h.elim) (x1.mono (fun _ h => h) fun x h => h.elim (fun ⟨i, _, _, h⟩ => ⟨i, h⟩) False.elim)
      | ret d ρ' =>
        obtain ⟨outs, ho, rfl⟩ := Option.map_eq_some_iff.mp e
        intro v σ' G' H' F' T p c1 r n x1
        exact z v G' H' _ T (fin ho p c1 x1) r (fun x hx ⟨i, _, _, h⟩ => n x hx ⟨i, h⟩) (x1.mono (fun _ h => h) fun x h => h.imp (fun ⟨i, _, _, h⟩ => ⟨i, h⟩) id)
      | exc er ρ' =>
        obtain ⟨outs, ho, rfl⟩ := Option.map_eq_some_iff.mp e
        intro σ' G' H' F' cls dx p c1 r x1
        exact z G' H' _ cls dx (fin ho p c1 x1) r (x1.mono (fun _ h => h) fun x ⟨i, _, _, h⟩ => ⟨i, h⟩)
  · cases e
end

/-! ### targets of a frozen value -/
abbrev Tgt := D → DEnv → Option DEnv
abbrev Tgts := List D → DEnv → Option DEnv
def gD (B : Bd) (I : List Nat) (t : Tgt) : TG := fun v σ H Q => ∃ G ρ F d ρ', Cfg B G H σ ρ F ∧ Rep B G H v d nof ∧ t d ρ = some ρ' ∧ ∀ σ' G' H' F', Prot I σ σ' → Cfg B G' H' σ' ρ' F' → Ext G H (un F) G' H' (un F') → Q σ' H'
def gDs (B : Bd) (I : List Nat) (t : Tgts) : TGs := fun vs σ H Q => ∃ G ρ F ds ρ', Cfg B G H σ ρ F ∧ Paired (fun v d => Rep B G H v d nof) vs ds ∧ t ds ρ = some ρ' ∧ ∀ σ' G' H' F', Prot I σ σ' → Cfg B G' H' σ' ρ' F' → Ext G H (un F) G' H' (un F') → Q σ' H'
def DG (ca : Nat → Addr) (X : Cx) (I : List Nat) (tg : Expr) (t : Tgt) : Prop := PG X tg (gD ⟨X.K, ca⟩ I t)
def DGs (ca : Nat → Addr) (X : Cx) (I : List Nat) (tgs : List Expr) (t : Tgts) : Prop := PGs X tgs (gDs ⟨X.K, ca⟩ I t)
theorem PG.imp {X : Cx} {e : Expr} {t u : TG} (h : PG X e t) (k : ∀ (v : V) (σ : L2.St) (H : Hp) (Q : L2.St → Hp → Prop), u v σ H Q → t v σ H Q) : PG X e u := ⟨fun pins s σ H v w Q I r q => h.run pins s σ H v w Q I r (k v σ H Q q)⟩
theorem PGs.imp {X : Cx} {e : List Expr} {t u : TGs} (h : PGs X e t) (k : ∀ (v : List V) (σ : L2.St) (H : Hp) (Q : L2.St → Hp → Prop), u v σ H Q → t v σ H Q) : PGs X e u := ⟨fun pins s σ H v w Q I r q => h.run pins s σ H v w Q I r (k v σ H Q q)⟩
def tgN (I : List Nat) (i : Nat) : Tgt := fun d ρ => if i ∈ I ∨ ¬ i < ρ.length then none else some (ρ.set i (some d))
section
variable {ca : Nat → Addr} {X : Cx} {I : List Nat} {e : Expr} {es : List Expr} {pos : Pos} {t : Tgt} {ts : Tgts}
theorem dg_name {i : Nat} (h : PG X e (gName i)) : DG ca X I e (tgN I i) := PG.imp h fun v σ H Q q => by
  obtain ⟨G, ρ, F, d, ρ', c, r, e, z⟩ := q
  unfold tgN at e
  split at e
  · cases e
  · rename_i hi
    cases e
    have hi1 : i ∉ I := fun z => hi (.inl z)
    have hi2 : i < ρ.length := Classical.byContradiction fun z => hi (.inr z)
    have c2 := c.setName i r (fun _ h => h.elim) hi2
    refine z _ G H _ ⟨by simp, fun j hj => List.getElem?_set_ne fun z => hi1 (by rw [z]; exact hj)⟩ c2 (.refl fun x ⟨j, hj⟩ => ?_)
    rcases hj with ⟨_, hj⟩ | ⟨_, hj⟩
    · exact hj.elim
    · exact ⟨j, hj⟩
def tgNil : Tgts := fun ds ρ => match ds with
  | [] => some ρ
  | _ => none
def tgCons (t : Tgt) (u : Tgts) : Tgts := fun ds ρ => match ds with
  | d :: r => match t d ρ with
    | some ρ1 => u r ρ1
    | none => none
  | [] => none
theorem dgs_nil : DGs ca X I [] tgNil := PGs.imp pgs_nil fun vs σ H Q q => by
  obtain ⟨G, ρ, F, ds, ρ', c, r, e, z⟩ := q
  cases r with
  | nil => cases e; exact ⟨rfl, z σ G H F .refl c (.refl fun _ h => h)⟩
  | cons => cases e
theorem dgs_cons (h1 : DG ca X I e t) (h2 : DGs ca X I es ts) (hs : (assignEach (e :: es) X.env).map (·.2) = assign e X.env :: (assignEach es X.env).map (·.2) := by rfl) : DGs ca X I (e :: es) (tgCons t ts) := PGs.imp (pgs_cons h1 h2 hs) fun vs σ H Q q => by
  obtain ⟨G, ρ, F, ds, ρ', c, r, e, z⟩ := q
  cases r with
  | nil => cases e
  | cons r rr =>
    rename_i v d vs ds
    unfold tgCons at e
    dsimp only at e
    cases h3 : t d ρ with
    | none => rw [h3] at e; cases e
    | some ρ1 =>
      rw [h3] at e
      refine ⟨v, vs, rfl, G, ρ, F, d, ρ1, c, r, h3, fun σ1 G1 H1 F1 p1 c1 x1 => ⟨G1, ρ1, F1, ds, ρ', c1, L2.Paired.mapP rr fun v d r => r.stay x1, e, fun σ2 G2 H2 F2 p2 c2 x2 => z σ2 G2 H2 F2 (p1.trans p2) c2 (x1.trans x2)⟩⟩
def tgTup (n : Nat) (t : Tgts) : Tgt := fun d ρ => match d with
  | .tup ds => if ds.length = n then t ds ρ else none
  | _ => none
def tgLst (n : Nat) (t : Tgts) : Tgt := fun d ρ => match d with
  | .lst ds => if ds.length = n then t ds ρ else none
  | _ => none
theorem paired_of {R : V → D → Prop} : ∀ {vs : List V} {ds : List D}, vs.length = ds.length → (∀ (i : Nat) v d, vs[i]? = some v → ds[i]? = some d → R v d) → Paired R vs ds
  | [], [], _, _ => .nil
  | [], _ :: _, h, _ => by cases h
  | _ :: _, [], h, _ => by cases h
  | v :: vs, d :: ds, h, k => .cons (k 0 v d rfl rfl) (paired_of (by simpa using h) fun i v d e1 e2 => k (i + 1) v d (by simpa using e1) (by simpa using e2))
theorem dg_tup {k n : Nat} (hc : X.calm = true) (h : DGs ca X I es ts) (hn : (assignEach es X.env).length = n := by rfl) (hst : (assignEach es X.env).findIdx? (·.1) = none := by rfl) : DG ca X I (.Tuple es k pos) (tgTup n ts) := PG.imp (pg_tup hc h hn hst) fun v σ H Q q => by
  obtain ⟨G, ρ, F, d, ρ', c, r, e, z⟩ := q
  unfold tgTup at e
  split at e
  · rename_i ds
    split at e
    · rename_i hl
      cases r with
      | tup h' l c' => exact ⟨_, _, rfl, sqT_mono h' c.sub, l.trans hl, G, ρ, F, ds, ρ', c, paired_of l c', e, z⟩
    · cases e
  · cases e
theorem dg_lst {k n : Nat} (hc : X.calm = true) (h : DGs ca X I es ts) (hn : (assignEach es X.env).length = n := by rfl) (hst : (assignEach es X.env).findIdx? (·.1) = none := by rfl) : DG ca X I (.Tuple es k pos) (tgLst n ts) := PG.imp (pg_lst hc h hn hst) fun v σ H Q q => by
  obtain ⟨G, ρ, F, d, ρ', c, r, e, z⟩ := q
  unfold tgLst at e
  split at e
  · rename_i ds
    split at e
    · rename_i hl
      cases r with
      | lst h' l c' => exact ⟨_, _, rfl, .of (c.sub _ _ h'), l.trans hl, G, ρ, F, ds, ρ', c, paired_of l c', e, z⟩
    · cases e
  · cases e
/-- o[i] = v -/
def tgSub (gm : D → List D → Option (D × D)) (fs : Ev (List AV)) : Tgt := fun d ρ => match fs ρ with
  | some (.ok avs ρ1) => match mutK gm [d] avs ρ1 with
    | some (.ok _ ρ2) => some ρ2
    | _ => none
  | _ => none
theorem dg_sub {o i : Expr} {fo fi : Ev AV} {gm : D → List D → Option (D × D)} (ho : DE ca X o fo) (hi : DE ca X i fi) (hs : SetD ca X gm)
    (ha : ∀ v, assign (.Subscript o i pos) X.env v = (do
      let ov ← holding [v] (eval o X.env)
      let iv ← holding [v, ov] (eval i X.env)
      standAt pos
      holding [v, ov, iv] (setItem ov iv v)
      release [v, ov, iv] []) := by intro _; rfl) : DG ca X I (.Subscript o i pos) (tgSub gm (evCons fo (evCons fi evNil))) :=
  PG.imp (pg_sub (ho _ takes0) (hi _ takes0) hs ha) fun v σ H Q q => by
    obtain ⟨G, ρ, F, d, ρ', c, r, e, z⟩ := q
    unfold tgSub at e
    have q2 : tDL ⟨X.K, ca⟩ (fun _ _ _ _ => False) (evCons fo (evCons fi evNil)) σ H fun vs H1 => ∀ x y, vs = [x, y] → rMu ⟨X.K, ca⟩ gm x [y, v] H1 fun _ H' => Q σ H' := by
      cases hf : evCons fo (evCons fi evNil) ρ with
      | none => rw [hf] at e; cases e
      | some u =>
        rw [hf] at e
        cases u with
        | exc er ρ1 => cases e
        | ok avs ρ1 =>
          refine ⟨G, ρ, F, _, c, hf, fun vs G1 H1 F1 Wt c1 r1 n1 x1 x y hv => ?_⟩
          subst hv
          dsimp only at e
          cases hm : mutK gm [d] avs ρ1 with
          | none => rw [hm] at e; cases e
          | some o2 =>
            rw [hm] at e
            cases o2 with
            | exc er ρ2 => cases e
            | ok av ρ2 =>
              cases e
              have r2 : Rep ⟨X.K, ca⟩ G1 H1 v d nof := r.stay x1
              exact mut_end (Q := fun _ H' => Q σ H') (xe := [v]) (W := fun _ _ _ _ => False) c1 r1 n1 (.cons r2 .nil) hm (fun v' G' H' F' T c' r' n' x' => z σ G' H' F' .refl c' ((x1.trans x').mono (fun _ h => h) fun _ h => .inl h))
    exact tD_map (tDL_cons q2) fun x H1 k => tD_map (tDL_cons k) fun y H2 k => tDL_nil k x y rfl
/-- target = e, the value frozen -/
def sTgt (t : Tgt) (f : Ev AV) : Sv := evS f fun a ρ => match cont ρ a with
  | some d => (t (frz d) (frzS (plS [a]) ρ)).map .nx
  | none => none
theorem ds_asg {tg : Expr} {fe : Ev AV} (he : DE ca X e fe) (hg : DG ca X I tg t) (hs : swapsWithSole [tg] e pos.line X.env = pure false := by rfl) (hw : swappedStores [tg] e X.env = pure none := by rfl)
    (h1 : (assignEach [tg] X.env).map (·.2) = [assign tg X.env] := by rfl) : DS ca X I (.Assign [tg] e pos) (sTgt t fe) := fun W tk ps => PS.imp (ps_asg (he W tk) hg hs hw h1) fun Dn σ H h =>
  tSD_E h fun av ρ1 v G1 H1 F1 T o ek c1 r n z => by
    cases hc : cont ρ1 av with
    | none => rw [hc] at ek; cases ek
    | some d =>
      rw [hc] at ek
      obtain ⟨ρ2, e2, rfl⟩ := Option.map_eq_some_iff.mp ek
      obtain ⟨c2, x2⟩ := freeze_cfg c1 n (plS [av])
      have hcs : conts ρ1 [av] = some [d] := by unfold conts conts; rw [hc]
      have rr := freeze_reps c1 n (plS [av]) (.cons r (fun _ h => h) (.nil (Wt := nof)) (fun _ h => h.elim) fun _ _ h => h) hcs fun i h => h
      cases rr with
      | cons r' t' => exact ⟨_, _, _, _, _, c2, r', e2, fun σ' G' H' F' p c' x' => z σ' G' H' F' p c' (x2.trans x')⟩
end
end DL

namespace DL
open PySem PySem.Spec PyProof.Rows L2

/-! ### what is walked -/
structure ItD (B : Bd) (J : It) (ds : List D) (G : Hp) : Prop where
  go : ∀ (i : Nat) (G' H' : Hp), (∀ b o, G b = some o → G' b = some o) → (∀ b o, G' b = some o → H' b = some o) → i < ds.length → J.go i H'
  stop : ∀ (G' H' : Hp), (∀ b o, G b = some o → G' b = some o) → (∀ b o, G' b = some o → H' b = some o) → J.stop ds.length H'
  yld : ∀ (i : Nat) (G' H' : Hp) (x : V) (H'' : Hp), (∀ b o, G b = some o → G' b = some o) → (∀ b o, G' b = some o → H' b = some o) → i < ds.length → J.yld i H' x H'' →
    ∃ (d : D) (G'' : Hp), ds[i]? = some d ∧ (∀ b o, G'' b = some o → H'' b = some o) ∧ Rep B G'' H'' x d nof ∧ Ext G' H' nof G'' H'' nof
def endI (B : Bd) (W : WX) (σ : L2.St) (G H : Hp) (W0 : FP) (R : It → Hp → Prop) : Out (List D) → Prop
  | .ok ds ρ' => ∀ J G' H' F', Cfg B G' H' σ ρ' F' → ItD B J ds G' → Ext G H W0 G' H' (un F') → R J H'
  | .exc e ρ' => ∀ G' H' F' cls dx, Cfg B G' H' σ ρ' F' → ExcAt B G' cls dx e → Ext G H W0 G' H' (un F') → W cls dx σ H'
def tI (B : Bd) (W : WX) (f : Ev (List D)) : TI := fun σ H R => ∃ G ρ F o, Cfg B G H σ ρ F ∧ f ρ = some o ∧ endI B W σ G H (un F) R o
def DI (ca : Nat → Addr) (X : Cx) (tg iter : Expr) (f : Ev (List D)) : Prop := ∀ W, Takes X W → PI X tg iter (tI ⟨X.K, ca⟩ W f)
theorem PI.imp {X : Cx} {tg e : Expr} {t u : TI} (h : PI X tg e t) (k : ∀ (σ : L2.St) (H : Hp) (R : It → Hp → Prop), u σ H R → t σ H R) : PI X tg e u := ⟨fun pins s σ H R I q => h.run pins s σ H R I (k σ H R q)⟩
/-- items of frozen contents -/
def evIt (g : List D → Option (List D)) (fs : Ev (List AV)) : Ev (List D) := (evFz fs).andThen fun ds ρ => match g ds with
  | some xs => some (.ok xs ρ)
  | none => none
theorem tI_of {B : Bd} {W : WX} {σ : L2.St} {H : Hp} {g : List D → Option (List D)} {fs : Ev (List AV)} {R : It → Hp → Prop} (h : tI B W (evIt g fs) σ H R) :
    tDL B W fs σ H fun vs H1 => ∃ G ds xs, (∀ b o, G b = some o → H1 b = some o) ∧ Paired (fun v d => Rep B G H1 v d nof) vs ds ∧ g ds = some xs ∧ ∀ J, ItD B J xs G → R J H1 := by
  obtain ⟨G, ρ, F, o, c, e, z⟩ := h
  refine tDF_of (tDF_bind c e (fun er ρ' eo => by subst eo; exact z) fun ds ρ1 vs G1 H1 F1 ek c1 r1 x1 => ?_)
  cases hg : g ds with
  | none => rw [hg] at ek; cases ek
  | some xs =>
    rw [hg] at ek
    cases ek
    exact ⟨G1, ds, xs, c1.sub, r1, hg, fun J hJ => z J G1 H1 F1 c1 hJ x1⟩
def gItL : List D → Option (List D)
  | [.lst xs] => some xs
  | [.frl xs] => some xs
  | _ => none
def gItT : List D → Option (List D)
  | [.tup xs] => some xs
  | _ => none
def gItS : List D → Option (List D)
  | [.str x] => some (x.cps.toList.map fun c => .str ⟨#[c]⟩)
  | _ => none
def dInts (lo : Int) (n : Nat) : List D := (List.range n).map fun i => .int (lo + (i : Nat))
def gRng1 : List D → Option (List D)
  | [.int j] => if -(2 ^ 62) ≤ j ∧ j < 2 ^ 62 then some (dInts 0 j.toNat) else none
  | _ => none
def gRng2 : List D → Option (List D)
  | [.int i, .int j] => if -(2 ^ 62) ≤ i ∧ i < 2 ^ 62 ∧ -(2 ^ 62) ≤ j ∧ j < 2 ^ 62 then some (dInts i (j - i).toNat) else none
  | _ => none
def lstF : D → Option (List D)
  | .lst xs => some xs
  | .frl xs => some xs
  | _ => none
def gZip : List D → Option (List D)
  | [x, y] => match lstF x, lstF y with
    | some xs, some ys => some ((xs.zip ys).map fun p => .tup [p.1, p.2])
    | _, _ => none
  | _ => none
def gEnum : List D → Option (List D)
  | [x] => match lstF x with
    | some xs => some ((List.range xs.length).zip xs |>.map fun p => .tup [.int (p.1 : Nat), p.2])
    | _ => none
  | _ => none
section
variable {B : Bd} {G : Hp}
/-- a list -/
theorem itd_list {a : Addr} {vs : List V} {ds : List D} (h : SqL B.K G a vs) (l : vs.length = ds.length) (c : ∀ (i : Nat) v d, vs[i]? = some v → ds[i]? = some d → ∀ H, Rep B G H v d nof) : ItD B (Itl B.K a) ds G := by
  refine ⟨fun i G' H' g1 g2 hi => ⟨vs, vs[i]'(by omega), sqL_mono (sqL_mono h g1) g2, List.getElem?_eq_getElem _⟩, fun G' H' g1 g2 => ⟨vs, sqL_mono (sqL_mono h g1) g2, by omega⟩, fun i G' H' x H'' g1 g2 hi y => ?_⟩
  obtain ⟨rfl, y⟩ := y
  have e := y vs (sqL_mono (sqL_mono h g1) g2)
  exact ⟨ds[i], G', List.getElem?_eq_getElem hi, g2, (c i x ds[i] e (List.getElem?_eq_getElem hi) H'').keep g1 fun _ h => h.elim, .refl fun _ h => h⟩
theorem itd_tup {a : Addr} {vs : List V} {ds : List D} (h : SqT B.K G a vs) (l : vs.length = ds.length) (c : ∀ (i : Nat) v d, vs[i]? = some v → ds[i]? = some d → ∀ H, Rep B G H v d nof) : ItD B (Itt B.K a) ds G := by
  refine ⟨fun i G' H' g1 g2 hi => ⟨vs, vs[i]'(by omega), sqT_mono (sqT_mono h g1) g2, List.getElem?_eq_getElem _⟩, fun G' H' g1 g2 => ⟨vs, sqT_mono (sqT_mono h g1) g2, by omega⟩, fun i G' H' x H'' g1 g2 hi y => ?_⟩
  obtain ⟨rfl, y⟩ := y
  have e := y vs (sqT_mono (sqT_mono h g1) g2)
  exact ⟨ds[i], G', List.getElem?_eq_getElem hi, g2, (c i x ds[i] e (List.getElem?_eq_getElem hi) H'').keep g1 fun _ h => h.elim, .refl fun _ h => h⟩
theorem itd_range {lo : Int} {n : Nat} : ItD B (Itr lo n) (dInts lo n) G := by
  have len : (dInts lo n).length = n := by simp [dInts]
  refine ⟨fun i G' H' g1 g2 hi => by rw [len] at hi; exact hi, fun G' H' g1 g2 => by rw [len]; exact Nat.le_refl n, fun i G' H' x H'' g1 g2 hi y => ?_⟩
  obtain ⟨rfl, rfl⟩ := y
  rw [len] at hi
  exact ⟨.int (lo + (i : Nat)), G', by simp [dInts, hi], g2, .int _, .refl fun _ h => h⟩
theorem itd_str {x : Str} : ItD B (Its x) (x.cps.toList.map fun c => .str ⟨#[c]⟩) G := by
  have len : (x.cps.toList.map fun c => (D.str ⟨#[c]⟩)).length = x.cps.size := by simp
  refine ⟨fun i G' H' g1 g2 hi => by rw [len] at hi; exact hi, fun G' H' g1 g2 => by rw [len]; exact Nat.le_refl _, fun i G' H' v H'' g1 g2 hi y => ?_⟩
  obtain ⟨rfl, ch, e, rfl⟩ := y
  refine ⟨.str ⟨#[ch]⟩, G', ?_, g2, .str _, .refl fun _ h => h⟩
  rw [List.getElem?_map, Array.getElem?_toList, e]
  rfl
theorem rep_lstF {H : Hp} {v : V} {d : D} {T : FP} (r : Rep B G H v d T) {ds : List D} (h : lstF d = some ds) : ∃ a vs, v = .ref a ∧ SqL B.K G a vs ∧ vs.length = ds.length ∧ ∀ (i : Nat) v d, vs[i]? = some v → ds[i]? = some d → ∀ H', Rep B G H' v d nof := by
  cases r with
  | lst h' l c => cases h; exact ⟨_, _, rfl, .of h', l, fun i v d e1 e2 H' => (c i v d e1 e2).any⟩
  | frl h' l c => cases h; exact ⟨_, _, rfl, h', l, fun i v d e1 e2 H' => (c i v d e1 e2).any⟩
  | _ => cases h
theorem gone {G H : Hp} {T : Addr} (s : ∀ b o, G b = some o → H b = some o) (h : H T = none) : G T = none := no_g s h
theorem rep_pair2 {G' H' : Hp} {T : Addr} {x y : V} {d e : D} (hT : G' T = none) (r1 : Rep B G' H' x d nof) (r2 : Rep B G' H' y e nof) : Rep B (upd G' T (.tup [x, y])) (upd H' T (.tup [x, y])) (.ref T) (.tup [d, e]) nof := by
  have up : ∀ b o, G' b = some o → upd G' T (.tup [x, y]) b = some o := fun b o e => by rw [upd_ne (ne_of_none e hT)]; exact e
  refine .tup (.inl (.inl upd_same)) rfl fun i v d' e1 e2 => ?_
  cases i with
  | zero => cases e1; cases e2; exact r1.keep up fun _ h => h.elim
  | succ i => cases i with
    | zero => cases e1; cases e2; exact r2.keep up fun _ h => h.elim
    | succ i => simp at e1
theorem itd_zip {a b : Addr} {vs ws : List V} {xs ys : List D} (h1 : SqL B.K G a vs) (h2 : SqL B.K G b ws) (l1 : vs.length = xs.length) (l2 : ws.length = ys.length)
    (c1 : ∀ (i : Nat) v d, vs[i]? = some v → xs[i]? = some d → ∀ H, Rep B G H v d nof) (c2 : ∀ (i : Nat) v d, ws[i]? = some v → ys[i]? = some d → ∀ H, Rep B G H v d nof) :
    ItD B (Itz B.K a b) ((xs.zip ys).map fun p => .tup [p.1, p.2]) G := by
  have len : ((xs.zip ys).map fun p => D.tup [p.1, p.2]).length = min xs.length ys.length := by simp
  refine ⟨fun i G' H' g1 g2 hi => ?_, fun G' H' g1 g2 => ?_, fun i G' H' v H'' g1 g2 hi y => ?_⟩
  · rw [len] at hi
    exact ⟨vs, ws, vs[i]'(by omega), ws[i]'(by omega), sqL_mono (sqL_mono h1 g1) g2, sqL_mono (sqL_mono h2 g1) g2, List.getElem?_eq_getElem _, List.getElem?_eq_getElem _⟩
  · rw [len]
    exact ⟨vs, ws, sqL_mono (sqL_mono h1 g1) g2, sqL_mono (sqL_mono h2 g1) g2, by omega⟩
  · rw [len] at hi
    obtain ⟨T, x, z, rfl, hT, rfl, k1, k2⟩ := y
    have e1 := k1 vs (sqL_mono (sqL_mono h1 g1) g2)
    have e2 := k2 ws (sqL_mono (sqL_mono h2 g1) g2)
    have hx : i < xs.length := by omega
    have hy : i < ys.length := by omega
    refine ⟨.tup [xs[i], ys[i]], _, ?_, sub_new hT g2, rep_pair2 (gone g2 hT) ((c1 i x xs[i] e1 (List.getElem?_eq_getElem hx) H').keep g1 fun _ h => h.elim) ((c2 i z ys[i] e2 (List.getElem?_eq_getElem hy) H').keep g1 fun _ h => h.elim), ext_new hT g2⟩
    rw [List.getElem?_map, List.getElem?_eq_getElem (by simp; omega)]
    simp
theorem itd_enum {a : Addr} {vs : List V} {xs : List D} (h1 : SqL B.K G a vs) (l1 : vs.length = xs.length) (c1 : ∀ (i : Nat) v d, vs[i]? = some v → xs[i]? = some d → ∀ H, Rep B G H v d nof) :
    ItD B (Ite B.K a) ((List.range xs.length).zip xs |>.map fun p => .tup [.int (p.1 : Nat), p.2]) G := by
  have len : ((List.range xs.length).zip xs |>.map fun p => D.tup [.int (p.1 : Nat), p.2]).length = xs.length := by simp
  refine ⟨fun i G' H' g1 g2 hi => ?_, fun G' H' g1 g2 => ?_, fun i G' H' v H'' g1 g2 hi y => ?_⟩
  · rw [len] at hi
    exact ⟨vs, vs[i]'(by omega), sqL_mono (sqL_mono h1 g1) g2, List.getElem?_eq_getElem _⟩
  · rw [len]
    exact ⟨vs, sqL_mono (sqL_mono h1 g1) g2, by omega⟩
  · rw [len] at hi
    obtain ⟨T, x, rfl, hT, rfl, k1⟩ := y
    have e1 := k1 vs (sqL_mono (sqL_mono h1 g1) g2)
    refine ⟨.tup [.int (i : Nat), xs[i]], _, ?_, sub_new hT g2, rep_pair2 (gone g2 hT) (.int _) ((c1 i x xs[i] e1 (List.getElem?_eq_getElem hi) H').keep g1 fun _ h => h.elim), ext_new hT g2⟩
    rw [List.getElem?_map, List.getElem?_eq_getElem (by simp; omega)]
    simp
end
section
variable {ca : Nat → Addr} {X : Cx} {tg e e2 : Expr} {fe : Ev AV} {fs : Ev (List AV)} {p pos tpos : Pos} {elts : List Expr} {kk : Nat}
theorem di_list (he : DE ca X e fe) : DI ca X tg e (evIt gItL (evCons fe evNil)) := fun W tk => PI.imp (pi_list (he W tk)) fun σ H R h => by
  refine tD_map (tDL_cons (tI_of h)) fun x H1 k => ?_
  obtain ⟨G, ds, xs, s, rr, e, z⟩ := tDL_nil k
  cases rr with
  | cons r t =>
    cases t
    unfold gItL at e
    split at e
    · rename_i heq; cases heq; cases e
      obtain ⟨a, vs, rfl, hq, l, c⟩ := rep_lstF r (ds := xs) rfl
      exact ⟨a, rfl, ⟨vs, sqL_mono hq s⟩, z _ (itd_list hq l c)⟩
    · rename_i heq; cases heq; cases e
      obtain ⟨a, vs, rfl, hq, l, c⟩ := rep_lstF r (ds := xs) rfl
      exact ⟨a, rfl, ⟨vs, sqL_mono hq s⟩, z _ (itd_list hq l c)⟩
    · cases e
theorem di_tup (he : DE ca X e fe) : DI ca X tg e (evIt gItT (evCons fe evNil)) := fun W tk => PI.imp (pi_tup (he W tk)) fun σ H R h => by
  refine tD_map (tDL_cons (tI_of h)) fun x H1 k => ?_
  obtain ⟨G, ds, xs, s, rr, e, z⟩ := tDL_nil k
  cases rr with
  | cons r t =>
    cases t
    unfold gItT at e
    split at e
    · rename_i heq; cases heq; cases e
      cases r with
      | tup h' l c => exact ⟨_, rfl, ⟨_, sqT_mono h' s⟩, z _ (itd_tup h' l fun i v d e1 e2 H' => (c i v d e1 e2).any)⟩
    · cases e
theorem di_str (he : DE ca X e fe) : DI ca X tg e (evIt gItS (evCons fe evNil)) := fun W tk => PI.imp (pi_str (he W tk)) fun σ H R h => by
  refine tD_map (tDL_cons (tI_of h)) fun x H1 k => ?_
  obtain ⟨G, ds, xs, s, rr, e, z⟩ := tDL_nil k
  cases rr with
  | cons r t =>
    cases t
    unfold gItS at e
    split at e
    · rename_i heq; cases heq; cases e
      cases r
      exact ⟨_, rfl, z _ itd_str⟩
    · cases e
theorem di_range1 (hm : X.mg "range" = none) (ha : DA ca X [e] fs) (hg : Gl X "range" := by rfl) (hs : starEach [e] X.env = [(false, eval e X.env)] := by rfl) : DI ca X tg (.Call (.Name "range" p) [e] [] pos) (evIt gRng1 fs) := fun W tk =>
  PI.imp (pi_range1 hg hm (ha W tk) hs) fun σ H R h => tDL_map (tI_of h) fun vs H1 ⟨G, ds, xs, s, rr, e, z⟩ => by
    unfold gRng1 at e
    split at e
    · split at e
      · rename_i hz
        cases e
        obtain ⟨x, rfl, r⟩ := paired1 rr
        cases r
        exact ⟨_, rfl, hz.1, hz.2, z _ itd_range⟩
      · cases e
    · cases e
theorem di_range2 (hm : X.mg "range" = none) (ha : DA ca X [e, e2] fs) (hg : Gl X "range" := by rfl) (hs : starEach [e, e2] X.env = [(false, eval e X.env), (false, eval e2 X.env)] := by rfl) (hs2 : starEach [e2] X.env = [(false, eval e2 X.env)] := by rfl) : DI ca X tg (.Call (.Name "range" p) [e, e2] [] pos) (evIt gRng2 fs) := fun W tk =>
  PI.imp (pi_range2 hg hm (ha W tk) hs hs2) fun σ H R h => tDL_map (tI_of h) fun vs H1 ⟨G, ds, xs, s, rr, e, z⟩ => by
    unfold gRng2 at e
    split at e
    · split at e
      · rename_i hz
        cases e
        obtain ⟨x, y, rfl, r1, r2⟩ := paired2 rr
        cases r1; cases r2
        exact ⟨_, _, rfl, hz, z _ itd_range⟩
      · cases e
    · cases e
theorem di_zip (hm : X.mg "zip" = none) (ha : DA ca X [e, e2] fs) (hg : Gl X "zip" := by rfl) (hs : starEach [e, e2] X.env = (false, eval e X.env) :: starEach [e2] X.env := by rfl) (hpl : (backTo pos (starEach [e2] X.env)).any (·.1) = false := by rfl) :
    DI ca X (.Tuple elts kk tpos) (.Call (.Name "zip" p) [e, e2] [] pos) (evIt gZip fs) := fun W tk =>
  PI.imp (pi_zip hg hm (ha W tk) hs hpl) fun σ H R h => tDL_map (tI_of h) fun vs H1 ⟨G, ds, xs, s, rr, e, z⟩ => by
    unfold gZip at e
    split at e
    · split at e
      · rename_i xs ys h1 h2
        cases e
        obtain ⟨x, y, rfl, r1, r2⟩ := paired2 rr
        obtain ⟨a, us, rfl, q1, l1, c1⟩ := rep_lstF r1 h1
        obtain ⟨b, ws, rfl, q2, l2, c2⟩ := rep_lstF r2 h2
        exact ⟨a, b, us, ws, rfl, sqL_mono q1 s, sqL_mono q2 s, z _ (itd_zip q1 q2 l1 l2 c1 c2)⟩
      · cases e
    · cases e
theorem di_enum (hm : X.mg "enumerate" = none) (ha : DA ca X [e] fs) (hg : Gl X "enumerate" := by rfl) (hs : starEach [e] X.env = [(false, eval e X.env)] := by rfl) :
    DI ca X (.Tuple elts kk tpos) (.Call (.Name "enumerate" p) [e] [] pos) (evIt gEnum fs) := fun W tk =>
  PI.imp (pi_enum hg hm (ha W tk) hs) fun σ H R h => tDL_map (tI_of h) fun vs H1 ⟨G, ds, xs, s, rr, e, z⟩ => by
    unfold gEnum at e
    split at e
    · split at e
      · rename_i xs h1
        cases e
        obtain ⟨x, rfl, r1⟩ := paired1 rr
        obtain ⟨a, us, rfl, q1, l1, c1⟩ := rep_lstF r1 h1
        exact ⟨a, us, rfl, sqL_mono q1 s, z _ (itd_enum q1 l1 c1)⟩
      · cases e
    · cases e
end

/-! ### for -/
def forE (t : Tgt) (body : Sv) : List D → Sv
  | [], ρ => some (.nx ρ)
  | d :: ds, ρ => match t d ρ with
    | none => none
    | some ρ1 => match body ρ1 with
      | some (.nx ρ2) => forE t body ds ρ2
      | some (.cnt ρ2) => forE t body ds ρ2
      | some (.brk ρ2) => some (.nx ρ2)
      | o => o
def sFor (fi : Ev (List D)) (t : Tgt) (body : Sv) : Sv := evS fi fun ds => forE t body ds
section
variable {ca : Nat → Addr} {X : Cx} {I : List Nat} {tg iter : Expr} {body : List Stmt} {fi : Ev (List D)} {t : Tgt} {fb : Sv} {pos : Pos}
theorem ds_for (hc : X.calm = true) (hi : DI ca X tg iter fi) (hg : DG ca X I tg t) (hb : DB ca X I body fb) (hs : ∀ x, foldedSetIterable iter X.env x = pure x := by intro _; rfl) : DS ca X I (.For tg iter body [] pos) (sFor fi t fb) := fun W tk ps =>
  PS.imp (ps_for ps hc (hi W tk) hg (hb W tk ps) hs) fun Dn σ H h => by
    obtain ⟨G, ρ, F, o, c, e, z⟩ := h
    unfold sFor evS at e
    cases hf : fi ρ with
    | none => rw [hf] at e; cases e
    | some u =>
      rw [hf] at e
      cases u with
      | exc er ρ' => cases e; exact ⟨G, ρ, F, _, c, hf, exc_out z⟩
      | ok ds ρ1 =>
        refine ⟨G, ρ, F, _, c, hf, fun J G1 H1 F1 c1 it x1 => ?_⟩
        have z1 := endS_trans z .refl x1
        refine ⟨fun i m σ' H' => m = ds.length - i ∧ i ≤ ds.length ∧ ∃ G' ρ' F' o', Cfg ⟨X.K, ca⟩ G' H' σ' ρ' F' ∧ (∀ b o, G1 b = some o → G' b = some o) ∧ forE t fb (ds.drop i) ρ' = some o' ∧ endS ⟨X.K, ca⟩ W I σ' G' H' (un F') Dn o',
          ⟨ds.length, by simp, Nat.zero_le _, G1, ρ1, F1, o, c1, fun _ _ h => h, e, z1⟩, ?_⟩
        rintro i m σ' H' ⟨rfl, hi, G', ρ', F', o', c', gg, e', z'⟩
        by_cases hlt : i < ds.length
        · have hd : ds.drop i = ds[i] :: ds.drop (i + 1) := List.drop_eq_getElem_cons hlt
          rw [hd] at e'
          unfold forE at e'
          cases ht : t ds[i] ρ' with
          | none => rw [ht] at e'; cases e'
          | some ρ2 =>
            rw [ht] at e'
            dsimp only at e'
            refine .inr ⟨it.go i G' H' gg c'.sub hlt, fun σ2 H2 => i + 1 ≤ ds.length ∧ ∃ G2 ρ3 F2 o2, Cfg ⟨X.K, ca⟩ G2 H2 σ2 ρ3 F2 ∧ (∀ b o, G1 b = some o → G2 b = some o) ∧ forE t fb (ds.drop (i + 1)) ρ3 = some o2 ∧ endS ⟨X.K, ca⟩ W I σ2 G2 H2 (un F2) Dn o2,
              fun σ2 H2 hN => ⟨ds.length - (i + 1), by omega, rfl, hN⟩, fun x H'' y => ?_⟩
            obtain ⟨d, G'', hd', sub'', rx, x''⟩ := it.yld i G' H' x H'' gg c'.sub hlt y
            have hdd : d = ds[i] := by rw [List.getElem?_eq_getElem hlt] at hd'; cases hd'; rfl
            subst hdd
            have c'' := c'.grow x'' sub''
            refine ⟨G'', ρ', F', ds[i], ρ2, c'', rx, ht, fun σ2 G2 H2 F2 p2 c2 x2 => ?_⟩
            have xx : Ext G' H' (un F') G2 H2 (un F2) := (Ext.more (.refl fun _ h => h) x'' |>.mono (fun _ h => h) (fun _ h => .inl h)).trans x2
            have z2 := endS_trans z' p2 xx
            have gg2 : ∀ b o, G1 b = some o → G2 b = some o := fun b o h => xx.gg b o (gg b o h)
            cases hb' : fb ρ2 with
            | none => rw [hb'] at e'; cases e'
            | some ob =>
              rw [hb'] at e'
              refine ⟨G2, ρ2, F2, ob, c2, hb', ?_⟩
              cases ob with
              | nx ρ3 => exact fun σ3 G3 H3 F3 p3 c3 x3 => ⟨hlt, G3, ρ3, F3, o', c3, fun b o h => x3.gg b o (gg2 b o h), e', endS_trans z2 p3 x3⟩
              | cnt ρ3 => exact fun σ3 G3 H3 F3 p3 c3 x3 => ⟨hlt, G3, ρ3, F3, o', c3, fun b o h => x3.gg b o (gg2 b o h), e', endS_trans z2 p3 x3⟩
              | brk ρ3 => cases e'; exact z2
              | ret d ρ3 => cases e'; exact z2
              | exc er ρ3 => cases e'; exact z2
        · have hi' : i = ds.length := by omega
          subst hi'
          rw [List.drop_length] at e'
          cases e'
          exact .inl ⟨it.stop G' H' gg c'.sub, z' σ' G' H' F' .refl c' (.refl fun _ h => h)⟩
end

/-! ### while -/
def whF (c : Ev Bool) (body : Sv) : Nat → Sv
  | 0, _ => none
  | n + 1, ρ => match c ρ with
    | none => none
    | some (.exc e ρ1) => some (.exc e ρ1)
    | some (.ok false ρ1) => some (.nx ρ1)
    | some (.ok true ρ1) => match body ρ1 with
      | some (.nx ρ2) => whF c body n ρ2
      | some (.cnt ρ2) => whF c body n ρ2
      | some (.brk ρ2) => some (.nx ρ2)
      | o => o
theorem whF_mono {c : Ev Bool} {body : Sv} : ∀ {n : Nat} {ρ : DEnv} {o : SOut}, whF c body n ρ = some o → whF c body (n + 1) ρ = some o
  | 0, _, _, h => by cases h
  | n + 1, ρ, o, h => by
    unfold whF at h ⊢
    cases hc : c ρ with
    | none => rw [hc] at h; cases h
    | some u =>
      rw [hc] at h
      cases u with
      | exc e ρ1 => exact h
      | ok b ρ1 =>
        cases b with
        | false => exact h
        | true =>
          dsimp only at h ⊢
          cases hb : body ρ1 with
          | none => rw [hb] at h; cases h
          | some ob =>
            rw [hb] at h
            cases ob with
            | nx ρ2 => exact whF_mono h
            | cnt ρ2 => exact whF_mono h
            | brk ρ2 => exact h
            | ret d ρ2 => exact h
            | exc e ρ2 => exact h
theorem whF_le {c : Ev Bool} {body : Sv} {n m : Nat} {ρ : DEnv} {o : SOut} (h : whF c body n ρ = some o) (hm : n ≤ m) : whF c body m ρ = some o := by
  induction hm with
  | refl => exact h
  | step _ ih => exact whF_mono ih
open Classical in
noncomputable def whE (c : Ev Bool) (body : Sv) : Sv := fun ρ => if h : ∃ o n, whF c body n ρ = some o then some h.choose else none
theorem whE_of {c : Ev Bool} {body : Sv} {n : Nat} {ρ : DEnv} {o : SOut} (h : whF c body n ρ = some o) : whE c body ρ = some o := by
  have hx : ∃ o n, whF c body n ρ = some o := ⟨o, n, h⟩
  unfold whE
  rw [dif_pos hx]
  obtain ⟨n2, h2⟩ := hx.choose_spec
  have e1 := whF_le h (Nat.le_max_left n n2)
  have e2 := whF_le h2 (Nat.le_max_right n n2)
  rw [e1] at e2
  exact e2.symm
theorem whE_some {c : Ev Bool} {body : Sv} {ρ : DEnv} {o : SOut} (h : whE c body ρ = some o) : ∃ n, whF c body n ρ = some o := by
  unfold whE at h
  split at h
  · rename_i hx
    cases h
    exact hx.choose_spec
  · cases h
section
variable {ca : Nat → Addr} {X : Cx} {I : List Nat} {c : Expr} {body : List Stmt} {fc : Ev Bool} {fb : Sv} {pos : Pos}
theorem ds_while (hc : DT ca X c fc) (hb : DB ca X I body fb) : DS ca X I (.While c body [] pos) (whE fc fb) := fun W tk ps =>
  PS.imp (ps_while ps (hc W tk) (hb W tk ps)) fun Dn σ H h => by
    obtain ⟨G, ρ, F, o, cf, e, z⟩ := h
    obtain ⟨n, e⟩ := whE_some e
    refine ⟨fun m σ' H' => ∃ G' ρ' F' o', Cfg ⟨X.K, ca⟩ G' H' σ' ρ' F' ∧ whF fc fb m ρ' = some o' ∧ endS ⟨X.K, ca⟩ W I σ' G' H' (un F') Dn o', ⟨n, G, ρ, F, o, cf, e, z⟩, ?_⟩
    rintro m σ' H' ⟨G', ρ', F', o', c', e', z'⟩
    cases m with
    | zero => cases e'
    | succ m =>
      unfold whF at e'
      cases hcc : fc ρ' with
      | none => rw [hcc] at e'; cases e'
      | some u =>
        rw [hcc] at e'
        cases u with
        | exc er ρ1 => cases e'; exact ⟨G', ρ', F', _, c', hcc, exc_out z'⟩
        | ok b ρ1 =>
          refine ⟨G', ρ', F', _, c', hcc, fun G1 H1 F1 c1 x1 => ?_⟩
          have z1 := endS_trans z' .refl x1
          cases b with
          | false => cases e'; exact L2.iteF (z1 σ' G1 H1 F1 .refl c1 (.refl fun _ h => h))
          | true =>
            refine L2.iteT ?_
            dsimp only at e'
            refine ⟨fun σ2 H2 => ∃ G2 ρ2 F2 o2, Cfg ⟨X.K, ca⟩ G2 H2 σ2 ρ2 F2 ∧ whF fc fb m ρ2 = some o2 ∧ endS ⟨X.K, ca⟩ W I σ2 G2 H2 (un F2) Dn o2, fun σ2 H2 h => ⟨m, by omega, h⟩, ?_⟩
            cases hb' : fb ρ1 with
            | none => rw [hb'] at e'; cases e'
            | some ob =>
              rw [hb'] at e'
              refine ⟨G1, ρ1, F1, ob, c1, hb', ?_⟩
              cases ob with
              | nx ρ3 => exact fun σ3 G3 H3 F3 p3 c3 x3 => ⟨G3, ρ3, F3, o', c3, e', endS_trans z1 p3 x3⟩
              | cnt ρ3 => exact fun σ3 G3 H3 F3 p3 c3 x3 => ⟨G3, ρ3, F3, o', c3, e', endS_trans z1 p3 x3⟩
              | brk ρ3 => cases e'; exact z1
              | ret d ρ3 => cases e'; exact z1
              | exc er ρ3 => cases e'; exact z1
end
end DL

namespace DL
open PySem PySem.Spec PyProof.Rows L2

/-! ### list comprehensions -/
def wipeD (ρ : DEnv) : List Nat → DEnv
  | [] => ρ
  | v :: vs => (wipeD ρ vs).set v none
/-- the slots in vs as they were in ρ0 -/
def restD (ρ0 ρ : DEnv) : List Nat → DEnv
  | [] => ρ
  | v :: vs => match ρ0[v]? with
    | some o => (restD ρ0 ρ vs).set v o
    | none => restD ρ0 ρ vs
theorem wipeD_len (ρ : DEnv) : ∀ vs : List Nat, (wipeD ρ vs).length = ρ.length
  | [] => rfl
  | v :: vs => by rw [wipeD, List.length_set, wipeD_len ρ vs]
theorem restD_len (ρ0 ρ : DEnv) : ∀ vs : List Nat, (restD ρ0 ρ vs).length = ρ.length
  | [] => rfl
  | v :: vs => by
    unfold restD
    split
    · rw [List.length_set, restD_len ρ0 ρ vs]
    · exact restD_len ρ0 ρ vs
theorem wipeD_in {ρ : DEnv} {i : Nat} : ∀ {vs : List Nat}, i ∈ vs → ∀ d, (wipeD ρ vs)[i]? ≠ some (some d)
  | v :: vs, h, d, e => by
    rw [wipeD] at e
    by_cases hv : v = i
    · subst hv
      have hl : v < ((wipeD ρ vs).set v none).length := (List.getElem?_eq_some_iff.mp e).1
      rw [List.getElem?_set_self (by simpa using hl)] at e
      cases e
    · rw [List.getElem?_set_ne hv] at e
      exact wipeD_in ((List.mem_cons.mp h).resolve_left (Ne.symm hv)) d e
theorem wipeD_out {ρ : DEnv} {i : Nat} : ∀ {vs : List Nat}, i ∉ vs → (wipeD ρ vs)[i]? = ρ[i]?
  | [], _ => rfl
  | v :: vs, h => by
    rw [wipeD, List.getElem?_set_ne fun z => h (by simp [z])]
    exact wipeD_out fun z => h (by simp [z])
theorem restD_in {ρ0 ρ : DEnv} (l : ρ0.length = ρ.length) {i : Nat} : ∀ {vs : List Nat}, i ∈ vs → (restD ρ0 ρ vs)[i]? = ρ0[i]?
  | v :: vs, h => by
    unfold restD
    by_cases hv : v = i
    · subst hv
      cases q : ρ0[v]? with
      | none =>
        have : ρ.length ≤ v := by rw [← l]; exact List.getElem?_eq_none_iff.mp q
        dsimp only
        rw [List.getElem?_eq_none_iff.mpr (by rw [restD_len]; exact this)]
      | some o =>
        dsimp only
        have hl : v < ρ0.length := (List.getElem?_eq_some_iff.mp q).1
        rw [List.getElem?_set_self (by rw [restD_len, ← l]; exact hl)]
    · have hm := (List.mem_cons.mp h).resolve_left (Ne.symm hv)
      split
      · rw [List.getElem?_set_ne hv]; exact restD_in l hm
      · exact restD_in l hm
theorem restD_out {ρ0 ρ : DEnv} {i : Nat} : ∀ {vs : List Nat}, i ∉ vs → (restD ρ0 ρ vs)[i]? = ρ[i]?
  | [], _ => rfl
  | v :: vs, h => by
    unfold restD
    split
    · rw [List.getElem?_set_ne fun z => h (by simp [z])]
      exact restD_out fun z => h (by simp [z])
    · exact restD_out fun z => h (by simp [z])
theorem wipe_in {σ : L2.St} {i : Nat} (hi : i < σ.length) : ∀ {vs : List Nat}, i ∈ vs → (wipe σ vs)[i]? = some none
  | v :: vs, h => by
    unfold wipe
    by_cases hv : v = i
    · subst hv; rw [List.getElem?_set_self (by rw [wipe_length]; exact hi)]
    · rw [List.getElem?_set_ne hv]; exact wipe_in hi ((List.mem_cons.mp h).resolve_left (Ne.symm hv))
theorem wipe_ext {σ σ' : L2.St} {vs : List Nat} (l : σ'.length = σ.length) (h : ∀ i, i ∉ vs → σ'[i]? = (wipe σ vs)[i]?) : wipe σ' vs = wipe σ vs := by
  refine List.ext_getElem? fun i => ?_
  by_cases hi : i ∈ vs
  · by_cases hl : i < σ.length
    · rw [wipe_in hl hi, wipe_in (by omega) hi]
    · rw [List.getElem?_eq_none_iff.mpr (by rw [wipe_length]; omega), List.getElem?_eq_none_iff.mpr (by rw [wipe_length]; omega)]
  · rw [wipe_out hi, h i hi]
section
variable {B : Bd} {G H : Hp} {σ : L2.St} {ρ : DEnv} {F : Nat → FP}
theorem Cfg.wipe (c : Cfg B G H σ ρ F) (vs : List Nat) : Cfg B G H (L2.wipe σ vs) (wipeD ρ vs) (fun j x => F j x ∧ j ∉ vs) := by
  refine ⟨c.sub, by rw [wipeD_len, wipe_length]; exact c.len, fun i d e => ?_, fun i h x hx => ?_, fun i j x a b => c.dis i j x a.1 b.1⟩
  · by_cases hi : i ∈ vs
    · exact (wipeD_in hi d e).elim
    · rw [wipeD_out hi] at e
      obtain ⟨v, e1, r⟩ := c.slot i d e
      refine ⟨v, by rw [wipe_out hi]; exact e1, ?_⟩
      have en : (fun x => F i x ∧ i ∉ vs) = F i := by funext x; exact propext ⟨fun z => z.1, fun z => ⟨z, hi⟩⟩
      rw [en]; exact r
  · obtain ⟨d, v, e1, _, _⟩ := c.own hx.1
    exact h d (by rw [wipeD_out hx.2]; exact e1)
/-- back to the slots that were wiped -/
theorem Cfg.rest {G' H' : Hp} {ρ' : DEnv} {F' : Nat → FP} {W' : FP} {vs : List Nat} (c : Cfg B G H σ ρ F) (c' : Cfg B G' H' (L2.wipe σ vs) ρ' F') (x : Ext G H (un fun j x => F j x ∧ j ∉ vs) G' H' W') (w : ∀ y, un F' y → W' y) :
    Cfg B G' H' σ (restD ρ ρ' vs) (fun j y => (j ∈ vs ∧ F j y) ∨ (j ∉ vs ∧ F' j y)) ∧ ∀ y, (∃ j, j ∈ vs ∧ F j y) → ¬ W' y := by
  have l : ρ.length = ρ'.length := by rw [c.len, c'.len, wipe_length]
  have fr : ∀ i d v, i ∈ vs → Rep B G H v d (F i) → Rep B G' H' v d (F i) ∧ ∀ b, F i b → ¬ W' b := fun i d v hi r => r.frame x fun b hb ⟨j, hj⟩ => hj.2 (by rw [c.dis j i b hj.1 hb]; exact hi)
  refine ⟨⟨c'.sub, by rw [restD_len, c'.len, wipe_length], fun i d e => ?_, fun i h y hy => ?_, fun i j y a b => ?_⟩, fun y ⟨j, hj, hy⟩ => ?_⟩
  · by_cases hi : i ∈ vs
    · rw [restD_in l hi] at e
      obtain ⟨v, e1, r⟩ := c.slot i d e
      refine ⟨v, e1, ?_⟩
      have en : (fun y => (i ∈ vs ∧ F i y) ∨ (i ∉ vs ∧ F' i y)) = F i := by funext y; exact propext ⟨fun z => z.elim (·.2) fun z => (z.1 hi).elim, fun z => .inl ⟨hi, z⟩⟩
      rw [en]; exact (fr i d v hi r).1
    · rw [restD_out hi] at e
      obtain ⟨v, e1, r⟩ := c'.slot i d e
      rw [wipe_out hi] at e1
      refine ⟨v, e1, ?_⟩
      have en : (fun y => (i ∈ vs ∧ F i y) ∨ (i ∉ vs ∧ F' i y)) = F' i := by funext y; exact propext ⟨fun z => z.elim (fun z => (hi z.1).elim) (·.2), fun z => .inr ⟨hi, z⟩⟩
      rw [en]; exact r
  · rcases hy with ⟨hi, hy⟩ | ⟨hi, hy⟩
    · obtain ⟨d, v, e1, _, _⟩ := c.own hy
      exact h d (by rw [restD_in l hi]; exact e1)
    · obtain ⟨d, v, e1, _, _⟩ := c'.own hy
      exact h d (by rw [restD_out hi]; exact e1)
  · rcases a with ⟨h1, a⟩ | ⟨h1, a⟩ <;> rcases b with ⟨h2, b⟩ | ⟨h2, b⟩
    · exact c.dis i j y a b
    · obtain ⟨d, v, _, _, r⟩ := c.own a
      exact ((fr i d v h1 r).2 y a (w y ⟨j, b⟩)).elim
    · obtain ⟨d, v, _, _, r⟩ := c.own b
      exact ((fr j d v h2 r).2 y b (w y ⟨i, a⟩)).elim
    · exact c'.dis i j y a b
  · obtain ⟨d, v, _, _, r⟩ := c.own hy
    exact (fr j d v hj r).2 y hy
end
def evYes : Ev Bool := .pure true
/-- the items one by one; acc: what is made so far -/
def compE (vs : List Nat) (t : Tgt) (c : Ev Bool) (f : Ev AV) : List D → List D → DEnv → Option (List D × DEnv)
  | [], acc, ρ => some (acc, wipeD ρ vs)
  | d :: ds, acc, ρ => match t d (wipeD ρ vs) with
    | none => none
    | some ρ1 => match c ρ1 with
      | some (.ok false ρ2) => compE vs t c f ds acc ρ2
      | some (.ok true ρ2) => match f ρ2 with
        | some (.ok av ρ3) => match cont ρ3 av with
          | some e => if acc.length < 16777216 then compE vs t c f ds (acc ++ [frz e]) (frzS (plS [av]) ρ3) else none
          | none => none
        | _ => none
      | _ => none
def evComp (fi : Ev (List D)) (vs : List Nat) (t : Tgt) (c : Ev Bool) (f : Ev AV) : Ev AV := fi.andThen fun ds ρ => match compE vs t c f ds [] (wipeD ρ vs) with
  | some (acc, ρ') => some (.ok (.val (.ol acc)) (restD ρ ρ' vs))
  | none => none
/-- the slots that are not in vs -/
def others (n : Nat) (vs : List Nat) : List Nat := (List.range n).filter fun i => decide (i ∉ vs)
def DTs (ca : Nat → Addr) (X : Cx) (ifs : List Expr) (f : Ev Bool) : Prop := ∀ W, Takes X W → PTs X ifs (tDT ⟨X.K, ca⟩ W f)
theorem wipeD_get {ρ : DEnv} {i : Nat} (hi : i < ρ.length) : ∀ {vs : List Nat}, i ∈ vs → (wipeD ρ vs)[i]? = some none
  | v :: vs, h => by
    rw [wipeD]
    by_cases hv : v = i
    · subst hv; rw [List.getElem?_set_self (by rw [wipeD_len]; exact hi)]
    · rw [List.getElem?_set_ne hv]; exact wipeD_get hi ((List.mem_cons.mp h).resolve_left (Ne.symm hv))
theorem wipeD_wipeD (ρ : DEnv) (vs : List Nat) : wipeD (wipeD ρ vs) vs = wipeD ρ vs := by
  refine List.ext_getElem? fun i => ?_
  by_cases hi : i ∈ vs
  · by_cases hl : i < ρ.length
    · rw [wipeD_get (by rw [wipeD_len]; exact hl) hi, wipeD_get hl hi]
    · rw [List.getElem?_eq_none_iff.mpr (by rw [wipeD_len, wipeD_len]; omega), List.getElem?_eq_none_iff.mpr (by rw [wipeD_len]; omega)]
  · rw [wipeD_out hi]
theorem compE_wipe {vs : List Nat} {t : Tgt} {fc : Ev Bool} {f : Ev AV} {ds acc : List D} {ρ : DEnv} : compE vs t fc f ds acc (wipeD ρ vs) = compE vs t fc f ds acc ρ := by
  cases ds with
  | nil => unfold compE; rw [wipeD_wipeD]
  | cons d ds => unfold compE; rw [wipeD_wipeD]
section
variable {ca : Nat → Addr} {X : Cx}
theorem PTs.imp {X : Cx} {e : List Expr} {t u : TT} (h : PTs X e t) (k : ∀ (σ : L2.St) (H : Hp) (Q : Bool → Hp → Prop), u σ H Q → t σ H Q) : PTs X e u := ⟨fun pins s σ H Q I q => h.run pins s σ H Q I (k σ H Q q)⟩
theorem dts_nil : DTs ca X [] evYes := fun W tk => PTs.imp pts_nil fun σ H Q h => by
  obtain ⟨G, ρ, F, o, c, e, z⟩ := h
  exact tDT_pure c e z
theorem dts_one {c : Expr} {f : Ev Bool} (h : DT ca X c f) : DTs ca X [c] f := fun W tk => pts_one (h W tk)
variable {elt tg iter : Expr} {ifs : List Expr} {scope : Scope} {own : List (Str × Nat)} {pos : Pos} {fi : Ev (List D)} {t : Tgt} {fc : Ev Bool} {f : Ev AV} {N : Nat}
theorem un_nof (F : Nat → FP) (T : FP) : ∀ x, (un F x ∨ T x) → un F x ∨ T x := fun _ h => h
/-- the reading of a comprehension -/
theorem tD_comp {B : Bd} {W : WX} {σ : L2.St} {H : Hp} {Q : VK} {vs : List Nat} (hN : ∀ {G H : Hp} {ρ : DEnv} {F : Nat → FP}, Cfg B G H σ ρ F → σ.length = N) (h : tD B W (evComp fi vs t fc f) σ H Q) :
    tLc (tI B W fi) (gD B (others N vs) t) (tDT B (fun _ _ _ _ => False) fc) (tD B (fun _ _ _ _ => False) f) vs σ H Q := by
  obtain ⟨G, ρ, F, o, c, e, z⟩ := h
  unfold evComp at e
  cases hf : fi ρ with
  | none => rw [andThen_none hf] at e; cases e
  | some u =>
    cases u with
    | exc er ρ' => rw [andThen_exc hf] at e; cases e; exact ⟨G, ρ, F, _, c, hf, z⟩
    | ok ds ρ1 =>
      rw [andThen_ok hf] at e
      refine ⟨G, ρ, F, _, c, hf, fun J G1 H1 F1 c1 it x1 D hD => ?_⟩
      cases hc : compE vs t fc f ds [] (wipeD ρ1 vs) with
      | none => rw [hc] at e; cases e
      | some q =>
        obtain ⟨acc, ρ'⟩ := q
        rw [hc] at e
        cases e
        have hn := hN c1
        have gD0 : G1 D = none := no_g c1.sub hD
        -- what holds of the state between two turns
        refine ⟨fun i m H' => m = ds.length - i ∧ i ≤ ds.length ∧ ∃ G' ρ2 F2 acc2 vs2, Cfg B G' H' (L2.wipe σ vs) ρ2 F2 ∧ (∀ b o, G1 b = some o → G' b = some o) ∧ Ext G1 H1 (un fun j x => F1 j x ∧ j ∉ vs) G' H' (fun x => un F2 x ∨ x = D) ∧ G' D = none ∧ ¬ un F2 D ∧
            H' D = some (.lst vs2) ∧ Paired (fun v d => Rep B G' H' v d nof) vs2 acc2 ∧ compE vs t fc f (ds.drop i) acc2 ρ2 = some (acc, ρ'),
          ⟨ds.length, by simp, Nat.zero_le _, G1, wipeD ρ1 vs, _, [], [], (c1.wipe vs).grow (ext_own hD) (sub_own hD c1.sub), fun _ _ h => h, ?_, gD0, fun ⟨j, hj⟩ => ?_, upd_same, .nil, hc⟩, ?_⟩
        · have x2 : Ext G1 H1 nof G1 (upd H1 D (.lst [])) (fun x => x = D) := ext_own hD
          exact (Ext.refl (fun _ h => h)).more x2
        · obtain ⟨⟨o, eo⟩, _⟩ := c1.dom ⟨j, hj.1⟩
          rw [hD] at eo; cases eo
        · rintro i m H' ⟨rfl, hi, G', ρ2, F2, acc2, vs2, c2, gg, xx, gD', nD, hD', ra, e'⟩
          by_cases hlt : i < ds.length
          · have hd : ds.drop i = ds[i] :: ds.drop (i + 1) := List.drop_eq_getElem_cons hlt
            rw [hd] at e'
            unfold compE at e'
            refine .inr ⟨it.go i G' H' gg c2.sub hlt, fun H3 => i + 1 ≤ ds.length ∧ ∃ G3 ρ3 F3 acc3 vs3, Cfg B G3 H3 (L2.wipe σ vs) ρ3 F3 ∧ (∀ b o, G1 b = some o → G3 b = some o) ∧ Ext G1 H1 (un fun j x => F1 j x ∧ j ∉ vs) G3 H3 (fun x => un F3 x ∨ x = D) ∧ G3 D = none ∧ ¬ un F3 D ∧
            H3 D = some (.lst vs3) ∧ Paired (fun v d => Rep B G3 H3 v d nof) vs3 acc3 ∧ compE vs t fc f (ds.drop (i + 1)) acc3 ρ3 = some (acc, ρ'), fun H3 hN => ⟨ds.length - (i + 1), by omega, rfl, hN⟩, fun x H'' y => ?_⟩
            obtain ⟨d, G'', hd', sub'', rx, x''⟩ := it.yld i G' H' x H'' gg c2.sub hlt y
            have hdd : d = ds[i] := by rw [List.getElem?_eq_getElem hlt] at hd'; cases hd'; rfl
            subst hdd
            cases ht : t ds[i] (wipeD ρ2 vs) with
            | none => rw [ht] at e'; cases e'
            | some ρ3 =>
              rw [ht] at e'
              dsimp only at e'
              have c2' := c2.grow x'' sub''
              have c2w : Cfg B G'' H'' (L2.wipe σ vs) (wipeD ρ2 vs) (fun j x => F2 j x ∧ j ∉ vs) := by
                have := c2'.wipe vs
                rw [wipe_ext (σ := σ) (wipe_length _ _) fun i _ => rfl] at this
                exact this
              have xx1 : Ext G1 H1 (un fun j x => F1 j x ∧ j ∉ vs) G'' H'' (fun x => un (fun j x => F2 j x ∧ j ∉ vs) x ∨ x = D) := by
                have := xx.more x''
                exact this.mono (fun _ h => h) fun x h => .inl (h.imp (fun ⟨j, hj⟩ => ⟨j, hj.1⟩) id)
              have dD2 : H'' D = some (.lst vs2) := x''.hh D _ hD' id
              have gD2 : G'' D = none := by
                cases w : G'' D with
                | none => rfl
                | some o =>
                  rcases x''.gn D o w with w | w | w
                  · rw [gD'] at w; cases w
                  · exact w.elim
                  · rw [hD'] at w; cases w
              -- a step of this turn: the list stands apart
              have step : ∀ {G3 H3 : Hp} {W3 W4 : FP}, Ext G1 H1 (un fun j x => F1 j x ∧ j ∉ vs) G3 H3 (fun x => W3 x ∨ x = D) → H3 D = some (.lst vs2) → G3 D = none → ¬ W3 D → ∀ {G4 H4 : Hp}, Ext G3 H3 W3 G4 H4 W4 →
                  Ext G1 H1 (un fun j x => F1 j x ∧ j ∉ vs) G4 H4 (fun x => W4 x ∨ x = D) ∧ H4 D = some (.lst vs2) ∧ G4 D = none ∧ ¬ W4 D := fun {G3 H3 W3 W4} xa hd3 gd3 nd3 {G4 H4} xb => by
                refine ⟨?_, xb.hh D _ hd3 nd3, ?_, fun w => ?_⟩
                · have xc : Ext G3 H3 (fun x => W3 x ∨ x = D) G4 H4 (fun x => W4 x ∨ x = D) := ⟨xb.gg, fun b o e n => xb.hh b o e fun w => n (.inl w), fun b hb => hb.elim (fun h => (xb.ww b h).imp .inl id) fun h => .inl (.inr h), fun b o e => (xb.gn b o e).imp id fun h => h.imp .inl id⟩
                  exact xa.trans xc
                · cases w : G4 D with
                  | none => rfl
                  | some o =>
                    rcases xb.gn D o w with w | w | w
                    · rw [gd3] at w; cases w
                    · exact (nd3 w).elim
                    · rw [hd3] at w; cases w
                · rcases xb.ww D w with w | w
                  · exact nd3 w
                  · rw [hd3] at w; cases w
              refine ⟨G'', wipeD ρ2 vs, _, ds[i], ρ3, c2w, rx, ht, fun σ4 G4 H4 F4 p4 c4 x4 => ⟨?_, ?_⟩⟩
              · refine wipe_ext (by rw [p4.len, wipe_length]) fun j hj => ?_
                by_cases hjn : j < N
                · exact p4.at_ j (List.mem_filter.mpr ⟨List.mem_range.mpr hjn, by simpa using hj⟩)
                · rw [List.getElem?_eq_none_iff.mpr (by rw [p4.len, wipe_length]; omega), List.getElem?_eq_none_iff.mpr (by rw [wipe_length]; omega)]
              · have hw4 : L2.wipe σ4 vs = L2.wipe σ vs := by
                  refine wipe_ext (by rw [p4.len, wipe_length]) fun j hj => ?_
                  by_cases hjn : j < N
                  · exact p4.at_ j (List.mem_filter.mpr ⟨List.mem_range.mpr hjn, by simpa using hj⟩)
                  · rw [List.getElem?_eq_none_iff.mpr (by rw [p4.len, wipe_length]; omega), List.getElem?_eq_none_iff.mpr (by rw [wipe_length]; omega)]
                obtain ⟨xa4, hd4, gd4, nd4⟩ := step xx1 dD2 gD2 (fun ⟨j, hj⟩ => nD ⟨j, hj.1⟩) x4
                -- back to the turn's start
                have back : ∀ {G5 H5 : Hp} {ρ5 : DEnv} {F5 : Nat → FP}, Cfg B G5 H5 σ4 ρ5 F5 → Cfg B G5 H5 (L2.wipe σ vs) (wipeD ρ5 vs) (fun j x => F5 j x ∧ j ∉ vs) := fun {G5 H5 ρ5 F5} c5 => by
                  have := c5.wipe vs
                  rw [hw4] at this
                  exact this
                have pr : ∀ {G5 H5 : Hp}, (∀ b o, G' b = some o → G5 b = some o) → Paired (fun v d => Rep B G5 H5 v d nof) vs2 acc2 := fun {G5 H5} g5 => L2.Paired.mapP ra fun v d r => r.keep g5 fun _ h => h.elim
                cases hfc : fc ρ3 with
                | none => rw [hfc] at e'; cases e'
                | some uc =>
                  rw [hfc] at e'
                  cases uc with
                  | exc er ρ4 => cases e'
                  | ok b ρ4 =>
                    refine ⟨G4, ρ3, F4, _, c4, hfc, fun G5 H5 F5 c5 x5 => ?_⟩
                    obtain ⟨xa5, hd5, gd5, nd5⟩ := step xa4 hd4 gd4 nd4 x5
                    cases b with
                    | false =>
                      refine L2.iteF ⟨hlt, G5, wipeD ρ4 vs, _, acc2, vs2, back c5, fun b o h => xa5.gg b o h, xa5.mono (fun _ h => h) (fun x h => h.imp (fun ⟨j, hj⟩ => ⟨j, hj.1⟩) id), gd5, fun ⟨j, hj⟩ => nd5 ⟨j, hj.1⟩, hd5, pr fun b o h => x5.gg b o (x4.gg b o (x''.gg b o h)), ?_⟩
                      rw [compE_wipe]
                      exact e'
                    | true =>
                      refine L2.iteT ?_
                      dsimp only at e'
                      cases hff : f ρ4 with
                      | none => rw [hff] at e'; cases e'
                      | some uf =>
                        rw [hff] at e'
                        cases uf with
                        | exc er ρ5 => cases e'
                        | ok av ρ5 =>
                          dsimp only at e'
                          refine ⟨G5, ρ4, F5, _, c5, hff, fun w G6 H6 F6 T c6 r6 n6 x6 => ?_⟩
                          obtain ⟨xa6, hd6, gd6, nd6⟩ := step xa5 hd5 gd5 nd5 x6
                          cases hcv : cont ρ5 av with
                          | none => rw [hcv] at e'; cases e'
                          | some ed =>
                            rw [hcv] at e'
                            dsimp only at e'
                            split at e'
                            · rename_i hz
                              obtain ⟨c7, x7⟩ := freeze_cfg c6 n6 (plS [av])
                              have hcs : conts ρ5 [av] = some [ed] := by unfold conts conts; rw [hcv]
                              have rr := freeze_reps c6 n6 (plS [av]) (.cons r6 (fun _ h => h) (.nil (Wt := nof)) (fun _ h => h.elim) fun _ _ h => h) hcs fun i h => h
                              obtain ⟨w', hw', rw'⟩ := paired1 rr
                              cases hw'
                              obtain ⟨xa7, hd7, gd7, nd7⟩ := step xa6 hd6 gd6 nd6 x7
                              refine ⟨vs2, hd6, by rw [sizeLine_eq, paired_len ra]; exact hz, hlt, _, wipeD (frzS (plS [av]) ρ5) vs, (fun j x => (F6 j x ∧ j ∉ plS [av]) ∧ j ∉ vs), acc2 ++ [frz ed], vs2 ++ [w], ?_, fun b o h => xa7.gg b o h, ?_, gd7, fun ⟨j, hj⟩ => nd7 ⟨j, hj.1⟩, upd_same, ?_, ?_⟩
                              · have := back c7
                                refine this.apart (W := fun x => x = D) (W1 := fun x => x = D) ⟨fun _ _ e => e, fun b o e n => by rw [upd_ne n]; exact e, fun b h => .inl h, fun _ _ e => .inl e⟩ (fun b o e => ?_) fun b ⟨j, hj⟩ z => nd7 (by rw [← z]; exact ⟨j, hj.1⟩)
                                rw [upd_ne fun z => by rw [z, gd7] at e; cases e]
                                exact c7.sub b o e
                              · refine ⟨xa7.gg, fun b o e n => ?_, fun b h => xa7.ww b (h.imp (fun ⟨j, hj⟩ => ⟨j, hj.1⟩) id), xa7.gn⟩
                                rw [upd_ne fun z => by rw [z, hD] at e; cases e]
                                exact xa7.hh b o e n
                              · have g7 : ∀ b o, G' b = some o → gfr G6 H6 (frU G6 H6 F6 T (plS [av])) b = some o := fun b o h => x7.gg b o (x6.gg b o (x5.gg b o (x4.gg b o (x''.gg b o h))))
                                exact paired_append (L2.Paired.mapP ra fun v d r => r.keep g7 fun _ h => h.elim) (.cons rw'.up .nil)
                              · rw [compE_wipe]
                                exact e'
                            · cases e'
          · have hi' : i = ds.length := by omega
            subst hi'
            rw [List.drop_length] at e'
            cases e'
            refine .inl ⟨it.stop G' H' gg c2.sub, ?_⟩
            have c2n : Cfg B G' H' (L2.wipe σ vs) (wipeD ρ2 vs) (fun j x => F2 j x ∧ j ∉ vs) := by
              have := c2.wipe vs
              rw [wipe_ext (σ := σ) (wipe_length _ _) fun i _ => rfl] at this
              exact this
            obtain ⟨c3, ap⟩ := c1.rest c2n xx fun y ⟨j, hj⟩ => .inl ⟨j, hj.1⟩
            refine z (.ref D) G' H' _ (fun x => x = D) c3 (rep_ol gD' hD' (paired_len ra) fun i v d e1 e2 => paired_get ra i v d e1 e2) (fun x hx ⟨j, hj⟩ => ?_) (x1.trans ?_)
            · subst hx
              rcases hj with ⟨_, hj⟩ | ⟨_, hj⟩
              · obtain ⟨⟨o, eo⟩, _⟩ := c1.dom ⟨j, hj⟩
                rw [hD] at eo; cases eo
              · exact nD ⟨j, hj.1⟩
            · refine ⟨xx.gg, fun b o e n => xx.hh b o e fun ⟨j, hj⟩ => n ⟨j, hj.1⟩, fun b hb => ?_, fun b o e => (xx.gn b o e).imp id fun h => h.imp (fun ⟨j, hj⟩ => ⟨j, hj.1⟩) id⟩
              rcases hb with ⟨j, ⟨_, hj⟩ | ⟨_, hj⟩⟩ | hb
              · exact .inl ⟨j, hj⟩
              · exact (xx.ww b (.inl ⟨j, hj.1⟩)).imp (fun ⟨j, hj⟩ => ⟨j, hj.1⟩) id
              · exact .inr (by rw [hb]; exact hD)
end
end DL

namespace DL
open PySem PySem.Spec PyProof.Rows L2

/-! ### a comprehension in its place -/
section
variable {ca : Nat → Addr} {X : Cx} {elt tg iter : Expr} {ifs : List Expr} {scope : Scope} {own : List (Str × Nat)} {pos spos py : Pos} {fi : Ev (List D)} {t : Tgt} {fc : Ev Bool} {f : Ev AV} {i : Nat} {y : Str}
abbrev Cx.cmp (X : Cx) (s : Shared) (H : Hp) (scope : Scope) (C : Addr) (cl : List (Str × Addr)) (fp : List Addr) : Cx := X.blk s H scope (compEnvC scope cl C X.env) fp
theorem de_lc (hc : X.calm = true) (hN : X.N.Nodup) (hi : DI ca X tg iter fi) (ok : BlkOk X.N X.env.scope scope own)
    (hg : ∀ s H C cl fp, DG ca (Cx.cmp X s H scope C cl fp) (others X.N.length (own.map (fun z : Str × Nat => z.2))) tg t) (ht : ∀ s H C cl fp, DTs ca (Cx.cmp X s H scope C cl fp) ifs fc)
    (he : ∀ s H C cl fp, DE ca (Cx.cmp X s H scope C cl fp) elt f) (hs : ∀ x, foldedSetIterable iter X.env x = pure x := by intro _; rfl) :
    DE ca X (.ListComp elt [⟨tg, iter, ifs, 0⟩] scope pos) (evComp fi (own.map (fun z : Str × Nat => z.2)) t fc f) := fun W tk =>
  ⟨fun pins s σ H Q I h => (pe_lc (g := gD ⟨X.K, ca⟩ (others X.N.length (own.map (fun z : Str × Nat => z.2))) t) (tt := tDT ⟨X.K, ca⟩ (fun _ _ _ _ => False) fc) (te := tD ⟨X.K, ca⟩ (fun _ _ _ _ => False) f) hc hN (hi W tk) ok (fun s H C cl fp => hg s H C cl fp) (fun s H C cl fp => ht s H C cl fp _ takes0) (fun s H C cl fp => he s H C cl fp _ takes0) hs).run pins s σ H Q I (tD_comp (N := X.N.length) (fun _ => I.len) h)⟩
end

/-! ### an object that stands there, now tracked -/
theorem ext_inv {X : Cx} {pins : List (Addr × Obj)} {σ : L2.St} {H : Hp} {s : Shared} {ea : Addr} {o : HO} {oe : Obj} {vs : Array Value} (I : Inv X pins σ H s) (e1 : s.heap.get? ea = some oe) (e2 : oe.data = .fields vs)
    (nw : X.s_0.heap.get? ea = none ∨ ea ∈ X.ex) (np : ∀ p ∈ X.pn ++ pins, p.1 ≠ ea) (nL : ea ≠ X.env.locals) (na : H ea = none) (ok : ObjOk X.prog X.w (upd H ea o) s.heap ea o) : Inv X pins σ (upd H ea o) s := by
  have nN : ∀ {b u}, H b = some u → b ≠ ea := fun {b u} e z => by rw [z, na] at e; cases e
  refine ⟨I.ok, I.os, I.bare, ⟨I.base.keep, I.base.slot, fun b u e n hx => ?_, I.base.there, fun b xs e => ?_, fun b u w e => ?_, fun b ps e => ?_⟩, I.loc, I.cell, ?_, fun x c e => ?_, fun p hp => ?_, fun b u e => ?_, I.len⟩
  · have : b ≠ ea := fun z => by
      subst z
      rcases nw with nw | nw
      · rw [nw] at e; cases e
      · exact hx nw
    rw [upd_ne this]
    exact I.base.free b u e n hx
  · have z := I.base.tups b xs e
    rw [upd_ne (nN z)]; exact z
  · have z := I.base.frzs b u w e
    rw [upd_ne (nN z)]; exact z
  · obtain ⟨m, z⟩ := I.base.tbls b ps e
    exact ⟨m, by rw [upd_ne (nN z)]; exact z⟩
  · rw [upd_ne (Ne.symm nL)]; exact I.free
  · have : c ≠ ea := fun z => by
      obtain ⟨v, oc, q1, q2⟩ := I.cell x c e
      rw [z, e1] at q1
      cases q1
      rw [e2] at q2
      cases q2
    rw [upd_ne this]; exact I.freeC x c e
  · obtain ⟨q1, q2, q3⟩ := I.pin p hp
    exact ⟨q1, by rw [upd_ne (np p hp)]; exact q2, q3⟩
  · by_cases hb : b = ea
    · subst hb
      rw [upd_same] at e
      cases e
      exact ok
    · rw [upd_ne hb] at e
      exact (I.hok b u e).stay (fun _ _ _ q => q) (fun c q => by rw [upd_ne (nN q)]; exact q) fun c xs q => by rw [upd_ne (nN q)]; exact q
theorem to_suite {X : Cx} {pins : List (Addr × Obj)} {σ : L2.St} {H : Hp} {s : Shared} (ea : Addr) (I : Inv X pins σ H s) : Inv (X.suite ea (X.pn ++ pins)) [] σ H s :=
  ⟨I.ok.suite _ _, I.os, I.bare, I.base, I.loc, I.cell, I.free, I.freeC, fun p hp => I.pin p (by rwa [List.append_nil] at hp), I.hok, I.len⟩
theorem of_suite {X : Cx} {pins : List (Addr × Obj)} {σ : L2.St} {H : Hp} {s : Shared} {ea : Addr} (ok : X.Ok) (I : Inv (X.suite ea (X.pn ++ pins)) [] σ H s) : Inv X pins σ H s :=
  ⟨ok, I.os, I.bare, I.base, I.loc, I.cell, I.free, I.freeC, fun p hp => I.pin p (by rw [List.append_nil]; exact hp), I.hok, I.len⟩
/-- what the clause wishes of what the body lets out -/
def wCat (K : PySem.W.Frag) (hv : Value) (i : Nat) (ts : Addr → TS) (Wout : WX) (Dn : Ends) : WX := fun cls d σ H => ∃ b, PySem.W.exmOne K cls hv = some b ∧ (b = false → Wout cls d σ H) ∧
  (b = true → ∃ C dd, cls = .ref C ∧ d = some dd ∧ ∀ ea, H ea = none → ts ea { nx := fun σ1 H1 => Dn.nx (σ1.set i none) H1, rt := Dn.rt, bk := fun σ1 H1 => Dn.bk (σ1.set i none) H1, ct := fun σ1 H1 => Dn.ct (σ1.set i none) H1 } (σ.set i (some (.ref ea))) (upd H ea (exv C dd ea)))
theorem ps_cat {X : Cx} {x n : Str} {hv : Value} {i : Nat} {body suite : List Stmt} {b₀ : Stmt} {np pos pos' : Pos} {tb : WX → TS} {ts : Addr → TS} {Wout : WX} (hs : X.stack = X.env :: X.outer) (hf : X.env.frame = some X.env.locals) (hN : X.N.Nodup) (hi : X.N[i]? = some n) (hln : X.env.kindOf n = some .local) (hc : Names X x hv) (tk : Takes X Wout)
    (hb : ∀ (W : WX) (pn : List (Addr × Obj)) (xe : Value → Shared → Prop), Takes (X.tr pn xe) W → PassesOwn (model X.prog X.w) X.A X.env xe → PSs (X.tr pn xe) body (tb W)) (hsu : ∀ ea pn, PSs (X.suite ea pn) (b₀ :: suite) (ts ea)) :
    PS X (.Try body [.ExceptHandler (some (.Name x np)) (some n) (b₀ :: suite) pos'] [] [] pos) (fun Dn σ H => tb (wCat X.K hv i ts Wout Dn) Dn σ H) := ⟨fun pins s σ H Dn I h => by
  have ok := I.ok
  have fr : X.A.frames = some (X.env :: X.outer) := by rw [← hs]; exact ok.frames
  refine wpAny_Try_except (wpAny_mono ((hb (wCat X.K hv i ts Wout Dn) (X.pn ++ pins) (fun ex t => wpAny (model X.prog X.w) X.A (noteFrame ex X.env) (fun _ t2 => wpAny (model X.prog X.w) X.A (setFlight ex none) (fun _ t3 => wpAny (model X.prog X.w) X.A (handleBy ex X.env [.ExceptHandler (some (.Name x np)) (some n) (b₀ :: suite) pos']) (SP X pins Dn) X.xe t3) X.xe t2) X.xe t) (fun u t xx => ?_)
    PassesOwn.looking).run [] s σ H Dn (I.toTry _) h) (fun fl t q => ?_) fun _ _ z => z)
  · obtain ⟨ea, Bs, sI, pins2, σ1, H1, cls, d, rfl, J0, nb, up, sky, na, os, ag, b, hb1, hno, hyes⟩ := xx
    have J : Inv X pins σ1 H1 sI := J0.ofTry ok
    have sky2 : Sky Bs (X.env :: X.outer) ea (Zc cls d) X.env.locals t.heap := by rw [← hs]; exact sky
    refine Sky.land Zc.steady fr hf sky2 fun h3 l3 up3 => ?_
    have J3 : Inv X pins σ1 H1 { t with heap := h3 } := J.landed nb l3.1 (up.trans up3) os ag
    obtain ⟨o3, v3, he3, hz3, hd3⟩ := l3.there
    have offr : ea ∉ frs (X.env :: X.outer) := fun hm => by
      obtain ⟨_, o4, q4, hn4⟩ := l3.2.2.1.mem hm
      rw [he3] at q4
      cases q4
      exact hn4 _ hd3
    have nL : ea ≠ X.env.locals := fun z => offr (List.mem_filterMap.mpr ⟨X.env, List.mem_cons_self, by rw [hf, z]⟩)
    have nF : ea ∉ X.fs := fun hm => by
      obtain ⟨en, hen, qn⟩ := List.mem_filterMap.mp hm
      exact offr (List.mem_filterMap.mpr ⟨en, List.mem_cons_of_mem _ hen, qn⟩)
    -- the exception is new
    have n1 : sI.heap.get? ea = none := by
      cases q : sI.heap.get? ea with
      | none => rfl
      | some u =>
        have z := nb ea u q (by rw [hs]; exact offr)
        rw [l3.2.1] at z
        cases z
    have n0 : X.s_0.heap.get? ea = none ∨ ea ∈ X.ex := by
      by_cases hx : ea ∈ X.ex
      · exact .inr hx
      · cases q : X.s_0.heap.get? ea with
        | none => exact .inl rfl
        | some u =>
          obtain ⟨u2, z⟩ := J.base.there ea u q hx
          rw [n1] at z
          cases z
    have np2 : ∀ p ∈ X.pn ++ pins, p.1 ≠ ea := fun p hp z => by
      have w := (J.pin p hp).1
      rw [z, n1] at w
      cases w
    have LT : PySem.W.Looks (model X.prog X.w) h3 (typeOf (.ref ea)) cls := fun A Q E s k q => wpAny_typeOf_ref (k _ _ he3) (by rw [hz3.1]; exact q)
    have LM := PySem.W.exm_one (M := model X.prog X.w) J3.kIn LT hb1
    have S3 := J3.suite he3 hd3 na nL nF
    refine wpAny_handleBy_cons (codeAny_handlers_test ?_) (by intro q; cases q)
    have test : ∀ {Q : Value → Shared → Prop} {E : Value → Shared → Prop}, Q hv { t with heap := h3 } → wpAny (model X.prog X.w) (X.A.mark (some (.ref ea))) (eval (.Name x np) X.env) Q E { t with heap := h3 } := fun {Q E} q => by
      obtain ⟨g1, g2, g3 | ⟨g3, g4, g5⟩⟩ := hc
      · exact ld_glob (X := X.suite ea ((ea, o3) :: (X.pn ++ pins))) S3 g1 g3 q g2
      · exact ld_blt (X := X.suite ea ((ea, o3) :: (X.pn ++ pins))) S3 g1 g3 g4 q g5 g2
    refine test (LM.here ?_)
    cases b with
    | false =>
      refine wpAny_handleBy_nil ?_
      obtain ⟨k1, k2, k3, oe, vs, T, oT, ts', he, hz, hd, w1, w2⟩ := id l3
      have rest : wpAny (model X.prog X.w) X.A (setFlight (.ref ea) X.env.frame) (fun _ t4 => wpAny (model X.prog X.w) X.A (throw (.ref ea) : Sem Flow) (SP X pins Dn) X.xe t4) X.xe { t with heap := h3 } := by
        rw [hf]
        refine HandSPX.setFlight_upZ l3 fun h4 held up4 => wpAny_throw (tk _ _ ⟨ea, Bs, sI, pins, σ1, H1, cls, d, rfl, J, nb, (up.trans up3).trans up4, ?_, na, os, ag, hno rfl⟩)
        rw [hs]
        exact .inr (.inr held)
      unfold PySem.passOn
      refine wpAny_bind (wpAny_field he hd w1 ?_)
      rw [if_neg (by simp : ¬ ((Value.ref T == Value.none) = true))]
      first
        | exact wpAny_bind (wpAny_pure (wpAny_bind rest))
        | exact wpAny_bind rest
    | true =>
      obtain ⟨C, dd, rfl, rfl, hts⟩ := hyes rfl
      refine codeAny_handlers_suite_as (HandSPX.lands_againZ l3 fun h4 l4 up4 => ?_)
      have J4 : Inv X pins σ1 H1 { t with heap := h4 } := J.landed nb l4.1 ((up.trans up3).trans up4) os ag
      obtain ⟨o4, v4, he4, hz4, hd4⟩ := l4.there
      have J5 : Inv X pins σ1 (upd H1 ea (exv C dd ea)) { t with heap := h4 } := ext_inv J4 he4 hd4 n0 np2 nL na ⟨⟨o4, v4, he4, hz4.1, hz4.2, hd4⟩, ⟨o4, he4⟩, fun ha hb ⟨o5, v5, q5, r5⟩ k => ⟨o5, v5, k _ q5, r5⟩⟩
      have S5 := to_suite ea J5
      refine store_ok (X := X.suite ea (X.pn ++ pins)) (v := .ref ea) S5 hN hi (.inl hln) rfl (fun s6 S6 => ?_) (.inr hln)
      refine wpAny_mono ((hsu ea (X.pn ++ pins)).run [] s6 _ _ _ S6 (hts ea na)) (fun fl s7 q7 => ?_) fun _ _ z => False.elim z
      have done : ∀ {σ7 : L2.St} {H7 : Hp} {Q : Shared → Prop}, Inv (X.suite ea (X.pn ++ pins)) [] σ7 H7 s7 → (∀ s8, Inv X pins (σ7.set i none) H7 s8 → Q s8) →
          wpAny (model X.prog X.w) X.A (do bindName X.env n .none; unbindBehindTheSuite X.env n pos') (fun _ s8 => Q s8) X.xe s7 := fun {σ7 H7 Q} S7 k => gone_ok (of_suite ok S7) hN hi hln k
      cases fl with
      | ret u =>
        obtain ⟨v7, σ7, H7, S7, r7, z7⟩ := q7
        exact done S7 fun s8 J8 => ⟨_, _, _, J8, r7, z7⟩
      | next =>
        obtain ⟨σ7, H7, S7, z7⟩ := q7
        exact done S7 fun s8 J8 => ⟨_, _, J8, z7⟩
      | brk =>
        obtain ⟨σ7, H7, S7, z7⟩ := q7
        exact done S7 fun s8 J8 => ⟨_, _, J8, z7⟩
      | cont =>
        obtain ⟨σ7, H7, S7, z7⟩ := q7
        exact done S7 fun s8 J8 => ⟨_, _, J8, z7⟩
  · cases fl with
    | next =>
      obtain ⟨σ1, H1, J, z⟩ := q
      exact wpAny_execs_nil ⟨σ1, H1, J.ofTry ok, z⟩
    | ret u =>
      obtain ⟨v, σ1, H1, J, r, z⟩ := q
      exact ⟨v, σ1, H1, J.ofTry ok, r, z⟩
    | brk =>
      obtain ⟨σ1, H1, J, z⟩ := q
      exact ⟨σ1, H1, J.ofTry ok, z⟩
    | cont =>
      obtain ⟨σ1, H1, J, z⟩ := q
      exact ⟨σ1, H1, J.ofTry ok, z⟩⟩
end DL

namespace DL
open PySem PySem.Spec PyProof.Rows L2

/-! ### try: .. except C as n: .. -/
def sCat (catch_ : Nat → Option Bool) (i : Nat) (fb fs : Sv) : Sv := fun ρ => match fb ρ with
  | some (.exc (.exc c d) ρ1) => match catch_ c with
    | some true => if i < ρ1.length then match fs (ρ1.set i (some (.exc c d))) with
      | some (.nx ρ2) => some (.nx (ρ2.set i none))
      | some (.brk ρ2) => some (.brk (ρ2.set i none))
      | some (.cnt ρ2) => some (.cnt (ρ2.set i none))
      | some (.ret d ρ2) => some (.ret d (ρ2.set i none))
      | _ => none
      else none
    | some false => some (.exc (.exc c d) ρ1)
    | none => none
  | some (.exc _ _) => none
  | o => o
theorem Cfg.void {B : Bd} {G H : Hp} {σ : L2.St} {ρ : DEnv} {F : Nat → FP} (c : Cfg B G H σ ρ F) (i : Nat) : Cfg B G H (σ.set i none) (ρ.set i none) (fun j x => F j x ∧ j ≠ i) := by
  have c2 := c.drop i
  refine ⟨c2.sub, by simpa using c.len, fun j d e => ?_, c2.emp, c2.dis⟩
  obtain ⟨v, e1, r⟩ := c2.slot j d e
  refine ⟨v, ?_, r⟩
  have hj : j ≠ i := fun z => by
    subst z
    have hl : j < (ρ.set j none).length := (List.getElem?_eq_some_iff.mp e).1
    rw [List.getElem?_set_self (by simpa using hl)] at e
    cases e
  rw [List.getElem?_set_ne (Ne.symm hj)]
  exact e1
theorem prot_set {I : List Nat} {σ : L2.St} {i : Nat} {o : Option V} (h : i ∉ I) : Prot I σ (σ.set i o) := ⟨by simp, fun j hj => by rw [List.getElem?_set_ne fun z => h (by rw [z]; exact hj)]⟩
section
variable {ca : Nat → Addr} {X : Cx} {I : List Nat} {x n : Str} {hv : Value} {i : Nat} {body suite : List Stmt} {b₀ : Stmt} {np pos pos' : Pos} {fb fs : Sv} {catch_ : Nat → Option Bool}
theorem ds_cat (hs : X.stack = X.env :: X.outer) (hf : X.env.frame = some X.env.locals) (hN : X.N.Nodup) (hi : X.N[i]? = some n) (hln : X.env.kindOf n = some .local) (hc : Names X x hv) (hI : i ∉ I) (hk : ∀ c b, catch_ c = some b → PySem.W.exmOne X.K (.ref (ca c)) hv = some b)
    (hb : ∀ pn xe, DB ca (X.tr pn xe) I body fb) (hsu : ∀ ea pn, DB ca (X.suite ea pn) I (b₀ :: suite) fs) : DS ca X I (.Try body [.ExceptHandler (some (.Name x np)) (some n) (b₀ :: suite) pos'] [] [] pos) (sCat catch_ i fb fs) := fun W tk ps =>
  PS.imp (ps_cat (tb := fun W' => tSD ⟨X.K, ca⟩ W' I fb) (ts := fun ea => tSD ⟨X.K, ca⟩ (fun _ _ _ _ => False) I fs) hs hf hN hi hln hc tk (fun W' pn xe tk' ps' => hb pn xe W' tk' ps') fun ea pn => hsu ea pn _ takes0 PassesOwn.never) fun Dn σ H h => by
    obtain ⟨G, ρ, F, o, c, e, z⟩ := h
    unfold sCat at e
    cases hfb : fb ρ with
    | none => rw [hfb] at e; cases e
    | some u =>
      rw [hfb] at e
      refine ⟨G, ρ, F, u, c, hfb, ?_⟩
      cases u with
      | nx ρ' => cases e; exact z
      | brk ρ' => cases e; exact z
      | cnt ρ' => cases e; exact z
      | ret d ρ' => cases e; exact z
      | exc er ρ1 =>
        intro σ1 G1 H1 F1 cls dx p1 c1 xa x1
        obtain ⟨c', dd, v, d, rfl, rfl, rfl, gd, r⟩ := xa
        dsimp only at e
        cases hcc : catch_ c' with
        | none => rw [hcc] at e; cases e
        | some b =>
          rw [hcc] at e
          cases b with
          | false =>
            cases e
            exact ⟨false, hk _ _ hcc, fun _ => z σ1 G1 H1 F1 _ _ p1 c1 ⟨c', dd, v, d, rfl, rfl, rfl, gd, r⟩ x1, fun q => nomatch q⟩
          | true =>
            dsimp only at e
            split at e
            case isFalse => cases e
            rename_i hl
            refine ⟨true, hk _ _ hcc, fun q => (nomatch q), fun _ => ⟨ca c', dd, rfl, rfl, fun ea na => ?_⟩⟩
            have s2 := sub_new (o := exv (ca c') dd ea) na c1.sub
            have x2 := ext_new (o := exv (ca c') dd ea) na c1.sub
            have c2 := c1.grow x2 s2
            have r2 : Rep ⟨X.K, ca⟩ (upd G1 ea (exv (ca c') dd ea)) (upd H1 ea (exv (ca c') dd ea)) (.ref ea) (.exc c' d) nof :=
              .exc upd_same (x2.gg _ _ gd) (r.keep x2.gg fun _ h => h.elim)
            have c3 := c2.setName i r2 (fun _ h => h.elim) hl
            have x3 : Ext G H (un F) (upd G1 ea (exv (ca c') dd ea)) (upd H1 ea (exv (ca c') dd ea)) (un fun j x => (j = i ∧ nof x) ∨ (j ≠ i ∧ F1 j x)) :=
              (x1.more x2).mono (fun _ h => h) fun y ⟨j, hj⟩ => .inl (hj.elim (fun w => w.2.elim) fun w => ⟨j, w.2⟩)
            cases hfs : fs (ρ1.set i (some (.exc c' d))) with
            | none => rw [hfs] at e; cases e
            | some w =>
              rw [hfs] at e
              refine ⟨_, _, _, w, c3, hfs, ?_⟩
              have dr : ∀ (F2 : Nat → FP) {G2 H2 : Hp}, Ext (upd G1 ea (exv (ca c') dd ea)) (upd H1 ea (exv (ca c') dd ea)) (un fun j x => (j = i ∧ nof x) ∨ (j ≠ i ∧ F1 j x)) G2 H2 (un F2) → Ext G H (un F) G2 H2 (un fun j x => F2 j x ∧ j ≠ i) := fun F2 {G2 H2} y =>
                (x3.trans y).mono (fun _ h => h) fun _ ⟨j, hj⟩ => ⟨j, hj.1⟩
              have pr : ∀ {σ2 : L2.St}, Prot I (σ1.set i (some (V.ref ea))) σ2 → Prot I σ (σ2.set i none) := fun {σ2} q => (p1.trans ((prot_set hI).trans q)).trans (prot_set hI)
              cases w with
              | nx ρ2 => cases e; exact fun σ2 G2 H2 F2 p2 c4 y => z (σ2.set i none) G2 H2 _ (pr p2) (c4.void i) (dr F2 y)
              | brk ρ2 => cases e; exact fun σ2 G2 H2 F2 p2 c4 y => z (σ2.set i none) G2 H2 _ (pr p2) (c4.void i) (dr F2 y)
              | cnt ρ2 => cases e; exact fun σ2 G2 H2 F2 p2 c4 y => z (σ2.set i none) G2 H2 _ (pr p2) (c4.void i) (dr F2 y)
              | ret d' ρ2 =>
                cases e
                exact fun v' σ2 G2 H2 F2 T p2 c4 r4 n4 y => z v' (σ2.set i none) G2 H2 _ T (pr p2) (c4.void i) r4 (fun a ha ⟨j, hj⟩ => n4 a ha ⟨j, hj.1⟩) ((x3.trans y).mono (fun _ h => h) fun _ h => h.imp (fun ⟨j, hj⟩ => ⟨j, hj.1⟩) id)
              | exc er' ρ2 => cases e
end

/-! ### raise C(e), C's __init__ storing the value -/
def spI (K : PySem.W.Frag) : Sp := fun vs H Q E => ∃ (a C : Addr) (v : V), vs = [.ref a, v] ∧ OexC K C ∧ PySem.W.findIn K (.ref C) "value" = some none ∧ H a = some (exo a C none) ∧
  ∀ dx, H dx = none → dx ≠ a → Q .non (upd (upd H dx (exd dx [(("value" : Str), v)])) a (exo a C (some dx)))
/-- what is known of the own exception class with the code c -/
structure ExK (K : PySem.W.Frag) (ca : Nat → Addr) (fI : Addr) (c : Nat) : Prop where
  oex : OexC K (ca c)
  ini : PySem.W.findIn K (.ref (ca c)) "__init__" = some (some (.ref fI))
  no : PySem.W.findIn K (.ref (ca c)) "value" = some none
  ga : PySem.W.findIn K (.ref (ca c)) "__getattribute__" = some (some (.builtin "BaseException.__getattribute__"))
  gg : PySem.W.findIn K (.ref (ca c)) "__getattr__" = some none
  su : PySem.W.subIn K (.ref (ca c)) (.type "BaseException") = some true
  hd : PySem.W.hasDictIn K (ca c) = true
  kc : PySem.W.findIn K (.ref (ca c)) "__class__" = some (some (.builtin "object.__class__"))
  hn : PySem.W.specialIn K (.builtin "object.__class__") "__get__" = some (some (.builtin "getset_descriptor.__get__"))
  ht : PySem.W.takesIn K (.builtin "object.__class__") = some true
  hm : PySem.W.mroIn K (ca c) (.type "object") = some true
def sRaise (c : Nat) (fs : Ev (List D)) : Sv := evS fs fun ds ρ => match ds with
  | [d] => some (.exc (.exc c d) ρ)
  | _ => none
theorem passes0 {X : Cx} : Passes (L2.CX X.prog X.w) X (fun _ _ _ => False) := fun pins σ H s e s' I h => passAt (takes0 (X := X)) σ pins H s e s' I h
section
variable {ca : Nat → Addr} {X : Cx} {I : List Nat} {c k : Nat} {x : Str} {fI : Addr} {fd : FuncData} {ps : List Str} {p pos pos' : Pos} {e : Expr} {es : List Expr} {fs : Ev (List D)}
theorem ds_raise (hc : X.calm = true) (T : ExK X.K ca fI c) (tI : PySem.W.typeIn X.K (.ref fI) = some (.type "function")) (F1 : FnOk X.prog X.w X.K X.mg X.base (L2.CX X.prog X.w) k fI fd ps (spI X.K)) (hr : Room (k + 1) X.A) (hb : Binds X.K fd ps []) (hm : X.mg x = some (.ref (ca c))) (ha : DF ca X (e :: es) fs)
    (hg : Gl X x := by rfl) (hdb : (x == ("__debug__" : Str)) = false := by decide) (he : starEach (e :: es) X.env = (false, eval e X.env) :: starEach es X.env := by rfl) (hpl : (backTo pos (starEach es X.env)).any (·.1) = false := by rfl) :
    DS ca X I (.Raise (some (.Call (.Name x p) (e :: es) [] pos)) none pos') (sRaise c fs) := fun W tk _ =>
  PS.imp (ps_raise hc tk (pmk_oex T.oex T.ini tI F1 hr hb Paired.nil passes0 hg hm (ha W tk) hdb he hpl)) fun Dn σ H h => by
    obtain ⟨G, ρ, F, o, c0, e0, z⟩ := h
    unfold sRaise evS at e0
    cases hf : fs ρ with
    | none => rw [hf] at e0; cases e0
    | some u =>
      rw [hf] at e0
      refine ⟨G, ρ, F, u, c0, hf, ?_⟩
      cases u with
      | exc er ρ' => cases e0; exact fun G' H' F' cls dx c' xa x' => z σ G' H' F' cls dx .refl c' xa x'
      | ok ds ρ1 =>
        intro vs G1 H1 F1 c1 r x1
        dsimp only at e0
        split at e0
        case h_2 => cases e0
        rename_i d
        cases e0
        obtain ⟨v, rfl, rv⟩ := paired1 r
        refine ⟨by simp, fun a na => ⟨a, ca c, v, rfl, T.oex, T.no, upd_same, fun dx hdx hne => ?_⟩⟩
        rw [upd_ne hne] at hdx
        refine ⟨rfl, dx, [("value", v)], upd_same, by rw [upd_ne hne]; exact upd_same, hdx, ?_⟩
        have hH : upd (del (upd (upd (upd H1 a (exo a (ca c) none)) dx (exd dx [(("value" : Str), v)])) a (exo a (ca c) (some dx))) a) dx (.xd [(("value" : Str), v)]) = upd H1 dx (.xd [(("value" : Str), v)]) := by
          funext b
          by_cases h1 : b = dx
          · rw [h1, upd_same, upd_same]
          · rw [upd_ne h1, upd_ne h1]
            by_cases h2 : b = a
            · rw [h2, del_same, na]
            · rw [del_ne h2, upd_ne h2, upd_ne h1, upd_ne h2]
        show W (.ref (ca c)) (some dx) σ _
        rw [hH]
        have x2 := ext_new (G := G1) (o := HO.xd [(("value" : Str), v)]) hdx c1.sub
        exact z σ _ _ F1 _ _ .refl (c1.grow x2 (sub_new hdx c1.sub)) ⟨c, dx, v, d, rfl, rfl, rfl, upd_same, rv.keep x2.gg fun _ h => h.elim⟩ ((x1.more x2).mono (fun _ h => h) fun _ h => .inl h)
end

/-! ### names of classes -/
section
variable {ca : Nat → Addr} {X : Cx} {x : Str} {pos : Pos} {c : Nat} {n : String}
theorem de_cls (hm : X.mg x = some (.ref (ca c))) (hg : Gl X x := by rfl) (hdb : (x == ("__debug__" : Str)) = false := by decide) : DE ca X (.Name x pos) (evC (.cls c)) := de_const (v := .ref (ca c)) (pe_glob hg hm rfl hdb) fun _ _ => .cls c
theorem de_ty (hm : X.mg x = none) (hv : bootBuiltins x = some (.type n)) (hg : Gl X x := by rfl) (hn : x ≠ "__name__" := by decide) (hdb : (x == ("__debug__" : Str)) = false := by decide) : DE ca X (.Name x pos) (evC (.ty n)) := de_const (v := .ty n) (pe_bltn hg hm hv rfl hn hdb) fun _ _ => .ty n
end

/-! ### isinstance -/
def tyD : D → Option (String ⊕ Nat)
  | .non => some (.inl "NoneType") | .bl _ => some (.inl "bool") | .int _ => some (.inl "int") | .str _ => some (.inl "str")
  | .tup _ => some (.inl "tuple") | .lst _ => some (.inl "list") | .frl _ => some (.inl "list") | .ol _ => some (.inl "list")
  | .dct _ => some (.inl "dict") | .od _ => some (.inl "dict") | .exc c _ => some (.inr c)
  | _ => none
abbrev Tab := String ⊕ Nat → D → Option Bool
def tyV (ca : Nat → Addr) : String ⊕ Nat → Value
  | .inl n => .type n
  | .inr c => .ref (ca c)
def clV (ca : Nat → Addr) : D → Option Value
  | .ty n => some (.type n)
  | .cls c => some (.ref (ca c))
  | _ => none
/-- the table is right; the classes in it are as ExK says -/
structure TabOk (K : PySem.W.Frag) (ca : Nat → Addr) (fI : Addr) (tab : Tab) : Prop where
  one : ∀ t c b, tab t c = some b → ∃ u, clV ca c = some u ∧ PySem.W.kitOne K (tyV ca t) u = some b
  exs : ∀ k c b, tab (.inr k) c = some b → ExK K ca fI k
def anyT (tab : Tab) (t : String ⊕ Nat) : List D → Option Bool
  | [] => some false
  | c :: cs => match tab t c with
    | some true => match anyT tab t cs with
      | some _ => some true
      | none => none
    | some false => anyT tab t cs
    | none => none
def gIsi (tab : Tab) : List D → Option D
  | [x, .tup (c :: cs)] => match tyD x with
    | some t => (anyT tab t (c :: cs)).map .bl
    | none => none
  | [x, c] => match tyD x with
    | some t => (tab t c).map .bl
    | none => none
  | _ => none
theorem anyT_ok {K : PySem.W.Frag} {ca : Nat → Addr} {fI : Addr} {tab : Tab} (T : TabOk K ca fI tab) {t : String ⊕ Nat} : ∀ {cs : List D} {b : Bool}, anyT tab t cs = some b → ∃ us, Paired (fun c u => clV ca c = some u) cs us ∧ PySem.W.kitAny K (tyV ca t) us = some b
  | [], b, h => by cases h; exact ⟨[], .nil, rfl⟩
  | c :: cs, b, h => by
    unfold anyT at h
    cases h1 : tab t c with
    | none => rw [h1] at h; cases h
    | some b1 =>
      rw [h1] at h
      obtain ⟨u, hu, ku⟩ := T.one t c b1 h1
      cases b1 with
      | true =>
        dsimp only at h
        split at h
        · rename_i bx hx
          cases h
          obtain ⟨us, hus, _⟩ := anyT_ok T hx
          exact ⟨u :: us, .cons hu hus, kitAny_cons ku (fun z => nomatch z) fun _ => rfl⟩
        · cases h
      | false =>
        obtain ⟨us, hus, kus⟩ := anyT_ok T h
        exact ⟨u :: us, .cons hu hus, kitAny_cons ku (fun _ => kus) fun z => nomatch z⟩
theorem clV_rep {K : PySem.W.Frag} {ca : Nat → Addr} {G H : Hp} {v : V} {d : D} {T : FP} {u : Value} (r : Rep ⟨K, ca⟩ G H v d T) (h : clV ca d = some u) : ClsV v u := by
  cases r <;> first | (cases h; done) | skip
  · cases h; exact .ty _
  · cases h; exact .own _
theorem clV_all {K : PySem.W.Frag} {ca : Nat → Addr} {G H : Hp} : ∀ {cs : List D} {ws : List Value} {vs : List V}, Paired (fun c u => clV ca c = some u) cs ws → vs.length = cs.length → (∀ (i : Nat) v d, vs[i]? = some v → cs[i]? = some d → Rep ⟨K, ca⟩ G H v d nof) → Paired ClsV vs ws
  | _, _, [], .nil, _, _ => .nil
  | _, _, _ :: _, .nil, l, _ => by cases l
  | _, _, [], .cons _ _, l, _ => by cases l
  | _, _, v :: vs, .cons h t, l, c => .cons (clV_rep (c 0 v _ rfl rfl) h) (clV_all t (by simpa using l) fun i v d e1 e2 => c (i + 1) v d (by simpa using e1) (by simpa using e2))
theorem reps1 {B : Bd} {G H : Hp} {xs : List V} {d : D} (h : Reps B G H xs [d]) : ∃ v T, xs = [v] ∧ Rep B G H v d T := by
  cases h with
  | cons a t => cases t; obtain ⟨T, r⟩ := a; exact ⟨_, T, rfl, r⟩
theorem reps2 {B : Bd} {G H : Hp} {xs : List V} {d e : D} (h : Reps B G H xs [d, e]) : ∃ v T w U, xs = [v, w] ∧ Rep B G H v d T ∧ Rep B G H w e U := by
  cases h with
  | cons a t => cases t with
    | cons b t => cases t; obtain ⟨T, r⟩ := a; obtain ⟨U, q⟩ := b; exact ⟨_, T, _, U, rfl, r, q⟩
section
variable {ca : Nat → Addr} {X : Cx} {fI : Addr} {tab : Tab}
theorem tyX_of {G H : Hp} {v : V} {d : D} {T : FP} {n : String} (r : Rep ⟨X.K, ca⟩ G H v d T) (sub : ∀ b o, G b = some o → H b = some o) (h : tyD d = some (.inl n)) : TyX X.K H v (.type n) := by
  cases r with
  | non => cases h; exact .base .non
  | bl b => cases h; exact .base (.bl _)
  | int i => cases h; exact .base (.int _)
  | str x => cases h; exact .base (.str _)
  | tup hq l c =>
    cases h
    rcases hq with (hq | ⟨o, hq⟩) | ⟨o, its, n, e1, e2, _⟩
    · exact .base (.tup (sub _ _ hq))
    · exact .fTuple (sub _ _ hq)
    · exact .kTuple e1 e2
  | lst hq l c => cases h; exact .base (.lst (sub _ _ hq))
  | frl hq l c =>
    cases h
    rcases hq with (hq | ⟨o, hq⟩) | ⟨o, its, n, e1, e2, _⟩
    · exact .base (.lst (sub _ _ hq))
    · exact .base (.frz (sub _ _ hq))
    · exact .kList e1 e2
  | ol hq => cases h; exact .base (.lst hq)
  | dct hq l c => cases h; exact .base (.dK (sub _ _ hq))
  | od hq => cases h; exact .base (.dK hq)
  | ty => cases h
  | cls => cases h
  | ins => cases h
  | exc => cases h
  | oi => cases h
theorem exv_at {pins : List (Addr × Obj)} {σ : L2.St} {H : Hp} {s : Shared} {a C dd : Addr} {fs : List (Str × V)} (I : Inv X pins σ H s) (ea : H a = some (exv C dd a)) (ed : H dd = some (.xd fs)) :
    ∃ (oe od : Obj), PySem.W.InstAt s.heap a oe C (some od) ∧ ∃ mA : Str → Option Value, (∀ f, RelO (fs.lookup f) (mA f)) ∧ ∀ name, PySem.W.lookIn name od = some (mA name) := by
  obtain ⟨⟨oe, vs, q1, q2, q3, q4⟩, _, _⟩ := I.hok a _ ea
  have hx : ObjOk X.prog X.w H s.heap dd (.xd fs) := I.hok dd _ ed
  obtain ⟨mA, hns, hr⟩ := hx
  obtain ⟨od, ho, hl⟩ := lookIn_ns hns
  exact ⟨oe, od, ⟨q1, q2, by unfold PySem.W.notCls; rw [q4] <;> rfl, by rw [q3]; exact ho⟩, mA, hr, hl⟩
theorem kit_any {pins : List (Addr × Obj)} {σ : L2.St} {G H : Hp} {s : Shared} {v : V} {u : Value} {d : D} {T : FP} {t : String ⊕ Nat} (TO : TabOk X.K ca fI tab) (I : Inv X pins σ H s) (rx : RelV v u) (r : Rep ⟨X.K, ca⟩ G H v d T) (sub : ∀ b o, G b = some o → H b = some o) (h : tyD d = some t)
    (hk : ∀ k, t = .inr k → ExK X.K ca fI k) : ∃ P : Heap → Prop, PySem.W.KitX X.K u (tyV ca t) P ∧ P s.heap ∧ u ≠ .builtin "__main__.__loader__#opaque" := by
  cases t with
  | inl n => exact kit_of I rx (tyX_of r sub h)
  | inr k =>
    have ex := hk k rfl
    cases r with
    | exc he ho rv =>
      cases h
      cases (show u = Value.ref _ from rx)
      obtain ⟨oe, od, J, _⟩ := exv_at I (sub _ _ he) (sub _ _ ho)
      obtain ⟨cd, hc, _⟩ := PySem.W.any_some ex.hd
      exact ⟨_, PySem.W.kitx_exc (by rw [hc]; rfl) ex.ga ex.gg ex.su ex.kc ex.hn ex.ht ex.hm, J, fun z => nomatch z⟩
    | _ => cases h
theorem callD_isi (TO : TabOk X.K ca fI tab) : CallD ca X (.builtin "isinstance") (gIsi tab) := by
  intro pins s σ H xs us Q I rs h
  obtain ⟨G, ds, d, sub, rr, e, q⟩ := h
  unfold gIsi at e
  split at e
  · rename_i x c cs
    split at e
    · rename_i t ht
      obtain ⟨b, hb, rfl⟩ := Option.map_eq_some_iff.mp e
      obtain ⟨v, T1, w, T2, rfl, r1, r2⟩ := reps2 rr
      obtain ⟨u1, u2, rfl, ru1, ru2⟩ := vals2 rs
      have hx : ∀ k, t = .inr k → ExK X.K ca fI k := fun k z => by
        subst z
        unfold anyT at hb
        cases h1 : tab (.inr k) c with
        | none => rw [h1] at hb; cases hb
        | some b1 => exact TO.exs k c b1 h1
      obtain ⟨P, Z, p, hne⟩ := kit_any TO I ru1 r1 sub ht hx
      obtain ⟨ws, hws, kw⟩ := anyT_ok TO hb
      have fin : ∀ tk, EP X pins σ Q (.bool b) { s with toks := tk } := fun tk => ⟨.bl b, H, I.tok tk, rfl, rDL_end q sub (.bl b)⟩
      cases r2 with
      | @tup a vs _ hq l cc =>
        cases (show u2 = Value.ref _ from ru2)
        have hcl : Paired ClsV vs ws := clV_all hws l cc
        rcases hq with (hq | ⟨o, hq⟩) | ⟨o, its, n, e1, e2, e3, e4, e5⟩
        · obtain ⟨_, its, rv, o, h1, h2, n, h3⟩ := (show ObjOk X.prog X.w H s.heap _ (.tup vs) from I.hok _ _ (sub _ _ hq))
          have e3 := ClsV.all hcl rv
          subst e3
          obtain ⟨oc, od, dt, sl⟩ := o
          simp only at h2 h3
          subst h2 h3
          exact PySem.W.kia_tup Z I.kIn p h1 kw hne fin
        · obtain ⟨_, _, its, rv, o, h1, h2, n, h3⟩ := (show ObjOk X.prog X.w H s.heap _ (.frz o (.tup vs)) from I.hok _ _ (sub _ _ hq))
          have e3 := ClsV.all hcl rv
          subst e3
          obtain ⟨oc, od, dt, sl⟩ := o
          simp only at h2 h3
          subst h2 h3
          exact PySem.W.kia_tup Z I.kIn p h1 kw hne fin
        · have e6 := ClsV.all hcl e5
          obtain ⟨oc, od, dt, sl⟩ := o
          simp only at e2 e3
          subst e2 e3
          obtain ⟨its⟩ := its
          simp only at e6
          subst e6
          exact PySem.W.kia_tup Z I.kIn p (I.kIn _ _ e1) kw hne fin
    · cases e
  · rename_i x c hnt
    split at e
    · rename_i t ht
      obtain ⟨b, hb, rfl⟩ := Option.map_eq_some_iff.mp e
      obtain ⟨v, T1, w, T2, rfl, r1, r2⟩ := reps2 rr
      obtain ⟨u1, u2, rfl, ru1, ru2⟩ := vals2 rs
      obtain ⟨P, Z, p, hne⟩ := kit_any TO I ru1 r1 sub ht fun k z => TO.exs k c b (by rw [← z]; exact hb)
      obtain ⟨wc, hwc, kw⟩ := TO.one t c b hb
      have e3 := (clV_rep r2 hwc).eq ru2
      subst e3
      exact PySem.W.kia_one Z I.kIn p kw hne fun tk => ⟨.bl b, H, I.tok tk, rfl, rDL_end q sub (.bl b)⟩
    · cases e
  · cases e

/-! ### the value that an exception holds -/
def gXv (oks : List Nat) : List D → Option D
  | [.exc c d] => if c ∈ oks then some d else none
  | _ => none
theorem de_xv {oks : List Nat} {e : Expr} {pos : Pos} {fe : Ev AV} (EX : ∀ c ∈ oks, ExK X.K ca fI c) (he : DE ca X e fe) (hb : attributeBase e "value" X.env (eval e X.env) = eval e X.env := by rfl) : DE ca X (.Attribute e "value" pos) (ev1 (gXv oks) fe) := fun W tk => by
  refine ⟨fun pins s σ H Q I h => ?_⟩
  refine attr_of hb (thn ((he W tk).run pins s σ H _ I (tD_op1 h)) fun u s1 hh => ?_)
  obtain ⟨v, H1, I1, rx, G, ds, d, sub, rr, e1, q⟩ := hh
  unfold gXv at e1
  split at e1
  · rename_i c d0
    split at e1
    · rename_i hk
      cases e1
      have ex := EX c hk
      obtain ⟨v, T, ev, r⟩ := reps1 rr
      cases ev
      cases r with
      | exc hx ho rv =>
        cases (show u = Value.ref _ from rx)
        obtain ⟨oe, od, J, mA, hr, hl⟩ := exv_at I1 (sub _ _ hx) (sub _ _ ho)
        obtain ⟨u, hu, ru⟩ := RelO.some_of (v := _) (o := mA "value") (by have := hr "value"; simpa [List.lookup] using this)
        exact HandSPX.exc_get I1.kIn J ex.ga ex.gg ex.su (PySem.W.findObj_own ex.hd ex.no rfl (by rw [hl, hu])) (handed_of ru) ⟨_, H1, I1.tok _, ru, rDL_end q sub rv⟩
    · cases e1
  · cases e1
end
end DL

namespace DL
open PySem PySem.Spec PyProof.Rows L2

/-! ### own things moved into a list -/
def mvK : List AV → DEnv → Option (List D × DEnv)
  | [], ρ => some ([], ρ)
  | .val d :: as, ρ => (mvK as ρ).map fun p => (d :: p.1, p.2)
  | .pl i [] :: as, ρ => match slotOf ρ i with
    | some d => (mvK as (ρ.set i none)).map fun p => (d :: p.1, p.2)
    | none => none
  | .pl _ (_ :: _) :: _, _ => none
def pre1 (T : FP) (Fs : Nat → FP) : Nat → FP
  | 0 => T
  | i + 1 => Fs i
theorem mv_reps {B : Bd} {G H : Hp} {σ : L2.St} : ∀ {Wt : FP} {vs : List V} {avs : List AV} {ds : List D} {ρ ρ' : DEnv} {F : Nat → FP}, Cfg B G H σ ρ F → RepAs B G H σ Wt vs avs → (∀ x, Wt x → ¬ un F x) → mvK avs ρ = some (ds, ρ') →
    ∃ (F' Fs : Nat → FP), Cfg B G H σ ρ' F' ∧ vs.length = ds.length ∧ (∀ (i : Nat) v d, vs[i]? = some v → ds[i]? = some d → Rep B G H v d (Fs i)) ∧ (∀ i x, Fs i x → i < ds.length) ∧ (∀ i j x, Fs i x → Fs j x → i = j) ∧
      (∀ x, un F' x → un F x) ∧ (∀ i x, Fs i x → Wt x ∨ un F x) ∧ ∀ i x, Fs i x → ¬ un F' x
  | _, _, _, ds, ρ, ρ', F, c, .nil, n, e => by
    cases e
    exact ⟨F, fun _ => nof, c, rfl, fun i v d h => by simp at h, fun _ _ h => h.elim, fun _ _ _ h => h.elim, fun _ h => h, fun _ _ h => h.elim, fun _ _ h => h.elim⟩
  | Wt, v :: vs, a :: as, ds, ρ, ρ', F, c, .cons (T := T) (Wu := Wu) r hT t hu dj, n, e => by
    -- one part more in front
    have put : ∀ {U : FP} {d : D} {ds1 : List D} {F1 F' Fs : Nat → FP}, Rep B G H v d U → Cfg B G H σ ρ' F' → vs.length = ds1.length → (∀ (i : Nat) v d, vs[i]? = some v → ds1[i]? = some d → Rep B G H v d (Fs i)) → (∀ i x, Fs i x → i < ds1.length) → (∀ i j x, Fs i x → Fs j x → i = j) →
        (∀ x, un F' x → un F1 x) → (∀ i x, Fs i x → Wu x ∨ un F1 x) → (∀ i x, Fs i x → ¬ un F' x) → (∀ x, un F1 x → un F x) → (∀ x, U x → Wt x ∨ un F x) → (∀ x, U x → ¬ Wu x) → (∀ x, U x → ¬ un F1 x) →
        ∃ (F' Fs : Nat → FP), Cfg B G H σ ρ' F' ∧ (v :: vs).length = (d :: ds1).length ∧ (∀ (i : Nat) w e, (v :: vs)[i]? = some w → (d :: ds1)[i]? = some e → Rep B G H w e (Fs i)) ∧ (∀ i x, Fs i x → i < (d :: ds1).length) ∧ (∀ i j x, Fs i x → Fs j x → i = j) ∧
          (∀ x, un F' x → un F x) ∧ (∀ i x, Fs i x → Wt x ∨ un F x) ∧ ∀ i x, Fs i x → ¬ un F' x := fun {U d ds1 F1 F' Fs} r1 c1 l1 q1 q2 q3 q4 q5 q6 k1 k2 k3 k4 => by
      have sep : ∀ i x, U x → ¬ Fs i x := fun i x hU hF => (q5 i x hF).elim (k3 x hU) (k4 x hU)
      refine ⟨F', pre1 U Fs, c1, by simp [l1], fun i w e h1 h2 => ?_, fun i x h => ?_, fun i j x h1 h2 => ?_, fun x h => k1 x (q4 x h), fun i x h => ?_, fun i x h => ?_⟩
      · cases i with
        | zero => simp at h1 h2; subst h1; subst h2; exact r1
        | succ i => exact q1 i w e (by simpa using h1) (by simpa using h2)
      · cases i with
        | zero => simp
        | succ i => simpa using q2 i x h
      · cases i with
        | zero => cases j with
          | zero => rfl
          | succ j => exact (sep j x h1 h2).elim
        | succ i => cases j with
          | zero => exact (sep i x h2 h1).elim
          | succ j => rw [q3 i j x h1 h2]
      · cases i with
        | zero => exact k2 x h
        | succ i => exact (q5 i x h).imp (hu x) (k1 x)
      · cases i with
        | zero => exact fun z => k4 x h (q4 x z)
        | succ i => exact q6 i x h
    cases a with
    | val d =>
      unfold mvK at e
      obtain ⟨⟨ds1, ρ1⟩, e1, e2⟩ := Option.map_eq_some_iff.mp e
      cases e2
      obtain ⟨F', Fs, c1, l1, q1, q2, q3, q4, q5, q6⟩ := mv_reps c t (fun x h => n x (hu x h)) e1
      exact put (F1 := F) r c1 l1 q1 q2 q3 q4 q5 q6 (fun _ h => h) (fun x h => .inl (hT x h)) dj fun x h => n x (hT x h)
    | pl i p =>
      cases p with
      | cons s p => cases e
      | nil =>
        unfold mvK at e
        cases hs : slotOf ρ i with
        | none => rw [hs] at e; cases e
        | some d =>
          rw [hs] at e
          obtain ⟨⟨ds1, ρ1⟩, e1, e2⟩ := Option.map_eq_some_iff.mp e
          cases e2
          obtain ⟨⟨v0, h0, hp⟩, rfl⟩ := r
          cases hp
          obtain ⟨v1, h1, r1⟩ := c.at hs
          rw [h0] at h1
          cases h1
          obtain ⟨F', Fs, c1, l1, q1, q2, q3, q4, q5, q6⟩ := mv_reps (c.drop i) t (fun x h ⟨j, hj⟩ => n x (hu x h) ⟨j, hj.1⟩) e1
          exact put (F1 := fun j x => F j x ∧ j ≠ i) r1 c1 l1 q1 q2 q3 q4 q5 q6 (fun x ⟨j, hj⟩ => ⟨j, hj.1⟩) (fun x h => .inr ⟨i, h⟩) (fun x h w => n x (hu x w) ⟨i, h⟩) fun x h ⟨j, hj⟩ => hj.2 (c.dis j i x hj.1 h)
def evMv (fs : Ev (List AV)) : Ev AV := fs.andThen fun avs ρ => match mvK avs ρ with
  | some (ds, ρ') => if ds.length ≤ 16777216 then some (.ok (.val (.ol ds)) ρ') else none
  | none => none
section
variable {ca : Nat → Addr} {X : Cx} {es : List Expr} {fs : Ev (List AV)} {pos : Pos}
theorem de_lstO (h : DA ca X es fs) : DE ca X (.List es pos) (evMv fs) := fun W tk => PE.imp (pe_lst (h W tk)) fun σ H Q q => by
  obtain ⟨G, ρ, F, o, c, e, z⟩ := q
  refine tDL_bind c e (fun er ρ' eo => by subst eo; exact z) fun avs ρ1 vs G1 H1 F1 Wt ek c1 r1 n1 x1 => ?_
  cases hm : mvK avs ρ1 with
  | none => rw [hm] at ek; cases ek
  | some p =>
    obtain ⟨ds, ρ'⟩ := p
    rw [hm] at ek
    dsimp only at ek
    split at ek
    · rename_i hz
      cases ek
      obtain ⟨F', Fs, c2, l2, q1, q2, q3, q4, q5, q6⟩ := mv_reps c1 r1 n1 hm
      refine ⟨by rw [l2, sizeLine_eq]; exact hz, fun p hp => ?_⟩
      have dm : ∀ i, ¬ Fs i p := fun i h => by
        have hi := q2 i p h
        obtain ⟨⟨o, eo⟩, _⟩ := (q1 i _ _ (List.getElem?_eq_getElem (by omega)) (List.getElem?_eq_getElem hi)).dom p h
        rw [hp] at eo
        cases eo
      have xo : Ext G1 H1 nof G1 (upd H1 p (.lst vs)) (fun x => x = p) := ext_own hp
      refine z (.ref p) G1 _ F' (fun x => x = p ∨ ∃ i, Fs i x) (c2.grow xo (sub_own hp c1.sub)) (.ol upd_same (no_g c1.sub hp) l2 (fun i v d e1 e2 => ((q1 i v d e1 e2).frame xo fun _ _ h => h).1) q2 q3 dm) ?_ ?_
      · rintro x (rfl | ⟨i, hx⟩) hu
        · obtain ⟨⟨o, eo⟩, _⟩ := c2.dom hu
          rw [hp] at eo
          cases eo
        · exact q6 i x hx hu
      · refine x1.trans ⟨fun _ _ h => h, fun b o h _ => by rw [upd_ne (ne_of_none h hp)]; exact h, fun b hb => ?_, fun _ _ h => .inl h⟩
        rcases hb with hb | rfl | ⟨i, hb⟩
        · exact .inl (.inl (q4 b hb))
        · exact .inr hp
        · exact .inl ((q5 i b hb).elim .inr .inl)
    · cases ek
end

/-! ### calls by keywords alone -/
def DK (ca : Nat → Addr) (X : Cx) (kws : List Keyword) (f : Ev (List AV)) : Prop := ∀ W, Takes X W → PK X kws (tDL ⟨X.K, ca⟩ W f)
theorem PK.imp {X : Cx} {e : List Keyword} {t u : TA} (h : PK X e t) (k : ∀ (σ : L2.St) (H : Hp) (Q : List V → Hp → Prop), u σ H Q → t σ H Q) : PK X e u := ⟨fun pos pins s σ H Q I q => h.run pos pins s σ H Q I (k σ H Q q)⟩
def permD {α : Type} (l : List α) : List Nat → Option (List α)
  | [] => some []
  | i :: is => match l[i]?, permD l is with
    | some a, some as => some (a :: as)
    | _, _ => none
theorem permD_pair {α β : Type} {R : α → β → Prop} {xs : List α} {ys : List β} (p : Paired R xs ys) : ∀ {is : List Nat} {us : List β}, permD ys is = some us → ∃ ws, permD xs is = some ws ∧ Paired R ws us
  | [], us, e => by cases e; exact ⟨[], rfl, .nil⟩
  | i :: is, us, e => by
    unfold permD at e
    cases h1 : ys[i]? with
    | none => rw [h1] at e; cases e
    | some y =>
      cases h2 : permD ys is with
      | none => rw [h1, h2] at e; cases e
      | some us' =>
        rw [h1, h2] at e
        cases e
        obtain ⟨ws, e1, q⟩ := permD_pair p h2
        have hi : i < xs.length := by rw [paired_len p]; exact (List.getElem?_eq_some_iff.mp h1).1
        have h3 : xs[i]? = some xs[i] := List.getElem?_eq_getElem hi
        refine ⟨xs[i] :: ws, ?_, .cons (paired_get p i _ _ h3 h1) q⟩
        unfold permD
        rw [h3, e1]
theorem repAs_fz {B : Bd} {G H : Hp} {σ : L2.St} : ∀ {vs : List V} {ds : List D}, Paired (fun v d => Rep B G H v d nof) vs ds → RepAs B G H σ nof vs (ds.map .val)
  | _, _, .nil => .nil
  | _, _, .cons r t => .cons (T := nof) r (fun _ h => h) (repAs_fz t) (fun _ h => h) fun _ h => h.elim
/-- how the keywords' values come to the parameters: is[k] tells which of them the parameter k takes -/
structure KwB (K : PySem.W.Frag) (fd : FuncData) (ps ks : List Str) (is : List Nat) : Prop where
  to : ∀ (s : Shared) (ws us : List Value), ws.length = ks.length → permD ws is = some us → BindsTo s fd ⟨[], ks.zip ws⟩ (ps.zip us)
  len : is.length = ps.length
theorem permD_len {α : Type} {l : List α} : ∀ {is : List Nat} {us : List α}, permD l is = some us → us.length = is.length
  | [], us, e => by cases e; rfl
  | i :: is, us, e => by
    unfold permD at e
    cases h1 : l[i]? with
    | none => rw [h1] at e; cases e
    | some y =>
      cases h2 : permD l is with
      | none => rw [h1, h2] at e; cases e
      | some us' =>
        rw [h1, h2] at e
        cases e
        simp [permD_len h2]
def evKw (n : Nat) (is : List Nat) (m : Mir) (fs : Ev (List AV)) : Ev AV := (evFz fs).andThen fun ds ρ => if ds.length = n then match permD ds is with
  | some us => callK (us.map fun _ => false) m (us.map .val) ρ
  | none => none
  else none
section
variable {ca : Nat → Addr} {X : Cx} {k : Nat} {f : Addr} {fd : FuncData} {ps ks : List Str} {is : List Nat} {x : Str} {p pos kpos : Pos} {e : Expr} {kws : List Keyword} {fs : Ev (List AV)} {fe : Ev AV} {nm : Option Str} {m : Mir}
theorem dk_nil : DK ca X [] evNil := fun W tk => PK.imp pk_nil fun σ H Q h => tDL_nil h
theorem dk_cons (he : DE ca X e fe) (hr : DK ca X kws fs) : DK ca X (⟨nm, e, kpos⟩ :: kws) (evCons fe fs) := fun W tk => PK.imp (pk_cons (he W tk) (hr W tk)) fun σ H Q h => tDL_cons h
theorem de_callK (F : FnD X.prog X.w X.K X.mg X.base ca k f fd ps m) (hr : Room k X.A) (hm : X.mg x = some (.ref f)) (hk : PySem.W.keepIn X.K (.ref f) = true) (hb : KwB X.K fd ps ks is) (hkw : DK ca X kws fs)
    (hall : (backToKw pos (keywordEach kws X.env)).all (·.1.isSome) = true := by rfl) (hks : (backToKw pos (keywordEach kws X.env)).filterMap (·.1) = ks := by rfl) (hg : Gl X x := by rfl)
    (hdb : (x == ("__debug__" : Str)) = false := by decide) (hpl : ((backTo pos (starEach [] X.env)).any (·.1) || (backToKw pos (keywordEach kws X.env)).any (·.1.isNone)) = false := by rfl) :
    DE ca X (.Call (.Name x p) [] kws pos) (evKw ks.length is m fs) := fun W tk => ⟨fun pins s σ H Q I h => by
  refine wpAny_Call_Name_kw (ld_glob I hg hm ?_ hdb)
  have rd : tDL ⟨X.K, ca⟩ W fs σ H fun zs H1 => zs.length = ks.length ∧ ∃ us, permD zs is = some us ∧ spD ⟨X.K, ca⟩ ps.length m us H1 Q (WE W σ) := by
    obtain ⟨G, ρ, F0, o, c, e0, z⟩ := h
    unfold evKw at e0
    refine tDF_of ?_
    refine tDF_bind c e0 (fun er ρ' eo => by subst eo; exact z) fun ds ρ1 vs G1 H1 F1 ek c1 r1 x1 => ?_
    split at ek
    case isFalse => cases ek
    rename_i hl
    cases hp : permD ds is with
    | none => rw [hp] at ek; cases ek
    | some us =>
      rw [hp] at ek
      obtain ⟨ws, e1, q⟩ := permD_pair r1 hp
      refine ⟨(paired_len r1).trans hl, ws, e1, ?_⟩
      exact call_end c1 (repAs_fz (σ := σ) q) (fun _ h => h.elim) ek (endE_trans z (x1.mono (fun _ h => h) fun y h => h.elim id False.elim)) ((permD_len e1).trans hb.len)
  refine PySem.W.callWith_KW0 (h₀ := X.base) I.ok.mod.kin hk hall (thn ((hkw W tk).run pos pins s σ H _ I rd) fun ws s2 ⟨zs, H2, I2, rz, hl, us, e1, sp⟩ => ⟨I2.kIn, ?_⟩) hpl
  rw [hks]
  obtain ⟨wv, e2, rv⟩ := permD_pair (R := fun w v => RelV v w) (xs := ws) (ys := zs) (by
    have : ∀ {a : List V} {b : List Value}, Vals a b → Paired (fun w v => RelV v w) b a := fun {a b} h => by
      induction h with
      | nil => exact .nil
      | cons r t ih => exact .cons r ih
    exact this rz) e1
  have rv' : Vals us wv := by
    clear e1 e2 sp
    induction rv with
    | nil => exact .nil
    | cons r t ih => exact .cons r ih
  refine wpAny_call (codeAny_mono (F.run X.A X.stack s2 H2 ⟨[], ks.zip ws⟩ wv us Q (WE W σ) hr I2.env0 (hb.to s2 ws wv (by rw [← rz.length]; exact hl) e2) rv' sp) fun r s' hq => ?_)
  cases r with
  | error er => exact passAt tk σ pins H2 s2 er s' I2 hq
  | ok fl =>
    cases fl with
    | ret u => exact I2.after hq
    | next => exact False.elim hq
    | brk => exact False.elim hq
    | cont => exact False.elim hq⟩
end
end DL

namespace DL
open PySem PySem.Spec PyProof.Rows L2

/-! ### names bound, in short -/
section
variable {ca : Nat → Addr} {X : Cx} {I : List Nat} {fe : Ev AV} {e : Expr} {x y z : Str} {i j l : Nat} {px py pz pt pos : Pos} {kt : Nat} {fs : Ev (List AV)}
theorem db_none {st : List Stmt} : DB ca X I st (fun _ => none) := fun W tk ps => ⟨fun pins s σ H D I h => by
  obtain ⟨G, ρ, F, o, c, e, _⟩ := h
  cases e⟩
theorem de_pv (i : Nat) (hN : X.N[i]? = some x := by rfl) (hv : Vis X.env.scope x := by first | exact Or.inl rfl | exact Or.inr (Or.inl rfl) | exact Or.inr (Or.inr rfl)) (hd : (x == ("__debug__" : Str)) = false := by decide)
    (hcd : (x == ("__classdict__" : Str)) = false := by decide) : DE ca X (.Name x pos) (evV i) := de_var (pe_var hN hv hd hcd)
theorem ds_name (i : Nat) (hN : X.N.Nodup) (he : DE ca X e fe) (hi : X.N[i]? = some x := by rfl) (hx : Loc X.env.scope x := by exact Or.inl rfl) (hs : swapsWith e (some (.Name x px)) pos.line X.env = pure false := by rfl)
    (hf : X.fn x = true ∨ X.env.scope.names.lookup x = some .local := by exact Or.inr rfl) : DS ca X I (.Assign [.Name x px] e pos) (sAsg I [i] (evCons fe evNil)) := ds_set fun te W h tk => by
  subst h
  exact ps_set hN hi hx (he W tk) hs hf
theorem dg_nm (i : Nat) (hN : X.N.Nodup) (hi : X.N[i]? = some x := by rfl) (hx : Loc X.env.scope x := by exact Or.inl rfl) (hf : X.fn x = true ∨ X.env.scope.names.lookup x = some .local := by exact Or.inr rfl) : DG ca X I (.Name x pos) (tgN I i) :=
  dg_name (pg_name hN hi hx hf)
theorem ds_two (i j : Nat) {a b : Expr} {fa fb : Ev AV} {k2 pt2} (hc : X.calm = true) (hN : X.N.Nodup) (ha : DE ca X a fa) (hb : DE ca X b fb) (hij : i ≠ j := by decide) (hi : X.N[i]? = some x := by rfl) (hj : X.N[j]? = some y := by rfl)
    (hx : X.env.scope.names.lookup x = some .local := by rfl) (hy : X.env.scope.names.lookup y = some .local := by rfl) (hw : swappedStores [.Tuple [.Name x px, .Name y py] kt pt] (.Tuple [a, b] k2 pt2) X.env = pure (some [x, y]) := by rfl)
    (hs : swapsWithSole [.Tuple [.Name x px, .Name y py] kt pt] (.Tuple [a, b] k2 pt2) pos.line X.env = pure false := by rfl)
    (h1 : starEach [a, b] X.env = (false, eval a X.env) :: starEach [b] X.env := by rfl) (h2 : starEach [b] X.env = (false, eval b X.env) :: starEach [] X.env := by rfl) :
    DS ca X I (.Assign [.Tuple [.Name x px, .Name y py] kt pt] (.Tuple [a, b] k2 pt2) pos) (sAsg I [i, j] (evCons fa (evCons fb evNil))) :=
  ds_par (fun ta W h tk => by
    subst h
    exact ps_par hc hN hi hj hij hx hy (da_cons ha (da_cons hb da_nil h2) h1 W tk) hw hs) fun ρ avs ρ' h => evCons2_len h
end
section
variable {P : Program} {w : World} {K : PySem.W.Frag} {mg : Str → Option Value} {base : Heap} {ca : Nat → Addr}
/-- a promise that asks for nothing that holds -/
theorem fn_none {x qual : Str} {st : Stmt} {f : Addr} {fd : FuncData} {N ps : List Str} {I : List Nat} (k : Nat) (F : Fun K x qual st f fd) (S : FnScope N ps (defScope st)) (hN : ps.length ≤ N.length) :
    FnD P w K mg base ca (k + 1) f fd ps (fnD N.length ps.length I fun _ => none) := fn_d F S hN fun _ _ _ _ _ _ _ => db_none
end

end DL

namespace DL
open PySem PySem.Spec PyProof.Rows L2

/-! ### zip of two lists or of two tuples -/
def gZipA : List D → Option (List D)
  | [.tup xs, .tup ys] => some ((xs.zip ys).map fun p => .tup [p.1, p.2])
  | ds => gZip ds
section
variable {B : Bd} {G : Hp}
theorem itd_zipT {a b : Addr} {vs ws : List V} {xs ys : List D} (h1 : SqT B.K G a vs) (h2 : SqT B.K G b ws) (l1 : vs.length = xs.length) (l2 : ws.length = ys.length)
    (c1 : ∀ (i : Nat) v d, vs[i]? = some v → xs[i]? = some d → ∀ H, Rep B G H v d nof) (c2 : ∀ (i : Nat) v d, ws[i]? = some v → ys[i]? = some d → ∀ H, Rep B G H v d nof) :
    ItD B (RZ.ItzT B.K a b) ((xs.zip ys).map fun p => .tup [p.1, p.2]) G := by
  have len : ((xs.zip ys).map fun p => D.tup [p.1, p.2]).length = min xs.length ys.length := by simp
  refine ⟨fun i G' H' g1 g2 hi => ?_, fun G' H' g1 g2 => ?_, fun i G' H' v H'' g1 g2 hi y => ?_⟩
  · rw [len] at hi
    exact ⟨vs, ws, vs[i]'(by omega), ws[i]'(by omega), sqT_mono (sqT_mono h1 g1) g2, sqT_mono (sqT_mono h2 g1) g2, List.getElem?_eq_getElem _, List.getElem?_eq_getElem _⟩
  · rw [len]
    exact ⟨vs, ws, sqT_mono (sqT_mono h1 g1) g2, sqT_mono (sqT_mono h2 g1) g2, by omega⟩
  · rw [len] at hi
    obtain ⟨T, x, z, rfl, hT, rfl, k1, k2⟩ := y
    have e1 := k1 vs (sqT_mono (sqT_mono h1 g1) g2)
    have e2 := k2 ws (sqT_mono (sqT_mono h2 g1) g2)
    have hx : i < xs.length := by omega
    have hy : i < ys.length := by omega
    refine ⟨.tup [xs[i], ys[i]], _, ?_, sub_new hT g2, rep_pair2 (gone g2 hT) ((c1 i x xs[i] e1 (List.getElem?_eq_getElem hx) H').keep g1 fun _ h => h.elim) ((c2 i z ys[i] e2 (List.getElem?_eq_getElem hy) H').keep g1 fun _ h => h.elim), ext_new hT g2⟩
    rw [List.getElem?_map, List.getElem?_eq_getElem (by simp; omega)]
    simp
end
section
variable {ca : Nat → Addr} {X : Cx} {e e2 : Expr} {fs : Ev (List AV)} {p pos tpos : Pos} {elts : List Expr} {kk : Nat}
theorem di_zipA (hm : X.mg "zip" = none) (ha : DA ca X [e, e2] fs) (hg : Gl X "zip" := by rfl) (hs : starEach [e, e2] X.env = (false, eval e X.env) :: starEach [e2] X.env := by rfl) (hpl : (backTo pos (starEach [e2] X.env)).any (·.1) = false := by rfl) :
    DI ca X (.Tuple elts kk tpos) (.Call (.Name "zip" p) [e, e2] [] pos) (evIt gZipA fs) := fun W tk =>
  PI.imp (RZ.pi_zipA hg hm (ha W tk) hs hpl) fun σ H R h => tDL_map (tI_of h) fun vs H1 ⟨G, ds, xs, s, rr, e, z⟩ => by
    unfold gZipA at e
    split at e
    · cases e
      obtain ⟨x, y, rfl, r1, r2⟩ := paired2 rr
      cases r1 with
      | tup q1 l1 c1 => cases r2 with
        | tup q2 l2 c2 => exact ⟨_, _, _, _, rfl, .inr ⟨sqT_mono q1 s, sqT_mono q2 s, z _ (itd_zipT q1 q2 l1 l2 (fun i v d e1 e2 H => (c1 i v d e1 e2).any) fun i v d e1 e2 H => (c2 i v d e1 e2).any)⟩⟩
    · unfold gZip at e
      split at e
      · split at e
        · rename_i xs ys h1 h2
          cases e
          obtain ⟨x, y, rfl, r1, r2⟩ := paired2 rr
          obtain ⟨a, us, rfl, q1, l1, c1⟩ := rep_lstF r1 h1
          obtain ⟨b, ws, rfl, q2, l2, c2⟩ := rep_lstF r2 h2
          exact ⟨a, b, us, ws, rfl, .inl ⟨sqL_mono q1 s, sqL_mono q2 s, z _ (itd_zip q1 q2 l1 l2 c1 c2)⟩⟩
        · cases e
      · cases e
end
end DL

namespace DL
open PySem PySem.Spec PyProof.Rows L2

/-! ### own exception classes, by one check of the written part -/
def oexB (K : PySem.W.Frag) (C : Addr) : Bool := match K.lookup C with
  | some ⟨.type "type", _, .cls cd, sl⟩ => (match cd.mro, sl.toList with
    | .ref C1 :: bm, [_, _, _, _, some (.builtin n), _] => C1 == C && (n == "ValueError.__new__" && (!cd.hasDel && (cd.hasDict && PySem.HandSPX.refsVE bm)))
    | _, _ => false)
  | _ => false
def eqV (a b : Option (Option Value)) : Bool := match a, b with
  | some (some x), some (some y) => x == y
  | some none, some none => true
  | _, _ => false
theorem eqV_ok {a b : Option (Option Value)} (h : eqV a b = true) : a = b := by
  unfold eqV at h
  split at h
  · rw [beq_iff_eq.mp h]
  · rfl
  · cases h
def exkB (K : PySem.W.Frag) (fI C : Addr) : Bool :=
  oexB K C && (eqV (PySem.W.findIn K (.ref C) "__setattr__") (some (some (.builtin "object.__setattr__"))) && (decide (PySem.W.subIn K (.ref C) (.type "BaseException") = some true) && ((PySem.W.typeIn K (.ref C) == some (.type "type")) && (PySem.W.keepIn K (.ref C) &&
  (eqV (PySem.W.findIn K (.ref C) "__init__") (some (some (.ref fI))) && (eqV (PySem.W.findIn K (.ref C) "value") (some none) && (eqV (PySem.W.findIn K (.ref C) "__getattribute__") (some (some (.builtin "BaseException.__getattribute__"))) &&
  (eqV (PySem.W.findIn K (.ref C) "__getattr__") (some none) && (PySem.W.hasDictIn K C && (eqV (PySem.W.findIn K (.ref C) "__class__") (some (some (.builtin "object.__class__"))) && decide (PySem.W.mroIn K C (.type "object") = some true)))))))))))
theorem oexB_ok {K : PySem.W.Frag} {C : Addr} (h : oexB K C = true) : ∃ nm q N bs bm sn sub ab col dd k0 k1 k2 k3 k5, K.lookup C = some (excClassObj nm q C N bs bm true sn sub ab col dd k0 k1 k2 k3 k5 "ValueError.__new__") ∧ PySem.HandSPX.refsVE bm = true := by
  unfold oexB at h
  split at h
  · rename_i dd cd sl ho
    split at h
    · rename_i C1 bm k0 k1 k2 k3 n k5 hm hs
      obtain ⟨h1, h⟩ := Bool.and_eq_true_iff.mp h
      obtain ⟨h2, h⟩ := Bool.and_eq_true_iff.mp h
      obtain ⟨h3, h⟩ := Bool.and_eq_true_iff.mp h
      obtain ⟨h4, h5⟩ := Bool.and_eq_true_iff.mp h
      obtain ⟨nm, bs, mro, ns, qn, hd, sn, sub, ab, col, del⟩ := cd
      dsimp only at hm h3 h4
      have e1 := beq_iff_eq.mp h1
      have e2 := beq_iff_eq.mp h2
      have e3 : del = false := by simpa using h3
      subst hm e1 e2 e3 h4
      have e4 : sl = #[k0, k1, k2, k3, some (.builtin "ValueError.__new__"), k5] := by
        obtain ⟨l⟩ := sl
        simp only at hs
        rw [hs]
      subst e4
      exact ⟨nm, qn, ns, bs, bm, sn, sub, ab, col, dd, k0, k1, k2, k3, k5, ho, h5⟩
    · cases h
  · cases h
def gsB (K : PySem.W.Frag) : Bool := eqV (PySem.W.specialIn K (.builtin "object.__class__") "__get__") (some (some (.builtin "getset_descriptor.__get__"))) && decide (PySem.W.takesIn K (.builtin "object.__class__") = some true)
theorem exkB_ok {K : PySem.W.Frag} {ca : Nat → Addr} {fI : Addr} {c : Nat} (g : gsB K = true) (h : exkB K fI (ca c) = true) : ExK K ca fI c ∧ PySem.W.typeIn K (.ref (ca c)) = some (.type "type") := by
  unfold exkB at h
  obtain ⟨g1, g2⟩ := Bool.and_eq_true_iff.mp g
  obtain ⟨h0, h⟩ := Bool.and_eq_true_iff.mp h
  obtain ⟨h1, h⟩ := Bool.and_eq_true_iff.mp h
  obtain ⟨h2, h⟩ := Bool.and_eq_true_iff.mp h
  obtain ⟨h3, h⟩ := Bool.and_eq_true_iff.mp h
  obtain ⟨h4, h⟩ := Bool.and_eq_true_iff.mp h
  obtain ⟨h5, h⟩ := Bool.and_eq_true_iff.mp h
  obtain ⟨h6, h⟩ := Bool.and_eq_true_iff.mp h
  obtain ⟨h7, h⟩ := Bool.and_eq_true_iff.mp h
  obtain ⟨h8, h⟩ := Bool.and_eq_true_iff.mp h
  obtain ⟨h9, h⟩ := Bool.and_eq_true_iff.mp h
  obtain ⟨ha, hb⟩ := Bool.and_eq_true_iff.mp h
  have ty := beq_iff_eq.mp h3
  exact ⟨{ oex := ⟨oexB_ok h0, eqV_ok h1, of_decide_eq_true h2, ty, h4⟩, ini := eqV_ok h5, no := eqV_ok h6, ga := eqV_ok h7, gg := eqV_ok h8, su := of_decide_eq_true h2, hd := h9, kc := eqV_ok ha, hn := eqV_ok g1, ht := of_decide_eq_true g2, hm := of_decide_eq_true hb }, ty⟩
/-- which class an own exception class is of -/
def isX (k c : Nat) : Bool := decide (k = 0 ∨ c = k)
def xTys : List String := ["ValueError", "int", "str", "bool", "list", "tuple", "dict"]
def xNts : List String := ["NoneType", "bool", "int", "str", "tuple", "list", "dict"]
def excB (K : PySem.W.Frag) (ca : Nat → Addr) (fI : Addr) (exs : List Nat) : Bool :=
  gsB K && (exs.all (fun c => exkB K fI (ca c)) && (exs.all (fun i => exs.all fun j => decide (PySem.W.subIn K (.ref (ca i)) (.ref (ca j)) = some (isX j i))) && exs.all (fun i => xTys.all fun m => decide (PySem.W.subIn K (.ref (ca i)) (.type m) = some (decide (m = "ValueError"))))))
def tabX (exs : List Nat) : Tab
  | .inl n, .ty m => kitB n m
  | .inl n, .cls k => if k ∈ exs ∧ n ∈ xNts then some false else none
  | .inr c, .ty m => if c ∈ exs ∧ m ∈ xTys then some (decide (m = "ValueError")) else none
  | .inr c, .cls k => if c ∈ exs ∧ k ∈ exs then some (isX k c) else none
  | _, _ => none
def catX (exs : List Nat) (k c : Nat) : Option Bool := if c ∈ exs then some (isX k c) else none
theorem subIn_self {K : PySem.W.Frag} {C : Addr} {b : Bool} (h : oexB K C = true) (e : PySem.W.subIn K (.ref C) (.ref C) = some b) : b = true := by
  obtain ⟨nm, q, N, bs, bm, sn, sub, ab, col, dd, k0, k1, k2, k3, k5, hC, _⟩ := oexB_ok h
  have hcl : PySem.W.clsIn K C = some { name := nm, bases := bs, mro := .ref C :: bm, ns := N, qualname := q, hasDict := true, slotNames := sn, subclasses := sub, abstract := ab, collection := col, hasDel := false } := by unfold PySem.W.clsIn; rw [hC] <;> rfl
  have e2 : PySem.W.mroIn K C (.ref C) = some b := e
  unfold PySem.W.mroIn at e2
  rw [hcl, Option.bind_some] at e2
  split at e2
  · cases e2
  · have := Option.some.inj e2
    rw [← this]
    simp
theorem clsIn_some {K : PySem.W.Frag} {C : Addr} (h : oexB K C = true) : (PySem.W.clsIn K C).isSome = true := by
  obtain ⟨nm, q, N, bs, bm, sn, sub, ab, col, dd, k0, k1, k2, k3, k5, hC, _⟩ := oexB_ok h
  unfold PySem.W.clsIn
  rw [hC] <;> rfl
theorem kit_ref {K : PySem.W.Frag} {C : Addr} {t : Value} {b : Bool} (h : oexB K C = true) (ty : PySem.W.typeIn K (.ref C) = some (.type "type")) (e : PySem.W.subIn K t (.ref C) = some b) : PySem.W.kitOne K t (.ref C) = some b := by
  unfold PySem.W.kitOne
  split
  · rename_i q
    have := beq_iff_eq.mp q
    subst this
    rw [subIn_self h e]
  · show (if ((PySem.W.clsIn K C).isSome && PySem.W.typeIn K (.ref C) == some (.type "type")) = true then PySem.W.subIn K t (.ref C) else none) = some b
    rw [if_pos (by rw [clsIn_some h, ty]; rfl)]
    exact e
theorem kitM : ∀ m ∈ xTys, PySem.W.kitMeta m = true := by decide +kernel
theorem subN : ∀ n ∈ xNts, ∀ C : Addr, ∃ l, PySem.fastBuiltinMro n = some l ∧ l.contains (.ref C) = false := by
  intro n hn C
  have : ∀ l : List Value, (l.all fun v => match v with | .type _ => true | _ => false) = true → l.contains (.ref C) = false := fun l hl => by
    induction l with
    | nil => rfl
    | cons a l ih =>
      simp only [List.all_cons, Bool.and_eq_true] at hl
      rw [List.contains_cons, ih hl.2, Bool.or_false]
      cases a <;> first | (simp at hl; done) | rfl
  have key : ∀ n ∈ xNts, ∃ l, PySem.fastBuiltinMro n = some l ∧ (l.all fun v => match v with | .type _ => true | _ => false) = true := by
    intro n hn
    have k2 : xNts.all (fun n => match PySem.fastBuiltinMro n with
      | some l => l.all fun v => match v with | .type _ => true | _ => false
      | none => false) = true := by decide +kernel
    have k3 := List.all_eq_true.mp k2 n hn
    split at k3
    · rename_i l hl; exact ⟨l, hl, k3⟩
    · cases k3
  obtain ⟨l, e1, e2⟩ := key n hn
  exact ⟨l, e1, this l e2⟩
theorem exc_all {K : PySem.W.Frag} {ca : Nat → Addr} {fI : Addr} {exs : List Nat} (h : excB K ca fI exs = true) :
    (∀ c ∈ exs, ExK K ca fI c) ∧ TabOk K ca fI (tabX exs) ∧ ∀ k ∈ exs, ∀ c b, catX exs k c = some b → PySem.W.exmOne K (.ref (ca c)) (.ref (ca k)) = some b := by
  unfold excB at h
  obtain ⟨h0, h⟩ := Bool.and_eq_true_iff.mp h
  obtain ⟨h1, h⟩ := Bool.and_eq_true_iff.mp h
  obtain ⟨h2, h3⟩ := Bool.and_eq_true_iff.mp h
  have ok : ∀ c ∈ exs, exkB K fI (ca c) = true := List.all_eq_true.mp h1
  have oe : ∀ c ∈ exs, oexB K (ca c) = true := fun c hc => (Bool.and_eq_true_iff.mp (ok c hc)).1
  have ex : ∀ c ∈ exs, ExK K ca fI c ∧ PySem.W.typeIn K (.ref (ca c)) = some (.type "type") := fun c hc => exkB_ok h0 (ok c hc)
  have sr : ∀ i ∈ exs, ∀ j ∈ exs, PySem.W.subIn K (.ref (ca i)) (.ref (ca j)) = some (isX j i) := fun i hi j hj => of_decide_eq_true (List.all_eq_true.mp (List.all_eq_true.mp h2 i hi) j hj)
  have st : ∀ i ∈ exs, ∀ m ∈ xTys, PySem.W.subIn K (.ref (ca i)) (.type m) = some (decide (m = "ValueError")) := fun i hi m hm => of_decide_eq_true (List.all_eq_true.mp (List.all_eq_true.mp h3 i hi) m hm)
  refine ⟨fun c hc => (ex c hc).1, ⟨fun t c b e => ?_, fun k c b e => ?_⟩, fun k hk c b e => ?_⟩
  · cases t with
    | inl n =>
      cases c with
      | ty m => exact ⟨_, rfl, kit_ty e⟩
      | cls k =>
        simp only [tabX] at e
        split at e
        · rename_i hh
          cases e
          refine ⟨_, rfl, kit_ref (oe k hh.1) (ex k hh.1).2 ?_⟩
          obtain ⟨l, e1, e2⟩ := subN n hh.2 (ca k)
          show (PySem.fastBuiltinMro n).map (·.contains (.ref (ca k))) = some false
          rw [e1, Option.map_some, e2]
        · cases e
      | _ => simp [tabX] at e
    | inr i =>
      cases c with
      | ty m =>
        simp only [tabX] at e
        split at e
        · rename_i hh
          cases e
          refine ⟨_, rfl, ?_⟩
          show (if (Value.ref (ca i) == Value.type m) = true then some true else PySem.W.kitCls K (.ref (ca i)) (.type m)) = _
          rw [if_neg (by simp)]
          show (if PySem.W.kitMeta m = true then PySem.W.subIn K (.ref (ca i)) (.type m) else none) = _
          rw [if_pos (kitM m hh.2)]
          exact st i hh.1 m hh.2
        · cases e
      | cls k =>
        simp only [tabX] at e
        split at e
        · rename_i hh
          cases e
          exact ⟨_, rfl, kit_ref (oe k hh.2) (ex k hh.2).2 (sr i hh.1 k hh.2)⟩
        · cases e
      | _ => simp [tabX] at e
  · cases c with
    | ty m =>
      simp only [tabX] at e
      split at e
      · rename_i hh; exact (ex k hh.1).1
      · cases e
    | cls j =>
      simp only [tabX] at e
      split at e
      · rename_i hh; exact (ex k hh.1).1
      · cases e
    | _ => simp [tabX] at e
  · unfold catX at e
    split at e
    · rename_i hc
      cases e
      exact PySem.W.exm_ref (ex k hk).1.su (ex k hk).1.hd (ex k hk).2 (sr c hc k hk)
    · cases e
end DL

namespace DL
open PySem PySem.Spec PyProof.Rows L2

theorem kw_of {K : PySem.W.Frag} {x qual : Str} {st : Stmt} {f : Addr} {fd : FuncData} {ps ks : List Str} {is : List Nat} (F : Fun K x qual st f fd)
    (h : ∀ (kV doc pm : Value) (an : Option Addr) (cdv ct : Value) (ws us : List Value), ws.length = ks.length → permD ws is = some us → bindArgs (PySem.W.fnOf x qual (defArgs st) (defBody st) (defScope st) .none kV doc pm an cdv ct) ⟨[], ks.zip ws⟩ = pure (ps.zip us)) (l : is.length = ps.length) : KwB K fd ps ks is := by
  obtain ⟨oc, od, kV, doc, pm, an, cdv, ct, osl, rfl, lk, hcd⟩ := F.ex
  exact ⟨fun s ws us hl e => .of_eq (h kV doc pm an cdv ct ws us hl e), l⟩
/-! ### the law: true at every script -/
def spScr (K : PySem.W.Frag) : Sp := fun vs H Q _ => ∃ (a : Addr) (ns : List Int), vs = [.ref a] ∧ ns.length ≤ 63 ∧ (∀ z ∈ ns, Builtin.Int.intBits z ≤ 1048576) ∧ SqL K H a (ns.map V.int) ∧ ∀ H', Q (.bl true) H'
section
variable {P : Program} {w : World} {K : PySem.W.Frag} {mg : Str → Option Value} {base : Heap} {ca : Nat → Addr} {k : Nat} {f : Addr} {fd : FuncData} {m : Mir}
theorem law_end (hm : ∀ ns : List Int, ns.length ≤ 63 → (∀ z ∈ ns, Builtin.Int.intBits z ≤ 1048576) → ∃ outs, m [.frl (ns.map .int)] = some (.ok (.bl true) outs)) (F : FnD P w K mg base ca k f fd ["script"] m) : FnOk P w K mg base (L2.CX P w) k f fd ["script"] (spScr K) := by
  have to : ∀ vs H Q E, spScr K vs H Q E → spD ⟨K, ca⟩ 1 m vs H Q E := fun vs H Q E h => by
    obtain ⟨a, ns, rfl, hl, hb, hS, q⟩ := h
    obtain ⟨outs, ho⟩ := hm ns hl hb
    refine ⟨rfl, H, [.frl (ns.map .int)], fun _ => nof, _, ⟨fun _ _ h => h, rfl, fun i d e => ?_, fun _ _ _ h => h, fun _ _ _ h => h.elim⟩, ho, fun v G' H' F' T c r n x => ?_⟩
    · cases i with
      | zero =>
        cases e
        refine ⟨_, rfl, .frl hS (by simp) fun i v d e1 e2 => ?_⟩
        rw [List.getElem?_map] at e1 e2
        obtain ⟨z, e3, rfl⟩ := Option.map_eq_some_iff.mp e1
        rw [e3] at e2
        cases e2
        exact .int z
      | succ i => cases e
    · cases r
      exact q H'
  exact ⟨fun vs H Q E h => F.len vs H Q E (to vs H Q E h), fun A st s H args us vs Q E hr he hb hv h => F.run A st s H args us vs Q E hr he hb hv (to vs H Q E h)⟩
theorem cx_end {P : Program} (w : World) (H : Hp) (s : Shared) (e : Value) (s' : Shared) (h : L2.CX P w [] H s (fun _ _ _ => False) e s') : False := by
  obtain ⟨_, _, _, _, _, _, _, _, _, _, _, _, z⟩ := h
  exact z
end
end DL

namespace DL
open PySem PySem.Spec PyProof.Rows L2

/-! ### sizes -/
theorem lg_le {i : Int} {k : Nat} (h : i.natAbs < 2 ^ (k + 1)) : lg i ≤ k := by
  unfold lg
  by_cases h0 : i.natAbs = 0
  · rw [h0]; simp
  · have := (Nat.log2_lt h0).mpr h
    omega
theorem ibits_le {z : Int} {k : Nat} (h : z.natAbs < 2 ^ k) : Builtin.Int.intBits z ≤ k := by
  unfold Builtin.Int.intBits
  split
  · omega
  · rename_i hz
    have h0 : z.natAbs ≠ 0 := by
      intro e
      apply hz
      have : z = 0 := by omega
      simp [this]
    have := (Nat.log2_lt h0).mpr h
    omega
theorem fmod_nn {a b : Int} (h : 0 < b) : 0 ≤ a.fmod b ∧ a.fmod b < b := by
  rw [Int.fmod_eq_emod_of_nonneg a (by omega)]
  exact ⟨Int.emod_nonneg a (by omega), Int.emod_lt_of_pos a h⟩
theorem fdiv_nn {a b : Int} (ha : 0 ≤ a) (h : 0 < b) : 0 ≤ a.fdiv b ∧ a.fdiv b ≤ a := by
  rw [Int.fdiv_eq_ediv_of_nonneg a (by omega)]
  exact ⟨Int.ediv_nonneg ha (by omega), Int.ediv_le_self b ha⟩

/-! ### the functions, run step by step -/
def bO {α β : Type} (x : Option α) (k : α → Option β) : Option β := match x with
  | none => none
  | some a => k a
theorem bO_congr {α β : Type} {x y : Option α} {k : α → Option β} (h : x = y) : bO x k = bO y k := by rw [h]
@[simp] theorem bO_none {α β : Type} {k : α → Option β} : bO none k = none := rfl
@[simp] theorem bO_some {α β : Type} {a : α} {k : α → Option β} : bO (some a) k = k a := rfl
def bE {α β : Type} (x : Option (Out α)) (k : α → DEnv → Option (Out β)) : Option (Out β) := match x with
  | none => none
  | some (.exc e ρ) => some (.exc e ρ)
  | some (.ok a ρ) => k a ρ
theorem bE_congr {α β : Type} {x y : Option (Out α)} {k : α → DEnv → Option (Out β)} (h : x = y) : bE x k = bE y k := by rw [h]
@[simp] theorem bE_none {α β : Type} {k : α → DEnv → Option (Out β)} : bE none k = none := rfl
@[simp] theorem bE_exc {α β : Type} {e : D} {ρ : DEnv} {k : α → DEnv → Option (Out β)} : bE (some (.exc e ρ)) k = some (.exc e ρ) := rfl
@[simp] theorem bE_ok {α β : Type} {a : α} {ρ : DEnv} {k : α → DEnv → Option (Out β)} : bE (some (.ok a ρ)) k = k a ρ := rfl
def bS {α : Type} (x : Option (Out α)) (k : α → Sv) : Option SOut := match x with
  | none => none
  | some (.exc e ρ) => some (.exc e ρ)
  | some (.ok a ρ) => k a ρ
theorem bS_congr {α : Type} {x y : Option (Out α)} {k : α → Sv} (h : x = y) : bS x k = bS y k := by rw [h]
@[simp] theorem bS_none {α : Type} {k : α → Sv} : bS none k = none := rfl
@[simp] theorem bS_exc {α : Type} {e : D} {ρ : DEnv} {k : α → Sv} : bS (some (.exc e ρ)) k = some (.exc e ρ) := rfl
@[simp] theorem bS_ok {α : Type} {a : α} {ρ : DEnv} {k : α → Sv} : bS (some (.ok a ρ)) k = k a ρ := rfl
/-- one behind the other -/
def bQ (x : Option SOut) (g : Sv) : Option SOut := match x with
  | some (.nx ρ1) => g ρ1
  | o => o
theorem bQ_congr {x y : Option SOut} {g : Sv} (h : x = y) : bQ x g = bQ y g := by rw [h]
@[simp] theorem bQ_none {g : Sv} : bQ none g = none := rfl
@[simp] theorem bQ_nx {g : Sv} {ρ : DEnv} : bQ (some (.nx ρ)) g = g ρ := rfl
@[simp] theorem bQ_ret {g : Sv} {d : D} {ρ : DEnv} : bQ (some (.ret d ρ)) g = some (.ret d ρ) := rfl
@[simp] theorem bQ_brk {g : Sv} {ρ : DEnv} : bQ (some (.brk ρ)) g = some (.brk ρ) := rfl
@[simp] theorem bQ_cnt {g : Sv} {ρ : DEnv} : bQ (some (.cnt ρ)) g = some (.cnt ρ) := rfl
@[simp] theorem bQ_exc {g : Sv} {d : D} {ρ : DEnv} : bQ (some (.exc d ρ)) g = some (.exc d ρ) := rfl
/-- a turn's end -/
def bF (x : Option SOut) (g : Sv) : Option SOut := match x with
  | some (.nx ρ2) => g ρ2
  | some (.cnt ρ2) => g ρ2
  | some (.brk ρ2) => some (.nx ρ2)
  | o => o
theorem bF_congr {x y : Option SOut} {g : Sv} (h : x = y) : bF x g = bF y g := by rw [h]
@[simp] theorem bF_none {g : Sv} : bF none g = none := rfl
@[simp] theorem bF_nx {g : Sv} {ρ : DEnv} : bF (some (.nx ρ)) g = g ρ := rfl
@[simp] theorem bF_ret {g : Sv} {d : D} {ρ : DEnv} : bF (some (.ret d ρ)) g = some (.ret d ρ) := rfl
@[simp] theorem bF_brk {g : Sv} {ρ : DEnv} : bF (some (.brk ρ)) g = some (.nx ρ) := rfl
@[simp] theorem bF_cnt {g : Sv} {ρ : DEnv} : bF (some (.cnt ρ)) g = g ρ := rfl
@[simp] theorem bF_exc {g : Sv} {d : D} {ρ : DEnv} : bF (some (.exc d ρ)) g = some (.exc d ρ) := rfl
@[simp] theorem slot_0 {a0 : Option D} {ρ : DEnv} : slotOf (a0 :: ρ) 0 = a0 := rfl
@[simp] theorem slot_1 {a0 a1 : Option D} {ρ : DEnv} : slotOf (a0 :: a1 :: ρ) 1 = a1 := rfl
@[simp] theorem slot_2 {a0 a1 a2 : Option D} {ρ : DEnv} : slotOf (a0 :: a1 :: a2 :: ρ) 2 = a2 := rfl
@[simp] theorem slot_3 {a0 a1 a2 a3 : Option D} {ρ : DEnv} : slotOf (a0 :: a1 :: a2 :: a3 :: ρ) 3 = a3 := rfl
@[simp] theorem slot_4 {a0 a1 a2 a3 a4 : Option D} {ρ : DEnv} : slotOf (a0 :: a1 :: a2 :: a3 :: a4 :: ρ) 4 = a4 := rfl
@[simp] theorem slot_5 {a0 a1 a2 a3 a4 a5 : Option D} {ρ : DEnv} : slotOf (a0 :: a1 :: a2 :: a3 :: a4 :: a5 :: ρ) 5 = a5 := rfl
@[simp] theorem slot_6 {a0 a1 a2 a3 a4 a5 a6 : Option D} {ρ : DEnv} : slotOf (a0 :: a1 :: a2 :: a3 :: a4 :: a5 :: a6 :: ρ) 6 = a6 := rfl
@[simp] theorem slot_7 {a0 a1 a2 a3 a4 a5 a6 a7 : Option D} {ρ : DEnv} : slotOf (a0 :: a1 :: a2 :: a3 :: a4 :: a5 :: a6 :: a7 :: ρ) 7 = a7 := rfl
@[simp] theorem slot_8 {a0 a1 a2 a3 a4 a5 a6 a7 a8 : Option D} {ρ : DEnv} : slotOf (a0 :: a1 :: a2 :: a3 :: a4 :: a5 :: a6 :: a7 :: a8 :: ρ) 8 = a8 := rfl
@[simp] theorem slot_9 {a0 a1 a2 a3 a4 a5 a6 a7 a8 a9 : Option D} {ρ : DEnv} : slotOf (a0 :: a1 :: a2 :: a3 :: a4 :: a5 :: a6 :: a7 :: a8 :: a9 :: ρ) 9 = a9 := rfl
@[simp] theorem slot_10 {a0 a1 a2 a3 a4 a5 a6 a7 a8 a9 a10 : Option D} {ρ : DEnv} : slotOf (a0 :: a1 :: a2 :: a3 :: a4 :: a5 :: a6 :: a7 :: a8 :: a9 :: a10 :: ρ) 10 = a10 := rfl
@[simp] theorem slot_11 {a0 a1 a2 a3 a4 a5 a6 a7 a8 a9 a10 a11 : Option D} {ρ : DEnv} : slotOf (a0 :: a1 :: a2 :: a3 :: a4 :: a5 :: a6 :: a7 :: a8 :: a9 :: a10 :: a11 :: ρ) 11 = a11 := rfl
@[simp] theorem slot_12 {a0 a1 a2 a3 a4 a5 a6 a7 a8 a9 a10 a11 a12 : Option D} {ρ : DEnv} : slotOf (a0 :: a1 :: a2 :: a3 :: a4 :: a5 :: a6 :: a7 :: a8 :: a9 :: a10 :: a11 :: a12 :: ρ) 12 = a12 := rfl
@[simp] theorem slot_13 {a0 a1 a2 a3 a4 a5 a6 a7 a8 a9 a10 a11 a12 a13 : Option D} {ρ : DEnv} : slotOf (a0 :: a1 :: a2 :: a3 :: a4 :: a5 :: a6 :: a7 :: a8 :: a9 :: a10 :: a11 :: a12 :: a13 :: ρ) 13 = a13 := rfl
@[simp] theorem slot_14 {a0 a1 a2 a3 a4 a5 a6 a7 a8 a9 a10 a11 a12 a13 a14 : Option D} {ρ : DEnv} : slotOf (a0 :: a1 :: a2 :: a3 :: a4 :: a5 :: a6 :: a7 :: a8 :: a9 :: a10 :: a11 :: a12 :: a13 :: a14 :: ρ) 14 = a14 := rfl
@[simp] theorem slot_15 {a0 a1 a2 a3 a4 a5 a6 a7 a8 a9 a10 a11 a12 a13 a14 a15 : Option D} {ρ : DEnv} : slotOf (a0 :: a1 :: a2 :: a3 :: a4 :: a5 :: a6 :: a7 :: a8 :: a9 :: a10 :: a11 :: a12 :: a13 :: a14 :: a15 :: ρ) 15 = a15 := rfl
@[simp] theorem slot_16 {a0 a1 a2 a3 a4 a5 a6 a7 a8 a9 a10 a11 a12 a13 a14 a15 a16 : Option D} {ρ : DEnv} : slotOf (a0 :: a1 :: a2 :: a3 :: a4 :: a5 :: a6 :: a7 :: a8 :: a9 :: a10 :: a11 :: a12 :: a13 :: a14 :: a15 :: a16 :: ρ) 16 = a16 := rfl
@[simp] theorem slot_17 {a0 a1 a2 a3 a4 a5 a6 a7 a8 a9 a10 a11 a12 a13 a14 a15 a16 a17 : Option D} {ρ : DEnv} : slotOf (a0 :: a1 :: a2 :: a3 :: a4 :: a5 :: a6 :: a7 :: a8 :: a9 :: a10 :: a11 :: a12 :: a13 :: a14 :: a15 :: a16 :: a17 :: ρ) 17 = a17 := rfl
@[simp] theorem slot_18 {a0 a1 a2 a3 a4 a5 a6 a7 a8 a9 a10 a11 a12 a13 a14 a15 a16 a17 a18 : Option D} {ρ : DEnv} : slotOf (a0 :: a1 :: a2 :: a3 :: a4 :: a5 :: a6 :: a7 :: a8 :: a9 :: a10 :: a11 :: a12 :: a13 :: a14 :: a15 :: a16 :: a17 :: a18 :: ρ) 18 = a18 := rfl
@[simp] theorem slot_19 {a0 a1 a2 a3 a4 a5 a6 a7 a8 a9 a10 a11 a12 a13 a14 a15 a16 a17 a18 a19 : Option D} {ρ : DEnv} : slotOf (a0 :: a1 :: a2 :: a3 :: a4 :: a5 :: a6 :: a7 :: a8 :: a9 :: a10 :: a11 :: a12 :: a13 :: a14 :: a15 :: a16 :: a17 :: a18 :: a19 :: ρ) 19 = a19 := rfl
@[simp] theorem slot_20 {a0 a1 a2 a3 a4 a5 a6 a7 a8 a9 a10 a11 a12 a13 a14 a15 a16 a17 a18 a19 a20 : Option D} {ρ : DEnv} : slotOf (a0 :: a1 :: a2 :: a3 :: a4 :: a5 :: a6 :: a7 :: a8 :: a9 :: a10 :: a11 :: a12 :: a13 :: a14 :: a15 :: a16 :: a17 :: a18 :: a19 :: a20 :: ρ) 20 = a20 := rfl
@[simp] theorem slot_21 {a0 a1 a2 a3 a4 a5 a6 a7 a8 a9 a10 a11 a12 a13 a14 a15 a16 a17 a18 a19 a20 a21 : Option D} {ρ : DEnv} : slotOf (a0 :: a1 :: a2 :: a3 :: a4 :: a5 :: a6 :: a7 :: a8 :: a9 :: a10 :: a11 :: a12 :: a13 :: a14 :: a15 :: a16 :: a17 :: a18 :: a19 :: a20 :: a21 :: ρ) 21 = a21 := rfl
@[simp] theorem slot_22 {a0 a1 a2 a3 a4 a5 a6 a7 a8 a9 a10 a11 a12 a13 a14 a15 a16 a17 a18 a19 a20 a21 a22 : Option D} {ρ : DEnv} : slotOf (a0 :: a1 :: a2 :: a3 :: a4 :: a5 :: a6 :: a7 :: a8 :: a9 :: a10 :: a11 :: a12 :: a13 :: a14 :: a15 :: a16 :: a17 :: a18 :: a19 :: a20 :: a21 :: a22 :: ρ) 22 = a22 := rfl
@[simp] theorem slot_23 {a0 a1 a2 a3 a4 a5 a6 a7 a8 a9 a10 a11 a12 a13 a14 a15 a16 a17 a18 a19 a20 a21 a22 a23 : Option D} {ρ : DEnv} : slotOf (a0 :: a1 :: a2 :: a3 :: a4 :: a5 :: a6 :: a7 :: a8 :: a9 :: a10 :: a11 :: a12 :: a13 :: a14 :: a15 :: a16 :: a17 :: a18 :: a19 :: a20 :: a21 :: a22 :: a23 :: ρ) 23 = a23 := rfl
section
variable {α β : Type} {ρ : DEnv} {i j n : Nat} {p : List PSt} {d : D} {a : AV} {as : List AV} {f fa fb : Ev AV} {fs : Ev (List AV)} {fd : Ev (List D)} {c c2 : Ev Bool} {s s2 : Sv} {I is : List Nat} {g : List D → Option D} {ds : List D} {t : Tgt} {u : Tgts} {gm : D → List D → Option (D × D)} {m : Mir} {ms : List Bool}
@[simp] theorem r_then {f : Ev α} {k : α → Ev β} : f.andThen k ρ = bE (f ρ) k := by
  unfold Ev.andThen bE
  cases f ρ with
  | none => rfl
  | some o => cases o <;> rfl
@[simp] theorem r_pure {x : α} : Ev.pure x ρ = some (.ok x ρ) := rfl
@[simp] theorem r_c : evC d ρ = some (.ok (.val d) ρ) := rfl
@[simp] theorem r_nil : evNil ρ = some (.ok [] ρ) := rfl
@[simp] theorem r_v : evV i ρ = bO (slotOf ρ i) fun d => if d.sh = true then some (.ok (.val d) ρ) else some (.ok (.pl i []) ρ) := by
  unfold evV bO
  cases slotOf ρ i <;> rfl
@[simp] theorem r_lockv {k : Ev α} : lockA (.val d) k ρ = k ρ := rfl
@[simp] theorem r_lock0 {k : Ev α} : lockA (.pl i []) k ρ = k ρ := rfl
def unlk (i : Nat) (d : D) (x : Option (Out α)) : Option (Out α) := match x with
  | none => none
  | some (.ok a ρ') => some (.ok a (ρ'.set i (some d)))
  | some (.exc e ρ') => some (.exc e (ρ'.set i (some d)))
@[simp] theorem unlk_none : unlk (α := α) i d none = none := rfl
@[simp] theorem unlk_ok {a : α} : unlk i d (some (.ok a ρ)) = some (.ok a (ρ.set i (some d))) := rfl
@[simp] theorem unlk_exc {e : D} : unlk (α := α) i d (some (.exc e ρ)) = some (.exc e (ρ.set i (some d))) := rfl
@[simp] theorem r_lockp {q : PSt} {k : Ev α} : lockA (.pl i (q :: p)) k ρ = bO (cont ρ (.pl i (q :: p))) fun _ => bO (slotOf ρ i) fun d => unlk i d (k (ρ.set i none)) := by
  show lockE i (q :: p) k ρ = _
  unfold lockE bO
  cases cont ρ (.pl i (q :: p)) with
  | none => rfl
  | some x => cases slotOf ρ i with
    | none => rfl
    | some d => rfl
@[simp] theorem r_cons : evCons f fs ρ = bE (f ρ) fun a ρ1 => bE (lockA a fs ρ1) fun as ρ2 => some (.ok (a :: as) ρ2) := by
  unfold evCons
  rw [r_then]
  congr 1
@[simp] theorem cont_v : cont ρ (.val d) = some d := rfl
@[simp] theorem cont_p : cont ρ (.pl i p) = bO (slotOf ρ i) fun d => getP d p := by
  rw [cont_pl]
  cases slotOf ρ i <;> rfl
@[simp] theorem getP_0 : getP d [] = some d := by cases d <;> rfl
@[simp] theorem getP_l : getP (.ol ds) (.ix j :: p) = bO ds[j]? fun d => getP d p := by
  conv => lhs; unfold getP
  unfold bO
  cases ds[j]? <;> rfl
@[simp] theorem putP_0 {e : D} : putP d [] e = some e := by cases d <;> rfl
@[simp] theorem putP_l {e : D} : putP (.ol ds) (.ix j :: p) e = bO ds[j]? fun d => (putP d p e).map fun u => .ol (ds.set j u) := by
  conv => lhs; unfold putP
  unfold bO
  cases ds[j]? <;> rfl
@[simp] theorem conts_0 : conts ρ [] = some [] := rfl
@[simp] theorem conts_1 : conts ρ (a :: as) = bO (cont ρ a) fun d => bO (conts ρ as) fun ds => some (d :: ds) := by
  conv => lhs; unfold conts
  unfold bO
  cases cont ρ a with
  | none => rfl
  | some d => cases conts ρ as <;> rfl
@[simp] theorem r_op : evOp g fs ρ = bE (fs ρ) fun avs ρ1 => bO (conts ρ1 avs) fun ds => bO (g ds) fun d => some (.ok (.val d) ρ1) := by
  unfold evOp
  rw [r_then]
  congr 1
  funext avs ρ1
  unfold bO
  cases conts ρ1 avs with
  | none => rfl
  | some ds => dsimp only; cases g ds <;> rfl
@[simp] theorem r_T : evT f ρ = bE (f ρ) fun a ρ1 => bO (boolOf a) fun b => some (.ok b ρ1) := by
  unfold evT
  rw [r_then]
  congr 1
  funext a ρ1
  unfold bO
  cases boolOf a <;> rfl
@[simp] theorem boolOf_b {b : Bool} : boolOf (.val (.bl b)) = some b := rfl
@[simp] theorem r_Tr : evTr f ρ = bE (f ρ) fun a ρ1 => bO (cont ρ1 a) fun d => bO (truD d) fun b => some (.ok b ρ1) := by
  unfold evTr
  rw [r_then]
  congr 1
  funext a ρ1
  unfold bO
  cases cont ρ1 a with
  | none => rfl
  | some d => dsimp only; cases truD d <;> rfl
@[simp] theorem r_and : evAnd c c2 ρ = bE (c ρ) fun b ρ1 => if b = true then c2 ρ1 else some (.ok false ρ1) := by
  unfold evAnd
  rw [r_then]
  congr 1
  funext b ρ1
  cases b <;> rfl
@[simp] theorem r_or : evOr c c2 ρ = bE (c ρ) fun b ρ1 => if b = true then some (.ok true ρ1) else c2 ρ1 := by
  unfold evOr
  rw [r_then]
  congr 1
  funext b ρ1
  cases b <;> rfl
@[simp] theorem r_not : evNot c ρ = bE (c ρ) fun b ρ1 => some (.ok (!b) ρ1) := by unfold evNot; rw [r_then]; rfl
@[simp] theorem r_ifE : evIf c fa fb ρ = bE (c ρ) fun b ρ1 => if b = true then fa ρ1 else fb ρ1 := by
  unfold evIf
  rw [r_then]
  congr 1
  funext b ρ1
  cases b <;> rfl
@[simp] theorem r_andV : evAndV fa fb ρ = bE (evT fa ρ) fun b ρ1 => if b = true then fb ρ1 else some (.ok (.val (.bl false)) ρ1) := by
  unfold evAndV
  rw [r_then]
  congr 1
  funext b ρ1
  cases b <;> rfl
@[simp] theorem r_orV : evOrV fa fb ρ = bE (evT fa ρ) fun b ρ1 => if b = true then some (.ok (.val (.bl true)) ρ1) else fb ρ1 := by
  unfold evOrV
  rw [r_then]
  congr 1
  funext b ρ1
  cases b <;> rfl
@[simp] theorem r_fz : evFz fs ρ = bE (fs ρ) fun avs ρ1 => bO (conts ρ1 avs) fun ds => some (.ok (ds.map frz) (frzS (plS avs) ρ1)) := by
  unfold evFz
  rw [r_then]
  congr 1
  funext avs ρ1
  unfold consK bO
  cases conts ρ1 avs <;> rfl
@[simp] theorem r_opF : evOpF g fd ρ = bE (fd ρ) fun ds ρ1 => bO (g ds) fun d => some (.ok (.val d) ρ1) := by
  unfold evOpF
  rw [r_then]
  congr 1
  funext ds ρ1
  unfold bO
  cases g ds <;> rfl
@[simp] theorem plS_0 : plS [] = [] := rfl
@[simp] theorem plS_v : plS (.val d :: as) = plS as := rfl
@[simp] theorem plS_p : plS (.pl i p :: as) = i :: plS as := rfl
@[simp] theorem frzS_0 : frzS [] ρ = ρ := rfl
@[simp] theorem frzS_1 {S : List Nat} : frzS (i :: S) ρ = frzS S (frzAt ρ i) := rfl
def ixR (a : AV) (x y : D) (ρ : DEnv) : Option (Out AV) := match gIx [x, y] with
  | some d => some (.ok (.val d) ρ)
  | none => match a, x, y with
    | .pl i p, .ol ds, .int k => match ixN ds.length k with
      | some j => if j < ds.length then some (.ok (.pl i (p ++ [.ix j])) ρ) else none
      | none => none
    | _, _, _ => none
@[simp] theorem r_ixK {b : AV} : ixK [a, b] ρ = bO (cont ρ a) fun x => bO (cont ρ b) fun y => ixR a x y ρ := by
  unfold ixK bO
  dsimp only
  cases cont ρ a with
  | none => rfl
  | some x => cases cont ρ b <;> rfl
@[simp] theorem r_ix : evIx fa fb ρ = bE (evCons fa (evCons fb evNil) ρ) ixK := by unfold evIx; rw [r_then]
@[simp] theorem r_chk {chk : D → Bool} : evChk chk f ρ = bE (f ρ) fun a ρ1 => bO (cont ρ1 a) fun d => if chk d = true then some (.ok a ρ1) else none := by
  unfold evChk
  rw [r_then]
  congr 1
  funext a ρ1
  unfold bO
  cases cont ρ1 a <;> rfl
@[simp] theorem r_mut : evMut gm fs ρ = bE (fs ρ) (mutK gm []) := by unfold evMut; rw [r_then]
@[simp] theorem r_mutK {ex : List D} : mutK gm ex (.pl i p :: as) ρ = bO (conts ρ as) fun ds => bO (slotOf (frzS (plS as) ρ) i) fun d0 => bO (getP d0 p) fun d => bO (gm d (ds.map frz ++ ex)) fun dr => if dr.2.sh = true then bO (putP d0 p dr.1) fun e => some (.ok (.val dr.2) ((frzS (plS as) ρ).set i (some e))) else none := by
  unfold mutK bO
  dsimp only
  cases conts ρ as with
  | none => rfl
  | some ds => cases slotOf (frzS (plS as) ρ) i with
    | none => rfl
    | some d0 => dsimp only; cases getP d0 p with
      | none => rfl
      | some d => dsimp only; cases gm d (ds.map frz ++ ex) with
        | none => rfl
        | some dr => obtain ⟨d1, r1⟩ := dr; dsimp only; cases putP d0 p d1 <;> rfl
def callR (l : List (D × Option Nat)) (ρ : DEnv) (x : Option FOut) : Option (Out AV) := match x with
  | some (.ok d outs) => if outs.length = l.length then some (.ok (.val d) (setOut l outs ρ)) else none
  | some (.exc e outs) => if outs.length = l.length then some (.exc e (setOut l outs ρ)) else none
  | none => none
@[simp] theorem callR_none {l : List (D × Option Nat)} : callR l ρ none = none := rfl
@[simp] theorem callR_ok {l : List (D × Option Nat)} : callR l ρ (some (.ok d ds)) = if ds.length = l.length then some (.ok (.val d) (setOut l ds ρ)) else none := rfl
@[simp] theorem callR_exc {l : List (D × Option Nat)} : callR l ρ (some (.exc d ds)) = if ds.length = l.length then some (.exc d (setOut l ds ρ)) else none := rfl
@[simp] theorem r_callK : callK ms m as ρ = bO (argD ρ (frzS (nio ms as) ρ) ms as) fun l => if (l.filterMap (·.2)).Nodup then callR l (frzS (nio ms as) ρ) (m (l.map (·.1))) else none := by
  unfold callK bO
  cases argD ρ (frzS (nio ms as) ρ) ms as with
  | none => rfl
  | some l => rfl
@[simp] theorem r_call : evCall ms m fs ρ = bE (fs ρ) (callK ms m) := by unfold evCall; rw [r_then]
@[simp] theorem argD_0 {ρ1 : DEnv} : argD ρ ρ1 [] [] = some [] := rfl
@[simp] theorem argD_t {ρ1 : DEnv} : argD ρ ρ1 (true :: ms) (.pl i [] :: as) = bO (slotOf ρ1 i) fun d => bO (argD ρ ρ1 ms as) fun r => some ((d, some i) :: r) := by
  conv => lhs; unfold argD
  unfold bO
  cases slotOf ρ1 i with
  | none => rfl
  | some d => cases argD ρ ρ1 ms as <;> rfl
@[simp] theorem argD_f {ρ1 : DEnv} : argD ρ ρ1 (false :: ms) (a :: as) = bO (cont ρ a) fun d => bO (argD ρ ρ1 ms as) fun r => some ((frz d, none) :: r) := by
  conv => lhs; unfold argD
  unfold bO
  cases cont ρ a with
  | none => rfl
  | some d => cases argD ρ ρ1 ms as <;> rfl
@[simp] theorem argD_v {ρ1 : DEnv} : argD ρ ρ1 (true :: ms) (.val d :: as) = bO (argD ρ ρ1 ms as) fun r => some ((frz d, none) :: r) := by
  conv => lhs; unfold argD
  unfold bO
  show (match some d, argD ρ ρ1 ms as with
    | some d, some r => some ((frz d, none) :: r)
    | _, _ => none) = _
  cases argD ρ ρ1 ms as <;> rfl
@[simp] theorem nio_0 : nio [] [] = [] := rfl
@[simp] theorem nio_t : nio (true :: ms) (.pl i [] :: as) = nio ms as := rfl
@[simp] theorem nio_f : nio (false :: ms) (a :: as) = plS [a] ++ nio ms as := rfl
@[simp] theorem nio_v : nio (true :: ms) (.val d :: as) = nio ms as := rfl
@[simp] theorem setOut_0 {os : List D} : setOut [] os ρ = ρ := by cases os <;> rfl
@[simp] theorem setOut_s {o : D} {os : List D} {r : List (D × Option Nat)} : setOut ((d, some i) :: r) (o :: os) ρ = setOut r os (ρ.set i (some o)) := rfl
@[simp] theorem setOut_n {o : D} {os : List D} {r : List (D × Option Nat)} : setOut ((d, none) :: r) (o :: os) ρ = setOut r os ρ := rfl
@[simp] theorem r_mv : evMv fs ρ = bE (fs ρ) fun avs ρ1 => bO (mvK avs ρ1) fun p => if p.1.length ≤ 16777216 then some (.ok (.val (.ol p.1)) p.2) else none := by
  unfold evMv
  rw [r_then]
  congr 1
  funext avs ρ1
  unfold bO
  cases mvK avs ρ1 <;> rfl
@[simp] theorem mvK_0 : mvK [] ρ = some ([], ρ) := rfl
@[simp] theorem mvK_v : mvK (.val d :: as) ρ = bO (mvK as ρ) fun p => some (d :: p.1, p.2) := by
  show (mvK as ρ).map _ = _
  unfold bO
  cases mvK as ρ <;> rfl
@[simp] theorem mvK_p : mvK (.pl i [] :: as) ρ = bO (slotOf ρ i) fun d => bO (mvK as (ρ.set i none)) fun p => some (d :: p.1, p.2) := by
  conv => lhs; unfold mvK
  unfold bO
  cases slotOf ρ i with
  | none => rfl
  | some d => dsimp only; cases mvK as (ρ.set i none) <;> rfl
@[simp] theorem r_it {gi : List D → Option (List D)} : evIt gi fs ρ = bE (evFz fs ρ) fun ds ρ1 => bO (gi ds) fun xs => some (.ok xs ρ1) := by
  unfold evIt
  rw [r_then]
  congr 1
  funext ds ρ1
  unfold bO
  cases gi ds <;> rfl
def kwR (n : Nat) (is : List Nat) (m : Mir) (ds : List D) (ρ : DEnv) : Option (Out AV) := if ds.length = n then bO (permD ds is) fun us => callK (us.map fun _ => false) m (us.map .val) ρ else none
@[simp] theorem r_kw : evKw n is m fs ρ = bE (evFz fs ρ) (kwR n is m) := by
  unfold evKw
  rw [r_then]
  congr 1
  funext ds ρ1
  unfold kwR bO
  split
  · cases permD ds is <;> rfl
  · rfl
@[simp] theorem permD_0 {l : List α} : permD l [] = some [] := rfl
@[simp] theorem permD_1 {l : List α} : permD l (i :: is) = bO l[i]? fun a => bO (permD l is) fun as => some (a :: as) := by
  conv => lhs; unfold permD
  unfold bO
  cases l[i]? with
  | none => rfl
  | some a => cases permD l is <;> rfl
/-! statements -/
@[simp] theorem r_sNil : sNil ρ = some (.nx ρ) := rfl
@[simp] theorem r_brk : sBrk ρ = some (.brk ρ) := rfl
@[simp] theorem r_cnt : sCnt ρ = some (.cnt ρ) := rfl
@[simp] theorem r_seq : sSeq s s2 ρ = bQ (s ρ) s2 := by
  unfold sSeq bQ
  cases s ρ with
  | none => rfl
  | some o => cases o <;> rfl
@[simp] theorem r_S {f : Ev α} {k : α → Sv} : evS f k ρ = bS (f ρ) k := by
  unfold evS bS
  cases f ρ with
  | none => rfl
  | some o => cases o <;> rfl
@[simp] theorem r_asg : sAsg I is fs ρ = bS (fs ρ) fun avs ρ1 => bO (takeL ρ1 avs) fun ds => bO (setN I is ds (frzS (plS avs) ρ1)) fun ρ2 => some (.nx ρ2) := by
  unfold sAsg
  rw [r_S]
  congr 1
  funext avs ρ1
  unfold bO
  cases takeL ρ1 avs with
  | none => rfl
  | some ds => dsimp only; cases setN I is ds (frzS (plS avs) ρ1) <;> rfl
@[simp] theorem takeL_0 : takeL ρ [] = some [] := rfl
@[simp] theorem takeL_v : takeL ρ (.val d :: as) = bO (takeL ρ as) fun ds => some (d :: ds) := by
  show (takeL ρ as).map _ = _
  unfold bO
  cases takeL ρ as <;> rfl
@[simp] theorem takeL_p : takeL ρ (.pl i p :: as) = bO (cont ρ (.pl i p)) fun d => bO (takeL ρ as) fun ds => some (frz d :: ds) := by
  conv => lhs; unfold takeL
  unfold bO
  cases cont ρ (.pl i p) with
  | none => rfl
  | some d => cases takeL ρ as <;> rfl
@[simp] theorem setN_0 : setN I [] [] ρ = some ρ := rfl
@[simp] theorem setN_1 : setN I (i :: is) (d :: ds) ρ = if i ∈ I ∨ ¬ i < ρ.length then none else setN I is ds (ρ.set i (some d)) := rfl
@[simp] theorem r_if : sIf c s s2 ρ = bS (c ρ) fun b ρ1 => if b = true then s ρ1 else s2 ρ1 := by
  unfold sIf
  rw [r_S]
  congr 1
  funext b ρ1
  cases b <;> rfl
@[simp] theorem r_expr : sExpr f ρ = bS (f ρ) fun _ ρ1 => some (.nx ρ1) := by unfold sExpr; rw [r_S]
def retR (I : List Nat) (a : AV) (ρ : DEnv) : Option SOut := match a with
  | .val d => some (.ret d ρ)
  | .pl i [] => if i ∈ I then none else bO (slotOf ρ i) fun d => some (.ret d (ρ.set i none))
  | .pl _ _ => none
@[simp] theorem retR_v : retR I (.val d) ρ = some (.ret d ρ) := rfl
@[simp] theorem retR_p : retR I (.pl i []) ρ = if i ∈ I then none else bO (slotOf ρ i) fun d => some (.ret d (ρ.set i none)) := rfl
@[simp] theorem r_retO : sRetO I f ρ = bS (f ρ) (retR I) := by
  unfold sRetO
  rw [r_S]
  congr 1
  funext a ρ1
  unfold retR bO
  cases a with
  | val d => rfl
  | pl i p => cases p with
    | nil => dsimp only; split; rfl; cases slotOf ρ1 i <;> rfl
    | cons => rfl
@[simp] theorem r_ret : sRet f ρ = bS (f ρ) fun a ρ1 => bO (cont ρ1 a) fun d => some (.ret (frz d) (frzS (plS [a]) ρ1)) := by
  unfold sRet
  rw [r_S]
  congr 1
  funext a ρ1
  unfold bO
  cases cont ρ1 a <;> rfl
@[simp] theorem r_tgt : sTgt t f ρ = bS (f ρ) fun a ρ1 => bO (cont ρ1 a) fun d => bO (t (frz d) (frzS (plS [a]) ρ1)) fun ρ2 => some (.nx ρ2) := by
  unfold sTgt
  rw [r_S]
  congr 1
  funext a ρ1
  unfold bO
  cases cont ρ1 a with
  | none => rfl
  | some d => dsimp only; cases t (frz d) (frzS (plS [a]) ρ1) <;> rfl
@[simp] theorem r_tgN : tgN I i d ρ = if i ∈ I ∨ ¬ i < ρ.length then none else some (ρ.set i (some d)) := rfl
@[simp] theorem r_tup : DL.tgTup n u (.tup ds) ρ = if ds.length = n then u ds ρ else none := rfl
@[simp] theorem r_tgl : DL.tgLst n u (.lst ds) ρ = if ds.length = n then u ds ρ else none := rfl
@[simp] theorem r_tgc : tgCons t u (d :: ds) ρ = bO (t d ρ) (u ds) := by
  unfold tgCons bO
  dsimp only
  cases t d ρ <;> rfl
@[simp] theorem r_tgn : tgNil [] ρ = some ρ := rfl
def envR (x : Option (Out AV)) : Option DEnv := match x with
  | some (.ok _ ρ) => some ρ
  | _ => none
@[simp] theorem envR_ok : envR (some (.ok a ρ)) = some ρ := rfl
@[simp] theorem r_tgs : tgSub gm fs d ρ = envR (bE (fs ρ) (mutK gm [d])) := by
  unfold tgSub envR bE
  cases fs ρ with
  | none => rfl
  | some o => cases o with
    | exc e ρ1 => rfl
    | ok avs ρ1 => first | (dsimp only; done) | (dsimp only; rcases mutK gm [d] avs ρ1 with _ | ⟨_ | _⟩ <;> rfl)
@[simp] theorem r_for {fi : Ev (List D)} : sFor fi t s ρ = bS (fi ρ) fun ds ρ1 => forE t s ds ρ1 := by unfold sFor; rw [r_S]
theorem forE_0 : forE t s [] ρ = some (.nx ρ) := rfl
theorem forE_1 : forE t s (d :: ds) ρ = bO (t d ρ) fun ρ1 => bF (s ρ1) (forE t s ds) := by
  conv => lhs; unfold forE
  unfold bO bF
  cases t d ρ with
  | none => rfl
  | some ρ1 => first | (dsimp only; done) | (dsimp only; rcases s ρ1 with _ | ⟨_ | _ | _ | _ | _⟩ <;> rfl)
def catR (ch : Nat → Option Bool) (i : Nat) (fs : Sv) (x : Option SOut) : Option SOut := match x with
  | some (.exc (.exc c d) ρ1) => match ch c with
    | some true => if i < ρ1.length then match fs (ρ1.set i (some (.exc c d))) with
      | some (.nx ρ2) => some (.nx (ρ2.set i none))
      | some (.brk ρ2) => some (.brk (ρ2.set i none))
      | some (.cnt ρ2) => some (.cnt (ρ2.set i none))
      | some (.ret d ρ2) => some (.ret d (ρ2.set i none))
      | _ => none
      else none
    | some false => some (.exc (.exc c d) ρ1)
    | none => none
  | some (.exc _ _) => none
  | o => o
@[simp] theorem r_cat {ch : Nat → Option Bool} : sCat ch i s s2 ρ = catR ch i s2 (s ρ) := rfl
@[simp] theorem catR_nx {ch : Nat → Option Bool} : catR ch i s (some (.nx ρ)) = some (.nx ρ) := rfl
@[simp] theorem catR_ret {ch : Nat → Option Bool} : catR ch i s (some (.ret d ρ)) = some (.ret d ρ) := rfl
def leaveR (i : Nat) (x : Option SOut) : Option SOut := match x with
  | some (.nx ρ2) => some (.nx (ρ2.set i none))
  | some (.brk ρ2) => some (.brk (ρ2.set i none))
  | some (.cnt ρ2) => some (.cnt (ρ2.set i none))
  | some (.ret d ρ2) => some (.ret d (ρ2.set i none))
  | _ => none
@[simp] theorem leaveR_nx : leaveR i (some (.nx ρ)) = some (.nx (ρ.set i none)) := rfl
@[simp] theorem leaveR_ret : leaveR i (some (.ret d ρ)) = some (.ret d (ρ.set i none)) := rfl
@[simp] theorem catR_exc {ch : Nat → Option Bool} {k : Nat} : catR ch i s (some (.exc (.exc k d) ρ)) = bO (ch k) fun b => if b = true then (if i < ρ.length then leaveR i (s (ρ.set i (some (.exc k d)))) else none) else some (.exc (.exc k d) ρ) := by
  unfold catR bO
  dsimp only
  cases ch k with
  | none => rfl
  | some b => cases b <;> rfl
def raiR (c : Nat) (ds : List D) (ρ : DEnv) : Option SOut := match ds with
  | [d] => some (.exc (.exc c d) ρ)
  | _ => none
@[simp] theorem raiR_1 : raiR i [d] ρ = some (.exc (.exc i d) ρ) := rfl
@[simp] theorem r_raise : sRaise i fd ρ = bS (fd ρ) (raiR i) := by unfold sRaise; rw [r_S]; rfl
def fnR (I : List Nat) (ds : List D) (n : Nat) (x : Option SOut) : Option FOut := match x with
  | some (.nx ρ') => (outsD I ds ρ' n).map fun os => .ok .non os
  | some (.ret d ρ') => (outsD I ds ρ' n).map fun os => .ok d os
  | some (.exc e ρ') => (outsD I ds ρ' n).map fun os => .exc e os
  | _ => none
@[simp] theorem fnR_nx : fnR I ds n (some (.nx ρ)) = (outsD I ds ρ n).map fun os => .ok .non os := rfl
@[simp] theorem fnR_ret : fnR I ds n (some (.ret d ρ)) = (outsD I ds ρ n).map fun os => .ok d os := rfl
@[simp] theorem fnR_exc : fnR I ds n (some (.exc d ρ)) = (outsD I ds ρ n).map fun os => .exc d os := rfl
theorem r_fn {N : Nat} : fnD N n I s ds = if ds.length = n ∧ parOk I ds = true then fnR I ds n (s (ds.map some ++ List.replicate (N - n) none)) else none := by
  unfold fnD fnR
  split
  · cases s (ds.map some ++ List.replicate (N - n) none) with
    | none => rfl
    | some o => cases o <;> rfl
  · rfl
end
end DL

namespace DL
open PySem PySem.Spec PyProof.Rows L2

/-! ### equality, run -/
@[simp] theorem eqD_ii {i j : Int} : eqD (.int i) (.int j) = some (decide (i = j)) := rfl
@[simp] theorem eqD_bb {i j : Bool} : eqD (.bl i) (.bl j) = some (decide (i = j)) := rfl
@[simp] theorem eqD_ss {i j : Str} : eqD (.str i) (.str j) = some (decide (i = j)) := rfl
@[simp] theorem eqD_nn : eqD .non .non = some true := rfl
theorem pydL_ints : ∀ ns : List Int, pydL (ns.map .int) = some (ns.map PyData.int)
  | [] => rfl
  | n :: ns => by
    show (match pyd (.int n), pydL (ns.map .int) with | some y, some ys => some (y :: ys) | _, _ => none) = _
    rw [pydL_ints ns]
    rfl
theorem canAll_ints : ∀ ns : List Int, PyData.canLayAll0 (ns.map PyData.int) = true
  | [] => rfl
  | n :: ns => by
    show (PyData.canLay0 (.int n) && PyData.canLayAll0 (ns.map .int)) = true
    rw [canAll_ints ns]
    rfl
theorem depth_ints : ∀ ns : List Int, PyData.depthAll (ns.map PyData.int) = 0
  | [] => rfl
  | n :: ns => by
    show max (PyData.depth (.int n)) (PyData.depthAll (ns.map .int)) = 0
    rw [depth_ints ns]
    rfl
theorem shaped_ints (ns : List Int) : SeqAt.shaped (.list (ns.map PyData.int)) = true := by
  show (PyData.canLayAll0 (ns.map PyData.int) && decide (PyData.depthAll (ns.map PyData.int) + 1 ≤ 64)) = true
  rw [canAll_ints, depth_ints]
  rfl
theorem shapedT_ints (ns : List Int) : SeqAt.shaped (.tuple (ns.map PyData.int)) = true := shaped_ints ns
theorem eqv_ints : ∀ ns ms : List Int, PyData.eqvAll (ns.map PyData.int) (ms.map PyData.int) = decide (ns = ms)
  | [], [] => rfl
  | [], m :: ms => rfl
  | n :: ns, [] => rfl
  | n :: ns, m :: ms => by
    show (PyData.eqv (.int n) (.int m) && PyData.eqvAll (ns.map .int) (ms.map .int)) = _
    rw [eqv_ints ns ms]
    show ((n == m) && decide (ns = ms)) = _
    by_cases h : n = m <;> by_cases h2 : ns = ms <;> simp [h, h2]
/-- two lists of integers -/
theorem eqD_lists {x y : D} {ns ms : List Int} (hx : pyd x = some (.list (ns.map PyData.int))) (hy : pyd y = some (.list (ms.map PyData.int))) (hs : eqS x y = none) : eqD x y = some (decide (ns = ms)) := by
  unfold eqD
  rw [hs, hx, hy]
  dsimp only
  rw [if_pos ⟨shaped_ints ns, shaped_ints ms⟩]
  show some (PyData.eqvAll _ _) = _
  rw [eqv_ints]
theorem pyd_ol (ns : List Int) : pyd (.ol (ns.map .int)) = some (.list (ns.map PyData.int)) := by
  show (match pydL (ns.map .int) with | some ys => some (PyData.list ys) | none => none) = _
  rw [pydL_ints]
@[simp] theorem eqD_ol {ns ms : List Int} : eqD (.ol (ns.map .int)) (.ol (ms.map .int)) = some (decide (ns = ms)) := eqD_lists (pyd_ol ns) (pyd_ol ms) rfl
@[simp] theorem eqD_ol0 {ns : List Int} : eqD (.ol (ns.map .int)) (.ol []) = some (decide (ns = [])) := eqD_ol (ms := [])
/-- the last one -/
theorem pop_ints {ns : List Int} {n : Int} : gmPop (.ol ((ns ++ [n]).map .int)) [] = some (.ol (ns.map .int), .int n) := by
  unfold gmPop
  dsimp only
  rw [List.map_append, List.map_cons, List.map_nil, List.getLast?_concat, List.dropLast_concat]
  rfl
@[simp] theorem eqD_ol00 : eqD (.ol []) (.ol []) = some true := eqD_ol (ns := []) (ms := [])
@[simp] theorem eqD_olc {ns : List Int} {n : Int} : eqD (.ol (ns.map .int ++ [.int n])) (.ol []) = some false := by
  have := eqD_ol0 (ns := ns ++ [n])
  simpa using this
@[simp] theorem pop_c {ns : List Int} {n : Int} : gmPop (.ol (ns.map .int ++ [.int n])) [] = some (.ol (ns.map .int), .int n) := by
  have := pop_ints (ns := ns) (n := n)
  simpa using this

/-! ### isinstance, run -/
@[simp] theorem isi_t {tab : Tab} {x c : D} {cs : List D} : gIsi tab [x, .tup (c :: cs)] = bO (tyD x) fun t => (anyT tab t (c :: cs)).map .bl := by
  unfold gIsi bO
  dsimp only
  cases tyD x <;> rfl
@[simp] theorem isi_y {tab : Tab} {x : D} {n : String} : gIsi tab [x, .ty n] = bO (tyD x) fun t => (tab t (.ty n)).map .bl := by
  unfold gIsi bO
  dsimp only
  cases tyD x <;> rfl
@[simp] theorem isi_c {tab : Tab} {x : D} {n : Nat} : gIsi tab [x, .cls n] = bO (tyD x) fun t => (tab t (.cls n)).map .bl := by
  unfold gIsi bO
  dsimp only
  cases tyD x <;> rfl
@[simp] theorem anyT_0 {tab : Tab} {t : String ⊕ Nat} : anyT tab t [] = some false := rfl
@[simp] theorem anyT_1 {tab : Tab} {t : String ⊕ Nat} {c : D} {cs : List D} : anyT tab t (c :: cs) = bO (tab t c) fun b => bO (anyT tab t cs) fun b2 => some (b || b2) := by
  conv => lhs; unfold anyT
  unfold bO
  cases tab t c with
  | none => rfl
  | some b => cases b <;> cases anyT tab t cs <;> rfl
@[simp] theorem tabX_tt {exs : List Nat} {n m : String} : tabX exs (.inl n) (.ty m) = kitB n m := rfl
@[simp] theorem tabX_tc {exs : List Nat} {n : String} {k : Nat} : tabX exs (.inl n) (.cls k) = if k ∈ exs ∧ n ∈ xNts then some false else none := rfl
@[simp] theorem tabX_ct {exs : List Nat} {c : Nat} {m : String} : tabX exs (.inr c) (.ty m) = if c ∈ exs ∧ m ∈ xTys then some (decide (m = "ValueError")) else none := rfl
@[simp] theorem tabX_cc {exs : List Nat} {c k : Nat} : tabX exs (.inr c) (.cls k) = if c ∈ exs ∧ k ∈ exs then some (isX k c) else none := rfl
@[simp] theorem tyD_int {i : Int} : tyD (.int i) = some (.inl "int") := rfl
@[simp] theorem tyD_non : tyD .non = some (.inl "NoneType") := rfl
@[simp] theorem tyD_bl {i : Bool} : tyD (.bl i) = some (.inl "bool") := rfl
@[simp] theorem tyD_str {i : Str} : tyD (.str i) = some (.inl "str") := rfl
@[simp] theorem tyD_tup {i : List D} : tyD (.tup i) = some (.inl "tuple") := rfl
@[simp] theorem tyD_lst {i : List D} : tyD (.lst i) = some (.inl "list") := rfl
@[simp] theorem tyD_frl {i : List D} : tyD (.frl i) = some (.inl "list") := rfl
@[simp] theorem tyD_ol {i : List D} : tyD (.ol i) = some (.inl "list") := rfl
@[simp] theorem tyD_dct {i : List (Key × D)} : tyD (.dct i) = some (.inl "dict") := rfl
@[simp] theorem tyD_od {i : List (Key × D)} : tyD (.od i) = some (.inl "dict") := rfl
@[simp] theorem tyD_exc {c : Nat} {d : D} : tyD (.exc c d) = some (.inr c) := rfl
@[simp] theorem kB_NoneType_int : kitB "NoneType" "int" = some false := by decide +kernel
@[simp] theorem kB_NoneType_bool : kitB "NoneType" "bool" = some false := by decide +kernel
@[simp] theorem kB_NoneType_str : kitB "NoneType" "str" = some false := by decide +kernel
@[simp] theorem kB_NoneType_list : kitB "NoneType" "list" = some false := by decide +kernel
@[simp] theorem kB_NoneType_tuple : kitB "NoneType" "tuple" = some false := by decide +kernel
@[simp] theorem kB_NoneType_dict : kitB "NoneType" "dict" = some false := by decide +kernel
@[simp] theorem kB_bool_int : kitB "bool" "int" = some true := by decide +kernel
@[simp] theorem kB_bool_bool : kitB "bool" "bool" = some true := by decide +kernel
@[simp] theorem kB_bool_str : kitB "bool" "str" = some false := by decide +kernel
@[simp] theorem kB_bool_list : kitB "bool" "list" = some false := by decide +kernel
@[simp] theorem kB_bool_tuple : kitB "bool" "tuple" = some false := by decide +kernel
@[simp] theorem kB_bool_dict : kitB "bool" "dict" = some false := by decide +kernel
@[simp] theorem kB_int_int : kitB "int" "int" = some true := by decide +kernel
@[simp] theorem kB_int_bool : kitB "int" "bool" = some false := by decide +kernel
@[simp] theorem kB_int_str : kitB "int" "str" = some false := by decide +kernel
@[simp] theorem kB_int_list : kitB "int" "list" = some false := by decide +kernel
@[simp] theorem kB_int_tuple : kitB "int" "tuple" = some false := by decide +kernel
@[simp] theorem kB_int_dict : kitB "int" "dict" = some false := by decide +kernel
@[simp] theorem kB_str_int : kitB "str" "int" = some false := by decide +kernel
@[simp] theorem kB_str_bool : kitB "str" "bool" = some false := by decide +kernel
@[simp] theorem kB_str_str : kitB "str" "str" = some true := by decide +kernel
@[simp] theorem kB_str_list : kitB "str" "list" = some false := by decide +kernel
@[simp] theorem kB_str_tuple : kitB "str" "tuple" = some false := by decide +kernel
@[simp] theorem kB_str_dict : kitB "str" "dict" = some false := by decide +kernel
@[simp] theorem kB_tuple_int : kitB "tuple" "int" = some false := by decide +kernel
@[simp] theorem kB_tuple_bool : kitB "tuple" "bool" = some false := by decide +kernel
@[simp] theorem kB_tuple_str : kitB "tuple" "str" = some false := by decide +kernel
@[simp] theorem kB_tuple_list : kitB "tuple" "list" = some false := by decide +kernel
@[simp] theorem kB_tuple_tuple : kitB "tuple" "tuple" = some true := by decide +kernel
@[simp] theorem kB_tuple_dict : kitB "tuple" "dict" = some false := by decide +kernel
@[simp] theorem kB_list_int : kitB "list" "int" = some false := by decide +kernel
@[simp] theorem kB_list_bool : kitB "list" "bool" = some false := by decide +kernel
@[simp] theorem kB_list_str : kitB "list" "str" = some false := by decide +kernel
@[simp] theorem kB_list_list : kitB "list" "list" = some true := by decide +kernel
@[simp] theorem kB_list_tuple : kitB "list" "tuple" = some false := by decide +kernel
@[simp] theorem kB_list_dict : kitB "list" "dict" = some false := by decide +kernel
@[simp] theorem kB_dict_int : kitB "dict" "int" = some false := by decide +kernel
@[simp] theorem kB_dict_bool : kitB "dict" "bool" = some false := by decide +kernel
@[simp] theorem kB_dict_str : kitB "dict" "str" = some false := by decide +kernel
@[simp] theorem kB_dict_list : kitB "dict" "list" = some false := by decide +kernel
@[simp] theorem kB_dict_tuple : kitB "dict" "tuple" = some false := by decide +kernel
@[simp] theorem kB_dict_dict : kitB "dict" "dict" = some true := by decide +kernel
/-! ### numbers, run -/
theorem abs_nat (i : Int) : (if i < 0 then -i else i) = (i.natAbs : Int) := by
  split <;> omega
theorem fmod_nat (x y : Nat) : ((x : Int)).fmod (y : Int) = ((x % y : Nat) : Int) := by
  rw [Int.fmod_eq_emod_of_nonneg _ (by omega)]
  simp
theorem fmod_nat2 (x y : Nat) : ((x : Int)).fmod (y : Int) = (x : Int) % (y : Int) := Int.fmod_eq_emod_of_nonneg _ (by omega)
theorem whF_1 {c : Ev Bool} {b : Sv} {n : Nat} {ρ : DEnv} : whF c b (n + 1) ρ = bS (c ρ) fun t ρ1 => if t = true then bF (b ρ1) (whF c b n) else some (.nx ρ1) := by
  conv => lhs; unfold whF
  unfold bS bF
  cases c ρ with
  | none => rfl
  | some o => cases o with
    | exc e ρ1 => rfl
    | ok t ρ1 => cases t with
      | false => rfl
      | true => first | (dsimp only; rw [if_pos rfl]; done) | (dsimp only; rw [if_pos rfl]; rcases b ρ1 with _ | ⟨_ | _ | _ | _ | _⟩ <;> rfl)
/-- the sign of the lower one, and the greatest common divisor -/
def sgc (a b : Int) : Int := if b < 0 then -((Nat.gcd a.natAbs b.natAbs : Nat) : Int) else ((Nat.gcd a.natAbs b.natAbs : Nat) : Int)
theorem gcd_small {a b : Int} (hb : b ≠ 0) {k : Nat} (h : b.natAbs < 2 ^ (k + 1)) : lg ((Nat.gcd a.natAbs b.natAbs : Nat) : Int) ≤ k ∧ lg (-((Nat.gcd a.natAbs b.natAbs : Nat) : Int)) ≤ k ∧ Nat.gcd a.natAbs b.natAbs ≠ 0 := by
  have h0 : 0 < b.natAbs := by omega
  have h1 : Nat.gcd a.natAbs b.natAbs ≤ b.natAbs := Nat.le_of_dvd h0 (Nat.gcd_dvd_right _ _)
  refine ⟨lg_le ?_, lg_le ?_, ?_⟩
  · omega
  · omega
  · intro h
    have := (Nat.gcd_eq_zero_iff.mp h).2
    omega
end DL

namespace DL
open PySem PySem.Spec PyProof.Rows L2

/-! ### slices -/
def cutL {α : Type} (xs : List α) (lo hi : Option Int) : List α := (xs.drop (HT.sIx xs.length 0 lo)).take (HT.sIx xs.length xs.length hi - HT.sIx xs.length 0 lo)
theorem cutL_get {α β : Type} {xs : List α} {ys : List β} (l : xs.length = ys.length) {lo hi : Option Int} {i : Nat} {x : α} {y : β} (h1 : (cutL xs lo hi)[i]? = some x) (h2 : (cutL ys lo hi)[i]? = some y) : ∃ j : Nat, xs[j]? = some x ∧ ys[j]? = some y := by
  unfold cutL at h1 h2
  rw [← l] at h2
  rw [List.getElem?_take] at h1 h2
  by_cases hi : i < HT.sIx xs.length xs.length hi - HT.sIx xs.length 0 lo
  · rw [if_pos hi, List.getElem?_drop] at h1 h2
    exact ⟨_, h1, h2⟩
  · rw [if_neg hi] at h1
    cases h1
theorem cutL_len {α β : Type} {xs : List α} {ys : List β} (l : xs.length = ys.length) (lo hi : Option Int) : (cutL xs lo hi).length = (cutL ys lo hi).length := by
  unfold cutL
  simp [l]
def cutD : D → Option Int → Option Int → Option D
  | .str z, lo, hi => if z.length ≤ 16777216 then some (.str (cutS z lo hi)) else none
  | .tup ds, lo, hi => if HT.sIx ds.length 0 lo = 0 ∧ HT.sIx ds.length ds.length hi = ds.length then none else some (.tup (cutL ds lo hi))
  | .frl ds, lo, hi => if allSh ds = true then some (.ol (cutL ds lo hi)) else none
  | d, lo, hi => match lstD d with
    | some ds => if allSh ds = true then some (.ol (cutL ds lo hi)) else none
    | none => none
def optI : Bool → List D → Option (Option Int × List D)
  | false, ds => some (none, ds)
  | true, .int i :: ds => some (some i, ds)
  | true, _ => none
def gSl (a b : Bool) : List D → Option D
  | x :: r => match optI a r with
    | some (lo, r1) => match optI b r1 with
      | some (hi, []) => cutD x lo hi
      | _ => none
    | none => none
  | [] => none
def rCut (K : PySem.W.Frag) : V → Option Int → Option Int → Hp → VK → Prop := fun x lo hi H Q => rSlS x lo hi H Q ∨ (rSlL K x lo hi H Q ∨ rSlT K x lo hi H Q)
theorem sl_cut {X : Cx} : SlR X (rCut X.K) := sl_str.or (sl_list.or sl_tup)
section
variable {ca : Nat → Addr} {X : Cx} {G H : Hp} {Q : VK} {v : V} {d d' : D} {T : FP} {lo hi : Option Int}
theorem cut_own {a : Addr} {vs : List V} {ds : List D} (sub : ∀ b o, G b = some o → H b = some o) (hq : SqL X.K H a vs) (l : vs.length = ds.length) (c : ∀ (i : Nat) v d, vs[i]? = some v → ds[i]? = some d → ∃ U, Rep ⟨X.K, ca⟩ G H v d U) (hs : allSh ds = true)
    (q : ∀ v G' H' T, (∀ b o, G' b = some o → H' b = some o) → Rep ⟨X.K, ca⟩ G' H' v (.ol (cutL ds lo hi)) T → Ext G H nof G' H' T → Q v H') : rSlL X.K (.ref a) lo hi H Q := by
  refine ⟨a, vs, rfl, hq, fun p hp => q _ G _ _ (sub_own hp sub) (rep_ol (no_g sub hp) upd_same (cutL_len l lo hi) fun i v d e1 e2 => ?_) (ext_own hp)⟩
  obtain ⟨j, h1, h2⟩ := cutL_get l e1 e2
  obtain ⟨U, r⟩ := c j v d h1 h2
  exact (rep_sh r (allSh_get hs h2)).up
theorem cut_end (sub : ∀ b o, G b = some o → H b = some o) (r : Rep ⟨X.K, ca⟩ G H v d T) (e : cutD d lo hi = some d') (q : ∀ v G' H' T, (∀ b o, G' b = some o → H' b = some o) → Rep ⟨X.K, ca⟩ G' H' v d' T → Ext G H nof G' H' T → Q v H') : rCut X.K v lo hi H Q := by
  have own : ∀ {ds : List D}, lstD d = some ds → (if allSh ds = true then some (D.ol (cutL ds lo hi)) else none) = some d' → rCut X.K v lo hi H Q := fun {ds} h1 e => by
    split at e
    · rename_i hs
      cases e
      cases r with
      | lst h l c => cases h1; exact .inr (.inl (cut_own sub (.of (sub _ _ h)) l (fun i v d e1 e2 => ⟨_, c i v d e1 e2⟩) hs q))
      | ol h g l c bd dj na => cases h1; exact .inr (.inl (cut_own sub (.of h) l (fun i v d e1 e2 => ⟨_, c i v d e1 e2⟩) hs q))
      | _ => cases h1
    · cases e
  cases r with
  | str z =>
    unfold cutD at e
    dsimp only at e
    split at e
    · rename_i hz
      cases e
      exact .inl ⟨z, rfl, by rw [sizeLine_eq]; exact hz, rDL_end q sub (.str _)⟩
    · cases e
  | tup h l c =>
    unfold cutD at e
    dsimp only at e
    split at e
    · cases e
    · rename_i hw
      cases e
      refine .inr (.inr ⟨_, _, rfl, sqT_mono h sub, by rw [l]; exact hw, fun p hp => q _ _ _ nof (sub_new hp sub) (.tup (.inl (.inl upd_same)) (cutL_len l lo hi) fun i v d e1 e2 => ?_) (ext_new hp sub)⟩)
      obtain ⟨j, h1, h2⟩ := cutL_get l e1 e2
      exact (c j v d h1 h2).keep (ext_new hp sub).gg fun _ h => h.elim
  | frl h l c =>
    unfold cutD at e
    dsimp only at e
    split at e
    · rename_i hs
      cases e
      exact .inr (.inl (cut_own sub (sqL_mono h sub) l (fun i v d e1 e2 => ⟨_, c i v d e1 e2⟩) hs q))
    · cases e
  | lst h l c => exact own rfl e
  | ol h g l c bd dj na => exact own rfl e
  | _ => simp [cutD, lstD] at e
variable {a b c : Expr} {fa fb fc : Ev AV} {pos p2 : Pos}
theorem de_sl00 (ha : DE ca X a fa) : DE ca X (.Subscript a (.Slice none none none p2) pos) (ev1 (gSl false false) fa) := fun W tk =>
  PE.imp (pe_slice sl_cut (ha W tk) po_none po_none) fun σ H Q h => tD_map (tD_op1 h) fun x H1 ⟨G, ds, d, sub, rs, e, q⟩ => by
    obtain ⟨d1, T1, rfl, r1⟩ := rs.one
    exact cut_end sub r1 e q
theorem de_sl01 (ha : DE ca X a fa) (hb : DE ca X b fb) : DE ca X (.Subscript a (.Slice none (some b) none p2) pos) (ev2 (gSl false true) fa fb) := fun W tk =>
  PE.imp (pe_slice sl_cut (ha W tk) po_none (po_some (hb W tk))) fun σ H Q h => tD_map (tD_op2 h) fun x H1 h1 => tD_map h1 fun y H2 ⟨G, ds, d, sub, rs, e, q⟩ => by
    obtain ⟨d1, T1, d2, T2, rfl, r1, r2⟩ := rs.two
    cases r2 with
    | int i => exact ⟨i, rfl, cut_end sub r1 e q⟩
    | _ => simp [gSl, optI] at e
theorem de_sl10 (ha : DE ca X a fa) (hb : DE ca X b fb) : DE ca X (.Subscript a (.Slice (some b) none none p2) pos) (ev2 (gSl true false) fa fb) := fun W tk =>
  PE.imp (pe_slice sl_cut (ha W tk) (po_some (hb W tk)) po_none) fun σ H Q h => tD_map (tD_op2 h) fun x H1 h1 => tD_map h1 fun y H2 ⟨G, ds, d, sub, rs, e, q⟩ => by
    obtain ⟨d1, T1, d2, T2, rfl, r1, r2⟩ := rs.two
    cases r2 with
    | int i => exact ⟨i, rfl, cut_end sub r1 e q⟩
    | _ => simp [gSl, optI] at e
end

/-! ### list(x), tuple(x) -/
def gList : List D → Option D
  | [x] => match seqD x with
    | some ds => if allSh ds = true then some (.ol ds) else none
    | none => none
  | _ => none
def gTupF : List D → Option D
  | [.tup ds] => some (.tup ds)
  | [.frl ds] => if allSh ds = true then some (.tup ds) else none
  | [x] => match lstD x with
    | some ds => if allSh ds = true then some (.tup ds) else none
    | none => none
  | _ => none
section
variable {ca : Nat → Addr} {X : Cx}
theorem callD_list : CallD ca X (.type "list") gList := by
  intro pins s σ H xs us Q I rs h
  obtain ⟨G, ds, d, sub, rr, e, q⟩ := h
  unfold gList at e
  split at e
  · split at e
    · rename_i ds' h1
      split at e
      · rename_i hs
        cases e
        obtain ⟨v, T, rfl, r⟩ := reps1 rr
        obtain ⟨a, vs, rfl, hq, l, c⟩ := r.seq sub h1
        refine call_list_of pins s σ H _ us Q I rs ⟨a, vs, rfl, hq, fun p hp => q _ G _ _ (sub_own hp sub) (rep_ol (no_g sub hp) upd_same l fun i v d e1 e2 => ?_) (ext_own hp)⟩
        obtain ⟨U, r'⟩ := c i v d e1 e2
        exact (rep_sh r' (allSh_get hs e2)).up
      · cases e
    · cases e
  · cases e
end

/-! ### run -/
@[simp] theorem sl_r01 {x : D} {i : Int} : gSl false true [x, .int i] = cutD x none (some i) := rfl
@[simp] theorem sl_r10 {x : D} {i : Int} : gSl true false [x, .int i] = cutD x (some i) none := rfl
@[simp] theorem list_t {ds : List D} : gList [.tup ds] = if allSh ds = true then some (.ol ds) else none := rfl
@[simp] theorem list_f {ds : List D} : gList [.frl ds] = if allSh ds = true then some (.ol ds) else none := rfl
@[simp] theorem list_l {ds : List D} : gList [.lst ds] = if allSh ds = true then some (.ol ds) else none := rfl
@[simp] theorem list_o {ds : List D} : gList [.ol ds] = if allSh ds = true then some (.ol ds) else none := rfl
end DL

namespace DL
open PySem PySem.HandSPX PySem.W

/-! ### an own exception class called by keywords -/
section
variable {M : Model} {P : Program} {w : World} {A : Around} {E : Value → Shared → Prop} {R : Result → Shared → Prop} {hp : Heap} {gn : Array GenState} {dw : Drawn} {tk : Nat} {os : OsState}
variable {nm qn : Str} {C Nn : Addr} {bs bm bB : List Value} {hd : Bool} {sn : List Str} {sb : List Value} {ab : Bool} {co : Option Bool} {dd : Option Addr} {k0 k1 k2 k3 k5 : Option Value} {B nI iI : String} {kws : List (Str × Value)}
theorem kw_check (F : ExcBaseFacts B nI iI bB) (tl : ∀ X : String, bm.contains (.type X) = bB.contains (.type X)) {Q : Unit → Shared → Prop}
    (cC : hp.get? C = some (excClassObj nm qn C Nn bs bm hd sn sb ab co dd k0 k1 k2 k3 k5 nI)) (z : Q () ⟨hp, gn, dw, tk, os⟩) : wpAny M A (checkBuiltinCall nI ⟨[.ref C], kws⟩) Q E ⟨hp, gn, dw, tk, os⟩ := by
  have inB : (Value.ref C :: bm).contains (.type B) = true := by rw [List.contains_cons, tl, F.hasB, Bool.or_true]
  have ns := F.noStar
  simp only [checkBuiltinCall, F.newKind, F.newSplit, F.newRow]
  repeat (first | refine wpAny_loadPart_at cC ?_ | (refine wpAny_isSubtype_exc cC ?_; rw [inB]) | refine wpAny_staticBase_exc cC ?_ | refine wpAny_madeBy_exc cC ?_ | simp only [bne_self_eq_false, Bool.false_eq_true, if_false] | wp_step)
  exact z
theorem kw_new (F : ExcBaseFacts B nI iI bB) (tl : ∀ X : String, bm.contains (.type X) = bB.contains (.type X)) (cC : hp.get? C = some (excClassObj nm qn C Nn bs bm hd sn sb ab co dd k0 k1 k2 k3 k5 nI))
    (z : R (.ok (.ret (.ref (hp.objs.size + 1)))) ⟨(hp.push { cls := .type "tuple", data := .seq #[] }).push { cls := .ref C, data := .fields #[.ref hp.objs.size, .none, .none, .none, .bool false, .none] }, gn, dw, tk, os⟩) :
    codeAny (model P w) A (.builtin nI ⟨[.ref C], kws⟩) R ⟨hp, gn, dw, tk, os⟩ := by
  have en := F.ends
  have inB : (Value.ref C :: bm).contains (.type B) = true := by rw [List.contains_cons, tl, F.hasB, Bool.or_true]
  have inA : (Value.ref C :: bm).contains (.type "AttributeError") = false := by rw [List.contains_cons, tl, F.noAttr]; rfl
  have inN : (Value.ref C :: bm).contains (.type "NameError") = false := by rw [List.contains_cons, tl, F.noName]; rfl
  have hr0 : ([] : List Value).length ≤ sizeLine := by decide
  refine codeAny_builtinAt F.entry ?_
  unfold Builtin.«BaseException.__new__»
  refine wpAt_bind ?_
  show wpAt _ _ _ (stack >>= _) _ _ _
  refine wpAt_bind (wpAt_stack fun p1 p2 => wpAt_of_wpAny ?_)
  wp_walk
  refine wpAt_of_wpAny ?_
  rw [F.owner]
  repeat (first | with_reducible refine wpAny_madeHere_exc F.canon cC ?_ | with_reducible refine wpAny_loadPart_at cC ?_ | (with_reducible refine wpAny_isSubtype_exc cC ?_; first | rw [inB] | rw [inA] | rw [inN]) | wp_step)
  show R _ _
  rw [Heap.size_push]
  exact z
theorem kw_type (F : ExcBaseFacts B nI iI bB) (tl : ∀ X : String, bm.contains (.type X) = bB.contains (.type X)) {fI : Addr} {Q : Fin → Shared → Prop}
    (cC : hp.get? C = some (excClassObj nm qn C Nn bs bm hd sn sb ab co dd k0 k1 k2 k3 k5 nI)) (li : W.Looks (model P w) hp (typeLookup (.ref C) "__init__") (some (.ref fI))) (lb : ∀ me, W.Looks (model P w) hp (bindSpecial (.ref fI) me) (.ref fI, [me]))
    (z : codeAny (model P w) A (.call (.ref fI) ⟨[.ref (hp.objs.size + 1)], kws⟩) (fun r t => match r with | .ok (.ret v) => v = .none ∧ Q (.done (.ret (.ref (hp.objs.size + 1)))) t | .ok _ => False | .error e => E e t) ⟨(hp.push (W.kdv_tup [])).push (excO C hp.objs.size), gn, dw, tk, os⟩) :
    wpAny (model P w) A (Builtin.«type.__call__» ⟨[.ref C], kws⟩) Q E ⟨hp, gn, dw, tk, os⟩ := by
  repeat (first | with_reducible refine wpAny_loadPart_at cC ?_ | with_reducible refine wpAny_madeBy_exc cC ?_ | wp_step)
  refine codeAny_call_builtin_code (Code.quiet_builtin _ F.quiet) (kw_check F tl cC (kw_new F tl cC ?_))
  show wpAny _ _ _ _ _ _
  have up : ∀ b o, hp.get? b = some o → ((hp.push (W.kdv_tup [])).push (excO C hp.objs.size)).get? b = some o := fun b o e => Heap.get?_push_of_some _ (Heap.get?_push_of_some _ e)
  have cC2 := up _ _ cC
  have at1 : ((hp.push (W.kdv_tup [])).push (excO C hp.objs.size)).get? (hp.objs.size + 1) = some (excO C hp.objs.size) := by heap_get
  have inC : (Value.ref C :: bm).contains (.ref C) = true := by simp
  have l1 := li.keeps up
  have l2 := (lb (.ref (hp.objs.size + 1))).keeps up
  unfold isInstance
  repeat (first | with_reducible refine wpAny_loadPart_at at1 ?_ | (with_reducible refine wpAny_isSubtype_exc cC2 ?_; rw [inC]) | wp_step)
  show wpAny _ _ (typeLookup (.ref C) _) _ _ _
  refine l1.at ?_
  refine wpAny_holding (wpAny_bind (l2.at ?_))
  refine wpAny_bind (wpAny_call (codeAny_mono z fun r t y => ?_))
  rcases r with e | (v | _ | _ | _) <;> first | exact y | exact y.elim | skip
  obtain ⟨rfl, y⟩ := y
  first
    | exact wpAny_pure (wpAny_pure y)
    | (wp_walk; exact y)
theorem kw_tcheck {Q : Unit → Shared → Prop} (cC : hp.get? C = some (excClassObj nm qn C Nn bs bm hd sn sb ab co dd k0 k1 k2 k3 k5 nI)) (z : Q () ⟨hp, gn, dw, tk, os⟩) : wpAny M A (checkBuiltinCall "type.__call__" ⟨[.ref C], kws⟩) Q E ⟨hp, gn, dw, tk, os⟩ := by
  have f3 := tc_sub
  have ti : (⟨hp, gn, dw, tk, os⟩ : Shared).TypeIs (.ref C) "type" := ⟨_, cC, rfl⟩
  simp only [checkBuiltinCall, tc_kind, tc_split]
  repeat (any_goals (first | assumption | with_reducible refine wpAny_loadPart_at cC ?_ | with_reducible refine wpAny_onRaise ?_ | with_reducible refine wpAny_map ?_ | wp_step))
theorem kw_call (F : ExcBaseFacts B nI iI bB) (tl : ∀ X : String, bm.contains (.type X) = bB.contains (.type X)) {fI : Addr}
    (cC : hp.get? C = some (excClassObj nm qn C Nn bs bm hd sn sb ab co dd k0 k1 k2 k3 k5 nI)) (li : W.Looks (model P w) hp (typeLookup (.ref C) "__init__") (some (.ref fI))) (lb : ∀ me, W.Looks (model P w) hp (bindSpecial (.ref fI) me) (.ref fI, [me]))
    (z : codeAny (model P w) (A.under (.builtin "type.__call__" ⟨[.ref C], kws⟩)) (.call (.ref fI) ⟨[.ref (hp.objs.size + 1)], kws⟩) (W.InitBack (hp.objs.size + 1) R) ⟨(hp.push (W.kdv_tup [])).push (excO C hp.objs.size), gn, dw, tk, os⟩) :
    codeAny (model P w) A (.call (.ref C) ⟨[], kws⟩) R ⟨hp, gn, dw, tk, os⟩ := by
  have g1 := tc_lookup
  have g2 := tc_bind (.ref C)
  have ti : (⟨hp, gn, dw, tk, os⟩ : Shared).TypeIs (.ref C) "type" := ⟨_, cC, rfl⟩
  refine codeAny_of_tree ?_
  show wpAny _ _ (callAny (.ref C) _) _ _ _
  repeat (any_goals (first | assumption | with_reducible refine wpAny_loadPart_at cC ?_ | wp_step))
  refine ⟨rfl, ?_⟩
  refine codeAny_call_builtin_at (Code.quiet_builtin _ (by decide +kernel)) entry_typeCall (kw_tcheck cC (kw_type F tl cC li lb ?_))
  refine codeAny_mono z fun r t y => ?_
  rcases r with e | (v | _ | _ | _) <;> exact y
end
end DL

namespace DL
open PySem PySem.Spec PyProof.Rows L2

def tMkK (C : Addr) (sp : Sp) (ta : TA) : L2.St → Hp → XK → Prop := fun σ H Q => ta σ H fun vs H1 => ∃ v, vs = [v] ∧ ∀ a, H1 a = none → sp [.ref a, v] (upd H1 a (exo a C none))
  (fun v H2 => v = .non ∧ ∃ (d : Addr) (fs : List (Str × V)), H2 a = some (exo a C (some d)) ∧ H2 d = some (exd d fs) ∧ H1 d = none ∧ Q (.ref C) (some d) (upd (del H2 a) d (.xd fs))) (fun _ _ _ => False)
section
variable {X : Cx} {x : Str} {C fI : Addr} {k : Nat} {fd : FuncData} {sp : Sp} {tk : TA} {kws : List Keyword} {p pos : Pos}
theorem pmk_kw (T : OexC X.K C) (iC : PySem.W.findIn X.K (.ref C) "__init__" = some (some (.ref fI))) (tI : PySem.W.typeIn X.K (.ref fI) = some (.type "function")) (F1 : FnOk X.prog X.w X.K X.mg X.base (L2.CX X.prog X.w) k fI fd ["self", "value"] sp) (hr : Room (k + 1) X.A)
    (hb : ∀ (s : Shared) (a : Addr) (u : Value), BindsTo s fd ⟨[.ref a], [(("value" : Str), u)]⟩ [(("self" : Str), .ref a), (("value" : Str), u)]) (hm : X.mg x = some (.ref C)) (hkw : PK X kws tk)
    (hall : (backToKw pos (keywordEach kws X.env)).all (·.1.isSome) = true := by rfl) (hks : (backToKw pos (keywordEach kws X.env)).filterMap (·.1) = [(("value" : Str))] := by rfl) (hg : Gl X x := by rfl)
    (hdb : (x == ("__debug__" : Str)) = false := by decide) (hpl : ((backTo pos (starEach [] X.env)).any (·.1) || (backToKw pos (keywordEach kws X.env)).any (·.1.isNone)) = false := by rfl) :
    PMk X (.Call (.Name x p) [] kws pos) (tMkK C sp tk) := by
  intro pins s σ H Q I h
  obtain ⟨nm, q, N, bs, bm, sn, sub, ab, col, dd, k0, k1, k2, k3, k5, hC, hbm⟩ := T.cls
  refine wpAny_Call_Name_kw (ld_glob I hg hm ?_ hdb)
  refine PySem.W.callWith_KW0 (h₀ := X.base) I.ok.mod.kin T.kC hall (thn (hkw.run pos pins s σ H _ I h) fun ws s1 ⟨zs, H1, I1, r1, v, ev, q1⟩ => ⟨I1.kIn, ?_⟩) hpl
  subst ev
  rw [hks]
  cases r1 with
  | @cons _ u _ us ru rr =>
    cases rr
    show wpAny _ _ (call (.ref C) [] [(("value" : Str), u)]) _ _ _
    obtain ⟨hp, g, dr, tk', os⟩ := s1
    have hsz : hp.objs.size ≤ hp.objs.size + 1 := Nat.le_succ _
    have hn : H1 (hp.objs.size + 1) = none := I1.hok.fresh hsz
    have hq := q1 (hp.objs.size + 1) hn
    have up : ∀ b o, hp.get? b = some o → ((hp.push (PySem.W.kdv_tup [])).push (PySem.HandSPX.excO C hp.objs.size)).get? b = some o := fun b o e => Heap.get?_push_of_some _ (Heap.get?_push_of_some _ e)
    have at1 : ((hp.push (PySem.W.kdv_tup [])).push (PySem.HandSPX.excO C hp.objs.size)).get? (hp.objs.size + 1) = some (PySem.HandSPX.excO C hp.objs.size) := by heap_get
    have I2 : Inv X pins σ (upd H1 (hp.objs.size + 1) (exo (hp.objs.size + 1) C none)) ⟨(hp.push (PySem.W.kdv_tup [])).push (PySem.HandSPX.excO C hp.objs.size), g, dr, tk', os⟩ :=
      I1.laid (t' := tk') (a := hp.objs.size + 1) (o := exo (hp.objs.size + 1) C none) up hsz (exo_ok at1)
    have r2 : Vals [V.ref (hp.objs.size + 1), v] [Value.ref (hp.objs.size + 1), u] := .cons rfl (.cons ru .nil)
    refine wpAny_call (kw_call F.excBase_ValueError (fun Y => PySem.HandSPX.refsVE_contains Y bm hbm) (I1.kIn _ _ hC) (PySem.W.looks_findIn I1.kIn iC) (fun me => PySem.W.bind_fn I1.kIn me tI)
      (codeAny_mono (F1.run _ X.stack _ _ ⟨[Value.ref (hp.objs.size + 1)], [(("value" : Str), u)]⟩ [Value.ref (hp.objs.size + 1), u] _ _ (fun _ _ _ => False) (hr.make C [] [(("value" : Str), u)]) (I2.env0.make C [] [(("value" : Str), u)]) (hb _ _ _) r2 hq) fun r s' hq' => ?_))
    cases r with
    | error er => exact passes0 pins σ _ _ er s' I2 hq'
    | ok fl =>
      cases fl with
      | ret u2 =>
        obtain ⟨v2, H2, os2, bare2, un2, hok2, rv, ev, d, fs, ea, ed, hd1, q2⟩ := hq'
        subst ev
        obtain ⟨h2, g2, d2, t2, os'⟩ := s'
        exact ⟨rv, mk_end (raises_own T.exC T.tyC) I1 hsz up un2 hok2 os2 bare2 ea ed hd1 q2⟩
      | next => exact False.elim hq'
      | brk => exact False.elim hq'
      | cont => exact False.elim hq'
end

section
variable {ca : Nat → Addr} {X : Cx} {I : List Nat} {c k : Nat} {x : Str} {fI : Addr} {fd : FuncData} {p pos pos' tpos : Pos} {kws : List Keyword} {fs : Ev (List AV)} {o i : Expr} {fo fi : Ev AV}
theorem ds_raiseK (hc : X.calm = true) (T : ExK X.K ca fI c) (tI : PySem.W.typeIn X.K (.ref fI) = some (.type "function")) (F1 : FnOk X.prog X.w X.K X.mg X.base (L2.CX X.prog X.w) k fI fd ["self", "value"] (spI X.K)) (hr : Room (k + 1) X.A)
    (hb : ∀ (s : Shared) (a : Addr) (u : Value), BindsTo s fd ⟨[.ref a], [(("value" : Str), u)]⟩ [(("self" : Str), .ref a), (("value" : Str), u)]) (hm : X.mg x = some (.ref (ca c))) (hkw : DK ca X kws fs)
    (hall : (backToKw pos (keywordEach kws X.env)).all (·.1.isSome) = true := by rfl) (hks : (backToKw pos (keywordEach kws X.env)).filterMap (·.1) = [(("value" : Str))] := by rfl) (hg : Gl X x := by rfl)
    (hdb : (x == ("__debug__" : Str)) = false := by decide) (hpl : ((backTo pos (starEach [] X.env)).any (·.1) || (backToKw pos (keywordEach kws X.env)).any (·.1.isNone)) = false := by rfl) :
    DS ca X I (.Raise (some (.Call (.Name x p) [] kws pos)) none pos') (sRaise c (evFz fs)) := fun W tk _ =>
  PS.imp (ps_raise hc tk (pmk_kw T.oex T.ini tI F1 hr hb hm (hkw W tk) hall hks hg hdb hpl)) fun Dn σ H h => by
    refine tDF_of (fs := fs) (W := W) ?_
    obtain ⟨G, ρ, F, o, c0, e0, z⟩ := h
    unfold sRaise evS at e0
    cases hf : evFz fs ρ with
    | none => rw [hf] at e0; cases e0
    | some u =>
      rw [hf] at e0
      refine ⟨G, ρ, F, u, c0, hf, ?_⟩
      cases u with
      | exc er ρ' => cases e0; exact fun G' H' F' cls dx c' xa x' => z σ G' H' F' cls dx .refl c' xa x'
      | ok ds ρ1 =>
        intro vs G1 H1 F1 c1 r x1
        dsimp only at e0
        split at e0
        case h_2 => cases e0
        rename_i d
        cases e0
        obtain ⟨v, rfl, rv⟩ := paired1 r
        refine ⟨v, rfl, fun a na => ⟨a, ca c, v, rfl, T.oex, T.no, upd_same, fun dx hdx hne => ?_⟩⟩
        rw [upd_ne hne] at hdx
        refine ⟨rfl, dx, [("value", v)], upd_same, by rw [upd_ne hne]; exact upd_same, hdx, ?_⟩
        have hH : upd (del (upd (upd (upd H1 a (exo a (ca c) none)) dx (exd dx [(("value" : Str), v)])) a (exo a (ca c) (some dx))) a) dx (.xd [(("value" : Str), v)]) = upd H1 dx (.xd [(("value" : Str), v)]) := by
          funext b
          by_cases h1 : b = dx
          · rw [h1, upd_same, upd_same]
          · rw [upd_ne h1, upd_ne h1]
            by_cases h2 : b = a
            · rw [h2, del_same, na]
            · rw [del_ne h2, upd_ne h2, upd_ne h1, upd_ne h2]
        show W (.ref (ca c)) (some dx) σ _
        rw [hH]
        have x2 := ext_new (G := G1) (o := HO.xd [(("value" : Str), v)]) hdx c1.sub
        exact z σ _ _ F1 _ _ .refl (c1.grow x2 (sub_new hdx c1.sub)) ⟨c, dx, v, d, rfl, rfl, rfl, upd_same, rv.keep x2.gg fun _ h => h.elim⟩ ((x1.more x2).mono (fun _ h => h) fun _ h => .inl h)

theorem rep_int {B : Bd} {G H : Hp} {v : V} {z : Int} {T : FP} (r : Rep B G H v (.int z) T) : v = .int z := by
  cases r
  rfl
/-! ### xs[i] += j -/
def gmAug (f : Int → Int → Int) (j : Int) : D → List D → Option (D × D)
  | .ol ds, [.int k] => match ixN ds.length k with
    | some n => match ds[n]? with
      | some (.int z) => if 0 ≤ k ∧ k < 1000000 then some (.ol (ds.set n (.int (f z j))), .non) else none
      | _ => none
    | none => none
  | _, _ => none
def rGetP (K : PySem.W.Frag) : V → V → Hp → VK → Prop := fun x y H Q => ∃ a xs k v, x = .ref a ∧ y = .int k ∧ SqL K H a xs ∧ 0 ≤ k ∧ k < 1000000 ∧ xs[k.toNat]? = some v ∧ Q v H
theorem get_pos : PGet X (rGetP X.K) := by
  intro pins s σ H x y v u Q I rx ry h
  obtain ⟨a, xs, k, z, rfl, rfl, hq, h0, h1, he, q⟩ := h
  cases rx
  obtain ⟨t, rfl⟩ := ry
  obtain ⟨its, r, pl, hz⟩ := I.list hq
  obtain ⟨w, ew, rw'⟩ := r.get he
  exact wpAny_getItem_list pl.isList h0 (by omega) (by simpa using ew) ⟨z, H, I, rw', q⟩
theorem ds_aug {j : Int} {jj : Nat} {jp : Pos} (ho : DE ca X o fo) (hi : DE ca X i fi)
    (ha : ∀ ov iv new, augStore i ov iv new = (do holding [new, ov, iv] (setItem ov iv new); release [new, ov, iv] []; pure .next) := by intros; rfl) :
    DS ca X I (.AugAssign (.Subscript o i tpos) .Add (.Constant (.int j) jj jp) pos) (sExpr (evMut (gmAug (fun a b => a + b) j) (evCons fo (evCons fi evNil)))) := fun W tk ps =>
  PS.imp (ps_augS (ho W tk) (hi W tk) get_pos pe_int ip_add set_list ha) fun Dn σ H h => by
    have q : tD ⟨X.K, ca⟩ W (evMut (gmAug (fun a b => a + b) j) (evCons fo (evCons fi evNil))) σ H fun _ H1 => Dn.nx σ H1 := tSD_E h fun av ρ1 v G1 H1 F1 T o ek c1 r n z => by
      cases ek
      exact z σ G1 H1 F1 .refl c1 (.refl fun x h => .inl h)
    refine tD_map (tD_mut q) fun x H1 h1 => tD_map (tDL_cons h1) fun y H2 h2 => ?_
    obtain ⟨G, d, U, ds, d', r, sub, rd, rr, e, q⟩ := tDL_nil h2
    unfold gmAug at e
    split at e
    · rename_i items k
      split at e
      · rename_i n hn
        split at e
        · rename_i z hz
          split at e
          · rename_i hk
            cases e
            obtain ⟨y2, e2, r1⟩ := paired1 rr
            cases e2
            cases r1
            obtain ⟨a, rfl⟩ := rep_ol_ref rd
            have rd0 := rd
            obtain ⟨vs, hv, l, ch⟩ := ol_change rd
            have hnl := (ixN_seq hn).2.1
            have hnk : k.toNat = n := by
              unfold ixN at hn
              rw [if_pos hk.1] at hn
              split at hn
              · cases hn; rfl
              · cases hn
            have hvn : vs[n]? = some (.int z) := by
              cases rd0 with
              | ol h g l' c bd dj na =>
                rw [h] at hv
                cases hv
                have h3 : n < vs.length := by omega
                rw [List.getElem?_eq_getElem h3, rep_int (c n _ _ (List.getElem?_eq_getElem h3) hz)]
            obtain ⟨U', r', x'⟩ := ch (vs.set n (.int (z + j))) (items.set n (.int (z + j))) (fun i => if i = n then none else some i) (by simp [l]) (fun i j k h1 h2 => by
              split at h1 <;> split at h2 <;> cases h1 <;> cases h2 <;> rfl) fun i v d e1 e2 => by
              by_cases hi : i = n
              · subst hi
                rw [List.getElem?_set_self (by omega)] at e1
                rw [List.getElem?_set_self hnl] at e2
                cases e1; cases e2
                exact .inr ⟨if_pos rfl, .int _⟩
              · rw [List.getElem?_set_ne (Ne.symm hi)] at e1 e2
                exact .inl ⟨i, if_neg hi, e1, e2⟩
            exact ⟨a, vs, k, .int z, rfl, rfl, .of hv, hk.1, hk.2, by rw [hnk]; exact hvn, z, j, rfl, rfl, a, vs, k, n, rfl, rfl, hv, by rw [l]; exact hn, q .non _ _ _ (g_upd rd sub) r' .non x'⟩
          · cases e
        · cases e
      · cases e
    · cases e

/-! ### all, any, min, max -/
def blsD : List D → Option (List Bool)
  | [] => some []
  | .bl b :: ds => match blsD ds with
    | some bs => some (b :: bs)
    | none => none
  | _ => none
def gAll : List D → Option D
  | [x] => match lstD x with
    | some ds => match blsD ds with
      | some bs => some (.bl (bs.all id))
      | none => none
    | none => none
  | _ => none
def gMax : List D → Option D
  | [.int i, .int j] => some (.int (if j > i then j else i))
  | _ => none
def gMin : List D → Option D
  | [.int i, .int j] => some (.int (if j < i then j else i))
  | _ => none
theorem bls_rep {G H : Hp} {B : Bd} : ∀ {ds : List D} {bs : List Bool} {vs : List V}, blsD ds = some bs → vs.length = ds.length → (∀ (i : Nat) v d, vs[i]? = some v → ds[i]? = some d → ∃ U, Rep B G H v d U) → vs = bs.map V.bl
  | [], bs, vs, e, l, c => by cases e; cases vs with | nil => rfl | cons => cases l
  | d :: ds, bs, [], e, l, c => by cases l
  | d :: ds, bs, v :: vs, e, l, c => by
    obtain ⟨U, r⟩ := c 0 v d rfl rfl
    cases r with
    | bl b =>
      unfold blsD at e
      cases h : blsD ds with
      | none => rw [h] at e; cases e
      | some bs' =>
        rw [h] at e
        cases e
        exact congrArg (V.bl b :: ·) (bls_rep h (by simpa using l) fun i v d e1 e2 => c (i + 1) v d (by simpa using e1) (by simpa using e2))
    | _ => simp [blsD] at e
theorem callD_all (hc : X.calm = true) : CallD ca X (.builtin "all") gAll := by
  intro pins s σ H xs us Q I rs h
  obtain ⟨G, ds, d, sub, rr, e, q⟩ := h
  unfold gAll at e
  split at e
  · split at e
    · rename_i ds' h1
      split at e
      · rename_i bs h2
        cases e
        obtain ⟨v, T, rfl, r⟩ := reps1 rr
        cases r with
        | lst h l c =>
          cases h1
          have ev := bls_rep h2 l fun i v d e1 e2 => ⟨_, c i v d e1 e2⟩
          subst ev
          exact cr_all hc pins s σ H _ us Q I rs ⟨_, bs, rfl, .of (sub _ _ h), rDL_end q sub (.bl _)⟩
        | ol h g l c bd dj na =>
          cases h1
          have ev := bls_rep h2 l fun i v d e1 e2 => ⟨_, c i v d e1 e2⟩
          subst ev
          exact cr_all hc pins s σ H _ us Q I rs ⟨_, bs, rfl, .of h, rDL_end q sub (.bl _)⟩
        | _ => cases h1
      · cases e
    · cases e
  · cases e
theorem callD_max (hc : X.calm = true) : CallD ca X (.builtin "max") gMax := by
  intro pins s σ H xs us Q I rs h
  obtain ⟨G, ds, d, sub, rr, e, q⟩ := h
  unfold gMax at e
  split at e
  · cases e
    obtain ⟨v, T, w, U, rfl, r1, r2⟩ := reps2 rr
    cases r1; cases r2
    exact call_max2 hc pins s σ H _ us Q I rs ⟨_, _, rfl, rDL_end q sub (.int _)⟩
  · cases e
theorem callD_min (hc : X.calm = true) : CallD ca X (.builtin "min") gMin := by
  intro pins s σ H xs us Q I rs h
  obtain ⟨G, ds, d, sub, rr, e, q⟩ := h
  unfold gMin at e
  split at e
  · cases e
    obtain ⟨v, T, w, U, rfl, r1, r2⟩ := reps2 rr
    cases r1; cases r2
    exact call_min2 hc pins s σ H _ us Q I rs ⟨_, _, rfl, rDL_end q sub (.int _)⟩
  · cases e

/-! ### three names -/
theorem ds_three {y z : Str} {a b d : Expr} {fa fb fd' : Ev AV} {i j l : Nat} {px py pz pt : Pos} {kt k2 pt2} (hc : X.calm = true) (hN : X.N.Nodup) (ha : DE ca X a fa) (hb : DE ca X b fb) (hd : DE ca X d fd') (hij : i ≠ j := by decide) (hil : i ≠ l := by decide) (hjl : j ≠ l := by decide)
    (hi : X.N[i]? = some x := by rfl) (hj : X.N[j]? = some y := by rfl) (hl : X.N[l]? = some z := by rfl) (hx : X.env.scope.names.lookup x = some .local := by rfl) (hy : X.env.scope.names.lookup y = some .local := by rfl) (hz : X.env.scope.names.lookup z = some .local := by rfl)
    (hw : swappedStores [.Tuple [.Name x px, .Name y py, .Name z pz] kt pt] (.Tuple [a, b, d] k2 pt2) X.env = pure (some [x, y, z]) := by rfl)
    (hs : swapsWithSole [.Tuple [.Name x px, .Name y py, .Name z pz] kt pt] (.Tuple [a, b, d] k2 pt2) pos.line X.env = pure false := by rfl)
    (h1 : starEach [a, b, d] X.env = (false, eval a X.env) :: starEach [b, d] X.env := by rfl) (h2 : starEach [b, d] X.env = (false, eval b X.env) :: starEach [d] X.env := by rfl) (h3 : starEach [d] X.env = (false, eval d X.env) :: starEach [] X.env := by rfl) :
    DS ca X I (.Assign [.Tuple [.Name x px, .Name y py, .Name z pz] kt pt] (.Tuple [a, b, d] k2 pt2) pos) (sAsg I [i, j, l] (evCons fa (evCons fb (evCons fd' evNil)))) := fun W tk ps =>
  PS.imp (ps_par3 hc hN hi hj hl hij hil hjl hx hy hz (da_cons ha (da_cons hb (da_cons hd da_nil h3) h2) h1 W tk) hw hs) fun Dn σ H q => by
    obtain ⟨G, ρ, F, o, c, e, z0⟩ := q
    unfold sAsg evS at e
    cases hf : evCons fa (evCons fb (evCons fd' evNil)) ρ with
    | none => rw [hf] at e; cases e
    | some u =>
      rw [hf] at e
      cases u with
      | exc er ρ' => cases e; exact ⟨G, ρ, F, _, c, hf, exc_out z0⟩
      | ok avs ρ1 =>
        refine ⟨G, ρ, F, _, c, hf, fun vs G1 H1 F1 Wt c1 r n x => ?_⟩
        have hl3 : avs.length = 3 := len_cons (len_cons (len_cons len_nil)) ρ avs ρ1 hf
        have hv : ∃ v w y, vs = [v, w, y] := by
          cases r with
          | nil => cases hl3
          | cons r hT t hu dj => cases t with
            | nil => cases hl3
            | cons r2 hT2 t2 hu2 dj2 => cases t2 with
              | nil => cases hl3
              | cons r3 hT3 t3 hu3 dj3 => cases t3 with
                | nil => exact ⟨_, _, _, rfl⟩
                | cons => cases hl3
        obtain ⟨v, w, y, rfl⟩ := hv
        exact ⟨v, w, y, rfl, asg_end e c1 r n (endS_trans z0 .refl x)⟩
end
end DL

namespace DL
open PySem PySem.Spec PyProof.Rows L2

/-! ### names that a comprehension reads are cells -/
section
variable {ca : Nat → Addr} {X : Cx} {I : List Nat} {fe : Ev AV} {e : Expr} {x : Str} {px pos : Pos}
theorem ds_nameC (i : Nat) (hN : X.N.Nodup) (he : DE ca X e fe) (hi : X.N[i]? = some x := by rfl) (hx : Loc X.env.scope x := by exact Or.inr rfl) (hs : swapsWith e (some (.Name x px)) pos.line X.env = pure false := by rfl)
    (hf : X.fn x = true ∨ X.env.scope.names.lookup x = some .local := by exact Or.inl rfl) : DS ca X I (.Assign [.Name x px] e pos) (sAsg I [i] (evCons fe evNil)) := ds_name i hN he hi hx hs hf
theorem dg_nmC (i : Nat) (hN : X.N.Nodup) (hi : X.N[i]? = some x := by rfl) (hx : Loc X.env.scope x := by exact Or.inr rfl) (hf : X.fn x = true ∨ X.env.scope.names.lookup x = some .local := by exact Or.inl rfl) : DG ca X I (.Name x pos) (tgN I i) := dg_nm i hN hi hx hf
end
section
variable {ca : Nat → Addr} {X : Cx} {I : List Nat} {elt tg iter : Expr} {ifs : List Expr} {scope : Scope} {own : List (Str × Nat)} {pos spos py : Pos} {fi : Ev (List D)} {t : Tgt} {fc : Ev Bool} {f : Ev AV} {i : Nat} {y : Str}
/-- y = [..] -/
theorem ds_setlc (i : Nat) (hc : X.calm = true) (hN : X.N.Nodup) (hi : DI ca X tg iter fi) (ok : BlkOk X.N X.env.scope scope own) (hg : ∀ s H C cl fp, DG ca (Cx.cmp X s H scope C cl fp) (others X.N.length (own.map (fun z : Str × Nat => z.2))) tg t)
    (ht : ∀ s H C cl fp, DTs ca (Cx.cmp X s H scope C cl fp) ifs fc) (he : ∀ s H C cl fp, DE ca (Cx.cmp X s H scope C cl fp) elt f) (hsw : swapsWith (.ListComp elt [⟨tg, iter, ifs, 0⟩] scope pos) (some (.Name y py)) spos.line X.env = pure true)
    (hy : X.N[i]? = some y := by rfl) (hyl : X.env.scope.names.lookup y = some .local := by rfl) (hs : ∀ x, foldedSetIterable iter X.env x = pure x := by intro _; rfl) :
    DS ca X I (.Assign [.Name y py] (.ListComp elt [⟨tg, iter, ifs, 0⟩] scope pos) spos) (sAsg I [i] (evCons (evComp fi (own.map (fun z : Str × Nat => z.2)) t fc f) evNil)) := fun W tk ps =>
  ⟨fun pins s σ H Dn Iv q => by
    have q2 : tDL ⟨X.K, ca⟩ W (evCons (evComp fi (own.map (fun z : Str × Nat => z.2)) t fc f) evNil) σ H fun vs H1 => Dn.nx (setV [i] vs σ) H1 := tSD_L q fun avs ρ1 vs G1 H1 F1 Wt o ek c1 r n z => asg_end ek c1 r n z
    have q3 : tD ⟨X.K, ca⟩ W (evComp fi (own.map (fun z : Str × Nat => z.2)) t fc f) σ H fun v H1 => Dn.nx (setV [i] [v] σ) H1 := tD_map (tDL_cons q2) fun v H1 k => tDL_nil k
    exact (ps_setLc (g := gD ⟨X.K, ca⟩ (others X.N.length (own.map (fun z : Str × Nat => z.2))) t) (tt := tDT ⟨X.K, ca⟩ (fun _ _ _ _ => False) fc) (te := tD ⟨X.K, ca⟩ (fun _ _ _ _ => False) f) hc hN hy hyl hsw (hi W tk) ok
      (fun s H C cl fp => hg s H C cl fp) (fun s H C cl fp => ht s H C cl fp _ takes0) (fun s H C cl fp => he s H C cl fp _ takes0) hs).run pins s σ H Dn Iv (tD_comp (N := X.N.length) (fun _ => Iv.len) q3)⟩
end

/-! ### run -/
section
variable {ρ : DEnv} {vs : List Nat} {t : Tgt} {c : Ev Bool} {f : Ev AV} {fi : Ev (List D)} {d : D} {ds acc : List D}
def cmpR (ρ0 : DEnv) (vs : List Nat) (x : Option (List D × DEnv)) : Option (Out AV) := match x with
  | some (acc, ρ') => some (.ok (.val (.ol acc)) (restD ρ0 ρ' vs))
  | none => none
@[simp] theorem cmpR_some {ρ0 : DEnv} : cmpR ρ0 vs (some (acc, ρ)) = some (.ok (.val (.ol acc)) (restD ρ0 ρ vs)) := rfl
@[simp] theorem r_comp : evComp fi vs t c f ρ = bE (fi ρ) fun ds ρ1 => cmpR ρ1 vs (compE vs t c f ds [] (wipeD ρ1 vs)) := by
  unfold evComp
  rw [r_then]
  rfl
@[simp] theorem r_yes : evYes ρ = some (.ok true ρ) := rfl
theorem comp_0 : compE vs t c f [] acc ρ = some (acc, wipeD ρ vs) := rfl
def turnR (vs : List Nat) (t : Tgt) (c : Ev Bool) (f : Ev AV) (ds acc : List D) (ρ2 : DEnv) (x : Option (Out AV)) : Option (List D × DEnv) := match x with
  | some (.ok av ρ3) => match cont ρ3 av with
    | some e => if acc.length < 16777216 then compE vs t c f ds (acc ++ [frz e]) (frzS (plS [av]) ρ3) else none
    | none => none
  | _ => none
@[simp] theorem turnR_ok {ρ2 : DEnv} {av : AV} : turnR vs t c f ds acc ρ2 (some (.ok av ρ)) = bO (cont ρ av) fun e => if acc.length < 16777216 then compE vs t c f ds (acc ++ [frz e]) (frzS (plS [av]) ρ) else none := by
  unfold turnR bO
  dsimp only
  cases cont ρ av <;> rfl
/-- without an if -/
theorem comp_1 : compE vs t evYes f (d :: ds) acc ρ = bO (t d (wipeD ρ vs)) fun ρ1 => turnR vs t evYes f ds acc ρ1 (f ρ1) := by
  conv => lhs; unfold compE
  unfold bO
  cases t d (wipeD ρ vs) with
  | none => rfl
  | some ρ1 =>
    dsimp only
    rw [r_yes]
    rfl
@[simp] theorem r_notV {fa : Ev AV} : evNotV fa ρ = bE (evT fa ρ) fun b ρ1 => some (.ok (.val (.bl (!b))) ρ1) := by
  unfold evNotV
  rw [r_then]
  congr 1
@[simp] theorem wipeD_0 : wipeD ρ [] = ρ := rfl
@[simp] theorem wipeD_1 {i : Nat} : wipeD ρ (i :: vs) = (wipeD ρ vs).set i none := rfl
@[simp] theorem restD_0 {ρ0 : DEnv} : restD ρ0 ρ [] = ρ := rfl
@[simp] theorem restD_1 {ρ0 : DEnv} {i : Nat} : restD ρ0 ρ (i :: vs) = match ρ0[i]? with
  | some o => (restD ρ0 ρ vs).set i o
  | none => restD ρ0 ρ vs := rfl
@[simp] theorem max_ii {i j : Int} : gMax [.int i, .int j] = some (.int (if j > i then j else i)) := rfl
@[simp] theorem min_ii {i j : Int} : gMin [.int i, .int j] = some (.int (if j < i then j else i)) := rfl
@[simp] theorem all_o : gAll [.ol ds] = bO (blsD ds) fun bs => some (.bl (bs.all id)) := by
  unfold gAll bO
  dsimp only [lstD]
  cases blsD ds <;> rfl
@[simp] theorem all_l : gAll [.lst ds] = bO (blsD ds) fun bs => some (.bl (bs.all id)) := by
  unfold gAll bO
  dsimp only [lstD]
  cases blsD ds <;> rfl
@[simp] theorem bls_0 : blsD [] = some [] := rfl
@[simp] theorem bls_1 {b : Bool} : blsD (.bl b :: ds) = bO (blsD ds) fun bs => some (b :: bs) := by
  conv => lhs; unfold blsD
  unfold bO
  cases blsD ds <;> rfl
end
end DL

namespace K09
open PySem PySem.Spec PyProof.Rows L2 DL
/-! ### the text -/
def topS (i : Nat) : Stmt := PySem.Challenge.pw_wholeworths_k09_errors_of_all_worths.main.body.getD i (.Pass ⟨0, 0, 0, 0⟩)
def initS : Stmt := match topS 1 with
  | .ClassDef (body := b) .. => b.getD 0 (.Pass ⟨0, 0, 0, 0⟩)
  | s => s
theorem sc_init : FnScope [("self" : Str), ("value" : Str)] [("self" : Str), ("value" : Str)] (defScope initS) := ⟨rfl, rfl, rfl, by decide +kernel, rfl, by decide +kernel, by decide +kernel⟩
abbrev S__law_raised : Stmt := topS 24
abbrev N__law_raised : List Str := ["which", "given", "named"]
abbrev P__law_raised : List Str := ["which", "given", "named"]
theorem sc__law_raised : FnScope N__law_raised P__law_raised (defScope S__law_raised) := ⟨rfl, rfl, rfl, by decide +kernel, rfl, by decide +kernel, by decide +kernel⟩
abbrev S__law_caught : Stmt := topS 27
abbrev N__law_caught : List Str := ["which", "given", "named", "caught", "e"]
abbrev P__law_caught : List Str := ["which", "given", "named"]
theorem sc__law_caught : FnScope N__law_caught P__law_caught (defScope S__law_caught) := ⟨rfl, rfl, rfl, by decide +kernel, rfl, by decide +kernel, by decide +kernel⟩
abbrev S__law_take : Stmt := topS 22
abbrev N__law_take : List Str := ["pot", "many", "cell", "mixed", "drawn_now"]
abbrev P__law_take : List Str := ["pot", "many"]
theorem sc__law_take : FnScope N__law_take P__law_take (defScope S__law_take) := ⟨rfl, rfl, rfl, by decide +kernel, rfl, by decide +kernel, by decide +kernel⟩
abbrev S__law_given : Stmt := topS 26
abbrev N__law_given : List Str := ["pot", "far", "some"]
abbrev P__law_given : List Str := ["pot"]
theorem sc__law_given : FnScope N__law_given P__law_given (defScope S__law_given) := ⟨rfl, rfl, rfl, by decide +kernel, rfl, by decide +kernel, by decide +kernel⟩
abbrev S__law_kinds : Stmt := topS 25
abbrev N__law_kinds : List Str := ["e", "found"]
abbrev P__law_kinds : List Str := ["e"]
theorem sc__law_kinds : FnScope N__law_kinds P__law_kinds (defScope S__law_kinds) := ⟨rfl, rfl, rfl, by decide +kernel, rfl, by decide +kernel, by decide +kernel⟩
abbrev S__law_same : Stmt := topS 23
abbrev N__law_same : List Str := ["got", "due", "k"]
abbrev P__law_same : List Str := ["got", "due"]
theorem sc__law_same : FnScope N__law_same P__law_same (defScope S__law_same) := ⟨rfl, rfl, rfl, by decide +kernel, rfl, by decide +kernel, by decide +kernel⟩
abbrev S__law_right : Stmt := topS 28
abbrev N__law_right : List Str := ["caught", "which", "given", "k"]
abbrev P__law_right : List Str := ["caught", "which", "given"]
theorem sc__law_right : FnScope N__law_right P__law_right (defScope S__law_right) := ⟨rfl, rfl, rfl, by decide +kernel, rfl, by decide +kernel, by decide +kernel⟩
abbrev S_law : Stmt := topS 29
abbrev N_law : List Str := ["script", "pot", "turn", "which", "given", "other", "named", "first", "second"]
abbrev P_law : List Str := ["script"]
theorem sc_law : FnScope N_law P_law (defScope S_law) := ⟨rfl, rfl, rfl, by decide +kernel, rfl, by decide +kernel, by decide +kernel⟩
/-! ### what the defs compute: slots are numbered as in N_.. -/
def exs : List Nat := [0, 1, 2, 3, 4, 5, 6, 7, 8, 9, 10, 11, 12, 13, 14, 15, 16, 17, 18, 19]
def tab : Tab := tabX exs
def catch_ (k : Nat) : Nat → Option Bool := catX exs k
noncomputable def f__law_raised : Sv := sSeq (sIf (evT (ev2 gEq (evV 0) (evC (.int 0)))) (sSeq (sIf (evTr (evV 2)) (sRaise 17 (evFz (evCons (evV 1) evNil))) (sNil)) (sRaise 17 (evFz (evCons (evV 1) (evNil))))) (sNil)) (sSeq (sIf (evT (ev2 gEq (evV 0) (evC (.int 1)))) (sSeq (sIf (evTr (evV 2)) (sRaise 18 (evFz (evCons (evV 1) evNil))) (sNil)) (sRaise 18 (evFz (evCons (evV 1) (evNil))))) (sNil)) (sSeq (sIf (evTr (evV 2)) (sRaise 19 (evFz (evCons (evV 1) evNil))) (sNil)) (sRaise 19 (evFz (evCons (evV 1) (evNil))))))
noncomputable def m__law_raised : Mir := fnD N__law_raised.length P__law_raised.length [] f__law_raised
noncomputable def f__law_caught : Sv := sSeq (sAsg [] [3] (evCons (evC .non) evNil)) (sSeq (sCat (catch_ 0) 4 (sExpr (evCall [false, false, false] m__law_raised (evCons (evV 0) (evCons (evV 1) (evCons (evV 2) (evNil)))))) (sAsg [] [3] (evCons (evV 4) evNil))) (sRetO [] (evV 3)))
noncomputable def m__law_caught : Mir := fnD N__law_caught.length P__law_caught.length [] f__law_caught
noncomputable def f__law_take : Sv := sSeq (sIf (evAnd (evT (ev2 gEq (evIx (evV 0) (evC (.int 0))) (evC (.int 0)))) (evT (ev2 gLt (evIx (evV 0) (evC (.int 2))) (evOp gLen (evCons (evV 0) (evNil)))))) (sSeq (sAsg [0] [2] (evCons (evIx (evV 0) (evIx (evV 0) (evC (.int 2)))) evNil)) (sSeq (sExpr (evMut (gmAug (fun a b => a + b) 1) (evCons (evV 0) (evCons (evC (.int 2)) evNil)))) (sIf (evT (ev2 gGe (evV 2) (ev2 gPow (evC (.int 10)) (evC (.int 18))))) (sTgt (tgSub gmSet (evCons (evV 0) (evCons (evC (.int 0)) evNil))) (ev2 gSub (evV 2) (ev2 gPow (evC (.int 10)) (evC (.int 18))))) (sSeq (sAsg [0] [3] (evCons (ev2 gMod (evOp gInt (evCons (evV 2) (evNil))) (evC (.int 2147483647))) evNil)) (sSeq (sAsg [0] [3] (evCons (ev2 gMod (evOp gInt (evCons (ev2 gAdd (ev2 gAdd (ev2 gMul (evV 3) (evV 3)) (ev2 gMul (evC (.int 69621)) (evV 3))) (ev2 gMul (evC (.int 977)) (evIx (evV 0) (evC (.int 2))))) (evNil))) (evC (.int 2147483629))) evNil)) (sTgt (tgSub gmSet (evCons (evV 0) (evCons (evC (.int 1)) evNil))) (ev2 gMod (evOp gInt (evCons (ev2 gAdd (evIx (evV 0) (evC (.int 1))) (evV 3)) (evNil))) (evC (.int 2147483629))))))))) (sNil)) (sSeq (sIf (evT (ev2 gGt (evIx (evV 0) (evC (.int 0))) (evC (.int 0)))) (sSeq (sAsg [0] [4] (evCons (ev2 gMod (evOp gInt (evCons (evIx (evV 0) (evC (.int 0))) (evNil))) (evV 1)) evNil)) (sSeq (sTgt (tgSub gmSet (evCons (evV 0) (evCons (evC (.int 0)) evNil))) (ev2 gDiv (evIx (evV 0) (evC (.int 0))) (evV 1))) (sRetO [0] (evV 4)))) (sNil)) (sSeq (sTgt (tgSub gmSet (evCons (evV 0) (evCons (evC (.int 1)) evNil))) (ev2 gMod (evOp gInt (evCons (ev2 gAdd (ev2 gAdd (ev2 gMul (evIx (evV 0) (evC (.int 1))) (evC (.int 48271))) (ev2 gMul (evC (.int 40692)) (evIx (evV 0) (evC (.int 2))))) (evC (.int 11))) (evNil))) (evC (.int 2147483647)))) (sSeq (sTgt (tgSub gmSet (evCons (evV 0) (evCons (evC (.int 1)) evNil))) (ev2 gMod (evOp gInt (evCons (ev2 gAdd (ev2 gMul (evIx (evV 0) (evC (.int 1))) (evIx (evV 0) (evC (.int 1)))) (evC (.int 7))) (evNil))) (evC (.int 2147483629)))) (sRetO [0] (ev2 gMod (evOp gInt (evCons (ev2 gDiv (evIx (evV 0) (evC (.int 1))) (evC (.int 8))) (evNil))) (evV 1))))))
noncomputable def m__law_take : Mir := fnD N__law_take.length P__law_take.length [0] f__law_take
noncomputable def f__law_given : Sv := sSeq (sAsg [0] [1] (evCons (ev2 gSub (ev2 gAdd (ev2 gMul (evCall [true, false] m__law_take (evCons (evV 0) (evCons (ev2 gPow (evC (.int 10)) (evC (.int 9))) (evNil)))) (ev2 gPow (evC (.int 10)) (evC (.int 20)))) (evCall [true, false] m__law_take (evCons (evV 0) (evCons (ev2 gPow (evC (.int 10)) (evC (.int 9))) (evNil))))) (ev2 gPow (evC (.int 10)) (evC (.int 28)))) evNil)) (sSeq (sAsg [0] [2] (evCons (evOpF gLst (evFz (evCons (evV 1) (evCons (evCall [true, false] m__law_take (evCons (evV 0) (evCons (evC (.int 9)) (evNil)))) (evCons (evC (.str ("" : Str))) (evCons (evC (.str ("a b" : Str))) (evCons (evC .non) (evCons (evC (.bl true)) (evCons (evC (.bl false)) (evCons (evOpF gTup (evFz (evNil))) (evCons (evOpF gTup (evFz (evCons (evV 1) (evCons (evC (.int 1)) (evNil))))) (evCons (evOpF gLst (evFz (evCons (evV 1) (evCons (evC (.str ("x" : Str))) (evNil))))) (evCons (evOpF gTup (evFz (evCons (evOpF gTup (evFz (evCons (evC (.int 1)) (evCons (evC (.int 2)) (evNil))))) (evCons (evOpF gTup (evFz (evCons (evC (.str ("a" : Str))) (evCons (evOpF gTup (evFz (evNil))) (evNil))))) (evNil))))) (evCons (evOpF gLst (evFz (evNil))) (evNil))))))))))))))) evNil)) (sRet (evIx (ev2 gAdd (evV 2) (evOpF gLst (evFz (evCons (ev1 gNeg (evC (.int 1))) (evCons (evC (.int 0)) (evCons (evOpF gTup (evFz (evCons (evOpF gLst (evFz (evCons (evC (.str ("" : Str))) (evCons (evC (.str ("a" : Str))) (evNil))))) (evCons (evOpF gLst (evFz (evCons (evOpF gLst (evFz (evCons (evOpF gLst (evFz (evCons (evOpF gTup (evFz (evCons (evC (.int 1)) (evCons (evC (.int 2)) (evNil))))) (evNil)))) (evNil)))) (evNil)))) (evCons (evOpF gLst (evFz (evCons (evOpF gTup (evFz (evCons (evC (.int 1)) (evCons (evC (.int 1)) (evNil))))) (evNil)))) (evNil)))))) (evNil))))))) (evCall [true, false] m__law_take (evCons (evV 0) (evCons (evC (.int 15)) (evNil)))))))
noncomputable def m__law_given : Mir := fnD N__law_given.length P__law_given.length [0] f__law_given
noncomputable def f__law_kinds : Sv := sSeq (sAsg [] [1] (evCons (evOpF gLst (evFz (evCons (evOp (gIsi tab) (evCons (evV 0) (evCons (evC (.cls 17)) (evNil)))) (evCons (evOp (gIsi tab) (evCons (evV 0) (evCons (evC (.cls 18)) (evNil)))) (evCons (evOp (gIsi tab) (evCons (evV 0) (evCons (evC (.cls 19)) (evNil)))) (evNil)))))) evNil)) (sSeq (sAsg [] [1] (evCons (ev2 gAdd (evV 1) (evOpF gLst (evFz (evCons (evOp (gIsi tab) (evCons (evV 0) (evCons (evC (.cls 1)) (evNil)))) (evCons (evOp (gIsi tab) (evCons (evV 0) (evCons (evC (.cls 2)) (evNil)))) (evCons (evOp (gIsi tab) (evCons (evV 0) (evCons (evC (.cls 3)) (evNil)))) (evNil))))))) evNil)) (sSeq (sAsg [] [1] (evCons (ev2 gAdd (evV 1) (evOpF gLst (evFz (evCons (evOp (gIsi tab) (evCons (evV 0) (evCons (evC (.cls 4)) (evNil)))) (evCons (evOp (gIsi tab) (evCons (evV 0) (evCons (evC (.cls 5)) (evNil)))) (evCons (evOp (gIsi tab) (evCons (evV 0) (evCons (evC (.cls 6)) (evNil)))) (evNil))))))) evNil)) (sSeq (sAsg [] [1] (evCons (ev2 gAdd (evV 1) (evOpF gLst (evFz (evCons (evOp (gIsi tab) (evCons (evV 0) (evCons (evC (.cls 7)) (evNil)))) (evCons (evOp (gIsi tab) (evCons (evV 0) (evCons (evC (.cls 8)) (evNil)))) (evCons (evOp (gIsi tab) (evCons (evV 0) (evCons (evC (.cls 9)) (evNil)))) (evNil))))))) evNil)) (sSeq (sAsg [] [1] (evCons (ev2 gAdd (evV 1) (evOpF gLst (evFz (evCons (evOp (gIsi tab) (evCons (evV 0) (evCons (evC (.cls 10)) (evNil)))) (evCons (evOp (gIsi tab) (evCons (evV 0) (evCons (evC (.cls 11)) (evNil)))) (evCons (evOp (gIsi tab) (evCons (evV 0) (evCons (evC (.cls 12)) (evNil)))) (evNil))))))) evNil)) (sSeq (sAsg [] [1] (evCons (ev2 gAdd (evV 1) (evOpF gLst (evFz (evCons (evOp (gIsi tab) (evCons (evV 0) (evCons (evC (.cls 13)) (evNil)))) (evCons (evOp (gIsi tab) (evCons (evV 0) (evCons (evC (.cls 14)) (evNil)))) (evCons (evOp (gIsi tab) (evCons (evV 0) (evCons (evC (.cls 15)) (evNil)))) (evNil))))))) evNil)) (sRetO [] (ev2 gAdd (evV 1) (evOpF gLst (evFz (evCons (evOp (gIsi tab) (evCons (evV 0) (evCons (evC (.cls 16)) (evNil)))) (evNil)))))))))))
noncomputable def m__law_kinds : Mir := fnD N__law_kinds.length P__law_kinds.length [] f__law_kinds
noncomputable def f__law_same (mself : Mir) : Sv := sSeq (sIf (evT (ev2 gIsN (evV 1) (evC .non))) (sRetO [] (ev2 gIsN (evV 0) (evC .non))) (sNil)) (sSeq (sIf (evTr (evOp (gIsi tab) (evCons (evV 1) (evCons (evOpF gTup (evFz (evCons (evC (.ty "bool")) (evCons (evC (.ty "str")) (evNil))))) (evNil))))) (sRetO [] (evAndV (ev2 gEq (evOp (gIsi tab) (evCons (evV 0) (evCons (evC (.ty "bool")) (evNil)))) (evOp (gIsi tab) (evCons (evV 1) (evCons (evC (.ty "bool")) (evNil))))) (evAndV (evOp (gIsi tab) (evCons (evV 0) (evCons (evOpF gTup (evFz (evCons (evC (.ty "bool")) (evCons (evC (.ty "str")) (evNil))))) (evNil)))) (ev2 gEq (evV 0) (evV 1))))) (sNil)) (sSeq (sIf (evTr (evOp (gIsi tab) (evCons (evV 1) (evCons (evC (.ty "int")) (evNil))))) (sRetO [] (evAndV (evOp (gIsi tab) (evCons (evV 0) (evCons (evC (.ty "int")) (evNil)))) (evAndV (evNotV (evOp (gIsi tab) (evCons (evV 0) (evCons (evC (.ty "bool")) (evNil))))) (ev2 gEq (evV 0) (evV 1))))) (sNil)) (sSeq (sIf (evOr (evT (ev2 gNe (evOp (gIsi tab) (evCons (evV 1) (evCons (evC (.ty "list")) (evNil)))) (evOp (gIsi tab) (evCons (evV 0) (evCons (evC (.ty "list")) (evNil)))))) (evT (ev2 gNe (evOp (gIsi tab) (evCons (evV 1) (evCons (evC (.ty "tuple")) (evNil)))) (evOp (gIsi tab) (evCons (evV 0) (evCons (evC (.ty "tuple")) (evNil))))))) (sRetO [] (evC (.bl false))) (sNil)) (sRetO [] (evAndV (ev2 gEq (evOp gLen (evCons (evV 0) (evNil))) (evOp gLen (evCons (evV 1) (evNil)))) (evOp gAll (evCons (evComp (evIt gRng1 (evCons (evOp gLen (evCons (evV 1) (evNil))) (evNil))) [2] (tgN (others N__law_same.length [2]) 2) (evYes) (evCall [false, false] mself (evCons (evIx (evV 0) (evV 2)) (evCons (evIx (evV 1) (evV 2)) (evNil))))) (evNil))))))))
noncomputable def m__law_same : Nat → Mir
  | 0 => fnD N__law_same.length P__law_same.length [] fun _ => none
  | n + 1 => fnD N__law_same.length P__law_same.length [] (f__law_same (m__law_same n))
noncomputable def f__law_right : Sv := sSeq (sIf (evOr (evT (ev2 gIsN (evV 0) (evC .non))) (evNot (evTr (evOp (gIsi tab) (evCons (evV 0) (evCons (evC (.ty "ValueError")) (evNil))))))) (sRetO [] (evC (.bl false))) (sNil)) (sRetO [] (evAndV (evCall [false, false] (m__law_same 8) (evCons (evCall [false] m__law_kinds (evCons (evV 0) (evNil))) (evCons (evComp (evIt gRng1 (evCons (evC (.int 19)) (evNil))) [3] (tgN (others N__law_right.length [3]) 3) (evYes) (ev2 gEq (evV 3) (evV 1))) (evNil)))) (evCall [false, false] (m__law_same 8) (evCons (ev1 (gXv exs) (evV 0)) (evCons (evV 2) (evNil))))))
noncomputable def m__law_right : Mir := fnD N__law_right.length P__law_right.length [] f__law_right
noncomputable def L_law_0 : Sv := sSeq (sAsg [] [4, 5, 6] (evCons (evCall [true] m__law_given (evCons (evV 1) (evNil))) (evCons (evCall [true] m__law_given (evCons (evV 1) (evNil))) (evCons (ev2 gEq (evCall [true, false] m__law_take (evCons (evV 1) (evCons (evC (.int 2)) (evNil)))) (evC (.int 0))) evNil)))) (sSeq (sAsg [] [7] (evCons (evCall [false, false, false] m__law_caught (evCons (evV 3) (evCons (evV 4) (evCons (evV 6) (evNil))))) evNil)) (sSeq (sAsg [] [8] (evCons (evCall [false, false, false] m__law_caught (evCons (evV 3) (evCons (evV 5) (evCons (evNotV (evV 6)) (evNil))))) evNil)) (sIf (evOr (evNot (evTr (evCall [false, false, false] m__law_right (evCons (evV 7) (evCons (evV 3) (evCons (evV 4) (evNil))))))) (evNot (evTr (evCall [false, false, false] m__law_right (evCons (evV 8) (evCons (evV 3) (evCons (evV 5) (evNil)))))))) (sRetO [] (evC (.bl false))) (sNil))))
theorem a_L_law_0 {ρ : DEnv} : L_law_0 ρ = (sSeq (sAsg [] [4, 5, 6] (evCons (evCall [true] m__law_given (evCons (evV 1) (evNil))) (evCons (evCall [true] m__law_given (evCons (evV 1) (evNil))) (evCons (ev2 gEq (evCall [true, false] m__law_take (evCons (evV 1) (evCons (evC (.int 2)) (evNil)))) (evC (.int 0))) evNil)))) (sSeq (sAsg [] [7] (evCons (evCall [false, false, false] m__law_caught (evCons (evV 3) (evCons (evV 4) (evCons (evV 6) (evNil))))) evNil)) (sSeq (sAsg [] [8] (evCons (evCall [false, false, false] m__law_caught (evCons (evV 3) (evCons (evV 5) (evCons (evNotV (evV 6)) (evNil))))) evNil)) (sIf (evOr (evNot (evTr (evCall [false, false, false] m__law_right (evCons (evV 7) (evCons (evV 3) (evCons (evV 4) (evNil))))))) (evNot (evTr (evCall [false, false, false] m__law_right (evCons (evV 8) (evCons (evV 3) (evCons (evV 5) (evNil)))))))) (sRetO [] (evC (.bl false))) (sNil))))) ρ := rfl
noncomputable def L_law_1 : Sv := sFor (evIt gRng1 (evCons (evC (.int 3)) (evNil))) (tgN [] 3) L_law_0
theorem a_L_law_1 {ρ : DEnv} : L_law_1 ρ = (sFor (evIt gRng1 (evCons (evC (.int 3)) (evNil))) (tgN [] 3) L_law_0) ρ := rfl
noncomputable def f_law : Sv := sSeq (sAsg [] [1] (evCons (ev2 gAdd (evOpF gLst (evFz (evCons (evC (.int 0)) (evCons (evC (.int 7)) (evCons (evC (.int 3)) (evNil)))))) (evOp gList (evCons (evV 0) (evNil)))) evNil)) (sSeq (sFor (evIt gRng1 (evCons (evOp gMax (evCons (evC (.int 1)) (evCons (evOp gMin (evCons (evC (.int 12)) (evCons (evOp gLen (evCons (evV 0) (evNil))) (evNil)))) (evNil)))) (evNil))) (tgN [] 2) L_law_1) (sRetO [] (evC (.bl true))))
noncomputable def m_law : Mir := fnD N_law.length P_law.length [] f_law
/-! ### what the top has written -/
structure Txt (K : PySem.W.Frag) (mg : Str → Option Value) (ca : Nat → Addr) (fI : Addr) (fdI : FuncData) (a : Nat → Addr) (fd : Nat → FuncData) : Prop where
  fnI : Fun K "__init__" "WorthError.__init__" initS fI fdI
  bI : Binds K fdI [("self" : Str), ("value" : Str)] []
  bK : ∀ (s : Shared) (a : Addr) (u : Value), BindsTo s fdI ⟨[.ref a], [(("value" : Str), u)]⟩ [(("self" : Str), .ref a), (("value" : Str), u)]
  tI : PySem.W.typeIn K (.ref fI) = some (.type "function")
  vV : PySem.W.findCls K (.type "ValueError") (.type "type") "__init__" = some (.val (.builtin "ValueError.__init__"))
  zV : mg "ValueError" = none
  ex : ∀ c ∈ exs, ExK K ca fI c
  tab : TabOk K ca fI tab
  ct : ∀ k ∈ exs, ∀ c b, catch_ k c = some b → PySem.W.exmOne K (.ref (ca c)) (.ref (ca k)) = some b
  fn__law_raised : Fun K "_law_raised" "_law_raised" S__law_raised (a 0) (fd 0)
  b__law_raised : Binds K (fd 0) P__law_raised []
  g__law_raised : mg "_law_raised" = some (.ref (a 0))
  fn__law_caught : Fun K "_law_caught" "_law_caught" S__law_caught (a 1) (fd 1)
  b__law_caught : Binds K (fd 1) P__law_caught []
  g__law_caught : mg "_law_caught" = some (.ref (a 1))
  fn__law_take : Fun K "_law_take" "_law_take" S__law_take (a 2) (fd 2)
  b__law_take : Binds K (fd 2) P__law_take []
  g__law_take : mg "_law_take" = some (.ref (a 2))
  fn__law_given : Fun K "_law_given" "_law_given" S__law_given (a 3) (fd 3)
  b__law_given : Binds K (fd 3) P__law_given []
  g__law_given : mg "_law_given" = some (.ref (a 3))
  fn__law_kinds : Fun K "_law_kinds" "_law_kinds" S__law_kinds (a 4) (fd 4)
  b__law_kinds : Binds K (fd 4) P__law_kinds []
  g__law_kinds : mg "_law_kinds" = some (.ref (a 4))
  fn__law_same : Fun K "_law_same" "_law_same" S__law_same (a 5) (fd 5)
  b__law_same : Binds K (fd 5) P__law_same []
  g__law_same : mg "_law_same" = some (.ref (a 5))
  fn__law_right : Fun K "_law_right" "_law_right" S__law_right (a 6) (fd 6)
  b__law_right : Binds K (fd 6) P__law_right []
  g__law_right : mg "_law_right" = some (.ref (a 6))
  fn_law : Fun K "law" "law" S_law (a 7) (fd 7)
  b_law : Binds K (fd 7) P_law []
  g_law : mg "law" = some (.ref (a 7))
  g_NotIntegers : mg "NotIntegers" = some (.ref (ca 17))
  g_NotCounting : mg "NotCounting" = some (.ref (ca 18))
  g_TooGreat : mg "TooGreat" = some (.ref (ca 19))
  g_WorthError : mg "WorthError" = some (.ref (ca 0))
  z_len : mg "len" = none
  z_int : mg "int" = none
  z_isinstance : mg "isinstance" = none
  g_InvalidNumber : mg "InvalidNumber" = some (.ref (ca 1))
  g_InvalidSigns : mg "InvalidSigns" = some (.ref (ca 2))
  g_UnknownSign : mg "UnknownSign" = some (.ref (ca 3))
  g_InvalidMachine : mg "InvalidMachine" = some (.ref (ca 4))
  g_UnlikeSigns : mg "UnlikeSigns" = some (.ref (ca 5))
  g_Endless : mg "Endless" = some (.ref (ca 6))
  g_InvalidPattern : mg "InvalidPattern" = some (.ref (ca 7))
  g_InvalidBook : mg "InvalidBook" = some (.ref (ca 8))
  g_InvalidName : mg "InvalidName" = some (.ref (ca 9))
  g_DoubleName : mg "DoubleName" = some (.ref (ca 10))
  g_UnknownName : mg "UnknownName" = some (.ref (ca 11))
  g_InvalidNote : mg "InvalidNote" = some (.ref (ca 12))
  g_InvalidSource : mg "InvalidSource" = some (.ref (ca 13))
  g_NoChance : mg "NoChance" = some (.ref (ca 14))
  g_NothingToUndo : mg "NothingToUndo" = some (.ref (ca 15))
  g_Unreadable : mg "Unreadable" = some (.ref (ca 16))
  z_bool : mg "bool" = none
  z_str : mg "str" = none
  z_list : mg "list" = none
  z_tuple : mg "tuple" = none
  z_all : mg "all" = none
  z_range : mg "range" = none
  z_ValueError : mg "ValueError" = none
  z_max : mg "max" = none
  z_min : mg "min" = none
/-! ### each def does what its function tells -/
section
variable {P : Program} {w : World} {K : PySem.W.Frag} {mg : Str → Option Value} {base : Heap} {ca : Nat → Addr} {fI : Addr} {fdI : FuncData} {a : Nat → Addr} {fd : Nat → FuncData}
theorem ok_init (T : Txt K mg ca fI fdI a fd) : FnOk P w K mg base (L2.CX P w) 1 fI fdI [("self" : Str), ("value" : Str)] (spI K) := by
  refine T.fnI.okX sc_init (fun vs H Q E h => ?_) fun cdv A outer s H vs Q E hr h => ?_
  · obtain ⟨a, C, v, rfl, _⟩ := h
    rfl
  · obtain ⟨x, C, v, rfl, O, no, e1, q⟩ := h
    refine ⟨_, pss_cons (ps_expr (pe_veinit (by rfl) T.zV T.vV (pa_cons (pv 0) (pa_cons (pv 1) pa_nil)))) (pss_one (ps_ost (pv 0) (pv 1))), ?_⟩
    refine ⟨.ref x, rfl, v, rfl, x, C, [v], rfl, by simp, O, e1, ?_⟩
    exact ⟨v, rfl, .ref x, rfl, x, C, rfl, O, no, .inl ⟨e1, fun dx hdx hne => q dx hdx hne⟩⟩
theorem ok__law_raised (T : Txt K mg ca fI fdI a fd) : FnD P w K mg base ca 3 (a 0) (fd 0) P__law_raised m__law_raised :=
  fn_d T.fn__law_raised sc__law_raised (by decide) fun cdv A outer s H E hr => db_cons (ds_if (dt_cmp (opD_eq hr.units) (de_pv 0) (de_int) (nomark _)) (db_cons (ds_if (dt_tru (de_pv 2)) (db_one (ds_raiseK (c := 17) rfl (T.ex 17 (by decide)) T.tI (ok_init T) (hr.mono (by decide)) T.bK T.g_NotIntegers (dk_cons (de_pv 1) dk_nil))) (db_nil)) (db_one (ds_raise (c := 17) rfl (T.ex 17 (by decide)) T.tI (ok_init T) (hr.mono (by decide)) T.bI T.g_NotIntegers (df_of (da_cons (de_pv 1) (da_nil)))))) (db_nil)) (db_cons (ds_if (dt_cmp (opD_eq hr.units) (de_pv 0) (de_int) (nomark _)) (db_cons (ds_if (dt_tru (de_pv 2)) (db_one (ds_raiseK (c := 18) rfl (T.ex 18 (by decide)) T.tI (ok_init T) (hr.mono (by decide)) T.bK T.g_NotCounting (dk_cons (de_pv 1) dk_nil))) (db_nil)) (db_one (ds_raise (c := 18) rfl (T.ex 18 (by decide)) T.tI (ok_init T) (hr.mono (by decide)) T.bI T.g_NotCounting (df_of (da_cons (de_pv 1) (da_nil)))))) (db_nil)) (db_cons (ds_if (dt_tru (de_pv 2)) (db_one (ds_raiseK (c := 19) rfl (T.ex 19 (by decide)) T.tI (ok_init T) (hr.mono (by decide)) T.bK T.g_TooGreat (dk_cons (de_pv 1) dk_nil))) (db_nil)) (db_one (ds_raise (c := 19) rfl (T.ex 19 (by decide)) T.tI (ok_init T) (hr.mono (by decide)) T.bI T.g_TooGreat (df_of (da_cons (de_pv 1) (da_nil)))))))
theorem ok__law_caught (T : Txt K mg ca fI fdI a fd) : FnD P w K mg base ca 4 (a 1) (fd 1) P__law_caught m__law_caught :=
  fn_d T.fn__law_caught sc__law_caught (by decide) fun cdv A outer s H E hr => db_cons (ds_name 3 sc__law_caught.nd (de_non)) (db_cons (ds_cat (i := 4) rfl rfl sc__law_caught.nd rfl rfl ⟨rfl, by decide, .inl T.g_WorthError⟩ (by decide) (T.ct 0 (by decide)) (fun pn xe => db_one (ds_expr (de_call (ms := [false, false, false]) (ok__law_raised T) (hr.mono (by decide)) T.g__law_raised T.fn__law_raised.kp T.b__law_raised (da_cons (de_pv 0) (da_cons (de_pv 1) (da_cons (de_pv 2) (da_nil)))) (len_cons (len_cons (len_cons len_nil)))))) (fun ea pn => db_one (ds_name 3 sc__law_caught.nd (de_pv 4)))) (db_one (ds_retO (de_pv 3))))
theorem ok__law_take (T : Txt K mg ca fI fdI a fd) : FnD P w K mg base ca 1 (a 2) (fd 2) P__law_take m__law_take :=
  fn_d T.fn__law_take sc__law_take (by decide) fun cdv A outer s H E hr => db_cons (ds_if (dt_bool (dw_and (dt_cmp (opD_eq hr.units) (de_ix2 (de_pv 0) (de_int) (fun _ _ => rfl)) (de_int) (nomark _)) (dw_and1 (dt_cmp opD_lt (de_ix2 (de_pv 0) (de_int) (fun _ _ => rfl)) (de_callB callD_len (by rfl) T.z_len (by decide +kernel) (da_cons (de_pv 0) (da_nil))) (nomark _))))) (db_cons (ds_name 2 sc__law_take.nd (de_ix2 (de_pv 0) (de_ix2 (de_pv 0) (de_int) (fun _ _ => rfl)) (fun _ _ => rfl))) (db_cons (ds_aug (de_pv 0) (de_int)) (db_one (ds_if (dt_cmp opD_ge (de_pv 2) (de_bin opD_pow (de_int) (de_int)) (nomark _)) (db_one (ds_asg (de_bin opD_sub (de_pv 2) (de_bin opD_pow (de_int) (de_int))) (dg_sub (de_pv 0) (de_int) setD_list))) (db_cons (ds_name 3 sc__law_take.nd (de_bin opD_mod (de_callTy callD_int (by rfl) T.z_int (by decide +kernel) (da_cons (de_pv 2) (da_nil))) (de_int))) (db_cons (ds_name 3 sc__law_take.nd (de_bin opD_mod (de_callTy callD_int (by rfl) T.z_int (by decide +kernel) (da_cons (de_bin opD_add (de_bin opD_add (de_bin opD_mul (de_pv 3) (de_pv 3)) (de_bin opD_mul (de_int) (de_pv 3))) (de_bin opD_mul (de_int) (de_ix2 (de_pv 0) (de_int) (fun _ _ => rfl)))) (da_nil))) (de_int))) (db_one (ds_asg (de_bin opD_mod (de_callTy callD_int (by rfl) T.z_int (by decide +kernel) (da_cons (de_bin opD_add (de_ix2 (de_pv 0) (de_int) (fun _ _ => rfl)) (de_pv 3)) (da_nil))) (de_int)) (dg_sub (de_pv 0) (de_int) setD_list))))))))) (db_nil)) (db_cons (ds_if (dt_cmp opD_gt (de_ix2 (de_pv 0) (de_int) (fun _ _ => rfl)) (de_int) (nomark _)) (db_cons (ds_name 4 sc__law_take.nd (de_bin opD_mod (de_callTy callD_int (by rfl) T.z_int (by decide +kernel) (da_cons (de_ix2 (de_pv 0) (de_int) (fun _ _ => rfl)) (da_nil))) (de_pv 1))) (db_cons (ds_asg (de_bin opD_div (de_ix2 (de_pv 0) (de_int) (fun _ _ => rfl)) (de_pv 1)) (dg_sub (de_pv 0) (de_int) setD_list)) (db_one (ds_retO (de_pv 4))))) (db_nil)) (db_cons (ds_asg (de_bin opD_mod (de_callTy callD_int (by rfl) T.z_int (by decide +kernel) (da_cons (de_bin opD_add (de_bin opD_add (de_bin opD_mul (de_ix2 (de_pv 0) (de_int) (fun _ _ => rfl)) (de_int)) (de_bin opD_mul (de_int) (de_ix2 (de_pv 0) (de_int) (fun _ _ => rfl)))) (de_int)) (da_nil))) (de_int)) (dg_sub (de_pv 0) (de_int) setD_list)) (db_cons (ds_asg (de_bin opD_mod (de_callTy callD_int (by rfl) T.z_int (by decide +kernel) (da_cons (de_bin opD_add (de_bin opD_mul (de_ix2 (de_pv 0) (de_int) (fun _ _ => rfl)) (de_ix2 (de_pv 0) (de_int) (fun _ _ => rfl))) (de_int)) (da_nil))) (de_int)) (dg_sub (de_pv 0) (de_int) setD_list)) (db_one (ds_retO (de_bin opD_mod (de_callTy callD_int (by rfl) T.z_int (by decide +kernel) (da_cons (de_bin opD_div (de_ix2 (de_pv 0) (de_int) (fun _ _ => rfl)) (de_int)) (da_nil))) (de_pv 1)))))))
theorem ok__law_given (T : Txt K mg ca fI fdI a fd) : FnD P w K mg base ca 2 (a 3) (fd 3) P__law_given m__law_given :=
  fn_d T.fn__law_given sc__law_given (by decide) fun cdv A outer s H E hr => db_cons (ds_name 1 sc__law_given.nd (de_bin opD_sub (de_bin opD_add (de_bin opD_mul (de_call (ms := [true, false]) (ok__law_take T) (hr.mono (by decide)) T.g__law_take T.fn__law_take.kp T.b__law_take (da_cons (de_pv 0) (da_cons (de_bin opD_pow (de_int) (de_int)) (da_nil))) (len_cons (len_cons len_nil))) (de_bin opD_pow (de_int) (de_int))) (de_call (ms := [true, false]) (ok__law_take T) (hr.mono (by decide)) T.g__law_take T.fn__law_take.kp T.b__law_take (da_cons (de_pv 0) (da_cons (de_bin opD_pow (de_int) (de_int)) (da_nil))) (len_cons (len_cons len_nil)))) (de_bin opD_pow (de_int) (de_int)))) (db_cons (ds_name 2 sc__law_given.nd (de_lst (df_of (da_cons (de_pv 1) (da_cons (de_call (ms := [true, false]) (ok__law_take T) (hr.mono (by decide)) T.g__law_take T.fn__law_take.kp T.b__law_take (da_cons (de_pv 0) (da_cons (de_int) (da_nil))) (len_cons (len_cons len_nil))) (da_cons (de_str) (da_cons (de_str) (da_cons (de_non) (da_cons (de_bl) (da_cons (de_bl) (da_cons (de_tup (df_of (da_nil))) (da_cons (de_tup (df_of (da_cons (de_pv 1) (da_cons (de_int) (da_nil))))) (da_cons (de_lst (df_of (da_cons (de_pv 1) (da_cons (de_str) (da_nil))))) (da_cons (de_tup (df_of (da_cons (de_tup (df_of (da_cons (de_int) (da_cons (de_int) (da_nil))))) (da_cons (de_tup (df_of (da_cons (de_str) (da_cons (de_tup (df_of (da_nil))) (da_nil))))) (da_nil))))) (da_cons (de_lst (df_of (da_nil))) (da_nil)))))))))))))))) (db_one (ds_ret (de_ix2 (de_bin opD_add (de_pv 2) (de_lst (df_of (da_cons (de_un opD_neg (de_int)) (da_cons (de_int) (da_cons (de_tup (df_of (da_cons (de_lst (df_of (da_cons (de_str) (da_cons (de_str) (da_nil))))) (da_cons (de_lst (df_of (da_cons (de_lst (df_of (da_cons (de_lst (df_of (da_cons (de_tup (df_of (da_cons (de_int) (da_cons (de_int) (da_nil))))) (da_nil)))) (da_nil)))) (da_nil)))) (da_cons (de_lst (df_of (da_cons (de_tup (df_of (da_cons (de_int) (da_cons (de_int) (da_nil))))) (da_nil)))) (da_nil)))))) (da_nil))))))) (de_call (ms := [true, false]) (ok__law_take T) (hr.mono (by decide)) T.g__law_take T.fn__law_take.kp T.b__law_take (da_cons (de_pv 0) (da_cons (de_int) (da_nil))) (len_cons (len_cons len_nil))) (fun _ _ => rfl)))))
theorem ok__law_kinds (T : Txt K mg ca fI fdI a fd) : FnD P w K mg base ca 1 (a 4) (fd 4) P__law_kinds m__law_kinds :=
  fn_d T.fn__law_kinds sc__law_kinds (by decide) fun cdv A outer s H E hr => db_cons (ds_name 1 sc__law_kinds.nd (de_lst (df_of (da_cons (de_callB (callD_isi T.tab) (by rfl) T.z_isinstance (by decide +kernel) (da_cons (de_pv 0) (da_cons (de_cls (c := 17) T.g_NotIntegers) (da_nil)))) (da_cons (de_callB (callD_isi T.tab) (by rfl) T.z_isinstance (by decide +kernel) (da_cons (de_pv 0) (da_cons (de_cls (c := 18) T.g_NotCounting) (da_nil)))) (da_cons (de_callB (callD_isi T.tab) (by rfl) T.z_isinstance (by decide +kernel) (da_cons (de_pv 0) (da_cons (de_cls (c := 19) T.g_TooGreat) (da_nil)))) (da_nil))))))) (db_cons (ds_name 1 sc__law_kinds.nd (de_bin opD_add (de_pv 1) (de_lst (df_of (da_cons (de_callB (callD_isi T.tab) (by rfl) T.z_isinstance (by decide +kernel) (da_cons (de_pv 0) (da_cons (de_cls (c := 1) T.g_InvalidNumber) (da_nil)))) (da_cons (de_callB (callD_isi T.tab) (by rfl) T.z_isinstance (by decide +kernel) (da_cons (de_pv 0) (da_cons (de_cls (c := 2) T.g_InvalidSigns) (da_nil)))) (da_cons (de_callB (callD_isi T.tab) (by rfl) T.z_isinstance (by decide +kernel) (da_cons (de_pv 0) (da_cons (de_cls (c := 3) T.g_UnknownSign) (da_nil)))) (da_nil)))))))) (db_cons (ds_name 1 sc__law_kinds.nd (de_bin opD_add (de_pv 1) (de_lst (df_of (da_cons (de_callB (callD_isi T.tab) (by rfl) T.z_isinstance (by decide +kernel) (da_cons (de_pv 0) (da_cons (de_cls (c := 4) T.g_InvalidMachine) (da_nil)))) (da_cons (de_callB (callD_isi T.tab) (by rfl) T.z_isinstance (by decide +kernel) (da_cons (de_pv 0) (da_cons (de_cls (c := 5) T.g_UnlikeSigns) (da_nil)))) (da_cons (de_callB (callD_isi T.tab) (by rfl) T.z_isinstance (by decide +kernel) (da_cons (de_pv 0) (da_cons (de_cls (c := 6) T.g_Endless) (da_nil)))) (da_nil)))))))) (db_cons (ds_name 1 sc__law_kinds.nd (de_bin opD_add (de_pv 1) (de_lst (df_of (da_cons (de_callB (callD_isi T.tab) (by rfl) T.z_isinstance (by decide +kernel) (da_cons (de_pv 0) (da_cons (de_cls (c := 7) T.g_InvalidPattern) (da_nil)))) (da_cons (de_callB (callD_isi T.tab) (by rfl) T.z_isinstance (by decide +kernel) (da_cons (de_pv 0) (da_cons (de_cls (c := 8) T.g_InvalidBook) (da_nil)))) (da_cons (de_callB (callD_isi T.tab) (by rfl) T.z_isinstance (by decide +kernel) (da_cons (de_pv 0) (da_cons (de_cls (c := 9) T.g_InvalidName) (da_nil)))) (da_nil)))))))) (db_cons (ds_name 1 sc__law_kinds.nd (de_bin opD_add (de_pv 1) (de_lst (df_of (da_cons (de_callB (callD_isi T.tab) (by rfl) T.z_isinstance (by decide +kernel) (da_cons (de_pv 0) (da_cons (de_cls (c := 10) T.g_DoubleName) (da_nil)))) (da_cons (de_callB (callD_isi T.tab) (by rfl) T.z_isinstance (by decide +kernel) (da_cons (de_pv 0) (da_cons (de_cls (c := 11) T.g_UnknownName) (da_nil)))) (da_cons (de_callB (callD_isi T.tab) (by rfl) T.z_isinstance (by decide +kernel) (da_cons (de_pv 0) (da_cons (de_cls (c := 12) T.g_InvalidNote) (da_nil)))) (da_nil)))))))) (db_cons (ds_name 1 sc__law_kinds.nd (de_bin opD_add (de_pv 1) (de_lst (df_of (da_cons (de_callB (callD_isi T.tab) (by rfl) T.z_isinstance (by decide +kernel) (da_cons (de_pv 0) (da_cons (de_cls (c := 13) T.g_InvalidSource) (da_nil)))) (da_cons (de_callB (callD_isi T.tab) (by rfl) T.z_isinstance (by decide +kernel) (da_cons (de_pv 0) (da_cons (de_cls (c := 14) T.g_NoChance) (da_nil)))) (da_cons (de_callB (callD_isi T.tab) (by rfl) T.z_isinstance (by decide +kernel) (da_cons (de_pv 0) (da_cons (de_cls (c := 15) T.g_NothingToUndo) (da_nil)))) (da_nil)))))))) (db_one (ds_retO (de_bin opD_add (de_pv 1) (de_lst (df_of (da_cons (de_callB (callD_isi T.tab) (by rfl) T.z_isinstance (by decide +kernel) (da_cons (de_pv 0) (da_cons (de_cls (c := 16) T.g_Unreadable) (da_nil)))) (da_nil))))))))))))
theorem ok__law_same (T : Txt K mg ca fI fdI a fd) : ∀ n, FnD P w K mg base ca (1 + n) (a 5) (fd 5) P__law_same (m__law_same n)
  | 0 => fn_none 0 T.fn__law_same sc__law_same (by decide)
  | n + 1 => by
    have hs := ok__law_same T n
    exact fn_d T.fn__law_same sc__law_same (by decide) fun cdv A outer s H E hr => db_cons (ds_if (dt_cmp opD_isN (de_pv 1) (de_non) (nomark _)) (db_one (ds_retO (de_cmp opD_isN (de_pv 0) (de_non) (nomark _)))) (db_nil)) (db_cons (ds_if (dt_tru (de_callB (callD_isi T.tab) (by rfl) T.z_isinstance (by decide +kernel) (da_cons (de_pv 1) (da_cons (de_tup (df_of (da_cons (de_ty (n := "bool") T.z_bool (by decide +kernel)) (da_cons (de_ty (n := "str") T.z_str (by decide +kernel)) (da_nil))))) (da_nil))))) (db_one (ds_retO (de_and (de_cmp (opD_eq hr.units) (de_callB (callD_isi T.tab) (by rfl) T.z_isinstance (by decide +kernel) (da_cons (de_pv 0) (da_cons (de_ty (n := "bool") T.z_bool (by decide +kernel)) (da_nil)))) (de_callB (callD_isi T.tab) (by rfl) T.z_isinstance (by decide +kernel) (da_cons (de_pv 1) (da_cons (de_ty (n := "bool") T.z_bool (by decide +kernel)) (da_nil)))) (nomark _)) (de_and (de_callB (callD_isi T.tab) (by rfl) T.z_isinstance (by decide +kernel) (da_cons (de_pv 0) (da_cons (de_tup (df_of (da_cons (de_ty (n := "bool") T.z_bool (by decide +kernel)) (da_cons (de_ty (n := "str") T.z_str (by decide +kernel)) (da_nil))))) (da_nil)))) (de_one (de_cmp (opD_eq hr.units) (de_pv 0) (de_pv 1) (nomark _))))))) (db_nil)) (db_cons (ds_if (dt_tru (de_callB (callD_isi T.tab) (by rfl) T.z_isinstance (by decide +kernel) (da_cons (de_pv 1) (da_cons (de_ty (n := "int") T.z_int (by decide +kernel)) (da_nil))))) (db_one (ds_retO (de_and (de_callB (callD_isi T.tab) (by rfl) T.z_isinstance (by decide +kernel) (da_cons (de_pv 0) (da_cons (de_ty (n := "int") T.z_int (by decide +kernel)) (da_nil)))) (de_and (de_not (de_callB (callD_isi T.tab) (by rfl) T.z_isinstance (by decide +kernel) (da_cons (de_pv 0) (da_cons (de_ty (n := "bool") T.z_bool (by decide +kernel)) (da_nil))))) (de_one (de_cmp (opD_eq hr.units) (de_pv 0) (de_pv 1) (nomark _))))))) (db_nil)) (db_cons (ds_if (dt_bool (dw_or (dt_cmp (opD_ne hr.units) (de_callB (callD_isi T.tab) (by rfl) T.z_isinstance (by decide +kernel) (da_cons (de_pv 1) (da_cons (de_ty (n := "list") T.z_list (by decide +kernel)) (da_nil)))) (de_callB (callD_isi T.tab) (by rfl) T.z_isinstance (by decide +kernel) (da_cons (de_pv 0) (da_cons (de_ty (n := "list") T.z_list (by decide +kernel)) (da_nil)))) (nomark _)) (dw_or1 (dt_cmp (opD_ne hr.units) (de_callB (callD_isi T.tab) (by rfl) T.z_isinstance (by decide +kernel) (da_cons (de_pv 1) (da_cons (de_ty (n := "tuple") T.z_tuple (by decide +kernel)) (da_nil)))) (de_callB (callD_isi T.tab) (by rfl) T.z_isinstance (by decide +kernel) (da_cons (de_pv 0) (da_cons (de_ty (n := "tuple") T.z_tuple (by decide +kernel)) (da_nil)))) (nomark _))))) (db_one (ds_retO (de_bl))) (db_nil)) (db_one (ds_retO (de_and (de_cmp (opD_eq hr.units) (de_callB callD_len (by rfl) T.z_len (by decide +kernel) (da_cons (de_pv 0) (da_nil))) (de_callB callD_len (by rfl) T.z_len (by decide +kernel) (da_cons (de_pv 1) (da_nil))) (nomark _)) (de_one (de_callB (callD_all rfl) (by rfl) T.z_all (by decide +kernel) (da_cons (de_lc (own := [(("k" : Str), 2)]) rfl sc__law_same.nd (di_range1 T.z_range (da_cons (de_callB callD_len (by rfl) T.z_len (by decide +kernel) (da_cons (de_pv 1) (da_nil))) (da_nil))) (blkOk_by (own := [(("k" : Str), 2)]) (N := N__law_same) (sc := defScope S__law_same) (by decide +kernel)) (fun _ _ _ _ _ => dg_nm 2 sc__law_same.nd) (fun _ _ _ _ _ => dts_nil) (fun _ _ _ _ _ => de_call (ms := [false, false]) hs hr T.g__law_same T.fn__law_same.kp T.b__law_same (da_cons (de_ix2 (de_pv 0) (de_pv 2) (fun _ _ => rfl)) (da_cons (de_ix2 (de_pv 1) (de_pv 2) (fun _ _ => rfl)) (da_nil))) (len_cons (len_cons len_nil)))) (da_nil))))))))))
theorem ok__law_right (T : Txt K mg ca fI fdI a fd) : FnD P w K mg base ca 10 (a 6) (fd 6) P__law_right m__law_right :=
  fn_d T.fn__law_right sc__law_right (by decide) fun cdv A outer s H E hr => db_cons (ds_if (dt_bool (dw_or (dt_cmp opD_isN (de_pv 0) (de_non) (nomark _)) (dw_or1 (dt_not (dt_tru (de_callB (callD_isi T.tab) (by rfl) T.z_isinstance (by decide +kernel) (da_cons (de_pv 0) (da_cons (de_ty (n := "ValueError") T.z_ValueError (by decide +kernel)) (da_nil))))))))) (db_one (ds_retO (de_bl))) (db_nil)) (db_one (ds_retO (de_and (de_call (ms := [false, false]) (ok__law_same T 8) (hr.mono (by decide)) T.g__law_same T.fn__law_same.kp T.b__law_same (da_cons (de_call (ms := [false]) (ok__law_kinds T) (hr.mono (by decide)) T.g__law_kinds T.fn__law_kinds.kp T.b__law_kinds (da_cons (de_pv 0) (da_nil)) (len_cons len_nil)) (da_cons (de_lc (own := [(("k" : Str), 3)]) rfl sc__law_right.nd (di_range1 T.z_range (da_cons (de_int) (da_nil))) (blkOk_by (own := [(("k" : Str), 3)]) (N := N__law_right) (sc := defScope S__law_right) (by decide +kernel)) (fun _ _ _ _ _ => dg_nm 3 sc__law_right.nd) (fun _ _ _ _ _ => dts_nil) (fun _ _ _ _ _ => de_cmp (opD_eq hr.units) (de_pv 3) (de_pv 1) (nomark _))) (da_nil))) (len_cons (len_cons len_nil))) (de_one (de_call (ms := [false, false]) (ok__law_same T 8) (hr.mono (by decide)) T.g__law_same T.fn__law_same.kp T.b__law_same (da_cons (de_xv T.ex (de_pv 0)) (da_cons (de_pv 2) (da_nil))) (len_cons (len_cons len_nil)))))))
theorem ok_law (T : Txt K mg ca fI fdI a fd) : FnD P w K mg base ca 11 (a 7) (fd 7) P_law m_law :=
  fn_d T.fn_law sc_law (by decide) fun cdv A outer s H E hr => db_cons (ds_name 1 sc_law.nd (de_bin opD_add (de_lst (df_of (da_cons (de_int) (da_cons (de_int) (da_cons (de_int) (da_nil)))))) (de_callTy callD_list (by rfl) T.z_list (by decide +kernel) (da_cons (de_pv 0) (da_nil))))) (db_cons (ds_for rfl (di_range1 T.z_range (da_cons (de_callB (callD_max rfl) (by rfl) T.z_max (by decide +kernel) (da_cons (de_int) (da_cons (de_callB (callD_min rfl) (by rfl) T.z_min (by decide +kernel) (da_cons (de_int) (da_cons (de_callB callD_len (by rfl) T.z_len (by decide +kernel) (da_cons (de_pv 0) (da_nil))) (da_nil)))) (da_nil)))) (da_nil))) (dg_nm 2 sc_law.nd) (db_one (ds_for rfl (di_range1 T.z_range (da_cons (de_int) (da_nil))) (dg_nm 3 sc_law.nd) (db_cons (ds_three (i := 4) (j := 5) (l := 6) rfl sc_law.nd (de_call (ms := [true]) (ok__law_given T) (hr.mono (by decide)) T.g__law_given T.fn__law_given.kp T.b__law_given (da_cons (de_pv 1) (da_nil)) (len_cons len_nil)) (de_call (ms := [true]) (ok__law_given T) (hr.mono (by decide)) T.g__law_given T.fn__law_given.kp T.b__law_given (da_cons (de_pv 1) (da_nil)) (len_cons len_nil)) (de_cmp (opD_eq hr.units) (de_call (ms := [true, false]) (ok__law_take T) (hr.mono (by decide)) T.g__law_take T.fn__law_take.kp T.b__law_take (da_cons (de_pv 1) (da_cons (de_int) (da_nil))) (len_cons (len_cons len_nil))) (de_int) (nomark _))) (db_cons (ds_name 7 sc_law.nd (de_call (ms := [false, false, false]) (ok__law_caught T) (hr.mono (by decide)) T.g__law_caught T.fn__law_caught.kp T.b__law_caught (da_cons (de_pv 3) (da_cons (de_pv 4) (da_cons (de_pv 6) (da_nil)))) (len_cons (len_cons (len_cons len_nil))))) (db_cons (ds_name 8 sc_law.nd (de_call (ms := [false, false, false]) (ok__law_caught T) (hr.mono (by decide)) T.g__law_caught T.fn__law_caught.kp T.b__law_caught (da_cons (de_pv 3) (da_cons (de_pv 5) (da_cons (de_not (de_pv 6)) (da_nil)))) (len_cons (len_cons (len_cons len_nil))))) (db_one (ds_if (dt_bool (dw_or (dt_not (dt_tru (de_call (ms := [false, false, false]) (ok__law_right T) (hr.mono (by decide)) T.g__law_right T.fn__law_right.kp T.b__law_right (da_cons (de_pv 7) (da_cons (de_pv 3) (da_cons (de_pv 4) (da_nil)))) (len_cons (len_cons (len_cons len_nil)))))) (dw_or1 (dt_not (dt_tru (de_call (ms := [false, false, false]) (ok__law_right T) (hr.mono (by decide)) T.g__law_right T.fn__law_right.kp T.b__law_right (da_cons (de_pv 8) (da_cons (de_pv 3) (da_cons (de_pv 5) (da_nil)))) (len_cons (len_cons (len_cons len_nil))))))))) (db_one (ds_retO (de_bl))) (db_nil))))))))) (db_one (ds_retO (de_bl))))
end

end K09

namespace K09
open PySem PySem.Spec PyProof.Rows L2 DL

/-! ### the pot -/
abbrev ptD (a b i : Int) (cells : List Int) : D := .ol (.int a :: .int b :: .int i :: cells.map .int)
structure Pt (a b i : Int) (cells : List Int) : Prop where
  a0 : 0 ≤ a
  b0 : 0 ≤ b
  b1 : b < 2147483647
  i0 : 3 ≤ i
  i1 : i ≤ 3 + cells.length
  l : cells.length ≤ 63
theorem ix0 {x : Int} {ds : List D} : gIx [.ol (.int x :: ds), .int 0] = some (.int x) := by
  simp [gIx, seqD, atI, ixN, D.sh]
theorem ix1 {x : Int} {y : D} {ds : List D} : gIx [.ol (y :: .int x :: ds), .int 1] = some (.int x) := by
  have h : (1 : Int) < ((y :: D.int x :: ds).length : Int) := by simp; omega
  unfold gIx
  dsimp only [seqD]
  unfold atI ixN
  rw [if_pos (by decide), if_pos h]
  rfl
theorem ix2 {x : Int} {y z : D} {ds : List D} : gIx [.ol (y :: z :: .int x :: ds), .int 2] = some (.int x) := by
  have h : (2 : Int) < ((y :: z :: D.int x :: ds).length : Int) := by simp; omega
  unfold gIx
  dsimp only [seqD]
  unfold atI ixN
  rw [if_pos (by decide), if_pos h]
  rfl
theorem set0 {x y : D} {ds : List D} : gmSet (.ol (x :: ds)) [.int 0, y] = some (.ol (y :: ds), .non) := by
  have h : (0 : Int) < ((x :: ds).length : Int) := by simp
  unfold gmSet ixN
  dsimp only
  rw [if_pos (by decide), if_pos h]
  rfl
theorem set1 {w x y : D} {ds : List D} : gmSet (.ol (w :: x :: ds)) [.int 1, y] = some (.ol (w :: y :: ds), .non) := by
  have h : (1 : Int) < ((w :: x :: ds).length : Int) := by simp; omega
  unfold gmSet ixN
  dsimp only
  rw [if_pos (by decide), if_pos h]
  rfl
theorem aug2 {w x : D} {i : Int} {ds : List D} : gmAug (fun a b => a + b) 1 (.ol (w :: x :: .int i :: ds)) [.int 2] = some (.ol (w :: x :: .int (i + 1) :: ds), .non) := by
  have h : (2 : Int) < ((w :: x :: D.int i :: ds).length : Int) := by simp; omega
  unfold gmAug ixN
  dsimp only
  rw [if_pos (by decide), if_pos h]
  rfl
theorem ixc {x y z : D} {i : Int} {cells : List Int} (h0 : 3 ≤ i) (h1 : i < 3 + cells.length) : ∃ c : Int, gIx [.ol (x :: y :: z :: cells.map .int), .int i] = some (.int c) := by
  have hj : (i - 3).toNat < cells.length := by omega
  refine ⟨cells[(i - 3).toNat], ?_⟩
  have h : i < ((x :: y :: z :: cells.map D.int).length : Int) := by simp; omega
  unfold gIx
  dsimp only [seqD]
  unfold atI ixN
  rw [if_pos (by omega), if_pos h]
  have e : i.toNat = (i - 3).toNat + 3 := by omega
  rw [Option.bind_some, e]
  show (match (cells.map D.int)[(i - 3).toNat]? with | some d => if d.sh = true then some d else none | none => none) = _
  rw [List.getElem?_map, List.getElem?_eq_getElem hj]
  rfl
theorem lg_small {z : Int} (h0 : 0 ≤ z) (h1 : z < 2 ^ 64) : lg z < 9000 := Nat.lt_of_le_of_lt (lg_le (k := 64) (by omega)) (by decide)
theorem lg_two {x y : Int} (h0 : 0 ≤ x) (h1 : x < 2 ^ 64) (h2 : 0 ≤ y) (h3 : y < 2 ^ 64) : lg x + lg y < 1000000 := by
  have := lg_small h0 h1
  have := lg_small h2 h3
  omega
def st1 (b i : Int) : Int := (b * 48271 + 40692 * i + 11).fmod 2147483647
def st2 (b i : Int) : Int := (st1 b i * st1 b i + 7).fmod 2147483629
theorem take_ok {a b i many : Int} {cells : List Int} (h : Pt a b i cells) (m1 : 1 ≤ many) (m2 : many ≤ 10 ^ 9) :
    ∃ (a' b' i' r : Int), m__law_take [ptD a b i cells, .int many] = some (.ok (.int r) [ptD a' b' i' cells, .int many]) ∧ 0 ≤ r ∧ r < many ∧ Pt a' b' i' cells := by
  obtain ⟨a0, b0, b1, i0, i1, hl⟩ := h
  have mn : many ≠ 0 := by omega
  have lm : lg many < 9000 := lg_small (by omega) (by omega)
  have l8 : lg 8 < 9000 := lg_small (by decide) (by decide)
  have fr : ∀ z : Int, 0 ≤ z.fmod many ∧ z.fmod many < many := fun z => fmod_nn (by omega)
  -- drawn of a
  have draw : ∀ (a b i : Int), 0 < a → 0 ≤ b → b < 2147483647 → 3 ≤ i → i ≤ 3 + cells.length → Pt (a.fdiv many) b i cells := fun a b i h1 h2 h3 h4 h5 => ⟨(fdiv_nn (by omega) (by omega)).1, h2, h3, h4, h5, hl⟩
  -- stirred
  have stir : ∀ (b i : Int), 0 ≤ b → b < 2147483647 → 3 ≤ i → i ≤ 3 + cells.length → lg b + lg 48271 < 1000000 ∧ lg 40692 + lg i < 1000000 ∧ lg ((b * 48271 + 40692 * i + 11).fmod 2147483647) + lg ((b * 48271 + 40692 * i + 11).fmod 2147483647) < 1000000 ∧
      Pt 0 (st2 b i) i cells := fun b i h2 h3 h4 h5 => by
    have f1 := fmod_nn (a := b * 48271 + 40692 * i + 11) (b := 2147483647) (by decide)
    have f2 := fmod_nn (a := (b * 48271 + 40692 * i + 11).fmod 2147483647 * (b * 48271 + 40692 * i + 11).fmod 2147483647 + 7) (b := 2147483629) (by decide)
    exact ⟨lg_two h2 (by omega) (by decide) (by decide), lg_two (by decide) (by decide) (by omega) (by omega), lg_two f1.1 (by omega) f1.1 (by omega), by decide, f2.1, by have := f2.2; unfold st2 st1; omega, h4, h5, hl⟩
  by_cases ha : a = 0
  · subst ha
    by_cases hi : i < 3 + cells.length
    · obtain ⟨c, ec⟩ := ixc (x := .int 0) (y := .int b) (z := .int i) i0 hi
      have hi' : i < ↑cells.length + 1 + 1 + 1 := by omega
      by_cases hc : (10 : Int) ^ 18 ≤ c
      · have hc' : (1000000000000000000 : Int) ≤ c := hc
        by_cases hz : 0 < c - 1000000000000000000
        · have hz' : 1000000000000000000 < c := by omega
          refine ⟨_, b, i + 1, (c - 1000000000000000000).fmod many, ?_, (fr _).1, (fr _).2, draw (c - 1000000000000000000) b (i + 1) hz b0 b1 (by omega) (by omega)⟩
          simp (config := {decide := true}) [r_fn, parOk, D.sh, frzAt, frz, frzL, outsD, List.range_succ, DL.gTup, DL.gLst, gGcd, gLt, gLe, gGt, gGe, gNeg, gDiv, gMod, gPow, DL.gSub, gAdd, gMul, gAbs, gInt, gLen, gEq, gNe, gItL, gRng1, isLst, gmInsert, gmAppend, ixR, truD, DL.isNon, ixN, atI, lstD, seqD, gIsN, gNotN, m__law_take, f__law_take, ix0, ix1, ix2, set0, set1, aug2, ec, hi', hc', hz, hz', mn, lm]
        · have hc0 : c = 1000000000000000000 := by omega
          subst hc0
          obtain ⟨g1, g2, g3, hp⟩ := stir b (i + 1) b0 b1 (by omega) (by omega)
          refine ⟨0, st2 b (i + 1), i + 1, ((st2 b (i + 1)).fdiv 8).fmod many, ?_, (fr _).1, (fr _).2, hp⟩
          simp (config := {decide := true}) [r_fn, parOk, D.sh, frzAt, frz, frzL, outsD, List.range_succ, DL.gTup, DL.gLst, gGcd, gLt, gLe, gGt, gGe, gNeg, gDiv, gMod, gPow, DL.gSub, gAdd, gMul, gAbs, gInt, gLen, gEq, gNe, gItL, gRng1, isLst, gmInsert, gmAppend, ixR, truD, DL.isNon, ixN, atI, lstD, seqD, gIsN, gNotN, st1, st2, m__law_take, f__law_take, ix0, ix1, ix2, set0, set1, aug2, ec, hi', mn, lm, l8, g1, g2, g3]
      · have hc' : ¬ (1000000000000000000 : Int) ≤ c := hc
        have f1 := fmod_nn (a := c) (b := 2147483647) (by decide)
        have k1 : lg (c.fmod 2147483647) + lg (c.fmod 2147483647) < 1000000 := lg_two f1.1 (by omega) f1.1 (by omega)
        have k2 : lg 69621 + lg (c.fmod 2147483647) < 1000000 := lg_two (by decide) (by decide) f1.1 (by omega)
        have k3 : lg 977 + lg (i + 1) < 1000000 := lg_two (by decide) (by decide) (by omega) (by omega)
        have f2 := fmod_nn (a := b + (c.fmod 2147483647 * c.fmod 2147483647 + 69621 * c.fmod 2147483647 + 977 * (i + 1))) (b := 2147483629) (by decide)
        obtain ⟨g1, g2, g3, hp⟩ := stir ((b + (c.fmod 2147483647 * c.fmod 2147483647 + 69621 * c.fmod 2147483647 + 977 * (i + 1))).fmod 2147483629) (i + 1) f2.1 (by omega) (by omega) (by omega)
        refine ⟨0, st2 ((b + (c.fmod 2147483647 * c.fmod 2147483647 + 69621 * c.fmod 2147483647 + 977 * (i + 1))).fmod 2147483629) (i + 1), i + 1, ((st2 ((b + (c.fmod 2147483647 * c.fmod 2147483647 + 69621 * c.fmod 2147483647 + 977 * (i + 1))).fmod 2147483629) (i + 1)).fdiv 8).fmod many, ?_, (fr _).1, (fr _).2, hp⟩
        simp (config := {decide := true}) [r_fn, parOk, D.sh, frzAt, frz, frzL, outsD, List.range_succ, DL.gTup, DL.gLst, gGcd, gLt, gLe, gGt, gGe, gNeg, gDiv, gMod, gPow, DL.gSub, gAdd, gMul, gAbs, gInt, gLen, gEq, gNe, gItL, gRng1, isLst, gmInsert, gmAppend, ixR, truD, DL.isNon, ixN, atI, lstD, seqD, gIsN, gNotN, st1, st2, m__law_take, f__law_take, ix0, ix1, ix2, set0, set1, aug2, ec, hi', hc', mn, lm, l8, g1, g2, g3, k1, k2, k3]
    · have hi' : ¬ i < ↑cells.length + 1 + 1 + 1 := by omega
      obtain ⟨g1, g2, g3, hp⟩ := stir b i b0 b1 i0 i1
      refine ⟨0, st2 b i, i, ((st2 b i).fdiv 8).fmod many, ?_, (fr _).1, (fr _).2, hp⟩
      simp (config := {decide := true}) [r_fn, parOk, D.sh, frzAt, frz, frzL, outsD, List.range_succ, DL.gTup, DL.gLst, gGcd, gLt, gLe, gGt, gGe, gNeg, gDiv, gMod, gPow, DL.gSub, gAdd, gMul, gAbs, gInt, gLen, gEq, gNe, gItL, gRng1, isLst, gmInsert, gmAppend, ixR, truD, DL.isNon, ixN, atI, lstD, seqD, gIsN, gNotN, st1, st2, m__law_take, f__law_take, ix0, ix1, ix2, set0, set1, aug2, hi', mn, lm, l8, g1, g2, g3]
  · have hp : 0 < a := by omega
    refine ⟨_, b, i, a.fmod many, ?_, (fr _).1, (fr _).2, draw a b i hp b0 b1 i0 i1⟩
    simp (config := {decide := true}) [r_fn, parOk, D.sh, frzAt, frz, frzL, outsD, List.range_succ, DL.gTup, DL.gLst, gGcd, gLt, gLe, gGt, gGe, gNeg, gDiv, gMod, gPow, DL.gSub, gAdd, gMul, gAbs, gInt, gLen, gEq, gNe, gItL, gRng1, isLst, gmInsert, gmAppend, ixR, truD, DL.isNon, ixN, atI, lstD, seqD, gIsN, gNotN, m__law_take, f__law_take, ix0, ix1, ix2, set0, set1, aug2, ha, hp, mn, lm]
/-! ### what is made -/
theorem ho : others N__law_same.length [2] = [0, 1] := rfl
theorem dI0 : dInts 0 0 = [] := rfl
theorem dI1 : dInts 0 1 = [.int 0] := rfl
theorem dI2 : dInts 0 2 = [.int 0, .int 1] := rfl
theorem dI3 : dInts 0 3 = [.int 0, .int 1, .int 2] := rfl
theorem same_int (n : Nat) (x : Int) : m__law_same (n + 1) [.int x, .int x] = some (.ok (.bl true) [.int x, .int x]) := by
  simp (config := {decide := true}) [r_fn, parOk, D.sh, frzAt, frz, frzL, outsD, List.range_succ, DL.gTup, DL.gLst, gGcd, gLt, gLe, gGt, gGe, gNeg, gDiv, gMod, gPow, DL.gSub, gAdd, gMul, gAbs, gInt, gLen, gEq, gNe, gItL, gRng1, isLst, gmInsert, gmAppend, gmSet, gIx, ixR, truD, DL.isNon, ixN, atI, lstD, seqD, gIsN, gNotN, m__law_same, f__law_same, tab]
theorem same_bl (n : Nat) (x : Bool) : m__law_same (n + 1) [.bl x, .bl x] = some (.ok (.bl true) [.bl x, .bl x]) := by
  simp (config := {decide := true}) [r_fn, parOk, D.sh, frzAt, frz, frzL, outsD, List.range_succ, DL.gTup, DL.gLst, gGcd, gLt, gLe, gGt, gGe, gNeg, gDiv, gMod, gPow, DL.gSub, gAdd, gMul, gAbs, gInt, gLen, gEq, gNe, gItL, gRng1, isLst, gmInsert, gmAppend, gmSet, gIx, ixR, truD, DL.isNon, ixN, atI, lstD, seqD, gIsN, gNotN, m__law_same, f__law_same, tab]
theorem same_str (n : Nat) (x : Str) : m__law_same (n + 1) [.str x, .str x] = some (.ok (.bl true) [.str x, .str x]) := by
  simp (config := {decide := true}) [r_fn, parOk, D.sh, frzAt, frz, frzL, outsD, List.range_succ, DL.gTup, DL.gLst, gGcd, gLt, gLe, gGt, gGe, gNeg, gDiv, gMod, gPow, DL.gSub, gAdd, gMul, gAbs, gInt, gLen, gEq, gNe, gItL, gRng1, isLst, gmInsert, gmAppend, gmSet, gIx, ixR, truD, DL.isNon, ixN, atI, lstD, seqD, gIsN, gNotN, m__law_same, f__law_same, tab]
theorem same_non (n : Nat) : m__law_same (n + 1) [.non, .non] = some (.ok (.bl true) [.non, .non]) := by
  simp (config := {decide := true}) [r_fn, parOk, D.sh, frzAt, frz, frzL, outsD, List.range_succ, DL.gTup, DL.gLst, gGcd, gLt, gLe, gGt, gGe, gNeg, gDiv, gMod, gPow, DL.gSub, gAdd, gMul, gAbs, gInt, gLen, gEq, gNe, gItL, gRng1, isLst, gmInsert, gmAppend, gmSet, gIx, ixR, truD, DL.isNon, ixN, atI, lstD, seqD, gIsN, gNotN, m__law_same, f__law_same, tab]

theorem sh_t (x : List D) : (D.tup x).sh = true := rfl
theorem sh_l (x : List D) : (D.lst x).sh = true := rfl
theorem sh_i (x : Int) : (D.int x).sh = true := rfl
theorem sh_y (x : String) : (D.ty x).sh = true := rfl
theorem fz_t (x : List D) : frz (D.tup x) = .tup x := rfl
theorem fz_l (x : List D) : frz (D.lst x) = .lst x := rfl
theorem fz_i (x : Int) : frz (D.int x) = .int x := rfl
theorem fz_y (x : String) : frz (D.ty x) = .ty x := rfl
theorem fz_b (x : Bool) : frz (D.bl x) = .bl x := rfl
theorem same_t0 (n : Nat) : m__law_same (n + 1) [.tup [], .tup []] = some (.ok (.bl true) [.tup [], .tup []]) := by
  simp (config := {decide := true}) [r_fn, parOk, D.sh, frzAt, frz, frzL, outsD, List.range_succ, DL.gTup, DL.gLst, gGcd, gLt, gLe, gGt, gGe, gNeg, gDiv, gMod, gPow, DL.gSub, gAdd, gMul, gAbs, gInt, gLen, gEq, gNe, gItL, gRng1, isLst, gmInsert, gmAppend, gmSet, gIx, ixR, truD, DL.isNon, ixN, atI, lstD, seqD, gIsN, gNotN, m__law_same, f__law_same, tab, comp_0, dI0]
theorem same_l0 (n : Nat) : m__law_same (n + 1) [.lst [], .lst []] = some (.ok (.bl true) [.lst [], .lst []]) := by
  simp (config := {decide := true}) [r_fn, parOk, D.sh, frzAt, frz, frzL, outsD, List.range_succ, DL.gTup, DL.gLst, gGcd, gLt, gLe, gGt, gGe, gNeg, gDiv, gMod, gPow, DL.gSub, gAdd, gMul, gAbs, gInt, gLen, gEq, gNe, gItL, gRng1, isLst, gmInsert, gmAppend, gmSet, gIx, ixR, truD, DL.isNon, ixN, atI, lstD, seqD, gIsN, gNotN, m__law_same, f__law_same, tab, comp_0, dI0]
theorem same_t1 {n : Nat} {x : D} (sx : x.sh = true) (fx : frz x = x) (hx : m__law_same n [x, x] = some (.ok (.bl true) [x, x])) : m__law_same (n + 1) [.tup [x], .tup [x]] = some (.ok (.bl true) [.tup [x], .tup [x]]) := by
  show fnD N__law_same.length P__law_same.length [] (f__law_same (m__law_same n)) _ = _
  simp (config := {decide := true}) [r_fn, parOk, frzAt, frzL, outsD, List.range_succ, DL.gTup, DL.gLst, gGcd, gLt, gLe, gGt, gGe, gNeg, gDiv, gMod, gPow, DL.gSub, gAdd, gMul, gAbs, gInt, gLen, gEq, gNe, gItL, gRng1, isLst, gmInsert, gmAppend, gmSet, gIx, ixR, truD, DL.isNon, ixN, atI, lstD, seqD, gIsN, gNotN, sh_t, sh_l, sh_i, sh_y, fz_t, fz_l, fz_i, fz_y, fz_b, f__law_same, tab, comp_1, comp_0, dI1, ho, sx, fx, hx]
theorem same_t2 {n : Nat} {x y : D} (sx : x.sh = true) (fx : frz x = x) (hx : m__law_same n [x, x] = some (.ok (.bl true) [x, x])) (sy : y.sh = true) (fy : frz y = y) (hy : m__law_same n [y, y] = some (.ok (.bl true) [y, y])) : m__law_same (n + 1) [.tup [x, y], .tup [x, y]] = some (.ok (.bl true) [.tup [x, y], .tup [x, y]]) := by
  show fnD N__law_same.length P__law_same.length [] (f__law_same (m__law_same n)) _ = _
  simp (config := {decide := true}) [r_fn, parOk, frzAt, frzL, outsD, List.range_succ, DL.gTup, DL.gLst, gGcd, gLt, gLe, gGt, gGe, gNeg, gDiv, gMod, gPow, DL.gSub, gAdd, gMul, gAbs, gInt, gLen, gEq, gNe, gItL, gRng1, isLst, gmInsert, gmAppend, gmSet, gIx, ixR, truD, DL.isNon, ixN, atI, lstD, seqD, gIsN, gNotN, sh_t, sh_l, sh_i, sh_y, fz_t, fz_l, fz_i, fz_y, fz_b, f__law_same, tab, comp_1, comp_0, dI2, ho, sx, fx, hx, sy, fy, hy]
theorem same_t3 {n : Nat} {x y z : D} (sx : x.sh = true) (fx : frz x = x) (hx : m__law_same n [x, x] = some (.ok (.bl true) [x, x])) (sy : y.sh = true) (fy : frz y = y) (hy : m__law_same n [y, y] = some (.ok (.bl true) [y, y])) (sz : z.sh = true) (fz : frz z = z) (hz : m__law_same n [z, z] = some (.ok (.bl true) [z, z])) : m__law_same (n + 1) [.tup [x, y, z], .tup [x, y, z]] = some (.ok (.bl true) [.tup [x, y, z], .tup [x, y, z]]) := by
  show fnD N__law_same.length P__law_same.length [] (f__law_same (m__law_same n)) _ = _
  simp (config := {decide := true}) [r_fn, parOk, frzAt, frzL, outsD, List.range_succ, DL.gTup, DL.gLst, gGcd, gLt, gLe, gGt, gGe, gNeg, gDiv, gMod, gPow, DL.gSub, gAdd, gMul, gAbs, gInt, gLen, gEq, gNe, gItL, gRng1, isLst, gmInsert, gmAppend, gmSet, gIx, ixR, truD, DL.isNon, ixN, atI, lstD, seqD, gIsN, gNotN, sh_t, sh_l, sh_i, sh_y, fz_t, fz_l, fz_i, fz_y, fz_b, f__law_same, tab, comp_1, comp_0, dI3, ho, sx, fx, hx, sy, fy, hy, sz, fz, hz]
theorem same_l1 {n : Nat} {x : D} (sx : x.sh = true) (fx : frz x = x) (hx : m__law_same n [x, x] = some (.ok (.bl true) [x, x])) : m__law_same (n + 1) [.lst [x], .lst [x]] = some (.ok (.bl true) [.lst [x], .lst [x]]) := by
  show fnD N__law_same.length P__law_same.length [] (f__law_same (m__law_same n)) _ = _
  simp (config := {decide := true}) [r_fn, parOk, frzAt, frzL, outsD, List.range_succ, DL.gTup, DL.gLst, gGcd, gLt, gLe, gGt, gGe, gNeg, gDiv, gMod, gPow, DL.gSub, gAdd, gMul, gAbs, gInt, gLen, gEq, gNe, gItL, gRng1, isLst, gmInsert, gmAppend, gmSet, gIx, ixR, truD, DL.isNon, ixN, atI, lstD, seqD, gIsN, gNotN, sh_t, sh_l, sh_i, sh_y, fz_t, fz_l, fz_i, fz_y, fz_b, f__law_same, tab, comp_1, comp_0, dI1, ho, sx, fx, hx]
theorem same_l2 {n : Nat} {x y : D} (sx : x.sh = true) (fx : frz x = x) (hx : m__law_same n [x, x] = some (.ok (.bl true) [x, x])) (sy : y.sh = true) (fy : frz y = y) (hy : m__law_same n [y, y] = some (.ok (.bl true) [y, y])) : m__law_same (n + 1) [.lst [x, y], .lst [x, y]] = some (.ok (.bl true) [.lst [x, y], .lst [x, y]]) := by
  show fnD N__law_same.length P__law_same.length [] (f__law_same (m__law_same n)) _ = _
  simp (config := {decide := true}) [r_fn, parOk, frzAt, frzL, outsD, List.range_succ, DL.gTup, DL.gLst, gGcd, gLt, gLe, gGt, gGe, gNeg, gDiv, gMod, gPow, DL.gSub, gAdd, gMul, gAbs, gInt, gLen, gEq, gNe, gItL, gRng1, isLst, gmInsert, gmAppend, gmSet, gIx, ixR, truD, DL.isNon, ixN, atI, lstD, seqD, gIsN, gNotN, sh_t, sh_l, sh_i, sh_y, fz_t, fz_l, fz_i, fz_y, fz_b, f__law_same, tab, comp_1, comp_0, dI2, ho, sx, fx, hx, sy, fy, hy]
theorem same_l3 {n : Nat} {x y z : D} (sx : x.sh = true) (fx : frz x = x) (hx : m__law_same n [x, x] = some (.ok (.bl true) [x, x])) (sy : y.sh = true) (fy : frz y = y) (hy : m__law_same n [y, y] = some (.ok (.bl true) [y, y])) (sz : z.sh = true) (fz : frz z = z) (hz : m__law_same n [z, z] = some (.ok (.bl true) [z, z])) : m__law_same (n + 1) [.lst [x, y, z], .lst [x, y, z]] = some (.ok (.bl true) [.lst [x, y, z], .lst [x, y, z]]) := by
  show fnD N__law_same.length P__law_same.length [] (f__law_same (m__law_same n)) _ = _
  simp (config := {decide := true}) [r_fn, parOk, frzAt, frzL, outsD, List.range_succ, DL.gTup, DL.gLst, gGcd, gLt, gLe, gGt, gGe, gNeg, gDiv, gMod, gPow, DL.gSub, gAdd, gMul, gAbs, gInt, gLen, gEq, gNe, gItL, gRng1, isLst, gmInsert, gmAppend, gmSet, gIx, ixR, truD, DL.isNon, ixN, atI, lstD, seqD, gIsN, gNotN, sh_t, sh_l, sh_i, sh_y, fz_t, fz_l, fz_i, fz_y, fz_b, f__law_same, tab, comp_1, comp_0, dI3, ho, sx, fx, hx, sy, fy, hy, sz, fz, hz]

def Good (v : D) : Prop := v.sh = true ∧ frz v = v ∧ m__law_same 8 [v, v] = some (.ok (.bl true) [v, v])
theorem good15 {F t r : Int} (h0 : 0 ≤ r) (h1 : r < 15) : ∃ v, gIx [.ol [.int F, .int t, .str "", .str "a b", .non, .bl true, .bl false, .tup [], .tup [.int F, .int 1], .lst [.int F, .str "x"], .tup [.tup [.int 1, .int 2], .tup [.str "a", .tup []]], .lst [], .int (-1), .int 0,
    .tup [.lst [.str "", .str "a"], .lst [.lst [.lst [.tup [.int 1, .int 2]]]], .lst [.tup [.int 1, .int 1]]]], .int r] = some v ∧ Good v := by
  have i : ∀ n x, m__law_same (n + 1) [.int x, .int x] = _ := same_int
  have s : ∀ n x, m__law_same (n + 1) [.str x, .str x] = _ := same_str
  have two : ∀ n x y, m__law_same (n + 2) [.tup [.int x, .int y], .tup [.int x, .int y]] = some (.ok (.bl true) [.tup [.int x, .int y], .tup [.int x, .int y]]) := fun n x y => same_t2 (n := n + 1) rfl rfl (i n x) rfl rfl (i n y)
  rcases (by omega : r = 0 ∨ r = 1 ∨ r = 2 ∨ r = 3 ∨ r = 4 ∨ r = 5 ∨ r = 6 ∨ r = 7 ∨ r = 8 ∨ r = 9 ∨ r = 10 ∨ r = 11 ∨ r = 12 ∨ r = 13 ∨ r = 14) with rfl | rfl | rfl | rfl | rfl | rfl | rfl | rfl | rfl | rfl | rfl | rfl | rfl | rfl | rfl
  · exact ⟨_, rfl, rfl, rfl, i 7 _⟩
  · exact ⟨_, rfl, rfl, rfl, i 7 _⟩
  · exact ⟨_, rfl, rfl, rfl, s 7 _⟩
  · exact ⟨_, rfl, rfl, rfl, s 7 _⟩
  · exact ⟨_, rfl, rfl, rfl, same_non 7⟩
  · exact ⟨_, rfl, rfl, rfl, same_bl 7 _⟩
  · exact ⟨_, rfl, rfl, rfl, same_bl 7 _⟩
  · exact ⟨_, rfl, rfl, rfl, same_t0 7⟩
  · exact ⟨_, rfl, rfl, rfl, two 6 _ _⟩
  · exact ⟨_, rfl, rfl, rfl, same_l2 (n := 7) rfl rfl (i 6 _) rfl rfl (s 6 _)⟩
  · exact ⟨_, rfl, rfl, rfl, same_t2 (n := 7) rfl rfl (two 5 _ _) rfl rfl (same_t2 (n := 6) rfl rfl (s 5 _) rfl rfl (same_t0 5))⟩
  · exact ⟨_, rfl, rfl, rfl, same_l0 7⟩
  · exact ⟨_, rfl, rfl, rfl, i 7 _⟩
  · exact ⟨_, rfl, rfl, rfl, i 7 _⟩
  · exact ⟨_, rfl, rfl, rfl, same_t3 (n := 7) rfl rfl (same_l2 (n := 6) rfl rfl (s 5 _) rfl rfl (s 5 _)) rfl rfl (same_l1 (n := 6) rfl rfl (same_l1 (n := 5) rfl rfl (same_l1 (n := 4) rfl rfl (two 2 _ _)))) rfl rfl (same_l1 (n := 6) rfl rfl (two 4 _ _))⟩
theorem given_ok {a b i : Int} {cells : List Int} (h : Pt a b i cells) : ∃ (a' b' i' : Int) (v : D), m__law_given [ptD a b i cells] = some (.ok v [ptD a' b' i' cells]) ∧ Good v ∧ Pt a' b' i' cells := by
  obtain ⟨a1, b1, i1, t1, e1, u1, w1, h1⟩ := take_ok (many := 1000000000) h (by decide) (by decide)
  obtain ⟨a2, b2, i2, t2, e2, u2, w2, h2⟩ := take_ok (many := 1000000000) h1 (by decide) (by decide)
  obtain ⟨a3, b3, i3, t3, e3, u3, w3, h3⟩ := take_ok (many := 9) h2 (by decide) (by decide)
  obtain ⟨a4, b4, i4, t4, e4, u4, w4, h4⟩ := take_ok (many := 15) h3 (by decide) (by decide)
  obtain ⟨v, ev, gv⟩ := good15 (F := t1 * 100000000000000000000 + t2 - 10000000000000000000000000000) (t := t3) u4 w4
  have g1 : lg t1 + lg 100000000000000000000 < 1000000 := by
    have := lg_le (i := t1) (k := 64) (by omega)
    have := lg_le (i := 100000000000000000000) (k := 80) (by decide)
    omega
  obtain ⟨k1, k2, k3⟩ := gv
  refine ⟨a4, b4, i4, v, ?_, ⟨k1, k2, k3⟩, h4⟩
  simp (config := {decide := true}) [r_fn, parOk, D.sh, frzAt, frz, frzL, outsD, List.range_succ, DL.gTup, DL.gLst, gGcd, gLt, gLe, gGt, gGe, gNeg, gDiv, gMod, gPow, DL.gSub, gAdd, gMul, gAbs, gInt, gLen, gEq, gNe, gItL, gRng1, isLst, gmInsert, gmAppend, gmSet, ixR, truD, DL.isNon, ixN, atI, lstD, seqD, gIsN, gNotN, m__law_given, f__law_given, e1, e2, e3, e4, ev, g1, allSh, k2]
theorem sh_e (c : Nat) (x : D) : (D.exc c x).sh = true := rfl
theorem fz_e (c : Nat) (x : D) : frz (D.exc c x) = .exc c x := rfl
theorem sh_b (x : Bool) : (D.bl x).sh = true := rfl
theorem sh_n : D.non.sh = true := rfl
theorem fz_n : frz D.non = .non := rfl
theorem dI19 : dInts 0 19 = [.int 0, .int 1, .int 2, .int 3, .int 4, .int 5, .int 6, .int 7, .int 8, .int 9, .int 10, .int 11, .int 12, .int 13, .int 14, .int 15, .int 16, .int 17, .int 18] := rfl
theorem ho3 : others N__law_right.length [3] = [0, 1, 2] := rfl
theorem fz_o (x : List D) : frz (D.ol x) = .lst (frzL x) := rfl

theorem raised0 {v : D} (b : Bool) (hs : v.sh = true) (hf : frz v = v) : m__law_raised [.int 0, v, .bl b] = some (.exc (.exc 17 v) [.int 0, v, .bl b]) := by
  cases b
  · simp (config := {decide := true}) [r_fn, parOk, frzAt, frzL, outsD, List.range_succ, DL.gTup, DL.gLst, gGcd, gLt, gLe, gGt, gGe, gNeg, gDiv, gMod, gPow, DL.gSub, gAdd, gMul, gAbs, gInt, gLen, gEq, gNe, gItL, gRng1, isLst, gmInsert, gmAppend, gmSet, gIx, ixR, truD, DL.isNon, ixN, atI, lstD, seqD, gIsN, gNotN, sh_t, sh_l, sh_i, sh_y, sh_e, sh_b, sh_n, fz_t, fz_l, fz_i, fz_y, fz_b, fz_e, fz_n, hs, hf, m__law_raised, f__law_raised]
  · simp (config := {decide := true}) [r_fn, parOk, frzAt, frzL, outsD, List.range_succ, DL.gTup, DL.gLst, gGcd, gLt, gLe, gGt, gGe, gNeg, gDiv, gMod, gPow, DL.gSub, gAdd, gMul, gAbs, gInt, gLen, gEq, gNe, gItL, gRng1, isLst, gmInsert, gmAppend, gmSet, gIx, ixR, truD, DL.isNon, ixN, atI, lstD, seqD, gIsN, gNotN, sh_t, sh_l, sh_i, sh_y, sh_e, sh_b, sh_n, fz_t, fz_l, fz_i, fz_y, fz_b, fz_e, fz_n, hs, hf, m__law_raised, f__law_raised]
theorem caught0 {v : D} (b : Bool) (hs : v.sh = true) (hf : frz v = v) : m__law_caught [.int 0, v, .bl b] = some (.ok (.exc 17 v) [.int 0, v, .bl b]) := by
  have e := raised0 b hs hf
  simp (config := {decide := true}) [r_fn, parOk, frzAt, frzL, outsD, List.range_succ, DL.gTup, DL.gLst, gGcd, gLt, gLe, gGt, gGe, gNeg, gDiv, gMod, gPow, DL.gSub, gAdd, gMul, gAbs, gInt, gLen, gEq, gNe, gItL, gRng1, isLst, gmInsert, gmAppend, gmSet, gIx, ixR, truD, DL.isNon, ixN, atI, lstD, seqD, gIsN, gNotN, sh_t, sh_l, sh_i, sh_y, sh_e, sh_b, sh_n, fz_t, fz_l, fz_i, fz_y, fz_b, fz_e, fz_n, hs, hf, e, m__law_caught, f__law_caught, catch_, catX, isX, exs]
theorem kinds0 (v : D) : m__law_kinds [.exc 17 v] = some (.ok (.ol [.bl true, .bl false, .bl false, .bl false, .bl false, .bl false, .bl false, .bl false, .bl false, .bl false, .bl false, .bl false, .bl false, .bl false, .bl false, .bl false, .bl false, .bl false, .bl false]) [.exc 17 v]) := by
  simp (config := {decide := true}) [r_fn, parOk, D.sh, frzAt, frz, frzL, outsD, List.range_succ, DL.gTup, DL.gLst, gGcd, gLt, gLe, gGt, gGe, gNeg, gDiv, gMod, gPow, DL.gSub, gAdd, gMul, gAbs, gInt, gLen, gEq, gNe, gItL, gRng1, isLst, gmInsert, gmAppend, gmSet, gIx, ixR, truD, DL.isNon, ixN, atI, lstD, seqD, gIsN, gNotN, m__law_kinds, f__law_kinds, tab, isX, exs, allSh]
theorem samek0 : m__law_same 8 [.lst [.bl true, .bl false, .bl false, .bl false, .bl false, .bl false, .bl false, .bl false, .bl false, .bl false, .bl false, .bl false, .bl false, .bl false, .bl false, .bl false, .bl false, .bl false, .bl false], .lst [.bl true, .bl false, .bl false, .bl false, .bl false, .bl false, .bl false, .bl false, .bl false, .bl false, .bl false, .bl false, .bl false, .bl false, .bl false, .bl false, .bl false, .bl false, .bl false]] = some (.ok (.bl true) [.lst [.bl true, .bl false, .bl false, .bl false, .bl false, .bl false, .bl false, .bl false, .bl false, .bl false, .bl false, .bl false, .bl false, .bl false, .bl false, .bl false, .bl false, .bl false, .bl false], .lst [.bl true, .bl false, .bl false, .bl false, .bl false, .bl false, .bl false, .bl false, .bl false, .bl false, .bl false, .bl false, .bl false, .bl false, .bl false, .bl false, .bl false, .bl false, .bl false]]) := by
  have h : ∀ x : Bool, m__law_same 7 [.bl x, .bl x] = _ := same_bl 6
  show fnD N__law_same.length P__law_same.length [] (f__law_same (m__law_same 7)) _ = _
  simp (config := {decide := true}) [r_fn, parOk, D.sh, frzAt, frz, frzL, outsD, List.range_succ, DL.gTup, DL.gLst, gGcd, gLt, gLe, gGt, gGe, gNeg, gDiv, gMod, gPow, DL.gSub, gAdd, gMul, gAbs, gInt, gLen, gEq, gNe, gItL, gRng1, isLst, gmInsert, gmAppend, gmSet, gIx, ixR, truD, DL.isNon, ixN, atI, lstD, seqD, gIsN, gNotN, f__law_same, tab, comp_1, comp_0, dI19, ho, h]
theorem right0 {v : D} (g : Good v) : m__law_right [.exc 17 v, .int 0, v] = some (.ok (.bl true) [.exc 17 v, .int 0, v]) := by
  obtain ⟨hs, hf, h8⟩ := g
  have e1 := kinds0 v
  have e2 := samek0
  simp (config := {decide := true}) [r_fn, parOk, frzAt, frzL, outsD, List.range_succ, DL.gTup, DL.gLst, gGcd, gLt, gLe, gGt, gGe, gNeg, gDiv, gMod, gPow, DL.gSub, gAdd, gMul, gAbs, gInt, gLen, gEq, gNe, gItL, gRng1, isLst, gmInsert, gmAppend, gmSet, gIx, ixR, truD, DL.isNon, ixN, atI, lstD, seqD, gIsN, gNotN, sh_t, sh_l, sh_i, sh_y, sh_e, sh_b, sh_n, fz_t, fz_l, fz_i, fz_y, fz_b, fz_e, fz_n, hs, hf, frzL, m__law_right, f__law_right, tab, isX, exs, xTys, e1, e2, h8, comp_1, comp_0, dI19, ho3, gXv, fz_o]

theorem raised1 {v : D} (b : Bool) (hs : v.sh = true) (hf : frz v = v) : m__law_raised [.int 1, v, .bl b] = some (.exc (.exc 18 v) [.int 1, v, .bl b]) := by
  cases b
  · simp (config := {decide := true}) [r_fn, parOk, frzAt, frzL, outsD, List.range_succ, DL.gTup, DL.gLst, gGcd, gLt, gLe, gGt, gGe, gNeg, gDiv, gMod, gPow, DL.gSub, gAdd, gMul, gAbs, gInt, gLen, gEq, gNe, gItL, gRng1, isLst, gmInsert, gmAppend, gmSet, gIx, ixR, truD, DL.isNon, ixN, atI, lstD, seqD, gIsN, gNotN, sh_t, sh_l, sh_i, sh_y, sh_e, sh_b, sh_n, fz_t, fz_l, fz_i, fz_y, fz_b, fz_e, fz_n, hs, hf, m__law_raised, f__law_raised]
  · simp (config := {decide := true}) [r_fn, parOk, frzAt, frzL, outsD, List.range_succ, DL.gTup, DL.gLst, gGcd, gLt, gLe, gGt, gGe, gNeg, gDiv, gMod, gPow, DL.gSub, gAdd, gMul, gAbs, gInt, gLen, gEq, gNe, gItL, gRng1, isLst, gmInsert, gmAppend, gmSet, gIx, ixR, truD, DL.isNon, ixN, atI, lstD, seqD, gIsN, gNotN, sh_t, sh_l, sh_i, sh_y, sh_e, sh_b, sh_n, fz_t, fz_l, fz_i, fz_y, fz_b, fz_e, fz_n, hs, hf, m__law_raised, f__law_raised]
theorem caught1 {v : D} (b : Bool) (hs : v.sh = true) (hf : frz v = v) : m__law_caught [.int 1, v, .bl b] = some (.ok (.exc 18 v) [.int 1, v, .bl b]) := by
  have e := raised1 b hs hf
  simp (config := {decide := true}) [r_fn, parOk, frzAt, frzL, outsD, List.range_succ, DL.gTup, DL.gLst, gGcd, gLt, gLe, gGt, gGe, gNeg, gDiv, gMod, gPow, DL.gSub, gAdd, gMul, gAbs, gInt, gLen, gEq, gNe, gItL, gRng1, isLst, gmInsert, gmAppend, gmSet, gIx, ixR, truD, DL.isNon, ixN, atI, lstD, seqD, gIsN, gNotN, sh_t, sh_l, sh_i, sh_y, sh_e, sh_b, sh_n, fz_t, fz_l, fz_i, fz_y, fz_b, fz_e, fz_n, hs, hf, e, m__law_caught, f__law_caught, catch_, catX, isX, exs]
theorem kinds1 (v : D) : m__law_kinds [.exc 18 v] = some (.ok (.ol [.bl false, .bl true, .bl false, .bl false, .bl false, .bl false, .bl false, .bl false, .bl false, .bl false, .bl false, .bl false, .bl false, .bl false, .bl false, .bl false, .bl false, .bl false, .bl false]) [.exc 18 v]) := by
  simp (config := {decide := true}) [r_fn, parOk, D.sh, frzAt, frz, frzL, outsD, List.range_succ, DL.gTup, DL.gLst, gGcd, gLt, gLe, gGt, gGe, gNeg, gDiv, gMod, gPow, DL.gSub, gAdd, gMul, gAbs, gInt, gLen, gEq, gNe, gItL, gRng1, isLst, gmInsert, gmAppend, gmSet, gIx, ixR, truD, DL.isNon, ixN, atI, lstD, seqD, gIsN, gNotN, m__law_kinds, f__law_kinds, tab, isX, exs, allSh]
theorem samek1 : m__law_same 8 [.lst [.bl false, .bl true, .bl false, .bl false, .bl false, .bl false, .bl false, .bl false, .bl false, .bl false, .bl false, .bl false, .bl false, .bl false, .bl false, .bl false, .bl false, .bl false, .bl false], .lst [.bl false, .bl true, .bl false, .bl false, .bl false, .bl false, .bl false, .bl false, .bl false, .bl false, .bl false, .bl false, .bl false, .bl false, .bl false, .bl false, .bl false, .bl false, .bl false]] = some (.ok (.bl true) [.lst [.bl false, .bl true, .bl false, .bl false, .bl false, .bl false, .bl false, .bl false, .bl false, .bl false, .bl false, .bl false, .bl false, .bl false, .bl false, .bl false, .bl false, .bl false, .bl false], .lst [.bl false, .bl true, .bl false, .bl false, .bl false, .bl false, .bl false, .bl false, .bl false, .bl false, .bl false, .bl false, .bl false, .bl false, .bl false, .bl false, .bl false, .bl false, .bl false]]) := by
  have h : ∀ x : Bool, m__law_same 7 [.bl x, .bl x] = _ := same_bl 6
  show fnD N__law_same.length P__law_same.length [] (f__law_same (m__law_same 7)) _ = _
  simp (config := {decide := true}) [r_fn, parOk, D.sh, frzAt, frz, frzL, outsD, List.range_succ, DL.gTup, DL.gLst, gGcd, gLt, gLe, gGt, gGe, gNeg, gDiv, gMod, gPow, DL.gSub, gAdd, gMul, gAbs, gInt, gLen, gEq, gNe, gItL, gRng1, isLst, gmInsert, gmAppend, gmSet, gIx, ixR, truD, DL.isNon, ixN, atI, lstD, seqD, gIsN, gNotN, f__law_same, tab, comp_1, comp_0, dI19, ho, h]
theorem right1 {v : D} (g : Good v) : m__law_right [.exc 18 v, .int 1, v] = some (.ok (.bl true) [.exc 18 v, .int 1, v]) := by
  obtain ⟨hs, hf, h8⟩ := g
  have e1 := kinds1 v
  have e2 := samek1
  simp (config := {decide := true}) [r_fn, parOk, frzAt, frzL, outsD, List.range_succ, DL.gTup, DL.gLst, gGcd, gLt, gLe, gGt, gGe, gNeg, gDiv, gMod, gPow, DL.gSub, gAdd, gMul, gAbs, gInt, gLen, gEq, gNe, gItL, gRng1, isLst, gmInsert, gmAppend, gmSet, gIx, ixR, truD, DL.isNon, ixN, atI, lstD, seqD, gIsN, gNotN, sh_t, sh_l, sh_i, sh_y, sh_e, sh_b, sh_n, fz_t, fz_l, fz_i, fz_y, fz_b, fz_e, fz_n, hs, hf, frzL, m__law_right, f__law_right, tab, isX, exs, xTys, e1, e2, h8, comp_1, comp_0, dI19, ho3, gXv, fz_o]

theorem raised2 {v : D} (b : Bool) (hs : v.sh = true) (hf : frz v = v) : m__law_raised [.int 2, v, .bl b] = some (.exc (.exc 19 v) [.int 2, v, .bl b]) := by
  cases b
  · simp (config := {decide := true}) [r_fn, parOk, frzAt, frzL, outsD, List.range_succ, DL.gTup, DL.gLst, gGcd, gLt, gLe, gGt, gGe, gNeg, gDiv, gMod, gPow, DL.gSub, gAdd, gMul, gAbs, gInt, gLen, gEq, gNe, gItL, gRng1, isLst, gmInsert, gmAppend, gmSet, gIx, ixR, truD, DL.isNon, ixN, atI, lstD, seqD, gIsN, gNotN, sh_t, sh_l, sh_i, sh_y, sh_e, sh_b, sh_n, fz_t, fz_l, fz_i, fz_y, fz_b, fz_e, fz_n, hs, hf, m__law_raised, f__law_raised]
  · simp (config := {decide := true}) [r_fn, parOk, frzAt, frzL, outsD, List.range_succ, DL.gTup, DL.gLst, gGcd, gLt, gLe, gGt, gGe, gNeg, gDiv, gMod, gPow, DL.gSub, gAdd, gMul, gAbs, gInt, gLen, gEq, gNe, gItL, gRng1, isLst, gmInsert, gmAppend, gmSet, gIx, ixR, truD, DL.isNon, ixN, atI, lstD, seqD, gIsN, gNotN, sh_t, sh_l, sh_i, sh_y, sh_e, sh_b, sh_n, fz_t, fz_l, fz_i, fz_y, fz_b, fz_e, fz_n, hs, hf, m__law_raised, f__law_raised]
theorem caught2 {v : D} (b : Bool) (hs : v.sh = true) (hf : frz v = v) : m__law_caught [.int 2, v, .bl b] = some (.ok (.exc 19 v) [.int 2, v, .bl b]) := by
  have e := raised2 b hs hf
  simp (config := {decide := true}) [r_fn, parOk, frzAt, frzL, outsD, List.range_succ, DL.gTup, DL.gLst, gGcd, gLt, gLe, gGt, gGe, gNeg, gDiv, gMod, gPow, DL.gSub, gAdd, gMul, gAbs, gInt, gLen, gEq, gNe, gItL, gRng1, isLst, gmInsert, gmAppend, gmSet, gIx, ixR, truD, DL.isNon, ixN, atI, lstD, seqD, gIsN, gNotN, sh_t, sh_l, sh_i, sh_y, sh_e, sh_b, sh_n, fz_t, fz_l, fz_i, fz_y, fz_b, fz_e, fz_n, hs, hf, e, m__law_caught, f__law_caught, catch_, catX, isX, exs]
theorem kinds2 (v : D) : m__law_kinds [.exc 19 v] = some (.ok (.ol [.bl false, .bl false, .bl true, .bl false, .bl false, .bl false, .bl false, .bl false, .bl false, .bl false, .bl false, .bl false, .bl false, .bl false, .bl false, .bl false, .bl false, .bl false, .bl false]) [.exc 19 v]) := by
  simp (config := {decide := true}) [r_fn, parOk, D.sh, frzAt, frz, frzL, outsD, List.range_succ, DL.gTup, DL.gLst, gGcd, gLt, gLe, gGt, gGe, gNeg, gDiv, gMod, gPow, DL.gSub, gAdd, gMul, gAbs, gInt, gLen, gEq, gNe, gItL, gRng1, isLst, gmInsert, gmAppend, gmSet, gIx, ixR, truD, DL.isNon, ixN, atI, lstD, seqD, gIsN, gNotN, m__law_kinds, f__law_kinds, tab, isX, exs, allSh]
theorem samek2 : m__law_same 8 [.lst [.bl false, .bl false, .bl true, .bl false, .bl false, .bl false, .bl false, .bl false, .bl false, .bl false, .bl false, .bl false, .bl false, .bl false, .bl false, .bl false, .bl false, .bl false, .bl false], .lst [.bl false, .bl false, .bl true, .bl false, .bl false, .bl false, .bl false, .bl false, .bl false, .bl false, .bl false, .bl false, .bl false, .bl false, .bl false, .bl false, .bl false, .bl false, .bl false]] = some (.ok (.bl true) [.lst [.bl false, .bl false, .bl true, .bl false, .bl false, .bl false, .bl false, .bl false, .bl false, .bl false, .bl false, .bl false, .bl false, .bl false, .bl false, .bl false, .bl false, .bl false, .bl false], .lst [.bl false, .bl false, .bl true, .bl false, .bl false, .bl false, .bl false, .bl false, .bl false, .bl false, .bl false, .bl false, .bl false, .bl false, .bl false, .bl false, .bl false, .bl false, .bl false]]) := by
  have h : ∀ x : Bool, m__law_same 7 [.bl x, .bl x] = _ := same_bl 6
  show fnD N__law_same.length P__law_same.length [] (f__law_same (m__law_same 7)) _ = _
  simp (config := {decide := true}) [r_fn, parOk, D.sh, frzAt, frz, frzL, outsD, List.range_succ, DL.gTup, DL.gLst, gGcd, gLt, gLe, gGt, gGe, gNeg, gDiv, gMod, gPow, DL.gSub, gAdd, gMul, gAbs, gInt, gLen, gEq, gNe, gItL, gRng1, isLst, gmInsert, gmAppend, gmSet, gIx, ixR, truD, DL.isNon, ixN, atI, lstD, seqD, gIsN, gNotN, f__law_same, tab, comp_1, comp_0, dI19, ho, h]
theorem right2 {v : D} (g : Good v) : m__law_right [.exc 19 v, .int 2, v] = some (.ok (.bl true) [.exc 19 v, .int 2, v]) := by
  obtain ⟨hs, hf, h8⟩ := g
  have e1 := kinds2 v
  have e2 := samek2
  simp (config := {decide := true}) [r_fn, parOk, frzAt, frzL, outsD, List.range_succ, DL.gTup, DL.gLst, gGcd, gLt, gLe, gGt, gGe, gNeg, gDiv, gMod, gPow, DL.gSub, gAdd, gMul, gAbs, gInt, gLen, gEq, gNe, gItL, gRng1, isLst, gmInsert, gmAppend, gmSet, gIx, ixR, truD, DL.isNon, ixN, atI, lstD, seqD, gIsN, gNotN, sh_t, sh_l, sh_i, sh_y, sh_e, sh_b, sh_n, fz_t, fz_l, fz_i, fz_y, fz_b, fz_e, fz_n, hs, hf, frzL, m__law_right, f__law_right, tab, isX, exs, xTys, e1, e2, h8, comp_1, comp_0, dI19, ho3, gXv, fz_o]

theorem sh_o (x : List D) : (D.ol x).sh = false := rfl
section
variable {s : D} {x2 x4 x5 x6 x7 x8 : Option D} {cells : List Int}

theorem turn0 {a b i : Int} (h : Pt a b i cells) : ∃ (a' b' i' : Int) (y4 y5 y6 y7 y8 : Option D), L_law_0 [some s, some (ptD a b i cells), x2, some (.int 0), x4, x5, x6, x7, x8] = some (.nx [some s, some (ptD a' b' i' cells), x2, some (.int 0), y4, y5, y6, y7, y8]) ∧ Pt a' b' i' cells := by
  obtain ⟨a1, b1, i1, v, e1, gv, h1⟩ := given_ok h
  obtain ⟨a2, b2, i2, u, e2, gu, h2⟩ := given_ok h1
  obtain ⟨a3, b3, i3, t, e3, _, _, h3⟩ := take_ok (many := 2) h2 (by decide) (by decide)
  have r1 := right0 gv
  have r2 := right0 gu
  obtain ⟨sv, fv, _⟩ := gv
  obtain ⟨su, fu, _⟩ := gu
  have c1 : ∀ z : Bool, _ := fun z => caught0 (v := v) z sv fv
  have c2 : ∀ z : Bool, _ := fun z => caught0 (v := u) z su fu
  refine ⟨a3, b3, i3, some v, some u, some (.bl (decide (t = 0))), some (.exc 17 v), some (.exc 17 u), ?_, h3⟩
  have c1' := c1 (decide (t = 0))
  have c2' := c2 (!decide (t = 0))
  by_cases ht : t = 0
  · subst ht
    have c1a := c1 true
    have c2a := c2 false
    simp (config := {decide := true}) [r_fn, parOk, frzAt, frzL, outsD, List.range_succ, DL.gTup, DL.gLst, gGcd, gLt, gLe, gGt, gGe, gNeg, gDiv, gMod, gPow, DL.gSub, gAdd, gMul, gAbs, gInt, gLen, gEq, gNe, gItL, gRng1, isLst, gmInsert, gmAppend, gmSet, gIx, ixR, truD, DL.isNon, ixN, atI, lstD, seqD, gIsN, gNotN, sh_t, sh_l, sh_i, sh_y, sh_e, sh_b, sh_n, fz_t, fz_l, fz_i, fz_y, fz_b, fz_e, fz_n, fz_o, sh_o, a_L_law_0, e1, e2, e3, sv, fv, su, fu, r1, r2, c1a, c2a]
  · have c1a := c1 false
    have c2a := c2 true
    simp (config := {decide := true}) [r_fn, parOk, frzAt, frzL, outsD, List.range_succ, DL.gTup, DL.gLst, gGcd, gLt, gLe, gGt, gGe, gNeg, gDiv, gMod, gPow, DL.gSub, gAdd, gMul, gAbs, gInt, gLen, gEq, gNe, gItL, gRng1, isLst, gmInsert, gmAppend, gmSet, gIx, ixR, truD, DL.isNon, ixN, atI, lstD, seqD, gIsN, gNotN, sh_t, sh_l, sh_i, sh_y, sh_e, sh_b, sh_n, fz_t, fz_l, fz_i, fz_y, fz_b, fz_e, fz_n, fz_o, sh_o, a_L_law_0, e1, e2, e3, sv, fv, su, fu, r1, r2, c1a, c2a, ht]

theorem turn1 {a b i : Int} (h : Pt a b i cells) : ∃ (a' b' i' : Int) (y4 y5 y6 y7 y8 : Option D), L_law_0 [some s, some (ptD a b i cells), x2, some (.int 1), x4, x5, x6, x7, x8] = some (.nx [some s, some (ptD a' b' i' cells), x2, some (.int 1), y4, y5, y6, y7, y8]) ∧ Pt a' b' i' cells := by
  obtain ⟨a1, b1, i1, v, e1, gv, h1⟩ := given_ok h
  obtain ⟨a2, b2, i2, u, e2, gu, h2⟩ := given_ok h1
  obtain ⟨a3, b3, i3, t, e3, _, _, h3⟩ := take_ok (many := 2) h2 (by decide) (by decide)
  have r1 := right1 gv
  have r2 := right1 gu
  obtain ⟨sv, fv, _⟩ := gv
  obtain ⟨su, fu, _⟩ := gu
  have c1 : ∀ z : Bool, _ := fun z => caught1 (v := v) z sv fv
  have c2 : ∀ z : Bool, _ := fun z => caught1 (v := u) z su fu
  refine ⟨a3, b3, i3, some v, some u, some (.bl (decide (t = 0))), some (.exc 18 v), some (.exc 18 u), ?_, h3⟩
  have c1' := c1 (decide (t = 0))
  have c2' := c2 (!decide (t = 0))
  by_cases ht : t = 0
  · subst ht
    have c1a := c1 true
    have c2a := c2 false
    simp (config := {decide := true}) [r_fn, parOk, frzAt, frzL, outsD, List.range_succ, DL.gTup, DL.gLst, gGcd, gLt, gLe, gGt, gGe, gNeg, gDiv, gMod, gPow, DL.gSub, gAdd, gMul, gAbs, gInt, gLen, gEq, gNe, gItL, gRng1, isLst, gmInsert, gmAppend, gmSet, gIx, ixR, truD, DL.isNon, ixN, atI, lstD, seqD, gIsN, gNotN, sh_t, sh_l, sh_i, sh_y, sh_e, sh_b, sh_n, fz_t, fz_l, fz_i, fz_y, fz_b, fz_e, fz_n, fz_o, sh_o, a_L_law_0, e1, e2, e3, sv, fv, su, fu, r1, r2, c1a, c2a]
  · have c1a := c1 false
    have c2a := c2 true
    simp (config := {decide := true}) [r_fn, parOk, frzAt, frzL, outsD, List.range_succ, DL.gTup, DL.gLst, gGcd, gLt, gLe, gGt, gGe, gNeg, gDiv, gMod, gPow, DL.gSub, gAdd, gMul, gAbs, gInt, gLen, gEq, gNe, gItL, gRng1, isLst, gmInsert, gmAppend, gmSet, gIx, ixR, truD, DL.isNon, ixN, atI, lstD, seqD, gIsN, gNotN, sh_t, sh_l, sh_i, sh_y, sh_e, sh_b, sh_n, fz_t, fz_l, fz_i, fz_y, fz_b, fz_e, fz_n, fz_o, sh_o, a_L_law_0, e1, e2, e3, sv, fv, su, fu, r1, r2, c1a, c2a, ht]

theorem turn2 {a b i : Int} (h : Pt a b i cells) : ∃ (a' b' i' : Int) (y4 y5 y6 y7 y8 : Option D), L_law_0 [some s, some (ptD a b i cells), x2, some (.int 2), x4, x5, x6, x7, x8] = some (.nx [some s, some (ptD a' b' i' cells), x2, some (.int 2), y4, y5, y6, y7, y8]) ∧ Pt a' b' i' cells := by
  obtain ⟨a1, b1, i1, v, e1, gv, h1⟩ := given_ok h
  obtain ⟨a2, b2, i2, u, e2, gu, h2⟩ := given_ok h1
  obtain ⟨a3, b3, i3, t, e3, _, _, h3⟩ := take_ok (many := 2) h2 (by decide) (by decide)
  have r1 := right2 gv
  have r2 := right2 gu
  obtain ⟨sv, fv, _⟩ := gv
  obtain ⟨su, fu, _⟩ := gu
  have c1 : ∀ z : Bool, _ := fun z => caught2 (v := v) z sv fv
  have c2 : ∀ z : Bool, _ := fun z => caught2 (v := u) z su fu
  refine ⟨a3, b3, i3, some v, some u, some (.bl (decide (t = 0))), some (.exc 19 v), some (.exc 19 u), ?_, h3⟩
  have c1' := c1 (decide (t = 0))
  have c2' := c2 (!decide (t = 0))
  by_cases ht : t = 0
  · subst ht
    have c1a := c1 true
    have c2a := c2 false
    simp (config := {decide := true}) [r_fn, parOk, frzAt, frzL, outsD, List.range_succ, DL.gTup, DL.gLst, gGcd, gLt, gLe, gGt, gGe, gNeg, gDiv, gMod, gPow, DL.gSub, gAdd, gMul, gAbs, gInt, gLen, gEq, gNe, gItL, gRng1, isLst, gmInsert, gmAppend, gmSet, gIx, ixR, truD, DL.isNon, ixN, atI, lstD, seqD, gIsN, gNotN, sh_t, sh_l, sh_i, sh_y, sh_e, sh_b, sh_n, fz_t, fz_l, fz_i, fz_y, fz_b, fz_e, fz_n, fz_o, sh_o, a_L_law_0, e1, e2, e3, sv, fv, su, fu, r1, r2, c1a, c2a]
  · have c1a := c1 false
    have c2a := c2 true
    simp (config := {decide := true}) [r_fn, parOk, frzAt, frzL, outsD, List.range_succ, DL.gTup, DL.gLst, gGcd, gLt, gLe, gGt, gGe, gNeg, gDiv, gMod, gPow, DL.gSub, gAdd, gMul, gAbs, gInt, gLen, gEq, gNe, gItL, gRng1, isLst, gmInsert, gmAppend, gmSet, gIx, ixR, truD, DL.isNon, ixN, atI, lstD, seqD, gIsN, gNotN, sh_t, sh_l, sh_i, sh_y, sh_e, sh_b, sh_n, fz_t, fz_l, fz_i, fz_y, fz_b, fz_e, fz_n, fz_o, sh_o, a_L_law_0, e1, e2, e3, sv, fv, su, fu, r1, r2, c1a, c2a, ht]

theorem turn {a b i : Int} {x3 : Option D} (h : Pt a b i cells) : ∃ (a' b' i' : Int) (y3 y4 y5 y6 y7 y8 : Option D), L_law_1 [some s, some (ptD a b i cells), x2, x3, x4, x5, x6, x7, x8] = some (.nx [some s, some (ptD a' b' i' cells), x2, y3, y4, y5, y6, y7, y8]) ∧ Pt a' b' i' cells := by
  obtain ⟨a1, b1, i1, p4, p5, p6, p7, p8, e1, h1⟩ := turn0 (s := s) (x2 := x2) (x4 := x4) (x5 := x5) (x6 := x6) (x7 := x7) (x8 := x8) h
  obtain ⟨a2, b2, i2, q4, q5, q6, q7, q8, e2, h2⟩ := turn1 (s := s) (x2 := x2) (x4 := p4) (x5 := p5) (x6 := p6) (x7 := p7) (x8 := p8) h1
  obtain ⟨a3, b3, i3, r4, r5, r6, r7, r8, e3, h3⟩ := turn2 (s := s) (x2 := x2) (x4 := q4) (x5 := q5) (x6 := q6) (x7 := q7) (x8 := q8) h2
  refine ⟨a3, b3, i3, some (.int 2), r4, r5, r6, r7, r8, ?_, h3⟩
  simp (config := {decide := true}) [r_fn, parOk, D.sh, frzAt, frz, frzL, outsD, List.range_succ, DL.gTup, DL.gLst, gGcd, gLt, gLe, gGt, gGe, gNeg, gDiv, gMod, gPow, DL.gSub, gAdd, gMul, gAbs, gInt, gLen, gEq, gNe, gItL, gRng1, isLst, gmInsert, gmAppend, gmSet, gIx, ixR, truD, DL.isNon, ixN, atI, lstD, seqD, gIsN, gNotN, a_L_law_1, dI3, forE_1, forE_0, e1, e2, e3]
theorem loop1 : ∀ (ds : List D) {a b i : Int} {x2 x3 x4 x5 x6 x7 x8 : Option D}, Pt a b i cells →
    ∃ (pt : D) (y2 y3 y4 y5 y6 y7 y8 : Option D), forE (tgN [] 2) L_law_1 ds [some s, some (ptD a b i cells), x2, x3, x4, x5, x6, x7, x8] = some (.nx [some s, some pt, y2, y3, y4, y5, y6, y7, y8])
  | [], a, b, i, x2, x3, x4, x5, x6, x7, x8, h => ⟨_, x2, x3, x4, x5, x6, x7, x8, rfl⟩
  | d :: ds, a, b, i, x2, x3, x4, x5, x6, x7, x8, h => by
    obtain ⟨a1, b1, i1, y3, y4, y5, y6, y7, y8, e1, h1⟩ := turn (s := s) (x2 := some d) (x3 := x3) (x4 := x4) (x5 := x5) (x6 := x6) (x7 := x7) (x8 := x8) h
    obtain ⟨pt, z2, z3, z4, z5, z6, z7, z8, e2⟩ := loop1 ds (x2 := some d) (x3 := y3) (x4 := y4) (x5 := y5) (x6 := y6) (x7 := y7) (x8 := y8) h1
    refine ⟨pt, z2, z3, z4, z5, z6, z7, z8, ?_⟩
    simp (config := {decide := true}) [r_fn, parOk, D.sh, frzAt, frz, frzL, outsD, List.range_succ, DL.gTup, DL.gLst, gGcd, gLt, gLe, gGt, gGe, gNeg, gDiv, gMod, gPow, DL.gSub, gAdd, gMul, gAbs, gInt, gLen, gEq, gNe, gItL, gRng1, isLst, gmInsert, gmAppend, gmSet, gIx, ixR, truD, DL.isNon, ixN, atI, lstD, seqD, gIsN, gNotN, forE_1, e1, e2]
end
theorem allSh_ints : ∀ ns : List Int, allSh (ns.map .int) = true
  | [] => rfl
  | n :: ns => by
    show ((D.int n).sh && allSh (ns.map .int)) = true
    rw [allSh_ints ns]
    rfl
end K09

namespace K09
open PySem PySem.Spec PyProof.Rows L2 DL
theorem pot_ok (ns : List Int) (hl : ns.length ≤ 63) : gAdd [.ol [.int 0, .int 7, .int 3], .ol (ns.map .int)] = some (ptD 0 7 3 ns) := by
  have hs := allSh_ints ns
  have al : allSh [D.int 0, D.int 7, D.int 3] = true := rfl
  unfold gAdd
  dsimp only [lstD]
  rw [if_pos ⟨al, hs, by simp; omega⟩]
  rfl
theorem times_ok (ns : List Int) (hl : ns.length ≤ 63) : ∃ ds, bO (gMin [.int 12, .int ns.length]) (fun d => bO (gMax [.int 1, d]) fun e => gRng1 [e]) = some ds := by
  rw [min_ii, bO_some, max_ii, bO_some]
  unfold gRng1
  dsimp only
  exact ⟨_, if_pos (by split <;> split <;> omega)⟩
theorem law_true (ns : List Int) (hl : ns.length ≤ 63) (hb : ∀ z ∈ ns, Builtin.Int.intBits z ≤ 1048576) : ∃ outs, m_law [.frl (ns.map .int)] = some (.ok (.bl true) outs) := by
  have hs := allSh_ints ns
  have h0 : Pt 0 7 3 ns := ⟨by decide, by decide, by decide, by decide, by omega, hl⟩
  obtain ⟨ds, ed⟩ := times_ok ns hl
  obtain ⟨pt, z2, z3, z4, z5, z6, z7, z8, e2⟩ := loop1 (s := .frl (ns.map .int)) (cells := ns) ds (x2 := none) (x3 := none) (x4 := none) (x5 := none) (x6 := none) (x7 := none) (x8 := none) h0
  have hp := pot_ok ns hl
  refine ⟨[.frl (ns.map .int)], ?_⟩
  have e3 : bO (gMax [.int 1, .int (if (ns.length : Int) < 12 then (ns.length : Int) else 12)]) (fun e => gRng1 [e]) = some ds := by
    rw [← ed, min_ii, bO_some]
  rw [max_ii, bO_some] at e3
  simp (config := {decide := true}) [r_fn, parOk, D.sh, frzAt, frz, frzL, outsD, DL.gTup, DL.gLst, gGcd, gLt, gLe, gGt, gGe, gNeg, gDiv, gMod, gPow, DL.gSub, gMul, gAbs, gInt, gLen, gEq, gNe, gItL, isLst, gmInsert, gmAppend, gmSet, gIx, ixR, truD, DL.isNon, ixN, atI, lstD, seqD, gIsN, gNotN, m_law, f_law, e2, hs, hp, e3]
end K09

namespace K09
open PySem PySem.Spec PyProof.Rows L2 DL
theorem all_mk {l : PySem.W.OpenLaw} {w : World} {K : PySem.W.Frag} {h : Heap} {mg : Str → Option Value} {fa : Addr} (X : K.In h) (G : h.Ns mainGlobals mg) (hfa : mg "law" = some (.ref fa))
    {f0 f1 f2 f3 f4 f5 f6 f7 fI C0 C1 C2 C3 C4 C5 C6 C7 C8 C9 C10 C11 C12 C13 C14 C15 C16 C17 C18 C19 : Addr}
    {od0 an0 : Option Addr} {sl0 : Array (Option Value)} {oc0 kV0 dc0 pm0 cd0 ct0 : Value}
    {od1 an1 : Option Addr} {sl1 : Array (Option Value)} {oc1 kV1 dc1 pm1 cd1 ct1 : Value}
    {od2 an2 : Option Addr} {sl2 : Array (Option Value)} {oc2 kV2 dc2 pm2 cd2 ct2 : Value}
    {od3 an3 : Option Addr} {sl3 : Array (Option Value)} {oc3 kV3 dc3 pm3 cd3 ct3 : Value}
    {od4 an4 : Option Addr} {sl4 : Array (Option Value)} {oc4 kV4 dc4 pm4 cd4 ct4 : Value}
    {od5 an5 : Option Addr} {sl5 : Array (Option Value)} {oc5 kV5 dc5 pm5 cd5 ct5 : Value}
    {od6 an6 : Option Addr} {sl6 : Array (Option Value)} {oc6 kV6 dc6 pm6 cd6 ct6 : Value}
    {od7 an7 : Option Addr} {sl7 : Array (Option Value)} {oc7 kV7 dc7 pm7 cd7 ct7 : Value}
    {odI anI : Option Addr} {slI : Array (Option Value)} {ocI kVI dcI pmI cdI ctI : Value}
    (a0 : PySem.W.nsIn K mainGlobals "_law_raised" = some (some (.ref f0)))
    (l0 : K.lookup f0 = some ⟨oc0, od0, .func (PySem.W.fnOf "_law_raised" "_law_raised" (defArgs S__law_raised) (defBody S__law_raised) (defScope S__law_raised) .none kV0 dc0 pm0 an0 cd0 ct0), sl0⟩)
    (c0 : PySem.W.codeIn K cd0 "_law_raised" = true)
    (k0 : PySem.W.keepIn K (.ref f0) = true)
    (a1 : PySem.W.nsIn K mainGlobals "_law_caught" = some (some (.ref f1)))
    (l1 : K.lookup f1 = some ⟨oc1, od1, .func (PySem.W.fnOf "_law_caught" "_law_caught" (defArgs S__law_caught) (defBody S__law_caught) (defScope S__law_caught) .none kV1 dc1 pm1 an1 cd1 ct1), sl1⟩)
    (c1 : PySem.W.codeIn K cd1 "_law_caught" = true)
    (k1 : PySem.W.keepIn K (.ref f1) = true)
    (a2 : PySem.W.nsIn K mainGlobals "_law_take" = some (some (.ref f2)))
    (l2 : K.lookup f2 = some ⟨oc2, od2, .func (PySem.W.fnOf "_law_take" "_law_take" (defArgs S__law_take) (defBody S__law_take) (defScope S__law_take) .none kV2 dc2 pm2 an2 cd2 ct2), sl2⟩)
    (c2 : PySem.W.codeIn K cd2 "_law_take" = true)
    (k2 : PySem.W.keepIn K (.ref f2) = true)
    (a3 : PySem.W.nsIn K mainGlobals "_law_given" = some (some (.ref f3)))
    (l3 : K.lookup f3 = some ⟨oc3, od3, .func (PySem.W.fnOf "_law_given" "_law_given" (defArgs S__law_given) (defBody S__law_given) (defScope S__law_given) .none kV3 dc3 pm3 an3 cd3 ct3), sl3⟩)
    (c3 : PySem.W.codeIn K cd3 "_law_given" = true)
    (k3 : PySem.W.keepIn K (.ref f3) = true)
    (a4 : PySem.W.nsIn K mainGlobals "_law_kinds" = some (some (.ref f4)))
    (l4 : K.lookup f4 = some ⟨oc4, od4, .func (PySem.W.fnOf "_law_kinds" "_law_kinds" (defArgs S__law_kinds) (defBody S__law_kinds) (defScope S__law_kinds) .none kV4 dc4 pm4 an4 cd4 ct4), sl4⟩)
    (c4 : PySem.W.codeIn K cd4 "_law_kinds" = true)
    (k4 : PySem.W.keepIn K (.ref f4) = true)
    (a5 : PySem.W.nsIn K mainGlobals "_law_same" = some (some (.ref f5)))
    (l5 : K.lookup f5 = some ⟨oc5, od5, .func (PySem.W.fnOf "_law_same" "_law_same" (defArgs S__law_same) (defBody S__law_same) (defScope S__law_same) .none kV5 dc5 pm5 an5 cd5 ct5), sl5⟩)
    (c5 : PySem.W.codeIn K cd5 "_law_same" = true)
    (k5 : PySem.W.keepIn K (.ref f5) = true)
    (a6 : PySem.W.nsIn K mainGlobals "_law_right" = some (some (.ref f6)))
    (l6 : K.lookup f6 = some ⟨oc6, od6, .func (PySem.W.fnOf "_law_right" "_law_right" (defArgs S__law_right) (defBody S__law_right) (defScope S__law_right) .none kV6 dc6 pm6 an6 cd6 ct6), sl6⟩)
    (c6 : PySem.W.codeIn K cd6 "_law_right" = true)
    (k6 : PySem.W.keepIn K (.ref f6) = true)
    (a7 : PySem.W.nsIn K mainGlobals "law" = some (some (.ref f7)))
    (l7 : K.lookup f7 = some ⟨oc7, od7, .func (PySem.W.fnOf "law" "law" (defArgs S_law) (defBody S_law) (defScope S_law) .none kV7 dc7 pm7 an7 cd7 ct7), sl7⟩)
    (c7 : PySem.W.codeIn K cd7 "law" = true)
    (k7 : PySem.W.keepIn K (.ref f7) = true)
    (z_len : PySem.W.nsIn K mainGlobals "len" = some none)
    (z_int : PySem.W.nsIn K mainGlobals "int" = some none)
    (z_isinstance : PySem.W.nsIn K mainGlobals "isinstance" = some none)
    (z_bool : PySem.W.nsIn K mainGlobals "bool" = some none)
    (z_str : PySem.W.nsIn K mainGlobals "str" = some none)
    (z_list : PySem.W.nsIn K mainGlobals "list" = some none)
    (z_tuple : PySem.W.nsIn K mainGlobals "tuple" = some none)
    (z_all : PySem.W.nsIn K mainGlobals "all" = some none)
    (z_range : PySem.W.nsIn K mainGlobals "range" = some none)
    (z_ValueError : PySem.W.nsIn K mainGlobals "ValueError" = some none)
    (z_max : PySem.W.nsIn K mainGlobals "max" = some none)
    (z_min : PySem.W.nsIn K mainGlobals "min" = some none)
    (vV : PySem.W.findCls K (.type "ValueError") (.type "type") "__init__" = some (.val (.builtin "ValueError.__init__")))
    (aC0 : PySem.W.nsIn K mainGlobals "WorthError" = some (some (.ref C0)))
    (aC1 : PySem.W.nsIn K mainGlobals "InvalidNumber" = some (some (.ref C1)))
    (aC2 : PySem.W.nsIn K mainGlobals "InvalidSigns" = some (some (.ref C2)))
    (aC3 : PySem.W.nsIn K mainGlobals "UnknownSign" = some (some (.ref C3)))
    (aC4 : PySem.W.nsIn K mainGlobals "InvalidMachine" = some (some (.ref C4)))
    (aC5 : PySem.W.nsIn K mainGlobals "UnlikeSigns" = some (some (.ref C5)))
    (aC6 : PySem.W.nsIn K mainGlobals "Endless" = some (some (.ref C6)))
    (aC7 : PySem.W.nsIn K mainGlobals "InvalidPattern" = some (some (.ref C7)))
    (aC8 : PySem.W.nsIn K mainGlobals "InvalidBook" = some (some (.ref C8)))
    (aC9 : PySem.W.nsIn K mainGlobals "InvalidName" = some (some (.ref C9)))
    (aC10 : PySem.W.nsIn K mainGlobals "DoubleName" = some (some (.ref C10)))
    (aC11 : PySem.W.nsIn K mainGlobals "UnknownName" = some (some (.ref C11)))
    (aC12 : PySem.W.nsIn K mainGlobals "InvalidNote" = some (some (.ref C12)))
    (aC13 : PySem.W.nsIn K mainGlobals "InvalidSource" = some (some (.ref C13)))
    (aC14 : PySem.W.nsIn K mainGlobals "NoChance" = some (some (.ref C14)))
    (aC15 : PySem.W.nsIn K mainGlobals "NothingToUndo" = some (some (.ref C15)))
    (aC16 : PySem.W.nsIn K mainGlobals "Unreadable" = some (some (.ref C16)))
    (aC17 : PySem.W.nsIn K mainGlobals "NotIntegers" = some (some (.ref C17)))
    (aC18 : PySem.W.nsIn K mainGlobals "NotCounting" = some (some (.ref C18)))
    (aC19 : PySem.W.nsIn K mainGlobals "TooGreat" = some (some (.ref C19)))
    (aI : PySem.W.findIn K (.ref C0) "__init__" = some (some (.ref fI)))
    (lI : K.lookup fI = some ⟨ocI, odI, .func (PySem.W.fnOf "__init__" "WorthError.__init__" (defArgs initS) (defBody initS) (defScope initS) .none kVI dcI pmI anI cdI ctI), slI⟩)
    (cI : PySem.W.codeIn K cdI "WorthError.__init__" = true)
    (kI : PySem.W.keepIn K (.ref fI) = true)
    (tI : PySem.W.typeIn K (.ref fI) = some (.type "function"))
    (xB : excB K (fun c => [C0, C1, C2, C3, C4, C5, C6, C7, C8, C9, C10, C11, C12, C13, C14, C15, C16, C17, C18, C19].getD c 0) fI exs = true)
    : ∃ fd : FuncData, (∀ (s : Shared) (v : Value), BindsTo s fd ⟨[v], []⟩ [("script", v)]) ∧ ∀ base : Heap, K.In base → base.Ns mainGlobals mg → FnOk l.prog w K mg base (L2.CX l.prog w) 11 fa fd ["script"] (spScr K) := by
  have e := hfa.symm.trans (PySem.W.mg_of X G a7)
  cases e
  have F0 := fun_mk (st := S__law_raised) l0 c0 k0
  have B0 := F0.binds (ps := P__law_raised) fun _ _ _ _ _ _ us hl => match us, hl with | [_, _, _], _ => rfl
  have F1 := fun_mk (st := S__law_caught) l1 c1 k1
  have B1 := F1.binds (ps := P__law_caught) fun _ _ _ _ _ _ us hl => match us, hl with | [_, _, _], _ => rfl
  have F2 := fun_mk (st := S__law_take) l2 c2 k2
  have B2 := F2.binds (ps := P__law_take) fun _ _ _ _ _ _ us hl => match us, hl with | [_, _], _ => rfl
  have F3 := fun_mk (st := S__law_given) l3 c3 k3
  have B3 := F3.binds (ps := P__law_given) fun _ _ _ _ _ _ us hl => match us, hl with | [_], _ => rfl
  have F4 := fun_mk (st := S__law_kinds) l4 c4 k4
  have B4 := F4.binds (ps := P__law_kinds) fun _ _ _ _ _ _ us hl => match us, hl with | [_], _ => rfl
  have F5 := fun_mk (st := S__law_same) l5 c5 k5
  have B5 := F5.binds (ps := P__law_same) fun _ _ _ _ _ _ us hl => match us, hl with | [_, _], _ => rfl
  have F6 := fun_mk (st := S__law_right) l6 c6 k6
  have B6 := F6.binds (ps := P__law_right) fun _ _ _ _ _ _ us hl => match us, hl with | [_, _, _], _ => rfl
  have F7 := fun_mk (st := S_law) l7 c7 k7
  have B7 := F7.binds (ps := P_law) fun _ _ _ _ _ _ us hl => match us, hl with | [_], _ => rfl
  have FI := fun_mk (st := initS) lI cI kI
  have BI := FI.binds (ps := [("self" : Str), ("value" : Str)]) fun _ _ _ _ _ _ us hl => match us, hl with | [_, _], _ => rfl
  obtain ⟨x1, x2, x3⟩ := exc_all xB
  have T : Txt K mg (fun c => [C0, C1, C2, C3, C4, C5, C6, C7, C8, C9, C10, C11, C12, C13, C14, C15, C16, C17, C18, C19].getD c 0) fI (PySem.W.fnOf "__init__" "WorthError.__init__" (defArgs initS) (defBody initS) (defScope initS) .none kVI dcI pmI anI cdI ctI) (fun i => [f0, f1, f2, f3, f4, f5, f6, fa].getD i 0) (fun i => match i with | 0 => PySem.W.fnOf "_law_raised" "_law_raised" (defArgs S__law_raised) (defBody S__law_raised) (defScope S__law_raised) .none kV0 dc0 pm0 an0 cd0 ct0 | 1 => PySem.W.fnOf "_law_caught" "_law_caught" (defArgs S__law_caught) (defBody S__law_caught) (defScope S__law_caught) .none kV1 dc1 pm1 an1 cd1 ct1 | 2 => PySem.W.fnOf "_law_take" "_law_take" (defArgs S__law_take) (defBody S__law_take) (defScope S__law_take) .none kV2 dc2 pm2 an2 cd2 ct2 | 3 => PySem.W.fnOf "_law_given" "_law_given" (defArgs S__law_given) (defBody S__law_given) (defScope S__law_given) .none kV3 dc3 pm3 an3 cd3 ct3 | 4 => PySem.W.fnOf "_law_kinds" "_law_kinds" (defArgs S__law_kinds) (defBody S__law_kinds) (defScope S__law_kinds) .none kV4 dc4 pm4 an4 cd4 ct4 | 5 => PySem.W.fnOf "_law_same" "_law_same" (defArgs S__law_same) (defBody S__law_same) (defScope S__law_same) .none kV5 dc5 pm5 an5 cd5 ct5 | 6 => PySem.W.fnOf "_law_right" "_law_right" (defArgs S__law_right) (defBody S__law_right) (defScope S__law_right) .none kV6 dc6 pm6 an6 cd6 ct6 | 7 => PySem.W.fnOf "law" "law" (defArgs S_law) (defBody S_law) (defScope S_law) .none kV7 dc7 pm7 an7 cd7 ct7 | _ => PySem.W.fnOf "_law_raised" "_law_raised" (defArgs S__law_raised) (defBody S__law_raised) (defScope S__law_raised) .none kV0 dc0 pm0 an0 cd0 ct0) := {
    fnI := FI,
    bI := BI,
    bK := fun s a u => .of_eq rfl,
    tI := tI,
    vV := vV,
    zV := PySem.W.mg_none_of X G z_ValueError,
    ex := x1,
    tab := x2,
    ct := x3,
    fn__law_raised := F0,
    b__law_raised := B0,
    g__law_raised := PySem.W.mg_of X G a0,
    fn__law_caught := F1,
    b__law_caught := B1,
    g__law_caught := PySem.W.mg_of X G a1,
    fn__law_take := F2,
    b__law_take := B2,
    g__law_take := PySem.W.mg_of X G a2,
    fn__law_given := F3,
    b__law_given := B3,
    g__law_given := PySem.W.mg_of X G a3,
    fn__law_kinds := F4,
    b__law_kinds := B4,
    g__law_kinds := PySem.W.mg_of X G a4,
    fn__law_same := F5,
    b__law_same := B5,
    g__law_same := PySem.W.mg_of X G a5,
    fn__law_right := F6,
    b__law_right := B6,
    g__law_right := PySem.W.mg_of X G a6,
    fn_law := F7,
    b_law := B7,
    g_law := PySem.W.mg_of X G a7,
    g_NotIntegers := PySem.W.mg_of X G aC17,
    g_NotCounting := PySem.W.mg_of X G aC18,
    g_TooGreat := PySem.W.mg_of X G aC19,
    g_WorthError := PySem.W.mg_of X G aC0,
    z_len := PySem.W.mg_none_of X G z_len,
    z_int := PySem.W.mg_none_of X G z_int,
    z_isinstance := PySem.W.mg_none_of X G z_isinstance,
    g_InvalidNumber := PySem.W.mg_of X G aC1,
    g_InvalidSigns := PySem.W.mg_of X G aC2,
    g_UnknownSign := PySem.W.mg_of X G aC3,
    g_InvalidMachine := PySem.W.mg_of X G aC4,
    g_UnlikeSigns := PySem.W.mg_of X G aC5,
    g_Endless := PySem.W.mg_of X G aC6,
    g_InvalidPattern := PySem.W.mg_of X G aC7,
    g_InvalidBook := PySem.W.mg_of X G aC8,
    g_InvalidName := PySem.W.mg_of X G aC9,
    g_DoubleName := PySem.W.mg_of X G aC10,
    g_UnknownName := PySem.W.mg_of X G aC11,
    g_InvalidNote := PySem.W.mg_of X G aC12,
    g_InvalidSource := PySem.W.mg_of X G aC13,
    g_NoChance := PySem.W.mg_of X G aC14,
    g_NothingToUndo := PySem.W.mg_of X G aC15,
    g_Unreadable := PySem.W.mg_of X G aC16,
    z_bool := PySem.W.mg_none_of X G z_bool,
    z_str := PySem.W.mg_none_of X G z_str,
    z_list := PySem.W.mg_none_of X G z_list,
    z_tuple := PySem.W.mg_none_of X G z_tuple,
    z_all := PySem.W.mg_none_of X G z_all,
    z_range := PySem.W.mg_none_of X G z_range,
    z_ValueError := PySem.W.mg_none_of X G z_ValueError,
    z_max := PySem.W.mg_none_of X G z_max,
    z_min := PySem.W.mg_none_of X G z_min }
  exact ⟨PySem.W.fnOf "law" "law" (defArgs S_law) (defBody S_law) (defScope S_law) .none kV7 dc7 pm7 an7 cd7 ct7, fun s v => .of_eq rfl, fun base _ _ => law_end (ca := fun c => [C0, C1, C2, C3, C4, C5, C6, C7, C8, C9, C10, C11, C12, C13, C14, C15, C16, C17, C18, C19].getD c 0) law_true (ok_law (P := l.prog) (w := w) (base := base) T)⟩
end K09
open PySem PySem.W PyProof.Rows
set_option maxHeartbeats 0 in
theorem PySem.Challenge.cw_wholeworths_k09_errors_of_all_worths_holds : PySem.Challenge.rw_wholeworths_k09_errors_of_all_worths.Holds := by
  w_on; o_law; k_head; (case hw => w_witness2)
  k_fill
  refine L2.walk_ofB (l := PySem.Challenge.rw_wholeworths_k09_errors_of_all_worths) (n := 63) (k := 11) (x := "script") (CX := fun w => L2.CX (PySem.Challenge.rw_wholeworths_k09_errors_of_all_worths).prog w) (sp := fun w => DL.spScr _) rfl (by decide) rfl ⟨rfl, by decide, by decide⟩ (fun w h Y => PySem.W.kIn_of Y) ?F (fun _ _ a ns hl hb _ hS => ⟨a, ns, rfl, hl, hb, hS, fun _ => rfl⟩) (fun w H s e s' h => DL.cx_end w H s e s' h)
  case F =>
    intro w mg fa h KX G hmg
    refine' K09.all_mk KX G hmg ?a0 ?l0 ?c0 ?k0 ?a1 ?l1 ?c1 ?k1 ?a2 ?l2 ?c2 ?k2 ?a3 ?l3 ?c3 ?k3 ?a4 ?l4 ?c4 ?k4 ?a5 ?l5 ?c5 ?k5 ?a6 ?l6 ?c6 ?k6 ?a7 ?l7 ?c7 ?k7 ?z_len ?z_int ?z_isinstance ?z_bool ?z_str ?z_list ?z_tuple ?z_all ?z_range ?z_ValueError ?z_max ?z_min ?vV ?aC0 ?aC1 ?aC2 ?aC3 ?aC4 ?aC5 ?aC6 ?aC7 ?aC8 ?aC9 ?aC10 ?aC11 ?aC12 ?aC13 ?aC14 ?aC15 ?aC16 ?aC17 ?aC18 ?aC19 ?aI ?lI ?cI ?kI ?tI ?xB
    (case a0 => k_is)
    (case l0 => k_is)
    (case c0 => k_is)
    (case k0 => k_is)
    (case a1 => k_is)
    (case l1 => k_is)
    (case c1 => k_is)
    (case k1 => k_is)
    (case a2 => k_is)
    (case l2 => k_is)
    (case c2 => k_is)
    (case k2 => k_is)
    (case a3 => k_is)
    (case l3 => k_is)
    (case c3 => k_is)
    (case k3 => k_is)
    (case a4 => k_is)
    (case l4 => k_is)
    (case c4 => k_is)
    (case k4 => k_is)
    (case a5 => k_is)
    (case l5 => k_is)
    (case c5 => k_is)
    (case k5 => k_is)
    (case a6 => k_is)
    (case l6 => k_is)
    (case c6 => k_is)
    (case k6 => k_is)
    (case a7 => k_is)
    (case l7 => k_is)
    (case c7 => k_is)
    (case k7 => k_is)
    (case z_len => k_is)
    (case z_int => k_is)
    (case z_isinstance => k_is)
    (case z_bool => k_is)
    (case z_str => k_is)
    (case z_list => k_is)
    (case z_tuple => k_is)
    (case z_all => k_is)
    (case z_range => k_is)
    (case z_ValueError => k_is)
    (case z_max => k_is)
    (case z_min => k_is)
    (case vV => k_is)
    (case aC0 => k_is)
    (case aC1 => k_is)
    (case aC2 => k_is)
    (case aC3 => k_is)
    (case aC4 => k_is)
    (case aC5 => k_is)
    (case aC6 => k_is)
    (case aC7 => k_is)
    (case aC8 => k_is)
    (case aC9 => k_is)
    (case aC10 => k_is)
    (case aC11 => k_is)
    (case aC12 => k_is)
    (case aC13 => k_is)
    (case aC14 => k_is)
    (case aC15 => k_is)
    (case aC16 => k_is)
    (case aC17 => k_is)
    (case aC18 => k_is)
    (case aC19 => k_is)
    (case aI => k_is)
    (case lI => k_is)
    (case cI => k_is)
    (case kI => k_is)
    (case tI => k_is)
    (case xB => kernel_rfl)


