import PyProof.Rows.All
import Wide.All
import OpenK.AllK
import Wide.FinOn
import HandS.ForMost
import HandS.ForExc
import HandS.Wide
import HandS.Gcd
import HandS.ExcInit
import HandS.CallSlots
import HandS.More
import HandS.ExcOwn
import HandS.IsInst
import HandS.ExcIs
import HandS.ExcField
import KE.KExcIs
import HandS.Style
import HandS.EndBits
import HandS.Zip
import HandS.Text
import HandS.Deep
import HandS.Property
import HandS.NamedTupGet
import HandS.Small
import HandS.DictComp
import KE.DataEq
import HandS.Codes
import PyProof.StrBlock2
import HandS.TupAny
import HandS.Flt
import PySem.Challenge.RW_wholeworths_k04_worths_by_rows
set_option Elab.async false
set_option linter.all false
set_option maxRecDepth 100000
set_option maxHeartbeats 4000000
namespace DL
open PySem PySem.Spec PyProof.Rows L2

/-- what a value stands for; ol, od, oi: lists, dicts, instances that one slot alone holds and that may still change -/
inductive D where
  | non | bl (b : Bool) | int (i : Int) | str (x : Str) | ty (n : String)
  | cls (c : Nat)
  | tup (xs : List D) | lst (xs : List D) | frl (xs : List D) | dct (kvs : List (Key × D))
  | ins (c : Nat) (fs : List (Str × D))
  | exc (c : Nat) (d : D)
  | ol (xs : List D) | od (kvs : List (Key × D)) | oi (c : Nat) (fs : List (Str × D))

/-- the written part, and where the classes stand -/
structure Bd where
  K : PySem.W.Frag
  ca : Nat → Addr

abbrev FP := Addr → Prop
def nof : FP := fun _ => False

/-- an exception object, held as a value -/
def exv (C dd a : Addr) : HO := .ext fun h => ∃ (oe : Obj) (vs : Array Value), h.get? a = some oe ∧ oe.cls = .ref C ∧ oe.dict = some dd ∧ oe.data = .fields vs

/-- G: what is frozen; H: what is tracked; the value v stands for the data d; T: the addresses that are its own -/
inductive Rep (B : Bd) (G H : Hp) : V → D → FP → Prop
  | non : Rep B G H .non .non nof
  | bl (b : Bool) : Rep B G H (.bl b) (.bl b) nof
  | int (i : Int) : Rep B G H (.int i) (.int i) nof
  | str (x : Str) : Rep B G H (.str x) (.str x) nof
  | ty (n : String) : Rep B G H (.ty n) (.ty n) nof
  | cls (c : Nat) : Rep B G H (.ref (B.ca c)) (.cls c) nof
  | tup {a : Addr} {vs : List V} {ds : List D} (h : SqT B.K G a vs) (l : vs.length = ds.length)
      (c : ∀ (i : Nat) v d, vs[i]? = some v → ds[i]? = some d → Rep B G H v d nof) : Rep B G H (.ref a) (.tup ds) nof
  | lst {a : Addr} {vs : List V} {ds : List D} (h : G a = some (.lst vs)) (l : vs.length = ds.length)
      (c : ∀ (i : Nat) v d, vs[i]? = some v → ds[i]? = some d → Rep B G H v d nof) : Rep B G H (.ref a) (.lst ds) nof
  | frl {a : Addr} {vs : List V} {ds : List D} (h : SqL B.K G a vs) (l : vs.length = ds.length)
      (c : ∀ (i : Nat) v d, vs[i]? = some v → ds[i]? = some d → Rep B G H v d nof) : Rep B G H (.ref a) (.frl ds) nof
  | dct {a : Addr} {kvs : List (Key × V)} {ds : List (Key × D)} (h : G a = some (.dK kvs)) (l : kvs.map (·.1) = ds.map (·.1))
      (c : ∀ (i : Nat) k v k' d, kvs[i]? = some (k, v) → ds[i]? = some (k', d) → Rep B G H v d nof) : Rep B G H (.ref a) (.dct ds) nof
  | ins {a dx : Addr} {c : Nat} {fs : List (Str × V)} {ds : List (Str × D)} (h : G a = some (.ins (B.ca c) dx fs)) (ho : G dx = some (.own a)) (l : fs.map (·.1) = ds.map (·.1))
      (ch : ∀ (i : Nat) k v k' d, fs[i]? = some (k, v) → ds[i]? = some (k', d) → Rep B G H v d nof) : Rep B G H (.ref a) (.ins c ds) nof
  | exc {a dd : Addr} {c : Nat} {v : V} {d : D} (h : G a = some (exv (B.ca c) dd a)) (ho : G dd = some (.xd [(("value" : Str), v)]))
      (r : Rep B G H v d nof) : Rep B G H (.ref a) (.exc c d) nof
  | ol {a : Addr} {vs : List V} {ds : List D} {F : Nat → FP} (h : H a = some (.lst vs)) (g : G a = none) (l : vs.length = ds.length)
      (c : ∀ (i : Nat) v d, vs[i]? = some v → ds[i]? = some d → Rep B G H v d (F i)) (bd : ∀ i x, F i x → i < ds.length)
      (dj : ∀ i j x, F i x → F j x → i = j) (na : ∀ i, ¬ F i a) : Rep B G H (.ref a) (.ol ds) (fun x => x = a ∨ ∃ i, F i x)
  | od {a : Addr} {kvs : List (Key × V)} {ds : List (Key × D)} {F : Nat → FP} (h : H a = some (.dK kvs)) (g : G a = none) (l : kvs.map (·.1) = ds.map (·.1))
      (c : ∀ (i : Nat) k v k' d, kvs[i]? = some (k, v) → ds[i]? = some (k', d) → Rep B G H v d (F i)) (bd : ∀ i x, F i x → i < ds.length)
      (dj : ∀ i j x, F i x → F j x → i = j) (na : ∀ i, ¬ F i a) : Rep B G H (.ref a) (.od ds) (fun x => x = a ∨ ∃ i, F i x)
  | oi {a dx : Addr} {c : Nat} {fs : List (Str × V)} {ds : List (Str × D)} {F : Nat → FP} (h : H a = some (.ins (B.ca c) dx fs)) (ho : H dx = some (.own a)) (g : G a = none) (g2 : G dx = none) (l : fs.map (·.1) = ds.map (·.1))
      (ch : ∀ (i : Nat) k v k' d, fs[i]? = some (k, v) → ds[i]? = some (k', d) → Rep B G H v d (F i)) (bd : ∀ i x, F i x → i < ds.length)
      (dj : ∀ i j x, F i x → F j x → i = j) (na : ∀ i, ¬ F i a) (na2 : ∀ i, ¬ F i dx) : Rep B G H (.ref a) (.oi c ds) (fun x => x = a ∨ x = dx ∨ ∃ i, F i x)

section
variable {B : Bd} {G H G' H' : Hp} {v : V} {d : D} {T : FP}
theorem get_both {α β : Type} {xs : List α} {ys : List β} (l : xs.length = ys.length) {i : Nat} (hi : i < ys.length) : ∃ x y, xs[i]? = some x ∧ ys[i]? = some y :=
  ⟨xs[i], ys[i], List.getElem?_eq_getElem (by omega), List.getElem?_eq_getElem hi⟩
theorem len_of_keys {κ α β : Type} {xs : List (κ × α)} {ys : List (κ × β)} (l : xs.map (·.1) = ys.map (·.1)) : xs.length = ys.length := by
  have := congrArg List.length l
  simpa using this
/-- own addresses stand in the heap, not frozen -/
theorem Rep.dom (r : Rep B G H v d T) : ∀ x, T x → (∃ o, H x = some o) ∧ G x = none := by
  induction r with
  | non | bl | int | str | ty | cls | tup | lst | frl | dct | ins | exc => intro x h; exact h.elim
  | ol h g l c bd dj na ih =>
    rintro x (rfl | ⟨i, hx⟩)
    · exact ⟨⟨_, h⟩, g⟩
    · obtain ⟨v, d, e1, e2⟩ := get_both l (bd i x hx)
      exact ih i v d e1 e2 x hx
  | od h g l c bd dj na ih =>
    rintro x (rfl | ⟨i, hx⟩)
    · exact ⟨⟨_, h⟩, g⟩
    · obtain ⟨⟨k, v⟩, ⟨k', d⟩, e1, e2⟩ := get_both (len_of_keys l) (bd i x hx)
      exact ih i k v k' d e1 e2 x hx
  | oi h ho g g2 l c bd dj na na2 ih =>
    rintro x (rfl | rfl | ⟨i, hx⟩)
    · exact ⟨⟨_, h⟩, g⟩
    · exact ⟨⟨_, ho⟩, g2⟩
    · obtain ⟨⟨k, v⟩, ⟨k', d⟩, e1, e2⟩ := get_both (len_of_keys l) (bd i x hx)
      exact ih i k v k' d e1 e2 x hx
theorem sqL_mono {K : PySem.W.Frag} {a : Addr} {vs : List V} (h : SqL K G a vs) (k : ∀ b o, G b = some o → G' b = some o) : SqL K G' a vs := by
  rcases h with (h | ⟨o, h⟩) | h
  · exact .inl (.inl (k _ _ h))
  · exact .inl (.inr ⟨o, k _ _ h⟩)
  · exact .inr h
theorem sqT_mono {K : PySem.W.Frag} {a : Addr} {vs : List V} (h : SqT K G a vs) (k : ∀ b o, G b = some o → G' b = some o) : SqT K G' a vs := by
  rcases h with (h | ⟨o, h⟩) | h
  · exact .inl (.inl (k _ _ h))
  · exact .inl (.inr ⟨o, k _ _ h⟩)
  · exact .inr h
/-- what stands for d still does when the frozen part grows and the own part stays -/
theorem Rep.keep (r : Rep B G H v d T) (gg : ∀ b o, G b = some o → G' b = some o) : (∀ b, T b → H' b = H b ∧ G' b = none) → Rep B G' H' v d T := by
  induction r with
  | non => intro; exact .non
  | bl b => intro; exact .bl b
  | int i => intro; exact .int i
  | str x => intro; exact .str x
  | ty n => intro; exact .ty n
  | cls c => intro; exact .cls c
  | tup h l c ih => intro _; exact .tup (sqT_mono h gg) l fun i v d e1 e2 => ih i v d e1 e2 fun b hb => hb.elim
  | lst h l c ih => intro _; exact .lst (gg _ _ h) l fun i v d e1 e2 => ih i v d e1 e2 fun b hb => hb.elim
  | frl h l c ih => intro _; exact .frl (sqL_mono h gg) l fun i v d e1 e2 => ih i v d e1 e2 fun b hb => hb.elim
  | dct h l c ih => intro _; exact .dct (gg _ _ h) l fun i k v k' d e1 e2 => ih i k v k' d e1 e2 fun b hb => hb.elim
  | ins h ho l c ih => intro _; exact .ins (gg _ _ h) (gg _ _ ho) l fun i k v k' d e1 e2 => ih i k v k' d e1 e2 fun b hb => hb.elim
  | exc h ho r ih => intro _; exact .exc (gg _ _ h) (gg _ _ ho) (ih fun b hb => hb.elim)
  | ol h g l c bd dj na ih =>
    intro k
    exact .ol ((k _ (.inl rfl)).1.trans h) (k _ (.inl rfl)).2 l (fun i v d e1 e2 => ih i v d e1 e2 fun b hb => k b (.inr ⟨i, hb⟩)) bd dj na
  | od h g l c bd dj na ih =>
    intro k
    exact .od ((k _ (.inl rfl)).1.trans h) (k _ (.inl rfl)).2 l (fun i q v q' d e1 e2 => ih i q v q' d e1 e2 fun b hb => k b (.inr ⟨i, hb⟩)) bd dj na
  | oi h ho g g2 l c bd dj na na2 ih =>
    intro k
    exact .oi ((k _ (.inl rfl)).1.trans h) ((k _ (.inr (.inl rfl))).1.trans ho) (k _ (.inl rfl)).2 (k _ (.inr (.inl rfl))).2 l
      (fun i q v q' d e1 e2 => ih i q v q' d e1 e2 fun b hb => k b (.inr (.inr ⟨i, hb⟩))) bd dj na na2
end

/-- not owned at its root -/
def D.sh : D → Bool
  | .ol _ => false | .od _ => false | .oi _ _ => false
  | _ => true
theorem Rep.sh_nof {B : Bd} {G H : Hp} {v : V} {d : D} {T : FP} (r : Rep B G H v d T) (h : d.sh = true) : T = nof := by
  cases r <;> first | rfl | cases h

/-! ### steps of the heap -/
structure Ext (G H : Hp) (W : FP) (G' H' : Hp) (W' : FP) : Prop where
  gg : ∀ b o, G b = some o → G' b = some o
  hh : ∀ b o, H b = some o → ¬ W b → H' b = some o
  ww : ∀ b, W' b → W b ∨ H b = none
  gn : ∀ b o, G' b = some o → G b = some o ∨ W b ∨ H b = none
section
variable {G H G1 H1 G2 H2 : Hp} {W W1 W2 : FP}
theorem Ext.refl (h : ∀ x, W1 x → W x) : Ext G H W G H W1 := ⟨fun _ _ e => e, fun _ _ e _ => e, fun b h' => .inl (h b h'), fun _ _ e => .inl e⟩
theorem Ext.trans (a : Ext G H W G1 H1 W1) (b : Ext G1 H1 W1 G2 H2 W2) : Ext G H W G2 H2 W2 := by
  have nn : ∀ x, H1 x = none → W x ∨ H x = none := fun x e => by
    cases q : H x with
    | none => exact .inr rfl
    | some o =>
      by_cases w : W x
      · exact .inl w
      · rw [a.hh x o q w] at e; cases e
  refine ⟨fun x o e => b.gg x o (a.gg x o e), fun x o e w => ?_, fun x w => ?_, fun x o e => ?_⟩
  · have e1 := a.hh x o e w
    refine b.hh x o e1 fun w1 => ?_
    rcases a.ww x w1 with z | z
    · exact w z
    · rw [z] at e; cases e
  · rcases b.ww x w with w1 | z
    · exact a.ww x w1
    · exact nn x z
  · rcases b.gn x o e with g1 | w1 | z
    · exact a.gn x o g1
    · exact .inr (a.ww x w1)
    · exact .inr (nn x z)
theorem Ext.mono {Wa Wb : FP} (a : Ext G H W G1 H1 W1) (h : ∀ x, W x → Wa x) (h1 : ∀ x, Wb x → W1 x) : Ext G H Wa G1 H1 Wb :=
  ⟨a.gg, fun x o e w => a.hh x o e fun z => w (h x z), fun x w => (a.ww x (h1 x w)).imp (h x) id, fun x o e => (a.gn x o e).imp id fun z => z.imp (h x) id⟩
/-- what stands apart stays, and stays apart -/
theorem Rep.frame {B : Bd} {v : V} {d : D} {T : FP} (r : Rep B G H v d T) (x : Ext G H W G1 H1 W1) (n : ∀ b, T b → ¬ W b) : Rep B G1 H1 v d T ∧ ∀ b, T b → ¬ W1 b := by
  have dm := r.dom
  refine ⟨r.keep x.gg fun b hb => ?_, fun b hb w => ?_⟩
  · obtain ⟨⟨o, e⟩, g⟩ := dm b hb
    refine ⟨(x.hh b o e (n b hb)).trans e.symm, ?_⟩
    cases q : G1 b with
    | none => rfl
    | some u =>
      rcases x.gn b u q with z | z | z
      · rw [g] at z; cases z
      · exact (n b hb z).elim
      · rw [e] at z; cases z
  · obtain ⟨⟨o, e⟩, g⟩ := dm b hb
    rcases x.ww b w with z | z
    · exact n b hb z
    · rw [e] at z; cases z
/-- a frozen thing stays whatever is done -/
theorem Rep.stay {B : Bd} {v : V} {d : D} (r : Rep B G H v d nof) (x : Ext G H W G1 H1 W1) : Rep B G1 H1 v d nof := r.keep x.gg fun _ h => h.elim
end

/-! ### freezing -/
mutual
def frz : D → D
  | .ol xs => .lst (frzL xs)
  | .od kvs => .dct (frzK kvs)
  | .oi c fs => .ins c (frzF fs)
  | d => d
def frzL : List D → List D
  | [] => []
  | d :: ds => frz d :: frzL ds
def frzK : List (Key × D) → List (Key × D)
  | [] => []
  | (k, d) :: ds => (k, frz d) :: frzK ds
def frzF : List (Str × D) → List (Str × D)
  | [] => []
  | (k, d) :: ds => (k, frz d) :: frzF ds
end
theorem frzL_map : ∀ xs : List D, frzL xs = xs.map frz
  | [] => rfl
  | d :: ds => by rw [frzL, frzL_map ds]; rfl
theorem frzK_map : ∀ xs : List (Key × D), frzK xs = xs.map fun p => (p.1, frz p.2)
  | [] => rfl
  | (k, d) :: ds => by rw [frzK, frzK_map ds]; rfl
theorem frzF_map : ∀ xs : List (Str × D), frzF xs = xs.map fun p => (p.1, frz p.2)
  | [] => rfl
  | (k, d) :: ds => by rw [frzF, frzF_map ds]; rfl
open Classical in
/-- T is frozen too -/
noncomputable def gfr (G H : Hp) (T : FP) : Hp := fun b => if T b then H b else G b
section
variable {B : Bd} {G H G1 : Hp} {v : V} {d : D} {T : FP}
theorem gfr_in {b : Addr} (h : T b) : gfr G H T b = H b := if_pos h
theorem gfr_out {b : Addr} (h : ¬ T b) : gfr G H T b = G b := if_neg h
/-- what stood for d stands for d frozen, when all of its own is frozen -/
theorem Rep.frozen (r : Rep B G H v d T) : (∀ b o, G b = some o → G1 b = some o) → (∀ b, T b → G1 b = H b) → Rep B G1 H v (frz d) nof := by
  induction r with
  | non => intros; exact .non
  | bl b => intros; exact .bl b
  | int i => intros; exact .int i
  | str x => intros; exact .str x
  | ty n => intros; exact .ty n
  | cls c => intros; exact .cls c
  | tup h l c ih => intro gg _; exact .tup (sqT_mono h gg) l fun i v d e1 e2 => (c i v d e1 e2).keep gg fun b hb => hb.elim
  | lst h l c ih => intro gg _; exact .lst (gg _ _ h) l fun i v d e1 e2 => (c i v d e1 e2).keep gg fun b hb => hb.elim
  | frl h l c ih => intro gg _; exact .frl (sqL_mono h gg) l fun i v d e1 e2 => (c i v d e1 e2).keep gg fun b hb => hb.elim
  | dct h l c ih => intro gg _; exact .dct (gg _ _ h) l fun i k v k' d e1 e2 => (c i k v k' d e1 e2).keep gg fun b hb => hb.elim
  | ins h ho l c ih => intro gg _; exact .ins (gg _ _ h) (gg _ _ ho) l fun i k v k' d e1 e2 => (c i k v k' d e1 e2).keep gg fun b hb => hb.elim
  | exc h ho r ih => intro gg _; exact .exc (gg _ _ h) (gg _ _ ho) (r.keep gg fun b hb => hb.elim)
  | ol h g l c bd dj na ih =>
    intro gg k
    rw [frz, frzL_map]
    refine .lst ((k _ (.inl rfl)).trans h) (by rw [List.length_map]; exact l) fun i v d e1 e2 => ?_
    rw [List.getElem?_map] at e2
    obtain ⟨d', e3, rfl⟩ := Option.map_eq_some_iff.mp e2
    exact ih i v d' e1 e3 gg fun b hb => k b (.inr ⟨i, hb⟩)
  | od h g l c bd dj na ih =>
    intro gg k
    rw [frz, frzK_map]
    refine .dct ((k _ (.inl rfl)).trans h) (by rw [List.map_map]; exact l) fun i q v q' d e1 e2 => ?_
    rw [List.getElem?_map] at e2
    obtain ⟨⟨q'', d'⟩, e3, e4⟩ := Option.map_eq_some_iff.mp e2
    cases e4
    exact ih i q v q'' d' e1 e3 gg fun b hb => k b (.inr ⟨i, hb⟩)
  | oi h ho g g2 l c bd dj na na2 ih =>
    intro gg k
    rw [frz, frzF_map]
    refine .ins ((k _ (.inl rfl)).trans h) ((k _ (.inr (.inl rfl))).trans ho) (by rw [List.map_map]; exact l) fun i q v q' d e1 e2 => ?_
    rw [List.getElem?_map] at e2
    obtain ⟨⟨q'', d'⟩, e3, e4⟩ := Option.map_eq_some_iff.mp e2
    cases e4
    exact ih i q v q'' d' e1 e3 gg fun b hb => k b (.inr (.inr ⟨i, hb⟩))
theorem frz_sh : ∀ d : D, d.sh = true → frz d = d
  | .non, _ => rfl | .bl _, _ => rfl | .int _, _ => rfl | .str _, _ => rfl | .ty _, _ => rfl | .cls _, _ => rfl
  | .tup _, _ => rfl | .lst _, _ => rfl | .frl _, _ => rfl | .dct _, _ => rfl | .ins _ _, _ => rfl | .exc _ _, _ => rfl
theorem frz_is (d : D) : (frz d).sh = true := by cases d <;> rfl
theorem gfr_gg (r : Rep B G H v d T) : ∀ b o, G b = some o → gfr G H T b = some o := fun b o e => by
  by_cases h : T b
  · rw [(r.dom b h).2] at e; cases e
  · rw [gfr_out h]; exact e
end
end DL

namespace DL
open PySem PySem.Spec PyProof.Rows L2

abbrev DEnv := List (Option D)
/-- what an expression comes to: a value, or the thing that a slot holds alone -/
inductive PSt where
  | ix (j : Nat) | fl (f : Str)
inductive AV where
  | val (d : D) | pl (i : Nat) (p : List PSt)
/-- where a key stands first -/
def kIdx {α : Type} (f : Str) : List (Str × α) → Option Nat
  | [] => none
  | (g, _) :: r => if g = f then some 0 else (kIdx f r).map (· + 1)
theorem kIdx_keys {α β : Type} (f : Str) : ∀ {xs : List (Str × α)} {ys : List (Str × β)}, xs.map (·.1) = ys.map (·.1) → kIdx f xs = kIdx f ys
  | [], [], _ => rfl
  | [], _ :: _, h => by cases h
  | _ :: _, [], h => by cases h
  | (g, _) :: r, (g', _) :: r', h => by
    simp only [List.map_cons, List.cons.injEq] at h
    obtain ⟨h1, h2⟩ := h
    subst h1
    unfold kIdx
    rw [kIdx_keys f h2]
theorem kIdx_get {α : Type} {f : Str} : ∀ {xs : List (Str × α)} {k : Nat}, kIdx f xs = some k → ∃ x, xs[k]? = some (f, x) ∧ xs.lookup f = some x
  | [], k, h => by cases h
  | (g, y) :: r, k, h => by
    unfold kIdx at h
    by_cases e : g = f
    · rw [if_pos e] at h
      cases h
      subst e
      exact ⟨y, rfl, by simp [List.lookup]⟩
    · rw [if_neg e] at h
      obtain ⟨k', h1, rfl⟩ := Option.map_eq_some_iff.mp h
      obtain ⟨x, e1, e2⟩ := kIdx_get h1
      refine ⟨x, by simpa using e1, ?_⟩
      have : (f == g) = false := by simpa using Ne.symm e
      simp [List.lookup, this, e2]
/-- the part of an own thing at a path -/
def getP : D → List PSt → Option D
  | d, [] => some d
  | .ol ds, .ix j :: p => match ds[j]? with
    | some d => getP d p
    | none => none
  | .oi _ fs, .fl f :: p => match kIdx f fs with
    | some k => match fs[k]? with
      | some (_, d) => getP d p
      | none => none
    | none => none
  | _, _ => none
def putP : D → List PSt → D → Option D
  | _, [], e => some e
  | .ol ds, .ix j :: p, e => match ds[j]? with
    | some d => (putP d p e).map fun u => .ol (ds.set j u)
    | none => none
  | .oi c fs, .fl f :: p, e => match kIdx f fs with
    | some k => match fs[k]? with
      | some (_, d) => (putP d p e).map fun u => .oi c (fs.set k (f, u))
      | none => none
    | none => none
  | _, _, _ => none
def PathH (H : Hp) : V → List PSt → V → Prop
  | v0, [], v => v0 = v
  | v0, .ix j :: p, v => ∃ a vs u, v0 = .ref a ∧ H a = some (.lst vs) ∧ vs[j]? = some u ∧ PathH H u p v
  | v0, .fl f :: p, v => ∃ a C dx fs k u, v0 = .ref a ∧ H a = some (.ins C dx fs) ∧ kIdx f fs = some k ∧ fs[k]? = some (f, u) ∧ PathH H u p v
inductive Out (α : Type) where
  | ok (a : α) (ρ : DEnv) | exc (e : D) (ρ : DEnv)
abbrev Ev (α : Type) := DEnv → Option (Out α)
def Ev.andThen {α β : Type} (f : Ev α) (k : α → Ev β) : Ev β := fun ρ => match f ρ with
  | none => none
  | some (.exc e ρ1) => some (.exc e ρ1)
  | some (.ok a ρ1) => k a ρ1
def Ev.pure {α : Type} (a : α) : Ev α := fun ρ => some (.ok a ρ)
def slotOf (ρ : DEnv) (i : Nat) : Option D := (ρ[i]?).bind id
theorem slotOf_eq {ρ : DEnv} {i : Nat} {d : D} (h : slotOf ρ i = some d) : ρ[i]? = some (some d) := by
  unfold slotOf at h
  cases e : ρ[i]? with
  | none => rw [e] at h; cases h
  | some o => rw [e] at h; cases o with
    | none => cases h
    | some d' => cases h; rfl
theorem slotOf_of {ρ : DEnv} {i : Nat} {d : D} (h : ρ[i]? = some (some d)) : slotOf ρ i = some d := by unfold slotOf; rw [h]; rfl
def cont (ρ : DEnv) : AV → Option D
  | .val d => some d
  | .pl i p => (slotOf ρ i).bind fun d => getP d p

theorem cont_pl (ρ : DEnv) (i : Nat) (p : List PSt) : cont ρ (.pl i p) = (slotOf ρ i).bind fun d => getP d p := rfl
section
variable {α β : Type} {f : Ev α} {k : α → Ev β} {ρ ρ1 : DEnv} {a : α} {e : D}
theorem andThen_none (h : f ρ = none) : f.andThen k ρ = none := by unfold Ev.andThen; rw [h]
theorem andThen_exc (h : f ρ = some (.exc e ρ1)) : f.andThen k ρ = some (.exc e ρ1) := by unfold Ev.andThen; rw [h]
theorem andThen_ok (h : f ρ = some (.ok a ρ1)) : f.andThen k ρ = k a ρ1 := by unfold Ev.andThen; rw [h]
end
def avF (F : Nat → FP) : AV → FP
  | .pl i _ => F i
  | .val _ => nof
def un (F : Nat → FP) : FP := fun x => ∃ i, F i x

structure Cfg (B : Bd) (G H : Hp) (σ : L2.St) (ρ : DEnv) (F : Nat → FP) : Prop where
  sub : ∀ b o, G b = some o → H b = some o
  len : ρ.length = σ.length
  slot : ∀ i d, ρ[i]? = some (some d) → ∃ v, σ[i]? = some (some v) ∧ Rep B G H v d (F i)
  emp : ∀ i, (∀ d, ρ[i]? ≠ some (some d)) → ∀ x, ¬ F i x
  dis : ∀ i j x, F i x → F j x → i = j

section
variable {B : Bd} {G H G' H' : Hp} {σ : L2.St} {ρ : DEnv} {F : Nat → FP} {W : FP}
theorem Cfg.own (c : Cfg B G H σ ρ F) {i : Nat} {x : Addr} (h : F i x) : ∃ d v, ρ[i]? = some (some d) ∧ σ[i]? = some (some v) ∧ Rep B G H v d (F i) := by
  cases e : ρ[i]? with
  | none => exact (c.emp i (fun d z => by rw [e] at z; cases z) x h).elim
  | some o =>
    cases o with
    | none => exact (c.emp i (fun d z => by rw [e] at z; cases z) x h).elim
    | some d =>
      obtain ⟨v, e1, r⟩ := c.slot i d e
      exact ⟨d, v, rfl, e1, r⟩
theorem Cfg.dom (c : Cfg B G H σ ρ F) {x : Addr} (h : un F x) : (∃ o, H x = some o) ∧ G x = none := by
  obtain ⟨i, hi⟩ := h
  obtain ⟨d, v, _, _, r⟩ := c.own hi
  exact r.dom x hi
/-- something is made, nothing is changed -/
theorem Cfg.grow (c : Cfg B G H σ ρ F) (x : Ext G H nof G' H' W) (s : ∀ b o, G' b = some o → H' b = some o) : Cfg B G' H' σ ρ F := by
  refine ⟨s, c.len, fun i d e => ?_, c.emp, c.dis⟩
  obtain ⟨v, e1, r⟩ := c.slot i d e
  exact ⟨v, e1, (r.frame x fun _ _ z => z).1⟩
/-- a step that leaves these slots apart -/
theorem Cfg.apart {W1 : FP} (c : Cfg B G H σ ρ F) (x : Ext G H W G' H' W1) (s : ∀ b o, G' b = some o → H' b = some o) (n : ∀ b, un F b → ¬ W b) : Cfg B G' H' σ ρ F := by
  refine ⟨s, c.len, fun i d e => ?_, c.emp, c.dis⟩
  obtain ⟨v, e1, r⟩ := c.slot i d e
  exact ⟨v, e1, (r.frame x fun b hb => n b ⟨i, hb⟩).1⟩
theorem Cfg.at (c : Cfg B G H σ ρ F) {i : Nat} {d : D} (h : slotOf ρ i = some d) : ∃ v, σ[i]? = some (some v) ∧ Rep B G H v d (F i) := c.slot i d (slotOf_eq h)
end

/-- a path: the parts on it are own, so it stays as long as they stay -/
theorem PathH.keep {B : Bd} {G H H' : Hp} : ∀ {p : List PSt} {v0 v : V} {d0 d : D} {T : FP}, Rep B G H v0 d0 T → getP d0 p = some d → (∀ b, T b → H' b = H b) → PathH H v0 p v → PathH H' v0 p v
  | [], _, _, _, _, _, _, _, _, h => h
  | .ix j :: p, v0, v, d0, d, T, r, e, k, h => by
    obtain ⟨a, vs, u, rfl, ha, hu, h⟩ := h
    cases r with
    | ol h' g l c bd dj na =>
      rw [h'] at ha; cases ha
      unfold getP at e
      split at e
      · rename_i dj' e2
        refine ⟨a, _, u, rfl, (k a (.inl rfl)).trans h', hu, PathH.keep (c j u dj' hu e2) e (fun b hb => k b (.inr ⟨j, hb⟩)) h⟩
      · cases e
    | _ => simp [getP] at e
  | .fl f :: p, v0, v, d0, d, T, r, e, k, h => by
    obtain ⟨a, C, dx, fs, n, u, rfl, ha, hk, hu, h⟩ := h
    cases r with
    | oi h' ho g g2 l c bd dj na na2 =>
      rw [h'] at ha; cases ha
      unfold getP at e
      rw [← kIdx_keys f l, hk] at e
      dsimp only at e
      split at e
      · rename_i f' dj' e2
        refine ⟨a, _, dx, _, n, u, rfl, (k a (.inl rfl)).trans h', hk, hu, PathH.keep (c n f u f' dj' hu e2) e (fun b hb => k b (.inr (.inr ⟨n, hb⟩))) h⟩
      · cases e
    | _ => simp [getP] at e
/-- what stands at a path -/
theorem PathH.rep {B : Bd} {G H : Hp} : ∀ {p : List PSt} {v0 v : V} {d0 d : D} {T : FP}, Rep B G H v0 d0 T → getP d0 p = some d → PathH H v0 p v → ∃ U, Rep B G H v d U ∧ ∀ x, U x → T x
  | [], v0, v, d0, d, T, r, e, h => by cases h; cases e; exact ⟨T, r, fun _ h => h⟩
  | .ix j :: p, v0, v, d0, d, T, r, e, h => by
    obtain ⟨a, vs, u, rfl, ha, hu, h⟩ := h
    cases r with
    | ol h' g l c bd dj na =>
      rw [h'] at ha; cases ha
      unfold getP at e
      split at e
      · rename_i dj' e2
        obtain ⟨U, r, s⟩ := PathH.rep (c j u dj' hu e2) e h
        exact ⟨U, r, fun x hx => .inr ⟨j, s x hx⟩⟩
      · cases e
    | _ => simp [getP] at e
  | .fl f :: p, v0, v, d0, d, T, r, e, h => by
    obtain ⟨a, C, dx, fs, n, u, rfl, ha, hk, hu, h⟩ := h
    cases r with
    | oi h' ho g g2 l c bd dj na na2 =>
      rw [h'] at ha; cases ha
      unfold getP at e
      rw [← kIdx_keys f l, hk] at e
      dsimp only at e
      split at e
      · rename_i f' dj' e2
        obtain ⟨U, r, s⟩ := PathH.rep (c n f u f' dj' hu e2) e h
        exact ⟨U, r, fun x hx => .inr (.inr ⟨n, s x hx⟩)⟩
      · cases e
    | _ => simp [getP] at e
/-- a value that is held meanwhile -/
def RepA (B : Bd) (G H : Hp) (σ : L2.St) (v : V) : AV → FP → Prop
  | .val d, T => Rep B G H v d T
  | .pl i p, T => (∃ v0, σ[i]? = some (some v0) ∧ PathH H v0 p v) ∧ T = nof
def AV.deep : AV → Bool
  | .pl _ (_ :: _) => true
  | _ => false
theorem RepA.frame {B : Bd} {G H G1 H1 : Hp} {W W1 T : FP} {σ : L2.St} {v : V} {av : AV} (r : RepA B G H σ v av T) (x : Ext G H W G1 H1 W1) (n : ∀ b, T b → ¬ W b) (hd : av.deep = false) : RepA B G1 H1 σ v av T ∧ ∀ b, T b → ¬ W1 b := by
  cases av with
  | val d => exact Rep.frame r x n
  | pl i p =>
    cases p with
    | nil => obtain ⟨⟨v0, e, h⟩, rfl⟩ := r; exact ⟨⟨⟨v0, e, h⟩, rfl⟩, fun _ h => h.elim⟩
    | cons s p => cases hd
theorem RepA.dom {B : Bd} {G H : Hp} {T : FP} {σ : L2.St} {v : V} {av : AV} (r : RepA B G H σ v av T) : ∀ x, T x → (∃ o, H x = some o) ∧ G x = none := by
  cases av with
  | val d => exact Rep.dom r
  | pl i p => obtain ⟨e, rfl⟩ := r; exact fun _ h => h.elim
/-- what it stands for -/
theorem RepA.cont {B : Bd} {G H : Hp} {T : FP} {σ : L2.St} {ρ : DEnv} {F : Nat → FP} {v : V} {av : AV} {d : D} (c : Cfg B G H σ ρ F) (r : RepA B G H σ v av T) (e : cont ρ av = some d) : ∃ U, Rep B G H v d U ∧ ∀ x, U x → T x ∨ avF F av x := by
  cases av with
  | val d' => cases e; exact ⟨T, r, fun x h => .inl h⟩
  | pl i p =>
    obtain ⟨⟨v0, e0, h⟩, rfl⟩ := r
    rw [cont_pl] at e
    cases hs : slotOf ρ i with
    | none => rw [hs] at e; cases e
    | some d0 =>
      rw [hs] at e
      obtain ⟨v', e2, r'⟩ := c.at hs
      rw [e0] at e2
      cases e2
      obtain ⟨U, r, s⟩ := h.rep r' e
      exact ⟨U, r, fun x hx => .inr (s x hx)⟩
/-- several, their own addresses within Wt, apart from one another -/
inductive RepAs (B : Bd) (G H : Hp) (σ : L2.St) : FP → List V → List AV → Prop
  | nil {Wt : FP} : RepAs B G H σ Wt [] []
  | cons {Wt Wu T : FP} {v : V} {a : AV} {vs : List V} {as : List AV} (r : RepA B G H σ v a T) (hT : ∀ x, T x → Wt x) (t : RepAs B G H σ Wu vs as) (hu : ∀ x, Wu x → Wt x) (dj : ∀ x, T x → ¬ Wu x) : RepAs B G H σ Wt (v :: vs) (a :: as)
theorem RepAs.mono {B : Bd} {G H : Hp} {Wt Wu : FP} {σ : L2.St} {vs : List V} {avs : List AV} (h : ∀ b, Wt b → Wu b) (r : RepAs B G H σ Wt vs avs) : RepAs B G H σ Wu vs avs := by
  cases r with
  | nil => exact .nil
  | cons r hT t hu dj => exact .cons r (fun x k => h x (hT x k)) t (fun x k => h x (hu x k)) dj

/-- an error of an own class with its value -/
def ExcAt (B : Bd) (G : Hp) (cls : Value) (dx : Option Addr) (e : D) : Prop := ∃ c dd v d, e = .exc c d ∧ cls = .ref (B.ca c) ∧ dx = some dd ∧ G dd = some (.xd [(("value" : Str), v)]) ∧ Rep B G G v d nof

def endE (B : Bd) (W : WX) (σ : L2.St) (G H : Hp) (W0 : FP) (Q : VK) : Out AV → Prop
  | .ok av ρ' => ∀ v G' H' F' T, Cfg B G' H' σ ρ' F' → RepA B G' H' σ v av T → (∀ x, T x → ¬ un F' x) → Ext G H W0 G' H' (fun x => un F' x ∨ T x) → Q v H'
  | .exc e ρ' => ∀ G' H' F' cls dx, Cfg B G' H' σ ρ' F' → ExcAt B G' cls dx e → Ext G H W0 G' H' (un F') → W cls dx σ H'
def tD (B : Bd) (W : WX) (f : Ev AV) : TE := fun σ H Q => ∃ G ρ F o, Cfg B G H σ ρ F ∧ f ρ = some o ∧ endE B W σ G H (un F) Q o
def endL (B : Bd) (W : WX) (σ : L2.St) (G H : Hp) (W0 : FP) (Q : List V → Hp → Prop) : Out (List AV) → Prop
  | .ok avs ρ' => ∀ vs G' H' F' Wt, Cfg B G' H' σ ρ' F' → RepAs B G' H' σ Wt vs avs → (∀ x, Wt x → ¬ un F' x) → Ext G H W0 G' H' (fun x => un F' x ∨ Wt x) → Q vs H'
  | .exc e ρ' => ∀ G' H' F' cls dx, Cfg B G' H' σ ρ' F' → ExcAt B G' cls dx e → Ext G H W0 G' H' (un F') → W cls dx σ H'
def tDL (B : Bd) (W : WX) (f : Ev (List AV)) : TA := fun σ H Q => ∃ G ρ F o, Cfg B G H σ ρ F ∧ f ρ = some o ∧ endL B W σ G H (un F) Q o

def DE (ca : Nat → Addr) (X : Cx) (e : Expr) (f : Ev AV) : Prop := ∀ W, Takes X W → PE X e (tD ⟨X.K, ca⟩ W f)
def DA (ca : Nat → Addr) (X : Cx) (es : List Expr) (f : Ev (List AV)) : Prop := ∀ W, Takes X W → PA X es (tDL ⟨X.K, ca⟩ W f)

theorem PE.imp {X : Cx} {e : Expr} {t u : TE} (h : PE X e t) (k : ∀ (σ : L2.St) (H : Hp) (Q : VK), u σ H Q → t σ H Q) : PE X e u := ⟨fun pins s σ H Q I q => h.run pins s σ H Q I (k σ H Q q)⟩
theorem PA.imp {X : Cx} {e : List Expr} {t u : TA} (h : PA X e t) (k : ∀ (σ : L2.St) (H : Hp) (Q : List V → Hp → Prop), u σ H Q → t σ H Q) : PA X e u := ⟨fun pos pins s σ H Q I q => h.run pos pins s σ H Q I (k σ H Q q)⟩

def evNil : Ev (List AV) := .pure []
/-- g, while nobody looks at slot i -/
def lockE {α : Type} (i : Nat) (p : List PSt) (g : Ev α) : Ev α := fun ρ => match cont ρ (.pl i p), slotOf ρ i with
  | some _, some d => match g (ρ.set i none) with
    | none => none
    | some (.ok a ρ') => some (.ok a (ρ'.set i (some d)))
    | some (.exc e ρ') => some (.exc e (ρ'.set i (some d)))
  | _, _ => none
section
variable {α : Type} {i : Nat} {p : List PSt} {g : Ev α} {ρ ρ' : DEnv} {d dd : D} {a : α} {e : D}
theorem lockE_none (h : g (ρ.set i none) = none) : lockE i p g ρ = none := by
  unfold lockE
  split
  · rw [h]
  · rfl
theorem lockE_ok (h1 : cont ρ (.pl i p) = some dd) (h2 : slotOf ρ i = some d) (h : g (ρ.set i none) = some (.ok a ρ')) : lockE i p g ρ = some (.ok a (ρ'.set i (some d))) := by
  unfold lockE
  rw [h1, h2]
  dsimp only
  rw [h]
theorem lockE_exc (h1 : cont ρ (.pl i p) = some dd) (h2 : slotOf ρ i = some d) (h : g (ρ.set i none) = some (.exc e ρ')) : lockE i p g ρ = some (.exc e (ρ'.set i (some d))) := by
  unfold lockE
  rw [h1, h2]
  dsimp only
  rw [h]
theorem lockE_no (h1 : cont ρ (.pl i p) = none) : lockE i p g ρ = none := by
  unfold lockE
  rw [h1]
end
def lockA {α : Type} (a : AV) (g : Ev α) : Ev α := match a with
  | .pl i (s :: p) => lockE i (s :: p) g
  | _ => g
def evCons (f : Ev AV) (g : Ev (List AV)) : Ev (List AV) := f.andThen fun a => (lockA a g).andThen fun as => .pure (a :: as)

section
variable {B : Bd} {W : WX} {σ : L2.St} {H : Hp}
/-- a first part, then the rest: the first part's reading, with the rest's -/
theorem tD_bind {f : Ev AV} {β : Type} {k : AV → Ev β} {G : Hp} {ρ : DEnv} {F : Nat → FP} {o : Out β} {Q : VK} (c : Cfg B G H σ ρ F) (e : f.andThen k ρ = some o)
    (hx : ∀ er ρ', o = .exc er ρ' → ∀ G' H' F' cls dx, Cfg B G' H' σ ρ' F' → ExcAt B G' cls dx er → Ext G H (un F) G' H' (un F') → W cls dx σ H')
    (hk : ∀ av ρ1 v G1 H1 F1 T, k av ρ1 = some o → Cfg B G1 H1 σ ρ1 F1 → RepA B G1 H1 σ v av T → (∀ x, T x → ¬ un F1 x) → Ext G H (un F) G1 H1 (fun x => un F1 x ∨ T x) → Q v H1) : tD B W f σ H Q := by
  unfold Ev.andThen at e
  cases hf : f ρ with
  | none => rw [hf] at e; cases e
  | some u =>
    rw [hf] at e
    cases u with
    | exc er ρ' => cases e; exact ⟨G, ρ, F, _, c, hf, fun G' H' F' cls dx c' x' y' => hx er ρ' rfl G' H' F' cls dx c' x' y'⟩
    | ok av ρ1 => exact ⟨G, ρ, F, _, c, hf, fun v G1 H1 F1 T c1 r n x => hk av ρ1 v G1 H1 F1 T e c1 r n x⟩
theorem tD_map {f : Ev AV} {Q Q' : VK} (h : tD B W f σ H Q) (k : ∀ v H', Q v H' → Q' v H') : tD B W f σ H Q' := by
  obtain ⟨G, ρ, F, o, c, e, z⟩ := h
  refine ⟨G, ρ, F, o, c, e, ?_⟩
  cases o with
  | ok av ρ' => exact fun v G' H' F' T c r n x => k _ _ (z v G' H' F' T c r n x)
  | exc er ρ' => exact z
theorem Cfg.drop {G H : Hp} {ρ : DEnv} {F : Nat → FP} (c : Cfg B G H σ ρ F) (i : Nat) : Cfg B G H σ (ρ.set i none) (fun j x => F j x ∧ j ≠ i) := by
  refine ⟨c.sub, by simpa using c.len, fun j d e => ?_, fun j h x hx => ?_, fun j k x a b => c.dis j k x a.1 b.1⟩
  · by_cases hj : j = i
    · subst hj
      have hl : j < (ρ.set j none).length := (List.getElem?_eq_some_iff.mp e).1
      rw [List.getElem?_set_self (by simpa using hl)] at e
      cases e
    · rw [List.getElem?_set_ne (Ne.symm hj)] at e
      obtain ⟨v, e1, r⟩ := c.slot j d e
      have en : (fun x => F j x ∧ j ≠ i) = F j := by funext x; exact propext ⟨fun z => z.1, fun z => ⟨z, hj⟩⟩
      exact ⟨v, e1, by rw [en]; exact r⟩
  · obtain ⟨d, v, e1, e2, r⟩ := c.own hx.1
    exact h d (by rw [List.getElem?_set_ne (Ne.symm hx.2)]; exact e1)
/-- a slot's content is told anew -/
theorem Cfg.put {G H : Hp} {ρ : DEnv} {F : Nat → FP} {v : V} {d : D} {T : FP} (c : Cfg B G H σ ρ F) (i : Nat) (hv : σ[i]? = some (some v)) (r : Rep B G H v d T) (n : ∀ x, T x → ∀ j, F j x → j = i) :
    Cfg B G H σ (ρ.set i (some d)) (fun j x => (j = i ∧ T x) ∨ (j ≠ i ∧ F j x)) := by
  have hi : i < ρ.length := by rw [c.len]; exact (List.getElem?_eq_some_iff.mp hv).1
  refine ⟨c.sub, by simpa using c.len, fun j d' e => ?_, fun j h x hx => ?_, fun j k x a b => ?_⟩
  · by_cases hj : j = i
    · subst hj
      rw [List.getElem?_set_self hi] at e
      cases e
      have en : (fun x => (j = j ∧ T x) ∨ (j ≠ j ∧ F j x)) = T := by funext x; exact propext ⟨fun z => z.elim (·.2) fun z => absurd rfl z.1, fun z => .inl ⟨rfl, z⟩⟩
      exact ⟨v, hv, by rw [en]; exact r⟩
    · rw [List.getElem?_set_ne (Ne.symm hj)] at e
      obtain ⟨v', e1, r'⟩ := c.slot j d' e
      have en : (fun x => (j = i ∧ T x) ∨ (j ≠ i ∧ F j x)) = F j := by funext x; exact propext ⟨fun z => z.elim (fun z => absurd z.1 hj) (·.2), fun z => .inr ⟨hj, z⟩⟩
      exact ⟨v', e1, by rw [en]; exact r'⟩
  · rcases hx with ⟨rfl, hx⟩ | ⟨hj, hx⟩
    · exact h d (List.getElem?_set_self hi)
    · obtain ⟨d', v', e1, e2, r'⟩ := c.own hx
      exact h d' (by rw [List.getElem?_set_ne (Ne.symm hj)]; exact e1)
  · rcases a with ⟨rfl, a⟩ | ⟨ha, a⟩ <;> rcases b with ⟨rfl, b⟩ | ⟨hb, b⟩
    · rfl
    · exact (hb (n x a k b)).elim
    · exact (ha (n x b j a)).elim
    · exact c.dis j k x a b
/-- a list's reading opened -/
theorem tDL_cons {f : Ev AV} {g : Ev (List AV)} {Q : List V → Hp → Prop} (h : tDL B W (evCons f g) σ H Q) : tD B W f σ H fun v H1 => tDL B W g σ H1 fun vs H2 => Q (v :: vs) H2 := by
  obtain ⟨G, ρ, F, o, c, e, z⟩ := h
  refine tD_bind c e (fun er ρ' eo => by subst eo; exact z) fun av ρ1 v G1 H1 F1 T ek c1 r1 n1 x1 => ?_
  have x1' : Ext G H (un F) G1 H1 (un F1) := x1.mono (fun _ h => h) fun _ h => .inl h
  have fin : ∀ {G2 H2 : Hp} {F2 : Nat → FP} {Wt : FP}, Ext G1 H1 (un F1) G2 H2 (fun x => un F2 x ∨ Wt x) → Ext G H (un F) G2 H2 (fun x => un F2 x ∨ Wt x ∨ T x) := fun {G2 H2 F2 Wt} x2 => by
    have x3 := x1'.trans x2
    refine ⟨x3.gg, x3.hh, fun b hb => ?_, x3.gn⟩
    rcases hb with h | h | h
    · exact x3.ww b (.inl h)
    · exact x3.ww b (.inr h)
    · exact x1.ww b (.inr h)
  cases hd : av.deep with
  | false =>
    have hl : lockA av g = g := by
      cases av with
      | val d => rfl
      | pl i p => cases p with
        | nil => rfl
        | cons s p => cases hd
    rw [hl] at ek
    unfold Ev.andThen at ek
    cases hg : g ρ1 with
    | none => rw [hg] at ek; cases ek
    | some u =>
      rw [hg] at ek
      cases u with
      | exc er ρ' =>
        cases ek
        exact ⟨G1, ρ1, F1, _, c1, hg, fun G' H' F' cls dx c' ex x' => z G' H' F' cls dx c' ex (x1'.trans x')⟩
      | ok avs ρ2 =>
        cases ek
        refine ⟨G1, ρ1, F1, _, c1, hg, fun vs G2 H2 F2 Wt c2 r2 n2 x2 => ?_⟩
        have fr := r1.frame x2 n1 hd
        refine z (v :: vs) G2 H2 F2 (fun x => Wt x ∨ T x) c2 (.cons fr.1 (fun x h => .inr h) r2 (fun x h => .inl h) fun x h u => fr.2 x h (.inr u)) (fun x h => ?_) (fin x2)
        rcases h with h | h
        · exact n2 x h
        · exact fun u => fr.2 x h (.inl u)
  | true =>
    cases av with
    | val d => cases hd
    | pl i p =>
      cases p with
      | nil => cases hd
      | cons s p =>
        obtain ⟨⟨v0, e0, hp⟩, rfl⟩ := r1
        have hl : lockA (.pl i (s :: p)) g = lockE i (s :: p) g := rfl
        rw [hl] at ek
        cases hc : cont ρ1 (.pl i (s :: p)) with
        | none => rw [andThen_none (lockE_no hc)] at ek; cases ek
        | some dd =>
          cases hs : slotOf ρ1 i with
          | none => rw [cont_pl, hs] at hc; cases hc
          | some d0 =>
            obtain ⟨v0', e0', r0⟩ := c1.at hs
            rw [e0] at e0'
            cases e0'
            have hgp : getP d0 (s :: p) = some dd := by rw [cont_pl, hs] at hc; exact hc
            have cd := c1.drop i
            have apart : ∀ b, F1 i b → ¬ un (fun j x => F1 j x ∧ j ≠ i) b := fun b hb ⟨j, hj⟩ => hj.2 (c1.dis j i b hj.1 hb)
            have back : ∀ {G2 H2 : Hp} {ρ2 : DEnv} {F2 : Nat → FP} {Wt : FP}, Cfg B G2 H2 σ ρ2 F2 → Ext G1 H1 (un fun j x => F1 j x ∧ j ≠ i) G2 H2 (fun x => un F2 x ∨ Wt x) →
                Cfg B G2 H2 σ (ρ2.set i (some d0)) (fun j x => (j = i ∧ F1 i x) ∨ (j ≠ i ∧ F2 j x)) ∧ Ext G1 H1 (un F1) G2 H2 (fun x => un (fun j x => (j = i ∧ F1 i x) ∨ (j ≠ i ∧ F2 j x)) x ∨ Wt x) ∧ (∀ b, F1 i b → ¬ Wt b) ∧ PathH H2 v0 (s :: p) v := fun {G2 H2 ρ2 F2 Wt} c2 x2 => by
              obtain ⟨r2, n2⟩ := r0.frame x2 apart
              refine ⟨c2.put i e0 r2 fun x hx j hj => (n2 x hx (.inl ⟨j, hj⟩)).elim, ⟨x2.gg, fun b o e w => x2.hh b o e fun ⟨j, hj⟩ => w ⟨j, hj.1⟩, fun b hb => ?_, fun b o e => ?_⟩, fun b hb w => n2 b hb (.inr w), ?_⟩
              · rcases hb with ⟨j, ⟨rfl, hj⟩ | ⟨_, hj⟩⟩ | hb
                · exact .inl ⟨_, hj⟩
                · exact (x2.ww b (.inl ⟨j, hj⟩)).imp (fun ⟨k, hk⟩ => ⟨k, hk.1⟩) id
                · exact (x2.ww b (.inr hb)).imp (fun ⟨k, hk⟩ => ⟨k, hk.1⟩) id
              · exact (x2.gn b o e).imp id fun z => z.imp (fun ⟨k, hk⟩ => ⟨k, hk.1⟩) id
              · refine hp.keep r0 hgp fun b hb => ?_
                obtain ⟨⟨o, eo⟩, _⟩ := r0.dom b hb
                rw [x2.hh b o eo (apart b hb), eo]
            cases hg : g (ρ1.set i none) with
            | none => rw [andThen_none (lockE_none hg)] at ek; cases ek
            | some u =>
              cases u with
              | exc er ρ' =>
                rw [andThen_exc (lockE_exc hc hs hg)] at ek
                cases ek
                refine ⟨G1, _, _, _, cd, hg, fun G' H' F' cls dx c' ex x' => ?_⟩
                obtain ⟨c3, x3, _, _⟩ := back (Wt := nof) c' (x'.mono (fun _ h => h) fun _ h => h.elim id False.elim)
                exact z G' H' _ cls dx c3 ex (x1'.trans (x3.mono (fun _ h => h) fun _ h => .inl h))
              | ok avs ρ2 =>
                rw [andThen_ok (lockE_ok hc hs hg)] at ek
                cases ek
                refine ⟨G1, _, _, _, cd, hg, fun vs G2 H2 F2 Wt c2 r2 n2 x2 => ?_⟩
                obtain ⟨c3, x3, n3, p3⟩ := back c2 x2
                refine z (v :: vs) G2 H2 _ (fun x => Wt x ∨ nof x) c3 (.cons ⟨⟨v0, e0, p3⟩, rfl⟩ (fun x h => .inr h) r2 (fun x h => .inl h) fun x h => h.elim) (fun x h => ?_) (fin x3)
                rcases h with h | h
                · rintro ⟨j, ⟨rfl, hj⟩ | ⟨_, hj⟩⟩
                  · exact n3 x hj h
                  · exact n2 x h ⟨j, hj⟩
                · exact h.elim
theorem tDL_nil {Q : List V → Hp → Prop} (h : tDL B W evNil σ H Q) : Q [] H := by
  obtain ⟨G, ρ, F, o, c, e, z⟩ := h
  cases e
  exact z [] G H F nof c .nil (fun _ h => h.elim) (.refl fun x h => h.elim id False.elim)
end
section
variable {ca : Nat → Addr} {X : Cx} {e : Expr} {es : List Expr} {f : Ev AV} {g : Ev (List AV)}
theorem da_nil : DA ca X [] evNil := fun W tk => PA.imp pa_nil fun σ H Q h => tDL_nil h
theorem da_cons (he : DE ca X e f) (hs : DA ca X es g) (hst : starEach (e :: es) X.env = (false, eval e X.env) :: starEach es X.env := by rfl) : DA ca X (e :: es) (evCons f g) :=
  fun W tk => PA.imp (pa_cons (he W tk) (hs W tk) hst) fun σ H Q h => tDL_cons h
/-- a plain value, nothing made -/
def evC (d : D) : Ev AV := .pure (.val d)
theorem de_const {v : V} {d : D} (h : PE X e (tC v)) (r : ∀ G H, Rep ⟨X.K, ca⟩ G H v d nof) : DE ca X e (evC d) := fun W tk => PE.imp h fun σ H Q q => by
  obtain ⟨G, ρ, F, o, c, e, z⟩ := q
  cases e
  exact z v G H F nof c (r G H) (fun _ h => h.elim) (.refl fun x h => h.elim id False.elim)
theorem de_int {i j pos} : DE ca X (.Constant (.int i) j pos) (evC (.int i)) := de_const pe_int fun _ _ => .int i
theorem de_bl {i j pos} : DE ca X (.Constant (.bool i) j pos) (evC (.bl i)) := de_const pe_bl fun _ _ => .bl i
theorem de_non {j pos} : DE ca X (.Constant .none j pos) (evC .non) := de_const pe_non fun _ _ => .non
theorem de_str {x j pos} : DE ca X (.Constant (.str x) j pos) (evC (.str x)) := de_const pe_str fun _ _ => .str x
/-- a name of the def -/
def evV (i : Nat) : Ev AV := fun ρ => match slotOf ρ i with
  | none => none
  | some d => if d.sh then some (.ok (.val d) ρ) else some (.ok (.pl i []) ρ)
theorem de_var {i : Nat} (h : PE X e (tVar i)) : DE ca X e (evV i) := fun W tk => PE.imp h fun σ H Q q => by
  obtain ⟨G, ρ, F, o, c, e, z⟩ := q
  unfold evV at e
  cases hs : slotOf ρ i with
  | none => rw [hs] at e; cases e
  | some d =>
    rw [hs] at e
    obtain ⟨v, e1, r⟩ := c.at hs
    refine ⟨v, e1, ?_⟩
    dsimp only at e
    split at e
    · rename_i hsh
      cases e
      have t := r.sh_nof hsh
      rw [t] at r
      exact z v G H F nof c r (fun _ h => h.elim) (.refl fun x h => h.elim id False.elim)
    · cases e
      exact z v G H F nof c ⟨⟨v, e1, rfl⟩, rfl⟩ (fun _ h => h.elim) (.refl fun x h => h.elim id False.elim)
end
end DL

namespace DL
open PySem PySem.Spec PyProof.Rows L2

/-! ### operations by values: from contents to a value -/
def conts (ρ : DEnv) : List AV → Option (List D)
  | [] => some []
  | a :: as => match cont ρ a, conts ρ as with
    | some d, some ds => some (d :: ds)
    | _, _ => none
def evOp (g : List D → Option D) (fs : Ev (List AV)) : Ev AV := fs.andThen fun avs ρ => match conts ρ avs with
  | none => none
  | some ds => match g ds with
    | none => none
    | some d => some (.ok (.val d) ρ)
abbrev Reps (B : Bd) (G H : Hp) : List V → List D → Prop := Paired fun x d => ∃ T, Rep B G H x d T
/-- what is asked of an operation by contents: its answer may be new, nothing else is changed -/
def rDL (B : Bd) (g : List D → Option D) : List V → Hp → VK → Prop := fun xs H Q => ∃ G ds d, (∀ b o, G b = some o → H b = some o) ∧ Reps B G H xs ds ∧ g ds = some d ∧
  ∀ v G' H' T, (∀ b o, G' b = some o → H' b = some o) → Rep B G' H' v d T → Ext G H nof G' H' T → Q v H'
section
variable {B : Bd} {W : WX} {σ : L2.St} {H : Hp}
theorem reps_of {G H : Hp} {σ : L2.St} {ρ : DEnv} {F : Nat → FP} {Wt : FP} (c : Cfg B G H σ ρ F) : ∀ {vs : List V} {avs : List AV} {ds : List D}, RepAs B G H σ Wt vs avs → conts ρ avs = some ds → Reps B G H vs ds
  | _, _, _, .nil, e => by cases e; exact .nil
  | v :: vs, a :: as, ds, .cons (T := T) r _ t _ _, e => by
    unfold conts at e
    cases h1 : cont ρ a with
    | none => rw [h1] at e; cases e
    | some d =>
      cases h2 : conts ρ as with
      | none => rw [h1, h2] at e; cases e
      | some ds' =>
        rw [h1, h2] at e
        cases e
        obtain ⟨U, r', _⟩ := r.cont c h1
        exact .cons ⟨U, r'⟩ (reps_of c t h2)
/-- the list's step, then what follows it -/
theorem tDL_bind {β : Type} {f : Ev (List AV)} {k : List AV → Ev β} {G : Hp} {ρ : DEnv} {F : Nat → FP} {o : Out β} {Q : List V → Hp → Prop} (c : Cfg B G H σ ρ F) (e : f.andThen k ρ = some o)
    (hx : ∀ er ρ', o = .exc er ρ' → ∀ G' H' F' cls dx, Cfg B G' H' σ ρ' F' → ExcAt B G' cls dx er → Ext G H (un F) G' H' (un F') → W cls dx σ H')
    (hk : ∀ avs ρ1 vs G1 H1 F1 Wt, k avs ρ1 = some o → Cfg B G1 H1 σ ρ1 F1 → RepAs B G1 H1 σ Wt vs avs → (∀ x, Wt x → ¬ un F1 x) → Ext G H (un F) G1 H1 (fun x => un F1 x ∨ Wt x) → Q vs H1) : tDL B W f σ H Q := by
  unfold Ev.andThen at e
  cases hf : f ρ with
  | none => rw [hf] at e; cases e
  | some u =>
    rw [hf] at e
    cases u with
    | exc er ρ' => cases e; exact ⟨G, ρ, F, _, c, hf, fun G' H' F' cls dx c' x' y' => hx er ρ' rfl G' H' F' cls dx c' x' y'⟩
    | ok av ρ1 => exact ⟨G, ρ, F, _, c, hf, fun v G1 H1 F1 T c1 r n x => hk av ρ1 v G1 H1 F1 T e c1 r n x⟩
theorem Cfg.new {G H G' H' : Hp} {ρ : DEnv} {F : Nat → FP} {T : FP} (c : Cfg B G H σ ρ F) (x : Ext G H nof G' H' T) : ∀ y, T y → ¬ un F y := fun y t u => by
  obtain ⟨⟨o, e⟩, _⟩ := c.dom u
  rcases x.ww y t with z | z
  · exact z
  · rw [e] at z; cases z
/-- behind a step of this def something is made -/
theorem Ext.more {G H G1 H1 G2 H2 : Hp} {W W1 W2 : FP} (a : Ext G H W G1 H1 W1) (b : Ext G1 H1 nof G2 H2 W2) : Ext G H W G2 H2 (fun x => W1 x ∨ W2 x) :=
  a.trans ⟨b.gg, fun x o e _ => b.hh x o e id, fun x h => h.elim .inl fun h => (b.ww x h).elim False.elim .inr, fun x o e => (b.gn x o e).imp id fun z => z.elim False.elim .inr⟩
theorem tD_op {g : List D → Option D} {fs : Ev (List AV)} {Q : VK} (h : tD B W (evOp g fs) σ H Q) : tDL B W fs σ H fun vs H1 => rDL B g vs H1 Q := by
  obtain ⟨G, ρ, F, o, c, e, z⟩ := h
  refine tDL_bind c e (fun er ρ' eo => by subst eo; exact z) fun avs ρ1 vs G1 H1 F1 Wt ek c1 r1 n1 x1 => ?_
  cases h1 : conts ρ1 avs with
  | none => rw [h1] at ek; cases ek
  | some ds =>
    rw [h1] at ek
    dsimp only at ek
    cases h2 : g ds with
    | none => rw [h2] at ek; cases ek
    | some d =>
      rw [h2] at ek
      cases ek
      refine ⟨G1, ds, d, c1.sub, reps_of c1 r1 h1, h2, fun v G' H' T s r x => ?_⟩
      have x1' : Ext G H (un F) G1 H1 (un F1) := x1.mono (fun _ h => h) fun _ h => .inl h
      exact z v G' H' F1 T (c1.grow x s) r (c1.new x) (x1'.more x)
end
section
variable {ca : Nat → Addr} {X : Cx} {a b c : Expr} {fa fb fc : Ev AV} {pos : Pos}
abbrev ev1 (g : List D → Option D) (fa : Ev AV) : Ev AV := evOp g (evCons fa evNil)
abbrev ev2 (g : List D → Option D) (fa fb : Ev AV) : Ev AV := evOp g (evCons fa (evCons fb evNil))
theorem tD_op1 {B : Bd} {W : WX} {σ : L2.St} {H : Hp} {g : List D → Option D} {Q : VK} (h : tD B W (ev1 g fa) σ H Q) : tD B W fa σ H fun x H1 => rDL B g [x] H1 Q :=
  tD_map (tDL_cons (tD_op h)) fun _ _ q => tDL_nil q
theorem tD_op2 {B : Bd} {W : WX} {σ : L2.St} {H : Hp} {g : List D → Option D} {Q : VK} (h : tD B W (ev2 g fa fb) σ H Q) : tD B W fa σ H fun x H1 => tD B W fb σ H1 fun y H2 => rDL B g [x, y] H2 Q :=
  tD_map (tDL_cons (tD_op h)) fun _ _ q => tD_map (tDL_cons q) fun _ _ q => tDL_nil q
/-- g tells the operation -/
def Op2 (ca : Nat → Addr) (X : Cx) (f : Value → Value → Sem Value) (g : List D → Option D) : Prop := OpR X f fun x y H Q => rDL ⟨X.K, ca⟩ g [x, y] H Q
def Op1 (ca : Nat → Addr) (X : Cx) (f : Value → Sem Value) (g : List D → Option D) : Prop := UnR X f fun x H Q => rDL ⟨X.K, ca⟩ g [x] H Q
theorem de_bin {op : Operator} {g : List D → Option D} (ho : Op2 ca X (binaryOp op) g) (ha : DE ca X a fa) (hb : DE ca X b fb) : DE ca X (.BinOp a op b pos) (ev2 g fa fb) :=
  fun W tk => PE.imp (pe_op ho (ha W tk) (hb W tk)) fun σ H Q h => tD_op2 h
theorem de_un {op : UnaryOp} {g : List D → Option D} (ho : Op1 ca X (unaryOp op) g) (ha : DE ca X a fa) : DE ca X (.UnaryOp op a pos) (ev1 g fa) :=
  fun W tk => PE.imp (pe_un ho (ha W tk)) fun σ H Q h => tD_op1 h
theorem de_cmp {op : CmpOp} {g : List D → Option D} (ho : Op2 ca X (compareOp op) g) (ha : DE ca X a fa) (hb : DE ca X b fb) (hm : behindInMarks op b = false) : DE ca X (.Compare a [op] [b] pos) (ev2 g fa fb) :=
  fun W tk => PE.imp (pe_cmpR ho (ha W tk) (hb W tk) hm) fun σ H Q h => tD_op2 h
end

/-! ### the operations -/
section
variable {B : Bd} {g : List D → Option D} {xs : List V} {H : Hp} {Q : VK} {G : Hp} {d : D}
/-- an answer that is nothing new -/
theorem rDL_end {v : V} (k : ∀ v G' H' T, (∀ b o, G' b = some o → H' b = some o) → Rep B G' H' v d T → Ext G H nof G' H' T → Q v H') (s : ∀ b o, G b = some o → H b = some o) (r : Rep B G H v d nof) : Q v H :=
  k v G H nof s r (.refl fun _ h => h)
/-- a new tuple, frozen -/
theorem ext_new {p : Addr} {o : HO} (hp : H p = none) (s : ∀ b o, G b = some o → H b = some o) : Ext G H nof (upd G p o) (upd H p o) nof := by
  have gp : G p = none := by
    cases q : G p with
    | none => rfl
    | some u => rw [s _ _ q] at hp; cases hp
  refine ⟨fun b u e => ?_, fun b u e _ => ?_, fun b h => h.elim, fun b u e => ?_⟩
  · rw [upd_ne (ne_of_none e gp)]; exact e
  · rw [upd_ne (ne_of_none e hp)]; exact e
  · by_cases h : b = p
    · subst h; exact .inr (.inr hp)
    · rw [upd_ne h] at e; exact .inl e
theorem sub_new {p : Addr} {o : HO} (hp : H p = none) (s : ∀ b o, G b = some o → H b = some o) : ∀ b u, upd G p o b = some u → upd H p o b = some u := fun b u e => by
  by_cases h : b = p
  · subst h; rw [upd_same] at e ⊢; exact e
  · rw [upd_ne h] at e ⊢; exact s b u e
/-- something new, not frozen -/
theorem ext_own {p : Addr} {o : HO} (hp : H p = none) : Ext G H nof G (upd H p o) (fun x => x = p) := by
  refine ⟨fun b u e => e, fun b u e _ => ?_, fun b h => .inr (by rw [show b = p from h]; exact hp), fun b u e => .inl e⟩
  rw [upd_ne (ne_of_none e hp)]; exact e
theorem sub_own {p : Addr} {o : HO} (hp : H p = none) (s : ∀ b o, G b = some o → H b = some o) : ∀ b u, G b = some u → upd H p o b = some u := fun b u e => by
  rw [upd_ne (ne_of_none (s b u e) hp)]; exact s b u e
/-- frozen parts stand for what they stood for -/
theorem Rep.up {v : V} (r : Rep B G H v d nof) {p : Addr} {o : HO} : Rep B G (upd H p o) v d nof := r.keep (fun _ _ e => e) fun _ h => h.elim
theorem Rep.any {H' : Hp} {v : V} (r : Rep B G H v d nof) : Rep B G H' v d nof := r.keep (fun _ _ e => e) fun _ h => h.elim
/-- a new list of frozen things, own -/
theorem rep_ol {p : Addr} {vs : List V} {ds : List D} (g : G p = none) (h : H p = some (.lst vs)) (l : vs.length = ds.length) (c : ∀ (i : Nat) v d, vs[i]? = some v → ds[i]? = some d → Rep B G H v d nof) : Rep B G H (.ref p) (.ol ds) (fun x => x = p) := by
  have r := Rep.ol (B := B) (F := fun _ => nof) h g l c (fun _ _ z => z.elim) (fun _ _ _ z => z.elim) (fun _ z => z)
  have e : (fun x => x = p ∨ ∃ i : Nat, nof x) = fun x => x = p := by
    funext x
    exact propext ⟨fun z => z.elim id fun ⟨_, z⟩ => z.elim, .inl⟩
  rw [e] at r
  exact r
theorem Reps.one {x : V} {ds : List D} {G H : Hp} (h : Reps B G H [x] ds) : ∃ d T, ds = [d] ∧ Rep B G H x d T := by
  cases h with
  | cons a t => cases t; obtain ⟨T, r⟩ := a; exact ⟨_, T, rfl, r⟩
theorem Reps.two {x y : V} {ds : List D} {G H : Hp} (h : Reps B G H [x, y] ds) : ∃ d T e U, ds = [d, e] ∧ Rep B G H x d T ∧ Rep B G H y e U := by
  cases h with
  | cons a t => cases t with
    | cons b t => cases t; obtain ⟨T, r⟩ := a; obtain ⟨U, q⟩ := b; exact ⟨_, T, _, U, rfl, r, q⟩
end

/-- items of a list (own, frozen), of a tuple -/
def seqD : D → Option (List D)
  | .lst xs => some xs | .frl xs => some xs | .ol xs => some xs | .tup xs => some xs
  | _ => none
def lstD : D → Option (List D)
  | .lst xs => some xs | .ol xs => some xs
  | _ => none
section
variable {B : Bd} {G H : Hp} {v : V} {d : D} {T : FP}
theorem Rep.seq (r : Rep B G H v d T) (s : ∀ b o, G b = some o → H b = some o) {ds : List D} (h : seqD d = some ds) : ∃ a vs, v = .ref a ∧ (SqL B.K H a vs ∨ SqT B.K H a vs) ∧ vs.length = ds.length ∧
    ∀ (i : Nat) v d, vs[i]? = some v → ds[i]? = some d → ∃ U, Rep B G H v d U := by
  cases r with
  | lst h' l c => cases h; exact ⟨_, _, rfl, .inl (.of (s _ _ h')), l, fun i v d e1 e2 => ⟨_, c i v d e1 e2⟩⟩
  | frl h' l c => cases h; exact ⟨_, _, rfl, .inl (sqL_mono h' s), l, fun i v d e1 e2 => ⟨_, c i v d e1 e2⟩⟩
  | tup h' l c => cases h; exact ⟨_, _, rfl, .inr (sqT_mono h' s), l, fun i v d e1 e2 => ⟨_, c i v d e1 e2⟩⟩
  | ol h' g l c bd dj na => cases h; exact ⟨_, _, rfl, .inl (.of h'), l, fun i v d e1 e2 => ⟨_, c i v d e1 e2⟩⟩
  | _ => cases h
theorem Rep.lst_of (r : Rep B G H v d T) (s : ∀ b o, G b = some o → H b = some o) {ds : List D} (h : lstD d = some ds) : ∃ a vs, v = .ref a ∧ H a = some (.lst vs) ∧ vs.length = ds.length ∧
    ∀ (i : Nat) v d, vs[i]? = some v → ds[i]? = some d → ∃ U, Rep B G H v d U := by
  cases r with
  | lst h' l c => cases h; exact ⟨_, _, rfl, s _ _ h', l, fun i v d e1 e2 => ⟨_, c i v d e1 e2⟩⟩
  | ol h' g l c bd dj na => cases h; exact ⟨_, _, rfl, h', l, fun i v d e1 e2 => ⟨_, c i v d e1 e2⟩⟩
  | _ => cases h
theorem rep_sh {U : FP} (r : Rep B G H v d U) (h : d.sh = true) : Rep B G H v d nof := by
  have := r.sh_nof h
  rw [← this]; exact r
end
def allSh (ds : List D) : Bool := ds.all D.sh
theorem allSh_get {ds : List D} (h : allSh ds = true) {i : Nat} {d : D} (e : ds[i]? = some d) : d.sh = true := List.all_eq_true.mp h d (List.mem_of_getElem? e)

/-! ints -/
def lg (i : Int) : Nat := i.natAbs.log2
def gAdd : List D → Option D
  | [.int i, .int j] => some (.int (i + j))
  | [.str a, .str b] => if a.length + b.length ≤ 16777216 then some (.str (a ++ b)) else none
  | [x, y] => match lstD x, lstD y with
    | some xs, some ys => if allSh xs = true ∧ allSh ys = true ∧ xs.length + ys.length ≤ 16777216 then some (.ol (xs ++ ys)) else none
    | _, _ => none
  | _ => none
def gSub : List D → Option D
  | [.int i, .int j] => some (.int (i - j))
  | _ => none
def gMul : List D → Option D
  | [.int i, .int j] => if lg i + lg j < 1000000 then some (.int (i * j)) else none
  | [x, .int k] => match lstD x with
    | some xs => if allSh xs = true ∧ k < 2 ^ 63 ∧ -(2 ^ 63) ≤ k ∧ xs.length * k.toNat ≤ 16777216 then some (.ol (List.replicate k.toNat xs).flatten) else none
    | none => none
  | _ => none
def gDiv : List D → Option D
  | [.int i, .int j] => if j ≠ 0 ∧ lg j < 9000 then some (.int (i.fdiv j)) else none
  | _ => none
def gMod : List D → Option D
  | [.int i, .int j] => if j ≠ 0 then some (.int (i.fmod j)) else none
  | _ => none
def gPow : List D → Option D
  | [.int i, .int j] => if 0 ≤ j ∧ (Builtin.Int.intBits i : Int) * j ≤ 2 ^ 27 then some (.int (i ^ j.toNat)) else none
  | _ => none
def gNeg : List D → Option D
  | [.int i] => some (.int (-i))
  | _ => none
section
variable {ca : Nat → Addr} {X : Cx}
/-- ints by a rule -/
theorem op2_int {f : Value → Value → Sem Value} {g : List D → Option D} {C : Int → Int → Prop} {k : Int → Int → D} (kv : Int → Int → V) (hk : ∀ B G H i j, Rep B G H (kv i j) (k i j) nof) (ho : OpR X f (rI C kv)) (hg : ∀ ds d, g ds = some d → ∃ i j, ds = [.int i, .int j] ∧ C i j ∧ d = k i j) : Op2 ca X f g := by
  intro pins s σ H x y v u Q I rx ry h
  obtain ⟨G, ds, d, sub, rs, e, q⟩ := h
  obtain ⟨i, j, rfl, hc, rfl⟩ := hg _ _ e
  obtain ⟨d1, T1, e1, U1, ed, r1, r2⟩ := rs.two
  cases ed
  cases r1; cases r2
  exact ho pins s σ H _ _ v u Q I rx ry ⟨i, j, rfl, rfl, hc, rDL_end q sub (hk _ _ _ _ _)⟩
theorem op2_int0 {f : Value → Value → Sem Value} {g : List D → Option D} {k : Int → Int → D} (kv : Int → Int → V) (hk : ∀ B G H i j, Rep B G H (kv i j) (k i j) nof) (ho : OpR X f (rI0 kv)) (hg : ∀ ds d, g ds = some d → ∃ i j, ds = [.int i, .int j] ∧ d = k i j) : Op2 ca X f g :=
  op2_int (C := fun _ _ => True) kv hk (fun pins s σ H x y v u Q I rx ry ⟨i, j, e1, e2, _, q⟩ => ho pins s σ H x y v u Q I rx ry ⟨i, j, e1, e2, q⟩) fun ds d e => by
    obtain ⟨i, j, e1, e2⟩ := hg ds d e
    exact ⟨i, j, e1, trivial, e2⟩
theorem opD_sub : Op2 ca X (binaryOp .Sub) gSub := op2_int0 (fun i j => .int (i - j)) (fun _ _ _ _ _ => .int _) op_sub fun ds d e => by
  unfold gSub at e
  split at e
  · cases e; exact ⟨_, _, rfl, rfl⟩
  · cases e
theorem op_fdivA : OpR X (binaryOp .FloorDiv) (rI (fun _ j => j ≠ 0 ∧ lg j < 9000) fun i j => .int (i.fdiv j)) := opI fun _ _ _ _ _ _ _ hc q => floordiv_int hc.1 q (.inl (PyProof.noPylong_of_log2 hc.2))
theorem op_powA : OpR X (binaryOp .Pow) (rI (fun i j => 0 ≤ j ∧ (Builtin.Int.intBits i : Int) * j ≤ 2 ^ 27) fun i j => .int (i ^ j.toNat)) := opI fun _ _ _ _ _ _ _ hc q => pow_int hc.1 hc.2 q
theorem opD_div : Op2 ca X (binaryOp .FloorDiv) gDiv := op2_int (fun i j => .int (i.fdiv j)) (fun _ _ _ _ _ => .int _) op_fdivA fun ds d e => by
  unfold gDiv at e
  split at e
  · split at e
    · rename_i h; cases e; exact ⟨_, _, rfl, h, rfl⟩
    · cases e
  · cases e
theorem opD_mod : Op2 ca X (binaryOp .Mod) gMod := op2_int (fun i j => .int (i.fmod j)) (fun _ _ _ _ _ => .int _) op_modN fun ds d e => by
  unfold gMod at e
  split at e
  · split at e
    · rename_i h; cases e; exact ⟨_, _, rfl, h, rfl⟩
    · cases e
  · cases e
theorem opD_pow : Op2 ca X (binaryOp .Pow) gPow := op2_int (fun i j => .int (i ^ j.toNat)) (fun _ _ _ _ _ => .int _) op_powA fun ds d e => by
  unfold gPow at e
  split at e
  · split at e
    · rename_i h; cases e; exact ⟨_, _, rfl, h, rfl⟩
    · cases e
  · cases e
theorem opD_neg : Op1 ca X (unaryOp .USub) gNeg := by
  intro pins s σ H x v Q I rx h
  obtain ⟨G, ds, d, sub, rs, e, q⟩ := h
  obtain ⟨d1, T1, rfl, r1⟩ := rs.one
  unfold gNeg at e
  split at e
  · rename_i i heq
    cases heq
    cases e
    cases r1
    exact un_neg pins s σ H _ v Q I rx ⟨i, rfl, rDL_end q sub (.int _)⟩
  · cases e
/-- a list's items, put one behind the other -/
theorem get_append {α : Type} {xs ys : List α} {i : Nat} {z : α} (h : (xs ++ ys)[i]? = some z) : (i < xs.length ∧ xs[i]? = some z) ∨ (xs.length ≤ i ∧ ys[i - xs.length]? = some z) := by
  by_cases hi : i < xs.length
  · rw [List.getElem?_append_left hi] at h; exact .inl ⟨hi, h⟩
  · rw [List.getElem?_append_right (by omega)] at h; exact .inr ⟨by omega, h⟩
theorem opD_add : Op2 ca X (binaryOp .Add) gAdd := by
  intro pins s σ H x y v u Q I rx ry h
  obtain ⟨G, ds, d, sub, rs, e, q⟩ := h
  obtain ⟨d1, T1, d2, T2, rfl, r1, r2⟩ := rs.two
  unfold gAdd at e
  split at e
  · rename_i i j heq
    cases heq; cases e; cases r1; cases r2
    exact op_add pins s σ H _ _ v u Q I rx ry ⟨i, j, rfl, rfl, rDL_end q sub (.int _)⟩
  · rename_i i j heq
    cases heq; cases r1; cases r2
    split at e
    · rename_i hz
      cases e
      exact op_add_str pins s σ H _ _ v u Q I rx ry ⟨i, j, rfl, rfl, by rw [sizeLine_eq]; exact hz, rDL_end q sub (.str _)⟩
    · cases e
  · rename_i x' y' _ _ heq
    cases heq
    split at e
    · rename_i xs ys h1 h2
      split at e
      · rename_i hz
        obtain ⟨s1, s2, hz⟩ := hz
        cases e
        obtain ⟨a1, vs1, rfl, k1, l1, c1⟩ := r1.lst_of sub h1
        obtain ⟨a2, vs2, rfl, k2, l2, c2⟩ := r2.lst_of sub h2
        refine op_cat pins s σ H _ _ v u Q I rx ry ⟨a1, a2, vs1, vs2, rfl, rfl, k1, k2, by rw [sizeLine_eq]; omega, fun p hp => ?_⟩
        have gp : G p = none := by
          cases z : G p with
          | none => rfl
          | some o => rw [sub _ _ z] at hp; cases hp
        refine q _ G _ _ (sub_own hp sub) (rep_ol (vs := vs1 ++ vs2) gp upd_same (by simp [l1, l2]) fun i v d e1 e2 => ?_) (ext_own hp)
        rcases get_append e1 with ⟨hi, e1⟩ | ⟨hi, e1⟩
        · rw [List.getElem?_append_left (by omega)] at e2
          obtain ⟨U, r⟩ := c1 i v d e1 e2
          exact (rep_sh r (allSh_get s1 e2)).up
        · rw [List.getElem?_append_right (by omega), ← l1] at e2
          obtain ⟨U, r⟩ := c2 _ v d e1 e2
          exact (rep_sh r (allSh_get s2 e2)).up
      · cases e
    · cases e
  · cases e
theorem rep_pair {P : V → D → Prop} {vs : List V} {ds : List D} (l : vs.length = ds.length) (c : ∀ (i : Nat) v d, vs[i]? = some v → ds[i]? = some d → P v d) :
    ∀ (n i : Nat) v d, (List.replicate n vs).flatten[i]? = some v → (List.replicate n ds).flatten[i]? = some d → P v d
  | 0, i, v, d, h, _ => by simp at h
  | n + 1, i, v, d, h, h' => by
    rw [List.replicate_succ, List.flatten_cons] at h h'
    rcases get_append h with ⟨hi, e⟩ | ⟨hi, e⟩
    · rw [List.getElem?_append_left (by omega)] at h'
      exact c i v d e h'
    · rw [List.getElem?_append_right (by omega), ← l] at h'
      exact rep_pair l c n _ v d e h'
theorem opD_mul : Op2 ca X (binaryOp .Mult) gMul := by
  intro pins s σ H x y v u Q I rx ry h
  obtain ⟨G, ds, d, sub, rs, e, q⟩ := h
  obtain ⟨d1, T1, d2, T2, rfl, r1, r2⟩ := rs.two
  unfold gMul at e
  split at e
  · rename_i i j heq
    cases heq; cases r1; cases r2
    split at e
    · rename_i hc
      cases e
      exact op_mulW pins s σ H _ _ v u Q I rx ry ⟨i, j, rfl, rfl, hc, rDL_end q sub (.int _)⟩
    · cases e
  · rename_i x' k _ heq
    cases heq
    split at e
    · rename_i xs h1
      split at e
      · rename_i hz
        obtain ⟨s1, k2, k1, hz⟩ := hz
        cases e
        cases r2
        obtain ⟨a1, vs1, rfl, ha, l1, c1⟩ := r1.lst_of sub h1
        refine op_rep pins s σ H _ _ v u Q I rx ry ⟨a1, k, vs1, rfl, rfl, ha, k1, k2, by rw [sizeLine_eq, l1]; omega, fun p hp => ?_⟩
        have gp : G p = none := by
          cases z : G p with
          | none => rfl
          | some o => rw [sub _ _ z] at hp; cases hp
        refine q _ G _ _ (sub_own hp sub) (rep_ol gp upd_same (by simp [l1]) fun i v d e1 e2 => ?_) (ext_own hp)
        have fin := rep_pair (P := fun v d => ∃ U, Rep ⟨X.K, ca⟩ G H v d U) l1 c1 _ i v d e1 e2
        obtain ⟨U, r⟩ := fin
        have hs : d.sh = true := by
          have hm := List.mem_of_getElem? e2
          obtain ⟨l, hl, hd⟩ := List.mem_flatten.mp hm
          rw [List.eq_of_mem_replicate hl] at hd
          exact List.all_eq_true.mp s1 d hd
        exact (rep_sh r hs).up
      · cases e
    · cases e
  · cases e
end
end DL

namespace DL
open PySem PySem.Spec PyProof.Rows L2

/-! ### equality -/
def eqS : D → D → Option Bool
  | .non, .non => some true
  | .int i, .int j => some (decide (i = j))
  | .bl a, .bl b => some (decide (a = b))
  | .str a, .str b => some (decide (a = b))
  | .non, .int _ => some false | .int _, .non => some false | .non, .bl _ => some false | .bl _, .non => some false
  | .non, .str _ => some false | .str _, .non => some false | .int _, .str _ => some false | .str _, .int _ => some false
  | .bl _, .str _ => some false | .str _, .bl _ => some false
  | _, _ => none
mutual
def pyd : D → Option PyData
  | .non => some .none
  | .bl b => some (.bool b)
  | .int i => some (.int i)
  | .str x => some (.str x)
  | .tup xs => match pydL xs with | some ys => some (.tuple ys) | none => none
  | .lst xs => match pydL xs with | some ys => some (.list ys) | none => none
  | .frl xs => match pydL xs with | some ys => some (.list ys) | none => none
  | .ol xs => match pydL xs with | some ys => some (.list ys) | none => none
  | _ => none
def pydL : List D → Option (List PyData)
  | [] => some []
  | d :: ds => match pyd d, pydL ds with
    | some y, some ys => some (y :: ys)
    | _, _ => none
end
def eqD (x y : D) : Option Bool := match eqS x y with
  | some b => some b
  | none => match pyd x, pyd y with
    | some p, some q => if SeqAt.shaped p = true ∧ SeqAt.shaped q = true then some (PyData.eqv p q) else none
    | _, _ => none
def gEq : List D → Option D
  | [x, y] => (eqD x y).map .bl
  | _ => none
def gNe : List D → Option D
  | [x, y] => (eqD x y).map fun b => .bl (!b)
  | _ => none
section
variable {B : Bd} {G H : Hp} {v : V} {d : D} {T : FP}
theorem dpAll_of {K : PySem.W.Frag} {vs : List V} : ∀ {ds : List D} {ps : List PyData}, vs.length = ds.length → pydL ds = some ps → (∀ (i : Nat) v d p, vs[i]? = some v → ds[i]? = some d → pyd d = some p → Dp K H v p) → DpAll K H vs ps := by
  induction vs with
  | nil =>
    intro ds ps l e c
    cases ds with
    | nil => cases e; exact .nil
    | cons d ds => cases l
  | cons v vs ih =>
    intro ds ps l e c
    cases ds with
    | nil => cases l
    | cons d ds =>
      unfold pydL at e
      cases h1 : pyd d with
      | none => rw [h1] at e; cases e
      | some p =>
        cases h2 : pydL ds with
        | none => rw [h1, h2] at e; cases e
        | some qs =>
          rw [h1, h2] at e
          cases e
          exact .cons (c 0 v d p rfl rfl h1) (ih (by simpa using l) h2 fun i v d p e1 e2 => c (i + 1) v d p (by simpa using e1) (by simpa using e2))
theorem Rep.dp (r : Rep B G H v d T) (s : ∀ b o, G b = some o → H b = some o) : ∀ {p : PyData}, pyd d = some p → Dp B.K H v p := by
  induction r with
  | non => intro p e; cases e; exact .non
  | bl b => intro p e; cases e; exact .bl b
  | int b => intro p e; cases e; exact .int b
  | str b => intro p e; cases e; exact .str b
  | tup h l c ih =>
    intro p e
    unfold pyd at e
    split at e
    · rename_i ys h1; cases e; exact .tup (sqT_mono h s) (dpAll_of l h1 fun i v d p e1 e2 e3 => ih i v d e1 e2 e3)
    · cases e
  | lst h l c ih =>
    intro p e
    unfold pyd at e
    split at e
    · rename_i ys h1; cases e; exact .lst (.of (s _ _ h)) (dpAll_of l h1 fun i v d p e1 e2 e3 => ih i v d e1 e2 e3)
    · cases e
  | frl h l c ih =>
    intro p e
    unfold pyd at e
    split at e
    · rename_i ys h1; cases e; exact .lst (sqL_mono h s) (dpAll_of l h1 fun i v d p e1 e2 e3 => ih i v d e1 e2 e3)
    · cases e
  | ol h g l c bd dj na ih =>
    intro p e
    unfold pyd at e
    split at e
    · rename_i ys h1; cases e; exact .lst (.of h) (dpAll_of l h1 fun i v d p e1 e2 e3 => ih i v d e1 e2 e3)
    · cases e
  | _ => intro p e; cases e
theorem eqS_rep {x y : V} {d1 d2 : D} {T1 T2 : FP} {b : Bool} (r1 : Rep B G H x d1 T1) (r2 : Rep B G H y d2 T2) (e : eqS d1 d2 = some b) : scal x y = true ∧ decide (x = y) = b ∨ (x = .non ∧ y = .non ∧ b = true) := by
  cases r1 <;> cases r2 <;> first | (cases e; done) | (cases e; simp [scal])
end
section
variable {ca : Nat → Addr} {X : Cx}
theorem opD_eq (hu : X.A.units + 64 < cLine) : Op2 ca X (compareOp .Eq) gEq := by
  intro pins s σ H x y v u Q I rx ry h
  obtain ⟨G, ds, d, sub, rs, e, q⟩ := h
  obtain ⟨d1, T1, d2, T2, rfl, r1, r2⟩ := rs.two
  unfold gEq at e
  dsimp only at e
  obtain ⟨b, e1, rfl⟩ := Option.map_eq_some_iff.mp e
  unfold eqD at e1
  split at e1
  · rename_i b' h1
    cases e1
    rcases eqS_rep r1 r2 h1 with ⟨k1, k2⟩ | ⟨rfl, rfl, rfl⟩
    · exact op_eq pins s σ H _ _ v u Q I rx ry ⟨k1, by rw [k2]; exact rDL_end q sub (.bl _)⟩
    · exact op_eq pins s σ H _ _ v u Q I rx ry ⟨rfl, rDL_end q sub (.bl _)⟩
  · split at e1
    · rename_i p1 p2 h1 h2
      split at e1
      · rename_i hz
        cases e1
        exact op_eqD hu pins s σ H _ _ v u Q I rx ry ⟨p1, p2, r1.dp sub h1, r2.dp sub h2, hz.1, hz.2, rDL_end q sub (.bl _)⟩
      · cases e1
    · cases e1
theorem opD_ne (hu : X.A.units + 64 < cLine) : Op2 ca X (compareOp .NotEq) gNe := by
  intro pins s σ H x y v u Q I rx ry h
  obtain ⟨G, ds, d, sub, rs, e, q⟩ := h
  obtain ⟨d1, T1, d2, T2, rfl, r1, r2⟩ := rs.two
  unfold gNe at e
  dsimp only at e
  obtain ⟨b, e1, rfl⟩ := Option.map_eq_some_iff.mp e
  unfold eqD at e1
  split at e1
  · rename_i b' h1
    cases e1
    rcases eqS_rep r1 r2 h1 with ⟨k1, k2⟩ | ⟨rfl, rfl, rfl⟩
    · exact op_ne pins s σ H _ _ v u Q I rx ry ⟨k1, by rw [k2]; exact rDL_end q sub (.bl _)⟩
    · exact op_ne pins s σ H _ _ v u Q I rx ry ⟨rfl, rDL_end q sub (.bl _)⟩
  · split at e1
    · rename_i p1 p2 h1 h2
      split at e1
      · rename_i hz
        cases e1
        exact op_neD hu pins s σ H _ _ v u Q I rx ry ⟨p1, p2, r1.dp sub h1, r2.dp sub h2, hz.1, hz.2, rDL_end q sub (.bl _)⟩
      · cases e1
    · cases e1
/-! ### order, is None -/
def sLt (a b : Str) : Bool := decide (a.cps.toList < b.cps.toList)
def gLt : List D → Option D
  | [.int i, .int j] => some (.bl (decide (i < j)))
  | [.str i, .str j] => some (.bl (sLt i j))
  | _ => none
def gLe : List D → Option D
  | [.int i, .int j] => some (.bl (decide (i ≤ j)))
  | [.str i, .str j] => some (.bl (!sLt j i))
  | _ => none
def gGt : List D → Option D
  | [.int i, .int j] => some (.bl (decide (j < i)))
  | [.str i, .str j] => some (.bl (sLt j i))
  | _ => none
def gGe : List D → Option D
  | [.int i, .int j] => some (.bl (decide (j ≤ i)))
  | [.str i, .str j] => some (.bl (!sLt i j))
  | _ => none
theorem op2_is {f : Value → Value → Sem Value} {g : List D → Option D} {ki : Int → Int → Bool} {ks : Str → Str → Bool} (hi : OpR X f (rI0 fun i j => .bl (ki i j))) (hs : OpR X f (fun x y H Q => ∃ i j, x = .str i ∧ y = .str j ∧ Q (.bl (ks i j)) H))
    (hg : ∀ ds d, g ds = some d → (∃ i j, ds = [.int i, .int j] ∧ d = .bl (ki i j)) ∨ ∃ i j, ds = [.str i, .str j] ∧ d = .bl (ks i j)) : Op2 ca X f g := by
  intro pins s σ H x y v u Q I rx ry h
  obtain ⟨G, ds, d, sub, rs, e, q⟩ := h
  obtain ⟨d1, T1, d2, T2, rfl, r1, r2⟩ := rs.two
  rcases hg _ _ e with ⟨i, j, e1, rfl⟩ | ⟨i, j, e1, rfl⟩
  · cases e1; cases r1; cases r2
    exact hi pins s σ H _ _ v u Q I rx ry ⟨i, j, rfl, rfl, rDL_end q sub (.bl _)⟩
  · cases e1; cases r1; cases r2
    exact hs pins s σ H _ _ v u Q I rx ry ⟨i, j, rfl, rfl, rDL_end q sub (.bl _)⟩
theorem opD_lt : Op2 ca X (compareOp .Lt) gLt := op2_is op_lt op_lt_str fun ds d e => by
  unfold gLt at e
  split at e
  · cases e; exact .inl ⟨_, _, rfl, rfl⟩
  · cases e; exact .inr ⟨_, _, rfl, rfl⟩
  · cases e
theorem opD_le : Op2 ca X (compareOp .LtE) gLe := op2_is op_le op_le_str fun ds d e => by
  unfold gLe at e
  split at e
  · cases e; exact .inl ⟨_, _, rfl, rfl⟩
  · cases e; exact .inr ⟨_, _, rfl, rfl⟩
  · cases e
theorem opD_gt : Op2 ca X (compareOp .Gt) gGt := op2_is op_gt op_gt_str fun ds d e => by
  unfold gGt at e
  split at e
  · cases e; exact .inl ⟨_, _, rfl, rfl⟩
  · cases e; exact .inr ⟨_, _, rfl, rfl⟩
  · cases e
theorem opD_ge : Op2 ca X (compareOp .GtE) gGe := op2_is op_ge op_ge_str fun ds d e => by
  unfold gGe at e
  split at e
  · cases e; exact .inl ⟨_, _, rfl, rfl⟩
  · cases e; exact .inr ⟨_, _, rfl, rfl⟩
  · cases e
def isNon : D → Bool
  | .non => true
  | _ => false
def gIsN : List D → Option D
  | [x, .non] => some (.bl (isNon x))
  | _ => none
def gNotN : List D → Option D
  | [x, .non] => some (.bl (!isNon x))
  | _ => none
theorem rep_isNon {B : Bd} {G H : Hp} {v : V} {d : D} {T : FP} (r : Rep B G H v d T) : decide (v = .non) = isNon d := by cases r <;> rfl
theorem opD_isN : Op2 ca X (compareOp .Is) gIsN := by
  intro pins s σ H x y v u Q I rx ry h
  obtain ⟨G, ds, d, sub, rs, e, q⟩ := h
  obtain ⟨d1, T1, d2, T2, rfl, r1, r2⟩ := rs.two
  unfold gIsN at e
  split at e
  · rename_i heq; cases heq; cases e; cases r2
    exact op_isN pins s σ H _ _ v u Q I rx ry ⟨rfl, by rw [rep_isNon r1]; exact rDL_end q sub (.bl _)⟩
  · cases e
theorem opD_notN : Op2 ca X (compareOp .IsNot) gNotN := by
  intro pins s σ H x y v u Q I rx ry h
  obtain ⟨G, ds, d, sub, rs, e, q⟩ := h
  obtain ⟨d1, T1, d2, T2, rfl, r1, r2⟩ := rs.two
  unfold gNotN at e
  split at e
  · rename_i heq; cases heq; cases e; cases r2
    exact op_notN pins s σ H _ _ v u Q I rx ry ⟨rfl, by rw [rep_isNon r1]; exact rDL_end q sub (.bl _)⟩
  · cases e
end

/-! ### tests -/
def endT (B : Bd) (W : WX) (σ : L2.St) (G H : Hp) (W0 : FP) (Q : Bool → Hp → Prop) : Out Bool → Prop
  | .ok b ρ' => ∀ G' H' F', Cfg B G' H' σ ρ' F' → Ext G H W0 G' H' (un F') → Q b H'
  | .exc e ρ' => ∀ G' H' F' cls dx, Cfg B G' H' σ ρ' F' → ExcAt B G' cls dx e → Ext G H W0 G' H' (un F') → W cls dx σ H'
def tDT (B : Bd) (W : WX) (f : Ev Bool) : TT := fun σ H Q => ∃ G ρ F o, Cfg B G H σ ρ F ∧ f ρ = some o ∧ endT B W σ G H (un F) Q o
def DT (ca : Nat → Addr) (X : Cx) (e : Expr) (f : Ev Bool) : Prop := ∀ W, Takes X W → PT X e (tDT ⟨X.K, ca⟩ W f)
/-- as DT, within and, or -/
def DW (ca : Nat → Addr) (X : Cx) (e : Expr) (f : Ev Bool) : Prop := ∀ W, Takes X W → PW X e (tDT ⟨X.K, ca⟩ W f)
theorem PT.imp {X : Cx} {e : Expr} {t u : TT} (h : PT X e t) (k : ∀ (σ : L2.St) (H : Hp) (Q : Bool → Hp → Prop), u σ H Q → t σ H Q) : PT X e u := ⟨fun pins s σ H Q I q => h.run pins s σ H Q I (k σ H Q q)⟩
theorem PW.imp {X : Cx} {e : Expr} {t u : TT} (h : PW X e t) (k : ∀ (σ : L2.St) (H : Hp) (Q : Bool → Hp → Prop), u σ H Q → t σ H Q) : PW X e u := ⟨fun w pins s σ H Q I q => h.run w pins s σ H Q I (k σ H Q q)⟩
def boolOf : AV → Option Bool
  | .val (.bl b) => some b
  | _ => none
def evT (f : Ev AV) : Ev Bool := f.andThen fun a ρ => match boolOf a with
  | some b => some (.ok b ρ)
  | none => none
/-- truth of a value -/
def truD : D → Option Bool
  | .non => some false
  | .bl b => some b
  | .int i => some (i != 0)
  | .str x => if x.length ≤ 16777216 then some ((x.length : Int) != 0) else none
  | .tup xs => some (!xs.isEmpty)
  | .lst xs => some (!xs.isEmpty)
  | .frl xs => some (!xs.isEmpty)
  | .ol xs => some (!xs.isEmpty)
  | _ => none
def evTr (f : Ev AV) : Ev Bool := f.andThen fun a ρ => match cont ρ a with
  | none => none
  | some d => match truD d with
    | some b => some (.ok b ρ)
    | none => none
section
variable {B : Bd} {W : WX} {σ : L2.St} {H : Hp}
theorem tDT_val {f : Ev AV} {Q : Bool → Hp → Prop} (h : tDT B W (evT f) σ H Q) : tD B W f σ H fun x H' => ∃ k, x = .bl k ∧ Q k H' := by
  obtain ⟨G, ρ, F, o, c, e, z⟩ := h
  refine tD_bind c e (fun er ρ' eo => by subst eo; exact z) fun av ρ1 v G1 H1 F1 T ek c1 r1 n1 x1 => ?_
  cases hb : boolOf av with
  | none => rw [hb] at ek; cases ek
  | some b =>
    rw [hb] at ek
    cases ek
    have hav : av = .val (.bl b) := by
      unfold boolOf at hb
      split at hb
      · cases hb; rfl
      · cases hb
    subst hav
    have r2 : Rep B G1 H1 v (.bl b) T := r1
    cases r2
    exact ⟨b, rfl, z G1 H1 F1 c1 (x1.mono (fun _ h => h) fun _ h => .inl h)⟩
theorem tru_rep {G : Hp} {v : V} {d : D} {T : FP} {b : Bool} (r : Rep B G H v d T) (s : ∀ b o, G b = some o → H b = some o) (e : truD d = some b) : TruV B.K v H b := by
  have emp : ∀ {vs : List V} {ds : List D}, vs.length = ds.length → (!vs.isEmpty) = !ds.isEmpty := fun {vs ds} l => by
    cases vs <;> cases ds <;> first | rfl | cases l
  cases r with
  | non => cases e; rfl
  | bl b => cases e; rfl
  | int i => cases e; rfl
  | str x =>
    unfold truD at e
    dsimp only at e
    split at e
    · cases e; exact ⟨by rw [sizeLine_eq]; assumption, rfl⟩
    · cases e
  | tup h l c => cases e; exact .inr (.inl ⟨_, sqT_mono h s, (emp l).symm⟩)
  | lst h l c => cases e; exact .inl ⟨_, .of (s _ _ h), (emp l).symm⟩
  | frl h l c => cases e; exact .inl ⟨_, sqL_mono h s, (emp l).symm⟩
  | ol h g l c bd dj na => cases e; exact .inl ⟨_, .of h, (emp l).symm⟩
  | _ => cases e
theorem tDT_tru {f : Ev AV} {Q : Bool → Hp → Prop} (h : tDT B W (evTr f) σ H Q) : tD B W f σ H fun x H' => ∃ k, TruV B.K x H' k ∧ Q k H' := by
  obtain ⟨G, ρ, F, o, c, e, z⟩ := h
  refine tD_bind c e (fun er ρ' eo => by subst eo; exact z) fun av ρ1 v G1 H1 F1 T ek c1 r1 n1 x1 => ?_
  cases hb : cont ρ1 av with
  | none => rw [hb] at ek; cases ek
  | some d =>
    rw [hb] at ek
    dsimp only at ek
    cases ht : truD d with
    | none => rw [ht] at ek; cases ek
    | some b =>
      rw [ht] at ek
      cases ek
      obtain ⟨U, r, _⟩ := r1.cont c1 hb
      exact ⟨b, tru_rep r c1.sub ht, z G1 H1 F1 c1 (x1.mono (fun _ h => h) fun _ h => .inl h)⟩
/-- a test, then what follows -/
theorem tDT_bind {β : Type} {f : Ev Bool} {k : Bool → Ev β} {G : Hp} {ρ : DEnv} {F : Nat → FP} {o : Out β} {Q : Bool → Hp → Prop} (c : Cfg B G H σ ρ F) (e : f.andThen k ρ = some o)
    (hx : ∀ er ρ', o = .exc er ρ' → ∀ G' H' F' cls dx, Cfg B G' H' σ ρ' F' → ExcAt B G' cls dx er → Ext G H (un F) G' H' (un F') → W cls dx σ H')
    (hk : ∀ b ρ1 G1 H1 F1, k b ρ1 = some o → Cfg B G1 H1 σ ρ1 F1 → Ext G H (un F) G1 H1 (un F1) → Q b H1) : tDT B W f σ H Q := by
  unfold Ev.andThen at e
  cases hf : f ρ with
  | none => rw [hf] at e; cases e
  | some u =>
    rw [hf] at e
    cases u with
    | exc er ρ' => cases e; exact ⟨G, ρ, F, _, c, hf, fun G' H' F' cls dx c' x' y' => hx er ρ' rfl G' H' F' cls dx c' x' y'⟩
    | ok b ρ1 => exact ⟨G, ρ, F, _, c, hf, fun G1 H1 F1 c1 x => hk b ρ1 G1 H1 F1 e c1 x⟩
theorem endE_trans {G G1 H1 : Hp} {W0 W1 : FP} {Q : VK} {o : Out AV} (z : endE B W σ G H W0 Q o) (x : Ext G H W0 G1 H1 W1) : endE B W σ G1 H1 W1 Q o := by
  cases o with
  | ok av ρ' => exact fun v G' H' F' T c r n x' => z v G' H' F' T c r n (x.trans x')
  | exc e ρ' => exact fun G' H' F' cls dx c r x' => z G' H' F' cls dx c r (x.trans x')
theorem endT_trans {G G1 H1 : Hp} {W0 W1 : FP} {Q : Bool → Hp → Prop} {o : Out Bool} (z : endT B W σ G H W0 Q o) (x : Ext G H W0 G1 H1 W1) : endT B W σ G1 H1 W1 Q o := by
  cases o with
  | ok av ρ' => exact fun G' H' F' c x' => z G' H' F' c (x.trans x')
  | exc e ρ' => exact fun G' H' F' cls dx c r x' => z G' H' F' cls dx c r (x.trans x')
end
def evAnd (f g : Ev Bool) : Ev Bool := f.andThen fun b => if b = true then g else .pure false
def evOr (f g : Ev Bool) : Ev Bool := f.andThen fun b => if b = true then .pure true else g
def evNot (f : Ev Bool) : Ev Bool := f.andThen fun b => .pure (!b)
def evIf (c : Ev Bool) (f g : Ev AV) : Ev AV := c.andThen fun b => if b = true then f else g
def evB (f : Ev Bool) : Ev AV := f.andThen fun b => .pure (.val (.bl b))
section
variable {ca : Nat → Addr} {X : Cx} {a b c : Expr} {fa fb fc : Ev AV} {ga gb : Ev Bool} {pos : Pos} {rest : List Expr}
theorem dt_cmp {op : CmpOp} {g : List D → Option D} (ho : Op2 ca X (compareOp op) g) (ha : DE ca X a fa) (hb : DE ca X b fb) (hm : behindInMarks op b = false) : DT ca X (.Compare a [op] [b] pos) (evT (ev2 g fa fb)) :=
  fun W tk => PT.imp (pt_cmpR ho (ha W tk) (hb W tk) hm) fun σ H Q h => tD_op2 (tDT_val h)
theorem dt_val (ha : DE ca X a fa) (he : ∀ whole, isTrue a X.env whole = (do let v ← whole; standAt a.pos; holding [v] (truthy v)) := by intro _; rfl) : DT ca X a (evT fa) :=
  fun W tk => PT.imp (pt_val (ha W tk) he) fun σ H Q h => tDT_val h
theorem dt_tru (ha : DE ca X a fa) (he : ∀ whole, isTrue a X.env whole = (do let v ← whole; standAt a.pos; holding [v] (truthy v)) := by intro _; rfl) : DT ca X a (evTr fa) :=
  fun W tk => PT.imp (pt_truth (ha W tk) he) fun σ H Q h => tDT_tru h
theorem tDT_pure {B : Bd} {W : WX} {σ : L2.St} {H : Hp} {b : Bool} {Q : Bool → Hp → Prop} {G : Hp} {ρ : DEnv} {F : Nat → FP} {o : Out Bool} (c : Cfg B G H σ ρ F) (e : Ev.pure b ρ = some o) (z : endT B W σ G H (un F) Q o) : Q b H := by
  cases e
  exact z G H F c (.refl fun _ h => h)
theorem dw_and1 (ha : DT ca X a ga) : DW ca X (.BoolOp .And [a] pos) ga := fun W tk => pw_and1 (ha W tk)
theorem dw_or1 (ha : DT ca X a ga) : DW ca X (.BoolOp .Or [a] pos) ga := fun W tk => pw_or1 (ha W tk)
theorem dw_and (ha : DT ca X a ga) (hb : DW ca X (.BoolOp .And (b :: rest) pos) gb) : DW ca X (.BoolOp .And (a :: b :: rest) pos) (evAnd ga gb) :=
  fun W tk => PW.imp (pw_and (ha W tk) (hb W tk)) fun σ H Q h => by
    obtain ⟨G, ρ, F, o, c, e, z⟩ := h
    refine tDT_bind c e (fun er ρ' eo => by subst eo; exact z) fun b ρ1 G1 H1 F1 ek c1 x1 => ?_
    cases b with
    | true => rw [if_pos rfl] at ek ⊢; exact ⟨G1, ρ1, F1, o, c1, ek, endT_trans z x1⟩
    | false => rw [if_neg Bool.false_ne_true] at ek ⊢; exact tDT_pure c1 ek (endT_trans z x1)
theorem dw_or (ha : DT ca X a ga) (hb : DW ca X (.BoolOp .Or (b :: rest) pos) gb) : DW ca X (.BoolOp .Or (a :: b :: rest) pos) (evOr ga gb) :=
  fun W tk => PW.imp (pw_or (ha W tk) (hb W tk)) fun σ H Q h => by
    obtain ⟨G, ρ, F, o, c, e, z⟩ := h
    refine tDT_bind c e (fun er ρ' eo => by subst eo; exact z) fun b ρ1 G1 H1 F1 ek c1 x1 => ?_
    cases b with
    | true => rw [if_pos rfl] at ek ⊢; exact tDT_pure c1 ek (endT_trans z x1)
    | false => rw [if_neg Bool.false_ne_true] at ek ⊢; exact ⟨G1, ρ1, F1, o, c1, ek, endT_trans z x1⟩
theorem dt_bool (h : DW ca X a ga) : DT ca X a ga := fun W tk => (h W tk).pt
theorem dt_not (ha : DT ca X a ga) : DT ca X (.UnaryOp .Not a pos) (evNot ga) := fun W tk => PT.imp (pt_not (ha W tk)) fun σ H Q h => by
  obtain ⟨G, ρ, F, o, c, e, z⟩ := h
  refine tDT_bind c e (fun er ρ' eo => by subst eo; exact z) fun b ρ1 G1 H1 F1 ek c1 x1 => tDT_pure c1 ek (endT_trans z x1)
theorem de_if (hc : DT ca X c ga) (ha : DE ca X a fa) (hb : DE ca X b fb) : DE ca X (.IfExp c a b pos) (evIf ga fa fb) := fun W tk => PE.imp (pe_ifExp (hc W tk) (ha W tk) (hb W tk)) fun σ H Q h => by
  obtain ⟨G, ρ, F, o, c, e, z⟩ := h
  refine tDT_bind c e (fun er ρ' eo => by subst eo; exact z) fun b ρ1 G1 H1 F1 ek c1 x1 => ?_
  cases b with
  | true => rw [if_pos rfl] at ek ⊢; exact ⟨G1, ρ1, F1, o, c1, ek, endE_trans z x1⟩
  | false => rw [if_neg Bool.false_ne_true] at ek ⊢; exact ⟨G1, ρ1, F1, o, c1, ek, endE_trans z x1⟩
/-- and, or, not of bools, as values -/
theorem tD_pure {B : Bd} {W : WX} {σ : L2.St} {H : Hp} {v : V} {d : D} {Q : VK} {G : Hp} {ρ : DEnv} {F : Nat → FP} {o : Out AV} (c : Cfg B G H σ ρ F) (e : Ev.pure (.val d) ρ = some o) (z : endE B W σ G H (un F) Q o) (r : Rep B G H v d nof) : Q v H := by
  cases e
  exact z v G H F nof c r (fun _ h => h.elim) (.refl fun x h => h.elim id False.elim)
def evAndV (f g : Ev AV) : Ev AV := (evT f).andThen fun b => if b = true then g else evC (.bl false)
def evOrV (f g : Ev AV) : Ev AV := (evT f).andThen fun b => if b = true then evC (.bl true) else g
def evNotV (f : Ev AV) : Ev AV := (evT f).andThen fun b => evC (.bl (!b))
theorem de_one {op} (ha : DE ca X a fa) : DE ca X (.BoolOp op [a] pos) fa := fun W tk => pe_one (ha W tk)
theorem de_and (ha : DE ca X a fa) (hb : DE ca X (.BoolOp .And (b :: rest) pos) fb) : DE ca X (.BoolOp .And (a :: b :: rest) pos) (evAndV fa fb) := fun W tk => PE.imp (pe_and (ha W tk) (hb W tk)) fun σ H Q h => by
  obtain ⟨G, ρ, F, o, c, e, z⟩ := h
  refine tDT_val (tDT_bind c e (fun er ρ' eo => by subst eo; exact z) fun b ρ1 G1 H1 F1 ek c1 x1 => ?_)
  cases b with
  | true => rw [if_pos rfl] at ek ⊢; exact ⟨G1, ρ1, F1, o, c1, ek, endE_trans z x1⟩
  | false => rw [if_neg Bool.false_ne_true] at ek ⊢; exact tD_pure c1 ek (endE_trans z x1) (.bl false)
theorem de_or (ha : DE ca X a fa) (hb : DE ca X (.BoolOp .Or (b :: rest) pos) fb) : DE ca X (.BoolOp .Or (a :: b :: rest) pos) (evOrV fa fb) := fun W tk => PE.imp (pe_or (ha W tk) (hb W tk)) fun σ H Q h => by
  obtain ⟨G, ρ, F, o, c, e, z⟩ := h
  refine tDT_val (tDT_bind c e (fun er ρ' eo => by subst eo; exact z) fun b ρ1 G1 H1 F1 ek c1 x1 => ?_)
  cases b with
  | true => rw [if_pos rfl] at ek ⊢; exact tD_pure c1 ek (endE_trans z x1) (.bl true)
  | false => rw [if_neg Bool.false_ne_true] at ek ⊢; exact ⟨G1, ρ1, F1, o, c1, ek, endE_trans z x1⟩
theorem de_not (ha : DE ca X a fa) : DE ca X (.UnaryOp .Not a pos) (evNotV fa) := fun W tk => PE.imp (pe_not (ha W tk)) fun σ H Q h => by
  obtain ⟨G, ρ, F, o, c, e, z⟩ := h
  exact tDT_val (tDT_bind c e (fun er ρ' eo => by subst eo; exact z) fun b ρ1 G1 H1 F1 ek c1 x1 => tD_pure c1 ek (endE_trans z x1) (.bl _))
end
end DL

namespace DL
open PySem PySem.Spec PyProof.Rows L2

/-! ### freezing slots -/
def frzAt (ρ : DEnv) (i : Nat) : DEnv := match slotOf ρ i with
  | some d => ρ.set i (some (frz d))
  | none => ρ
def frzS : List Nat → DEnv → DEnv
  | [], ρ => ρ
  | i :: S, ρ => frzS S (frzAt ρ i)
def plS : List AV → List Nat
  | [] => []
  | .val _ :: as => plS as
  | .pl i _ :: as => i :: plS as
theorem frzAt_len (ρ : DEnv) (i : Nat) : (frzAt ρ i).length = ρ.length := by unfold frzAt; split <;> simp
theorem frzS_len : ∀ (S : List Nat) (ρ : DEnv), (frzS S ρ).length = ρ.length
  | [], _ => rfl
  | i :: S, ρ => by rw [frzS, frzS_len S, frzAt_len]
theorem frzAt_get (ρ : DEnv) (i j : Nat) : (frzAt ρ i)[j]? = if j = i then (ρ[j]?).map (Option.map frz) else ρ[j]? := by
  unfold frzAt
  cases h : slotOf ρ i with
  | none =>
    dsimp only
    split
    · rename_i e
      subst e
      unfold slotOf at h
      cases q : ρ[j]? with
      | none => rfl
      | some o => rw [q] at h; cases o with
        | none => rfl
        | some d => cases h
    · rfl
  | some d =>
    have e := slotOf_eq h
    dsimp only
    split
    · rename_i e'
      subst e'
      rw [e]
      have hl : j < ρ.length := (List.getElem?_eq_some_iff.mp e).1
      rw [List.getElem?_set_self hl]
      rfl
    · rename_i ne
      rw [List.getElem?_set_ne (Ne.symm ne)]
theorem frz_frz (d : D) : frz (frz d) = frz d := frz_sh _ (frz_is d)
theorem frzS_get : ∀ (S : List Nat) (ρ : DEnv) (j : Nat), (frzS S ρ)[j]? = if j ∈ S then (ρ[j]?).map (Option.map frz) else ρ[j]?
  | [], ρ, j => by simp [frzS]
  | i :: S, ρ, j => by
    rw [frzS, frzS_get S, frzAt_get]
    by_cases h1 : j = i <;> by_cases h2 : j ∈ S
    · rw [if_pos h2, if_pos h1, if_pos (by simp [h1])]
      cases ρ[j]? with
      | none => rfl
      | some o => cases o with
        | none => rfl
        | some d => simp [frz_frz]
    · rw [if_neg h2, if_pos h1, if_pos (by simp [h1])]
    · rw [if_pos h2, if_neg h1, if_pos (by simp [h2])]
    · rw [if_neg h2, if_neg h1, if_neg (by simp [h1, h2])]

section
variable {B : Bd} {σ : L2.St} {G H : Hp} {ρ : DEnv} {F : Nat → FP} {W : WX}
/-- what is frozen: temporaries in Wt, the slots S -/
def frU (G H : Hp) (F : Nat → FP) (Wt : FP) (S : List Nat) : FP := fun x => (Wt x ∧ (∃ o, H x = some o) ∧ G x = none) ∨ ∃ i, i ∈ S ∧ F i x
theorem freeze_cfg {Wt : FP} (c : Cfg B G H σ ρ F) (n : ∀ x, Wt x → ¬ un F x) (S : List Nat) :
    Cfg B (gfr G H (frU G H F Wt S)) H σ (frzS S ρ) (fun j x => F j x ∧ j ∉ S) ∧ Ext G H (fun x => un F x ∨ Wt x) (gfr G H (frU G H F Wt S)) H (un fun j x => F j x ∧ j ∉ S) := by
  have dm : ∀ x, frU G H F Wt S x → (∃ o, H x = some o) ∧ G x = none := fun x h => by
    rcases h with ⟨_, h⟩ | ⟨i, _, h⟩
    · exact h
    · exact c.dom ⟨i, h⟩
  have gg : ∀ b o, G b = some o → gfr G H (frU G H F Wt S) b = some o := fun b o e => by
    by_cases h : frU G H F Wt S b
    · rw [(dm b h).2] at e; cases e
    · rw [gfr_out h]; exact e
  refine ⟨⟨fun b o e => ?_, by rw [frzS_len]; exact c.len, fun i d e => ?_, fun i h x hx => ?_, fun i j x a b => c.dis i j x a.1 b.1⟩, ⟨gg, fun b o e _ => e, fun b h => ?_, fun b o e => ?_⟩⟩
  · by_cases h : frU G H F Wt S b
    · rw [gfr_in h] at e; exact e
    · rw [gfr_out h] at e; exact c.sub b o e
  · rw [frzS_get] at e
    by_cases hS : i ∈ S
    · rw [if_pos hS] at e
      cases q : ρ[i]? with
      | none => rw [q] at e; cases e
      | some o =>
        rw [q] at e
        cases o with
        | none => cases e
        | some d' =>
          obtain ⟨v, e1, r⟩ := c.slot i d' q
          have ed : d = frz d' := by simpa using e.symm
          subst ed
          refine ⟨v, e1, ?_⟩
          have r2 := r.frozen (G1 := gfr G H (frU G H F Wt S)) gg fun b hb => gfr_in (.inr ⟨i, hS, hb⟩)
          have en : (fun x => F i x ∧ i ∉ S) = nof := by funext x; exact propext ⟨fun z => z.2 hS, fun z => z.elim⟩
          rw [en]; exact r2
    · rw [if_neg hS] at e
      obtain ⟨v, e1, r⟩ := c.slot i d e
      refine ⟨v, e1, ?_⟩
      have en : (fun x => F i x ∧ i ∉ S) = F i := by funext x; exact propext ⟨fun z => z.1, fun z => ⟨z, hS⟩⟩
      rw [en]
      refine r.keep gg fun b hb => ⟨rfl, ?_⟩
      have nb : ¬ frU G H F Wt S b := fun z => by
        rcases z with ⟨z, _⟩ | ⟨j, hj, z⟩
        · exact n b z ⟨i, hb⟩
        · have := c.dis i j b hb z
          subst this
          exact hS hj
      rw [gfr_out nb]
      exact (r.dom b hb).2
  · obtain ⟨d, v, e1, e2, r⟩ := c.own hx.1
    refine h d ?_
    rw [frzS_get, if_neg hx.2]
    exact e1
  · obtain ⟨i, hi⟩ := h
    exact .inl (.inl ⟨i, hi.1⟩)
  · by_cases h : frU G H F Wt S b
    · rcases h with ⟨z, _⟩ | ⟨i, _, z⟩
      · exact .inr (.inl (.inr z))
      · exact .inr (.inl (.inl ⟨i, z⟩))
    · rw [gfr_out h] at e; exact .inl e
theorem freeze_reps {Wt : FP} (c : Cfg B G H σ ρ F) (n : ∀ x, Wt x → ¬ un F x) (S : List Nat) : ∀ {vs : List V} {avs : List AV} {ds : List D}, RepAs B G H σ Wt vs avs → conts ρ avs = some ds → (∀ i ∈ plS avs, i ∈ S) →
    Paired (fun v d => Rep B (gfr G H (frU G H F Wt S)) H v d nof) vs (ds.map frz)
  | _, _, _, .nil, e, _ => by cases e; exact .nil
  | v :: vs, a :: as, ds, .cons (T := T) r hT t hu _, e, hS => by
    have t := t.mono hu
    have dm : ∀ x, frU G H F Wt S x → (∃ o, H x = some o) ∧ G x = none := fun x h => by
      rcases h with ⟨_, h⟩ | ⟨i, _, h⟩
      · exact h
      · exact c.dom ⟨i, h⟩
    have gg : ∀ b o, G b = some o → gfr G H (frU G H F Wt S) b = some o := fun b o e => by
      by_cases h : frU G H F Wt S b
      · rw [(dm b h).2] at e; cases e
      · rw [gfr_out h]; exact e
    unfold conts at e
    cases h1 : cont ρ a with
    | none => rw [h1] at e; cases e
    | some d =>
      cases h2 : conts ρ as with
      | none => rw [h1, h2] at e; cases e
      | some ds' =>
        rw [h1, h2] at e
        cases e
        cases a with
        | val d' =>
          cases h1
          have r' : Rep B G H v d T := r
          refine .cons ?_ (freeze_reps c n S t h2 fun i hi => hS i hi)
          exact r'.frozen gg fun b hb => gfr_in (.inl ⟨hT b hb, r'.dom b hb⟩)
        | pl i p =>
          refine .cons ?_ (freeze_reps c n S t h2 fun j hj => hS j (by simp [plS, hj]))
          obtain ⟨U, r', s⟩ := r.cont c h1
          have hT' := r.2
          exact r'.frozen gg fun b hb => gfr_in (.inr ⟨i, hS i (by simp [plS]), (s b hb).elim (fun z => by rw [hT'] at z; exact z.elim) id⟩)
end

/-! ### arguments handed over for good -/
def endF (B : Bd) (W : WX) (σ : L2.St) (G H : Hp) (W0 : FP) (Q : List V → Hp → Prop) : Out (List D) → Prop
  | .ok ds ρ' => ∀ vs G' H' F', Cfg B G' H' σ ρ' F' → Paired (fun v d => Rep B G' H' v d nof) vs ds → Ext G H W0 G' H' (un F') → Q vs H'
  | .exc e ρ' => ∀ G' H' F' cls dx, Cfg B G' H' σ ρ' F' → ExcAt B G' cls dx e → Ext G H W0 G' H' (un F') → W cls dx σ H'
def tDF (B : Bd) (W : WX) (f : Ev (List D)) : TA := fun σ H Q => ∃ G ρ F o, Cfg B G H σ ρ F ∧ f ρ = some o ∧ endF B W σ G H (un F) Q o
def DF (ca : Nat → Addr) (X : Cx) (es : List Expr) (f : Ev (List D)) : Prop := ∀ W, Takes X W → PA X es (tDF ⟨X.K, ca⟩ W f)
def consK (avs : List AV) : Ev (List D) := fun ρ => match conts ρ avs with
  | some ds => some (.ok (ds.map frz) (frzS (plS avs) ρ))
  | none => none
def evFz (fs : Ev (List AV)) : Ev (List D) := fs.andThen consK
section
variable {B : Bd} {W : WX} {σ : L2.St} {H : Hp}
theorem tDF_of {fs : Ev (List AV)} {Q : List V → Hp → Prop} (h : tDF B W (evFz fs) σ H Q) : tDL B W fs σ H Q := by
  obtain ⟨G, ρ, F, o, c, e, z⟩ := h
  refine tDL_bind c e (fun er ρ' eo => by subst eo; exact z) fun avs ρ1 vs G1 H1 F1 Wt ek c1 r1 n1 x1 => ?_
  unfold consK at ek
  cases h1 : conts ρ1 avs with
  | none => rw [h1] at ek; cases ek
  | some ds =>
    rw [h1] at ek
    cases ek
    obtain ⟨c2, x2⟩ := freeze_cfg c1 n1 (plS avs)
    exact z vs _ H1 _ c2 (freeze_reps c1 n1 (plS avs) r1 h1 fun i h => h) (x1.trans x2)
theorem tDF_bind {β : Type} {f : Ev (List D)} {k : List D → Ev β} {G : Hp} {ρ : DEnv} {F : Nat → FP} {o : Out β} {Q : List V → Hp → Prop} (c : Cfg B G H σ ρ F) (e : f.andThen k ρ = some o)
    (hx : ∀ er ρ', o = .exc er ρ' → ∀ G' H' F' cls dx, Cfg B G' H' σ ρ' F' → ExcAt B G' cls dx er → Ext G H (un F) G' H' (un F') → W cls dx σ H')
    (hk : ∀ ds ρ1 vs G1 H1 F1, k ds ρ1 = some o → Cfg B G1 H1 σ ρ1 F1 → Paired (fun v d => Rep B G1 H1 v d nof) vs ds → Ext G H (un F) G1 H1 (un F1) → Q vs H1) : tDF B W f σ H Q := by
  unfold Ev.andThen at e
  cases hf : f ρ with
  | none => rw [hf] at e; cases e
  | some u =>
    rw [hf] at e
    cases u with
    | exc er ρ' => cases e; exact ⟨G, ρ, F, _, c, hf, fun G' H' F' cls dx c' x' y' => hx er ρ' rfl G' H' F' cls dx c' x' y'⟩
    | ok ds ρ1 => exact ⟨G, ρ, F, _, c, hf, fun vs G1 H1 F1 c1 r x => hk ds ρ1 vs G1 H1 F1 e c1 r x⟩
end
theorem df_of {ca : Nat → Addr} {X : Cx} {es : List Expr} {fs : Ev (List AV)} (h : DA ca X es fs) : DF ca X es (evFz fs) := fun W tk => PA.imp (h W tk) fun σ H Q q => tDF_of q
/-- operations by frozen contents -/
def evOpF (g : List D → Option D) (fs : Ev (List D)) : Ev AV := fs.andThen fun ds ρ => match g ds with
  | none => none
  | some d => some (.ok (.val d) ρ)
theorem paired_len {α β : Type} {R : α → β → Prop} : ∀ {xs : List α} {ys : List β}, Paired R xs ys → xs.length = ys.length
  | _, _, .nil => rfl
  | _, _, .cons _ t => congrArg (· + 1) (paired_len t)
theorem paired_get {α β : Type} {R : α → β → Prop} : ∀ {xs : List α} {ys : List β}, Paired R xs ys → ∀ (i : Nat) x y, xs[i]? = some x → ys[i]? = some y → R x y
  | _, _, .nil, i, x, y, h, _ => by simp at h
  | _, _, .cons r t, 0, x, y, h, h' => by simp at h h'; subst h; subst h'; exact r
  | _, _, .cons r t, i + 1, x, y, h, h' => paired_get t i x y (by simpa using h) (by simpa using h')
def rDF (B : Bd) (g : List D → Option D) : List V → Hp → VK → Prop := fun xs H Q => ∃ G ds d, (∀ b o, G b = some o → H b = some o) ∧ Paired (fun v d => Rep B G H v d nof) xs ds ∧ g ds = some d ∧
  ∀ v G' H' T, (∀ b o, G' b = some o → H' b = some o) → Rep B G' H' v d T → Ext G H nof G' H' T → Q v H'
theorem tD_opF {B : Bd} {W : WX} {σ : L2.St} {H : Hp} {g : List D → Option D} {fs : Ev (List D)} {Q : VK} (h : tD B W (evOpF g fs) σ H Q) : tDF B W fs σ H fun vs H1 => rDF B g vs H1 Q := by
  obtain ⟨G, ρ, F, o, c, e, z⟩ := h
  refine tDF_bind c e (fun er ρ' eo => by subst eo; exact z) fun ds ρ1 vs G1 H1 F1 ek c1 r1 x1 => ?_
  cases h2 : g ds with
  | none => rw [h2] at ek; cases ek
  | some d =>
    rw [h2] at ek
    cases ek
    exact ⟨G1, ds, d, c1.sub, r1, h2, fun v G' H' T s r x => z v G' H' F1 T (c1.grow x s) r (c1.new x) (x1.more x)⟩
def gTup (ds : List D) : Option D := if ds.length ≤ 16777216 then some (.tup ds) else none
def gLst (ds : List D) : Option D := if ds.length ≤ 16777216 then some (.ol ds) else none
theorem no_g {G H : Hp} {p : Addr} (s : ∀ b o, G b = some o → H b = some o) (hp : H p = none) : G p = none := by
  cases z : G p with
  | none => rfl
  | some o => rw [s _ _ z] at hp; cases hp
section
variable {ca : Nat → Addr} {X : Cx} {es : List Expr} {fs : Ev (List D)} {pos : Pos}
theorem de_tup {x1} (h : DF ca X es fs) : DE ca X (.Tuple es x1 pos) (evOpF gTup fs) := fun W tk => PE.imp (pe_tup (h W tk)) fun σ H Q q => by
  obtain ⟨G, ρ, F, o, c, e, z⟩ := tD_opF q
  refine ⟨G, ρ, F, o, c, e, ?_⟩
  cases o with
  | exc er ρ' => exact z
  | ok ds ρ' =>
    intro vs G' H' F' c' r x
    obtain ⟨G2, ds2, d, sub, r2, e2, k⟩ := z vs G' H' F' c' r x
    unfold gTup at e2
    split at e2
    · rename_i hz
      cases e2
      refine ⟨by rw [paired_len r2, sizeLine_eq]; exact hz, fun p hp => ?_⟩
      refine k _ _ _ nof (sub_new hp sub) (.tup (.inl (.inl upd_same)) (paired_len r2) fun i v d e1 e3 => ?_) (ext_new hp sub)
      exact (paired_get r2 i v d e1 e3).keep (fun b o e => by rw [upd_ne (ne_of_none e (no_g sub hp))]; exact e) fun _ h => h.elim
    · cases e2
theorem de_lst (h : DF ca X es fs) : DE ca X (.List es pos) (evOpF gLst fs) := fun W tk => PE.imp (pe_lst (h W tk)) fun σ H Q q => by
  obtain ⟨G, ρ, F, o, c, e, z⟩ := tD_opF q
  refine ⟨G, ρ, F, o, c, e, ?_⟩
  cases o with
  | exc er ρ' => exact z
  | ok ds ρ' =>
    intro vs G' H' F' c' r x
    obtain ⟨G2, ds2, d, sub, r2, e2, k⟩ := z vs G' H' F' c' r x
    unfold gLst at e2
    split at e2
    · rename_i hz
      cases e2
      refine ⟨by rw [paired_len r2, sizeLine_eq]; exact hz, fun p hp => ?_⟩
      refine k _ G2 _ _ (sub_own hp sub) (rep_ol (no_g sub hp) upd_same (paired_len r2) fun i v d e1 e3 => ?_) (ext_own hp)
      exact (paired_get r2 i v d e1 e3).up
    · cases e2
end

/-! ### an item -/
def gIx : List D → Option D
  | [.str z, .int i] => if z.length ≤ 16777216 then (atI z.cps.toList i).map fun c => .str ⟨#[c]⟩ else none
  | [x, .int i] => match seqD x with
    | some ds => match atI ds i with
      | some d => if d.sh = true then some d else none
      | none => none
    | none => none
  | _ => none
theorem atI_pair {α β : Type} {xs : List α} {ys : List β} (l : xs.length = ys.length) {i : Int} {y : β} (h : atI ys i = some y) : ∃ (x : α) (j : Nat), atI xs i = some x ∧ xs[j]? = some x ∧ ys[j]? = some y := by
  unfold atI at h ⊢
  rw [l]
  cases hj : ixN ys.length i with
  | none => rw [hj] at h; cases h
  | some j =>
    rw [hj] at h
    have hy : ys[j]? = some y := h
    have hl : j < xs.length := by rw [l]; exact (List.getElem?_eq_some_iff.mp hy).1
    exact ⟨xs[j], j, by show xs[j]? = _; exact List.getElem?_eq_getElem hl, List.getElem?_eq_getElem hl, hy⟩
section
variable {ca : Nat → Addr} {X : Cx} {a b : Expr} {fa fb : Ev AV} {pos : Pos}
theorem ixD : IxR X fun x y H Q => rDL ⟨X.K, ca⟩ gIx [x, y] H Q := by
  intro value slice pins s σ H x y v u Q I rx ry h hs
  refine ix_seq value slice pins s σ H x y v u Q I rx ry ?_ hs
  obtain ⟨G, ds, d, sub, rs, e, q⟩ := h
  obtain ⟨d1, T1, d2, T2, rfl, r1, r2⟩ := rs.two
  unfold gIx at e
  split at e
  · rename_i z i heq
    cases heq; cases r1; cases r2
    split at e
    · rename_i hz
      obtain ⟨c, e1, rfl⟩ := Option.map_eq_some_iff.mp e
      exact .inr (.inr ⟨z, i, c, rfl, rfl, by rw [sizeLine_eq]; exact hz, e1, rDL_end q sub (.str _)⟩)
    · cases e
  · rename_i x' i _ heq
    cases heq; cases r2
    split at e
    · rename_i ds h1
      split at e
      · rename_i d' h2
        split at e
        · rename_i hs
          cases e
          obtain ⟨a1, vs1, rfl, hq, l1, c1⟩ := r1.seq sub h1
          obtain ⟨w, j, e1, e2, e3⟩ := atI_pair l1 h2
          obtain ⟨U, r⟩ := c1 j w d e2 e3
          have fin := rDL_end q sub (rep_sh r hs)
          rcases hq with hq | hq
          · exact .inl ⟨a1, vs1, i, w, rfl, rfl, hq, e1, fin⟩
          · exact .inr (.inl ⟨a1, vs1, i, w, rfl, rfl, hq, e1, fin⟩)
        · cases e
      · cases e
    · cases e
  · cases e
theorem de_ix (ha : DE ca X a fa) (hb : DE ca X b fb) (hs : PlainIx b) : DE ca X (.Subscript a b pos) (ev2 gIx fa fb) :=
  fun W tk => PE.imp (pe_ix ixD (ha W tk) (hb W tk) hs) fun σ H Q h => tD_op2 h
end

/-! ### built-in functions -/
def CallD (ca : Nat → Addr) (X : Cx) (f : Value) (g : List D → Option D) : Prop := CallR X f (rDL ⟨X.K, ca⟩ g)
section
variable {ca : Nat → Addr} {X : Cx} {x : Str} {e : Expr} {es : List Expr} {fs : Ev (List AV)} {p pos : Pos} {id T : String} {g : List D → Option D}
theorem de_callB (hc : CallD ca X (.builtin id) g) (hg : Gl X x) (hm : X.mg x = none) (hv : bootBuiltins x = some (.builtin id)) (ha : DA ca X (e :: es) fs) (hn : x ≠ "__name__" := by decide) (hdb : (x == ("__debug__" : Str)) = false := by decide)
    (he : starEach (e :: es) X.env = (false, eval e X.env) :: starEach es X.env := by rfl) (hpl : (backTo pos (starEach es X.env)).any (·.1) = false := by rfl) : DE ca X (.Call (.Name x p) (e :: es) [] pos) (evOp g fs) :=
  fun W tk => PE.imp (pe_callB hc hg hm hv (ha W tk) hn hdb he hpl) fun σ H Q h => tD_op h
theorem de_callTy (hc : CallD ca X (.type T) g) (hg : Gl X x) (hm : X.mg x = none) (hv : bootBuiltins x = some (.type T)) (ha : DA ca X (e :: es) fs) (hn : x ≠ "__name__" := by decide) (hdb : (x == ("__debug__" : Str)) = false := by decide)
    (he : starEach (e :: es) X.env = (false, eval e X.env) :: starEach es X.env := by rfl) (hpl : (backTo pos (starEach es X.env)).any (·.1) = false := by rfl) : DE ca X (.Call (.Name x p) (e :: es) [] pos) (evOp g fs) :=
  fun W tk => PE.imp (pe_callTy hc hg hm hv (ha W tk) hn hdb he hpl) fun σ H Q h => tD_op h
theorem de_callG (hc : CallD ca X (.builtin id) g) (hg : Gl X x) (hm : X.mg x = some (.builtin id)) (ha : DA ca X (e :: es) fs) (hdb : (x == ("__debug__" : Str)) = false := by decide)
    (he : starEach (e :: es) X.env = (false, eval e X.env) :: starEach es X.env := by rfl) (hpl : (backTo pos (starEach es X.env)).any (·.1) = false := by rfl) : DE ca X (.Call (.Name x p) (e :: es) [] pos) (evOp g fs) :=
  fun W tk => PE.imp (pe_callBfun hc hg hm (ha W tk) hdb he hpl) fun σ H Q h => tD_op h
def gAbs : List D → Option D
  | [.int i] => some (.int (if i < 0 then -i else i))
  | _ => none
def gInt : List D → Option D
  | [.int i] => some (.int i)
  | [.bl b] => some (.int (if b then 1 else 0))
  | _ => none
def gGcd : List D → Option D
  | [.int i, .int j] => some (.int ((Nat.gcd i.natAbs j.natAbs : Nat) : Int))
  | _ => none
def gLen : List D → Option D
  | [.str x] => if x.length ≤ 16777216 then some (.int x.length) else none
  | [.dct kvs] => some (.int kvs.length)
  | [.od kvs] => some (.int kvs.length)
  | [x] => (seqD x).map fun ds => .int ds.length
  | _ => none
theorem callD_abs : CallD ca X (.builtin "abs") gAbs := by
  intro pins s σ H xs us Q I rs h
  obtain ⟨G, ds, d, sub, rr, e, q⟩ := h
  unfold gAbs at e
  split at e
  · cases e
    cases rr with
    | cons a t => cases t; obtain ⟨T, r⟩ := a; cases r; exact call_abs pins s σ H _ us Q I rs ⟨_, rfl, rDL_end q sub (.int _)⟩
  · cases e
theorem callD_int : CallD ca X (.type "int") gInt := by
  intro pins s σ H xs us Q I rs h
  obtain ⟨G, ds, d, sub, rr, e, q⟩ := h
  unfold gInt at e
  split at e
  · cases e
    cases rr with
    | cons a t => cases t; obtain ⟨T, r⟩ := a; cases r; exact call_int1 pins s σ H _ us Q I rs (.inl ⟨_, rfl, rDL_end q sub (.int _)⟩)
  · cases e
    cases rr with
    | cons a t => cases t; obtain ⟨T, r⟩ := a; cases r; exact call_int1 pins s σ H _ us Q I rs (.inr ⟨_, rfl, rDL_end q sub (.int _)⟩)
  · cases e
theorem callD_gcd : CallD ca X (.builtin "math.gcd") gGcd := by
  intro pins s σ H xs us Q I rs h
  obtain ⟨G, ds, d, sub, rr, e, q⟩ := h
  unfold gGcd at e
  split at e
  · cases e
    cases rr with
    | cons a t => cases t with
      | cons b t => cases t; obtain ⟨T, r⟩ := a; obtain ⟨U, r'⟩ := b; cases r; cases r'; exact cr_gcd pins s σ H _ us Q I rs ⟨_, _, rfl, rDL_end q sub (.int _)⟩
  · cases e
theorem callD_len : CallD ca X (.builtin "len") gLen := by
  intro pins s σ H xs us Q I rs h
  obtain ⟨G, ds, d, sub, rr, e, q⟩ := h
  unfold gLen at e
  split at e
  · split at e
    · rename_i hz
      cases e
      cases rr with
      | cons a t => cases t; obtain ⟨T, r⟩ := a; cases r; exact call_len pins s σ H _ us Q I rs ⟨_, _, rfl, ⟨by rw [sizeLine_eq]; exact hz, rfl⟩, rDL_end q sub (.int _)⟩
    · cases e
  · cases e
    cases rr with
    | cons a t =>
      cases t
      obtain ⟨T, r⟩ := a
      cases r with
      | dct h l c => exact call_lenD pins s σ H _ us Q I rs ⟨_, _, rfl, sub _ _ h, by rw [len_of_keys l]; exact rDL_end q sub (.int _)⟩
  · cases e
    cases rr with
    | cons a t =>
      cases t
      obtain ⟨T, r⟩ := a
      cases r with
      | od h g l c bd dj na => exact call_lenD pins s σ H _ us Q I rs ⟨_, _, rfl, h, by rw [len_of_keys l]; exact rDL_end q sub (.int _)⟩
  · obtain ⟨ds', h1, rfl⟩ := Option.map_eq_some_iff.mp e
    cases rr with
    | cons a t =>
      cases t
      obtain ⟨T, r⟩ := a
      obtain ⟨a1, vs1, rfl, hq, l1, c1⟩ := r.seq sub h1
      refine call_len_seq pins s σ H _ us Q I rs ⟨a1, vs1, rfl, hq, ?_⟩
      rw [l1]
      exact rDL_end q sub (.int _)
  · cases e
end
end DL

namespace DL
open PySem PySem.Spec PyProof.Rows L2

/-! ### statements -/
inductive SOut where
  | nx (ρ : DEnv) | ret (d : D) (ρ : DEnv) | brk (ρ : DEnv) | cnt (ρ : DEnv) | exc (e : D) (ρ : DEnv)
abbrev Sv := DEnv → Option SOut
/-- the slots in I hold what they held -/
structure Prot (I : List Nat) (σ σ' : L2.St) : Prop where
  len : σ'.length = σ.length
  at_ : ∀ i ∈ I, σ'[i]? = σ[i]?
theorem Prot.refl {I : List Nat} {σ : L2.St} : Prot I σ σ := ⟨rfl, fun _ _ => rfl⟩
theorem Prot.trans {I : List Nat} {σ σ1 σ2 : L2.St} (a : Prot I σ σ1) (b : Prot I σ1 σ2) : Prot I σ σ2 := ⟨b.len.trans a.len, fun i h => (b.at_ i h).trans (a.at_ i h)⟩
def endS (B : Bd) (W : WX) (I : List Nat) (σ : L2.St) (G H : Hp) (W0 : FP) (Dn : Ends) : SOut → Prop
  | .nx ρ' => ∀ σ' G' H' F', Prot I σ σ' → Cfg B G' H' σ' ρ' F' → Ext G H W0 G' H' (un F') → Dn.nx σ' H'
  | .brk ρ' => ∀ σ' G' H' F', Prot I σ σ' → Cfg B G' H' σ' ρ' F' → Ext G H W0 G' H' (un F') → Dn.bk σ' H'
  | .cnt ρ' => ∀ σ' G' H' F', Prot I σ σ' → Cfg B G' H' σ' ρ' F' → Ext G H W0 G' H' (un F') → Dn.ct σ' H'
  | .ret d ρ' => ∀ v σ' G' H' F' T, Prot I σ σ' → Cfg B G' H' σ' ρ' F' → Rep B G' H' v d T → (∀ x, T x → ¬ un F' x) → Ext G H W0 G' H' (fun x => un F' x ∨ T x) → Dn.rt v H'
  | .exc e ρ' => ∀ σ' G' H' F' cls dx, Prot I σ σ' → Cfg B G' H' σ' ρ' F' → ExcAt B G' cls dx e → Ext G H W0 G' H' (un F') → W cls dx σ' H'
def tSD (B : Bd) (W : WX) (I : List Nat) (g : Sv) : TS := fun Dn σ H => ∃ G ρ F o, Cfg B G H σ ρ F ∧ g ρ = some o ∧ endS B W I σ G H (un F) Dn o
theorem endS_trans {B : Bd} {W : WX} {I : List Nat} {σ σ1 : L2.St} {G H G1 H1 : Hp} {W0 W1 : FP} {Dn : Ends} {o : SOut} (z : endS B W I σ G H W0 Dn o) (p : Prot I σ σ1) (x : Ext G H W0 G1 H1 W1) : endS B W I σ1 G1 H1 W1 Dn o := by
  cases o with
  | nx ρ' => exact fun σ' G' H' F' p' c x' => z σ' G' H' F' (p.trans p') c (x.trans x')
  | brk ρ' => exact fun σ' G' H' F' p' c x' => z σ' G' H' F' (p.trans p') c (x.trans x')
  | cnt ρ' => exact fun σ' G' H' F' p' c x' => z σ' G' H' F' (p.trans p') c (x.trans x')
  | ret d ρ' => exact fun v σ' G' H' F' T p' c r n x' => z v σ' G' H' F' T (p.trans p') c r n (x.trans x')
  | exc e ρ' => exact fun σ' G' H' F' cls dx p' c r x' => z σ' G' H' F' cls dx (p.trans p') c r (x.trans x')
abbrev Pass (X : Cx) : Prop := PassesOwn (model X.prog X.w) X.A X.env X.xe
def DS (ca : Nat → Addr) (X : Cx) (I : List Nat) (st : Stmt) (g : Sv) : Prop := ∀ W, Takes X W → Pass X → PS X st (tSD ⟨X.K, ca⟩ W I g)
def DB (ca : Nat → Addr) (X : Cx) (I : List Nat) (st : List Stmt) (g : Sv) : Prop := ∀ W, Takes X W → Pass X → PSs X st (tSD ⟨X.K, ca⟩ W I g)
theorem PS.imp {X : Cx} {e : Stmt} {t u : TS} (h : PS X e t) (k : ∀ (Dn : Ends) (σ : L2.St) (H : Hp), u Dn σ H → t Dn σ H) : PS X e u := ⟨fun pins s σ H Dn I q => h.run pins s σ H Dn I (k Dn σ H q)⟩
theorem PSs.imp {X : Cx} {e : List Stmt} {t u : TS} (h : PSs X e t) (k : ∀ (Dn : Ends) (σ : L2.St) (H : Hp), u Dn σ H → t Dn σ H) : PSs X e u := ⟨fun pins s σ H Dn I q => h.run pins s σ H Dn I (k Dn σ H q)⟩

def sNil : Sv := fun ρ => some (.nx ρ)
def sSeq (f g : Sv) : Sv := fun ρ => match f ρ with
  | some (.nx ρ1) => g ρ1
  | o => o
/-- an expression's step within a statement -/
def evS {α : Type} (f : Ev α) (k : α → Sv) : Sv := fun ρ => match f ρ with
  | none => none
  | some (.exc e ρ1) => some (.exc e ρ1)
  | some (.ok a ρ1) => k a ρ1
section
variable {B : Bd} {W : WX} {I : List Nat} {σ : L2.St} {H : Hp} {Dn : Ends}
theorem tSD_seq {f g : Sv} (h : tSD B W I (sSeq f g) Dn σ H) : tSeq (tSD B W I f) (tSD B W I g) Dn σ H := by
  obtain ⟨G, ρ, F, o, c, e, z⟩ := h
  unfold sSeq at e
  cases hf : f ρ with
  | none => rw [hf] at e; cases e
  | some u =>
    rw [hf] at e
    cases u with
    | nx ρ1 => exact ⟨G, ρ, F, _, c, hf, fun σ' G' H' F' p c' x => ⟨G', ρ1, F', o, c', e, endS_trans z p x⟩⟩
    | brk ρ1 => cases e; exact ⟨G, ρ, F, _, c, hf, z⟩
    | cnt ρ1 => cases e; exact ⟨G, ρ, F, _, c, hf, z⟩
    | ret d ρ1 => cases e; exact ⟨G, ρ, F, _, c, hf, z⟩
    | exc er ρ1 => cases e; exact ⟨G, ρ, F, _, c, hf, z⟩
/-- an exception's way out of an expression -/
theorem exc_out {G : Hp} {W0 : FP} {er : D} {ρ' : DEnv} (z : endS B W I σ G H W0 Dn (.exc er ρ')) : ∀ G' H' F' cls dx, Cfg B G' H' σ ρ' F' → ExcAt B G' cls dx er → Ext G H W0 G' H' (un F') → W cls dx σ H' :=
  fun G' H' F' cls dx c r x => z σ G' H' F' cls dx .refl c r x
theorem tSD_E {f : Ev AV} {k : AV → Sv} {Q : VK} (h : tSD B W I (evS f k) Dn σ H)
    (hk : ∀ av ρ1 v G1 H1 F1 T o, k av ρ1 = some o → Cfg B G1 H1 σ ρ1 F1 → RepA B G1 H1 σ v av T → (∀ x, T x → ¬ un F1 x) → endS B W I σ G1 H1 (fun x => un F1 x ∨ T x) Dn o → Q v H1) : tD B W f σ H Q := by
  obtain ⟨G, ρ, F, o, c, e, z⟩ := h
  unfold evS at e
  cases hf : f ρ with
  | none => rw [hf] at e; cases e
  | some u =>
    rw [hf] at e
    cases u with
    | exc er ρ' => cases e; exact ⟨G, ρ, F, _, c, hf, exc_out z⟩
    | ok av ρ1 => exact ⟨G, ρ, F, _, c, hf, fun v G1 H1 F1 T c1 r n x => hk av ρ1 v G1 H1 F1 T o e c1 r n (endS_trans z .refl x)⟩
theorem tSD_L {f : Ev (List AV)} {k : List AV → Sv} {Q : List V → Hp → Prop} (h : tSD B W I (evS f k) Dn σ H)
    (hk : ∀ avs ρ1 vs G1 H1 F1 Wt o, k avs ρ1 = some o → Cfg B G1 H1 σ ρ1 F1 → RepAs B G1 H1 σ Wt vs avs → (∀ x, Wt x → ¬ un F1 x) → endS B W I σ G1 H1 (fun x => un F1 x ∨ Wt x) Dn o → Q vs H1) : tDL B W f σ H Q := by
  obtain ⟨G, ρ, F, o, c, e, z⟩ := h
  unfold evS at e
  cases hf : f ρ with
  | none => rw [hf] at e; cases e
  | some u =>
    rw [hf] at e
    cases u with
    | exc er ρ' => cases e; exact ⟨G, ρ, F, _, c, hf, exc_out z⟩
    | ok avs ρ1 => exact ⟨G, ρ, F, _, c, hf, fun v G1 H1 F1 T c1 r n x => hk avs ρ1 v G1 H1 F1 T o e c1 r n (endS_trans z .refl x)⟩
theorem tSD_T {f : Ev Bool} {k : Bool → Sv} {Q : Bool → Hp → Prop} (h : tSD B W I (evS f k) Dn σ H)
    (hk : ∀ b ρ1 G1 H1 F1 o, k b ρ1 = some o → Cfg B G1 H1 σ ρ1 F1 → endS B W I σ G1 H1 (un F1) Dn o → Q b H1) : tDT B W f σ H Q := by
  obtain ⟨G, ρ, F, o, c, e, z⟩ := h
  unfold evS at e
  cases hf : f ρ with
  | none => rw [hf] at e; cases e
  | some u =>
    rw [hf] at e
    cases u with
    | exc er ρ' => cases e; exact ⟨G, ρ, F, _, c, hf, exc_out z⟩
    | ok b ρ1 => exact ⟨G, ρ, F, _, c, hf, fun G1 H1 F1 c1 x => hk b ρ1 G1 H1 F1 o e c1 (endS_trans z .refl x)⟩
end
section
variable {ca : Nat → Addr} {X : Cx} {I : List Nat} {st : Stmt} {rest : List Stmt} {f g : Sv} {e : Expr} {fe : Ev AV} {pos : Pos}
theorem db_nil : DB ca X I [] sNil := fun W tk ps => PSs.imp pss_nil fun Dn σ H h => by
  obtain ⟨G, ρ, F, o, c, e, z⟩ := h
  cases e
  exact z σ G H F .refl c (.refl fun _ h => h)
theorem db_cons (h1 : DS ca X I st f) (h2 : DB ca X I rest g) : DB ca X I (st :: rest) (sSeq f g) := fun W tk ps => PSs.imp (pss_cons (h1 W tk ps) (h2 W tk ps)) fun Dn σ H h => tSD_seq h
theorem db_one (h1 : DS ca X I st f) : DB ca X I [st] f := fun W tk ps => pss_one (h1 W tk ps)
theorem ds_pass : DS ca X I (.Pass pos) sNil := fun W tk ps => PS.imp ps_pass fun Dn σ H h => by
  obtain ⟨G, ρ, F, o, c, e, z⟩ := h
  cases e
  exact z σ G H F .refl c (.refl fun _ h => h)
def sBrk : Sv := fun ρ => some (.brk ρ)
def sCnt : Sv := fun ρ => some (.cnt ρ)
theorem ds_break : DS ca X I (.Break pos) sBrk := fun W tk ps => PS.imp ps_break fun Dn σ H h => by
  obtain ⟨G, ρ, F, o, c, e, z⟩ := h
  cases e
  exact z σ G H F .refl c (.refl fun _ h => h)
theorem ds_continue : DS ca X I (.Continue pos) sCnt := fun W tk ps => PS.imp ps_continue fun Dn σ H h => by
  obtain ⟨G, ρ, F, o, c, e, z⟩ := h
  cases e
  exact z σ G H F .refl c (.refl fun _ h => h)
theorem ds_doc {x j pos pos'} : DS ca X I (.Expr (.Constant (.str x) j pos) pos') sNil := fun W tk ps => PS.imp ps_doc fun Dn σ H h => by
  obtain ⟨G, ρ, F, o, c, e, z⟩ := h
  cases e
  exact z σ G H F .refl c (.refl fun _ h => h)
/-- an expression by itself -/
def sExpr (f : Ev AV) : Sv := evS f fun _ ρ => some (.nx ρ)
theorem ds_expr (he : DE ca X e fe) (hs : swapsWith e none pos.line X.env = pure false := by rfl) : DS ca X I (.Expr e pos) (sExpr fe) := fun W tk ps => PS.imp (ps_expr (he W tk) hs) fun Dn σ H h =>
  tSD_E h fun av ρ1 v G1 H1 F1 T o ek c1 r n z => by
    cases ek
    exact z σ G1 H1 F1 .refl c1 (.refl fun x h => .inl h)
/-- if -/
def sIf (c : Ev Bool) (f g : Sv) : Sv := evS c fun b => if b = true then f else g
theorem ds_if {c : Expr} {a b : List Stmt} {fc : Ev Bool} (hc : DT ca X c fc) (ha : DB ca X I a f) (hb : DB ca X I b g) : DS ca X I (.If c a b pos) (sIf fc f g) := fun W tk ps => PS.imp (ps_if (hc W tk) (ha W tk ps) (hb W tk ps)) fun Dn σ H h =>
  tSD_T h fun b ρ1 G1 H1 F1 o ek c1 z => by
    cases b with
    | true => rw [if_pos rfl] at ek ⊢; exact ⟨G1, ρ1, F1, o, c1, ek, z⟩
    | false => rw [if_neg Bool.false_ne_true] at ek ⊢; exact ⟨G1, ρ1, F1, o, c1, ek, z⟩
/-- return e, frozen -/
def sRet (f : Ev AV) : Sv := evS f fun a ρ => match cont ρ a with
  | some d => some (.ret (frz d) (frzS (plS [a]) ρ))
  | none => none
theorem ds_ret (he : DE ca X e fe) : DS ca X I (.Return (some e) pos) (sRet fe) := fun W tk ps => PS.imp (ps_ret (he W tk)) fun Dn σ H h =>
  tSD_E h fun av ρ1 v G1 H1 F1 T o ek c1 r n z => by
    cases hc : cont ρ1 av with
    | none => rw [hc] at ek; cases ek
    | some d =>
      rw [hc] at ek
      cases ek
      obtain ⟨c2, x2⟩ := freeze_cfg c1 n (plS [av])
      have hcs : conts ρ1 [av] = some [d] := by unfold conts conts; rw [hc]
      have rr := freeze_reps c1 n (plS [av]) (.cons r (fun _ h => h) (.nil (Wt := nof)) (fun _ h => h.elim) fun _ _ h => h) hcs fun i h => h
      cases rr with
      | cons r' t => exact z v σ _ H1 _ nof .refl c2 r' (fun _ h => h.elim) (x2.mono (fun _ h => h) fun x h => h.elim id False.elim)
def sRetN : Sv := fun ρ => some (.ret .non ρ)
theorem ds_retN : DS ca X I (.Return none pos) sRetN := fun W tk ps => PS.imp ps_retN fun Dn σ H h => by
  obtain ⟨G, ρ, F, o, c, e, z⟩ := h
  cases e
  exact z .non σ G H F nof .refl c .non (fun _ h => h.elim) (.refl fun x h => h.elim id False.elim)
/-- return e, a thing of one's own (not a parameter's) -/
def sRetO (I : List Nat) (f : Ev AV) : Sv := evS f fun a ρ => match a with
  | .val d => some (.ret d ρ)
  | .pl i [] => if i ∈ I then none else match slotOf ρ i with
    | some d => some (.ret d (ρ.set i none))
    | none => none
  | .pl _ _ => none
theorem ds_retO (he : DE ca X e fe) : DS ca X I (.Return (some e) pos) (sRetO I fe) := fun W tk ps => PS.imp (ps_ret (he W tk)) fun Dn σ H h =>
  tSD_E h fun av ρ1 v G1 H1 F1 T o ek c1 r n z => by
    cases av with
    | val d => cases ek; exact z v σ G1 H1 F1 T .refl c1 r n (.refl fun x h => h)
    | pl i p =>
      cases p with
      | cons s p => cases ek
      | nil =>
      dsimp only at ek
      split at ek
      · cases ek
      · split at ek
        · rename_i d hd
          cases ek
          obtain ⟨⟨v0, e1, hp⟩, rfl⟩ := r
          cases hp
          obtain ⟨v', e2, r'⟩ := c1.at hd
          rw [e1] at e2
          cases e2
          refine z v σ G1 H1 _ (F1 i) .refl (c1.drop i) r' (fun x hx ⟨j, hj⟩ => hj.2 (c1.dis j i x hj.1 hx)) (.refl fun x h => .inl ?_)
          rcases h with ⟨j, hj⟩ | h
          · exact ⟨j, hj.1⟩
          · exact ⟨i, h⟩
        · cases ek
end

/-! ### names bound -/
theorem Cfg.setName {B : Bd} {G H : Hp} {σ : L2.St} {ρ : DEnv} {F : Nat → FP} {v : V} {d : D} {T : FP} (c : Cfg B G H σ ρ F) (i : Nat) (r : Rep B G H v d T) (n : ∀ x, T x → ¬ un F x) (hi : i < ρ.length) :
    Cfg B G H (σ.set i (some v)) (ρ.set i (some d)) (fun j x => (j = i ∧ T x) ∨ (j ≠ i ∧ F j x)) := by
  refine ⟨c.sub, by simpa using c.len, fun j d' e => ?_, fun j h x hx => ?_, fun j k x a b => ?_⟩
  · by_cases hj : j = i
    · subst hj
      rw [List.getElem?_set_self hi] at e
      cases e
      have en : (fun x => (j = j ∧ T x) ∨ (j ≠ j ∧ F j x)) = T := by funext x; exact propext ⟨fun z => z.elim (·.2) fun z => absurd rfl z.1, fun z => .inl ⟨rfl, z⟩⟩
      exact ⟨v, List.getElem?_set_self (by rw [← c.len]; exact hi), by rw [en]; exact r⟩
    · rw [List.getElem?_set_ne (Ne.symm hj)] at e
      obtain ⟨v', e1, r'⟩ := c.slot j d' e
      have en : (fun x => (j = i ∧ T x) ∨ (j ≠ i ∧ F j x)) = F j := by funext x; exact propext ⟨fun z => z.elim (fun z => absurd z.1 hj) (·.2), fun z => .inr ⟨hj, z⟩⟩
      exact ⟨v', by rw [List.getElem?_set_ne (Ne.symm hj)]; exact e1, by rw [en]; exact r'⟩
  · rcases hx with ⟨rfl, hx⟩ | ⟨hj, hx⟩
    · exact h d (List.getElem?_set_self hi)
    · obtain ⟨d', v', e1, e2, r'⟩ := c.own hx
      exact h d' (by rw [List.getElem?_set_ne (Ne.symm hj)]; exact e1)
  · rcases a with ⟨rfl, a⟩ | ⟨ha, a⟩ <;> rcases b with ⟨rfl, b⟩ | ⟨hb, b⟩
    · rfl
    · exact (n x a ⟨k, b⟩).elim
    · exact (n x b ⟨j, a⟩).elim
    · exact c.dis j k x a b
/-- values with their own addresses, apart from one another -/
inductive RepTs (B : Bd) (G H : Hp) : FP → List V → List D → Prop
  | nil {Wt : FP} : RepTs B G H Wt [] []
  | cons {Wt Wu T : FP} {v : V} {d : D} {vs : List V} {ds : List D} (r : Rep B G H v d T) (hT : ∀ x, T x → Wt x) (t : RepTs B G H Wu vs ds) (hu : ∀ x, Wu x → Wt x) (dj : ∀ x, T x → ¬ Wu x) : RepTs B G H Wt (v :: vs) (d :: ds)
def takeL (ρ : DEnv) : List AV → Option (List D)
  | [] => some []
  | .val d :: as => (takeL ρ as).map (d :: ·)
  | .pl i p :: as => match cont ρ (.pl i p), takeL ρ as with
    | some d, some ds => some (frz d :: ds)
    | _, _ => none
theorem RepTs.mono {B : Bd} {G H : Hp} {Wt Wu : FP} {vs : List V} {ds : List D} (h : ∀ b, Wt b → Wu b) (r : RepTs B G H Wt vs ds) : RepTs B G H Wu vs ds := by
  cases r with
  | nil => exact .nil
  | cons r hT t hu dj => exact .cons r (fun x k => h x (hT x k)) t (fun x k => h x (hu x k)) dj
theorem take_reps {B : Bd} {σ : L2.St} {G H : Hp} {ρ : DEnv} {F : Nat → FP} (c : Cfg B G H σ ρ F) (S : List Nat) : ∀ {Wt : FP} {vs : List V} {avs : List AV} {ds : List D}, (∀ x, Wt x → ¬ un F x) → RepAs B G H σ Wt vs avs → takeL ρ avs = some ds → (∀ i ∈ plS avs, i ∈ S) →
    RepTs B (gfr G H (frU G H F nof S)) H Wt vs ds
  | _, _, _, _, _, .nil, e, _ => by cases e; exact .nil
  | Wt, v :: vs, a :: as, ds, n, .cons (T := T) r hT t hu dj, e, hS => by
    have dm : ∀ x, frU G H F nof S x → (∃ o, H x = some o) ∧ G x = none := fun x h => by
      rcases h with ⟨_, h⟩ | ⟨i, _, h⟩
      · exact h
      · exact c.dom ⟨i, h⟩
    have gg : ∀ b o, G b = some o → gfr G H (frU G H F nof S) b = some o := fun b o e => by
      by_cases h : frU G H F nof S b
      · rw [(dm b h).2] at e; cases e
      · rw [gfr_out h]; exact e
    cases a with
    | val d' =>
      unfold takeL at e
      obtain ⟨ds', e1, rfl⟩ := Option.map_eq_some_iff.mp e
      have r' : Rep B G H v d' T := r
      refine .cons (r'.keep gg fun b hb => ⟨rfl, ?_⟩) hT (take_reps c S (fun x h => n x (hu x h)) t e1 fun i hi => hS i hi) hu dj
      rw [gfr_out fun z => by
        rcases z with ⟨z, _⟩ | ⟨i, _, z⟩
        · exact z
        · exact n b (hT b hb) ⟨i, z⟩]
      exact (r'.dom b hb).2
    | pl i p =>
      unfold takeL at e
      cases h1 : cont ρ (.pl i p) with
      | none => rw [h1] at e; cases e
      | some d =>
        cases h2 : takeL ρ as with
        | none => rw [h1, h2] at e; cases e
        | some ds' =>
          rw [h1, h2] at e
          cases e
          obtain ⟨U, r', s⟩ := r.cont c h1
          have hT' := r.2
          subst hT'
          exact .cons (r'.frozen gg fun b hb => gfr_in (.inr ⟨i, hS i (by simp [plS]), (s b hb).elim False.elim id⟩)) (fun _ h => h.elim) (take_reps c S (fun x h => n x (hu x h)) t h2 fun j hj => hS j (by simp [plS, hj])) hu fun _ h => h.elim
/-- names bound one behind the other -/
def setN (I : List Nat) : List Nat → List D → DEnv → Option DEnv
  | [], [], ρ => some ρ
  | i :: is, d :: ds, ρ => if i ∈ I ∨ ¬ i < ρ.length then none else setN I is ds (ρ.set i (some d))
  | _, _, _ => none
def setV : List Nat → List V → L2.St → L2.St
  | i :: is, v :: vs, σ => setV is vs (σ.set i (some v))
  | _, _, σ => σ
theorem setN_cfg {B : Bd} {G H : Hp} {I : List Nat} : ∀ {is : List Nat} {ds : List D} {vs : List V} {σ : L2.St} {ρ ρ' : DEnv} {F : Nat → FP} {Wt : FP}, Cfg B G H σ ρ F → RepTs B G H Wt vs ds → (∀ x, Wt x → ¬ un F x) → setN I is ds ρ = some ρ' →
    ∃ F', Cfg B G H (setV is vs σ) ρ' F' ∧ Prot I σ (setV is vs σ) ∧ ∀ x, un F' x → un F x ∨ Wt x
  | [], _, _, σ, ρ, ρ', F, Wt, c, .nil, n, e => by cases e; exact ⟨F, c, .refl, fun _ h => .inl h⟩
  | [], _, _, σ, ρ, ρ', F, Wt, c, .cons _ _ _ _ _, n, e => by cases e
  | i :: is, _, _, σ, ρ, ρ', F, Wt, c, .nil, n, e => by cases e
  | i :: is, d :: ds, v :: vs, σ, ρ, ρ', F, Wt, c, .cons (T := T) (Wu := Wu) r hT t hu dj, n, e => by
    unfold setN at e
    split at e
    · cases e
    · rename_i hi
      have hi1 : i ∉ I := fun z => hi (.inl z)
      have hi2 : i < ρ.length := Classical.byContradiction fun z => hi (.inr z)
      have c2 := c.setName i r (fun x h => n x (hT x h)) hi2
      obtain ⟨F', c3, p3, w3⟩ := setN_cfg c2 t (fun x h ⟨j, hj⟩ => by
        rcases hj with ⟨_, hj⟩ | ⟨_, hj⟩
        · exact dj x hj h
        · exact n x (hu x h) ⟨j, hj⟩) e
      refine ⟨F', c3, ⟨?_, fun j hj => ?_⟩, fun x hx => ?_⟩
      · show (setV is vs (σ.set i (some v))).length = _
        rw [p3.len]; simp
      · show (setV is vs (σ.set i (some v)))[j]? = _
        rw [p3.at_ j hj, List.getElem?_set_ne (fun z => hi1 (by rw [z]; exact hj))]
      · rcases w3 x hx with ⟨j, hj⟩ | hx
        · rcases hj with ⟨_, hj⟩ | ⟨_, hj⟩
          · exact .inr (hT x hj)
          · exact .inl ⟨j, hj⟩
        · exact .inr (hu x hx)
/-- several names, several values -/
def sAsg (I : List Nat) (is : List Nat) (fs : Ev (List AV)) : Sv := evS fs fun avs ρ => match takeL ρ avs with
  | none => none
  | some ds => (setN I is ds (frzS (plS avs) ρ)).map .nx
theorem asg_end {B : Bd} {W : WX} {I : List Nat} {σ : L2.St} {Dn : Ends} {is : List Nat} {avs : List AV} {ρ1 : DEnv} {vs : List V} {G1 H1 : Hp} {F1 : Nat → FP} {Wt : FP} {o : SOut}
    (ek : (match takeL ρ1 avs with
      | none => none
      | some ds => (setN I is ds (frzS (plS avs) ρ1)).map SOut.nx) = some o) (c1 : Cfg B G1 H1 σ ρ1 F1) (r : RepAs B G1 H1 σ Wt vs avs) (n : ∀ x, Wt x → ¬ un F1 x) (z : endS B W I σ G1 H1 (fun x => un F1 x ∨ Wt x) Dn o) :
    Dn.nx (setV is vs σ) H1 := by
  cases ht : takeL ρ1 avs with
  | none => rw [ht] at ek; cases ek
  | some ds =>
    rw [ht] at ek
    obtain ⟨ρ', e1, rfl⟩ := Option.map_eq_some_iff.mp ek
    obtain ⟨c2, x2⟩ := freeze_cfg (Wt := nof) c1 (fun _ h => h.elim) (plS avs)
    have rr := take_reps c1 (plS avs) n r ht fun i h => h
    obtain ⟨F', c3, p3, w3⟩ := setN_cfg c2 rr (fun x h ⟨j, hj⟩ => n x h ⟨j, hj.1⟩) e1
    have xx : Ext G1 H1 (fun x => un F1 x ∨ Wt x) (gfr G1 H1 (frU G1 H1 F1 nof (plS avs))) H1 (un F') := by
      have x3 := x2.mono (Wa := fun x => un F1 x ∨ Wt x) (Wb := un fun j x => F1 j x ∧ j ∉ plS avs) (fun x h => h.elim .inl False.elim) fun _ h => h
      refine ⟨x3.gg, x3.hh, fun b hb => ?_, x3.gn⟩
      rcases w3 b hb with ⟨j, hj⟩ | h
      · exact .inl (.inl ⟨j, hj.1⟩)
      · exact .inl (.inr h)
    exact z _ _ H1 F' p3 c3 xx
section
variable {ca : Nat → Addr} {X : Cx} {I : List Nat} {st : Stmt} {fe : Ev AV}
/-- x = e -/
theorem ds_set {i : Nat} (h : ∀ (te : TE) (W : WX), (te = tD ⟨X.K, ca⟩ W fe) → Takes X W → PS X st (tAsg te (gName i))) : DS ca X I st (sAsg I [i] (evCons fe evNil)) := fun W tk ps => PS.imp (h _ W rfl tk) fun Dn σ H q => by
  have q2 : tDL ⟨X.K, ca⟩ W (evCons fe evNil) σ H fun vs H1 => Dn.nx (setV [i] vs σ) H1 := tSD_L q fun avs ρ1 vs G1 H1 F1 Wt o ek c1 r n z => asg_end ek c1 r n z
  exact tD_map (tDL_cons q2) fun v H1 k => tDL_nil k
theorem ds_par {i j : Nat} {fs : Ev (List AV)} (h : ∀ (ta : TA) (W : WX), (ta = tDL ⟨X.K, ca⟩ W fs) → Takes X W → PS X st (tPar i j ta)) (h2 : ∀ ρ avs ρ', fs ρ = some (.ok avs ρ') → avs.length = 2) : DS ca X I st (sAsg I [i, j] fs) := fun W tk ps => PS.imp (h _ W rfl tk) fun Dn σ H q => by
  obtain ⟨G, ρ, F, o, c, e, z⟩ := q
  unfold sAsg evS at e
  cases hf : fs ρ with
  | none => rw [hf] at e; cases e
  | some u =>
    rw [hf] at e
    cases u with
    | exc er ρ' => cases e; exact ⟨G, ρ, F, _, c, hf, exc_out z⟩
    | ok avs ρ1 =>
      refine ⟨G, ρ, F, _, c, hf, fun vs G1 H1 F1 Wt c1 r n x => ?_⟩
      have hl := h2 ρ avs ρ1 hf
      have hv : ∃ v w, vs = [v, w] := by
        cases r with
        | nil => cases hl
        | cons r hT t hu dj => cases t with
          | nil => cases hl
          | cons r2 hT2 t2 hu2 dj2 => cases t2 with
            | nil => exact ⟨_, _, rfl⟩
            | cons => cases hl
      obtain ⟨v, w, rfl⟩ := hv
      exact ⟨v, w, rfl, asg_end e c1 r n (endS_trans z .refl x)⟩
theorem lockA_ok {α : Type} {a : AV} {g : Ev α} {ρ ρ' : DEnv} {x : α} (h : lockA a g ρ = some (.ok x ρ')) : ∃ ρ1 ρ2, g ρ1 = some (.ok x ρ2) := by
  have lk : ∀ {i p}, lockE i p g ρ = some (.ok x ρ') → ∃ ρ1 ρ2, g ρ1 = some (.ok x ρ2) := fun {i p} h => by
    cases hc : cont ρ (.pl i p) with
    | none => rw [lockE_no hc] at h; cases h
    | some dd =>
      cases hs : slotOf ρ i with
      | none => rw [cont_pl, hs] at hc; cases hc
      | some d0 =>
        cases hg : g (ρ.set i none) with
        | none => rw [lockE_none hg] at h; cases h
        | some u =>
          cases u with
          | exc e ρ2 => rw [lockE_exc hc hs hg] at h; cases h
          | ok y ρ2 => rw [lockE_ok hc hs hg] at h; cases h; exact ⟨_, _, hg⟩
  cases a with
  | val d => exact ⟨ρ, ρ', h⟩
  | pl i p => cases p with
    | nil => exact ⟨ρ, ρ', h⟩
    | cons s p => exact lk h
theorem evCons_len {fa : Ev AV} {g : Ev (List AV)} {ρ ρ' : DEnv} {avs : List AV} (h : evCons fa g ρ = some (.ok avs ρ')) : ∃ a as ρ1 ρ2, avs = a :: as ∧ g ρ1 = some (.ok as ρ2) := by
  unfold evCons at h
  cases h1 : fa ρ with
  | none => rw [andThen_none h1] at h; cases h
  | some o =>
    cases o with
    | exc e ρ1 => rw [andThen_exc h1] at h; cases h
    | ok a ρ1 =>
      rw [andThen_ok h1] at h
      cases h2 : lockA a g ρ1 with
      | none => rw [andThen_none h2] at h; cases h
      | some o2 =>
        cases o2 with
        | exc e ρ2 => rw [andThen_exc h2] at h; cases h
        | ok as ρ2 =>
          rw [andThen_ok h2] at h
          cases h
          obtain ⟨ρ3, ρ4, h3⟩ := lockA_ok h2
          exact ⟨a, as, ρ3, ρ4, rfl, h3⟩
theorem evCons2_len {fa fb : Ev AV} {ρ ρ' : DEnv} {avs : List AV} (h : evCons fa (evCons fb evNil) ρ = some (.ok avs ρ')) : avs.length = 2 := by
  obtain ⟨a, as, ρ1, ρ2, rfl, h1⟩ := evCons_len h
  obtain ⟨b, bs, ρ3, ρ4, rfl, h2⟩ := evCons_len h1
  cases h2
  rfl
end
end DL

namespace DL
open PySem PySem.Spec PyProof.Rows L2

/-! ### an item, also one that is own -/
theorem PathH.snoc {H : Hp} : ∀ {p : List PSt} {v0 v u : V} {s : PSt}, PathH H v0 p v → PathH H v [s] u → PathH H v0 (p ++ [s]) u
  | [], v0, v, u, s, h, k => by cases h; exact k
  | .ix j :: p, v0, v, u, s, h, k => by
    obtain ⟨a, vs, x, e, ha, hu, h⟩ := h
    exact ⟨a, vs, x, e, ha, hu, PathH.snoc h k⟩
  | .fl f :: p, v0, v, u, s, h, k => by
    obtain ⟨a, C, dx, fs, n, x, e, ha, hk, hu, h⟩ := h
    exact ⟨a, C, dx, fs, n, x, e, ha, hk, hu, PathH.snoc h k⟩
def ixK : List AV → Ev AV
  | [a, b] => fun ρ => match cont ρ a, cont ρ b with
    | some x, some y => match gIx [x, y] with
      | some d => some (.ok (.val d) ρ)
      | none => match a, x, y with
        | .pl i p, .ol ds, .int k => match ixN ds.length k with
          | some j => if j < ds.length then some (.ok (.pl i (p ++ [.ix j])) ρ) else none
          | none => none
        | _, _, _ => none
    | _, _ => none
  | _ => fun _ => none
def evIx (fa fb : Ev AV) : Ev AV := (evCons fa (evCons fb evNil)).andThen ixK
theorem RepAs.two {B : Bd} {G H : Hp} {σ : L2.St} {Wt : FP} {vs : List V} {a b : AV} (r : RepAs B G H σ Wt vs [a, b]) : ∃ x y T U, vs = [x, y] ∧ RepA B G H σ x a T ∧ RepA B G H σ y b U := by
  cases r with
  | cons r hT t hu dj => cases t with
    | cons r2 hT2 t2 hu2 dj2 => cases t2 with
      | nil => exact ⟨_, _, _, _, rfl, r, r2⟩
theorem RepAs.two' {B : Bd} {G H : Hp} {σ : L2.St} {Wt : FP} {x y : V} {avs : List AV} (r : RepAs B G H σ Wt [x, y] avs) : ∃ a b T U, avs = [a, b] ∧ RepA B G H σ x a T ∧ RepA B G H σ y b U := by
  cases r with
  | cons r hT t hu dj => cases t with
    | cons r2 hT2 t2 hu2 dj2 => cases t2 with
      | nil => exact ⟨_, _, _, _, rfl, r, r2⟩
section
variable {ca : Nat → Addr} {X : Cx} {a b : Expr} {fa fb : Ev AV} {pos : Pos}
theorem de_ix2 (ha : DE ca X a fa) (hb : DE ca X b fb) (hs : PlainIx b) : DE ca X (.Subscript a b pos) (evIx fa fb) :=
  fun W tk => PE.imp (pe_ix ix_seq (ha W tk) (hb W tk) hs) fun σ H Q h => by
    obtain ⟨G, ρ, F, o, c, e, z⟩ := h
    have q2 : tDL ⟨X.K, ca⟩ W (evCons fa (evCons fb evNil)) σ H fun vs H1 => ∀ x y, vs = [x, y] → rIx X.K x y H1 Q := by
      refine tDL_bind c e (fun er ρ' eo => by subst eo; exact z) fun avs ρ1 vs G1 H1 F1 Wt ek c1 r1 n1 x1 x y hv => ?_
      subst hv
      have x1' : Ext G H (un F) G1 H1 (un F1) := x1.mono (fun _ h => h) fun _ h => .inl h
      obtain ⟨a1, b1, T, U, rfl, rx, ry⟩ := r1.two'
      clear r1
      unfold ixK at ek
      dsimp only at ek
      cases ha1 : cont ρ1 a1 with
      | none => rw [ha1] at ek; cases ek
      | some dx =>
        cases hb1 : cont ρ1 b1 with
        | none => rw [ha1, hb1] at ek; cases ek
        | some dy =>
          rw [ha1, hb1] at ek
          dsimp only at ek
          obtain ⟨U1, r1, s1⟩ := rx.cont c1 ha1
          obtain ⟨U2, r2, s2⟩ := ry.cont c1 hb1
          cases hg : gIx [dx, dy] with
          | some d =>
            rw [hg] at ek
            cases ek
            have fin : ∀ {v}, Rep ⟨X.K, ca⟩ G1 H1 v d nof → Q v H1 := fun {v} r => z v G1 H1 F1 nof c1 r (fun _ h => h.elim) (x1'.mono (fun _ h => h) fun x h => h.elim id False.elim)
            unfold gIx at hg
            split at hg
            · rename_i zz i heq
              cases heq; cases r1; cases r2
              split at hg
              · rename_i hz
                obtain ⟨ch, e1, rfl⟩ := Option.map_eq_some_iff.mp hg
                exact .inr (.inr ⟨zz, i, ch, rfl, rfl, by rw [sizeLine_eq]; exact hz, e1, fin (.str _)⟩)
              · cases hg
            · rename_i x' i _ heq
              cases heq; cases r2
              split at hg
              · rename_i ds h1
                split at hg
                · rename_i d' h2
                  split at hg
                  · rename_i hs
                    cases hg
                    obtain ⟨a1, vs1, rfl, hq, l1, cc⟩ := r1.seq c1.sub h1
                    obtain ⟨w, j, e1, e2, e3⟩ := atI_pair l1 h2
                    obtain ⟨U, r⟩ := cc j w d e2 e3
                    have fin := fin (rep_sh r hs)
                    rcases hq with hq | hq
                    · exact .inl ⟨a1, vs1, i, w, rfl, rfl, hq, e1, fin⟩
                    · exact .inr (.inl ⟨a1, vs1, i, w, rfl, rfl, hq, e1, fin⟩)
                  · cases hg
                · cases hg
              · cases hg
            · cases hg
          | none =>
            rw [hg] at ek
            dsimp only at ek
            split at ek
            · rename_i i p ds k
              split at ek
              · rename_i j hj
                split at ek
                · rename_i hl
                  cases ek
                  cases r2
                  obtain ⟨⟨v0, e0, hp⟩, rfl⟩ := rx
                  cases r1 with
                  | ol h' g' l' c' bd dj na =>
                    rename_i aa vs1 FF
                    have hl1 : j < vs1.length := by rw [l']; exact hl
                    refine .inl ⟨aa, vs1, k, vs1[j], rfl, rfl, .of h', ?_, ?_⟩
                    · unfold atI
                      rw [l', hj]
                      exact List.getElem?_eq_getElem hl1
                    · refine z _ G1 H1 F1 nof c1 ⟨⟨v0, e0, hp.snoc ⟨aa, vs1, vs1[j], rfl, h', List.getElem?_eq_getElem hl1, rfl⟩⟩, rfl⟩ (fun _ h => h.elim) (x1'.mono (fun _ h => h) fun x h => h.elim id False.elim)
                · cases ek
              · cases ek
            · cases ek
    exact tD_map (tDL_cons q2) fun x H1 k => tD_map (tDL_cons k) fun y H2 k => tDL_nil k x y rfl
end

/-! ### a check of what a value is -/
def evChk (chk : D → Bool) (f : Ev AV) : Ev AV := f.andThen fun a ρ => match cont ρ a with
  | some d => if chk d = true then some (.ok a ρ) else none
  | none => none
theorem tD_chk {B : Bd} {W : WX} {σ : L2.St} {H : Hp} {chk : D → Bool} {f : Ev AV} {P : V → Hp → Prop} {Q : VK} (hP : ∀ G H v d U, (∀ b o, G b = some o → H b = some o) → Rep B G H v d U → chk d = true → P v H)
    (h : tD B W (evChk chk f) σ H Q) : tD B W f σ H fun v H1 => P v H1 ∧ Q v H1 := by
  obtain ⟨G, ρ, F, o, c, e, z⟩ := h
  refine tD_bind c e (fun er ρ' eo => by subst eo; exact z) fun av ρ1 v G1 H1 F1 T ek c1 r1 n1 x1 => ?_
  cases hc : cont ρ1 av with
  | none => rw [hc] at ek; cases ek
  | some d =>
    rw [hc] at ek
    dsimp only at ek
    split at ek
    · rename_i hk
      cases ek
      obtain ⟨U, r, _⟩ := r1.cont c1 hc
      exact ⟨hP _ _ _ _ _ c1.sub r hk, z v G1 H1 F1 T c1 r1 n1 x1⟩
    · cases ek
def isLst : D → Bool
  | .lst _ => true | .ol _ => true | .frl _ => true
  | _ => false
def isDct : D → Bool
  | .dct _ => true | .od _ => true
  | _ => false
def isStr : D → Bool
  | .str _ => true
  | _ => false
def tyOk (T : String) (chk : D → Bool) : Prop := ∀ (B : Bd) G H v d U, (∀ b o, G b = some o → H b = some o) → Rep B G H v d U → chk d = true → tyV B.K T v H
theorem ty_lst : tyOk "list" isLst := fun B G H v d U s r h => by
  cases r with
  | lst h' l c => exact .inl ⟨rfl, _, .of (s _ _ h')⟩
  | frl h' l c => exact .inl ⟨rfl, _, sqL_mono h' s⟩
  | ol h' g l c bd dj na => exact .inl ⟨rfl, _, .of h'⟩
  | _ => cases h
theorem ty_dct : tyOk "dict" isDct := fun B G H v d U s r h => by
  cases r with
  | dct h' l c => exact .inr (.inr (.inl ⟨rfl, .inl ⟨_, s _ _ h'⟩⟩))
  | od h' g l c bd dj na => exact .inr (.inr (.inl ⟨rfl, .inl ⟨_, h'⟩⟩))
  | _ => cases h
theorem ty_str : tyOk "str" isStr := fun B G H v d U s r h => by
  cases r with
  | str x => rfl
  | _ => cases h

/-! ### methods that change nothing -/
def MethD (ca : Nat → Addr) (X : Cx) (id : String) (g : List D → Option D) : Prop := MtR X id fun x xs H Q => rDL ⟨X.K, ca⟩ g (x :: xs) H Q
section
variable {ca : Nat → Addr} {X : Cx} {o e : Expr} {es : List Expr} {fo : Ev AV} {fs : Ev (List AV)} {name : Str} {apos cpos : Pos} {T id : String} {g : List D → Option D} {chk : D → Bool}
theorem de_bm (hk : tyOk T chk) (pa : PlainAttrs T) (slot : Slot T name id) (hty : typeOf (.builtin id) = pure (.type "method_descriptor")) (hm : MethD ca X id g) (ho : DE ca X o fo) (ha : DA ca X (e :: es) fs)
    (hbase : attributeBase o name X.env (eval o X.env) = eval o X.env := by rfl)
    (hfew : ((backTo cpos (starEach (e :: es) X.env)).all (fun x => !x.1) && (backToKw cpos (keywordEach [] X.env)).all (fun x => x.1.isSome)
      && decide ((e :: es).length + ([] : List Keyword).length + (if ([] : List Keyword).isEmpty then 0 else 1) < 30)) = true := by rfl)
    (hline : (apos.endLine == cpos.line) = true := by rfl) (hs : starEach (e :: es) X.env = (false, eval e X.env) :: starEach es X.env := by rfl) (hplain : (backTo cpos (starEach es X.env)).any (·.1) = false := by rfl) :
    DE ca X (.Call (.Attribute o name apos) (e :: es) [] cpos) (evOp g (evCons (evChk chk fo) fs)) := fun W tk =>
  PE.imp (pe_bm pa slot hty hm (ho W tk) (ha W tk) hbase hfew hline hs hplain) fun σ H Q h => tD_chk (hk ⟨X.K, ca⟩) (tDL_cons (tD_op h))
theorem de_bm0 (hk : tyOk T chk) (pa : PlainAttrs T) (slot : Slot T name id) (hty : typeOf (.builtin id) = pure (.type "method_descriptor")) (hm : MethD ca X id g) (ho : DE ca X o fo)
    (hbase : attributeBase o name X.env (eval o X.env) = eval o X.env := by rfl) (hline : (apos.endLine == cpos.line) = true := by rfl) :
    DE ca X (.Call (.Attribute o name apos) [] [] cpos) (evOp g (evCons (evChk chk fo) evNil)) := fun W tk =>
  PE.imp (pe_bm0 pa slot hty hm (ho W tk) hbase hline) fun σ H Q h => tD_chk (hk ⟨X.K, ca⟩) (tD_map (tDL_cons (tD_op h)) fun x H1 k => tDL_nil k)
end

/-! ### methods that change their own -/
/-- the part at a path is changed -/
theorem PathH.put {B : Bd} {G H : Hp} : ∀ {p : List PSt} {v0 v : V} {d0 d : D} {T : FP}, Rep B G H v0 d0 T → getP d0 p = some d → PathH H v0 p v →
    ∃ U, Rep B G H v d U ∧ (∀ x, U x → T x) ∧ ∀ G' H' U' e, Ext G H U G' H' U' → Rep B G' H' v e U' → ∃ e0, putP d0 p e = some e0 ∧ Rep B G' H' v0 e0 (fun y => (T y ∧ ¬ U y) ∨ U' y)
  | [], v0, v, d0, d, T, r, e, h => by
    cases h; cases e
    refine ⟨T, r, fun _ h => h, fun G' H' U' e x r' => ⟨e, rfl, ?_⟩⟩
    have en : (fun y => (T y ∧ ¬ T y) ∨ U' y) = U' := by funext y; exact propext ⟨fun z => z.elim (fun z => absurd z.1 z.2) id, .inr⟩
    rw [en]; exact r'
  | .ix j :: p, v0, v, d0, d, T, r, e, h => by
    obtain ⟨a, vs, u, rfl, ha, hu, h⟩ := h
    have rr := r
    cases r with
    | ol h' g l c bd dj na =>
      rename_i ds FF
      rw [h'] at ha; cases ha
      unfold getP at e
      split at e
      · rename_i d1 e2
        obtain ⟨U, r1, s1, k⟩ := PathH.put (c j u d1 hu e2) e h
        refine ⟨U, r1, fun x hx => .inr ⟨j, s1 x hx⟩, fun G' H' U' q x r' => ?_⟩
        obtain ⟨e0, p0, r0⟩ := k G' H' U' q x r'
        have hj : j < ds.length := (List.getElem?_eq_some_iff.mp e2).1
        have nU : ∀ {y}, U y → ∀ {o}, H y = some o → FF j y := fun hy _ _ => s1 _ hy
        have na' : ¬ U a := fun z => na j (s1 a z)
        have hn : ∀ y, U' y → U y ∨ H y = none := x.ww
        have ia : ∀ {y}, U' y → y ≠ a := fun {y} hy z => by
          subst z
          rcases hn _ hy with w | w
          · exact na' w
          · rw [h'] at w; cases w
        refine ⟨.ol (ds.set j e0), by unfold putP; rw [e2]; dsimp only; rw [p0]; rfl, ?_⟩
        have re := Rep.ol (B := B) (G := G') (H := H') (a := a) (vs := vs) (ds := ds.set j e0) (F := fun i y => (i = j ∧ ((FF j y ∧ ¬ U y) ∨ U' y)) ∨ (i ≠ j ∧ FF i y)) (x.hh a _ h' na') ?_ (by simpa using l) (fun i v' d' q1 q2 => ?_) (fun i y hy => ?_) (fun i i' y a1 a2 => ?_) (fun i hy => ?_)
        · have en : (fun y => y = a ∨ ∃ i, (i = j ∧ ((FF j y ∧ ¬ U y) ∨ U' y)) ∨ (i ≠ j ∧ FF i y)) = fun y => ((y = a ∨ ∃ i, FF i y) ∧ ¬ U y) ∨ U' y := by
            funext y
            refine propext ⟨fun z => ?_, fun z => ?_⟩
            · rcases z with rfl | ⟨i, ⟨rfl, ⟨z1, z2⟩ | z⟩ | ⟨z1, z2⟩⟩
              · exact .inl ⟨.inl rfl, na'⟩
              · exact .inl ⟨.inr ⟨i, z1⟩, z2⟩
              · exact .inr z
              · exact .inl ⟨.inr ⟨i, z2⟩, fun w => z1 (dj i j y z2 (s1 y w))⟩
            · rcases z with ⟨rfl | ⟨i, z1⟩, z2⟩ | z
              · exact .inl rfl
              · by_cases hi : i = j
                · subst hi; exact .inr ⟨i, .inl ⟨rfl, .inl ⟨z1, z2⟩⟩⟩
                · exact .inr ⟨i, .inr ⟨hi, z1⟩⟩
              · exact .inr ⟨j, .inl ⟨rfl, .inr z⟩⟩
          rw [en] at re
          exact re
        · cases w : G' a with
          | none => rfl
          | some o =>
            rcases x.gn a o w with w | w | w
            · rw [g] at w; cases w
            · exact (na' w).elim
            · rw [h'] at w; cases w
        · by_cases hi : i = j
          · subst hi
            rw [List.getElem?_set_self hj] at q2
            cases q2
            rw [hu] at q1; cases q1
            have en : (fun y => (i = i ∧ ((FF i y ∧ ¬ U y) ∨ U' y)) ∨ (i ≠ i ∧ FF i y)) = fun y => (FF i y ∧ ¬ U y) ∨ U' y := by funext y; exact propext ⟨fun z => z.elim (·.2) fun z => absurd rfl z.1, fun z => .inl ⟨rfl, z⟩⟩
            rw [en]; exact r0
          · rw [List.getElem?_set_ne (Ne.symm hi)] at q2
            have en : (fun y => (i = j ∧ ((FF j y ∧ ¬ U y) ∨ U' y)) ∨ (i ≠ j ∧ FF i y)) = FF i := by funext y; exact propext ⟨fun z => z.elim (fun z => absurd z.1 hi) (·.2), fun z => .inr ⟨hi, z⟩⟩
            rw [en]
            exact ((c i v' d' q1 q2).frame x fun b hb w => hi (dj i j b hb (s1 b w))).1
        · rw [List.length_set]
          rcases hy with ⟨rfl, _⟩ | ⟨_, hy⟩
          · exact hj
          · exact bd i y hy
        · have un : ∀ {i'}, i' ≠ j → FF i' y → ((FF j y ∧ ¬ U y) ∨ U' y) → False := fun {i'} h1 h2 h3 => by
            rcases h3 with h3 | h3
            · exact h1 (dj i' j y h2 h3.1)
            · rcases hn y h3 with w | w
              · exact h1 (dj i' j y h2 (s1 y w))
              · obtain ⟨⟨o, eo⟩, _⟩ := rr.dom y (.inr ⟨i', h2⟩)
                rw [eo] at w; cases w
          rcases a1 with ⟨rfl, a1⟩ | ⟨h1, a1⟩ <;> rcases a2 with ⟨rfl, a2⟩ | ⟨h2, a2⟩
          · rfl
          · exact (un h2 a2 a1).elim
          · exact (un h1 a1 a2).elim
          · exact dj i i' y a1 a2
        · rcases hy with ⟨rfl, hy | hy⟩ | ⟨_, hy⟩
          · exact na _ hy.1
          · exact ia hy rfl
          · exact na i hy
      · cases e
    | _ => simp [getP] at e
  | .fl f :: p, v0, v, d0, d, T, r, e, h => by
    obtain ⟨a, C, dx, fs, n, u, rfl, ha, hk, hu, h⟩ := h
    have rr := r
    cases r with
    | oi h' ho g g2 l c bd dj na na2 =>
      rename_i cc fs0 ds FF
      rw [h'] at ha; cases ha
      unfold getP at e
      have hk' := hk
      rw [kIdx_keys f l] at hk'
      rw [hk'] at e
      dsimp only at e
      split at e
      · rename_i f' d1 e2
        obtain ⟨U, r1, s1, k⟩ := PathH.put (c n f u f' d1 hu e2) e h
        have hff : f' = f := by
          obtain ⟨x1, y1, _⟩ := kIdx_get hk'
          rw [e2] at y1
          cases y1; rfl
        subst hff
        refine ⟨U, r1, fun x hx => .inr (.inr ⟨n, s1 x hx⟩), fun G' H' U' q x r' => ?_⟩
        obtain ⟨e0, p0, r0⟩ := k G' H' U' q x r'
        have hj : n < ds.length := (List.getElem?_eq_some_iff.mp e2).1
        have na' : ¬ U a := fun z => na n (s1 a z)
        have na2' : ¬ U dx := fun z => na2 n (s1 dx z)
        have hn : ∀ y, U' y → U y ∨ H y = none := x.ww
        have ia : ∀ {y}, U' y → y ≠ a := fun {y} hy z => by
          subst z
          rcases hn _ hy with w | w
          · exact na' w
          · rw [h'] at w; cases w
        have ia2 : ∀ {y}, U' y → y ≠ dx := fun {y} hy z => by
          subst z
          rcases hn _ hy with w | w
          · exact na2' w
          · rw [ho] at w; cases w
        have gno : ∀ {b o}, H b = some o → G b = none → ¬ U b → G' b = none := fun {b o} hb gb ub => by
          cases w : G' b with
          | none => rfl
          | some o' =>
            rcases x.gn b o' w with w | w | w
            · rw [gb] at w; cases w
            · exact (ub w).elim
            · rw [hb] at w; cases w
        refine ⟨.oi cc (ds.set n (f', e0)), by unfold putP; rw [hk']; dsimp only; rw [e2]; dsimp only; rw [p0]; rfl, ?_⟩
        have re := Rep.oi (B := B) (G := G') (H := H') (a := a) (dx := dx) (c := cc) (fs := fs) (ds := ds.set n (f', e0)) (F := fun i y => (i = n ∧ ((FF n y ∧ ¬ U y) ∨ U' y)) ∨ (i ≠ n ∧ FF i y)) (x.hh a _ h' na') (x.hh dx _ ho na2') (gno h' g na') (gno ho g2 na2') ?_ (fun i q1 v' q2 d' w1 w2 => ?_) (fun i y hy => ?_) (fun i i' y a1 a2 => ?_) (fun i hy => ?_) (fun i hy => ?_)
        · have en : (fun y => y = a ∨ y = dx ∨ ∃ i, (i = n ∧ ((FF n y ∧ ¬ U y) ∨ U' y)) ∨ (i ≠ n ∧ FF i y)) = fun y => ((y = a ∨ y = dx ∨ ∃ i, FF i y) ∧ ¬ U y) ∨ U' y := by
            funext y
            refine propext ⟨fun z => ?_, fun z => ?_⟩
            · rcases z with rfl | rfl | ⟨i, ⟨rfl, ⟨z1, z2⟩ | z⟩ | ⟨z1, z2⟩⟩
              · exact .inl ⟨.inl rfl, na'⟩
              · exact .inl ⟨.inr (.inl rfl), na2'⟩
              · exact .inl ⟨.inr (.inr ⟨i, z1⟩), z2⟩
              · exact .inr z
              · exact .inl ⟨.inr (.inr ⟨i, z2⟩), fun w => z1 (dj i n y z2 (s1 y w))⟩
            · rcases z with ⟨rfl | rfl | ⟨i, z1⟩, z2⟩ | z
              · exact .inl rfl
              · exact .inr (.inl rfl)
              · by_cases hi : i = n
                · subst hi; exact .inr (.inr ⟨i, .inl ⟨rfl, .inl ⟨z1, z2⟩⟩⟩)
                · exact .inr (.inr ⟨i, .inr ⟨hi, z1⟩⟩)
              · exact .inr (.inr ⟨n, .inl ⟨rfl, .inr z⟩⟩)
          rw [en] at re
          exact re
        · rw [l]
          have e3 : (ds.map (·.1))[n]? = some f' := by rw [List.getElem?_map, e2]; rfl
          refine List.ext_getElem? fun m => ?_
          rw [List.getElem?_map, List.getElem?_map]
          by_cases hm : m = n
          · subst hm; rw [List.getElem?_set_self hj, e2]; rfl
          · rw [List.getElem?_set_ne (Ne.symm hm)]
        · by_cases hi : i = n
          · subst hi
            rw [List.getElem?_set_self hj] at w2
            cases w2
            rw [hu] at w1; cases w1
            have en : (fun y => (i = i ∧ ((FF i y ∧ ¬ U y) ∨ U' y)) ∨ (i ≠ i ∧ FF i y)) = fun y => (FF i y ∧ ¬ U y) ∨ U' y := by funext y; exact propext ⟨fun z => z.elim (·.2) fun z => absurd rfl z.1, fun z => .inl ⟨rfl, z⟩⟩
            rw [en]; exact r0
          · rw [List.getElem?_set_ne (Ne.symm hi)] at w2
            have en : (fun y => (i = n ∧ ((FF n y ∧ ¬ U y) ∨ U' y)) ∨ (i ≠ n ∧ FF i y)) = FF i := by funext y; exact propext ⟨fun z => z.elim (fun z => absurd z.1 hi) (·.2), fun z => .inr ⟨hi, z⟩⟩
            rw [en]
            exact ((c i q1 v' q2 d' w1 w2).frame x fun b hb w => hi (dj i n b hb (s1 b w))).1
        · rw [List.length_set]
          rcases hy with ⟨rfl, _⟩ | ⟨_, hy⟩
          · exact hj
          · exact bd i y hy
        · have un : ∀ {i'}, i' ≠ n → FF i' y → ((FF n y ∧ ¬ U y) ∨ U' y) → False := fun {i'} h1 h2 h3 => by
            rcases h3 with h3 | h3
            · exact h1 (dj i' n y h2 h3.1)
            · rcases hn y h3 with w | w
              · exact h1 (dj i' n y h2 (s1 y w))
              · obtain ⟨⟨o, eo⟩, _⟩ := rr.dom y (.inr (.inr ⟨i', h2⟩))
                rw [eo] at w; cases w
          rcases a1 with ⟨rfl, a1⟩ | ⟨h1, a1⟩ <;> rcases a2 with ⟨rfl, a2⟩ | ⟨h2, a2⟩
          · rfl
          · exact (un h2 a2 a1).elim
          · exact (un h1 a1 a2).elim
          · exact dj i i' y a1 a2
        · rcases hy with ⟨rfl, hy | hy⟩ | ⟨_, hy⟩
          · exact na _ hy.1
          · exact ia hy rfl
          · exact na i hy
        · rcases hy with ⟨rfl, hy | hy⟩ | ⟨_, hy⟩
          · exact na2 _ hy.1
          · exact ia2 hy rfl
          · exact na2 i hy
      · cases e
    | _ => simp [getP] at e
end DL

namespace DL
open PySem PySem.Spec PyProof.Rows L2

/-! ### what changes its own -/
def mutK (gm : D → List D → Option (D × D)) (ex : List D) : List AV → Ev AV
  | .pl i p :: as => fun ρ => match conts ρ as, slotOf (frzS (plS as) ρ) i with
    | some ds, some d0 => match getP d0 p with
      | some d => match gm d (ds.map frz ++ ex) with
        | some (d', r) => if r.sh = true then (putP d0 p d').map fun e => .ok (.val r) ((frzS (plS as) ρ).set i (some e)) else none
        | none => none
      | none => none
    | _, _ => none
  | _ => fun _ => none
def rMu (B : Bd) (gm : D → List D → Option (D × D)) : V → List V → Hp → VK → Prop := fun x xs H Q => ∃ G d U ds d' r, (∀ b o, G b = some o → H b = some o) ∧ Rep B G H x d U ∧ Paired (fun v d => Rep B G H v d nof) xs ds ∧ gm d ds = some (d', r) ∧
  ∀ v G' H' U', (∀ b o, G' b = some o → H' b = some o) → Rep B G' H' x d' U' → Rep B G' H' v r nof → Ext G H U G' H' U' → Q v H'
section
variable {B : Bd} {W : WX} {σ : L2.St}
theorem paired_append {α β : Type} {R : α → β → Prop} : ∀ {xs : List α} {ys : List β} {us : List α} {ws : List β}, Paired R xs ys → Paired R us ws → Paired R (xs ++ us) (ys ++ ws)
  | _, _, _, _, .nil, h => h
  | _, _, _, _, .cons r t, h => .cons r (paired_append t h)
theorem mut_end {gm : D → List D → Option (D × D)} {G1 H1 : Hp} {ρ : DEnv} {F : Nat → FP} {Wt : FP} {x : V} {xs : List V} {avs : List AV} {ex : List D} {xe : List V} {o : Out AV} {Q : VK} (c : Cfg B G1 H1 σ ρ F) (r : RepAs B G1 H1 σ Wt (x :: xs) avs) (n : ∀ y, Wt y → ¬ un F y)
    (hx : Paired (fun v d => Rep B G1 H1 v d nof) xe ex) (e : mutK gm ex avs ρ = some o) (z : endE B W σ G1 H1 (fun y => un F y ∨ Wt y) Q o) : rMu B gm x (xs ++ xe) H1 Q := by
  cases r with
  | cons rx hT t hu dj =>
    rename_i Wu T a as
    cases a with
    | val d => cases e
    | pl i p =>
      obtain ⟨⟨v0, e0, hp⟩, rfl⟩ := rx
      unfold mutK at e
      dsimp only at e
      cases h1 : conts ρ as with
      | none => rw [h1] at e; cases e
      | some ds =>
        cases h2 : slotOf (frzS (plS as) ρ) i with
        | none => rw [h1, h2] at e; cases e
        | some d0 =>
          rw [h1, h2] at e
          dsimp only at e
          cases h3 : getP d0 p with
          | none => rw [h3] at e; cases e
          | some d =>
            rw [h3] at e
            dsimp only at e
            cases h4 : gm d (ds.map frz ++ ex) with
            | none => rw [h4] at e; cases e
            | some q =>
              obtain ⟨d', y⟩ := q
              rw [h4] at e
              dsimp only at e
              split at e
              · rename_i hy
                obtain ⟨e1, h5, rfl⟩ := Option.map_eq_some_iff.mp e
                have n2 : ∀ y, Wu y → ¬ un F y := fun y h => n y (hu y h)
                obtain ⟨c2, x2⟩ := freeze_cfg c n2 (plS as)
                have rs := freeze_reps c n2 (plS as) t h1 fun i h => h
                obtain ⟨v0', e0', r0⟩ := c2.at h2
                rw [e0] at e0'
                cases e0'
                obtain ⟨U, rU, sU, k⟩ := hp.put r0 h3
                refine ⟨_, d, U, _, d', y, c2.sub, rU, paired_append rs (L2.Paired.mapP hx fun v d r => r.stay x2), h4, fun v G' H' U' s' r1 r2 x3 => ?_⟩
                obtain ⟨e2, k1, k2⟩ := k _ _ _ _ x3 r1
                rw [h5] at k1
                cases k1
                have cd := (c2.drop i).apart x3 s' fun b ⟨j, hj⟩ hb => hj.2 (c2.dis j i b hj.1 (sU b hb))
                have ap : ∀ y, (F i y ∧ i ∉ plS as) → ∀ j, (F j y ∧ j ∉ plS as) → j = i := fun y h j hj => c2.dis j i y hj h
                have cn := cd.put i e0 k2 fun y hy j hj => by
                  rcases hy with ⟨hy, _⟩ | hy
                  · exact ap y hy j hj.1
                  · rcases x3.ww y hy with w | w
                    · exact ap y (sU y w) j hj.1
                    · obtain ⟨⟨oo, eo⟩, _⟩ := c2.dom ⟨j, hj.1⟩
                      rw [eo] at w; cases w
                rw [List.set_set] at cn
                refine z v G' H' _ nof cn r2 (fun _ h => h.elim) ?_
                have x4 := (x2.mono (Wa := fun y => un F y ∨ Wt y) (Wb := un fun j y => F j y ∧ j ∉ plS as) (fun y h => h.imp id (hu y)) fun _ h => h).trans (x3.mono (Wa := un fun j y => F j y ∧ j ∉ plS as) (Wb := U') (fun y h => ⟨i, sU y h⟩) fun _ h => h)
                refine ⟨x4.gg, x4.hh, fun b hb => ?_, x4.gn⟩
                rcases hb with ⟨j, ⟨_, ⟨hb, _⟩ | hb⟩ | ⟨_, hb⟩⟩ | hb
                · exact .inl (.inl ⟨i, hb.1⟩)
                · exact x4.ww b hb
                · exact .inl (.inl ⟨j, hb.1.1⟩)
                · exact hb.elim
              · cases e
end
def evMut (gm : D → List D → Option (D × D)) (fs : Ev (List AV)) : Ev AV := fs.andThen (mutK gm [])
theorem tDL_map {B : Bd} {W : WX} {σ : L2.St} {H : Hp} {f : Ev (List AV)} {Q Q' : List V → Hp → Prop} (h : tDL B W f σ H Q) (k : ∀ v H', Q v H' → Q' v H') : tDL B W f σ H Q' := by
  obtain ⟨G, ρ, F, o, c, e, z⟩ := h
  refine ⟨G, ρ, F, o, c, e, ?_⟩
  cases o with
  | ok av ρ' => exact fun v G' H' F' T c r n x => k _ _ (z v G' H' F' T c r n x)
  | exc er ρ' => exact z
theorem tD_mut {B : Bd} {W : WX} {σ : L2.St} {H : Hp} {gm : D → List D → Option (D × D)} {f : Ev AV} {fs : Ev (List AV)} {Q : VK} (h : tD B W (evMut gm (evCons f fs)) σ H Q) : tD B W f σ H fun x H1 => tDL B W fs σ H1 fun xs H2 => rMu B gm x xs H2 Q := by
  obtain ⟨G, ρ, F, o, c, e, z⟩ := h
  have q : tDL B W (evCons f fs) σ H fun vs H1 => ∀ x xs, vs = x :: xs → rMu B gm x xs H1 Q := by
    refine tDL_bind c e (fun er ρ' eo => by subst eo; exact z) fun avs ρ1 vs G1 H1 F1 Wt ek c1 r1 n1 x1 x xs hv => ?_
    subst hv
    have := mut_end (xe := []) c1 r1 n1 .nil ek (endE_trans z x1)
    rw [List.append_nil] at this
    exact this
  exact tD_map (tDL_cons q) fun x H1 k => tDL_map k fun xs H2 k => k x xs rfl
def MutD (ca : Nat → Addr) (X : Cx) (id : String) (gm : D → List D → Option (D × D)) : Prop := MtR X id fun x xs H Q => rMu ⟨X.K, ca⟩ gm x xs H Q
section
variable {ca : Nat → Addr} {X : Cx} {o e : Expr} {es : List Expr} {fo : Ev AV} {fs : Ev (List AV)} {name : Str} {apos cpos : Pos} {T id : String} {gm : D → List D → Option (D × D)} {chk : D → Bool}
theorem de_mu (hk : tyOk T chk) (pa : PlainAttrs T) (slot : Slot T name id) (hty : typeOf (.builtin id) = pure (.type "method_descriptor")) (hm : MutD ca X id gm) (ho : DE ca X o fo) (ha : DA ca X (e :: es) fs)
    (hbase : attributeBase o name X.env (eval o X.env) = eval o X.env := by rfl)
    (hfew : ((backTo cpos (starEach (e :: es) X.env)).all (fun x => !x.1) && (backToKw cpos (keywordEach [] X.env)).all (fun x => x.1.isSome)
      && decide ((e :: es).length + ([] : List Keyword).length + (if ([] : List Keyword).isEmpty then 0 else 1) < 30)) = true := by rfl)
    (hline : (apos.endLine == cpos.line) = true := by rfl) (hs : starEach (e :: es) X.env = (false, eval e X.env) :: starEach es X.env := by rfl) (hplain : (backTo cpos (starEach es X.env)).any (·.1) = false := by rfl) :
    DE ca X (.Call (.Attribute o name apos) (e :: es) [] cpos) (evMut gm (evCons (evChk chk fo) fs)) := fun W tk =>
  PE.imp (pe_bm pa slot hty hm (ho W tk) (ha W tk) hbase hfew hline hs hplain) fun σ H Q h => tD_chk (hk ⟨X.K, ca⟩) (tD_mut h)
theorem de_mu0 (hk : tyOk T chk) (pa : PlainAttrs T) (slot : Slot T name id) (hty : typeOf (.builtin id) = pure (.type "method_descriptor")) (hm : MutD ca X id gm) (ho : DE ca X o fo)
    (hbase : attributeBase o name X.env (eval o X.env) = eval o X.env := by rfl) (hline : (apos.endLine == cpos.line) = true := by rfl) :
    DE ca X (.Call (.Attribute o name apos) [] [] cpos) (evMut gm (evCons (evChk chk fo) evNil)) := fun W tk =>
  PE.imp (pe_bm0 pa slot hty hm (ho W tk) hbase hline) fun σ H Q h => tD_chk (hk ⟨X.K, ca⟩) (tD_map (tD_mut h) fun x H1 k => tDL_nil k)
end

/-! ### an own list's items -/
/-- an own list's items change; m tells where each of the new ones stood -/
theorem ol_change {B : Bd} {G H : Hp} {a : Addr} {ds : List D} {U : FP} (r : Rep B G H (.ref a) (.ol ds) U) : ∃ vs, H a = some (.lst vs) ∧ vs.length = ds.length ∧ ∀ (vs' : List V) (ds' : List D) (m : Nat → Option Nat), vs'.length = ds'.length → (∀ i j k, m i = some k → m j = some k → i = j) →
    (∀ (i : Nat) v d, vs'[i]? = some v → ds'[i]? = some d → (∃ j, m i = some j ∧ vs[j]? = some v ∧ ds[j]? = some d) ∨ (m i = none ∧ Rep B G H v d nof)) → ∃ U', Rep B G (upd H a (.lst vs')) (.ref a) (.ol ds') U' ∧ Ext G H U G (upd H a (.lst vs')) U' := by
  have rr := r
  cases r with
  | ol h g l c bd dj na =>
    rename_i vs FF
    refine ⟨vs, h, l, fun vs' ds' m l' mi k => ?_⟩
    refine ⟨fun y => y = a ∨ ∃ i, ∃ j, m i = some j ∧ i < ds'.length ∧ FF j y, ?_, ⟨fun _ _ e => e, fun b o e nb => ?_, fun b hb => .inl ?_, fun _ _ e => .inl e⟩⟩
    · refine Rep.ol (F := fun i y => ∃ j, m i = some j ∧ i < ds'.length ∧ FF j y) upd_same g l' (fun i v d e1 e2 => ?_) (fun i x ⟨j, _, h, _⟩ => h) (fun i i' x ⟨j, e1, _, h1⟩ ⟨j', e2, _, h2⟩ => ?_) (fun i ⟨j, _, _, h⟩ => na j h)
      · have hi : i < ds'.length := (List.getElem?_eq_some_iff.mp e2).1
        rcases k i v d e1 e2 with ⟨j, k1, k2, k3⟩ | ⟨k1, k2⟩
        · have en : (fun y => ∃ j, m i = some j ∧ i < ds'.length ∧ FF j y) = FF j := by
            funext y
            exact propext ⟨fun ⟨j', a1, _, a2⟩ => by rw [k1] at a1; cases a1; exact a2, fun z => ⟨j, k1, hi, z⟩⟩
          rw [en]
          exact (c j v d k2 k3).keep (fun _ _ e => e) fun b hb => ⟨upd_ne fun z => na j (by rw [← z]; exact hb), (rr.dom b (.inr ⟨j, hb⟩)).2⟩
        · have en : (fun y => ∃ j, m i = some j ∧ i < ds'.length ∧ FF j y) = nof := by
            funext y
            exact propext ⟨fun ⟨j', a1, _⟩ => (by rw [k1] at a1; cases a1), fun z => z.elim⟩
          rw [en]
          exact k2.up
      · have := dj j j' x h1 h2
        subst this
        exact mi i i' j e1 e2
    · rw [upd_ne fun z => nb (.inl z)]
      exact e
    · rcases hb with rfl | ⟨i, j, _, _, hb⟩
      · exact .inl rfl
      · exact .inr ⟨j, hb⟩
def gmAppend : D → List D → Option (D × D)
  | .ol ds, [x] => if ds.length < 16777216 then some (.ol (ds ++ [x]), .non) else none
  | _, _ => none
def gmInsert : D → List D → Option (D × D)
  | .ol ds, [.int i, x] => if ds.length < 16777216 ∧ i = 0 then some (.ol (x :: ds), .non) else none
  | _, _ => none
def gmPop : D → List D → Option (D × D)
  | .ol ds, [] => match ds.getLast? with
    | some d => if d.sh = true then some (.ol ds.dropLast, d) else none
    | none => none
  | _, _ => none
def gmExtend : D → List D → Option (D × D)
  | .ol ds, [.lst xs] => if ds.length + xs.length ≤ 16777216 then some (.ol (ds ++ xs), .non) else none
  | _, _ => none
def gmSet : D → List D → Option (D × D)
  | .ol ds, [.int i, x] => match ixN ds.length i with
    | some j => some (.ol (ds.set j x), .non)
    | none => none
  | _, _ => none
theorem paired1 {R : V → D → Prop} {xs : List V} {d : D} (h : Paired R xs [d]) : ∃ x, xs = [x] ∧ R x d := by
  cases h with | cons r t => cases t; exact ⟨_, rfl, r⟩
theorem paired2 {R : V → D → Prop} {xs : List V} {d e : D} (h : Paired R xs [d, e]) : ∃ x y, xs = [x, y] ∧ R x d ∧ R y e := by
  cases h with | cons r t => cases t with | cons r2 t => cases t; exact ⟨_, _, rfl, r, r2⟩
theorem rep_ol_ref {B : Bd} {G H : Hp} {x : V} {ds : List D} {U : FP} (r : Rep B G H x (.ol ds) U) : ∃ a, x = .ref a := by cases r; exact ⟨_, rfl⟩
section
variable {ca : Nat → Addr} {X : Cx}
theorem mutD_append : MutD ca X "list.append" gmAppend := by
  intro pins s σ H x xs v us Q I rx rs h
  obtain ⟨G, d, U, ds, d', r, sub, rd, rr, e, q⟩ := h
  unfold gmAppend at e
  split at e
  · rename_i items y
    split at e
    · rename_i hz
      cases e
      obtain ⟨y', rfl, ry⟩ := paired1 rr
      obtain ⟨a, rfl⟩ := rep_ol_ref rd
      obtain ⟨vs, ha, l, ch⟩ := ol_change rd
      obtain ⟨U', r', x'⟩ := ch (vs ++ [y']) (items ++ [y]) (fun i => if i < items.length then some i else none) (by simp [l]) (fun i j k h1 h2 => by
        split at h1 <;> split at h2 <;> cases h1 <;> cases h2 <;> rfl) fun i v d e1 e2 => by
        rcases get_append e1 with ⟨hi, e1⟩ | ⟨hi, e1⟩
        · rw [List.getElem?_append_left (by omega)] at e2
          exact .inl ⟨i, if_pos (by omega), e1, e2⟩
        · rw [List.getElem?_append_right (by omega), ← l] at e2
          refine .inr ⟨if_neg (by omega), ?_⟩
          cases hk : i - vs.length with
          | zero => rw [hk] at e1 e2; cases e1; cases e2; exact ry
          | succ k => rw [hk] at e1; cases e1
      exact mt_append pins s σ H _ _ v us Q I rx rs ⟨a, vs, y', rfl, rfl, ha, by rw [sizeLine_eq, l]; exact hz, q _ _ _ _ (fun b o eb => by
        rw [upd_ne (fun z => by rw [z, (rd.dom a (by cases rd; exact .inl rfl)).2] at eb; cases eb)]; exact sub b o eb) r' .non x'⟩
    · cases e
  · cases e
theorem g_upd {B : Bd} {G H : Hp} {a : Addr} {ds : List D} {U : FP} {o : HO} (rd : Rep B G H (.ref a) (.ol ds) U) (sub : ∀ b o, G b = some o → H b = some o) : ∀ b u, G b = some u → upd H a o b = some u := fun b u eb => by
  have hd : U a := by cases rd; exact .inl rfl
  rw [upd_ne (fun z => by rw [z, (rd.dom a hd).2] at eb; cases eb)]
  exact sub b u eb
theorem mutD_insert : MutD ca X "list.insert" gmInsert := by
  intro pins s σ H x xs v us Q I rx rs h
  obtain ⟨G, d, U, ds, d', r, sub, rd, rr, e, q⟩ := h
  unfold gmInsert at e
  split at e
  · rename_i items i y
    split at e
    · rename_i hz
      obtain ⟨hz, rfl⟩ := hz
      cases e
      obtain ⟨i', y', rfl, ri, ry⟩ := paired2 rr
      cases ri
      obtain ⟨a, rfl⟩ := rep_ol_ref rd
      obtain ⟨vs, ha, l, ch⟩ := ol_change rd
      obtain ⟨U', r', x'⟩ := ch (y' :: vs) (y :: items) (fun i => match i with | 0 => none | i + 1 => some i) (by simp [l]) (fun i j k h1 h2 => by
        cases i <;> cases j <;> simp_all) fun i v d e1 e2 => by
        cases i with
        | zero => cases e1; cases e2; exact .inr ⟨rfl, ry⟩
        | succ i => exact .inl ⟨i, rfl, by simpa using e1, by simpa using e2⟩
      refine mt_insert pins s σ H _ _ v us Q I rx rs ⟨a, vs, 0, y', rfl, rfl, ha, by rw [sizeLine_eq, l]; exact hz, by decide, by decide, ?_⟩
      have := q .non _ _ _ (g_upd rd sub) r' .non x'
      simpa using this
    · cases e
  · cases e
theorem mutD_pop : MutD ca X "list.pop" gmPop := by
  intro pins s σ H x xs v us Q I rx rs h
  obtain ⟨G, d, U, ds, d', r, sub, rd, rr, e, q⟩ := h
  unfold gmPop at e
  split at e
  · rename_i items
    split at e
    · rename_i y hl
      split at e
      · rename_i hs
        injection e with e
        injection e with e1 e2
        subst e1
        subst e2
        cases rr
        obtain ⟨a, rfl⟩ := rep_ol_ref rd
        obtain ⟨vs, ha, l, ch⟩ := ol_change rd
        obtain ⟨U', r', x'⟩ := ch vs.dropLast items.dropLast (fun i => some i) (by simp [l]) (fun i j k h1 h2 => by cases h1; cases h2; rfl) fun i v d e1 e2 => by
          refine .inl ⟨i, rfl, ?_, ?_⟩
          · rw [List.getElem?_dropLast] at e1; split at e1 <;> first | exact e1 | cases e1
          · rw [List.getElem?_dropLast] at e2; split at e2 <;> first | exact e2 | cases e2
        rw [List.getLast?_eq_getElem?] at hl
        have hlt : items.length - 1 < items.length := (List.getElem?_eq_some_iff.mp hl).1
        have hv : vs[vs.length - 1]? = some (vs[vs.length - 1]'(by omega)) := List.getElem?_eq_getElem (by omega)
        have ry : ∃ U, Rep ⟨X.K, ca⟩ G H (vs[vs.length - 1]'(by omega)) y U := by
          cases rd with
          | ol h' g' l' c' bd dj na =>
            rw [ha] at h'
            cases h'
            exact ⟨_, c' (items.length - 1) _ _ (by rw [← l]; exact hv) hl⟩
        obtain ⟨U2, ry⟩ := ry
        exact mt_pop pins s σ H _ _ v us Q I rx rs ⟨a, vs, _, rfl, rfl, ha, hv, q _ _ _ _ (g_upd rd sub) r' (rep_sh ry hs).up x'⟩
      · cases e
    · cases e
  · cases e
theorem mutD_extend : MutD ca X "list.extend" gmExtend := by
  intro pins s σ H x xs v us Q I rx rs h
  obtain ⟨G, d, U, ds, d', r, sub, rd, rr, e, q⟩ := h
  unfold gmExtend at e
  split at e
  · rename_i items ys
    split at e
    · rename_i hz
      cases e
      obtain ⟨y', rfl, ry⟩ := paired1 rr
      obtain ⟨a, rfl⟩ := rep_ol_ref rd
      obtain ⟨vs, ha, l, ch⟩ := ol_change rd
      cases ry with
      | lst h' l' c' =>
        rename_i b ws
        obtain ⟨U', r', x'⟩ := ch (vs ++ ws) (items ++ ys) (fun i => if i < items.length then some i else none) (by simp [l, l']) (fun i j k h1 h2 => by
          split at h1 <;> split at h2 <;> cases h1 <;> cases h2 <;> rfl) fun i v d e1 e2 => by
          rcases get_append e1 with ⟨hi, e1⟩ | ⟨hi, e1⟩
          · rw [List.getElem?_append_left (by omega)] at e2
            exact .inl ⟨i, if_pos (by omega), e1, e2⟩
          · rw [List.getElem?_append_right (by omega), ← l] at e2
            exact .inr ⟨if_neg (by omega), c' _ v d e1 e2⟩
        exact mt_extend pins s σ H _ _ v us Q I rx rs ⟨a, b, vs, ws, rfl, rfl, ha, sub _ _ h', by rw [sizeLine_eq, l, l']; exact hz, q _ _ _ _ (g_upd rd sub) r' .non x'⟩
    · cases e
  · cases e
/-- xs[i] = v -/
def SetD (ca : Nat → Addr) (X : Cx) (gm : D → List D → Option (D × D)) : Prop := PSet X fun o i v H Q => rMu ⟨X.K, ca⟩ gm o [i, v] H fun _ H' => Q H'
theorem setD_list : SetD ca X gmSet := by
  intro pins s σ H x i y ov iv u Q I rx ri ry h
  obtain ⟨G, d, U, ds, d', r, sub, rd, rr, e, q⟩ := h
  unfold gmSet at e
  split at e
  · rename_i items k y'
    split at e
    · rename_i j hj
      cases e
      obtain ⟨i', y2, e2, r1, r2⟩ := paired2 rr
      cases e2
      cases r1
      obtain ⟨a, rfl⟩ := rep_ol_ref rd
      obtain ⟨vs, ha, l, ch⟩ := ol_change rd
      have hjl := (ixN_seq hj).2.1
      obtain ⟨U', r', x'⟩ := ch (vs.set j y) (items.set j y') (fun i => if i = j then none else some i) (by simp [l]) (fun i j k h1 h2 => by
        split at h1 <;> split at h2 <;> cases h1 <;> cases h2 <;> rfl) fun i v d e1 e2 => by
        by_cases hi : i = j
        · subst hi
          rw [List.getElem?_set_self (by omega)] at e1
          rw [List.getElem?_set_self hjl] at e2
          cases e1; cases e2
          exact .inr ⟨if_pos rfl, r2⟩
        · rw [List.getElem?_set_ne (Ne.symm hi)] at e1 e2
          exact .inl ⟨i, if_neg hi, e1, e2⟩
      exact set_list pins s σ H _ _ _ ov iv u Q I rx ri ry ⟨a, vs, k, j, rfl, rfl, ha, by rw [l]; exact hj, q .non _ _ _ (g_upd rd sub) r' .non x'⟩
    · cases e
  · cases e
end
end DL

namespace DL
open PySem PySem.Spec PyProof.Rows L2

/-! ### calls of the text's own defs -/
inductive FOut where
  | ok (d : D) (outs : List D) | exc (e : D) (outs : List D)
abbrev Mir := List D → Option FOut
def endC (B : Bd) (vs : List V) (G H : Hp) (W0 : FP) (Q : VK) (E : XK) : FOut → Prop
  | .ok d outs => ∀ v G' H' F' T, Cfg B G' H' (vs.map some) (outs.map some) F' → Rep B G' H' v d T → (∀ x, T x → ¬ un F' x) → Ext G H W0 G' H' (fun x => un F' x ∨ T x) → Q v H'
  | .exc e outs => ∀ G' H' F' cls dx, Cfg B G' H' (vs.map some) (outs.map some) F' → ExcAt B G' cls dx e → Ext G H W0 G' H' (un F') → E cls dx H'
def spD (B : Bd) (n : Nat) (m : Mir) : Sp := fun vs H Q E => vs.length = n ∧ ∃ G ds F o, Cfg B G H (vs.map some) (ds.map some) F ∧ m ds = some o ∧ endC B vs G H (un F) Q E o

def argD (ρ ρ1 : DEnv) : List Bool → List AV → Option (List (D × Option Nat))
  | [], [] => some []
  | true :: ms, .pl i [] :: as => match slotOf ρ1 i, argD ρ ρ1 ms as with
    | some d, some r => some ((d, some i) :: r)
    | _, _ => none
  | _ :: ms, a :: as => match cont ρ a, argD ρ ρ1 ms as with
    | some d, some r => some ((frz d, none) :: r)
    | _, _ => none
  | _, _ => none
def nio : List Bool → List AV → List Nat
  | true :: ms, .pl _ [] :: as => nio ms as
  | _ :: ms, a :: as => plS [a] ++ nio ms as
  | _, _ => []
def setOut : List (D × Option Nat) → List D → DEnv → DEnv
  | (_, some i) :: r, o :: os, ρ => setOut r os (ρ.set i (some o))
  | (_, none) :: r, _ :: os, ρ => setOut r os ρ
  | _, _, ρ => ρ
def callK (ms : List Bool) (m : Mir) (avs : List AV) : Ev AV := fun ρ => match argD ρ (frzS (nio ms avs) ρ) ms avs with
  | none => none
  | some l => if (l.filterMap (·.2)).Nodup then match m (l.map (·.1)) with
    | some (.ok d outs) => if outs.length = l.length then some (.ok (.val d) (setOut l outs (frzS (nio ms avs) ρ))) else none
    | some (.exc e outs) => if outs.length = l.length then some (.exc e (setOut l outs (frzS (nio ms avs) ρ))) else none
    | none => none
    else none
def evCall (ms : List Bool) (m : Mir) (fs : Ev (List AV)) : Ev AV := fs.andThen (callK ms m)

theorem arg_reps {B : Bd} {σ : L2.St} {G H : Hp} {ρ : DEnv} {F : Nat → FP} (c : Cfg B G H σ ρ F) {Wt0 : FP} (n : ∀ x, Wt0 x → ¬ un F x) (S : List Nat) : ∀ {ms : List Bool} {Wt : FP} {vs : List V} {avs : List AV} {l : List (D × Option Nat)}, (∀ x, Wt x → Wt0 x) → RepAs B G H σ Wt vs avs →
    argD ρ (frzS S ρ) ms avs = some l → (∀ i ∈ nio ms avs, i ∈ S) → vs.length = l.length ∧ ∀ (k : Nat) v d s, vs[k]? = some v → l[k]? = some (d, s) →
      (s = none → Rep B (gfr G H (frU G H F Wt0 S)) H v d nof) ∧ ∀ i, s = some i → σ[i]? = some (some v) ∧ slotOf (frzS S ρ) i = some d := by
  have dm : ∀ x, frU G H F Wt0 S x → (∃ o, H x = some o) ∧ G x = none := fun x h => by
    rcases h with ⟨_, h⟩ | ⟨i, _, h⟩
    · exact h
    · exact c.dom ⟨i, h⟩
  have gg : ∀ b o, G b = some o → gfr G H (frU G H F Wt0 S) b = some o := fun b o e => by
    by_cases h : frU G H F Wt0 S b
    · rw [(dm b h).2] at e; cases e
    · rw [gfr_out h]; exact e
  intro ms
  induction ms with
  | nil =>
    intro Wt vs avs l hW r e hS
    cases r with
    | nil => cases e; exact ⟨rfl, fun k v d s h => by simp at h⟩
    | cons => cases e
  | cons b ms ih =>
    intro Wt vs avs l hW r e hS
    cases r with
    | nil => cases b <;> cases e
    | cons rx hT t hu dj =>
      rename_i Wu T v a vs as
      have plain : ∀ {l}, (match cont ρ a, argD ρ (frzS S ρ) ms as with
          | some d, some r => some ((frz d, none) :: r)
          | _, _ => none) = some l → (∀ i ∈ plS [a] ++ nio ms as, i ∈ S) → (v :: vs).length = l.length ∧ ∀ (k : Nat) v' d s, (v :: vs)[k]? = some v' → l[k]? = some (d, s) →
      (s = none → Rep B (gfr G H (frU G H F Wt0 S)) H v' d nof) ∧ ∀ i, s = some i → σ[i]? = some (some v') ∧ slotOf (frzS S ρ) i = some d := fun {l} e hS => by
        cases h1 : cont ρ a with
        | none => rw [h1] at e; cases e
        | some d =>
          cases h2 : argD ρ (frzS S ρ) ms as with
          | none => rw [h1, h2] at e; cases e
          | some r =>
            rw [h1, h2] at e
            cases e
            obtain ⟨hl, hk⟩ := ih (fun x h => hW x (hu x h)) t h2 fun i hi => hS i (by simp [hi])
            refine ⟨by simp [hl], fun k v' d' s e1 e2 => ?_⟩
            cases k with
            | succ k => exact hk k v' d' s (by simpa using e1) (by simpa using e2)
            | zero =>
              simp at e1 e2
              obtain ⟨rfl, rfl⟩ := e2
              subst e1
              refine ⟨fun _ => ?_, fun i h => (by cases h)⟩
              obtain ⟨U, r', s⟩ := rx.cont c h1
              refine r'.frozen gg fun b hb => gfr_in ?_
              rcases s b hb with z | z
              · exact .inl ⟨hW b (hT b z), rx.dom b z⟩
              · cases a with
                | val d => exact z.elim
                | pl i p => exact .inr ⟨i, hS i (by simp [plS]), z⟩
      cases b with
      | false => exact plain (by cases a <;> exact e) (by cases a <;> exact hS)
      | true =>
        cases a with
        | val d => exact plain e hS
        | pl i p =>
          cases p with
          | cons q p => exact plain e hS
          | nil =>
            unfold argD at e
            cases h1 : slotOf (frzS S ρ) i with
            | none => rw [h1] at e; cases e
            | some d =>
              cases h2 : argD ρ (frzS S ρ) ms as with
              | none => rw [h1, h2] at e; cases e
              | some r =>
                rw [h1, h2] at e
                cases e
                obtain ⟨hl, hk⟩ := ih (fun x h => hW x (hu x h)) t h2 fun j hj => hS j hj
                refine ⟨by simp [hl], fun k v' d' s e1 e2 => ?_⟩
                cases k with
                | succ k => exact hk k v' d' s (by simpa using e1) (by simpa using e2)
                | zero =>
                  simp at e1 e2
                  obtain ⟨rfl, rfl⟩ := e2
                  subst e1
                  refine ⟨fun h => (by cases h), fun j h => ?_⟩
                  cases h
                  obtain ⟨⟨v0, e0, hp⟩, _⟩ := rx
                  cases hp
                  exact ⟨e0, h1⟩
theorem nodup_slot : ∀ {l : List (D × Option Nat)}, (l.filterMap (·.2)).Nodup → ∀ {k k' : Nat} {d d' : D} {i : Nat}, l[k]? = some (d, some i) → l[k']? = some (d', some i) → k = k'
  | [], _, k, _, _, _, _, h, _ => by simp at h
  | (d0, s) :: r, hn, k, k', d, d', i, h, h' => by
    have nr : (r.filterMap (·.2)).Nodup := by
      cases s with
      | none => simpa using hn
      | some j => simp at hn; exact hn.2
    have mem : ∀ {k : Nat} {d : D} {j : Nat}, r[k]? = some (d, some j) → j ∈ r.filterMap (·.2) := fun {k d j} h => List.mem_filterMap.mpr ⟨(d, some j), List.mem_of_getElem? h, rfl⟩
    cases k with
    | zero =>
      cases k' with
      | zero => rfl
      | succ k' =>
        simp at h h'
        obtain ⟨rfl, rfl⟩ := h
        have := mem h'
        simp at hn
        exact absurd this (by simpa using hn.1)
    | succ k =>
      cases k' with
      | zero =>
        simp at h h'
        obtain ⟨rfl, rfl⟩ := h'
        have := mem h
        simp at hn
        exact absurd this (by simpa using hn.1)
      | succ k' => exact congrArg (· + 1) (nodup_slot nr (k := k) (k' := k') (by simpa using h) (by simpa using h'))
theorem setOut_len : ∀ (l : List (D × Option Nat)) (os : List D) (ρ : DEnv), (setOut l os ρ).length = ρ.length
  | [], _, _ => rfl
  | (_, some i) :: r, [], _ => rfl
  | (_, none) :: r, [], _ => rfl
  | (_, some i) :: r, o :: os, ρ => by rw [setOut, setOut_len r]; simp
  | (_, none) :: r, o :: os, ρ => by rw [setOut, setOut_len r]
theorem setOut_out : ∀ {l : List (D × Option Nat)} {os : List D} {ρ : DEnv} {j : Nat}, (∀ (k : Nat) (d : D), l[k]? ≠ some (d, some j)) → (setOut l os ρ)[j]? = ρ[j]?
  | [], _, _, _, _ => rfl
  | (_, some i) :: r, [], _, _, _ => rfl
  | (_, none) :: r, [], _, _, _ => rfl
  | (d, some i) :: r, o :: os, ρ, j, h => by
    rw [setOut, setOut_out fun k d' e => h (k + 1) d' (by simpa using e)]
    exact List.getElem?_set_ne fun z => h 0 d (by simp [z])
  | (d, none) :: r, o :: os, ρ, j, h => by
    rw [setOut, setOut_out fun k d' e => h (k + 1) d' (by simpa using e)]
theorem setOut_in : ∀ {l : List (D × Option Nat)} {os : List D} {ρ : DEnv} {j k : Nat} {d : D}, (l.filterMap (·.2)).Nodup → l[k]? = some (d, some j) → os.length = l.length → j < ρ.length → (setOut l os ρ)[j]? = some os[k]?
  | [], _, _, _, k, _, _, h, _, _ => by simp at h
  | (_, some i) :: r, [], _, _, _, _, _, _, hl, _ => by cases hl
  | (_, none) :: r, [], _, _, _, _, _, _, hl, _ => by cases hl
  | (d0, none) :: r, o :: os, ρ, j, k, d, hn, h, hl, hj => by
    cases k with
    | zero => simp at h
    | succ k =>
      rw [setOut, setOut_in (by simpa using hn) (by simpa using h) (by simpa using hl) hj]
      simp
  | (d0, some i) :: r, o :: os, ρ, j, k, d, hn, h, hl, hj => by
    have hn' := hn
    simp at hn
    cases k with
    | zero =>
      simp at h
      obtain ⟨rfl, rfl⟩ := h
      rw [setOut, setOut_out fun k d' e => ?_, List.getElem?_set_self hj]
      · simp
      · have := nodup_slot hn' (k := 0) (k' := k + 1) (d := d0) (d' := d') (i := i) rfl (by simpa using e)
        cases this
    | succ k =>
      rw [setOut, setOut_in hn.2 (by simpa using h) (by simpa using hl) (by simpa using hj)]
      simp
section
variable {B : Bd} {W : WX} {σ : L2.St}
theorem call_end {ms : List Bool} {m : Mir} {n : Nat} {G H : Hp} {ρ : DEnv} {F : Nat → FP} {Wt : FP} {vs : List V} {avs : List AV} {o : Out AV} {Q : VK} (c : Cfg B G H σ ρ F) (r : RepAs B G H σ Wt vs avs) (hn : ∀ y, Wt y → ¬ un F y)
    (e : callK ms m avs ρ = some o) (z : endE B W σ G H (fun y => un F y ∨ Wt y) Q o) (hl : vs.length = n) : spD B n m vs H Q (WE W σ) := by
  unfold callK at e
  cases h1 : argD ρ (frzS (nio ms avs) ρ) ms avs with
  | none => rw [h1] at e; cases e
  | some l =>
    rw [h1] at e
    dsimp only at e
    split at e
    · rename_i nd
      obtain ⟨c2, x2⟩ := freeze_cfg c hn (nio ms avs)
      obtain ⟨hlen, hk⟩ := arg_reps c hn (nio ms avs) (fun _ h => h) r h1 fun i h => h
      -- the callee's view
      have lv : ∀ {k : Nat} {d : D}, (l.map (·.1))[k]? = some d → ∃ s, l[k]? = some (d, s) := fun {k d} h => by
        rw [List.getElem?_map] at h
        obtain ⟨⟨d', s⟩, q, rfl⟩ := Option.map_eq_some_iff.mp h
        exact ⟨s, q⟩
      have cc : Cfg B (gfr G H (frU G H F Wt (nio ms avs))) H (vs.map some) ((l.map (·.1)).map some) (fun (k : Nat) x => ∃ (d : D) (i : Nat), l[k]? = some (d, some i) ∧ (F i x ∧ i ∉ nio ms avs)) := by
        refine ⟨c2.sub, by simp [hlen], fun k d q => ?_, fun k q x hx => ?_, fun k k' x a b => ?_⟩
        · rw [List.getElem?_map] at q
          obtain ⟨d', q, e9⟩ := Option.map_eq_some_iff.mp q
          cases e9
          obtain ⟨s, q⟩ := lv q
          have hkl : k < vs.length := by rw [hlen]; exact (List.getElem?_eq_some_iff.mp q).1
          refine ⟨vs[k], by rw [List.getElem?_map, List.getElem?_eq_getElem hkl]; rfl, ?_⟩
          obtain ⟨k1, k2⟩ := hk k vs[k] d s (List.getElem?_eq_getElem hkl) q
          cases s with
          | none =>
            have en : (fun x => ∃ (d : D) (i : Nat), l[k]? = some (d, some i) ∧ (F i x ∧ i ∉ nio ms avs)) = nof := by
              funext x
              exact propext ⟨fun ⟨d2, i, w, _⟩ => (by rw [q] at w; cases w), fun w => w.elim⟩
            rw [en]; exact k1 rfl
          | some i =>
            obtain ⟨w1, w2⟩ := k2 i rfl
            obtain ⟨v', w3, w4⟩ := c2.at w2
            rw [w1] at w3
            cases w3
            have en : (fun x => ∃ (d : D) (i : Nat), l[k]? = some (d, some i) ∧ (F i x ∧ i ∉ nio ms avs)) = fun x => F i x ∧ i ∉ nio ms avs := by
              funext x
              exact propext ⟨fun ⟨d2, j, w, w'⟩ => (by rw [q] at w; cases w; exact w'), fun w => ⟨d, i, q, w⟩⟩
            rw [en]; exact w4
        · obtain ⟨d, i, q2, _⟩ := hx
          exact q d (by rw [List.getElem?_map, List.getElem?_map, q2]; rfl)
        · obtain ⟨d, i, q1, w1⟩ := a
          obtain ⟨d', i', q2, w2⟩ := b
          have := c.dis i i' x w1.1 w2.1
          subst this
          exact nodup_slot nd q1 q2
      -- behind the call: the caller's view
      have back : ∀ {outs : List D} {G' H' : Hp} {F' : Nat → FP} {T : FP}, outs.length = l.length → Cfg B G' H' (vs.map some) (outs.map some) F' → (∀ x, T x → ¬ un F' x) →
          Ext (gfr G H (frU G H F Wt (nio ms avs))) H (un fun (k : Nat) x => ∃ (d : D) (i : Nat), l[k]? = some (d, some i) ∧ (F i x ∧ i ∉ nio ms avs)) G' H' (fun x => un F' x ∨ T x) →
          ∃ Fn, Cfg B G' H' σ (setOut l outs (frzS (nio ms avs) ρ)) Fn ∧ (∀ x, T x → ¬ un Fn x) ∧ Ext G H (fun y => un F y ∨ Wt y) G' H' (fun x => un Fn x ∨ T x) := fun {outs G' H' F' T} ho c3 n3 x3 => by
        have apart : ∀ j, (∀ (k : Nat) (d : D), l[k]? ≠ some (d, some j)) → ∀ b, (F j b ∧ j ∉ nio ms avs) → ¬ un (fun (k : Nat) x => ∃ (d : D) (i : Nat), l[k]? = some (d, some i) ∧ (F i x ∧ i ∉ nio ms avs)) b := fun j hj b hb ⟨k, d, i, q, w⟩ => by
          have := c.dis i j b w.1 hb.1
          subst this
          exact hj k d q
        have fr : ∀ j, (∀ (k : Nat) (d : D), l[k]? ≠ some (d, some j)) → ∀ b, (F j b ∧ j ∉ nio ms avs) → ¬ (un F' b ∨ T b) := fun j hj b hb w => by
          obtain ⟨d, v, _, _, r'⟩ := c2.own hb
          exact (r'.frame x3 (apart j hj)).2 b hb w
        refine ⟨fun j x => (∃ (k : Nat) (d : D), l[k]? = some (d, some j) ∧ F' k x) ∨ ((∀ (k : Nat) (d : D), l[k]? ≠ some (d, some j)) ∧ (F j x ∧ j ∉ nio ms avs)), ⟨c3.sub, by rw [setOut_len]; exact c2.len, fun j d q => ?_, fun j q x hx => ?_, fun j j' x a b => ?_⟩, fun x hx hu => ?_, ?_⟩
        · by_cases hj : ∃ (k : Nat) (d : D), l[k]? = some (d, some j)
          · obtain ⟨k, d0, hj⟩ := hj
            have hkl : k < vs.length := by rw [hlen]; exact (List.getElem?_eq_some_iff.mp hj).1
            obtain ⟨_, k2⟩ := hk k vs[k] d0 _ (List.getElem?_eq_getElem hkl) hj
            obtain ⟨w1, w2⟩ := k2 j rfl
            have hjl : j < (frzS (nio ms avs) ρ).length := by rw [c2.len]; exact (List.getElem?_eq_some_iff.mp w1).1
            rw [setOut_in nd hj ho hjl] at q
            have q' : outs[k]? = some d := by simpa using q
            obtain ⟨v', w3, w4⟩ := c3.slot k d (by rw [List.getElem?_map, q']; rfl)
            rw [List.getElem?_map, List.getElem?_eq_getElem hkl] at w3
            cases w3
            refine ⟨_, w1, ?_⟩
            have en : (fun x => (∃ (k : Nat) (d : D), l[k]? = some (d, some j) ∧ F' k x) ∨ ((∀ (k : Nat) (d : D), l[k]? ≠ some (d, some j)) ∧ (F j x ∧ j ∉ nio ms avs))) = F' k := by
              funext x
              refine propext ⟨fun w => ?_, fun w => .inl ⟨k, d0, hj, w⟩⟩
              rcases w with ⟨k', d', q1, w⟩ | ⟨w, _⟩
              · rw [nodup_slot nd hj q1]; exact w
              · exact (w k d0 hj).elim
            rw [en]; exact w4
          · have hj' : ∀ (k : Nat) (d : D), l[k]? ≠ some (d, some j) := fun k d q => hj ⟨k, d, q⟩
            rw [setOut_out hj'] at q
            obtain ⟨v', w3, w4⟩ := c2.slot j d q
            refine ⟨v', w3, ?_⟩
            have en : (fun x => (∃ (k : Nat) (d : D), l[k]? = some (d, some j) ∧ F' k x) ∨ ((∀ (k : Nat) (d : D), l[k]? ≠ some (d, some j)) ∧ (F j x ∧ j ∉ nio ms avs))) = fun x => F j x ∧ j ∉ nio ms avs := by
              funext x
              exact propext ⟨fun w => w.elim (fun ⟨k, d, q, _⟩ => (hj' k d q).elim) (·.2), fun w => .inr ⟨hj', w⟩⟩
            rw [en]
            exact (w4.frame x3 (apart j hj')).1
        · rcases hx with ⟨k, d0, hj, hx⟩ | ⟨hj, hx⟩
          · have hkl : k < vs.length := by rw [hlen]; exact (List.getElem?_eq_some_iff.mp hj).1
            obtain ⟨_, k2⟩ := hk k vs[k] d0 _ (List.getElem?_eq_getElem hkl) hj
            obtain ⟨w1, w2⟩ := k2 j rfl
            have hjl : j < (frzS (nio ms avs) ρ).length := by rw [c2.len]; exact (List.getElem?_eq_some_iff.mp w1).1
            have hko : k < outs.length := by rw [ho, ← hlen]; exact hkl
            refine q outs[k] ?_
            rw [setOut_in nd hj ho hjl, List.getElem?_eq_getElem hko]
          · obtain ⟨d, v, w1, _, _⟩ := c2.own hx
            exact q d (by rw [setOut_out hj]; exact w1)
        · rcases a with ⟨k, d, q1, a⟩ | ⟨hj, a⟩ <;> rcases b with ⟨k', d', q2, b⟩ | ⟨hj', b⟩
          · have := c3.dis k k' x a b
            subst this
            rw [q1] at q2; cases q2; rfl
          · exact (fr j' hj' x b (.inl ⟨k, a⟩)).elim
          · exact (fr j hj x a (.inl ⟨k', b⟩)).elim
          · exact c.dis j j' x a.1 b.1
        · obtain ⟨j, ⟨k, d, _, hj⟩ | ⟨hj, w⟩⟩ := hu
          · exact n3 x hx ⟨k, hj⟩
          · exact fr j hj x w (.inr hx)
        · have x4 := x2.trans (x3.mono (Wa := un fun j x => F j x ∧ j ∉ nio ms avs) (fun x ⟨k, d, i, _, w⟩ => ⟨i, w⟩) fun _ h => h)
          refine ⟨x4.gg, x4.hh, fun b hb => ?_, x4.gn⟩
          rcases hb with ⟨j, ⟨k, d, _, hb⟩ | ⟨_, hb⟩⟩ | hb
          · exact x4.ww b (.inl ⟨k, hb⟩)
          · exact .inl (.inl ⟨j, hb.1⟩)
          · exact x4.ww b (.inr hb)
      cases h2 : m (l.map (·.1)) with
      | none => rw [h2] at e; cases e
      | some fo =>
        rw [h2] at e
        cases fo with
        | ok d outs =>
          dsimp only at e
          split at e
          · rename_i ho
            cases e
            refine ⟨hl, _, _, _, _, cc, h2, fun v G' H' F' T c3 r3 n3 x3 => ?_⟩
            obtain ⟨Fn, c4, n4, x4⟩ := back ho c3 n3 x3
            exact z v G' H' Fn T c4 r3 n4 x4
          · cases e
        | exc er outs =>
          dsimp only at e
          split at e
          · rename_i ho
            cases e
            refine ⟨hl, _, _, _, _, cc, h2, fun G' H' F' cls dx c3 r3 x3 => ?_⟩
            obtain ⟨Fn, c4, n4, x4⟩ := back (T := nof) ho c3 (fun _ h => h.elim) (x3.mono (fun _ h => h) fun _ h => h.elim id False.elim)
            exact z G' H' Fn cls dx c4 r3 (x4.mono (fun _ h => h) fun _ h => .inl h)
          · cases e
    · cases e
end
end DL

namespace DL
open PySem PySem.Spec PyProof.Rows L2

section
variable {ca : Nat → Addr} {X : Cx} {k : Nat} {f : Addr} {fd : FuncData} {ps : List Str} {x : Str} {p pos : Pos} {e : Expr} {es : List Expr} {fs : Ev (List AV)} {m : Mir}
/-- what a def of the text is: it keeps the promise of the plain function m -/
abbrev FnD (P : Program) (w : World) (K : PySem.W.Frag) (mg : Str → Option Value) (base : Heap) (ca : Nat → Addr) (k : Nat) (f : Addr) (fd : FuncData) (ps : List Str) (m : Mir) : Prop := FnOk P w K mg base (L2.CX P w) k f fd ps (spD ⟨K, ca⟩ ps.length m)
theorem tD_call {B : Bd} {W : WX} {σ : L2.St} {H : Hp} {ms : List Bool} {n : Nat} {Q : VK} (h : tD B W (evCall ms m fs) σ H Q) (hn : ∀ ρ avs ρ', fs ρ = some (.ok avs ρ') → avs.length = n) : tDL B W fs σ H fun vs H1 => spD B n m vs H1 Q (WE W σ) := by
  obtain ⟨G, ρ, F, o, c, e, z⟩ := h
  unfold evCall at e
  cases hf : fs ρ with
  | none => rw [andThen_none hf] at e; cases e
  | some u =>
    cases u with
    | exc er ρ' => rw [andThen_exc hf] at e; cases e; exact ⟨G, ρ, F, _, c, hf, z⟩
    | ok avs ρ1 =>
      rw [andThen_ok hf] at e
      refine ⟨G, ρ, F, _, c, hf, fun vs G1 H1 F1 Wt c1 r n1 x => ?_⟩
      have hl : vs.length = n := by
        rw [← hn ρ avs ρ1 hf]
        clear e hf hn
        induction r with
        | nil => rfl
        | cons r hT t hu dj ih => exact congrArg (· + 1) (ih (fun y h => n1 y (hu y h)) (x.mono (fun _ h => h) fun y h => h.imp id (hu y)))
      exact call_end c1 r n1 e (endE_trans z x) hl
/-- f(a, b, ..); modes: true where an own thing is lent -/
theorem de_call {ms : List Bool} (F : FnD X.prog X.w X.K X.mg X.base ca k f fd ps m) (hr : Room k X.A) (hm : X.mg x = some (.ref f)) (hk : PySem.W.keepIn X.K (.ref f) = true) (hb : Binds X.K fd ps []) (ha : DA ca X (e :: es) fs)
    (hn : ∀ ρ avs ρ', fs ρ = some (.ok avs ρ') → avs.length = ps.length) (hg : Gl X x := by rfl) (hdb : (x == ("__debug__" : Str)) = false := by decide) (he : starEach (e :: es) X.env = (false, eval e X.env) :: starEach es X.env := by rfl) (hpl : (backTo pos (starEach es X.env)).any (·.1) = false := by rfl) :
    DE ca X (.Call (.Name x p) (e :: es) [] pos) (evCall ms m fs) := fun W tk =>
  PE.imp (pe_callS F hr hg hm hk hb (fun σ => passAt tk σ) (ha W tk) hdb he hpl) fun σ H Q h => tD_call h hn
end
theorem len_nil : ∀ ρ avs ρ', evNil ρ = some (.ok avs ρ') → avs.length = 0 := fun ρ avs ρ' h => by cases h; rfl
theorem len_cons {f : Ev AV} {g : Ev (List AV)} {n : Nat} (h : ∀ ρ avs ρ', g ρ = some (.ok avs ρ') → avs.length = n) : ∀ ρ avs ρ', evCons f g ρ = some (.ok avs ρ') → avs.length = n + 1 := fun ρ avs ρ' e => by
  obtain ⟨a, as, ρ1, ρ2, rfl, e2⟩ := evCons_len e
  simp [h _ _ _ e2]

/-! ### a def's body -/
def outsD (I : List Nat) (ds : List D) (ρ' : DEnv) : Nat → Option (List D)
  | 0 => some []
  | n + 1 => match outsD I ds ρ' n, (if n ∈ I then slotOf ρ' n else ds[n]?) with
    | some os, some d => some (os ++ [d])
    | _, _ => none
theorem outsD_spec {I : List Nat} {ds : List D} {ρ' : DEnv} : ∀ {n : Nat} {os : List D}, outsD I ds ρ' n = some os → os.length = n ∧ ∀ i, i < n → os[i]? = if i ∈ I then slotOf ρ' i else ds[i]?
  | 0, os, h => by cases h; exact ⟨rfl, fun i h => by omega⟩
  | n + 1, os, h => by
    unfold outsD at h
    cases h1 : outsD I ds ρ' n with
    | none => rw [h1] at h; cases h
    | some os' =>
      cases h2 : (if n ∈ I then slotOf ρ' n else ds[n]?) with
      | none => rw [h1, h2] at h; cases h
      | some d =>
        rw [h1, h2] at h
        cases h
        obtain ⟨l, k⟩ := outsD_spec h1
        refine ⟨by simp [l], fun i hi => ?_⟩
        by_cases hn : i < n
        · rw [List.getElem?_append_left (by omega)]; exact k i hn
        · have : i = n := by omega
          subst this
          rw [List.getElem?_append_right (by omega), l, h2]
          simp
/-- the parameters that are not lent hold frozen things -/
def parOk (I : List Nat) (ds : List D) : Bool := (List.range ds.length).all fun i => decide (i ∈ I) || match ds[i]? with
  | some d => d.sh
  | none => true
/-- what a def with N slots and n parameters, those in I lent, makes of its arguments -/
def fnD (N n : Nat) (I : List Nat) (f : Sv) : Mir := fun ds => if ds.length = n ∧ parOk I ds = true then
    match f (ds.map some ++ List.replicate (N - n) none) with
    | some (.nx ρ') => (outsD I ds ρ' n).map fun os => .ok .non os
    | some (.ret d ρ') => (outsD I ds ρ' n).map fun os => .ok d os
    | some (.exc e ρ') => (outsD I ds ρ' n).map fun os => .exc e os
    | _ => none
  else none
section
variable {P : Program} {w : World} {K : PySem.W.Frag} {mg : Str → Option Value} {base : Heap} {ca : Nat → Addr}
theorem fn_d {x qual : Str} {st : Stmt} {f : Addr} {fd : FuncData} {N ps : List Str} {k : Nat} {I : List Nat} {g : Sv} (F : Fun K x qual st f fd) (S : FnScope N ps (defScope st)) (hN : ps.length ≤ N.length)
    (hb : ∀ (cdv : Value) (A : Around) (outer : List Env) (s : Shared) (H : Hp) (E : XK), Room k (A.deeper (envOfC qual (defScope st) s.heap.objs.size f cdv)) →
      DB ca (cxOf (L2.CX P w) P w K mg base N qual (defScope st) f cdv A outer s H E) I (defBody st) g) : FnD P w K mg base ca (k + 1) f fd ps (fnD N.length ps.length I g) := by
  refine F.okX S (fun vs H Q E h => h.1) fun cdv A outer s H vs Q E hr h => ?_
  have hx : (cxOf (L2.CX P w) P w K mg base N qual (defScope st) f cdv A outer s H E).xe = fun e s' => wpAny (model P w) (A.deeper (envOfC qual (defScope st) s.heap.objs.size f cdv)) (leaving (envOfC qual (defScope st) s.heap.objs.size f cdv) e) (fun _ s'' => L2.CX P w outer H s E e s'') (fun e' s'' => L2.CX P w outer H s E e' s'') s' := rfl
  refine ⟨_, hb cdv A outer s H E hr (fun cls d _ H => E cls d H) (takes_of rfl rfl rfl hx) (passes_of hx), ?_⟩
  obtain ⟨hl, G, ds, F0, o, c, e, z⟩ := h
  have hld : ds.length = ps.length := by have := c.len; simp at this; omega
  unfold fnD at e
  rw [hld] at e
  split at e
  · rename_i hc
    have hp := hc.2
    -- the start
    have c0 : Cfg ⟨K, ca⟩ G H (L2.start N vs) (ds.map some ++ List.replicate (N.length - ps.length) none) F0 := by
      refine ⟨c.sub, by simp [L2.start, hl, hld], fun i d q => ?_, fun i q x hx => ?_, c.dis⟩
      · rcases get_append q with ⟨hi, q⟩ | ⟨hi, q⟩
        · obtain ⟨v, e1, r⟩ := c.slot i d q
          refine ⟨v, ?_, r⟩
          unfold L2.start
          rw [List.getElem?_append_left (by simp at hi ⊢; omega)]
          exact e1
        · rw [List.getElem?_replicate] at q
          split at q <;> cases q
      · refine c.emp i (fun d z => ?_) x hx
        refine q d ?_
        rw [List.getElem?_append_left (List.getElem?_eq_some_iff.mp z).1]
        exact z
    have stv : ∀ i, i < ps.length → (L2.start N vs)[i]? = (vs.map some)[i]? := fun i hi => by
      unfold L2.start
      rw [List.getElem?_append_left (by simp; omega)]
    -- the parameters behind it
    have fin : ∀ {ρ' : DEnv} {outs : List D} {σ' : L2.St} {G' H' : Hp} {F' : Nat → FP} {W1 : FP}, outsD I ds ρ' ps.length = some outs → Prot I (L2.start N vs) σ' → Cfg ⟨K, ca⟩ G' H' σ' ρ' F' → Ext G H (un F0) G' H' W1 →
        Cfg ⟨K, ca⟩ G' H' (vs.map some) (outs.map some) (fun i x => i < ps.length ∧ i ∈ I ∧ F' i x) := fun {ρ' outs σ' G' H' F' W1} ho p c1 x1 => by
      obtain ⟨lo, ko⟩ := outsD_spec ho
      refine ⟨c1.sub, by simp [lo, hl], fun i d q => ?_, fun i q x hx => ?_, fun i j x a b => c1.dis i j x a.2.2 b.2.2⟩
      · rw [List.getElem?_map] at q
        obtain ⟨d', q, e9⟩ := Option.map_eq_some_iff.mp q
        cases e9
        have hi : i < ps.length := by rw [← lo]; exact (List.getElem?_eq_some_iff.mp q).1
        have k1 := ko i hi
        rw [q] at k1
        by_cases hI : i ∈ I
        · rw [if_pos hI] at k1
          obtain ⟨v, e1, r⟩ := c1.at k1.symm
          rw [p.at_ i hI, stv i hi] at e1
          refine ⟨v, e1, ?_⟩
          have en : (fun x => i < ps.length ∧ i ∈ I ∧ F' i x) = F' i := by funext x; exact propext ⟨fun w => w.2.2, fun w => ⟨hi, hI, w⟩⟩
          rw [en]; exact r
        · rw [if_neg hI] at k1
          obtain ⟨v, e1, r⟩ := c.slot i d (by rw [List.getElem?_map, ← k1]; rfl)
          refine ⟨v, e1, ?_⟩
          have en : (fun x => i < ps.length ∧ i ∈ I ∧ F' i x) = nof := by funext x; exact propext ⟨fun w => hI w.2.1, fun w => w.elim⟩
          rw [en]
          have hs : d.sh = true := by
            have q2 := List.all_eq_true.mp hp i (List.mem_range.mpr (by omega))
            rw [← k1] at q2
            simpa [hI] using q2
          exact (rep_sh r hs).stay x1
      · obtain ⟨hi, hI, hx⟩ := hx
        have k1 := ko i hi
        rw [if_pos hI] at k1
        obtain ⟨d, v, e1, e2, r⟩ := c1.own hx
        rw [slotOf_of e1] at k1
        exact q d (by rw [List.getElem?_map, k1]; rfl)
    cases hg : g (ds.map some ++ List.replicate (N.length - ps.length) none) with
    | none => rw [hg] at e; cases e
    | some so =>
      rw [hg] at e
      refine ⟨G, _, F0, so, c0, hg, ?_⟩
      cases so with
      | brk ρ' => cases e
      | cnt ρ' => cases e
      | nx ρ' =>
        obtain ⟨outs, ho, rfl⟩ := Option.map_eq_some_iff.mp e
        intro σ' G' H' F' p c1 x1
        exact z .non G' H' _ nof (fin ho p c1 x1) .non (fun _ h => h.elim) (x1.mono (fun _ h => h) fun x h => h.elim (fun ⟨i, _, _, h⟩ => ⟨i, h⟩) False.elim)
      | ret d ρ' =>
        obtain ⟨outs, ho, rfl⟩ := Option.map_eq_some_iff.mp e
        intro v σ' G' H' F' T p c1 r n x1
        exact z v G' H' _ T (fin ho p c1 x1) r (fun x hx ⟨i, _, _, h⟩ => n x hx ⟨i, h⟩) (x1.mono (fun _ h => h) fun x h => h.imp (fun ⟨i, _, _, h⟩ => ⟨i, h⟩) id)
      | exc er ρ' =>
        obtain ⟨outs, ho, rfl⟩ := Option.map_eq_some_iff.mp e
        intro σ' G' H' F' cls dx p c1 r x1
        exact z G' H' _ cls dx (fin ho p c1 x1) r (x1.mono (fun _ h => h) fun x ⟨i, _, _, h⟩ => ⟨i, h⟩)
  · cases e
end

/-! ### targets of a frozen value -/
abbrev Tgt := D → DEnv → Option DEnv
abbrev Tgts := List D → DEnv → Option DEnv
def gD (B : Bd) (I : List Nat) (t : Tgt) : TG := fun v σ H Q => ∃ G ρ F d ρ', Cfg B G H σ ρ F ∧ Rep B G H v d nof ∧ t d ρ = some ρ' ∧ ∀ σ' G' H' F', Prot I σ σ' → Cfg B G' H' σ' ρ' F' → Ext G H (un F) G' H' (un F') → Q σ' H'
def gDs (B : Bd) (I : List Nat) (t : Tgts) : TGs := fun vs σ H Q => ∃ G ρ F ds ρ', Cfg B G H σ ρ F ∧ Paired (fun v d => Rep B G H v d nof) vs ds ∧ t ds ρ = some ρ' ∧ ∀ σ' G' H' F', Prot I σ σ' → Cfg B G' H' σ' ρ' F' → Ext G H (un F) G' H' (un F') → Q σ' H'
def DG (ca : Nat → Addr) (X : Cx) (I : List Nat) (tg : Expr) (t : Tgt) : Prop := PG X tg (gD ⟨X.K, ca⟩ I t)
def DGs (ca : Nat → Addr) (X : Cx) (I : List Nat) (tgs : List Expr) (t : Tgts) : Prop := PGs X tgs (gDs ⟨X.K, ca⟩ I t)
theorem PG.imp {X : Cx} {e : Expr} {t u : TG} (h : PG X e t) (k : ∀ (v : V) (σ : L2.St) (H : Hp) (Q : L2.St → Hp → Prop), u v σ H Q → t v σ H Q) : PG X e u := ⟨fun pins s σ H v w Q I r q => h.run pins s σ H v w Q I r (k v σ H Q q)⟩
theorem PGs.imp {X : Cx} {e : List Expr} {t u : TGs} (h : PGs X e t) (k : ∀ (v : List V) (σ : L2.St) (H : Hp) (Q : L2.St → Hp → Prop), u v σ H Q → t v σ H Q) : PGs X e u := ⟨fun pins s σ H v w Q I r q => h.run pins s σ H v w Q I r (k v σ H Q q)⟩
def tgN (I : List Nat) (i : Nat) : Tgt := fun d ρ => if i ∈ I ∨ ¬ i < ρ.length then none else some (ρ.set i (some d))
section
variable {ca : Nat → Addr} {X : Cx} {I : List Nat} {e : Expr} {es : List Expr} {pos : Pos} {t : Tgt} {ts : Tgts}
theorem dg_name {i : Nat} (h : PG X e (gName i)) : DG ca X I e (tgN I i) := PG.imp h fun v σ H Q q => by
  obtain ⟨G, ρ, F, d, ρ', c, r, e, z⟩ := q
  unfold tgN at e
  split at e
  · cases e
  · rename_i hi
    cases e
    have hi1 : i ∉ I := fun z => hi (.inl z)
    have hi2 : i < ρ.length := Classical.byContradiction fun z => hi (.inr z)
    have c2 := c.setName i r (fun _ h => h.elim) hi2
    refine z _ G H _ ⟨by simp, fun j hj => List.getElem?_set_ne fun z => hi1 (by rw [z]; exact hj)⟩ c2 (.refl fun x ⟨j, hj⟩ => ?_)
    rcases hj with ⟨_, hj⟩ | ⟨_, hj⟩
    · exact hj.elim
    · exact ⟨j, hj⟩
def tgNil : Tgts := fun ds ρ => match ds with
  | [] => some ρ
  | _ => none
def tgCons (t : Tgt) (u : Tgts) : Tgts := fun ds ρ => match ds with
  | d :: r => match t d ρ with
    | some ρ1 => u r ρ1
    | none => none
  | [] => none
theorem dgs_nil : DGs ca X I [] tgNil := PGs.imp pgs_nil fun vs σ H Q q => by
  obtain ⟨G, ρ, F, ds, ρ', c, r, e, z⟩ := q
  cases r with
  | nil => cases e; exact ⟨rfl, z σ G H F .refl c (.refl fun _ h => h)⟩
  | cons => cases e
theorem dgs_cons (h1 : DG ca X I e t) (h2 : DGs ca X I es ts) (hs : (assignEach (e :: es) X.env).map (·.2) = assign e X.env :: (assignEach es X.env).map (·.2) := by rfl) : DGs ca X I (e :: es) (tgCons t ts) := PGs.imp (pgs_cons h1 h2 hs) fun vs σ H Q q => by
  obtain ⟨G, ρ, F, ds, ρ', c, r, e, z⟩ := q
  cases r with
  | nil => cases e
  | cons r rr =>
    rename_i v d vs ds
    unfold tgCons at e
    dsimp only at e
    cases h3 : t d ρ with
    | none => rw [h3] at e; cases e
    | some ρ1 =>
      rw [h3] at e
      refine ⟨v, vs, rfl, G, ρ, F, d, ρ1, c, r, h3, fun σ1 G1 H1 F1 p1 c1 x1 => ⟨G1, ρ1, F1, ds, ρ', c1, L2.Paired.mapP rr fun v d r => r.stay x1, e, fun σ2 G2 H2 F2 p2 c2 x2 => z σ2 G2 H2 F2 (p1.trans p2) c2 (x1.trans x2)⟩⟩
def tgTup (n : Nat) (t : Tgts) : Tgt := fun d ρ => match d with
  | .tup ds => if ds.length = n then t ds ρ else none
  | _ => none
def tgLst (n : Nat) (t : Tgts) : Tgt := fun d ρ => match d with
  | .lst ds => if ds.length = n then t ds ρ else none
  | _ => none
theorem paired_of {R : V → D → Prop} : ∀ {vs : List V} {ds : List D}, vs.length = ds.length → (∀ (i : Nat) v d, vs[i]? = some v → ds[i]? = some d → R v d) → Paired R vs ds
  | [], [], _, _ => .nil
  | [], _ :: _, h, _ => by cases h
  | _ :: _, [], h, _ => by cases h
  | v :: vs, d :: ds, h, k => .cons (k 0 v d rfl rfl) (paired_of (by simpa using h) fun i v d e1 e2 => k (i + 1) v d (by simpa using e1) (by simpa using e2))
theorem dg_tup {k n : Nat} (hc : X.calm = true) (h : DGs ca X I es ts) (hn : (assignEach es X.env).length = n := by rfl) (hst : (assignEach es X.env).findIdx? (·.1) = none := by rfl) : DG ca X I (.Tuple es k pos) (tgTup n ts) := PG.imp (pg_tup hc h hn hst) fun v σ H Q q => by
  obtain ⟨G, ρ, F, d, ρ', c, r, e, z⟩ := q
  unfold tgTup at e
  split at e
  · rename_i ds
    split at e
    · rename_i hl
      cases r with
      | tup h' l c' => exact ⟨_, _, rfl, sqT_mono h' c.sub, l.trans hl, G, ρ, F, ds, ρ', c, paired_of l c', e, z⟩
    · cases e
  · cases e
theorem dg_lst {k n : Nat} (hc : X.calm = true) (h : DGs ca X I es ts) (hn : (assignEach es X.env).length = n := by rfl) (hst : (assignEach es X.env).findIdx? (·.1) = none := by rfl) : DG ca X I (.Tuple es k pos) (tgLst n ts) := PG.imp (pg_lst hc h hn hst) fun v σ H Q q => by
  obtain ⟨G, ρ, F, d, ρ', c, r, e, z⟩ := q
  unfold tgLst at e
  split at e
  · rename_i ds
    split at e
    · rename_i hl
      cases r with
      | lst h' l c' => exact ⟨_, _, rfl, .of (c.sub _ _ h'), l.trans hl, G, ρ, F, ds, ρ', c, paired_of l c', e, z⟩
    · cases e
  · cases e
/-- o[i] = v -/
def tgSub (gm : D → List D → Option (D × D)) (fs : Ev (List AV)) : Tgt := fun d ρ => match fs ρ with
  | some (.ok avs ρ1) => match mutK gm [d] avs ρ1 with
    | some (.ok _ ρ2) => some ρ2
    | _ => none
  | _ => none
theorem dg_sub {o i : Expr} {fo fi : Ev AV} {gm : D → List D → Option (D × D)} (ho : DE ca X o fo) (hi : DE ca X i fi) (hs : SetD ca X gm)
    (ha : ∀ v, assign (.Subscript o i pos) X.env v = (do
      let ov ← holding [v] (eval o X.env)
      let iv ← holding [v, ov] (eval i X.env)
      standAt pos
      holding [v, ov, iv] (setItem ov iv v)
      release [v, ov, iv] []) := by intro _; rfl) : DG ca X I (.Subscript o i pos) (tgSub gm (evCons fo (evCons fi evNil))) :=
  PG.imp (pg_sub (ho _ takes0) (hi _ takes0) hs ha) fun v σ H Q q => by
    obtain ⟨G, ρ, F, d, ρ', c, r, e, z⟩ := q
    unfold tgSub at e
    have q2 : tDL ⟨X.K, ca⟩ (fun _ _ _ _ => False) (evCons fo (evCons fi evNil)) σ H fun vs H1 => ∀ x y, vs = [x, y] → rMu ⟨X.K, ca⟩ gm x [y, v] H1 fun _ H' => Q σ H' := by
      cases hf : evCons fo (evCons fi evNil) ρ with
      | none => rw [hf] at e; cases e
      | some u =>
        rw [hf] at e
        cases u with
        | exc er ρ1 => cases e
        | ok avs ρ1 =>
          refine ⟨G, ρ, F, _, c, hf, fun vs G1 H1 F1 Wt c1 r1 n1 x1 x y hv => ?_⟩
          subst hv
          dsimp only at e
          cases hm : mutK gm [d] avs ρ1 with
          | none => rw [hm] at e; cases e
          | some o2 =>
            rw [hm] at e
            cases o2 with
            | exc er ρ2 => cases e
            | ok av ρ2 =>
              cases e
              have r2 : Rep ⟨X.K, ca⟩ G1 H1 v d nof := r.stay x1
              exact mut_end (Q := fun _ H' => Q σ H') (xe := [v]) (W := fun _ _ _ _ => False) c1 r1 n1 (.cons r2 .nil) hm (fun v' G' H' F' T c' r' n' x' => z σ G' H' F' .refl c' ((x1.trans x').mono (fun _ h => h) fun _ h => .inl h))
    exact tD_map (tDL_cons q2) fun x H1 k => tD_map (tDL_cons k) fun y H2 k => tDL_nil k x y rfl
/-- target = e, the value frozen -/
def sTgt (t : Tgt) (f : Ev AV) : Sv := evS f fun a ρ => match cont ρ a with
  | some d => (t (frz d) (frzS (plS [a]) ρ)).map .nx
  | none => none
theorem ds_asg {tg : Expr} {fe : Ev AV} (he : DE ca X e fe) (hg : DG ca X I tg t) (hs : swapsWithSole [tg] e pos.line X.env = pure false := by rfl) (hw : swappedStores [tg] e X.env = pure none := by rfl)
    (h1 : (assignEach [tg] X.env).map (·.2) = [assign tg X.env] := by rfl) : DS ca X I (.Assign [tg] e pos) (sTgt t fe) := fun W tk ps => PS.imp (ps_asg (he W tk) hg hs hw h1) fun Dn σ H h =>
  tSD_E h fun av ρ1 v G1 H1 F1 T o ek c1 r n z => by
    cases hc : cont ρ1 av with
    | none => rw [hc] at ek; cases ek
    | some d =>
      rw [hc] at ek
      obtain ⟨ρ2, e2, rfl⟩ := Option.map_eq_some_iff.mp ek
      obtain ⟨c2, x2⟩ := freeze_cfg c1 n (plS [av])
      have hcs : conts ρ1 [av] = some [d] := by unfold conts conts; rw [hc]
      have rr := freeze_reps c1 n (plS [av]) (.cons r (fun _ h => h) (.nil (Wt := nof)) (fun _ h => h.elim) fun _ _ h => h) hcs fun i h => h
      cases rr with
      | cons r' t' => exact ⟨_, _, _, _, _, c2, r', e2, fun σ' G' H' F' p c' x' => z σ' G' H' F' p c' (x2.trans x')⟩
end
end DL

namespace DL
open PySem PySem.Spec PyProof.Rows L2

/-! ### what is walked -/
structure ItD (B : Bd) (J : It) (ds : List D) (G : Hp) : Prop where
  go : ∀ (i : Nat) (G' H' : Hp), (∀ b o, G b = some o → G' b = some o) → (∀ b o, G' b = some o → H' b = some o) → i < ds.length → J.go i H'
  stop : ∀ (G' H' : Hp), (∀ b o, G b = some o → G' b = some o) → (∀ b o, G' b = some o → H' b = some o) → J.stop ds.length H'
  yld : ∀ (i : Nat) (G' H' : Hp) (x : V) (H'' : Hp), (∀ b o, G b = some o → G' b = some o) → (∀ b o, G' b = some o → H' b = some o) → i < ds.length → J.yld i H' x H'' →
    ∃ (d : D) (G'' : Hp), ds[i]? = some d ∧ (∀ b o, G'' b = some o → H'' b = some o) ∧ Rep B G'' H'' x d nof ∧ Ext G' H' nof G'' H'' nof
def endI (B : Bd) (W : WX) (σ : L2.St) (G H : Hp) (W0 : FP) (R : It → Hp → Prop) : Out (List D) → Prop
  | .ok ds ρ' => ∀ J G' H' F', Cfg B G' H' σ ρ' F' → ItD B J ds G' → Ext G H W0 G' H' (un F') → R J H'
  | .exc e ρ' => ∀ G' H' F' cls dx, Cfg B G' H' σ ρ' F' → ExcAt B G' cls dx e → Ext G H W0 G' H' (un F') → W cls dx σ H'
def tI (B : Bd) (W : WX) (f : Ev (List D)) : TI := fun σ H R => ∃ G ρ F o, Cfg B G H σ ρ F ∧ f ρ = some o ∧ endI B W σ G H (un F) R o
def DI (ca : Nat → Addr) (X : Cx) (tg iter : Expr) (f : Ev (List D)) : Prop := ∀ W, Takes X W → PI X tg iter (tI ⟨X.K, ca⟩ W f)
theorem PI.imp {X : Cx} {tg e : Expr} {t u : TI} (h : PI X tg e t) (k : ∀ (σ : L2.St) (H : Hp) (R : It → Hp → Prop), u σ H R → t σ H R) : PI X tg e u := ⟨fun pins s σ H R I q => h.run pins s σ H R I (k σ H R q)⟩
/-- items of frozen contents -/
def evIt (g : List D → Option (List D)) (fs : Ev (List AV)) : Ev (List D) := (evFz fs).andThen fun ds ρ => match g ds with
  | some xs => some (.ok xs ρ)
  | none => none
theorem tI_of {B : Bd} {W : WX} {σ : L2.St} {H : Hp} {g : List D → Option (List D)} {fs : Ev (List AV)} {R : It → Hp → Prop} (h : tI B W (evIt g fs) σ H R) :
    tDL B W fs σ H fun vs H1 => ∃ G ds xs, (∀ b o, G b = some o → H1 b = some o) ∧ Paired (fun v d => Rep B G H1 v d nof) vs ds ∧ g ds = some xs ∧ ∀ J, ItD B J xs G → R J H1 := by
  obtain ⟨G, ρ, F, o, c, e, z⟩ := h
  refine tDF_of (tDF_bind c e (fun er ρ' eo => by subst eo; exact z) fun ds ρ1 vs G1 H1 F1 ek c1 r1 x1 => ?_)
  cases hg : g ds with
  | none => rw [hg] at ek; cases ek
  | some xs =>
    rw [hg] at ek
    cases ek
    exact ⟨G1, ds, xs, c1.sub, r1, hg, fun J hJ => z J G1 H1 F1 c1 hJ x1⟩
def gItL : List D → Option (List D)
  | [.lst xs] => some xs
  | [.frl xs] => some xs
  | _ => none
def gItT : List D → Option (List D)
  | [.tup xs] => some xs
  | _ => none
def gItS : List D → Option (List D)
  | [.str x] => some (x.cps.toList.map fun c => .str ⟨#[c]⟩)
  | _ => none
def dInts (lo : Int) (n : Nat) : List D := (List.range n).map fun i => .int (lo + (i : Nat))
def gRng1 : List D → Option (List D)
  | [.int j] => if -(2 ^ 62) ≤ j ∧ j < 2 ^ 62 then some (dInts 0 j.toNat) else none
  | _ => none
def gRng2 : List D → Option (List D)
  | [.int i, .int j] => if -(2 ^ 62) ≤ i ∧ i < 2 ^ 62 ∧ -(2 ^ 62) ≤ j ∧ j < 2 ^ 62 then some (dInts i (j - i).toNat) else none
  | _ => none
def lstF : D → Option (List D)
  | .lst xs => some xs
  | .frl xs => some xs
  | _ => none
def gZip : List D → Option (List D)
  | [x, y] => match lstF x, lstF y with
    | some xs, some ys => some ((xs.zip ys).map fun p => .tup [p.1, p.2])
    | _, _ => none
  | _ => none
def gEnum : List D → Option (List D)
  | [x] => match lstF x with
    | some xs => some ((List.range xs.length).zip xs |>.map fun p => .tup [.int (p.1 : Nat), p.2])
    | _ => none
  | _ => none
section
variable {B : Bd} {G : Hp}
/-- a list -/
theorem itd_list {a : Addr} {vs : List V} {ds : List D} (h : SqL B.K G a vs) (l : vs.length = ds.length) (c : ∀ (i : Nat) v d, vs[i]? = some v → ds[i]? = some d → ∀ H, Rep B G H v d nof) : ItD B (Itl B.K a) ds G := by
  refine ⟨fun i G' H' g1 g2 hi => ⟨vs, vs[i]'(by omega), sqL_mono (sqL_mono h g1) g2, List.getElem?_eq_getElem _⟩, fun G' H' g1 g2 => ⟨vs, sqL_mono (sqL_mono h g1) g2, by omega⟩, fun i G' H' x H'' g1 g2 hi y => ?_⟩
  obtain ⟨rfl, y⟩ := y
  have e := y vs (sqL_mono (sqL_mono h g1) g2)
  exact ⟨ds[i], G', List.getElem?_eq_getElem hi, g2, (c i x ds[i] e (List.getElem?_eq_getElem hi) H'').keep g1 fun _ h => h.elim, .refl fun _ h => h⟩
theorem itd_tup {a : Addr} {vs : List V} {ds : List D} (h : SqT B.K G a vs) (l : vs.length = ds.length) (c : ∀ (i : Nat) v d, vs[i]? = some v → ds[i]? = some d → ∀ H, Rep B G H v d nof) : ItD B (Itt B.K a) ds G := by
  refine ⟨fun i G' H' g1 g2 hi => ⟨vs, vs[i]'(by omega), sqT_mono (sqT_mono h g1) g2, List.getElem?_eq_getElem _⟩, fun G' H' g1 g2 => ⟨vs, sqT_mono (sqT_mono h g1) g2, by omega⟩, fun i G' H' x H'' g1 g2 hi y => ?_⟩
  obtain ⟨rfl, y⟩ := y
  have e := y vs (sqT_mono (sqT_mono h g1) g2)
  exact ⟨ds[i], G', List.getElem?_eq_getElem hi, g2, (c i x ds[i] e (List.getElem?_eq_getElem hi) H'').keep g1 fun _ h => h.elim, .refl fun _ h => h⟩
theorem itd_range {lo : Int} {n : Nat} : ItD B (Itr lo n) (dInts lo n) G := by
  have len : (dInts lo n).length = n := by simp [dInts]
  refine ⟨fun i G' H' g1 g2 hi => by rw [len] at hi; exact hi, fun G' H' g1 g2 => by rw [len]; exact Nat.le_refl n, fun i G' H' x H'' g1 g2 hi y => ?_⟩
  obtain ⟨rfl, rfl⟩ := y
  rw [len] at hi
  exact ⟨.int (lo + (i : Nat)), G', by simp [dInts, hi], g2, .int _, .refl fun _ h => h⟩
theorem itd_str {x : Str} : ItD B (Its x) (x.cps.toList.map fun c => .str ⟨#[c]⟩) G := by
  have len : (x.cps.toList.map fun c => (D.str ⟨#[c]⟩)).length = x.cps.size := by simp
  refine ⟨fun i G' H' g1 g2 hi => by rw [len] at hi; exact hi, fun G' H' g1 g2 => by rw [len]; exact Nat.le_refl _, fun i G' H' v H'' g1 g2 hi y => ?_⟩
  obtain ⟨rfl, ch, e, rfl⟩ := y
  refine ⟨.str ⟨#[ch]⟩, G', ?_, g2, .str _, .refl fun _ h => h⟩
  rw [List.getElem?_map, Array.getElem?_toList, e]
  rfl
theorem rep_lstF {H : Hp} {v : V} {d : D} {T : FP} (r : Rep B G H v d T) {ds : List D} (h : lstF d = some ds) : ∃ a vs, v = .ref a ∧ SqL B.K G a vs ∧ vs.length = ds.length ∧ ∀ (i : Nat) v d, vs[i]? = some v → ds[i]? = some d → ∀ H', Rep B G H' v d nof := by
  cases r with
  | lst h' l c => cases h; exact ⟨_, _, rfl, .of h', l, fun i v d e1 e2 H' => (c i v d e1 e2).any⟩
  | frl h' l c => cases h; exact ⟨_, _, rfl, h', l, fun i v d e1 e2 H' => (c i v d e1 e2).any⟩
  | _ => cases h
theorem gone {G H : Hp} {T : Addr} (s : ∀ b o, G b = some o → H b = some o) (h : H T = none) : G T = none := no_g s h
theorem rep_pair2 {G' H' : Hp} {T : Addr} {x y : V} {d e : D} (hT : G' T = none) (r1 : Rep B G' H' x d nof) (r2 : Rep B G' H' y e nof) : Rep B (upd G' T (.tup [x, y])) (upd H' T (.tup [x, y])) (.ref T) (.tup [d, e]) nof := by
  have up : ∀ b o, G' b = some o → upd G' T (.tup [x, y]) b = some o := fun b o e => by rw [upd_ne (ne_of_none e hT)]; exact e
  refine .tup (.inl (.inl upd_same)) rfl fun i v d' e1 e2 => ?_
  cases i with
  | zero => cases e1; cases e2; exact r1.keep up fun _ h => h.elim
  | succ i => cases i with
    | zero => cases e1; cases e2; exact r2.keep up fun _ h => h.elim
    | succ i => simp at e1
theorem itd_zip {a b : Addr} {vs ws : List V} {xs ys : List D} (h1 : SqL B.K G a vs) (h2 : SqL B.K G b ws) (l1 : vs.length = xs.length) (l2 : ws.length = ys.length)
    (c1 : ∀ (i : Nat) v d, vs[i]? = some v → xs[i]? = some d → ∀ H, Rep B G H v d nof) (c2 : ∀ (i : Nat) v d, ws[i]? = some v → ys[i]? = some d → ∀ H, Rep B G H v d nof) :
    ItD B (Itz B.K a b) ((xs.zip ys).map fun p => .tup [p.1, p.2]) G := by
  have len : ((xs.zip ys).map fun p => D.tup [p.1, p.2]).length = min xs.length ys.length := by simp
  refine ⟨fun i G' H' g1 g2 hi => ?_, fun G' H' g1 g2 => ?_, fun i G' H' v H'' g1 g2 hi y => ?_⟩
  · rw [len] at hi
    exact ⟨vs, ws, vs[i]'(by omega), ws[i]'(by omega), sqL_mono (sqL_mono h1 g1) g2, sqL_mono (sqL_mono h2 g1) g2, List.getElem?_eq_getElem _, List.getElem?_eq_getElem _⟩
  · rw [len]
    exact ⟨vs, ws, sqL_mono (sqL_mono h1 g1) g2, sqL_mono (sqL_mono h2 g1) g2, by omega⟩
  · rw [len] at hi
    obtain ⟨T, x, z, rfl, hT, rfl, k1, k2⟩ := y
    have e1 := k1 vs (sqL_mono (sqL_mono h1 g1) g2)
    have e2 := k2 ws (sqL_mono (sqL_mono h2 g1) g2)
    have hx : i < xs.length := by omega
    have hy : i < ys.length := by omega
    refine ⟨.tup [xs[i], ys[i]], _, ?_, sub_new hT g2, rep_pair2 (gone g2 hT) ((c1 i x xs[i] e1 (List.getElem?_eq_getElem hx) H').keep g1 fun _ h => h.elim) ((c2 i z ys[i] e2 (List.getElem?_eq_getElem hy) H').keep g1 fun _ h => h.elim), ext_new hT g2⟩
    rw [List.getElem?_map, List.getElem?_eq_getElem (by simp; omega)]
    simp
theorem itd_enum {a : Addr} {vs : List V} {xs : List D} (h1 : SqL B.K G a vs) (l1 : vs.length = xs.length) (c1 : ∀ (i : Nat) v d, vs[i]? = some v → xs[i]? = some d → ∀ H, Rep B G H v d nof) :
    ItD B (Ite B.K a) ((List.range xs.length).zip xs |>.map fun p => .tup [.int (p.1 : Nat), p.2]) G := by
  have len : ((List.range xs.length).zip xs |>.map fun p => D.tup [.int (p.1 : Nat), p.2]).length = xs.length := by simp
  refine ⟨fun i G' H' g1 g2 hi => ?_, fun G' H' g1 g2 => ?_, fun i G' H' v H'' g1 g2 hi y => ?_⟩
  · rw [len] at hi
    exact ⟨vs, vs[i]'(by omega), sqL_mono (sqL_mono h1 g1) g2, List.getElem?_eq_getElem _⟩
  · rw [len]
    exact ⟨vs, sqL_mono (sqL_mono h1 g1) g2, by omega⟩
  · rw [len] at hi
    obtain ⟨T, x, rfl, hT, rfl, k1⟩ := y
    have e1 := k1 vs (sqL_mono (sqL_mono h1 g1) g2)
    refine ⟨.tup [.int (i : Nat), xs[i]], _, ?_, sub_new hT g2, rep_pair2 (gone g2 hT) (.int _) ((c1 i x xs[i] e1 (List.getElem?_eq_getElem hi) H').keep g1 fun _ h => h.elim), ext_new hT g2⟩
    rw [List.getElem?_map, List.getElem?_eq_getElem (by simp; omega)]
    simp
end
section
variable {ca : Nat → Addr} {X : Cx} {tg e e2 : Expr} {fe : Ev AV} {fs : Ev (List AV)} {p pos tpos : Pos} {elts : List Expr} {kk : Nat}
theorem di_list (he : DE ca X e fe) : DI ca X tg e (evIt gItL (evCons fe evNil)) := fun W tk => PI.imp (pi_list (he W tk)) fun σ H R h => by
  refine tD_map (tDL_cons (tI_of h)) fun x H1 k => ?_
  obtain ⟨G, ds, xs, s, rr, e, z⟩ := tDL_nil k
  cases rr with
  | cons r t =>
    cases t
    unfold gItL at e
    split at e
    · rename_i heq; cases heq; cases e
      obtain ⟨a, vs, rfl, hq, l, c⟩ := rep_lstF r (ds := xs) rfl
      exact ⟨a, rfl, ⟨vs, sqL_mono hq s⟩, z _ (itd_list hq l c)⟩
    · rename_i heq; cases heq; cases e
      obtain ⟨a, vs, rfl, hq, l, c⟩ := rep_lstF r (ds := xs) rfl
      exact ⟨a, rfl, ⟨vs, sqL_mono hq s⟩, z _ (itd_list hq l c)⟩
    · cases e
theorem di_tup (he : DE ca X e fe) : DI ca X tg e (evIt gItT (evCons fe evNil)) := fun W tk => PI.imp (pi_tup (he W tk)) fun σ H R h => by
  refine tD_map (tDL_cons (tI_of h)) fun x H1 k => ?_
  obtain ⟨G, ds, xs, s, rr, e, z⟩ := tDL_nil k
  cases rr with
  | cons r t =>
    cases t
    unfold gItT at e
    split at e
    · rename_i heq; cases heq; cases e
      cases r with
      | tup h' l c => exact ⟨_, rfl, ⟨_, sqT_mono h' s⟩, z _ (itd_tup h' l fun i v d e1 e2 H' => (c i v d e1 e2).any)⟩
    · cases e
theorem di_str (he : DE ca X e fe) : DI ca X tg e (evIt gItS (evCons fe evNil)) := fun W tk => PI.imp (pi_str (he W tk)) fun σ H R h => by
  refine tD_map (tDL_cons (tI_of h)) fun x H1 k => ?_
  obtain ⟨G, ds, xs, s, rr, e, z⟩ := tDL_nil k
  cases rr with
  | cons r t =>
    cases t
    unfold gItS at e
    split at e
    · rename_i heq; cases heq; cases e
      cases r
      exact ⟨_, rfl, z _ itd_str⟩
    · cases e
theorem di_range1 (hm : X.mg "range" = none) (ha : DA ca X [e] fs) (hg : Gl X "range" := by rfl) (hs : starEach [e] X.env = [(false, eval e X.env)] := by rfl) : DI ca X tg (.Call (.Name "range" p) [e] [] pos) (evIt gRng1 fs) := fun W tk =>
  PI.imp (pi_range1 hg hm (ha W tk) hs) fun σ H R h => tDL_map (tI_of h) fun vs H1 ⟨G, ds, xs, s, rr, e, z⟩ => by
    unfold gRng1 at e
    split at e
    · split at e
      · rename_i hz
        cases e
        obtain ⟨x, rfl, r⟩ := paired1 rr
        cases r
        exact ⟨_, rfl, hz.1, hz.2, z _ itd_range⟩
      · cases e
    · cases e
theorem di_range2 (hm : X.mg "range" = none) (ha : DA ca X [e, e2] fs) (hg : Gl X "range" := by rfl) (hs : starEach [e, e2] X.env = [(false, eval e X.env), (false, eval e2 X.env)] := by rfl) (hs2 : starEach [e2] X.env = [(false, eval e2 X.env)] := by rfl) : DI ca X tg (.Call (.Name "range" p) [e, e2] [] pos) (evIt gRng2 fs) := fun W tk =>
  PI.imp (pi_range2 hg hm (ha W tk) hs hs2) fun σ H R h => tDL_map (tI_of h) fun vs H1 ⟨G, ds, xs, s, rr, e, z⟩ => by
    unfold gRng2 at e
    split at e
    · split at e
      · rename_i hz
        cases e
        obtain ⟨x, y, rfl, r1, r2⟩ := paired2 rr
        cases r1; cases r2
        exact ⟨_, _, rfl, hz, z _ itd_range⟩
      · cases e
    · cases e
theorem di_zip (hm : X.mg "zip" = none) (ha : DA ca X [e, e2] fs) (hg : Gl X "zip" := by rfl) (hs : starEach [e, e2] X.env = (false, eval e X.env) :: starEach [e2] X.env := by rfl) (hpl : (backTo pos (starEach [e2] X.env)).any (·.1) = false := by rfl) :
    DI ca X (.Tuple elts kk tpos) (.Call (.Name "zip" p) [e, e2] [] pos) (evIt gZip fs) := fun W tk =>
  PI.imp (pi_zip hg hm (ha W tk) hs hpl) fun σ H R h => tDL_map (tI_of h) fun vs H1 ⟨G, ds, xs, s, rr, e, z⟩ => by
    unfold gZip at e
    split at e
    · split at e
      · rename_i xs ys h1 h2
        cases e
        obtain ⟨x, y, rfl, r1, r2⟩ := paired2 rr
        obtain ⟨a, us, rfl, q1, l1, c1⟩ := rep_lstF r1 h1
        obtain ⟨b, ws, rfl, q2, l2, c2⟩ := rep_lstF r2 h2
        exact ⟨a, b, us, ws, rfl, sqL_mono q1 s, sqL_mono q2 s, z _ (itd_zip q1 q2 l1 l2 c1 c2)⟩
      · cases e
    · cases e
theorem di_enum (hm : X.mg "enumerate" = none) (ha : DA ca X [e] fs) (hg : Gl X "enumerate" := by rfl) (hs : starEach [e] X.env = [(false, eval e X.env)] := by rfl) :
    DI ca X (.Tuple elts kk tpos) (.Call (.Name "enumerate" p) [e] [] pos) (evIt gEnum fs) := fun W tk =>
  PI.imp (pi_enum hg hm (ha W tk) hs) fun σ H R h => tDL_map (tI_of h) fun vs H1 ⟨G, ds, xs, s, rr, e, z⟩ => by
    unfold gEnum at e
    split at e
    · split at e
      · rename_i xs h1
        cases e
        obtain ⟨x, rfl, r1⟩ := paired1 rr
        obtain ⟨a, us, rfl, q1, l1, c1⟩ := rep_lstF r1 h1
        exact ⟨a, us, rfl, sqL_mono q1 s, z _ (itd_enum q1 l1 c1)⟩
      · cases e
    · cases e
end

/-! ### for -/
def forE (t : Tgt) (body : Sv) : List D → Sv
  | [], ρ => some (.nx ρ)
  | d :: ds, ρ => match t d ρ with
    | none => none
    | some ρ1 => match body ρ1 with
      | some (.nx ρ2) => forE t body ds ρ2
      | some (.cnt ρ2) => forE t body ds ρ2
      | some (.brk ρ2) => some (.nx ρ2)
      | o => o
def sFor (fi : Ev (List D)) (t : Tgt) (body : Sv) : Sv := evS fi fun ds => forE t body ds
section
variable {ca : Nat → Addr} {X : Cx} {I : List Nat} {tg iter : Expr} {body : List Stmt} {fi : Ev (List D)} {t : Tgt} {fb : Sv} {pos : Pos}
theorem ds_for (hc : X.calm = true) (hi : DI ca X tg iter fi) (hg : DG ca X I tg t) (hb : DB ca X I body fb) (hs : ∀ x, foldedSetIterable iter X.env x = pure x := by intro _; rfl) : DS ca X I (.For tg iter body [] pos) (sFor fi t fb) := fun W tk ps =>
  PS.imp (ps_for ps hc (hi W tk) hg (hb W tk ps) hs) fun Dn σ H h => by
    obtain ⟨G, ρ, F, o, c, e, z⟩ := h
    unfold sFor evS at e
    cases hf : fi ρ with
    | none => rw [hf] at e; cases e
    | some u =>
      rw [hf] at e
      cases u with
      | exc er ρ' => cases e; exact ⟨G, ρ, F, _, c, hf, exc_out z⟩
      | ok ds ρ1 =>
        refine ⟨G, ρ, F, _, c, hf, fun J G1 H1 F1 c1 it x1 => ?_⟩
        have z1 := endS_trans z .refl x1
        refine ⟨fun i m σ' H' => m = ds.length - i ∧ i ≤ ds.length ∧ ∃ G' ρ' F' o', Cfg ⟨X.K, ca⟩ G' H' σ' ρ' F' ∧ (∀ b o, G1 b = some o → G' b = some o) ∧ forE t fb (ds.drop i) ρ' = some o' ∧ endS ⟨X.K, ca⟩ W I σ' G' H' (un F') Dn o',
          ⟨ds.length, by simp, Nat.zero_le _, G1, ρ1, F1, o, c1, fun _ _ h => h, e, z1⟩, ?_⟩
        rintro i m σ' H' ⟨rfl, hi, G', ρ', F', o', c', gg, e', z'⟩
        by_cases hlt : i < ds.length
        · have hd : ds.drop i = ds[i] :: ds.drop (i + 1) := List.drop_eq_getElem_cons hlt
          rw [hd] at e'
          unfold forE at e'
          cases ht : t ds[i] ρ' with
          | none => rw [ht] at e'; cases e'
          | some ρ2 =>
            rw [ht] at e'
            dsimp only at e'
            refine .inr ⟨it.go i G' H' gg c'.sub hlt, fun σ2 H2 => i + 1 ≤ ds.length ∧ ∃ G2 ρ3 F2 o2, Cfg ⟨X.K, ca⟩ G2 H2 σ2 ρ3 F2 ∧ (∀ b o, G1 b = some o → G2 b = some o) ∧ forE t fb (ds.drop (i + 1)) ρ3 = some o2 ∧ endS ⟨X.K, ca⟩ W I σ2 G2 H2 (un F2) Dn o2,
              fun σ2 H2 hN => ⟨ds.length - (i + 1), by omega, rfl, hN⟩, fun x H'' y => ?_⟩
            obtain ⟨d, G'', hd', sub'', rx, x''⟩ := it.yld i G' H' x H'' gg c'.sub hlt y
            have hdd : d = ds[i] := by rw [List.getElem?_eq_getElem hlt] at hd'; cases hd'; rfl
            subst hdd
            have c'' := c'.grow x'' sub''
            refine ⟨G'', ρ', F', ds[i], ρ2, c'', rx, ht, fun σ2 G2 H2 F2 p2 c2 x2 => ?_⟩
            have xx : Ext G' H' (un F') G2 H2 (un F2) := (Ext.more (.refl fun _ h => h) x'' |>.mono (fun _ h => h) (fun _ h => .inl h)).trans x2
            have z2 := endS_trans z' p2 xx
            have gg2 : ∀ b o, G1 b = some o → G2 b = some o := fun b o h => xx.gg b o (gg b o h)
            cases hb' : fb ρ2 with
            | none => rw [hb'] at e'; cases e'
            | some ob =>
              rw [hb'] at e'
              refine ⟨G2, ρ2, F2, ob, c2, hb', ?_⟩
              cases ob with
              | nx ρ3 => exact fun σ3 G3 H3 F3 p3 c3 x3 => ⟨hlt, G3, ρ3, F3, o', c3, fun b o h => x3.gg b o (gg2 b o h), e', endS_trans z2 p3 x3⟩
              | cnt ρ3 => exact fun σ3 G3 H3 F3 p3 c3 x3 => ⟨hlt, G3, ρ3, F3, o', c3, fun b o h => x3.gg b o (gg2 b o h), e', endS_trans z2 p3 x3⟩
              | brk ρ3 => cases e'; exact z2
              | ret d ρ3 => cases e'; exact z2
              | exc er ρ3 => cases e'; exact z2
        · have hi' : i = ds.length := by omega
          subst hi'
          rw [List.drop_length] at e'
          cases e'
          exact .inl ⟨it.stop G' H' gg c'.sub, z' σ' G' H' F' .refl c' (.refl fun _ h => h)⟩
end

/-! ### while -/
def whF (c : Ev Bool) (body : Sv) : Nat → Sv
  | 0, _ => none
  | n + 1, ρ => match c ρ with
    | none => none
    | some (.exc e ρ1) => some (.exc e ρ1)
    | some (.ok false ρ1) => some (.nx ρ1)
    | some (.ok true ρ1) => match body ρ1 with
      | some (.nx ρ2) => whF c body n ρ2
      | some (.cnt ρ2) => whF c body n ρ2
      | some (.brk ρ2) => some (.nx ρ2)
      | o => o
theorem whF_mono {c : Ev Bool} {body : Sv} : ∀ {n : Nat} {ρ : DEnv} {o : SOut}, whF c body n ρ = some o → whF c body (n + 1) ρ = some o
  | 0, _, _, h => by cases h
  | n + 1, ρ, o, h => by
    unfold whF at h ⊢
    cases hc : c ρ with
    | none => rw [hc] at h; cases h
    | some u =>
      rw [hc] at h
      cases u with
      | exc e ρ1 => exact h
      | ok b ρ1 =>
        cases b with
        | false => exact h
        | true =>
          dsimp only at h ⊢
          cases hb : body ρ1 with
          | none => rw [hb] at h; cases h
          | some ob =>
            rw [hb] at h
            cases ob with
            | nx ρ2 => exact whF_mono h
            | cnt ρ2 => exact whF_mono h
            | brk ρ2 => exact h
            | ret d ρ2 => exact h
            | exc e ρ2 => exact h
theorem whF_le {c : Ev Bool} {body : Sv} {n m : Nat} {ρ : DEnv} {o : SOut} (h : whF c body n ρ = some o) (hm : n ≤ m) : whF c body m ρ = some o := by
  induction hm with
  | refl => exact h
  | step _ ih => exact whF_mono ih
open Classical in
noncomputable def whE (c : Ev Bool) (body : Sv) : Sv := fun ρ => if h : ∃ o n, whF c body n ρ = some o then some h.choose else none
theorem whE_of {c : Ev Bool} {body : Sv} {n : Nat} {ρ : DEnv} {o : SOut} (h : whF c body n ρ = some o) : whE c body ρ = some o := by
  have hx : ∃ o n, whF c body n ρ = some o := ⟨o, n, h⟩
  unfold whE
  rw [dif_pos hx]
  obtain ⟨n2, h2⟩ := hx.choose_spec
  have e1 := whF_le h (Nat.le_max_left n n2)
  have e2 := whF_le h2 (Nat.le_max_right n n2)
  rw [e1] at e2
  exact e2.symm
theorem whE_some {c : Ev Bool} {body : Sv} {ρ : DEnv} {o : SOut} (h : whE c body ρ = some o) : ∃ n, whF c body n ρ = some o := by
  unfold whE at h
  split at h
  · rename_i hx
    cases h
    exact hx.choose_spec
  · cases h
section
variable {ca : Nat → Addr} {X : Cx} {I : List Nat} {c : Expr} {body : List Stmt} {fc : Ev Bool} {fb : Sv} {pos : Pos}
theorem ds_while (hc : DT ca X c fc) (hb : DB ca X I body fb) : DS ca X I (.While c body [] pos) (whE fc fb) := fun W tk ps =>
  PS.imp (ps_while ps (hc W tk) (hb W tk ps)) fun Dn σ H h => by
    obtain ⟨G, ρ, F, o, cf, e, z⟩ := h
    obtain ⟨n, e⟩ := whE_some e
    refine ⟨fun m σ' H' => ∃ G' ρ' F' o', Cfg ⟨X.K, ca⟩ G' H' σ' ρ' F' ∧ whF fc fb m ρ' = some o' ∧ endS ⟨X.K, ca⟩ W I σ' G' H' (un F') Dn o', ⟨n, G, ρ, F, o, cf, e, z⟩, ?_⟩
    rintro m σ' H' ⟨G', ρ', F', o', c', e', z'⟩
    cases m with
    | zero => cases e'
    | succ m =>
      unfold whF at e'
      cases hcc : fc ρ' with
      | none => rw [hcc] at e'; cases e'
      | some u =>
        rw [hcc] at e'
        cases u with
        | exc er ρ1 => cases e'; exact ⟨G', ρ', F', _, c', hcc, exc_out z'⟩
        | ok b ρ1 =>
          refine ⟨G', ρ', F', _, c', hcc, fun G1 H1 F1 c1 x1 => ?_⟩
          have z1 := endS_trans z' .refl x1
          cases b with
          | false => cases e'; exact L2.iteF (z1 σ' G1 H1 F1 .refl c1 (.refl fun _ h => h))
          | true =>
            refine L2.iteT ?_
            dsimp only at e'
            refine ⟨fun σ2 H2 => ∃ G2 ρ2 F2 o2, Cfg ⟨X.K, ca⟩ G2 H2 σ2 ρ2 F2 ∧ whF fc fb m ρ2 = some o2 ∧ endS ⟨X.K, ca⟩ W I σ2 G2 H2 (un F2) Dn o2, fun σ2 H2 h => ⟨m, by omega, h⟩, ?_⟩
            cases hb' : fb ρ1 with
            | none => rw [hb'] at e'; cases e'
            | some ob =>
              rw [hb'] at e'
              refine ⟨G1, ρ1, F1, ob, c1, hb', ?_⟩
              cases ob with
              | nx ρ3 => exact fun σ3 G3 H3 F3 p3 c3 x3 => ⟨G3, ρ3, F3, o', c3, e', endS_trans z1 p3 x3⟩
              | cnt ρ3 => exact fun σ3 G3 H3 F3 p3 c3 x3 => ⟨G3, ρ3, F3, o', c3, e', endS_trans z1 p3 x3⟩
              | brk ρ3 => cases e'; exact z1
              | ret d ρ3 => cases e'; exact z1
              | exc er ρ3 => cases e'; exact z1
end
end DL

namespace DL
open PySem PySem.Spec PyProof.Rows L2

/-! ### list comprehensions -/
def wipeD (ρ : DEnv) : List Nat → DEnv
  | [] => ρ
  | v :: vs => (wipeD ρ vs).set v none
/-- the slots in vs as they were in ρ0 -/
def restD (ρ0 ρ : DEnv) : List Nat → DEnv
  | [] => ρ
  | v :: vs => match ρ0[v]? with
    | some o => (restD ρ0 ρ vs).set v o
    | none => restD ρ0 ρ vs
theorem wipeD_len (ρ : DEnv) : ∀ vs : List Nat, (wipeD ρ vs).length = ρ.length
  | [] => rfl
  | v :: vs => by rw [wipeD, List.length_set, wipeD_len ρ vs]
theorem restD_len (ρ0 ρ : DEnv) : ∀ vs : List Nat, (restD ρ0 ρ vs).length = ρ.length
  | [] => rfl
  | v :: vs => by
    unfold restD
    split
    · rw [List.length_set, restD_len ρ0 ρ vs]
    · exact restD_len ρ0 ρ vs
theorem wipeD_in {ρ : DEnv} {i : Nat} : ∀ {vs : List Nat}, i ∈ vs → ∀ d, (wipeD ρ vs)[i]? ≠ some (some d)
  | v :: vs, h, d, e => by
    rw [wipeD] at e
    by_cases hv : v = i
    · subst hv
      have hl : v < ((wipeD ρ vs).set v none).length := (List.getElem?_eq_some_iff.mp e).1
      rw [List.getElem?_set_self (by simpa using hl)] at e
      cases e
    · rw [List.getElem?_set_ne hv] at e
      exact wipeD_in ((List.mem_cons.mp h).resolve_left (Ne.symm hv)) d e
theorem wipeD_out {ρ : DEnv} {i : Nat} : ∀ {vs : List Nat}, i ∉ vs → (wipeD ρ vs)[i]? = ρ[i]?
  | [], _ => rfl
  | v :: vs, h => by
    rw [wipeD, List.getElem?_set_ne fun z => h (by simp [z])]
    exact wipeD_out fun z => h (by simp [z])
theorem restD_in {ρ0 ρ : DEnv} (l : ρ0.length = ρ.length) {i : Nat} : ∀ {vs : List Nat}, i ∈ vs → (restD ρ0 ρ vs)[i]? = ρ0[i]?
  | v :: vs, h => by
    unfold restD
    by_cases hv : v = i
    · subst hv
      cases q : ρ0[v]? with
      | none =>
        have : ρ.length ≤ v := by rw [← l]; exact List.getElem?_eq_none_iff.mp q
        dsimp only
        rw [List.getElem?_eq_none_iff.mpr (by rw [restD_len]; exact this)]
      | some o =>
        dsimp only
        have hl : v < ρ0.length := (List.getElem?_eq_some_iff.mp q).1
        rw [List.getElem?_set_self (by rw [restD_len, ← l]; exact hl)]
    · have hm := (List.mem_cons.mp h).resolve_left (Ne.symm hv)
      split
      · rw [List.getElem?_set_ne hv]; exact restD_in l hm
      · exact restD_in l hm
theorem restD_out {ρ0 ρ : DEnv} {i : Nat} : ∀ {vs : List Nat}, i ∉ vs → (restD ρ0 ρ vs)[i]? = ρ[i]?
  | [], _ => rfl
  | v :: vs, h => by
    unfold restD
    split
    · rw [List.getElem?_set_ne fun z => h (by simp [z])]
      exact restD_out fun z => h (by simp [z])
    · exact restD_out fun z => h (by simp [z])
theorem wipe_in {σ : L2.St} {i : Nat} (hi : i < σ.length) : ∀ {vs : List Nat}, i ∈ vs → (wipe σ vs)[i]? = some none
  | v :: vs, h => by
    unfold wipe
    by_cases hv : v = i
    · subst hv; rw [List.getElem?_set_self (by rw [wipe_length]; exact hi)]
    · rw [List.getElem?_set_ne hv]; exact wipe_in hi ((List.mem_cons.mp h).resolve_left (Ne.symm hv))
theorem wipe_ext {σ σ' : L2.St} {vs : List Nat} (l : σ'.length = σ.length) (h : ∀ i, i ∉ vs → σ'[i]? = (wipe σ vs)[i]?) : wipe σ' vs = wipe σ vs := by
  refine List.ext_getElem? fun i => ?_
  by_cases hi : i ∈ vs
  · by_cases hl : i < σ.length
    · rw [wipe_in hl hi, wipe_in (by omega) hi]
    · rw [List.getElem?_eq_none_iff.mpr (by rw [wipe_length]; omega), List.getElem?_eq_none_iff.mpr (by rw [wipe_length]; omega)]
  · rw [wipe_out hi, h i hi]
section
variable {B : Bd} {G H : Hp} {σ : L2.St} {ρ : DEnv} {F : Nat → FP}
theorem Cfg.wipe (c : Cfg B G H σ ρ F) (vs : List Nat) : Cfg B G H (L2.wipe σ vs) (wipeD ρ vs) (fun j x => F j x ∧ j ∉ vs) := by
  refine ⟨c.sub, by rw [wipeD_len, wipe_length]; exact c.len, fun i d e => ?_, fun i h x hx => ?_, fun i j x a b => c.dis i j x a.1 b.1⟩
  · by_cases hi : i ∈ vs
    · exact (wipeD_in hi d e).elim
    · rw [wipeD_out hi] at e
      obtain ⟨v, e1, r⟩ := c.slot i d e
      refine ⟨v, by rw [wipe_out hi]; exact e1, ?_⟩
      have en : (fun x => F i x ∧ i ∉ vs) = F i := by funext x; exact propext ⟨fun z => z.1, fun z => ⟨z, hi⟩⟩
      rw [en]; exact r
  · obtain ⟨d, v, e1, _, _⟩ := c.own hx.1
    exact h d (by rw [wipeD_out hx.2]; exact e1)
/-- back to the slots that were wiped -/
theorem Cfg.rest {G' H' : Hp} {ρ' : DEnv} {F' : Nat → FP} {W' : FP} {vs : List Nat} (c : Cfg B G H σ ρ F) (c' : Cfg B G' H' (L2.wipe σ vs) ρ' F') (x : Ext G H (un fun j x => F j x ∧ j ∉ vs) G' H' W') (w : ∀ y, un F' y → W' y) :
    Cfg B G' H' σ (restD ρ ρ' vs) (fun j y => (j ∈ vs ∧ F j y) ∨ (j ∉ vs ∧ F' j y)) ∧ ∀ y, (∃ j, j ∈ vs ∧ F j y) → ¬ W' y := by
  have l : ρ.length = ρ'.length := by rw [c.len, c'.len, wipe_length]
  have fr : ∀ i d v, i ∈ vs → Rep B G H v d (F i) → Rep B G' H' v d (F i) ∧ ∀ b, F i b → ¬ W' b := fun i d v hi r => r.frame x fun b hb ⟨j, hj⟩ => hj.2 (by rw [c.dis j i b hj.1 hb]; exact hi)
  refine ⟨⟨c'.sub, by rw [restD_len, c'.len, wipe_length], fun i d e => ?_, fun i h y hy => ?_, fun i j y a b => ?_⟩, fun y ⟨j, hj, hy⟩ => ?_⟩
  · by_cases hi : i ∈ vs
    · rw [restD_in l hi] at e
      obtain ⟨v, e1, r⟩ := c.slot i d e
      refine ⟨v, e1, ?_⟩
      have en : (fun y => (i ∈ vs ∧ F i y) ∨ (i ∉ vs ∧ F' i y)) = F i := by funext y; exact propext ⟨fun z => z.elim (·.2) fun z => (z.1 hi).elim, fun z => .inl ⟨hi, z⟩⟩
      rw [en]; exact (fr i d v hi r).1
    · rw [restD_out hi] at e
      obtain ⟨v, e1, r⟩ := c'.slot i d e
      rw [wipe_out hi] at e1
      refine ⟨v, e1, ?_⟩
      have en : (fun y => (i ∈ vs ∧ F i y) ∨ (i ∉ vs ∧ F' i y)) = F' i := by funext y; exact propext ⟨fun z => z.elim (fun z => (hi z.1).elim) (·.2), fun z => .inr ⟨hi, z⟩⟩
      rw [en]; exact r
  · rcases hy with ⟨hi, hy⟩ | ⟨hi, hy⟩
    · obtain ⟨d, v, e1, _, _⟩ := c.own hy
      exact h d (by rw [restD_in l hi]; exact e1)
    · obtain ⟨d, v, e1, _, _⟩ := c'.own hy
      exact h d (by rw [restD_out hi]; exact e1)
  · rcases a with ⟨h1, a⟩ | ⟨h1, a⟩ <;> rcases b with ⟨h2, b⟩ | ⟨h2, b⟩
    · exact c.dis i j y a b
    · obtain ⟨d, v, _, _, r⟩ := c.own a
      exact ((fr i d v h1 r).2 y a (w y ⟨j, b⟩)).elim
    · obtain ⟨d, v, _, _, r⟩ := c.own b
      exact ((fr j d v h2 r).2 y b (w y ⟨i, a⟩)).elim
    · exact c'.dis i j y a b
  · obtain ⟨d, v, _, _, r⟩ := c.own hy
    exact (fr j d v hj r).2 y hy
end
def evYes : Ev Bool := .pure true
/-- the items one by one; acc: what is made so far -/
def compE (vs : List Nat) (t : Tgt) (c : Ev Bool) (f : Ev AV) : List D → List D → DEnv → Option (List D × DEnv)
  | [], acc, ρ => some (acc, wipeD ρ vs)
  | d :: ds, acc, ρ => match t d (wipeD ρ vs) with
    | none => none
    | some ρ1 => match c ρ1 with
      | some (.ok false ρ2) => compE vs t c f ds acc ρ2
      | some (.ok true ρ2) => match f ρ2 with
        | some (.ok av ρ3) => match cont ρ3 av with
          | some e => if acc.length < 16777216 then compE vs t c f ds (acc ++ [frz e]) (frzS (plS [av]) ρ3) else none
          | none => none
        | _ => none
      | _ => none
def evComp (fi : Ev (List D)) (vs : List Nat) (t : Tgt) (c : Ev Bool) (f : Ev AV) : Ev AV := fi.andThen fun ds ρ => match compE vs t c f ds [] (wipeD ρ vs) with
  | some (acc, ρ') => some (.ok (.val (.ol acc)) (restD ρ ρ' vs))
  | none => none
/-- the slots that are not in vs -/
def others (n : Nat) (vs : List Nat) : List Nat := (List.range n).filter fun i => decide (i ∉ vs)
def DTs (ca : Nat → Addr) (X : Cx) (ifs : List Expr) (f : Ev Bool) : Prop := ∀ W, Takes X W → PTs X ifs (tDT ⟨X.K, ca⟩ W f)
theorem wipeD_get {ρ : DEnv} {i : Nat} (hi : i < ρ.length) : ∀ {vs : List Nat}, i ∈ vs → (wipeD ρ vs)[i]? = some none
  | v :: vs, h => by
    rw [wipeD]
    by_cases hv : v = i
    · subst hv; rw [List.getElem?_set_self (by rw [wipeD_len]; exact hi)]
    · rw [List.getElem?_set_ne hv]; exact wipeD_get hi ((List.mem_cons.mp h).resolve_left (Ne.symm hv))
theorem wipeD_wipeD (ρ : DEnv) (vs : List Nat) : wipeD (wipeD ρ vs) vs = wipeD ρ vs := by
  refine List.ext_getElem? fun i => ?_
  by_cases hi : i ∈ vs
  · by_cases hl : i < ρ.length
    · rw [wipeD_get (by rw [wipeD_len]; exact hl) hi, wipeD_get hl hi]
    · rw [List.getElem?_eq_none_iff.mpr (by rw [wipeD_len, wipeD_len]; omega), List.getElem?_eq_none_iff.mpr (by rw [wipeD_len]; omega)]
  · rw [wipeD_out hi]
theorem compE_wipe {vs : List Nat} {t : Tgt} {fc : Ev Bool} {f : Ev AV} {ds acc : List D} {ρ : DEnv} : compE vs t fc f ds acc (wipeD ρ vs) = compE vs t fc f ds acc ρ := by
  cases ds with
  | nil => unfold compE; rw [wipeD_wipeD]
  | cons d ds => unfold compE; rw [wipeD_wipeD]
section
variable {ca : Nat → Addr} {X : Cx}
theorem PTs.imp {X : Cx} {e : List Expr} {t u : TT} (h : PTs X e t) (k : ∀ (σ : L2.St) (H : Hp) (Q : Bool → Hp → Prop), u σ H Q → t σ H Q) : PTs X e u := ⟨fun pins s σ H Q I q => h.run pins s σ H Q I (k σ H Q q)⟩
theorem dts_nil : DTs ca X [] evYes := fun W tk => PTs.imp pts_nil fun σ H Q h => by
  obtain ⟨G, ρ, F, o, c, e, z⟩ := h
  exact tDT_pure c e z
theorem dts_one {c : Expr} {f : Ev Bool} (h : DT ca X c f) : DTs ca X [c] f := fun W tk => pts_one (h W tk)
variable {elt tg iter : Expr} {ifs : List Expr} {scope : Scope} {own : List (Str × Nat)} {pos : Pos} {fi : Ev (List D)} {t : Tgt} {fc : Ev Bool} {f : Ev AV} {N : Nat}
theorem un_nof (F : Nat → FP) (T : FP) : ∀ x, (un F x ∨ T x) → un F x ∨ T x := fun _ h => h
/-- the reading of a comprehension -/
theorem tD_comp {B : Bd} {W : WX} {σ : L2.St} {H : Hp} {Q : VK} {vs : List Nat} (hN : ∀ {G H : Hp} {ρ : DEnv} {F : Nat → FP}, Cfg B G H σ ρ F → σ.length = N) (h : tD B W (evComp fi vs t fc f) σ H Q) :
    tLc (tI B W fi) (gD B (others N vs) t) (tDT B (fun _ _ _ _ => False) fc) (tD B (fun _ _ _ _ => False) f) vs σ H Q := by
  obtain ⟨G, ρ, F, o, c, e, z⟩ := h
  unfold evComp at e
  cases hf : fi ρ with
  | none => rw [andThen_none hf] at e; cases e
  | some u =>
    cases u with
    | exc er ρ' => rw [andThen_exc hf] at e; cases e; exact ⟨G, ρ, F, _, c, hf, z⟩
    | ok ds ρ1 =>
      rw [andThen_ok hf] at e
      refine ⟨G, ρ, F, _, c, hf, fun J G1 H1 F1 c1 it x1 D hD => ?_⟩
      cases hc : compE vs t fc f ds [] (wipeD ρ1 vs) with
      | none => rw [hc] at e; cases e
      | some q =>
        obtain ⟨acc, ρ'⟩ := q
        rw [hc] at e
        cases e
        have hn := hN c1
        have gD0 : G1 D = none := no_g c1.sub hD
        -- what holds of the state between two turns
        refine ⟨fun i m H' => m = ds.length - i ∧ i ≤ ds.length ∧ ∃ G' ρ2 F2 acc2 vs2, Cfg B G' H' (L2.wipe σ vs) ρ2 F2 ∧ (∀ b o, G1 b = some o → G' b = some o) ∧ Ext G1 H1 (un fun j x => F1 j x ∧ j ∉ vs) G' H' (fun x => un F2 x ∨ x = D) ∧ G' D = none ∧ ¬ un F2 D ∧
            H' D = some (.lst vs2) ∧ Paired (fun v d => Rep B G' H' v d nof) vs2 acc2 ∧ compE vs t fc f (ds.drop i) acc2 ρ2 = some (acc, ρ'),
          ⟨ds.length, by simp, Nat.zero_le _, G1, wipeD ρ1 vs, _, [], [], (c1.wipe vs).grow (ext_own hD) (sub_own hD c1.sub), fun _ _ h => h, ?_, gD0, fun ⟨j, hj⟩ => ?_, upd_same, .nil, hc⟩, ?_⟩
        · have x2 : Ext G1 H1 nof G1 (upd H1 D (.lst [])) (fun x => x = D) := ext_own hD
          exact (Ext.refl (fun _ h => h)).more x2
        · obtain ⟨⟨o, eo⟩, _⟩ := c1.dom ⟨j, hj.1⟩
          rw [hD] at eo; cases eo
        · rintro i m H' ⟨rfl, hi, G', ρ2, F2, acc2, vs2, c2, gg, xx, gD', nD, hD', ra, e'⟩
          by_cases hlt : i < ds.length
          · have hd : ds.drop i = ds[i] :: ds.drop (i + 1) := List.drop_eq_getElem_cons hlt
            rw [hd] at e'
            unfold compE at e'
            refine .inr ⟨it.go i G' H' gg c2.sub hlt, fun H3 => i + 1 ≤ ds.length ∧ ∃ G3 ρ3 F3 acc3 vs3, Cfg B G3 H3 (L2.wipe σ vs) ρ3 F3 ∧ (∀ b o, G1 b = some o → G3 b = some o) ∧ Ext G1 H1 (un fun j x => F1 j x ∧ j ∉ vs) G3 H3 (fun x => un F3 x ∨ x = D) ∧ G3 D = none ∧ ¬ un F3 D ∧
            H3 D = some (.lst vs3) ∧ Paired (fun v d => Rep B G3 H3 v d nof) vs3 acc3 ∧ compE vs t fc f (ds.drop (i + 1)) acc3 ρ3 = some (acc, ρ'), fun H3 hN => ⟨ds.length - (i + 1), by omega, rfl, hN⟩, fun x H'' y => ?_⟩
            obtain ⟨d, G'', hd', sub'', rx, x''⟩ := it.yld i G' H' x H'' gg c2.sub hlt y
            have hdd : d = ds[i] := by rw [List.getElem?_eq_getElem hlt] at hd'; cases hd'; rfl
            subst hdd
            cases ht : t ds[i] (wipeD ρ2 vs) with
            | none => rw [ht] at e'; cases e'
            | some ρ3 =>
              rw [ht] at e'
              dsimp only at e'
              have c2' := c2.grow x'' sub''
              have c2w : Cfg B G'' H'' (L2.wipe σ vs) (wipeD ρ2 vs) (fun j x => F2 j x ∧ j ∉ vs) := by
                have := c2'.wipe vs
                rw [wipe_ext (σ := σ) (wipe_length _ _) fun i _ => rfl] at this
                exact this
              have xx1 : Ext G1 H1 (un fun j x => F1 j x ∧ j ∉ vs) G'' H'' (fun x => un (fun j x => F2 j x ∧ j ∉ vs) x ∨ x = D) := by
                have := xx.more x''
                exact this.mono (fun _ h => h) fun x h => .inl (h.imp (fun ⟨j, hj⟩ => ⟨j, hj.1⟩) id)
              have dD2 : H'' D = some (.lst vs2) := x''.hh D _ hD' id
              have gD2 : G'' D = none := by
                cases w : G'' D with
                | none => rfl
                | some o =>
                  rcases x''.gn D o w with w | w | w
                  · rw [gD'] at w; cases w
                  · exact w.elim
                  · rw [hD'] at w; cases w
              -- a step of this turn: the list stands apart
              have step : ∀ {G3 H3 : Hp} {W3 W4 : FP}, Ext G1 H1 (un fun j x => F1 j x ∧ j ∉ vs) G3 H3 (fun x => W3 x ∨ x = D) → H3 D = some (.lst vs2) → G3 D = none → ¬ W3 D → ∀ {G4 H4 : Hp}, Ext G3 H3 W3 G4 H4 W4 →
                  Ext G1 H1 (un fun j x => F1 j x ∧ j ∉ vs) G4 H4 (fun x => W4 x ∨ x = D) ∧ H4 D = some (.lst vs2) ∧ G4 D = none ∧ ¬ W4 D := fun {G3 H3 W3 W4} xa hd3 gd3 nd3 {G4 H4} xb => by
                refine ⟨?_, xb.hh D _ hd3 nd3, ?_, fun w => ?_⟩
                · have xc : Ext G3 H3 (fun x => W3 x ∨ x = D) G4 H4 (fun x => W4 x ∨ x = D) := ⟨xb.gg, fun b o e n => xb.hh b o e fun w => n (.inl w), fun b hb => hb.elim (fun h => (xb.ww b h).imp .inl id) fun h => .inl (.inr h), fun b o e => (xb.gn b o e).imp id fun h => h.imp .inl id⟩
                  exact xa.trans xc
                · cases w : G4 D with
                  | none => rfl
                  | some o =>
                    rcases xb.gn D o w with w | w | w
                    · rw [gd3] at w; cases w
                    · exact (nd3 w).elim
                    · rw [hd3] at w; cases w
                · rcases xb.ww D w with w | w
                  · exact nd3 w
                  · rw [hd3] at w; cases w
              refine ⟨G'', wipeD ρ2 vs, _, ds[i], ρ3, c2w, rx, ht, fun σ4 G4 H4 F4 p4 c4 x4 => ⟨?_, ?_⟩⟩
              · refine wipe_ext (by rw [p4.len, wipe_length]) fun j hj => ?_
                by_cases hjn : j < N
                · exact p4.at_ j (List.mem_filter.mpr ⟨List.mem_range.mpr hjn, by simpa using hj⟩)
                · rw [List.getElem?_eq_none_iff.mpr (by rw [p4.len, wipe_length]; omega), List.getElem?_eq_none_iff.mpr (by rw [wipe_length]; omega)]
              · have hw4 : L2.wipe σ4 vs = L2.wipe σ vs := by
                  refine wipe_ext (by rw [p4.len, wipe_length]) fun j hj => ?_
                  by_cases hjn : j < N
                  · exact p4.at_ j (List.mem_filter.mpr ⟨List.mem_range.mpr hjn, by simpa using hj⟩)
                  · rw [List.getElem?_eq_none_iff.mpr (by rw [p4.len, wipe_length]; omega), List.getElem?_eq_none_iff.mpr (by rw [wipe_length]; omega)]
                obtain ⟨xa4, hd4, gd4, nd4⟩ := step xx1 dD2 gD2 (fun ⟨j, hj⟩ => nD ⟨j, hj.1⟩) x4
                -- back to the turn's start
                have back : ∀ {G5 H5 : Hp} {ρ5 : DEnv} {F5 : Nat → FP}, Cfg B G5 H5 σ4 ρ5 F5 → Cfg B G5 H5 (L2.wipe σ vs) (wipeD ρ5 vs) (fun j x => F5 j x ∧ j ∉ vs) := fun {G5 H5 ρ5 F5} c5 => by
                  have := c5.wipe vs
                  rw [hw4] at this
                  exact this
                have pr : ∀ {G5 H5 : Hp}, (∀ b o, G' b = some o → G5 b = some o) → Paired (fun v d => Rep B G5 H5 v d nof) vs2 acc2 := fun {G5 H5} g5 => L2.Paired.mapP ra fun v d r => r.keep g5 fun _ h => h.elim
                cases hfc : fc ρ3 with
                | none => rw [hfc] at e'; cases e'
                | some uc =>
                  rw [hfc] at e'
                  cases uc with
                  | exc er ρ4 => cases e'
                  | ok b ρ4 =>
                    refine ⟨G4, ρ3, F4, _, c4, hfc, fun G5 H5 F5 c5 x5 => ?_⟩
                    obtain ⟨xa5, hd5, gd5, nd5⟩ := step xa4 hd4 gd4 nd4 x5
                    cases b with
                    | false =>
                      refine L2.iteF ⟨hlt, G5, wipeD ρ4 vs, _, acc2, vs2, back c5, fun b o h => xa5.gg b o h, xa5.mono (fun _ h => h) (fun x h => h.imp (fun ⟨j, hj⟩ => ⟨j, hj.1⟩) id), gd5, fun ⟨j, hj⟩ => nd5 ⟨j, hj.1⟩, hd5, pr fun b o h => x5.gg b o (x4.gg b o (x''.gg b o h)), ?_⟩
                      rw [compE_wipe]
                      exact e'
                    | true =>
                      refine L2.iteT ?_
                      dsimp only at e'
                      cases hff : f ρ4 with
                      | none => rw [hff] at e'; cases e'
                      | some uf =>
                        rw [hff] at e'
                        cases uf with
                        | exc er ρ5 => cases e'
                        | ok av ρ5 =>
                          dsimp only at e'
                          refine ⟨G5, ρ4, F5, _, c5, hff, fun w G6 H6 F6 T c6 r6 n6 x6 => ?_⟩
                          obtain ⟨xa6, hd6, gd6, nd6⟩ := step xa5 hd5 gd5 nd5 x6
                          cases hcv : cont ρ5 av with
                          | none => rw [hcv] at e'; cases e'
                          | some ed =>
                            rw [hcv] at e'
                            dsimp only at e'
                            split at e'
                            · rename_i hz
                              obtain ⟨c7, x7⟩ := freeze_cfg c6 n6 (plS [av])
                              have hcs : conts ρ5 [av] = some [ed] := by unfold conts conts; rw [hcv]
                              have rr := freeze_reps c6 n6 (plS [av]) (.cons r6 (fun _ h => h) (.nil (Wt := nof)) (fun _ h => h.elim) fun _ _ h => h) hcs fun i h => h
                              obtain ⟨w', hw', rw'⟩ := paired1 rr
                              cases hw'
                              obtain ⟨xa7, hd7, gd7, nd7⟩ := step xa6 hd6 gd6 nd6 x7
                              refine ⟨vs2, hd6, by rw [sizeLine_eq, paired_len ra]; exact hz, hlt, _, wipeD (frzS (plS [av]) ρ5) vs, (fun j x => (F6 j x ∧ j ∉ plS [av]) ∧ j ∉ vs), acc2 ++ [frz ed], vs2 ++ [w], ?_, fun b o h => xa7.gg b o h, ?_, gd7, fun ⟨j, hj⟩ => nd7 ⟨j, hj.1⟩, upd_same, ?_, ?_⟩
                              · have := back c7
                                refine this.apart (W := fun x => x = D) (W1 := fun x => x = D) ⟨fun _ _ e => e, fun b o e n => by rw [upd_ne n]; exact e, fun b h => .inl h, fun _ _ e => .inl e⟩ (fun b o e => ?_) fun b ⟨j, hj⟩ z => nd7 (by rw [← z]; exact ⟨j, hj.1⟩)
                                rw [upd_ne fun z => by rw [z, gd7] at e; cases e]
                                exact c7.sub b o e
                              · refine ⟨xa7.gg, fun b o e n => ?_, fun b h => xa7.ww b (h.imp (fun ⟨j, hj⟩ => ⟨j, hj.1⟩) id), xa7.gn⟩
                                rw [upd_ne fun z => by rw [z, hD] at e; cases e]
                                exact xa7.hh b o e n
                              · have g7 : ∀ b o, G' b = some o → gfr G6 H6 (frU G6 H6 F6 T (plS [av])) b = some o := fun b o h => x7.gg b o (x6.gg b o (x5.gg b o (x4.gg b o (x''.gg b o h))))
                                exact paired_append (L2.Paired.mapP ra fun v d r => r.keep g7 fun _ h => h.elim) (.cons rw'.up .nil)
                              · rw [compE_wipe]
                                exact e'
                            · cases e'
          · have hi' : i = ds.length := by omega
            subst hi'
            rw [List.drop_length] at e'
            cases e'
            refine .inl ⟨it.stop G' H' gg c2.sub, ?_⟩
            have c2n : Cfg B G' H' (L2.wipe σ vs) (wipeD ρ2 vs) (fun j x => F2 j x ∧ j ∉ vs) := by
              have := c2.wipe vs
              rw [wipe_ext (σ := σ) (wipe_length _ _) fun i _ => rfl] at this
              exact this
            obtain ⟨c3, ap⟩ := c1.rest c2n xx fun y ⟨j, hj⟩ => .inl ⟨j, hj.1⟩
            refine z (.ref D) G' H' _ (fun x => x = D) c3 (rep_ol gD' hD' (paired_len ra) fun i v d e1 e2 => paired_get ra i v d e1 e2) (fun x hx ⟨j, hj⟩ => ?_) (x1.trans ?_)
            · subst hx
              rcases hj with ⟨_, hj⟩ | ⟨_, hj⟩
              · obtain ⟨⟨o, eo⟩, _⟩ := c1.dom ⟨j, hj⟩
                rw [hD] at eo; cases eo
              · exact nD ⟨j, hj.1⟩
            · refine ⟨xx.gg, fun b o e n => xx.hh b o e fun ⟨j, hj⟩ => n ⟨j, hj.1⟩, fun b hb => ?_, fun b o e => (xx.gn b o e).imp id fun h => h.imp (fun ⟨j, hj⟩ => ⟨j, hj.1⟩) id⟩
              rcases hb with ⟨j, ⟨_, hj⟩ | ⟨_, hj⟩⟩ | hb
              · exact .inl ⟨j, hj⟩
              · exact (xx.ww b (.inl ⟨j, hj.1⟩)).imp (fun ⟨j, hj⟩ => ⟨j, hj.1⟩) id
              · exact .inr (by rw [hb]; exact hD)
end
end DL

namespace DL
open PySem PySem.Spec PyProof.Rows L2

/-! ### a comprehension in its place -/
section
variable {ca : Nat → Addr} {X : Cx} {elt tg iter : Expr} {ifs : List Expr} {scope : Scope} {own : List (Str × Nat)} {pos spos py : Pos} {fi : Ev (List D)} {t : Tgt} {fc : Ev Bool} {f : Ev AV} {i : Nat} {y : Str}
abbrev Cx.cmp (X : Cx) (s : Shared) (H : Hp) (scope : Scope) (C : Addr) (cl : List (Str × Addr)) (fp : List Addr) : Cx := X.blk s H scope (compEnvC scope cl C X.env) fp
theorem de_lc (hc : X.calm = true) (hN : X.N.Nodup) (hi : DI ca X tg iter fi) (ok : BlkOk X.N X.env.scope scope own)
    (hg : ∀ s H C cl fp, DG ca (Cx.cmp X s H scope C cl fp) (others X.N.length (own.map (fun z : Str × Nat => z.2))) tg t) (ht : ∀ s H C cl fp, DTs ca (Cx.cmp X s H scope C cl fp) ifs fc)
    (he : ∀ s H C cl fp, DE ca (Cx.cmp X s H scope C cl fp) elt f) (hs : ∀ x, foldedSetIterable iter X.env x = pure x := by intro _; rfl) :
    DE ca X (.ListComp elt [⟨tg, iter, ifs, 0⟩] scope pos) (evComp fi (own.map (fun z : Str × Nat => z.2)) t fc f) := fun W tk =>
  ⟨fun pins s σ H Q I h => (pe_lc (g := gD ⟨X.K, ca⟩ (others X.N.length (own.map (fun z : Str × Nat => z.2))) t) (tt := tDT ⟨X.K, ca⟩ (fun _ _ _ _ => False) fc) (te := tD ⟨X.K, ca⟩ (fun _ _ _ _ => False) f) hc hN (hi W tk) ok (fun s H C cl fp => hg s H C cl fp) (fun s H C cl fp => ht s H C cl fp _ takes0) (fun s H C cl fp => he s H C cl fp _ takes0) hs).run pins s σ H Q I (tD_comp (N := X.N.length) (fun _ => I.len) h)⟩
end

/-! ### an object that stands there, now tracked -/
theorem ext_inv {X : Cx} {pins : List (Addr × Obj)} {σ : L2.St} {H : Hp} {s : Shared} {ea : Addr} {o : HO} {oe : Obj} {vs : Array Value} (I : Inv X pins σ H s) (e1 : s.heap.get? ea = some oe) (e2 : oe.data = .fields vs)
    (nw : X.s_0.heap.get? ea = none ∨ ea ∈ X.ex) (np : ∀ p ∈ X.pn ++ pins, p.1 ≠ ea) (nL : ea ≠ X.env.locals) (na : H ea = none) (ok : ObjOk X.prog X.w (upd H ea o) s.heap ea o) : Inv X pins σ (upd H ea o) s := by
  have nN : ∀ {b u}, H b = some u → b ≠ ea := fun {b u} e z => by rw [z, na] at e; cases e
  refine ⟨I.ok, I.os, I.bare, ⟨I.base.keep, I.base.slot, fun b u e n hx => ?_, I.base.there, fun b xs e => ?_, fun b u w e => ?_, fun b ps e => ?_⟩, I.loc, I.cell, ?_, fun x c e => ?_, fun p hp => ?_, fun b u e => ?_, I.len⟩
  · have : b ≠ ea := fun z => by
      subst z
      rcases nw with nw | nw
      · rw [nw] at e; cases e
      · exact hx nw
    rw [upd_ne this]
    exact I.base.free b u e n hx
  · have z := I.base.tups b xs e
    rw [upd_ne (nN z)]; exact z
  · have z := I.base.frzs b u w e
    rw [upd_ne (nN z)]; exact z
  · obtain ⟨m, z⟩ := I.base.tbls b ps e
    exact ⟨m, by rw [upd_ne (nN z)]; exact z⟩
  · rw [upd_ne (Ne.symm nL)]; exact I.free
  · have : c ≠ ea := fun z => by
      obtain ⟨v, oc, q1, q2⟩ := I.cell x c e
      rw [z, e1] at q1
      cases q1
      rw [e2] at q2
      cases q2
    rw [upd_ne this]; exact I.freeC x c e
  · obtain ⟨q1, q2, q3⟩ := I.pin p hp
    exact ⟨q1, by rw [upd_ne (np p hp)]; exact q2, q3⟩
  · by_cases hb : b = ea
    · subst hb
      rw [upd_same] at e
      cases e
      exact ok
    · rw [upd_ne hb] at e
      exact (I.hok b u e).stay (fun _ _ _ q => q) (fun c q => by rw [upd_ne (nN q)]; exact q) fun c xs q => by rw [upd_ne (nN q)]; exact q
theorem to_suite {X : Cx} {pins : List (Addr × Obj)} {σ : L2.St} {H : Hp} {s : Shared} (ea : Addr) (I : Inv X pins σ H s) : Inv (X.suite ea (X.pn ++ pins)) [] σ H s :=
  ⟨I.ok.suite _ _, I.os, I.bare, I.base, I.loc, I.cell, I.free, I.freeC, fun p hp => I.pin p (by rwa [List.append_nil] at hp), I.hok, I.len⟩
theorem of_suite {X : Cx} {pins : List (Addr × Obj)} {σ : L2.St} {H : Hp} {s : Shared} {ea : Addr} (ok : X.Ok) (I : Inv (X.suite ea (X.pn ++ pins)) [] σ H s) : Inv X pins σ H s :=
  ⟨ok, I.os, I.bare, I.base, I.loc, I.cell, I.free, I.freeC, fun p hp => I.pin p (by rw [List.append_nil]; exact hp), I.hok, I.len⟩
/-- what the clause wishes of what the body lets out -/
def wCat (K : PySem.W.Frag) (hv : Value) (i : Nat) (ts : Addr → TS) (Wout : WX) (Dn : Ends) : WX := fun cls d σ H => ∃ b, PySem.W.exmOne K cls hv = some b ∧ (b = false → Wout cls d σ H) ∧
  (b = true → ∃ C dd, cls = .ref C ∧ d = some dd ∧ ∀ ea, H ea = none → ts ea { nx := fun σ1 H1 => Dn.nx (σ1.set i none) H1, rt := Dn.rt, bk := fun σ1 H1 => Dn.bk (σ1.set i none) H1, ct := fun σ1 H1 => Dn.ct (σ1.set i none) H1 } (σ.set i (some (.ref ea))) (upd H ea (exv C dd ea)))
theorem ps_cat {X : Cx} {x n : Str} {hv : Value} {i : Nat} {body suite : List Stmt} {b₀ : Stmt} {np pos pos' : Pos} {tb : WX → TS} {ts : Addr → TS} {Wout : WX} (hs : X.stack = X.env :: X.outer) (hf : X.env.frame = some X.env.locals) (hN : X.N.Nodup) (hi : X.N[i]? = some n) (hln : X.env.kindOf n = some .local) (hc : Names X x hv) (tk : Takes X Wout)
    (hb : ∀ (W : WX) (pn : List (Addr × Obj)) (xe : Value → Shared → Prop), Takes (X.tr pn xe) W → PassesOwn (model X.prog X.w) X.A X.env xe → PSs (X.tr pn xe) body (tb W)) (hsu : ∀ ea pn, PSs (X.suite ea pn) (b₀ :: suite) (ts ea)) :
    PS X (.Try body [.ExceptHandler (some (.Name x np)) (some n) (b₀ :: suite) pos'] [] [] pos) (fun Dn σ H => tb (wCat X.K hv i ts Wout Dn) Dn σ H) := ⟨fun pins s σ H Dn I h => by
  have ok := I.ok
  have fr : X.A.frames = some (X.env :: X.outer) := by rw [← hs]; exact ok.frames
  refine wpAny_Try_except (wpAny_mono ((hb (wCat X.K hv i ts Wout Dn) (X.pn ++ pins) (fun ex t => wpAny (model X.prog X.w) X.A (noteFrame ex X.env) (fun _ t2 => wpAny (model X.prog X.w) X.A (setFlight ex none) (fun _ t3 => wpAny (model X.prog X.w) X.A (handleBy ex X.env [.ExceptHandler (some (.Name x np)) (some n) (b₀ :: suite) pos']) (SP X pins Dn) X.xe t3) X.xe t2) X.xe t) (fun u t xx => ?_)
    PassesOwn.looking).run [] s σ H Dn (I.toTry _) h) (fun fl t q => ?_) fun _ _ z => z)
  · obtain ⟨ea, Bs, sI, pins2, σ1, H1, cls, d, rfl, J0, nb, up, sky, na, os, ag, b, hb1, hno, hyes⟩ := xx
    have J : Inv X pins σ1 H1 sI := J0.ofTry ok
    have sky2 : Sky Bs (X.env :: X.outer) ea (Zc cls d) X.env.locals t.heap := by rw [← hs]; exact sky
    refine Sky.land Zc.steady fr hf sky2 fun h3 l3 up3 => ?_
    have J3 : Inv X pins σ1 H1 { t with heap := h3 } := J.landed nb l3.1 (up.trans up3) os ag
    obtain ⟨o3, v3, he3, hz3, hd3⟩ := l3.there
    have offr : ea ∉ frs (X.env :: X.outer) := fun hm => by
      obtain ⟨_, o4, q4, hn4⟩ := l3.2.2.1.mem hm
      rw [he3] at q4
      cases q4
      exact hn4 _ hd3
    have nL : ea ≠ X.env.locals := fun z => offr (List.mem_filterMap.mpr ⟨X.env, List.mem_cons_self, by rw [hf, z]⟩)
    have nF : ea ∉ X.fs := fun hm => by
      obtain ⟨en, hen, qn⟩ := List.mem_filterMap.mp hm
      exact offr (List.mem_filterMap.mpr ⟨en, List.mem_cons_of_mem _ hen, qn⟩)
    -- the exception is new
    have n1 : sI.heap.get? ea = none := by
      cases q : sI.heap.get? ea with
      | none => rfl
      | some u =>
        have z := nb ea u q (by rw [hs]; exact offr)
        rw [l3.2.1] at z
        cases z
    have n0 : X.s_0.heap.get? ea = none ∨ ea ∈ X.ex := by
      by_cases hx : ea ∈ X.ex
      · exact .inr hx
      · cases q : X.s_0.heap.get? ea with
        | none => exact .inl rfl
        | some u =>
          obtain ⟨u2, z⟩ := J.base.there ea u q hx
          rw [n1] at z
          cases z
    have np2 : ∀ p ∈ X.pn ++ pins, p.1 ≠ ea := fun p hp z => by
      have w := (J.pin p hp).1
      rw [z, n1] at w
      cases w
    have LT : PySem.W.Looks (model X.prog X.w) h3 (typeOf (.ref ea)) cls := fun A Q E s k q => wpAny_typeOf_ref (k _ _ he3) (by rw [hz3.1]; exact q)
    have LM := PySem.W.exm_one (M := model X.prog X.w) J3.kIn LT hb1
    have S3 := J3.suite he3 hd3 na nL nF
    refine wpAny_handleBy_cons (codeAny_handlers_test ?_) (by intro q; cases q)
    have test : ∀ {Q : Value → Shared → Prop} {E : Value → Shared → Prop}, Q hv { t with heap := h3 } → wpAny (model X.prog X.w) (X.A.mark (some (.ref ea))) (eval (.Name x np) X.env) Q E { t with heap := h3 } := fun {Q E} q => by
      obtain ⟨g1, g2, g3 | ⟨g3, g4, g5⟩⟩ := hc
      · exact ld_glob (X := X.suite ea ((ea, o3) :: (X.pn ++ pins))) S3 g1 g3 q g2
      · exact ld_blt (X := X.suite ea ((ea, o3) :: (X.pn ++ pins))) S3 g1 g3 g4 q g5 g2
    refine test (LM.here ?_)
    cases b with
    | false =>
      refine wpAny_handleBy_nil ?_
      obtain ⟨k1, k2, k3, oe, vs, T, oT, ts', he, hz, hd, w1, w2⟩ := id l3
      have rest : wpAny (model X.prog X.w) X.A (setFlight (.ref ea) X.env.frame) (fun _ t4 => wpAny (model X.prog X.w) X.A (throw (.ref ea) : Sem Flow) (SP X pins Dn) X.xe t4) X.xe { t with heap := h3 } := by
        rw [hf]
        refine HandSPX.setFlight_upZ l3 fun h4 held up4 => wpAny_throw (tk _ _ ⟨ea, Bs, sI, pins, σ1, H1, cls, d, rfl, J, nb, (up.trans up3).trans up4, ?_, na, os, ag, hno rfl⟩)
        rw [hs]
        exact .inr (.inr held)
      unfold PySem.passOn
      refine wpAny_bind (wpAny_field he hd w1 ?_)
      rw [if_neg (by simp : ¬ ((Value.ref T == Value.none) = true))]
      first
        | exact wpAny_bind (wpAny_pure (wpAny_bind rest))
        | exact wpAny_bind rest
    | true =>
      obtain ⟨C, dd, rfl, rfl, hts⟩ := hyes rfl
      refine codeAny_handlers_suite_as (HandSPX.lands_againZ l3 fun h4 l4 up4 => ?_)
      have J4 : Inv X pins σ1 H1 { t with heap := h4 } := J.landed nb l4.1 ((up.trans up3).trans up4) os ag
      obtain ⟨o4, v4, he4, hz4, hd4⟩ := l4.there
      have J5 : Inv X pins σ1 (upd H1 ea (exv C dd ea)) { t with heap := h4 } := ext_inv J4 he4 hd4 n0 np2 nL na ⟨⟨o4, v4, he4, hz4.1, hz4.2, hd4⟩, ⟨o4, he4⟩, fun ha hb ⟨o5, v5, q5, r5⟩ k => ⟨o5, v5, k _ q5, r5⟩⟩
      have S5 := to_suite ea J5
      refine store_ok (X := X.suite ea (X.pn ++ pins)) (v := .ref ea) S5 hN hi (.inl hln) rfl (fun s6 S6 => ?_) (.inr hln)
      refine wpAny_mono ((hsu ea (X.pn ++ pins)).run [] s6 _ _ _ S6 (hts ea na)) (fun fl s7 q7 => ?_) fun _ _ z => False.elim z
      have done : ∀ {σ7 : L2.St} {H7 : Hp} {Q : Shared → Prop}, Inv (X.suite ea (X.pn ++ pins)) [] σ7 H7 s7 → (∀ s8, Inv X pins (σ7.set i none) H7 s8 → Q s8) →
          wpAny (model X.prog X.w) X.A (do bindName X.env n .none; unbindBehindTheSuite X.env n pos') (fun _ s8 => Q s8) X.xe s7 := fun {σ7 H7 Q} S7 k => gone_ok (of_suite ok S7) hN hi hln k
      cases fl with
      | ret u =>
        obtain ⟨v7, σ7, H7, S7, r7, z7⟩ := q7
        exact done S7 fun s8 J8 => ⟨_, _, _, J8, r7, z7⟩
      | next =>
        obtain ⟨σ7, H7, S7, z7⟩ := q7
        exact done S7 fun s8 J8 => ⟨_, _, J8, z7⟩
      | brk =>
        obtain ⟨σ7, H7, S7, z7⟩ := q7
        exact done S7 fun s8 J8 => ⟨_, _, J8, z7⟩
      | cont =>
        obtain ⟨σ7, H7, S7, z7⟩ := q7
        exact done S7 fun s8 J8 => ⟨_, _, J8, z7⟩
  · cases fl with
    | next =>
      obtain ⟨σ1, H1, J, z⟩ := q
      exact wpAny_execs_nil ⟨σ1, H1, J.ofTry ok, z⟩
    | ret u =>
      obtain ⟨v, σ1, H1, J, r, z⟩ := q
      exact ⟨v, σ1, H1, J.ofTry ok, r, z⟩
    | brk =>
      obtain ⟨σ1, H1, J, z⟩ := q
      exact ⟨σ1, H1, J.ofTry ok, z⟩
    | cont =>
      obtain ⟨σ1, H1, J, z⟩ := q
      exact ⟨σ1, H1, J.ofTry ok, z⟩⟩
end DL

namespace DL
open PySem PySem.Spec PyProof.Rows L2

/-! ### try: .. except C as n: .. -/
def sCat (catch_ : Nat → Option Bool) (i : Nat) (fb fs : Sv) : Sv := fun ρ => match fb ρ with
  | some (.exc (.exc c d) ρ1) => match catch_ c with
    | some true => if i < ρ1.length then match fs (ρ1.set i (some (.exc c d))) with
      | some (.nx ρ2) => some (.nx (ρ2.set i none))
      | some (.brk ρ2) => some (.brk (ρ2.set i none))
      | some (.cnt ρ2) => some (.cnt (ρ2.set i none))
      | some (.ret d ρ2) => some (.ret d (ρ2.set i none))
      | _ => none
      else none
    | some false => some (.exc (.exc c d) ρ1)
    | none => none
  | some (.exc _ _) => none
  | o => o
theorem Cfg.void {B : Bd} {G H : Hp} {σ : L2.St} {ρ : DEnv} {F : Nat → FP} (c : Cfg B G H σ ρ F) (i : Nat) : Cfg B G H (σ.set i none) (ρ.set i none) (fun j x => F j x ∧ j ≠ i) := by
  have c2 := c.drop i
  refine ⟨c2.sub, by simpa using c.len, fun j d e => ?_, c2.emp, c2.dis⟩
  obtain ⟨v, e1, r⟩ := c2.slot j d e
  refine ⟨v, ?_, r⟩
  have hj : j ≠ i := fun z => by
    subst z
    have hl : j < (ρ.set j none).length := (List.getElem?_eq_some_iff.mp e).1
    rw [List.getElem?_set_self (by simpa using hl)] at e
    cases e
  rw [List.getElem?_set_ne (Ne.symm hj)]
  exact e1
theorem prot_set {I : List Nat} {σ : L2.St} {i : Nat} {o : Option V} (h : i ∉ I) : Prot I σ (σ.set i o) := ⟨by simp, fun j hj => by rw [List.getElem?_set_ne fun z => h (by rw [z]; exact hj)]⟩
section
variable {ca : Nat → Addr} {X : Cx} {I : List Nat} {x n : Str} {hv : Value} {i : Nat} {body suite : List Stmt} {b₀ : Stmt} {np pos pos' : Pos} {fb fs : Sv} {catch_ : Nat → Option Bool}
theorem ds_cat (hs : X.stack = X.env :: X.outer) (hf : X.env.frame = some X.env.locals) (hN : X.N.Nodup) (hi : X.N[i]? = some n) (hln : X.env.kindOf n = some .local) (hc : Names X x hv) (hI : i ∉ I) (hk : ∀ c b, catch_ c = some b → PySem.W.exmOne X.K (.ref (ca c)) hv = some b)
    (hb : ∀ pn xe, DB ca (X.tr pn xe) I body fb) (hsu : ∀ ea pn, DB ca (X.suite ea pn) I (b₀ :: suite) fs) : DS ca X I (.Try body [.ExceptHandler (some (.Name x np)) (some n) (b₀ :: suite) pos'] [] [] pos) (sCat catch_ i fb fs) := fun W tk ps =>
  PS.imp (ps_cat (tb := fun W' => tSD ⟨X.K, ca⟩ W' I fb) (ts := fun ea => tSD ⟨X.K, ca⟩ (fun _ _ _ _ => False) I fs) hs hf hN hi hln hc tk (fun W' pn xe tk' ps' => hb pn xe W' tk' ps') fun ea pn => hsu ea pn _ takes0 PassesOwn.never) fun Dn σ H h => by
    obtain ⟨G, ρ, F, o, c, e, z⟩ := h
    unfold sCat at e
    cases hfb : fb ρ with
    | none => rw [hfb] at e; cases e
    | some u =>
      rw [hfb] at e
      refine ⟨G, ρ, F, u, c, hfb, ?_⟩
      cases u with
      | nx ρ' => cases e; exact z
      | brk ρ' => cases e; exact z
      | cnt ρ' => cases e; exact z
      | ret d ρ' => cases e; exact z
      | exc er ρ1 =>
        intro σ1 G1 H1 F1 cls dx p1 c1 xa x1
        obtain ⟨c', dd, v, d, rfl, rfl, rfl, gd, r⟩ := xa
        dsimp only at e
        cases hcc : catch_ c' with
        | none => rw [hcc] at e; cases e
        | some b =>
          rw [hcc] at e
          cases b with
          | false =>
            cases e
            exact ⟨false, hk _ _ hcc, fun _ => z σ1 G1 H1 F1 _ _ p1 c1 ⟨c', dd, v, d, rfl, rfl, rfl, gd, r⟩ x1, fun q => nomatch q⟩
          | true =>
            dsimp only at e
            split at e
            case isFalse => cases e
            rename_i hl
            refine ⟨true, hk _ _ hcc, fun q => (nomatch q), fun _ => ⟨ca c', dd, rfl, rfl, fun ea na => ?_⟩⟩
            have s2 := sub_new (o := exv (ca c') dd ea) na c1.sub
            have x2 := ext_new (o := exv (ca c') dd ea) na c1.sub
            have c2 := c1.grow x2 s2
            have r2 : Rep ⟨X.K, ca⟩ (upd G1 ea (exv (ca c') dd ea)) (upd H1 ea (exv (ca c') dd ea)) (.ref ea) (.exc c' d) nof :=
              .exc upd_same (x2.gg _ _ gd) (r.keep x2.gg fun _ h => h.elim)
            have c3 := c2.setName i r2 (fun _ h => h.elim) hl
            have x3 : Ext G H (un F) (upd G1 ea (exv (ca c') dd ea)) (upd H1 ea (exv (ca c') dd ea)) (un fun j x => (j = i ∧ nof x) ∨ (j ≠ i ∧ F1 j x)) :=
              (x1.more x2).mono (fun _ h => h) fun y ⟨j, hj⟩ => .inl (hj.elim (fun w => w.2.elim) fun w => ⟨j, w.2⟩)
            cases hfs : fs (ρ1.set i (some (.exc c' d))) with
            | none => rw [hfs] at e; cases e
            | some w =>
              rw [hfs] at e
              refine ⟨_, _, _, w, c3, hfs, ?_⟩
              have dr : ∀ (F2 : Nat → FP) {G2 H2 : Hp}, Ext (upd G1 ea (exv (ca c') dd ea)) (upd H1 ea (exv (ca c') dd ea)) (un fun j x => (j = i ∧ nof x) ∨ (j ≠ i ∧ F1 j x)) G2 H2 (un F2) → Ext G H (un F) G2 H2 (un fun j x => F2 j x ∧ j ≠ i) := fun F2 {G2 H2} y =>
                (x3.trans y).mono (fun _ h => h) fun _ ⟨j, hj⟩ => ⟨j, hj.1⟩
              have pr : ∀ {σ2 : L2.St}, Prot I (σ1.set i (some (V.ref ea))) σ2 → Prot I σ (σ2.set i none) := fun {σ2} q => (p1.trans ((prot_set hI).trans q)).trans (prot_set hI)
              cases w with
              | nx ρ2 => cases e; exact fun σ2 G2 H2 F2 p2 c4 y => z (σ2.set i none) G2 H2 _ (pr p2) (c4.void i) (dr F2 y)
              | brk ρ2 => cases e; exact fun σ2 G2 H2 F2 p2 c4 y => z (σ2.set i none) G2 H2 _ (pr p2) (c4.void i) (dr F2 y)
              | cnt ρ2 => cases e; exact fun σ2 G2 H2 F2 p2 c4 y => z (σ2.set i none) G2 H2 _ (pr p2) (c4.void i) (dr F2 y)
              | ret d' ρ2 =>
                cases e
                exact fun v' σ2 G2 H2 F2 T p2 c4 r4 n4 y => z v' (σ2.set i none) G2 H2 _ T (pr p2) (c4.void i) r4 (fun a ha ⟨j, hj⟩ => n4 a ha ⟨j, hj.1⟩) ((x3.trans y).mono (fun _ h => h) fun _ h => h.imp (fun ⟨j, hj⟩ => ⟨j, hj.1⟩) id)
              | exc er' ρ2 => cases e
end

/-! ### raise C(e), C's __init__ storing the value -/
def spI (K : PySem.W.Frag) : Sp := fun vs H Q E => ∃ (a C : Addr) (v : V), vs = [.ref a, v] ∧ OexC K C ∧ PySem.W.findIn K (.ref C) "value" = some none ∧ H a = some (exo a C none) ∧
  ∀ dx, H dx = none → dx ≠ a → Q .non (upd (upd H dx (exd dx [(("value" : Str), v)])) a (exo a C (some dx)))
/-- what is known of the own exception class with the code c -/
structure ExK (K : PySem.W.Frag) (ca : Nat → Addr) (fI : Addr) (c : Nat) : Prop where
  oex : OexC K (ca c)
  ini : PySem.W.findIn K (.ref (ca c)) "__init__" = some (some (.ref fI))
  no : PySem.W.findIn K (.ref (ca c)) "value" = some none
  ga : PySem.W.findIn K (.ref (ca c)) "__getattribute__" = some (some (.builtin "BaseException.__getattribute__"))
  gg : PySem.W.findIn K (.ref (ca c)) "__getattr__" = some none
  su : PySem.W.subIn K (.ref (ca c)) (.type "BaseException") = some true
  hd : PySem.W.hasDictIn K (ca c) = true
  kc : PySem.W.findIn K (.ref (ca c)) "__class__" = some (some (.builtin "object.__class__"))
  hn : PySem.W.specialIn K (.builtin "object.__class__") "__get__" = some (some (.builtin "getset_descriptor.__get__"))
  ht : PySem.W.takesIn K (.builtin "object.__class__") = some true
  hm : PySem.W.mroIn K (ca c) (.type "object") = some true
def sRaise (c : Nat) (fs : Ev (List D)) : Sv := evS fs fun ds ρ => match ds with
  | [d] => some (.exc (.exc c d) ρ)
  | _ => none
theorem passes0 {X : Cx} : Passes (L2.CX X.prog X.w) X (fun _ _ _ => False) := fun pins σ H s e s' I h => passAt (takes0 (X := X)) σ pins H s e s' I h
section
variable {ca : Nat → Addr} {X : Cx} {I : List Nat} {c k : Nat} {x : Str} {fI : Addr} {fd : FuncData} {ps : List Str} {p pos pos' : Pos} {e : Expr} {es : List Expr} {fs : Ev (List D)}
theorem ds_raise (hc : X.calm = true) (T : ExK X.K ca fI c) (tI : PySem.W.typeIn X.K (.ref fI) = some (.type "function")) (F1 : FnOk X.prog X.w X.K X.mg X.base (L2.CX X.prog X.w) k fI fd ps (spI X.K)) (hr : Room (k + 1) X.A) (hb : Binds X.K fd ps []) (hm : X.mg x = some (.ref (ca c))) (ha : DF ca X (e :: es) fs)
    (hg : Gl X x := by rfl) (hdb : (x == ("__debug__" : Str)) = false := by decide) (he : starEach (e :: es) X.env = (false, eval e X.env) :: starEach es X.env := by rfl) (hpl : (backTo pos (starEach es X.env)).any (·.1) = false := by rfl) :
    DS ca X I (.Raise (some (.Call (.Name x p) (e :: es) [] pos)) none pos') (sRaise c fs) := fun W tk _ =>
  PS.imp (ps_raise hc tk (pmk_oex T.oex T.ini tI F1 hr hb Paired.nil passes0 hg hm (ha W tk) hdb he hpl)) fun Dn σ H h => by
    obtain ⟨G, ρ, F, o, c0, e0, z⟩ := h
    unfold sRaise evS at e0
    cases hf : fs ρ with
    | none => rw [hf] at e0; cases e0
    | some u =>
      rw [hf] at e0
      refine ⟨G, ρ, F, u, c0, hf, ?_⟩
      cases u with
      | exc er ρ' => cases e0; exact fun G' H' F' cls dx c' xa x' => z σ G' H' F' cls dx .refl c' xa x'
      | ok ds ρ1 =>
        intro vs G1 H1 F1 c1 r x1
        dsimp only at e0
        split at e0
        case h_2 => cases e0
        rename_i d
        cases e0
        obtain ⟨v, rfl, rv⟩ := paired1 r
        refine ⟨by simp, fun a na => ⟨a, ca c, v, rfl, T.oex, T.no, upd_same, fun dx hdx hne => ?_⟩⟩
        rw [upd_ne hne] at hdx
        refine ⟨rfl, dx, [("value", v)], upd_same, by rw [upd_ne hne]; exact upd_same, hdx, ?_⟩
        have hH : upd (del (upd (upd (upd H1 a (exo a (ca c) none)) dx (exd dx [(("value" : Str), v)])) a (exo a (ca c) (some dx))) a) dx (.xd [(("value" : Str), v)]) = upd H1 dx (.xd [(("value" : Str), v)]) := by
          funext b
          by_cases h1 : b = dx
          · rw [h1, upd_same, upd_same]
          · rw [upd_ne h1, upd_ne h1]
            by_cases h2 : b = a
            · rw [h2, del_same, na]
            · rw [del_ne h2, upd_ne h2, upd_ne h1, upd_ne h2]
        show W (.ref (ca c)) (some dx) σ _
        rw [hH]
        have x2 := ext_new (G := G1) (o := HO.xd [(("value" : Str), v)]) hdx c1.sub
        exact z σ _ _ F1 _ _ .refl (c1.grow x2 (sub_new hdx c1.sub)) ⟨c, dx, v, d, rfl, rfl, rfl, upd_same, rv.keep x2.gg fun _ h => h.elim⟩ ((x1.more x2).mono (fun _ h => h) fun _ h => .inl h)
end

/-! ### names of classes -/
section
variable {ca : Nat → Addr} {X : Cx} {x : Str} {pos : Pos} {c : Nat} {n : String}
theorem de_cls (hm : X.mg x = some (.ref (ca c))) (hg : Gl X x := by rfl) (hdb : (x == ("__debug__" : Str)) = false := by decide) : DE ca X (.Name x pos) (evC (.cls c)) := de_const (v := .ref (ca c)) (pe_glob hg hm rfl hdb) fun _ _ => .cls c
theorem de_ty (hm : X.mg x = none) (hv : bootBuiltins x = some (.type n)) (hg : Gl X x := by rfl) (hn : x ≠ "__name__" := by decide) (hdb : (x == ("__debug__" : Str)) = false := by decide) : DE ca X (.Name x pos) (evC (.ty n)) := de_const (v := .ty n) (pe_bltn hg hm hv rfl hn hdb) fun _ _ => .ty n
end

/-! ### isinstance -/
def tyD : D → Option (String ⊕ Nat)
  | .non => some (.inl "NoneType") | .bl _ => some (.inl "bool") | .int _ => some (.inl "int") | .str _ => some (.inl "str")
  | .tup _ => some (.inl "tuple") | .lst _ => some (.inl "list") | .frl _ => some (.inl "list") | .ol _ => some (.inl "list")
  | .dct _ => some (.inl "dict") | .od _ => some (.inl "dict") | .exc c _ => some (.inr c)
  | _ => none
abbrev Tab := String ⊕ Nat → D → Option Bool
def tyV (ca : Nat → Addr) : String ⊕ Nat → Value
  | .inl n => .type n
  | .inr c => .ref (ca c)
def clV (ca : Nat → Addr) : D → Option Value
  | .ty n => some (.type n)
  | .cls c => some (.ref (ca c))
  | _ => none
/-- the table is right; the classes in it are as ExK says -/
structure TabOk (K : PySem.W.Frag) (ca : Nat → Addr) (fI : Addr) (tab : Tab) : Prop where
  one : ∀ t c b, tab t c = some b → ∃ u, clV ca c = some u ∧ PySem.W.kitOne K (tyV ca t) u = some b
  exs : ∀ k c b, tab (.inr k) c = some b → ExK K ca fI k
def anyT (tab : Tab) (t : String ⊕ Nat) : List D → Option Bool
  | [] => some false
  | c :: cs => match tab t c with
    | some true => match anyT tab t cs with
      | some _ => some true
      | none => none
    | some false => anyT tab t cs
    | none => none
def gIsi (tab : Tab) : List D → Option D
  | [x, .tup (c :: cs)] => match tyD x with
    | some t => (anyT tab t (c :: cs)).map .bl
    | none => none
  | [x, c] => match tyD x with
    | some t => (tab t c).map .bl
    | none => none
  | _ => none
theorem anyT_ok {K : PySem.W.Frag} {ca : Nat → Addr} {fI : Addr} {tab : Tab} (T : TabOk K ca fI tab) {t : String ⊕ Nat} : ∀ {cs : List D} {b : Bool}, anyT tab t cs = some b → ∃ us, Paired (fun c u => clV ca c = some u) cs us ∧ PySem.W.kitAny K (tyV ca t) us = some b
  | [], b, h => by cases h; exact ⟨[], .nil, rfl⟩
  | c :: cs, b, h => by
    unfold anyT at h
    cases h1 : tab t c with
    | none => rw [h1] at h; cases h
    | some b1 =>
      rw [h1] at h
      obtain ⟨u, hu, ku⟩ := T.one t c b1 h1
      cases b1 with
      | true =>
        dsimp only at h
        split at h
        · rename_i bx hx
          cases h
          obtain ⟨us, hus, _⟩ := anyT_ok T hx
          exact ⟨u :: us, .cons hu hus, kitAny_cons ku (fun z => nomatch z) fun _ => rfl⟩
        · cases h
      | false =>
        obtain ⟨us, hus, kus⟩ := anyT_ok T h
        exact ⟨u :: us, .cons hu hus, kitAny_cons ku (fun _ => kus) fun z => nomatch z⟩
theorem clV_rep {K : PySem.W.Frag} {ca : Nat → Addr} {G H : Hp} {v : V} {d : D} {T : FP} {u : Value} (r : Rep ⟨K, ca⟩ G H v d T) (h : clV ca d = some u) : ClsV v u := by
  cases r <;> first | (cases h; done) | skip
  · cases h; exact .ty _
  · cases h; exact .own _
theorem clV_all {K : PySem.W.Frag} {ca : Nat → Addr} {G H : Hp} : ∀ {cs : List D} {ws : List Value} {vs : List V}, Paired (fun c u => clV ca c = some u) cs ws → vs.length = cs.length → (∀ (i : Nat) v d, vs[i]? = some v → cs[i]? = some d → Rep ⟨K, ca⟩ G H v d nof) → Paired ClsV vs ws
  | _, _, [], .nil, _, _ => .nil
  | _, _, _ :: _, .nil, l, _ => by cases l
  | _, _, [], .cons _ _, l, _ => by cases l
  | _, _, v :: vs, .cons h t, l, c => .cons (clV_rep (c 0 v _ rfl rfl) h) (clV_all t (by simpa using l) fun i v d e1 e2 => c (i + 1) v d (by simpa using e1) (by simpa using e2))
theorem reps1 {B : Bd} {G H : Hp} {xs : List V} {d : D} (h : Reps B G H xs [d]) : ∃ v T, xs = [v] ∧ Rep B G H v d T := by
  cases h with
  | cons a t => cases t; obtain ⟨T, r⟩ := a; exact ⟨_, T, rfl, r⟩
theorem reps2 {B : Bd} {G H : Hp} {xs : List V} {d e : D} (h : Reps B G H xs [d, e]) : ∃ v T w U, xs = [v, w] ∧ Rep B G H v d T ∧ Rep B G H w e U := by
  cases h with
  | cons a t => cases t with
    | cons b t => cases t; obtain ⟨T, r⟩ := a; obtain ⟨U, q⟩ := b; exact ⟨_, T, _, U, rfl, r, q⟩
section
variable {ca : Nat → Addr} {X : Cx} {fI : Addr} {tab : Tab}
theorem tyX_of {G H : Hp} {v : V} {d : D} {T : FP} {n : String} (r : Rep ⟨X.K, ca⟩ G H v d T) (sub : ∀ b o, G b = some o → H b = some o) (h : tyD d = some (.inl n)) : TyX X.K H v (.type n) := by
  cases r with
  | non => cases h; exact .base .non
  | bl b => cases h; exact .base (.bl _)
  | int i => cases h; exact .base (.int _)
  | str x => cases h; exact .base (.str _)
  | tup hq l c =>
    cases h
    rcases hq with (hq | ⟨o, hq⟩) | ⟨o, its, n, e1, e2, _⟩
    · exact .base (.tup (sub _ _ hq))
    · exact .fTuple (sub _ _ hq)
    · exact .kTuple e1 e2
  | lst hq l c => cases h; exact .base (.lst (sub _ _ hq))
  | frl hq l c =>
    cases h
    rcases hq with (hq | ⟨o, hq⟩) | ⟨o, its, n, e1, e2, _⟩
    · exact .base (.lst (sub _ _ hq))
    · exact .base (.frz (sub _ _ hq))
    · exact .kList e1 e2
  | ol hq => cases h; exact .base (.lst hq)
  | dct hq l c => cases h; exact .base (.dK (sub _ _ hq))
  | od hq => cases h; exact .base (.dK hq)
  | ty => cases h
  | cls => cases h
  | ins => cases h
  | exc => cases h
  | oi => cases h
theorem exv_at {pins : List (Addr × Obj)} {σ : L2.St} {H : Hp} {s : Shared} {a C dd : Addr} {fs : List (Str × V)} (I : Inv X pins σ H s) (ea : H a = some (exv C dd a)) (ed : H dd = some (.xd fs)) :
    ∃ (oe od : Obj), PySem.W.InstAt s.heap a oe C (some od) ∧ ∃ mA : Str → Option Value, (∀ f, RelO (fs.lookup f) (mA f)) ∧ ∀ name, PySem.W.lookIn name od = some (mA name) := by
  obtain ⟨⟨oe, vs, q1, q2, q3, q4⟩, _, _⟩ := I.hok a _ ea
  have hx : ObjOk X.prog X.w H s.heap dd (.xd fs) := I.hok dd _ ed
  obtain ⟨mA, hns, hr⟩ := hx
  obtain ⟨od, ho, hl⟩ := lookIn_ns hns
  exact ⟨oe, od, ⟨q1, q2, by unfold PySem.W.notCls; rw [q4] <;> rfl, by rw [q3]; exact ho⟩, mA, hr, hl⟩
theorem kit_any {pins : List (Addr × Obj)} {σ : L2.St} {G H : Hp} {s : Shared} {v : V} {u : Value} {d : D} {T : FP} {t : String ⊕ Nat} (TO : TabOk X.K ca fI tab) (I : Inv X pins σ H s) (rx : RelV v u) (r : Rep ⟨X.K, ca⟩ G H v d T) (sub : ∀ b o, G b = some o → H b = some o) (h : tyD d = some t)
    (hk : ∀ k, t = .inr k → ExK X.K ca fI k) : ∃ P : Heap → Prop, PySem.W.KitX X.K u (tyV ca t) P ∧ P s.heap ∧ u ≠ .builtin "__main__.__loader__#opaque" := by
  cases t with
  | inl n => exact kit_of I rx (tyX_of r sub h)
  | inr k =>
    have ex := hk k rfl
    cases r with
    | exc he ho rv =>
      cases h
      cases (show u = Value.ref _ from rx)
      obtain ⟨oe, od, J, _⟩ := exv_at I (sub _ _ he) (sub _ _ ho)
      obtain ⟨cd, hc, _⟩ := PySem.W.any_some ex.hd
      exact ⟨_, PySem.W.kitx_exc (by rw [hc]; rfl) ex.ga ex.gg ex.su ex.kc ex.hn ex.ht ex.hm, J, fun z => nomatch z⟩
    | _ => cases h
theorem callD_isi (TO : TabOk X.K ca fI tab) : CallD ca X (.builtin "isinstance") (gIsi tab) := by
  intro pins s σ H xs us Q I rs h
  obtain ⟨G, ds, d, sub, rr, e, q⟩ := h
  unfold gIsi at e
  split at e
  · rename_i x c cs
    split at e
    · rename_i t ht
      obtain ⟨b, hb, rfl⟩ := Option.map_eq_some_iff.mp e
      obtain ⟨v, T1, w, T2, rfl, r1, r2⟩ := reps2 rr
      obtain ⟨u1, u2, rfl, ru1, ru2⟩ := vals2 rs
      have hx : ∀ k, t = .inr k → ExK X.K ca fI k := fun k z => by
        subst z
        unfold anyT at hb
        cases h1 : tab (.inr k) c with
        | none => rw [h1] at hb; cases hb
        | some b1 => exact TO.exs k c b1 h1
      obtain ⟨P, Z, p, hne⟩ := kit_any TO I ru1 r1 sub ht hx
      obtain ⟨ws, hws, kw⟩ := anyT_ok TO hb
      have fin : ∀ tk, EP X pins σ Q (.bool b) { s with toks := tk } := fun tk => ⟨.bl b, H, I.tok tk, rfl, rDL_end q sub (.bl b)⟩
      cases r2 with
      | @tup a vs _ hq l cc =>
        cases (show u2 = Value.ref _ from ru2)
        have hcl : Paired ClsV vs ws := clV_all hws l cc
        rcases hq with (hq | ⟨o, hq⟩) | ⟨o, its, n, e1, e2, e3, e4, e5⟩
        · obtain ⟨_, its, rv, o, h1, h2, n, h3⟩ := (show ObjOk X.prog X.w H s.heap _ (.tup vs) from I.hok _ _ (sub _ _ hq))
          have e3 := ClsV.all hcl rv
          subst e3
          obtain ⟨oc, od, dt, sl⟩ := o
          simp only at h2 h3
          subst h2 h3
          exact PySem.W.kia_tup Z I.kIn p h1 kw hne fin
        · obtain ⟨_, _, its, rv, o, h1, h2, n, h3⟩ := (show ObjOk X.prog X.w H s.heap _ (.frz o (.tup vs)) from I.hok _ _ (sub _ _ hq))
          have e3 := ClsV.all hcl rv
          subst e3
          obtain ⟨oc, od, dt, sl⟩ := o
          simp only at h2 h3
          subst h2 h3
          exact PySem.W.kia_tup Z I.kIn p h1 kw hne fin
        · have e6 := ClsV.all hcl e5
          obtain ⟨oc, od, dt, sl⟩ := o
          simp only at e2 e3
          subst e2 e3
          obtain ⟨its⟩ := its
          simp only at e6
          subst e6
          exact PySem.W.kia_tup Z I.kIn p (I.kIn _ _ e1) kw hne fin
    · cases e
  · rename_i x c hnt
    split at e
    · rename_i t ht
      obtain ⟨b, hb, rfl⟩ := Option.map_eq_some_iff.mp e
      obtain ⟨v, T1, w, T2, rfl, r1, r2⟩ := reps2 rr
      obtain ⟨u1, u2, rfl, ru1, ru2⟩ := vals2 rs
      obtain ⟨P, Z, p, hne⟩ := kit_any TO I ru1 r1 sub ht fun k z => TO.exs k c b (by rw [← z]; exact hb)
      obtain ⟨wc, hwc, kw⟩ := TO.one t c b hb
      have e3 := (clV_rep r2 hwc).eq ru2
      subst e3
      exact PySem.W.kia_one Z I.kIn p kw hne fun tk => ⟨.bl b, H, I.tok tk, rfl, rDL_end q sub (.bl b)⟩
    · cases e
  · cases e

/-! ### the value that an exception holds -/
def gXv (oks : List Nat) : List D → Option D
  | [.exc c d] => if c ∈ oks then some d else none
  | _ => none
theorem de_xv {oks : List Nat} {e : Expr} {pos : Pos} {fe : Ev AV} (EX : ∀ c ∈ oks, ExK X.K ca fI c) (he : DE ca X e fe) (hb : attributeBase e "value" X.env (eval e X.env) = eval e X.env := by rfl) : DE ca X (.Attribute e "value" pos) (ev1 (gXv oks) fe) := fun W tk => by
  refine ⟨fun pins s σ H Q I h => ?_⟩
  refine attr_of hb (thn ((he W tk).run pins s σ H _ I (tD_op1 h)) fun u s1 hh => ?_)
  obtain ⟨v, H1, I1, rx, G, ds, d, sub, rr, e1, q⟩ := hh
  unfold gXv at e1
  split at e1
  · rename_i c d0
    split at e1
    · rename_i hk
      cases e1
      have ex := EX c hk
      obtain ⟨v, T, ev, r⟩ := reps1 rr
      cases ev
      cases r with
      | exc hx ho rv =>
        cases (show u = Value.ref _ from rx)
        obtain ⟨oe, od, J, mA, hr, hl⟩ := exv_at I1 (sub _ _ hx) (sub _ _ ho)
        obtain ⟨u, hu, ru⟩ := RelO.some_of (v := _) (o := mA "value") (by have := hr "value"; simpa [List.lookup] using this)
        exact HandSPX.exc_get I1.kIn J ex.ga ex.gg ex.su (PySem.W.findObj_own ex.hd ex.no rfl (by rw [hl, hu])) (handed_of ru) ⟨_, H1, I1.tok _, ru, rDL_end q sub rv⟩
    · cases e1
  · cases e1
end
end DL

namespace DL
open PySem PySem.Spec PyProof.Rows L2

/-! ### own things moved into a list -/
def mvK : List AV → DEnv → Option (List D × DEnv)
  | [], ρ => some ([], ρ)
  | .val d :: as, ρ => (mvK as ρ).map fun p => (d :: p.1, p.2)
  | .pl i [] :: as, ρ => match slotOf ρ i with
    | some d => (mvK as (ρ.set i none)).map fun p => (d :: p.1, p.2)
    | none => none
  | .pl _ (_ :: _) :: _, _ => none
def pre1 (T : FP) (Fs : Nat → FP) : Nat → FP
  | 0 => T
  | i + 1 => Fs i
theorem mv_reps {B : Bd} {G H : Hp} {σ : L2.St} : ∀ {Wt : FP} {vs : List V} {avs : List AV} {ds : List D} {ρ ρ' : DEnv} {F : Nat → FP}, Cfg B G H σ ρ F → RepAs B G H σ Wt vs avs → (∀ x, Wt x → ¬ un F x) → mvK avs ρ = some (ds, ρ') →
    ∃ (F' Fs : Nat → FP), Cfg B G H σ ρ' F' ∧ vs.length = ds.length ∧ (∀ (i : Nat) v d, vs[i]? = some v → ds[i]? = some d → Rep B G H v d (Fs i)) ∧ (∀ i x, Fs i x → i < ds.length) ∧ (∀ i j x, Fs i x → Fs j x → i = j) ∧
      (∀ x, un F' x → un F x) ∧ (∀ i x, Fs i x → Wt x ∨ un F x) ∧ ∀ i x, Fs i x → ¬ un F' x
  | _, _, _, ds, ρ, ρ', F, c, .nil, n, e => by
    cases e
    exact ⟨F, fun _ => nof, c, rfl, fun i v d h => by simp at h, fun _ _ h => h.elim, fun _ _ _ h => h.elim, fun _ h => h, fun _ _ h => h.elim, fun _ _ h => h.elim⟩
  | Wt, v :: vs, a :: as, ds, ρ, ρ', F, c, .cons (T := T) (Wu := Wu) r hT t hu dj, n, e => by
    -- one part more in front
    have put : ∀ {U : FP} {d : D} {ds1 : List D} {F1 F' Fs : Nat → FP}, Rep B G H v d U → Cfg B G H σ ρ' F' → vs.length = ds1.length → (∀ (i : Nat) v d, vs[i]? = some v → ds1[i]? = some d → Rep B G H v d (Fs i)) → (∀ i x, Fs i x → i < ds1.length) → (∀ i j x, Fs i x → Fs j x → i = j) →
        (∀ x, un F' x → un F1 x) → (∀ i x, Fs i x → Wu x ∨ un F1 x) → (∀ i x, Fs i x → ¬ un F' x) → (∀ x, un F1 x → un F x) → (∀ x, U x → Wt x ∨ un F x) → (∀ x, U x → ¬ Wu x) → (∀ x, U x → ¬ un F1 x) →
        ∃ (F' Fs : Nat → FP), Cfg B G H σ ρ' F' ∧ (v :: vs).length = (d :: ds1).length ∧ (∀ (i : Nat) w e, (v :: vs)[i]? = some w → (d :: ds1)[i]? = some e → Rep B G H w e (Fs i)) ∧ (∀ i x, Fs i x → i < (d :: ds1).length) ∧ (∀ i j x, Fs i x → Fs j x → i = j) ∧
          (∀ x, un F' x → un F x) ∧ (∀ i x, Fs i x → Wt x ∨ un F x) ∧ ∀ i x, Fs i x → ¬ un F' x := fun {U d ds1 F1 F' Fs} r1 c1 l1 q1 q2 q3 q4 q5 q6 k1 k2 k3 k4 => by
      have sep : ∀ i x, U x → ¬ Fs i x := fun i x hU hF => (q5 i x hF).elim (k3 x hU) (k4 x hU)
      refine ⟨F', pre1 U Fs, c1, by simp [l1], fun i w e h1 h2 => ?_, fun i x h => ?_, fun i j x h1 h2 => ?_, fun x h => k1 x (q4 x h), fun i x h => ?_, fun i x h => ?_⟩
      · cases i with
        | zero => simp at h1 h2; subst h1; subst h2; exact r1
        | succ i => exact q1 i w e (by simpa using h1) (by simpa using h2)
      · cases i with
        | zero => simp
        | succ i => simpa using q2 i x h
      · cases i with
        | zero => cases j with
          | zero => rfl
          | succ j => exact (sep j x h1 h2).elim
        | succ i => cases j with
          | zero => exact (sep i x h2 h1).elim
          | succ j => rw [q3 i j x h1 h2]
      · cases i with
        | zero => exact k2 x h
        | succ i => exact (q5 i x h).imp (hu x) (k1 x)
      · cases i with
        | zero => exact fun z => k4 x h (q4 x z)
        | succ i => exact q6 i x h
    cases a with
    | val d =>
      unfold mvK at e
      obtain ⟨⟨ds1, ρ1⟩, e1, e2⟩ := Option.map_eq_some_iff.mp e
      cases e2
      obtain ⟨F', Fs, c1, l1, q1, q2, q3, q4, q5, q6⟩ := mv_reps c t (fun x h => n x (hu x h)) e1
      exact put (F1 := F) r c1 l1 q1 q2 q3 q4 q5 q6 (fun _ h => h) (fun x h => .inl (hT x h)) dj fun x h => n x (hT x h)
    | pl i p =>
      cases p with
      | cons s p => cases e
      | nil =>
        unfold mvK at e
        cases hs : slotOf ρ i with
        | none => rw [hs] at e; cases e
        | some d =>
          rw [hs] at e
          obtain ⟨⟨ds1, ρ1⟩, e1, e2⟩ := Option.map_eq_some_iff.mp e
          cases e2
          obtain ⟨⟨v0, h0, hp⟩, rfl⟩ := r
          cases hp
          obtain ⟨v1, h1, r1⟩ := c.at hs
          rw [h0] at h1
          cases h1
          obtain ⟨F', Fs, c1, l1, q1, q2, q3, q4, q5, q6⟩ := mv_reps (c.drop i) t (fun x h ⟨j, hj⟩ => n x (hu x h) ⟨j, hj.1⟩) e1
          exact put (F1 := fun j x => F j x ∧ j ≠ i) r1 c1 l1 q1 q2 q3 q4 q5 q6 (fun x ⟨j, hj⟩ => ⟨j, hj.1⟩) (fun x h => .inr ⟨i, h⟩) (fun x h w => n x (hu x w) ⟨i, h⟩) fun x h ⟨j, hj⟩ => hj.2 (c.dis j i x hj.1 h)
def evMv (fs : Ev (List AV)) : Ev AV := fs.andThen fun avs ρ => match mvK avs ρ with
  | some (ds, ρ') => if ds.length ≤ 16777216 then some (.ok (.val (.ol ds)) ρ') else none
  | none => none
section
variable {ca : Nat → Addr} {X : Cx} {es : List Expr} {fs : Ev (List AV)} {pos : Pos}
theorem de_lstO (h : DA ca X es fs) : DE ca X (.List es pos) (evMv fs) := fun W tk => PE.imp (pe_lst (h W tk)) fun σ H Q q => by
  obtain ⟨G, ρ, F, o, c, e, z⟩ := q
  refine tDL_bind c e (fun er ρ' eo => by subst eo; exact z) fun avs ρ1 vs G1 H1 F1 Wt ek c1 r1 n1 x1 => ?_
  cases hm : mvK avs ρ1 with
  | none => rw [hm] at ek; cases ek
  | some p =>
    obtain ⟨ds, ρ'⟩ := p
    rw [hm] at ek
    dsimp only at ek
    split at ek
    · rename_i hz
      cases ek
      obtain ⟨F', Fs, c2, l2, q1, q2, q3, q4, q5, q6⟩ := mv_reps c1 r1 n1 hm
      refine ⟨by rw [l2, sizeLine_eq]; exact hz, fun p hp => ?_⟩
      have dm : ∀ i, ¬ Fs i p := fun i h => by
        have hi := q2 i p h
        obtain ⟨⟨o, eo⟩, _⟩ := (q1 i _ _ (List.getElem?_eq_getElem (by omega)) (List.getElem?_eq_getElem hi)).dom p h
        rw [hp] at eo
        cases eo
      have xo : Ext G1 H1 nof G1 (upd H1 p (.lst vs)) (fun x => x = p) := ext_own hp
      refine z (.ref p) G1 _ F' (fun x => x = p ∨ ∃ i, Fs i x) (c2.grow xo (sub_own hp c1.sub)) (.ol upd_same (no_g c1.sub hp) l2 (fun i v d e1 e2 => ((q1 i v d e1 e2).frame xo fun _ _ h => h).1) q2 q3 dm) ?_ ?_
      · rintro x (rfl | ⟨i, hx⟩) hu
        · obtain ⟨⟨o, eo⟩, _⟩ := c2.dom hu
          rw [hp] at eo
          cases eo
        · exact q6 i x hx hu
      · refine x1.trans ⟨fun _ _ h => h, fun b o h _ => by rw [upd_ne (ne_of_none h hp)]; exact h, fun b hb => ?_, fun _ _ h => .inl h⟩
        rcases hb with hb | rfl | ⟨i, hb⟩
        · exact .inl (.inl (q4 b hb))
        · exact .inr hp
        · exact .inl ((q5 i b hb).elim .inr .inl)
    · cases ek
end

/-! ### calls by keywords alone -/
def DK (ca : Nat → Addr) (X : Cx) (kws : List Keyword) (f : Ev (List AV)) : Prop := ∀ W, Takes X W → PK X kws (tDL ⟨X.K, ca⟩ W f)
theorem PK.imp {X : Cx} {e : List Keyword} {t u : TA} (h : PK X e t) (k : ∀ (σ : L2.St) (H : Hp) (Q : List V → Hp → Prop), u σ H Q → t σ H Q) : PK X e u := ⟨fun pos pins s σ H Q I q => h.run pos pins s σ H Q I (k σ H Q q)⟩
def permD {α : Type} (l : List α) : List Nat → Option (List α)
  | [] => some []
  | i :: is => match l[i]?, permD l is with
    | some a, some as => some (a :: as)
    | _, _ => none
theorem permD_pair {α β : Type} {R : α → β → Prop} {xs : List α} {ys : List β} (p : Paired R xs ys) : ∀ {is : List Nat} {us : List β}, permD ys is = some us → ∃ ws, permD xs is = some ws ∧ Paired R ws us
  | [], us, e => by cases e; exact ⟨[], rfl, .nil⟩
  | i :: is, us, e => by
    unfold permD at e
    cases h1 : ys[i]? with
    | none => rw [h1] at e; cases e
    | some y =>
      cases h2 : permD ys is with
      | none => rw [h1, h2] at e; cases e
      | some us' =>
        rw [h1, h2] at e
        cases e
        obtain ⟨ws, e1, q⟩ := permD_pair p h2
        have hi : i < xs.length := by rw [paired_len p]; exact (List.getElem?_eq_some_iff.mp h1).1
        have h3 : xs[i]? = some xs[i] := List.getElem?_eq_getElem hi
        refine ⟨xs[i] :: ws, ?_, .cons (paired_get p i _ _ h3 h1) q⟩
        unfold permD
        rw [h3, e1]
theorem repAs_fz {B : Bd} {G H : Hp} {σ : L2.St} : ∀ {vs : List V} {ds : List D}, Paired (fun v d => Rep B G H v d nof) vs ds → RepAs B G H σ nof vs (ds.map .val)
  | _, _, .nil => .nil
  | _, _, .cons r t => .cons (T := nof) r (fun _ h => h) (repAs_fz t) (fun _ h => h) fun _ h => h.elim
/-- how the keywords' values come to the parameters: is[k] tells which of them the parameter k takes -/
structure KwB (K : PySem.W.Frag) (fd : FuncData) (ps ks : List Str) (is : List Nat) : Prop where
  to : ∀ (s : Shared) (ws us : List Value), ws.length = ks.length → permD ws is = some us → BindsTo s fd ⟨[], ks.zip ws⟩ (ps.zip us)
  len : is.length = ps.length
theorem permD_len {α : Type} {l : List α} : ∀ {is : List Nat} {us : List α}, permD l is = some us → us.length = is.length
  | [], us, e => by cases e; rfl
  | i :: is, us, e => by
    unfold permD at e
    cases h1 : l[i]? with
    | none => rw [h1] at e; cases e
    | some y =>
      cases h2 : permD l is with
      | none => rw [h1, h2] at e; cases e
      | some us' =>
        rw [h1, h2] at e
        cases e
        simp [permD_len h2]
def evKw (n : Nat) (is : List Nat) (m : Mir) (fs : Ev (List AV)) : Ev AV := (evFz fs).andThen fun ds ρ => if ds.length = n then match permD ds is with
  | some us => callK (us.map fun _ => false) m (us.map .val) ρ
  | none => none
  else none
section
variable {ca : Nat → Addr} {X : Cx} {k : Nat} {f : Addr} {fd : FuncData} {ps ks : List Str} {is : List Nat} {x : Str} {p pos kpos : Pos} {e : Expr} {kws : List Keyword} {fs : Ev (List AV)} {fe : Ev AV} {nm : Option Str} {m : Mir}
theorem dk_nil : DK ca X [] evNil := fun W tk => PK.imp pk_nil fun σ H Q h => tDL_nil h
theorem dk_cons (he : DE ca X e fe) (hr : DK ca X kws fs) : DK ca X (⟨nm, e, kpos⟩ :: kws) (evCons fe fs) := fun W tk => PK.imp (pk_cons (he W tk) (hr W tk)) fun σ H Q h => tDL_cons h
theorem de_callK (F : FnD X.prog X.w X.K X.mg X.base ca k f fd ps m) (hr : Room k X.A) (hm : X.mg x = some (.ref f)) (hk : PySem.W.keepIn X.K (.ref f) = true) (hb : KwB X.K fd ps ks is) (hkw : DK ca X kws fs)
    (hall : (backToKw pos (keywordEach kws X.env)).all (·.1.isSome) = true := by rfl) (hks : (backToKw pos (keywordEach kws X.env)).filterMap (·.1) = ks := by rfl) (hg : Gl X x := by rfl)
    (hdb : (x == ("__debug__" : Str)) = false := by decide) (hpl : ((backTo pos (starEach [] X.env)).any (·.1) || (backToKw pos (keywordEach kws X.env)).any (·.1.isNone)) = false := by rfl) :
    DE ca X (.Call (.Name x p) [] kws pos) (evKw ks.length is m fs) := fun W tk => ⟨fun pins s σ H Q I h => by
  refine wpAny_Call_Name_kw (ld_glob I hg hm ?_ hdb)
  have rd : tDL ⟨X.K, ca⟩ W fs σ H fun zs H1 => zs.length = ks.length ∧ ∃ us, permD zs is = some us ∧ spD ⟨X.K, ca⟩ ps.length m us H1 Q (WE W σ) := by
    obtain ⟨G, ρ, F0, o, c, e0, z⟩ := h
    unfold evKw at e0
    refine tDF_of ?_
    refine tDF_bind c e0 (fun er ρ' eo => by subst eo; exact z) fun ds ρ1 vs G1 H1 F1 ek c1 r1 x1 => ?_
    split at ek
    case isFalse => cases ek
    rename_i hl
    cases hp : permD ds is with
    | none => rw [hp] at ek; cases ek
    | some us =>
      rw [hp] at ek
      obtain ⟨ws, e1, q⟩ := permD_pair r1 hp
      refine ⟨(paired_len r1).trans hl, ws, e1, ?_⟩
      exact call_end c1 (repAs_fz (σ := σ) q) (fun _ h => h.elim) ek (endE_trans z (x1.mono (fun _ h => h) fun y h => h.elim id False.elim)) ((permD_len e1).trans hb.len)
  refine PySem.W.callWith_KW0 (h₀ := X.base) I.ok.mod.kin hk hall (thn ((hkw W tk).run pos pins s σ H _ I rd) fun ws s2 ⟨zs, H2, I2, rz, hl, us, e1, sp⟩ => ⟨I2.kIn, ?_⟩) hpl
  rw [hks]
  obtain ⟨wv, e2, rv⟩ := permD_pair (R := fun w v => RelV v w) (xs := ws) (ys := zs) (by
    have : ∀ {a : List V} {b : List Value}, Vals a b → Paired (fun w v => RelV v w) b a := fun {a b} h => by
      induction h with
      | nil => exact .nil
      | cons r t ih => exact .cons r ih
    exact this rz) e1
  have rv' : Vals us wv := by
    clear e1 e2 sp
    induction rv with
    | nil => exact .nil
    | cons r t ih => exact .cons r ih
  refine wpAny_call (codeAny_mono (F.run X.A X.stack s2 H2 ⟨[], ks.zip ws⟩ wv us Q (WE W σ) hr I2.env0 (hb.to s2 ws wv (by rw [← rz.length]; exact hl) e2) rv' sp) fun r s' hq => ?_)
  cases r with
  | error er => exact passAt tk σ pins H2 s2 er s' I2 hq
  | ok fl =>
    cases fl with
    | ret u => exact I2.after hq
    | next => exact False.elim hq
    | brk => exact False.elim hq
    | cont => exact False.elim hq⟩
end
end DL

namespace DL
open PySem PySem.Spec PyProof.Rows L2

/-! ### names bound, in short -/
section
variable {ca : Nat → Addr} {X : Cx} {I : List Nat} {fe : Ev AV} {e : Expr} {x y z : Str} {i j l : Nat} {px py pz pt pos : Pos} {kt : Nat} {fs : Ev (List AV)}
theorem db_none {st : List Stmt} : DB ca X I st (fun _ => none) := fun W tk ps => ⟨fun pins s σ H D I h => by
  obtain ⟨G, ρ, F, o, c, e, _⟩ := h
  cases e⟩
theorem de_pv (i : Nat) (hN : X.N[i]? = some x := by rfl) (hv : Vis X.env.scope x := by first | exact Or.inl rfl | exact Or.inr (Or.inl rfl) | exact Or.inr (Or.inr rfl)) (hd : (x == ("__debug__" : Str)) = false := by decide)
    (hcd : (x == ("__classdict__" : Str)) = false := by decide) : DE ca X (.Name x pos) (evV i) := de_var (pe_var hN hv hd hcd)
theorem ds_name (i : Nat) (hN : X.N.Nodup) (he : DE ca X e fe) (hi : X.N[i]? = some x := by rfl) (hx : Loc X.env.scope x := by exact Or.inl rfl) (hs : swapsWith e (some (.Name x px)) pos.line X.env = pure false := by rfl)
    (hf : X.fn x = true ∨ X.env.scope.names.lookup x = some .local := by exact Or.inr rfl) : DS ca X I (.Assign [.Name x px] e pos) (sAsg I [i] (evCons fe evNil)) := ds_set fun te W h tk => by
  subst h
  exact ps_set hN hi hx (he W tk) hs hf
theorem dg_nm (i : Nat) (hN : X.N.Nodup) (hi : X.N[i]? = some x := by rfl) (hx : Loc X.env.scope x := by exact Or.inl rfl) (hf : X.fn x = true ∨ X.env.scope.names.lookup x = some .local := by exact Or.inr rfl) : DG ca X I (.Name x pos) (tgN I i) :=
  dg_name (pg_name hN hi hx hf)
theorem ds_two (i j : Nat) {a b : Expr} {fa fb : Ev AV} {k2 pt2} (hc : X.calm = true) (hN : X.N.Nodup) (ha : DE ca X a fa) (hb : DE ca X b fb) (hij : i ≠ j := by decide) (hi : X.N[i]? = some x := by rfl) (hj : X.N[j]? = some y := by rfl)
    (hx : X.env.scope.names.lookup x = some .local := by rfl) (hy : X.env.scope.names.lookup y = some .local := by rfl) (hw : swappedStores [.Tuple [.Name x px, .Name y py] kt pt] (.Tuple [a, b] k2 pt2) X.env = pure (some [x, y]) := by rfl)
    (hs : swapsWithSole [.Tuple [.Name x px, .Name y py] kt pt] (.Tuple [a, b] k2 pt2) pos.line X.env = pure false := by rfl)
    (h1 : starEach [a, b] X.env = (false, eval a X.env) :: starEach [b] X.env := by rfl) (h2 : starEach [b] X.env = (false, eval b X.env) :: starEach [] X.env := by rfl) :
    DS ca X I (.Assign [.Tuple [.Name x px, .Name y py] kt pt] (.Tuple [a, b] k2 pt2) pos) (sAsg I [i, j] (evCons fa (evCons fb evNil))) :=
  ds_par (fun ta W h tk => by
    subst h
    exact ps_par hc hN hi hj hij hx hy (da_cons ha (da_cons hb da_nil h2) h1 W tk) hw hs) fun ρ avs ρ' h => evCons2_len h
end
section
variable {P : Program} {w : World} {K : PySem.W.Frag} {mg : Str → Option Value} {base : Heap} {ca : Nat → Addr}
/-- a promise that asks for nothing that holds -/
theorem fn_none {x qual : Str} {st : Stmt} {f : Addr} {fd : FuncData} {N ps : List Str} {I : List Nat} (k : Nat) (F : Fun K x qual st f fd) (S : FnScope N ps (defScope st)) (hN : ps.length ≤ N.length) :
    FnD P w K mg base ca (k + 1) f fd ps (fnD N.length ps.length I fun _ => none) := fn_d F S hN fun _ _ _ _ _ _ _ => db_none
end

end DL

namespace DL
open PySem PySem.Spec PyProof.Rows L2

/-! ### zip of two lists or of two tuples -/
def gZipA : List D → Option (List D)
  | [.tup xs, .tup ys] => some ((xs.zip ys).map fun p => .tup [p.1, p.2])
  | ds => gZip ds
section
variable {B : Bd} {G : Hp}
theorem itd_zipT {a b : Addr} {vs ws : List V} {xs ys : List D} (h1 : SqT B.K G a vs) (h2 : SqT B.K G b ws) (l1 : vs.length = xs.length) (l2 : ws.length = ys.length)
    (c1 : ∀ (i : Nat) v d, vs[i]? = some v → xs[i]? = some d → ∀ H, Rep B G H v d nof) (c2 : ∀ (i : Nat) v d, ws[i]? = some v → ys[i]? = some d → ∀ H, Rep B G H v d nof) :
    ItD B (RZ.ItzT B.K a b) ((xs.zip ys).map fun p => .tup [p.1, p.2]) G := by
  have len : ((xs.zip ys).map fun p => D.tup [p.1, p.2]).length = min xs.length ys.length := by simp
  refine ⟨fun i G' H' g1 g2 hi => ?_, fun G' H' g1 g2 => ?_, fun i G' H' v H'' g1 g2 hi y => ?_⟩
  · rw [len] at hi
    exact ⟨vs, ws, vs[i]'(by omega), ws[i]'(by omega), sqT_mono (sqT_mono h1 g1) g2, sqT_mono (sqT_mono h2 g1) g2, List.getElem?_eq_getElem _, List.getElem?_eq_getElem _⟩
  · rw [len]
    exact ⟨vs, ws, sqT_mono (sqT_mono h1 g1) g2, sqT_mono (sqT_mono h2 g1) g2, by omega⟩
  · rw [len] at hi
    obtain ⟨T, x, z, rfl, hT, rfl, k1, k2⟩ := y
    have e1 := k1 vs (sqT_mono (sqT_mono h1 g1) g2)
    have e2 := k2 ws (sqT_mono (sqT_mono h2 g1) g2)
    have hx : i < xs.length := by omega
    have hy : i < ys.length := by omega
    refine ⟨.tup [xs[i], ys[i]], _, ?_, sub_new hT g2, rep_pair2 (gone g2 hT) ((c1 i x xs[i] e1 (List.getElem?_eq_getElem hx) H').keep g1 fun _ h => h.elim) ((c2 i z ys[i] e2 (List.getElem?_eq_getElem hy) H').keep g1 fun _ h => h.elim), ext_new hT g2⟩
    rw [List.getElem?_map, List.getElem?_eq_getElem (by simp; omega)]
    simp
end
section
variable {ca : Nat → Addr} {X : Cx} {e e2 : Expr} {fs : Ev (List AV)} {p pos tpos : Pos} {elts : List Expr} {kk : Nat}
theorem di_zipA (hm : X.mg "zip" = none) (ha : DA ca X [e, e2] fs) (hg : Gl X "zip" := by rfl) (hs : starEach [e, e2] X.env = (false, eval e X.env) :: starEach [e2] X.env := by rfl) (hpl : (backTo pos (starEach [e2] X.env)).any (·.1) = false := by rfl) :
    DI ca X (.Tuple elts kk tpos) (.Call (.Name "zip" p) [e, e2] [] pos) (evIt gZipA fs) := fun W tk =>
  PI.imp (RZ.pi_zipA hg hm (ha W tk) hs hpl) fun σ H R h => tDL_map (tI_of h) fun vs H1 ⟨G, ds, xs, s, rr, e, z⟩ => by
    unfold gZipA at e
    split at e
    · cases e
      obtain ⟨x, y, rfl, r1, r2⟩ := paired2 rr
      cases r1 with
      | tup q1 l1 c1 => cases r2 with
        | tup q2 l2 c2 => exact ⟨_, _, _, _, rfl, .inr ⟨sqT_mono q1 s, sqT_mono q2 s, z _ (itd_zipT q1 q2 l1 l2 (fun i v d e1 e2 H => (c1 i v d e1 e2).any) fun i v d e1 e2 H => (c2 i v d e1 e2).any)⟩⟩
    · unfold gZip at e
      split at e
      · split at e
        · rename_i xs ys h1 h2
          cases e
          obtain ⟨x, y, rfl, r1, r2⟩ := paired2 rr
          obtain ⟨a, us, rfl, q1, l1, c1⟩ := rep_lstF r1 h1
          obtain ⟨b, ws, rfl, q2, l2, c2⟩ := rep_lstF r2 h2
          exact ⟨a, b, us, ws, rfl, .inl ⟨sqL_mono q1 s, sqL_mono q2 s, z _ (itd_zip q1 q2 l1 l2 c1 c2)⟩⟩
        · cases e
      · cases e
end
end DL

namespace DL
open PySem PySem.Spec PyProof.Rows L2

/-! ### own exception classes, by one check of the written part -/
def oexB (K : PySem.W.Frag) (C : Addr) : Bool := match K.lookup C with
  | some ⟨.type "type", _, .cls cd, sl⟩ => (match cd.mro, sl.toList with
    | .ref C1 :: bm, [_, _, _, _, some (.builtin n), _] => C1 == C && (n == "ValueError.__new__" && (!cd.hasDel && (cd.hasDict && PySem.HandSPX.refsVE bm)))
    | _, _ => false)
  | _ => false
def eqV (a b : Option (Option Value)) : Bool := match a, b with
  | some (some x), some (some y) => x == y
  | some none, some none => true
  | _, _ => false
theorem eqV_ok {a b : Option (Option Value)} (h : eqV a b = true) : a = b := by
  unfold eqV at h
  split at h
  · rw [beq_iff_eq.mp h]
  · rfl
  · cases h
def exkB (K : PySem.W.Frag) (fI C : Addr) : Bool :=
  oexB K C && (eqV (PySem.W.findIn K (.ref C) "__setattr__") (some (some (.builtin "object.__setattr__"))) && (decide (PySem.W.subIn K (.ref C) (.type "BaseException") = some true) && ((PySem.W.typeIn K (.ref C) == some (.type "type")) && (PySem.W.keepIn K (.ref C) &&
  (eqV (PySem.W.findIn K (.ref C) "__init__") (some (some (.ref fI))) && (eqV (PySem.W.findIn K (.ref C) "value") (some none) && (eqV (PySem.W.findIn K (.ref C) "__getattribute__") (some (some (.builtin "BaseException.__getattribute__"))) &&
  (eqV (PySem.W.findIn K (.ref C) "__getattr__") (some none) && (PySem.W.hasDictIn K C && (eqV (PySem.W.findIn K (.ref C) "__class__") (some (some (.builtin "object.__class__"))) && decide (PySem.W.mroIn K C (.type "object") = some true)))))))))))
theorem oexB_ok {K : PySem.W.Frag} {C : Addr} (h : oexB K C = true) : ∃ nm q N bs bm sn sub ab col dd k0 k1 k2 k3 k5, K.lookup C = some (excClassObj nm q C N bs bm true sn sub ab col dd k0 k1 k2 k3 k5 "ValueError.__new__") ∧ PySem.HandSPX.refsVE bm = true := by
  unfold oexB at h
  split at h
  · rename_i dd cd sl ho
    split at h
    · rename_i C1 bm k0 k1 k2 k3 n k5 hm hs
      obtain ⟨h1, h⟩ := Bool.and_eq_true_iff.mp h
      obtain ⟨h2, h⟩ := Bool.and_eq_true_iff.mp h
      obtain ⟨h3, h⟩ := Bool.and_eq_true_iff.mp h
      obtain ⟨h4, h5⟩ := Bool.and_eq_true_iff.mp h
      obtain ⟨nm, bs, mro, ns, qn, hd, sn, sub, ab, col, del⟩ := cd
      dsimp only at hm h3 h4
      have e1 := beq_iff_eq.mp h1
      have e2 := beq_iff_eq.mp h2
      have e3 : del = false := by simpa using h3
      subst hm e1 e2 e3 h4
      have e4 : sl = #[k0, k1, k2, k3, some (.builtin "ValueError.__new__"), k5] := by
        obtain ⟨l⟩ := sl
        simp only at hs
        rw [hs]
      subst e4
      exact ⟨nm, qn, ns, bs, bm, sn, sub, ab, col, dd, k0, k1, k2, k3, k5, ho, h5⟩
    · cases h
  · cases h
def gsB (K : PySem.W.Frag) : Bool := eqV (PySem.W.specialIn K (.builtin "object.__class__") "__get__") (some (some (.builtin "getset_descriptor.__get__"))) && decide (PySem.W.takesIn K (.builtin "object.__class__") = some true)
theorem exkB_ok {K : PySem.W.Frag} {ca : Nat → Addr} {fI : Addr} {c : Nat} (g : gsB K = true) (h : exkB K fI (ca c) = true) : ExK K ca fI c ∧ PySem.W.typeIn K (.ref (ca c)) = some (.type "type") := by
  unfold exkB at h
  obtain ⟨g1, g2⟩ := Bool.and_eq_true_iff.mp g
  obtain ⟨h0, h⟩ := Bool.and_eq_true_iff.mp h
  obtain ⟨h1, h⟩ := Bool.and_eq_true_iff.mp h
  obtain ⟨h2, h⟩ := Bool.and_eq_true_iff.mp h
  obtain ⟨h3, h⟩ := Bool.and_eq_true_iff.mp h
  obtain ⟨h4, h⟩ := Bool.and_eq_true_iff.mp h
  obtain ⟨h5, h⟩ := Bool.and_eq_true_iff.mp h
  obtain ⟨h6, h⟩ := Bool.and_eq_true_iff.mp h
  obtain ⟨h7, h⟩ := Bool.and_eq_true_iff.mp h
  obtain ⟨h8, h⟩ := Bool.and_eq_true_iff.mp h
  obtain ⟨h9, h⟩ := Bool.and_eq_true_iff.mp h
  obtain ⟨ha, hb⟩ := Bool.and_eq_true_iff.mp h
  have ty := beq_iff_eq.mp h3
  exact ⟨{ oex := ⟨oexB_ok h0, eqV_ok h1, of_decide_eq_true h2, ty, h4⟩, ini := eqV_ok h5, no := eqV_ok h6, ga := eqV_ok h7, gg := eqV_ok h8, su := of_decide_eq_true h2, hd := h9, kc := eqV_ok ha, hn := eqV_ok g1, ht := of_decide_eq_true g2, hm := of_decide_eq_true hb }, ty⟩
/-- which class an own exception class is of -/
def isX (k c : Nat) : Bool := decide (k = 0 ∨ c = k)
def xTys : List String := ["ValueError", "int", "str", "bool", "list", "tuple", "dict"]
def xNts : List String := ["NoneType", "bool", "int", "str", "tuple", "list", "dict"]
def excB (K : PySem.W.Frag) (ca : Nat → Addr) (fI : Addr) (exs : List Nat) : Bool :=
  gsB K && (exs.all (fun c => exkB K fI (ca c)) && (exs.all (fun i => exs.all fun j => decide (PySem.W.subIn K (.ref (ca i)) (.ref (ca j)) = some (isX j i))) && exs.all (fun i => xTys.all fun m => decide (PySem.W.subIn K (.ref (ca i)) (.type m) = some (decide (m = "ValueError"))))))
def tabX (exs : List Nat) : Tab
  | .inl n, .ty m => kitB n m
  | .inl n, .cls k => if k ∈ exs ∧ n ∈ xNts then some false else none
  | .inr c, .ty m => if c ∈ exs ∧ m ∈ xTys then some (decide (m = "ValueError")) else none
  | .inr c, .cls k => if c ∈ exs ∧ k ∈ exs then some (isX k c) else none
  | _, _ => none
def catX (exs : List Nat) (k c : Nat) : Option Bool := if c ∈ exs then some (isX k c) else none
theorem subIn_self {K : PySem.W.Frag} {C : Addr} {b : Bool} (h : oexB K C = true) (e : PySem.W.subIn K (.ref C) (.ref C) = some b) : b = true := by
  obtain ⟨nm, q, N, bs, bm, sn, sub, ab, col, dd, k0, k1, k2, k3, k5, hC, _⟩ := oexB_ok h
  have hcl : PySem.W.clsIn K C = some { name := nm, bases := bs, mro := .ref C :: bm, ns := N, qualname := q, hasDict := true, slotNames := sn, subclasses := sub, abstract := ab, collection := col, hasDel := false } := by unfold PySem.W.clsIn; rw [hC] <;> rfl
  have e2 : PySem.W.mroIn K C (.ref C) = some b := e
  unfold PySem.W.mroIn at e2
  rw [hcl, Option.bind_some] at e2
  split at e2
  · cases e2
  · have := Option.some.inj e2
    rw [← this]
    simp
theorem clsIn_some {K : PySem.W.Frag} {C : Addr} (h : oexB K C = true) : (PySem.W.clsIn K C).isSome = true := by
  obtain ⟨nm, q, N, bs, bm, sn, sub, ab, col, dd, k0, k1, k2, k3, k5, hC, _⟩ := oexB_ok h
  unfold PySem.W.clsIn
  rw [hC] <;> rfl
theorem kit_ref {K : PySem.W.Frag} {C : Addr} {t : Value} {b : Bool} (h : oexB K C = true) (ty : PySem.W.typeIn K (.ref C) = some (.type "type")) (e : PySem.W.subIn K t (.ref C) = some b) : PySem.W.kitOne K t (.ref C) = some b := by
  unfold PySem.W.kitOne
  split
  · rename_i q
    have := beq_iff_eq.mp q
    subst this
    rw [subIn_self h e]
  · show (if ((PySem.W.clsIn K C).isSome && PySem.W.typeIn K (.ref C) == some (.type "type")) = true then PySem.W.subIn K t (.ref C) else none) = some b
    rw [if_pos (by rw [clsIn_some h, ty]; rfl)]
    exact e
theorem kitM : ∀ m ∈ xTys, PySem.W.kitMeta m = true := by decide +kernel
theorem subN : ∀ n ∈ xNts, ∀ C : Addr, ∃ l, PySem.fastBuiltinMro n = some l ∧ l.contains (.ref C) = false := by
  intro n hn C
  have : ∀ l : List Value, (l.all fun v => match v with | .type _ => true | _ => false) = true → l.contains (.ref C) = false := fun l hl => by
    induction l with
    | nil => rfl
    | cons a l ih =>
      simp only [List.all_cons, Bool.and_eq_true] at hl
      rw [List.contains_cons, ih hl.2, Bool.or_false]
      cases a <;> first | (simp at hl; done) | rfl
  have key : ∀ n ∈ xNts, ∃ l, PySem.fastBuiltinMro n = some l ∧ (l.all fun v => match v with | .type _ => true | _ => false) = true := by
    intro n hn
    have k2 : xNts.all (fun n => match PySem.fastBuiltinMro n with
      | some l => l.all fun v => match v with | .type _ => true | _ => false
      | none => false) = true := by decide +kernel
    have k3 := List.all_eq_true.mp k2 n hn
    split at k3
    · rename_i l hl; exact ⟨l, hl, k3⟩
    · cases k3
  obtain ⟨l, e1, e2⟩ := key n hn
  exact ⟨l, e1, this l e2⟩
theorem exc_all {K : PySem.W.Frag} {ca : Nat → Addr} {fI : Addr} {exs : List Nat} (h : excB K ca fI exs = true) :
    (∀ c ∈ exs, ExK K ca fI c) ∧ TabOk K ca fI (tabX exs) ∧ ∀ k ∈ exs, ∀ c b, catX exs k c = some b → PySem.W.exmOne K (.ref (ca c)) (.ref (ca k)) = some b := by
  unfold excB at h
  obtain ⟨h0, h⟩ := Bool.and_eq_true_iff.mp h
  obtain ⟨h1, h⟩ := Bool.and_eq_true_iff.mp h
  obtain ⟨h2, h3⟩ := Bool.and_eq_true_iff.mp h
  have ok : ∀ c ∈ exs, exkB K fI (ca c) = true := List.all_eq_true.mp h1
  have oe : ∀ c ∈ exs, oexB K (ca c) = true := fun c hc => (Bool.and_eq_true_iff.mp (ok c hc)).1
  have ex : ∀ c ∈ exs, ExK K ca fI c ∧ PySem.W.typeIn K (.ref (ca c)) = some (.type "type") := fun c hc => exkB_ok h0 (ok c hc)
  have sr : ∀ i ∈ exs, ∀ j ∈ exs, PySem.W.subIn K (.ref (ca i)) (.ref (ca j)) = some (isX j i) := fun i hi j hj => of_decide_eq_true (List.all_eq_true.mp (List.all_eq_true.mp h2 i hi) j hj)
  have st : ∀ i ∈ exs, ∀ m ∈ xTys, PySem.W.subIn K (.ref (ca i)) (.type m) = some (decide (m = "ValueError")) := fun i hi m hm => of_decide_eq_true (List.all_eq_true.mp (List.all_eq_true.mp h3 i hi) m hm)
  refine ⟨fun c hc => (ex c hc).1, ⟨fun t c b e => ?_, fun k c b e => ?_⟩, fun k hk c b e => ?_⟩
  · cases t with
    | inl n =>
      cases c with
      | ty m => exact ⟨_, rfl, kit_ty e⟩
      | cls k =>
        simp only [tabX] at e
        split at e
        · rename_i hh
          cases e
          refine ⟨_, rfl, kit_ref (oe k hh.1) (ex k hh.1).2 ?_⟩
          obtain ⟨l, e1, e2⟩ := subN n hh.2 (ca k)
          show (PySem.fastBuiltinMro n).map (·.contains (.ref (ca k))) = some false
          rw [e1, Option.map_some, e2]
        · cases e
      | _ => simp [tabX] at e
    | inr i =>
      cases c with
      | ty m =>
        simp only [tabX] at e
        split at e
        · rename_i hh
          cases e
          refine ⟨_, rfl, ?_⟩
          show (if (Value.ref (ca i) == Value.type m) = true then some true else PySem.W.kitCls K (.ref (ca i)) (.type m)) = _
          rw [if_neg (by simp)]
          show (if PySem.W.kitMeta m = true then PySem.W.subIn K (.ref (ca i)) (.type m) else none) = _
          rw [if_pos (kitM m hh.2)]
          exact st i hh.1 m hh.2
        · cases e
      | cls k =>
        simp only [tabX] at e
        split at e
        · rename_i hh
          cases e
          exact ⟨_, rfl, kit_ref (oe k hh.2) (ex k hh.2).2 (sr i hh.1 k hh.2)⟩
        · cases e
      | _ => simp [tabX] at e
  · cases c with
    | ty m =>
      simp only [tabX] at e
      split at e
      · rename_i hh; exact (ex k hh.1).1
      · cases e
    | cls j =>
      simp only [tabX] at e
      split at e
      · rename_i hh; exact (ex k hh.1).1
      · cases e
    | _ => simp [tabX] at e
  · unfold catX at e
    split at e
    · rename_i hc
      cases e
      exact PySem.W.exm_ref (ex k hk).1.su (ex k hk).1.hd (ex k hk).2 (sr c hc k hk)
    · cases e
end DL

namespace DL
open PySem PySem.Spec PyProof.Rows L2

theorem kw_of {K : PySem.W.Frag} {x qual : Str} {st : Stmt} {f : Addr} {fd : FuncData} {ps ks : List Str} {is : List Nat} (F : Fun K x qual st f fd)
    (h : ∀ (kV doc pm : Value) (an : Option Addr) (cdv ct : Value) (ws us : List Value), ws.length = ks.length → permD ws is = some us → bindArgs (PySem.W.fnOf x qual (defArgs st) (defBody st) (defScope st) .none kV doc pm an cdv ct) ⟨[], ks.zip ws⟩ = pure (ps.zip us)) (l : is.length = ps.length) : KwB K fd ps ks is := by
  obtain ⟨oc, od, kV, doc, pm, an, cdv, ct, osl, rfl, lk, hcd⟩ := F.ex
  exact ⟨fun s ws us hl e => .of_eq (h kV doc pm an cdv ct ws us hl e), l⟩
/-! ### the law: true at every script -/
def spScr (K : PySem.W.Frag) : Sp := fun vs H Q _ => ∃ (a : Addr) (ns : List Int), vs = [.ref a] ∧ ns.length ≤ 63 ∧ (∀ z ∈ ns, Builtin.Int.intBits z ≤ 1048576) ∧ SqL K H a (ns.map V.int) ∧ ∀ H', Q (.bl true) H'
section
variable {P : Program} {w : World} {K : PySem.W.Frag} {mg : Str → Option Value} {base : Heap} {ca : Nat → Addr} {k : Nat} {f : Addr} {fd : FuncData} {m : Mir}
theorem law_end (hm : ∀ ns : List Int, ns.length ≤ 63 → (∀ z ∈ ns, Builtin.Int.intBits z ≤ 1048576) → ∃ outs, m [.frl (ns.map .int)] = some (.ok (.bl true) outs)) (F : FnD P w K mg base ca k f fd ["script"] m) : FnOk P w K mg base (L2.CX P w) k f fd ["script"] (spScr K) := by
  have to : ∀ vs H Q E, spScr K vs H Q E → spD ⟨K, ca⟩ 1 m vs H Q E := fun vs H Q E h => by
    obtain ⟨a, ns, rfl, hl, hb, hS, q⟩ := h
    obtain ⟨outs, ho⟩ := hm ns hl hb
    refine ⟨rfl, H, [.frl (ns.map .int)], fun _ => nof, _, ⟨fun _ _ h => h, rfl, fun i d e => ?_, fun _ _ _ h => h, fun _ _ _ h => h.elim⟩, ho, fun v G' H' F' T c r n x => ?_⟩
    · cases i with
      | zero =>
        cases e
        refine ⟨_, rfl, .frl hS (by simp) fun i v d e1 e2 => ?_⟩
        rw [List.getElem?_map] at e1 e2
        obtain ⟨z, e3, rfl⟩ := Option.map_eq_some_iff.mp e1
        rw [e3] at e2
        cases e2
        exact .int z
      | succ i => cases e
    · cases r
      exact q H'
  exact ⟨fun vs H Q E h => F.len vs H Q E (to vs H Q E h), fun A st s H args us vs Q E hr he hb hv h => F.run A st s H args us vs Q E hr he hb hv (to vs H Q E h)⟩
theorem cx_end {P : Program} (w : World) (H : Hp) (s : Shared) (e : Value) (s' : Shared) (h : L2.CX P w [] H s (fun _ _ _ => False) e s') : False := by
  obtain ⟨_, _, _, _, _, _, _, _, _, _, _, _, z⟩ := h
  exact z
end
end DL

namespace DL
open PySem PySem.Spec PyProof.Rows L2

/-! ### sizes -/
theorem lg_le {i : Int} {k : Nat} (h : i.natAbs < 2 ^ (k + 1)) : lg i ≤ k := by
  unfold lg
  by_cases h0 : i.natAbs = 0
  · rw [h0]; simp
  · have := (Nat.log2_lt h0).mpr h
    omega
theorem ibits_le {z : Int} {k : Nat} (h : z.natAbs < 2 ^ k) : Builtin.Int.intBits z ≤ k := by
  unfold Builtin.Int.intBits
  split
  · omega
  · rename_i hz
    have h0 : z.natAbs ≠ 0 := by
      intro e
      apply hz
      have : z = 0 := by omega
      simp [this]
    have := (Nat.log2_lt h0).mpr h
    omega
theorem fmod_nn {a b : Int} (h : 0 < b) : 0 ≤ a.fmod b ∧ a.fmod b < b := by
  rw [Int.fmod_eq_emod_of_nonneg a (by omega)]
  exact ⟨Int.emod_nonneg a (by omega), Int.emod_lt_of_pos a h⟩
theorem fdiv_nn {a b : Int} (ha : 0 ≤ a) (h : 0 < b) : 0 ≤ a.fdiv b ∧ a.fdiv b ≤ a := by
  rw [Int.fdiv_eq_ediv_of_nonneg a (by omega)]
  exact ⟨Int.ediv_nonneg ha (by omega), Int.ediv_le_self b ha⟩

/-! ### the functions, run step by step -/
def bO {α β : Type} (x : Option α) (k : α → Option β) : Option β := match x with
  | none => none
  | some a => k a
theorem bO_congr {α β : Type} {x y : Option α} {k : α → Option β} (h : x = y) : bO x k = bO y k := by rw [h]
@[simp] theorem bO_none {α β : Type} {k : α → Option β} : bO none k = none := rfl
@[simp] theorem bO_some {α β : Type} {a : α} {k : α → Option β} : bO (some a) k = k a := rfl
def bE {α β : Type} (x : Option (Out α)) (k : α → DEnv → Option (Out β)) : Option (Out β) := match x with
  | none => none
  | some (.exc e ρ) => some (.exc e ρ)
  | some (.ok a ρ) => k a ρ
theorem bE_congr {α β : Type} {x y : Option (Out α)} {k : α → DEnv → Option (Out β)} (h : x = y) : bE x k = bE y k := by rw [h]
@[simp] theorem bE_none {α β : Type} {k : α → DEnv → Option (Out β)} : bE none k = none := rfl
@[simp] theorem bE_exc {α β : Type} {e : D} {ρ : DEnv} {k : α → DEnv → Option (Out β)} : bE (some (.exc e ρ)) k = some (.exc e ρ) := rfl
@[simp] theorem bE_ok {α β : Type} {a : α} {ρ : DEnv} {k : α → DEnv → Option (Out β)} : bE (some (.ok a ρ)) k = k a ρ := rfl
def bS {α : Type} (x : Option (Out α)) (k : α → Sv) : Option SOut := match x with
  | none => none
  | some (.exc e ρ) => some (.exc e ρ)
  | some (.ok a ρ) => k a ρ
theorem bS_congr {α : Type} {x y : Option (Out α)} {k : α → Sv} (h : x = y) : bS x k = bS y k := by rw [h]
@[simp] theorem bS_none {α : Type} {k : α → Sv} : bS none k = none := rfl
@[simp] theorem bS_exc {α : Type} {e : D} {ρ : DEnv} {k : α → Sv} : bS (some (.exc e ρ)) k = some (.exc e ρ) := rfl
@[simp] theorem bS_ok {α : Type} {a : α} {ρ : DEnv} {k : α → Sv} : bS (some (.ok a ρ)) k = k a ρ := rfl
/-- one behind the other -/
def bQ (x : Option SOut) (g : Sv) : Option SOut := match x with
  | some (.nx ρ1) => g ρ1
  | o => o
theorem bQ_congr {x y : Option SOut} {g : Sv} (h : x = y) : bQ x g = bQ y g := by rw [h]
@[simp] theorem bQ_none {g : Sv} : bQ none g = none := rfl
@[simp] theorem bQ_nx {g : Sv} {ρ : DEnv} : bQ (some (.nx ρ)) g = g ρ := rfl
@[simp] theorem bQ_ret {g : Sv} {d : D} {ρ : DEnv} : bQ (some (.ret d ρ)) g = some (.ret d ρ) := rfl
@[simp] theorem bQ_brk {g : Sv} {ρ : DEnv} : bQ (some (.brk ρ)) g = some (.brk ρ) := rfl
@[simp] theorem bQ_cnt {g : Sv} {ρ : DEnv} : bQ (some (.cnt ρ)) g = some (.cnt ρ) := rfl
@[simp] theorem bQ_exc {g : Sv} {d : D} {ρ : DEnv} : bQ (some (.exc d ρ)) g = some (.exc d ρ) := rfl
/-- a turn's end -/
def bF (x : Option SOut) (g : Sv) : Option SOut := match x with
  | some (.nx ρ2) => g ρ2
  | some (.cnt ρ2) => g ρ2
  | some (.brk ρ2) => some (.nx ρ2)
  | o => o
theorem bF_congr {x y : Option SOut} {g : Sv} (h : x = y) : bF x g = bF y g := by rw [h]
@[simp] theorem bF_none {g : Sv} : bF none g = none := rfl
@[simp] theorem bF_nx {g : Sv} {ρ : DEnv} : bF (some (.nx ρ)) g = g ρ := rfl
@[simp] theorem bF_ret {g : Sv} {d : D} {ρ : DEnv} : bF (some (.ret d ρ)) g = some (.ret d ρ) := rfl
@[simp] theorem bF_brk {g : Sv} {ρ : DEnv} : bF (some (.brk ρ)) g = some (.nx ρ) := rfl
@[simp] theorem bF_cnt {g : Sv} {ρ : DEnv} : bF (some (.cnt ρ)) g = g ρ := rfl
@[simp] theorem bF_exc {g : Sv} {d : D} {ρ : DEnv} : bF (some (.exc d ρ)) g = some (.exc d ρ) := rfl
@[simp] theorem slot_0 {a0 : Option D} {ρ : DEnv} : slotOf (a0 :: ρ) 0 = a0 := rfl
@[simp] theorem slot_1 {a0 a1 : Option D} {ρ : DEnv} : slotOf (a0 :: a1 :: ρ) 1 = a1 := rfl
@[simp] theorem slot_2 {a0 a1 a2 : Option D} {ρ : DEnv} : slotOf (a0 :: a1 :: a2 :: ρ) 2 = a2 := rfl
@[simp] theorem slot_3 {a0 a1 a2 a3 : Option D} {ρ : DEnv} : slotOf (a0 :: a1 :: a2 :: a3 :: ρ) 3 = a3 := rfl
@[simp] theorem slot_4 {a0 a1 a2 a3 a4 : Option D} {ρ : DEnv} : slotOf (a0 :: a1 :: a2 :: a3 :: a4 :: ρ) 4 = a4 := rfl
@[simp] theorem slot_5 {a0 a1 a2 a3 a4 a5 : Option D} {ρ : DEnv} : slotOf (a0 :: a1 :: a2 :: a3 :: a4 :: a5 :: ρ) 5 = a5 := rfl
@[simp] theorem slot_6 {a0 a1 a2 a3 a4 a5 a6 : Option D} {ρ : DEnv} : slotOf (a0 :: a1 :: a2 :: a3 :: a4 :: a5 :: a6 :: ρ) 6 = a6 := rfl
@[simp] theorem slot_7 {a0 a1 a2 a3 a4 a5 a6 a7 : Option D} {ρ : DEnv} : slotOf (a0 :: a1 :: a2 :: a3 :: a4 :: a5 :: a6 :: a7 :: ρ) 7 = a7 := rfl
@[simp] theorem slot_8 {a0 a1 a2 a3 a4 a5 a6 a7 a8 : Option D} {ρ : DEnv} : slotOf (a0 :: a1 :: a2 :: a3 :: a4 :: a5 :: a6 :: a7 :: a8 :: ρ) 8 = a8 := rfl
@[simp] theorem slot_9 {a0 a1 a2 a3 a4 a5 a6 a7 a8 a9 : Option D} {ρ : DEnv} : slotOf (a0 :: a1 :: a2 :: a3 :: a4 :: a5 :: a6 :: a7 :: a8 :: a9 :: ρ) 9 = a9 := rfl
@[simp] theorem slot_10 {a0 a1 a2 a3 a4 a5 a6 a7 a8 a9 a10 : Option D} {ρ : DEnv} : slotOf (a0 :: a1 :: a2 :: a3 :: a4 :: a5 :: a6 :: a7 :: a8 :: a9 :: a10 :: ρ) 10 = a10 := rfl
@[simp] theorem slot_11 {a0 a1 a2 a3 a4 a5 a6 a7 a8 a9 a10 a11 : Option D} {ρ : DEnv} : slotOf (a0 :: a1 :: a2 :: a3 :: a4 :: a5 :: a6 :: a7 :: a8 :: a9 :: a10 :: a11 :: ρ) 11 = a11 := rfl
@[simp] theorem slot_12 {a0 a1 a2 a3 a4 a5 a6 a7 a8 a9 a10 a11 a12 : Option D} {ρ : DEnv} : slotOf (a0 :: a1 :: a2 :: a3 :: a4 :: a5 :: a6 :: a7 :: a8 :: a9 :: a10 :: a11 :: a12 :: ρ) 12 = a12 := rfl
@[simp] theorem slot_13 {a0 a1 a2 a3 a4 a5 a6 a7 a8 a9 a10 a11 a12 a13 : Option D} {ρ : DEnv} : slotOf (a0 :: a1 :: a2 :: a3 :: a4 :: a5 :: a6 :: a7 :: a8 :: a9 :: a10 :: a11 :: a12 :: a13 :: ρ) 13 = a13 := rfl
@[simp] theorem slot_14 {a0 a1 a2 a3 a4 a5 a6 a7 a8 a9 a10 a11 a12 a13 a14 : Option D} {ρ : DEnv} : slotOf (a0 :: a1 :: a2 :: a3 :: a4 :: a5 :: a6 :: a7 :: a8 :: a9 :: a10 :: a11 :: a12 :: a13 :: a14 :: ρ) 14 = a14 := rfl
@[simp] theorem slot_15 {a0 a1 a2 a3 a4 a5 a6 a7 a8 a9 a10 a11 a12 a13 a14 a15 : Option D} {ρ : DEnv} : slotOf (a0 :: a1 :: a2 :: a3 :: a4 :: a5 :: a6 :: a7 :: a8 :: a9 :: a10 :: a11 :: a12 :: a13 :: a14 :: a15 :: ρ) 15 = a15 := rfl
@[simp] theorem slot_16 {a0 a1 a2 a3 a4 a5 a6 a7 a8 a9 a10 a11 a12 a13 a14 a15 a16 : Option D} {ρ : DEnv} : slotOf (a0 :: a1 :: a2 :: a3 :: a4 :: a5 :: a6 :: a7 :: a8 :: a9 :: a10 :: a11 :: a12 :: a13 :: a14 :: a15 :: a16 :: ρ) 16 = a16 := rfl
@[simp] theorem slot_17 {a0 a1 a2 a3 a4 a5 a6 a7 a8 a9 a10 a11 a12 a13 a14 a15 a16 a17 : Option D} {ρ : DEnv} : slotOf (a0 :: a1 :: a2 :: a3 :: a4 :: a5 :: a6 :: a7 :: a8 :: a9 :: a10 :: a11 :: a12 :: a13 :: a14 :: a15 :: a16 :: a17 :: ρ) 17 = a17 := rfl
@[simp] theorem slot_18 {a0 a1 a2 a3 a4 a5 a6 a7 a8 a9 a10 a11 a12 a13 a14 a15 a16 a17 a18 : Option D} {ρ : DEnv} : slotOf (a0 :: a1 :: a2 :: a3 :: a4 :: a5 :: a6 :: a7 :: a8 :: a9 :: a10 :: a11 :: a12 :: a13 :: a14 :: a15 :: a16 :: a17 :: a18 :: ρ) 18 = a18 := rfl
@[simp] theorem slot_19 {a0 a1 a2 a3 a4 a5 a6 a7 a8 a9 a10 a11 a12 a13 a14 a15 a16 a17 a18 a19 : Option D} {ρ : DEnv} : slotOf (a0 :: a1 :: a2 :: a3 :: a4 :: a5 :: a6 :: a7 :: a8 :: a9 :: a10 :: a11 :: a12 :: a13 :: a14 :: a15 :: a16 :: a17 :: a18 :: a19 :: ρ) 19 = a19 := rfl
@[simp] theorem slot_20 {a0 a1 a2 a3 a4 a5 a6 a7 a8 a9 a10 a11 a12 a13 a14 a15 a16 a17 a18 a19 a20 : Option D} {ρ : DEnv} : slotOf (a0 :: a1 :: a2 :: a3 :: a4 :: a5 :: a6 :: a7 :: a8 :: a9 :: a10 :: a11 :: a12 :: a13 :: a14 :: a15 :: a16 :: a17 :: a18 :: a19 :: a20 :: ρ) 20 = a20 := rfl
@[simp] theorem slot_21 {a0 a1 a2 a3 a4 a5 a6 a7 a8 a9 a10 a11 a12 a13 a14 a15 a16 a17 a18 a19 a20 a21 : Option D} {ρ : DEnv} : slotOf (a0 :: a1 :: a2 :: a3 :: a4 :: a5 :: a6 :: a7 :: a8 :: a9 :: a10 :: a11 :: a12 :: a13 :: a14 :: a15 :: a16 :: a17 :: a18 :: a19 :: a20 :: a21 :: ρ) 21 = a21 := rfl
@[simp] theorem slot_22 {a0 a1 a2 a3 a4 a5 a6 a7 a8 a9 a10 a11 a12 a13 a14 a15 a16 a17 a18 a19 a20 a21 a22 : Option D} {ρ : DEnv} : slotOf (a0 :: a1 :: a2 :: a3 :: a4 :: a5 :: a6 :: a7 :: a8 :: a9 :: a10 :: a11 :: a12 :: a13 :: a14 :: a15 :: a16 :: a17 :: a18 :: a19 :: a20 :: a21 :: a22 :: ρ) 22 = a22 := rfl
@[simp] theorem slot_23 {a0 a1 a2 a3 a4 a5 a6 a7 a8 a9 a10 a11 a12 a13 a14 a15 a16 a17 a18 a19 a20 a21 a22 a23 : Option D} {ρ : DEnv} : slotOf (a0 :: a1 :: a2 :: a3 :: a4 :: a5 :: a6 :: a7 :: a8 :: a9 :: a10 :: a11 :: a12 :: a13 :: a14 :: a15 :: a16 :: a17 :: a18 :: a19 :: a20 :: a21 :: a22 :: a23 :: ρ) 23 = a23 := rfl
section
variable {α β : Type} {ρ : DEnv} {i j n : Nat} {p : List PSt} {d : D} {a : AV} {as : List AV} {f fa fb : Ev AV} {fs : Ev (List AV)} {fd : Ev (List D)} {c c2 : Ev Bool} {s s2 : Sv} {I is : List Nat} {g : List D → Option D} {ds : List D} {t : Tgt} {u : Tgts} {gm : D → List D → Option (D × D)} {m : Mir} {ms : List Bool}
@[simp] theorem r_then {f : Ev α} {k : α → Ev β} : f.andThen k ρ = bE (f ρ) k := by
  unfold Ev.andThen bE
  cases f ρ with
  | none => rfl
  | some o => cases o <;> rfl
@[simp] theorem r_pure {x : α} : Ev.pure x ρ = some (.ok x ρ) := rfl
@[simp] theorem r_c : evC d ρ = some (.ok (.val d) ρ) := rfl
@[simp] theorem r_nil : evNil ρ = some (.ok [] ρ) := rfl
@[simp] theorem r_v : evV i ρ = bO (slotOf ρ i) fun d => if d.sh = true then some (.ok (.val d) ρ) else some (.ok (.pl i []) ρ) := by
  unfold evV bO
  cases slotOf ρ i <;> rfl
@[simp] theorem r_lockv {k : Ev α} : lockA (.val d) k ρ = k ρ := rfl
@[simp] theorem r_lock0 {k : Ev α} : lockA (.pl i []) k ρ = k ρ := rfl
def unlk (i : Nat) (d : D) (x : Option (Out α)) : Option (Out α) := match x with
  | none => none
  | some (.ok a ρ') => some (.ok a (ρ'.set i (some d)))
  | some (.exc e ρ') => some (.exc e (ρ'.set i (some d)))
@[simp] theorem unlk_none : unlk (α := α) i d none = none := rfl
@[simp] theorem unlk_ok {a : α} : unlk i d (some (.ok a ρ)) = some (.ok a (ρ.set i (some d))) := rfl
@[simp] theorem unlk_exc {e : D} : unlk (α := α) i d (some (.exc e ρ)) = some (.exc e (ρ.set i (some d))) := rfl
@[simp] theorem r_lockp {q : PSt} {k : Ev α} : lockA (.pl i (q :: p)) k ρ = bO (cont ρ (.pl i (q :: p))) fun _ => bO (slotOf ρ i) fun d => unlk i d (k (ρ.set i none)) := by
  show lockE i (q :: p) k ρ = _
  unfold lockE bO
  cases cont ρ (.pl i (q :: p)) with
  | none => rfl
  | some x => cases slotOf ρ i with
    | none => rfl
    | some d => rfl
@[simp] theorem r_cons : evCons f fs ρ = bE (f ρ) fun a ρ1 => bE (lockA a fs ρ1) fun as ρ2 => some (.ok (a :: as) ρ2) := by
  unfold evCons
  rw [r_then]
  congr 1
@[simp] theorem cont_v : cont ρ (.val d) = some d := rfl
@[simp] theorem cont_p : cont ρ (.pl i p) = bO (slotOf ρ i) fun d => getP d p := by
  rw [cont_pl]
  cases slotOf ρ i <;> rfl
@[simp] theorem getP_0 : getP d [] = some d := by cases d <;> rfl
@[simp] theorem getP_l : getP (.ol ds) (.ix j :: p) = bO ds[j]? fun d => getP d p := by
  conv => lhs; unfold getP
  unfold bO
  cases ds[j]? <;> rfl
@[simp] theorem putP_0 {e : D} : putP d [] e = some e := by cases d <;> rfl
@[simp] theorem putP_l {e : D} : putP (.ol ds) (.ix j :: p) e = bO ds[j]? fun d => (putP d p e).map fun u => .ol (ds.set j u) := by
  conv => lhs; unfold putP
  unfold bO
  cases ds[j]? <;> rfl
@[simp] theorem conts_0 : conts ρ [] = some [] := rfl
@[simp] theorem conts_1 : conts ρ (a :: as) = bO (cont ρ a) fun d => bO (conts ρ as) fun ds => some (d :: ds) := by
  conv => lhs; unfold conts
  unfold bO
  cases cont ρ a with
  | none => rfl
  | some d => cases conts ρ as <;> rfl
@[simp] theorem r_op : evOp g fs ρ = bE (fs ρ) fun avs ρ1 => bO (conts ρ1 avs) fun ds => bO (g ds) fun d => some (.ok (.val d) ρ1) := by
  unfold evOp
  rw [r_then]
  congr 1
  funext avs ρ1
  unfold bO
  cases conts ρ1 avs with
  | none => rfl
  | some ds => dsimp only; cases g ds <;> rfl
@[simp] theorem r_T : evT f ρ = bE (f ρ) fun a ρ1 => bO (boolOf a) fun b => some (.ok b ρ1) := by
  unfold evT
  rw [r_then]
  congr 1
  funext a ρ1
  unfold bO
  cases boolOf a <;> rfl
@[simp] theorem boolOf_b {b : Bool} : boolOf (.val (.bl b)) = some b := rfl
@[simp] theorem r_Tr : evTr f ρ = bE (f ρ) fun a ρ1 => bO (cont ρ1 a) fun d => bO (truD d) fun b => some (.ok b ρ1) := by
  unfold evTr
  rw [r_then]
  congr 1
  funext a ρ1
  unfold bO
  cases cont ρ1 a with
  | none => rfl
  | some d => dsimp only; cases truD d <;> rfl
@[simp] theorem r_and : evAnd c c2 ρ = bE (c ρ) fun b ρ1 => if b = true then c2 ρ1 else some (.ok false ρ1) := by
  unfold evAnd
  rw [r_then]
  congr 1
  funext b ρ1
  cases b <;> rfl
@[simp] theorem r_or : evOr c c2 ρ = bE (c ρ) fun b ρ1 => if b = true then some (.ok true ρ1) else c2 ρ1 := by
  unfold evOr
  rw [r_then]
  congr 1
  funext b ρ1
  cases b <;> rfl
@[simp] theorem r_not : evNot c ρ = bE (c ρ) fun b ρ1 => some (.ok (!b) ρ1) := by unfold evNot; rw [r_then]; rfl
@[simp] theorem r_ifE : evIf c fa fb ρ = bE (c ρ) fun b ρ1 => if b = true then fa ρ1 else fb ρ1 := by
  unfold evIf
  rw [r_then]
  congr 1
  funext b ρ1
  cases b <;> rfl
@[simp] theorem r_andV : evAndV fa fb ρ = bE (evT fa ρ) fun b ρ1 => if b = true then fb ρ1 else some (.ok (.val (.bl false)) ρ1) := by
  unfold evAndV
  rw [r_then]
  congr 1
  funext b ρ1
  cases b <;> rfl
@[simp] theorem r_orV : evOrV fa fb ρ = bE (evT fa ρ) fun b ρ1 => if b = true then some (.ok (.val (.bl true)) ρ1) else fb ρ1 := by
  unfold evOrV
  rw [r_then]
  congr 1
  funext b ρ1
  cases b <;> rfl
@[simp] theorem r_fz : evFz fs ρ = bE (fs ρ) fun avs ρ1 => bO (conts ρ1 avs) fun ds => some (.ok (ds.map frz) (frzS (plS avs) ρ1)) := by
  unfold evFz
  rw [r_then]
  congr 1
  funext avs ρ1
  unfold consK bO
  cases conts ρ1 avs <;> rfl
@[simp] theorem r_opF : evOpF g fd ρ = bE (fd ρ) fun ds ρ1 => bO (g ds) fun d => some (.ok (.val d) ρ1) := by
  unfold evOpF
  rw [r_then]
  congr 1
  funext ds ρ1
  unfold bO
  cases g ds <;> rfl
@[simp] theorem plS_0 : plS [] = [] := rfl
@[simp] theorem plS_v : plS (.val d :: as) = plS as := rfl
@[simp] theorem plS_p : plS (.pl i p :: as) = i :: plS as := rfl
@[simp] theorem frzS_0 : frzS [] ρ = ρ := rfl
@[simp] theorem frzS_1 {S : List Nat} : frzS (i :: S) ρ = frzS S (frzAt ρ i) := rfl
def ixR (a : AV) (x y : D) (ρ : DEnv) : Option (Out AV) := match gIx [x, y] with
  | some d => some (.ok (.val d) ρ)
  | none => match a, x, y with
    | .pl i p, .ol ds, .int k => match ixN ds.length k with
      | some j => if j < ds.length then some (.ok (.pl i (p ++ [.ix j])) ρ) else none
      | none => none
    | _, _, _ => none
@[simp] theorem r_ixK {b : AV} : ixK [a, b] ρ = bO (cont ρ a) fun x => bO (cont ρ b) fun y => ixR a x y ρ := by
  unfold ixK bO
  dsimp only
  cases cont ρ a with
  | none => rfl
  | some x => cases cont ρ b <;> rfl
@[simp] theorem r_ix : evIx fa fb ρ = bE (evCons fa (evCons fb evNil) ρ) ixK := by unfold evIx; rw [r_then]
@[simp] theorem r_chk {chk : D → Bool} : evChk chk f ρ = bE (f ρ) fun a ρ1 => bO (cont ρ1 a) fun d => if chk d = true then some (.ok a ρ1) else none := by
  unfold evChk
  rw [r_then]
  congr 1
  funext a ρ1
  unfold bO
  cases cont ρ1 a <;> rfl
@[simp] theorem r_mut : evMut gm fs ρ = bE (fs ρ) (mutK gm []) := by unfold evMut; rw [r_then]
@[simp] theorem r_mutK {ex : List D} : mutK gm ex (.pl i p :: as) ρ = bO (conts ρ as) fun ds => bO (slotOf (frzS (plS as) ρ) i) fun d0 => bO (getP d0 p) fun d => bO (gm d (ds.map frz ++ ex)) fun dr => if dr.2.sh = true then bO (putP d0 p dr.1) fun e => some (.ok (.val dr.2) ((frzS (plS as) ρ).set i (some e))) else none := by
  unfold mutK bO
  dsimp only
  cases conts ρ as with
  | none => rfl
  | some ds => cases slotOf (frzS (plS as) ρ) i with
    | none => rfl
    | some d0 => dsimp only; cases getP d0 p with
      | none => rfl
      | some d => dsimp only; cases gm d (ds.map frz ++ ex) with
        | none => rfl
        | some dr => obtain ⟨d1, r1⟩ := dr; dsimp only; cases putP d0 p d1 <;> rfl
def callR (l : List (D × Option Nat)) (ρ : DEnv) (x : Option FOut) : Option (Out AV) := match x with
  | some (.ok d outs) => if outs.length = l.length then some (.ok (.val d) (setOut l outs ρ)) else none
  | some (.exc e outs) => if outs.length = l.length then some (.exc e (setOut l outs ρ)) else none
  | none => none
@[simp] theorem callR_none {l : List (D × Option Nat)} : callR l ρ none = none := rfl
@[simp] theorem callR_ok {l : List (D × Option Nat)} : callR l ρ (some (.ok d ds)) = if ds.length = l.length then some (.ok (.val d) (setOut l ds ρ)) else none := rfl
@[simp] theorem callR_exc {l : List (D × Option Nat)} : callR l ρ (some (.exc d ds)) = if ds.length = l.length then some (.exc d (setOut l ds ρ)) else none := rfl
@[simp] theorem r_callK : callK ms m as ρ = bO (argD ρ (frzS (nio ms as) ρ) ms as) fun l => if (l.filterMap (·.2)).Nodup then callR l (frzS (nio ms as) ρ) (m (l.map (·.1))) else none := by
  unfold callK bO
  cases argD ρ (frzS (nio ms as) ρ) ms as with
  | none => rfl
  | some l => rfl
@[simp] theorem r_call : evCall ms m fs ρ = bE (fs ρ) (callK ms m) := by unfold evCall; rw [r_then]
@[simp] theorem argD_0 {ρ1 : DEnv} : argD ρ ρ1 [] [] = some [] := rfl
@[simp] theorem argD_t {ρ1 : DEnv} : argD ρ ρ1 (true :: ms) (.pl i [] :: as) = bO (slotOf ρ1 i) fun d => bO (argD ρ ρ1 ms as) fun r => some ((d, some i) :: r) := by
  conv => lhs; unfold argD
  unfold bO
  cases slotOf ρ1 i with
  | none => rfl
  | some d => cases argD ρ ρ1 ms as <;> rfl
@[simp] theorem argD_f {ρ1 : DEnv} : argD ρ ρ1 (false :: ms) (a :: as) = bO (cont ρ a) fun d => bO (argD ρ ρ1 ms as) fun r => some ((frz d, none) :: r) := by
  conv => lhs; unfold argD
  unfold bO
  cases cont ρ a with
  | none => rfl
  | some d => cases argD ρ ρ1 ms as <;> rfl
@[simp] theorem argD_v {ρ1 : DEnv} : argD ρ ρ1 (true :: ms) (.val d :: as) = bO (argD ρ ρ1 ms as) fun r => some ((frz d, none) :: r) := by
  conv => lhs; unfold argD
  unfold bO
  show (match some d, argD ρ ρ1 ms as with
    | some d, some r => some ((frz d, none) :: r)
    | _, _ => none) = _
  cases argD ρ ρ1 ms as <;> rfl
@[simp] theorem nio_0 : nio [] [] = [] := rfl
@[simp] theorem nio_t : nio (true :: ms) (.pl i [] :: as) = nio ms as := rfl
@[simp] theorem nio_f : nio (false :: ms) (a :: as) = plS [a] ++ nio ms as := rfl
@[simp] theorem nio_v : nio (true :: ms) (.val d :: as) = nio ms as := rfl
@[simp] theorem setOut_0 {os : List D} : setOut [] os ρ = ρ := by cases os <;> rfl
@[simp] theorem setOut_s {o : D} {os : List D} {r : List (D × Option Nat)} : setOut ((d, some i) :: r) (o :: os) ρ = setOut r os (ρ.set i (some o)) := rfl
@[simp] theorem setOut_n {o : D} {os : List D} {r : List (D × Option Nat)} : setOut ((d, none) :: r) (o :: os) ρ = setOut r os ρ := rfl
@[simp] theorem r_mv : evMv fs ρ = bE (fs ρ) fun avs ρ1 => bO (mvK avs ρ1) fun p => if p.1.length ≤ 16777216 then some (.ok (.val (.ol p.1)) p.2) else none := by
  unfold evMv
  rw [r_then]
  congr 1
  funext avs ρ1
  unfold bO
  cases mvK avs ρ1 <;> rfl
@[simp] theorem mvK_0 : mvK [] ρ = some ([], ρ) := rfl
@[simp] theorem mvK_v : mvK (.val d :: as) ρ = bO (mvK as ρ) fun p => some (d :: p.1, p.2) := by
  show (mvK as ρ).map _ = _
  unfold bO
  cases mvK as ρ <;> rfl
@[simp] theorem mvK_p : mvK (.pl i [] :: as) ρ = bO (slotOf ρ i) fun d => bO (mvK as (ρ.set i none)) fun p => some (d :: p.1, p.2) := by
  conv => lhs; unfold mvK
  unfold bO
  cases slotOf ρ i with
  | none => rfl
  | some d => dsimp only; cases mvK as (ρ.set i none) <;> rfl
@[simp] theorem r_it {gi : List D → Option (List D)} : evIt gi fs ρ = bE (evFz fs ρ) fun ds ρ1 => bO (gi ds) fun xs => some (.ok xs ρ1) := by
  unfold evIt
  rw [r_then]
  congr 1
  funext ds ρ1
  unfold bO
  cases gi ds <;> rfl
def kwR (n : Nat) (is : List Nat) (m : Mir) (ds : List D) (ρ : DEnv) : Option (Out AV) := if ds.length = n then bO (permD ds is) fun us => callK (us.map fun _ => false) m (us.map .val) ρ else none
@[simp] theorem r_kw : evKw n is m fs ρ = bE (evFz fs ρ) (kwR n is m) := by
  unfold evKw
  rw [r_then]
  congr 1
  funext ds ρ1
  unfold kwR bO
  split
  · cases permD ds is <;> rfl
  · rfl
@[simp] theorem permD_0 {l : List α} : permD l [] = some [] := rfl
@[simp] theorem permD_1 {l : List α} : permD l (i :: is) = bO l[i]? fun a => bO (permD l is) fun as => some (a :: as) := by
  conv => lhs; unfold permD
  unfold bO
  cases l[i]? with
  | none => rfl
  | some a => cases permD l is <;> rfl
/-! statements -/
@[simp] theorem r_sNil : sNil ρ = some (.nx ρ) := rfl
@[simp] theorem r_brk : sBrk ρ = some (.brk ρ) := rfl
@[simp] theorem r_cnt : sCnt ρ = some (.cnt ρ) := rfl
@[simp] theorem r_seq : sSeq s s2 ρ = bQ (s ρ) s2 := by
  unfold sSeq bQ
  cases s ρ with
  | none => rfl
  | some o => cases o <;> rfl
@[simp] theorem r_S {f : Ev α} {k : α → Sv} : evS f k ρ = bS (f ρ) k := by
  unfold evS bS
  cases f ρ with
  | none => rfl
  | some o => cases o <;> rfl
@[simp] theorem r_asg : sAsg I is fs ρ = bS (fs ρ) fun avs ρ1 => bO (takeL ρ1 avs) fun ds => bO (setN I is ds (frzS (plS avs) ρ1)) fun ρ2 => some (.nx ρ2) := by
  unfold sAsg
  rw [r_S]
  congr 1
  funext avs ρ1
  unfold bO
  cases takeL ρ1 avs with
  | none => rfl
  | some ds => dsimp only; cases setN I is ds (frzS (plS avs) ρ1) <;> rfl
@[simp] theorem takeL_0 : takeL ρ [] = some [] := rfl
@[simp] theorem takeL_v : takeL ρ (.val d :: as) = bO (takeL ρ as) fun ds => some (d :: ds) := by
  show (takeL ρ as).map _ = _
  unfold bO
  cases takeL ρ as <;> rfl
@[simp] theorem takeL_p : takeL ρ (.pl i p :: as) = bO (cont ρ (.pl i p)) fun d => bO (takeL ρ as) fun ds => some (frz d :: ds) := by
  conv => lhs; unfold takeL
  unfold bO
  cases cont ρ (.pl i p) with
  | none => rfl
  | some d => cases takeL ρ as <;> rfl
@[simp] theorem setN_0 : setN I [] [] ρ = some ρ := rfl
@[simp] theorem setN_1 : setN I (i :: is) (d :: ds) ρ = if i ∈ I ∨ ¬ i < ρ.length then none else setN I is ds (ρ.set i (some d)) := rfl
@[simp] theorem r_if : sIf c s s2 ρ = bS (c ρ) fun b ρ1 => if b = true then s ρ1 else s2 ρ1 := by
  unfold sIf
  rw [r_S]
  congr 1
  funext b ρ1
  cases b <;> rfl
@[simp] theorem r_expr : sExpr f ρ = bS (f ρ) fun _ ρ1 => some (.nx ρ1) := by unfold sExpr; rw [r_S]
def retR (I : List Nat) (a : AV) (ρ : DEnv) : Option SOut := match a with
  | .val d => some (.ret d ρ)
  | .pl i [] => if i ∈ I then none else bO (slotOf ρ i) fun d => some (.ret d (ρ.set i none))
  | .pl _ _ => none
@[simp] theorem retR_v : retR I (.val d) ρ = some (.ret d ρ) := rfl
@[simp] theorem retR_p : retR I (.pl i []) ρ = if i ∈ I then none else bO (slotOf ρ i) fun d => some (.ret d (ρ.set i none)) := rfl
@[simp] theorem r_retO : sRetO I f ρ = bS (f ρ) (retR I) := by
  unfold sRetO
  rw [r_S]
  congr 1
  funext a ρ1
  unfold retR bO
  cases a with
  | val d => rfl
  | pl i p => cases p with
    | nil => dsimp only; split; rfl; cases slotOf ρ1 i <;> rfl
    | cons => rfl
@[simp] theorem r_ret : sRet f ρ = bS (f ρ) fun a ρ1 => bO (cont ρ1 a) fun d => some (.ret (frz d) (frzS (plS [a]) ρ1)) := by
  unfold sRet
  rw [r_S]
  congr 1
  funext a ρ1
  unfold bO
  cases cont ρ1 a <;> rfl
@[simp] theorem r_tgt : sTgt t f ρ = bS (f ρ) fun a ρ1 => bO (cont ρ1 a) fun d => bO (t (frz d) (frzS (plS [a]) ρ1)) fun ρ2 => some (.nx ρ2) := by
  unfold sTgt
  rw [r_S]
  congr 1
  funext a ρ1
  unfold bO
  cases cont ρ1 a with
  | none => rfl
  | some d => dsimp only; cases t (frz d) (frzS (plS [a]) ρ1) <;> rfl
@[simp] theorem r_tgN : tgN I i d ρ = if i ∈ I ∨ ¬ i < ρ.length then none else some (ρ.set i (some d)) := rfl
@[simp] theorem r_tup : DL.tgTup n u (.tup ds) ρ = if ds.length = n then u ds ρ else none := rfl
@[simp] theorem r_tgl : DL.tgLst n u (.lst ds) ρ = if ds.length = n then u ds ρ else none := rfl
@[simp] theorem r_tgc : tgCons t u (d :: ds) ρ = bO (t d ρ) (u ds) := by
  unfold tgCons bO
  dsimp only
  cases t d ρ <;> rfl
@[simp] theorem r_tgn : tgNil [] ρ = some ρ := rfl
def envR (x : Option (Out AV)) : Option DEnv := match x with
  | some (.ok _ ρ) => some ρ
  | _ => none
@[simp] theorem envR_ok : envR (some (.ok a ρ)) = some ρ := rfl
@[simp] theorem r_tgs : tgSub gm fs d ρ = envR (bE (fs ρ) (mutK gm [d])) := by
  unfold tgSub envR bE
  cases fs ρ with
  | none => rfl
  | some o => cases o with
    | exc e ρ1 => rfl
    | ok avs ρ1 => first | (dsimp only; done) | (dsimp only; rcases mutK gm [d] avs ρ1 with _ | ⟨_ | _⟩ <;> rfl)
@[simp] theorem r_for {fi : Ev (List D)} : sFor fi t s ρ = bS (fi ρ) fun ds ρ1 => forE t s ds ρ1 := by unfold sFor; rw [r_S]
theorem forE_0 : forE t s [] ρ = some (.nx ρ) := rfl
theorem forE_1 : forE t s (d :: ds) ρ = bO (t d ρ) fun ρ1 => bF (s ρ1) (forE t s ds) := by
  conv => lhs; unfold forE
  unfold bO bF
  cases t d ρ with
  | none => rfl
  | some ρ1 => first | (dsimp only; done) | (dsimp only; rcases s ρ1 with _ | ⟨_ | _ | _ | _ | _⟩ <;> rfl)
def catR (ch : Nat → Option Bool) (i : Nat) (fs : Sv) (x : Option SOut) : Option SOut := match x with
  | some (.exc (.exc c d) ρ1) => match ch c with
    | some true => if i < ρ1.length then match fs (ρ1.set i (some (.exc c d))) with
      | some (.nx ρ2) => some (.nx (ρ2.set i none))
      | some (.brk ρ2) => some (.brk (ρ2.set i none))
      | some (.cnt ρ2) => some (.cnt (ρ2.set i none))
      | some (.ret d ρ2) => some (.ret d (ρ2.set i none))
      | _ => none
      else none
    | some false => some (.exc (.exc c d) ρ1)
    | none => none
  | some (.exc _ _) => none
  | o => o
@[simp] theorem r_cat {ch : Nat → Option Bool} : sCat ch i s s2 ρ = catR ch i s2 (s ρ) := rfl
@[simp] theorem catR_nx {ch : Nat → Option Bool} : catR ch i s (some (.nx ρ)) = some (.nx ρ) := rfl
@[simp] theorem catR_ret {ch : Nat → Option Bool} : catR ch i s (some (.ret d ρ)) = some (.ret d ρ) := rfl
def leaveR (i : Nat) (x : Option SOut) : Option SOut := match x with
  | some (.nx ρ2) => some (.nx (ρ2.set i none))
  | some (.brk ρ2) => some (.brk (ρ2.set i none))
  | some (.cnt ρ2) => some (.cnt (ρ2.set i none))
  | some (.ret d ρ2) => some (.ret d (ρ2.set i none))
  | _ => none
@[simp] theorem leaveR_nx : leaveR i (some (.nx ρ)) = some (.nx (ρ.set i none)) := rfl
@[simp] theorem leaveR_ret : leaveR i (some (.ret d ρ)) = some (.ret d (ρ.set i none)) := rfl
@[simp] theorem catR_exc {ch : Nat → Option Bool} {k : Nat} : catR ch i s (some (.exc (.exc k d) ρ)) = bO (ch k) fun b => if b = true then (if i < ρ.length then leaveR i (s (ρ.set i (some (.exc k d)))) else none) else some (.exc (.exc k d) ρ) := by
  unfold catR bO
  dsimp only
  cases ch k with
  | none => rfl
  | some b => cases b <;> rfl
def raiR (c : Nat) (ds : List D) (ρ : DEnv) : Option SOut := match ds with
  | [d] => some (.exc (.exc c d) ρ)
  | _ => none
@[simp] theorem raiR_1 : raiR i [d] ρ = some (.exc (.exc i d) ρ) := rfl
@[simp] theorem r_raise : sRaise i fd ρ = bS (fd ρ) (raiR i) := by unfold sRaise; rw [r_S]; rfl
def fnR (I : List Nat) (ds : List D) (n : Nat) (x : Option SOut) : Option FOut := match x with
  | some (.nx ρ') => (outsD I ds ρ' n).map fun os => .ok .non os
  | some (.ret d ρ') => (outsD I ds ρ' n).map fun os => .ok d os
  | some (.exc e ρ') => (outsD I ds ρ' n).map fun os => .exc e os
  | _ => none
@[simp] theorem fnR_nx : fnR I ds n (some (.nx ρ)) = (outsD I ds ρ n).map fun os => .ok .non os := rfl
@[simp] theorem fnR_ret : fnR I ds n (some (.ret d ρ)) = (outsD I ds ρ n).map fun os => .ok d os := rfl
@[simp] theorem fnR_exc : fnR I ds n (some (.exc d ρ)) = (outsD I ds ρ n).map fun os => .exc d os := rfl
theorem r_fn {N : Nat} : fnD N n I s ds = if ds.length = n ∧ parOk I ds = true then fnR I ds n (s (ds.map some ++ List.replicate (N - n) none)) else none := by
  unfold fnD fnR
  split
  · cases s (ds.map some ++ List.replicate (N - n) none) with
    | none => rfl
    | some o => cases o <;> rfl
  · rfl
end
end DL

namespace DL
open PySem PySem.Spec PyProof.Rows L2

/-! ### equality, run -/
@[simp] theorem eqD_ii {i j : Int} : eqD (.int i) (.int j) = some (decide (i = j)) := rfl
@[simp] theorem eqD_bb {i j : Bool} : eqD (.bl i) (.bl j) = some (decide (i = j)) := rfl
@[simp] theorem eqD_ss {i j : Str} : eqD (.str i) (.str j) = some (decide (i = j)) := rfl
@[simp] theorem eqD_nn : eqD .non .non = some true := rfl
theorem pydL_ints : ∀ ns : List Int, pydL (ns.map .int) = some (ns.map PyData.int)
  | [] => rfl
  | n :: ns => by
    show (match pyd (.int n), pydL (ns.map .int) with | some y, some ys => some (y :: ys) | _, _ => none) = _
    rw [pydL_ints ns]
    rfl
theorem canAll_ints : ∀ ns : List Int, PyData.canLayAll0 (ns.map PyData.int) = true
  | [] => rfl
  | n :: ns => by
    show (PyData.canLay0 (.int n) && PyData.canLayAll0 (ns.map .int)) = true
    rw [canAll_ints ns]
    rfl
theorem depth_ints : ∀ ns : List Int, PyData.depthAll (ns.map PyData.int) = 0
  | [] => rfl
  | n :: ns => by
    show max (PyData.depth (.int n)) (PyData.depthAll (ns.map .int)) = 0
    rw [depth_ints ns]
    rfl
theorem shaped_ints (ns : List Int) : SeqAt.shaped (.list (ns.map PyData.int)) = true := by
  show (PyData.canLayAll0 (ns.map PyData.int) && decide (PyData.depthAll (ns.map PyData.int) + 1 ≤ 64)) = true
  rw [canAll_ints, depth_ints]
  rfl
theorem shapedT_ints (ns : List Int) : SeqAt.shaped (.tuple (ns.map PyData.int)) = true := shaped_ints ns
theorem eqv_ints : ∀ ns ms : List Int, PyData.eqvAll (ns.map PyData.int) (ms.map PyData.int) = decide (ns = ms)
  | [], [] => rfl
  | [], m :: ms => rfl
  | n :: ns, [] => rfl
  | n :: ns, m :: ms => by
    show (PyData.eqv (.int n) (.int m) && PyData.eqvAll (ns.map .int) (ms.map .int)) = _
    rw [eqv_ints ns ms]
    show ((n == m) && decide (ns = ms)) = _
    by_cases h : n = m <;> by_cases h2 : ns = ms <;> simp [h, h2]
/-- two lists of integers -/
theorem eqD_lists {x y : D} {ns ms : List Int} (hx : pyd x = some (.list (ns.map PyData.int))) (hy : pyd y = some (.list (ms.map PyData.int))) (hs : eqS x y = none) : eqD x y = some (decide (ns = ms)) := by
  unfold eqD
  rw [hs, hx, hy]
  dsimp only
  rw [if_pos ⟨shaped_ints ns, shaped_ints ms⟩]
  show some (PyData.eqvAll _ _) = _
  rw [eqv_ints]
theorem pyd_ol (ns : List Int) : pyd (.ol (ns.map .int)) = some (.list (ns.map PyData.int)) := by
  show (match pydL (ns.map .int) with | some ys => some (PyData.list ys) | none => none) = _
  rw [pydL_ints]
@[simp] theorem eqD_ol {ns ms : List Int} : eqD (.ol (ns.map .int)) (.ol (ms.map .int)) = some (decide (ns = ms)) := eqD_lists (pyd_ol ns) (pyd_ol ms) rfl
@[simp] theorem eqD_ol0 {ns : List Int} : eqD (.ol (ns.map .int)) (.ol []) = some (decide (ns = [])) := eqD_ol (ms := [])
/-- the last one -/
theorem pop_ints {ns : List Int} {n : Int} : gmPop (.ol ((ns ++ [n]).map .int)) [] = some (.ol (ns.map .int), .int n) := by
  unfold gmPop
  dsimp only
  rw [List.map_append, List.map_cons, List.map_nil, List.getLast?_concat, List.dropLast_concat]
  rfl
@[simp] theorem eqD_ol00 : eqD (.ol []) (.ol []) = some true := eqD_ol (ns := []) (ms := [])
@[simp] theorem eqD_olc {ns : List Int} {n : Int} : eqD (.ol (ns.map .int ++ [.int n])) (.ol []) = some false := by
  have := eqD_ol0 (ns := ns ++ [n])
  simpa using this
@[simp] theorem pop_c {ns : List Int} {n : Int} : gmPop (.ol (ns.map .int ++ [.int n])) [] = some (.ol (ns.map .int), .int n) := by
  have := pop_ints (ns := ns) (n := n)
  simpa using this

/-! ### isinstance, run -/
@[simp] theorem isi_t {tab : Tab} {x c : D} {cs : List D} : gIsi tab [x, .tup (c :: cs)] = bO (tyD x) fun t => (anyT tab t (c :: cs)).map .bl := by
  unfold gIsi bO
  dsimp only
  cases tyD x <;> rfl
@[simp] theorem isi_y {tab : Tab} {x : D} {n : String} : gIsi tab [x, .ty n] = bO (tyD x) fun t => (tab t (.ty n)).map .bl := by
  unfold gIsi bO
  dsimp only
  cases tyD x <;> rfl
@[simp] theorem isi_c {tab : Tab} {x : D} {n : Nat} : gIsi tab [x, .cls n] = bO (tyD x) fun t => (tab t (.cls n)).map .bl := by
  unfold gIsi bO
  dsimp only
  cases tyD x <;> rfl
@[simp] theorem anyT_0 {tab : Tab} {t : String ⊕ Nat} : anyT tab t [] = some false := rfl
@[simp] theorem anyT_1 {tab : Tab} {t : String ⊕ Nat} {c : D} {cs : List D} : anyT tab t (c :: cs) = bO (tab t c) fun b => bO (anyT tab t cs) fun b2 => some (b || b2) := by
  conv => lhs; unfold anyT
  unfold bO
  cases tab t c with
  | none => rfl
  | some b => cases b <;> cases anyT tab t cs <;> rfl
@[simp] theorem tabX_tt {exs : List Nat} {n m : String} : tabX exs (.inl n) (.ty m) = kitB n m := rfl
@[simp] theorem tabX_tc {exs : List Nat} {n : String} {k : Nat} : tabX exs (.inl n) (.cls k) = if k ∈ exs ∧ n ∈ xNts then some false else none := rfl
@[simp] theorem tabX_ct {exs : List Nat} {c : Nat} {m : String} : tabX exs (.inr c) (.ty m) = if c ∈ exs ∧ m ∈ xTys then some (decide (m = "ValueError")) else none := rfl
@[simp] theorem tabX_cc {exs : List Nat} {c k : Nat} : tabX exs (.inr c) (.cls k) = if c ∈ exs ∧ k ∈ exs then some (isX k c) else none := rfl
@[simp] theorem tyD_int {i : Int} : tyD (.int i) = some (.inl "int") := rfl
@[simp] theorem tyD_non : tyD .non = some (.inl "NoneType") := rfl
@[simp] theorem tyD_bl {i : Bool} : tyD (.bl i) = some (.inl "bool") := rfl
@[simp] theorem tyD_str {i : Str} : tyD (.str i) = some (.inl "str") := rfl
@[simp] theorem tyD_tup {i : List D} : tyD (.tup i) = some (.inl "tuple") := rfl
@[simp] theorem tyD_lst {i : List D} : tyD (.lst i) = some (.inl "list") := rfl
@[simp] theorem tyD_frl {i : List D} : tyD (.frl i) = some (.inl "list") := rfl
@[simp] theorem tyD_ol {i : List D} : tyD (.ol i) = some (.inl "list") := rfl
@[simp] theorem tyD_dct {i : List (Key × D)} : tyD (.dct i) = some (.inl "dict") := rfl
@[simp] theorem tyD_od {i : List (Key × D)} : tyD (.od i) = some (.inl "dict") := rfl
@[simp] theorem tyD_exc {c : Nat} {d : D} : tyD (.exc c d) = some (.inr c) := rfl
@[simp] theorem kB_NoneType_int : kitB "NoneType" "int" = some false := by decide +kernel
@[simp] theorem kB_NoneType_bool : kitB "NoneType" "bool" = some false := by decide +kernel
@[simp] theorem kB_NoneType_str : kitB "NoneType" "str" = some false := by decide +kernel
@[simp] theorem kB_NoneType_list : kitB "NoneType" "list" = some false := by decide +kernel
@[simp] theorem kB_NoneType_tuple : kitB "NoneType" "tuple" = some false := by decide +kernel
@[simp] theorem kB_NoneType_dict : kitB "NoneType" "dict" = some false := by decide +kernel
@[simp] theorem kB_bool_int : kitB "bool" "int" = some true := by decide +kernel
@[simp] theorem kB_bool_bool : kitB "bool" "bool" = some true := by decide +kernel
@[simp] theorem kB_bool_str : kitB "bool" "str" = some false := by decide +kernel
@[simp] theorem kB_bool_list : kitB "bool" "list" = some false := by decide +kernel
@[simp] theorem kB_bool_tuple : kitB "bool" "tuple" = some false := by decide +kernel
@[simp] theorem kB_bool_dict : kitB "bool" "dict" = some false := by decide +kernel
@[simp] theorem kB_int_int : kitB "int" "int" = some true := by decide +kernel
@[simp] theorem kB_int_bool : kitB "int" "bool" = some false := by decide +kernel
@[simp] theorem kB_int_str : kitB "int" "str" = some false := by decide +kernel
@[simp] theorem kB_int_list : kitB "int" "list" = some false := by decide +kernel
@[simp] theorem kB_int_tuple : kitB "int" "tuple" = some false := by decide +kernel
@[simp] theorem kB_int_dict : kitB "int" "dict" = some false := by decide +kernel
@[simp] theorem kB_str_int : kitB "str" "int" = some false := by decide +kernel
@[simp] theorem kB_str_bool : kitB "str" "bool" = some false := by decide +kernel
@[simp] theorem kB_str_str : kitB "str" "str" = some true := by decide +kernel
@[simp] theorem kB_str_list : kitB "str" "list" = some false := by decide +kernel
@[simp] theorem kB_str_tuple : kitB "str" "tuple" = some false := by decide +kernel
@[simp] theorem kB_str_dict : kitB "str" "dict" = some false := by decide +kernel
@[simp] theorem kB_tuple_int : kitB "tuple" "int" = some false := by decide +kernel
@[simp] theorem kB_tuple_bool : kitB "tuple" "bool" = some false := by decide +kernel
@[simp] theorem kB_tuple_str : kitB "tuple" "str" = some false := by decide +kernel
@[simp] theorem kB_tuple_list : kitB "tuple" "list" = some false := by decide +kernel
@[simp] theorem kB_tuple_tuple : kitB "tuple" "tuple" = some true := by decide +kernel
@[simp] theorem kB_tuple_dict : kitB "tuple" "dict" = some false := by decide +kernel
@[simp] theorem kB_list_int : kitB "list" "int" = some false := by decide +kernel
@[simp] theorem kB_list_bool : kitB "list" "bool" = some false := by decide +kernel
@[simp] theorem kB_list_str : kitB "list" "str" = some false := by decide +kernel
@[simp] theorem kB_list_list : kitB "list" "list" = some true := by decide +kernel
@[simp] theorem kB_list_tuple : kitB "list" "tuple" = some false := by decide +kernel
@[simp] theorem kB_list_dict : kitB "list" "dict" = some false := by decide +kernel
@[simp] theorem kB_dict_int : kitB "dict" "int" = some false := by decide +kernel
@[simp] theorem kB_dict_bool : kitB "dict" "bool" = some false := by decide +kernel
@[simp] theorem kB_dict_str : kitB "dict" "str" = some false := by decide +kernel
@[simp] theorem kB_dict_list : kitB "dict" "list" = some false := by decide +kernel
@[simp] theorem kB_dict_tuple : kitB "dict" "tuple" = some false := by decide +kernel
@[simp] theorem kB_dict_dict : kitB "dict" "dict" = some true := by decide +kernel
/-! ### numbers, run -/
theorem abs_nat (i : Int) : (if i < 0 then -i else i) = (i.natAbs : Int) := by
  split <;> omega
theorem fmod_nat (x y : Nat) : ((x : Int)).fmod (y : Int) = ((x % y : Nat) : Int) := by
  rw [Int.fmod_eq_emod_of_nonneg _ (by omega)]
  simp
theorem fmod_nat2 (x y : Nat) : ((x : Int)).fmod (y : Int) = (x : Int) % (y : Int) := Int.fmod_eq_emod_of_nonneg _ (by omega)
theorem whF_1 {c : Ev Bool} {b : Sv} {n : Nat} {ρ : DEnv} : whF c b (n + 1) ρ = bS (c ρ) fun t ρ1 => if t = true then bF (b ρ1) (whF c b n) else some (.nx ρ1) := by
  conv => lhs; unfold whF
  unfold bS bF
  cases c ρ with
  | none => rfl
  | some o => cases o with
    | exc e ρ1 => rfl
    | ok t ρ1 => cases t with
      | false => rfl
      | true => first | (dsimp only; rw [if_pos rfl]; done) | (dsimp only; rw [if_pos rfl]; rcases b ρ1 with _ | ⟨_ | _ | _ | _ | _⟩ <;> rfl)
/-- the sign of the lower one, and the greatest common divisor -/
def sgc (a b : Int) : Int := if b < 0 then -((Nat.gcd a.natAbs b.natAbs : Nat) : Int) else ((Nat.gcd a.natAbs b.natAbs : Nat) : Int)
theorem gcd_small {a b : Int} (hb : b ≠ 0) {k : Nat} (h : b.natAbs < 2 ^ (k + 1)) : lg ((Nat.gcd a.natAbs b.natAbs : Nat) : Int) ≤ k ∧ lg (-((Nat.gcd a.natAbs b.natAbs : Nat) : Int)) ≤ k ∧ Nat.gcd a.natAbs b.natAbs ≠ 0 := by
  have h0 : 0 < b.natAbs := by omega
  have h1 : Nat.gcd a.natAbs b.natAbs ≤ b.natAbs := Nat.le_of_dvd h0 (Nat.gcd_dvd_right _ _)
  refine ⟨lg_le ?_, lg_le ?_, ?_⟩
  · omega
  · omega
  · intro h
    have := (Nat.gcd_eq_zero_iff.mp h).2
    omega
end DL

namespace DL
open PySem PySem.Spec PyProof.Rows L2

/-! ### slices -/
def cutL {α : Type} (xs : List α) (lo hi : Option Int) : List α := (xs.drop (HT.sIx xs.length 0 lo)).take (HT.sIx xs.length xs.length hi - HT.sIx xs.length 0 lo)
theorem cutL_get {α β : Type} {xs : List α} {ys : List β} (l : xs.length = ys.length) {lo hi : Option Int} {i : Nat} {x : α} {y : β} (h1 : (cutL xs lo hi)[i]? = some x) (h2 : (cutL ys lo hi)[i]? = some y) : ∃ j : Nat, xs[j]? = some x ∧ ys[j]? = some y := by
  unfold cutL at h1 h2
  rw [← l] at h2
  rw [List.getElem?_take] at h1 h2
  by_cases hi : i < HT.sIx xs.length xs.length hi - HT.sIx xs.length 0 lo
  · rw [if_pos hi, List.getElem?_drop] at h1 h2
    exact ⟨_, h1, h2⟩
  · rw [if_neg hi] at h1
    cases h1
theorem cutL_len {α β : Type} {xs : List α} {ys : List β} (l : xs.length = ys.length) (lo hi : Option Int) : (cutL xs lo hi).length = (cutL ys lo hi).length := by
  unfold cutL
  simp [l]
def cutD : D → Option Int → Option Int → Option D
  | .str z, lo, hi => if z.length ≤ 16777216 then some (.str (cutS z lo hi)) else none
  | .tup ds, lo, hi => if HT.sIx ds.length 0 lo = 0 ∧ HT.sIx ds.length ds.length hi = ds.length then none else some (.tup (cutL ds lo hi))
  | .frl ds, lo, hi => if allSh ds = true then some (.ol (cutL ds lo hi)) else none
  | d, lo, hi => match lstD d with
    | some ds => if allSh ds = true then some (.ol (cutL ds lo hi)) else none
    | none => none
def optI : Bool → List D → Option (Option Int × List D)
  | false, ds => some (none, ds)
  | true, .int i :: ds => some (some i, ds)
  | true, _ => none
def gSl (a b : Bool) : List D → Option D
  | x :: r => match optI a r with
    | some (lo, r1) => match optI b r1 with
      | some (hi, []) => cutD x lo hi
      | _ => none
    | none => none
  | [] => none
def rCut (K : PySem.W.Frag) : V → Option Int → Option Int → Hp → VK → Prop := fun x lo hi H Q => rSlS x lo hi H Q ∨ (rSlL K x lo hi H Q ∨ rSlT K x lo hi H Q)
theorem sl_cut {X : Cx} : SlR X (rCut X.K) := sl_str.or (sl_list.or sl_tup)
section
variable {ca : Nat → Addr} {X : Cx} {G H : Hp} {Q : VK} {v : V} {d d' : D} {T : FP} {lo hi : Option Int}
theorem cut_own {a : Addr} {vs : List V} {ds : List D} (sub : ∀ b o, G b = some o → H b = some o) (hq : SqL X.K H a vs) (l : vs.length = ds.length) (c : ∀ (i : Nat) v d, vs[i]? = some v → ds[i]? = some d → ∃ U, Rep ⟨X.K, ca⟩ G H v d U) (hs : allSh ds = true)
    (q : ∀ v G' H' T, (∀ b o, G' b = some o → H' b = some o) → Rep ⟨X.K, ca⟩ G' H' v (.ol (cutL ds lo hi)) T → Ext G H nof G' H' T → Q v H') : rSlL X.K (.ref a) lo hi H Q := by
  refine ⟨a, vs, rfl, hq, fun p hp => q _ G _ _ (sub_own hp sub) (rep_ol (no_g sub hp) upd_same (cutL_len l lo hi) fun i v d e1 e2 => ?_) (ext_own hp)⟩
  obtain ⟨j, h1, h2⟩ := cutL_get l e1 e2
  obtain ⟨U, r⟩ := c j v d h1 h2
  exact (rep_sh r (allSh_get hs h2)).up
theorem cut_end (sub : ∀ b o, G b = some o → H b = some o) (r : Rep ⟨X.K, ca⟩ G H v d T) (e : cutD d lo hi = some d') (q : ∀ v G' H' T, (∀ b o, G' b = some o → H' b = some o) → Rep ⟨X.K, ca⟩ G' H' v d' T → Ext G H nof G' H' T → Q v H') : rCut X.K v lo hi H Q := by
  have own : ∀ {ds : List D}, lstD d = some ds → (if allSh ds = true then some (D.ol (cutL ds lo hi)) else none) = some d' → rCut X.K v lo hi H Q := fun {ds} h1 e => by
    split at e
    · rename_i hs
      cases e
      cases r with
      | lst h l c => cases h1; exact .inr (.inl (cut_own sub (.of (sub _ _ h)) l (fun i v d e1 e2 => ⟨_, c i v d e1 e2⟩) hs q))
      | ol h g l c bd dj na => cases h1; exact .inr (.inl (cut_own sub (.of h) l (fun i v d e1 e2 => ⟨_, c i v d e1 e2⟩) hs q))
      | _ => cases h1
    · cases e
  cases r with
  | str z =>
    unfold cutD at e
    dsimp only at e
    split at e
    · rename_i hz
      cases e
      exact .inl ⟨z, rfl, by rw [sizeLine_eq]; exact hz, rDL_end q sub (.str _)⟩
    · cases e
  | tup h l c =>
    unfold cutD at e
    dsimp only at e
    split at e
    · cases e
    · rename_i hw
      cases e
      refine .inr (.inr ⟨_, _, rfl, sqT_mono h sub, by rw [l]; exact hw, fun p hp => q _ _ _ nof (sub_new hp sub) (.tup (.inl (.inl upd_same)) (cutL_len l lo hi) fun i v d e1 e2 => ?_) (ext_new hp sub)⟩)
      obtain ⟨j, h1, h2⟩ := cutL_get l e1 e2
      exact (c j v d h1 h2).keep (ext_new hp sub).gg fun _ h => h.elim
  | frl h l c =>
    unfold cutD at e
    dsimp only at e
    split at e
    · rename_i hs
      cases e
      exact .inr (.inl (cut_own sub (sqL_mono h sub) l (fun i v d e1 e2 => ⟨_, c i v d e1 e2⟩) hs q))
    · cases e
  | lst h l c => exact own rfl e
  | ol h g l c bd dj na => exact own rfl e
  | _ => simp [cutD, lstD] at e
variable {a b c : Expr} {fa fb fc : Ev AV} {pos p2 : Pos}
theorem de_sl00 (ha : DE ca X a fa) : DE ca X (.Subscript a (.Slice none none none p2) pos) (ev1 (gSl false false) fa) := fun W tk =>
  PE.imp (pe_slice sl_cut (ha W tk) po_none po_none) fun σ H Q h => tD_map (tD_op1 h) fun x H1 ⟨G, ds, d, sub, rs, e, q⟩ => by
    obtain ⟨d1, T1, rfl, r1⟩ := rs.one
    exact cut_end sub r1 e q
theorem de_sl01 (ha : DE ca X a fa) (hb : DE ca X b fb) : DE ca X (.Subscript a (.Slice none (some b) none p2) pos) (ev2 (gSl false true) fa fb) := fun W tk =>
  PE.imp (pe_slice sl_cut (ha W tk) po_none (po_some (hb W tk))) fun σ H Q h => tD_map (tD_op2 h) fun x H1 h1 => tD_map h1 fun y H2 ⟨G, ds, d, sub, rs, e, q⟩ => by
    obtain ⟨d1, T1, d2, T2, rfl, r1, r2⟩ := rs.two
    cases r2 with
    | int i => exact ⟨i, rfl, cut_end sub r1 e q⟩
    | _ => simp [gSl, optI] at e
theorem de_sl10 (ha : DE ca X a fa) (hb : DE ca X b fb) : DE ca X (.Subscript a (.Slice (some b) none none p2) pos) (ev2 (gSl true false) fa fb) := fun W tk =>
  PE.imp (pe_slice sl_cut (ha W tk) (po_some (hb W tk)) po_none) fun σ H Q h => tD_map (tD_op2 h) fun x H1 h1 => tD_map h1 fun y H2 ⟨G, ds, d, sub, rs, e, q⟩ => by
    obtain ⟨d1, T1, d2, T2, rfl, r1, r2⟩ := rs.two
    cases r2 with
    | int i => exact ⟨i, rfl, cut_end sub r1 e q⟩
    | _ => simp [gSl, optI] at e
end

/-! ### list(x), tuple(x) -/
def gList : List D → Option D
  | [x] => match seqD x with
    | some ds => if allSh ds = true then some (.ol ds) else none
    | none => none
  | _ => none
def gTupF : List D → Option D
  | [.tup ds] => some (.tup ds)
  | [.frl ds] => if allSh ds = true then some (.tup ds) else none
  | [x] => match lstD x with
    | some ds => if allSh ds = true then some (.tup ds) else none
    | none => none
  | _ => none
section
variable {ca : Nat → Addr} {X : Cx}
theorem callD_list : CallD ca X (.type "list") gList := by
  intro pins s σ H xs us Q I rs h
  obtain ⟨G, ds, d, sub, rr, e, q⟩ := h
  unfold gList at e
  split at e
  · split at e
    · rename_i ds' h1
      split at e
      · rename_i hs
        cases e
        obtain ⟨v, T, rfl, r⟩ := reps1 rr
        obtain ⟨a, vs, rfl, hq, l, c⟩ := r.seq sub h1
        refine call_list_of pins s σ H _ us Q I rs ⟨a, vs, rfl, hq, fun p hp => q _ G _ _ (sub_own hp sub) (rep_ol (no_g sub hp) upd_same l fun i v d e1 e2 => ?_) (ext_own hp)⟩
        obtain ⟨U, r'⟩ := c i v d e1 e2
        exact (rep_sh r' (allSh_get hs e2)).up
      · cases e
    · cases e
  · cases e
end

/-! ### run -/
@[simp] theorem sl_r01 {x : D} {i : Int} : gSl false true [x, .int i] = cutD x none (some i) := rfl
@[simp] theorem sl_r10 {x : D} {i : Int} : gSl true false [x, .int i] = cutD x (some i) none := rfl
@[simp] theorem list_t {ds : List D} : gList [.tup ds] = if allSh ds = true then some (.ol ds) else none := rfl
@[simp] theorem list_f {ds : List D} : gList [.frl ds] = if allSh ds = true then some (.ol ds) else none := rfl
@[simp] theorem list_l {ds : List D} : gList [.lst ds] = if allSh ds = true then some (.ol ds) else none := rfl
@[simp] theorem list_o {ds : List D} : gList [.ol ds] = if allSh ds = true then some (.ol ds) else none := rfl
end DL

namespace DL
open PySem PySem.HandSPX PySem.W

/-! ### an own exception class called by keywords -/
section
variable {M : Model} {P : Program} {w : World} {A : Around} {E : Value → Shared → Prop} {R : Result → Shared → Prop} {hp : Heap} {gn : Array GenState} {dw : Drawn} {tk : Nat} {os : OsState}
variable {nm qn : Str} {C Nn : Addr} {bs bm bB : List Value} {hd : Bool} {sn : List Str} {sb : List Value} {ab : Bool} {co : Option Bool} {dd : Option Addr} {k0 k1 k2 k3 k5 : Option Value} {B nI iI : String} {kws : List (Str × Value)}
theorem kw_check (F : ExcBaseFacts B nI iI bB) (tl : ∀ X : String, bm.contains (.type X) = bB.contains (.type X)) {Q : Unit → Shared → Prop}
    (cC : hp.get? C = some (excClassObj nm qn C Nn bs bm hd sn sb ab co dd k0 k1 k2 k3 k5 nI)) (z : Q () ⟨hp, gn, dw, tk, os⟩) : wpAny M A (checkBuiltinCall nI ⟨[.ref C], kws⟩) Q E ⟨hp, gn, dw, tk, os⟩ := by
  have inB : (Value.ref C :: bm).contains (.type B) = true := by rw [List.contains_cons, tl, F.hasB, Bool.or_true]
  have ns := F.noStar
  simp only [checkBuiltinCall, F.newKind, F.newSplit, F.newRow]
  repeat (first | refine wpAny_loadPart_at cC ?_ | (refine wpAny_isSubtype_exc cC ?_; rw [inB]) | refine wpAny_staticBase_exc cC ?_ | refine wpAny_madeBy_exc cC ?_ | simp only [bne_self_eq_false, Bool.false_eq_true, if_false] | wp_step)
  exact z
theorem kw_new (F : ExcBaseFacts B nI iI bB) (tl : ∀ X : String, bm.contains (.type X) = bB.contains (.type X)) (cC : hp.get? C = some (excClassObj nm qn C Nn bs bm hd sn sb ab co dd k0 k1 k2 k3 k5 nI))
    (z : R (.ok (.ret (.ref (hp.objs.size + 1)))) ⟨(hp.push { cls := .type "tuple", data := .seq #[] }).push { cls := .ref C, data := .fields #[.ref hp.objs.size, .none, .none, .none, .bool false, .none] }, gn, dw, tk, os⟩) :
    codeAny (model P w) A (.builtin nI ⟨[.ref C], kws⟩) R ⟨hp, gn, dw, tk, os⟩ := by
  have en := F.ends
  have inB : (Value.ref C :: bm).contains (.type B) = true := by rw [List.contains_cons, tl, F.hasB, Bool.or_true]
  have inA : (Value.ref C :: bm).contains (.type "AttributeError") = false := by rw [List.contains_cons, tl, F.noAttr]; rfl
  have inN : (Value.ref C :: bm).contains (.type "NameError") = false := by rw [List.contains_cons, tl, F.noName]; rfl
  have hr0 : ([] : List Value).length ≤ sizeLine := by decide
  refine codeAny_builtinAt F.entry ?_
  unfold Builtin.«BaseException.__new__»
  refine wpAt_bind ?_
  show wpAt _ _ _ (stack >>= _) _ _ _
  refine wpAt_bind (wpAt_stack fun p1 p2 => wpAt_of_wpAny ?_)
  wp_walk
  refine wpAt_of_wpAny ?_
  rw [F.owner]
  repeat (first | with_reducible refine wpAny_madeHere_exc F.canon cC ?_ | with_reducible refine wpAny_loadPart_at cC ?_ | (with_reducible refine wpAny_isSubtype_exc cC ?_; first | rw [inB] | rw [inA] | rw [inN]) | wp_step)
  show R _ _
  rw [Heap.size_push]
  exact z
theorem kw_type (F : ExcBaseFacts B nI iI bB) (tl : ∀ X : String, bm.contains (.type X) = bB.contains (.type X)) {fI : Addr} {Q : Fin → Shared → Prop}
    (cC : hp.get? C = some (excClassObj nm qn C Nn bs bm hd sn sb ab co dd k0 k1 k2 k3 k5 nI)) (li : W.Looks (model P w) hp (typeLookup (.ref C) "__init__") (some (.ref fI))) (lb : ∀ me, W.Looks (model P w) hp (bindSpecial (.ref fI) me) (.ref fI, [me]))
    (z : codeAny (model P w) A (.call (.ref fI) ⟨[.ref (hp.objs.size + 1)], kws⟩) (fun r t => match r with | .ok (.ret v) => v = .none ∧ Q (.done (.ret (.ref (hp.objs.size + 1)))) t | .ok _ => False | .error e => E e t) ⟨(hp.push (W.kdv_tup [])).push (excO C hp.objs.size), gn, dw, tk, os⟩) :
    wpAny (model P w) A (Builtin.«type.__call__» ⟨[.ref C], kws⟩) Q E ⟨hp, gn, dw, tk, os⟩ := by
  repeat (first | with_reducible refine wpAny_loadPart_at cC ?_ | with_reducible refine wpAny_madeBy_exc cC ?_ | wp_step)
  refine codeAny_call_builtin_code (Code.quiet_builtin _ F.quiet) (kw_check F tl cC (kw_new F tl cC ?_))
  show wpAny _ _ _ _ _ _
  have up : ∀ b o, hp.get? b = some o → ((hp.push (W.kdv_tup [])).push (excO C hp.objs.size)).get? b = some o := fun b o e => Heap.get?_push_of_some _ (Heap.get?_push_of_some _ e)
  have cC2 := up _ _ cC
  have at1 : ((hp.push (W.kdv_tup [])).push (excO C hp.objs.size)).get? (hp.objs.size + 1) = some (excO C hp.objs.size) := by heap_get
  have inC : (Value.ref C :: bm).contains (.ref C) = true := by simp
  have l1 := li.keeps up
  have l2 := (lb (.ref (hp.objs.size + 1))).keeps up
  unfold isInstance
  repeat (first | with_reducible refine wpAny_loadPart_at at1 ?_ | (with_reducible refine wpAny_isSubtype_exc cC2 ?_; rw [inC]) | wp_step)
  show wpAny _ _ (typeLookup (.ref C) _) _ _ _
  refine l1.at ?_
  refine wpAny_holding (wpAny_bind (l2.at ?_))
  refine wpAny_bind (wpAny_call (codeAny_mono z fun r t y => ?_))
  rcases r with e | (v | _ | _ | _) <;> first | exact y | exact y.elim | skip
  obtain ⟨rfl, y⟩ := y
  first
    | exact wpAny_pure (wpAny_pure y)
    | (wp_walk; exact y)
theorem kw_tcheck {Q : Unit → Shared → Prop} (cC : hp.get? C = some (excClassObj nm qn C Nn bs bm hd sn sb ab co dd k0 k1 k2 k3 k5 nI)) (z : Q () ⟨hp, gn, dw, tk, os⟩) : wpAny M A (checkBuiltinCall "type.__call__" ⟨[.ref C], kws⟩) Q E ⟨hp, gn, dw, tk, os⟩ := by
  have f3 := tc_sub
  have ti : (⟨hp, gn, dw, tk, os⟩ : Shared).TypeIs (.ref C) "type" := ⟨_, cC, rfl⟩
  simp only [checkBuiltinCall, tc_kind, tc_split]
  repeat (any_goals (first | assumption | with_reducible refine wpAny_loadPart_at cC ?_ | with_reducible refine wpAny_onRaise ?_ | with_reducible refine wpAny_map ?_ | wp_step))
theorem kw_call (F : ExcBaseFacts B nI iI bB) (tl : ∀ X : String, bm.contains (.type X) = bB.contains (.type X)) {fI : Addr}
    (cC : hp.get? C = some (excClassObj nm qn C Nn bs bm hd sn sb ab co dd k0 k1 k2 k3 k5 nI)) (li : W.Looks (model P w) hp (typeLookup (.ref C) "__init__") (some (.ref fI))) (lb : ∀ me, W.Looks (model P w) hp (bindSpecial (.ref fI) me) (.ref fI, [me]))
    (z : codeAny (model P w) (A.under (.builtin "type.__call__" ⟨[.ref C], kws⟩)) (.call (.ref fI) ⟨[.ref (hp.objs.size + 1)], kws⟩) (W.InitBack (hp.objs.size + 1) R) ⟨(hp.push (W.kdv_tup [])).push (excO C hp.objs.size), gn, dw, tk, os⟩) :
    codeAny (model P w) A (.call (.ref C) ⟨[], kws⟩) R ⟨hp, gn, dw, tk, os⟩ := by
  have g1 := tc_lookup
  have g2 := tc_bind (.ref C)
  have ti : (⟨hp, gn, dw, tk, os⟩ : Shared).TypeIs (.ref C) "type" := ⟨_, cC, rfl⟩
  refine codeAny_of_tree ?_
  show wpAny _ _ (callAny (.ref C) _) _ _ _
  repeat (any_goals (first | assumption | with_reducible refine wpAny_loadPart_at cC ?_ | wp_step))
  refine ⟨rfl, ?_⟩
  refine codeAny_call_builtin_at (Code.quiet_builtin _ (by decide +kernel)) entry_typeCall (kw_tcheck cC (kw_type F tl cC li lb ?_))
  refine codeAny_mono z fun r t y => ?_
  rcases r with e | (v | _ | _ | _) <;> exact y
end
end DL

namespace DL
open PySem PySem.Spec PyProof.Rows L2

def tMkK (C : Addr) (sp : Sp) (ta : TA) : L2.St → Hp → XK → Prop := fun σ H Q => ta σ H fun vs H1 => ∃ v, vs = [v] ∧ ∀ a, H1 a = none → sp [.ref a, v] (upd H1 a (exo a C none))
  (fun v H2 => v = .non ∧ ∃ (d : Addr) (fs : List (Str × V)), H2 a = some (exo a C (some d)) ∧ H2 d = some (exd d fs) ∧ H1 d = none ∧ Q (.ref C) (some d) (upd (del H2 a) d (.xd fs))) (fun _ _ _ => False)
section
variable {X : Cx} {x : Str} {C fI : Addr} {k : Nat} {fd : FuncData} {sp : Sp} {tk : TA} {kws : List Keyword} {p pos : Pos}
theorem pmk_kw (T : OexC X.K C) (iC : PySem.W.findIn X.K (.ref C) "__init__" = some (some (.ref fI))) (tI : PySem.W.typeIn X.K (.ref fI) = some (.type "function")) (F1 : FnOk X.prog X.w X.K X.mg X.base (L2.CX X.prog X.w) k fI fd ["self", "value"] sp) (hr : Room (k + 1) X.A)
    (hb : ∀ (s : Shared) (a : Addr) (u : Value), BindsTo s fd ⟨[.ref a], [(("value" : Str), u)]⟩ [(("self" : Str), .ref a), (("value" : Str), u)]) (hm : X.mg x = some (.ref C)) (hkw : PK X kws tk)
    (hall : (backToKw pos (keywordEach kws X.env)).all (·.1.isSome) = true := by rfl) (hks : (backToKw pos (keywordEach kws X.env)).filterMap (·.1) = [(("value" : Str))] := by rfl) (hg : Gl X x := by rfl)
    (hdb : (x == ("__debug__" : Str)) = false := by decide) (hpl : ((backTo pos (starEach [] X.env)).any (·.1) || (backToKw pos (keywordEach kws X.env)).any (·.1.isNone)) = false := by rfl) :
    PMk X (.Call (.Name x p) [] kws pos) (tMkK C sp tk) := by
  intro pins s σ H Q I h
  obtain ⟨nm, q, N, bs, bm, sn, sub, ab, col, dd, k0, k1, k2, k3, k5, hC, hbm⟩ := T.cls
  refine wpAny_Call_Name_kw (ld_glob I hg hm ?_ hdb)
  refine PySem.W.callWith_KW0 (h₀ := X.base) I.ok.mod.kin T.kC hall (thn (hkw.run pos pins s σ H _ I h) fun ws s1 ⟨zs, H1, I1, r1, v, ev, q1⟩ => ⟨I1.kIn, ?_⟩) hpl
  subst ev
  rw [hks]
  cases r1 with
  | @cons _ u _ us ru rr =>
    cases rr
    show wpAny _ _ (call (.ref C) [] [(("value" : Str), u)]) _ _ _
    obtain ⟨hp, g, dr, tk', os⟩ := s1
    have hsz : hp.objs.size ≤ hp.objs.size + 1 := Nat.le_succ _
    have hn : H1 (hp.objs.size + 1) = none := I1.hok.fresh hsz
    have hq := q1 (hp.objs.size + 1) hn
    have up : ∀ b o, hp.get? b = some o → ((hp.push (PySem.W.kdv_tup [])).push (PySem.HandSPX.excO C hp.objs.size)).get? b = some o := fun b o e => Heap.get?_push_of_some _ (Heap.get?_push_of_some _ e)
    have at1 : ((hp.push (PySem.W.kdv_tup [])).push (PySem.HandSPX.excO C hp.objs.size)).get? (hp.objs.size + 1) = some (PySem.HandSPX.excO C hp.objs.size) := by heap_get
    have I2 : Inv X pins σ (upd H1 (hp.objs.size + 1) (exo (hp.objs.size + 1) C none)) ⟨(hp.push (PySem.W.kdv_tup [])).push (PySem.HandSPX.excO C hp.objs.size), g, dr, tk', os⟩ :=
      I1.laid (t' := tk') (a := hp.objs.size + 1) (o := exo (hp.objs.size + 1) C none) up hsz (exo_ok at1)
    have r2 : Vals [V.ref (hp.objs.size + 1), v] [Value.ref (hp.objs.size + 1), u] := .cons rfl (.cons ru .nil)
    refine wpAny_call (kw_call F.excBase_ValueError (fun Y => PySem.HandSPX.refsVE_contains Y bm hbm) (I1.kIn _ _ hC) (PySem.W.looks_findIn I1.kIn iC) (fun me => PySem.W.bind_fn I1.kIn me tI)
      (codeAny_mono (F1.run _ X.stack _ _ ⟨[Value.ref (hp.objs.size + 1)], [(("value" : Str), u)]⟩ [Value.ref (hp.objs.size + 1), u] _ _ (fun _ _ _ => False) (hr.make C [] [(("value" : Str), u)]) (I2.env0.make C [] [(("value" : Str), u)]) (hb _ _ _) r2 hq) fun r s' hq' => ?_))
    cases r with
    | error er => exact passes0 pins σ _ _ er s' I2 hq'
    | ok fl =>
      cases fl with
      | ret u2 =>
        obtain ⟨v2, H2, os2, bare2, un2, hok2, rv, ev, d, fs, ea, ed, hd1, q2⟩ := hq'
        subst ev
        obtain ⟨h2, g2, d2, t2, os'⟩ := s'
        exact ⟨rv, mk_end (raises_own T.exC T.tyC) I1 hsz up un2 hok2 os2 bare2 ea ed hd1 q2⟩
      | next => exact False.elim hq'
      | brk => exact False.elim hq'
      | cont => exact False.elim hq'
end

section
variable {ca : Nat → Addr} {X : Cx} {I : List Nat} {c k : Nat} {x : Str} {fI : Addr} {fd : FuncData} {p pos pos' tpos : Pos} {kws : List Keyword} {fs : Ev (List AV)} {o i : Expr} {fo fi : Ev AV}
theorem ds_raiseK (hc : X.calm = true) (T : ExK X.K ca fI c) (tI : PySem.W.typeIn X.K (.ref fI) = some (.type "function")) (F1 : FnOk X.prog X.w X.K X.mg X.base (L2.CX X.prog X.w) k fI fd ["self", "value"] (spI X.K)) (hr : Room (k + 1) X.A)
    (hb : ∀ (s : Shared) (a : Addr) (u : Value), BindsTo s fd ⟨[.ref a], [(("value" : Str), u)]⟩ [(("self" : Str), .ref a), (("value" : Str), u)]) (hm : X.mg x = some (.ref (ca c))) (hkw : DK ca X kws fs)
    (hall : (backToKw pos (keywordEach kws X.env)).all (·.1.isSome) = true := by rfl) (hks : (backToKw pos (keywordEach kws X.env)).filterMap (·.1) = [(("value" : Str))] := by rfl) (hg : Gl X x := by rfl)
    (hdb : (x == ("__debug__" : Str)) = false := by decide) (hpl : ((backTo pos (starEach [] X.env)).any (·.1) || (backToKw pos (keywordEach kws X.env)).any (·.1.isNone)) = false := by rfl) :
    DS ca X I (.Raise (some (.Call (.Name x p) [] kws pos)) none pos') (sRaise c (evFz fs)) := fun W tk _ =>
  PS.imp (ps_raise hc tk (pmk_kw T.oex T.ini tI F1 hr hb hm (hkw W tk) hall hks hg hdb hpl)) fun Dn σ H h => by
    refine tDF_of (fs := fs) (W := W) ?_
    obtain ⟨G, ρ, F, o, c0, e0, z⟩ := h
    unfold sRaise evS at e0
    cases hf : evFz fs ρ with
    | none => rw [hf] at e0; cases e0
    | some u =>
      rw [hf] at e0
      refine ⟨G, ρ, F, u, c0, hf, ?_⟩
      cases u with
      | exc er ρ' => cases e0; exact fun G' H' F' cls dx c' xa x' => z σ G' H' F' cls dx .refl c' xa x'
      | ok ds ρ1 =>
        intro vs G1 H1 F1 c1 r x1
        dsimp only at e0
        split at e0
        case h_2 => cases e0
        rename_i d
        cases e0
        obtain ⟨v, rfl, rv⟩ := paired1 r
        refine ⟨v, rfl, fun a na => ⟨a, ca c, v, rfl, T.oex, T.no, upd_same, fun dx hdx hne => ?_⟩⟩
        rw [upd_ne hne] at hdx
        refine ⟨rfl, dx, [("value", v)], upd_same, by rw [upd_ne hne]; exact upd_same, hdx, ?_⟩
        have hH : upd (del (upd (upd (upd H1 a (exo a (ca c) none)) dx (exd dx [(("value" : Str), v)])) a (exo a (ca c) (some dx))) a) dx (.xd [(("value" : Str), v)]) = upd H1 dx (.xd [(("value" : Str), v)]) := by
          funext b
          by_cases h1 : b = dx
          · rw [h1, upd_same, upd_same]
          · rw [upd_ne h1, upd_ne h1]
            by_cases h2 : b = a
            · rw [h2, del_same, na]
            · rw [del_ne h2, upd_ne h2, upd_ne h1, upd_ne h2]
        show W (.ref (ca c)) (some dx) σ _
        rw [hH]
        have x2 := ext_new (G := G1) (o := HO.xd [(("value" : Str), v)]) hdx c1.sub
        exact z σ _ _ F1 _ _ .refl (c1.grow x2 (sub_new hdx c1.sub)) ⟨c, dx, v, d, rfl, rfl, rfl, upd_same, rv.keep x2.gg fun _ h => h.elim⟩ ((x1.more x2).mono (fun _ h => h) fun _ h => .inl h)

theorem rep_int {B : Bd} {G H : Hp} {v : V} {z : Int} {T : FP} (r : Rep B G H v (.int z) T) : v = .int z := by
  cases r
  rfl
/-! ### xs[i] += j -/
def gmAug (f : Int → Int → Int) (j : Int) : D → List D → Option (D × D)
  | .ol ds, [.int k] => match ixN ds.length k with
    | some n => match ds[n]? with
      | some (.int z) => if 0 ≤ k ∧ k < 1000000 then some (.ol (ds.set n (.int (f z j))), .non) else none
      | _ => none
    | none => none
  | _, _ => none
def rGetP (K : PySem.W.Frag) : V → V → Hp → VK → Prop := fun x y H Q => ∃ a xs k v, x = .ref a ∧ y = .int k ∧ SqL K H a xs ∧ 0 ≤ k ∧ k < 1000000 ∧ xs[k.toNat]? = some v ∧ Q v H
theorem get_pos : PGet X (rGetP X.K) := by
  intro pins s σ H x y v u Q I rx ry h
  obtain ⟨a, xs, k, z, rfl, rfl, hq, h0, h1, he, q⟩ := h
  cases rx
  obtain ⟨t, rfl⟩ := ry
  obtain ⟨its, r, pl, hz⟩ := I.list hq
  obtain ⟨w, ew, rw'⟩ := r.get he
  exact wpAny_getItem_list pl.isList h0 (by omega) (by simpa using ew) ⟨z, H, I, rw', q⟩
theorem ds_aug {j : Int} {jj : Nat} {jp : Pos} (ho : DE ca X o fo) (hi : DE ca X i fi)
    (ha : ∀ ov iv new, augStore i ov iv new = (do holding [new, ov, iv] (setItem ov iv new); release [new, ov, iv] []; pure .next) := by intros; rfl) :
    DS ca X I (.AugAssign (.Subscript o i tpos) .Add (.Constant (.int j) jj jp) pos) (sExpr (evMut (gmAug (fun a b => a + b) j) (evCons fo (evCons fi evNil)))) := fun W tk ps =>
  PS.imp (ps_augS (ho W tk) (hi W tk) get_pos pe_int ip_add set_list ha) fun Dn σ H h => by
    have q : tD ⟨X.K, ca⟩ W (evMut (gmAug (fun a b => a + b) j) (evCons fo (evCons fi evNil))) σ H fun _ H1 => Dn.nx σ H1 := tSD_E h fun av ρ1 v G1 H1 F1 T o ek c1 r n z => by
      cases ek
      exact z σ G1 H1 F1 .refl c1 (.refl fun x h => .inl h)
    refine tD_map (tD_mut q) fun x H1 h1 => tD_map (tDL_cons h1) fun y H2 h2 => ?_
    obtain ⟨G, d, U, ds, d', r, sub, rd, rr, e, q⟩ := tDL_nil h2
    unfold gmAug at e
    split at e
    · rename_i items k
      split at e
      · rename_i n hn
        split at e
        · rename_i z hz
          split at e
          · rename_i hk
            cases e
            obtain ⟨y2, e2, r1⟩ := paired1 rr
            cases e2
            cases r1
            obtain ⟨a, rfl⟩ := rep_ol_ref rd
            have rd0 := rd
            obtain ⟨vs, hv, l, ch⟩ := ol_change rd
            have hnl := (ixN_seq hn).2.1
            have hnk : k.toNat = n := by
              unfold ixN at hn
              rw [if_pos hk.1] at hn
              split at hn
              · cases hn; rfl
              · cases hn
            have hvn : vs[n]? = some (.int z) := by
              cases rd0 with
              | ol h g l' c bd dj na =>
                rw [h] at hv
                cases hv
                have h3 : n < vs.length := by omega
                rw [List.getElem?_eq_getElem h3, rep_int (c n _ _ (List.getElem?_eq_getElem h3) hz)]
            obtain ⟨U', r', x'⟩ := ch (vs.set n (.int (z + j))) (items.set n (.int (z + j))) (fun i => if i = n then none else some i) (by simp [l]) (fun i j k h1 h2 => by
              split at h1 <;> split at h2 <;> cases h1 <;> cases h2 <;> rfl) fun i v d e1 e2 => by
              by_cases hi : i = n
              · subst hi
                rw [List.getElem?_set_self (by omega)] at e1
                rw [List.getElem?_set_self hnl] at e2
                cases e1; cases e2
                exact .inr ⟨if_pos rfl, .int _⟩
              · rw [List.getElem?_set_ne (Ne.symm hi)] at e1 e2
                exact .inl ⟨i, if_neg hi, e1, e2⟩
            exact ⟨a, vs, k, .int z, rfl, rfl, .of hv, hk.1, hk.2, by rw [hnk]; exact hvn, z, j, rfl, rfl, a, vs, k, n, rfl, rfl, hv, by rw [l]; exact hn, q .non _ _ _ (g_upd rd sub) r' .non x'⟩
          · cases e
        · cases e
      · cases e
    · cases e

/-! ### all, any, min, max -/
def blsD : List D → Option (List Bool)
  | [] => some []
  | .bl b :: ds => match blsD ds with
    | some bs => some (b :: bs)
    | none => none
  | _ => none
def gAll : List D → Option D
  | [x] => match lstD x with
    | some ds => match blsD ds with
      | some bs => some (.bl (bs.all id))
      | none => none
    | none => none
  | _ => none
def gMax : List D → Option D
  | [.int i, .int j] => some (.int (if j > i then j else i))
  | _ => none
def gMin : List D → Option D
  | [.int i, .int j] => some (.int (if j < i then j else i))
  | _ => none
theorem bls_rep {G H : Hp} {B : Bd} : ∀ {ds : List D} {bs : List Bool} {vs : List V}, blsD ds = some bs → vs.length = ds.length → (∀ (i : Nat) v d, vs[i]? = some v → ds[i]? = some d → ∃ U, Rep B G H v d U) → vs = bs.map V.bl
  | [], bs, vs, e, l, c => by cases e; cases vs with | nil => rfl | cons => cases l
  | d :: ds, bs, [], e, l, c => by cases l
  | d :: ds, bs, v :: vs, e, l, c => by
    obtain ⟨U, r⟩ := c 0 v d rfl rfl
    cases r with
    | bl b =>
      unfold blsD at e
      cases h : blsD ds with
      | none => rw [h] at e; cases e
      | some bs' =>
        rw [h] at e
        cases e
        exact congrArg (V.bl b :: ·) (bls_rep h (by simpa using l) fun i v d e1 e2 => c (i + 1) v d (by simpa using e1) (by simpa using e2))
    | _ => simp [blsD] at e
theorem callD_all (hc : X.calm = true) : CallD ca X (.builtin "all") gAll := by
  intro pins s σ H xs us Q I rs h
  obtain ⟨G, ds, d, sub, rr, e, q⟩ := h
  unfold gAll at e
  split at e
  · split at e
    · rename_i ds' h1
      split at e
      · rename_i bs h2
        cases e
        obtain ⟨v, T, rfl, r⟩ := reps1 rr
        cases r with
        | lst h l c =>
          cases h1
          have ev := bls_rep h2 l fun i v d e1 e2 => ⟨_, c i v d e1 e2⟩
          subst ev
          exact cr_all hc pins s σ H _ us Q I rs ⟨_, bs, rfl, .of (sub _ _ h), rDL_end q sub (.bl _)⟩
        | ol h g l c bd dj na =>
          cases h1
          have ev := bls_rep h2 l fun i v d e1 e2 => ⟨_, c i v d e1 e2⟩
          subst ev
          exact cr_all hc pins s σ H _ us Q I rs ⟨_, bs, rfl, .of h, rDL_end q sub (.bl _)⟩
        | _ => cases h1
      · cases e
    · cases e
  · cases e
theorem callD_max (hc : X.calm = true) : CallD ca X (.builtin "max") gMax := by
  intro pins s σ H xs us Q I rs h
  obtain ⟨G, ds, d, sub, rr, e, q⟩ := h
  unfold gMax at e
  split at e
  · cases e
    obtain ⟨v, T, w, U, rfl, r1, r2⟩ := reps2 rr
    cases r1; cases r2
    exact call_max2 hc pins s σ H _ us Q I rs ⟨_, _, rfl, rDL_end q sub (.int _)⟩
  · cases e
theorem callD_min (hc : X.calm = true) : CallD ca X (.builtin "min") gMin := by
  intro pins s σ H xs us Q I rs h
  obtain ⟨G, ds, d, sub, rr, e, q⟩ := h
  unfold gMin at e
  split at e
  · cases e
    obtain ⟨v, T, w, U, rfl, r1, r2⟩ := reps2 rr
    cases r1; cases r2
    exact call_min2 hc pins s σ H _ us Q I rs ⟨_, _, rfl, rDL_end q sub (.int _)⟩
  · cases e

/-! ### three names -/
theorem ds_three {y z : Str} {a b d : Expr} {fa fb fd' : Ev AV} {i j l : Nat} {px py pz pt : Pos} {kt k2 pt2} (hc : X.calm = true) (hN : X.N.Nodup) (ha : DE ca X a fa) (hb : DE ca X b fb) (hd : DE ca X d fd') (hij : i ≠ j := by decide) (hil : i ≠ l := by decide) (hjl : j ≠ l := by decide)
    (hi : X.N[i]? = some x := by rfl) (hj : X.N[j]? = some y := by rfl) (hl : X.N[l]? = some z := by rfl) (hx : X.env.scope.names.lookup x = some .local := by rfl) (hy : X.env.scope.names.lookup y = some .local := by rfl) (hz : X.env.scope.names.lookup z = some .local := by rfl)
    (hw : swappedStores [.Tuple [.Name x px, .Name y py, .Name z pz] kt pt] (.Tuple [a, b, d] k2 pt2) X.env = pure (some [x, y, z]) := by rfl)
    (hs : swapsWithSole [.Tuple [.Name x px, .Name y py, .Name z pz] kt pt] (.Tuple [a, b, d] k2 pt2) pos.line X.env = pure false := by rfl)
    (h1 : starEach [a, b, d] X.env = (false, eval a X.env) :: starEach [b, d] X.env := by rfl) (h2 : starEach [b, d] X.env = (false, eval b X.env) :: starEach [d] X.env := by rfl) (h3 : starEach [d] X.env = (false, eval d X.env) :: starEach [] X.env := by rfl) :
    DS ca X I (.Assign [.Tuple [.Name x px, .Name y py, .Name z pz] kt pt] (.Tuple [a, b, d] k2 pt2) pos) (sAsg I [i, j, l] (evCons fa (evCons fb (evCons fd' evNil)))) := fun W tk ps =>
  PS.imp (ps_par3 hc hN hi hj hl hij hil hjl hx hy hz (da_cons ha (da_cons hb (da_cons hd da_nil h3) h2) h1 W tk) hw hs) fun Dn σ H q => by
    obtain ⟨G, ρ, F, o, c, e, z0⟩ := q
    unfold sAsg evS at e
    cases hf : evCons fa (evCons fb (evCons fd' evNil)) ρ with
    | none => rw [hf] at e; cases e
    | some u =>
      rw [hf] at e
      cases u with
      | exc er ρ' => cases e; exact ⟨G, ρ, F, _, c, hf, exc_out z0⟩
      | ok avs ρ1 =>
        refine ⟨G, ρ, F, _, c, hf, fun vs G1 H1 F1 Wt c1 r n x => ?_⟩
        have hl3 : avs.length = 3 := len_cons (len_cons (len_cons len_nil)) ρ avs ρ1 hf
        have hv : ∃ v w y, vs = [v, w, y] := by
          cases r with
          | nil => cases hl3
          | cons r hT t hu dj => cases t with
            | nil => cases hl3
            | cons r2 hT2 t2 hu2 dj2 => cases t2 with
              | nil => cases hl3
              | cons r3 hT3 t3 hu3 dj3 => cases t3 with
                | nil => exact ⟨_, _, _, rfl⟩
                | cons => cases hl3
        obtain ⟨v, w, y, rfl⟩ := hv
        exact ⟨v, w, y, rfl, asg_end e c1 r n (endS_trans z0 .refl x)⟩
end
end DL

namespace DL
open PySem PySem.Spec PyProof.Rows L2

/-! ### names that a comprehension reads are cells -/
section
variable {ca : Nat → Addr} {X : Cx} {I : List Nat} {fe : Ev AV} {e : Expr} {x : Str} {px pos : Pos}
theorem ds_nameC (i : Nat) (hN : X.N.Nodup) (he : DE ca X e fe) (hi : X.N[i]? = some x := by rfl) (hx : Loc X.env.scope x := by exact Or.inr rfl) (hs : swapsWith e (some (.Name x px)) pos.line X.env = pure false := by rfl)
    (hf : X.fn x = true ∨ X.env.scope.names.lookup x = some .local := by exact Or.inl rfl) : DS ca X I (.Assign [.Name x px] e pos) (sAsg I [i] (evCons fe evNil)) := ds_name i hN he hi hx hs hf
theorem dg_nmC (i : Nat) (hN : X.N.Nodup) (hi : X.N[i]? = some x := by rfl) (hx : Loc X.env.scope x := by exact Or.inr rfl) (hf : X.fn x = true ∨ X.env.scope.names.lookup x = some .local := by exact Or.inl rfl) : DG ca X I (.Name x pos) (tgN I i) := dg_nm i hN hi hx hf
end
section
variable {ca : Nat → Addr} {X : Cx} {I : List Nat} {elt tg iter : Expr} {ifs : List Expr} {scope : Scope} {own : List (Str × Nat)} {pos spos py : Pos} {fi : Ev (List D)} {t : Tgt} {fc : Ev Bool} {f : Ev AV} {i : Nat} {y : Str}
/-- y = [..] -/
theorem ds_setlc (i : Nat) (hc : X.calm = true) (hN : X.N.Nodup) (hi : DI ca X tg iter fi) (ok : BlkOk X.N X.env.scope scope own) (hg : ∀ s H C cl fp, DG ca (Cx.cmp X s H scope C cl fp) (others X.N.length (own.map (fun z : Str × Nat => z.2))) tg t)
    (ht : ∀ s H C cl fp, DTs ca (Cx.cmp X s H scope C cl fp) ifs fc) (he : ∀ s H C cl fp, DE ca (Cx.cmp X s H scope C cl fp) elt f) (hsw : swapsWith (.ListComp elt [⟨tg, iter, ifs, 0⟩] scope pos) (some (.Name y py)) spos.line X.env = pure true)
    (hy : X.N[i]? = some y := by rfl) (hyl : X.env.scope.names.lookup y = some .local := by rfl) (hs : ∀ x, foldedSetIterable iter X.env x = pure x := by intro _; rfl) :
    DS ca X I (.Assign [.Name y py] (.ListComp elt [⟨tg, iter, ifs, 0⟩] scope pos) spos) (sAsg I [i] (evCons (evComp fi (own.map (fun z : Str × Nat => z.2)) t fc f) evNil)) := fun W tk ps =>
  ⟨fun pins s σ H Dn Iv q => by
    have q2 : tDL ⟨X.K, ca⟩ W (evCons (evComp fi (own.map (fun z : Str × Nat => z.2)) t fc f) evNil) σ H fun vs H1 => Dn.nx (setV [i] vs σ) H1 := tSD_L q fun avs ρ1 vs G1 H1 F1 Wt o ek c1 r n z => asg_end ek c1 r n z
    have q3 : tD ⟨X.K, ca⟩ W (evComp fi (own.map (fun z : Str × Nat => z.2)) t fc f) σ H fun v H1 => Dn.nx (setV [i] [v] σ) H1 := tD_map (tDL_cons q2) fun v H1 k => tDL_nil k
    exact (ps_setLc (g := gD ⟨X.K, ca⟩ (others X.N.length (own.map (fun z : Str × Nat => z.2))) t) (tt := tDT ⟨X.K, ca⟩ (fun _ _ _ _ => False) fc) (te := tD ⟨X.K, ca⟩ (fun _ _ _ _ => False) f) hc hN hy hyl hsw (hi W tk) ok
      (fun s H C cl fp => hg s H C cl fp) (fun s H C cl fp => ht s H C cl fp _ takes0) (fun s H C cl fp => he s H C cl fp _ takes0) hs).run pins s σ H Dn Iv (tD_comp (N := X.N.length) (fun _ => Iv.len) q3)⟩
end

/-! ### run -/
section
variable {ρ : DEnv} {vs : List Nat} {t : Tgt} {c : Ev Bool} {f : Ev AV} {fi : Ev (List D)} {d : D} {ds acc : List D}
def cmpR (ρ0 : DEnv) (vs : List Nat) (x : Option (List D × DEnv)) : Option (Out AV) := match x with
  | some (acc, ρ') => some (.ok (.val (.ol acc)) (restD ρ0 ρ' vs))
  | none => none
@[simp] theorem cmpR_some {ρ0 : DEnv} : cmpR ρ0 vs (some (acc, ρ)) = some (.ok (.val (.ol acc)) (restD ρ0 ρ vs)) := rfl
@[simp] theorem r_comp : evComp fi vs t c f ρ = bE (fi ρ) fun ds ρ1 => cmpR ρ1 vs (compE vs t c f ds [] (wipeD ρ1 vs)) := by
  unfold evComp
  rw [r_then]
  rfl
@[simp] theorem r_yes : evYes ρ = some (.ok true ρ) := rfl
theorem comp_0 : compE vs t c f [] acc ρ = some (acc, wipeD ρ vs) := rfl
def turnR (vs : List Nat) (t : Tgt) (c : Ev Bool) (f : Ev AV) (ds acc : List D) (ρ2 : DEnv) (x : Option (Out AV)) : Option (List D × DEnv) := match x with
  | some (.ok av ρ3) => match cont ρ3 av with
    | some e => if acc.length < 16777216 then compE vs t c f ds (acc ++ [frz e]) (frzS (plS [av]) ρ3) else none
    | none => none
  | _ => none
@[simp] theorem turnR_ok {ρ2 : DEnv} {av : AV} : turnR vs t c f ds acc ρ2 (some (.ok av ρ)) = bO (cont ρ av) fun e => if acc.length < 16777216 then compE vs t c f ds (acc ++ [frz e]) (frzS (plS [av]) ρ) else none := by
  unfold turnR bO
  dsimp only
  cases cont ρ av <;> rfl
/-- without an if -/
theorem comp_1 : compE vs t evYes f (d :: ds) acc ρ = bO (t d (wipeD ρ vs)) fun ρ1 => turnR vs t evYes f ds acc ρ1 (f ρ1) := by
  conv => lhs; unfold compE
  unfold bO
  cases t d (wipeD ρ vs) with
  | none => rfl
  | some ρ1 =>
    dsimp only
    rw [r_yes]
    rfl
@[simp] theorem wipeD_0 : wipeD ρ [] = ρ := rfl
@[simp] theorem wipeD_1 {i : Nat} : wipeD ρ (i :: vs) = (wipeD ρ vs).set i none := rfl
@[simp] theorem restD_0 {ρ0 : DEnv} : restD ρ0 ρ [] = ρ := rfl
@[simp] theorem restD_1 {ρ0 : DEnv} {i : Nat} : restD ρ0 ρ (i :: vs) = match ρ0[i]? with
  | some o => (restD ρ0 ρ vs).set i o
  | none => restD ρ0 ρ vs := rfl
@[simp] theorem max_ii {i j : Int} : gMax [.int i, .int j] = some (.int (if j > i then j else i)) := rfl
@[simp] theorem min_ii {i j : Int} : gMin [.int i, .int j] = some (.int (if j < i then j else i)) := rfl
@[simp] theorem all_o : gAll [.ol ds] = bO (blsD ds) fun bs => some (.bl (bs.all id)) := by
  unfold gAll bO
  dsimp only [lstD]
  cases blsD ds <;> rfl
@[simp] theorem all_l : gAll [.lst ds] = bO (blsD ds) fun bs => some (.bl (bs.all id)) := by
  unfold gAll bO
  dsimp only [lstD]
  cases blsD ds <;> rfl
@[simp] theorem bls_0 : blsD [] = some [] := rfl
@[simp] theorem bls_1 {b : Bool} : blsD (.bl b :: ds) = bO (blsD ds) fun bs => some (b :: bs) := by
  conv => lhs; unfold blsD
  unfold bO
  cases blsD ds <;> rfl
end
end DL

namespace DL
open PySem PySem.Spec PyProof.Rows L2

/-! ### in -/
def inD : D → D → Option Bool
  | .str s, .str z => match s.cps.toList with
    | [c] => some (decide (c ∈ z.cps.toList))
    | _ => some (!(Builtin.Str.occurrences z s 0 z.length 1).isEmpty)
  | x, y => match pyd x, pyd y with
    | some p, some (.list ps) => if SeqAt.shaped p = true ∧ SeqAt.shaped (.list ps) = true then some (ps.any fun w => PyData.eqv w p) else none
    | _, _ => none
def gIn : List D → Option D
  | [x, y] => (inD x y).map .bl
  | _ => none
def gNin : List D → Option D
  | [x, y] => (inD x y).map fun b => .bl (!b)
  | _ => none
section
variable {ca : Nat → Addr} {X : Cx}
theorem inD_str {s z : Str} {b : Bool} (h : inD (.str s) (.str z) = some b) : (∃ c : Nat, s = ⟨#[c]⟩ ∧ b = decide (c ∈ z.cps.toList)) ∨ b = !(Builtin.Str.occurrences z s 0 z.length 1).isEmpty := by
  unfold inD at h
  dsimp only at h
  split at h
  · rename_i c hc
    cases h
    refine .inl ⟨c, ?_, rfl⟩
    obtain ⟨⟨l⟩⟩ := s
    simp only at hc
    rw [hc]
  · cases h
    exact .inr rfl
theorem inD_deep {x y : D} {b : Bool} (h : inD x y = some b) : (∃ s z, x = .str s ∧ y = .str z) ∨ ∃ p ps, pyd x = some p ∧ pyd y = some (.list ps) ∧ SeqAt.shaped p = true ∧ SeqAt.shaped (.list ps) = true ∧ b = ps.any fun w => PyData.eqv w p := by
  have key : (match pyd x, pyd y with
    | some p, some (.list ps) => if SeqAt.shaped p = true ∧ SeqAt.shaped (.list ps) = true then some (ps.any fun w => PyData.eqv w p) else none
    | _, _ => none) = some b → ∃ p ps, pyd x = some p ∧ pyd y = some (.list ps) ∧ SeqAt.shaped p = true ∧ SeqAt.shaped (.list ps) = true ∧ b = ps.any fun w => PyData.eqv w p := fun e => by
    split at e
    · rename_i p ps h1 h2
      split at e
      · rename_i hz
        cases e
        exact ⟨p, ps, h1, h2, hz.1, hz.2, rfl⟩
      · cases e
    · cases e
  cases x with
  | str s => cases y with
    | str z => exact .inl ⟨s, z, rfl, rfl⟩
    | _ => exact .inr (key h)
  | _ => exact .inr (key h)
theorem opD_in (hu : X.A.units + 65 < cLine) : Op2 ca X (compareOp .In) gIn := by
  intro pins s σ H x y v u Q I rx ry h
  obtain ⟨G, ds, d, sub, rs, e, q⟩ := h
  obtain ⟨d1, T1, d2, T2, rfl, r1, r2⟩ := rs.two
  unfold gIn at e
  obtain ⟨b, e1, rfl⟩ := Option.map_eq_some_iff.mp e
  rcases inD_deep e1 with ⟨a, z, rfl, rfl⟩ | ⟨p, ps, h1, h2, h3, h4, rfl⟩
  · cases r1; cases r2
    rcases inD_str e1 with ⟨c, rfl, rfl⟩ | rfl
    · exact op_in_sign pins s σ H _ _ v u Q I rx ry ⟨c, z, rfl, rfl, rDL_end q sub (.bl _)⟩
    · exact op_in_str pins s σ H _ _ v u Q I rx ry ⟨a, z, rfl, rfl, rDL_end q sub (.bl _)⟩
  · exact op_inD hu pins s σ H _ _ v u Q I rx ry ⟨p, ps, r1.dp sub h1, r2.dp sub h2, h3, h4, rDL_end q sub (.bl _)⟩
theorem opD_nin (hu : X.A.units + 65 < cLine) : Op2 ca X (compareOp .NotIn) gNin := by
  intro pins s σ H x y v u Q I rx ry h
  obtain ⟨G, ds, d, sub, rs, e, q⟩ := h
  obtain ⟨d1, T1, d2, T2, rfl, r1, r2⟩ := rs.two
  unfold gNin at e
  obtain ⟨b, e1, rfl⟩ := Option.map_eq_some_iff.mp e
  rcases inD_deep e1 with ⟨a, z, rfl, rfl⟩ | ⟨p, ps, h1, h2, h3, h4, rfl⟩
  · cases r1; cases r2
    rcases inD_str e1 with ⟨c, rfl, rfl⟩ | rfl
    · exact op_notIn_sign pins s σ H _ _ v u Q I rx ry ⟨c, z, rfl, rfl, rDL_end q sub (.bl _)⟩
    · exact op_notin_str pins s σ H _ _ v u Q I rx ry ⟨a, z, rfl, rfl, rDL_end q sub (.bl _)⟩
  · exact op_notInD hu pins s σ H _ _ v u Q I rx ry ⟨p, ps, r1.dp sub h1, r2.dp sub h2, h3, h4, rDL_end q sub (.bl _)⟩
end

/-! ### a < b < c, b a frozen value -/
def chK (g2 : List D → Option D) (y : D) : AV → Ev AV := fun c ρ => match cont ρ c with
  | some dc => match g2 [y, dc] with
    | some d => some (.ok (.val d) ρ)
    | none => none
  | none => none
def chR (g1 g2 : List D → Option D) (fc : Ev AV) : List AV → Ev AV
  | [a, .val y] => fun ρ => if y.sh = true then match conts ρ [a, .val y] with
    | some ds => match g1 ds with
      | some (.bl true) => fc.andThen (chK g2 y) ρ
      | some (.bl false) => some (.ok (.val (.bl false)) ρ)
      | _ => none
    | none => none
    else none
  | _ => fun _ => none
def evChain (g1 g2 : List D → Option D) (fa fb fc : Ev AV) : Ev AV := (evCons fa (evCons fb evNil)).andThen (chR g1 g2 fc)
section
variable {ca : Nat → Addr} {X : Cx} {a b c : Expr} {fa fb fc : Ev AV} {pos : Pos} {op op' : CmpOp} {g1 g2 : List D → Option D}
theorem de_chain (ho : Op2 ca X (compareOp op) g1) (ho' : Op2 ca X (compareOp op') g2) (ha : DE ca X a fa) (hb : DE ca X b fb) (hc : DE ca X c fc) (hm : lastMarks [op, op'] [b, c] = false := by with_unfolding_all rfl) :
    DE ca X (.Compare a [op, op'] [b, c] pos) (evChain g1 g2 fa fb fc) := fun W tk => PE.imp (pe_chain ho ho' (ha W tk) (hb W tk) (hc W tk) hm) fun σ H Q h => by
  obtain ⟨G, ρ, F, o, c0, e, z⟩ := h
  have q2 : tDL ⟨X.K, ca⟩ W (evCons fa (evCons fb evNil)) σ H fun vs H1 => ∀ x y, vs = [x, y] → rDL ⟨X.K, ca⟩ g1 [x, y] H1 fun w H3 => ∃ k, w = .bl k ∧ (if k = true then tD ⟨X.K, ca⟩ W fc σ H3 fun w' H4 => rDL ⟨X.K, ca⟩ g2 [y, w'] H4 Q else Q (.bl false) H3) := by
    refine tDL_bind c0 e (fun er ρ' eo => by subst eo; exact z) fun avs ρ1 vs G1 H1 F1 Wt ek c1 r1 n1 x1 x y hv => ?_
    subst hv
    have x1' : Ext G H (un F) G1 H1 (un F1) := x1.mono (fun _ h => h) fun _ h => .inl h
    obtain ⟨a1, b1, T, U, rfl, rx, ry⟩ := r1.two'
    cases b1 with
    | pl i p => cases ek
    | val y' =>
      unfold chR at ek
      dsimp only at ek
      split at ek
      case isFalse => cases ek
      rename_i hsh
      cases h1 : conts ρ1 [a1, .val y'] with
      | none => rw [h1] at ek; cases ek
      | some ds =>
        rw [h1] at ek
        dsimp only at ek
        have ry0 : Rep ⟨X.K, ca⟩ G1 H1 y y' nof := rep_sh (show Rep ⟨X.K, ca⟩ G1 H1 y y' U from ry) hsh
        split at ek
        · rename_i hg
          refine ⟨G1, ds, .bl true, c1.sub, reps_of c1 r1 h1, hg, fun v G2 H2 T2 s2 r2 x2 => ?_⟩
          cases r2
          refine ⟨true, rfl, ?_⟩
          rw [if_pos rfl]
          refine tD_bind (c1.grow x2 s2) ek (fun er ρ' eo => by
            subst eo
            intro G' H' F' cls dx c' xa x'
            exact z G' H' F' cls dx c' xa ((x1'.more x2).trans (x'.mono (fun _ h => .inl h) fun _ h => h))) fun av ρ2 w G3 H3 F3 T3 ek3 c3 r3 n3 x3 => ?_
          unfold chK at ek3
          cases h4 : cont ρ2 av with
          | none => rw [h4] at ek3; cases ek3
          | some dc =>
            rw [h4] at ek3
            dsimp only at ek3
            cases h5 : g2 [y', dc] with
            | none => rw [h5] at ek3; cases ek3
            | some d =>
              rw [h5] at ek3
              cases ek3
              obtain ⟨U4, r4, _⟩ := r3.cont c3 h4
              have ry3 := ((ry0.keep x2.gg fun _ h => h.elim : Rep ⟨X.K, ca⟩ G2 H2 y y' nof).stay x3)
              refine ⟨G3, [y', dc], d, c3.sub, .cons ⟨_, ry3⟩ (.cons ⟨_, r4⟩ .nil), h5, fun v5 G5 H5 T5 s5 r5 x5 => ?_⟩
              exact z v5 G5 H5 F3 T5 (c3.grow x5 s5) r5 (c3.new x5) (((x1'.more x2).trans (x3.mono (fun _ h => .inl h) fun x h => .inl h)).more x5)
        · rename_i hg
          cases ek
          refine ⟨G1, ds, .bl false, c1.sub, reps_of c1 r1 h1, hg, fun v G2 H2 T2 s2 r2 x2 => ?_⟩
          cases r2
          refine ⟨false, rfl, ?_⟩
          rw [if_neg Bool.false_ne_true]
          exact z (.bl false) G2 H2 F1 nof (c1.grow x2 s2) (.bl false) (fun _ h => h.elim) ((x1'.more x2).mono (fun _ h => h) fun x h => .inl (h.elim id False.elim))
        · cases ek
  exact tD_map (tDL_cons q2) fun x H1 h1 => tD_map (tDL_cons h1) fun y H2 h2 => tDL_nil h2 x y rfl
end
end DL

namespace DL
open PySem PySem.Spec PyProof.Rows L2

/-! ### sum, any, tuple, join, pop(i) -/
def intsD : List D → Option (List Int)
  | [] => some []
  | .int i :: ds => match intsD ds with
    | some is => some (i :: is)
    | none => none
  | _ => none
def strsD : List D → Option (List Str)
  | [] => some []
  | .str i :: ds => match strsD ds with
    | some is => some (i :: is)
    | none => none
  | _ => none
def lstA : D → Option (List D)
  | .lst xs => some xs | .ol xs => some xs | .frl xs => some xs
  | _ => none
theorem ints_rep {G H : Hp} {B : Bd} : ∀ {ds : List D} {is : List Int} {vs : List V}, intsD ds = some is → vs.length = ds.length → (∀ (i : Nat) v d, vs[i]? = some v → ds[i]? = some d → ∃ U, Rep B G H v d U) → vs = is.map V.int
  | [], bs, vs, e, l, c => by cases e; cases vs with | nil => rfl | cons => cases l
  | d :: ds, bs, [], e, l, c => by cases l
  | d :: ds, bs, v :: vs, e, l, c => by
    obtain ⟨U, r⟩ := c 0 v d rfl rfl
    cases r with
    | int b =>
      unfold intsD at e
      cases h : intsD ds with
      | none => rw [h] at e; cases e
      | some bs' =>
        rw [h] at e
        cases e
        exact congrArg (V.int b :: ·) (ints_rep h (by simpa using l) fun i v d e1 e2 => c (i + 1) v d (by simpa using e1) (by simpa using e2))
    | _ => simp [intsD] at e
theorem strs_rep {G H : Hp} {B : Bd} : ∀ {ds : List D} {is : List Str} {vs : List V}, strsD ds = some is → vs.length = ds.length → (∀ (i : Nat) v d, vs[i]? = some v → ds[i]? = some d → ∃ U, Rep B G H v d U) → vs = is.map V.str
  | [], bs, vs, e, l, c => by cases e; cases vs with | nil => rfl | cons => cases l
  | d :: ds, bs, [], e, l, c => by cases l
  | d :: ds, bs, v :: vs, e, l, c => by
    obtain ⟨U, r⟩ := c 0 v d rfl rfl
    cases r with
    | str b =>
      unfold strsD at e
      cases h : strsD ds with
      | none => rw [h] at e; cases e
      | some bs' =>
        rw [h] at e
        cases e
        exact congrArg (V.str b :: ·) (strs_rep h (by simpa using l) fun i v d e1 e2 => c (i + 1) v d (by simpa using e1) (by simpa using e2))
    | _ => simp [strsD] at e
theorem lstA_rep {B : Bd} {G H : Hp} {v : V} {d : D} {T : FP} (r : Rep B G H v d T) (s : ∀ b o, G b = some o → H b = some o) {ds : List D} (h : lstA d = some ds) : ∃ a vs, v = .ref a ∧ SqL B.K H a vs ∧ vs.length = ds.length ∧ ∀ (i : Nat) v d, vs[i]? = some v → ds[i]? = some d → ∃ U, Rep B G H v d U := by
  cases r with
  | lst h' l c => cases h; exact ⟨_, _, rfl, .of (s _ _ h'), l, fun i v d e1 e2 => ⟨_, c i v d e1 e2⟩⟩
  | frl h' l c => cases h; exact ⟨_, _, rfl, sqL_mono h' s, l, fun i v d e1 e2 => ⟨_, c i v d e1 e2⟩⟩
  | ol h' g l c bd dj na => cases h; exact ⟨_, _, rfl, .of h', l, fun i v d e1 e2 => ⟨_, c i v d e1 e2⟩⟩
  | _ => cases h
def gSum : List D → Option D
  | [x] => match lstA x with
    | some ds => match intsD ds with
      | some is => some (.int is.sum)
      | none => none
    | none => none
  | _ => none
def gAny : List D → Option D
  | [x] => match lstA x with
    | some ds => match blsD ds with
      | some bs => some (.bl (bs.any id))
      | none => none
    | none => none
  | _ => none
def gTuple : List D → Option D
  | [.tup ds] => some (.tup ds)
  | [x] => match lstA x with
    | some ds => if allSh ds = true then some (.tup ds) else none
    | none => none
  | _ => none
def gJoin : List D → Option D
  | [.str a, x] => match seqD x with
    | some ds => match strsD ds with
      | some ys => if (ys.map (·.length)).sum + ys.length * a.length ≤ 16777216 then some (.str (Txt.join a ys)) else none
      | none => none
    | none => none
  | _ => none
section
variable {ca : Nat → Addr} {X : Cx}
theorem callD_sum (hc : X.calm = true) : CallD ca X (.builtin "sum") gSum := by
  intro pins s σ H xs us Q I rs h
  obtain ⟨G, ds, d, sub, rr, e, q⟩ := h
  unfold gSum at e
  split at e
  · split at e
    · rename_i ds' h1
      split at e
      · rename_i is h2
        cases e
        obtain ⟨v, T, rfl, r⟩ := reps1 rr
        obtain ⟨a, vs, rfl, hq, l, c⟩ := lstA_rep r sub h1
        have ev := ints_rep h2 l c
        subst ev
        exact cr_sum hc pins s σ H _ us Q I rs ⟨a, is, rfl, hq, rDL_end q sub (.int _)⟩
      · cases e
    · cases e
  · cases e
theorem callD_any (hc : X.calm = true) : CallD ca X (.builtin "any") gAny := by
  intro pins s σ H xs us Q I rs h
  obtain ⟨G, ds, d, sub, rr, e, q⟩ := h
  unfold gAny at e
  split at e
  · split at e
    · rename_i ds' h1
      split at e
      · rename_i bs h2
        cases e
        obtain ⟨v, T, rfl, r⟩ := reps1 rr
        obtain ⟨a, vs, rfl, hq, l, c⟩ := lstA_rep r sub h1
        have ev := bls_rep h2 l c
        subst ev
        exact cr_any hc pins s σ H _ us Q I rs ⟨a, bs, rfl, hq, rDL_end q sub (.bl _)⟩
      · cases e
    · cases e
  · cases e
theorem callD_tuple : CallD ca X (.type "tuple") gTuple := by
  intro pins s σ H xs us Q I rs h
  obtain ⟨G, ds, d, sub, rr, e, q⟩ := h
  unfold gTuple at e
  split at e
  · cases e
    obtain ⟨v, T, rfl, r⟩ := reps1 rr
    have r0 := r
    cases r with
    | tup hq l c => exact call_tuple_of pins s σ H _ us Q I rs ⟨_, _, rfl, .inr ⟨sqT_mono hq sub, rDL_end q sub r0⟩⟩
  · split at e
    · rename_i ds' h1
      split at e
      · rename_i hs
        cases e
        obtain ⟨v, T, rfl, r⟩ := reps1 rr
        obtain ⟨a, vs, rfl, hq, l, c⟩ := lstA_rep r sub h1
        refine call_tuple_of pins s σ H _ us Q I rs ⟨a, vs, rfl, .inl ⟨hq, fun p hp => q _ _ _ nof (sub_new hp sub) (.tup (.inl (.inl upd_same)) l fun i v d e1 e2 => ?_) (ext_new hp sub)⟩⟩
        obtain ⟨U, r'⟩ := c i v d e1 e2
        exact (rep_sh r' (allSh_get hs e2)).keep (ext_new hp sub).gg fun _ h => h.elim
      · cases e
    · cases e
  · cases e
theorem methD_join : MethD ca X "str.join" gJoin := by
  intro pins s σ H x xs v us Q I rx rs h
  obtain ⟨G, ds, d, sub, rr, e, q⟩ := h
  unfold gJoin at e
  split at e
  · rename_i a y
    split at e
    · rename_i ds' h1
      split at e
      · rename_i ys h2
        split at e
        · rename_i hz
          cases e
          cases rr with
          | cons ra t =>
            obtain ⟨T, ra⟩ := ra
            cases ra
            obtain ⟨w, U, rfl, r⟩ := reps1 t
            obtain ⟨p, vs, rfl, hq, l, c⟩ := r.seq sub h1
            have ev := strs_rep h2 l c
            subst ev
            exact mt_join pins s σ H _ _ v us Q I rx rs ⟨a, p, ys, rfl, rfl, hq, hz, rDL_end q sub (.str _)⟩
        · cases e
      · cases e
    · cases e
  · cases e
end
def gmPopAt : D → List D → Option (D × D)
  | .ol ds, [.int i] => if 0 ≤ i ∧ i < ds.length ∧ ds.length ≤ 16777216 then match ds[i.toNat]? with
    | some d => if d.sh = true then some (.ol (ds.eraseIdx i.toNat), d) else none
    | none => none
    else none
  | _, _ => none
theorem erase_get {α β : Type} {xs : List α} {ys : List β} (l : xs.length = ys.length) {k i : Nat} {x : α} {y : β} (h1 : (xs.eraseIdx k)[i]? = some x) (h2 : (ys.eraseIdx k)[i]? = some y) : xs[if i < k then i else i + 1]? = some x ∧ ys[if i < k then i else i + 1]? = some y := by
  rw [List.getElem?_eraseIdx] at h1 h2
  split at h1 <;> rename_i hi
  · rw [if_pos hi] at h2 ⊢; exact ⟨h1, h2⟩
  · rw [if_neg hi] at h2 ⊢; exact ⟨h1, h2⟩
section
variable {ca : Nat → Addr} {X : Cx}
theorem mutD_popAt : MutD ca X "list.pop" gmPopAt := by
  intro pins s σ H x xs v us Q I rx rs h
  obtain ⟨G, d, U, ds, d', r, sub, rd, rr, e, q⟩ := h
  unfold gmPopAt at e
  split at e
  · rename_i items i
    split at e
    · rename_i hi
      split at e
      · rename_i y hl
        split at e
        · rename_i hs
          injection e with e
          injection e with e1 e2
          subst e1
          subst e2
          obtain ⟨w, ew, r1⟩ := paired1 rr
          subst ew
          cases r1
          obtain ⟨a, rfl⟩ := rep_ol_ref rd
          obtain ⟨vs, ha, l, ch⟩ := ol_change rd
          obtain ⟨U', r', x'⟩ := ch (vs.eraseIdx i.toNat) (items.eraseIdx i.toNat) (fun j => some (if j < i.toNat then j else j + 1)) (by rw [List.length_eraseIdx, List.length_eraseIdx, l]) (fun j j' k h1 h2 => by
            have h1 := Option.some.inj h1
            have h2 := Option.some.inj h2
            split at h1 <;> split at h2 <;> omega) fun j v d e1 e2 => by
            obtain ⟨k1, k2⟩ := erase_get l e1 e2
            exact .inl ⟨_, rfl, k1, k2⟩
          have hv : vs[i.toNat]? = some (vs[i.toNat]'(by omega)) := List.getElem?_eq_getElem (by omega)
          have ry : ∃ U, Rep ⟨X.K, ca⟩ G H (vs[i.toNat]'(by omega)) y U := by
            cases rd with
            | ol h' g' l' c' bd dj na =>
              rw [ha] at h'
              cases h'
              exact ⟨_, c' i.toNat _ _ hv hl⟩
          obtain ⟨U2, ry⟩ := ry
          refine mt_popAt pins s σ H _ _ v us Q I rx rs ⟨a, vs, i, i.toNat, _, rfl, rfl, ha, by omega, by omega, ?_, hv, q _ _ _ _ (g_upd rd sub) r' (rep_sh ry hs).up x'⟩
          exact seqIndex_of hi.1 (by omega)
        · cases e
      · cases e
    · cases e
  · cases e
end
end DL

namespace DL
open PySem PySem.Spec PyProof.Rows L2

/-! ### own classes: e.f -/
/-- ft: the fields that are asked, by class -/
structure FldOk (K : PySem.W.Frag) (ca : Nat → Addr) (ft : Nat → Str → Bool) : Prop where
  cls : ∀ c f, ft c f = true → Cls K (ca c)
  no : ∀ c f, ft c f = true → NoAttr K (ca c) f
def fldK (ft : Nat → Str → Bool) (f : Str) : AV → Ev AV := fun a ρ => match cont ρ a, a with
  | some (.ins c fs), _ => if ft c f = true then match kIdx f fs with
    | some k => match fs[k]? with
      | some (_, d) => some (.ok (.val d) ρ)
      | none => none
    | none => none
    else none
  | some (.oi c fs), .pl i p => if ft c f = true then match kIdx f fs with
    | some k => match fs[k]? with
      | some (_, d) => if d.sh = true then some (.ok (.val d) ρ) else some (.ok (.pl i (p ++ [.fl f])) ρ)
      | none => none
    | none => none
    else none
  | _, _ => none
def evFld (ft : Nat → Str → Bool) (f : Str) (fe : Ev AV) : Ev AV := fe.andThen (fldK ft f)
section
variable {ca : Nat → Addr} {X : Cx} {e : Expr} {fe : Ev AV} {pos : Pos} {ft : Nat → Str → Bool} {f : Str}
theorem de_fld (T : FldOk X.K ca ft) (he : DE ca X e fe) (hb : attributeBase e f X.env (eval e X.env) = eval e X.env := by rfl) : DE ca X (.Attribute e f pos) (evFld ft f fe) := fun W tk =>
  PE.imp (pe_fld (he W tk) hb) fun σ H Q h => by
    obtain ⟨G, ρ, F, o, c, e, z⟩ := h
    refine tD_bind c e (fun er ρ' eo => by subst eo; exact z) fun av ρ1 v G1 H1 F1 U ek c1 r1 n1 x1 => ?_
    have x1' : Ext G H (un F) G1 H1 (un F1) := x1.mono (fun _ h => h) fun _ h => .inl h
    unfold fldK at ek
    cases hc : cont ρ1 av with
    | none => rw [hc] at ek; cases ek
    | some d0 =>
      rw [hc] at ek
      obtain ⟨U2, r2, s2⟩ := r1.cont c1 hc
      cases d0 with
      | ins cc fs =>
        dsimp only at ek
        split at ek
        case isFalse => cases ek
        rename_i hf
        cases hk : kIdx f fs with
        | none => rw [hk] at ek; cases ek
        | some k =>
          rw [hk] at ek
          dsimp only at ek
          obtain ⟨x, k1, k2⟩ := kIdx_get hk
          rw [k1] at ek
          cases ek
          cases r2 with
          | ins h ho l ch =>
            rename_i a dx fv
            have hk' := hk
            rw [← kIdx_keys f l] at hk'
            obtain ⟨y, y1, y2⟩ := kIdx_get hk'
            exact ⟨a, ca cc, dx, fv, y, rfl, c1.sub _ _ h, T.cls cc f hf, T.no cc f hf, y2, z y G1 H1 F1 nof c1 (ch k _ _ _ _ y1 k1) (fun _ h => h.elim) (x1'.mono (fun _ h => h) fun x h => h.elim id False.elim)⟩
      | oi cc fs =>
        cases av with
        | val d => cases ek
        | pl i p =>
          dsimp only at ek
          split at ek
          case isFalse => cases ek
          rename_i hf
          cases hk : kIdx f fs with
          | none => rw [hk] at ek; cases ek
          | some k =>
            rw [hk] at ek
            dsimp only at ek
            obtain ⟨x, k1, k2⟩ := kIdx_get hk
            rw [k1] at ek
            dsimp only at ek
            obtain ⟨⟨v0, e0, hp⟩, hU⟩ := r1
            cases r2 with
            | oi h ho g g2 l ch bd dj na na2 =>
              rename_i a dx fv FF
              have hk' := hk
              rw [← kIdx_keys f l] at hk'
              obtain ⟨y, y1, y2⟩ := kIdx_get hk'
              refine ⟨a, ca cc, dx, fv, y, rfl, h, T.cls cc f hf, T.no cc f hf, y2, ?_⟩
              split at ek
              · rename_i hs
                cases ek
                exact z y G1 H1 F1 nof c1 (rep_sh (ch k _ _ _ _ y1 k1) hs) (fun _ h => h.elim) (x1'.mono (fun _ h => h) fun x h => h.elim id False.elim)
              · cases ek
                exact z y G1 H1 F1 nof c1 ⟨⟨v0, e0, hp.snoc ⟨a, ca cc, dx, fv, k, y, rfl, h, hk', y1, rfl⟩⟩, rfl⟩ (fun _ h => h.elim) (x1'.mono (fun _ h => h) fun x h => h.elim id False.elim)
      | _ => cases av <;> cases ek
end

/-! ### C(..) -/
theorem PathH.grow {H H' : Hp} (h : ∀ b o, H b = some o → H' b = some o) : ∀ {p : List PSt} {v0 v : V}, PathH H v0 p v → PathH H' v0 p v
  | [], _, _, k => k
  | .ix j :: p, _, _, k => by
    obtain ⟨a, vs, u, e, ha, hu, k⟩ := k
    exact ⟨a, vs, u, e, h _ _ ha, hu, PathH.grow h k⟩
  | .fl f :: p, _, _, k => by
    obtain ⟨a, C, dx, fs, n, u, e, ha, hk, hu, k⟩ := k
    exact ⟨a, C, dx, fs, n, u, e, h _ _ ha, hk, hu, PathH.grow h k⟩
/-- more slots, more of the heap -/
theorem RepAs.grow {B : Bd} {G H H' : Hp} {σ : L2.St} {τ : L2.St} {W' : FP} (x : Ext G H nof G H' W') : ∀ {Wt : FP} {vs : List V} {avs : List AV}, RepAs B G H σ Wt vs avs → RepAs B G H' (σ ++ τ) Wt vs avs := by
  intro Wt vs avs r
  induction r with
  | nil => exact .nil
  | cons r hT t hu dj ih =>
    rename_i a _ _
    refine .cons ?_ hT ih hu dj
    cases a with
    | val d => exact (Rep.frame r x fun _ _ h => h).1
    | pl i p =>
      obtain ⟨⟨v0, e0, hp⟩, hU⟩ := r
      refine ⟨⟨v0, ?_, hp.grow fun b o hb => x.hh b o hb fun h => h⟩, hU⟩
      rw [List.getElem?_append_left (List.getElem?_eq_some_iff.mp e0).1]
      exact e0
/-- its own addresses stand in the heap -/
theorem RepAs.domd {B : Bd} {G H : Hp} {σ : L2.St} : ∀ {Wt : FP} {vs : List V} {avs : List AV}, RepAs B G H σ Wt vs avs → RepAs B G H σ (fun y => Wt y ∧ ∃ o, H y = some o) vs avs := by
  intro Wt vs avs r
  induction r with
  | nil => exact .nil
  | cons r hT t hu dj ih => exact .cons r (fun x h => ⟨hT x h, (r.dom x h).1⟩) ih (fun x h => ⟨hu x h.1, h.2⟩) fun x h h' => dj x h h'.1
def makeK (c : Nat) (ms : List Bool) (m : Mir) (avs : List AV) : Ev AV := fun ρ => match callK (true :: ms) m (.pl ρ.length [] :: avs) (ρ ++ [some (.oi c [])]) with
  | some (.ok (.val .non) ρ') => match slotOf ρ' ρ.length with
    | some d => some (.ok (.val d) (ρ'.take ρ.length))
    | none => none
  | some (.exc e ρ') => some (.exc e (ρ'.take ρ.length))
  | _ => none
def evMake (c : Nat) (ms : List Bool) (m : Mir) (fs : Ev (List AV)) : Ev AV := fs.andThen (makeK c ms m)
theorem callK_len {ms : List Bool} {m : Mir} {avs : List AV} {ρ : DEnv} : (∀ a ρ', callK ms m avs ρ = some (.ok a ρ') → ρ'.length = ρ.length) ∧ ∀ e ρ', callK ms m avs ρ = some (.exc e ρ') → ρ'.length = ρ.length := by
  constructor <;> intro a ρ' h <;> unfold callK at h <;> (repeat' split at h) <;> (try cases h) <;> rw [setOut_len, frzS_len]
section
variable {B : Bd} {W : WX} {σ : L2.St}
theorem Cfg.cut {G H : Hp} {ρ' : DEnv} {F : Nat → FP} {u : Option V} (c : Cfg B G H (σ ++ [u]) ρ' F) : Cfg B G H σ (ρ'.take σ.length) (fun i x => i < σ.length ∧ F i x) := by
  have hl := c.len
  simp at hl
  refine ⟨c.sub, by simp [hl], fun i d e => ?_, fun i e x hx => ?_, fun i j x a b => c.dis i j x a.2 b.2⟩
  · rw [List.getElem?_take] at e
    split at e
    · rename_i hi
      obtain ⟨v, e1, r⟩ := c.slot i d e
      rw [List.getElem?_append_left hi] at e1
      refine ⟨v, e1, ?_⟩
      have en : (fun x => i < σ.length ∧ F i x) = F i := by funext x; exact propext ⟨(·.2), fun h => ⟨hi, h⟩⟩
      rw [en]; exact r
    · cases e
  · refine c.emp i (fun d q => e d ?_) x hx.2
    rw [List.getElem?_take, if_pos hx.1]; exact q
theorem make_end {c0 : Nat} {ms : List Bool} {m : Mir} {n : Nat} {G H : Hp} {ρ : DEnv} {F : Nat → FP} {Wt : FP} {vs : List V} {avs : List AV} {o : Out AV} {Q : VK} (c : Cfg B G H σ ρ F) (r : RepAs B G H σ Wt vs avs) (hn : ∀ y, Wt y → ¬ un F y)
    (e : makeK c0 ms m avs ρ = some o) (z : endE B W σ G H (fun y => un F y ∨ Wt y) Q o) (hl : vs.length + 1 = n) {x dx : Addr} (hx : H x = none) (hd : H dx = none) (hne : dx ≠ x) :
    spD B n m (.ref x :: vs) (upd (upd H dx (.own x)) x (.ins (B.ca c0) dx [])) (fun v H2 => v = .non ∧ Q (.ref x) H2) (WE W σ) := by
  have hx1 : upd H dx (.own x) x = none := by rw [upd_ne hne.symm]; exact hx
  have xa : Ext G H nof G (upd (upd H dx (.own x)) x (.ins (B.ca c0) dx [])) (fun y => y = x ∨ y = dx) := by
    refine ⟨fun _ _ h => h, fun b o hb _ => ?_, fun b hb => .inr ?_, fun _ _ h => .inl h⟩
    · rw [upd_ne (ne_of_none hb hx), upd_ne (ne_of_none hb hd)]; exact hb
    · rcases hb with rfl | rfl
      · exact hx
      · exact hd
  have hsub : ∀ b o, G b = some o → upd (upd H dx (.own x)) x (.ins (B.ca c0) dx []) b = some o := sub_own hx1 (sub_own hd c.sub)
  have nF : ∀ i, ¬ F i x ∧ ¬ F i dx := fun i => ⟨fun h => (by obtain ⟨⟨o, q⟩, _⟩ := c.dom ⟨i, h⟩; rw [hx] at q; cases q), fun h => (by obtain ⟨⟨o, q⟩, _⟩ := c.dom ⟨i, h⟩; rw [hd] at q; cases q)⟩
  have lρ := c.len
  -- the wider configuration
  have c2 : Cfg B G (upd (upd H dx (.own x)) x (.ins (B.ca c0) dx [])) (σ ++ [some (.ref x)]) (ρ ++ [some (.oi c0 [])]) (fun i y => (i = ρ.length ∧ (y = x ∨ y = dx)) ∨ F i y) := by
    have lt : ∀ {i y}, F i y → i < ρ.length := fun {i y} h => by
      obtain ⟨d, v, e1, _⟩ := c.own h
      exact (List.getElem?_eq_some_iff.mp e1).1
    refine ⟨hsub, by simp [lρ], fun i d q => ?_, fun i q y hy => ?_, fun i j y a b => ?_⟩
    · rcases get_append q with ⟨hi, q⟩ | ⟨hi, q⟩
      · obtain ⟨v, e1, r1⟩ := c.slot i d q
        refine ⟨v, by rw [List.getElem?_append_left (by omega)]; exact e1, ?_⟩
        have en : (fun y => (i = ρ.length ∧ (y = x ∨ y = dx)) ∨ F i y) = F i := by funext y; exact propext ⟨fun h => h.elim (fun h => by omega) id, .inr⟩
        rw [en]; exact (r1.frame xa fun _ _ h => h).1
      · cases hk : i - ρ.length with
        | succ k => rw [hk] at q; simp at q
        | zero =>
          have hi2 : i = ρ.length := by omega
          subst hi2
          rw [hk] at q
          simp at q
          subst q
          refine ⟨.ref x, by rw [lρ, List.getElem?_append_right (Nat.le_refl _), Nat.sub_self]; rfl, ?_⟩
          have re := Rep.oi (B := B) (G := G) (H := upd (upd H dx (.own x)) x (.ins (B.ca c0) dx [])) (a := x) (dx := dx) (c := c0) (fs := []) (ds := []) (F := fun _ => nof) upd_same (by rw [upd_ne hne, upd_same]) (no_g c.sub hx) (no_g c.sub hd) rfl (fun i k v k' d h => by simp at h) (fun _ _ h => h.elim) (fun _ _ _ h => h.elim) (fun _ h => h.elim) fun _ h => h.elim
          have en : (fun y => (ρ.length = ρ.length ∧ (y = x ∨ y = dx)) ∨ F ρ.length y) = fun y => y = x ∨ y = dx ∨ ∃ i : Nat, (nof : FP) y := by
            funext y
            exact propext ⟨fun h => h.elim (fun h => h.2.elim .inl fun h => .inr (.inl h)) fun h => (Nat.lt_irrefl _ (lt h)).elim, fun h => h.elim (fun h => .inl ⟨rfl, .inl h⟩) fun h => h.elim (fun h => .inl ⟨rfl, .inr h⟩) fun ⟨_, h⟩ => h.elim⟩
          rw [en]; exact re
    · rcases hy with ⟨rfl, _⟩ | hy
      · exact q (.oi c0 []) (by rw [List.getElem?_append_right (Nat.le_refl _), Nat.sub_self]; rfl)
      · obtain ⟨d, v, e1, _⟩ := c.own hy
        exact q d (by rw [List.getElem?_append_left (lt hy)]; exact e1)
    · rcases a with ⟨rfl, a⟩ | a <;> rcases b with ⟨rfl, b⟩ | b
      · rfl
      · rcases a with rfl | rfl
        · exact ((nF j).1 b).elim
        · exact ((nF j).2 b).elim
      · rcases b with rfl | rfl
        · exact ((nF i).1 a).elim
        · exact ((nF i).2 a).elim
      · exact c.dis i j y a b
  have r2 : RepAs B G (upd (upd H dx (.own x)) x (.ins (B.ca c0) dx [])) (σ ++ [some (.ref x)]) (fun y => Wt y ∧ ∃ o, H y = some o) (.ref x :: vs) (.pl ρ.length [] :: avs) :=
    .cons (T := nof) ⟨⟨.ref x, by rw [lρ, List.getElem?_append_right (Nat.le_refl _), Nat.sub_self]; rfl, rfl⟩, rfl⟩ (fun _ h => h.elim) (r.domd.grow xa) (fun _ h => h) fun _ h => h.elim
  have hn2 : ∀ y, (Wt y ∧ ∃ o, H y = some o) → ¬ un (fun i y => (i = ρ.length ∧ (y = x ∨ y = dx)) ∨ F i y) y := fun y ⟨h, o, ho⟩ ⟨i, hi⟩ => by
    rcases hi with ⟨_, rfl | rfl⟩ | hi
    · rw [hx] at ho; cases ho
    · rw [hd] at ho; cases ho
    · exact hn y h ⟨i, hi⟩
  have x5 : Ext G H (fun y => un F y ∨ Wt y) G (upd (upd H dx (.own x)) x (.ins (B.ca c0) dx [])) (fun y => un (fun i y => (i = ρ.length ∧ (y = x ∨ y = dx)) ∨ F i y) y ∨ (Wt y ∧ ∃ o, H y = some o)) := by
    refine ⟨xa.gg, fun b o hb _ => xa.hh b o hb fun h => h, fun b hb => ?_, fun b o h => .inl h⟩
    rcases hb with ⟨i, ⟨_, rfl | rfl⟩ | hb⟩ | hb
    · exact .inr hx
    · exact .inr hd
    · exact .inl (.inl ⟨i, hb⟩)
    · exact .inl (.inr hb.1)
  unfold makeK at e
  cases hc : callK (true :: ms) m (.pl ρ.length [] :: avs) (ρ ++ [some (.oi c0 [])]) with
  | none => rw [hc] at e; cases e
  | some w =>
    rw [hc] at e
    refine call_end (W := fun cls d _ H' => W cls d σ H') (Q := fun v H2 => v = .non ∧ Q (.ref x) H2) c2 r2 hn2 hc ?_ (by simpa using hl)
    cases w with
    | exc er ρ' =>
      cases e
      intro G' H' F' cls d' c' xe x'
      have c6 := c'.cut
      rw [← lρ] at c6
      refine z G' H' _ cls d' c6 xe ((x5.trans x').mono (fun _ h => h) fun y ⟨i, h⟩ => ⟨i, h.2⟩)
    | ok a ρ' =>
      cases a with
      | pl i p => cases e
      | val d1 =>
        cases d1 with
        | non =>
          dsimp only at e
          cases hs : slotOf ρ' ρ.length with
          | none => rw [hs] at e; cases e
          | some d =>
            rw [hs] at e
            cases e
            intro v G' H' F' T c' r' n' x'
            cases r'
            refine ⟨rfl, ?_⟩
            obtain ⟨v1, e1, r1⟩ := c'.at hs
            rw [lρ, List.getElem?_append_right (Nat.le_refl _), Nat.sub_self] at e1
            cases e1
            have c6 := c'.cut
            rw [← lρ] at c6
            refine z (.ref x) G' H' _ (F' ρ.length) c6 r1 (fun y hy ⟨i, hi, hF⟩ => ?_) ((x5.trans x').mono (fun _ h => h) fun y h => ?_)
            · have := c'.dis _ _ y hy hF
              omega
            · rcases h with ⟨i, hi, h⟩ | h
              · exact .inl ⟨i, h⟩
              · exact .inl ⟨_, h⟩
        | _ => cases e
end

section
variable {ca : Nat → Addr} {X : Cx} {c k : Nat} {f : Addr} {fd : FuncData} {ps : List Str} {x : Str} {p pos : Pos} {e : Expr} {es : List Expr} {fs : Ev (List AV)} {m : Mir}
theorem tD_make {B : Bd} {W : WX} {σ : L2.St} {H : Hp} {ms : List Bool} {n : Nat} {Q : VK} (h : tD B W (evMake c ms m fs) σ H Q) (hn : ∀ ρ avs ρ', fs ρ = some (.ok avs ρ') → avs.length + 1 = n) :
    tDL B W fs σ H fun vs H1 => ∀ x dx, H1 x = none → H1 dx = none → dx ≠ x → spD B n m (.ref x :: vs) (upd (upd H1 dx (.own x)) x (.ins (B.ca c) dx [])) (fun v H2 => v = .non ∧ Q (.ref x) H2) (WE W σ) := by
  obtain ⟨G, ρ, F, o, c, e, z⟩ := h
  unfold evMake at e
  cases hf : fs ρ with
  | none => rw [andThen_none hf] at e; cases e
  | some u =>
    cases u with
    | exc er ρ' => rw [andThen_exc hf] at e; cases e; exact ⟨G, ρ, F, _, c, hf, z⟩
    | ok avs ρ1 =>
      rw [andThen_ok hf] at e
      refine ⟨G, ρ, F, _, c, hf, fun vs G1 H1 F1 Wt c1 r n1 x a dx h1 h2 h3 => ?_⟩
      have hl : vs.length + 1 = n := by
        rw [← hn ρ avs ρ1 hf]
        clear e hf hn
        induction r with
        | nil => rfl
        | cons r hT t hu dj ih => exact congrArg (· + 1) (ih (fun y h => n1 y (hu y h)) (x.mono (fun _ h => h) fun y h => h.imp id (hu y)))
      exact make_end c1 r n1 e (endE_trans z x) hl h1 h2 h3
/-- a new instance of the class at C, by whatever binding of the arguments -/
theorem run_mk {C : Addr} {sp : Sp} {E : XK} {pins : List (Addr × Obj)} {σ : L2.St} {H : Hp} {s : Shared} {Q : VK} {us ws : List Value} {kw : List (Str × Value)} {vs : List V} (M : Mk X.K C f) (F : FnOk X.prog X.w X.K X.mg X.base (L2.CX X.prog X.w) k f fd ps sp) (hr : Room (k + 1) X.A)
    (hb : ∀ (s' : Shared) (u : Value), X.K.In s'.heap → BindsTo s' fd ⟨u :: us, kw⟩ (ps.zip (u :: ws))) (hx : PassesAt (L2.CX X.prog X.w) X σ E) (I : Inv X pins σ H s) (r : Vals vs ws)
    (h : ∀ x dx, H x = none → H dx = none → dx ≠ x → sp (.ref x :: vs) (upd (upd H dx (.own x)) x (.ins C dx [])) (fun v H2 => v = .non ∧ Q (.ref x) H2) E) :
    wpAny (model X.prog X.w) X.A (call (.ref C) us kw) (EP X pins σ Q) X.xe s := by
  have fresh1 := I.hok.fresh (Nat.le_refl s.heap.objs.size)
  have fresh2 := I.hok.fresh (Nat.le_succ s.heap.objs.size)
  have goal := h _ _ fresh2 fresh1 (Nat.ne_of_lt (Nat.lt_succ_self _))
  have J : Inv X pins σ _ _ := Inv.made (C := C) I
  refine wpAny_call (make_map (f := f) I.kIn M.makes M.init (beq_iff_eq.mp M.fn) ?_)
  refine codeAny_mono (F.run _ X.stack _ _ _ _ _ _ E (hr.make C us kw) (J.env0.make C us kw) (hb _ _ J.kIn) (show Vals (V.ref (s.heap.objs.size + 1) :: vs) (Value.ref (s.heap.objs.size + 1) :: ws) from .cons rfl r) goal) ?_
  rintro (er | fl) s' hq
  · exact hx pins _ _ er s' J hq
  · cases fl <;> first | exact hq.elim | skip
    obtain ⟨v, H', J', rv, rfl, q⟩ := J.after hq
    exact ⟨rv, V.ref (s.heap.objs.size + 1), H', J', rfl, q⟩
/-- C(a, b, ..) -/
theorem de_make {ms : List Bool} (M : Mk X.K (ca c) f) (F : FnD X.prog X.w X.K X.mg X.base ca k f fd ps m) (hr : Room (k + 1) X.A) (hm : X.mg x = some (.ref (ca c))) (hb : Binds X.K fd ps []) (ha : DA ca X (e :: es) fs)
    (hn : ∀ ρ avs ρ', fs ρ = some (.ok avs ρ') → avs.length + 1 = ps.length) (hg : Gl X x := by rfl) (hdb : (x == ("__debug__" : Str)) = false := by decide) (he : starEach (e :: es) X.env = (false, eval e X.env) :: starEach es X.env := by rfl) (hpl : (backTo pos (starEach es X.env)).any (·.1) = false := by rfl) :
    DE ca X (.Call (.Name x p) (e :: es) [] pos) (evMake c ms m fs) := fun W tk => ⟨fun pins s σ H Q I h => by
  refine wpAny_Call_Name_kw (ld_glob I hg hm ?_ hdb)
  refine PySem.W.callWith_K (h₀ := X.base) I.ok.mod.kin M.kp (thn ((ha W tk).run pos pins s σ H _ I (tD_make h hn)) fun us s1 ⟨vs, H1, I1, r, q⟩ => ⟨I1.kIn, ?_⟩) he hpl
  have hl : vs.length + 1 = ps.length := (q _ _ (I1.hok.fresh (Nat.le_succ _)) (I1.hok.fresh (Nat.le_refl _)) (Nat.ne_of_lt (Nat.lt_succ_self _))).1
  refine run_mk M F hr (fun s' u hk => ?_) (passAt tk σ) I1 r q
  have b := hb s' (u :: us) hk (by rw [List.append_nil, List.length_cons, ← r.length]; exact hl)
  rw [List.append_nil] at b
  exact b⟩
/-- how the keywords' values come to the parameters behind self -/
structure KwM (K : PySem.W.Frag) (fd : FuncData) (ps ks : List Str) (is : List Nat) : Prop where
  to : ∀ (s : Shared) (u : Value) (ws us : List Value), ws.length = ks.length → permD ws is = some us → BindsTo s fd ⟨[u], ks.zip ws⟩ (ps.zip (u :: us))
  len : is.length + 1 = ps.length
def evMakeKw (c n : Nat) (is : List Nat) (m : Mir) (fs : Ev (List AV)) : Ev AV := (evFz fs).andThen fun ds ρ => if ds.length = n then match permD ds is with
  | some us => makeK c (us.map fun _ => false) m (us.map .val) ρ
  | none => none
  else none
/-- C(k = a, ..) -/
theorem de_makeK {ks : List Str} {is : List Nat} {kws : List Keyword} (M : Mk X.K (ca c) f) (F : FnD X.prog X.w X.K X.mg X.base ca k f fd ps m) (hr : Room (k + 1) X.A) (hm : X.mg x = some (.ref (ca c))) (hb : KwM X.K fd ps ks is) (hkw : DK ca X kws fs)
    (hall : (backToKw pos (keywordEach kws X.env)).all (·.1.isSome) = true := by rfl) (hks : (backToKw pos (keywordEach kws X.env)).filterMap (·.1) = ks := by rfl) (hg : Gl X x := by rfl)
    (hdb : (x == ("__debug__" : Str)) = false := by decide) (hpl : ((backTo pos (starEach [] X.env)).any (·.1) || (backToKw pos (keywordEach kws X.env)).any (·.1.isNone)) = false := by rfl) :
    DE ca X (.Call (.Name x p) [] kws pos) (evMakeKw c ks.length is m fs) := fun W tk => ⟨fun pins s σ H Q I h => by
  refine wpAny_Call_Name_kw (ld_glob I hg hm ?_ hdb)
  have rd : tDL ⟨X.K, ca⟩ W fs σ H fun zs H1 => zs.length = ks.length ∧ ∃ us, permD zs is = some us ∧ ∀ x dx, H1 x = none → H1 dx = none → dx ≠ x →
      spD ⟨X.K, ca⟩ ps.length m (.ref x :: us) (upd (upd H1 dx (.own x)) x (.ins (ca c) dx [])) (fun v H2 => v = .non ∧ Q (.ref x) H2) (WE W σ) := by
    obtain ⟨G, ρ, F0, o, c', e0, z⟩ := h
    unfold evMakeKw at e0
    refine tDF_of ?_
    refine tDF_bind c' e0 (fun er ρ' eo => by subst eo; exact z) fun ds ρ1 vs G1 H1 F1 ek c1 r1 x1 => ?_
    split at ek
    case isFalse => cases ek
    rename_i hl
    cases hp : permD ds is with
    | none => rw [hp] at ek; cases ek
    | some us =>
      rw [hp] at ek
      obtain ⟨ws, e1, q⟩ := permD_pair r1 hp
      refine ⟨(paired_len r1).trans hl, ws, e1, fun x dx h1 h2 h3 => ?_⟩
      exact make_end c1 (repAs_fz (σ := σ) q) (fun _ h => h.elim) ek (endE_trans z (x1.mono (fun _ h => h) fun y h => h.elim id False.elim)) (by rw [permD_len e1]; exact hb.len) h1 h2 h3
  refine PySem.W.callWith_KW0 (h₀ := X.base) I.ok.mod.kin M.kp hall (thn ((hkw W tk).run pos pins s σ H _ I rd) fun ws s2 ⟨zs, H2, I2, rz, hl, us, e1, sp⟩ => ⟨I2.kIn, ?_⟩) hpl
  rw [hks]
  obtain ⟨wv, e2, rv⟩ := permD_pair (R := fun w v => RelV v w) (xs := ws) (ys := zs) (by
    have : ∀ {a : List V} {b : List Value}, Vals a b → Paired (fun w v => RelV v w) b a := fun {a b} h => by
      induction h with
      | nil => exact .nil
      | cons r t ih => exact .cons r ih
    exact this rz) e1
  have rv' : Vals us wv := by
    clear e1 e2 sp
    induction rv with
    | nil => exact .nil
    | cons r t ih => exact .cons r ih
  exact run_mk M F hr (fun s' u _ => hb.to s' u ws wv (by rw [← rz.length]; exact hl) e2) (passAt tk σ) I2 rv' sp⟩
end
end DL

namespace DL
open PySem PySem.Spec PyProof.Rows L2

/-! ### methods and properties of own classes -/
theorem kIdx_none {α : Type} {f : Str} : ∀ {xs : List (Str × α)}, kIdx f xs = none → xs.lookup f = none
  | [], _ => rfl
  | (g, y) :: r, h => by
    unfold kIdx at h
    by_cases e : g = f
    · rw [if_pos e] at h; cases h
    · rw [if_neg e] at h
      have h1 : kIdx f r = none := by simpa using h
      have : (f == g) = false := by simpa using Ne.symm e
      simp [List.lookup, this, kIdx_none h1]
def insChk (c : Nat) (nm : Str) : D → Bool
  | .ins c' fs => decide (c' = c) && (kIdx nm fs).isNone
  | .oi c' fs => decide (c' = c) && (kIdx nm fs).isNone
  | _ => false
def isI (C : Addr) (nm : Str) (v : V) (H : Hp) : Prop := ∃ a dx fs, v = .ref a ∧ H a = some (.ins C dx fs) ∧ fs.lookup nm = none
theorem isI_of {B : Bd} {c : Nat} {nm : Str} : ∀ G H v d U, (∀ b o, G b = some o → H b = some o) → Rep B G H v d U → insChk c nm d = true → isI (B.ca c) nm v H := fun G H v d U s r h => by
  cases r with
  | ins h' ho l ch =>
    simp only [insChk, Bool.and_eq_true, decide_eq_true_eq] at h
    obtain ⟨rfl, h2⟩ := h
    refine ⟨_, _, _, rfl, s _ _ h', kIdx_none ?_⟩
    rw [kIdx_keys nm l]
    simpa using h2
  | oi h' ho g g2 l ch bd dj na na2 =>
    simp only [insChk, Bool.and_eq_true, decide_eq_true_eq] at h
    obtain ⟨rfl, h2⟩ := h
    refine ⟨_, _, _, rfl, h', kIdx_none ?_⟩
    rw [kIdx_keys nm l]
    simpa using h2
  | _ => cases h
def evMeth (c : Nat) (nm : Str) (ms : List Bool) (m : Mir) (fo : Ev AV) (fs : Ev (List AV)) : Ev AV := evCall ms m (evCons (evChk (insChk c nm) fo) fs)
def okK (ms : List Bool) (m : Mir) (avs : List AV) : Ev AV := fun ρ => match callK ms m avs ρ with
  | some (.ok a ρ') => some (.ok a ρ')
  | _ => none
def evProp (c : Nat) (m : Mir) (fo : Ev AV) : Ev AV := (evCons (evChk (insChk c Str.empty) fo) evNil).andThen (okK [false] m)
section
variable {ca : Nat → Addr} {X : Cx} {c k : Nat} {f g p : Addr} {fd : FuncData} {ps : List Str} {nm : Str} {apos pos : Pos} {o e : Expr} {es : List Expr} {fo : Ev AV} {fs : Ev (List AV)} {m : Mir}
/-- o.m(a, ..) -/
theorem de_meth {ms : List Bool} {pl : Sem Bool} (F : FnD X.prog X.w X.K X.mg X.base ca k f fd ps m) (C : Cls X.K (ca c)) (hm : Meth X.K (ca c) nm f) (hr : Room k X.A) (hb : Binds X.K fd ps []) (ho : DE ca X o fo) (ha : DA ca X (e :: es) fs)
    (hn : ∀ ρ avs ρ', fs ρ = some (.ok avs ρ') → avs.length + 1 = ps.length)
    (hst : starEach (e :: es) X.env = (false, eval e X.env) :: starEach es X.env := by rfl) (hpl : (backTo pos (starEach es X.env)).any (·.1) = false := by rfl)
    (ht : eval (.Call (.Attribute o nm apos) (e :: es) [] pos) X.env = (eval o X.env >>= fun ov => standAt apos.atName >>= fun _ => holding [ov] (getMethod ov nm pl) >>= fun q =>
      callWith pos q.1 q.2 (backTo pos (starEach (e :: es) X.env)) (backToKw pos (keywordEach [] X.env))) := by rfl) :
    DE ca X (.Call (.Attribute o nm apos) (e :: es) [] pos) (evMeth c nm ms m fo fs) := fun W tk => ⟨fun pins s σ H Q I h => by
  have h2 := tD_chk (P := isI (ca c) nm) (fun G H v d U => isI_of (B := ⟨X.K, ca⟩) G H v d U) (tDL_cons (tD_call (n := ps.length) h fun ρ avs ρ' q => by
    obtain ⟨a, as, ρ1, ρ2, rfl, e2⟩ := evCons_len q
    rw [List.length_cons, hn _ _ _ e2]))
  refine PySem.W.methodCall_KW (pl := pl) (thn ((ho W tk).run pins s σ H _ I h2) fun u s1 ⟨x, H1, I1, rx, ⟨a, dx, fl, ex, ea, l⟩, q⟩ => ?_) ht
  subst ex
  obtain rfl : u = Value.ref a := rx
  refine getmeth_ok I1 ea C hm l ?_
  refine PySem.W.callWith_K (first := [.ref a]) (h₀ := X.base) I.ok.mod.kin hm.kp (thn ((ha W tk).run pos pins s1 σ H1 _ I1 q) fun us s2 ⟨vs, H2, I2, r, q2⟩ => ⟨I2.kIn, ?_⟩) hst hpl
  exact run_fnS (E := WE W) (us := .ref a :: us) (vs := .ref a :: vs) F hr hb (passAt tk σ) I2 (.cons rfl r) q2⟩
/-- o.m() -/
theorem de_meth0 {ms : List Bool} {pl : Sem Bool} (F : FnD X.prog X.w X.K X.mg X.base ca k f fd ps m) (C : Cls X.K (ca c)) (hm : Meth X.K (ca c) nm f) (hr : Room k X.A) (hb : Binds X.K fd ps []) (ho : DE ca X o fo) (hn : ps.length = 1)
    (ht : eval (.Call (.Attribute o nm apos) [] [] pos) X.env = (eval o X.env >>= fun ov => standAt apos.atName >>= fun _ => holding [ov] (getMethod ov nm pl) >>= fun q =>
      callWith pos q.1 q.2 (backTo pos (starEach [] X.env)) (backToKw pos (keywordEach [] X.env))) := by rfl) :
    DE ca X (.Call (.Attribute o nm apos) [] [] pos) (evMeth c nm ms m fo evNil) := fun W tk => ⟨fun pins s σ H Q I h => by
  have h2 := tD_chk (P := isI (ca c) nm) (fun G H v d U => isI_of (B := ⟨X.K, ca⟩) G H v d U) (tDL_cons (tD_call (n := ps.length) h fun ρ avs ρ' q => by
    obtain ⟨a, as, ρ1, ρ2, rfl, e2⟩ := evCons_len q
    cases e2
    exact hn.symm))
  refine PySem.W.methodCall_KW (pl := pl) (thn ((ho W tk).run pins s σ H _ I h2) fun u s1 ⟨x, H1, I1, rx, ⟨a, dx, fl, ex, ea, l⟩, q⟩ => ?_) ht
  subst ex
  obtain rfl : u = Value.ref a := rx
  refine getmeth_ok I1 ea C hm l ?_
  exact PySem.W.callWith_K0 (first := [.ref a]) I1.kIn hm.kp (run_fnS (E := WE W) (us := [.ref a]) (vs := [.ref a]) F hr hb (passAt tk σ) I1 (.cons rfl .nil) (tDL_nil q))⟩
/-- o.f, a property whose getter does not raise -/
theorem de_prop (F : FnD X.prog X.w X.K X.mg X.base ca k g fd ps m) (C : Cls X.K (ca c)) (hp : PropOf X.K (ca c) nm p g) (hr : Room (k + 1) X.A) (hb : Binds X.K fd ps []) (ho : DE ca X o fo) (hn : ps.length = 1)
    (hab : attributeBase o nm X.env (eval o X.env) = eval o X.env := by rfl) : DE ca X (.Attribute o nm pos) (evProp c m fo) := fun W tk =>
  PE.imp (pe_prop (E := fun _ _ _ => False) (ho W tk) C hp F hr hb .nil (fun _ _ _ _ _ _ _ h => by obtain ⟨_, _, _, _, _, _, _, _, _, _, _, _, h⟩ := h; exact h) hab) fun σ H Q h => by
    obtain ⟨G, ρ, F0, o', c0, e0, z⟩ := h
    have h3 : tDL ⟨X.K, ca⟩ W (evCons (evChk (insChk c Str.empty) fo) evNil) σ H fun vs H1 => ∀ v, vs = [v] → spD ⟨X.K, ca⟩ ps.length m [v] H1 Q (fun _ _ _ => False) := by
      refine tDL_bind c0 e0 (fun er ρ' eo => by subst eo; exact z) fun avs ρ1 vs G1 H1 F1 Wt ek c1 r1 n1 x1 v hv => ?_
      subst hv
      unfold okK at ek
      split at ek
      · rename_i a ρ' hc
        cases ek
        exact call_end (W := fun _ _ _ _ => False) c1 r1 n1 hc (endE_trans (fun v G' H' F' T a b c d => z v G' H' F' T a b c d) x1) (by simpa using hn.symm)
      · cases ek
    refine tD_map (tD_chk (P := isI (ca c) Str.empty) (fun G H v d U => isI_of (B := ⟨X.K, ca⟩) G H v d U) (tDL_cons h3)) fun v H1 ⟨⟨a, dx, fl, ex, ea, _⟩, q⟩ => ?_
    subst ex
    exact ⟨a, dx, fl, rfl, ea, tDL_nil q _ rfl⟩
end
end DL

namespace DL
open PySem PySem.Spec PyProof.Rows L2

/-! ### o.f = e -/
def putG {α : Type} (f : Str) (v : α) : List (Str × α) → List (Str × α)
  | [] => [(f, v)]
  | (g, x) :: r => if g = f then (g, v) :: r else (g, x) :: putG f v r
def posF {α : Type} (f : Str) : List (Str × α) → Nat
  | [] => 0
  | (g, _) :: r => if g = f then 0 else posF f r + 1
theorem putG_F (f : Str) (v : V) : ∀ fs : List (Str × V), putG f v fs = putF f v fs
  | [] => rfl
  | (g, x) :: r => by unfold putG putF; rw [putG_F f v r]
theorem posF_keys {α β : Type} (f : Str) : ∀ {xs : List (Str × α)} {ys : List (Str × β)}, xs.map (·.1) = ys.map (·.1) → posF f xs = posF f ys
  | [], [], _ => rfl
  | [], _ :: _, h => by cases h
  | _ :: _, [], h => by cases h
  | (g, _) :: r, (g', _) :: r', h => by
    simp only [List.map_cons, List.cons.injEq] at h
    obtain ⟨h1, h2⟩ := h
    subst h1
    unfold posF
    rw [posF_keys f h2]
theorem putG_keys {α β : Type} {f : Str} {v : α} {w : β} : ∀ {xs : List (Str × α)} {ys : List (Str × β)}, xs.map (·.1) = ys.map (·.1) → (putG f v xs).map (·.1) = (putG f w ys).map (·.1)
  | [], [], _ => rfl
  | [], _ :: _, h => by cases h
  | _ :: _, [], h => by cases h
  | (g, _) :: r, (g', _) :: r', h => by
    simp only [List.map_cons, List.cons.injEq] at h
    obtain ⟨h1, h2⟩ := h
    subst h1
    unfold putG
    by_cases e : g = f
    · rw [if_pos e, if_pos e, List.map_cons, List.map_cons, h2]
    · rw [if_neg e, if_neg e, List.map_cons, List.map_cons, putG_keys h2]
theorem putG_get {α : Type} {f : Str} {v : α} : ∀ {xs : List (Str × α)} {i : Nat} {k : Str} {w : α}, (putG f v xs)[i]? = some (k, w) → (i = posF f xs ∧ w = v) ∨ (i ≠ posF f xs ∧ xs[i]? = some (k, w))
  | [], 0, k, w, h => by cases h; exact .inl ⟨rfl, rfl⟩
  | [], i + 1, k, w, h => by simp [putG] at h
  | (g, x) :: r, i, k, w, h => by
    unfold putG at h
    unfold posF
    by_cases e : g = f
    · rw [if_pos e] at h ⊢
      cases i with
      | zero => cases h; exact .inl ⟨rfl, rfl⟩
      | succ i => exact .inr ⟨by omega, by simpa using h⟩
    · rw [if_neg e] at h ⊢
      cases i with
      | zero => exact .inr ⟨by omega, by simpa using h⟩
      | succ i =>
        rcases putG_get (xs := r) (i := i) (by simpa using h) with ⟨h1, h2⟩ | ⟨h1, h2⟩
        · exact .inl ⟨by omega, h2⟩
        · exact .inr ⟨by omega, by simpa using h2⟩
theorem putG_len {α : Type} {f : Str} {v : α} : ∀ {xs : List (Str × α)}, posF f xs < (putG f v xs).length ∧ xs.length ≤ (putG f v xs).length
  | [] => by simp [putG, posF]
  | (g, x) :: r => by
    have := putG_len (f := f) (v := v) (xs := r)
    unfold putG posF
    by_cases e : g = f
    · rw [if_pos e, if_pos e]; simp
    · rw [if_neg e, if_neg e]; simp only [List.length_cons]; omega
theorem oi_put {B : Bd} {G H : Hp} {x v : V} {c : Nat} {fs : List (Str × D)} {U T : FP} {d : D} {f : Str} (r : Rep B G H x (.oi c fs) U) (rd : Rep B G H v d T) (n : ∀ y, T y → ¬ U y) :
    ∃ a dx fv, x = .ref a ∧ H a = some (.ins (B.ca c) dx fv) ∧ fv.length = fs.length ∧ U a ∧ ∃ U', Rep B G (upd H a (.ins (B.ca c) dx (putF f v fv))) x (.oi c (putG f d fs)) U' ∧ ∀ y, U' y → U y ∨ T y := by
  have dm := r.dom
  have dmT := rd.dom
  cases r with
  | oi h ho g g2 l ch bd dj na na2 =>
    rename_i a dx fv FF
    have hne : dx ≠ a := fun e => by rw [e, h] at ho; cases ho
    refine ⟨a, dx, fv, rfl, h, len_of_keys l, .inl rfl, fun y => y = a ∨ y = dx ∨ ∃ i, (i = posF f fs ∧ T y) ∨ (i ≠ posF f fs ∧ FF i y), ?_, ?_⟩
    · have sameT : ∀ {T' : FP} {v' : V} {d' : D}, (∀ y, T' y → y ≠ a ∧ G y = none) → Rep B G H v' d' T' → Rep B G (upd H a (.ins (B.ca c) dx (putF f v fv))) v' d' T' := fun {T' v' d'} k r => r.keep (fun _ _ e => e) fun b hb => ⟨upd_ne (k b hb).1, (k b hb).2⟩
      refine Rep.oi (F := fun i y => (i = posF f fs ∧ T y) ∨ (i ≠ posF f fs ∧ FF i y)) upd_same (by rw [upd_ne hne]; exact ho) g g2 (by rw [← putG_F]; exact putG_keys l) (fun i k w k' d' e1 e2 => ?_) (fun i y hy => ?_) (fun i j y a1 a2 => ?_) (fun i hy => ?_) fun i hy => ?_
      · rw [← putG_F] at e1
        rcases putG_get e1 with ⟨h1, rfl⟩ | ⟨h1, h2⟩ <;> rcases putG_get e2 with ⟨h3, rfl⟩ | ⟨h3, h4⟩
        · have en : (fun y => (i = posF f fs ∧ T y) ∨ (i ≠ posF f fs ∧ FF i y)) = T := by funext y; exact propext ⟨fun z => z.elim (·.2) fun z => absurd h3 z.1, fun z => .inl ⟨h3, z⟩⟩
          rw [en]
          exact sameT (fun y hy => ⟨fun z => n y hy (.inl z), (dmT y hy).2⟩) rd
        · exact absurd (by rw [h1, posF_keys f l]) h3
        · exact absurd (by rw [h3, posF_keys f l]) h1
        · have en : (fun y => (i = posF f fs ∧ T y) ∨ (i ≠ posF f fs ∧ FF i y)) = FF i := by funext y; exact propext ⟨fun z => z.elim (fun z => absurd z.1 h3) (·.2), fun z => .inr ⟨h3, z⟩⟩
          rw [en]
          exact sameT (fun y hy => ⟨fun z => na i (by rw [← z]; exact hy), (dm y (.inr (.inr ⟨i, hy⟩))).2⟩) (ch i k w k' d' h2 h4)
      · have hl := putG_len (f := f) (v := d) (xs := fs)
        rcases hy with ⟨rfl, _⟩ | ⟨_, hy⟩
        · exact hl.1
        · have := bd i y hy; omega
      · rcases a1 with ⟨rfl, a1⟩ | ⟨h1, a1⟩ <;> rcases a2 with ⟨rfl, a2⟩ | ⟨h2, a2⟩
        · rfl
        · exact (n y a1 (.inr (.inr ⟨j, a2⟩))).elim
        · exact (n y a2 (.inr (.inr ⟨i, a1⟩))).elim
        · exact dj i j y a1 a2
      · rcases hy with ⟨_, hy⟩ | ⟨_, hy⟩
        · exact n a hy (.inl rfl)
        · exact na i hy
      · rcases hy with ⟨_, hy⟩ | ⟨_, hy⟩
        · exact n dx hy (.inr (.inl rfl))
        · exact na2 i hy
    · rintro y (rfl | rfl | ⟨i, ⟨_, h⟩ | ⟨_, h⟩⟩)
      · exact .inl (.inl rfl)
      · exact .inl (.inr (.inl rfl))
      · exact .inr h
      · exact .inl (.inr (.inr ⟨i, h⟩))
def sFldS (ft : Nat → Str → Bool) (f : Str) (i : Nat) (fv : Ev AV) : Sv := evS fv fun a ρ => match takeL ρ [a], slotOf (frzS (plS [a]) ρ) i with
  | some [d], some (.oi c fs) => if ft c f = true ∧ fs.length < 1000 then some (.nx ((frzS (plS [a]) ρ).set i (some (.oi c (putG f d fs))))) else none
  | _, _ => none
section
variable {ca : Nat → Addr} {X : Cx} {I : List Nat} {e : Expr} {fe : Ev AV} {p pos pos' : Pos} {ft : Nat → Str → Bool} {f x : Str}
/-- x.f = e, x a name whose thing is own -/
theorem ds_fld (T : FldOk X.K ca ft) (i : Nat) (he : DE ca X e fe) (hN : X.N[i]? = some x := by rfl) (hv : Vis X.env.scope x := by first | exact Or.inl rfl | exact Or.inr (Or.inl rfl) | exact Or.inr (Or.inr rfl)) (hd : (x == ("__debug__" : Str)) = false := by decide)
    (hcd : (x == ("__classdict__" : Str)) = false := by decide) (hs : swapsWith e (some (.Attribute (.Name x p) f pos')) pos.line X.env = pure false := by rfl) : DS ca X I (.Assign [.Attribute (.Name x p) f pos'] e pos) (sFldS ft f i fe) := fun W tk ps =>
  PS.imp (ps_fld (pe_var hN hv hd hcd) (he W tk) hs) fun Dn σ H h => tSD_E h fun av ρ1 v G1 H1 F1 U o ek c1 r n z => by
    cases ht : takeL ρ1 [av] with
    | none => rw [ht] at ek; cases ek
    | some ds =>
      rw [ht] at ek
      obtain ⟨c2, x2⟩ := freeze_cfg (Wt := nof) c1 (fun _ h => h.elim) (plS [av])
      have rr := take_reps c1 (plS [av]) n (.cons r (fun _ h => h) (.nil (Wt := nof)) (fun _ h => h.elim) fun _ _ h => h) ht fun i h => h
      cases rr with
      | cons r1 hT t hu dj =>
        rename_i Wu T1 d ds'
        cases t
        cases hsl : slotOf (frzS (plS [av]) ρ1) i with
        | none => rw [hsl] at ek; cases ek
        | some d0 =>
          rw [hsl] at ek
          cases d0 with
          | oi cc fs =>
            dsimp only at ek
            split at ek
            · rename_i hf
              cases ek
              obtain ⟨v0, e0, r0⟩ := c2.at hsl
              have nU : ∀ y, T1 y → ¬ un (fun j x => F1 j x ∧ j ∉ plS [av]) y := fun y hy ⟨j, hj⟩ => n y (hT y hy) ⟨j, hj.1⟩
              obtain ⟨a, dx, fv, rfl, ha, hl, hUa, U', r5, hU'⟩ := oi_put (f := f) r0 r1 fun y hy h => nU y hy ⟨i, h⟩
              have hi : i < (frzS (plS [av]) ρ1).length := (List.getElem?_eq_some_iff.mp (slotOf_eq hsl)).1
              have gU : ∀ y, (F1 i y ∧ i ∉ plS [av]) → gfr G1 H1 (frU G1 H1 F1 nof (plS [av])) y = none := fun y hy => (r0.dom y hy).2
              have xe : Ext (gfr G1 H1 (frU G1 H1 F1 nof (plS [av]))) H1 (fun y => y = a) (gfr G1 H1 (frU G1 H1 F1 nof (plS [av]))) (upd H1 a (.ins (ca cc) dx (putF f v fv))) (fun y => y = a) :=
                ⟨fun _ _ h => h, fun b o hb w => by rw [upd_ne w]; exact hb, fun b h => .inl h, fun b o h => .inl h⟩
              refine ⟨.ref a, e0, a, ca cc, dx, fv, rfl, ha, T.cls cc f hf.1, T.no cc f hf.1, by rw [hl]; exact hf.2, ?_⟩
              refine z σ (gfr G1 H1 (frU G1 H1 F1 nof (plS [av]))) _ (fun j y => (j = i ∧ U' y) ∨ (j ≠ i ∧ (F1 j y ∧ j ∉ plS [av]))) .refl ⟨fun b o hb => ?_, by simpa using c2.len, fun j d' q => ?_, fun j q y hy => ?_, fun j k y a1 a2 => ?_⟩ ?_
              · have : b ≠ a := fun w => by rw [w, gU a hUa] at hb; cases hb
                rw [upd_ne this]; exact c2.sub b o hb
              · by_cases hj : j = i
                · subst hj
                  rw [List.getElem?_set_self hi] at q
                  cases q
                  refine ⟨_, e0, ?_⟩
                  have en : (fun y => (j = j ∧ U' y) ∨ (j ≠ j ∧ (F1 j y ∧ j ∉ plS [av]))) = U' := by funext y; exact propext ⟨fun z => z.elim (·.2) fun z => absurd rfl z.1, fun z => .inl ⟨rfl, z⟩⟩
                  rw [en]; exact r5
                · rw [List.getElem?_set_ne (Ne.symm hj)] at q
                  obtain ⟨v', e1, r'⟩ := c2.slot j d' q
                  have en : (fun y => (j = i ∧ U' y) ∨ (j ≠ i ∧ (F1 j y ∧ j ∉ plS [av]))) = fun y => F1 j y ∧ j ∉ plS [av] := by funext y; exact propext ⟨fun z => z.elim (fun z => absurd z.1 hj) (·.2), fun z => .inr ⟨hj, z⟩⟩
                  refine ⟨v', e1, ?_⟩
                  rw [en]
                  exact (r'.frame xe fun b hb w => hj (c2.dis j i b hb (by rw [show b = a from w]; exact hUa))).1
              · rcases hy with ⟨rfl, hy⟩ | ⟨hj, hy⟩
                · exact q _ (List.getElem?_set_self hi)
                · obtain ⟨d', v', e1, e2, r'⟩ := c2.own hy
                  exact q d' (by rw [List.getElem?_set_ne (Ne.symm hj)]; exact e1)
              · have cross : ∀ {k}, k ≠ i → U' y → (F1 k y ∧ k ∉ plS [av]) → False := fun {k} hk h1 h2 => by
                  rcases hU' y h1 with w | w
                  · exact hk (c2.dis k i y h2 w)
                  · exact nU y w ⟨k, h2⟩
                rcases a1 with ⟨rfl, a1⟩ | ⟨h1, a1⟩ <;> rcases a2 with ⟨rfl, a2⟩ | ⟨h2, a2⟩
                · rfl
                · exact (cross h2 a1 a2).elim
                · exact (cross h1 a2 a1).elim
                · exact c2.dis j k y a1 a2
              · have x4 : Ext G1 H1 (fun y => un F1 y ∨ U y) (gfr G1 H1 (frU G1 H1 F1 nof (plS [av]))) (upd H1 a (.ins (ca cc) dx (putF f v fv))) (fun y => y = a) :=
                  (x2.mono (Wa := fun y => un F1 y ∨ U y) (Wb := un fun j y => F1 j y ∧ j ∉ plS [av]) (fun y h => h.elim .inl False.elim) fun _ h => h).trans (xe.mono (Wa := un fun j y => F1 j y ∧ j ∉ plS [av]) (fun y h => ⟨i, by rw [show y = a from h]; exact hUa⟩) fun _ h => h)
                refine ⟨x4.gg, x4.hh, fun b hb => ?_, x4.gn⟩
                rcases hb with ⟨j, ⟨_, hb⟩ | ⟨_, hb⟩⟩
                · rcases hU' b hb with w | w
                  · exact .inl (.inl ⟨i, w.1⟩)
                  · exact .inl (.inr (hT b w))
                · exact .inl (.inl ⟨j, hb.1⟩)
            · cases ek
          | _ => cases ek
end
end DL

namespace DL
open PySem PySem.Spec PyProof.Rows L2

/-! ### len(x), x an instance of an own class with __len__ -/
section
variable {ca : Nat → Addr} {X : Cx} {c k : Nat} {f : Addr} {fd : FuncData} {ps : List Str} {m : Mir}
theorem special_own {A : Around} {E : Value → Shared → Prop} {s : Shared} {a : Addr} {C dx : Addr} {fl : List (Str × V)} {H : Hp} {pins : List (Addr × Obj)} {σ : L2.St} {nm : Str} {args : List Value} {Q : Option Value → Shared → Prop} (I : Inv X pins σ H s) (ea : H a = some (.ins C dx fl))
    (hf : PySem.W.findIn X.K (.ref C) nm = some (some (.ref f))) (hfn : PySem.W.isFn X.K (.ref f) = true) (hc : wpAny (model X.prog X.w) A (call (.ref f) (.ref a :: args)) (fun v => Q (some v)) E s) : wpAny (model X.prog X.w) A (callSpecial? (.ref a) nm args) Q E s := by
  obtain ⟨mA, O, _⟩ := ins_get I.hok ea
  obtain ⟨od, J, _⟩ := O.look
  have sp : PySem.W.Looks (model X.prog X.w) s.heap (specialOf (.ref a) nm) (some (.ref f)) := J.type.andThen (PySem.W.looks_findIn I.kIn hf)
  have hb := PySem.W.bind_fn (M := model X.prog X.w) I.kIn (.ref a) (beq_iff_eq.mp hfn)
  simp only [callSpecial?]
  refine wpAny_bind (sp.here ?_)
  refine wpAny_holding (wpAny_bind (hb.here ?_))
  exact wpAny_bind (wpAny_mono hc (fun v s' h' => wpAny_pure h') fun _ _ h' => h')
theorem call_lenI (F : FnD X.prog X.w X.K X.mg X.base ca k f fd ps m) (hf : PySem.W.findIn X.K (.ref (ca c)) "__len__" = some (some (.ref f))) (hfn : PySem.W.isFn X.K (.ref f) = true) (hr : Room (k + 1) X.A) (hb : Binds X.K fd ps []) (hn : ps.length = 1) :
    CallR X (.builtin "len") fun xs H Q => ∃ v, xs = [v] ∧ isI (ca c) Str.empty v H ∧ spD ⟨X.K, ca⟩ ps.length m [v] H (fun u H' => ∃ n : Nat, u = .int n ∧ n < 2 ^ 62 ∧ Q (.int n) H') (fun _ _ _ => False) := by
  intro pins s σ H xs us Q I rs h
  obtain ⟨v, rfl, ⟨a, dx, fl, rfl, ea, _⟩, sp⟩ := h
  cases rs with
  | cons r t =>
    cases t
    cases r
    refine Calls.call_function_entry kind_len plain_len entry_len (args_len1 _) ?_
    unfold Builtin.«len»
    refine wpAny_bind (m := oneArg "len" _) (wpAny_pure ?_)
    refine wpAny_bind (m := callSpecial? (.ref a) (PySem.Str.ofString "__len__")) (special_own I ea hf hfn ?_)
    refine wpAny_call (codeAny_mono (F.run X.A.in1 X.stack s H ⟨[.ref a], []⟩ [.ref a] [.ref a] _ (fun _ _ _ => False) hr.in1 I.env0.in1 (by
      have := hb s [.ref a] I.kIn (by simpa using hn.symm)
      rw [List.append_nil] at this
      exact this) (show Vals [V.ref a] [Value.ref a] from .cons rfl .nil) sp) fun r s1 hq => ?_)
    cases r with
    | error er => obtain ⟨_, _, _, _, _, _, _, _, _, _, _, _, h⟩ := hq; exact h.elim
    | ok fl =>
    cases fl <;> first | exact hq.elim | skip
    obtain ⟨v, H', I', rv, n, rfl, hn, q⟩ := I.after hq
    rename_i u
    obtain ⟨t, rfl⟩ := (show ∃ t, u = Value.int n t from rv)
    refine wpAny_bind (wpAny_holding (wpAny_pure ?_))
    refine wpAny_bind (wpAny_letGo ?_)
    show wpAny _ _ (if ((n : Nat) : Int) < 0 then _ else _) _ _ _
    rw [if_neg (by omega)]
    show wpAny _ _ (if ((n : Nat) : Int) ≥ 2 ^ 63 then _ else _) _ _ _
    rw [if_neg (by omega)]
    exact wpAny_bind (wpAny_mkInt (wpAny_pure ⟨_, rfl, .int n, H', I'.tok _, ⟨_, rfl⟩, q⟩))
def lenIK (m : Mir) (avs : List AV) : Ev AV := fun ρ => match callK [false] m avs ρ with
  | some (.ok (.val (.int n)) ρ') => if 0 ≤ n ∧ n < 2 ^ 62 then some (.ok (.val (.int n)) ρ') else none
  | _ => none
def evLenI (c : Nat) (m : Mir) (fo : Ev AV) : Ev AV := (evCons (evChk (insChk c Str.empty) fo) evNil).andThen (lenIK m)
/-- len(o) -/
theorem de_lenI {o : Expr} {fo : Ev AV} {p pos : Pos} (F : FnD X.prog X.w X.K X.mg X.base ca k f fd ps m) (hf : PySem.W.findIn X.K (.ref (ca c)) "__len__" = some (some (.ref f))) (hfn : PySem.W.isFn X.K (.ref f) = true) (hr : Room (k + 1) X.A) (hb : Binds X.K fd ps []) (hn : ps.length = 1)
    (hm : X.mg "len" = none) (ho : DE ca X o fo) (hg : Gl X "len" := by rfl) (he : starEach [o] X.env = (false, eval o X.env) :: starEach [] X.env := by rfl) (hpl : (backTo pos (starEach [] X.env)).any (·.1) = false := by rfl) : DE ca X (.Call (.Name "len" p) [o] [] pos) (evLenI c m fo) := fun W tk =>
  PE.imp (pe_callB (call_lenI F hf hfn hr hb hn) hg hm (by decide +kernel) (pa_cons (hs := he) (ho W tk) pa_nil) (by decide) (by decide) he hpl) fun σ H Q h => by
    obtain ⟨G, ρ, F0, o', c0, e0, z⟩ := h
    have h3 : tDL ⟨X.K, ca⟩ W (evCons (evChk (insChk c Str.empty) fo) evNil) σ H fun vs H1 => ∀ v, vs = [v] → spD ⟨X.K, ca⟩ ps.length m [v] H1 (fun u H' => ∃ n : Nat, u = .int n ∧ n < 2 ^ 62 ∧ Q (.int n) H') (fun _ _ _ => False) := by
      refine tDL_bind c0 e0 (fun er ρ' eo => by subst eo; exact z) fun avs ρ1 vs G1 H1 F1 Wt ek c1 r1 n1 x1 v hv => ?_
      subst hv
      unfold lenIK at ek
      split at ek
      · rename_i n ρ' hc
        split at ek
        · rename_i hz
          cases ek
          refine call_end (W := fun _ _ _ _ => False) c1 r1 n1 hc (endE_trans (fun v G' H' F' T a b c d => ?_) x1) (by simpa using hn.symm)
          cases b
          refine ⟨n.toNat, by rw [Int.toNat_of_nonneg hz.1], by have := hz.2; omega, ?_⟩
          rw [Int.toNat_of_nonneg hz.1]
          exact z (.int n) G' H' F' nof a (.int n) c d
        · cases ek
      · cases ek
    exact tD_map (tD_chk (P := isI (ca c) Str.empty) (fun G H v d U => isI_of (B := ⟨X.K, ca⟩) G H v d U) (tDL_cons h3)) fun v H1 ⟨hi, q⟩ => ⟨v, rfl, hi, tDL_nil q _ rfl⟩
end
end DL

namespace DL
open PySem PySem.Spec PyProof.Rows L2

/-! ### o(..), o an instance of an own class with __call__ -/
theorem call_inst {prog : Program} {w : World} {K : PySem.W.Frag} {A : Around} {s : Shared} {R : Result → Shared → Prop} {a C dx f : Addr} {mA : Str → Option Value} {us : List Value} {kw : List (Str × Value)} (hK : K.In s.heap) (O : ObjM s.heap a dx C mA)
    (hf : PySem.W.findIn K (.ref C) "__call__" = some (some (.ref f))) (hfn : PySem.W.isFn K (.ref f) = true) (hl : PySem.W.fnIn K f = true) (h : codeAny (model prog w) A (.call (.ref f) ⟨.ref a :: us, kw⟩) R s) : codeAny (model prog w) A (.call (.ref a) ⟨us, kw⟩) R s := by
  obtain ⟨od, J, _⟩ := O.look
  have sp : PySem.W.Looks (model prog w) s.heap (specialOf (.ref a) "__call__") (some (.ref f)) := J.type.andThen (PySem.W.looks_findIn hK hf)
  have hb := PySem.W.bind_fn (M := model prog w) hK (.ref a) (beq_iff_eq.mp hfn)
  have hp : PySem.W.Looks (model prog w) s.heap (callAny.plainCallee (.ref f)) true := by
    unfold PySem.W.fnIn at hl
    split at hl
    · rename_i e
      exact (PySem.W.Looks.ld (part := none) (hK _ _ e)).andThen .now
    · cases hl
  refine codeAny_of_tree ?_
  show wpAny _ A.in1 (callAny (.ref a) ⟨us, kw⟩) _ _ s
  unfold callAny
  refine wpAny_bind (wpAny_load O.obj ?_)
  show wpAny _ _ (callAny.viaDunder (.ref a) ⟨us, kw⟩) _ _ s
  unfold callAny.viaDunder
  refine wpAny_bind (sp.here ?_)
  refine wpAny_bind (hb.here ?_)
  refine wpAny_bind (hp.here ?_)
  exact wpAny_pure ⟨rfl, h⟩
theorem callWith_I {M : Model} {A : Around} {E : Value → Shared → Prop} {s : Shared} {P : Heap → Prop} {pos : Pos} {f : Value} {Q : Value → Shared → Prop} {first : List Value} {args : List (Bool × Sem Value)} {keywords : List (Option Str × Sem Value)} (hpl : (args.any (·.1) || keywords.any (·.1.isNone)) = false)
    (hk : ∀ h, P h → PySem.W.Looks M h (keeperOf f) .caller) (h : wpAny M A (evalArgs f true args keywords) (fun a s1 => P s1.heap ∧ wpAny M A (call f (first ++ a.pos) a.kw) Q E s1) E s) : wpAny M A (callWith pos f first args keywords) Q E s := by
  unfold callWith
  refine wpAny_bind (wpAny_holding (wpAny_mono h (fun a s1 h1 => ?_) fun _ _ x => x))
  refine wpAny_bind (wpAny_standAt ?_)
  simp only [hpl]
  refine wpAny_bind ((hk _ h1.1).here ?_)
  dsimp only
  refine wpAny_bind (wpAny_mono (wpAny_operateT h1.2) (fun r s2 hr => ?_) fun _ _ x => x)
  exact wpAny_bind (wpAny_holding (wpAny_point (wpAny_pure hr)))
theorem keeps_inst {M : Model} {h : Heap} {a C dx : Addr} {mA : Str → Option Value} (O : ObjM h a dx C mA) : PySem.W.Looks M h (keeperOf (.ref a)) .caller :=
  (PySem.W.Looks.ld (part := none) O.obj).andThen .now
def callIK (c : Nat) (ms : List Bool) (m : Mir) (avs : List AV) : Ev AV := fun ρ => match avs with
  | a :: _ => match cont ρ a with
    | some d => if insChk c Str.empty d = true then callK ms m avs ρ else none
    | none => none
  | [] => none
def evCallI (c : Nat) (ms : List Bool) (m : Mir) (fs : Ev (List AV)) : Ev AV := fs.andThen (callIK c ms m)
section
variable {ca : Nat → Addr} {X : Cx} {c k : Nat} {f : Addr} {fd : FuncData} {ps : List Str} {x : Str} {p pos : Pos} {e : Expr} {es : List Expr} {fo : Ev AV} {fs : Ev (List AV)} {m : Mir}
theorem tD_callI {B : Bd} {W : WX} {σ : L2.St} {H : Hp} {ms : List Bool} {n : Nat} {Q : VK} (h : tD B W (evCallI c ms m fs) σ H Q) (hn : ∀ ρ avs ρ', fs ρ = some (.ok avs ρ') → avs.length = n) :
    tDL B W fs σ H fun vs H1 => (∀ v us, vs = v :: us → isI (B.ca c) Str.empty v H1) ∧ spD B n m vs H1 Q (WE W σ) := by
  obtain ⟨G, ρ, F, o, c0, e, z⟩ := h
  unfold evCallI at e
  cases hf : fs ρ with
  | none => rw [andThen_none hf] at e; cases e
  | some u =>
    cases u with
    | exc er ρ' => rw [andThen_exc hf] at e; cases e; exact ⟨G, ρ, F, _, c0, hf, z⟩
    | ok avs ρ1 =>
      rw [andThen_ok hf] at e
      refine ⟨G, ρ, F, _, c0, hf, fun vs G1 H1 F1 Wt c1 r n1 x => ?_⟩
      have hl : vs.length = n := by
        rw [← hn ρ avs ρ1 hf]
        clear e hf hn
        induction r with
        | nil => rfl
        | cons r hT t hu dj ih => exact congrArg (· + 1) (ih (fun y h => n1 y (hu y h)) (x.mono (fun _ h => h) fun y h => h.imp id (hu y)))
      unfold callIK at e
      cases r with
      | nil => cases e
      | cons rx hT t hu dj =>
        dsimp only at e
        split at e
        · rename_i d hc
          split at e
          · rename_i hk
            obtain ⟨U, r', _⟩ := rx.cont c1 hc
            refine ⟨fun v us hv => ?_, call_end c1 (.cons rx hT t hu dj) n1 e (endE_trans z x) hl⟩
            cases hv
            exact isI_of _ _ _ _ _ c1.sub r' hk
          · cases e
        · cases e
/-- x(a, ..), x a name that holds an instance -/
theorem de_callI {ms : List Bool} (F : FnD X.prog X.w X.K X.mg X.base ca k f fd ps m) (hf : PySem.W.findIn X.K (.ref (ca c)) "__call__" = some (some (.ref f))) (hfn : PySem.W.isFn X.K (.ref f) = true) (hl : PySem.W.fnIn X.K f = true) (hr : Room k X.A) (hb : Binds X.K fd ps [])
    (ho : DE ca X (.Name x p) fo) (ha : DA ca X (e :: es) fs) (hn : ∀ ρ avs ρ', fs ρ = some (.ok avs ρ') → avs.length + 1 = ps.length)
    (he : starEach (e :: es) X.env = (false, eval e X.env) :: starEach es X.env := by rfl) (hpl : (backTo pos (starEach es X.env)).any (·.1) = false := by rfl) : DE ca X (.Call (.Name x p) (e :: es) [] pos) (evCallI c ms m (evCons fo fs)) := fun W tk => ⟨fun pins s σ H Q I h => by
  have h2 := tDL_cons (tD_callI (n := ps.length) h fun ρ avs ρ' q => by
    obtain ⟨a, as, ρ1, ρ2, rfl, e2⟩ := evCons_len q
    rw [List.length_cons, hn _ _ _ e2])
  refine wpAny_Call_Name_kw (thn ((ho W tk).run pins s σ H _ I h2) fun u s1 ⟨v, H1, I1, rv, q⟩ => ?_)
  rw [he]
  refine callWith_I (P := fun h => PySem.W.Looks (model X.prog X.w) h (keeperOf u) .caller) (by show ((false || (backTo pos (starEach es X.env)).any (·.1)) || false) = false; rw [hpl]; rfl) (fun _ h => h) (PySem.Calls.evalArgs_plain ?_)
  have hrun := (ha W tk).run pos pins s1 σ H1 _ I1 q
  rw [he] at hrun
  refine thn hrun fun us s2 ⟨vs, H2, I2, r, q1, q2⟩ => ?_
  obtain ⟨a, dx, fl, ev, ea, _⟩ := q1 v vs rfl
  subst ev
  obtain rfl : u = Value.ref a := rv
  obtain ⟨mA, O, _⟩ := ins_get I2.hok ea
  refine ⟨keeps_inst O, wpAny_call (call_inst I2.kIn O hf hfn hl ?_)⟩
  have b := hb s2 (.ref a :: us) I2.kIn (by rw [List.append_nil, List.length_cons, ← r.length]; exact q2.1)
  rw [List.append_nil] at b
  refine codeAny_mono (F.run X.A X.stack s2 H2 ⟨.ref a :: us, []⟩ (.ref a :: us) (.ref a :: vs) Q (WE W σ) hr I2.env0 b (show Vals (V.ref a :: vs) (Value.ref a :: us) from .cons rfl r) q2) fun r s' hq => ?_
  cases r with
  | error er => exact passAt tk σ pins H2 s2 er s' I2 hq
  | ok fl => cases fl <;> first | exact hq.elim | exact I2.after hq⟩
end
end DL

namespace DL
open PySem PySem.Spec PyProof.Rows L2

theorem u65 {k : Nat} {A : Around} (r : Room k A) : A.units + 65 < cLine := by have := r.un; omega
theorem u1 {k : Nat} {A : Around} (r : Room k A) : A.units + 1 < cLine := by have := r.un; omega
/-! ### dicts with ints and texts as keys -/
def keyD : D → Option Key
  | .int i => some (.inl i)
  | .str s => some (.inr s)
  | _ => none
def dctD : D → Option (List (Key × D))
  | .dct kvs => some kvs
  | .od kvs => some kvs
  | _ => none
def valD (kvs : List (Key × D)) (k : Key) : Option D := (kvs.find? fun kv => decide (kv.1 = k)).map (·.2)
def putD (kvs : List (Key × D)) (k : Key) (d : D) : List (Key × D) :=
  if (kvs.any fun kv => decide (kv.1 = k)) = true then kvs.map (fun kv => if kv.1 = k then (kv.1, d) else kv) else kvs ++ [(k, d)]
theorem keyD_rep {B : Bd} {G H : Hp} {v : V} {d : D} {T : FP} {k : Key} (r : Rep B G H v d T) (h : keyD d = some k) : v = kV k := by
  cases r <;> cases h <;> rfl
theorem valD_rep {R : V → D → Prop} {k : Key} : ∀ {kvs : List (Key × V)} {ds : List (Key × D)}, kvs.map (·.1) = ds.map (·.1) → (∀ (i : Nat) k v k' d, kvs[i]? = some (k, v) → ds[i]? = some (k', d) → R v d) →
    (valV kvs k = none ∧ valD ds k = none) ∨ ∃ v d, valV kvs k = some v ∧ valD ds k = some d ∧ R v d
  | [], [], _, _ => .inl ⟨rfl, rfl⟩
  | [], _ :: _, h, _ => by cases h
  | _ :: _, [], h, _ => by cases h
  | (k1, v) :: kvs, (k2, d) :: ds, h, c => by
    simp only [List.map_cons, List.cons.injEq] at h
    obtain ⟨h1, h2⟩ := h
    subst h1
    by_cases e : k1 = k
    · exact .inr ⟨v, d, valV_pos (p := (k1, v)) e, by simp [valD, List.find?_cons, e], c 0 _ _ _ _ rfl rfl⟩
    · have e1 : valD ((k1, d) :: ds) k = valD ds k := by simp [valD, List.find?_cons, e]
      rw [valV_neg (p := (k1, v)) e, e1]
      exact valD_rep h2 fun i k v k' d a b => c (i + 1) k v k' d (by simpa using a) (by simpa using b)
theorem dctD_rep {B : Bd} {G H : Hp} {v : V} {d : D} {T : FP} (r : Rep B G H v d T) (s : ∀ b o, G b = some o → H b = some o) {ds : List (Key × D)} (h : dctD d = some ds) :
    ∃ a kvs, v = .ref a ∧ H a = some (.dK kvs) ∧ kvs.map (·.1) = ds.map (·.1) ∧ ∀ (i : Nat) k v k' d, kvs[i]? = some (k, v) → ds[i]? = some (k', d) → ∃ U, Rep B G H v d U := by
  cases r with
  | dct h' l c => cases h; exact ⟨_, _, rfl, s _ _ h', l, fun i k v k' d e1 e2 => ⟨_, c i k v k' d e1 e2⟩⟩
  | od h' g l c bd dj na => cases h; exact ⟨_, _, rfl, h', l, fun i k v k' d e1 e2 => ⟨_, c i k v k' d e1 e2⟩⟩
  | _ => cases h
/-- {} -/
def evDict0 : Ev AV := .pure (.val (.od []))
theorem rep_od0 {B : Bd} {G H : Hp} {p : Addr} (g : G p = none) (h : H p = some (.dK [])) : Rep B G H (.ref p) (.od []) (fun x => x = p) := by
  have r := Rep.od (B := B) (G := G) (H := H) (a := p) (kvs := []) (ds := []) (F := fun _ => nof) h g rfl (fun i k v k' d h => by simp at h) (fun _ _ h => h.elim) (fun _ _ _ h => h.elim) fun _ h => h.elim
  have en : (fun x => x = p ∨ ∃ i : Nat, (nof : FP) x) = fun x => x = p := by funext x; exact propext ⟨fun h => h.elim id fun ⟨_, h⟩ => h.elim, .inl⟩
  rw [en] at r
  exact r
/-- kvs of frozen values -/
theorem rep_od {B : Bd} {G H : Hp} {p : Addr} {kvs : List (Key × V)} {ds : List (Key × D)} (g : G p = none) (h : H p = some (.dK kvs)) (l : kvs.map (·.1) = ds.map (·.1))
    (c : ∀ (i : Nat) k v k' d, kvs[i]? = some (k, v) → ds[i]? = some (k', d) → Rep B G H v d nof) : Rep B G H (.ref p) (.od ds) (fun x => x = p) := by
  have r := Rep.od (B := B) (G := G) (H := H) (F := fun _ => nof) h g l c (fun _ _ h => h.elim) (fun _ _ _ h => h.elim) fun _ h => h.elim
  have en : (fun x => x = p ∨ ∃ i : Nat, (nof : FP) x) = fun x => x = p := by funext x; exact propext ⟨fun h => h.elim id fun ⟨_, h⟩ => h.elim, .inl⟩
  rw [en] at r
  exact r
section
variable {ca : Nat → Addr} {X : Cx} {a b : Expr} {fa fb : Ev AV} {pos : Pos}
theorem de_dict0 : DE ca X (.Dict [] [] pos) evDict0 := fun W tk => PE.imp pe_dnewK fun σ H Q h p hp => by
  obtain ⟨G, ρ, F, o, c, e, z⟩ := h
  cases e
  have x : Ext G H nof G (upd H p (.dK [])) (fun x => x = p) := ext_own hp
  exact z (.ref p) G _ F _ (c.grow x (sub_own hp c.sub)) (rep_od0 (no_g c.sub hp) upd_same) (c.new x) ((Ext.refl fun _ h => h).more x)
/-- d[k] -/
def gDx : List D → Option D
  | [x, k] => match dctD x, keyD k with
    | some kvs, some k => match valD kvs k with
      | some d => if d.sh = true then some d else none
      | none => none
    | _, _ => none
  | _ => none
theorem de_dx (hu : X.A.units + 1 < cLine) (ha : DE ca X a fa) (hb : DE ca X b fb) (hs : NoSl b) : DE ca X (.Subscript a b pos) (ev2 gDx fa fb) :=
  fun W tk => PE.imp (pe_dget hu (ha W tk) (hb W tk) hs) fun σ H Q h => tD_map (tD_op2 h) fun x H1 kq => tD_map kq fun y H2 q => by
    obtain ⟨G, ds, d, sub, rs, e, q⟩ := q
    obtain ⟨d1, T1, d2, T2, rfl, r1, r2⟩ := rs.two
    unfold gDx at e
    dsimp only at e
    split at e
    · rename_i kvs kk h1 h2
      split at e
      · rename_i d' h3
        split at e
        · rename_i hs
          cases e
          obtain ⟨p, ks, rfl, hH, l, c⟩ := dctD_rep r1 sub h1
          cases keyD_rep r2 h2
          rcases valD_rep (k := kk) l c with ⟨_, h⟩ | ⟨v, d, h4, h5, U, r⟩
          · rw [h3] at h; cases h
          · rw [h3] at h5
            cases h5
            exact ⟨p, v, rfl, .inl ⟨ks, kk, .inl hH, rfl, h4.symm⟩, rDL_end q sub (rep_sh r hs)⟩
        · cases e
      · cases e
    · cases e
/-- k in d -/
def gDin : List D → Option D
  | [k, x] => match dctD x, keyD k with
    | some kvs, some k => some (.bl (valD kvs k).isSome)
    | _, _ => none
  | _ => none
def gDnin : List D → Option D
  | [k, x] => match dctD x, keyD k with
    | some kvs, some k => some (.bl (!(valD kvs k).isSome))
    | _, _ => none
  | _ => none
theorem din_rep {B : Bd} {G H : Hp} {y x : V} {d1 d2 : D} {T1 T2 : FP} {kvs : List (Key × D)} {k : Key} (sub : ∀ b o, G b = some o → H b = some o) (r1 : Rep B G H y d1 T1) (r2 : Rep B G H x d2 T2) (h1 : dctD d2 = some kvs) (h2 : keyD d1 = some k) :
    ∃ p o, x = .ref p ∧ DGet H p y o ∧ o.isSome = (valD kvs k).isSome := by
  obtain ⟨p, ks, rfl, hH, l, c⟩ := dctD_rep r2 sub h1
  cases keyD_rep r1 h2
  refine ⟨p, valV ks k, rfl, .inl ⟨ks, k, .inl hH, rfl, rfl⟩, ?_⟩
  rcases valD_rep (k := k) l c with ⟨h, h'⟩ | ⟨v, d, h4, h5, _⟩
  · rw [h, h']; rfl
  · rw [h4, h5]; rfl
theorem opD_din (hu : X.A.units + 65 < cLine) : Op2 ca X (compareOp .In) gDin := by
  intro pins s σ H x y v u Q I rx ry h
  obtain ⟨G, ds, d, sub, rs, e, q⟩ := h
  obtain ⟨d1, T1, d2, T2, rfl, r1, r2⟩ := rs.two
  unfold gDin at e
  dsimp only at e
  split at e
  · rename_i kvs k h1 h2
    cases e
    obtain ⟨p, o, rfl, hg, eo⟩ := din_rep sub r1 r2 h1 h2
    obtain rfl : u = Value.ref p := ry
    exact d_in (by omega) I hg rx fun s' I' => ⟨.bl o.isSome, H, I', rfl, by rw [eo]; exact rDL_end q sub (.bl _)⟩
  · cases e
theorem opD_dnin (hu : X.A.units + 65 < cLine) : Op2 ca X (compareOp .NotIn) gDnin := by
  intro pins s σ H x y v u Q I rx ry h
  obtain ⟨G, ds, d, sub, rs, e, q⟩ := h
  obtain ⟨d1, T1, d2, T2, rfl, r1, r2⟩ := rs.two
  unfold gDnin at e
  dsimp only at e
  split at e
  · rename_i kvs k h1 h2
    cases e
    obtain ⟨p, o, rfl, hg, eo⟩ := din_rep sub r1 r2 h1 h2
    obtain rfl : u = Value.ref p := ry
    exact d_notIn (by omega) I hg rx fun s' I' => ⟨.bl (!o.isSome), H, I', rfl, by rw [eo]; exact rDL_end q sub (.bl _)⟩
  · cases e
end

/-! ### d[k] = v -/
theorem putD_keys {kvs : List (Key × V)} {ds : List (Key × D)} {k : Key} {v : V} {d : D} (l : kvs.map (·.1) = ds.map (·.1)) : (putK kvs k v).map (·.1) = (putD ds k d).map (·.1) := by
  have ea : (kvs.any fun kv => decide (kv.1 = k)) = ds.any fun kv => decide (kv.1 = k) := by
    have h : ∀ {α : Type} (xs : List (Key × α)), (xs.any fun kv => decide (kv.1 = k)) = (xs.map (·.1)).any fun z => decide (z = k) := fun xs => by rw [List.any_map]; rfl
    rw [h kvs, h ds, l]
  unfold putK putD
  rw [ea]
  have h : ∀ {α : Type} (xs : List (Key × α)) (y : α), (xs.map fun kv => if kv.1 = k then (kv.1, y) else kv).map (·.1) = xs.map (·.1) := fun xs y => by
    rw [List.map_map]
    refine List.map_congr_left fun p _ => ?_
    dsimp only [Function.comp]
    split <;> rfl
  split
  · rw [h, h, l]
  · rw [List.map_append, List.map_append, l]; rfl
/-- each of what is put, by place: the new one, or what stood there -/
theorem putD_get {kvs : List (Key × V)} {ds : List (Key × D)} {k : Key} {v : V} {d : D} (l : kvs.map (·.1) = ds.map (·.1)) : ∀ (i : Nat) k1 v1 k2 d1, (putK kvs k v)[i]? = some (k1, v1) → (putD ds k d)[i]? = some (k2, d1) →
    (v1 = v ∧ d1 = d) ∨ ∃ k3 k4, kvs[i]? = some (k3, v1) ∧ ds[i]? = some (k4, d1) := by
  have ea : (kvs.any fun kv => decide (kv.1 = k)) = ds.any fun kv => decide (kv.1 = k) := by
    have h : ∀ {α : Type} (xs : List (Key × α)), (xs.any fun kv => decide (kv.1 = k)) = (xs.map (·.1)).any fun z => decide (z = k) := fun xs => by rw [List.any_map]; rfl
    rw [h kvs, h ds, l]
  intro i k1 v1 k2 d1 e1 e2
  unfold putK at e1
  unfold putD at e2
  rw [ea] at e1
  split at e1
  · rename_i hh
    rw [if_pos hh] at e2
    rw [List.getElem?_map] at e1 e2
    obtain ⟨⟨ka, va⟩, ha, e1⟩ := Option.map_eq_some_iff.mp e1
    obtain ⟨⟨kb, db⟩, hb, e2⟩ := Option.map_eq_some_iff.mp e2
    have hk : ka = kb := by
      have h1 := congrArg (·[i]?) l
      simp only [List.getElem?_map, ha, hb, Option.map_some, Option.some.injEq] at h1
      exact h1
    subst hk
    dsimp only at e1 e2
    split at e1
    · rename_i hz
      rw [if_pos hz] at e2
      cases e1; cases e2
      exact .inl ⟨rfl, rfl⟩
    · rename_i hz
      rw [if_neg hz] at e2
      cases e1; cases e2
      exact .inr ⟨_, _, ha, hb⟩
  · rename_i hh
    rw [if_neg hh] at e2
    have ll := len_of_keys l
    rcases get_append e1 with ⟨hi, e1⟩ | ⟨hi, e1⟩
    · rw [List.getElem?_append_left (by omega)] at e2
      exact .inr ⟨_, _, e1, e2⟩
    · rw [List.getElem?_append_right (by omega), ← ll] at e2
      cases hk : i - kvs.length with
      | zero => rw [hk] at e1 e2; cases e1; cases e2; exact .inl ⟨rfl, rfl⟩
      | succ n => rw [hk] at e1; cases e1
def gmDset : D → List D → Option (D × D)
  | .od kvs, [k, x] => match keyD k with
    | some k => if kvs.length < 16777216 then some (.od (putD kvs k x), .non) else none
    | none => none
  | _, _ => none
theorem setD_dict {ca : Nat → Addr} {X : Cx} (hu : X.A.units + 65 < cLine) : SetD ca X gmDset := by
  intro pins s σ H x i y ov iv u Q I rx ri ry h
  obtain ⟨G, d, U, ds, d', r, sub, rd, rr, e, q⟩ := h
  unfold gmDset at e
  split at e
  · rename_i kvs k y'
    split at e
    · rename_i kk hk
      split at e
      · rename_i hz
        cases e
        obtain ⟨i', y2, e2, r1, r2⟩ := paired2 rr
        cases e2
        cases keyD_rep r1 hk
        have rd0 := rd
        cases rd with
        | od h g l c bd dj na =>
          rename_i a ks FF
          have ll := len_of_keys l
          refine set_dict (by omega) pins s σ H _ _ _ ov iv u Q I rx ri ry ⟨a, _, rfl, DPut.k h (by rw [sizeLine_eq, ll]; exact hz), ?_⟩
          -- which of the places are kept
          have hl : (putK ks kk y).length = (putD kvs kk y').length := len_of_keys (putD_keys l)
          have dm := rd0.dom
          have gu : ∀ b o, G b = some o → upd H a (.dK (putK ks kk y)) b = some o := fun b o eb => by
            rw [upd_ne (fun z => by rw [z, g] at eb; cases eb)]; exact sub b o eb
          open Classical in
          have re : Rep ⟨X.K, ca⟩ G (upd H a (.dK (putK ks kk y))) (.ref a) (.od (putD kvs kk y')) (fun x => x = a ∨ ∃ i, (i < (putD kvs kk y').length ∧ (∃ k3 v3 k4 d4, (putK ks kk y)[i]? = some (k3, v3) ∧ (putD kvs kk y')[i]? = some (k4, d4) ∧ ¬ Rep ⟨X.K, ca⟩ G (upd H a (.dK (putK ks kk y))) v3 d4 nof) ∧ FF i x)) := by
            refine .od upd_same g (putD_keys l) (fun i k1 v1 k2 d1 e1 e2 => ?_) (fun i x h => h.1) (fun i j x h1 h2 => dj i j x h1.2.2 h2.2.2) (fun i h => na i h.2.2)
            by_cases hn : Rep ⟨X.K, ca⟩ G (upd H a (.dK (putK ks kk y))) v1 d1 nof
            · have en : (fun x => i < (putD kvs kk y').length ∧ (∃ k3 v3 k4 d4, (putK ks kk y)[i]? = some (k3, v3) ∧ (putD kvs kk y')[i]? = some (k4, d4) ∧ ¬ Rep ⟨X.K, ca⟩ G (upd H a (.dK (putK ks kk y))) v3 d4 nof) ∧ FF i x) = nof := by
                funext x
                refine propext ⟨fun ⟨_, ⟨k3, v3, k4, d4, a1, a2, a3⟩, _⟩ => ?_, fun h => h.elim⟩
                rw [e1] at a1; rw [e2] at a2; cases a1; cases a2
                exact (a3 hn).elim
              rw [en]; exact hn
            · rcases putD_get l i k1 v1 k2 d1 e1 e2 with ⟨rfl, rfl⟩ | ⟨k3, k4, e3, e4⟩
              · exact (hn r2.up).elim
              · have en : (fun x => i < (putD kvs kk y').length ∧ (∃ k3 v3 k4 d4, (putK ks kk y)[i]? = some (k3, v3) ∧ (putD kvs kk y')[i]? = some (k4, d4) ∧ ¬ Rep ⟨X.K, ca⟩ G (upd H a (.dK (putK ks kk y))) v3 d4 nof) ∧ FF i x) = FF i := by
                  funext x
                  refine propext ⟨fun h => h.2.2, fun h => ⟨?_, ⟨_, _, _, _, e1, e2, hn⟩, h⟩⟩
                  exact (List.getElem?_eq_some_iff.mp e2).1
                rw [en]
                exact (c i k3 v1 k4 d1 e3 e4).keep (fun _ _ e => e) fun b hb => ⟨upd_ne fun z => na i (by rw [← z]; exact hb), (dm b (.inr ⟨i, hb⟩)).2⟩
          refine q .non G _ _ gu re .non ⟨fun _ _ e => e, fun b o e nb => ?_, fun b hb => .inl ?_, fun _ _ e => .inl e⟩
          · rw [upd_ne fun z => nb (.inl z)]; exact e
          · rcases hb with rfl | ⟨i, hb⟩
            · exact .inl rfl
            · exact .inr ⟨i, hb.2.2⟩
      · cases e
    · cases e
  · cases e
end DL

namespace DL
open PySem PySem.Spec PyProof.Rows L2

/-! ### reverse, clear -/
def gmReverse : D → List D → Option (D × D)
  | .ol ds, [] => some (.ol ds.reverse, .non)
  | _, _ => none
def gmClear : D → List D → Option (D × D)
  | .ol _, [] => some (.ol [], .non)
  | _, _ => none
section
variable {ca : Nat → Addr} {X : Cx}
theorem mutD_reverse : MutD ca X "list.reverse" gmReverse := by
  intro pins s σ H x xs v us Q I rx rs h
  obtain ⟨G, d, U, ds, d', r, sub, rd, rr, e, q⟩ := h
  unfold gmReverse at e
  split at e
  · rename_i items
    cases e
    cases rr
    obtain ⟨a, rfl⟩ := rep_ol_ref rd
    obtain ⟨vs, ha, l, ch⟩ := ol_change rd
    obtain ⟨U', r', x'⟩ := ch vs.reverse items.reverse (fun i => if i < items.length then some (items.length - 1 - i) else none) (by simp [l]) (fun i j k h1 h2 => by
      split at h1 <;> split at h2 <;> cases h1 <;> (try cases h2) <;> simp_all <;> omega) fun i v d e1 e2 => by
      have hi : i < items.length := by
        have := (List.getElem?_eq_some_iff.mp e2).1
        simpa using this
      rw [List.getElem?_reverse (by omega)] at e1
      rw [List.getElem?_reverse hi] at e2
      exact .inl ⟨items.length - 1 - i, if_pos hi, by rw [← l]; exact e1, e2⟩
    exact mt_reverse pins s σ H _ _ v us Q I rx rs ⟨a, vs, rfl, rfl, ha, q .non _ _ _ (g_upd rd sub) r' .non x'⟩
  · cases e
theorem mutD_clear : MutD ca X "list.clear" gmClear := by
  intro pins s σ H x xs v us Q I rx rs h
  obtain ⟨G, d, U, ds, d', r, sub, rd, rr, e, q⟩ := h
  unfold gmClear at e
  split at e
  · rename_i items
    cases e
    cases rr
    obtain ⟨a, rfl⟩ := rep_ol_ref rd
    obtain ⟨vs, ha, l, ch⟩ := ol_change rd
    obtain ⟨U', r', x'⟩ := ch [] [] (fun _ => none) rfl (fun i j k h1 h2 => by cases h1) fun i v d e1 e2 => by cases e1
    exact mt_clear pins s σ H _ _ v us Q I rx rs ⟨a, vs, rfl, rfl, ha, q .non _ _ _ (g_upd rd sub) r' .non x'⟩
  · cases e
end

/-! ### dict(pairs) -/
def pairsD : List D → Option (List (Key × D))
  | [] => some []
  | .tup [k, v] :: ds => match keyD k, pairsD ds with
    | some k, some r => some ((k, v) :: r)
    | _, _ => none
  | _ => none
def mergeD (kvs more : List (Key × D)) : List (Key × D) := more.foldl (fun acc kv => putD acc kv.1 kv.2) kvs
def gDict : List D → Option D
  | [x] => match lstA x with
    | some ds => match pairsD ds with
      | some kvs => if allSh (kvs.map (·.2)) = true then some (.od (mergeD [] kvs)) else none
      | none => none
    | none => none
  | _ => none
def KR (R : V → D → Prop) (kvs : List (Key × V)) (ds : List (Key × D)) : Prop := kvs.map (·.1) = ds.map (·.1) ∧ ∀ (i : Nat) k v k' d, kvs[i]? = some (k, v) → ds[i]? = some (k', d) → R v d
theorem KR.put {R : V → D → Prop} {kvs : List (Key × V)} {ds : List (Key × D)} (h : KR R kvs ds) {k : Key} {v : V} {d : D} (r : R v d) : KR R (putK kvs k v) (putD ds k d) :=
  ⟨putD_keys h.1, fun i k1 v1 k2 d1 e1 e2 => by
    rcases putD_get h.1 i k1 v1 k2 d1 e1 e2 with ⟨rfl, rfl⟩ | ⟨k3, k4, e3, e4⟩
    · exact r
    · exact h.2 i k3 v1 k4 d1 e3 e4⟩
theorem KR.merge {R : V → D → Prop} : ∀ {more : List (Key × V)} {md : List (Key × D)} {kvs : List (Key × V)} {ds : List (Key × D)}, KR R more md → KR R kvs ds → KR R (mergeK kvs more) (mergeD ds md)
  | [], [], _, _, _, h => h
  | [], _ :: _, _, _, m, _ => by cases m.1
  | _ :: _, [], _, _, m, _ => by cases m.1
  | (k, v) :: more, (k', d) :: md, kvs, ds, m, h => by
    have hk : k = k' := (List.cons.inj m.1).1
    subst hk
    have h2 : KR R more md := ⟨(List.cons.inj m.1).2, fun i a b c e e1 e2 => m.2 (i + 1) a b c e (by simpa using e1) (by simpa using e2)⟩
    show KR R (mergeK (putK kvs k v) more) (mergeD (putD ds k d) md)
    exact KR.merge h2 (h.put (m.2 0 k v k d rfl rfl))
theorem pairs_rep {B : Bd} {G H : Hp} (s : ∀ b o, G b = some o → H b = some o) : ∀ {ds : List D} {kvs : List (Key × D)} {vs : List V}, pairsD ds = some kvs → vs.length = ds.length → (∀ (i : Nat) v d, vs[i]? = some v → ds[i]? = some d → ∃ U, Rep B G H v d U) →
    ∃ (ps : List Addr) (ks : List (Key × V)), vs = ps.map V.ref ∧ Paired (fun p kv => SqT B.K H p [kV kv.1, kv.2]) ps ks ∧ KR (fun v d => Rep B G H v d nof) ks kvs
  | [], kvs, vs, e, l, c => by
    cases e
    cases vs with
    | nil => exact ⟨[], [], rfl, .nil, rfl, fun i k v k' d h => by simp at h⟩
    | cons => cases l
  | d :: ds, kvs, [], e, l, c => by cases l
  | d :: ds, kvs, v :: vs, e, l, c => by
    unfold pairsD at e
    split at e
    · rename_i heq; cases heq
    · rename_i k x ds' heq
      cases heq
      split at e
      · rename_i kk r h1 h2
        cases e
        obtain ⟨U, rv⟩ := c 0 v _ rfl rfl
        obtain ⟨ps, ks, e1, e2, e3⟩ := pairs_rep s h2 (by simpa using l) fun i v d a b => c (i + 1) v d (by simpa using a) (by simpa using b)
        cases rv with
        | tup h l2 cc =>
          rename_i a ws
          match ws, l2, cc, h with
          | [w1, w2], _, cc, h =>
            have r1 := cc 0 w1 k rfl rfl
            have r2 := cc 1 w2 x rfl rfl
            cases keyD_rep r1 h1
            refine ⟨a :: ps, (kk, w2) :: ks, by rw [e1]; rfl, .cons (sqT_mono h s) e2, by rw [List.map_cons, List.map_cons, e3.1], fun i k v k' d a b => ?_⟩
            cases i with
            | zero => cases a; cases b; exact r2
            | succ i => exact e3.2 i k v k' d (by simpa using a) (by simpa using b)
      · cases e
    · cases e
theorem callD_dict {ca : Nat → Addr} {X : Cx} (hc : X.calm = true) : CallD ca X (.type "dict") gDict := by
  intro pins s σ H xs us Q I rs h
  obtain ⟨G, ds, d, sub, rr, e, q⟩ := h
  unfold gDict at e
  split at e
  · split at e
    · rename_i ds' h1
      split at e
      · rename_i kvs h2
        split at e
        · cases e
          obtain ⟨v, T, rfl, r⟩ := reps1 rr
          obtain ⟨a, vs, rfl, hq, l, c⟩ := lstA_rep r sub h1
          obtain ⟨ps, ks, rfl, hp, kr⟩ := pairs_rep sub h2 l c
          refine call_dictP hc pins s σ H _ us Q I rs ⟨a, ps, ks, rfl, hq, hp, fun p hp => ?_⟩
          have m := KR.merge kr (⟨rfl, fun i k v k' d h => by simp at h⟩ : KR (fun v d => Rep ⟨X.K, ca⟩ G H v d nof) [] [])
          exact q _ G _ _ (sub_own hp sub) (rep_od (no_g sub hp) upd_same m.1 fun i k v k' d a b => (m.2 i k v k' d a b).up) (ext_own hp)
        · cases e
      · cases e
    · cases e
  · cases e

/-! ### sorted texts -/
theorem sortedS_pw : ∀ {l : List Str}, sortedS l = true → l.Pairwise fun a b => sLt b a = false
  | [], _ => .nil
  | x :: r, h => by
    have key : ∀ (r : List Str) (p : Str), risingS p r = true → (p :: r).Pairwise fun a b => sLt b a = false := by
      intro r
      induction r with
      | nil => intro p _; simp
      | cons y r ih =>
        intro p h
        unfold risingS at h
        rw [Bool.and_eq_true] at h
        have h2 := ih y h.2
        have hpy : sLt y p = false := by
          have := h.1
          rw [ltCps_eq] at this
          unfold sLt
          simpa using this
        refine List.pairwise_cons.mpr ⟨fun z hz => ?_, h2⟩
        rcases List.mem_cons.mp hz with rfl | hz
        · exact hpy
        · have h3 := (List.pairwise_cons.mp h2).1 z hz
          unfold sLt at hpy h3 ⊢
          simp only [decide_eq_false_iff_not, List.not_lt] at hpy h3 ⊢
          exact List.le_trans hpy h3
    exact key r x h
/-- the texts in their order -/
def sortS (xs : List Str) : List Str := xs.mergeSort fun a b => !sLt b a
theorem sortS_pw {xs ys : List Str} (p : ys.Perm xs) (h1 : ys.Pairwise fun a b => sLt b a = false) : ys = sortS xs := by
  have h2 : (sortS xs).Pairwise fun a b => (!sLt b a) = true := List.pairwise_mergeSort (le := fun a b => !sLt b a) (fun a b c h1 h2 => by
      unfold sLt at *
      simp only [Bool.not_eq_true', decide_eq_false_iff_not, List.not_lt] at *
      exact List.le_trans h1 h2) (fun a b => by
      unfold sLt
      simp only [Bool.or_eq_true, Bool.not_eq_true', decide_eq_false_iff_not, List.not_lt]
      exact List.le_total a.cps.toList b.cps.toList) xs
  have h3 : (sortS xs).Pairwise fun a b => sLt b a = false := h2.imp fun h => by simpa using h
  refine List.Perm.eq_of_pairwise (le := fun a b => sLt b a = false) (fun a b _ _ h1 h2 => ?_) h1 h3 (p.trans (List.mergeSort_perm xs _).symm)
  unfold sLt at h1 h2
  simp only [decide_eq_false_iff_not, List.not_lt] at h1 h2
  have e := List.le_antisymm h1 h2
  obtain ⟨⟨a⟩⟩ := a
  obtain ⟨⟨b⟩⟩ := b
  simp only at e
  rw [e]
theorem sortS_is {xs ys : List Str} (p : ys.Perm xs) (h : sortedS ys = true) : ys = sortS xs := sortS_pw p (sortedS_pw h)
def gSortS : List D → Option D
  | [x] => match lstA x with
    | some ds => match strsD ds with
      | some ys => if ys.length < 64 then some (.ol ((sortS ys).map .str)) else none
      | none => none
    | none => none
  | _ => none
theorem callD_sortS {ca : Nat → Addr} {X : Cx} : CallD ca X (.builtin "sorted") gSortS := by
  intro pins s σ H xs us Q I rs h
  obtain ⟨G, ds, d, sub, rr, e, q⟩ := h
  unfold gSortS at e
  split at e
  · split at e
    · rename_i ds' h1
      split at e
      · rename_i ys h2
        split at e
        · rename_i hz
          cases e
          obtain ⟨v, T, rfl, r⟩ := reps1 rr
          obtain ⟨a, vs, rfl, hq, l, c⟩ := lstA_rep r sub h1
          have ev := strs_rep h2 l c
          subst ev
          refine cr_sortedS pins s σ H _ us Q I rs ⟨a, ys, rfl, hq, hz, fun zs p hp hs hn => ?_⟩
          rw [← sortS_is hp hs] at q
          refine q _ G _ _ (sub_own hn sub) (rep_ol (no_g sub hn) upd_same (by simp) fun i v d a b => ?_) (ext_own hn)
          rw [List.getElem?_map] at a b
          obtain ⟨z, ha, rfl⟩ := Option.map_eq_some_iff.mp a
          obtain ⟨z', hb, rfl⟩ := Option.map_eq_some_iff.mp b
          rw [ha] at hb; cases hb
          exact .str z
        · cases e
      · cases e
    · cases e
  · cases e

/-! ### list(text) -/
def signsD (x : Str) : List D := x.cps.toList.map fun c => .str ⟨#[c]⟩
def gListS : List D → Option D
  | [.str x] => if x.cps.size ≤ 16777216 then some (.ol (signsD x)) else none
  | ds => gList ds
theorem callD_listS {ca : Nat → Addr} {X : Cx} (hc : X.calm = true) : CallD ca X (.type "list") gListS := by
  intro pins s σ H xs us Q I rs h
  obtain ⟨G, ds, d, sub, rr, e, q⟩ := h
  unfold gListS at e
  split at e
  · rename_i x
    split at e
    · rename_i hz
      cases e
      obtain ⟨v, T, rfl, r⟩ := reps1 rr
      cases r
      obtain ⟨u, rfl, t, rfl⟩ : ∃ u, us = [u] ∧ ∃ t, u = Value.str x t := by
        cases rs with
        | cons a t => cases t; exact ⟨_, rfl, a⟩
      refine call_list_str (I.ok.hd hc) x t (fun h' tk acc c' hk hS hi => ?_) (by rw [sizeLine_eq]; exact hz)
      refine ⟨.ref s.heap.objs.size, upd H s.heap.objs.size (.lst (x.cps.toList.map fun c => V.str ⟨#[c]⟩)), I.laid hk (Nat.le_refl _) ⟨by rw [List.length_map, Array.length_toList, sizeLine_eq]; exact hz, acc.toList, c', ?_, by rw [Array.toArray_toList]; exact hS⟩, rfl, ?_⟩
      · refine vals_of_idx _ _ (by rw [List.length_map, Array.length_toList, Array.length_toList]; exact hi.1) fun j u hj => ?_
        obtain ⟨c, t', e1, rfl⟩ := hi.2 j u (by simpa using hj)
        exact ⟨.str ⟨#[c]⟩, by simp [e1], _, rfl⟩
      · have hn := I.hok.fresh (Nat.le_refl s.heap.objs.size)
        refine q _ G _ _ (sub_own hn sub) (rep_ol (no_g sub hn) upd_same (by simp [signsD]) fun i v d a b => ?_) (ext_own hn)
        unfold signsD at b
        rw [List.getElem?_map] at a b
        obtain ⟨z, ha, rfl⟩ := Option.map_eq_some_iff.mp a
        obtain ⟨z', hb, rfl⟩ := Option.map_eq_some_iff.mp b
        rw [ha] at hb; cases hb
        exact .str _
    · cases e
  · exact callD_list pins s σ H xs us Q I rs ⟨G, _, d, sub, rr, e, q⟩

/-! ### xs[lo::k], k a constant -/
def pickI (n : Nat) (lo hi st : Option Int) : List Nat := sliceRange (sliceBounds lo hi st n).1 (sliceBounds lo hi st n).2.1 (sliceBounds lo hi st n).2.2
def pickL {α : Type} (xs : List α) (lo hi st : Option Int) : List α := (pickI xs.length lo hi st).filterMap (xs[·]?)
theorem pick_get {α β : Type} {xs : List α} {ys : List β} (l : xs.length = ys.length) : ∀ (is : List Nat), (is.filterMap (xs[·]?)).length = (is.filterMap (ys[·]?)).length ∧
    ∀ (i : Nat) x y, (is.filterMap (xs[·]?))[i]? = some x → (is.filterMap (ys[·]?))[i]? = some y → ∃ j : Nat, xs[j]? = some x ∧ ys[j]? = some y
  | [] => ⟨rfl, fun i x y h => by simp at h⟩
  | j :: is => by
    obtain ⟨ih1, ih2⟩ := pick_get l is
    by_cases h : j < xs.length
    · have e1 : xs[j]? = some xs[j] := List.getElem?_eq_getElem h
      have e2 : ys[j]? = some (ys[j]'(by omega)) := List.getElem?_eq_getElem (by omega)
      rw [List.filterMap_cons_some e1, List.filterMap_cons_some e2]
      refine ⟨by simp [ih1], fun i x y a b => ?_⟩
      cases i with
      | zero => cases a; cases b; exact ⟨j, e1, e2⟩
      | succ i => exact ih2 i x y (by simpa using a) (by simpa using b)
    · have e1 : xs[j]? = none := List.getElem?_eq_none_iff.mpr (by omega)
      have e2 : ys[j]? = none := List.getElem?_eq_none_iff.mpr (by omega)
      rw [List.filterMap_cons_none e1, List.filterMap_cons_none e2]
      exact ⟨ih1, ih2⟩
theorem vals_pick {xs : List V} {us : List Value} (r : Vals xs us) : ∀ is : List Nat, Vals (is.filterMap (xs[·]?)) (is.filterMap (us[·]?))
  | [] => .nil
  | j :: is => by
    have ih := vals_pick r is
    have l := r.length
    by_cases h : j < xs.length
    · have e1 : xs[j]? = some xs[j] := List.getElem?_eq_getElem h
      have e2 : us[j]? = some (us[j]'(by omega)) := List.getElem?_eq_getElem (by omega)
      rw [List.filterMap_cons_some e1, List.filterMap_cons_some e2]
      refine .cons ?_ ih
      exact paired_get r j _ _ e1 e2
    · have e1 : xs[j]? = none := List.getElem?_eq_none_iff.mpr (by omega)
      have e2 : us[j]? = none := List.getElem?_eq_none_iff.mpr (by omega)
      rw [List.filterMap_cons_none e1, List.filterMap_cons_none e2]
      exact ih
theorem pick_arr (items : Array Value) (lo hi st : Option Int) : slicePick items lo hi st = (pickL items.toList lo hi st).toArray := by
  unfold slicePick pickL pickI
  simp
theorem pick_len {α : Type} (xs : List α) (lo hi st : Option Int) {n : Nat} (h : xs.length ≤ n) {β : Type} (u : β) : (pickL xs lo hi st).length ≤ n := by
  have e := slicePick_size_le ((xs.map fun _ => Value.none).toArray) lo hi st
  rw [pick_arr] at e
  have e2 := (pick_get (xs := xs) (ys := xs.map fun _ => Value.none) (by simp) (pickI xs.length lo hi st)).1
  unfold pickL at e ⊢
  simp only [List.size_toArray, List.length_map] at e
  omega
def tSlS (K : PySem.W.Frag) (te : TE) (tl : TO) (k : Int) : TE := fun σ H Q => te σ H fun x H1 => tl σ H1 fun l H2 => ∃ a xs, x = .ref a ∧ SqL K H2 a xs ∧ ∀ p, H2 p = none → Q (.ref p) (upd H2 p (.lst (pickL xs l none (some k))))
def tK (k : Int) : TO := fun _ H Q => Q (some k) H
section
variable {X : Cx}
theorem PO.imp {e : Option Expr} {t u : TO} (h : PO X e t) (k : ∀ (σ : L2.St) (H : Hp) (Q : Option Int → Hp → Prop), u σ H Q → t σ H Q) : PO X e u := ⟨fun pins s σ H Q I q => h.run pins s σ H Q I (k σ H Q q)⟩
theorem po_k {k : Int} {j : Nat} {p : Pos} : PO X (some (.Constant (.int k) j p)) (tK k) := PO.imp (po_some pe_int) fun σ H Q h => ⟨k, rfl, h⟩
theorem po_m1 {j : Nat} {p p2 : Pos} : PO X (some (.UnaryOp .USub (.Constant (.int 1) j p) p2)) (tK (-1)) :=
  PO.imp (po_some (pe_un un_neg pe_int)) fun σ H Q h => ⟨1, rfl, -1, rfl, h⟩
theorem pe_slS {e st : Expr} {lo : Option Expr} {te : TE} {tl : TO} {k : Int} {p3 pos : Pos} (hk : k ≠ 0) (he : PE X e te) (hl : PO X lo tl) (hst : PO X (some st) (tK k)) : PE X (.Subscript e (.Slice lo none (some st) p3) pos) (tSlS X.K te tl k) := by
  refine ⟨fun pins s σ H Q I h => ?_⟩
  refine Subscript_ (thn (he.run pins s σ H _ I h) fun v s1 ⟨x, H1, I1, r1, q1⟩ => ?_)
  refine wpAny_Slice (thn (hl.run pins s1 σ H1 _ I1 q1) fun vl s2 ⟨l, H2, I2, pl, q2⟩ => ?_)
  obtain ⟨a, xs, ex, hx, q⟩ := q2
  subst ex
  cases r1
  refine thn (po_none.run pins s2 σ H2 (fun o H3 => o = none ∧ H3 = H2) I2 ⟨rfl, rfl⟩) fun vu s3 ⟨u, H3, I3, pu, eu, e3⟩ => ?_
  subst eu e3
  refine thn (hst.run pins s3 σ H3 (fun o H4 => o = some k ∧ H4 = H3) I3 ⟨rfl, rfl⟩) fun vs s4 ⟨o, H4, I4, ps, eo, e4⟩ => ?_
  subst eo e4
  have I5 : Inv X pins σ H4 { s4 with heap := s4.heap.push { cls := .type "slice", data := .fields #[vl, vu, vs] } } := I4.kept (t' := s4.toks) fun b ob q => Heap.get?_push_of_some _ q
  obtain ⟨its, r, ht, hz⟩ := I5.list hx
  have hlen := r.length
  show wpAny (model X.prog X.w) X.A (subscriptTail e (.Slice lo none (some st) p3) (.ref a) (.ref s4.heap.objs.size)) (EP X pins σ Q) X.xe { s4 with heap := s4.heap.push { cls := .type "slice", data := .fields #[vl, vu, vs] } }
  refine tail_any (ops := [.ref a, .ref s4.heap.objs.size]) ht.isList.typeIs (PySem.slot_list_getitem.lookup) ?_ (by with_unfolding_all rfl)
  refine wpAny_getItem_list_slice ht.isList (Heap.IsSliceOf.new _ vl vu vs) pl pu ps (by simpa using hk) ?_ (by rw [List.size_toArray]; omega)
  rw [pick_arr]
  have rr : Vals (pickL xs l none (some k)) (pickL its l none (some k)) := by
    unfold pickL
    rw [hlen]
    exact vals_pick r _
  refine ⟨.ref _, _, I5.laid (t' := s4.toks) (o := .lst (pickL xs l none (some k))) (fun b ob q => Heap.get?_push_of_some _ q) (Nat.le_refl _) ?_, rfl, q _ (I5.hok.fresh (Nat.le_refl _))⟩
  exact ⟨pick_len xs _ _ _ hz (), _, 0, rr, Heap.get?_push_size _ rfl⟩
end
/-- lo there or not; a constant step -/
def gSlS (a : Bool) (k : Int) : List D → Option D
  | x :: r => match optI a r with
    | some (lo, []) => match lstA x with
      | some ds => if allSh ds = true then some (.ol (pickL ds lo none (some k))) else none
      | none => none
    | _ => none
  | _ => none
section
variable {ca : Nat → Addr} {X : Cx} {a b st : Expr} {fa fb : Ev AV} {p2 pos : Pos} {k : Int}
theorem slS_end {G H : Hp} {x : V} {d : D} {T : FP} {ds : List D} {lo : Option Int} {Q : VK} (sub : ∀ b o, G b = some o → H b = some o) (r : Rep ⟨X.K, ca⟩ G H x d T) (h1 : lstA d = some ds) (hs : allSh ds = true)
    (q : ∀ v G' H' T, (∀ b o, G' b = some o → H' b = some o) → Rep ⟨X.K, ca⟩ G' H' v (.ol (pickL ds lo none (some k))) T → Ext G H nof G' H' T → Q v H') :
    ∃ a xs, x = .ref a ∧ SqL X.K H a xs ∧ ∀ p, H p = none → Q (.ref p) (upd H p (.lst (pickL xs lo none (some k)))) := by
  obtain ⟨a, vs, rfl, hq, l, c⟩ := lstA_rep r sub h1
  refine ⟨a, vs, rfl, hq, fun p hp => ?_⟩
  have pg := pick_get l (pickI vs.length lo none (some k))
  have e : (pickI vs.length lo none (some k)).filterMap (ds[·]?) = pickL ds lo none (some k) := by unfold pickL; rw [l]
  rw [e] at pg
  refine q _ G _ _ (sub_own hp sub) (rep_ol (no_g sub hp) upd_same pg.1 fun i v d e1 e2 => ?_) (ext_own hp)
  obtain ⟨j, e3, e4⟩ := pg.2 i v d e1 e2
  obtain ⟨U, r⟩ := c j v d e3 e4
  exact (rep_sh r (allSh_get hs e4)).up
theorem de_slS0 (hk : k ≠ 0) (ha : DE ca X a fa) (hst : PO X (some st) (tK k)) : DE ca X (.Subscript a (.Slice none none (some st) p2) pos) (ev1 (gSlS false k) fa) := fun W tk =>
  PE.imp (pe_slS hk (ha W tk) po_none hst) fun σ H Q h => tD_map (tD_op1 h) fun x H1 q => by
    obtain ⟨G, ds, d, sub, rs, e, q⟩ := q
    obtain ⟨d1, T1, rfl, r1⟩ := rs.one
    have e : (match lstA d1 with | some ds => if allSh ds = true then some (D.ol (pickL ds none none (some k))) else none | none => none) = some d := e
    split at e
    · rename_i ds h1
      split at e
      · rename_i hs
        cases e
        exact slS_end sub r1 h1 hs q
      · cases e
    · cases e
theorem de_slS1 (hk : k ≠ 0) (ha : DE ca X a fa) (hb : DE ca X b fb) (hst : PO X (some st) (tK k)) : DE ca X (.Subscript a (.Slice (some b) none (some st) p2) pos) (ev2 (gSlS true k) fa fb) := fun W tk =>
  PE.imp (pe_slS hk (ha W tk) (po_some (hb W tk)) hst) fun σ H Q h => tD_map (tD_op2 h) fun x H1 kq => tD_map kq fun y H2 q => by
    obtain ⟨G, ds, d, sub, rs, e, q⟩ := q
    obtain ⟨d1, T1, d2, T2, rfl, r1, r2⟩ := rs.two
    cases r2 with
    | int i =>
      have e : (match lstA d1 with | some ds => if allSh ds = true then some (D.ol (pickL ds (some i) none (some k))) else none | none => none) = some d := e
      split at e
      · rename_i ds h1
        split at e
        · rename_i hs
          cases e
          exact ⟨i, rfl, slS_end sub r1 h1 hs q⟩
        · cases e
      · cases e
    | _ => simp [gSlS, optI] at e
end

/-! ### a text at the top -/
theorem de_gstr {ca : Nat → Addr} {X : Cx} {x : Str} {z : Str} {pos : Pos} (hm : ∃ t : Tok, X.mg x = some (.str z t)) (hg : Gl X x := by rfl) (hdb : (x == ("__debug__" : Str)) = false := by decide) : DE ca X (.Name x pos) (evC (.str z)) := by
  obtain ⟨t, hm⟩ := hm
  exact de_const (v := .str z) (pe_glob hg hm ⟨t, rfl⟩ hdb) fun _ _ => .str z
end DL

namespace DL
open PySem PySem.Spec PyProof.Rows L2

/-! ### one loop of a comprehension, what a turn makes told by body -/
def loopE {α : Type} (vs : List Nat) (t : Tgt) (c : Ev Bool) (body : α → DEnv → Option (α × DEnv)) : List D → α → DEnv → Option (α × DEnv)
  | [], acc, ρ => some (acc, wipeD ρ vs)
  | d :: ds, acc, ρ => match t d (wipeD ρ vs) with
    | none => none
    | some ρ1 => match c ρ1 with
      | some (.ok false ρ2) => loopE vs t c body ds acc ρ2
      | some (.ok true ρ2) => match body acc ρ2 with
        | some (acc', ρ3) => loopE vs t c body ds acc' ρ3
        | none => none
      | _ => none
theorem Ext.pad {G H G1 H1 : Hp} {W : FP} (x : Ext G H nof G1 H1 nof) : Ext G H W G1 H1 W :=
  ⟨x.gg, fun b o e _ => x.hh b o e id, fun b h => .inl h, fun b o e => (x.gn b o e).imp id fun z => z.imp (fun h => h.elim) id⟩
section
variable {α : Type} {vs : List Nat} {t : Tgt} {fc : Ev Bool} {body : α → DEnv → Option (α × DEnv)} {B : Bd} {AR : Hp → HO → α → Prop}
theorem loopE_wipe {ds : List D} {acc : α} {ρ : DEnv} : loopE vs t fc body ds acc (wipeD ρ vs) = loopE vs t fc body ds acc ρ := by
  cases ds with
  | nil => unfold loopE; rw [wipeD_wipeD]
  | cons d ds => unfold loopE; rw [wipeD_wipeD]
/-- between two steps: what is made stands at Z, apart -/
structure MidAt (B : Bd) (AR : Hp → HO → α → Prop) (Ga G0 H0 : Hp) (W0 : FP) (Z : Addr) (σ : L2.St) (ρ : DEnv) (acc : α) (G H : Hp) (F : Nat → FP) (o : HO) : Prop where
  c : Cfg B G H σ ρ F
  gg : ∀ b o, Ga b = some o → G b = some o
  xx : Ext G0 H0 W0 G H (fun x => un F x ∨ x = Z)
  gD : G Z = none
  nD : ¬ un F Z
  hD : H Z = some o
  ra : AR G o acc
def Mid (B : Bd) (AR : Hp → HO → α → Prop) (Ga G0 H0 : Hp) (W0 : FP) (Z : Addr) (σ : L2.St) (ρ : DEnv) (acc : α) (H : Hp) : Prop := ∃ G F o, MidAt B AR Ga G0 H0 W0 Z σ ρ acc G H F o
def ArMono (AR : Hp → HO → α → Prop) : Prop := ∀ (G G' : Hp) o acc, (∀ b o, G b = some o → G' b = some o) → AR G o acc → AR G' o acc
variable {Ga G0 H0 : Hp} {W0 : FP} {Z : Addr} {σ : L2.St} {ρ : DEnv} {acc : α} {G H : Hp} {F : Nat → FP} {o : HO}
theorem MidAt.step {σ' : L2.St} {ρ' : DEnv} {G4 H4 : Hp} {F4 : Nat → FP} (m : MidAt B AR Ga G0 H0 W0 Z σ ρ acc G H F o) (mono : ArMono AR) (c4 : Cfg B G4 H4 σ' ρ' F4) (x : Ext G H (un F) G4 H4 (un F4)) : MidAt B AR Ga G0 H0 W0 Z σ' ρ' acc G4 H4 F4 o := by
  refine ⟨c4, fun b u e => x.gg b u (m.gg b u e), ?_, ?_, fun w => ?_, x.hh Z _ m.hD m.nD, mono _ _ _ _ x.gg m.ra⟩
  · refine m.xx.trans ⟨x.gg, fun b o e n => x.hh b o e fun w => n (.inl w), fun b hb => hb.elim (fun h => (x.ww b h).imp .inl id) fun h => .inl (.inr h), fun b o e => (x.gn b o e).imp id fun z => z.imp .inl id⟩
  · cases w : G4 Z with
    | none => rfl
    | some u =>
      rcases x.gn Z u w with w | w | w
      · rw [m.gD] at w; cases w
      · exact (m.nD w).elim
      · rw [m.hD] at w; cases w
  · rcases x.ww Z w with w | w
    · exact m.nD w
    · rw [m.hD] at w; cases w
theorem MidAt.wipe {σ0 : L2.St} (m : MidAt B AR Ga G0 H0 W0 Z σ ρ acc G H F o) (h : L2.wipe σ vs = σ0) : MidAt B AR Ga G0 H0 W0 Z σ0 (wipeD ρ vs) acc G H (fun j x => F j x ∧ j ∉ vs) o := by
  subst h
  exact ⟨m.c.wipe vs, m.gg, m.xx.mono (fun _ h => h) fun x h => h.imp (fun ⟨j, hj⟩ => ⟨j, hj.1⟩) id, m.gD, fun ⟨j, hj⟩ => m.nD ⟨j, hj.1⟩, m.hD, m.ra⟩
/-- what is asked of a turn's work -/
def BodyOk (B : Bd) (AR : Hp → HO → α → Prop) (Ga G0 H0 : Hp) (W0 : FP) (Z : Addr) (vs : List Nat) (σ : L2.St) (body : α → DEnv → Option (α × DEnv)) (TB : L2.St → Hp → (Hp → Prop) → Prop) : Prop :=
  ∀ σ4 ρ acc acc' ρ' H (R : Hp → Prop), L2.wipe σ4 vs = L2.wipe σ vs → σ4.length = σ.length → Mid B AR Ga G0 H0 W0 Z σ4 ρ acc H → body acc ρ = some (acc', ρ') →
    (∀ σ5 H', L2.wipe σ5 vs = L2.wipe σ vs → Mid B AR Ga G0 H0 W0 Z σ5 ρ' acc' H' → R H') → TB σ4 H R
theorem loop_turns {J : It} {ds : List D} {acc' : α} {ρ' : DEnv} {N : Nat} {TB : L2.St → Hp → (Hp → Prop) → Prop} {R : Hp → Prop} (mono : ArMono AR) (it : ItD B J ds Ga) (hN : σ.length = N) (hb : BodyOk B AR Ga G0 H0 W0 Z vs σ body TB)
    (st : Mid B AR Ga G0 H0 W0 Z (L2.wipe σ vs) ρ acc H) (e : loopE vs t fc body ds acc ρ = some (acc', ρ')) (fin : ∀ H', Mid B AR Ga G0 H0 W0 Z (L2.wipe σ vs) ρ' acc' H' → R H') :
    ∃ Wi : Nat → Nat → Hp → Prop, (∃ m, Wi 0 m H) ∧ ∀ i m H, Wi i m H → (J.stop i H ∧ R H) ∨ (J.go i H ∧ ∃ Nx : Hp → Prop, (∀ H', Nx H' → ∃ m', m' < m ∧ Wi (i + 1) m' H') ∧
      ∀ x H', J.yld i H x H' → gD B (others N vs) t x (L2.wipe σ vs) H' fun σ2 H2 => L2.wipe σ2 vs = L2.wipe σ vs ∧ tDT B (fun _ _ _ _ => False) fc σ2 H2 fun b H3 => if b = true then TB σ2 H3 Nx else Nx H3) := by
  have ww : L2.wipe (L2.wipe σ vs) vs = L2.wipe σ vs := wipe_ext (σ := σ) (wipe_length _ _) fun i _ => rfl
  refine ⟨fun i m H' => m = ds.length - i ∧ i ≤ ds.length ∧ ∃ ρ2 acc2, Mid B AR Ga G0 H0 W0 Z (L2.wipe σ vs) ρ2 acc2 H' ∧ loopE vs t fc body (ds.drop i) acc2 ρ2 = some (acc', ρ'), ⟨ds.length, by simp, Nat.zero_le _, ρ, acc, st, e⟩, ?_⟩
  rintro i m H' ⟨rfl, hi, ρ2, acc2, ⟨G', F2, o2, m2⟩, e'⟩
  by_cases hlt : i < ds.length
  · have hd : ds.drop i = ds[i] :: ds.drop (i + 1) := List.drop_eq_getElem_cons hlt
    rw [hd] at e'
    unfold loopE at e'
    refine .inr ⟨it.go i G' H' m2.gg m2.c.sub hlt, fun H3 => i + 1 ≤ ds.length ∧ ∃ ρ3 acc3, Mid B AR Ga G0 H0 W0 Z (L2.wipe σ vs) ρ3 acc3 H3 ∧ loopE vs t fc body (ds.drop (i + 1)) acc3 ρ3 = some (acc', ρ'), fun H3 hN => ⟨ds.length - (i + 1), by omega, rfl, hN⟩, fun x H'' y => ?_⟩
    obtain ⟨d, G'', hd', sub'', rx, x''⟩ := it.yld i G' H' x H'' m2.gg m2.c.sub hlt y
    have hdd : d = ds[i] := by rw [List.getElem?_eq_getElem hlt] at hd'; cases hd'; rfl
    subst hdd
    cases ht : t ds[i] (wipeD ρ2 vs) with
    | none => rw [ht] at e'; cases e'
    | some ρ3 =>
      rw [ht] at e'
      dsimp only at e'
      have m3 := ((m2.step mono (m2.c.grow x'' sub'') x''.pad).wipe (vs := vs) ww)
      refine ⟨G'', wipeD ρ2 vs, _, ds[i], ρ3, m3.c, rx, ht, fun σ4 G4 H4 F4 p4 c4 x4 => ?_⟩
      have hw4 : L2.wipe σ4 vs = L2.wipe σ vs := by
        refine wipe_ext (by rw [p4.len, wipe_length]) fun j hj => ?_
        by_cases hjn : j < N
        · exact p4.at_ j (List.mem_filter.mpr ⟨List.mem_range.mpr hjn, by simpa using hj⟩)
        · rw [List.getElem?_eq_none_iff.mpr (by rw [p4.len, wipe_length]; omega), List.getElem?_eq_none_iff.mpr (by rw [wipe_length]; omega)]
      refine ⟨hw4, ?_⟩
      have m4 := m3.step mono c4 x4
      cases hfc : fc ρ3 with
      | none => rw [hfc] at e'; cases e'
      | some uc =>
        rw [hfc] at e'
        cases uc with
        | exc er ρ4 => cases e'
        | ok b ρ4 =>
          refine ⟨G4, ρ3, F4, _, c4, hfc, fun G5 H5 F5 c5 x5 => ?_⟩
          have m5 := m4.step mono c5 x5
          cases b with
          | false =>
            refine L2.iteF ⟨hlt, wipeD ρ4 vs, acc2, ⟨_, _, _, m5.wipe hw4⟩, ?_⟩
            rw [loopE_wipe]
            exact e'
          | true =>
            refine L2.iteT ?_
            dsimp only at e'
            cases hb2 : body acc2 ρ4 with
            | none => rw [hb2] at e'; cases e'
            | some q =>
              obtain ⟨acc3, ρ5⟩ := q
              rw [hb2] at e'
              dsimp only at e'
              refine hb σ4 ρ4 acc2 acc3 ρ5 H5 _ hw4 (by rw [p4.len, wipe_length]) ⟨_, _, _, m5⟩ hb2 fun σ6 H6 hw6 ⟨G6, F6, o6, m6⟩ => ⟨hlt, wipeD ρ5 vs, acc3, ⟨_, _, _, m6.wipe hw6⟩, ?_⟩
              rw [loopE_wipe]
              exact e'
  · have hi' : i = ds.length := by omega
    subst hi'
    rw [List.drop_length] at e'
    cases e'
    exact .inl ⟨it.stop G' H' m2.gg m2.c.sub, fin H' ⟨_, _, _, m2.wipe ww⟩⟩
end

/-! ### lists -/
def lstAR (B : Bd) : Hp → HO → List D → Prop := fun G o acc => ∃ vs, o = .lst vs ∧ Paired (fun v d => Rep B G G v d nof) vs acc
theorem lstAR_mono (B : Bd) : ArMono (lstAR B) := fun G G' o acc g ⟨vs, e, h⟩ => ⟨vs, e, L2.Paired.mapP h fun v d r => r.keep g fun _ h => h.elim⟩
def appE (f : Ev AV) (acc : List D) : DEnv → Option (List D × DEnv) := fun ρ => match f ρ with
  | some (.ok av ρ3) => match cont ρ3 av with
    | some e => if acc.length < 16777216 then some (acc ++ [frz e], frzS (plS [av]) ρ3) else none
    | none => none
  | _ => none
theorem compE_loop {vs : List Nat} {t : Tgt} {c : Ev Bool} {f : Ev AV} : ∀ {ds acc : List D} {ρ : DEnv}, compE vs t c f ds acc ρ = loopE vs t c (appE f) ds acc ρ
  | [], acc, ρ => rfl
  | d :: ds, acc, ρ => by
    unfold compE loopE
    cases t d (wipeD ρ vs) with
    | none => rfl
    | some ρ1 =>
      dsimp only
      cases c ρ1 with
      | none => rfl
      | some u =>
        cases u with
        | exc e ρ2 => rfl
        | ok b ρ2 =>
          cases b with
          | false => exact compE_loop
          | true =>
            dsimp only
            unfold appE
            cases f ρ2 with
            | none => rfl
            | some w =>
              cases w with
              | exc e ρ3 => rfl
              | ok av ρ3 =>
                dsimp only
                cases cont ρ3 av with
                | none => rfl
                | some e =>
                  dsimp only
                  split
                  · exact compE_loop
                  · rfl
section
variable {B : Bd} {Ga G0 H0 : Hp} {W0 : FP} {Z : Addr} {σ : L2.St} {vs : List Nat}
/-- the value's own part is frozen, what is made stays -/
theorem mid_frz {α : Type} {AR : Hp → HO → α → Prop} {σ4 : L2.St} {acc acc' : α} {o o' : HO} {G5 H5 G6 H6 : Hp} {F5 F6 : Nat → FP} {T : FP} {ρ4 ρ5 : DEnv} {av : AV} {ed : D} {w : V} (mono : ArMono AR) (m : MidAt B AR Ga G0 H0 W0 Z σ4 ρ4 acc G5 H5 F5 o) (c6 : Cfg B G6 H6 σ4 ρ5 F6) (r6 : RepA B G6 H6 σ4 w av T)
    (n6 : ∀ x, T x → ¬ un F6 x) (x6 : Ext G5 H5 (un F5) G6 H6 (fun x => un F6 x ∨ T x)) (hcv : cont ρ5 av = some ed)
    (k : ∀ G, (∀ b o, G5 b = some o → G b = some o) → AR G o acc → Rep B G G w (frz ed) nof → AR G o' acc') : H6 Z = some o ∧ Mid B AR Ga G0 H0 W0 Z σ4 (frzS (plS [av]) ρ5) acc' (upd H6 Z o') := by
  have x6' : Ext G5 H5 (un F5) G6 H6 (un F6) := x6.mono (fun _ h => h) fun _ h => .inl h
  have m6 := m.step mono c6 x6'
  have nT : ¬ T Z := fun h => by
    rcases x6.ww Z (.inr h) with z | z
    · exact m.nD z
    · rw [m.hD] at z; cases z
  obtain ⟨c7, x7⟩ := freeze_cfg c6 n6 (plS [av])
  have hcs : conts ρ5 [av] = some [ed] := by unfold conts conts; rw [hcv]
  have rr := freeze_reps c6 n6 (plS [av]) (.cons r6 (fun _ h => h) (.nil (Wt := nof)) (fun _ h => h.elim) fun _ _ h => h) hcs fun i h => h
  obtain ⟨w', hw', rw'⟩ := paired1 rr
  cases hw'
  refine ⟨m6.hD, gfr G6 H6 (frU G6 H6 F6 T (plS [av])), fun j x => F6 j x ∧ j ∉ plS [av], o', ?_⟩
  have xx : Ext G0 H0 W0 (gfr G6 H6 (frU G6 H6 F6 T (plS [av]))) H6 (fun x => un (fun j x => F6 j x ∧ j ∉ plS [av]) x ∨ x = Z) := by
    have x8 : Ext G5 H5 (fun x => un F5 x ∨ x = Z) G6 H6 (fun x => (un F6 x ∨ T x) ∨ x = Z) := ⟨x6.gg, fun b o e n => x6.hh b o e fun w => n (.inl w), fun b hb => hb.elim (fun h => (x6.ww b h).imp .inl id) fun h => .inl (.inr h), fun b o e => (x6.gn b o e).imp id fun z => z.imp .inl id⟩
    have x9 : Ext G6 H6 (fun x => (un F6 x ∨ T x) ∨ x = Z) (gfr G6 H6 (frU G6 H6 F6 T (plS [av]))) H6 (fun x => un (fun j x => F6 j x ∧ j ∉ plS [av]) x ∨ x = Z) := ⟨x7.gg, fun b o e n => x7.hh b o e fun w => n (.inl w), fun b hb => hb.elim (fun h => (x7.ww b h).imp .inl id) fun h => .inl (.inr h), fun b o e => (x7.gn b o e).imp id fun z => z.imp .inl id⟩
    exact (m.xx.trans x8).trans x9
  have gD7 : gfr G6 H6 (frU G6 H6 F6 T (plS [av])) Z = none := by
    cases z : gfr G6 H6 (frU G6 H6 F6 T (plS [av])) Z with
    | none => rfl
    | some u =>
      rcases x7.gn Z u z with w | w | w
      · rw [m6.gD] at w; cases w
      · rcases w with w | w
        · exact (m6.nD w).elim
        · exact (nT w).elim
      · rw [m6.hD] at w; cases w
  have nD7 : ¬ un (fun j x => F6 j x ∧ j ∉ plS [av]) Z := fun ⟨j, hj⟩ => m6.nD ⟨j, hj.1⟩
  refine ⟨?_, fun b u e => x7.gg b u (m6.gg b u e), ?_, gD7, nD7, upd_same, k _ (fun b u e => x7.gg b u (x6.gg b u e)) (mono _ _ _ _ x7.gg m6.ra) (rw'.keep (fun _ _ e => e) fun _ h => h.elim)⟩
  · refine c7.apart (W := fun x => x = Z) (W1 := fun x => x = Z) ⟨fun _ _ e => e, fun b o e n => by rw [upd_ne n]; exact e, fun b h => .inl h, fun _ _ e => .inl e⟩ (fun b o e => ?_) fun b ⟨j, hj⟩ z => nD7 (by rw [← z]; exact ⟨j, hj⟩)
    rw [upd_ne fun z => by rw [z, gD7] at e; cases e]
    exact c7.sub b o e
  · refine xx.trans ⟨fun _ _ e => e, fun b o e n => ?_, fun b h => .inl h, fun _ _ e => .inl e⟩
    rw [upd_ne fun z => n (.inr z)]
    exact e
theorem app_ok {f : Ev AV} : BodyOk B (lstAR B) Ga G0 H0 W0 Z vs σ (fun acc => appE f acc) (fun σ4 H R => tD B (fun _ _ _ _ => False) f σ4 H fun y H4 => ∃ acc, H4 Z = some (.lst acc) ∧ acc.length < sizeLine ∧ R (upd H4 Z (.lst (acc ++ [y])))) := by
  intro σ4 ρ acc acc' ρ' H R hw hl ⟨G5, F5, o, m⟩ e k
  unfold appE at e
  dsimp only at e
  cases hff : f ρ with
  | none => rw [hff] at e; cases e
  | some uf =>
    rw [hff] at e
    cases uf with
    | exc er ρ5 => cases e
    | ok av ρ5 =>
      dsimp only at e
      refine ⟨G5, ρ, F5, _, m.c, hff, fun w G6 H6 F6 T c6 r6 n6 x6 => ?_⟩
      cases hcv : cont ρ5 av with
      | none => rw [hcv] at e; cases e
      | some ed =>
        rw [hcv] at e
        dsimp only at e
        split at e
        · rename_i hz
          cases e
          obtain ⟨us, ho, ra⟩ := m.ra
          subst ho
          obtain ⟨h1, h2⟩ := mid_frz (o' := .lst (us ++ [w])) (acc' := acc ++ [frz ed]) (lstAR_mono B) m c6 r6 n6 x6 hcv fun G g _ rw' => ⟨_, rfl, paired_append (L2.Paired.mapP ra fun v d r => r.keep g fun _ h => h.elim) (.cons rw' .nil)⟩
          exact ⟨us, h1, by rw [sizeLine_eq, paired_len ra]; exact hz, k _ _ hw h2⟩
        · cases e
/-- a second loop within a turn -/
def comp1E (fi1 : Ev (List D)) (vs1 : List Nat) (t1 : Tgt) (c1 : Ev Bool) (f : Ev AV) (acc : List D) : DEnv → Option (List D × DEnv) := fun ρ => match fi1 ρ with
  | some (.ok ds ρ1) => compE vs1 t1 c1 f ds acc ρ1
  | _ => none
theorem comp1_ok {fi1 : Ev (List D)} {vs1 : List Nat} {t1 : Tgt} {c1 : Ev Bool} {f : Ev AV} {N : Nat} (hv : ∀ i ∈ vs1, i ∈ vs) (hN : σ.length = N) :
    BodyOk B (lstAR B) Ga G0 H0 W0 Z vs σ (fun acc => comp1E fi1 vs1 t1 c1 f acc) (fun σ4 H R => tI B (fun _ _ _ _ => False) fi1 σ4 H fun J1 H4 => ∃ W1 : Nat → Nat → Hp → Prop, (∃ m, W1 0 m H4) ∧ ∀ j k H, W1 j k H →
      (J1.stop j H ∧ R H) ∨ (J1.go j H ∧ ∃ Nx1 : Hp → Prop, (∀ H', Nx1 H' → ∃ k', k' < k ∧ W1 (j + 1) k' H') ∧ ∀ x H', J1.yld j H x H' → gD B (others N vs1) t1 x (L2.wipe σ4 vs1) H' fun σ3 H5 => L2.wipe σ3 vs1 = L2.wipe σ4 vs1 ∧ tDT B (fun _ _ _ _ => False) c1 σ3 H5 fun b H6 =>
        if b = true then tD B (fun _ _ _ _ => False) f σ3 H6 fun y H7 => ∃ acc, H7 Z = some (.lst acc) ∧ acc.length < sizeLine ∧ Nx1 (upd H7 Z (.lst (acc ++ [y]))) else Nx1 H6)) := by
  intro σ4 ρ acc acc' ρ' H R hw hl ⟨G5, F5, o, m⟩ e k
  unfold comp1E at e
  dsimp only at e
  cases hff : fi1 ρ with
  | none => rw [hff] at e; cases e
  | some uf =>
    rw [hff] at e
    cases uf with
    | exc er ρ5 => cases e
    | ok ds ρ5 =>
      dsimp only at e
      refine ⟨G5, ρ, F5, _, m.c, hff, fun J G6 H6 F6 c6 it x6 => ?_⟩
      have m6 := m.step (lstAR_mono B) c6 x6
      have m7 := m6.wipe (vs := vs1) rfl
      rw [compE_loop, ← loopE_wipe] at e
      refine loop_turns (AR := lstAR B) (Ga := G6) (G0 := G0) (H0 := H0) (W0 := W0) (TB := fun σ4 H R => tD B (fun _ _ _ _ => False) f σ4 H fun y H4 => ∃ acc, H4 Z = some (.lst acc) ∧ acc.length < sizeLine ∧ R (upd H4 Z (.lst (acc ++ [y])))) (lstAR_mono B) it (hl.trans hN) app_ok ⟨_, _, _, { m7 with gg := fun _ _ e => e }⟩ e fun H' ⟨G8, F8, o8, m8⟩ => ?_
      refine k (L2.wipe σ4 vs1) H' ?_ ⟨G8, F8, o8, { m8 with gg := fun b u e => m8.gg b u (m6.gg b u e) }⟩
      rw [← hw]
      exact wipe_ext (wipe_length _ _) fun i hi => by rw [wipe_out fun z => hi (hv i z), wipe_out hi]
end
def evComp2 (fi : Ev (List D)) (vs : List Nat) (t : Tgt) (c : Ev Bool) (fi1 : Ev (List D)) (vs1 : List Nat) (t1 : Tgt) (c1 : Ev Bool) (f : Ev AV) : Ev AV := fi.andThen fun ds ρ => match loopE vs t c (comp1E fi1 vs1 t1 c1 f) ds [] (wipeD ρ vs) with
  | some (acc, ρ') => some (.ok (.val (.ol acc)) (restD ρ ρ' vs))
  | none => none
/-- what a comprehension ends with -/
theorem mid_end {B : Bd} {W : WX} {α : Type} {AR : Hp → HO → α → Prop} {σ : L2.St} {G H G1 H1 : Hp} {F F1 : Nat → FP} {ρ1 ρ' : DEnv} {vs : List Nat} {Z : Addr} {acc : α} {H' : Hp} {Q : VK} {d : D} (c1 : Cfg B G1 H1 σ ρ1 F1) (x1 : Ext G H (un F) G1 H1 (un F1)) (hD : H1 Z = none)
    (m : Mid B AR G1 G1 H1 (un fun j x => F1 j x ∧ j ∉ vs) Z (L2.wipe σ vs) ρ' acc H') (k : ∀ G o, G Z = none → H' Z = some o → AR G o acc → Rep B G H' (.ref Z) d (fun x => x = Z))
    (z : endE B W σ G H (un F) Q (.ok (.val d) (restD ρ1 ρ' vs))) : Q (.ref Z) H' := by
  obtain ⟨G', F2, o, m⟩ := m
  obtain ⟨c3, ap⟩ := c1.rest m.c m.xx fun y h => .inl h
  refine z (.ref Z) G' H' _ (fun x => x = Z) c3 (k G' o m.gD m.hD m.ra) (fun x hx ⟨j, hj⟩ => ?_) (x1.trans ?_)
  · subst hx
    rcases hj with ⟨_, hj⟩ | ⟨_, hj⟩
    · obtain ⟨⟨o, eo⟩, _⟩ := c1.dom ⟨j, hj⟩
      rw [hD] at eo; cases eo
    · exact m.nD ⟨j, hj⟩
  · have xx := m.xx
    refine ⟨xx.gg, fun b o e n => xx.hh b o e fun ⟨j, hj⟩ => n ⟨j, hj.1⟩, fun b hb => ?_, fun b o e => (xx.gn b o e).imp id fun h => h.imp (fun ⟨j, hj⟩ => ⟨j, hj.1⟩) id⟩
    rcases hb with ⟨j, ⟨_, hj⟩ | ⟨_, hj⟩⟩ | hb
    · exact .inl ⟨j, hj⟩
    · exact (xx.ww b (.inl ⟨j, hj⟩)).imp (fun ⟨j, hj⟩ => ⟨j, hj.1⟩) id
    · exact .inr (by rw [hb]; exact hD)
theorem mid_start {B : Bd} {α : Type} {AR : Hp → HO → α → Prop} {σ : L2.St} {G1 H1 : Hp} {F1 : Nat → FP} {ρ1 : DEnv} {vs : List Nat} {Z : Addr} {acc : α} {o : HO} (c1 : Cfg B G1 H1 σ ρ1 F1) (hD : H1 Z = none) (ra : AR G1 o acc) :
    Mid B AR G1 G1 H1 (un fun j x => F1 j x ∧ j ∉ vs) Z (L2.wipe σ vs) (wipeD ρ1 vs) acc (upd H1 Z o) := by
  refine ⟨G1, _, o, (c1.wipe vs).grow (ext_own hD) (sub_own hD c1.sub), fun _ _ h => h, ?_, no_g c1.sub hD, fun ⟨j, hj⟩ => ?_, upd_same, ra⟩
  · have x2 : Ext G1 H1 nof G1 (upd H1 Z o) (fun x => x = Z) := ext_own hD
    exact (Ext.refl (fun _ h => h)).more x2
  · obtain ⟨⟨o, eo⟩, _⟩ := c1.dom ⟨j, hj.1⟩
    rw [hD] at eo; cases eo
theorem tD_comp2 {B : Bd} {W : WX} {σ : L2.St} {H : Hp} {Q : VK} {vs vs1 : List Nat} {N : Nat} {fi fi1 : Ev (List D)} {t t1 : Tgt} {fc c1 : Ev Bool} {f : Ev AV} (hN : σ.length = N) (hv : ∀ i ∈ vs1, i ∈ vs) (h : tD B W (evComp2 fi vs t fc fi1 vs1 t1 c1 f) σ H Q) :
    tLc2 (tI B W fi) (gD B (others N vs) t) (tDT B (fun _ _ _ _ => False) fc) (tI B (fun _ _ _ _ => False) fi1) (gD B (others N vs1) t1) (tDT B (fun _ _ _ _ => False) c1) (tD B (fun _ _ _ _ => False) f) vs vs1 σ H Q := by
  obtain ⟨G, ρ, F, o, c, e, z⟩ := h
  unfold evComp2 at e
  cases hf : fi ρ with
  | none => rw [andThen_none hf] at e; cases e
  | some u =>
    cases u with
    | exc er ρ' => rw [andThen_exc hf] at e; cases e; exact ⟨G, ρ, F, _, c, hf, z⟩
    | ok ds ρ1 =>
      rw [andThen_ok hf] at e
      refine ⟨G, ρ, F, _, c, hf, fun J G1 H1 F1 cc1 it x1 Z hD => ?_⟩
      cases hc : loopE vs t fc (comp1E fi1 vs1 t1 c1 f) ds [] (wipeD ρ1 vs) with
      | none => rw [hc] at e; cases e
      | some q =>
        obtain ⟨acc, ρ'⟩ := q
        rw [hc] at e
        cases e
        exact loop_turns (lstAR_mono B) it hN (comp1_ok hv hN) (mid_start cc1 hD ⟨[], rfl, .nil⟩) hc fun H' m => mid_end cc1 x1 hD m (fun G o g hD ⟨us, ho, ra⟩ => by
          subst ho
          exact rep_ol g hD (paired_len ra) fun i v d e1 e2 => (paired_get ra i v d e1 e2).any) z
section
variable {ca : Nat → Addr} {X : Cx} {I : List Nat} {elt tg iter tg1 iter1 : Expr} {ifs ifs1 : List Expr} {scope : Scope} {own : List (Str × Nat)} {vs1 : List Nat} {pos spos py : Pos} {fi fi1 : Ev (List D)} {t t1 : Tgt} {fc fc1 : Ev Bool} {f : Ev AV} {i : Nat} {y : Str}
theorem de_lc2 (hc : X.calm = true) (hN : X.N.Nodup) (hi : DI ca X tg iter fi) (ok : BlkOk X.N X.env.scope scope own) (hv : ∀ i ∈ vs1, i ∈ own.map (fun z : Str × Nat => z.2))
    (hg : ∀ s H C cl fp, DG ca (Cx.cmp X s H scope C cl fp) (others X.N.length (own.map (fun z : Str × Nat => z.2))) tg t) (ht : ∀ s H C cl fp, DTs ca (Cx.cmp X s H scope C cl fp) ifs fc)
    (hi1 : ∀ s H C cl fp, DI ca (Cx.cmp X s H scope C cl fp) tg1 iter1 fi1) (hg1 : ∀ s H C cl fp, DG ca (Cx.cmp X s H scope C cl fp) (others X.N.length vs1) tg1 t1) (ht1 : ∀ s H C cl fp, DTs ca (Cx.cmp X s H scope C cl fp) ifs1 fc1)
    (he : ∀ s H C cl fp, DE ca (Cx.cmp X s H scope C cl fp) elt f) (hs : ∀ x, foldedSetIterable iter X.env x = pure x := by intro _; rfl) (hs1 : ∀ env x, foldedSetIterable iter1 env x = pure x := by intro _ _; rfl) :
    DE ca X (.ListComp elt [⟨tg, iter, ifs, 0⟩, ⟨tg1, iter1, ifs1, 0⟩] scope pos) (evComp2 fi (own.map (fun z : Str × Nat => z.2)) t fc fi1 vs1 t1 fc1 f) := fun W tk =>
  ⟨fun pins s σ H Q Iv h => (pe_lc2 (g := gD ⟨X.K, ca⟩ (others X.N.length (own.map (fun z : Str × Nat => z.2))) t) (tt := tDT ⟨X.K, ca⟩ (fun _ _ _ _ => False) fc) (wi1 := tI ⟨X.K, ca⟩ (fun _ _ _ _ => False) fi1) (g1 := gD ⟨X.K, ca⟩ (others X.N.length vs1) t1) (tt1 := tDT ⟨X.K, ca⟩ (fun _ _ _ _ => False) fc1) (te := tD ⟨X.K, ca⟩ (fun _ _ _ _ => False) f)
    (hc := hc) (hN := hN) (hi := hi W tk) (ok := ok) (hv := hv) (hg := fun s H C cl fp => hg s H C cl fp) (ht := fun s H C cl fp => ht s H C cl fp _ takes0) (hi1 := fun s H C cl fp => hi1 s H C cl fp _ takes0) (hg1 := fun s H C cl fp => hg1 s H C cl fp) (ht1 := fun s H C cl fp => ht1 s H C cl fp _ takes0) (he := fun s H C cl fp => he s H C cl fp _ takes0) (hs := hs) (hs1 := hs1)).run pins s σ H Q Iv (tD_comp2 Iv.len hv h)⟩
/-- y = [.. for .. for ..] -/
theorem ds_setlc2 (i : Nat) (hc : X.calm = true) (hN : X.N.Nodup) (hi : DI ca X tg iter fi) (ok : BlkOk X.N X.env.scope scope own) (hv : ∀ i ∈ vs1, i ∈ own.map (fun z : Str × Nat => z.2))
    (hg : ∀ s H C cl fp, DG ca (Cx.cmp X s H scope C cl fp) (others X.N.length (own.map (fun z : Str × Nat => z.2))) tg t) (ht : ∀ s H C cl fp, DTs ca (Cx.cmp X s H scope C cl fp) ifs fc)
    (hi1 : ∀ s H C cl fp, DI ca (Cx.cmp X s H scope C cl fp) tg1 iter1 fi1) (hg1 : ∀ s H C cl fp, DG ca (Cx.cmp X s H scope C cl fp) (others X.N.length vs1) tg1 t1) (ht1 : ∀ s H C cl fp, DTs ca (Cx.cmp X s H scope C cl fp) ifs1 fc1)
    (he : ∀ s H C cl fp, DE ca (Cx.cmp X s H scope C cl fp) elt f) (hsw : swapsWith (.ListComp elt [⟨tg, iter, ifs, 0⟩, ⟨tg1, iter1, ifs1, 0⟩] scope pos) (some (.Name y py)) spos.line X.env = pure true)
    (hy : X.N[i]? = some y := by rfl) (hyl : X.env.scope.names.lookup y = some .local := by rfl) (hs : ∀ x, foldedSetIterable iter X.env x = pure x := by intro _; rfl) (hs1 : ∀ env x, foldedSetIterable iter1 env x = pure x := by intro _ _; rfl) :
    DS ca X I (.Assign [.Name y py] (.ListComp elt [⟨tg, iter, ifs, 0⟩, ⟨tg1, iter1, ifs1, 0⟩] scope pos) spos) (sAsg I [i] (evCons (evComp2 fi (own.map (fun z : Str × Nat => z.2)) t fc fi1 vs1 t1 fc1 f) evNil)) := fun W tk ps =>
  ⟨fun pins s σ H Dn Iv q => by
    have q2 : tDL ⟨X.K, ca⟩ W (evCons (evComp2 fi (own.map (fun z : Str × Nat => z.2)) t fc fi1 vs1 t1 fc1 f) evNil) σ H fun vs H1 => Dn.nx (setV [i] vs σ) H1 := tSD_L q fun avs ρ1 vs G1 H1 F1 Wt o ek c1 r n z => asg_end ek c1 r n z
    have q3 : tD ⟨X.K, ca⟩ W (evComp2 fi (own.map (fun z : Str × Nat => z.2)) t fc fi1 vs1 t1 fc1 f) σ H fun v H1 => Dn.nx (setV [i] [v] σ) H1 := tD_map (tDL_cons q2) fun v H1 k => tDL_nil k
    exact (ps_setLc2 (g := gD ⟨X.K, ca⟩ (others X.N.length (own.map (fun z : Str × Nat => z.2))) t) (tt := tDT ⟨X.K, ca⟩ (fun _ _ _ _ => False) fc) (wi1 := tI ⟨X.K, ca⟩ (fun _ _ _ _ => False) fi1) (g1 := gD ⟨X.K, ca⟩ (others X.N.length vs1) t1) (tt1 := tDT ⟨X.K, ca⟩ (fun _ _ _ _ => False) fc1) (te := tD ⟨X.K, ca⟩ (fun _ _ _ _ => False) f)
      (hc := hc) (hN := hN) (hy := hy) (hyl := hyl) (hsw := hsw) (hi := hi W tk) (ok := ok) (hv := hv) (hg := fun s H C cl fp => hg s H C cl fp) (ht := fun s H C cl fp => ht s H C cl fp _ takes0) (hi1 := fun s H C cl fp => hi1 s H C cl fp _ takes0) (hg1 := fun s H C cl fp => hg1 s H C cl fp) (ht1 := fun s H C cl fp => ht1 s H C cl fp _ takes0) (he := fun s H C cl fp => he s H C cl fp _ takes0) (hs := hs) (hs1 := hs1)).run pins s σ H Dn Iv (tD_comp2 Iv.len hv q3)⟩
end

/-! ### {k: v for ..} -/
def dctAR (B : Bd) : Hp → HO → List (Key × D) → Prop := fun G o acc => ∃ kvs, o = .dK kvs ∧ KR (fun v d => Rep B G G v d nof) kvs acc
theorem dctAR_mono (B : Bd) : ArMono (dctAR B) := fun G G' o acc g ⟨kvs, e, h⟩ => ⟨kvs, e, h.1, fun i k v k' d e1 e2 => (h.2 i k v k' d e1 e2).keep g fun _ h => h.elim⟩
def putE (fk fv : Ev AV) (acc : List (Key × D)) : DEnv → Option (List (Key × D) × DEnv) := fun ρ => match fk ρ with
  | some (.ok (.val dk) ρ2) => match keyD dk, fv ρ2 with
    | some k, some (.ok av ρ3) => match cont ρ3 av with
      | some e => if acc.length < 16777216 then some (putD acc k (frz e), frzS (plS [av]) ρ3) else none
      | none => none
    | _, _ => none
  | _ => none
theorem put_ok {B : Bd} {Ga G0 H0 : Hp} {W0 : FP} {Z : Addr} {σ : L2.St} {vs : List Nat} {fk fv : Ev AV} : BodyOk B (dctAR B) Ga G0 H0 W0 Z vs σ (fun acc => putE fk fv acc) (fun σ4 H R => tD B (fun _ _ _ _ => False) fk σ4 H fun y H4 => tD B (fun _ _ _ _ => False) fv σ4 H4 fun z H5 => ∃ kvs k, y = kV k ∧ H5 Z = some (.dK kvs) ∧ kvs.length < sizeLine ∧ R (upd H5 Z (.dK (putK kvs k z)))) := by
  intro σ4 ρ acc acc' ρ' H R hw hl ⟨G5, F5, o, m⟩ e k
  unfold putE at e
  dsimp only at e
  cases hfk : fk ρ with
  | none => rw [hfk] at e; cases e
  | some uk =>
    rw [hfk] at e
    cases uk with
    | exc er ρ5 => cases e
    | ok avk ρ2 =>
      cases avk with
      | pl i p => cases e
      | val dk =>
        dsimp only at e
        cases hk : keyD dk with
        | none => rw [hk] at e; cases e
        | some kk =>
          rw [hk] at e
          cases hff : fv ρ2 with
          | none => rw [hff] at e; cases e
          | some uf =>
            rw [hff] at e
            cases uf with
            | exc er ρ5 => cases e
            | ok av ρ5 =>
              dsimp only at e
              refine ⟨G5, ρ, F5, _, m.c, hfk, fun wk G2 H2 F2 Tk c2 r2 n2 x2 => ?_⟩
              have ek := keyD_rep (show Rep B G2 H2 wk dk Tk from r2) hk
              have m2 := m.step (dctAR_mono B) c2 (x2.mono (fun _ h => h) fun _ h => .inl h)
              refine ⟨G2, ρ2, F2, _, c2, hff, fun w G6 H6 F6 T c6 r6 n6 x6 => ?_⟩
              cases hcv : cont ρ5 av with
              | none => rw [hcv] at e; cases e
              | some ed =>
                rw [hcv] at e
                dsimp only at e
                split at e
                · rename_i hz
                  cases e
                  obtain ⟨us, ho, ra⟩ := m2.ra
                  subst ho
                  obtain ⟨h1, h2⟩ := mid_frz (o' := .dK (putK us kk w)) (acc' := putD acc kk (frz ed)) (dctAR_mono B) m2 c6 r6 n6 x6 hcv fun G g ⟨us', e', ra'⟩ rw' => ⟨_, rfl, by cases e'; exact ra'.put rw'⟩
                  exact ⟨us, kk, ek, h1, by rw [sizeLine_eq, len_of_keys ra.1]; exact hz, k _ _ hw h2⟩
                · cases e
def evDcomp (fi : Ev (List D)) (vs : List Nat) (t : Tgt) (c : Ev Bool) (fk fv : Ev AV) : Ev AV := fi.andThen fun ds ρ => match loopE vs t c (putE fk fv) ds [] (wipeD ρ vs) with
  | some (acc, ρ') => some (.ok (.val (.od acc)) (restD ρ ρ' vs))
  | none => none
theorem tD_dcomp {B : Bd} {W : WX} {σ : L2.St} {H : Hp} {Q : VK} {vs : List Nat} {N : Nat} {fi : Ev (List D)} {t : Tgt} {fc : Ev Bool} {fk fv : Ev AV} (hN : σ.length = N) (h : tD B W (evDcomp fi vs t fc fk fv) σ H Q) :
    tDc (tI B W fi) (gD B (others N vs) t) (tDT B (fun _ _ _ _ => False) fc) (tD B (fun _ _ _ _ => False) fk) (tD B (fun _ _ _ _ => False) fv) vs σ H Q := by
  obtain ⟨G, ρ, F, o, c, e, z⟩ := h
  unfold evDcomp at e
  cases hf : fi ρ with
  | none => rw [andThen_none hf] at e; cases e
  | some u =>
    cases u with
    | exc er ρ' => rw [andThen_exc hf] at e; cases e; exact ⟨G, ρ, F, _, c, hf, z⟩
    | ok ds ρ1 =>
      rw [andThen_ok hf] at e
      refine ⟨G, ρ, F, _, c, hf, fun J G1 H1 F1 cc1 it x1 Z hD => ?_⟩
      cases hc : loopE vs t fc (putE fk fv) ds [] (wipeD ρ1 vs) with
      | none => rw [hc] at e; cases e
      | some q =>
        obtain ⟨acc, ρ'⟩ := q
        rw [hc] at e
        cases e
        exact loop_turns (dctAR_mono B) it hN put_ok (mid_start cc1 hD ⟨[], rfl, rfl, fun i k v k' d h => by simp at h⟩) hc fun H' m => mid_end cc1 x1 hD m (fun G o g hD ⟨us, ho, ra⟩ => by
          subst ho
          exact rep_od g hD ra.1 fun i k v k' d e1 e2 => (ra.2 i k v k' d e1 e2).any) z
section
variable {ca : Nat → Addr} {X : Cx} {kx vx tg iter : Expr} {ifs : List Expr} {scope : Scope} {own : List (Str × Nat)} {pos : Pos} {fi : Ev (List D)} {t : Tgt} {fc : Ev Bool} {fk fv : Ev AV}
theorem de_dc (hc : X.calm = true) (hN : X.N.Nodup) (hi : DI ca X tg iter fi) (ok : BlkOk X.N X.env.scope scope own)
    (hg : ∀ s H C cl fp, DG ca (Cx.cmp X s H scope C cl fp) (others X.N.length (own.map (fun z : Str × Nat => z.2))) tg t) (ht : ∀ s H C cl fp, DTs ca (Cx.cmp X s H scope C cl fp) ifs fc)
    (hk : ∀ s H C cl fp, DE ca (Cx.cmp X s H scope C cl fp) kx fk) (he : ∀ s H C cl fp, DE ca (Cx.cmp X s H scope C cl fp) vx fv) (hs : ∀ x, foldedSetIterable iter X.env x = pure x := by intro _; rfl) :
    DE ca X (.DictComp kx vx [⟨tg, iter, ifs, 0⟩] scope pos) (evDcomp fi (own.map (fun z : Str × Nat => z.2)) t fc fk fv) := fun W tk =>
  ⟨fun pins s σ H Q Iv h => (pe_dc (g := gD ⟨X.K, ca⟩ (others X.N.length (own.map (fun z : Str × Nat => z.2))) t) (tt := tDT ⟨X.K, ca⟩ (fun _ _ _ _ => False) fc) (tk := tD ⟨X.K, ca⟩ (fun _ _ _ _ => False) fk) (tv := tD ⟨X.K, ca⟩ (fun _ _ _ _ => False) fv)
    (hc := hc) (hN := hN) (hi := hi W tk) (ok := ok) (hg := fun s H C cl fp => hg s H C cl fp) (ht := fun s H C cl fp => ht s H C cl fp _ takes0) (hk := fun s H C cl fp => hk s H C cl fp _ takes0) (he := fun s H C cl fp => he s H C cl fp _ takes0) (hs := hs)).run pins s σ H Q Iv (tD_dcomp Iv.len h)⟩
end
end DL

namespace DL
open PySem PySem.Spec PyProof.Rows L2

/-! ### own or not, frozen, run -/
@[simp] theorem sh_non : D.non.sh = true := rfl
@[simp] theorem sh_bl {b : Bool} : (D.bl b).sh = true := rfl
@[simp] theorem sh_int {i : Int} : (D.int i).sh = true := rfl
@[simp] theorem sh_str {x : Str} : (D.str x).sh = true := rfl
@[simp] theorem sh_ty {x : String} : (D.ty x).sh = true := rfl
@[simp] theorem sh_cls {x : Nat} : (D.cls x).sh = true := rfl
@[simp] theorem sh_tup {x : List D} : (D.tup x).sh = true := rfl
@[simp] theorem sh_lst {x : List D} : (D.lst x).sh = true := rfl
@[simp] theorem sh_frl {x : List D} : (D.frl x).sh = true := rfl
@[simp] theorem sh_dct {x : List (Key × D)} : (D.dct x).sh = true := rfl
@[simp] theorem sh_ins {c : Nat} {x : List (Str × D)} : (D.ins c x).sh = true := rfl
@[simp] theorem sh_exc {c : Nat} {x : D} : (D.exc c x).sh = true := rfl
@[simp] theorem sh_ol {x : List D} : (D.ol x).sh = false := rfl
@[simp] theorem sh_od {x : List (Key × D)} : (D.od x).sh = false := rfl
@[simp] theorem sh_oi {c : Nat} {x : List (Str × D)} : (D.oi c x).sh = false := rfl
@[simp] theorem fz_non : frz D.non = .non := rfl
@[simp] theorem fz_bl {b : Bool} : frz (D.bl b) = .bl b := rfl
@[simp] theorem fz_int {i : Int} : frz (D.int i) = .int i := rfl
@[simp] theorem fz_str {x : Str} : frz (D.str x) = .str x := rfl
@[simp] theorem fz_ty {x : String} : frz (D.ty x) = .ty x := rfl
@[simp] theorem fz_cls {x : Nat} : frz (D.cls x) = .cls x := rfl
@[simp] theorem fz_tup {x : List D} : frz (D.tup x) = .tup x := rfl
@[simp] theorem fz_lst {x : List D} : frz (D.lst x) = .lst x := rfl
@[simp] theorem fz_frl {x : List D} : frz (D.frl x) = .frl x := rfl
@[simp] theorem fz_dct {x : List (Key × D)} : frz (D.dct x) = .dct x := rfl
@[simp] theorem fz_ins {c : Nat} {x : List (Str × D)} : frz (D.ins c x) = .ins c x := rfl
@[simp] theorem fz_exc {c : Nat} {x : D} : frz (D.exc c x) = .exc c x := rfl
@[simp] theorem fz_ol {x : List D} : frz (D.ol x) = .lst (frzL x) := by rw [frz]
@[simp] theorem fz_od {x : List (Key × D)} : frz (D.od x) = .dct (frzK x) := by rw [frz]
@[simp] theorem fz_oi {c : Nat} {x : List (Str × D)} : frz (D.oi c x) = .ins c (frzF x) := by rw [frz]
@[simp] theorem fzL_0 : frzL [] = [] := rfl
@[simp] theorem fzL_1 {d : D} {ds : List D} : frzL (d :: ds) = frz d :: frzL ds := by rw [frzL]
theorem fzL_map {α : Type} {f : α → D} {xs : List α} (h : ∀ x, frz (f x) = f x) : frzL (xs.map f) = xs.map f := by
  rw [frzL_map, List.map_map]
  exact List.map_congr_left fun x _ => h x
theorem allSh_map {α : Type} {f : α → D} {xs : List α} (h : ∀ x, (f x).sh = true) : allSh (xs.map f) = true := by
  unfold allSh
  rw [List.all_map]
  exact List.all_eq_true.mpr fun x _ => h x
@[simp] theorem allSh_0 : allSh [] = true := rfl
@[simp] theorem allSh_1 {d : D} {ds : List D} : allSh (d :: ds) = (d.sh && allSh ds) := rfl
@[simp] theorem allSh_a {ds es : List D} : allSh (ds ++ es) = (allSh ds && allSh es) := by unfold allSh; rw [List.all_append]
@[simp] theorem fzL_a {ds es : List D} : frzL (ds ++ es) = frzL ds ++ frzL es := by rw [frzL_map, frzL_map, frzL_map, List.map_append]

/-! ### operations, run -/
@[simp] theorem lt_i {i j : Int} : DL.gLt [.int i, .int j] = some (.bl (decide (i < j))) := rfl
@[simp] theorem le_i {i j : Int} : DL.gLe [.int i, .int j] = some (.bl (decide (i ≤ j))) := rfl
@[simp] theorem gt_i {i j : Int} : DL.gGt [.int i, .int j] = some (.bl (decide (j < i))) := rfl
@[simp] theorem ge_i {i j : Int} : DL.gGe [.int i, .int j] = some (.bl (decide (j ≤ i))) := rfl
@[simp] theorem add_i {i j : Int} : gAdd [.int i, .int j] = some (.int (i + j)) := rfl
@[simp] theorem mul_i {i j : Int} : gMul [.int i, .int j] = if lg i + lg j < 1000000 then some (.int (i * j)) else none := rfl
@[simp] theorem add_oo {xs ys : List D} : gAdd [.ol xs, .ol ys] = if allSh xs = true ∧ allSh ys = true ∧ xs.length + ys.length ≤ 16777216 then some (.ol (xs ++ ys)) else none := rfl
@[simp] theorem add_ol {xs ys : List D} : gAdd [.ol xs, .lst ys] = if allSh xs = true ∧ allSh ys = true ∧ xs.length + ys.length ≤ 16777216 then some (.ol (xs ++ ys)) else none := rfl
@[simp] theorem add_lo {xs ys : List D} : gAdd [.lst xs, .ol ys] = if allSh xs = true ∧ allSh ys = true ∧ xs.length + ys.length ≤ 16777216 then some (.ol (xs ++ ys)) else none := rfl
@[simp] theorem add_ll {xs ys : List D} : gAdd [.lst xs, .lst ys] = if allSh xs = true ∧ allSh ys = true ∧ xs.length + ys.length ≤ 16777216 then some (.ol (xs ++ ys)) else none := rfl
@[simp] theorem ix_o {xs : List D} {i : Int} : gIx [.ol xs, .int i] = bO (atI xs i) fun d => if d.sh = true then some d else none := by
  show (match atI xs i with | some d => if d.sh = true then some d else none | none => none) = _
  unfold bO
  cases atI xs i <;> rfl
@[simp] theorem ix_l {xs : List D} {i : Int} : gIx [.lst xs, .int i] = bO (atI xs i) fun d => if d.sh = true then some d else none := ix_o
@[simp] theorem ix_f {xs : List D} {i : Int} : gIx [.frl xs, .int i] = bO (atI xs i) fun d => if d.sh = true then some d else none := ix_o
@[simp] theorem ix_t {xs : List D} {i : Int} : gIx [.tup xs, .int i] = bO (atI xs i) fun d => if d.sh = true then some d else none := ix_o
@[simp] theorem len_o {xs : List D} : DL.gLen [.ol xs] = some (.int xs.length) := rfl
@[simp] theorem len_l {xs : List D} : DL.gLen [.lst xs] = some (.int xs.length) := rfl
@[simp] theorem len_f {xs : List D} : DL.gLen [.frl xs] = some (.int xs.length) := rfl
@[simp] theorem len_t {xs : List D} : DL.gLen [.tup xs] = some (.int xs.length) := rfl
@[simp] theorem len_d {xs : List (Key × D)} : DL.gLen [.dct xs] = some (.int xs.length) := rfl
@[simp] theorem len_od {xs : List (Key × D)} : DL.gLen [.od xs] = some (.int xs.length) := rfl
@[simp] theorem itL_l {xs : List D} : gItL [.lst xs] = some xs := rfl
@[simp] theorem itL_f {xs : List D} : gItL [.frl xs] = some xs := rfl
@[simp] theorem isLst_o {xs : List D} : isLst (.ol xs) = true := rfl
@[simp] theorem isLst_l {xs : List D} : isLst (.lst xs) = true := rfl
@[simp] theorem isLst_f {xs : List D} : isLst (.frl xs) = true := rfl
@[simp] theorem tru_non : truD .non = some false := rfl
@[simp] theorem tru_bl {b : Bool} : truD (.bl b) = some b := rfl
@[simp] theorem tru_int {i : Int} : truD (.int i) = some (i != 0) := rfl
@[simp] theorem tru_tup {xs : List D} : truD (.tup xs) = some (!xs.isEmpty) := rfl
@[simp] theorem tru_lst {xs : List D} : truD (.lst xs) = some (!xs.isEmpty) := rfl
@[simp] theorem tru_frl {xs : List D} : truD (.frl xs) = some (!xs.isEmpty) := rfl
@[simp] theorem tru_ol {xs : List D} : truD (.ol xs) = some (!xs.isEmpty) := rfl

/-! ### texts by their signs, run -/
def sD (m : List Nat) : D := .str ⟨m.toArray⟩
theorem sD_eq (m : List Nat) : D.str ⟨m.toArray⟩ = sD m := rfl
theorem str_sD (s : Str) : D.str s = sD s.cps.toList := rfl
@[simp] theorem sh_s (m : List Nat) : (sD m).sh = true := rfl
@[simp] theorem frz_s (m : List Nat) : frz (sD m) = sD m := rfl
@[simp] theorem str_e : D.str ("" : Str) = sD [] := by with_unfolding_all rfl
theorem map_frz_s (ms : List (List Nat)) : (ms.map sD).map frz = ms.map sD := by rw [List.map_map]; rfl
@[simp] theorem frzL_s (ms : List (List Nat)) : frzL (ms.map sD) = ms.map sD := by rw [frzL_map, map_frz_s]
@[simp] theorem allSh_s (ms : List (List Nat)) : allSh (ms.map sD) = true := by
  unfold allSh
  rw [List.all_map]
  exact List.all_eq_true.mpr fun _ _ => rfl
@[simp] theorem add_s {a b : List Nat} : gAdd [sD a, sD b] = if a.length + b.length ≤ 16777216 then some (sD (a ++ b)) else none := by
  show (if (⟨a.toArray⟩ : Str).length + (⟨b.toArray⟩ : Str).length ≤ 16777216 then some (D.str ((⟨a.toArray⟩ : Str) ++ (⟨b.toArray⟩ : Str))) else none) = _
  have e : ((⟨a.toArray⟩ : Str) ++ (⟨b.toArray⟩ : Str)) = ⟨(a ++ b).toArray⟩ := by
    show Str.append _ _ = _
    unfold Str.append
    simp
  rw [e]
  rfl
@[simp] theorem itS_s (m : List Nat) : gItS [sD m] = some (m.map fun c => sD [c]) := rfl
@[simp] theorem len_s (m : List Nat) : DL.gLen [sD m] = if m.length ≤ 16777216 then some (.int m.length) else none := rfl
@[simp] theorem key_s (m : List Nat) : keyD (sD m) = some (.inr ⟨m.toArray⟩) := rfl
@[simp] theorem tyD_s (m : List Nat) : tyD (sD m) = some (.inl "str") := rfl
@[simp] theorem isStr_s (m : List Nat) : isStr (sD m) = true := rfl
@[simp] theorem isStr_str (m : Str) : isStr (.str m) = true := rfl
theorem sD_inj {a b : List Nat} (h : sD a = sD b) : a = b := by
  unfold sD at h
  injection h with h
  injection h with h
  simpa using congrArg Array.toList h
theorem str_inj {a b : List Nat} : ((⟨a.toArray⟩ : Str) = ⟨b.toArray⟩) ↔ a = b := by
  refine ⟨fun h => ?_, fun h => by rw [h]⟩
  injection h with h
  simpa using congrArg Array.toList h
@[simp] theorem eqD_s {a b : List Nat} : eqD (sD a) (sD b) = some (decide (a = b)) := by
  show some (decide ((⟨a.toArray⟩ : Str) = ⟨b.toArray⟩)) = _
  rw [decide_eq_decide.mpr str_inj]
@[simp] theorem lt_s {a b : List Nat} : DL.gLt [sD a, sD b] = some (.bl (decide (a < b))) := by
  show some (D.bl (sLt ⟨a.toArray⟩ ⟨b.toArray⟩)) = _
  unfold sLt
  rfl
@[simp] theorem le_s {a b : List Nat} : DL.gLe [sD a, sD b] = some (.bl (!decide (b < a))) := by
  show some (D.bl (!sLt ⟨b.toArray⟩ ⟨a.toArray⟩)) = _
  unfold sLt
  rfl
@[simp] theorem in_s1 {c : Nat} {z : List Nat} : inD (sD [c]) (sD z) = some (decide (c ∈ z)) := rfl
@[simp] theorem gIn_2 {x y : D} : gIn [x, y] = (inD x y).map .bl := rfl
@[simp] theorem gNin_2 {x y : D} : gNin [x, y] = (inD x y).map fun b => .bl (!b) := rfl
/-- a text's sign -/
theorem ix_s {z : List Nat} {i : Int} (h0 : 0 ≤ i) (h1 : i < z.length) (hz : z.length ≤ 16777216) : ∃ c, c ∈ z ∧ gIx [sD z, .int i] = some (sD [c]) := by
  have hi : i.toNat < z.length := by omega
  refine ⟨z[i.toNat], List.getElem_mem hi, ?_⟩
  show (if (⟨z.toArray⟩ : Str).length ≤ 16777216 then (atI (⟨z.toArray⟩ : Str).cps.toList i).map fun c => D.str ⟨#[c]⟩ else none) = _
  rw [if_pos (show (⟨z.toArray⟩ : Str).length ≤ 16777216 from hz)]
  show (atI z i).map _ = _
  unfold atI ixN
  rw [if_pos h0, if_pos h1]
  show (z[i.toNat]?).map _ = _
  rw [List.getElem?_eq_getElem hi]
  rfl
theorem strs_s : ∀ ms : List (List Nat), strsD (ms.map sD) = some (ms.map fun m => (⟨m.toArray⟩ : Str))
  | [] => rfl
  | m :: ms => by
    show (match strsD (ms.map sD) with | some is => some (_ :: is) | none => none) = _
    rw [strs_s ms]
    rfl
theorem join_e : ∀ ys : List (List Nat), Str.join "" (ys.map fun m => (⟨m.toArray⟩ : Str)) = ⟨ys.flatten.toArray⟩
  | [] => by with_unfolding_all rfl
  | [x] => by simp [Str.join]
  | x :: y :: r => by
    have ih := join_e (y :: r)
    show (⟨x.toArray⟩ : Str) ++ ("" : Str) ++ Str.join "" ((y :: r).map fun m => (⟨m.toArray⟩ : Str)) = _
    rw [ih]
    have e : ("" : Str) = ⟨#[]⟩ := by with_unfolding_all rfl
    rw [e]
    show Str.append (Str.append _ _) _ = _
    unfold Str.append
    simp

/-- each sign by itself -/
def sg (l : List Nat) : List (List Nat) := l.map fun c => [c]
@[simp] theorem map_sg (m : List Nat) : (m.map fun c => sD [c]) = (sg m).map sD := by unfold sg; rw [List.map_map]; rfl
theorem sg_flat (l : List Nat) : (sg l).flatten = l := by
  induction l with
  | nil => rfl
  | cons c l ih => show [c] ++ (sg l).flatten = _; rw [ih]; rfl
@[simp] theorem sg_len (l : List Nat) : (sg l).length = l.length := by unfold sg; simp
def abc : List Nat := List.range' 97 26
@[simp] theorem str_abc : D.str ("abcdefghijklmnopqrstuvwxyz" : Str) = sD abc := by
  unfold sD
  refine congrArg D.str ?_
  with_unfolding_all rfl
theorem sumlen (ms : List (List Nat)) : ((ms.map fun m => (⟨m.toArray⟩ : Str)).map fun s : Str => s.length).sum = ms.flatten.length := by
  induction ms with
  | nil => rfl
  | cons m ms ih =>
    simp only [List.map_cons, List.sum_cons, List.flatten_cons, List.length_append]
    rw [ih]
    rfl
theorem join_s {ms : List (List Nat)} (h : ms.flatten.length ≤ 16777216) : gJoin [sD [], .ol (ms.map sD)] = some (sD ms.flatten) := by
  show (match strsD (ms.map sD) with | some ys => if (ys.map fun s : Str => s.length).sum + ys.length * (⟨([] : List Nat).toArray⟩ : Str).length ≤ 16777216 then some (D.str (Txt.join ⟨([] : List Nat).toArray⟩ ys)) else none | none => none) = _
  rw [strs_s]
  dsimp only
  have e0 : (⟨([] : List Nat).toArray⟩ : Str) = "" := by with_unfolding_all rfl
  have e1 : (⟨([] : List Nat).toArray⟩ : Str).length = 0 := rfl
  rw [sumlen, e1, Nat.mul_zero, Nat.add_zero, if_pos h, e0]
  refine congrArg (fun z => some (D.str z)) ?_
  exact (StrLaws.glued_eq_join _ _).trans (join_e ms)
/-- single signs, in their order -/
theorem sort_sg (l : List Nat) : ∃ z : List Nat, z.Perm l ∧ z.Pairwise (· ≤ ·) ∧ sortS ((sg l).map fun m => (⟨m.toArray⟩ : Str)) = (sg z).map fun m => (⟨m.toArray⟩ : Str) := by
  have h1 : (l.mergeSort fun a b => decide (a ≤ b)).Pairwise fun a b => decide (a ≤ b) = true := List.pairwise_mergeSort (le := fun a b : Nat => decide (a ≤ b)) (fun a b c h1 h2 => by simp at *; omega) (fun a b => by simp; omega) l
  have h2 : (l.mergeSort fun a b => decide (a ≤ b)).Pairwise (· ≤ ·) := h1.imp fun h => of_decide_eq_true h
  have hp := List.mergeSort_perm l fun a b => decide (a ≤ b)
  refine ⟨l.mergeSort fun a b => decide (a ≤ b), hp, h2, (sortS_pw ?_ ?_).symm⟩
  · exact (hp.map _).map _
  · unfold sg
    rw [List.map_map, List.pairwise_map]
    refine h2.imp fun {a b} h => ?_
    show sLt ⟨[b].toArray⟩ ⟨[a].toArray⟩ = false
    unfold sLt
    rw [decide_eq_false_iff_not]
    show ¬ [b] < [a]
    intro z
    cases z with
    | rel h' => omega
    | cons h' => cases h'
/-- taken out at a place -/
theorem popAt_m {α : Type} {xs : List α} {f : α → D} {i : Int} (hf : ∀ x, (f x).sh = true) (h0 : 0 ≤ i) (h1 : i < xs.length) (hz : xs.length ≤ 16777216) : ∃ (x : α), xs.Perm (x :: xs.eraseIdx i.toNat) ∧ (xs.eraseIdx i.toNat).length + 1 = xs.length ∧ gmPopAt (.ol (xs.map f)) [.int i] = some (.ol ((xs.eraseIdx i.toNat).map f), f x) := by
  have hi : i.toNat < xs.length := by omega
  refine ⟨xs[i.toNat], ?_, by rw [List.length_eraseIdx_of_lt hi]; omega, ?_⟩
  · rw [List.eraseIdx_eq_take_drop_succ]
    have e : xs = xs.take i.toNat ++ xs[i.toNat] :: xs.drop (i.toNat + 1) := by rw [← List.drop_eq_getElem_cons hi, List.take_append_drop]
    conv => lhs; rw [e]
    exact List.perm_middle
  · unfold gmPopAt
    dsimp only
    rw [if_pos (by rw [List.length_map]; omega), List.getElem?_map, List.getElem?_eq_getElem hi]
    dsimp only [Option.map]
    rw [if_pos (hf _)]
    have e : (xs.map f).eraseIdx i.toNat = (xs.eraseIdx i.toNat).map f := by rw [List.eraseIdx_eq_take_drop_succ, List.eraseIdx_eq_take_drop_succ, List.map_append, List.map_take, List.map_drop]
    rw [e]

/-! ### equality of data, run -/
theorem eqD_pl {x y : D} {p q : PyData} (hx : pyd x = some p) (hy : pyd y = some q) (sp : SeqAt.shaped p = true) (sq : SeqAt.shaped q = true) (hs : eqS x y = none) : eqD x y = some (PyData.eqv p q) := by
  unfold eqD
  rw [hs, hx, hy]
  dsimp only
  rw [if_pos ⟨sp, sq⟩]
def strP (m : List Nat) : PyData := .str ⟨m.toArray⟩
theorem pydL_s : ∀ ms : List (List Nat), pydL (ms.map sD) = some (ms.map strP)
  | [] => rfl
  | n :: ns => by
    show (match pyd (sD n), pydL (ns.map sD) with | some y, some ys => some (y :: ys) | _, _ => none) = _
    rw [pydL_s ns]
    rfl
theorem shaped_s {ms : List (List Nat)} (h : ∀ m ∈ ms, ∀ c ∈ m, c < 0x110000) : SeqAt.shaped (.list (ms.map strP)) = true := by
  have h1 : ∀ ms : List (List Nat), (∀ m ∈ ms, ∀ c ∈ m, c < 0x110000) → PyData.canLayAll0 (ms.map strP) = true ∧ PyData.depthAll (ms.map strP) = 0 := by
    intro ms
    induction ms with
    | nil => intro _; exact ⟨rfl, rfl⟩
    | cons m ms ih =>
      intro h
      obtain ⟨a, b⟩ := ih fun m hm => h m (by simp [hm])
      refine ⟨?_, ?_⟩
      · show (PyData.canLay0 (strP m) && PyData.canLayAll0 (ms.map strP)) = true
        rw [a, Bool.and_true]
        show PyData.strOk ⟨m.toArray⟩ = true
        unfold PyData.strOk
        simpa using h m (by simp)
      · show max (PyData.depth (strP m)) (PyData.depthAll (ms.map strP)) = 0
        rw [b]
        rfl
  obtain ⟨a, b⟩ := h1 ms h
  show (PyData.canLayAll0 (ms.map strP) && decide (PyData.depthAll (ms.map strP) + 1 ≤ 64)) = true
  rw [a, b]
  rfl
theorem eqv_s : ∀ ns ms : List (List Nat), PyData.eqvAll (ns.map strP) (ms.map strP) = decide (ns = ms)
  | [], [] => rfl
  | [], m :: ms => rfl
  | n :: ns, [] => rfl
  | n :: ns, m :: ms => by
    show (PyData.eqv (strP n) (strP m) && PyData.eqvAll (ns.map strP) (ms.map strP)) = _
    rw [eqv_s ns ms]
    show (((⟨n.toArray⟩ : Str) == ⟨m.toArray⟩) && decide (ns = ms)) = _
    rw [show ((⟨n.toArray⟩ : Str) == ⟨m.toArray⟩) = decide (n = m) from by
      by_cases h : n = m
      · subst h; simp
      · have h' : ¬ ((⟨n.toArray⟩ : Str) = ⟨m.toArray⟩) := fun e => h (str_inj.mp e)
        rw [decide_eq_false h]
        exact beq_eq_false_iff_ne.mpr h']
    by_cases h : n = m <;> by_cases h2 : ns = ms <;> simp [h, h2]
/-- two lists of texts -/
theorem eqD_strs {x y : D} {ns ms : List (List Nat)} (hx : seqD x = some (ns.map sD)) (hy : seqD y = some (ms.map sD)) (lx : isLst x = true) (ly : isLst y = true) (h1 : ∀ m ∈ ns, ∀ c ∈ m, c < 0x110000) (h2 : ∀ m ∈ ms, ∀ c ∈ m, c < 0x110000) : eqD x y = some (decide (ns = ms)) := by
  have key : ∀ {x : D} {ns : List (List Nat)}, seqD x = some (ns.map sD) → isLst x = true → pyd x = some (.list (ns.map strP)) := fun {x ns} h l => by
    cases x with
    | lst xs | frl xs | ol xs =>
      cases h
      unfold pyd
      rw [pydL_s]
    | _ => cases l
  rw [eqD_pl (key hx lx) (key hy ly) (shaped_s h1) (shaped_s h2) (by cases x <;> cases lx <;> rfl)]
  show some (PyData.eqvAll _ _) = _
  rw [eqv_s]

/-! ### comprehensions, run -/
section
variable {ρ : DEnv} {i : Nat} {I : List Nat} {c : Ev Bool} {f : Ev AV} {ds acc : List D}
theorem set_len {i : Nat} {x : Option D} : (ρ.set i x).length = ρ.length := List.length_set
/-- one name, values that change nothing -/
theorem comp_map1 (hi : i ∉ I) (hl : i < ρ.length) (g : D → D) (hf : ∀ d ∈ ds, f (ρ.set i (some d)) = some (.ok (.val (g d)) (ρ.set i (some d)))) (hz : acc.length + ds.length ≤ 16777216) :
    compE [i] (tgN I i) evYes f ds acc ρ = some (acc ++ ds.map (fun d => frz (g d)), ρ.set i none) := by
  induction ds generalizing acc ρ with
  | nil => simp [comp_0]
  | cons d ds ih =>
    rw [List.length_cons] at hz
    rw [comp_1, wipeD_1, wipeD_0, r_tgN, if_neg (by simp [hi, hl]), bO_some, List.set_set, hf d (by simp), turnR_ok, cont_v, bO_some, if_pos (by omega)]
    show compE _ _ _ _ _ _ (ρ.set i (some d)) = _
    rw [ih (ρ := ρ.set i (some d)) (by rw [set_len]; exact hl) (fun d' h => by rw [List.set_set]; exact hf d' (by simp [h])) (by simp; omega), List.set_set]
    simp
theorem comp_c {vs : List Nat} {t : Tgt} {d : D} : compE vs t c f (d :: ds) acc ρ = bO (t d (wipeD ρ vs)) fun ρ1 => match c ρ1 with
    | some (.ok b ρ2) => if b = true then turnR vs t c f ds acc ρ2 (f ρ2) else compE vs t c f ds acc ρ2
    | _ => none := by
  conv => lhs; unfold compE
  unfold bO
  cases t d (wipeD ρ vs) with
  | none => rfl
  | some ρ1 =>
    dsimp only
    cases c ρ1 with
    | none => rfl
    | some u =>
      cases u with
      | exc e ρ2 => rfl
      | ok b ρ2 => cases b <;> rfl
/-- one name, a test, values that change nothing -/
theorem comp_flt1 (hi : i ∉ I) (hl : i < ρ.length) (p : D → Bool) (g : D → D) (hc : ∀ d ∈ ds, c (ρ.set i (some d)) = some (.ok (p d) (ρ.set i (some d)))) (hf : ∀ d ∈ ds, p d = true → f (ρ.set i (some d)) = some (.ok (.val (g d)) (ρ.set i (some d)))) (hz : acc.length + ds.length ≤ 16777216) :
    compE [i] (tgN I i) c f ds acc ρ = some (acc ++ (ds.filter p).map (fun d => frz (g d)), ρ.set i none) := by
  induction ds generalizing acc ρ with
  | nil => simp [compE]
  | cons d ds ih =>
    rw [List.length_cons] at hz
    rw [comp_c, wipeD_1, wipeD_0, r_tgN, if_neg (by simp [hi, hl]), bO_some, List.set_set, hc d (by simp)]
    dsimp only
    by_cases hp : p d = true
    · rw [if_pos hp, hf d (by simp) hp, turnR_ok, cont_v, bO_some, if_pos (by omega)]
      show compE _ _ _ _ _ _ (ρ.set i (some d)) = _
      rw [ih (ρ := ρ.set i (some d)) (by rw [set_len]; exact hl) (fun d' h => by rw [List.set_set]; exact hc d' (by simp [h])) (fun d' h => by rw [List.set_set]; exact hf d' (by simp [h])) (by simp; omega), List.set_set, List.filter_cons_of_pos hp]
      simp
    · rw [if_neg hp]
      rw [ih (ρ := ρ.set i (some d)) (by rw [set_len]; exact hl) (fun d' h => by rw [List.set_set]; exact hc d' (by simp [h])) (fun d' h => by rw [List.set_set]; exact hf d' (by simp [h])) (by omega), List.set_set, List.filter_cons_of_neg hp]
@[simp] theorem r_comp2 {fi fi1 : Ev (List D)} {vs vs1 : List Nat} {t t1 : Tgt} {c1 : Ev Bool} : evComp2 fi vs t c fi1 vs1 t1 c1 f ρ = bE (fi ρ) fun ds ρ1 => cmpR ρ1 vs (loopE vs t c (comp1E fi1 vs1 t1 c1 f) ds [] (wipeD ρ1 vs)) := by
  unfold evComp2
  rw [r_then]
  rfl
def dcmR (ρ0 : DEnv) (vs : List Nat) (x : Option (List (Key × D) × DEnv)) : Option (Out AV) := match x with
  | some (acc, ρ') => some (.ok (.val (.od acc)) (restD ρ0 ρ' vs))
  | none => none
@[simp] theorem dcmR_some {ρ0 : DEnv} {vs : List Nat} {a : List (Key × D)} : dcmR ρ0 vs (some (a, ρ)) = some (.ok (.val (.od a)) (restD ρ0 ρ vs)) := rfl
@[simp] theorem r_dcomp {fi : Ev (List D)} {vs : List Nat} {t : Tgt} {fk fv : Ev AV} : evDcomp fi vs t c fk fv ρ = bE (fi ρ) fun ds ρ1 => dcmR ρ1 vs (loopE vs t c (putE fk fv) ds [] (wipeD ρ1 vs)) := by
  unfold evDcomp
  rw [r_then]
  rfl
theorem loop_0 {α : Type} {vs : List Nat} {t : Tgt} {body : α → DEnv → Option (α × DEnv)} {a : α} : loopE vs t c body [] a ρ = some (a, wipeD ρ vs) := rfl
theorem loop_1 {α : Type} {vs : List Nat} {t : Tgt} {body : α → DEnv → Option (α × DEnv)} {a : α} {d : D} : loopE vs t evYes body (d :: ds) a ρ = bO (t d (wipeD ρ vs)) fun ρ1 => bO (body a ρ1) fun p => loopE vs t evYes body ds p.1 p.2 := by
  conv => lhs; unfold loopE
  unfold bO
  cases t d (wipeD ρ vs) with
  | none => rfl
  | some ρ1 =>
    dsimp only
    rw [r_yes]
    dsimp only
    cases body a ρ1 with
    | none => rfl
    | some p => obtain ⟨p1, p2⟩ := p; rfl
@[simp] theorem r_dict0 : evDict0 ρ = some (.ok (.val (.od [])) ρ) := rfl
end
@[simp] theorem gDin_2 {k x : D} : gDin [k, x] = bO (dctD x) fun kvs => bO (keyD k) fun k => some (.bl (valD kvs k).isSome) := by
  unfold gDin bO
  dsimp only
  cases dctD x with
  | none => rfl
  | some a => cases keyD k <;> rfl
@[simp] theorem gDnin_2 {k x : D} : gDnin [k, x] = bO (dctD x) fun kvs => bO (keyD k) fun k => some (.bl (!(valD kvs k).isSome)) := by
  unfold gDnin bO
  dsimp only
  cases dctD x with
  | none => rfl
  | some a => cases keyD k <;> rfl
@[simp] theorem gDx_2 {k x : D} : gDx [x, k] = bO (dctD x) fun kvs => bO (keyD k) fun k => bO (valD kvs k) fun d => if d.sh = true then some d else none := by
  unfold gDx bO
  dsimp only
  cases dctD x with
  | none => rfl
  | some a => cases keyD k with
    | none => rfl
    | some b => dsimp only; cases valD a b <;> rfl
@[simp] theorem dctD_o {kvs : List (Key × D)} : dctD (.od kvs) = some kvs := rfl
@[simp] theorem dctD_d {kvs : List (Key × D)} : dctD (.dct kvs) = some kvs := rfl
@[simp] theorem gmD_2 {kvs : List (Key × D)} {k x : D} : gmDset (.od kvs) [k, x] = bO (keyD k) fun k => if kvs.length < 16777216 then some (.od (putD kvs k x), .non) else none := by
  unfold gmDset bO
  dsimp only
  cases keyD k <;> rfl
@[simp] theorem gmRev_2 {ds : List D} : gmReverse (.ol ds) [] = some (.ol ds.reverse, .non) := rfl
@[simp] theorem gmClr_2 {ds : List D} : gmClear (.ol ds) [] = some (.ol [], .non) := rfl
theorem valD_mem {kvs : List (Key × D)} {k : Key} : (valD kvs k).isSome = true ↔ k ∈ kvs.map Prod.fst := by
  induction kvs with
  | nil => exact ⟨fun h => (by cases h), fun h => (by simp at h)⟩
  | cons p r ih =>
    unfold valD at ih ⊢
    rw [List.find?_cons]
    by_cases h : p.1 = k
    · simp [h]
    · have h' : ¬ k = p.1 := fun e => h e.symm
      simp only [h, decide_false, List.map_cons, List.mem_cons, h', false_or]
      exact ih
theorem putD_new {kvs : List (Key × D)} {k : Key} {d : D} (h : k ∉ kvs.map Prod.fst) : putD kvs k d = kvs ++ [(k, d)] := by
  unfold putD
  rw [if_neg]
  intro z
  obtain ⟨p, hp, e⟩ := List.any_eq_true.mp z
  exact h (List.mem_map.mpr ⟨p, hp, of_decide_eq_true e⟩)
@[simp] theorem listS_s {m : List Nat} : gListS [sD m] = if m.length ≤ 16777216 then some (.ol (m.map fun c => sD [c])) else none := rfl
@[simp] theorem listS_f {ds : List D} : gListS [.frl ds] = if allSh ds = true then some (.ol ds) else none := rfl
@[simp] theorem listS_l {ds : List D} : gListS [.lst ds] = if allSh ds = true then some (.ol ds) else none := rfl
@[simp] theorem listS_o {ds : List D} : gListS [.ol ds] = if allSh ds = true then some (.ol ds) else none := rfl
@[simp] theorem sortS_o {ms : List (List Nat)} : gSortS [.ol (ms.map sD)] = if ms.length < 64 then some (.ol ((sortS (ms.map fun m => (⟨m.toArray⟩ : Str))).map .str)) else none := by
  show (match lstA (.ol (ms.map sD)) with | some ds => (match strsD ds with | some ys => if ys.length < 64 then some (D.ol ((sortS ys).map .str)) else none | none => none) | none => none) = _
  dsimp only [lstA]
  rw [strs_s]
  dsimp only
  rw [List.length_map]
end DL

namespace DL
open PySem PySem.Spec PyProof.Rows L2

/-! ### to go along an own list, which stays own: nobody looks at its slot meanwhile -/
def mapO {α : Type} (g : DEnv → DEnv) : Out α → Out α
  | .ok a ρ => .ok a (g ρ)
  | .exc e ρ => .exc e (g ρ)
def mapS (g : DEnv → DEnv) : SOut → SOut
  | .nx ρ => .nx (g ρ)
  | .ret d ρ => .ret d (g ρ)
  | .brk ρ => .brk (g ρ)
  | .cnt ρ => .cnt (g ρ)
  | .exc e ρ => .exc e (g ρ)
/-- the slot's content is put back -/
theorem lock_back {B : Bd} {G H G2 H2 : Hp} {σ σ2 : L2.St} {ρ ρ2 : DEnv} {F F2 : Nat → FP} {T : FP} {j : Nat} {d0 : D} (c : Cfg B G H σ ρ F) (hs : slotOf ρ j = some d0) (c2 : Cfg B G2 H2 σ2 ρ2 F2) (hj : σ2[j]? = σ[j]?) (x : Ext G H (un fun i x => F i x ∧ i ≠ j) G2 H2 (fun x => un F2 x ∨ T x)) :
    Cfg B G2 H2 σ2 (ρ2.set j (some d0)) (fun i x => (i = j ∧ F j x) ∨ (i ≠ j ∧ F2 i x)) ∧ Ext G H (un F) G2 H2 (fun x => un (fun i x => (i = j ∧ F j x) ∨ (i ≠ j ∧ F2 i x)) x ∨ T x) ∧ ∀ b, F j b → ¬ T b := by
  obtain ⟨v, e1, r⟩ := c.at hs
  have apart : ∀ b, F j b → ¬ un (fun i x => F i x ∧ i ≠ j) b := fun b hb ⟨i, hi⟩ => hi.2 (c.dis i j b hi.1 hb)
  obtain ⟨r2, n2⟩ := r.frame x apart
  refine ⟨c2.put j (hj.trans e1) r2 fun y hy i hi => (n2 y hy (.inl ⟨i, hi⟩)).elim, ⟨x.gg, fun b o e w => x.hh b o e fun ⟨i, hi⟩ => w ⟨i, hi.1⟩, fun b hb => ?_, fun b o e => ?_⟩, fun b hb w => n2 b hb (.inr w)⟩
  · rcases hb with ⟨i, ⟨rfl, hi⟩ | ⟨_, hi⟩⟩ | hb
    · exact .inl ⟨_, hi⟩
    · exact (x.ww b (.inl ⟨i, hi⟩)).imp (fun ⟨k, hk⟩ => ⟨k, hk.1⟩) id
    · exact (x.ww b (.inr hb)).imp (fun ⟨k, hk⟩ => ⟨k, hk.1⟩) id
  · exact (x.gn b o e).imp id fun z => z.imp (fun ⟨k, hk⟩ => ⟨k, hk.1⟩) id
theorem lock_endE {B : Bd} {W : WX} {G H : Hp} {σ : L2.St} {ρ : DEnv} {F : Nat → FP} {j : Nat} {d0 : D} {Q : VK} {o : Out AV} (c : Cfg B G H σ ρ F) (hs : slotOf ρ j = some d0) (hv : ∀ av ρ', o = .ok av ρ' → ∃ d, av = .val d) (z : endE B W σ G H (un F) Q (mapO (fun ρ => ρ.set j (some d0)) o)) :
    endE B W σ G H (un fun i x => F i x ∧ i ≠ j) Q o := by
  cases o with
  | ok av ρ' =>
    obtain ⟨d, rfl⟩ := hv av ρ' rfl
    intro v G' H' F' T c' r n x
    obtain ⟨c3, x3, n3⟩ := lock_back c hs c' rfl x
    refine z v G' H' _ T c3 r (fun y hy ⟨i, hi⟩ => ?_) x3
    rcases hi with ⟨rfl, hi⟩ | ⟨_, hi⟩
    · exact n3 y hi hy
    · exact n y hy ⟨i, hi⟩
  | exc e ρ' =>
    intro G' H' F' cls dx c' r x
    obtain ⟨c3, x3, _⟩ := lock_back (T := nof) c hs c' rfl (x.mono (fun _ h => h) fun _ h => h.elim id False.elim)
    exact z G' H' _ cls dx c3 r (x3.mono (fun _ h => h) fun _ h => .inl h)
theorem Prot.sub {I J : List Nat} {σ σ' : L2.St} (p : Prot I σ σ') (h : ∀ i ∈ J, i ∈ I) : Prot J σ σ' := ⟨p.len, fun i hi => p.at_ i (h i hi)⟩
theorem lock_endS {B : Bd} {W : WX} {I : List Nat} {G H : Hp} {σ : L2.St} {ρ : DEnv} {F : Nat → FP} {j : Nat} {d0 : D} {Dn : Ends} {o : SOut} (c : Cfg B G H σ ρ F) (hs : slotOf ρ j = some d0) (z : endS B W I σ G H (un F) Dn (mapS (fun ρ => ρ.set j (some d0)) o)) :
    endS B W (j :: I) σ G H (un fun i x => F i x ∧ i ≠ j) Dn o := by
  have hI : ∀ i ∈ I, i ∈ j :: I := fun i h => by simp [h]
  have plain : ∀ {σ' : L2.St} {G' H' : Hp} {ρ' : DEnv} {F' : Nat → FP}, Prot (j :: I) σ σ' → Cfg B G' H' σ' ρ' F' → Ext G H (un fun i x => F i x ∧ i ≠ j) G' H' (un F') →
      Cfg B G' H' σ' (ρ'.set j (some d0)) (fun i x => (i = j ∧ F j x) ∨ (i ≠ j ∧ F' i x)) ∧ Ext G H (un F) G' H' (un fun i x => (i = j ∧ F j x) ∨ (i ≠ j ∧ F' i x)) := fun p c' x => by
    obtain ⟨c3, x3, _⟩ := lock_back (T := nof) c hs c' (p.at_ j (by simp)) (x.mono (fun _ h => h) fun _ h => h.elim id False.elim)
    exact ⟨c3, x3.mono (fun _ h => h) fun _ h => .inl h⟩
  cases o with
  | nx ρ' => exact fun σ' G' H' F' p c' x => let ⟨c3, x3⟩ := plain p c' x; z σ' G' H' _ (p.sub hI) c3 x3
  | brk ρ' => exact fun σ' G' H' F' p c' x => let ⟨c3, x3⟩ := plain p c' x; z σ' G' H' _ (p.sub hI) c3 x3
  | cnt ρ' => exact fun σ' G' H' F' p c' x => let ⟨c3, x3⟩ := plain p c' x; z σ' G' H' _ (p.sub hI) c3 x3
  | ret d ρ' =>
    intro v σ' G' H' F' T p c' r n x
    obtain ⟨c3, x3, n3⟩ := lock_back c hs c' (p.at_ j (by simp)) x
    refine z v σ' G' H' _ T (p.sub hI) c3 r (fun y hy ⟨i, hi⟩ => ?_) x3
    rcases hi with ⟨rfl, hi⟩ | ⟨_, hi⟩
    · exact n3 y hi hy
    · exact n y hy ⟨i, hi⟩
  | exc e ρ' => exact fun σ' G' H' F' cls dx p c' r x => let ⟨c3, x3⟩ := plain p c' x; z σ' G' H' _ cls dx (p.sub hI) c3 r x3

/-- an iterator's steps at one state -/
structure ItAt (B : Bd) (J : It) (ds : List D) (G' H' : Hp) : Prop where
  go : ∀ i : Nat, i < ds.length → J.go i H'
  stop : J.stop ds.length H'
  yld : ∀ (i : Nat) (x : V) (H'' : Hp), i < ds.length → J.yld i H' x H'' → ∃ (d : D) (G'' : Hp), ds[i]? = some d ∧ (∀ b o, G'' b = some o → H'' b = some o) ∧ Rep B G'' H'' x d nof ∧ Ext G' H' nof G'' H'' nof
/-- as long as only what is at W0, and what is new, is changed -/
def ItX (B : Bd) (J : It) (ds : List D) (G0 H0 : Hp) (W0 : FP) : Prop := ∀ (G' H' : Hp) (W' : FP), (∀ b o, G' b = some o → H' b = some o) → Ext G0 H0 W0 G' H' W' → ItAt B J ds G' H'
theorem itx_own {B : Bd} {a : Addr} {ds : List D} {T : FP} {G0 H0 : Hp} {W0 : FP} (r : Rep B G0 H0 (.ref a) (.ol ds) T) (hs : allSh ds = true) (n : ∀ b, T b → ¬ W0 b) : ItX B (Itl B.K a) ds G0 H0 W0 := by
  intro G' H' W' sub xe
  have r' := (r.frame xe n).1
  cases r' with
  | ol h g l c bd dj na =>
    rename_i vs FF
    have items : ∀ (i : Nat) v d, vs[i]? = some v → ds[i]? = some d → Rep B G' H' v d nof := fun i v d e1 e2 => rep_sh (c i v d e1 e2) (allSh_get hs e2)
    refine ⟨fun i hi => ⟨vs, vs[i]'(by omega), .of h, List.getElem?_eq_getElem _⟩, ⟨vs, .of h, by omega⟩, fun i x H'' hi y => ?_⟩
    obtain ⟨rfl, y⟩ := y
    have e := y vs (.of h)
    exact ⟨ds[i], G', List.getElem?_eq_getElem hi, sub, items i x ds[i] e (List.getElem?_eq_getElem hi), .refl fun _ h => h⟩

section
variable {B : Bd} {W : WX} {σ : L2.St} {H : Hp}
theorem loop_turnsX {α : Type} {vs : List Nat} {t : Tgt} {fc : Ev Bool} {body : α → DEnv → Option (α × DEnv)} {AR : Hp → HO → α → Prop} {Ga G0 H0 : Hp} {W0 : FP} {Z : Addr} {ρ ρ' : DEnv} {acc acc' : α} {J : It} {ds : List D} {N : Nat} {TB : L2.St → Hp → (Hp → Prop) → Prop} {R : Hp → Prop} (mono : ArMono AR) (it : ItX B J ds G0 H0 W0) (hN : σ.length = N) (hb : BodyOk B AR Ga G0 H0 W0 Z vs σ body TB)
    (st : Mid B AR Ga G0 H0 W0 Z (L2.wipe σ vs) ρ acc H) (e : loopE vs t fc body ds acc ρ = some (acc', ρ')) (fin : ∀ H', Mid B AR Ga G0 H0 W0 Z (L2.wipe σ vs) ρ' acc' H' → R H') :
    ∃ Wi : Nat → Nat → Hp → Prop, (∃ m, Wi 0 m H) ∧ ∀ i m H, Wi i m H → (J.stop i H ∧ R H) ∨ (J.go i H ∧ ∃ Nx : Hp → Prop, (∀ H', Nx H' → ∃ m', m' < m ∧ Wi (i + 1) m' H') ∧
      ∀ x H', J.yld i H x H' → gD B (others N vs) t x (L2.wipe σ vs) H' fun σ2 H2 => L2.wipe σ2 vs = L2.wipe σ vs ∧ tDT B (fun _ _ _ _ => False) fc σ2 H2 fun b H3 => if b = true then TB σ2 H3 Nx else Nx H3) := by
  have ww : L2.wipe (L2.wipe σ vs) vs = L2.wipe σ vs := wipe_ext (σ := σ) (wipe_length _ _) fun i _ => rfl
  refine ⟨fun i m H' => m = ds.length - i ∧ i ≤ ds.length ∧ ∃ ρ2 acc2, Mid B AR Ga G0 H0 W0 Z (L2.wipe σ vs) ρ2 acc2 H' ∧ loopE vs t fc body (ds.drop i) acc2 ρ2 = some (acc', ρ'), ⟨ds.length, by simp, Nat.zero_le _, ρ, acc, st, e⟩, ?_⟩
  rintro i m H' ⟨rfl, hi, ρ2, acc2, ⟨G', F2, o2, m2⟩, e'⟩
  have ita := it G' H' _ m2.c.sub m2.xx
  by_cases hlt : i < ds.length
  · have hd : ds.drop i = ds[i] :: ds.drop (i + 1) := List.drop_eq_getElem_cons hlt
    rw [hd] at e'
    unfold loopE at e'
    refine .inr ⟨ita.go i hlt, fun H3 => i + 1 ≤ ds.length ∧ ∃ ρ3 acc3, Mid B AR Ga G0 H0 W0 Z (L2.wipe σ vs) ρ3 acc3 H3 ∧ loopE vs t fc body (ds.drop (i + 1)) acc3 ρ3 = some (acc', ρ'), fun H3 hN => ⟨ds.length - (i + 1), by omega, rfl, hN⟩, fun x H'' y => ?_⟩
    obtain ⟨d, G'', hd', sub'', rx, x''⟩ := ita.yld i x H'' hlt y
    have hdd : d = ds[i] := by rw [List.getElem?_eq_getElem hlt] at hd'; cases hd'; rfl
    subst hdd
    cases ht : t ds[i] (wipeD ρ2 vs) with
    | none => rw [ht] at e'; cases e'
    | some ρ3 =>
      rw [ht] at e'
      dsimp only at e'
      have m3 := ((m2.step mono (m2.c.grow x'' sub'') x''.pad).wipe (vs := vs) ww)
      refine ⟨G'', wipeD ρ2 vs, _, ds[i], ρ3, m3.c, rx, ht, fun σ4 G4 H4 F4 p4 c4 x4 => ?_⟩
      have hw4 : L2.wipe σ4 vs = L2.wipe σ vs := by
        refine wipe_ext (by rw [p4.len, wipe_length]) fun j hj => ?_
        by_cases hjn : j < N
        · exact p4.at_ j (List.mem_filter.mpr ⟨List.mem_range.mpr hjn, by simpa using hj⟩)
        · rw [List.getElem?_eq_none_iff.mpr (by rw [p4.len, wipe_length]; omega), List.getElem?_eq_none_iff.mpr (by rw [wipe_length]; omega)]
      refine ⟨hw4, ?_⟩
      have m4 := m3.step mono c4 x4
      cases hfc : fc ρ3 with
      | none => rw [hfc] at e'; cases e'
      | some uc =>
        rw [hfc] at e'
        cases uc with
        | exc er ρ4 => cases e'
        | ok b ρ4 =>
          refine ⟨G4, ρ3, F4, _, c4, hfc, fun G5 H5 F5 c5 x5 => ?_⟩
          have m5 := m4.step mono c5 x5
          cases b with
          | false =>
            refine L2.iteF ⟨hlt, wipeD ρ4 vs, acc2, ⟨_, _, _, m5.wipe hw4⟩, ?_⟩
            rw [loopE_wipe]
            exact e'
          | true =>
            refine L2.iteT ?_
            dsimp only at e'
            cases hb2 : body acc2 ρ4 with
            | none => rw [hb2] at e'; cases e'
            | some q =>
              obtain ⟨acc3, ρ5⟩ := q
              rw [hb2] at e'
              dsimp only at e'
              refine hb σ4 ρ4 acc2 acc3 ρ5 H5 _ hw4 (by rw [p4.len, wipe_length]) ⟨_, _, _, m5⟩ hb2 fun σ6 H6 hw6 ⟨G6, F6, o6, m6⟩ => ⟨hlt, wipeD ρ5 vs, acc3, ⟨_, _, _, m6.wipe hw6⟩, ?_⟩
              rw [loopE_wipe]
              exact e'
  · have hi' : i = ds.length := by omega
    subst hi'
    rw [List.drop_length] at e'
    cases e'
    exact .inl ⟨ita.stop, fin H' ⟨_, _, _, m2.wipe ww⟩⟩
end
/-- a comprehension along the own list at slot j, which stays own -/
def evCompL (j : Nat) (vs : List Nat) (t : Tgt) (c : Ev Bool) (f : Ev AV) : Ev AV := fun ρ => match slotOf ρ j with
  | some (.ol ds) => if allSh ds = true ∧ j ∉ vs then match compE vs t c f ds [] (wipeD (ρ.set j none) vs) with
    | some (acc, ρ') => some (.ok (.val (.ol acc)) ((restD (ρ.set j none) ρ' vs).set j (some (.ol ds))))
    | none => none
    else none
  | _ => none
theorem tD_compL {B : Bd} {W : WX} {σ : L2.St} {H : Hp} {Q : VK} {vs : List Nat} {N j : Nat} {t : Tgt} {fc : Ev Bool} {f : Ev AV} (hN : σ.length = N) (h : tD B W (evCompL j vs t fc f) σ H Q) :
    tLc (iList B.K (tVar j)) (gD B (others N vs) t) (tDT B (fun _ _ _ _ => False) fc) (tD B (fun _ _ _ _ => False) f) vs σ H Q := by
  obtain ⟨G, ρ, F, o, c, e, z⟩ := h
  unfold evCompL at e
  cases hs : slotOf ρ j with
  | none => rw [hs] at e; cases e
  | some d0 =>
    rw [hs] at e
    cases d0 with
    | ol ds =>
      dsimp only at e
      split at e
      case isFalse => cases e
      rename_i hh
      obtain ⟨hsh, hjv⟩ := hh
      cases hc : compE vs t fc f ds [] (wipeD (ρ.set j none) vs) with
      | none => rw [hc] at e; cases e
      | some q =>
        obtain ⟨acc, ρ'⟩ := q
        rw [hc] at e
        cases e
        obtain ⟨v, e1, r⟩ := c.at hs
        obtain ⟨a, rfl⟩ := rep_ol_ref r
        obtain ⟨us, hH, l, _⟩ := ol_change r
        · refine ⟨.ref a, e1, a, rfl, ⟨us, .of hH⟩, fun Z hZ => ?_⟩
          have cd := c.drop j
          have apart : ∀ b, F j b → ¬ un (fun i x => (F i x ∧ i ≠ j) ∧ i ∉ vs) b := fun b hb ⟨i, hi⟩ => hi.1.2 (c.dis i j b hi.1.1 hb)
          have it := itx_own (W0 := un fun i x => (F i x ∧ i ≠ j) ∧ i ∉ vs) r hsh apart
          rw [compE_loop] at hc
          refine loop_turnsX (lstAR_mono B) it hN app_ok (mid_start cd hZ ⟨[], rfl, .nil⟩) hc fun H' m => ?_
          have z2 := lock_endE (o := .ok (.val (.ol acc)) (restD (ρ.set j none) ρ' vs)) c hs (fun av ρ' e => by cases e; exact ⟨_, rfl⟩) z
          exact mid_end cd (.refl fun _ h => h) hZ m (fun G o g hD ⟨us, ho, ra⟩ => by
            subst ho
            exact rep_ol g hD (paired_len ra) fun i v d e1 e2 => (paired_get ra i v d e1 e2).any) z2
    | _ => cases e
section
variable {ca : Nat → Addr} {X : Cx} {I : List Nat} {elt tg : Expr} {ifs : List Expr} {scope : Scope} {own : List (Str × Nat)} {pos spos py p : Pos} {t : Tgt} {fc : Ev Bool} {f : Ev AV} {i : Nat} {x y : Str}
theorem de_lcL (j : Nat) (hx : PE X (.Name x p) (tVar j)) (hc : X.calm = true) (hN : X.N.Nodup) (ok : BlkOk X.N X.env.scope scope own)
    (hg : ∀ s H C cl fp, DG ca (Cx.cmp X s H scope C cl fp) (others X.N.length (own.map (fun z : Str × Nat => z.2))) tg t) (ht : ∀ s H C cl fp, DTs ca (Cx.cmp X s H scope C cl fp) ifs fc)
    (he : ∀ s H C cl fp, DE ca (Cx.cmp X s H scope C cl fp) elt f) (hs : ∀ z, foldedSetIterable (.Name x p) X.env z = pure z := by intro _; rfl) :
    DE ca X (.ListComp elt [⟨tg, .Name x p, ifs, 0⟩] scope pos) (evCompL j (own.map (fun z : Str × Nat => z.2)) t fc f) := fun W tk =>
  ⟨fun pins s σ H Q I h => (pe_lc (g := gD ⟨X.K, ca⟩ (others X.N.length (own.map (fun z : Str × Nat => z.2))) t) (tt := tDT ⟨X.K, ca⟩ (fun _ _ _ _ => False) fc) (te := tD ⟨X.K, ca⟩ (fun _ _ _ _ => False) f) hc hN (pi_list hx) ok (fun s H C cl fp => hg s H C cl fp) (fun s H C cl fp => ht s H C cl fp _ takes0) (fun s H C cl fp => he s H C cl fp _ takes0) hs).run pins s σ H Q I (tD_compL (B := ⟨X.K, ca⟩) (N := X.N.length) I.len h)⟩
end

/-! ### for x in xs, xs an own list at slot j that stays own -/
def sForL (j : Nat) (t : Tgt) (body : Sv) : Sv := fun ρ => match slotOf ρ j with
  | some (.ol ds) => if allSh ds = true then (forE t body ds (ρ.set j none)).map (mapS fun ρ => ρ.set j (some (.ol ds))) else none
  | _ => none
section
variable {ca : Nat → Addr} {X : Cx} {I : List Nat} {tg : Expr} {body : List Stmt} {t : Tgt} {fb : Sv} {pos p : Pos} {x : Str}
theorem ds_forL (j : Nat) (hx : PE X (.Name x p) (tVar j)) (hc : X.calm = true) (hg : DG ca X (j :: I) tg t) (hb : DB ca X (j :: I) body fb) (hs : ∀ z, foldedSetIterable (.Name x p) X.env z = pure z := by intro _; rfl) : DS ca X I (.For tg (.Name x p) body [] pos) (sForL j t fb) := fun W tk ps =>
  PS.imp (ps_for ps hc (pi_list hx) hg (hb W tk ps) hs) fun Dn σ H h => by
    obtain ⟨G, ρ, F, o, c, e, z⟩ := h
    unfold sForL at e
    cases hs : slotOf ρ j with
    | none => rw [hs] at e; cases e
    | some d0 =>
      rw [hs] at e
      cases d0 with
      | ol ds =>
        dsimp only at e
        split at e
        case isFalse => cases e
        rename_i hsh
        obtain ⟨o1, e9, rfl⟩ := Option.map_eq_some_iff.mp e
        have z1 := lock_endS c hs z
        obtain ⟨v, e1, r⟩ := c.at hs
        obtain ⟨a, rfl⟩ := rep_ol_ref r
        obtain ⟨us, hH, l, _⟩ := ol_change r
        · refine ⟨.ref a, e1, a, rfl, ⟨us, .of hH⟩, ?_⟩
          have cd := c.drop j
          have apart : ∀ b, F j b → ¬ un (fun i x => F i x ∧ i ≠ j) b := fun b hb ⟨i, hi⟩ => hi.2 (c.dis i j b hi.1 hb)
          have it := itx_own (W0 := un fun i x => F i x ∧ i ≠ j) r hsh apart
          refine ⟨fun i m σ' H' => m = ds.length - i ∧ i ≤ ds.length ∧ ∃ G' ρ' F' o', Cfg ⟨X.K, ca⟩ G' H' σ' ρ' F' ∧ Ext G H (un fun i x => F i x ∧ i ≠ j) G' H' (un F') ∧ forE t fb (ds.drop i) ρ' = some o' ∧ endS ⟨X.K, ca⟩ W (j :: I) σ' G' H' (un F') Dn o',
            ⟨ds.length, by simp, Nat.zero_le _, G, ρ.set j none, _, o1, cd, .refl fun _ h => h, e9, z1⟩, ?_⟩
          rintro i m σ' H' ⟨rfl, hi, G', ρ', F', o', c', xs, e', z'⟩
          have ita := it G' H' _ c'.sub xs
          by_cases hlt : i < ds.length
          · have hd : ds.drop i = ds[i] :: ds.drop (i + 1) := List.drop_eq_getElem_cons hlt
            rw [hd] at e'
            unfold forE at e'
            cases ht : t ds[i] ρ' with
            | none => rw [ht] at e'; cases e'
            | some ρ2 =>
              rw [ht] at e'
              dsimp only at e'
              refine .inr ⟨ita.go i hlt, fun σ2 H2 => i + 1 ≤ ds.length ∧ ∃ G2 ρ3 F2 o2, Cfg ⟨X.K, ca⟩ G2 H2 σ2 ρ3 F2 ∧ Ext G H (un fun i x => F i x ∧ i ≠ j) G2 H2 (un F2) ∧ forE t fb (ds.drop (i + 1)) ρ3 = some o2 ∧ endS ⟨X.K, ca⟩ W (j :: I) σ2 G2 H2 (un F2) Dn o2,
                fun σ2 H2 hN => ⟨ds.length - (i + 1), by omega, rfl, hN⟩, fun x H'' y => ?_⟩
              obtain ⟨d, G'', hd', sub'', rx, x''⟩ := ita.yld i x H'' hlt y
              have hdd : d = ds[i] := by rw [List.getElem?_eq_getElem hlt] at hd'; cases hd'; rfl
              subst hdd
              have c'' := c'.grow x'' sub''
              refine ⟨G'', ρ', F', ds[i], ρ2, c'', rx, ht, fun σ2 G2 H2 F2 p2 c2 x2 => ?_⟩
              have xx : Ext G' H' (un F') G2 H2 (un F2) := (Ext.more (.refl fun _ h => h) x'' |>.mono (fun _ h => h) (fun _ h => .inl h)).trans x2
              have z2 := endS_trans z' p2 xx
              have xs2 := xs.trans xx
              cases hb' : fb ρ2 with
              | none => rw [hb'] at e'; cases e'
              | some ob =>
                rw [hb'] at e'
                refine ⟨G2, ρ2, F2, ob, c2, hb', ?_⟩
                cases ob with
                | nx ρ3 => exact fun σ3 G3 H3 F3 p3 c3 x3 => ⟨hlt, G3, ρ3, F3, o', c3, xs2.trans x3, e', endS_trans z2 p3 x3⟩
                | cnt ρ3 => exact fun σ3 G3 H3 F3 p3 c3 x3 => ⟨hlt, G3, ρ3, F3, o', c3, xs2.trans x3, e', endS_trans z2 p3 x3⟩
                | brk ρ3 => cases e'; exact z2
                | ret d ρ3 => cases e'; exact z2
                | exc er ρ3 => cases e'; exact z2
          · have hi' : i = ds.length := by omega
            subst hi'
            rw [List.drop_length] at e'
            cases e'
            exact .inl ⟨ita.stop, z' σ' G' H' F' .refl c' (.refl fun _ h => h)⟩
      | _ => cases e
end
/-! ### run -/
section
variable {ρ : DEnv} {j : Nat} {t : Tgt} {s : Sv} {vs : List Nat} {c : Ev Bool} {f : Ev AV}
def mpS (j : Nat) (d : D) (x : Option SOut) : Option SOut := x.map (mapS fun ρ => ρ.set j (some d))
@[simp] theorem mpS_nx {d : D} : mpS j d (some (.nx ρ)) = some (.nx (ρ.set j (some d))) := rfl
@[simp] theorem mpS_ret {d e : D} : mpS j d (some (.ret e ρ)) = some (.ret e (ρ.set j (some d))) := rfl
@[simp] theorem mpS_exc {d e : D} : mpS j d (some (.exc e ρ)) = some (.exc e (ρ.set j (some d))) := rfl
def lstK {α : Type} (d : D) (k : List D → Option α) : Option α := match d with
  | .ol ds => if allSh ds = true then k ds else none
  | _ => none
@[simp] theorem lstK_o {α : Type} {ds : List D} {k : List D → Option α} : lstK (.ol ds) k = if allSh ds = true then k ds else none := rfl
@[simp] theorem r_forL : sForL j t s ρ = bO (slotOf ρ j) fun d => lstK d fun ds => mpS j d (forE t s ds (ρ.set j none)) := by
  unfold sForL bO
  cases slotOf ρ j with
  | none => rfl
  | some d => cases d <;> rfl
def cmL (j : Nat) (d : D) (ρ0 : DEnv) (vs : List Nat) (x : Option (List D × DEnv)) : Option (Out AV) := match x with
  | some (acc, ρ') => some (.ok (.val (.ol acc)) ((restD ρ0 ρ' vs).set j (some d)))
  | none => none
@[simp] theorem cmL_some {d : D} {ρ0 : DEnv} {acc : List D} : cmL j d ρ0 vs (some (acc, ρ)) = some (.ok (.val (.ol acc)) ((restD ρ0 ρ vs).set j (some d))) := rfl
@[simp] theorem r_compL : evCompL j vs t c f ρ = bO (slotOf ρ j) fun d => lstK d fun ds => if j ∉ vs then cmL j d (ρ.set j none) vs (compE vs t c f ds [] (wipeD (ρ.set j none) vs)) else none := by
  unfold evCompL bO
  cases slotOf ρ j with
  | none => rfl
  | some d =>
    cases d with
    | ol ds =>
      dsimp only [lstK]
      by_cases h1 : allSh ds = true
      · by_cases h2 : j ∉ vs
        · rw [if_pos ⟨h1, h2⟩, if_pos h1, if_pos h2]; rfl
        · rw [if_neg (fun z => h2 z.2), if_pos h1, if_neg h2]
      · rw [if_neg (fun z => h1 z.1), if_neg h1]
    | _ => rfl
end
end DL

namespace DL
open PySem PySem.Spec PyProof.Rows L2

theorem pe_pv {X : Cx} {x : Str} {pos : Pos} (i : Nat) (hN : X.N[i]? = some x := by rfl) (hv : Vis X.env.scope x := by first | exact Or.inl rfl | exact Or.inr (Or.inl rfl) | exact Or.inr (Or.inr rfl)) (hd : (x == ("__debug__" : Str)) = false := by decide)
    (hcd : (x == ("__classdict__" : Str)) = false := by decide) : PE X (.Name x pos) (tVar i) := pe_var hN hv hd hcd

/-! ### a call by keywords that lends -/
theorem RepAs.parts {B : Bd} {G H : Hp} {σ : L2.St} {Wt : FP} {vs : List V} {avs : List AV} (r : RepAs B G H σ Wt vs avs) : vs.length = avs.length ∧ ∃ Ts : Nat → FP, (∀ (i : Nat) v a, vs[i]? = some v → avs[i]? = some a → RepA B G H σ v a (Ts i)) ∧ (∀ i x, Ts i x → Wt x ∧ i < avs.length) ∧ ∀ i j x, Ts i x → Ts j x → i = j := by
  induction r with
  | nil => exact ⟨rfl, fun _ => nof, fun i v a h => by simp at h, fun _ _ h => h.elim, fun _ _ _ h => h.elim⟩
  | @cons Wt Wu T v a vs as r hT t hu dj ih =>
    obtain ⟨l, Ts, h1, h2, h3⟩ := ih
    refine ⟨by simp [l], pre1 T fun i x => Ts i x, fun i w b e1 e2 => ?_, fun i x h => ?_, fun i j x hi hj => ?_⟩
    · cases i with
      | zero => cases e1; cases e2; exact r
      | succ i => exact h1 i w b (by simpa using e1) (by simpa using e2)
    · cases i with
      | zero => exact ⟨hT x h, by simp⟩
      | succ i =>
        obtain ⟨a1, a2⟩ := h2 i x h
        exact ⟨hu x a1, by simpa using a2⟩
    · cases i with
      | zero => cases j with
        | zero => rfl
        | succ j => exact (dj x hi (h2 j x hj).1).elim
      | succ i => cases j with
        | zero => exact (dj x hj (h2 i x hi).1).elim
        | succ j => exact congrArg (· + 1) (h3 i j x hi hj)
theorem RepAs.perm {B : Bd} {G H : Hp} {σ : L2.St} {vs : List V} {avs : List AV} {Ts : Nat → FP} (l : vs.length = avs.length) (h1 : ∀ (i : Nat) v a, vs[i]? = some v → avs[i]? = some a → RepA B G H σ v a (Ts i)) (h3 : ∀ i j x, Ts i x → Ts j x → i = j) :
    ∀ {is : List Nat} {us : List AV}, is.Nodup → permD avs is = some us → ∃ ws, permD vs is = some ws ∧ RepAs B G H σ (fun x => ∃ i, i ∈ is ∧ Ts i x) ws us
  | [], us, _, e => by cases e; exact ⟨[], rfl, .nil⟩
  | i :: is, us, nd, e => by
    unfold permD at e
    cases e1 : avs[i]? with
    | none => rw [e1] at e; cases e
    | some a =>
      cases e2 : permD avs is with
      | none => rw [e1, e2] at e; cases e
      | some us' =>
        rw [e1, e2] at e
        cases e
        obtain ⟨n1, n2⟩ := List.nodup_cons.mp nd
        obtain ⟨ws, q1, q2⟩ := RepAs.perm l h1 h3 n2 e2
        have hi : i < vs.length := by rw [l]; exact (List.getElem?_eq_some_iff.mp e1).1
        have e3 : vs[i]? = some vs[i] := List.getElem?_eq_getElem hi
        refine ⟨vs[i] :: ws, ?_, .cons (h1 i _ _ e3 e1) (fun x h => ⟨i, by simp, h⟩) q2 (fun x ⟨j, hj, h⟩ => ⟨j, by simp [hj], h⟩) fun x h ⟨j, hj, h'⟩ => n1 (by rw [h3 i j x h h']; exact hj)⟩
        unfold permD
        rw [e3, q1]
def kwK (ms : List Bool) (n : Nat) (is : List Nat) (m : Mir) (avs : List AV) : Ev AV := fun ρ => if avs.length = n ∧ is.Nodup then match permD avs is with
  | some us => callK ms m us ρ
  | none => none
  else none
def evKwL (ms : List Bool) (n : Nat) (is : List Nat) (m : Mir) (fs : Ev (List AV)) : Ev AV := fs.andThen (kwK ms n is m)
section
variable {ca : Nat → Addr} {X : Cx} {k : Nat} {f : Addr} {fd : FuncData} {ps ks : List Str} {is : List Nat} {x : Str} {p pos kpos : Pos} {e : Expr} {kws : List Keyword} {fs : Ev (List AV)} {fe : Ev AV} {nm : Option Str} {m : Mir} {ms : List Bool}
theorem de_callKL (F : FnD X.prog X.w X.K X.mg X.base ca k f fd ps m) (hr : Room k X.A) (hm : X.mg x = some (.ref f)) (hk : PySem.W.keepIn X.K (.ref f) = true) (hb : KwB X.K fd ps ks is) (hkw : DK ca X kws fs)
    (hall : (backToKw pos (keywordEach kws X.env)).all (·.1.isSome) = true := by rfl) (hks : (backToKw pos (keywordEach kws X.env)).filterMap (·.1) = ks := by rfl) (hg : Gl X x := by rfl)
    (hdb : (x == ("__debug__" : Str)) = false := by decide) (hpl : ((backTo pos (starEach [] X.env)).any (·.1) || (backToKw pos (keywordEach kws X.env)).any (·.1.isNone)) = false := by rfl) :
    DE ca X (.Call (.Name x p) [] kws pos) (evKwL ms ks.length is m fs) := fun W tk => ⟨fun pins s σ H Q I h => by
  refine wpAny_Call_Name_kw (ld_glob I hg hm ?_ hdb)
  have rd : tDL ⟨X.K, ca⟩ W fs σ H fun zs H1 => zs.length = ks.length ∧ ∃ us, permD zs is = some us ∧ spD ⟨X.K, ca⟩ ps.length m us H1 Q (WE W σ) := by
    obtain ⟨G, ρ, F0, o, c, e0, z⟩ := h
    unfold evKwL at e0
    refine tDL_bind c e0 (fun er ρ' eo => by subst eo; exact z) fun avs ρ1 vs G1 H1 F1 Wt ek c1 r1 n1 x1 => ?_
    unfold kwK at ek
    split at ek
    case isFalse => cases ek
    rename_i hl
    cases hp : permD avs is with
    | none => rw [hp] at ek; cases ek
    | some us =>
      rw [hp] at ek
      obtain ⟨l, Ts, h1, h2, h3⟩ := r1.parts
      obtain ⟨ws, e1, q⟩ := RepAs.perm l h1 h3 hl.2 hp
      refine ⟨l.trans hl.1, ws, e1, ?_⟩
      exact call_end c1 (q.mono fun y ⟨i, _, hy⟩ => (h2 i y hy).1) n1 ek (endE_trans z x1) ((permD_len e1).trans hb.len)
  refine PySem.W.callWith_KW0 (h₀ := X.base) I.ok.mod.kin hk hall (thn ((hkw W tk).run pos pins s σ H _ I rd) fun ws s2 ⟨zs, H2, I2, rz, hl, us, e1, sp⟩ => ⟨I2.kIn, ?_⟩) hpl
  rw [hks]
  obtain ⟨wv, e2, rv⟩ := permD_pair (R := fun w v => RelV v w) (xs := ws) (ys := zs) (by
    have : ∀ {a : List V} {b : List Value}, Vals a b → Paired (fun w v => RelV v w) b a := fun {a b} h => by
      induction h with
      | nil => exact .nil
      | cons r t ih => exact .cons r ih
    exact this rz) e1
  have rv' : Vals us wv := by
    clear e1 e2 sp
    induction rv with
    | nil => exact .nil
    | cons r t ih => exact .cons r ih
  refine wpAny_call (codeAny_mono (F.run X.A X.stack s2 H2 ⟨[], ks.zip ws⟩ wv us Q (WE W σ) hr I2.env0 (hb.to s2 ws wv (by rw [← rz.length]; exact hl) e2) rv' sp) fun r s' hq => ?_)
  cases r with
  | error er => exact passAt tk σ pins H2 s2 er s' I2 hq
  | ok fl =>
    cases fl with
    | ret u => exact I2.after hq
    | next => exact False.elim hq
    | brk => exact False.elim hq
    | cont => exact False.elim hq⟩
end
@[simp] theorem r_kwL {ms : List Bool} {n : Nat} {is : List Nat} {m : Mir} {fs : Ev (List AV)} {ρ : DEnv} : evKwL ms n is m fs ρ = bE (fs ρ) (kwK ms n is m) := by unfold evKwL; rw [r_then]
@[simp] theorem r_kwK {ms : List Bool} {n : Nat} {is : List Nat} {m : Mir} {avs : List AV} {ρ : DEnv} : kwK ms n is m avs ρ = if avs.length = n ∧ is.Nodup then bO (permD avs is) fun us => callK ms m us ρ else none := by
  unfold kwK bO
  split
  · cases permD avs is <;> rfl
  · rfl
end DL

namespace DL
open PySem PySem.Spec PyProof.Rows L2

/-! ### math.lcm -/
def lcmI (a b : Int) : Int := ((Nat.lcm a.natAbs b.natAbs : Nat) : Int)
def gLcm : List D → Option D
  | [.int i, .int j] => if lg i < 6000 ∧ lg j < 6000 then some (.int (lcmI i j)) else none
  | _ => none
theorem lcm_lg {i j : Int} (hi : lg i < 6000) (hj : lg j < 6000) : (lcmI i j).natAbs.log2 < 13000 := by
  unfold lcmI
  rw [Int.natAbs_natCast]
  have h1 : Nat.lcm i.natAbs j.natAbs ≤ i.natAbs * j.natAbs := by
    by_cases h0 : i.natAbs * j.natAbs = 0
    · have : Nat.lcm i.natAbs j.natAbs = 0 := by
        unfold Nat.lcm
        rw [h0]; simp
      omega
    · exact Nat.le_of_dvd (Nat.pos_of_ne_zero h0) ⟨Nat.gcd i.natAbs j.natAbs, by rw [Nat.mul_comm (Nat.lcm _ _), Nat.gcd_mul_lcm]⟩
  have h2 : i.natAbs < 2 ^ 6000 := by
    by_cases h : i.natAbs = 0
    · rw [h]; exact Nat.pow_pos (by decide)
    · exact (Nat.log2_lt h).mp hi
  have h3 : j.natAbs < 2 ^ 6000 := by
    by_cases h : j.natAbs = 0
    · rw [h]; exact Nat.pow_pos (by decide)
    · exact (Nat.log2_lt h).mp hj
  have h4 : i.natAbs * j.natAbs < 2 ^ 6000 * 2 ^ 6000 := Nat.mul_lt_mul'' h2 h3
  rw [← Nat.pow_add] at h4
  by_cases h : Nat.lcm i.natAbs j.natAbs = 0
  · rw [h]; decide
  · have := (Nat.log2_lt h).mpr (Nat.lt_of_le_of_lt h1 h4)
    omega
theorem lg_max {i j : Nat} {k : Nat} (hi : i.log2 < k) (hj : j.log2 < k) : (max i j).log2 < k := by
  rcases Nat.le_total i j with h | h
  · rw [Nat.max_eq_right h]; exact hj
  · rw [Nat.max_eq_left h]; exact hi
theorem callD_lcm {ca : Nat → Addr} {X : Cx} : CallD ca X (.builtin "math.lcm") gLcm := by
  intro pins s σ H xs us Q I rs h
  obtain ⟨G, ds, d, sub, rr, e, q⟩ := h
  unfold gLcm at e
  split at e
  · rename_i i j
    split at e
    · rename_i hz
      cases e
      cases rr with
      | cons a t => cases t with
        | cons b t =>
          cases t
          obtain ⟨T, r⟩ := a
          obtain ⟨U, r'⟩ := b
          cases r; cases r'
          obtain ⟨t, u, rfl⟩ := Vals.int2 rs
          have l1 : (Nat.lcm 1 i.natAbs) = i.natAbs := Nat.lcm_one_left _
          have m1 : (max 1 i.natAbs).log2 < 6000 := lg_max (by decide) hz.1
          have m2 : (max i.natAbs j.natAbs).log2 < 6000 := lg_max hz.1 hz.2
          have bl : bitsLine = 134217728 := rfl
          have hl := lcm_lg hz.1 hz.2
          have ee : (((Nat.lcm 1 i.natAbs).lcm j.natAbs : Nat) : Int) = lcmI i j := by rw [l1]; rfl
          refine call_function_meets PySem.W.MGF.kind_lcm PySem.W.MGF.plain_lcm PySem.W.MGF.entry_lcm (PySem.W.MGF.args_lcm _ _) (PySem.W.mg_run_lcm i t j u (by omega) (by omega) (by rw [ee, bl]; omega)).meets ?_
          rw [ee]
          exact ⟨.int (lcmI i j), H, I.tok _, ⟨_, rfl⟩, rDL_end q sub (.int _)⟩
    · cases e
  · cases e

/-! ### text.upper() -/
def gUpper : List D → Option D
  | [.str a] => if a.length ≤ 5592405 then some (.str (Txt.upper a)) else none
  | _ => none
theorem methD_upper {ca : Nat → Addr} {X : Cx} : MethD ca X "str.upper" gUpper := by
  intro pins s σ H x xs v us Q I rx rs h
  obtain ⟨G, ds, d, sub, rr, e, q⟩ := h
  unfold gUpper at e
  split at e
  · rename_i heq
    split at e
    · rename_i hz
      cases e
      cases rr with
      | cons a t =>
        cases t
        obtain ⟨T, r⟩ := a
        cases r
        exact mt_upper pins s σ H _ _ v us Q I rx rs ⟨_, rfl, rfl, hz, rDL_end q sub (.str _)⟩
    · cases e
  · cases e

/-! ### text[::-1] -/
def revS (z : Str) : Str := ⟨z.cps.toList.reverse.toArray⟩
theorem str_rev (z : Str) : (⟨((Builtin.Str.strSliceIndices none none (-1) z.length).filterMap (z.cps[·]?)).toArray⟩ : Str) = revS z := by
  have h := PySem.W.krv_pick (z.cps.map fun _ => Value.none)
  unfold revS
  refine congrArg (fun l : List Nat => (⟨l.toArray⟩ : Str)) ?_
  obtain ⟨⟨l⟩⟩ := z
  show (Builtin.Str.strSliceIndices none none (-1) l.length).filterMap (l.toArray[·]?) = l.reverse
  have e : Builtin.Str.strSliceIndices none none (-1) l.length = (List.range l.length).map fun k : Nat => l.length - 1 - k := by
    unfold Builtin.Str.strSliceIndices
    dsimp only
    rw [if_neg (by decide), if_neg (by decide)]
    unfold sliceRange
    dsimp only
    rw [if_neg (by decide)]
    by_cases h : (l.length : Int) - 1 > -1
    · rw [if_pos h]
      have h1 : (((l.length : Int) - 1 - -1 - -1 - 1) / - -1).toNat = l.length := by
        have : ((l.length : Int) - 1 - -1 - -1 - 1) / - -1 = l.length := by rw [show (- -1 : Int) = 1 from rfl, Int.ediv_one]; omega
        omega
      rw [h1]
      refine List.map_congr_left fun k hk => ?_
      have := List.mem_range.mp hk
      omega
    · rw [if_neg h]
      have : l.length = 0 := by omega
      rw [this]
      rfl
  rw [e, List.filterMap_map]
  refine List.ext_getElem? fun i => ?_
  have key : ∀ n, n ≤ l.length → (List.range n).filterMap ((fun x => l.toArray[x]?) ∘ fun k : Nat => l.length - 1 - k) = (l.reverse).take n := by
    intro n
    induction n with
    | zero => intro _; simp
    | succ n ih =>
      intro hn
      rw [List.range_succ, List.filterMap_append, ih (by omega)]
      have h1 : (l.toArray[l.length - 1 - n]?) = l[l.length - 1 - n]? := by simp
      have h2 : l[l.length - 1 - n]? = some (l[l.length - 1 - n]'(by omega)) := List.getElem?_eq_getElem (by omega)
      have h3 : l.reverse[n]? = some (l[l.length - 1 - n]'(by omega)) := by
        rw [List.getElem?_reverse (by omega), h2]
      rw [List.take_succ, h3]
      simp [h2]
  rw [key _ (Nat.le_refl _), List.take_of_length_le (by simp)]
theorem revS_len (z : Str) : (revS z).length = z.length := by
  show (z.cps.toList.reverse.toArray).size = z.cps.size
  simp
def gRevS : List D → Option D
  | [.str z] => if z.length ≤ 16777216 then some (.str (revS z)) else none
  | _ => none
section
variable {X : Cx} {ca : Nat → Addr}
theorem pe_revS {e : Expr} {te : TE} {k : Nat} {p1 p2 p3 pos : Pos} (he : PE X e te) : PE X (.Subscript e (.Slice none none (some (.UnaryOp .USub (.Constant (.int 1) k p1) p2)) p3) pos) (fun σ H Q => te σ H fun x H1 => ∃ z, x = .str z ∧ z.length ≤ 16777216 ∧ Q (.str (revS z)) H1) := by
  refine ⟨fun pins s σ H Q I h => ?_⟩
  refine Subscript_ (thn (he.run pins s σ H _ I h) fun v s1 ⟨x, H1, I1, r1, q1⟩ => ?_)
  obtain ⟨z, ex, hz, q⟩ := q1
  subst ex
  obtain ⟨t, rfl⟩ := r1
  refine wpAny_Slice (thn (po_none.run pins s1 σ H1 (fun o H2 => o = none ∧ H2 = H1) I1 ⟨rfl, rfl⟩) fun vl s2 ⟨l, H2, I2, pl, el, e2⟩ => ?_)
  subst el e2
  cases pl
  refine thn (po_none.run pins s2 σ H2 (fun o H3 => o = none ∧ H3 = H2) I2 ⟨rfl, rfl⟩) fun vu s3 ⟨u, H3, I3, pu, eu, e3⟩ => ?_
  subst eu e3
  cases pu
  refine thn (po_m1.run pins s3 σ H3 (fun o H4 => o = some (-1) ∧ H4 = H3) I3 ⟨rfl, rfl⟩) fun vs s4 ⟨o, H4, I4, ps, eo, e4⟩ => ?_
  subst eo e4
  cases ps with
  | int i t4 =>
  have I5 : Inv X pins σ H4 { s4 with heap := s4.heap.push { cls := .type "slice", data := .fields #[.none, .none, .int (-1) t4] } } := I4.kept (t' := s4.toks) fun b ob q => Heap.get?_push_of_some _ q
  show wpAny (model X.prog X.w) X.A (subscriptTail e (.Slice none none (some (.UnaryOp .USub (.Constant (.int 1) k p1) p2)) p3) (.str z t) (.ref s4.heap.objs.size)) (EP X pins σ Q) X.xe { s4 with heap := s4.heap.push { cls := .type "slice", data := .fields #[.none, .none, .int (-1) t4] } }
  refine tail_any (ops := [.ref s4.heap.objs.size, .str z t]) (typeIs_str _ z t) F.slot_str_getitem.lookup ?_ (by with_unfolding_all rfl)
  refine wpAny_getItem_str_slice (l := none) (u := none) (st := some (-1, t4)) ⟨_, Heap.get?_push_size _ rfl, rfl, rfl⟩ rfl ?_
  have em : sliceMade z t none none (some (-1, t4)) = .str (revS z) := by
    unfold sliceMade
    have e0 : ((Option.map (fun x : Int × Tok => x.1) (some ((-1 : Int), t4))).getD 1 == 1) = false := rfl
    rw [e0, Bool.false_and, if_neg (by decide)]
    exact congrArg Made.str (str_rev z)
  rw [em]
  exact ⟨by rw [revS_len, sizeLine_eq]; exact hz, .str (revS z), H4, I5.tok _, ⟨_, rfl⟩, q⟩
theorem de_revS {e : Expr} {fe : Ev AV} {k : Nat} {p1 p2 p3 pos : Pos} (he : DE ca X e fe) : DE ca X (.Subscript e (.Slice none none (some (.UnaryOp .USub (.Constant (.int 1) k p1) p2)) p3) pos) (ev1 gRevS fe) := fun W tk =>
  PE.imp (pe_revS (he W tk)) fun σ H Q h => tD_map (tD_op1 h) fun x H1 q => by
    obtain ⟨G, ds, d, sub, rs, e, q⟩ := q
    obtain ⟨d1, T1, rfl, r1⟩ := rs.one
    unfold gRevS at e
    split at e
    · rename_i heq
      cases heq
      split at e
      · rename_i hz
        cases e
        cases r1
        exact ⟨_, rfl, hz, rDL_end q sub (.str _)⟩
      · cases e
    · cases e
end
/-! ### a, b, c, d = .. from a display of as many -/
theorem setV_set {is : List Nat} {vs : List V} {σ : L2.St} {i : Nat} {v : V} : setV (i :: is) (v :: vs) σ = setV is vs (σ.set i (some v)) := rfl
def gNm : List Nat → TGs
  | [] => fun vs σ H Q => vs = [] ∧ Q σ H
  | i :: is => fun vs σ H Q => ∃ v us, vs = v :: us ∧ gNm is us (σ.set i (some v)) H Q
theorem gNm_to : ∀ {is : List Nat} {vs : List V} {σ : L2.St} {H : Hp} {Q : L2.St → Hp → Prop}, vs.length = is.length → Q (setV is vs σ) H → gNm is vs σ H Q
  | [], [], σ, H, Q, _, h => ⟨rfl, h⟩
  | [], _ :: _, _, _, _, l, _ => by cases l
  | _ :: _, [], _, _, _, l, _ => by cases l
  | i :: is, v :: vs, σ, H, Q, l, h => ⟨v, vs, rfl, gNm_to (by simpa using l) h⟩
section
variable {X : Cx} {ca : Nat → Addr} {I : List Nat} {tgs es : List Expr} {x : Str} {px pos pt pt2 : Pos} {k k2 : Nat} {is : List Nat} {fs : Ev (List AV)}
theorem PGs.imp2 {X : Cx} {e : List Expr} {t u : TGs} (h : PGs X e t) (k : ∀ (v : List V) (σ : L2.St) (H : Hp) (Q : L2.St → Hp → Prop), u v σ H Q → t v σ H Q) : PGs X e u := ⟨fun pins s σ H v w Q I r q => h.run pins s σ H v w Q I r (k v σ H Q q)⟩
theorem gnm_nil : PGs X [] (gNm []) := PGs.imp2 pgs_nil fun vs σ H Q h => h
theorem gnm_cons (i : Nat) (h1 : PG X (.Name x px) (gName i)) (h2 : PGs X tgs (gNm is)) (hs : (assignEach (.Name x px :: tgs) X.env).map (·.2) = assign (.Name x px) X.env :: (assignEach tgs X.env).map (·.2) := by rfl) : PGs X (.Name x px :: tgs) (gNm (i :: is)) :=
  PGs.imp2 (pgs_cons h1 h2 hs) fun vs σ H Q h => h
theorem ds_tupN (hc : X.calm = true) (ha : DA ca X es fs) (hg : PGs X tgs (gNm is)) (hl : ∀ ρ avs ρ', fs ρ = some (.ok avs ρ') → avs.length = is.length)
    (hz : is.length ≤ 16777216 := by decide) (hn : (assignEach tgs X.env).length = is.length := by rfl) (hst : (assignEach tgs X.env).findIdx? (·.1) = none := by rfl)
    (hs : swapsWithSole [.Tuple tgs k pt] (.Tuple es k2 pt2) pos.line X.env = pure false := by rfl) (hw : swappedStores [.Tuple tgs k pt] (.Tuple es k2 pt2) X.env = pure none := by rfl)
    (h1 : (assignEach [.Tuple tgs k pt] X.env).map (·.2) = [assign (.Tuple tgs k pt) X.env] := by rfl) : DS ca X I (.Assign [.Tuple tgs k pt] (.Tuple es k2 pt2) pos) (sAsg I is fs) := fun W tk ps =>
  PS.imp (ps_asg (pe_tup (ha W tk)) (pg_tup hc hg hn hst) hs hw h1) fun Dn σ H q => by
    obtain ⟨G, ρ, F, o, c, e, z⟩ := q
    unfold sAsg evS at e
    cases hf : fs ρ with
    | none => rw [hf] at e; cases e
    | some u =>
      rw [hf] at e
      cases u with
      | exc er ρ' => cases e; exact ⟨G, ρ, F, _, c, hf, exc_out z⟩
      | ok avs ρ1 =>
        refine ⟨G, ρ, F, _, c, hf, fun vs G1 H1 F1 Wt c1 r n x => ?_⟩
        have hlen : vs.length = is.length := r.parts.1.trans (hl ρ avs ρ1 hf)
        refine ⟨?_, fun p hp => ⟨p, vs, rfl, .of upd_same, hlen, gNm_to hlen ?_⟩⟩
        · rw [hlen, sizeLine_eq]; exact hz
        · have xe : Ext G1 H1 nof G1 (upd H1 p (.tup vs)) (fun x => x = p) := ext_own hp
          have r2 : RepAs ⟨X.K, ca⟩ G1 (upd H1 p (.tup vs)) σ Wt vs avs := by
            have := r.domd.grow (τ := []) xe
            rw [List.append_nil] at this
            exact this.mono fun b h => h.1
          refine asg_end e (c1.grow xe (sub_own hp c1.sub)) r2 n (endS_trans z .refl (x.trans ?_))
          exact ⟨xe.gg, fun b o e n => xe.hh b o e id, fun b hb => .inl hb, fun b o e => .inl e⟩
end
end DL

namespace DL
open PySem PySem.Spec PyProof.Rows L2

/-! ### [a, b][e]: one of two own lists -/
def selK (i1 i2 : Nat) (a : AV) : Ev AV := fun ρ => match cont ρ a with
  | some (.int k) => if k = 0 then some (.ok (.pl i1 []) ρ) else if k = 1 then some (.ok (.pl i2 []) ρ) else none
  | _ => none
def evSel (i1 i2 : Nat) (fe : Ev AV) : Ev AV := fun ρ => match slotOf ρ i1, slotOf ρ i2 with
  | some _, some _ => fe.andThen (selK i1 i2) ρ
  | _, _ => none
section
variable {ca : Nat → Addr} {X : Cx} {e : Expr} {fe : Ev AV} {x y : Str} {p1 p2 p3 pos : Pos}
theorem de_sel (i1 i2 : Nat) (h1 : PE X (.Name x p1) (tVar i1)) (h2 : PE X (.Name y p2) (tVar i2)) (he : DE ca X e fe) (hs : PlainIx e) (hst : starEach [.Name x p1, .Name y p2] X.env = (false, eval (.Name x p1) X.env) :: starEach [.Name y p2] X.env := by rfl)
    (hst2 : starEach [.Name y p2] X.env = (false, eval (.Name y p2) X.env) :: starEach [] X.env := by rfl) :
    DE ca X (.Subscript (.List [.Name x p1, .Name y p2] p3) e pos) (evSel i1 i2 fe) := fun W tk =>
  PE.imp (pe_ix ix_seq (pe_lst (pa_cons h1 (pa_cons h2 pa_nil hst2) hst)) (he W tk) hs) fun σ H Q h => by
    obtain ⟨G, ρ, F, o, c, e, z⟩ := h
    unfold evSel at e
    cases q1 : slotOf ρ i1 with
    | none => rw [q1] at e; cases e
    | some d1 =>
      cases q2 : slotOf ρ i2 with
      | none => rw [q1, q2] at e; cases e
      | some d2 =>
        rw [q1, q2] at e
        obtain ⟨v1, s1, _⟩ := c.at q1
        obtain ⟨v2, s2, _⟩ := c.at q2
        refine ⟨v1, s1, v2, s2, by show 2 ≤ sizeLine; decide, fun p hp => ?_⟩
        have xe : Ext G H nof G (upd H p (.lst [v1, v2])) nof := (ext_own hp).mono (fun _ h => h) fun _ h => h.elim
        have c1 := c.grow xe (sub_own hp c.sub)
        have xp : Ext G H (un F) G (upd H p (.lst [v1, v2])) (un F) := xe.pad
        have np : ¬ un F p := fun hu => by
          obtain ⟨⟨u, hu⟩, _⟩ := c.dom hu
          rw [hp] at hu; cases hu
        refine tD_bind c1 e (fun er ρ' eo => by subst eo; exact fun G' H' F' cls dx c' ex x' => z G' H' F' cls dx c' ex (xp.trans x')) fun av ρ1 v G1 H1 F1 T ek c2 r n x => ?_
        unfold selK at ek
        cases hc : cont ρ1 av with
        | none => rw [hc] at ek; cases ek
        | some dk =>
          rw [hc] at ek
          obtain ⟨U, rk, _⟩ := r.cont c2 hc
          have hl : H1 p = some (.lst [v1, v2]) := x.hh p _ upd_same np
          have xx : Ext G H (un F) G1 H1 (un F1) := xp.trans (x.mono (fun _ h => h) fun _ h => .inl h)
          have xx2 : Ext G H (un F) G1 H1 (fun x => un F1 x ∨ nof x) := xx.mono (fun _ h => h) fun x h => h.elim id False.elim
          cases dk with
          | int k =>
            cases rk
            dsimp only at ek
            split at ek
            · rename_i hk
              subst hk
              cases ek
              exact .inl ⟨p, [v1, v2], 0, v1, rfl, rfl, .of hl, rfl, z v1 G1 H1 F1 nof c2 ⟨⟨v1, s1, rfl⟩, rfl⟩ (fun _ h => h.elim) xx2⟩
            · split at ek
              · rename_i hk
                subst hk
                cases ek
                exact .inl ⟨p, [v1, v2], 1, v2, rfl, rfl, .of hl, rfl, z v2 G1 H1 F1 nof c2 ⟨⟨v2, s2, rfl⟩, rfl⟩ (fun _ h => h.elim) xx2⟩
              · cases ek
          | _ => cases ek
end
/-! ### y = one of two own lists; y is used, then given back -/
def giveB (i j : Nat) : SOut → Option SOut
  | .nx ρ => (slotOf ρ j).map fun d => .nx ((ρ.set j none).set i (some d))
  | .ret e ρ => (slotOf ρ j).map fun d => .ret e ((ρ.set j none).set i (some d))
  | .brk ρ => (slotOf ρ j).map fun d => .brk ((ρ.set j none).set i (some d))
  | .cnt ρ => (slotOf ρ j).map fun d => .cnt ((ρ.set j none).set i (some d))
  | .exc e ρ => (slotOf ρ j).map fun d => .exc e ((ρ.set j none).set i (some d))
def alsK (j i1 i2 : Nat) (body : Sv) (a : AV) : Sv := fun ρ => match a with
  | .pl i [] => if i ≠ j ∧ (i = i1 ∨ i = i2) ∧ j < ρ.length then match slotOf ρ i with
    | some d => match body ((ρ.set i none).set j (some d)) with
      | some o => giveB i j o
      | none => none
    | none => none
    else none
  | _ => none
def sAls (j i1 i2 : Nat) (fe : Ev AV) (body : Sv) : Sv := evS fe (alsK j i1 i2 body)
theorem give_back {B : Bd} {G1 H1 G' H' : Hp} {σ σ' : L2.St} {ρ' : DEnv} {F1 F' : Nat → FP} {i j : Nat} {I : List Nat} {v : V} {d : D} {T : FP} (hij : i ≠ j) (hj : j ∉ I) (hσ : σ[i]? = some (some v)) (hjl : j < σ.length) (p : Prot (j :: i :: I) (σ.set j (some v)) σ') (c' : Cfg B G' H' σ' ρ' F')
    (hd : slotOf ρ' j = some d) (x : Ext G1 H1 (un fun q x => (q = j ∧ F1 i x) ∨ (q ≠ j ∧ F1 q x ∧ q ≠ i)) G' H' (fun x => un F' x ∨ T x)) :
    Prot I σ σ' ∧ Cfg B G' H' σ' ((ρ'.set j none).set i (some d)) (fun q x => (q = i ∧ F' j x) ∨ (q ≠ i ∧ F' q x ∧ q ≠ j)) ∧ Ext G1 H1 (fun x => un F1 x ∨ nof x) G' H' (fun x => un (fun q x => (q = i ∧ F' j x) ∨ (q ≠ i ∧ F' q x ∧ q ≠ j)) x ∨ T x) := by
  have pj : σ'[j]? = some (some v) := by rw [p.at_ j (by simp), List.getElem?_set_self hjl]
  have pi : σ'[i]? = some (some v) := by rw [p.at_ i (by simp), List.getElem?_set_ne (Ne.symm hij)]; exact hσ
  obtain ⟨v', e1, r⟩ := c'.at hd
  rw [pj] at e1
  cases e1
  refine ⟨⟨by rw [p.len, List.length_set], fun q hq => ?_⟩, (c'.drop j).put i pi r fun y hy q hq => (hq.2 (c'.dis q j y hq.1 hy)).elim, ?_⟩
  · rw [p.at_ q (by simp [hq]), List.getElem?_set_ne fun z => hj (by rw [z]; exact hq)]
  · refine x.mono (fun y ⟨q, hq⟩ => ?_) fun y hy => ?_
    · rcases hq with ⟨_, hq⟩ | ⟨_, hq, _⟩
      · exact .inl ⟨i, hq⟩
      · exact .inl ⟨q, hq⟩
    · rcases hy with ⟨q, ⟨_, hq⟩ | ⟨_, hq, _⟩⟩ | hy
      · exact .inl ⟨j, hq⟩
      · exact .inl ⟨q, hq⟩
      · exact .inr hy
theorem db_als {ca : Nat → Addr} {X : Cx} {I : List Nat} {st : Stmt} {rest : List Stmt} {e : Expr} {fe : Ev AV} {fb : Sv} (j i1 i2 : Nat) (he : DE ca X e fe) (hst : ∀ te, PE X e te → PS X st (tAsg te (gName j))) (hb : DB ca X (j :: i1 :: i2 :: I) rest fb) (hj : j ∉ I) : DB ca X I (st :: rest) (sAls j i1 i2 fe fb) := fun W tk ps =>
  PSs.imp (pss_cons (hst _ (he W tk)) (hb W tk ps)) fun Dn σ H h => by
    refine tSD_E h fun av ρ1 v G1 H1 F1 T o ek c1 r n z => ?_
    unfold alsK at ek
    cases av with
    | val d => cases ek
    | pl i p =>
      cases p with
      | cons => cases ek
      | nil =>
        dsimp only at ek
        split at ek
        case isFalse => cases ek
        rename_i hh
        obtain ⟨hij, hi, hjl⟩ := hh
        cases hs : slotOf ρ1 i with
        | none => rw [hs] at ek; cases ek
        | some d =>
          rw [hs] at ek
          dsimp only at ek
          obtain ⟨⟨v0, e0, ev⟩, hT⟩ := r
          subst hT
          have ev : v0 = v := ev
          subst ev
          obtain ⟨v1, e1, r1⟩ := c1.at hs
          rw [e0] at e1
          cases e1
          have cd := c1.drop i
          have hjl' : j < (ρ1.set i none).length := by rw [List.length_set]; exact hjl
          have c2 := cd.setName j r1 (fun y hy ⟨q, hq⟩ => hq.2 (c1.dis q i y hq.1 hy)) hjl'
          have hjs : j < σ.length := by rw [← c1.len]; exact hjl
          cases hb' : fb ((ρ1.set i none).set j (some d)) with
          | none => rw [hb'] at ek; cases ek
          | some ob =>
            rw [hb'] at ek
            have pr : ∀ {σ' : L2.St}, Prot (j :: i1 :: i2 :: I) (σ.set j (some v0)) σ' → Prot (j :: i :: I) (σ.set j (some v0)) σ' := fun p => p.sub fun q hq => by
              rcases List.mem_cons.mp hq with rfl | hq
              · simp
              · rcases List.mem_cons.mp hq with rfl | hq
                · rcases hi with rfl | rfl <;> simp
                · simp [hq]
            refine ⟨G1, _, _, ob, c2, hb', ?_⟩
            have plain : ∀ {σ' : L2.St} {G' H' : Hp} {ρ' : DEnv} {F' : Nat → FP} {d' : D}, slotOf ρ' j = some d' → Prot (j :: i1 :: i2 :: I) (σ.set j (some v0)) σ' → Cfg ⟨X.K, ca⟩ G' H' σ' ρ' F' → Ext G1 H1 (un fun q x => (q = j ∧ F1 i x) ∨ (q ≠ j ∧ F1 q x ∧ q ≠ i)) G' H' (un F') →
                Prot I σ σ' ∧ Cfg ⟨X.K, ca⟩ G' H' σ' ((ρ'.set j none).set i (some d')) (fun q x => (q = i ∧ F' j x) ∨ (q ≠ i ∧ F' q x ∧ q ≠ j)) ∧ Ext G1 H1 (fun x => un F1 x ∨ nof x) G' H' (un fun q x => (q = i ∧ F' j x) ∨ (q ≠ i ∧ F' q x ∧ q ≠ j)) := fun hd p c' x => by
              obtain ⟨a1, a2, a3⟩ := give_back (T := nof) hij hj e0 hjs (pr p) c' hd (x.mono (fun _ h => h) fun _ h => h.elim id False.elim)
              exact ⟨a1, a2, a3.mono (fun _ h => h) fun _ h => .inl h⟩
            cases ob with
            | nx ρ' =>
              obtain ⟨d', hd, rfl⟩ := Option.map_eq_some_iff.mp ek
              exact fun σ' G' H' F' p c' x => let ⟨a1, a2, a3⟩ := plain hd p c' x; z σ' G' H' _ a1 a2 a3
            | brk ρ' =>
              obtain ⟨d', hd, rfl⟩ := Option.map_eq_some_iff.mp ek
              exact fun σ' G' H' F' p c' x => let ⟨a1, a2, a3⟩ := plain hd p c' x; z σ' G' H' _ a1 a2 a3
            | cnt ρ' =>
              obtain ⟨d', hd, rfl⟩ := Option.map_eq_some_iff.mp ek
              exact fun σ' G' H' F' p c' x => let ⟨a1, a2, a3⟩ := plain hd p c' x; z σ' G' H' _ a1 a2 a3
            | exc er ρ' =>
              obtain ⟨d', hd, rfl⟩ := Option.map_eq_some_iff.mp ek
              exact fun σ' G' H' F' cls dx p c' r x => let ⟨a1, a2, a3⟩ := plain hd p c' x; z σ' G' H' _ cls dx a1 a2 r a3
            | ret u ρ' =>
              obtain ⟨d', hd, rfl⟩ := Option.map_eq_some_iff.mp ek
              intro w σ' G' H' F' T p c' r n x
              obtain ⟨a1, a2, a3⟩ := give_back (T := T) hij hj e0 hjs (pr p) c' hd x
              refine z w σ' G' H' _ T a1 a2 r (fun y hy ⟨q, hq⟩ => ?_) a3
              rcases hq with ⟨_, hq⟩ | ⟨_, hq, _⟩
              · exact n y hy ⟨j, hq⟩
              · exact n y hy ⟨q, hq⟩
end DL

namespace DL
open PySem PySem.Spec PyProof.Rows L2

/-! ### one check of an own class: fi its __init__, ms its methods, ps its properties, fs its fields -/
def propB (K : PySem.W.Frag) (p g : Addr) : Bool := eqV (PySem.W.specialIn K (.ref p) "__get__") (some (some (.builtin "property.__get__"))) && (decide (PySem.W.takesIn K (.ref p) = some true) && (match PySem.W.recIn K p "property" with
  | some (x :: _) => x == .ref g
  | _ => false))
def ownB (K : PySem.W.Frag) (C fi : Addr) (ms : List (Str × Addr)) (ps : List (Str × Addr × Addr)) (fs : List Str) : Bool :=
  PySem.W.plainGet K C Str.empty && (PySem.W.hasDictIn K C && (PySem.W.plainOver K C && (eqV (PySem.W.findIn K (.ref C) "__setattr__") (some (some (.builtin "object.__setattr__"))) && (PySem.W.makesIn K C && (eqV (PySem.W.findIn K (.ref C) "__init__") (some (some (.ref fi))) &&
  (PySem.W.isFn K (.ref fi) && (PySem.W.keepIn K (.ref C) && (ms.all (fun q => eqV (PySem.W.findIn K (.ref C) q.1) (some (some (.ref q.2))) && (PySem.W.isFn K (.ref q.2) && (PySem.W.keepIn K (.ref q.2) && PySem.W.fnIn K q.2))) &&
  (ps.all (fun q => eqV (PySem.W.findIn K (.ref C) q.1) (some (some (.ref q.2.1))) && propB K q.2.1 q.2.2) && (fs.all (fun f => eqV (PySem.W.findIn K (.ref C) f) (some none)) &&
  (eqV (PySem.W.findIn K (.ref C) "__class__") (some (some (.builtin "object.__class__"))) && (gsB K && (decide (PySem.W.mroIn K C (.type "object") = some true) && decide (PySem.W.kitOne K (.ref C) (.ref C) = some true))))))))))))))
structure OwnK (K : PySem.W.Frag) (C fi : Addr) (ms : List (Str × Addr)) (ps : List (Str × Addr × Addr)) (fs : List Str) : Prop where
  cls : Cls K C
  make : Mk K C fi
  ins : C8.InsC K C
  meth : ∀ q ∈ ms, Meth K C q.1 q.2
  mfn : ∀ q ∈ ms, PySem.W.fnIn K q.2 = true
  prop : ∀ q ∈ ps, PropOf K C q.1 q.2.1 q.2.2
  no : ∀ f ∈ fs, NoAttr K C f
theorem ownB_ok {K : PySem.W.Frag} {C fi : Addr} {ms : List (Str × Addr)} {ps : List (Str × Addr × Addr)} {fs : List Str} (h : ownB K C fi ms ps fs = true) : OwnK K C fi ms ps fs := by
  unfold ownB at h
  simp only [Bool.and_eq_true, decide_eq_true_eq] at h
  obtain ⟨h1, h2, h3, h4, h5, h6, h7, h8, h9, h10, h11, h12, h13, h14, h15⟩ := h
  have c : Cls K C := ⟨h1, h2, h3, eqV_ok h4⟩
  unfold gsB at h13
  simp only [Bool.and_eq_true, decide_eq_true_eq] at h13
  refine ⟨c, ⟨h5, eqV_ok h6, h7, h8⟩, ⟨c, eqV_ok h12, eqV_ok h13.1, h13.2, h14, h15⟩, fun q hq => ?_, fun q hq => ?_, fun q hq => ?_, fun f hf => eqV_ok (List.all_eq_true.mp h11 f hf)⟩
  · have := List.all_eq_true.mp h9 q hq
    simp only [Bool.and_eq_true] at this
    obtain ⟨a1, a2, a3, a4⟩ := this
    exact ⟨eqV_ok a1, a2, a3⟩
  · have := List.all_eq_true.mp h9 q hq
    simp only [Bool.and_eq_true] at this
    obtain ⟨a1, a2, a3, a4⟩ := this
    exact a4
  · have := List.all_eq_true.mp h10 q hq
    unfold propB at this
    simp only [Bool.and_eq_true, decide_eq_true_eq] at this
    obtain ⟨a1, a2, a3, a4⟩ := this
    refine ⟨eqV_ok a1, eqV_ok a2, a3, ?_⟩
    split at a4
    · rename_i x rest hx
      have : x = .ref q.2.2 := eq_of_beq a4
      subst this
      exact ⟨rest, hx⟩
    · cases a4

/-! ### isinstance(x, C), x an instance of C itself -/
def gIsO (k : Nat) : List D → Option D
  | [.ins c _, .cls j] => if c = k ∧ j = k then some (.bl true) else none
  | [.oi c _, .cls j] => if c = k ∧ j = k then some (.bl true) else none
  | _ => none
theorem callD_isO {ca : Nat → Addr} {X : Cx} {k : Nat} (h : C8.InsC X.K (ca k)) : CallD ca X (.builtin "isinstance") (gIsO k) := by
  intro pins s σ H xs us Q I rs hh
  obtain ⟨G, ds, d, sub, rr, e, q⟩ := hh
  unfold gIsO at e
  split at e
  · split at e
    · rename_i hc
      obtain ⟨rfl, rfl⟩ := hc
      cases e
      obtain ⟨v, T1, w, T2, rfl, r1, r2⟩ := reps2 rr
      cases r2
      cases r1 with
      | ins hi ho l ch => exact C8.call_isC h pins s σ H _ us Q I rs ⟨_, _, _, rfl, sub _ _ hi, rDL_end q sub (.bl true)⟩
    · cases e
  · split at e
    · rename_i hc
      obtain ⟨rfl, rfl⟩ := hc
      cases e
      obtain ⟨v, T1, w, T2, rfl, r1, r2⟩ := reps2 rr
      cases r2
      cases r1 with
      | oi hi ho g g2 l ch bd dj na na2 => exact C8.call_isC h pins s σ H _ us Q I rs ⟨_, _, _, rfl, hi, rDL_end q sub (.bl true)⟩
    · cases e
  · cases e
@[simp] theorem isO_i {k c j : Nat} {fs : List (Str × D)} : gIsO k [.ins c fs, .cls j] = if c = k ∧ j = k then some (.bl true) else none := rfl
@[simp] theorem isO_o {k c j : Nat} {fs : List (Str × D)} : gIsO k [.oi c fs, .cls j] = if c = k ∧ j = k then some (.bl true) else none := rfl

/-! ### the table of fields -/
def fldT (l : List (Nat × List Str)) : Nat → Str → Bool := fun c f => l.any fun q => q.1 == c && q.2.any fun g => decide (g = f)
theorem fldT_ok {K : PySem.W.Frag} {ca : Nat → Addr} {l : List (Nat × List Str)} (h : ∀ q ∈ l, ∀ f ∈ q.2, Cls K (ca q.1) ∧ NoAttr K (ca q.1) f) : FldOk K ca (fldT l) := by
  have key : ∀ c f, fldT l c f = true → Cls K (ca c) ∧ NoAttr K (ca c) f := fun c f e => by
    unfold fldT at e
    obtain ⟨q, hq, e2⟩ := List.any_eq_true.mp e
    rw [Bool.and_eq_true] at e2
    obtain ⟨g, hg, e3⟩ := List.any_eq_true.mp e2.2
    have e4 : q.1 = c := eq_of_beq e2.1
    have e5 : g = f := of_decide_eq_true e3
    subst e4
    subst e5
    exact h q hq g hg
  exact ⟨fun c f e => (key c f e).1, fun c f e => (key c f e).2⟩
end DL

namespace DL
open PySem PySem.Spec PyProof.Rows L2

/-! ### xs.insert(i, x) at any place from 0 to the end -/
def gmInsAt : D → List D → Option (D × D)
  | .ol ds, [.int i, x] => if ds.length < 16777216 ∧ 0 ≤ i ∧ i ≤ ds.length then some (.ol (ds.take i.toNat ++ [x] ++ ds.drop i.toNat), .non) else none
  | _, _ => none
theorem ins_get {α : Type} {xs : List α} {x : α} {k i : Nat} (h : k ≤ xs.length) : (xs.take k ++ [x] ++ xs.drop k)[i]? = if i < k then xs[i]? else if i = k then some x else xs[i - 1]? := by
  rw [List.append_assoc]
  by_cases h1 : i < k
  · rw [if_pos h1, List.getElem?_append_left (by simp; omega), List.getElem?_take_of_lt h1]
  · rw [if_neg h1, List.getElem?_append_right (by simp; omega), List.length_take, Nat.min_eq_left h]
    by_cases h2 : i = k
    · subst h2
      rw [if_pos rfl]
      simp
    · rw [if_neg h2]
      obtain ⟨j, hj⟩ : ∃ j, i - k = j + 1 := ⟨i - k - 1, by omega⟩
      rw [hj]
      rw [List.getElem?_append_right (by simp)]
      simp only [List.length_cons, List.length_nil, Nat.add_sub_cancel, Nat.zero_add]
      rw [List.getElem?_drop]
      congr 1
      omega
section
variable {ca : Nat → Addr} {X : Cx}
theorem mutD_insAt : MutD ca X "list.insert" gmInsAt := by
  intro pins s σ H x xs v us Q I rx rs h
  obtain ⟨G, d, U, ds, d', r, sub, rd, rr, e, q⟩ := h
  unfold gmInsAt at e
  split at e
  · rename_i items i y
    split at e
    · rename_i hz
      obtain ⟨hz, h0, h1⟩ := hz
      cases e
      obtain ⟨i', y', rfl, ri, ry⟩ := paired2 rr
      cases ri
      obtain ⟨a, rfl⟩ := rep_ol_ref rd
      obtain ⟨vs, ha, l, ch⟩ := ol_change rd
      have k1 : i.toNat ≤ items.length := by omega
      have k2 : i.toNat ≤ vs.length := by omega
      obtain ⟨U', r', x'⟩ := ch (vs.take i.toNat ++ [y'] ++ vs.drop i.toNat) (items.take i.toNat ++ [y] ++ items.drop i.toNat) (fun j => if j < i.toNat then some j else if j = i.toNat then none else some (j - 1)) (by simp [l]) (fun j j' k h1 h2 => by
        split at h1 <;> split at h2
        · cases h1; cases h2; rfl
        · split at h2
          · cases h2
          · cases h1; injection h2 with h2; omega
        · split at h1
          · cases h1
          · cases h2; injection h1 with h1; omega
        · split at h1
          · cases h1
          · split at h2
            · cases h2
            · injection h1 with h1; injection h2 with h2; omega) fun j v d e1 e2 => by
        rw [ins_get k2] at e1
        rw [ins_get k1] at e2
        split at e1
        · rename_i hj
          rw [if_pos hj] at e2
          exact .inl ⟨j, by rw [if_pos hj], e1, e2⟩
        · rename_i hj
          rw [if_neg hj] at e2
          split at e1
          · rename_i hk
            rw [if_pos hk] at e2
            cases e1
            cases e2
            exact .inr ⟨by rw [if_neg hj, if_pos hk], ry⟩
          · rename_i hk
            rw [if_neg hk] at e2
            exact .inl ⟨j - 1, by rw [if_neg hj, if_neg hk], e1, e2⟩
      exact mt_insert pins s σ H _ _ v us Q I rx rs ⟨a, vs, i, y', rfl, rfl, ha, by rw [sizeLine_eq, l]; exact hz, h0, by omega, q .non _ _ _ (g_upd rd sub) r' .non x'⟩
    · cases e
  · cases e
end
@[simp] theorem gmInsAt_ol {ds : List D} {i : Int} {x : D} : gmInsAt (.ol ds) [.int i, x] = if ds.length < 16777216 ∧ 0 ≤ i ∧ i ≤ ds.length then some (.ol (ds.take i.toNat ++ [x] ++ ds.drop i.toNat), .non) else none := rfl

/-! ### keywords of a class -/
theorem kwm_of {K : PySem.W.Frag} {x qual : Str} {st : Stmt} {f : Addr} {fd : FuncData} {ps ks : List Str} {is : List Nat} (F : Fun K x qual st f fd)
    (h : ∀ (kV doc pm : Value) (an : Option Addr) (cdv ct : Value) (u : Value) (ws us : List Value), ws.length = ks.length → permD ws is = some us → bindArgs (PySem.W.fnOf x qual (defArgs st) (defBody st) (defScope st) .none kV doc pm an cdv ct) ⟨[u], ks.zip ws⟩ = pure (ps.zip (u :: us))) (l : is.length + 1 = ps.length) : KwM K fd ps ks is := by
  obtain ⟨oc, od, kV, doc, pm, an, cdv, ct, osl, rfl, lk, hcd⟩ := F.ex
  exact ⟨fun s u ws us hl e => .of_eq (h kV doc pm an cdv ct u ws us hl e), l⟩

/-! ### a chained comparison as a test -/
section
variable {ca : Nat → Addr} {X : Cx} {a b c : Expr} {fa fb fc : Ev AV} {pos : Pos} {op op' : CmpOp} {g1 g2 : List D → Option D}
theorem tD_chain {B : Bd} {W : WX} {σ : L2.St} {H : Hp} {Q : V → Hp → Prop} {fa fb fc : Ev AV} {g1 g2 : List D → Option D} (h : tD B W (evChain g1 g2 fa fb fc) σ H Q) : tChain (fun x y H Q => rDL B g1 [x, y] H Q) (fun x y H Q => rDL B g2 [x, y] H Q) (tD B W fa) (tD B W fb) (tD B W fc) σ H Q := by
  obtain ⟨G, ρ, F, o, c0, e, z⟩ := h
  have q2 : tDL B W (evCons fa (evCons fb evNil)) σ H fun vs H1 => ∀ x y, vs = [x, y] → rDL B g1 [x, y] H1 fun w H3 => ∃ k, w = .bl k ∧ (if k = true then tD B W fc σ H3 fun w' H4 => rDL B g2 [y, w'] H4 Q else Q (.bl false) H3) := by
    refine tDL_bind c0 e (fun er ρ' eo => by subst eo; exact z) fun avs ρ1 vs G1 H1 F1 Wt ek c1 r1 n1 x1 x y hv => ?_
    subst hv
    have x1' : Ext G H (un F) G1 H1 (un F1) := x1.mono (fun _ h => h) fun _ h => .inl h
    obtain ⟨a1, b1, T, U, rfl, rx, ry⟩ := r1.two'
    cases b1 with
    | pl i p => cases ek
    | val y' =>
      unfold chR at ek
      dsimp only at ek
      split at ek
      case isFalse => cases ek
      rename_i hsh
      cases h1 : conts ρ1 [a1, .val y'] with
      | none => rw [h1] at ek; cases ek
      | some ds =>
        rw [h1] at ek
        dsimp only at ek
        have ry0 : Rep B G1 H1 y y' nof := rep_sh (show Rep B G1 H1 y y' U from ry) hsh
        split at ek
        · rename_i hg
          refine ⟨G1, ds, .bl true, c1.sub, reps_of c1 r1 h1, hg, fun v G2 H2 T2 s2 r2 x2 => ?_⟩
          cases r2
          refine ⟨true, rfl, ?_⟩
          rw [if_pos rfl]
          refine tD_bind (c1.grow x2 s2) ek (fun er ρ' eo => by
            subst eo
            intro G' H' F' cls dx c' xa x'
            exact z G' H' F' cls dx c' xa ((x1'.more x2).trans (x'.mono (fun _ h => .inl h) fun _ h => h))) fun av ρ2 w G3 H3 F3 T3 ek3 c3 r3 n3 x3 => ?_
          unfold chK at ek3
          cases h4 : cont ρ2 av with
          | none => rw [h4] at ek3; cases ek3
          | some dc =>
            rw [h4] at ek3
            dsimp only at ek3
            cases h5 : g2 [y', dc] with
            | none => rw [h5] at ek3; cases ek3
            | some d =>
              rw [h5] at ek3
              cases ek3
              obtain ⟨U4, r4, _⟩ := r3.cont c3 h4
              have ry3 := ((ry0.keep x2.gg fun _ h => h.elim : Rep B G2 H2 y y' nof).stay x3)
              refine ⟨G3, [y', dc], d, c3.sub, .cons ⟨_, ry3⟩ (.cons ⟨_, r4⟩ .nil), h5, fun v5 G5 H5 T5 s5 r5 x5 => ?_⟩
              exact z v5 G5 H5 F3 T5 (c3.grow x5 s5) r5 (c3.new x5) (((x1'.more x2).trans (x3.mono (fun _ h => .inl h) fun x h => .inl h)).more x5)
        · rename_i hg
          cases ek
          refine ⟨G1, ds, .bl false, c1.sub, reps_of c1 r1 h1, hg, fun v G2 H2 T2 s2 r2 x2 => ?_⟩
          cases r2
          refine ⟨false, rfl, ?_⟩
          rw [if_neg Bool.false_ne_true]
          exact z (.bl false) G2 H2 F1 nof (c1.grow x2 s2) (.bl false) (fun _ h => h.elim) ((x1'.more x2).mono (fun _ h => h) fun x h => .inl (h.elim id False.elim))
        · cases ek
  exact tD_map (tDL_cons q2) fun x H1 h1 => tD_map (tDL_cons h1) fun y H2 h2 => tDL_nil h2 x y rfl
theorem dt_chain (ho : Op2 ca X (compareOp op) g1) (ho' : Op2 ca X (compareOp op') g2) (ha : DE ca X a fa) (hb : DE ca X b fb) (hc : DE ca X c fc) (hm : lastMarks [op, op'] [b, c] = false := by with_unfolding_all rfl) :
    DT ca X (.Compare a [op, op'] [b, c] pos) (evT (evChain g1 g2 fa fb fc)) :=
  fun W tk => PT.imp (pt_chain ho ho' (ha W tk) (hb W tk) (hc W tk) hm) fun σ H Q h => tD_chain (tDT_val h)
end
/-! ### y = [..], y a cell -/
theorem sw_cell {elt : Expr} {gs : List Comprehension} {scope : Scope} {pos py : Pos} {y : Str} {l : Nat} {env : Env} (hy : env.scope.names.lookup y = some .cell) : swapsWith (.ListComp elt gs scope pos) (some (.Name y py)) l env = pure false := by
  have ky : env.kindOf y = some .cell := hy
  have hn : ((some NameKind.cell : Option NameKind) == some NameKind.local) = false := rfl
  unfold swapsWith
  simp only [ky, hn, Bool.and_false, Bool.false_and]
end DL

namespace DL
open PySem PySem.Spec PyProof.Rows L2

/-! ### text * count -/
def gMulS : List D → Option D
  | [.str x, .int k] => if 0 ≤ k ∧ k < 2 ^ 31 ∧ x.length * k.toNat ≤ 16777216 then some (.str (Txt.mul x k)) else none
  | _ => none
theorem mulOk_of {x : Str} {k : Int} (h0 : 0 ≤ k) (h1 : k < 2 ^ 31) (hz : x.length * k.toNat ≤ 16777216) : MulOk x k := by
  refine ⟨?_, fun hk _ => ?_, fun _ _ => ?_⟩
  · rw [Bool.or_eq_false_iff]
    exact ⟨decide_eq_false (by omega), decide_eq_false (by omega)⟩
  · have h2 : (x.length : Int) * k ≤ 16777216 := by
      have : ((x.length * k.toNat : Nat) : Int) ≤ 16777216 := by omega
      rw [Int.natCast_mul, Int.toNat_of_nonneg h0] at this
      exact this
    have := Int.le_ediv_of_mul_le (by omega : 0 < k) (by omega : (x.length : Int) * k ≤ 2 ^ 63 - 1)
    omega
  · show decide _ = false
    refine decide_eq_false ?_
    rw [sizeLine_eq]
    omega
section
variable {ca : Nat → Addr} {X : Cx}
theorem op_mul_str : OpR X (binaryOp .Mult) (fun x y H Q => ∃ z k, x = .str z ∧ y = .int k ∧ MulOk z k ∧ Q (.str (Txt.mul z k)) H) := by
  intro pins s σ H x y v u Q I rx ry h
  obtain ⟨z, k, rfl, rfl, hk, q⟩ := h
  obtain ⟨t, rfl⟩ := rx
  obtain ⟨t', rfl⟩ := ry
  exact SB.mul hk fun t' tk => ⟨.str _, H, I.tok _, ⟨_, rfl⟩, q⟩
theorem opD_mulS : Op2 ca X (binaryOp .Mult) gMulS := by
  intro pins s σ H x y v u Q I rx ry h
  obtain ⟨G, ds, d, sub, rs, e, q⟩ := h
  obtain ⟨d1, T1, d2, T2, rfl, r1, r2⟩ := rs.two
  unfold gMulS at e
  split at e
  · rename_i z k heq
    cases heq; cases r1; cases r2
    split at e
    · rename_i hc
      cases e
      exact op_mul_str pins s σ H _ _ v u Q I rx ry ⟨_, _, rfl, rfl, mulOk_of hc.1 hc.2.1 hc.2.2, rDL_end q sub (.str _)⟩
    · cases e
  · cases e

/-! ### tuple + tuple, none of them empty -/
def gAddT : List D → Option D
  | [.tup xs, .tup ys] => if xs ≠ [] ∧ ys ≠ [] ∧ xs.length + ys.length ≤ 16777216 then some (.tup (xs ++ ys)) else none
  | _ => none
theorem opD_addT : Op2 ca X (binaryOp .Add) gAddT := by
  intro pins s σ H x y v u Q I rx ry h
  obtain ⟨G, ds, d, sub, rs, e, q⟩ := h
  obtain ⟨d1, T1, d2, T2, rfl, r1, r2⟩ := rs.two
  unfold gAddT at e
  split at e
  · rename_i xs ys heq
    cases heq
    split at e
    · rename_i hc
      obtain ⟨nx, ny, hz⟩ := hc
      cases e
      cases r1 with
      | tup h1 l1 c1 =>
        cases r2 with
        | tup h2 l2 c2 =>
          rename_i vs1 _ vs2
          have n1 : vs1 ≠ [] := fun z => nx (List.eq_nil_of_length_eq_zero (by rw [← l1, z]; rfl))
          have n2 : vs2 ≠ [] := fun z => ny (List.eq_nil_of_length_eq_zero (by rw [← l2, z]; rfl))
          refine op_catA pins s σ H _ _ v u Q I rx ry ⟨_, _, vs1, vs2, rfl, rfl, sqT_mono h1 sub, sqT_mono h2 sub, by rw [sizeLine_eq, l1, l2]; exact hz, fun z => absurd z n1, fun _ z => absurd z n2, fun _ _ p hp => ?_⟩
          refine q _ _ _ nof (sub_new hp sub) (.tup (.inl (.inl upd_same)) (by rw [List.length_append, List.length_append, l1, l2]) fun i v d e1 e2 => ?_) (ext_new hp sub)
          rcases get_append e1 with ⟨hi, e1⟩ | ⟨hi, e1⟩
          · rw [List.getElem?_append_left (by omega)] at e2
            exact (c1 _ v d e1 e2).keep (ext_new hp sub).gg fun _ h => h.elim
          · rw [List.getElem?_append_right (by omega), ← l1] at e2
            exact (c2 _ v d e1 e2).keep (ext_new hp sub).gg fun _ h => h.elim
    · cases e
  · cases e

/-! ### min of three -/
def gMin3 : List D → Option D
  | [.int i, .int j, .int k] => some (.int (if k < (if j < i then j else i) then k else if j < i then j else i))
  | _ => none
theorem callD_min3 (hc : X.calm = true) : CallD ca X (.builtin "min") gMin3 := by
  intro pins s σ H xs us Q I rs h
  obtain ⟨G, ds, d, sub, rr, e, q⟩ := h
  unfold gMin3 at e
  split at e
  · rename_i i j k
    cases e
    cases rr with
    | cons a t =>
      obtain ⟨T, r1⟩ := a
      obtain ⟨v, T1, w, T2, rfl, r2, r3⟩ := reps2 t
      cases r1; cases r2; cases r3
      refine call_min3Nu hc pins s σ H _ us Q I rs ⟨_, _, _, _, rfl, ?_, rDL_end q sub (.int _)⟩
      show ((some (decide (j < i))).map fun c => if c = true then V.int j else V.int i).bind (fun m => nuMin2 m (.int k)) = _
      by_cases h : j < i
      · rw [decide_eq_true h, if_pos h]
        show (some (decide (k < j))).map (fun c => if c = true then V.int k else V.int j) = _
        by_cases h2 : k < j
        · rw [decide_eq_true h2, if_pos h2]; rfl
        · rw [decide_eq_false h2, if_neg h2]; rfl
      · rw [decide_eq_false h, if_neg h]
        show (some (decide (k < i))).map (fun c => if c = true then V.int k else V.int i) = _
        by_cases h2 : k < i
        · rw [decide_eq_true h2, if_pos h2]; rfl
        · rw [decide_eq_false h2, if_neg h2]; rfl
  · cases e
end

/-! ### x(k = a, ..), x a name that holds an instance; the keywords in the parameters' order -/
section
variable {ca : Nat → Addr} {X : Cx} {c k : Nat} {f : Addr} {fd : FuncData} {ps : List Str} {x : Str} {p pos : Pos} {fo : Ev AV} {fs : Ev (List AV)} {m : Mir}
theorem de_callIK {ms : List Bool} {ks : List Str} {is : List Nat} {kws : List Keyword} (F : FnD X.prog X.w X.K X.mg X.base ca k f fd ps m) (hf : PySem.W.findIn X.K (.ref (ca c)) "__call__" = some (some (.ref f))) (hfn : PySem.W.isFn X.K (.ref f) = true) (hl : PySem.W.fnIn X.K f = true) (hr : Room k X.A) (hb : KwM X.K fd ps ks is)
    (hid : ∀ ws : List Value, ws.length = ks.length → permD ws is = some ws) (ho : DE ca X (.Name x p) fo) (hkw : DK ca X kws fs) (hn : ∀ ρ avs ρ', fs ρ = some (.ok avs ρ') → avs.length = ks.length) (hkl : ks.length + 1 = ps.length)
    (hall : (backToKw pos (keywordEach kws X.env)).all (·.1.isSome) = true := by rfl) (hks : (backToKw pos (keywordEach kws X.env)).filterMap (·.1) = ks := by rfl)
    (hpl : ((backTo pos (starEach [] X.env)).any (·.1) || (backToKw pos (keywordEach kws X.env)).any (·.1.isNone)) = false := by rfl) : DE ca X (.Call (.Name x p) [] kws pos) (evCallI c ms m (evCons fo fs)) := fun W tk => ⟨fun pins s σ H Q I h => by
  have h2 := tDL_cons (tD_callI (n := ps.length) h fun ρ avs ρ' q => by
    obtain ⟨a, as, ρ1, ρ2, rfl, e2⟩ := evCons_len q
    rw [List.length_cons, hn _ _ _ e2, hkl])
  refine wpAny_Call_Name_kw (thn ((ho W tk).run pins s σ H _ I h2) fun u s1 ⟨v, H1, I1, rv, q⟩ => ?_)
  refine callWith_I (P := fun h => PySem.W.Looks (model X.prog X.w) h (keeperOf u) .caller) hpl (fun _ h => h) (PyProof.Rows.evalArgs_kw2_nil hall ?_)
  refine thn ((hkw W tk).run pos pins s1 σ H1 _ I1 q) fun ws s2 ⟨vs, H2, I2, r, q1, q2⟩ => ?_
  obtain ⟨a, dx, fl, ev, ea, _⟩ := q1 v vs rfl
  subst ev
  obtain rfl : u = Value.ref a := rv
  obtain ⟨mA, O, _⟩ := L2.ins_get I2.hok ea
  refine ⟨keeps_inst O, wpAny_call (call_inst I2.kIn O hf hfn hl ?_)⟩
  rw [hks]
  have hwl : ws.length = ks.length := by
    have := q2.1
    rw [List.length_cons] at this
    rw [← r.length]
    omega
  have b := hb.to s2 (.ref a) ws ws hwl (hid ws hwl)
  refine codeAny_mono (F.run X.A X.stack s2 H2 ⟨[.ref a], ks.zip ws⟩ (.ref a :: ws) (.ref a :: vs) Q (WE W σ) hr I2.env0 b (show Vals (V.ref a :: vs) (Value.ref a :: ws) from .cons rfl r) q2) fun r s' hq => ?_
  cases r with
  | error er => exact passAt tk σ pins H2 s2 er s' I2 hq
  | ok fl => cases fl <;> first | exact hq.elim | exact I2.after hq⟩
end
end DL

namespace K04
open PySem PySem.Spec PyProof.Rows L2 DL
/-! ### the text -/
def topS (i : Nat) : Stmt := PySem.Challenge.pw_wholeworths_k04_worths_by_rows.main.body.getD i (.Pass ⟨0, 0, 0, 0⟩)
def initS : Stmt := match topS 3 with
  | .ClassDef (body := b) .. => b.getD 0 (.Pass ⟨0, 0, 0, 0⟩)
  | s => s
theorem sc_init : FnScope [("self" : Str), ("value" : Str)] [("self" : Str), ("value" : Str)] (defScope initS) := ⟨rfl, rfl, rfl, by decide +kernel, rfl, by decide +kernel, by decide +kernel⟩
def mthS (i k : Nat) : Stmt := match topS i with
  | .ClassDef (body := b) .. => b.getD k (.Pass ⟨0, 0, 0, 0⟩)
  | s => s
abbrev S_integers_behind : Stmt := topS 23
abbrev N_integers_behind : List Str := ["steps", "integers", "found", "state", "behind", "integer"]
abbrev P_integers_behind : List Str := ["steps", "integers"]
theorem sc_integers_behind : FnScope N_integers_behind P_integers_behind (defScope S_integers_behind) := ⟨rfl, rfl, rfl, by decide +kernel, rfl, by decide +kernel, by decide +kernel⟩
abbrev S_integers_of : Stmt := topS 14
abbrev N_integers_of : List Str := ["row", "below", "number"]
abbrev P_integers_of : List Str := ["row"]
theorem sc_integers_of : FnScope N_integers_of P_integers_of (defScope S_integers_of) := ⟨rfl, rfl, rfl, by decide +kernel, rfl, by decide +kernel, by decide +kernel⟩
abbrev S_known : Stmt := topS 19
abbrev N_known : List Str := ["message", "signs", "sign"]
abbrev P_known : List Str := ["message", "signs"]
theorem sc_known : FnScope N_known P_known (defScope S_known) := ⟨rfl, rfl, rfl, by decide +kernel, rfl, by decide +kernel, by decide +kernel⟩
abbrev S_lowest : Stmt := topS 10
abbrev N_lowest : List Str := ["above", "below", "common"]
abbrev P_lowest : List Str := ["above", "below"]
theorem sc_lowest : FnScope N_lowest P_lowest (defScope S_lowest) := ⟨rfl, rfl, rfl, by decide +kernel, rfl, by decide +kernel, by decide +kernel⟩
abbrev S_Machine____call__ : Stmt := mthS 24 6
abbrev N_Machine____call__ : List Str := ["self", "message", "integers", "below", "sign", "steps", "share", "ends", "one", "other"]
abbrev P_Machine____call__ : List Str := ["self", "message"]
theorem sc_Machine____call__ : FnScope N_Machine____call__ P_Machine____call__ (defScope S_Machine____call__) := ⟨rfl, rfl, rfl, by decide +kernel, rfl, by decide +kernel, by decide +kernel⟩
abbrev S_is_number : Stmt := topS 11
abbrev N_is_number : List Str := ["value", "above", "below"]
abbrev P_is_number : List Str := ["value"]
theorem sc_is_number : FnScope N_is_number P_is_number (defScope S_is_number) := ⟨rfl, rfl, rfl, by decide +kernel, rfl, by decide +kernel, by decide +kernel⟩
abbrev S_checked : Stmt := topS 12
abbrev N_checked : List Str := ["value"]
abbrev P_checked : List Str := ["value"]
theorem sc_checked : FnScope N_checked P_checked (defScope S_checked) := ⟨rfl, rfl, rfl, by decide +kernel, rfl, by decide +kernel, by decide +kernel⟩
abbrev S_checked_sign : Stmt := topS 18
abbrev N_checked_sign : List Str := ["sign", "signs"]
abbrev P_checked_sign : List Str := ["sign", "signs"]
theorem sc_checked_sign : FnScope N_checked_sign P_checked_sign (defScope S_checked_sign) := ⟨rfl, rfl, rfl, by decide +kernel, rfl, by decide +kernel, by decide +kernel⟩
abbrev S_checked_signs : Stmt := topS 17
abbrev N_checked_signs : List Str := ["signs", "last", "sign"]
abbrev P_checked_signs : List Str := ["signs"]
theorem sc_checked_signs : FnScope N_checked_signs P_checked_signs (defScope S_checked_signs) := ⟨rfl, rfl, rfl, by decide +kernel, rfl, by decide +kernel, by decide +kernel⟩
abbrev S_checked_machine : Stmt := topS 21
abbrev N_checked_machine : List Str := ["signs", "begin", "roads", "end", "number", "road"]
abbrev P_checked_machine : List Str := ["signs", "begin", "roads", "end"]
theorem sc_checked_machine : FnScope N_checked_machine P_checked_machine (defScope S_checked_machine) := ⟨rfl, rfl, rfl, by decide +kernel, rfl, by decide +kernel, by decide +kernel⟩
abbrev S_steps_of : Stmt := topS 22
abbrev N_steps_of : List Str := ["roads", "sign", "below", "road", "steps", "state", "other", "behind", "number"]
abbrev P_steps_of : List Str := ["roads", "sign"]
theorem sc_steps_of : FnScope N_steps_of P_steps_of (defScope S_steps_of) := ⟨rfl, rfl, rfl, by decide +kernel, rfl, by decide +kernel, by decide +kernel⟩
abbrev S_Machine____init__ : Stmt := mthS 24 0
abbrev N_Machine____init__ : List Str := ["self", "signs", "begin", "roads", "end", "sign"]
abbrev P_Machine____init__ : List Str := ["self", "signs", "begin", "roads", "end"]
theorem sc_Machine____init__ : FnScope N_Machine____init__ P_Machine____init__ (defScope S_Machine____init__) := ⟨rfl, rfl, rfl, by decide +kernel, rfl, by decide +kernel, by decide +kernel⟩
abbrev S__law_deck : Stmt := topS 26
abbrev N__law_deck : List Str := ["script", "mark", "great", "cell"]
abbrev P__law_deck : List Str := ["script"]
theorem sc__law_deck : FnScope N__law_deck P__law_deck (defScope S__law_deck) := ⟨rfl, rfl, rfl, by decide +kernel, rfl, by decide +kernel, by decide +kernel⟩
abbrev S__law_draw : Stmt := topS 27
abbrev N__law_draw : List Str := ["deck", "limit", "found", "stir"]
abbrev P__law_draw : List Str := ["deck", "limit"]
theorem sc__law_draw : FnScope N__law_draw P__law_draw (defScope S__law_draw) := ⟨rfl, rfl, rfl, by decide +kernel, rfl, by decide +kernel, by decide +kernel⟩
abbrev S__law_is_refused : Stmt := topS 40
abbrev N__law_is_refused : List Str := ["deck", "machine", "signs", "text", "left", "letter", "wrong", "k", "place", "due", "sign", "caught", "e"]
abbrev P__law_is_refused : List Str := ["deck", "machine", "signs", "text"]
theorem sc__law_is_refused : FnScope N__law_is_refused P__law_is_refused (defScope S__law_is_refused) := ⟨rfl, rfl, rfl, by decide +kernel, rfl, by decide +kernel, by decide +kernel⟩
abbrev S__law_gcd : Stmt := topS 28
abbrev N__law_gcd : List Str := ["one", "other"]
abbrev P__law_gcd : List Str := ["one", "other"]
theorem sc__law_gcd : FnScope N__law_gcd P__law_gcd (defScope S__law_gcd) := ⟨rfl, rfl, rfl, by decide +kernel, rfl, by decide +kernel, by decide +kernel⟩
abbrev S__law_over : Stmt := topS 33
abbrev N__law_over : List Str := ["numbers", "found", "above", "below"]
abbrev P__law_over : List Str := ["numbers"]
theorem sc__law_over : FnScope N__law_over P__law_over (defScope S__law_over) := ⟨rfl, rfl, rfl, by decide +kernel, rfl, by decide +kernel, by decide +kernel⟩
abbrev S__law_scaled : Stmt := topS 34
abbrev N__law_scaled : List Str := ["parts", "first", "last", "middle", "road", "begin", "above", "below", "end", "roads"]
abbrev P__law_scaled : List Str := ["parts"]
theorem sc__law_scaled : FnScope N__law_scaled P__law_scaled (defScope S__law_scaled) := ⟨rfl, rfl, rfl, by decide +kernel, rfl, by decide +kernel, by decide +kernel⟩
abbrev S__law_stepped : Stmt := topS 35
abbrev N__law_stepped : List Str := ["roads", "row", "sign", "found", "state", "other", "behind", "integer"]
abbrev P__law_stepped : List Str := ["roads", "row", "sign"]
theorem sc__law_stepped : FnScope N__law_stepped P__law_stepped (defScope S__law_stepped) := ⟨rfl, rfl, rfl, by decide +kernel, rfl, by decide +kernel, by decide +kernel⟩
abbrev S__law_is_worth : Stmt := topS 39
abbrev N__law_is_worth : List Str := ["found", "parts", "text", "begin", "first", "roads", "middle", "end", "last", "row", "below", "sign", "above", "k", "one"]
abbrev P__law_is_worth : List Str := ["found", "parts", "text"]
theorem sc__law_is_worth : FnScope N__law_is_worth P__law_is_worth (defScope S__law_is_worth) := ⟨rfl, rfl, rfl, by decide +kernel, rfl, by decide +kernel, by decide +kernel⟩
abbrev S__law_message : Stmt := topS 37
abbrev N__law_message : List Str := ["deck", "signs", "limit", "k"]
abbrev P__law_message : List Str := ["deck", "signs", "limit"]
theorem sc__law_message : FnScope N__law_message P__law_message (defScope S__law_message) := ⟨rfl, rfl, rfl, by decide +kernel, rfl, by decide +kernel, by decide +kernel⟩
abbrev S__law_messages : Stmt := topS 38
abbrev N__law_messages : List Str := ["deck", "signs", "whole", "found", "sign", "k", "piece"]
abbrev P__law_messages : List Str := ["deck", "signs", "whole"]
theorem sc__law_messages : FnScope N__law_messages P__law_messages (defScope S__law_messages) := ⟨rfl, rfl, rfl, by decide +kernel, rfl, by decide +kernel, by decide +kernel⟩
abbrev S__law_pair : Stmt := topS 29
abbrev N__law_pair : List Str := ["above", "below", "common"]
abbrev P__law_pair : List Str := ["above", "below"]
theorem sc__law_pair : FnScope N__law_pair P__law_pair (defScope S__law_pair) := ⟨rfl, rfl, rfl, by decide +kernel, rfl, by decide +kernel, by decide +kernel⟩
abbrev S__law_number : Stmt := topS 31
abbrev N__law_number : List Str := ["deck", "great", "above"]
abbrev P__law_number : List Str := ["deck", "great"]
theorem sc__law_number : FnScope N__law_number P__law_number (defScope S__law_number) := ⟨rfl, rfl, rfl, by decide +kernel, rfl, by decide +kernel, by decide +kernel⟩
abbrev S__law_machine : Stmt := topS 32
abbrev N__law_machine : List Str := ["deck", "signs", "many", "most", "great", "begin", "k", "roads", "road"]
abbrev P__law_machine : List Str := ["deck", "signs", "many", "most", "great"]
theorem sc__law_machine : FnScope N__law_machine P__law_machine (defScope S__law_machine) := ⟨rfl, rfl, rfl, by decide +kernel, rfl, by decide +kernel, by decide +kernel⟩
abbrev S__law_signs : Stmt := topS 30
abbrev N__law_signs : List Str := ["deck", "left", "letter", "picked", "k"]
abbrev P__law_signs : List Str := ["deck"]
theorem sc__law_signs : FnScope N__law_signs P__law_signs (defScope S__law_signs) := ⟨rfl, rfl, rfl, by decide +kernel, rfl, by decide +kernel, by decide +kernel⟩
abbrev S__law_some_machine : Stmt := topS 36
abbrev N__law_some_machine : List Str := ["deck", "signs", "kind", "many", "parts", "whole", "above", "below", "roads", "road"]
abbrev P__law_some_machine : List Str := ["deck"]
theorem sc__law_some_machine : FnScope N__law_some_machine P__law_some_machine (defScope S__law_some_machine) := ⟨rfl, rfl, rfl, by decide +kernel, rfl, by decide +kernel, by decide +kernel⟩
abbrev S_law : Stmt := topS 41
abbrev N_law : List Str := ["script", "deck", "rows", "turn", "parts", "whole", "machine", "k", "messages", "text"]
abbrev P_law : List Str := ["script"]
theorem sc_law : FnScope N_law P_law (defScope S_law) := ⟨rfl, rfl, rfl, by decide +kernel, rfl, by decide +kernel, by decide +kernel⟩
/-! ### what the defs compute: slots are numbered as in N_.. -/
def exs : List Nat := [0, 1, 2, 3, 4, 5]
def ftab : Nat → Str → Bool := fldT [(20, [("_signs" : Str), ("_begin" : Str), ("_steps" : Str), ("_end" : Str), ("_roads" : Str)])]
@[simp] theorem ft_20__signs : ftab 20 ("_signs" : Str) = true := by decide +kernel
@[simp] theorem ft_20__begin : ftab 20 ("_begin" : Str) = true := by decide +kernel
@[simp] theorem ft_20__steps : ftab 20 ("_steps" : Str) = true := by decide +kernel
@[simp] theorem ft_20__end : ftab 20 ("_end" : Str) = true := by decide +kernel
@[simp] theorem ft_20__roads : ftab 20 ("_roads" : Str) = true := by decide +kernel
def tab : Tab := tabX exs
def catch_ (k : Nat) : Nat → Option Bool := catX exs k
noncomputable def L_integers_behind_0 : Sv := sIf (evT (ev2 gNe (evIx (evV 1) (evV 3)) (evC (.int 0)))) (sTgt (tgSub gmSet (evCons (evV 2) (evCons (evV 4) evNil))) (ev2 gAdd (evIx (evV 2) (evV 4)) (ev2 gMul (evIx (evV 1) (evV 3)) (evV 5)))) (sNil)
theorem a_L_integers_behind_0 {ρ : DEnv} : L_integers_behind_0 ρ = (sIf (evT (ev2 gNe (evIx (evV 1) (evV 3)) (evC (.int 0)))) (sTgt (tgSub gmSet (evCons (evV 2) (evCons (evV 4) evNil))) (ev2 gAdd (evIx (evV 2) (evV 4)) (ev2 gMul (evIx (evV 1) (evV 3)) (evV 5)))) (sNil)) ρ := rfl
noncomputable def f_integers_behind : Sv := sSeq (sAsg [] [2] (evCons (ev2 gMul (evOpF gLst (evFz (evCons (evC (.int 0)) (evNil)))) (evOp gLen (evCons (evV 1) (evNil)))) evNil)) (sSeq (sFor (evIt gItL (evCons (evV 0) evNil)) (tgTup 3 (tgCons (tgN [] 3) (tgCons (tgN [] 4) (tgCons (tgN [] 5) (tgNil))))) L_integers_behind_0) (sRetO [] (evV 2)))
noncomputable def m_integers_behind : Mir := fnD N_integers_behind.length P_integers_behind.length [] f_integers_behind
noncomputable def L_integers_of_0 : Sv := sAsg [] [1] (evCons (evOp gLcm (evCons (evV 1) (evCons (evIx (evV 2) (evC (.int 1))) (evNil)))) evNil)
theorem a_L_integers_of_0 {ρ : DEnv} : L_integers_of_0 ρ = (sAsg [] [1] (evCons (evOp gLcm (evCons (evV 1) (evCons (evIx (evV 2) (evC (.int 1))) (evNil)))) evNil)) ρ := rfl
noncomputable def C_integers_of_0 : Ev AV := evComp (evIt gItL (evCons (evV 0) evNil)) [2] (tgN [0, 1] 2) (evYes) (ev2 gMul (evIx (evV 2) (evC (.int 0))) (ev2 gDiv (evV 1) (evIx (evV 2) (evC (.int 1)))))
theorem a_C_integers_of_0 {ρ : DEnv} : C_integers_of_0 ρ = (evComp (evIt gItL (evCons (evV 0) evNil)) [2] (tgN [0, 1] 2) (evYes) (ev2 gMul (evIx (evV 2) (evC (.int 0))) (ev2 gDiv (evV 1) (evIx (evV 2) (evC (.int 1)))))) ρ := rfl
noncomputable def f_integers_of : Sv := sSeq (sAsg [] [1] (evCons (evC (.int 1)) evNil)) (sSeq (sFor (evIt gItL (evCons (evV 0) evNil)) (tgN [] 2) L_integers_of_0) (sRetO [] (evOpF gTup (evFz (evCons (C_integers_of_0) (evCons (evV 1) (evNil)))))))
noncomputable def m_integers_of : Mir := fnD N_integers_of.length P_integers_of.length [] f_integers_of
noncomputable def L_known_0 : Sv := sIf (evT (ev2 gNin (evV 2) (evV 1))) (sRaise 3 (evFz (evCons (evV 2) (evNil)))) (sNil)
theorem a_L_known_0 {ρ : DEnv} : L_known_0 ρ = (sIf (evT (ev2 gNin (evV 2) (evV 1))) (sRaise 3 (evFz (evCons (evV 2) (evNil)))) (sNil)) ρ := rfl
noncomputable def f_known : Sv := sFor (evIt gItS (evCons (evV 0) evNil)) (tgN [] 2) L_known_0
noncomputable def m_known : Mir := fnD N_known.length P_known.length [] f_known
noncomputable def f_lowest : Sv := sSeq (sAsg [] [2] (evCons (evOp gGcd (evCons (evV 0) (evCons (evV 1) (evNil)))) evNil)) (sSeq (sIf (evT (ev2 gLt (evV 1) (evC (.int 0)))) (sAsg [] [2] (evCons (ev1 gNeg (evV 2)) evNil)) (sNil)) (sRetO [] (evOpF gTup (evFz (evCons (ev2 gDiv (evV 0) (evV 2)) (evCons (ev2 gDiv (evV 1) (evV 2)) (evNil)))))))
noncomputable def m_lowest : Mir := fnD N_lowest.length P_lowest.length [] f_lowest
noncomputable def L_Machine____call___0 : Sv := sSeq (sTgt (tgTup 2 (tgCons (tgN [] 5) (tgCons (tgN [] 6) (tgNil)))) (ev2 gDx (evFld ftab ("_steps" : Str) (evV 0)) (evV 4))) (sSeq (sAsg [] [2] (evCons (evCall [false, false] m_integers_behind (evCons (evV 5) (evCons (evV 2) (evNil)))) evNil)) (sAsg [] [3] (evCons (ev2 gMul (evV 3) (evV 6)) evNil)))
theorem a_L_Machine____call___0 {ρ : DEnv} : L_Machine____call___0 ρ = (sSeq (sTgt (tgTup 2 (tgCons (tgN [] 5) (tgCons (tgN [] 6) (tgNil)))) (ev2 gDx (evFld ftab ("_steps" : Str) (evV 0)) (evV 4))) (sSeq (sAsg [] [2] (evCons (evCall [false, false] m_integers_behind (evCons (evV 5) (evCons (evV 2) (evNil)))) evNil)) (sAsg [] [3] (evCons (ev2 gMul (evV 3) (evV 6)) evNil)))) ρ := rfl
noncomputable def C_Machine____call___0 : Ev AV := evComp (evIt gZipA (evCons (evV 2) (evCons (evV 7) (evNil)))) [8, 9] (tgTup 2 (tgCons (tgN [0, 1, 2, 3, 4, 5, 6, 7] 8) (tgCons (tgN [0, 1, 2, 3, 4, 5, 6, 7] 9) (tgNil)))) (evYes) (ev2 gMul (evV 8) (evV 9))
theorem a_C_Machine____call___0 {ρ : DEnv} : C_Machine____call___0 ρ = (evComp (evIt gZipA (evCons (evV 2) (evCons (evV 7) (evNil)))) [8, 9] (tgTup 2 (tgCons (tgN [0, 1, 2, 3, 4, 5, 6, 7] 8) (tgCons (tgN [0, 1, 2, 3, 4, 5, 6, 7] 9) (tgNil)))) (evYes) (ev2 gMul (evV 8) (evV 9))) ρ := rfl
noncomputable def f_Machine____call__ : Sv := sSeq (sExpr (evCall [false, false] m_known (evCons (evV 1) (evCons (evFld ftab ("_signs" : Str) (evV 0)) (evNil))))) (sSeq (sTgt (tgTup 2 (tgCons (tgN [] 2) (tgCons (tgN [] 3) (tgNil)))) (evCall [false] m_integers_of (evCons (evFld ftab ("_begin" : Str) (evV 0)) (evNil)))) (sSeq (sFor (evIt gItS (evCons (evV 1) evNil)) (tgN [] 4) L_Machine____call___0) (sSeq (sTgt (tgTup 2 (tgCons (tgN [] 7) (tgCons (tgN [] 6) (tgNil)))) (evCall [false] m_integers_of (evCons (evFld ftab ("_end" : Str) (evV 0)) (evNil)))) (sRetO [] (evCall [false, false] m_lowest (evCons (evOp gSum (evCons (C_Machine____call___0) (evNil))) (evCons (ev2 gMul (evV 3) (evV 6)) (evNil))))))))
noncomputable def m_Machine____call__ : Mir := fnD N_Machine____call__.length P_Machine____call__.length [] f_Machine____call__
noncomputable def f_is_number : Sv := sSeq (sTgt (tgTup 2 (tgCons (tgN [] 1) (tgCons (tgN [] 2) (tgNil)))) (evV 0)) (sRetO [] (evAndV (ev2 gGe (evV 2) (evC (.int 1))) (ev2 gEq (evOp gGcd (evCons (evV 1) (evCons (evV 2) (evNil)))) (evC (.int 1)))))
noncomputable def m_is_number : Mir := fnD N_is_number.length P_is_number.length [] f_is_number
noncomputable def f_checked : Sv := sSeq (sIf (evNot (evTr (evCall [false] m_is_number (evCons (evV 0) (evNil))))) (sRaise 1 (evFz (evCons (evV 0) (evNil)))) (sNil)) (sRet (evV 0))
noncomputable def m_checked : Mir := fnD N_checked.length P_checked.length [] f_checked
noncomputable def f_checked_sign : Sv := sIf (evOr (evT (ev2 gNe (evOp gLen (evCons (evV 0) (evNil))) (evC (.int 1)))) (evT (ev2 gNin (evV 0) (evV 1)))) (sRaise 3 (evFz (evCons (evV 0) (evNil)))) (sNil)
noncomputable def m_checked_sign : Mir := fnD N_checked_sign.length P_checked_sign.length [] f_checked_sign
noncomputable def L_checked_signs_0 : Sv := sSeq (sIf (evOr (evT (ev2 gNin (evV 2) (evC (.str ("abcdefghijklmnopqrstuvwxyz" : Str))))) (evT (ev2 gLe (evV 2) (evV 1)))) (sRaise 2 (evFz (evCons (evV 0) (evNil)))) (sNil)) (sAsg [] [1] (evCons (evV 2) evNil))
theorem a_L_checked_signs_0 {ρ : DEnv} : L_checked_signs_0 ρ = (sSeq (sIf (evOr (evT (ev2 gNin (evV 2) (evC (.str ("abcdefghijklmnopqrstuvwxyz" : Str))))) (evT (ev2 gLe (evV 2) (evV 1)))) (sRaise 2 (evFz (evCons (evV 0) (evNil)))) (sNil)) (sAsg [] [1] (evCons (evV 2) evNil))) ρ := rfl
noncomputable def f_checked_signs : Sv := sSeq (sAsg [] [1] (evCons (evC (.str ("" : Str))) evNil)) (sSeq (sFor (evIt gItS (evCons (evV 0) evNil)) (tgN [] 2) L_checked_signs_0) (sIf (evT (ev2 gEq (evV 0) (evC (.str ("" : Str))))) (sRaise 2 (evFz (evCons (evV 0) (evNil)))) (sNil)))
noncomputable def m_checked_signs : Mir := fnD N_checked_signs.length P_checked_signs.length [] f_checked_signs
noncomputable def L_checked_machine_0 : Sv := sExpr (evCall [false] m_checked (evCons (evV 4) (evNil)))
theorem a_L_checked_machine_0 {ρ : DEnv} : L_checked_machine_0 ρ = (sExpr (evCall [false] m_checked (evCons (evV 4) (evNil)))) ρ := rfl
noncomputable def L_checked_machine_1 : Sv := sExpr (evCall [false] m_checked (evCons (evIx (evV 5) (evC (.int 3))) (evNil)))
theorem a_L_checked_machine_1 {ρ : DEnv} : L_checked_machine_1 ρ = (sExpr (evCall [false] m_checked (evCons (evIx (evV 5) (evC (.int 3))) (evNil)))) ρ := rfl
noncomputable def L_checked_machine_2 : Sv := sExpr (evCall [false] m_checked (evCons (evV 4) (evNil)))
theorem a_L_checked_machine_2 {ρ : DEnv} : L_checked_machine_2 ρ = (sExpr (evCall [false] m_checked (evCons (evV 4) (evNil)))) ρ := rfl
noncomputable def L_checked_machine_3 : Sv := sSeq (sIf (evNot (evT (evChain gLe gLt (evC (.int 0)) (evIx (evV 5) (evC (.int 0))) (evOp gLen (evCons (evV 1) (evNil)))))) (sRaise 4 (evFz (evCons (evV 5) (evNil)))) (sNil)) (sSeq (sExpr (evCall [false, false] m_checked_sign (evCons (evIx (evV 5) (evC (.int 1))) (evCons (evV 0) (evNil))))) (sIf (evNot (evT (evChain gLe gLt (evC (.int 0)) (evIx (evV 5) (evC (.int 2))) (evOp gLen (evCons (evV 1) (evNil)))))) (sRaise 4 (evFz (evCons (evV 5) (evNil)))) (sNil)))
theorem a_L_checked_machine_3 {ρ : DEnv} : L_checked_machine_3 ρ = (sSeq (sIf (evNot (evT (evChain gLe gLt (evC (.int 0)) (evIx (evV 5) (evC (.int 0))) (evOp gLen (evCons (evV 1) (evNil)))))) (sRaise 4 (evFz (evCons (evV 5) (evNil)))) (sNil)) (sSeq (sExpr (evCall [false, false] m_checked_sign (evCons (evIx (evV 5) (evC (.int 1))) (evCons (evV 0) (evNil))))) (sIf (evNot (evT (evChain gLe gLt (evC (.int 0)) (evIx (evV 5) (evC (.int 2))) (evOp gLen (evCons (evV 1) (evNil)))))) (sRaise 4 (evFz (evCons (evV 5) (evNil)))) (sNil)))) ρ := rfl
noncomputable def f_checked_machine : Sv := sSeq (sExpr (evCall [false] m_checked_signs (evCons (evV 0) (evNil)))) (sSeq (sFor (evIt gItL (evCons (evV 1) evNil)) (tgN [] 4) L_checked_machine_0) (sSeq (sFor (evIt gItL (evCons (evV 2) evNil)) (tgN [] 5) L_checked_machine_1) (sSeq (sFor (evIt gItL (evCons (evV 3) evNil)) (tgN [] 4) L_checked_machine_2) (sSeq (sFor (evIt gItL (evCons (evV 2) evNil)) (tgN [] 5) L_checked_machine_3) (sIf (evT (ev2 gNe (evOp gLen (evCons (evV 1) (evNil))) (evOp gLen (evCons (evV 3) (evNil))))) (sRaise 4 (evFz (evCons (evOp gListS (evCons (evV 3) (evNil))) (evNil)))) (sNil))))))
noncomputable def m_checked_machine : Mir := fnD N_checked_machine.length P_checked_machine.length [] f_checked_machine
noncomputable def L_steps_of_0 : Sv := sIf (evT (ev2 gEq (evIx (evV 3) (evC (.int 1))) (evV 1))) (sAsg [] [2] (evCons (evOp gLcm (evCons (evV 2) (evCons (evIx (evIx (evV 3) (evC (.int 3))) (evC (.int 1))) (evNil)))) evNil)) (sNil)
theorem a_L_steps_of_0 {ρ : DEnv} : L_steps_of_0 ρ = (sIf (evT (ev2 gEq (evIx (evV 3) (evC (.int 1))) (evV 1))) (sAsg [] [2] (evCons (evOp gLcm (evCons (evV 2) (evCons (evIx (evIx (evV 3) (evC (.int 3))) (evC (.int 1))) (evNil)))) evNil)) (sNil)) ρ := rfl
noncomputable def L_steps_of_1 : Sv := sIf (evAnd (evT (ev2 gEq (evV 6) (evV 1))) (evT (ev2 gNe (evIx (evV 8) (evC (.int 0))) (evC (.int 0))))) (sExpr (evMut gmAppend (evCons (evChk isLst (evV 4)) (evCons (evOpF gTup (evFz (evCons (evV 5) (evCons (evV 7) (evCons (ev2 gMul (evIx (evV 8) (evC (.int 0))) (ev2 gDiv (evV 2) (evIx (evV 8) (evC (.int 1))))) (evNil)))))) (evNil))))) (sNil)
theorem a_L_steps_of_1 {ρ : DEnv} : L_steps_of_1 ρ = (sIf (evAnd (evT (ev2 gEq (evV 6) (evV 1))) (evT (ev2 gNe (evIx (evV 8) (evC (.int 0))) (evC (.int 0))))) (sExpr (evMut gmAppend (evCons (evChk isLst (evV 4)) (evCons (evOpF gTup (evFz (evCons (evV 5) (evCons (evV 7) (evCons (ev2 gMul (evIx (evV 8) (evC (.int 0))) (ev2 gDiv (evV 2) (evIx (evV 8) (evC (.int 1))))) (evNil)))))) (evNil))))) (sNil)) ρ := rfl
noncomputable def f_steps_of : Sv := sSeq (sAsg [] [2] (evCons (evC (.int 1)) evNil)) (sSeq (sFor (evIt gItL (evCons (evV 0) evNil)) (tgN [] 3) L_steps_of_0) (sSeq (sAsg [] [4] (evCons (evOpF gLst (evFz (evNil))) evNil)) (sSeq (sFor (evIt gItL (evCons (evV 0) evNil)) (tgTup 4 (tgCons (tgN [] 5) (tgCons (tgN [] 6) (tgCons (tgN [] 7) (tgCons (tgN [] 8) (tgNil)))))) L_steps_of_1) (sRetO [] (evOpF gTup (evFz (evCons (evV 4) (evCons (evV 2) (evNil)))))))))
noncomputable def m_steps_of : Mir := fnD N_steps_of.length P_steps_of.length [] f_steps_of
noncomputable def C_Machine____init___0 : Ev AV := evDcomp (evIt gItS (evCons (evV 1) evNil)) [5] (tgN [0, 1, 2, 3, 4] 5) (evYes) (evV 5) (evCall [false, false] m_steps_of (evCons (evV 3) (evCons (evV 5) (evNil))))
theorem a_C_Machine____init___0 {ρ : DEnv} : C_Machine____init___0 ρ = (evDcomp (evIt gItS (evCons (evV 1) evNil)) [5] (tgN [0, 1, 2, 3, 4] 5) (evYes) (evV 5) (evCall [false, false] m_steps_of (evCons (evV 3) (evCons (evV 5) (evNil))))) ρ := rfl
noncomputable def f_Machine____init__ : Sv := sSeq (sExpr (evCall [false, false, false, false] m_checked_machine (evCons (evV 1) (evCons (evV 2) (evCons (evV 3) (evCons (evV 4) (evNil))))))) (sSeq (sFldS ftab ("_signs" : Str) 0 (evV 1)) (sSeq (sFldS ftab ("_begin" : Str) 0 (evOp gListS (evCons (evV 2) (evNil)))) (sSeq (sFldS ftab ("_roads" : Str) 0 (evOp gListS (evCons (evV 3) (evNil)))) (sSeq (sFldS ftab ("_end" : Str) 0 (evOp gListS (evCons (evV 4) (evNil)))) (sFldS ftab ("_steps" : Str) 0 (C_Machine____init___0))))))
noncomputable def m_Machine____init__ : Mir := fnD N_Machine____init__.length P_Machine____init__.length [0] f_Machine____init__
noncomputable def L__law_deck_0 : Sv := sIf (evT (ev2 gGe (evV 3) (ev2 gPow (evC (.int 10)) (evC (.int 18))))) (sExpr (evMut gmInsert (evCons (evChk isLst (evV 2)) (evCons (evC (.int 0)) (evCons (ev2 gSub (evV 3) (ev2 gPow (evC (.int 10)) (evC (.int 18)))) (evNil)))))) (sAsg [] [1] (evCons (ev2 gAdd (ev2 gMod (evOp gInt (evCons (ev2 gPow (ev2 gAdd (evV 1) (ev2 gMod (evOp gInt (evCons (evV 3) (evNil))) (evC (.int 1000000000039)))) (evC (.int 3))) (evNil))) (evC (.int 1000000000000000003))) (evC (.int 1))) evNil))
theorem a_L__law_deck_0 {ρ : DEnv} : L__law_deck_0 ρ = (sIf (evT (ev2 gGe (evV 3) (ev2 gPow (evC (.int 10)) (evC (.int 18))))) (sExpr (evMut gmInsert (evCons (evChk isLst (evV 2)) (evCons (evC (.int 0)) (evCons (ev2 gSub (evV 3) (ev2 gPow (evC (.int 10)) (evC (.int 18)))) (evNil)))))) (sAsg [] [1] (evCons (ev2 gAdd (ev2 gMod (evOp gInt (evCons (ev2 gPow (ev2 gAdd (evV 1) (ev2 gMod (evOp gInt (evCons (evV 3) (evNil))) (evC (.int 1000000000039)))) (evC (.int 3))) (evNil))) (evC (.int 1000000000000000003))) (evC (.int 1))) evNil))) ρ := rfl
noncomputable def f__law_deck : Sv := sSeq (sAsg [] [1, 2] (evCons (evC (.int 40961)) (evCons (evOpF gLst (evFz (evNil))) evNil))) (sSeq (sFor (evIt gItL (evCons (evV 0) evNil)) (tgN [] 3) L__law_deck_0) (sRetO [] (evMv (evCons (evV 2) (evCons (evC (.int 0)) (evCons (evV 1) (evCons (evC (.int 0)) (evNil))))))))
noncomputable def m__law_deck : Mir := fnD N__law_deck.length P__law_deck.length [] f__law_deck
noncomputable def f__law_draw : Sv := sSeq (sIf (evAnd (evT (ev2 gEq (evIx (evV 0) (evC (.int 1))) (evC (.int 0)))) (evT (ev2 gNe (evIx (evV 0) (evC (.int 0))) (evOpF gLst (evFz (evNil)))))) (sTgt (tgSub gmSet (evCons (evV 0) (evCons (evC (.int 1)) evNil))) (evMut gmPop (evCons (evChk isLst (evIx (evV 0) (evC (.int 0)))) evNil))) (sNil)) (sSeq (sIf (evT (ev2 gGt (evIx (evV 0) (evC (.int 1))) (evC (.int 0)))) (sSeq (sAsg [0] [2] (evCons (ev2 gMod (evOp gInt (evCons (evIx (evV 0) (evC (.int 1))) (evNil))) (evV 1)) evNil)) (sSeq (sTgt (tgSub gmSet (evCons (evV 0) (evCons (evC (.int 1)) evNil))) (ev2 gDiv (evIx (evV 0) (evC (.int 1))) (evV 1))) (sRetO [0] (evV 2)))) (sNil)) (sSeq (sTgt (tgSub gmSet (evCons (evV 0) (evCons (evC (.int 3)) evNil))) (ev2 gAdd (evIx (evV 0) (evC (.int 3))) (evC (.int 1)))) (sSeq (sAsg [0] [3] (evCons (ev2 gMod (evOp gInt (evCons (ev2 gPow (ev2 gAdd (evIx (evV 0) (evC (.int 2))) (ev2 gMul (ev2 gMul (evC (.int 7907)) (evIx (evV 0) (evC (.int 3)))) (evIx (evV 0) (evC (.int 3))))) (evC (.int 2))) (evNil))) (evC (.int 1000000000000000000000007))) evNil)) (sRetO [0] (ev2 gMod (ev2 gDiv (ev2 gMod (evOp gInt (evCons (ev2 gMul (evV 3) (ev2 gAdd (evV 3) (evC (.int 41)))) (evNil))) (evC (.int 1000000000000000000117))) (evC (.int 1009))) (evV 1))))))
noncomputable def m__law_draw : Mir := fnD N__law_draw.length P__law_draw.length [0] f__law_draw
noncomputable def C__law_is_refused_0 : Ev AV := evComp (evIt gItS (evCons (evC (.str ("abcdefghijklmnopqrstuvwxyzAZ -0`_[{" : Str))) evNil)) [5] (tgN [0, 1, 2, 3, 4, 6, 7, 8, 9, 10, 11, 12] 5) (evT (ev2 gNin (evV 5) (evV 2))) (evV 5)
theorem a_C__law_is_refused_0 {ρ : DEnv} : C__law_is_refused_0 ρ = (evComp (evIt gItS (evCons (evC (.str ("abcdefghijklmnopqrstuvwxyzAZ -0`_[{" : Str))) evNil)) [5] (tgN [0, 1, 2, 3, 4, 6, 7, 8, 9, 10, 11, 12] 5) (evT (ev2 gNin (evV 5) (evV 2))) (evV 5)) ρ := rfl
noncomputable def L__law_is_refused_0 : Sv := sSeq (sAsg [0] [8] (evCons (evCall [true, false] m__law_draw (evCons (evV 0) (evCons (ev2 gAdd (evOp gLen (evCons (evV 6) (evNil))) (evC (.int 1))) (evNil)))) evNil)) (sAsg [0] [6] (evCons (ev2 gAdd (ev2 gAdd (ev2 (gSl false true) (evV 6) (evV 8)) (evIx (evV 4) (evCall [true, false] m__law_draw (evCons (evV 0) (evCons (evOp gLen (evCons (evV 4) (evNil))) (evNil)))))) (ev2 (gSl true false) (evV 6) (evV 8))) evNil))
theorem a_L__law_is_refused_0 {ρ : DEnv} : L__law_is_refused_0 ρ = (sSeq (sAsg [0] [8] (evCons (evCall [true, false] m__law_draw (evCons (evV 0) (evCons (ev2 gAdd (evOp gLen (evCons (evV 6) (evNil))) (evC (.int 1))) (evNil)))) evNil)) (sAsg [0] [6] (evCons (ev2 gAdd (ev2 gAdd (ev2 (gSl false true) (evV 6) (evV 8)) (evIx (evV 4) (evCall [true, false] m__law_draw (evCons (evV 0) (evCons (evOp gLen (evCons (evV 4) (evNil))) (evNil)))))) (ev2 (gSl true false) (evV 6) (evV 8))) evNil))) ρ := rfl
noncomputable def C__law_is_refused_1 : Ev AV := evComp (evIt gItS (evCons (evV 6) evNil)) [10] (tgN [0, 1, 2, 3, 4, 5, 6, 7, 8, 9, 11, 12] 10) (evT (ev2 gNin (evV 10) (evV 2))) (evV 10)
theorem a_C__law_is_refused_1 {ρ : DEnv} : C__law_is_refused_1 ρ = (evComp (evIt gItS (evCons (evV 6) evNil)) [10] (tgN [0, 1, 2, 3, 4, 5, 6, 7, 8, 9, 11, 12] 10) (evT (ev2 gNin (evV 10) (evV 2))) (evV 10)) ρ := rfl
noncomputable def f__law_is_refused : Sv := sSeq (sAsg [0] [4] (evCons (C__law_is_refused_0) evNil)) (sSeq (sAsg [0] [6] (evCons (evV 3) evNil)) (sSeq (sFor (evIt gRng1 (evCons (ev2 gAdd (evC (.int 1)) (evCall [true, false] m__law_draw (evCons (evV 0) (evCons (evC (.int 2)) (evNil))))) (evNil))) (tgN [0] 7) L__law_is_refused_0) (sSeq (sAsg [0] [9] (evCons (evIx (C__law_is_refused_1) (evC (.int 0))) evNil)) (sSeq (sAsg [0] [11] (evCons (evC .non) evNil)) (sSeq (sCat (catch_ 0) 12 (sExpr (evCallI 20 [false, false] m_Machine____call__ (evCons (evV 1) (evCons (evV 6) (evNil))))) (sAsg [0] [11] (evCons (evV 12) evNil))) (sSeq (sIf (evOr (evNot (evTr (evOp (gIsi tab) (evCons (evV 11) (evCons (evC (.cls 3)) (evNil)))))) (evNot (evTr (evOp (gIsi tab) (evCons (evV 11) (evCons (evC (.ty "ValueError")) (evNil))))))) (sRetO [0] (evC (.bl false))) (sNil)) (sSeq (sIf (evTr (evOp (gIsi tab) (evCons (evV 11) (evCons (evOpF gTup (evFz (evCons (evC (.cls 4)) (evCons (evC (.cls 1)) (evCons (evC (.cls 2)) (evCons (evC (.cls 5)) (evNil))))))) (evNil))))) (sRetO [0] (evC (.bl false))) (sNil)) (sRetO [0] (evAndV (evOp (gIsi tab) (evCons (ev1 (gXv exs) (evV 11)) (evCons (evC (.ty "str")) (evNil)))) (ev2 gEq (ev1 (gXv exs) (evV 11)) (evV 9)))))))))))
noncomputable def m__law_is_refused : Mir := fnD N__law_is_refused.length P__law_is_refused.length [0] f__law_is_refused
noncomputable def L__law_gcd_0 : Sv := sAsg [] [0, 1] (evCons (evV 1) (evCons (ev2 gMod (evOp gInt (evCons (evV 0) (evNil))) (evV 1)) evNil))
theorem a_L__law_gcd_0 {ρ : DEnv} : L__law_gcd_0 ρ = (sAsg [] [0, 1] (evCons (evV 1) (evCons (ev2 gMod (evOp gInt (evCons (evV 0) (evNil))) (evV 1)) evNil))) ρ := rfl
noncomputable def f__law_gcd : Sv := sSeq (sAsg [] [0, 1] (evCons (evOp gAbs (evCons (evV 0) (evNil))) (evCons (evOp gAbs (evCons (evV 1) (evNil))) evNil))) (sSeq (whE (evT (ev2 gNe (evV 1) (evC (.int 0)))) L__law_gcd_0) (sRet (evV 0)))
noncomputable def m__law_gcd : Mir := fnD N__law_gcd.length P__law_gcd.length [] f__law_gcd
noncomputable def L__law_over_0 : Sv := sAsg [] [1] (evCons (ev2 gMul (ev2 gDiv (evV 1) (evCall [false, false] m__law_gcd (evCons (evV 1) (evCons (evV 3) (evNil))))) (evV 3)) evNil)
theorem a_L__law_over_0 {ρ : DEnv} : L__law_over_0 ρ = (sAsg [] [1] (evCons (ev2 gMul (ev2 gDiv (evV 1) (evCall [false, false] m__law_gcd (evCons (evV 1) (evCons (evV 3) (evNil))))) (evV 3)) evNil)) ρ := rfl
noncomputable def f__law_over : Sv := sSeq (sAsg [] [1] (evCons (evC (.int 1)) evNil)) (sSeq (sFor (evIt gItL (evCons (evV 0) evNil)) (tgTup 2 (tgCons (tgN [] 2) (tgCons (tgN [] 3) (tgNil)))) L__law_over_0) (sRetO [] (evV 1)))
noncomputable def m__law_over : Mir := fnD N__law_over.length P__law_over.length [] f__law_over
noncomputable def C__law_scaled_0 : Ev AV := evComp (evIt gItL (evCons (evIx (evV 0) (evC (.int 2))) evNil)) [4] (tgN [0, 1, 2, 3, 5, 6, 7, 8, 9] 4) (evYes) (evIx (evV 4) (evC (.int 3)))
theorem a_C__law_scaled_0 {ρ : DEnv} : C__law_scaled_0 ρ = (evComp (evIt gItL (evCons (evIx (evV 0) (evC (.int 2))) evNil)) [4] (tgN [0, 1, 2, 3, 5, 6, 7, 8, 9] 4) (evYes) (evIx (evV 4) (evC (.int 3)))) ρ := rfl
noncomputable def C__law_scaled_1 : Ev AV := evComp (evIt gItL (evCons (evIx (evV 0) (evC (.int 1))) evNil)) [6, 7] (tgTup 2 (tgCons (tgN [0, 1, 2, 3, 4, 5, 8, 9] 6) (tgCons (tgN [0, 1, 2, 3, 4, 5, 8, 9] 7) (tgNil)))) (evYes) (ev2 gMul (evV 6) (ev2 gDiv (evV 1) (evV 7)))
theorem a_C__law_scaled_1 {ρ : DEnv} : C__law_scaled_1 ρ = (evComp (evIt gItL (evCons (evIx (evV 0) (evC (.int 1))) evNil)) [6, 7] (tgTup 2 (tgCons (tgN [0, 1, 2, 3, 4, 5, 8, 9] 6) (tgCons (tgN [0, 1, 2, 3, 4, 5, 8, 9] 7) (tgNil)))) (evYes) (ev2 gMul (evV 6) (ev2 gDiv (evV 1) (evV 7)))) ρ := rfl
noncomputable def C__law_scaled_2 : Ev AV := evComp (evIt gItL (evCons (evIx (evV 0) (evC (.int 3))) evNil)) [6, 7] (tgTup 2 (tgCons (tgN [0, 1, 2, 3, 4, 5, 8, 9] 6) (tgCons (tgN [0, 1, 2, 3, 4, 5, 8, 9] 7) (tgNil)))) (evYes) (ev2 gMul (evV 6) (ev2 gDiv (evV 2) (evV 7)))
theorem a_C__law_scaled_2 {ρ : DEnv} : C__law_scaled_2 ρ = (evComp (evIt gItL (evCons (evIx (evV 0) (evC (.int 3))) evNil)) [6, 7] (tgTup 2 (tgCons (tgN [0, 1, 2, 3, 4, 5, 8, 9] 6) (tgCons (tgN [0, 1, 2, 3, 4, 5, 8, 9] 7) (tgNil)))) (evYes) (ev2 gMul (evV 6) (ev2 gDiv (evV 2) (evV 7)))) ρ := rfl
noncomputable def C__law_scaled_3 : Ev AV := evComp (evIt gItL (evCons (evIx (evV 0) (evC (.int 2))) evNil)) [4] (tgN [0, 1, 2, 3, 5, 6, 7, 8, 9] 4) (evYes) (evOpF gTup (evFz (evCons (evIx (evV 4) (evC (.int 0))) (evCons (evIx (evV 4) (evC (.int 1))) (evCons (evIx (evV 4) (evC (.int 2))) (evCons (ev2 gMul (evIx (evIx (evV 4) (evC (.int 3))) (evC (.int 0))) (ev2 gDiv (evV 3) (evIx (evIx (evV 4) (evC (.int 3))) (evC (.int 1))))) (evNil)))))))
theorem a_C__law_scaled_3 {ρ : DEnv} : C__law_scaled_3 ρ = (evComp (evIt gItL (evCons (evIx (evV 0) (evC (.int 2))) evNil)) [4] (tgN [0, 1, 2, 3, 5, 6, 7, 8, 9] 4) (evYes) (evOpF gTup (evFz (evCons (evIx (evV 4) (evC (.int 0))) (evCons (evIx (evV 4) (evC (.int 1))) (evCons (evIx (evV 4) (evC (.int 2))) (evCons (ev2 gMul (evIx (evIx (evV 4) (evC (.int 3))) (evC (.int 0))) (ev2 gDiv (evV 3) (evIx (evIx (evV 4) (evC (.int 3))) (evC (.int 1))))) (evNil)))))))) ρ := rfl
noncomputable def f__law_scaled : Sv := sSeq (sTgt (tgTup 2 (tgCons (tgN [] 1) (tgCons (tgN [] 2) (tgNil)))) (evOpF gTup (evFz (evCons (evCall [false] m__law_over (evCons (evIx (evV 0) (evC (.int 1))) (evNil))) (evCons (evCall [false] m__law_over (evCons (evIx (evV 0) (evC (.int 3))) (evNil))) (evNil)))))) (sSeq (sAsg [] [3] (evCons (evCall [false] m__law_over (evCons (C__law_scaled_0) (evNil))) evNil)) (sSeq (sAsg [] [5] (evCons (C__law_scaled_1) evNil)) (sSeq (sAsg [] [8] (evCons (C__law_scaled_2) evNil)) (sSeq (sAsg [] [9] (evCons (C__law_scaled_3) evNil)) (sRetO [] (evOpF gTup (evFz (evCons (evV 5) (evCons (evV 1) (evCons (evV 9) (evCons (evV 3) (evCons (evV 8) (evCons (evV 2) (evNil))))))))))))))
noncomputable def m__law_scaled : Mir := fnD N__law_scaled.length P__law_scaled.length [] f__law_scaled
noncomputable def L__law_stepped_0 : Sv := sIf (evT (ev2 gEq (evV 5) (evV 2))) (sTgt (tgSub gmSet (evCons (evV 3) (evCons (evV 6) evNil))) (ev2 gAdd (evIx (evV 3) (evV 6)) (ev2 gMul (evIx (evV 1) (evV 4)) (evV 7)))) (sNil)
theorem a_L__law_stepped_0 {ρ : DEnv} : L__law_stepped_0 ρ = (sIf (evT (ev2 gEq (evV 5) (evV 2))) (sTgt (tgSub gmSet (evCons (evV 3) (evCons (evV 6) evNil))) (ev2 gAdd (evIx (evV 3) (evV 6)) (ev2 gMul (evIx (evV 1) (evV 4)) (evV 7)))) (sNil)) ρ := rfl
noncomputable def f__law_stepped : Sv := sSeq (sAsg [] [3] (evCons (ev2 gMul (evOpF gLst (evFz (evCons (evC (.int 0)) (evNil)))) (evOp gLen (evCons (evV 1) (evNil)))) evNil)) (sSeq (sFor (evIt gItL (evCons (evV 0) evNil)) (tgTup 4 (tgCons (tgN [] 4) (tgCons (tgN [] 5) (tgCons (tgN [] 6) (tgCons (tgN [] 7) (tgNil)))))) L__law_stepped_0) (sRetO [] (evV 3)))
noncomputable def m__law_stepped : Mir := fnD N__law_stepped.length P__law_stepped.length [] f__law_stepped
noncomputable def L__law_is_worth_0 : Sv := sSeq (sAsg [] [9] (evCons (evCall [false, false, false] m__law_stepped (evCons (evV 5) (evCons (evV 9) (evCons (evV 11) (evNil))))) evNil)) (sAsg [] [10] (evCons (ev2 gMul (evV 10) (evV 6)) evNil))
theorem a_L__law_is_worth_0 {ρ : DEnv} : L__law_is_worth_0 ρ = (sSeq (sAsg [] [9] (evCons (evCall [false, false, false] m__law_stepped (evCons (evV 5) (evCons (evV 9) (evCons (evV 11) (evNil))))) evNil)) (sAsg [] [10] (evCons (ev2 gMul (evV 10) (evV 6)) evNil))) ρ := rfl
noncomputable def C__law_is_worth_0 : Ev AV := evComp (evIt gRng1 (evCons (evOp gLen (evCons (evV 7) (evNil))) (evNil))) [13] (tgN [0, 1, 2, 3, 4, 5, 6, 7, 8, 9, 10, 11, 12, 14] 13) (evYes) (ev2 gMul (evIx (evV 9) (evV 13)) (evIx (evV 7) (evV 13)))
theorem a_C__law_is_worth_0 {ρ : DEnv} : C__law_is_worth_0 ρ = (evComp (evIt gRng1 (evCons (evOp gLen (evCons (evV 7) (evNil))) (evNil))) [13] (tgN [0, 1, 2, 3, 4, 5, 6, 7, 8, 9, 10, 11, 12, 14] 13) (evYes) (ev2 gMul (evIx (evV 9) (evV 13)) (evIx (evV 7) (evV 13)))) ρ := rfl
noncomputable def L__law_is_worth_1 : Sv := sIf (evOr (evNot (evTr (evOp (gIsi tab) (evCons (evV 14) (evCons (evC (.ty "int")) (evNil)))))) (evTr (evOp (gIsi tab) (evCons (evV 14) (evCons (evC (.ty "bool")) (evNil)))))) (sRetO [] (evC (.bl false))) (sNil)
theorem a_L__law_is_worth_1 {ρ : DEnv} : L__law_is_worth_1 ρ = (sIf (evOr (evNot (evTr (evOp (gIsi tab) (evCons (evV 14) (evCons (evC (.ty "int")) (evNil)))))) (evTr (evOp (gIsi tab) (evCons (evV 14) (evCons (evC (.ty "bool")) (evNil)))))) (sRetO [] (evC (.bl false))) (sNil)) ρ := rfl
noncomputable def f__law_is_worth : Sv := sSeq (sTgt (tgTup 6 (tgCons (tgN [] 3) (tgCons (tgN [] 4) (tgCons (tgN [] 5) (tgCons (tgN [] 6) (tgCons (tgN [] 7) (tgCons (tgN [] 8) (tgNil)))))))) (evCall [false] m__law_scaled (evCons (evV 1) (evNil)))) (sSeq (sTgt (tgTup 2 (tgCons (tgN [] 9) (tgCons (tgN [] 10) (tgNil)))) (evOpF gTup (evFz (evCons (evV 3) (evCons (ev2 gMul (evV 4) (evV 8)) (evNil)))))) (sSeq (sFor (evIt gItS (evCons (evV 2) evNil)) (tgN [] 11) L__law_is_worth_0) (sSeq (sAsg [] [12] (evCons (evOp gSum (evCons (C__law_is_worth_0) (evNil))) evNil)) (sSeq (sIf (evOr (evNot (evTr (evOp (gIsi tab) (evCons (evV 0) (evCons (evC (.ty "tuple")) (evNil)))))) (evT (ev2 gNe (evOp gLen (evCons (evV 0) (evNil))) (evC (.int 2))))) (sRetO [] (evC (.bl false))) (sNil)) (sSeq (sFor (evIt gItT (evCons (evV 0) evNil)) (tgN [] 14) L__law_is_worth_1) (sSeq (sIf (evOr (evT (ev2 gLt (evIx (evV 0) (evC (.int 1))) (evC (.int 1)))) (evT (ev2 gNe (ev2 gMul (evIx (evV 0) (evC (.int 0))) (evV 10)) (ev2 gMul (evV 12) (evIx (evV 0) (evC (.int 1))))))) (sRetO [] (evC (.bl false))) (sNil)) (sRetO [] (evOrV (ev2 gEq (evIx (evV 0) (evC (.int 1))) (evC (.int 1))) (ev2 gEq (evCall [false, false] m__law_gcd (evCons (evIx (evV 0) (evC (.int 0))) (evCons (evIx (evV 0) (evC (.int 1))) (evNil)))) (evC (.int 1)))))))))))
noncomputable def m__law_is_worth : Mir := fnD N__law_is_worth.length P__law_is_worth.length [] f__law_is_worth
noncomputable def C__law_message_0 : Ev AV := evComp (evIt gRng1 (evCons (evCall [true, false] m__law_draw (evCons (evV 0) (evCons (ev2 gAdd (evV 2) (evC (.int 1))) (evNil)))) (evNil))) [3] (tgN [0, 1, 2] 3) (evYes) (evIx (evV 1) (evCall [true, false] m__law_draw (evCons (evV 0) (evCons (evOp gLen (evCons (evV 1) (evNil))) (evNil)))))
theorem a_C__law_message_0 {ρ : DEnv} : C__law_message_0 ρ = (evComp (evIt gRng1 (evCons (evCall [true, false] m__law_draw (evCons (evV 0) (evCons (ev2 gAdd (evV 2) (evC (.int 1))) (evNil)))) (evNil))) [3] (tgN [0, 1, 2] 3) (evYes) (evIx (evV 1) (evCall [true, false] m__law_draw (evCons (evV 0) (evCons (evOp gLen (evCons (evV 1) (evNil))) (evNil)))))) ρ := rfl
noncomputable def f__law_message : Sv := sRetO [0] (evOp gJoin (evCons (evChk isStr (evC (.str ("" : Str)))) (evCons (C__law_message_0) (evNil))))
noncomputable def m__law_message : Mir := fnD N__law_message.length P__law_message.length [0] f__law_message
noncomputable def C__law_messages_0 : Ev AV := evComp (evIt gItS (evCons (evV 1) evNil)) [4] (tgN [0, 1, 2, 3, 5, 6] 4) (evYes) (evV 4)
theorem a_C__law_messages_0 {ρ : DEnv} : C__law_messages_0 ρ = (evComp (evIt gItS (evCons (evV 1) evNil)) [4] (tgN [0, 1, 2, 3, 5, 6] 4) (evYes) (evV 4)) ρ := rfl
noncomputable def C__law_messages_1 : Ev AV := evComp (evIt gRng1 (evCons (evC (.int 3)) (evNil))) [5] (tgN [0, 1, 2, 3, 4, 6] 5) (evYes) (evCall [true, false, false] m__law_message (evCons (evV 0) (evCons (evV 1) (evCons (evC (.int 8)) (evNil)))))
theorem a_C__law_messages_1 {ρ : DEnv} : C__law_messages_1 ρ = (evComp (evIt gRng1 (evCons (evC (.int 3)) (evNil))) [5] (tgN [0, 1, 2, 3, 4, 6] 5) (evYes) (evCall [true, false, false] m__law_message (evCons (evV 0) (evCons (evV 1) (evCons (evC (.int 8)) (evNil)))))) ρ := rfl
noncomputable def f__law_messages : Sv := sSeq (sAsg [0] [3] (evCons (ev2 gAdd (evOpF gLst (evFz (evCons (evC (.str ("" : Str))) (evNil)))) (C__law_messages_0)) evNil)) (sSeq (sAsg [0] [3] (evCons (ev2 gAdd (ev2 gAdd (evV 3) (C__law_messages_1)) (evOpF gLst (evFz (evCons (evCall [true, false, false] m__law_message (evCons (evV 0) (evCons (evV 1) (evCons (evC (.int 40)) (evNil))))) (evNil))))) evNil)) (sSeq (sIf (evTr (evV 2)) (sSeq (sAsg [0] [6] (evCons (evCall [true, false, false] m__law_message (evCons (evV 0) (evCons (evV 1) (evCons (evC (.int 40)) (evNil))))) evNil)) (sExpr (evMut gmAppend (evCons (evChk isLst (evV 3)) (evCons (ev2 (gSl false true) (ev2 gAdd (ev2 gMulS (evV 6) (evC (.int 10))) (ev2 gMulS (evV 1) (evC (.int 400)))) (evCall [true, false] m__law_draw (evCons (evV 0) (evCons (evC (.int 401)) (evNil))))) (evNil)))))) (sNil)) (sRetO [0] (evV 3))))
noncomputable def m__law_messages : Mir := fnD N__law_messages.length P__law_messages.length [0] f__law_messages
noncomputable def f__law_pair : Sv := sSeq (sAsg [] [2] (evCons (evCall [false, false] m__law_gcd (evCons (evV 0) (evCons (evV 1) (evNil)))) evNil)) (sSeq (sIf (evT (ev2 gLt (evV 1) (evC (.int 0)))) (sAsg [] [2] (evCons (ev2 gSub (evC (.int 0)) (evV 2)) evNil)) (sNil)) (sRetO [] (evOpF gTup (evFz (evCons (ev2 gDiv (evV 0) (evV 2)) (evCons (ev2 gDiv (evV 1) (evV 2)) (evNil)))))))
noncomputable def m__law_pair : Mir := fnD N__law_pair.length P__law_pair.length [] f__law_pair
noncomputable def f__law_number : Sv := sSeq (sAsg [0] [2] (evCons (ev2 gSub (evCall [true, false] m__law_draw (evCons (evV 0) (evCons (evV 1) (evNil)))) (ev2 gDiv (evV 1) (evC (.int 2)))) evNil)) (sRetO [0] (evCall [false, false] m__law_pair (evCons (evV 2) (evCons (ev2 gAdd (evC (.int 1)) (evCall [true, false] m__law_draw (evCons (evV 0) (evCons (evIx (evOpF gLst (evFz (evCons (evC (.int 1)) (evCons (ev2 gSub (evV 1) (evC (.int 1))) (evNil))))) (evCall [true, false] m__law_draw (evCons (evV 0) (evCons (evC (.int 2)) (evNil))))) (evNil))))) (evNil)))))
noncomputable def m__law_number : Mir := fnD N__law_number.length P__law_number.length [0] f__law_number
noncomputable def C__law_machine_0 : Ev AV := evComp (evIt gRng1 (evCons (evV 2) (evNil))) [6] (tgN [0, 1, 2, 3, 4, 5, 7, 8] 6) (evYes) (evCall [true, false] m__law_number (evCons (evV 0) (evCons (evV 4) (evNil))))
theorem a_C__law_machine_0 {ρ : DEnv} : C__law_machine_0 ρ = (evComp (evIt gRng1 (evCons (evV 2) (evNil))) [6] (tgN [0, 1, 2, 3, 4, 5, 7, 8] 6) (evYes) (evCall [true, false] m__law_number (evCons (evV 0) (evCons (evV 4) (evNil))))) ρ := rfl
noncomputable def L__law_machine_0 : Sv := sSeq (sAsg [0] [8] (evCons (evOpF gTup (evFz (evCons (evCall [true, false] m__law_draw (evCons (evV 0) (evCons (evV 2) (evNil)))) (evCons (evIx (evV 1) (evCall [true, false] m__law_draw (evCons (evV 0) (evCons (evOp gLen (evCons (evV 1) (evNil))) (evNil))))) (evCons (evCall [true, false] m__law_draw (evCons (evV 0) (evCons (evV 2) (evNil)))) (evNil)))))) evNil)) (sSeq (sAsg [0] [8] (evCons (ev2 gAddT (evV 8) (evOpF gTup (evFz (evCons (evCall [true, false] m__law_number (evCons (evV 0) (evCons (evV 4) (evNil)))) (evNil))))) evNil)) (sSeq (sIf (evAnd (evT (ev2 gNe (evV 7) (evOpF gLst (evFz (evNil))))) (evT (ev2 gEq (evCall [true, false] m__law_draw (evCons (evV 0) (evCons (evC (.int 8)) (evNil)))) (evC (.int 7))))) (sAsg [0] [8] (evCons (evIx (evV 7) (evCall [true, false] m__law_draw (evCons (evV 0) (evCons (evOp gLen (evCons (evV 7) (evNil))) (evNil))))) evNil)) (sNil)) (sExpr (evMut gmAppend (evCons (evChk isLst (evV 7)) (evCons (evV 8) (evNil)))))))
theorem a_L__law_machine_0 {ρ : DEnv} : L__law_machine_0 ρ = (sSeq (sAsg [0] [8] (evCons (evOpF gTup (evFz (evCons (evCall [true, false] m__law_draw (evCons (evV 0) (evCons (evV 2) (evNil)))) (evCons (evIx (evV 1) (evCall [true, false] m__law_draw (evCons (evV 0) (evCons (evOp gLen (evCons (evV 1) (evNil))) (evNil))))) (evCons (evCall [true, false] m__law_draw (evCons (evV 0) (evCons (evV 2) (evNil)))) (evNil)))))) evNil)) (sSeq (sAsg [0] [8] (evCons (ev2 gAddT (evV 8) (evOpF gTup (evFz (evCons (evCall [true, false] m__law_number (evCons (evV 0) (evCons (evV 4) (evNil)))) (evNil))))) evNil)) (sSeq (sIf (evAnd (evT (ev2 gNe (evV 7) (evOpF gLst (evFz (evNil))))) (evT (ev2 gEq (evCall [true, false] m__law_draw (evCons (evV 0) (evCons (evC (.int 8)) (evNil)))) (evC (.int 7))))) (sAsg [0] [8] (evCons (evIx (evV 7) (evCall [true, false] m__law_draw (evCons (evV 0) (evCons (evOp gLen (evCons (evV 7) (evNil))) (evNil))))) evNil)) (sNil)) (sExpr (evMut gmAppend (evCons (evChk isLst (evV 7)) (evCons (evV 8) (evNil)))))))) ρ := rfl
noncomputable def C__law_machine_1 : Ev AV := evComp (evIt gRng1 (evCons (evV 2) (evNil))) [6] (tgN [0, 1, 2, 3, 4, 5, 7, 8] 6) (evYes) (evCall [true, false] m__law_number (evCons (evV 0) (evCons (evV 4) (evNil))))
theorem a_C__law_machine_1 {ρ : DEnv} : C__law_machine_1 ρ = (evComp (evIt gRng1 (evCons (evV 2) (evNil))) [6] (tgN [0, 1, 2, 3, 4, 5, 7, 8] 6) (evYes) (evCall [true, false] m__law_number (evCons (evV 0) (evCons (evV 4) (evNil))))) ρ := rfl
noncomputable def f__law_machine : Sv := sSeq (sAsg [0] [5] (evCons (C__law_machine_0) evNil)) (sSeq (sAsg [0] [7] (evCons (evOpF gLst (evFz (evNil))) evNil)) (sSeq (sFor (evIt gRng1 (evCons (evCall [true, false] m__law_draw (evCons (evV 0) (evCons (ev2 gAdd (evC (.int 1)) (evOp gMin3 (evCons (evV 3) (evCons (evC (.int 24)) (evCons (ev2 gMul (evC (.int 5)) (evV 2)) (evNil)))))) (evNil)))) (evNil))) (tgN [0] 6) L__law_machine_0) (sRetO [0] (evMv (evCons (evV 1) (evCons (evV 5) (evCons (evV 7) (evCons (C__law_machine_1) (evNil)))))))))
noncomputable def m__law_machine : Mir := fnD N__law_machine.length P__law_machine.length [0] f__law_machine
noncomputable def C__law_signs_0 : Ev AV := evComp (evIt gItS (evCons (evC (.str ("abcdefghijklmnopqrstuvwxyz" : Str))) evNil)) [2] (tgN [0, 1, 3, 4] 2) (evYes) (evV 2)
theorem a_C__law_signs_0 {ρ : DEnv} : C__law_signs_0 ρ = (evComp (evIt gItS (evCons (evC (.str ("abcdefghijklmnopqrstuvwxyz" : Str))) evNil)) [2] (tgN [0, 1, 3, 4] 2) (evYes) (evV 2)) ρ := rfl
noncomputable def C__law_signs_1 : Ev AV := evComp (evIt gRng1 (evCons (ev2 gAdd (evC (.int 1)) (evCall [true, false] m__law_draw (evCons (evV 0) (evCons (evC (.int 3)) (evNil))))) (evNil))) [4] (tgN [0, 1, 2, 3] 4) (evYes) (evMut gmPopAt (evCons (evChk isLst (evV 1)) (evCons (evCall [true, false] m__law_draw (evCons (evV 0) (evCons (evOp gLen (evCons (evV 1) (evNil))) (evNil)))) (evNil))))
theorem a_C__law_signs_1 {ρ : DEnv} : C__law_signs_1 ρ = (evComp (evIt gRng1 (evCons (ev2 gAdd (evC (.int 1)) (evCall [true, false] m__law_draw (evCons (evV 0) (evCons (evC (.int 3)) (evNil))))) (evNil))) [4] (tgN [0, 1, 2, 3] 4) (evYes) (evMut gmPopAt (evCons (evChk isLst (evV 1)) (evCons (evCall [true, false] m__law_draw (evCons (evV 0) (evCons (evOp gLen (evCons (evV 1) (evNil))) (evNil)))) (evNil))))) ρ := rfl
noncomputable def f__law_signs : Sv := sSeq (sAsg [0] [1] (evCons (C__law_signs_0) evNil)) (sSeq (sAsg [0] [3] (evCons (C__law_signs_1) evNil)) (sRetO [0] (evOp gJoin (evCons (evChk isStr (evC (.str ("" : Str)))) (evCons (evOp gSortS (evCons (evV 3) (evNil))) (evNil))))))
noncomputable def m__law_signs : Mir := fnD N__law_signs.length P__law_signs.length [0] f__law_signs
noncomputable def C__law_some_machine_0 : Ev AV := evComp (evIt gItL (evCons (evIx (evV 4) (evC (.int 1))) evNil)) [6, 7] (tgTup 2 (tgCons (tgN [0, 1, 2, 3, 4, 5, 8, 9] 6) (tgCons (tgN [0, 1, 2, 3, 4, 5, 8, 9] 7) (tgNil)))) (evYes) (evOpF gTup (evFz (evCons (evV 6) (evCons (evC (.int 1)) (evNil)))))
theorem a_C__law_some_machine_0 {ρ : DEnv} : C__law_some_machine_0 ρ = (evComp (evIt gItL (evCons (evIx (evV 4) (evC (.int 1))) evNil)) [6, 7] (tgTup 2 (tgCons (tgN [0, 1, 2, 3, 4, 5, 8, 9] 6) (tgCons (tgN [0, 1, 2, 3, 4, 5, 8, 9] 7) (tgNil)))) (evYes) (evOpF gTup (evFz (evCons (evV 6) (evCons (evC (.int 1)) (evNil)))))) ρ := rfl
noncomputable def C__law_some_machine_1 : Ev AV := evComp (evIt gItL (evCons (evIx (evV 4) (evC (.int 2))) evNil)) [9] (tgN [0, 1, 2, 3, 4, 5, 6, 7, 8] 9) (evYes) (evOpF gTup (evFz (evCons (evIx (evV 9) (evC (.int 0))) (evCons (evIx (evV 9) (evC (.int 1))) (evCons (evIx (evV 9) (evC (.int 2))) (evCons (evOpF gTup (evFz (evCons (evIx (evIx (evV 9) (evC (.int 3))) (evC (.int 0))) (evCons (evC (.int 1)) (evNil))))) (evNil)))))))
theorem a_C__law_some_machine_1 {ρ : DEnv} : C__law_some_machine_1 ρ = (evComp (evIt gItL (evCons (evIx (evV 4) (evC (.int 2))) evNil)) [9] (tgN [0, 1, 2, 3, 4, 5, 6, 7, 8] 9) (evYes) (evOpF gTup (evFz (evCons (evIx (evV 9) (evC (.int 0))) (evCons (evIx (evV 9) (evC (.int 1))) (evCons (evIx (evV 9) (evC (.int 2))) (evCons (evOpF gTup (evFz (evCons (evIx (evIx (evV 9) (evC (.int 3))) (evC (.int 0))) (evCons (evC (.int 1)) (evNil))))) (evNil)))))))) ρ := rfl
noncomputable def C__law_some_machine_2 : Ev AV := evComp (evIt gItL (evCons (evIx (evV 4) (evC (.int 3))) evNil)) [6, 7] (tgTup 2 (tgCons (tgN [0, 1, 2, 3, 4, 5, 8, 9] 6) (tgCons (tgN [0, 1, 2, 3, 4, 5, 8, 9] 7) (tgNil)))) (evYes) (evOpF gTup (evFz (evCons (evV 6) (evCons (evC (.int 1)) (evNil)))))
theorem a_C__law_some_machine_2 {ρ : DEnv} : C__law_some_machine_2 ρ = (evComp (evIt gItL (evCons (evIx (evV 4) (evC (.int 3))) evNil)) [6, 7] (tgTup 2 (tgCons (tgN [0, 1, 2, 3, 4, 5, 8, 9] 6) (tgCons (tgN [0, 1, 2, 3, 4, 5, 8, 9] 7) (tgNil)))) (evYes) (evOpF gTup (evFz (evCons (evV 6) (evCons (evC (.int 1)) (evNil)))))) ρ := rfl
noncomputable def f__law_some_machine : Sv := sSeq (sAsg [0] [1] (evCons (evCall [true] m__law_signs (evCons (evV 0) (evNil))) evNil)) (sSeq (sAsg [0] [2] (evCons (evCall [true, false] m__law_draw (evCons (evV 0) (evCons (evC (.int 4)) (evNil)))) evNil)) (sSeq (sIf (evT (ev2 gEq (evV 2) (evC (.int 3)))) (sRetO [0] (evOpF gTup (evFz (evCons (evCall [true, false, false, false, false] m__law_machine (evCons (evV 0) (evCons (evV 1) (evCons (ev2 gAdd (evC (.int 1)) (evCall [true, false] m__law_draw (evCons (evV 0) (evCons (evC (.int 2)) (evNil))))) (evCons (evC (.int 6)) (evCons (ev2 gPow (evC (.int 10)) (evC (.int 9))) (evNil))))))) (evCons (evC (.bl false)) (evNil)))))) (sNil)) (sSeq (sAsg [0] [3] (evCons (evIx (evOpF gLst (evFz (evCons (evC (.int 3)) (evCons (evC (.int 2)) (evCons (evC (.int 1)) (evCons (evC (.int 4)) (evCons (evC (.int 0)) (evCons (evC (.int 5)) (evCons (evC (.int 6)) (evNil)))))))))) (evCall [true, false] m__law_draw (evCons (evV 0) (evCons (evC (.int 7)) (evNil))))) evNil)) (sSeq (sAsg [0] [4] (evCons (evCall [true, false, false, false, false] m__law_machine (evCons (evV 0) (evCons (evV 1) (evCons (evV 3) (evCons (evC (.int 24)) (evCons (evIx (evOpF gLst (evFz (evCons (evC (.int 8)) (evCons (evC (.int 10)) (evCons (evC (.int 198)) (evNil)))))) (evV 2)) (evNil))))))) evNil)) (sSeq (sIf (evT (ev2 gLt (evV 2) (evC (.int 2)))) (sRetO [0] (evOpF gTup (evFz (evCons (evV 4) (evCons (evC (.bl false)) (evNil)))))) (sNil)) (sSeq (sAsg [0] [5] (evCons (C__law_some_machine_0) evNil)) (sSeq (sAsg [0] [8] (evCons (C__law_some_machine_1) evNil)) (sRetO [0] (evOpF gTup (evFz (evCons (evOpF gLst (evFz (evCons (evV 1) (evCons (evV 5) (evCons (evV 8) (evCons (C__law_some_machine_2) (evNil))))))) (evCons (evC (.bl true)) (evNil)))))))))))))
noncomputable def m__law_some_machine : Mir := fnD N__law_some_machine.length P__law_some_machine.length [0] f__law_some_machine
noncomputable def L_law_0 : Sv := sSeq (sTgt (tgTup 2 (tgCons (tgN [] 4) (tgCons (tgN [] 5) (tgNil)))) (evCall [true] m__law_some_machine (evCons (evV 1) (evNil)))) (sSeq (sAsg [] [6] (evCons (evMake 20 [false, false, false, false] m_Machine____init__ (evCons (evIx (evV 4) (evC (.int 0))) (evCons (evOp gListS (evCons (evIx (evV 4) (evC (.int 1))) (evNil))) (evCons (evOp gListS (evCons (evIx (evV 4) (evC (.int 2))) (evNil))) (evCons (evOp gListS (evCons (evIx (evV 4) (evC (.int 3))) (evNil))) (evNil)))))) evNil)) (sExpr (evMut gmAppend (evCons (evChk isLst (evV 2)) (evCons (evOpF gTup (evFz (evCons (evV 4) (evCons (evV 6) (evCons (evCall [true, false, false] m__law_messages (evCons (evV 1) (evCons (evIx (evV 4) (evC (.int 0))) (evCons (evV 5) (evNil))))) (evNil)))))) (evNil))))))
theorem a_L_law_0 {ρ : DEnv} : L_law_0 ρ = (sSeq (sTgt (tgTup 2 (tgCons (tgN [] 4) (tgCons (tgN [] 5) (tgNil)))) (evCall [true] m__law_some_machine (evCons (evV 1) (evNil)))) (sSeq (sAsg [] [6] (evCons (evMake 20 [false, false, false, false] m_Machine____init__ (evCons (evIx (evV 4) (evC (.int 0))) (evCons (evOp gListS (evCons (evIx (evV 4) (evC (.int 1))) (evNil))) (evCons (evOp gListS (evCons (evIx (evV 4) (evC (.int 2))) (evNil))) (evCons (evOp gListS (evCons (evIx (evV 4) (evC (.int 3))) (evNil))) (evNil)))))) evNil)) (sExpr (evMut gmAppend (evCons (evChk isLst (evV 2)) (evCons (evOpF gTup (evFz (evCons (evV 4) (evCons (evV 6) (evCons (evCall [true, false, false] m__law_messages (evCons (evV 1) (evCons (evIx (evV 4) (evC (.int 0))) (evCons (evV 5) (evNil))))) (evNil)))))) (evNil))))))) ρ := rfl
noncomputable def L_law_1 : Sv := sIf (evAnd (evT (ev2 gLt (evV 7) (evOp gLen (evCons (evV 8) (evNil))))) (evNot (evTr (evCall [false, false, false] m__law_is_worth (evCons (evCallI 20 [false, false] m_Machine____call__ (evCons (evV 6) (evCons (evIx (evV 8) (evV 7)) (evNil)))) (evCons (evV 4) (evCons (evIx (evV 8) (evV 7)) (evNil)))))))) (sRetO [] (evC (.bl false))) (sNil)
theorem a_L_law_1 {ρ : DEnv} : L_law_1 ρ = (sIf (evAnd (evT (ev2 gLt (evV 7) (evOp gLen (evCons (evV 8) (evNil))))) (evNot (evTr (evCall [false, false, false] m__law_is_worth (evCons (evCallI 20 [false, false] m_Machine____call__ (evCons (evV 6) (evCons (evIx (evV 8) (evV 7)) (evNil)))) (evCons (evV 4) (evCons (evIx (evV 8) (evV 7)) (evNil)))))))) (sRetO [] (evC (.bl false))) (sNil)) ρ := rfl
noncomputable def L_law_2 : Sv := sFor (evIt gItL (evCons (evV 2) evNil)) (tgTup 3 (tgCons (tgN [] 4) (tgCons (tgN [] 6) (tgCons (tgN [] 8) (tgNil))))) L_law_1
theorem a_L_law_2 {ρ : DEnv} : L_law_2 ρ = (sFor (evIt gItL (evCons (evV 2) evNil)) (tgTup 3 (tgCons (tgN [] 4) (tgCons (tgN [] 6) (tgCons (tgN [] 8) (tgNil))))) L_law_1) ρ := rfl
noncomputable def L_law_3 : Sv := sSeq (sAsg [] [9] (evCons (evIx (evV 8) (evCall [true, false] m__law_draw (evCons (evV 1) (evCons (ev2 gAdd (evOp gLen (evCons (evIx (evV 4) (evC (.int 0))) (evNil))) (evC (.int 4))) (evNil))))) evNil)) (sSeq (sIf (evNot (evTr (evCall [true, false, false, false] m__law_is_refused (evCons (evV 1) (evCons (evV 6) (evCons (evIx (evV 4) (evC (.int 0))) (evCons (evV 9) (evNil)))))))) (sRetO [] (evC (.bl false))) (sNil)) (sIf (evNot (evTr (evCall [false, false, false] m__law_is_worth (evCons (evCallI 20 [false, false] m_Machine____call__ (evCons (evV 6) (evCons (evV 9) (evNil)))) (evCons (evV 4) (evCons (evV 9) (evNil))))))) (sRetO [] (evC (.bl false))) (sNil)))
theorem a_L_law_3 {ρ : DEnv} : L_law_3 ρ = (sSeq (sAsg [] [9] (evCons (evIx (evV 8) (evCall [true, false] m__law_draw (evCons (evV 1) (evCons (ev2 gAdd (evOp gLen (evCons (evIx (evV 4) (evC (.int 0))) (evNil))) (evC (.int 4))) (evNil))))) evNil)) (sSeq (sIf (evNot (evTr (evCall [true, false, false, false] m__law_is_refused (evCons (evV 1) (evCons (evV 6) (evCons (evIx (evV 4) (evC (.int 0))) (evCons (evV 9) (evNil)))))))) (sRetO [] (evC (.bl false))) (sNil)) (sIf (evNot (evTr (evCall [false, false, false] m__law_is_worth (evCons (evCallI 20 [false, false] m_Machine____call__ (evCons (evV 6) (evCons (evV 9) (evNil)))) (evCons (evV 4) (evCons (evV 9) (evNil))))))) (sRetO [] (evC (.bl false))) (sNil)))) ρ := rfl
noncomputable def f_law : Sv := sSeq (sAsg [] [1] (evCons (evCall [false] m__law_deck (evCons (evV 0) (evNil))) evNil)) (sSeq (sAsg [] [2] (evCons (evOpF gLst (evFz (evNil))) evNil)) (sSeq (sFor (evIt gRng1 (evCons (evC (.int 3)) (evNil))) (tgN [] 3) L_law_0) (sSeq (sFor (evIt gRng1 (evCons (evC (.int 10)) (evNil))) (tgN [] 7) L_law_2) (sSeq (sFor (evIt gItL (evCons (evV 2) evNil)) (tgTup 3 (tgCons (tgN [] 4) (tgCons (tgN [] 6) (tgCons (tgN [] 8) (tgNil))))) L_law_3) (sRetO [] (evC (.bl true)))))))
noncomputable def m_law : Mir := fnD N_law.length P_law.length [] f_law
/-! ### what the top has written -/
structure Txt (K : PySem.W.Frag) (mg : Str → Option Value) (ca : Nat → Addr) (fI : Addr) (fdI : FuncData) (a : Nat → Addr) (fd : Nat → FuncData) (pr : Nat → Addr) : Prop where
  fnI : Fun K "__init__" "WorthError.__init__" initS fI fdI
  bI : Binds K fdI [("self" : Str), ("value" : Str)] []
  bK : ∀ (s : Shared) (a : Addr) (u : Value), BindsTo s fdI ⟨[.ref a], [(("value" : Str), u)]⟩ [(("self" : Str), .ref a), (("value" : Str), u)]
  tI : PySem.W.typeIn K (.ref fI) = some (.type "function")
  vV : PySem.W.findCls K (.type "ValueError") (.type "type") "__init__" = some (.val (.builtin "ValueError.__init__"))
  zV : mg "ValueError" = none
  ex : ∀ c ∈ exs, ExK K ca fI c
  tab : TabOk K ca fI tab
  ct : ∀ k ∈ exs, ∀ c b, catch_ k c = some b → PySem.W.exmOne K (.ref (ca c)) (.ref (ca k)) = some b
  fn_integers_behind : Fun K "integers_behind" "integers_behind" S_integers_behind (a 0) (fd 0)
  b_integers_behind : Binds K (fd 0) P_integers_behind []
  g_integers_behind : mg "integers_behind" = some (.ref (a 0))
  fn_integers_of : Fun K "integers_of" "integers_of" S_integers_of (a 1) (fd 1)
  b_integers_of : Binds K (fd 1) P_integers_of []
  g_integers_of : mg "integers_of" = some (.ref (a 1))
  fn_known : Fun K "known" "known" S_known (a 2) (fd 2)
  b_known : Binds K (fd 2) P_known []
  g_known : mg "known" = some (.ref (a 2))
  fn_lowest : Fun K "lowest" "lowest" S_lowest (a 3) (fd 3)
  b_lowest : Binds K (fd 3) P_lowest []
  g_lowest : mg "lowest" = some (.ref (a 3))
  fn_Machine____call__ : Fun K "__call__" "Machine.__call__" S_Machine____call__ (a 4) (fd 4)
  b_Machine____call__ : Binds K (fd 4) P_Machine____call__ []
  fn_is_number : Fun K "is_number" "is_number" S_is_number (a 5) (fd 5)
  b_is_number : Binds K (fd 5) P_is_number []
  g_is_number : mg "is_number" = some (.ref (a 5))
  fn_checked : Fun K "checked" "checked" S_checked (a 6) (fd 6)
  b_checked : Binds K (fd 6) P_checked []
  g_checked : mg "checked" = some (.ref (a 6))
  fn_checked_sign : Fun K "checked_sign" "checked_sign" S_checked_sign (a 7) (fd 7)
  b_checked_sign : Binds K (fd 7) P_checked_sign []
  g_checked_sign : mg "checked_sign" = some (.ref (a 7))
  fn_checked_signs : Fun K "checked_signs" "checked_signs" S_checked_signs (a 8) (fd 8)
  b_checked_signs : Binds K (fd 8) P_checked_signs []
  g_checked_signs : mg "checked_signs" = some (.ref (a 8))
  fn_checked_machine : Fun K "checked_machine" "checked_machine" S_checked_machine (a 9) (fd 9)
  b_checked_machine : Binds K (fd 9) P_checked_machine []
  g_checked_machine : mg "checked_machine" = some (.ref (a 9))
  fn_steps_of : Fun K "steps_of" "steps_of" S_steps_of (a 10) (fd 10)
  b_steps_of : Binds K (fd 10) P_steps_of []
  g_steps_of : mg "steps_of" = some (.ref (a 10))
  fn_Machine____init__ : Fun K "__init__" "Machine.__init__" S_Machine____init__ (a 11) (fd 11)
  b_Machine____init__ : Binds K (fd 11) P_Machine____init__ []
  fn__law_deck : Fun K "_law_deck" "_law_deck" S__law_deck (a 12) (fd 12)
  b__law_deck : Binds K (fd 12) P__law_deck []
  g__law_deck : mg "_law_deck" = some (.ref (a 12))
  fn__law_draw : Fun K "_law_draw" "_law_draw" S__law_draw (a 13) (fd 13)
  b__law_draw : Binds K (fd 13) P__law_draw []
  g__law_draw : mg "_law_draw" = some (.ref (a 13))
  fn__law_is_refused : Fun K "_law_is_refused" "_law_is_refused" S__law_is_refused (a 14) (fd 14)
  b__law_is_refused : Binds K (fd 14) P__law_is_refused []
  g__law_is_refused : mg "_law_is_refused" = some (.ref (a 14))
  fn__law_gcd : Fun K "_law_gcd" "_law_gcd" S__law_gcd (a 15) (fd 15)
  b__law_gcd : Binds K (fd 15) P__law_gcd []
  g__law_gcd : mg "_law_gcd" = some (.ref (a 15))
  fn__law_over : Fun K "_law_over" "_law_over" S__law_over (a 16) (fd 16)
  b__law_over : Binds K (fd 16) P__law_over []
  g__law_over : mg "_law_over" = some (.ref (a 16))
  fn__law_scaled : Fun K "_law_scaled" "_law_scaled" S__law_scaled (a 17) (fd 17)
  b__law_scaled : Binds K (fd 17) P__law_scaled []
  g__law_scaled : mg "_law_scaled" = some (.ref (a 17))
  fn__law_stepped : Fun K "_law_stepped" "_law_stepped" S__law_stepped (a 18) (fd 18)
  b__law_stepped : Binds K (fd 18) P__law_stepped []
  g__law_stepped : mg "_law_stepped" = some (.ref (a 18))
  fn__law_is_worth : Fun K "_law_is_worth" "_law_is_worth" S__law_is_worth (a 19) (fd 19)
  b__law_is_worth : Binds K (fd 19) P__law_is_worth []
  g__law_is_worth : mg "_law_is_worth" = some (.ref (a 19))
  fn__law_message : Fun K "_law_message" "_law_message" S__law_message (a 20) (fd 20)
  b__law_message : Binds K (fd 20) P__law_message []
  g__law_message : mg "_law_message" = some (.ref (a 20))
  fn__law_messages : Fun K "_law_messages" "_law_messages" S__law_messages (a 21) (fd 21)
  b__law_messages : Binds K (fd 21) P__law_messages []
  g__law_messages : mg "_law_messages" = some (.ref (a 21))
  fn__law_pair : Fun K "_law_pair" "_law_pair" S__law_pair (a 22) (fd 22)
  b__law_pair : Binds K (fd 22) P__law_pair []
  g__law_pair : mg "_law_pair" = some (.ref (a 22))
  fn__law_number : Fun K "_law_number" "_law_number" S__law_number (a 23) (fd 23)
  b__law_number : Binds K (fd 23) P__law_number []
  g__law_number : mg "_law_number" = some (.ref (a 23))
  fn__law_machine : Fun K "_law_machine" "_law_machine" S__law_machine (a 24) (fd 24)
  b__law_machine : Binds K (fd 24) P__law_machine []
  g__law_machine : mg "_law_machine" = some (.ref (a 24))
  fn__law_signs : Fun K "_law_signs" "_law_signs" S__law_signs (a 25) (fd 25)
  b__law_signs : Binds K (fd 25) P__law_signs []
  g__law_signs : mg "_law_signs" = some (.ref (a 25))
  fn__law_some_machine : Fun K "_law_some_machine" "_law_some_machine" S__law_some_machine (a 26) (fd 26)
  b__law_some_machine : Binds K (fd 26) P__law_some_machine []
  g__law_some_machine : mg "_law_some_machine" = some (.ref (a 26))
  fn_law : Fun K "law" "law" S_law (a 27) (fd 27)
  b_law : Binds K (fd 27) P_law []
  g_law : mg "law" = some (.ref (a 27))
  own_Machine : OwnK K (ca 20) (a 11) [(("__call__" : Str), a 4)] [] [("_signs" : Str), ("_begin" : Str), ("_steps" : Str), ("_end" : Str), ("_roads" : Str)]
  ft : FldOk K ca ftab
  kwm_Machine____call___message : KwM K (fd 4) P_Machine____call__ [("message" : Str)] [0]
  z_len : mg "len" = none
  g_lcm : mg "lcm" = some (.builtin "math.lcm")
  g_UnknownSign : mg "UnknownSign" = some (.ref (ca 3))
  g_gcd : mg "gcd" = some (.builtin "math.gcd")
  z_sum : mg "sum" = none
  z_zip : mg "zip" = none
  g_InvalidNumber : mg "InvalidNumber" = some (.ref (ca 1))
  g_LETTERS : ∃ t : Tok, mg "LETTERS" = some (.str ("abcdefghijklmnopqrstuvwxyz" : Str) t)
  g_InvalidSigns : mg "InvalidSigns" = some (.ref (ca 2))
  g_InvalidMachine : mg "InvalidMachine" = some (.ref (ca 4))
  z_list : mg "list" = none
  z_int : mg "int" = none
  z_range : mg "range" = none
  g_WorthError : mg "WorthError" = some (.ref (ca 0))
  z_isinstance : mg "isinstance" = none
  z_ValueError : mg "ValueError" = none
  g_UnlikeSigns : mg "UnlikeSigns" = some (.ref (ca 5))
  z_str : mg "str" = none
  z_abs : mg "abs" = none
  z_tuple : mg "tuple" = none
  z_bool : mg "bool" = none
  z_min : mg "min" = none
  z_sorted : mg "sorted" = none
  g_Machine : mg "Machine" = some (.ref (ca 20))
/-! ### each def does what its function tells -/
section
variable {P : Program} {w : World} {K : PySem.W.Frag} {mg : Str → Option Value} {base : Heap} {ca : Nat → Addr} {fI : Addr} {fdI : FuncData} {a : Nat → Addr} {fd : Nat → FuncData} {pr : Nat → Addr}
theorem ok_init (T : Txt K mg ca fI fdI a fd pr) : FnOk P w K mg base (L2.CX P w) 1 fI fdI [("self" : Str), ("value" : Str)] (spI K) := by
  refine T.fnI.okX sc_init (fun vs H Q E h => ?_) fun cdv A outer s H vs Q E hr h => ?_
  · obtain ⟨a, C, v, rfl, _⟩ := h
    rfl
  · obtain ⟨x, C, v, rfl, O, no, e1, q⟩ := h
    refine ⟨_, pss_cons (ps_expr (pe_veinit (by rfl) T.zV T.vV (pa_cons (pv 0) (pa_cons (pv 1) pa_nil)))) (pss_one (ps_ost (pv 0) (pv 1))), ?_⟩
    refine ⟨.ref x, rfl, v, rfl, x, C, [v], rfl, by simp, O, e1, ?_⟩
    exact ⟨v, rfl, .ref x, rfl, x, C, rfl, O, no, .inl ⟨e1, fun dx hdx hne => q dx hdx hne⟩⟩
theorem ok_integers_behind (T : Txt K mg ca fI fdI a fd pr) : FnD P w K mg base ca 1 (a 0) (fd 0) P_integers_behind m_integers_behind :=
  fn_d T.fn_integers_behind sc_integers_behind (by decide) fun cdv A outer s H E hr => db_cons (ds_name 2 sc_integers_behind.nd (de_bin opD_mul (de_lst (df_of (da_cons (de_int) (da_nil)))) (de_callB callD_len (by rfl) T.z_len (by decide +kernel) (da_cons (de_pv 1) (da_nil))))) (db_cons (ds_for rfl (di_list (de_pv 0)) (dg_tup rfl (dgs_cons (dg_nm 3 sc_integers_behind.nd) (dgs_cons (dg_nm 4 sc_integers_behind.nd) (dgs_cons (dg_nm 5 sc_integers_behind.nd) (dgs_nil))))) (db_one (ds_if (dt_cmp (opD_ne hr.units) (de_ix2 (de_pv 1) (de_pv 3) (fun _ _ => rfl)) (de_int) (nomark _)) (db_one (ds_asg (de_bin opD_add (de_ix2 (de_pv 2) (de_pv 4) (fun _ _ => rfl)) (de_bin opD_mul (de_ix2 (de_pv 1) (de_pv 3) (fun _ _ => rfl)) (de_pv 5))) (dg_sub (de_pv 2) (de_pv 4) setD_list))) (db_nil)))) (db_one (ds_retO (de_pv 2))))
theorem ok_integers_of (T : Txt K mg ca fI fdI a fd pr) : FnD P w K mg base ca 1 (a 1) (fd 1) P_integers_of m_integers_of :=
  fn_d T.fn_integers_of sc_integers_of (by decide) fun cdv A outer s H E hr => db_cons (ds_nameC 1 sc_integers_of.nd (de_int)) (db_cons (ds_for rfl (di_list (de_pv 0)) (dg_nm 2 sc_integers_of.nd) (db_one (ds_nameC 1 sc_integers_of.nd (de_callG callD_lcm (by rfl) T.g_lcm (da_cons (de_pv 1) (da_cons (de_ix2 (de_pv 2) (de_int) (fun _ _ => rfl)) (da_nil))))))) (db_one (ds_retO (de_tup (df_of (da_cons (de_lc (own := [(("number" : Str), 2)]) rfl sc_integers_of.nd (di_list (de_pv 0)) (blkOk_by (own := [(("number" : Str), 2)]) (N := N_integers_of) (sc := defScope S_integers_of) (by decide +kernel)) (fun _ _ _ _ _ => dg_nm 2 sc_integers_of.nd) (fun _ _ _ _ _ => dts_nil) (fun _ _ _ _ _ => de_bin opD_mul (de_ix2 (de_pv 2) (de_int) (fun _ _ => rfl)) (de_bin opD_div (de_pv 1) (de_ix2 (de_pv 2) (de_int) (fun _ _ => rfl))))) (da_cons (de_pv 1) (da_nil))))))))
theorem ok_known (T : Txt K mg ca fI fdI a fd pr) : FnD P w K mg base ca 3 (a 2) (fd 2) P_known m_known :=
  fn_d T.fn_known sc_known (by decide) fun cdv A outer s H E hr => db_one (ds_for rfl (di_str (de_pv 0)) (dg_nm 2 sc_known.nd) (db_one (ds_if (dt_cmp (opD_nin (u65 hr)) (de_pv 2) (de_pv 1) (by rfl)) (db_one (ds_raise (c := 3) rfl (T.ex 3 (by decide)) T.tI (ok_init T) (hr.mono (by decide)) T.bI T.g_UnknownSign (df_of (da_cons (de_pv 2) (da_nil))))) (db_nil))))
theorem ok_lowest (T : Txt K mg ca fI fdI a fd pr) : FnD P w K mg base ca 1 (a 3) (fd 3) P_lowest m_lowest :=
  fn_d T.fn_lowest sc_lowest (by decide) fun cdv A outer s H E hr => db_cons (ds_name 2 sc_lowest.nd (de_callG callD_gcd (by rfl) T.g_gcd (da_cons (de_pv 0) (da_cons (de_pv 1) (da_nil))))) (db_cons (ds_if (dt_cmp opD_lt (de_pv 1) (de_int) (nomark _)) (db_one (ds_name 2 sc_lowest.nd (de_un opD_neg (de_pv 2)))) (db_nil)) (db_one (ds_retO (de_tup (df_of (da_cons (de_bin opD_div (de_pv 0) (de_pv 2)) (da_cons (de_bin opD_div (de_pv 1) (de_pv 2)) (da_nil))))))))
theorem ok_Machine____call__ (T : Txt K mg ca fI fdI a fd pr) : FnD P w K mg base ca 4 (a 4) (fd 4) P_Machine____call__ m_Machine____call__ :=
  fn_d T.fn_Machine____call__ sc_Machine____call__ (by decide) fun cdv A outer s H E hr => db_cons (ds_expr (de_call (ms := [false, false]) (ok_known T) (hr.mono (by decide)) T.g_known T.fn_known.kp T.b_known (da_cons (de_pv 1) (da_cons (de_fld T.ft (de_pv 0)) (da_nil))) (len_cons (len_cons len_nil)))) (db_cons (ds_asg (de_call (ms := [false]) (ok_integers_of T) (hr.mono (by decide)) T.g_integers_of T.fn_integers_of.kp T.b_integers_of (da_cons (de_fld T.ft (de_pv 0)) (da_nil)) (len_cons len_nil)) (dg_tup rfl (dgs_cons (dg_nm 2 sc_Machine____call__.nd) (dgs_cons (dg_nm 3 sc_Machine____call__.nd) (dgs_nil))))) (db_cons (ds_for rfl (di_str (de_pv 1)) (dg_nm 4 sc_Machine____call__.nd) (db_cons (ds_asg (de_dx (u1 hr) (de_fld T.ft (de_pv 0)) (de_pv 4) (fun _ _ => rfl)) (dg_tup rfl (dgs_cons (dg_nm 5 sc_Machine____call__.nd) (dgs_cons (dg_nm 6 sc_Machine____call__.nd) (dgs_nil))))) (db_cons (ds_name 2 sc_Machine____call__.nd (de_call (ms := [false, false]) (ok_integers_behind T) (hr.mono (by decide)) T.g_integers_behind T.fn_integers_behind.kp T.b_integers_behind (da_cons (de_pv 5) (da_cons (de_pv 2) (da_nil))) (len_cons (len_cons len_nil)))) (db_one (ds_name 3 sc_Machine____call__.nd (de_bin opD_mul (de_pv 3) (de_pv 6))))))) (db_cons (ds_asg (de_call (ms := [false]) (ok_integers_of T) (hr.mono (by decide)) T.g_integers_of T.fn_integers_of.kp T.b_integers_of (da_cons (de_fld T.ft (de_pv 0)) (da_nil)) (len_cons len_nil)) (dg_tup rfl (dgs_cons (dg_nm 7 sc_Machine____call__.nd) (dgs_cons (dg_nm 6 sc_Machine____call__.nd) (dgs_nil))))) (db_one (ds_retO (de_call (ms := [false, false]) (ok_lowest T) (hr.mono (by decide)) T.g_lowest T.fn_lowest.kp T.b_lowest (da_cons (de_callB (callD_sum rfl) (by rfl) T.z_sum (by decide +kernel) (da_cons (de_lc (own := [(("one" : Str), 8), (("other" : Str), 9)]) rfl sc_Machine____call__.nd (di_zipA T.z_zip (da_cons (de_pv 2) (da_cons (de_pv 7) (da_nil)))) (blkOk_by (own := [(("one" : Str), 8), (("other" : Str), 9)]) (N := N_Machine____call__) (sc := defScope S_Machine____call__) (by decide +kernel)) (fun _ _ _ _ _ => dg_tup rfl (dgs_cons (dg_nm 8 sc_Machine____call__.nd) (dgs_cons (dg_nm 9 sc_Machine____call__.nd) (dgs_nil)))) (fun _ _ _ _ _ => dts_nil) (fun _ _ _ _ _ => de_bin opD_mul (de_pv 8) (de_pv 9))) (da_nil))) (da_cons (de_bin opD_mul (de_pv 3) (de_pv 6)) (da_nil))) (len_cons (len_cons len_nil))))))))
theorem ok_is_number (T : Txt K mg ca fI fdI a fd pr) : FnD P w K mg base ca 1 (a 5) (fd 5) P_is_number m_is_number :=
  fn_d T.fn_is_number sc_is_number (by decide) fun cdv A outer s H E hr => db_cons (ds_asg (de_pv 0) (dg_tup rfl (dgs_cons (dg_nm 1 sc_is_number.nd) (dgs_cons (dg_nm 2 sc_is_number.nd) (dgs_nil))))) (db_one (ds_retO (de_and (de_cmp opD_ge (de_pv 2) (de_int) (nomark _)) (de_one (de_cmp (opD_eq hr.units) (de_callG callD_gcd (by rfl) T.g_gcd (da_cons (de_pv 1) (da_cons (de_pv 2) (da_nil)))) (de_int) (nomark _))))))
theorem ok_checked (T : Txt K mg ca fI fdI a fd pr) : FnD P w K mg base ca 3 (a 6) (fd 6) P_checked m_checked :=
  fn_d T.fn_checked sc_checked (by decide) fun cdv A outer s H E hr => db_cons (ds_if (dt_not (dt_tru (de_call (ms := [false]) (ok_is_number T) (hr.mono (by decide)) T.g_is_number T.fn_is_number.kp T.b_is_number (da_cons (de_pv 0) (da_nil)) (len_cons len_nil)))) (db_one (ds_raise (c := 1) rfl (T.ex 1 (by decide)) T.tI (ok_init T) (hr.mono (by decide)) T.bI T.g_InvalidNumber (df_of (da_cons (de_pv 0) (da_nil))))) (db_nil)) (db_one (ds_ret (de_pv 0)))
theorem ok_checked_sign (T : Txt K mg ca fI fdI a fd pr) : FnD P w K mg base ca 3 (a 7) (fd 7) P_checked_sign m_checked_sign :=
  fn_d T.fn_checked_sign sc_checked_sign (by decide) fun cdv A outer s H E hr => db_one (ds_if (dt_bool (dw_or (dt_cmp (opD_ne hr.units) (de_callB callD_len (by rfl) T.z_len (by decide +kernel) (da_cons (de_pv 0) (da_nil))) (de_int) (nomark _)) (dw_or1 (dt_cmp (opD_nin (u65 hr)) (de_pv 0) (de_pv 1) (by rfl))))) (db_one (ds_raise (c := 3) rfl (T.ex 3 (by decide)) T.tI (ok_init T) (hr.mono (by decide)) T.bI T.g_UnknownSign (df_of (da_cons (de_pv 0) (da_nil))))) (db_nil))
theorem ok_checked_signs (T : Txt K mg ca fI fdI a fd pr) : FnD P w K mg base ca 3 (a 8) (fd 8) P_checked_signs m_checked_signs :=
  fn_d T.fn_checked_signs sc_checked_signs (by decide) fun cdv A outer s H E hr => db_cons (ds_name 1 sc_checked_signs.nd (de_str)) (db_cons (ds_for rfl (di_str (de_pv 0)) (dg_nm 2 sc_checked_signs.nd) (db_cons (ds_if (dt_bool (dw_or (dt_cmp (opD_nin (u65 hr)) (de_pv 2) (de_gstr (z := ("abcdefghijklmnopqrstuvwxyz" : Str)) T.g_LETTERS) (by rfl)) (dw_or1 (dt_cmp opD_le (de_pv 2) (de_pv 1) (nomark _))))) (db_one (ds_raise (c := 2) rfl (T.ex 2 (by decide)) T.tI (ok_init T) (hr.mono (by decide)) T.bI T.g_InvalidSigns (df_of (da_cons (de_pv 0) (da_nil))))) (db_nil)) (db_one (ds_name 1 sc_checked_signs.nd (de_pv 2))))) (db_one (ds_if (dt_cmp (opD_eq hr.units) (de_pv 0) (de_str) (nomark _)) (db_one (ds_raise (c := 2) rfl (T.ex 2 (by decide)) T.tI (ok_init T) (hr.mono (by decide)) T.bI T.g_InvalidSigns (df_of (da_cons (de_pv 0) (da_nil))))) (db_nil))))
theorem ok_checked_machine (T : Txt K mg ca fI fdI a fd pr) : FnD P w K mg base ca 4 (a 9) (fd 9) P_checked_machine m_checked_machine :=
  fn_d T.fn_checked_machine sc_checked_machine (by decide) fun cdv A outer s H E hr => db_cons (ds_expr (de_call (ms := [false]) (ok_checked_signs T) (hr.mono (by decide)) T.g_checked_signs T.fn_checked_signs.kp T.b_checked_signs (da_cons (de_pv 0) (da_nil)) (len_cons len_nil))) (db_cons (ds_for rfl (di_list (de_pv 1)) (dg_nm 4 sc_checked_machine.nd) (db_one (ds_expr (de_call (ms := [false]) (ok_checked T) (hr.mono (by decide)) T.g_checked T.fn_checked.kp T.b_checked (da_cons (de_pv 4) (da_nil)) (len_cons len_nil))))) (db_cons (ds_for rfl (di_list (de_pv 2)) (dg_nm 5 sc_checked_machine.nd) (db_one (ds_expr (de_call (ms := [false]) (ok_checked T) (hr.mono (by decide)) T.g_checked T.fn_checked.kp T.b_checked (da_cons (de_ix2 (de_pv 5) (de_int) (fun _ _ => rfl)) (da_nil)) (len_cons len_nil))))) (db_cons (ds_for rfl (di_list (de_pv 3)) (dg_nm 4 sc_checked_machine.nd) (db_one (ds_expr (de_call (ms := [false]) (ok_checked T) (hr.mono (by decide)) T.g_checked T.fn_checked.kp T.b_checked (da_cons (de_pv 4) (da_nil)) (len_cons len_nil))))) (db_cons (ds_for rfl (di_list (de_pv 2)) (dg_nm 5 sc_checked_machine.nd) (db_cons (ds_if (dt_not (dt_chain opD_le opD_lt (de_int) (de_ix2 (de_pv 5) (de_int) (fun _ _ => rfl)) (de_callB callD_len (by rfl) T.z_len (by decide +kernel) (da_cons (de_pv 1) (da_nil))))) (db_one (ds_raise (c := 4) rfl (T.ex 4 (by decide)) T.tI (ok_init T) (hr.mono (by decide)) T.bI T.g_InvalidMachine (df_of (da_cons (de_pv 5) (da_nil))))) (db_nil)) (db_cons (ds_expr (de_call (ms := [false, false]) (ok_checked_sign T) (hr.mono (by decide)) T.g_checked_sign T.fn_checked_sign.kp T.b_checked_sign (da_cons (de_ix2 (de_pv 5) (de_int) (fun _ _ => rfl)) (da_cons (de_pv 0) (da_nil))) (len_cons (len_cons len_nil)))) (db_one (ds_if (dt_not (dt_chain opD_le opD_lt (de_int) (de_ix2 (de_pv 5) (de_int) (fun _ _ => rfl)) (de_callB callD_len (by rfl) T.z_len (by decide +kernel) (da_cons (de_pv 1) (da_nil))))) (db_one (ds_raise (c := 4) rfl (T.ex 4 (by decide)) T.tI (ok_init T) (hr.mono (by decide)) T.bI T.g_InvalidMachine (df_of (da_cons (de_pv 5) (da_nil))))) (db_nil)))))) (db_one (ds_if (dt_cmp (opD_ne hr.units) (de_callB callD_len (by rfl) T.z_len (by decide +kernel) (da_cons (de_pv 1) (da_nil))) (de_callB callD_len (by rfl) T.z_len (by decide +kernel) (da_cons (de_pv 3) (da_nil))) (nomark _)) (db_one (ds_raise (c := 4) rfl (T.ex 4 (by decide)) T.tI (ok_init T) (hr.mono (by decide)) T.bI T.g_InvalidMachine (df_of (da_cons (de_callTy (callD_listS rfl) (by rfl) T.z_list (by decide +kernel) (da_cons (de_pv 3) (da_nil))) (da_nil))))) (db_nil)))))))
theorem ok_steps_of (T : Txt K mg ca fI fdI a fd pr) : FnD P w K mg base ca 1 (a 10) (fd 10) P_steps_of m_steps_of :=
  fn_d T.fn_steps_of sc_steps_of (by decide) fun cdv A outer s H E hr => db_cons (ds_name 2 sc_steps_of.nd (de_int)) (db_cons (ds_for rfl (di_list (de_pv 0)) (dg_nm 3 sc_steps_of.nd) (db_one (ds_if (dt_cmp (opD_eq hr.units) (de_ix2 (de_pv 3) (de_int) (fun _ _ => rfl)) (de_pv 1) (nomark _)) (db_one (ds_name 2 sc_steps_of.nd (de_callG callD_lcm (by rfl) T.g_lcm (da_cons (de_pv 2) (da_cons (de_ix2 (de_ix2 (de_pv 3) (de_int) (fun _ _ => rfl)) (de_int) (fun _ _ => rfl)) (da_nil)))))) (db_nil)))) (db_cons (ds_name 4 sc_steps_of.nd (de_lst (df_of (da_nil)))) (db_cons (ds_for rfl (di_list (de_pv 0)) (dg_tup rfl (dgs_cons (dg_nm 5 sc_steps_of.nd) (dgs_cons (dg_nm 6 sc_steps_of.nd) (dgs_cons (dg_nm 7 sc_steps_of.nd) (dgs_cons (dg_nm 8 sc_steps_of.nd) (dgs_nil)))))) (db_one (ds_if (dt_bool (dw_and (dt_cmp (opD_eq hr.units) (de_pv 6) (de_pv 1) (nomark _)) (dw_and1 (dt_cmp (opD_ne hr.units) (de_ix2 (de_pv 8) (de_int) (fun _ _ => rfl)) (de_int) (nomark _))))) (db_one (ds_expr (de_mu ty_lst PySem.F.plainAttrs_list PySem.F.slot_list_append PySem.F.type_list_append mutD_append (de_pv 4) (da_cons (de_tup (df_of (da_cons (de_pv 5) (da_cons (de_pv 7) (da_cons (de_bin opD_mul (de_ix2 (de_pv 8) (de_int) (fun _ _ => rfl)) (de_bin opD_div (de_pv 2) (de_ix2 (de_pv 8) (de_int) (fun _ _ => rfl)))) (da_nil)))))) (da_nil))))) (db_nil)))) (db_one (ds_retO (de_tup (df_of (da_cons (de_pv 4) (da_cons (de_pv 2) (da_nil))))))))))
theorem ok_Machine____init__ (T : Txt K mg ca fI fdI a fd pr) : FnD P w K mg base ca 5 (a 11) (fd 11) P_Machine____init__ m_Machine____init__ :=
  fn_d T.fn_Machine____init__ sc_Machine____init__ (by decide) fun cdv A outer s H E hr => db_cons (ds_expr (de_call (ms := [false, false, false, false]) (ok_checked_machine T) (hr.mono (by decide)) T.g_checked_machine T.fn_checked_machine.kp T.b_checked_machine (da_cons (de_pv 1) (da_cons (de_pv 2) (da_cons (de_pv 3) (da_cons (de_pv 4) (da_nil))))) (len_cons (len_cons (len_cons (len_cons len_nil)))))) (db_cons (ds_fld T.ft 0 (de_pv 1)) (db_cons (ds_fld T.ft 0 (de_callTy (callD_listS rfl) (by rfl) T.z_list (by decide +kernel) (da_cons (de_pv 2) (da_nil)))) (db_cons (ds_fld T.ft 0 (de_callTy (callD_listS rfl) (by rfl) T.z_list (by decide +kernel) (da_cons (de_pv 3) (da_nil)))) (db_cons (ds_fld T.ft 0 (de_callTy (callD_listS rfl) (by rfl) T.z_list (by decide +kernel) (da_cons (de_pv 4) (da_nil)))) (db_one (ds_fld T.ft 0 (de_dc (own := [(("sign" : Str), 5)]) rfl sc_Machine____init__.nd (di_str (de_pv 1)) (blkOk_by (own := [(("sign" : Str), 5)]) (N := N_Machine____init__) (sc := defScope S_Machine____init__) (by decide +kernel)) (fun _ _ _ _ _ => dg_nm 5 sc_Machine____init__.nd) (fun _ _ _ _ _ => dts_nil) (fun _ _ _ _ _ => de_pv 5) (fun _ _ _ _ _ => de_call (ms := [false, false]) (ok_steps_of T) (hr.mono (by decide)) T.g_steps_of T.fn_steps_of.kp T.b_steps_of (da_cons (de_pv 3) (da_cons (de_pv 5) (da_nil))) (len_cons (len_cons len_nil))))))))))
theorem ok__law_deck (T : Txt K mg ca fI fdI a fd pr) : FnD P w K mg base ca 1 (a 12) (fd 12) P__law_deck m__law_deck :=
  fn_d T.fn__law_deck sc__law_deck (by decide) fun cdv A outer s H E hr => db_cons (ds_two 1 2 rfl sc__law_deck.nd (de_int) (de_lst (df_of (da_nil)))) (db_cons (ds_for rfl (di_list (de_pv 0)) (dg_nm 3 sc__law_deck.nd) (db_one (ds_if (dt_cmp opD_ge (de_pv 3) (de_bin opD_pow (de_int) (de_int)) (nomark _)) (db_one (ds_expr (de_mu ty_lst PySem.F.plainAttrs_list PySem.F.slot_list_insert PySem.F.type_list_insert mutD_insert (de_pv 2) (da_cons (de_int) (da_cons (de_bin opD_sub (de_pv 3) (de_bin opD_pow (de_int) (de_int))) (da_nil)))))) (db_one (ds_name 1 sc__law_deck.nd (de_bin opD_add (de_bin opD_mod (de_callTy callD_int (by rfl) T.z_int (by decide +kernel) (da_cons (de_bin opD_pow (de_bin opD_add (de_pv 1) (de_bin opD_mod (de_callTy callD_int (by rfl) T.z_int (by decide +kernel) (da_cons (de_pv 3) (da_nil))) (de_int))) (de_int)) (da_nil))) (de_int)) (de_int))))))) (db_one (ds_retO (de_lstO (da_cons (de_pv 2) (da_cons (de_int) (da_cons (de_pv 1) (da_cons (de_int) (da_nil)))))))))
theorem ok__law_draw (T : Txt K mg ca fI fdI a fd pr) : FnD P w K mg base ca 1 (a 13) (fd 13) P__law_draw m__law_draw :=
  fn_d T.fn__law_draw sc__law_draw (by decide) fun cdv A outer s H E hr => db_cons (ds_if (dt_bool (dw_and (dt_cmp (opD_eq hr.units) (de_ix2 (de_pv 0) (de_int) (fun _ _ => rfl)) (de_int) (nomark _)) (dw_and1 (dt_cmp (opD_ne hr.units) (de_ix2 (de_pv 0) (de_int) (fun _ _ => rfl)) (de_lst (df_of (da_nil))) (nomark _))))) (db_one (ds_asg (de_mu0 ty_lst PySem.F.plainAttrs_list PySem.F.slot_list_pop PySem.F.type_list_pop mutD_pop (de_ix2 (de_pv 0) (de_int) (fun _ _ => rfl))) (dg_sub (de_pv 0) (de_int) setD_list))) (db_nil)) (db_cons (ds_if (dt_cmp opD_gt (de_ix2 (de_pv 0) (de_int) (fun _ _ => rfl)) (de_int) (nomark _)) (db_cons (ds_name 2 sc__law_draw.nd (de_bin opD_mod (de_callTy callD_int (by rfl) T.z_int (by decide +kernel) (da_cons (de_ix2 (de_pv 0) (de_int) (fun _ _ => rfl)) (da_nil))) (de_pv 1))) (db_cons (ds_asg (de_bin opD_div (de_ix2 (de_pv 0) (de_int) (fun _ _ => rfl)) (de_pv 1)) (dg_sub (de_pv 0) (de_int) setD_list)) (db_one (ds_retO (de_pv 2))))) (db_nil)) (db_cons (ds_asg (de_bin opD_add (de_ix2 (de_pv 0) (de_int) (fun _ _ => rfl)) (de_int)) (dg_sub (de_pv 0) (de_int) setD_list)) (db_cons (ds_name 3 sc__law_draw.nd (de_bin opD_mod (de_callTy callD_int (by rfl) T.z_int (by decide +kernel) (da_cons (de_bin opD_pow (de_bin opD_add (de_ix2 (de_pv 0) (de_int) (fun _ _ => rfl)) (de_bin opD_mul (de_bin opD_mul (de_int) (de_ix2 (de_pv 0) (de_int) (fun _ _ => rfl))) (de_ix2 (de_pv 0) (de_int) (fun _ _ => rfl)))) (de_int)) (da_nil))) (de_int))) (db_one (ds_retO (de_bin opD_mod (de_bin opD_div (de_bin opD_mod (de_callTy callD_int (by rfl) T.z_int (by decide +kernel) (da_cons (de_bin opD_mul (de_pv 3) (de_bin opD_add (de_pv 3) (de_int))) (da_nil))) (de_int)) (de_int)) (de_pv 1)))))))
theorem ok__law_is_refused (T : Txt K mg ca fI fdI a fd pr) : FnD P w K mg base ca 5 (a 14) (fd 14) P__law_is_refused m__law_is_refused :=
  fn_d T.fn__law_is_refused sc__law_is_refused (by decide) fun cdv A outer s H E hr => db_cons (ds_setlc 4 (own := [(("letter" : Str), 5)]) rfl sc__law_is_refused.nd (di_str (de_str)) (blkOk_by (own := [(("letter" : Str), 5)]) (N := N__law_is_refused) (sc := defScope S__law_is_refused) (by decide +kernel)) (fun _ _ _ _ _ => dg_nm 5 sc__law_is_refused.nd) (fun _ _ _ _ _ => dts_one (dt_cmp (opD_nin (u65 hr)) (de_pv 5) (de_pv 2) (by rfl))) (fun _ _ _ _ _ => de_pv 5) (sw_true rfl rfl rfl (by decide +kernel))) (db_cons (ds_name 6 sc__law_is_refused.nd (de_pv 3)) (db_cons (ds_for rfl (di_range1 T.z_range (da_cons (de_bin opD_add (de_int) (de_call (ms := [true, false]) (ok__law_draw T) (hr.mono (by decide)) T.g__law_draw T.fn__law_draw.kp T.b__law_draw (da_cons (de_pv 0) (da_cons (de_int) (da_nil))) (len_cons (len_cons len_nil)))) (da_nil))) (dg_nm 7 sc__law_is_refused.nd) (db_cons (ds_name 8 sc__law_is_refused.nd (de_call (ms := [true, false]) (ok__law_draw T) (hr.mono (by decide)) T.g__law_draw T.fn__law_draw.kp T.b__law_draw (da_cons (de_pv 0) (da_cons (de_bin opD_add (de_callB callD_len (by rfl) T.z_len (by decide +kernel) (da_cons (de_pv 6) (da_nil))) (de_int)) (da_nil))) (len_cons (len_cons len_nil)))) (db_one (ds_name 6 sc__law_is_refused.nd (de_bin opD_add (de_bin opD_add (de_sl01 (de_pv 6) (de_pv 8)) (de_ix2 (de_pv 4) (de_call (ms := [true, false]) (ok__law_draw T) (hr.mono (by decide)) T.g__law_draw T.fn__law_draw.kp T.b__law_draw (da_cons (de_pv 0) (da_cons (de_callB callD_len (by rfl) T.z_len (by decide +kernel) (da_cons (de_pv 4) (da_nil))) (da_nil))) (len_cons (len_cons len_nil))) (fun _ _ => rfl))) (de_sl10 (de_pv 6) (de_pv 8))))))) (db_cons (ds_name 9 sc__law_is_refused.nd (de_ix2 (de_lc (own := [(("sign" : Str), 10)]) rfl sc__law_is_refused.nd (di_str (de_pv 6)) (blkOk_by (own := [(("sign" : Str), 10)]) (N := N__law_is_refused) (sc := defScope S__law_is_refused) (by decide +kernel)) (fun _ _ _ _ _ => dg_nm 10 sc__law_is_refused.nd) (fun _ _ _ _ _ => dts_one (dt_cmp (opD_nin (u65 hr)) (de_pv 10) (de_pv 2) (by rfl))) (fun _ _ _ _ _ => de_pv 10)) (de_int) (fun _ _ => rfl))) (db_cons (ds_name 11 sc__law_is_refused.nd (de_non)) (db_cons (ds_cat (i := 12) rfl rfl sc__law_is_refused.nd rfl rfl ⟨rfl, by decide, .inl T.g_WorthError⟩ (by decide) (T.ct 0 (by decide)) (fun pn xe => db_one (ds_expr (de_callI (c := 20) (ms := [false, false]) (ok_Machine____call__ T) (T.own_Machine.meth (("__call__" : Str), a 4) (.head _)).at_ (T.own_Machine.meth (("__call__" : Str), a 4) (.head _)).fn (T.own_Machine.mfn (("__call__" : Str), a 4) (.head _)) (hr.mono (by decide)) T.b_Machine____call__ (de_pv 1) (da_cons (de_pv 6) (da_nil)) (fun ρ avs ρ' h => congrArg (· + 1) ((len_cons len_nil) ρ avs ρ' h))))) (fun ea pn => db_one (ds_name 11 sc__law_is_refused.nd (de_pv 12)))) (db_cons (ds_if (dt_bool (dw_or (dt_not (dt_tru (de_callB (callD_isi T.tab) (by rfl) T.z_isinstance (by decide +kernel) (da_cons (de_pv 11) (da_cons (de_cls (c := 3) T.g_UnknownSign) (da_nil)))))) (dw_or1 (dt_not (dt_tru (de_callB (callD_isi T.tab) (by rfl) T.z_isinstance (by decide +kernel) (da_cons (de_pv 11) (da_cons (de_ty (n := "ValueError") T.z_ValueError (by decide +kernel)) (da_nil))))))))) (db_one (ds_retO (de_bl))) (db_nil)) (db_cons (ds_if (dt_tru (de_callB (callD_isi T.tab) (by rfl) T.z_isinstance (by decide +kernel) (da_cons (de_pv 11) (da_cons (de_tup (df_of (da_cons (de_cls (c := 4) T.g_InvalidMachine) (da_cons (de_cls (c := 1) T.g_InvalidNumber) (da_cons (de_cls (c := 2) T.g_InvalidSigns) (da_cons (de_cls (c := 5) T.g_UnlikeSigns) (da_nil))))))) (da_nil))))) (db_one (ds_retO (de_bl))) (db_nil)) (db_one (ds_retO (de_and (de_callB (callD_isi T.tab) (by rfl) T.z_isinstance (by decide +kernel) (da_cons (de_xv T.ex (de_pv 11)) (da_cons (de_ty (n := "str") T.z_str (by decide +kernel)) (da_nil)))) (de_one (de_cmp (opD_eq hr.units) (de_xv T.ex (de_pv 11)) (de_pv 9) (nomark _)))))))))))))
theorem ok__law_gcd (T : Txt K mg ca fI fdI a fd pr) : FnD P w K mg base ca 1 (a 15) (fd 15) P__law_gcd m__law_gcd :=
  fn_d T.fn__law_gcd sc__law_gcd (by decide) fun cdv A outer s H E hr => db_cons (ds_two 0 1 rfl sc__law_gcd.nd (de_callB callD_abs (by rfl) T.z_abs (by decide +kernel) (da_cons (de_pv 0) (da_nil))) (de_callB callD_abs (by rfl) T.z_abs (by decide +kernel) (da_cons (de_pv 1) (da_nil)))) (db_cons (ds_while (dt_cmp (opD_ne hr.units) (de_pv 1) (de_int) (nomark _)) (db_one (ds_two 0 1 rfl sc__law_gcd.nd (de_pv 1) (de_bin opD_mod (de_callTy callD_int (by rfl) T.z_int (by decide +kernel) (da_cons (de_pv 0) (da_nil))) (de_pv 1))))) (db_one (ds_ret (de_pv 0))))
theorem ok__law_over (T : Txt K mg ca fI fdI a fd pr) : FnD P w K mg base ca 2 (a 16) (fd 16) P__law_over m__law_over :=
  fn_d T.fn__law_over sc__law_over (by decide) fun cdv A outer s H E hr => db_cons (ds_name 1 sc__law_over.nd (de_int)) (db_cons (ds_for rfl (di_list (de_pv 0)) (dg_tup rfl (dgs_cons (dg_nm 2 sc__law_over.nd) (dgs_cons (dg_nm 3 sc__law_over.nd) (dgs_nil)))) (db_one (ds_name 1 sc__law_over.nd (de_bin opD_mul (de_bin opD_div (de_pv 1) (de_call (ms := [false, false]) (ok__law_gcd T) (hr.mono (by decide)) T.g__law_gcd T.fn__law_gcd.kp T.b__law_gcd (da_cons (de_pv 1) (da_cons (de_pv 3) (da_nil))) (len_cons (len_cons len_nil)))) (de_pv 3))))) (db_one (ds_retO (de_pv 1))))
theorem ok__law_scaled (T : Txt K mg ca fI fdI a fd pr) : FnD P w K mg base ca 3 (a 17) (fd 17) P__law_scaled m__law_scaled :=
  fn_d T.fn__law_scaled sc__law_scaled (by decide) fun cdv A outer s H E hr => db_cons (ds_asg (de_tup (df_of (da_cons (de_call (ms := [false]) (ok__law_over T) (hr.mono (by decide)) T.g__law_over T.fn__law_over.kp T.b__law_over (da_cons (de_ix2 (de_pv 0) (de_int) (fun _ _ => rfl)) (da_nil)) (len_cons len_nil)) (da_cons (de_call (ms := [false]) (ok__law_over T) (hr.mono (by decide)) T.g__law_over T.fn__law_over.kp T.b__law_over (da_cons (de_ix2 (de_pv 0) (de_int) (fun _ _ => rfl)) (da_nil)) (len_cons len_nil)) (da_nil))))) (dg_tup rfl (dgs_cons (dg_nmC 1 sc__law_scaled.nd) (dgs_cons (dg_nmC 2 sc__law_scaled.nd) (dgs_nil))))) (db_cons (ds_nameC 3 sc__law_scaled.nd (de_call (ms := [false]) (ok__law_over T) (hr.mono (by decide)) T.g__law_over T.fn__law_over.kp T.b__law_over (da_cons (de_lc (own := [(("road" : Str), 4)]) rfl sc__law_scaled.nd (di_list (de_ix2 (de_pv 0) (de_int) (fun _ _ => rfl))) (blkOk_by (own := [(("road" : Str), 4)]) (N := N__law_scaled) (sc := defScope S__law_scaled) (by decide +kernel)) (fun _ _ _ _ _ => dg_nm 4 sc__law_scaled.nd) (fun _ _ _ _ _ => dts_nil) (fun _ _ _ _ _ => de_ix2 (de_pv 4) (de_int) (fun _ _ => rfl))) (da_nil)) (len_cons len_nil))) (db_cons (ds_setlc 5 (own := [(("above" : Str), 6), (("below" : Str), 7)]) rfl sc__law_scaled.nd (di_list (de_ix2 (de_pv 0) (de_int) (fun _ _ => rfl))) (blkOk_by (own := [(("above" : Str), 6), (("below" : Str), 7)]) (N := N__law_scaled) (sc := defScope S__law_scaled) (by decide +kernel)) (fun _ _ _ _ _ => dg_tup rfl (dgs_cons (dg_nm 6 sc__law_scaled.nd) (dgs_cons (dg_nm 7 sc__law_scaled.nd) (dgs_nil)))) (fun _ _ _ _ _ => dts_nil) (fun _ _ _ _ _ => de_bin opD_mul (de_pv 6) (de_bin opD_div (de_pv 1) (de_pv 7))) (sw_true rfl rfl rfl (by decide +kernel))) (db_cons (ds_setlc 8 (own := [(("above" : Str), 6), (("below" : Str), 7)]) rfl sc__law_scaled.nd (di_list (de_ix2 (de_pv 0) (de_int) (fun _ _ => rfl))) (blkOk_by (own := [(("above" : Str), 6), (("below" : Str), 7)]) (N := N__law_scaled) (sc := defScope S__law_scaled) (by decide +kernel)) (fun _ _ _ _ _ => dg_tup rfl (dgs_cons (dg_nm 6 sc__law_scaled.nd) (dgs_cons (dg_nm 7 sc__law_scaled.nd) (dgs_nil)))) (fun _ _ _ _ _ => dts_nil) (fun _ _ _ _ _ => de_bin opD_mul (de_pv 6) (de_bin opD_div (de_pv 2) (de_pv 7))) (sw_true rfl rfl rfl (by decide +kernel))) (db_cons (ds_setlc 9 (own := [(("road" : Str), 4)]) rfl sc__law_scaled.nd (di_list (de_ix2 (de_pv 0) (de_int) (fun _ _ => rfl))) (blkOk_by (own := [(("road" : Str), 4)]) (N := N__law_scaled) (sc := defScope S__law_scaled) (by decide +kernel)) (fun _ _ _ _ _ => dg_nm 4 sc__law_scaled.nd) (fun _ _ _ _ _ => dts_nil) (fun _ _ _ _ _ => de_tup (df_of (da_cons (de_ix2 (de_pv 4) (de_int) (fun _ _ => rfl)) (da_cons (de_ix2 (de_pv 4) (de_int) (fun _ _ => rfl)) (da_cons (de_ix2 (de_pv 4) (de_int) (fun _ _ => rfl)) (da_cons (de_bin opD_mul (de_ix2 (de_ix2 (de_pv 4) (de_int) (fun _ _ => rfl)) (de_int) (fun _ _ => rfl)) (de_bin opD_div (de_pv 3) (de_ix2 (de_ix2 (de_pv 4) (de_int) (fun _ _ => rfl)) (de_int) (fun _ _ => rfl)))) (da_nil))))))) (sw_true rfl rfl rfl (by decide +kernel))) (db_one (ds_retO (de_tup (df_of (da_cons (de_pv 5) (da_cons (de_pv 1) (da_cons (de_pv 9) (da_cons (de_pv 3) (da_cons (de_pv 8) (da_cons (de_pv 2) (da_nil)))))))))))))))
theorem ok__law_stepped (T : Txt K mg ca fI fdI a fd pr) : FnD P w K mg base ca 1 (a 18) (fd 18) P__law_stepped m__law_stepped :=
  fn_d T.fn__law_stepped sc__law_stepped (by decide) fun cdv A outer s H E hr => db_cons (ds_name 3 sc__law_stepped.nd (de_bin opD_mul (de_lst (df_of (da_cons (de_int) (da_nil)))) (de_callB callD_len (by rfl) T.z_len (by decide +kernel) (da_cons (de_pv 1) (da_nil))))) (db_cons (ds_for rfl (di_list (de_pv 0)) (dg_tup rfl (dgs_cons (dg_nm 4 sc__law_stepped.nd) (dgs_cons (dg_nm 5 sc__law_stepped.nd) (dgs_cons (dg_nm 6 sc__law_stepped.nd) (dgs_cons (dg_nm 7 sc__law_stepped.nd) (dgs_nil)))))) (db_one (ds_if (dt_cmp (opD_eq hr.units) (de_pv 5) (de_pv 2) (nomark _)) (db_one (ds_asg (de_bin opD_add (de_ix2 (de_pv 3) (de_pv 6) (fun _ _ => rfl)) (de_bin opD_mul (de_ix2 (de_pv 1) (de_pv 4) (fun _ _ => rfl)) (de_pv 7))) (dg_sub (de_pv 3) (de_pv 6) setD_list))) (db_nil)))) (db_one (ds_retO (de_pv 3))))
theorem ok__law_is_worth (T : Txt K mg ca fI fdI a fd pr) : FnD P w K mg base ca 4 (a 19) (fd 19) P__law_is_worth m__law_is_worth :=
  fn_d T.fn__law_is_worth sc__law_is_worth (by decide) fun cdv A outer s H E hr => db_cons (ds_asg (de_call (ms := [false]) (ok__law_scaled T) (hr.mono (by decide)) T.g__law_scaled T.fn__law_scaled.kp T.b__law_scaled (da_cons (de_pv 1) (da_nil)) (len_cons len_nil)) (dg_tup rfl (dgs_cons (dg_nm 3 sc__law_is_worth.nd) (dgs_cons (dg_nm 4 sc__law_is_worth.nd) (dgs_cons (dg_nm 5 sc__law_is_worth.nd) (dgs_cons (dg_nm 6 sc__law_is_worth.nd) (dgs_cons (dg_nmC 7 sc__law_is_worth.nd) (dgs_cons (dg_nm 8 sc__law_is_worth.nd) (dgs_nil))))))))) (db_cons (ds_asg (de_tup (df_of (da_cons (de_pv 3) (da_cons (de_bin opD_mul (de_pv 4) (de_pv 8)) (da_nil))))) (dg_tup rfl (dgs_cons (dg_nmC 9 sc__law_is_worth.nd) (dgs_cons (dg_nm 10 sc__law_is_worth.nd) (dgs_nil))))) (db_cons (ds_for rfl (di_str (de_pv 2)) (dg_nm 11 sc__law_is_worth.nd) (db_cons (ds_nameC 9 sc__law_is_worth.nd (de_call (ms := [false, false, false]) (ok__law_stepped T) (hr.mono (by decide)) T.g__law_stepped T.fn__law_stepped.kp T.b__law_stepped (da_cons (de_pv 5) (da_cons (de_pv 9) (da_cons (de_pv 11) (da_nil)))) (len_cons (len_cons (len_cons len_nil))))) (db_one (ds_name 10 sc__law_is_worth.nd (de_bin opD_mul (de_pv 10) (de_pv 6)))))) (db_cons (ds_name 12 sc__law_is_worth.nd (de_callB (callD_sum rfl) (by rfl) T.z_sum (by decide +kernel) (da_cons (de_lc (own := [(("k" : Str), 13)]) rfl sc__law_is_worth.nd (di_range1 T.z_range (da_cons (de_callB callD_len (by rfl) T.z_len (by decide +kernel) (da_cons (de_pv 7) (da_nil))) (da_nil))) (blkOk_by (own := [(("k" : Str), 13)]) (N := N__law_is_worth) (sc := defScope S__law_is_worth) (by decide +kernel)) (fun _ _ _ _ _ => dg_nm 13 sc__law_is_worth.nd) (fun _ _ _ _ _ => dts_nil) (fun _ _ _ _ _ => de_bin opD_mul (de_ix2 (de_pv 9) (de_pv 13) (fun _ _ => rfl)) (de_ix2 (de_pv 7) (de_pv 13) (fun _ _ => rfl)))) (da_nil)))) (db_cons (ds_if (dt_bool (dw_or (dt_not (dt_tru (de_callB (callD_isi T.tab) (by rfl) T.z_isinstance (by decide +kernel) (da_cons (de_pv 0) (da_cons (de_ty (n := "tuple") T.z_tuple (by decide +kernel)) (da_nil)))))) (dw_or1 (dt_cmp (opD_ne hr.units) (de_callB callD_len (by rfl) T.z_len (by decide +kernel) (da_cons (de_pv 0) (da_nil))) (de_int) (nomark _))))) (db_one (ds_retO (de_bl))) (db_nil)) (db_cons (ds_for rfl (di_tup (de_pv 0)) (dg_nm 14 sc__law_is_worth.nd) (db_one (ds_if (dt_bool (dw_or (dt_not (dt_tru (de_callB (callD_isi T.tab) (by rfl) T.z_isinstance (by decide +kernel) (da_cons (de_pv 14) (da_cons (de_ty (n := "int") T.z_int (by decide +kernel)) (da_nil)))))) (dw_or1 (dt_tru (de_callB (callD_isi T.tab) (by rfl) T.z_isinstance (by decide +kernel) (da_cons (de_pv 14) (da_cons (de_ty (n := "bool") T.z_bool (by decide +kernel)) (da_nil)))))))) (db_one (ds_retO (de_bl))) (db_nil)))) (db_cons (ds_if (dt_bool (dw_or (dt_cmp opD_lt (de_ix2 (de_pv 0) (de_int) (fun _ _ => rfl)) (de_int) (nomark _)) (dw_or1 (dt_cmp (opD_ne hr.units) (de_bin opD_mul (de_ix2 (de_pv 0) (de_int) (fun _ _ => rfl)) (de_pv 10)) (de_bin opD_mul (de_pv 12) (de_ix2 (de_pv 0) (de_int) (fun _ _ => rfl))) (nomark _))))) (db_one (ds_retO (de_bl))) (db_nil)) (db_one (ds_retO (de_or (de_cmp (opD_eq hr.units) (de_ix2 (de_pv 0) (de_int) (fun _ _ => rfl)) (de_int) (nomark _)) (de_one (de_cmp (opD_eq hr.units) (de_call (ms := [false, false]) (ok__law_gcd T) (hr.mono (by decide)) T.g__law_gcd T.fn__law_gcd.kp T.b__law_gcd (da_cons (de_ix2 (de_pv 0) (de_int) (fun _ _ => rfl)) (da_cons (de_ix2 (de_pv 0) (de_int) (fun _ _ => rfl)) (da_nil))) (len_cons (len_cons len_nil))) (de_int) (nomark _))))))))))))
theorem ok__law_message (T : Txt K mg ca fI fdI a fd pr) : FnD P w K mg base ca 2 (a 20) (fd 20) P__law_message m__law_message :=
  fn_d T.fn__law_message sc__law_message (by decide) fun cdv A outer s H E hr => db_one (ds_retO (de_bm ty_str PySem.F.plainAttrs_str PySem.F.slot_str_join PySem.F.type_str_join methD_join (de_str) (da_cons (de_lc (own := [(("k" : Str), 3)]) rfl sc__law_message.nd (di_range1 T.z_range (da_cons (de_call (ms := [true, false]) (ok__law_draw T) (hr.mono (by decide)) T.g__law_draw T.fn__law_draw.kp T.b__law_draw (da_cons (de_pv 0) (da_cons (de_bin opD_add (de_pv 2) (de_int)) (da_nil))) (len_cons (len_cons len_nil))) (da_nil))) (blkOk_by (own := [(("k" : Str), 3)]) (N := N__law_message) (sc := defScope S__law_message) (by decide +kernel)) (fun _ _ _ _ _ => dg_nm 3 sc__law_message.nd) (fun _ _ _ _ _ => dts_nil) (fun _ _ _ _ _ => de_ix2 (de_pv 1) (de_call (ms := [true, false]) (ok__law_draw T) (hr.mono (by decide)) T.g__law_draw T.fn__law_draw.kp T.b__law_draw (da_cons (de_pv 0) (da_cons (de_callB callD_len (by rfl) T.z_len (by decide +kernel) (da_cons (de_pv 1) (da_nil))) (da_nil))) (len_cons (len_cons len_nil))) (fun _ _ => rfl))) (da_nil))))
theorem ok__law_messages (T : Txt K mg ca fI fdI a fd pr) : FnD P w K mg base ca 3 (a 21) (fd 21) P__law_messages m__law_messages :=
  fn_d T.fn__law_messages sc__law_messages (by decide) fun cdv A outer s H E hr => db_cons (ds_name 3 sc__law_messages.nd (de_bin opD_add (de_lst (df_of (da_cons (de_str) (da_nil)))) (de_lc (own := [(("sign" : Str), 4)]) rfl sc__law_messages.nd (di_str (de_pv 1)) (blkOk_by (own := [(("sign" : Str), 4)]) (N := N__law_messages) (sc := defScope S__law_messages) (by decide +kernel)) (fun _ _ _ _ _ => dg_nm 4 sc__law_messages.nd) (fun _ _ _ _ _ => dts_nil) (fun _ _ _ _ _ => de_pv 4)))) (db_cons (ds_name 3 sc__law_messages.nd (de_bin opD_add (de_bin opD_add (de_pv 3) (de_lc (own := [(("k" : Str), 5)]) rfl sc__law_messages.nd (di_range1 T.z_range (da_cons (de_int) (da_nil))) (blkOk_by (own := [(("k" : Str), 5)]) (N := N__law_messages) (sc := defScope S__law_messages) (by decide +kernel)) (fun _ _ _ _ _ => dg_nm 5 sc__law_messages.nd) (fun _ _ _ _ _ => dts_nil) (fun _ _ _ _ _ => de_call (ms := [true, false, false]) (ok__law_message T) (hr.mono (by decide)) T.g__law_message T.fn__law_message.kp T.b__law_message (da_cons (de_pv 0) (da_cons (de_pv 1) (da_cons (de_int) (da_nil)))) (len_cons (len_cons (len_cons len_nil)))))) (de_lst (df_of (da_cons (de_call (ms := [true, false, false]) (ok__law_message T) (hr.mono (by decide)) T.g__law_message T.fn__law_message.kp T.b__law_message (da_cons (de_pv 0) (da_cons (de_pv 1) (da_cons (de_int) (da_nil)))) (len_cons (len_cons (len_cons len_nil)))) (da_nil)))))) (db_cons (ds_if (dt_tru (de_pv 2)) (db_cons (ds_name 6 sc__law_messages.nd (de_call (ms := [true, false, false]) (ok__law_message T) (hr.mono (by decide)) T.g__law_message T.fn__law_message.kp T.b__law_message (da_cons (de_pv 0) (da_cons (de_pv 1) (da_cons (de_int) (da_nil)))) (len_cons (len_cons (len_cons len_nil))))) (db_one (ds_expr (de_mu ty_lst PySem.F.plainAttrs_list PySem.F.slot_list_append PySem.F.type_list_append mutD_append (de_pv 3) (da_cons (de_sl01 (de_bin opD_add (de_bin opD_mulS (de_pv 6) (de_int)) (de_bin opD_mulS (de_pv 1) (de_int))) (de_call (ms := [true, false]) (ok__law_draw T) (hr.mono (by decide)) T.g__law_draw T.fn__law_draw.kp T.b__law_draw (da_cons (de_pv 0) (da_cons (de_int) (da_nil))) (len_cons (len_cons len_nil)))) (da_nil)))))) (db_nil)) (db_one (ds_retO (de_pv 3)))))
theorem ok__law_pair (T : Txt K mg ca fI fdI a fd pr) : FnD P w K mg base ca 2 (a 22) (fd 22) P__law_pair m__law_pair :=
  fn_d T.fn__law_pair sc__law_pair (by decide) fun cdv A outer s H E hr => db_cons (ds_name 2 sc__law_pair.nd (de_call (ms := [false, false]) (ok__law_gcd T) (hr.mono (by decide)) T.g__law_gcd T.fn__law_gcd.kp T.b__law_gcd (da_cons (de_pv 0) (da_cons (de_pv 1) (da_nil))) (len_cons (len_cons len_nil)))) (db_cons (ds_if (dt_cmp opD_lt (de_pv 1) (de_int) (nomark _)) (db_one (ds_name 2 sc__law_pair.nd (de_bin opD_sub (de_int) (de_pv 2)))) (db_nil)) (db_one (ds_retO (de_tup (df_of (da_cons (de_bin opD_div (de_pv 0) (de_pv 2)) (da_cons (de_bin opD_div (de_pv 1) (de_pv 2)) (da_nil))))))))
theorem ok__law_number (T : Txt K mg ca fI fdI a fd pr) : FnD P w K mg base ca 3 (a 23) (fd 23) P__law_number m__law_number :=
  fn_d T.fn__law_number sc__law_number (by decide) fun cdv A outer s H E hr => db_cons (ds_name 2 sc__law_number.nd (de_bin opD_sub (de_call (ms := [true, false]) (ok__law_draw T) (hr.mono (by decide)) T.g__law_draw T.fn__law_draw.kp T.b__law_draw (da_cons (de_pv 0) (da_cons (de_pv 1) (da_nil))) (len_cons (len_cons len_nil))) (de_bin opD_div (de_pv 1) (de_int)))) (db_one (ds_retO (de_call (ms := [false, false]) (ok__law_pair T) (hr.mono (by decide)) T.g__law_pair T.fn__law_pair.kp T.b__law_pair (da_cons (de_pv 2) (da_cons (de_bin opD_add (de_int) (de_call (ms := [true, false]) (ok__law_draw T) (hr.mono (by decide)) T.g__law_draw T.fn__law_draw.kp T.b__law_draw (da_cons (de_pv 0) (da_cons (de_ix2 (de_lst (df_of (da_cons (de_int) (da_cons (de_bin opD_sub (de_pv 1) (de_int)) (da_nil))))) (de_call (ms := [true, false]) (ok__law_draw T) (hr.mono (by decide)) T.g__law_draw T.fn__law_draw.kp T.b__law_draw (da_cons (de_pv 0) (da_cons (de_int) (da_nil))) (len_cons (len_cons len_nil))) (fun _ _ => rfl)) (da_nil))) (len_cons (len_cons len_nil)))) (da_nil))) (len_cons (len_cons len_nil)))))
theorem ok__law_machine (T : Txt K mg ca fI fdI a fd pr) : FnD P w K mg base ca 4 (a 24) (fd 24) P__law_machine m__law_machine :=
  fn_d T.fn__law_machine sc__law_machine (by decide) fun cdv A outer s H E hr => db_cons (ds_setlc 5 (own := [(("k" : Str), 6)]) rfl sc__law_machine.nd (di_range1 T.z_range (da_cons (de_pv 2) (da_nil))) (blkOk_by (own := [(("k" : Str), 6)]) (N := N__law_machine) (sc := defScope S__law_machine) (by decide +kernel)) (fun _ _ _ _ _ => dg_nm 6 sc__law_machine.nd) (fun _ _ _ _ _ => dts_nil) (fun _ _ _ _ _ => de_call (ms := [true, false]) (ok__law_number T) (hr.mono (by decide)) T.g__law_number T.fn__law_number.kp T.b__law_number (da_cons (de_pv 0) (da_cons (de_pv 4) (da_nil))) (len_cons (len_cons len_nil))) (sw_true rfl rfl rfl (by decide +kernel))) (db_cons (ds_name 7 sc__law_machine.nd (de_lst (df_of (da_nil)))) (db_cons (ds_for rfl (di_range1 T.z_range (da_cons (de_call (ms := [true, false]) (ok__law_draw T) (hr.mono (by decide)) T.g__law_draw T.fn__law_draw.kp T.b__law_draw (da_cons (de_pv 0) (da_cons (de_bin opD_add (de_int) (de_callB (callD_min3 rfl) (by rfl) T.z_min (by decide +kernel) (da_cons (de_pv 3) (da_cons (de_int) (da_cons (de_bin opD_mul (de_int) (de_pv 2)) (da_nil)))))) (da_nil))) (len_cons (len_cons len_nil))) (da_nil))) (dg_nm 6 sc__law_machine.nd) (db_cons (ds_name 8 sc__law_machine.nd (de_tup (df_of (da_cons (de_call (ms := [true, false]) (ok__law_draw T) (hr.mono (by decide)) T.g__law_draw T.fn__law_draw.kp T.b__law_draw (da_cons (de_pv 0) (da_cons (de_pv 2) (da_nil))) (len_cons (len_cons len_nil))) (da_cons (de_ix2 (de_pv 1) (de_call (ms := [true, false]) (ok__law_draw T) (hr.mono (by decide)) T.g__law_draw T.fn__law_draw.kp T.b__law_draw (da_cons (de_pv 0) (da_cons (de_callB callD_len (by rfl) T.z_len (by decide +kernel) (da_cons (de_pv 1) (da_nil))) (da_nil))) (len_cons (len_cons len_nil))) (fun _ _ => rfl)) (da_cons (de_call (ms := [true, false]) (ok__law_draw T) (hr.mono (by decide)) T.g__law_draw T.fn__law_draw.kp T.b__law_draw (da_cons (de_pv 0) (da_cons (de_pv 2) (da_nil))) (len_cons (len_cons len_nil))) (da_nil))))))) (db_cons (ds_name 8 sc__law_machine.nd (de_bin opD_addT (de_pv 8) (de_tup (df_of (da_cons (de_call (ms := [true, false]) (ok__law_number T) (hr.mono (by decide)) T.g__law_number T.fn__law_number.kp T.b__law_number (da_cons (de_pv 0) (da_cons (de_pv 4) (da_nil))) (len_cons (len_cons len_nil))) (da_nil)))))) (db_cons (ds_if (dt_bool (dw_and (dt_cmp (opD_ne hr.units) (de_pv 7) (de_lst (df_of (da_nil))) (nomark _)) (dw_and1 (dt_cmp (opD_eq hr.units) (de_call (ms := [true, false]) (ok__law_draw T) (hr.mono (by decide)) T.g__law_draw T.fn__law_draw.kp T.b__law_draw (da_cons (de_pv 0) (da_cons (de_int) (da_nil))) (len_cons (len_cons len_nil))) (de_int) (nomark _))))) (db_one (ds_name 8 sc__law_machine.nd (de_ix2 (de_pv 7) (de_call (ms := [true, false]) (ok__law_draw T) (hr.mono (by decide)) T.g__law_draw T.fn__law_draw.kp T.b__law_draw (da_cons (de_pv 0) (da_cons (de_callB callD_len (by rfl) T.z_len (by decide +kernel) (da_cons (de_pv 7) (da_nil))) (da_nil))) (len_cons (len_cons len_nil))) (fun _ _ => rfl)))) (db_nil)) (db_one (ds_expr (de_mu ty_lst PySem.F.plainAttrs_list PySem.F.slot_list_append PySem.F.type_list_append mutD_append (de_pv 7) (da_cons (de_pv 8) (da_nil))))))))) (db_one (ds_retO (de_lstO (da_cons (de_pv 1) (da_cons (de_pv 5) (da_cons (de_pv 7) (da_cons (de_lc (own := [(("k" : Str), 6)]) rfl sc__law_machine.nd (di_range1 T.z_range (da_cons (de_pv 2) (da_nil))) (blkOk_by (own := [(("k" : Str), 6)]) (N := N__law_machine) (sc := defScope S__law_machine) (by decide +kernel)) (fun _ _ _ _ _ => dg_nm 6 sc__law_machine.nd) (fun _ _ _ _ _ => dts_nil) (fun _ _ _ _ _ => de_call (ms := [true, false]) (ok__law_number T) (hr.mono (by decide)) T.g__law_number T.fn__law_number.kp T.b__law_number (da_cons (de_pv 0) (da_cons (de_pv 4) (da_nil))) (len_cons (len_cons len_nil)))) (da_nil))))))))))
theorem ok__law_signs (T : Txt K mg ca fI fdI a fd pr) : FnD P w K mg base ca 2 (a 25) (fd 25) P__law_signs m__law_signs :=
  fn_d T.fn__law_signs sc__law_signs (by decide) fun cdv A outer s H E hr => db_cons (ds_nameC 1 sc__law_signs.nd (de_lc (own := [(("letter" : Str), 2)]) rfl sc__law_signs.nd (di_str (de_str)) (blkOk_by (own := [(("letter" : Str), 2)]) (N := N__law_signs) (sc := defScope S__law_signs) (by decide +kernel)) (fun _ _ _ _ _ => dg_nm 2 sc__law_signs.nd) (fun _ _ _ _ _ => dts_nil) (fun _ _ _ _ _ => de_pv 2)) rfl (Or.inr rfl) (sw_cell rfl)) (db_cons (ds_setlc 3 (own := [(("k" : Str), 4)]) rfl sc__law_signs.nd (di_range1 T.z_range (da_cons (de_bin opD_add (de_int) (de_call (ms := [true, false]) (ok__law_draw T) (hr.mono (by decide)) T.g__law_draw T.fn__law_draw.kp T.b__law_draw (da_cons (de_pv 0) (da_cons (de_int) (da_nil))) (len_cons (len_cons len_nil)))) (da_nil))) (blkOk_by (own := [(("k" : Str), 4)]) (N := N__law_signs) (sc := defScope S__law_signs) (by decide +kernel)) (fun _ _ _ _ _ => dg_nm 4 sc__law_signs.nd) (fun _ _ _ _ _ => dts_nil) (fun _ _ _ _ _ => de_mu ty_lst PySem.F.plainAttrs_list PySem.F.slot_list_pop PySem.F.type_list_pop mutD_popAt (de_pv 1) (da_cons (de_call (ms := [true, false]) (ok__law_draw T) (hr.mono (by decide)) T.g__law_draw T.fn__law_draw.kp T.b__law_draw (da_cons (de_pv 0) (da_cons (de_callB callD_len (by rfl) T.z_len (by decide +kernel) (da_cons (de_pv 1) (da_nil))) (da_nil))) (len_cons (len_cons len_nil))) (da_nil))) (sw_true rfl rfl rfl (by decide +kernel))) (db_one (ds_retO (de_bm ty_str PySem.F.plainAttrs_str PySem.F.slot_str_join PySem.F.type_str_join methD_join (de_str) (da_cons (de_callB callD_sortS (by rfl) T.z_sorted (by decide +kernel) (da_cons (de_pv 3) (da_nil))) (da_nil))))))
theorem ok__law_some_machine (T : Txt K mg ca fI fdI a fd pr) : FnD P w K mg base ca 5 (a 26) (fd 26) P__law_some_machine m__law_some_machine :=
  fn_d T.fn__law_some_machine sc__law_some_machine (by decide) fun cdv A outer s H E hr => db_cons (ds_name 1 sc__law_some_machine.nd (de_call (ms := [true]) (ok__law_signs T) (hr.mono (by decide)) T.g__law_signs T.fn__law_signs.kp T.b__law_signs (da_cons (de_pv 0) (da_nil)) (len_cons len_nil))) (db_cons (ds_name 2 sc__law_some_machine.nd (de_call (ms := [true, false]) (ok__law_draw T) (hr.mono (by decide)) T.g__law_draw T.fn__law_draw.kp T.b__law_draw (da_cons (de_pv 0) (da_cons (de_int) (da_nil))) (len_cons (len_cons len_nil)))) (db_cons (ds_if (dt_cmp (opD_eq hr.units) (de_pv 2) (de_int) (nomark _)) (db_one (ds_retO (de_tup (df_of (da_cons (de_call (ms := [true, false, false, false, false]) (ok__law_machine T) (hr.mono (by decide)) T.g__law_machine T.fn__law_machine.kp T.b__law_machine (da_cons (de_pv 0) (da_cons (de_pv 1) (da_cons (de_bin opD_add (de_int) (de_call (ms := [true, false]) (ok__law_draw T) (hr.mono (by decide)) T.g__law_draw T.fn__law_draw.kp T.b__law_draw (da_cons (de_pv 0) (da_cons (de_int) (da_nil))) (len_cons (len_cons len_nil)))) (da_cons (de_int) (da_cons (de_bin opD_pow (de_int) (de_int)) (da_nil)))))) (len_cons (len_cons (len_cons (len_cons (len_cons len_nil)))))) (da_cons (de_bl) (da_nil))))))) (db_nil)) (db_cons (ds_name 3 sc__law_some_machine.nd (de_ix2 (de_lst (df_of (da_cons (de_int) (da_cons (de_int) (da_cons (de_int) (da_cons (de_int) (da_cons (de_int) (da_cons (de_int) (da_cons (de_int) (da_nil)))))))))) (de_call (ms := [true, false]) (ok__law_draw T) (hr.mono (by decide)) T.g__law_draw T.fn__law_draw.kp T.b__law_draw (da_cons (de_pv 0) (da_cons (de_int) (da_nil))) (len_cons (len_cons len_nil))) (fun _ _ => rfl))) (db_cons (ds_name 4 sc__law_some_machine.nd (de_call (ms := [true, false, false, false, false]) (ok__law_machine T) (hr.mono (by decide)) T.g__law_machine T.fn__law_machine.kp T.b__law_machine (da_cons (de_pv 0) (da_cons (de_pv 1) (da_cons (de_pv 3) (da_cons (de_int) (da_cons (de_ix2 (de_lst (df_of (da_cons (de_int) (da_cons (de_int) (da_cons (de_int) (da_nil)))))) (de_pv 2) (fun _ _ => rfl)) (da_nil)))))) (len_cons (len_cons (len_cons (len_cons (len_cons len_nil))))))) (db_cons (ds_if (dt_cmp opD_lt (de_pv 2) (de_int) (nomark _)) (db_one (ds_retO (de_tup (df_of (da_cons (de_pv 4) (da_cons (de_bl) (da_nil))))))) (db_nil)) (db_cons (ds_setlc 5 (own := [(("above" : Str), 6), (("below" : Str), 7)]) rfl sc__law_some_machine.nd (di_list (de_ix2 (de_pv 4) (de_int) (fun _ _ => rfl))) (blkOk_by (own := [(("above" : Str), 6), (("below" : Str), 7)]) (N := N__law_some_machine) (sc := defScope S__law_some_machine) (by decide +kernel)) (fun _ _ _ _ _ => dg_tup rfl (dgs_cons (dg_nm 6 sc__law_some_machine.nd) (dgs_cons (dg_nm 7 sc__law_some_machine.nd) (dgs_nil)))) (fun _ _ _ _ _ => dts_nil) (fun _ _ _ _ _ => de_tup (df_of (da_cons (de_pv 6) (da_cons (de_int) (da_nil))))) (sw_true rfl rfl rfl (by decide +kernel))) (db_cons (ds_setlc 8 (own := [(("road" : Str), 9)]) rfl sc__law_some_machine.nd (di_list (de_ix2 (de_pv 4) (de_int) (fun _ _ => rfl))) (blkOk_by (own := [(("road" : Str), 9)]) (N := N__law_some_machine) (sc := defScope S__law_some_machine) (by decide +kernel)) (fun _ _ _ _ _ => dg_nm 9 sc__law_some_machine.nd) (fun _ _ _ _ _ => dts_nil) (fun _ _ _ _ _ => de_tup (df_of (da_cons (de_ix2 (de_pv 9) (de_int) (fun _ _ => rfl)) (da_cons (de_ix2 (de_pv 9) (de_int) (fun _ _ => rfl)) (da_cons (de_ix2 (de_pv 9) (de_int) (fun _ _ => rfl)) (da_cons (de_tup (df_of (da_cons (de_ix2 (de_ix2 (de_pv 9) (de_int) (fun _ _ => rfl)) (de_int) (fun _ _ => rfl)) (da_cons (de_int) (da_nil))))) (da_nil))))))) (sw_true rfl rfl rfl (by decide +kernel))) (db_one (ds_retO (de_tup (df_of (da_cons (de_lst (df_of (da_cons (de_pv 1) (da_cons (de_pv 5) (da_cons (de_pv 8) (da_cons (de_lc (own := [(("above" : Str), 6), (("below" : Str), 7)]) rfl sc__law_some_machine.nd (di_list (de_ix2 (de_pv 4) (de_int) (fun _ _ => rfl))) (blkOk_by (own := [(("above" : Str), 6), (("below" : Str), 7)]) (N := N__law_some_machine) (sc := defScope S__law_some_machine) (by decide +kernel)) (fun _ _ _ _ _ => dg_tup rfl (dgs_cons (dg_nm 6 sc__law_some_machine.nd) (dgs_cons (dg_nm 7 sc__law_some_machine.nd) (dgs_nil)))) (fun _ _ _ _ _ => dts_nil) (fun _ _ _ _ _ => de_tup (df_of (da_cons (de_pv 6) (da_cons (de_int) (da_nil)))))) (da_nil))))))) (da_cons (de_bl) (da_nil))))))))))))))
theorem ok_law (T : Txt K mg ca fI fdI a fd pr) : FnD P w K mg base ca 7 (a 27) (fd 27) P_law m_law :=
  fn_d T.fn_law sc_law (by decide) fun cdv A outer s H E hr => db_cons (ds_name 1 sc_law.nd (de_call (ms := [false]) (ok__law_deck T) (hr.mono (by decide)) T.g__law_deck T.fn__law_deck.kp T.b__law_deck (da_cons (de_pv 0) (da_nil)) (len_cons len_nil))) (db_cons (ds_name 2 sc_law.nd (de_lst (df_of (da_nil)))) (db_cons (ds_for rfl (di_range1 T.z_range (da_cons (de_int) (da_nil))) (dg_nm 3 sc_law.nd) (db_cons (ds_asg (de_call (ms := [true]) (ok__law_some_machine T) (hr.mono (by decide)) T.g__law_some_machine T.fn__law_some_machine.kp T.b__law_some_machine (da_cons (de_pv 1) (da_nil)) (len_cons len_nil)) (dg_tup rfl (dgs_cons (dg_nm 4 sc_law.nd) (dgs_cons (dg_nm 5 sc_law.nd) (dgs_nil))))) (db_cons (ds_name 6 sc_law.nd (de_make (ms := [false, false, false, false]) T.own_Machine.make (ok_Machine____init__ T) (hr.mono (by decide)) T.g_Machine T.b_Machine____init__ (da_cons (de_ix2 (de_pv 4) (de_int) (fun _ _ => rfl)) (da_cons (de_callTy (callD_listS rfl) (by rfl) T.z_list (by decide +kernel) (da_cons (de_ix2 (de_pv 4) (de_int) (fun _ _ => rfl)) (da_nil))) (da_cons (de_callTy (callD_listS rfl) (by rfl) T.z_list (by decide +kernel) (da_cons (de_ix2 (de_pv 4) (de_int) (fun _ _ => rfl)) (da_nil))) (da_cons (de_callTy (callD_listS rfl) (by rfl) T.z_list (by decide +kernel) (da_cons (de_ix2 (de_pv 4) (de_int) (fun _ _ => rfl)) (da_nil))) (da_nil))))) (fun ρ avs ρ' h => congrArg (· + 1) ((len_cons (len_cons (len_cons (len_cons len_nil)))) ρ avs ρ' h)))) (db_one (ds_expr (de_mu ty_lst PySem.F.plainAttrs_list PySem.F.slot_list_append PySem.F.type_list_append mutD_append (de_pv 2) (da_cons (de_tup (df_of (da_cons (de_pv 4) (da_cons (de_pv 6) (da_cons (de_call (ms := [true, false, false]) (ok__law_messages T) (hr.mono (by decide)) T.g__law_messages T.fn__law_messages.kp T.b__law_messages (da_cons (de_pv 1) (da_cons (de_ix2 (de_pv 4) (de_int) (fun _ _ => rfl)) (da_cons (de_pv 5) (da_nil)))) (len_cons (len_cons (len_cons len_nil)))) (da_nil)))))) (da_nil)))))))) (db_cons (ds_for rfl (di_range1 T.z_range (da_cons (de_int) (da_nil))) (dg_nm 7 sc_law.nd) (db_one (ds_for rfl (di_list (de_pv 2)) (dg_tup rfl (dgs_cons (dg_nm 4 sc_law.nd) (dgs_cons (dg_nm 6 sc_law.nd) (dgs_cons (dg_nm 8 sc_law.nd) (dgs_nil))))) (db_one (ds_if (dt_bool (dw_and (dt_cmp opD_lt (de_pv 7) (de_callB callD_len (by rfl) T.z_len (by decide +kernel) (da_cons (de_pv 8) (da_nil))) (nomark _)) (dw_and1 (dt_not (dt_tru (de_call (ms := [false, false, false]) (ok__law_is_worth T) (hr.mono (by decide)) T.g__law_is_worth T.fn__law_is_worth.kp T.b__law_is_worth (da_cons (de_callI (c := 20) (ms := [false, false]) (ok_Machine____call__ T) (T.own_Machine.meth (("__call__" : Str), a 4) (.head _)).at_ (T.own_Machine.meth (("__call__" : Str), a 4) (.head _)).fn (T.own_Machine.mfn (("__call__" : Str), a 4) (.head _)) (hr.mono (by decide)) T.b_Machine____call__ (de_pv 6) (da_cons (de_ix2 (de_pv 8) (de_pv 7) (fun _ _ => rfl)) (da_nil)) (fun ρ avs ρ' h => congrArg (· + 1) ((len_cons len_nil) ρ avs ρ' h))) (da_cons (de_pv 4) (da_cons (de_ix2 (de_pv 8) (de_pv 7) (fun _ _ => rfl)) (da_nil)))) (len_cons (len_cons (len_cons len_nil))))))))) (db_one (ds_retO (de_bl))) (db_nil)))))) (db_cons (ds_for rfl (di_list (de_pv 2)) (dg_tup rfl (dgs_cons (dg_nm 4 sc_law.nd) (dgs_cons (dg_nm 6 sc_law.nd) (dgs_cons (dg_nm 8 sc_law.nd) (dgs_nil))))) (db_cons (ds_name 9 sc_law.nd (de_ix2 (de_pv 8) (de_call (ms := [true, false]) (ok__law_draw T) (hr.mono (by decide)) T.g__law_draw T.fn__law_draw.kp T.b__law_draw (da_cons (de_pv 1) (da_cons (de_bin opD_add (de_callB callD_len (by rfl) T.z_len (by decide +kernel) (da_cons (de_ix2 (de_pv 4) (de_int) (fun _ _ => rfl)) (da_nil))) (de_int)) (da_nil))) (len_cons (len_cons len_nil))) (fun _ _ => rfl))) (db_cons (ds_if (dt_not (dt_tru (de_call (ms := [true, false, false, false]) (ok__law_is_refused T) (hr.mono (by decide)) T.g__law_is_refused T.fn__law_is_refused.kp T.b__law_is_refused (da_cons (de_pv 1) (da_cons (de_pv 6) (da_cons (de_ix2 (de_pv 4) (de_int) (fun _ _ => rfl)) (da_cons (de_pv 9) (da_nil))))) (len_cons (len_cons (len_cons (len_cons len_nil))))))) (db_one (ds_retO (de_bl))) (db_nil)) (db_one (ds_if (dt_not (dt_tru (de_call (ms := [false, false, false]) (ok__law_is_worth T) (hr.mono (by decide)) T.g__law_is_worth T.fn__law_is_worth.kp T.b__law_is_worth (da_cons (de_callIK (c := 20) (ms := [false, false]) (ks := [("message" : Str)]) (ok_Machine____call__ T) (T.own_Machine.meth (("__call__" : Str), a 4) (.head _)).at_ (T.own_Machine.meth (("__call__" : Str), a 4) (.head _)).fn (T.own_Machine.mfn (("__call__" : Str), a 4) (.head _)) (hr.mono (by decide)) T.kwm_Machine____call___message (fun ws h => match ws, h with | [_], _ => rfl) (de_pv 6) (dk_cons (de_pv 9) (dk_nil)) (len_cons len_nil) rfl) (da_cons (de_pv 4) (da_cons (de_pv 9) (da_nil)))) (len_cons (len_cons (len_cons len_nil)))))) (db_one (ds_retO (de_bl))) (db_nil)))))) (db_one (ds_retO (de_bl)))))))
end

end K04

namespace K04
open PySem PySem.Spec PyProof.Rows L2 DL
/-! ### the deck -/
abbrev dkD (gs : List Int) (c m n : Int) : D := .ol [.ol (gs.map .int), .int c, .int m, .int n]
structure Dk (gs : List Int) (c m n : Int) (k : Nat) : Prop where
  gs : ∀ g ∈ gs, 0 ≤ g
  c : 0 ≤ c
  m0 : 0 ≤ m
  m1 : m ≤ 10 ^ 19
  n0 : 0 ≤ n
  n1 : n ≤ k
theorem stepM {m z : Int} (h0 : 0 ≤ m) (h1 : m ≤ 10 ^ 19) : Builtin.Int.intBits (m + z.fmod 1000000000039) ≤ 64 := by
  have := fmod_nn (a := z) (b := 1000000000039) (by decide)
  exact ibits_le (by omega)
theorem deck_loop (s : D) : ∀ (ns : List Int) (m : Int) (gs : List Int) (x : Option D), 0 ≤ m → m ≤ 10 ^ 19 → (∀ g ∈ gs, 0 ≤ g) → gs.length + ns.length ≤ 63 →
    ∃ (m' : Int) (gs' : List Int) (x' : Option D), forE (tgN [] 3) L__law_deck_0
      (ns.map .int) [some s, some (.int m), some (.ol (gs.map .int)), x] = some (.nx [some s, some (.int m'), some (.ol (gs'.map .int)), x']) ∧ 0 ≤ m' ∧ m' ≤ 10 ^ 19 ∧ (∀ g ∈ gs', 0 ≤ g)
  | [], m, gs, x, h0, h1, h2, h3 => ⟨m, gs, x, rfl, h0, h1, h2⟩
  | z :: ns, m, gs, x, h0, h1, h2, h3 => by
    simp only [List.length_cons] at h3
    have pw : Builtin.Int.intBits 10 * 18 ≤ 2 ^ 27 := by decide
    by_cases hz : (10 : Int) ^ 18 ≤ z
    · obtain ⟨m', gs', x', e, r⟩ := deck_loop s ns m ((z - 10 ^ 18) :: gs) (some (.int z)) h0 h1 (by
        intro g hg
        rcases List.mem_cons.mp hg with rfl | hg
        · omega
        · exact h2 g hg) (by simp; omega)
      refine ⟨m', gs', x', ?_, r⟩
      rw [← e]
      have hl : gs.length < 16777216 := by omega
      have hz' : (1000000000000000000 : Int) ≤ z := hz
      simp (config := {decide := true, implicitDefEqProofs := false}) [r_fn, parOk, frzAt, outsD, List.range_succ, DL.gTup, DL.gLst, gGcd, gNeg, gDiv, gMod, gPow, DL.gSub, gAbs, gInt, gEq, gNe, gRng1, kwR, gmInsert, gmExtend, gmAppend, gmSet, ixR, DL.isNon, ixN, atI, lstD, seqD, gIsN, gNotN, forE_1, a_L__law_deck_0, hz', hl, Builtin.Int.intBits]
    · have b := stepM (z := z) h0 h1
      have f := fmod_nn (a := (m + z.fmod 1000000000039) ^ 3) (b := 1000000000000000003) (by decide)
      obtain ⟨m', gs', x', e, r⟩ := deck_loop s ns (((m + z.fmod 1000000000039) ^ 3).fmod 1000000000000000003 + 1) gs (some (.int z)) (by omega) (by omega) h2 (by omega)
      refine ⟨m', gs', x', ?_, r⟩
      rw [← e]
      have hz' : ¬ (1000000000000000000 : Int) ≤ z := hz
      have hb : ((Builtin.Int.intBits (m + z.fmod 1000000000039) : Nat) : Int) * 3 ≤ 134217728 := by omega
      simp (config := {decide := true, implicitDefEqProofs := false}) [r_fn, parOk, frzAt, outsD, List.range_succ, DL.gTup, DL.gLst, gGcd, gNeg, gDiv, gMod, gPow, DL.gSub, gAbs, gInt, gEq, gNe, gRng1, kwR, gmInsert, gmExtend, gmAppend, gmSet, ixR, DL.isNon, ixN, atI, lstD, seqD, gIsN, gNotN, forE_1, a_L__law_deck_0, hz', hb]

theorem deck_ok (ns : List Int) (hl : ns.length ≤ 63) : ∃ (gs : List Int) (m : Int), m__law_deck [.frl (ns.map .int)] = some (.ok (dkD gs 0 m 0) [.frl (ns.map .int)]) ∧ Dk gs 0 m 0 0 := by
  obtain ⟨m, gs, x, e, h0, h1, h2⟩ := deck_loop (.frl (ns.map .int)) ns 40961 [] none (by decide) (by decide) (by simp) (by simpa using hl)
  refine ⟨gs, m, ?_, h2, by decide, h0, h1, by decide, by decide⟩
  have e' : forE (tgN [] 3) L__law_deck_0
      (ns.map .int) [some (.frl (ns.map .int)), some (.int 40961), some (.ol []), none] = some (.nx [some (.frl (ns.map .int)), some (.int m), some (.ol (gs.map .int)), x]) := e
  simp (config := {decide := true, implicitDefEqProofs := false}) [r_fn, parOk, frzAt, outsD, List.range_succ, DL.gTup, DL.gLst, gGcd, gNeg, gDiv, gMod, gPow, DL.gSub, gAbs, gInt, gEq, gNe, gRng1, kwR, gmInsert, gmExtend, gmAppend, gmSet, ixR, DL.isNon, ixN, atI, lstD, seqD, gIsN, gNotN, m__law_deck, f__law_deck, e']
theorem draw_ok {gs : List Int} {c m n l : Int} {k : Nat} (h : Dk gs c m n k) (hl : 1 ≤ l) (hl2 : l ≤ 10 ^ 40) (hk : k ≤ 10000) :
    ∃ (gs' : List Int) (c' m' n' r : Int), m__law_draw [dkD gs c m n, .int l] = some (.ok (.int r) [dkD gs' c' m' n', .int l]) ∧ 0 ≤ r ∧ r < l ∧ Dk gs' c' m' n' (k + 1) := by
  have hg := h.gs
  have hc := h.c
  have hm0 := h.m0
  have hm1 := h.m1
  have hn0 := h.n0
  have hn1 := h.n1
  have hl0 : l ≠ 0 := by omega
  have ll : lg l < 9000 := Nat.lt_of_le_of_lt (lg_le (k := 140) (by omega)) (by decide)
  -- what is drawn of a number
  have take : ∀ (gs : List Int) (c : Int), (∀ g ∈ gs, 0 ≤ g) → 0 ≤ c → Dk gs (c.fdiv l) m n (k + 1) := fun gs c h1 h2 => ⟨h1, (fdiv_nn h2 (by omega)).1, hm0, hm1, hn0, by omega⟩
  have b1 : lg 7907 + lg (n + 1) < 1000000 := by
    have := lg_le (i := 7907) (k := 20) (by decide)
    have := lg_le (i := n + 1) (k := 20) (by omega)
    omega
  have q2 : 0 ≤ 7907 * (n + 1) := by omega
  have b2 : lg (7907 * (n + 1)) + lg (n + 1) < 1000000 := by
    have := lg_le (i := 7907 * (n + 1)) (k := 40) (by omega)
    have := lg_le (i := n + 1) (k := 20) (by omega)
    omega
  have q3 : 0 ≤ 7907 * (n + 1) * (n + 1) ∧ 7907 * (n + 1) * (n + 1) ≤ 7907 * 10001 * 10001 := ⟨Int.mul_nonneg q2 (by omega), by
    refine Int.mul_le_mul (by omega) (by omega) (by omega) (by omega)⟩
  have b3 : ((Builtin.Int.intBits (m + 7907 * (n + 1) * (n + 1)) : Nat) : Int) * 2 ≤ 134217728 := by
    have := ibits_le (z := m + 7907 * (n + 1) * (n + 1)) (k := 100) (by omega)
    omega
  have f4 := fmod_nn (a := (m + 7907 * (n + 1) * (n + 1)) ^ 2) (b := 1000000000000000000000007) (by decide)
  have b4 : lg (((m + 7907 * (n + 1) * (n + 1)) ^ 2).fmod 1000000000000000000000007) + lg (((m + 7907 * (n + 1) * (n + 1)) ^ 2).fmod 1000000000000000000000007 + 41) < 1000000 := by
    have := lg_le (i := ((m + 7907 * (n + 1) * (n + 1)) ^ 2).fmod 1000000000000000000000007) (k := 100) (by omega)
    have := lg_le (i := ((m + 7907 * (n + 1) * (n + 1)) ^ 2).fmod 1000000000000000000000007 + 41) (k := 100) (by omega)
    omega
  have b5 : lg 1009 < 9000 := Nat.lt_of_le_of_lt (lg_le (k := 20) (by decide)) (by decide)
  have stir : ∀ gs : List Int, (∀ g ∈ gs, 0 ≤ g) → Dk gs 0 m (n + 1) (k + 1) := fun gs h1 => ⟨h1, by decide, hm0, hm1, by omega, by omega⟩
  have fr : ∀ z : Int, 0 ≤ z.fmod l ∧ z.fmod l < l := fun z => fmod_nn (by omega)
  let Z : Int := ((((m + 7907 * (n + 1) * (n + 1)) ^ 2).fmod 1000000000000000000000007 * (((m + 7907 * (n + 1) * (n + 1)) ^ 2).fmod 1000000000000000000000007 + 41)).fmod 1000000000000000000117).fdiv 1009
  by_cases c0 : c = 0
  · subst c0
    rcases List.eq_nil_or_concat gs with rfl | ⟨gs0, g, rfl⟩
    · refine ⟨[], 0, m, n + 1, Z.fmod l, ?_, (fr Z).1, (fr Z).2, stir [] hg⟩
      show _ = some (FOut.ok (.int (Int.fmod (Int.fdiv (Int.fmod (_ * (_ + 41)) _) _) l)) _)
      simp (config := {decide := true, implicitDefEqProofs := false}) [r_fn, parOk, frzAt, outsD, List.range_succ, DL.gTup, DL.gLst, gGcd, gNeg, gDiv, gMod, gPow, DL.gSub, gAbs, gInt, gEq, gNe, gRng1, kwR, gmInsert, gmExtend, gmAppend, gmSet, ixR, DL.isNon, ixN, atI, lstD, seqD, gIsN, gNotN, m__law_draw, f__law_draw, hl0, ll, b1, b2, b3, b4, b5]
    · have g0 : 0 ≤ g := hg g (by simp)
      have h0 : ∀ z ∈ gs0, 0 ≤ z := fun z hz => hg z (by simp [hz])
      have ne : ¬ (gs0.concat g = []) := by simp
      by_cases gz : g = 0
      · subst gz
        refine ⟨gs0, 0, m, n + 1, Z.fmod l, ?_, (fr Z).1, (fr Z).2, stir gs0 h0⟩
        show _ = some (FOut.ok (.int (Int.fmod (Int.fdiv (Int.fmod (_ * (_ + 41)) _) _) l)) _)
        rw [List.concat_eq_append]
        simp (config := {decide := true, implicitDefEqProofs := false}) [r_fn, parOk, frzAt, outsD, List.range_succ, DL.gTup, DL.gLst, gGcd, gNeg, gDiv, gMod, gPow, DL.gSub, gAbs, gInt, gEq, gNe, gRng1, kwR, gmInsert, gmExtend, gmAppend, gmSet, ixR, DL.isNon, ixN, atI, lstD, seqD, gIsN, gNotN, m__law_draw, f__law_draw, hl0, ll, b1, b2, b3, b4, b5, pop_ints]
      · have gp : 0 < g := by omega
        refine ⟨gs0, _, m, n, _, ?_, (fr g).1, (fr g).2, take gs0 g h0 g0⟩
        rw [List.concat_eq_append]
        simp (config := {decide := true, implicitDefEqProofs := false}) [r_fn, parOk, frzAt, outsD, List.range_succ, DL.gTup, DL.gLst, gGcd, gNeg, gDiv, gMod, gPow, DL.gSub, gAbs, gInt, gEq, gNe, gRng1, kwR, gmInsert, gmExtend, gmAppend, gmSet, ixR, DL.isNon, ixN, atI, lstD, seqD, gIsN, gNotN, m__law_draw, f__law_draw, hl0, ll, gp, pop_ints]
  · have cp : 0 < c := by omega
    refine ⟨gs, _, m, n, _, ?_, (fr c).1, (fr c).2, take gs c hg hc⟩
    simp (config := {decide := true, implicitDefEqProofs := false}) [r_fn, parOk, frzAt, outsD, List.range_succ, DL.gTup, DL.gLst, gGcd, gNeg, gDiv, gMod, gPow, DL.gSub, gAbs, gInt, gEq, gNe, gRng1, kwR, gmInsert, gmExtend, gmAppend, gmSet, ixR, DL.isNon, ixN, atI, lstD, seqD, gIsN, gNotN, m__law_draw, f__law_draw, hl0, ll, cp, c0]

theorem gcd_loop : ∀ (y x : Nat), ∃ n, whF (evT (ev2 gNe (evV 1) (evC (.int 0)))) L__law_gcd_0 n [some (.int (x : Int)), some (.int (y : Int))] = some (.nx [some (.int ((Nat.gcd x y : Nat) : Int)), some (.int 0)]) := by
  intro y
  induction y using Nat.strongRecOn with
  | ind y ih =>
    intro x
    by_cases hy : y = 0
    · subst hy
      exact ⟨1, by simp (config := {decide := true, implicitDefEqProofs := false}) [r_fn, parOk, frzAt, outsD, List.range_succ, DL.gTup, DL.gLst, gGcd, gNeg, gDiv, gMod, gPow, DL.gSub, gAbs, gInt, gEq, gNe, gRng1, kwR, gmInsert, gmExtend, gmAppend, gmSet, ixR, DL.isNon, ixN, atI, lstD, seqD, gIsN, gNotN, whF_1]⟩
    · obtain ⟨n, e⟩ := ih (x % y) (Nat.mod_lt _ (by omega)) y
      refine ⟨n + 1, ?_⟩
      have hy' : ¬ ((y : Int) = 0) := by omega
      have eg : Nat.gcd y (x % y) = Nat.gcd x y := by rw [Nat.gcd_comm, ← Nat.gcd_rec, Nat.gcd_comm]
      rw [show (((x % y : Nat)) : Int) = (x : Int) % (y : Int) from by simp, eg] at e
      simp (config := {decide := true, implicitDefEqProofs := false}) [r_fn, parOk, frzAt, outsD, List.range_succ, DL.gTup, DL.gLst, gGcd, gNeg, gDiv, gMod, gPow, DL.gSub, gAbs, gInt, gEq, gNe, gRng1, kwR, gmInsert, gmExtend, gmAppend, gmSet, ixR, DL.isNon, ixN, atI, lstD, seqD, gIsN, gNotN, whF_1, a_L__law_gcd_0, hy, hy', fmod_nat2, e]

theorem gcd_ok (a b : Int) : m__law_gcd [.int a, .int b] = some (.ok (.int ((Nat.gcd a.natAbs b.natAbs : Nat) : Int)) [.int a, .int b]) := by
  obtain ⟨n, e⟩ := gcd_loop b.natAbs a.natAbs
  have e2 := whE_of e
  simp (config := {decide := true, implicitDefEqProofs := false}) [r_fn, parOk, frzAt, outsD, List.range_succ, DL.gTup, DL.gLst, gGcd, gNeg, gDiv, gMod, gPow, DL.gSub, gAbs, gInt, gEq, gNe, gRng1, kwR, gmInsert, gmExtend, gmAppend, gmSet, ixR, DL.isNon, ixN, atI, lstD, seqD, gIsN, gNotN, m__law_gcd, f__law_gcd, abs_nat, e2]
/-- the pair that is due, and what the program tells -/
abbrev lowD (a b : Int) : D := .tup [.int (a.fdiv (sgc a b)), .int (b.fdiv (sgc a b))]
theorem pair_ok {a b : Int} (hb : b ≠ 0) (hs : b.natAbs < 2 ^ 251) : m__law_pair [.int a, .int b] = some (.ok (lowD a b) [.int a, .int b]) := by
  obtain ⟨h1, h2, h3⟩ := gcd_small (a := a) hb hs
  have g1 : lg ((Nat.gcd a.natAbs b.natAbs : Nat) : Int) < 9000 := by omega
  have g2 : lg (-((Nat.gcd a.natAbs b.natAbs : Nat) : Int)) < 9000 := by omega
  have e := gcd_ok a b
  by_cases hn : b < 0
  · have es : sgc a b = -((Nat.gcd a.natAbs b.natAbs : Nat) : Int) := by unfold sgc; rw [if_pos hn]
    simp (config := {decide := true, implicitDefEqProofs := false}) [r_fn, parOk, frzAt, outsD, List.range_succ, DL.gTup, DL.gLst, gGcd, gNeg, gDiv, gMod, gPow, DL.gSub, gAbs, gInt, gEq, gNe, gRng1, kwR, gmInsert, gmExtend, gmAppend, gmSet, ixR, DL.isNon, ixN, atI, lstD, seqD, gIsN, gNotN, m__law_pair, f__law_pair, e, hn, g1, g2, h3, es, lowD]
  · have es : sgc a b = ((Nat.gcd a.natAbs b.natAbs : Nat) : Int) := by unfold sgc; rw [if_neg hn]
    simp (config := {decide := true, implicitDefEqProofs := false}) [r_fn, parOk, frzAt, outsD, List.range_succ, DL.gTup, DL.gLst, gGcd, gNeg, gDiv, gMod, gPow, DL.gSub, gAbs, gInt, gEq, gNe, gRng1, kwR, gmInsert, gmExtend, gmAppend, gmSet, ixR, DL.isNon, ixN, atI, lstD, seqD, gIsN, gNotN, m__law_pair, f__law_pair, e, hn, g1, g2, h3, es, lowD]
end K04

namespace K04
open PySem PySem.Spec PyProof.Rows L2 DL

/-! ### data that can be laid -/
structure Ok (n : Nat) (x : D) (p : PyData) : Prop where
  py : pyd x = some p
  lay : p.canLay0 = true
  dp : p.depth ≤ n
structure OkL (n : Nat) (xs : List D) (ps : List PyData) : Prop where
  py : pydL xs = some ps
  lay : PyData.canLayAll0 ps = true
  dp : PyData.depthAll ps ≤ n
theorem ok_int (n : Nat) (i : Int) : Ok n (.int i) (.int i) := ⟨rfl, rfl, Nat.zero_le n⟩
theorem ok_s (n : Nat) {m : List Nat} (h : ∀ c ∈ m, c < 0x110000) : Ok n (sD m) (strP m) := ⟨rfl, by
  show PyData.strOk ⟨m.toArray⟩ = true
  unfold PyData.strOk
  simpa using h, Nat.zero_le n⟩
theorem okl_0 (n : Nat) : OkL n [] [] := ⟨rfl, rfl, Nat.zero_le n⟩
theorem okl_1 {n : Nat} {x : D} {p : PyData} {xs : List D} {ps : List PyData} (h : Ok n x p) (t : OkL n xs ps) : OkL n (x :: xs) (p :: ps) := by
  refine ⟨?_, ?_, ?_⟩
  · show (match pyd x, pydL xs with | some y, some ys => some (y :: ys) | _, _ => none) = _
    rw [h.py, t.py]
  · show (PyData.canLay0 p && PyData.canLayAll0 ps) = true
    rw [h.lay, t.lay]
    rfl
  · show max (PyData.depth p) (PyData.depthAll ps) ≤ n
    have := h.dp
    have := t.dp
    omega
theorem okl_map {α : Type} {n : Nat} {f : α → D} {g : α → PyData} : ∀ {xs : List α}, (∀ x ∈ xs, Ok n (f x) (g x)) → OkL n (xs.map f) (xs.map g)
  | [], _ => okl_0 n
  | x :: xs, h => okl_1 (h x (by simp)) (okl_map fun y hy => h y (by simp [hy]))
theorem ok_tup {n : Nat} {xs : List D} {ps : List PyData} (h : OkL n xs ps) : Ok (n + 1) (.tup xs) (.tuple ps) := ⟨by unfold pyd; rw [h.py], h.lay, by
  show PyData.depthAll ps + 1 ≤ _
  have := h.dp
  omega⟩
theorem ok_lst {n : Nat} {xs : List D} {ps : List PyData} (h : OkL n xs ps) : Ok (n + 1) (.lst xs) (.list ps) := ⟨by unfold pyd; rw [h.py], h.lay, by
  show PyData.depthAll ps + 1 ≤ _
  have := h.dp
  omega⟩
theorem ok_ol {n : Nat} {xs : List D} {ps : List PyData} (h : OkL n xs ps) : Ok (n + 1) (.ol xs) (.list ps) := ⟨by unfold pyd; rw [h.py], h.lay, by
  show PyData.depthAll ps + 1 ≤ _
  have := h.dp
  omega⟩
theorem Ok.shaped {n : Nat} {x : D} {p : PyData} (h : Ok n x p) (hn : n ≤ 64) : SeqAt.shaped p = true := by
  show (PyData.canLay0 p && decide (PyData.depth p ≤ 64)) = true
  rw [h.lay, decide_eq_true (by have := h.dp; omega)]
  rfl
theorem eqD_same {n : Nat} {x y : D} {p : PyData} (h : Ok n x p) (h2 : Ok n y p) (hn : n ≤ 64) (hs : eqS x y = none) : eqD x y = some true := by
  rw [eqD_pl h.py h2.py (h.shaped hn) (h.shaped hn) hs]
  exact congrArg some (PySem.SeqAt.eqv_refl p h.lay)
theorem eqD_nil {n : Nat} {xs : List D} {ps : List PyData} (h : OkL n xs ps) (hn : n + 1 ≤ 64) : eqD (.ol xs) (.ol []) = some (decide (xs = [])) := by
  have l : ps = [] ↔ xs = [] := by
    have e := h.py
    cases xs with
    | nil => cases e; simp
    | cons x xs =>
      constructor
      · intro hp
        subst hp
        have e : (match pyd x, pydL xs with | some y, some ys => some (y :: ys) | _, _ => none) = some [] := e
        split at e <;> cases e
      · intro hp; cases hp
  rw [eqD_pl (ok_ol h).py (ok_ol (okl_0 n)).py ((ok_ol h).shaped hn) ((ok_ol (okl_0 n)).shaped hn) rfl]
  cases xs with
  | nil =>
    cases l.mpr rfl
    rfl
  | cons x xs =>
    cases ps with
    | nil => exact absurd (l.mp rfl) (by simp)
    | cons p ps => rfl

/-! ### numbers, roads, machines -/
abbrev Nm := Int × Int
def nuD (p : Nm) : D := .tup [.int p.1, .int p.2]
def nuP (p : Nm) : PyData := .tuple [.int p.1, .int p.2]
@[simp] theorem sh_n (p : Nm) : (nuD p).sh = true := rfl
@[simp] theorem fz_n (p : Nm) : frz (nuD p) = nuD p := rfl
@[simp] theorem fzL_n (ps : List Nm) : frzL (ps.map nuD) = ps.map nuD := fzL_map fz_n
@[simp] theorem allSh_n (ps : List Nm) : allSh (ps.map nuD) = true := allSh_map sh_n
def NB (p : Nm) : Prop := p.1.natAbs ≤ 1000000000000 ∧ p.2.natAbs ≤ 1000000000000
structure Road where
  st : Int
  sg : List Nat
  bh : Int
  nu : Nm
def rdD (r : Road) : D := .tup [.int r.st, sD r.sg, .int r.bh, nuD r.nu]
def rdP (r : Road) : PyData := .tuple [.int r.st, strP r.sg, .int r.bh, nuP r.nu]
@[simp] theorem sh_r (r : Road) : (rdD r).sh = true := rfl
@[simp] theorem fz_r (r : Road) : frz (rdD r) = rdD r := rfl
@[simp] theorem fzL_r (rs : List Road) : frzL (rs.map rdD) = rs.map rdD := fzL_map fz_r
@[simp] theorem allSh_r (rs : List Road) : allSh (rs.map rdD) = true := allSh_map sh_r
def SB (z : List Nat) : Prop := ∀ c ∈ z, c < 128
structure RB (r : Road) : Prop where
  st : r.st.natAbs ≤ 1000000
  bh : r.bh.natAbs ≤ 1000000
  sg : SB r.sg
  sl : r.sg.length ≤ 4
  nu : NB r.nu
theorem SB.small {z : List Nat} (h : SB z) : ∀ c ∈ z, c < 0x110000 := fun c hc => by have := h c hc; omega
theorem ok_nu (n : Nat) (p : Nm) : Ok (n + 1) (nuD p) (nuP p) := ok_tup (okl_1 (ok_int n _) (okl_1 (ok_int n _) (okl_0 n)))
theorem ok_rd (n : Nat) {r : Road} (h : RB r) : Ok (n + 2) (rdD r) (rdP r) := ok_tup (okl_1 (ok_int _ _) (okl_1 (ok_s _ h.sg.small) (okl_1 (ok_int _ _) (okl_1 (ok_nu n _) (okl_0 _)))))
structure Mc where
  z : List Nat
  b : List Nm
  r : List Road
  e : List Nm
structure MB (k : Nat) (M : Mc) : Prop where
  z : SB M.z
  zl : M.z.length ≤ 3 + k
  b : ∀ p ∈ M.b, NB p
  bl : M.b.length ≤ 6 + k
  r : ∀ p ∈ M.r, RB p
  rl : M.r.length ≤ 24
  e : ∀ p ∈ M.e, NB p
  el : M.e.length ≤ 6 + k
theorem MB.mono {k k' : Nat} {M : Mc} (h : MB k M) (l : k ≤ k') : MB k' M := ⟨h.z, by have := h.zl; omega, h.b, by have := h.bl; omega, h.r, h.rl, h.e, by have := h.el; omega⟩

/-! ### drawn -/
structure Dq where
  gs : List Int
  c : Int
  m : Int
  n : Int
abbrev dq (q : Dq) : D := dkD q.gs q.c q.m q.n
abbrev DqOk (q : Dq) (k : Nat) : Prop := Dk q.gs q.c q.m q.n k
theorem Dk.mono {gs : List Int} {c m n : Int} {k k' : Nat} (h : Dk gs c m n k) (l : k ≤ k') : Dk gs c m n k' := ⟨h.gs, h.c, h.m0, h.m1, h.n0, by have := h.n1; omega⟩
theorem drw {q : Dq} {l : Int} {k : Nat} (h : DqOk q k) (hl : 1 ≤ l) (hl2 : l ≤ 10 ^ 40) (hk : k ≤ 10000) : ∃ (q' : Dq) (r : Nat), m__law_draw [dq q, .int l] = some (.ok (.int r) [dq q', .int l]) ∧ (r : Int) < l ∧ DqOk q' (k + 1) := by
  obtain ⟨gs', c', m', n', r, e, h0, h1, h2⟩ := draw_ok h hl hl2 hk
  refine ⟨⟨gs', c', m', n'⟩, r.toNat, ?_, by omega, h2⟩
  rw [show ((r.toNat : Nat) : Int) = r from by omega]
  exact e
theorem sgc_dvd (a b : Int) : sgc a b ∣ a ∧ sgc a b ∣ b := by
  have h1 : ((Nat.gcd a.natAbs b.natAbs : Nat) : Int) ∣ a := Int.ofNat_dvd_left.mpr (Nat.gcd_dvd_left _ _)
  have h2 : ((Nat.gcd a.natAbs b.natAbs : Nat) : Int) ∣ b := Int.ofNat_dvd_left.mpr (Nat.gcd_dvd_right _ _)
  unfold sgc
  split
  · exact ⟨Int.neg_dvd.mpr h1, Int.neg_dvd.mpr h2⟩
  · exact ⟨h1, h2⟩
theorem fdiv_small {a b : Int} (h : b ∣ a) : (a.fdiv b).natAbs ≤ a.natAbs := by
  rw [Int.fdiv_eq_ediv_of_dvd h]
  exact Int.natAbs_ediv_le_natAbs a b
/-- lowest terms -/
theorem low_ok {a b : Int} (hb : 1 ≤ b) : ∃ p : Nm, lowD a b = nuD p ∧ 1 ≤ p.2 ∧ Nat.gcd p.1.natAbs p.2.natAbs = 1 ∧ p.1.natAbs ≤ a.natAbs ∧ p.2.natAbs ≤ b.natAbs := by
  obtain ⟨d1, d2⟩ := sgc_dvd a b
  have es : sgc a b = ((Nat.gcd a.natAbs b.natAbs : Nat) : Int) := by unfold sgc; rw [if_neg (by omega)]
  have g0 : 0 < Nat.gcd a.natAbs b.natAbs := Nat.gcd_pos_of_pos_right _ (by omega)
  refine ⟨(a.fdiv (sgc a b), b.fdiv (sgc a b)), rfl, ?_, ?_, fdiv_small d1, fdiv_small d2⟩
  · show 1 ≤ b.fdiv (sgc a b)
    rw [Int.fdiv_eq_ediv_of_dvd d2]
    obtain ⟨c, hc⟩ := d2
    rw [es] at hc ⊢
    have hc' : b = c * ((Nat.gcd a.natAbs b.natAbs : Nat) : Int) := by rw [Int.mul_comm]; exact hc
    have e : b / ((Nat.gcd a.natAbs b.natAbs : Nat) : Int) = c := by
      conv => lhs; arg 1; rw [hc']
      exact Int.mul_ediv_cancel c (by omega)
    rw [e]
    have : 0 < c * ((Nat.gcd a.natAbs b.natAbs : Nat) : Int) := by omega
    exact Int.pos_of_mul_pos_left this (by omega)
  · show Nat.gcd (a.fdiv (sgc a b)).natAbs (b.fdiv (sgc a b)).natAbs = 1
    rw [Int.fdiv_eq_ediv_of_dvd d1, Int.fdiv_eq_ediv_of_dvd d2, Int.natAbs_ediv_of_dvd d1, Int.natAbs_ediv_of_dvd d2, es, Int.natAbs_natCast]
    exact Nat.gcd_div_gcd_div_gcd_of_pos_right (by omega)
end K04

namespace K04
open PySem PySem.Spec PyProof.Rows L2 DL

structure NG (g : Int) (p : Nm) : Prop where
  pos : 1 ≤ p.2
  low : Nat.gcd p.1.natAbs p.2.natAbs = 1
  a : p.1.natAbs ≤ g.natAbs
  b : p.2.natAbs ≤ g.natAbs
theorem number_ok {q : Dq} {k : Nat} {g hf gm : Int} (h : DqOk q k) (hk : k ≤ 9000) (g4 : 4 ≤ g) (g9 : g ≤ 1000000000) (ef : g.fdiv 2 = hf) (em : g - 1 = gm) : ∃ (q' : Dq) (p : Nm), m__law_number [dq q, .int g] = some (.ok (nuD p) [dq q', .int g]) ∧ NG g p ∧ DqOk q' (k + 3) := by
  obtain ⟨q3, r3, e3, l3, h3⟩ := drw (l := g) h (by omega) (by omega) (by omega)
  obtain ⟨q4, r4, e4, l4, h4⟩ := drw (l := 2) h3 (by decide) (by decide) (by omega)
  have hf2 : 0 ≤ hf ∧ hf ≤ g := by
    rw [← ef, Int.fdiv_eq_ediv_of_nonneg _ (by decide)]
    omega
  have key2 : ∃ m : Int, 1 ≤ m ∧ m ≤ gm ∧ ((r4 = 0 ∧ m = 1) ∨ (r4 = 1 ∧ m = gm)) := by
    rcases (by omega : r4 = 0 ∨ r4 = 1) with rfl | rfl
    · exact ⟨1, by decide, by omega, .inl ⟨rfl, rfl⟩⟩
    · exact ⟨gm, by omega, by omega, .inr ⟨rfl, rfl⟩⟩
  obtain ⟨m, m1, m9, rel2⟩ := key2
  obtain ⟨q5, r5, e5, l5, h5⟩ := drw (l := m) h4 (by omega) (by omega) (by omega)
  have hb : (1 + (r5 : Int)) ≠ 0 := by omega
  have hs : (1 + (r5 : Int)).natAbs < 2 ^ 251 := by
    have : (1 + (r5 : Int)).natAbs ≤ 1000000000 := by omega
    exact Nat.lt_of_le_of_lt this (by decide)
  have ep := pair_ok (a := (r3 : Int) - hf) hb hs
  obtain ⟨p, hp, p1, p2, p3, p4⟩ := low_ok (a := (r3 : Int) - hf) (b := 1 + (r5 : Int)) (by omega)
  rw [hp] at ep
  refine ⟨q5, p, ?_, ⟨p1, p2, by omega, by omega⟩, h5⟩
  rcases rel2 with ⟨rfl, rfl⟩ | ⟨rfl, rfl⟩
  · simp (config := {decide := true, implicitDefEqProofs := false}) [r_fn, parOk, frzAt, outsD, List.range_succ, DL.gTup, DL.gLst, gGcd, gNeg, gDiv, gMod, gPow, DL.gSub, gAbs, gInt, gEq, gNe, gRng1, kwR, gmInsert, gmExtend, gmAppend, gmSet, ixR, DL.isNon, ixN, atI, lstD, seqD, gIsN, gNotN, m__law_number, f__law_number, ef, em, e3, e4, e5, ep]
  · simp (config := {decide := true, implicitDefEqProofs := false}) [r_fn, parOk, frzAt, outsD, List.range_succ, DL.gTup, DL.gLst, gGcd, gNeg, gDiv, gMod, gPow, DL.gSub, gAbs, gInt, gEq, gNe, gRng1, kwR, gmInsert, gmExtend, gmAppend, gmSet, ixR, DL.isNon, ixN, atI, lstD, seqD, gIsN, gNotN, m__law_number, f__law_number, ef, em, e3, e4, e5, ep]
theorem numbers_comp {g hf gm : Int} (g4 : 4 ≤ g) (g9 : g ≤ 1000000000) (ef : g.fdiv 2 = hf) (em : g - 1 = gm) {S M T B R Rd : Option D} : ∀ {ts : List D} {acc : List Nm} {q : Dq} {k : Nat} {x : Option D}, DqOk q k → k + 3 * ts.length ≤ 9000 → acc.length + ts.length ≤ 1000 →
    ∃ (q' : Dq) (ps : List Nm), compE [6] (tgN [0, 1, 2, 3, 4, 5, 7, 8] 6) evYes (evCall [true, false] m__law_number (evCons (evV 0) (evCons (evV 4) evNil))) ts (acc.map nuD) [some (dq q), S, M, T, some (.int g), B, x, R, Rd] =
      some ((acc ++ ps).map nuD, [some (dq q'), S, M, T, some (.int g), B, none, R, Rd]) ∧ ps.length = ts.length ∧ (∀ p ∈ ps, NG g p) ∧ DqOk q' (k + 3 * ts.length)
  | [], acc, q, k, x, h, hk, hz => ⟨q, [], by simp [comp_0], rfl, by simp, h⟩
  | t :: ts, acc, q, k, x, h, hk, hz => by
    rw [List.length_cons] at hk hz
    obtain ⟨q1, p, e1, p1, h1⟩ := number_ok h (by omega) g4 g9 ef em
    obtain ⟨q2, ps, e2, n2, o2, h2⟩ := numbers_comp g4 g9 ef em (S := S) (M := M) (T := T) (B := B) (R := R) (Rd := Rd) (ts := ts) (acc := acc ++ [p]) (x := some t) h1 (by omega) (by simp; omega)
    refine ⟨q2, p :: ps, ?_, by simp [n2], fun n hn => ?_, h2.mono (by simp; omega)⟩
    · have ea : acc ++ p :: ps = acc ++ [p] ++ ps := by simp
      have es : (acc ++ [p]).map nuD = acc.map nuD ++ [nuD p] := by simp
      have hz' : acc.length < 16777216 := by omega
      rw [ea, ← e2, es]
      simp (config := {decide := true, implicitDefEqProofs := false}) [r_fn, parOk, frzAt, outsD, List.range_succ, DL.gTup, DL.gLst, gGcd, gNeg, gDiv, gMod, gPow, DL.gSub, gAbs, gInt, gEq, gNe, gRng1, kwR, gmInsert, gmExtend, gmAppend, gmSet, ixR, DL.isNon, ixN, atI, lstD, seqD, gIsN, gNotN, comp_1, e1, hz']
    · rcases List.mem_cons.mp hn with rfl | hn
      · exact p1
      · exact o2 n hn
/-! ### signs -/
theorem dInts_len (lo : Int) (n : Nat) : (dInts lo n).length = n := by unfold dInts; simp
theorem abc_len : abc.length = 26 := rfl
theorem abc_sb : SB abc := fun c h => by
  unfold abc at h
  have := List.mem_range'_1.mp h
  omega
theorem letters_C {A B C E x : Option D} : C__law_signs_0 [A, B, x, C, E] = some (.ok (.val (.ol ((sg abc).map sD))) [A, B, x, C, E]) := by
  have h := comp_map1 (ρ := [A, B, none, C, E]) (i := 2) (I := [0, 1, 3, 4]) (f := evV 2) (ds := (sg abc).map sD) (acc := []) (by decide) (by show 2 < 5; decide) (fun d => d) (fun d hd => by
    obtain ⟨c, _, rfl⟩ := List.mem_map.mp hd
    simp (config := {decide := true, implicitDefEqProofs := false}) [r_fn, parOk, frzAt, outsD, List.range_succ, DL.gTup, DL.gLst, gGcd, gNeg, gDiv, gMod, gPow, DL.gSub, gAbs, gInt, gEq, gNe, gRng1, kwR, gmInsert, gmExtend, gmAppend, gmSet, ixR, DL.isNon, ixN, atI, lstD, seqD, gIsN, gNotN]) (by rw [List.length_map, sg_len, abc_len]; decide)
  have e : ((sg abc).map sD).map (fun d => frz d) = (sg abc).map sD := map_frz_s _
  rw [e, List.nil_append] at h
  simp (config := {decide := true, implicitDefEqProofs := false}) [r_fn, parOk, frzAt, outsD, List.range_succ, DL.gTup, DL.gLst, gGcd, gNeg, gDiv, gMod, gPow, DL.gSub, gAbs, gInt, gEq, gNe, gRng1, kwR, gmInsert, gmExtend, gmAppend, gmSet, ixR, DL.isNon, ixN, atI, lstD, seqD, gIsN, gNotN, a_C__law_signs_0, h]
theorem picks {S Z x2 : Option D} : ∀ {ts : List D} {q : Dq} {k : Nat} {left found : List Nat} {x : Option D}, DqOk q k → k + ts.length ≤ 9000 → ts.length ≤ left.length → left.length ≤ 26 → found.length + ts.length ≤ 26 →
    ∃ (q' : Dq) (left' found' : List Nat), compE [4] (tgN [0, 1, 2, 3] 4) evYes (evMut gmPopAt (evCons (evChk isLst (evV 1)) (evCons (evCall [true, false] m__law_draw (evCons (evV 0) (evCons (evOp DL.gLen (evCons (evV 1) (evNil))) (evNil)))) (evNil)))) ts ((sg found).map sD) [some (dq q), some (.ol ((sg left).map sD)), x2, S, x] =
      some ((sg found').map sD, [some (dq q'), some (.ol ((sg left').map sD)), x2, S, none]) ∧ DqOk q' (k + ts.length) ∧ (found' ++ left').Perm (found ++ left) ∧ found'.length = found.length + ts.length
  | [], q, k, left, found, x, h, hk, hl, h26, hf => ⟨q, left, found, by simp [comp_0], h, List.Perm.refl _, rfl⟩
  | t :: ts, q, k, left, found, x, h, hk, hl, h26, hf => by
    rw [List.length_cons] at hk hl hf
    obtain ⟨q1, r, e1, r1, h1⟩ := drw (l := (left.length : Int)) h (by omega) (by omega) (by omega)
    obtain ⟨y, hp, hlen, ep⟩ := popAt_m (xs := left) (f := fun c => sD [c]) (i := (r : Int)) (fun _ => rfl) (by omega) (by omega) (by omega)
    rw [map_sg, map_sg] at ep
    have hz : found.length < 26 := by omega
    obtain ⟨q2, left2, found2, e2, h2, p2, l2⟩ := picks (S := S) (Z := Z) (x2 := x2) (ts := ts) (left := left.eraseIdx (r : Int).toNat) (found := found ++ [y]) (x := some t) h1 (by omega) (by omega) (by omega) (by simp; omega)
    refine ⟨q2, left2, found2, ?_, h2.mono (by simp; omega), ?_, by rw [l2]; simp; omega⟩
    · rw [← e2]
      have hz2 : found.length < 16777216 := by omega
      have hs : (sg (found ++ [y])).map sD = (sg found).map sD ++ [sD [y]] := by simp [sg]
      rw [hs]
      simp (config := {decide := true, implicitDefEqProofs := false}) [r_fn, parOk, frzAt, outsD, List.range_succ, DL.gTup, DL.gLst, gGcd, gNeg, gDiv, gMod, gPow, DL.gSub, gAbs, gInt, gEq, gNe, gRng1, kwR, gmInsert, gmExtend, gmAppend, gmSet, ixR, DL.isNon, ixN, atI, lstD, seqD, gIsN, gNotN, comp_1, e1, ep, hz2]
    · refine p2.trans ?_
      rw [List.append_assoc]
      exact (hp.append_left found).symm
theorem signs_ok {q : Dq} {k : Nat} (h : DqOk q k) (hk : k ≤ 8000) : ∃ (q' : Dq) (z : List Nat), m__law_signs [dq q] = some (.ok (sD z) [dq q']) ∧ (∀ c ∈ z, c ∈ abc) ∧ z.Pairwise (· < ·) ∧ 1 ≤ z.length ∧ z.length ≤ 3 ∧ DqOk q' (k + 4) := by
  obtain ⟨q1, r, e1, r1, h1⟩ := drw (l := 3) h (by decide) (by decide) (by omega)
  obtain ⟨q2, left, found, e2, h2, p, l⟩ := picks (S := none) (Z := none) (x2 := none) (ts := dInts 0 (1 + r)) (left := abc) (found := []) (x := none) h1 (by rw [dInts_len]; omega) (by rw [dInts_len, abc_len]; omega) (by rw [abc_len]; omega) (by rw [dInts_len]; simp; omega)
  rw [dInts_len, List.length_nil, Nat.zero_add] at l
  rw [dInts_len] at h2
  rw [List.nil_append] at p
  obtain ⟨z, zp, zs, ez⟩ := sort_sg found
  have zl : z.length = found.length := zp.length_eq
  have nd : (found ++ left).Nodup := (List.Perm.nodup_iff p).mpr (by unfold abc; exact List.nodup_range')
  have nz : z.Nodup := (List.Perm.nodup_iff zp).mpr (List.nodup_append.mp nd).1
  have asc : z.Pairwise (· < ·) := (List.Pairwise.and zs nz).imp fun ⟨h1, h2⟩ => by omega
  refine ⟨q2, z, ?_, fun c hc => ?_, asc, by omega, by omega, h2.mono (by omega)⟩
  · have ei : (((0 : Nat) : Int)) = 0 := rfl
    have r3 : -4611686018427387904 ≤ 1 + (r : Int) ∧ 1 + (r : Int) < 4611686018427387904 := by omega
    have r4 : (1 + (r : Int)).toNat = 1 + r := by omega
    have hs : (sg ([] : List Nat)).map sD = [] := rfl
    rw [hs] at e2
    have l64 : found.length < 64 := by omega
    have hj : gJoin [sD [], .ol ((sortS ((sg found).map fun m => (⟨m.toArray⟩ : Str))).map .str)] = some (sD z) := by
      rw [ez, List.map_map]
      have := join_s (ms := sg z) (by rw [sg_flat]; omega)
      rw [sg_flat] at this
      exact this
    simp (config := {decide := true, implicitDefEqProofs := false}) [r_fn, parOk, frzAt, outsD, List.range_succ, DL.gTup, DL.gLst, gGcd, gNeg, gDiv, gMod, gPow, DL.gSub, gAbs, gInt, gEq, gNe, gRng1, kwR, gmInsert, gmExtend, gmAppend, gmSet, ixR, DL.isNon, ixN, atI, lstD, seqD, gIsN, gNotN, m__law_signs, f__law_signs, letters_C, a_C__law_signs_1, e1, gRng1, r3, r4, e2, l64, hj]
  · have : c ∈ found ++ left := by
      rw [List.mem_append]
      exact .inl (zp.mem_iff.mp hc)
    exact p.mem_iff.mp this
/-! ### roads -/
theorem ix_at {α : Type} {f : α → D} {xs : List α} {i : Nat} (h : i < xs.length) : atI (xs.map f) (i : Int) = some (f xs[i]) := by
  unfold atI ixN
  have h' : (i : Int) < (xs.map f).length := by rw [List.length_map]; omega
  rw [if_pos (by omega), if_pos h']
  show (xs.map f)[((i : Int)).toNat]? = _
  rw [Int.toNat_natCast, List.getElem?_map, List.getElem?_eq_getElem h]
  rfl
theorem roads_ne {rs : List Road} (h : ∀ r ∈ rs, RB r) : eqD (.ol (rs.map rdD)) (.ol []) = some (decide (rs = [])) := by
  rw [eqD_nil (okl_map (n := 2) (g := rdP) fun r hr => ok_rd 0 (h r hr)) (by decide)]
  exact congrArg some (decide_eq_decide.mpr (by simp))
theorem nums_ne {ps : List Nm} : eqD (.ol (ps.map nuD)) (.ol []) = some (decide (ps = [])) := by
  rw [eqD_nil (okl_map (n := 1) (g := nuP) fun r hr => ok_nu 0 r) (by decide)]
  exact congrArg some (decide_eq_decide.mpr (by simp))
end K04

namespace K04
open PySem PySem.Spec PyProof.Rows L2 DL

structure RV (g : Int) (many : Nat) (z : List Nat) (r : Road) : Prop where
  s0 : 0 ≤ r.st
  s1 : r.st < many
  sg : ∃ c ∈ z, r.sg = [c]
  b0 : 0 ≤ r.bh
  b1 : r.bh < many
  nu : NG g r.nu
theorem RV.rb {g : Int} {many : Nat} {z : List Nat} {r : Road} (h : RV g many z r) (g9 : g.natAbs ≤ 1000000000) (m6 : many ≤ 6) (hz : SB z) : RB r := by
  obtain ⟨c, hc, es⟩ := h.sg
  have h1 := h.s0
  have h2 := h.s1
  have h3 := h.b0
  have h4 := h.b1
  refine ⟨by omega, by omega, ?_, ?_, ⟨?_, ?_⟩⟩
  · rw [es]; exact fun d hd => by rw [List.mem_singleton.mp hd]; exact hz c hc
  · rw [es]; show 1 ≤ 4; decide
  · have := h.nu.a; omega
  · have := h.nu.b; omega
@[simp] theorem addT_2 {xs ys : List D} : gAddT [.tup xs, .tup ys] = if xs ≠ [] ∧ ys ≠ [] ∧ xs.length + ys.length ≤ 16777216 then some (.tup (xs ++ ys)) else none := rfl
theorem road_turn {q : Dq} {k : Nat} {g hf gm : Int} (g4 : 4 ≤ g) (g9 : g ≤ 1000000000) (ef : g.fdiv 2 = hf) (em : g - 1 = gm) {z : List Nat} {many : Nat} {rs : List Road} {T B x R : Option D} (h : DqOk q k) (hk : k ≤ 8000) (hz : SB z) (z1 : 1 ≤ z.length) (zl : z.length ≤ 3) (m1 : 1 ≤ many) (m6 : many ≤ 6) (hr : ∀ r ∈ rs, RV g many z r) (hl : rs.length ≤ 24) :
    ∃ (q' : Dq) (r : Road), L__law_machine_0 [some (dq q), some (sD z), some (.int many), T, some (.int g), B, x, some (.ol (rs.map rdD)), R] = some (.nx [some (dq q'), some (sD z), some (.int many), T, some (.int g), B, x, some (.ol ((rs ++ [r]).map rdD)), some (rdD r)]) ∧ RV g many z r ∧ DqOk q' (k + 8) := by
  obtain ⟨q1, r1, e1, l1, h1⟩ := drw (l := (many : Int)) h (by omega) (by omega) (by omega)
  obtain ⟨q2, r2, e2, l2, h2⟩ := drw (l := (z.length : Int)) h1 (by omega) (by omega) (by omega)
  obtain ⟨c, hc, ec⟩ := ix_s (z := z) (i := (r2 : Int)) (by omega) l2 (by omega)
  obtain ⟨q3, r3, e3, l3, h3⟩ := drw (l := (many : Int)) h2 (by omega) (by omega) (by omega)
  obtain ⟨q4, p, e4, p4, h4⟩ := number_ok h3 (by omega) g4 g9 ef em
  have rv : RV g many z ⟨r1, [c], r3, p⟩ := ⟨by show (0 : Int) ≤ r1; omega, by show (r1 : Int) < many; omega, ⟨c, hc, rfl⟩, by show (0 : Int) ≤ r3; omega, by show (r3 : Int) < many; omega, p4⟩
  have hne := roads_ne fun r h => (hr r h).rb (by omega) m6 hz
  have hl2 : rs.length < 16777216 := by omega
  have hz2 : z.length ≤ 16777216 := by omega
  have mk : rdD ⟨r1, [c], r3, p⟩ = .tup [.int r1, sD [c], .int r3, nuD p] := rfl
  by_cases hn : rs = []
  · refine ⟨q4, ⟨r1, [c], r3, p⟩, ?_, rv, h4.mono (by omega)⟩
    rw [List.map_append, List.map_cons, List.map_nil, mk]
    subst hn
    simp (config := {decide := true, implicitDefEqProofs := false}) [r_fn, parOk, frzAt, outsD, List.range_succ, DL.gTup, DL.gLst, gGcd, gNeg, gDiv, gMod, gPow, DL.gSub, gAbs, gInt, gEq, gNe, gRng1, kwR, gmInsert, gmExtend, gmAppend, gmSet, ixR, DL.isNon, ixN, atI, lstD, seqD, gIsN, gNotN, a_L__law_machine_0, e1, e2, ec, e3, e4, hz2]
  · obtain ⟨q5, r5, e5, l5, h5⟩ := drw (l := 8) h4 (by decide) (by decide) (by omega)
    by_cases h5' : r5 = 7
    · subst h5'
      have hrl : 1 ≤ rs.length := by cases rs with
        | nil => exact absurd rfl hn
        | cons => simp
      obtain ⟨q6, r6, e6, l6, h6⟩ := drw (l := (rs.length : Int)) h5 (by omega) (by omega) (by omega)
      have hx := ix_at (f := rdD) (xs := rs) (i := r6) (by omega)
      refine ⟨q6, rs[r6]'(by omega), ?_, hr _ (List.getElem_mem _), h6.mono (by omega)⟩
      rw [List.map_append, List.map_cons, List.map_nil]
      simp (config := {decide := true, implicitDefEqProofs := false}) [r_fn, parOk, frzAt, outsD, List.range_succ, DL.gTup, DL.gLst, gGcd, gNeg, gDiv, gMod, gPow, DL.gSub, gAbs, gInt, gEq, gNe, gRng1, kwR, gmInsert, gmExtend, gmAppend, gmSet, ixR, DL.isNon, ixN, lstD, seqD, gIsN, gNotN, a_L__law_machine_0, e1, e2, ec, e3, e4, e5, e6, hne, hn, hl2, hz2, hx]
    · refine ⟨q5, ⟨r1, [c], r3, p⟩, ?_, rv, h5.mono (by omega)⟩
      have h5i : ¬ (r5 : Int) = 7 := by omega
      rw [List.map_append, List.map_cons, List.map_nil, mk]
      simp (config := {decide := true, implicitDefEqProofs := false}) [r_fn, parOk, frzAt, outsD, List.range_succ, DL.gTup, DL.gLst, gGcd, gNeg, gDiv, gMod, gPow, DL.gSub, gAbs, gInt, gEq, gNe, gRng1, kwR, gmInsert, gmExtend, gmAppend, gmSet, ixR, DL.isNon, ixN, atI, lstD, seqD, gIsN, gNotN, a_L__law_machine_0, e1, e2, ec, e3, e4, e5, hne, hn, hl2, hz2, h5', h5i]
theorem roads_loop {g hf gm : Int} (g4 : 4 ≤ g) (g9 : g ≤ 1000000000) (ef : g.fdiv 2 = hf) (em : g - 1 = gm) {z : List Nat} {many : Nat} {T B : Option D} (hz : SB z) (z1 : 1 ≤ z.length) (zl : z.length ≤ 3) (m1 : 1 ≤ many) (m6 : many ≤ 6) : ∀ {ts : List D} {q : Dq} {k : Nat} {rs : List Road} {x R : Option D}, DqOk q k → k + 8 * ts.length ≤ 8000 → (∀ r ∈ rs, RV g many z r) → rs.length + ts.length ≤ 24 →
    ∃ (q' : Dq) (rs' : List Road) (x' R' : Option D), forE (tgN [0] 6) L__law_machine_0 ts [some (dq q), some (sD z), some (.int many), T, some (.int g), B, x, some (.ol (rs.map rdD)), R] = some (.nx [some (dq q'), some (sD z), some (.int many), T, some (.int g), B, x', some (.ol (rs'.map rdD)), R']) ∧ (∀ r ∈ rs', RV g many z r) ∧ rs'.length = rs.length + ts.length ∧ DqOk q' (k + 8 * ts.length)
  | [], q, k, rs, x, R, h, hk, hr, hl => ⟨q, rs, x, R, rfl, hr, rfl, h⟩
  | t :: ts, q, k, rs, x, R, h, hk, hr, hl => by
    rw [List.length_cons] at hk hl
    obtain ⟨q1, r, e1, r1, h1⟩ := road_turn g4 g9 ef em (T := T) (B := B) (x := some t) (R := R) h (by omega) hz z1 zl m1 m6 hr (by omega)
    obtain ⟨q2, rs2, x2, R2, e2, r2, n2, h2⟩ := roads_loop g4 g9 ef em hz z1 zl m1 m6 (T := T) (B := B) (ts := ts) (rs := rs ++ [r]) (x := some t) (R := some (rdD r)) h1 (by omega) (fun s hs => by
      rcases List.mem_append.mp hs with hs | hs
      · exact hr s hs
      · rw [List.mem_singleton.mp hs]; exact r1) (by simp; omega)
    refine ⟨q2, rs2, x2, R2, ?_, r2, by rw [n2]; simp; omega, h2.mono (by simp; omega)⟩
    rw [← e2]
    simp (config := {decide := true, implicitDefEqProofs := false}) [r_fn, parOk, frzAt, outsD, List.range_succ, DL.gTup, DL.gLst, gGcd, gNeg, gDiv, gMod, gPow, DL.gSub, gAbs, gInt, gEq, gNe, gRng1, kwR, gmInsert, gmExtend, gmAppend, gmSet, ixR, DL.isNon, ixN, atI, lstD, seqD, gIsN, gNotN, forE_1, e1]
/-- a machine as it is drawn: all of it right -/
structure MV (g : Int) (most : Nat) (M : Mc) : Prop where
  z : SB M.z
  z1 : 1 ≤ M.z.length
  zl : M.z.length ≤ 3
  bl : M.b.length ≤ 6
  el : M.e.length = M.b.length
  b : ∀ p ∈ M.b, NG g p
  e : ∀ p ∈ M.e, NG g p
  r : ∀ r ∈ M.r, RV g M.b.length M.z r
  rl : M.r.length ≤ most
def olD (M : Mc) : D := .ol [sD M.z, .ol (M.b.map nuD), .ol (M.r.map rdD), .ol (M.e.map nuD)]
def ptD (M : Mc) : D := .lst [sD M.z, .lst (M.b.map nuD), .lst (M.r.map rdD), .lst (M.e.map nuD)]
theorem machine_ok {q : Dq} {k m most : Nat} {g hf gm : Int} {z : List Nat} (g4 : 4 ≤ g) (g9 : g ≤ 1000000000) (ef : g.fdiv 2 = hf) (em : g - 1 = gm) (h : DqOk q k) (hk : k ≤ 7000) (z0 : SB z) (z1 : 1 ≤ z.length) (z3 : z.length ≤ 3) (m6 : m ≤ 6) (most24 : most ≤ 24) : ∃ (q' : Dq) (M : Mc), m__law_machine [dq q, sD z, .int m, .int most, .int g] = some (.ok (olD M) [dq q', sD z, .int m, .int most, .int g]) ∧ MV g most M ∧ M.z = z ∧ M.b.length = m ∧ DqOk q' (k + 300) := by
  obtain ⟨q3, bs, e3, b1, b2, h3⟩ := numbers_comp g4 g9 ef em (S := some (sD z)) (M := some (.int (m : Int))) (T := some (.int most)) (B := none) (R := none) (Rd := none) (ts := dInts 0 m) (acc := []) (x := none) h (by rw [dInts_len]; omega) (by rw [dInts_len]; simp; omega)
  rw [dInts_len] at b1 h3
  have key2 : ∃ u : Int, gMin3 [.int most, .int 24, .int (5 * (m : Int))] = some (.int u) ∧ 0 ≤ u ∧ u ≤ most ∧ (m = 0 → u = 0) := by
    refine ⟨if 5 * (m : Int) < (if (24 : Int) < most then 24 else (most : Int)) then 5 * (m : Int) else (if (24 : Int) < most then 24 else (most : Int)), rfl, ?_, ?_, ?_⟩ <;> split <;> (try split) <;> omega
  obtain ⟨u, eu, u0, u24, um⟩ := key2
  obtain ⟨q4, j, e4, j1, h4⟩ := drw (l := 1 + u) h3 (by omega) (by omega) (by omega)
  have key3 : ∃ (q' : Dq) (rs : List Road) (x' R' : Option D), forE (tgN [0] 6) L__law_machine_0 (dInts 0 j) [some (dq q4), some (sD z), some (.int (m : Int)), some (.int most), some (.int g), some (.ol (bs.map nuD)), none, some (.ol []), none] = some (.nx [some (dq q'), some (sD z), some (.int (m : Int)), some (.int most), some (.int g), some (.ol (bs.map nuD)), x', some (.ol (rs.map rdD)), R']) ∧ (∀ r ∈ rs, RV g m z r) ∧ rs.length ≤ most ∧ DqOk q' (k + 3 * m + 1 + 192) := by
    by_cases hm : m = 0
    · have : j = 0 := by have := um hm; omega
      subst this
      exact ⟨q4, [], none, none, rfl, by simp, by simp, h4.mono (by omega)⟩
    · obtain ⟨q', rs, x', R', e, r1, r2, h'⟩ := roads_loop g4 g9 ef em z0 z1 z3 (m1 := (by omega : 1 ≤ m)) m6 (T := some (.int most)) (B := some (.ol (bs.map nuD))) (ts := dInts 0 j) (rs := []) (x := none) (R := none) h4 (by rw [dInts_len]; omega) (by simp) (by rw [dInts_len]; simp; omega)
      rw [dInts_len] at h' r2
      exact ⟨q', rs, x', R', e, r1, by simp at r2; omega, h'.mono (by omega)⟩
  obtain ⟨q5, rs, x5, R5, e5, r5, n5, h5⟩ := key3
  obtain ⟨q6, es, e6, c1, c2, h6⟩ := numbers_comp g4 g9 ef em (S := some (sD z)) (M := some (.int (m : Int))) (T := some (.int most)) (B := some (.ol (bs.map nuD))) (R := some (.ol (rs.map rdD))) (Rd := R5) (ts := dInts 0 m) (acc := []) (x := none) h5 (by rw [dInts_len]; omega) (by rw [dInts_len]; simp; omega)
  rw [dInts_len] at c1 h6
  refine ⟨q6, ⟨z, bs, rs, es⟩, ?_, ⟨z0, z1, z3, by show bs.length ≤ _; omega, by show es.length = bs.length; omega, b2, c2, by show ∀ r ∈ rs, RV g bs.length z r; rw [b1]; exact r5, n5⟩, rfl, b1, h6.mono (by omega)⟩
  have b7 : -4611686018427387904 ≤ (m : Int) ∧ (m : Int) < 4611686018427387904 := by omega
  have b8 : -4611686018427387904 ≤ (j : Int) ∧ (j : Int) < 4611686018427387904 := by omega
  have b9 : lg 5 + lg (m : Int) < 1000000 := by
    have := lg_le (i := (m : Int)) (k := 10) (by omega)
    have := lg_le (i := 5) (k := 10) (by decide)
    omega
  have ee : (([] : List Nm).map nuD) = [] := rfl
  rw [ee, List.nil_append] at e3 e6
  unfold olD
  generalize bs.map nuD = X at e3 e5 e6 ⊢
  generalize es.map nuD = Y at e6 ⊢
  generalize rs.map rdD = Z at e5 e6 ⊢
  have i1 : ((m : Int)).toNat = m := rfl
  have i2 : ((j : Int)).toNat = j := rfl
  simp (config := {decide := true, implicitDefEqProofs := false}) [r_fn, parOk, frzAt, outsD, List.range_succ, DL.gTup, DL.gLst, gGcd, gNeg, gDiv, gMod, gPow, DL.gSub, gAbs, gInt, gEq, gNe, gRng1, kwR, gmInsert, gmExtend, gmAppend, gmSet, ixR, DL.isNon, ixN, atI, lstD, seqD, gIsN, gNotN, m__law_machine, f__law_machine, a_C__law_machine_0, a_C__law_machine_1, e3, eu, e4, e5, e6, gRng1, b7, b8, b9, i1, i2]
end K04

namespace K04
open PySem PySem.Spec PyProof.Rows L2 DL

/-! ### what is due -/
def okN (p : Nm) : Bool := decide (1 ≤ p.2) && decide (Nat.gcd p.1.natAbs p.2.natAbs = 1)
def okG : List Nat → List Nat → Bool
  | _, [] => true
  | last, c :: zs => (decide (c ∈ abc) && decide (last < [c])) && okG [c] zs
inductive Er
  | sg (z : List Nat) | nu (p : Nm) | mc (r : Road) | si (s : List Nat) | en (e : List Nm)
def excD : Er → D
  | .sg z => .exc 2 (sD z)
  | .nu p => .exc 1 (nuD p)
  | .mc r => .exc 4 (rdD r)
  | .si s => .exc 3 (sD s)
  | .en e => .exc 4 (.lst (e.map nuD))
def okI (z s : List Nat) : Bool := match s with
  | [c] => decide (c ∈ z)
  | _ => false
def okP (n : Nat) (i : Int) : Bool := decide (0 ≤ i) && decide (i < n)
def roadE (z : List Nat) (n : Nat) (r : Road) : Option Er :=
  if okP n r.st = false then some (.mc r) else if okI z r.sg = false then some (.si r.sg) else if okP n r.bh = false then some (.mc r) else none
def due (M : Mc) : Option Er :=
  if okG [] M.z = false ∨ M.z = [] then some (.sg M.z)
  else match (M.b ++ M.r.map Road.nu ++ M.e).find? (fun p => !okN p) with
    | some p => some (.nu p)
    | none => match M.r.findSome? (roadE M.z M.b.length) with
      | some e => some e
      | none => if M.b.length = M.e.length then none else some (.en M.e)

/-! ### the program's checks -/
theorem isn_ok (p : Nm) : m_is_number [nuD p] = some (.ok (.bl (okN p)) [nuD p]) := by
  unfold nuD okN
  obtain ⟨a, b⟩ := p
  dsimp only
  by_cases h : 1 ≤ b
  · by_cases h2 : Nat.gcd a.natAbs b.natAbs = 1
    · have h3 : ((Nat.gcd a.natAbs b.natAbs : Nat) : Int) = 1 := by omega
      simp (config := {decide := true, implicitDefEqProofs := false}) [r_fn, parOk, frzAt, outsD, List.range_succ, DL.gTup, DL.gLst, gGcd, gNeg, gDiv, gMod, gPow, DL.gSub, gAbs, gInt, gEq, gNe, gRng1, kwR, gmInsert, gmExtend, gmAppend, gmSet, ixR, DL.isNon, ixN, atI, lstD, seqD, gIsN, gNotN, m_is_number, f_is_number, h, h2, h3]
    · have h3 : ¬ ((Nat.gcd a.natAbs b.natAbs : Nat) : Int) = 1 := by omega
      simp (config := {decide := true, implicitDefEqProofs := false}) [r_fn, parOk, frzAt, outsD, List.range_succ, DL.gTup, DL.gLst, gGcd, gNeg, gDiv, gMod, gPow, DL.gSub, gAbs, gInt, gEq, gNe, gRng1, kwR, gmInsert, gmExtend, gmAppend, gmSet, ixR, DL.isNon, ixN, atI, lstD, seqD, gIsN, gNotN, m_is_number, f_is_number, h, h2, h3]
  · simp (config := {decide := true, implicitDefEqProofs := false}) [r_fn, parOk, frzAt, outsD, List.range_succ, DL.gTup, DL.gLst, gGcd, gNeg, gDiv, gMod, gPow, DL.gSub, gAbs, gInt, gEq, gNe, gRng1, kwR, gmInsert, gmExtend, gmAppend, gmSet, ixR, DL.isNon, ixN, atI, lstD, seqD, gIsN, gNotN, m_is_number, f_is_number, h]
theorem chk_t {p : Nm} (h : okN p = true) : m_checked [nuD p] = some (.ok (nuD p) [nuD p]) := by
  have e := isn_ok p
  rw [h] at e
  simp (config := {decide := true, implicitDefEqProofs := false}) [r_fn, parOk, frzAt, outsD, List.range_succ, DL.gTup, DL.gLst, gGcd, gNeg, gDiv, gMod, gPow, DL.gSub, gAbs, gInt, gEq, gNe, gRng1, kwR, gmInsert, gmExtend, gmAppend, gmSet, ixR, DL.isNon, ixN, atI, lstD, seqD, gIsN, gNotN, m_checked, f_checked, e]
theorem chk_f {p : Nm} (h : okN p = false) : m_checked [nuD p] = some (.exc (.exc 1 (nuD p)) [nuD p]) := by
  have e := isn_ok p
  rw [h] at e
  simp (config := {decide := true, implicitDefEqProofs := false}) [r_fn, parOk, frzAt, outsD, List.range_succ, DL.gTup, DL.gLst, gGcd, gNeg, gDiv, gMod, gPow, DL.gSub, gAbs, gInt, gEq, gNe, gRng1, kwR, gmInsert, gmExtend, gmAppend, gmSet, ixR, DL.isNon, ixN, atI, lstD, seqD, gIsN, gNotN, m_checked, f_checked, e]
theorem nums_0 {a0 a1 a2 a3 x5 : Option D} : ∀ (ps : List Nm) (x4 : Option D), (ps.find? (fun p => !okN p) = none → ∃ x, forE (tgN [] 4) L_checked_machine_0 (ps.map nuD) [a0, a1, a2, a3, x4, x5] = some (.nx [a0, a1, a2, a3, x, x5])) ∧
    ∀ p, ps.find? (fun p => !okN p) = some p → ∃ x, forE (tgN [] 4) L_checked_machine_0 (ps.map nuD) [a0, a1, a2, a3, x4, x5] = some (.exc (.exc 1 (nuD p)) [a0, a1, a2, a3, x, x5])
  | [], x4 => ⟨fun _ => ⟨x4, rfl⟩, fun p h => by cases h⟩
  | p :: ps, x4 => by
    obtain ⟨i1, i2⟩ := nums_0 (a0 := a0) (a1 := a1) (a2 := a2) (a3 := a3) (x5 := x5) ps (some (nuD p))
    cases hp : okN p with
    | true =>
      have e := chk_t hp
      have hf : (p :: ps).find? (fun p => !okN p) = ps.find? (fun p => !okN p) := by rw [List.find?_cons]; simp [hp]
      rw [hf]
      refine ⟨fun h => ?_, fun p' h => ?_⟩
      · obtain ⟨x, ex⟩ := i1 h
        refine ⟨x, ?_⟩
        rw [← ex]
        simp (config := {decide := true, implicitDefEqProofs := false}) [r_fn, parOk, frzAt, outsD, List.range_succ, DL.gTup, DL.gLst, gGcd, gNeg, gDiv, gMod, gPow, DL.gSub, gAbs, gInt, gEq, gNe, gRng1, kwR, gmInsert, gmExtend, gmAppend, gmSet, ixR, DL.isNon, ixN, atI, lstD, seqD, gIsN, gNotN, forE_1, a_L_checked_machine_0, e]
      · obtain ⟨x, ex⟩ := i2 p' h
        refine ⟨x, ?_⟩
        rw [← ex]
        simp (config := {decide := true, implicitDefEqProofs := false}) [r_fn, parOk, frzAt, outsD, List.range_succ, DL.gTup, DL.gLst, gGcd, gNeg, gDiv, gMod, gPow, DL.gSub, gAbs, gInt, gEq, gNe, gRng1, kwR, gmInsert, gmExtend, gmAppend, gmSet, ixR, DL.isNon, ixN, atI, lstD, seqD, gIsN, gNotN, forE_1, a_L_checked_machine_0, e]
    | false =>
      have e := chk_f hp
      have hf : (p :: ps).find? (fun p => !okN p) = some p := by rw [List.find?_cons]; simp [hp]
      rw [hf]
      refine ⟨fun h => (by cases h), fun p' h => ?_⟩
      cases h
      refine ⟨some (nuD p), ?_⟩
      simp (config := {decide := true, implicitDefEqProofs := false}) [r_fn, parOk, frzAt, outsD, List.range_succ, DL.gTup, DL.gLst, gGcd, gNeg, gDiv, gMod, gPow, DL.gSub, gAbs, gInt, gEq, gNe, gRng1, kwR, gmInsert, gmExtend, gmAppend, gmSet, ixR, DL.isNon, ixN, atI, lstD, seqD, gIsN, gNotN, forE_1, a_L_checked_machine_0, e]
theorem nums_2 {a0 a1 a2 a3 x5 : Option D} : ∀ (ps : List Nm) (x4 : Option D), (ps.find? (fun p => !okN p) = none → ∃ x, forE (tgN [] 4) L_checked_machine_2 (ps.map nuD) [a0, a1, a2, a3, x4, x5] = some (.nx [a0, a1, a2, a3, x, x5])) ∧
    ∀ p, ps.find? (fun p => !okN p) = some p → ∃ x, forE (tgN [] 4) L_checked_machine_2 (ps.map nuD) [a0, a1, a2, a3, x4, x5] = some (.exc (.exc 1 (nuD p)) [a0, a1, a2, a3, x, x5])
  | [], x4 => ⟨fun _ => ⟨x4, rfl⟩, fun p h => by cases h⟩
  | p :: ps, x4 => by
    obtain ⟨i1, i2⟩ := nums_2 (a0 := a0) (a1 := a1) (a2 := a2) (a3 := a3) (x5 := x5) ps (some (nuD p))
    cases hp : okN p with
    | true =>
      have e := chk_t hp
      have hf : (p :: ps).find? (fun p => !okN p) = ps.find? (fun p => !okN p) := by rw [List.find?_cons]; simp [hp]
      rw [hf]
      refine ⟨fun h => ?_, fun p' h => ?_⟩
      · obtain ⟨x, ex⟩ := i1 h
        refine ⟨x, ?_⟩
        rw [← ex]
        simp (config := {decide := true, implicitDefEqProofs := false}) [r_fn, parOk, frzAt, outsD, List.range_succ, DL.gTup, DL.gLst, gGcd, gNeg, gDiv, gMod, gPow, DL.gSub, gAbs, gInt, gEq, gNe, gRng1, kwR, gmInsert, gmExtend, gmAppend, gmSet, ixR, DL.isNon, ixN, atI, lstD, seqD, gIsN, gNotN, forE_1, a_L_checked_machine_2, e]
      · obtain ⟨x, ex⟩ := i2 p' h
        refine ⟨x, ?_⟩
        rw [← ex]
        simp (config := {decide := true, implicitDefEqProofs := false}) [r_fn, parOk, frzAt, outsD, List.range_succ, DL.gTup, DL.gLst, gGcd, gNeg, gDiv, gMod, gPow, DL.gSub, gAbs, gInt, gEq, gNe, gRng1, kwR, gmInsert, gmExtend, gmAppend, gmSet, ixR, DL.isNon, ixN, atI, lstD, seqD, gIsN, gNotN, forE_1, a_L_checked_machine_2, e]
    | false =>
      have e := chk_f hp
      have hf : (p :: ps).find? (fun p => !okN p) = some p := by rw [List.find?_cons]; simp [hp]
      rw [hf]
      refine ⟨fun h => (by cases h), fun p' h => ?_⟩
      cases h
      refine ⟨some (nuD p), ?_⟩
      simp (config := {decide := true, implicitDefEqProofs := false}) [r_fn, parOk, frzAt, outsD, List.range_succ, DL.gTup, DL.gLst, gGcd, gNeg, gDiv, gMod, gPow, DL.gSub, gAbs, gInt, gEq, gNe, gRng1, kwR, gmInsert, gmExtend, gmAppend, gmSet, ixR, DL.isNon, ixN, atI, lstD, seqD, gIsN, gNotN, forE_1, a_L_checked_machine_2, e]
theorem rd_eq (r : Road) : rdD r = .tup [.int r.st, sD r.sg, .int r.bh, nuD r.nu] := rfl
theorem nums_1 {a0 a1 a2 a3 x4 : Option D} : ∀ (rs : List Road) (x5 : Option D), ((rs.map Road.nu).find? (fun p => !okN p) = none → ∃ x, forE (tgN [] 5) L_checked_machine_1 (rs.map rdD) [a0, a1, a2, a3, x4, x5] = some (.nx [a0, a1, a2, a3, x4, x])) ∧
    ∀ p, (rs.map Road.nu).find? (fun p => !okN p) = some p → ∃ x, forE (tgN [] 5) L_checked_machine_1 (rs.map rdD) [a0, a1, a2, a3, x4, x5] = some (.exc (.exc 1 (nuD p)) [a0, a1, a2, a3, x4, x])
  | [], x5 => ⟨fun _ => ⟨x5, rfl⟩, fun p h => by cases h⟩
  | r :: rs, x5 => by
    obtain ⟨i1, i2⟩ := nums_1 (a0 := a0) (a1 := a1) (a2 := a2) (a3 := a3) (x4 := x4) rs (some (rdD r))
    cases hp : okN r.nu with
    | true =>
      have e := chk_t hp
      have hf : ((r :: rs).map Road.nu).find? (fun p => !okN p) = (rs.map Road.nu).find? (fun p => !okN p) := by rw [List.map_cons, List.find?_cons]; simp [hp]
      rw [hf]
      refine ⟨fun h => ?_, fun p' h => ?_⟩
      · obtain ⟨x, ex⟩ := i1 h
        refine ⟨x, ?_⟩
        rw [← ex, List.map_cons, rd_eq]
        simp (config := {decide := true, implicitDefEqProofs := false}) [r_fn, parOk, frzAt, outsD, List.range_succ, DL.gTup, DL.gLst, gGcd, gNeg, gDiv, gMod, gPow, DL.gSub, gAbs, gInt, gEq, gNe, gRng1, kwR, gmInsert, gmExtend, gmAppend, gmSet, ixR, DL.isNon, ixN, atI, lstD, seqD, gIsN, gNotN, forE_1, a_L_checked_machine_1, e]
      · obtain ⟨x, ex⟩ := i2 p' h
        refine ⟨x, ?_⟩
        rw [← ex, List.map_cons, rd_eq]
        simp (config := {decide := true, implicitDefEqProofs := false}) [r_fn, parOk, frzAt, outsD, List.range_succ, DL.gTup, DL.gLst, gGcd, gNeg, gDiv, gMod, gPow, DL.gSub, gAbs, gInt, gEq, gNe, gRng1, kwR, gmInsert, gmExtend, gmAppend, gmSet, ixR, DL.isNon, ixN, atI, lstD, seqD, gIsN, gNotN, forE_1, a_L_checked_machine_1, e]
    | false =>
      have e := chk_f hp
      have hf : ((r :: rs).map Road.nu).find? (fun p => !okN p) = some r.nu := by rw [List.map_cons, List.find?_cons]; simp [hp]
      rw [hf]
      refine ⟨fun h => (by cases h), fun p' h => ?_⟩
      cases h
      refine ⟨some (rdD r), ?_⟩
      rw [List.map_cons, rd_eq]
      simp (config := {decide := true, implicitDefEqProofs := false}) [r_fn, parOk, frzAt, outsD, List.range_succ, DL.gTup, DL.gLst, gGcd, gNeg, gDiv, gMod, gPow, DL.gSub, gAbs, gInt, gEq, gNe, gRng1, kwR, gmInsert, gmExtend, gmAppend, gmSet, ixR, DL.isNon, ixN, atI, lstD, seqD, gIsN, gNotN, forE_1, a_L_checked_machine_1, e]
theorem sgs_loop (s : D) (hs : s.sh = true) (hf : frz s = s) : ∀ (zs last : List Nat) (x : Option D), (okG last zs = true → ∃ l x', forE (tgN [] 2) L_checked_signs_0 ((sg zs).map sD) [some s, some (sD last), x] = some (.nx [some s, some (sD l), x'])) ∧
    (okG last zs = false → ∃ l x', forE (tgN [] 2) L_checked_signs_0 ((sg zs).map sD) [some s, some (sD last), x] = some (.exc (.exc 2 s) [some s, some (sD l), x']))
  | [], last, x => ⟨fun _ => ⟨last, x, rfl⟩, fun h => by cases h⟩
  | c :: zs, last, x => by
    obtain ⟨i1, i2⟩ := sgs_loop s hs hf zs [c] (some (sD [c]))
    have es : (sg (c :: zs)).map sD = sD [c] :: (sg zs).map sD := rfl
    rw [es]
    by_cases m1 : c ∈ abc
    · by_cases m2 : last < [c]
      · have eo : okG last (c :: zs) = okG [c] zs := by
          show ((decide (c ∈ abc) && decide (last < [c])) && okG [c] zs) = _
          rw [decide_eq_true m1, decide_eq_true m2]
          rfl
        rw [eo]
        refine ⟨fun h => ?_, fun h => ?_⟩
        · obtain ⟨l, x', ex⟩ := i1 h
          refine ⟨l, x', ?_⟩
          rw [← ex]
          simp (config := {decide := true, implicitDefEqProofs := false}) [r_fn, parOk, frzAt, outsD, List.range_succ, DL.gTup, DL.gLst, gGcd, gNeg, gDiv, gMod, gPow, DL.gSub, gAbs, gInt, gEq, gNe, gRng1, kwR, gmInsert, gmExtend, gmAppend, gmSet, ixR, DL.isNon, ixN, atI, lstD, seqD, gIsN, gNotN, forE_1, a_L_checked_signs_0, m1, m2]
        · obtain ⟨l, x', ex⟩ := i2 h
          refine ⟨l, x', ?_⟩
          rw [← ex]
          simp (config := {decide := true, implicitDefEqProofs := false}) [r_fn, parOk, frzAt, outsD, List.range_succ, DL.gTup, DL.gLst, gGcd, gNeg, gDiv, gMod, gPow, DL.gSub, gAbs, gInt, gEq, gNe, gRng1, kwR, gmInsert, gmExtend, gmAppend, gmSet, ixR, DL.isNon, ixN, atI, lstD, seqD, gIsN, gNotN, forE_1, a_L_checked_signs_0, m1, m2]
      · have eo : okG last (c :: zs) = false := by
          show ((decide (c ∈ abc) && decide (last < [c])) && okG [c] zs) = _
          rw [decide_eq_false m2, Bool.and_false]
          rfl
        rw [eo]
        refine ⟨fun h => (by cases h), fun _ => ⟨last, some (sD [c]), ?_⟩⟩
        simp (config := {decide := true, implicitDefEqProofs := false}) [r_fn, parOk, frzAt, outsD, List.range_succ, DL.gTup, DL.gLst, gGcd, gNeg, gDiv, gMod, gPow, DL.gSub, gAbs, gInt, gEq, gNe, gRng1, kwR, gmInsert, gmExtend, gmAppend, gmSet, ixR, DL.isNon, ixN, atI, lstD, seqD, gIsN, gNotN, forE_1, a_L_checked_signs_0, m1, m2, hs, hf]
    · have eo : okG last (c :: zs) = false := by
        show ((decide (c ∈ abc) && decide (last < [c])) && okG [c] zs) = _
        rw [decide_eq_false m1]
        rfl
      rw [eo]
      refine ⟨fun h => (by cases h), fun _ => ⟨last, some (sD [c]), ?_⟩⟩
      simp (config := {decide := true, implicitDefEqProofs := false}) [r_fn, parOk, frzAt, outsD, List.range_succ, DL.gTup, DL.gLst, gGcd, gNeg, gDiv, gMod, gPow, DL.gSub, gAbs, gInt, gEq, gNe, gRng1, kwR, gmInsert, gmExtend, gmAppend, gmSet, ixR, DL.isNon, ixN, atI, lstD, seqD, gIsN, gNotN, forE_1, a_L_checked_signs_0, m1, hs, hf]
theorem sgs_t {z : List Nat} (h : okG [] z = true) (hn : z ≠ []) : m_checked_signs [sD z] = some (.ok .non [sD z]) := by
  obtain ⟨l, x, e⟩ := (sgs_loop (sD z) rfl rfl z [] none).1 h
  simp (config := {decide := true, implicitDefEqProofs := false}) [r_fn, parOk, frzAt, outsD, List.range_succ, DL.gTup, DL.gLst, gGcd, gNeg, gDiv, gMod, gPow, DL.gSub, gAbs, gInt, gEq, gNe, gRng1, kwR, gmInsert, gmExtend, gmAppend, gmSet, ixR, DL.isNon, ixN, atI, lstD, seqD, gIsN, gNotN, m_checked_signs, f_checked_signs, e, hn]
theorem sgs_f {z : List Nat} (h : okG [] z = false ∨ z = []) : m_checked_signs [sD z] = some (.exc (.exc 2 (sD z)) [sD z]) := by
  rcases h with h | rfl
  · obtain ⟨l, x, e⟩ := (sgs_loop (sD z) rfl rfl z [] none).2 h
    simp (config := {decide := true, implicitDefEqProofs := false}) [r_fn, parOk, frzAt, outsD, List.range_succ, DL.gTup, DL.gLst, gGcd, gNeg, gDiv, gMod, gPow, DL.gSub, gAbs, gInt, gEq, gNe, gRng1, kwR, gmInsert, gmExtend, gmAppend, gmSet, ixR, DL.isNon, ixN, atI, lstD, seqD, gIsN, gNotN, m_checked_signs, f_checked_signs, e]
  · have e : (sg ([] : List Nat)).map sD = [] := rfl
    simp (config := {decide := true, implicitDefEqProofs := false}) [r_fn, parOk, frzAt, outsD, List.range_succ, DL.gTup, DL.gLst, gGcd, gNeg, gDiv, gMod, gPow, DL.gSub, gAbs, gInt, gEq, gNe, gRng1, kwR, gmInsert, gmExtend, gmAppend, gmSet, ixR, DL.isNon, ixN, atI, lstD, seqD, gIsN, gNotN, m_checked_signs, f_checked_signs, e, forE_0]
theorem sgn_ok {z s : List Nat} (hl : s.length ≤ 16777216) : (okI z s = true → m_checked_sign [sD s, sD z] = some (.ok .non [sD s, sD z])) ∧ (okI z s = false → m_checked_sign [sD s, sD z] = some (.exc (.exc 3 (sD s)) [sD s, sD z])) := by
  match s, hl with
  | [], hl => exact ⟨fun h => (by cases h), fun _ => by simp (config := {decide := true, implicitDefEqProofs := false}) [r_fn, parOk, frzAt, outsD, List.range_succ, DL.gTup, DL.gLst, gGcd, gNeg, gDiv, gMod, gPow, DL.gSub, gAbs, gInt, gEq, gNe, gRng1, kwR, gmInsert, gmExtend, gmAppend, gmSet, ixR, DL.isNon, ixN, atI, lstD, seqD, gIsN, gNotN, m_checked_sign, f_checked_sign]⟩
  | [c], hl =>
    refine ⟨fun h => ?_, fun h => ?_⟩
    · have hc : c ∈ z := of_decide_eq_true h
      simp (config := {decide := true, implicitDefEqProofs := false}) [r_fn, parOk, frzAt, outsD, List.range_succ, DL.gTup, DL.gLst, gGcd, gNeg, gDiv, gMod, gPow, DL.gSub, gAbs, gInt, gEq, gNe, gRng1, kwR, gmInsert, gmExtend, gmAppend, gmSet, ixR, DL.isNon, ixN, atI, lstD, seqD, gIsN, gNotN, m_checked_sign, f_checked_sign, hc]
    · have hc : ¬ c ∈ z := of_decide_eq_false h
      simp (config := {decide := true, implicitDefEqProofs := false}) [r_fn, parOk, frzAt, outsD, List.range_succ, DL.gTup, DL.gLst, gGcd, gNeg, gDiv, gMod, gPow, DL.gSub, gAbs, gInt, gEq, gNe, gRng1, kwR, gmInsert, gmExtend, gmAppend, gmSet, ixR, DL.isNon, ixN, atI, lstD, seqD, gIsN, gNotN, m_checked_sign, f_checked_sign, hc]
  | c :: d :: r, hl =>
    refine ⟨fun h => (by cases h), fun _ => ?_⟩
    have h1 : ¬ ((c :: d :: r).length : Int) = 1 := by simp; omega
    have h2 : ¬ ((r.length : Int) + 1 + 1 = 1) := by omega
    have h3 : ¬ ((r.length : Int) + 2 = 1) := by omega
    have h4 : r.length + 1 + 1 ≤ 16777216 := by simpa using hl
    simp (config := {decide := true, implicitDefEqProofs := false}) [r_fn, parOk, frzAt, outsD, List.range_succ, DL.gTup, DL.gLst, gGcd, gNeg, gDiv, gMod, gPow, DL.gSub, gAbs, gInt, gEq, gNe, gRng1, kwR, gmInsert, gmExtend, gmAppend, gmSet, ixR, DL.isNon, ixN, atI, lstD, seqD, gIsN, gNotN, m_checked_sign, f_checked_sign, h2, h3, h4]
theorem rds_loop {z : List Nat} {b a2 a3 : Option D} {bs : List Nm} {x4 : Option D} : ∀ (rs : List Road) (x5 : Option D), (∀ r ∈ rs, r.sg.length ≤ 16777216) →
    (rs.findSome? (roadE z bs.length) = none → ∃ x, forE (tgN [] 5) L_checked_machine_3 (rs.map rdD) [some (sD z), some (.lst (bs.map nuD)), a2, a3, x4, x5] = some (.nx [some (sD z), some (.lst (bs.map nuD)), a2, a3, x4, x])) ∧
    ∀ e, rs.findSome? (roadE z bs.length) = some e → ∃ x, forE (tgN [] 5) L_checked_machine_3 (rs.map rdD) [some (sD z), some (.lst (bs.map nuD)), a2, a3, x4, x5] = some (.exc (excD e) [some (sD z), some (.lst (bs.map nuD)), a2, a3, x4, x])
  | [], x5, hl => ⟨fun _ => ⟨x5, rfl⟩, fun p h => by cases h⟩
  | r :: rs, x5, hl => by
    obtain ⟨i1, i2⟩ := rds_loop (z := z) (b := b) (a2 := a2) (a3 := a3) (bs := bs) (x4 := x4) rs (some (rdD r)) fun r h => hl r (by simp [h])
    obtain ⟨g1, g2⟩ := sgn_ok (z := z) (hl r (by simp))
    rw [List.findSome?_cons]
    have dec : ∀ {n : Nat} {i : Int}, okP n i = true → 0 ≤ i ∧ i < n := fun h => by unfold okP at h; simpa using h
    have ndec : ∀ {n : Nat} {i : Int}, okP n i = false → ¬ 0 ≤ i ∨ ¬ i < n := fun h => by unfold okP at h; simp at h; omega
    cases h1 : okP bs.length r.st with
    | false =>
      have er : roadE z bs.length r = some (.mc r) := by unfold roadE; rw [if_pos h1]
      rw [er]
      refine ⟨fun h => (by cases h), fun e h => ?_⟩
      cases h
      refine ⟨some (rdD r), ?_⟩
      show _ = some (SOut.exc (.exc 4 (rdD r)) _)
      rw [List.map_cons, rd_eq]
      by_cases c0 : 0 ≤ r.st
      · have c1 : ¬ r.st < bs.length := by rcases ndec h1 with h | h; exact absurd c0 h; exact h
        simp (config := {decide := true, implicitDefEqProofs := false}) [r_fn, parOk, frzAt, outsD, List.range_succ, DL.gTup, DL.gLst, gGcd, gNeg, gDiv, gMod, gPow, DL.gSub, gAbs, gInt, gEq, gNe, gRng1, kwR, gmInsert, gmExtend, gmAppend, gmSet, ixR, DL.isNon, ixN, atI, lstD, seqD, gIsN, gNotN, forE_1, a_L_checked_machine_3, evChain, chR, chK, c0, c1]
      · simp (config := {decide := true, implicitDefEqProofs := false}) [r_fn, parOk, frzAt, outsD, List.range_succ, DL.gTup, DL.gLst, gGcd, gNeg, gDiv, gMod, gPow, DL.gSub, gAbs, gInt, gEq, gNe, gRng1, kwR, gmInsert, gmExtend, gmAppend, gmSet, ixR, DL.isNon, ixN, atI, lstD, seqD, gIsN, gNotN, forE_1, a_L_checked_machine_3, evChain, chR, chK, c0]
    | true =>
      obtain ⟨c0, c1⟩ := dec h1
      cases h2 : okI z r.sg with
      | false =>
        have er : roadE z bs.length r = some (.si r.sg) := by unfold roadE; rw [if_neg (by rw [h1]; decide), if_pos h2]
        rw [er]
        have e2 := g2 h2
        refine ⟨fun h => (by cases h), fun e h => ?_⟩
        cases h
        refine ⟨some (rdD r), ?_⟩
        show _ = some (SOut.exc (.exc 3 (sD r.sg)) _)
        rw [List.map_cons, rd_eq]
        simp (config := {decide := true, implicitDefEqProofs := false}) [r_fn, parOk, frzAt, outsD, List.range_succ, DL.gTup, DL.gLst, gGcd, gNeg, gDiv, gMod, gPow, DL.gSub, gAbs, gInt, gEq, gNe, gRng1, kwR, gmInsert, gmExtend, gmAppend, gmSet, ixR, DL.isNon, ixN, atI, lstD, seqD, gIsN, gNotN, forE_1, a_L_checked_machine_3, evChain, chR, chK, c0, c1, e2]
      | true =>
        have e2 := g1 h2
        cases h3 : okP bs.length r.bh with
        | false =>
          have er : roadE z bs.length r = some (.mc r) := by unfold roadE; rw [if_neg (by rw [h1]; decide), if_neg (by rw [h2]; decide), if_pos h3]
          rw [er]
          refine ⟨fun h => (by cases h), fun e h => ?_⟩
          cases h
          refine ⟨some (rdD r), ?_⟩
          show _ = some (SOut.exc (.exc 4 (rdD r)) _)
          rw [List.map_cons, rd_eq]
          by_cases c2 : 0 ≤ r.bh
          · have c3 : ¬ r.bh < bs.length := by rcases ndec h3 with h | h; exact absurd c2 h; exact h
            simp (config := {decide := true, implicitDefEqProofs := false}) [r_fn, parOk, frzAt, outsD, List.range_succ, DL.gTup, DL.gLst, gGcd, gNeg, gDiv, gMod, gPow, DL.gSub, gAbs, gInt, gEq, gNe, gRng1, kwR, gmInsert, gmExtend, gmAppend, gmSet, ixR, DL.isNon, ixN, atI, lstD, seqD, gIsN, gNotN, forE_1, a_L_checked_machine_3, evChain, chR, chK, c0, c1, e2, c2, c3]
          · simp (config := {decide := true, implicitDefEqProofs := false}) [r_fn, parOk, frzAt, outsD, List.range_succ, DL.gTup, DL.gLst, gGcd, gNeg, gDiv, gMod, gPow, DL.gSub, gAbs, gInt, gEq, gNe, gRng1, kwR, gmInsert, gmExtend, gmAppend, gmSet, ixR, DL.isNon, ixN, atI, lstD, seqD, gIsN, gNotN, forE_1, a_L_checked_machine_3, evChain, chR, chK, c0, c1, e2, c2]
        | true =>
          obtain ⟨c2, c3⟩ := dec h3
          have er : roadE z bs.length r = none := by unfold roadE; rw [if_neg (by rw [h1]; decide), if_neg (by rw [h2]; decide), if_neg (by rw [h3]; decide)]
          rw [er]
          refine ⟨fun h => ?_, fun e h => ?_⟩
          · obtain ⟨x, ex⟩ := i1 h
            refine ⟨x, ?_⟩
            rw [← ex, List.map_cons, rd_eq]
            simp (config := {decide := true, implicitDefEqProofs := false}) [r_fn, parOk, frzAt, outsD, List.range_succ, DL.gTup, DL.gLst, gGcd, gNeg, gDiv, gMod, gPow, DL.gSub, gAbs, gInt, gEq, gNe, gRng1, kwR, gmInsert, gmExtend, gmAppend, gmSet, ixR, DL.isNon, ixN, atI, lstD, seqD, gIsN, gNotN, forE_1, a_L_checked_machine_3, evChain, chR, chK, c0, c1, e2, c2, c3]
          · obtain ⟨x, ex⟩ := i2 e h
            refine ⟨x, ?_⟩
            rw [← ex, List.map_cons, rd_eq]
            simp (config := {decide := true, implicitDefEqProofs := false}) [r_fn, parOk, frzAt, outsD, List.range_succ, DL.gTup, DL.gLst, gGcd, gNeg, gDiv, gMod, gPow, DL.gSub, gAbs, gInt, gEq, gNe, gRng1, kwR, gmInsert, gmExtend, gmAppend, gmSet, ixR, DL.isNon, ixN, atI, lstD, seqD, gIsN, gNotN, forE_1, a_L_checked_machine_3, evChain, chR, chK, c0, c1, e2, c2, c3]
theorem find_app {α : Type} {p : α → Bool} {xs ys : List α} : (xs ++ ys).find? p = match xs.find? p with
    | some x => some x
    | none => ys.find? p := by
  rw [List.find?_append]
  cases xs.find? p <;> rfl
theorem cm_ok {M : Mc} (hs : ∀ r ∈ M.r, r.sg.length ≤ 16777216) : m_checked_machine [sD M.z, .lst (M.b.map nuD), .lst (M.r.map rdD), .lst (M.e.map nuD)] = match due M with
    | none => some (.ok .non [sD M.z, .lst (M.b.map nuD), .lst (M.r.map rdD), .lst (M.e.map nuD)])
    | some e => some (.exc (excD e) [sD M.z, .lst (M.b.map nuD), .lst (M.r.map rdD), .lst (M.e.map nuD)]) := by
  obtain ⟨z, b, r, e⟩ := M
  dsimp only at hs ⊢
  by_cases hz : okG [] z = false ∨ z = []
  · have ed : due ⟨z, b, r, e⟩ = some (.sg z) := by unfold due; rw [if_pos hz]
    have e1 := sgs_f hz
    rw [ed]
    show _ = some (FOut.exc (.exc 2 (sD z)) _)
    simp (config := {decide := true, implicitDefEqProofs := false}) [r_fn, parOk, frzAt, outsD, List.range_succ, DL.gTup, DL.gLst, gGcd, gNeg, gDiv, gMod, gPow, DL.gSub, gAbs, gInt, gEq, gNe, gRng1, kwR, gmInsert, gmExtend, gmAppend, gmSet, ixR, DL.isNon, ixN, atI, lstD, seqD, gIsN, gNotN, m_checked_machine, f_checked_machine, e1]
  · have e1 := sgs_t (z := z) (by
      cases h : okG [] z with
      | true => rfl
      | false => exact absurd (.inl h) hz) (fun h => hz (.inr h))
    have ed : due ⟨z, b, r, e⟩ = match (b ++ r.map Road.nu ++ e).find? (fun p => !okN p) with
      | some p => some (.nu p)
      | none => match r.findSome? (roadE z b.length) with
        | some x => some x
        | none => if b.length = e.length then none else some (.en e) := by unfold due; rw [if_neg hz]
    rw [ed, find_app, find_app]
    obtain ⟨f1, g1⟩ := nums_0 (a0 := some (sD z)) (a1 := some (.lst (b.map nuD))) (a2 := some (.lst (r.map rdD))) (a3 := some (.lst (e.map nuD))) (x5 := none) b none
    cases h1 : b.find? (fun p => !okN p) with
    | some p =>
      obtain ⟨x, ex⟩ := g1 p h1
      show _ = some (FOut.exc (.exc 1 (nuD p)) _)
      simp (config := {decide := true, implicitDefEqProofs := false}) [r_fn, parOk, frzAt, outsD, List.range_succ, DL.gTup, DL.gLst, gGcd, gNeg, gDiv, gMod, gPow, DL.gSub, gAbs, gInt, gEq, gNe, gRng1, kwR, gmInsert, gmExtend, gmAppend, gmSet, ixR, DL.isNon, ixN, atI, lstD, seqD, gIsN, gNotN, m_checked_machine, f_checked_machine, e1, ex]
    | none =>
      obtain ⟨x, ex⟩ := f1 h1
      obtain ⟨f2, g2⟩ := nums_1 (a0 := some (sD z)) (a1 := some (.lst (b.map nuD))) (a2 := some (.lst (r.map rdD))) (a3 := some (.lst (e.map nuD))) (x4 := x) r none
      cases h2 : (r.map Road.nu).find? (fun p => !okN p) with
      | some p =>
        obtain ⟨y, ey⟩ := g2 p h2
        show _ = some (FOut.exc (.exc 1 (nuD p)) _)
        simp (config := {decide := true, implicitDefEqProofs := false}) [r_fn, parOk, frzAt, outsD, List.range_succ, DL.gTup, DL.gLst, gGcd, gNeg, gDiv, gMod, gPow, DL.gSub, gAbs, gInt, gEq, gNe, gRng1, kwR, gmInsert, gmExtend, gmAppend, gmSet, ixR, DL.isNon, ixN, atI, lstD, seqD, gIsN, gNotN, m_checked_machine, f_checked_machine, e1, ex, ey]
      | none =>
        obtain ⟨y, ey⟩ := f2 h2
        obtain ⟨f3, g3⟩ := nums_2 (a0 := some (sD z)) (a1 := some (.lst (b.map nuD))) (a2 := some (.lst (r.map rdD))) (a3 := some (.lst (e.map nuD))) (x5 := y) e x
        cases h3 : e.find? (fun p => !okN p) with
        | some p =>
          obtain ⟨w, ew⟩ := g3 p h3
          show _ = some (FOut.exc (.exc 1 (nuD p)) _)
          simp (config := {decide := true, implicitDefEqProofs := false}) [r_fn, parOk, frzAt, outsD, List.range_succ, DL.gTup, DL.gLst, gGcd, gNeg, gDiv, gMod, gPow, DL.gSub, gAbs, gInt, gEq, gNe, gRng1, kwR, gmInsert, gmExtend, gmAppend, gmSet, ixR, DL.isNon, ixN, atI, lstD, seqD, gIsN, gNotN, m_checked_machine, f_checked_machine, e1, ex, ey, ew]
        | none =>
          obtain ⟨w, ew⟩ := f3 h3
          obtain ⟨f4, g4⟩ := rds_loop (z := z) (b := none) (a2 := some (.lst (r.map rdD))) (a3 := some (.lst (e.map nuD))) (bs := b) (x4 := w) r y hs
          cases h4 : r.findSome? (roadE z b.length) with
          | some er =>
            obtain ⟨v, ev⟩ := g4 er h4
            show _ = some (FOut.exc (excD er) _)
            generalize excD er = E at ev ⊢
            simp (config := {decide := true, implicitDefEqProofs := false}) [r_fn, parOk, frzAt, outsD, List.range_succ, DL.gTup, DL.gLst, gGcd, gNeg, gDiv, gMod, gPow, DL.gSub, gAbs, gInt, gEq, gNe, gRng1, kwR, gmInsert, gmExtend, gmAppend, gmSet, ixR, DL.isNon, ixN, atI, lstD, seqD, gIsN, gNotN, m_checked_machine, f_checked_machine, e1, ex, ey, ew, ev]
          | none =>
            obtain ⟨v, ev⟩ := f4 h4
            by_cases hl : b.length = e.length
            · show _ = (match (if b.length = e.length then none else some (Er.en e)) with | none => _ | some e => _)
              rw [if_pos hl]
              have hl' : ((b.length : Int) = e.length) := by omega
              simp (config := {decide := true, implicitDefEqProofs := false}) [r_fn, parOk, frzAt, outsD, List.range_succ, DL.gTup, DL.gLst, gGcd, gNeg, gDiv, gMod, gPow, DL.gSub, gAbs, gInt, gEq, gNe, gRng1, kwR, gmInsert, gmExtend, gmAppend, gmSet, ixR, DL.isNon, ixN, atI, lstD, seqD, gIsN, gNotN, m_checked_machine, f_checked_machine, e1, ex, ey, ew, ev, hl']
            · show _ = (match (if b.length = e.length then none else some (Er.en e)) with | none => _ | some e => _)
              rw [if_neg hl]
              show _ = some (FOut.exc (.exc 4 (.lst (e.map nuD))) _)
              have hl' : ¬ ((b.length : Int) = e.length) := by omega
              simp (config := {decide := true, implicitDefEqProofs := false}) [r_fn, parOk, frzAt, outsD, List.range_succ, DL.gTup, DL.gLst, gGcd, gNeg, gDiv, gMod, gPow, DL.gSub, gAbs, gInt, gEq, gNe, gRng1, kwR, gmInsert, gmExtend, gmAppend, gmSet, ixR, DL.isNon, ixN, atI, lstD, seqD, gIsN, gNotN, m_checked_machine, f_checked_machine, e1, ex, ey, ew, ev, hl, hl']
theorem okG_of : ∀ (z last : List Nat), (∀ c ∈ z, c ∈ abc) → z.Pairwise (· < ·) → (last = [] ∨ ∃ l, last = [l] ∧ ∀ c ∈ z, l < c) → okG last z = true
  | [], last, h1, h2, h3 => rfl
  | c :: zs, last, h1, h2, h3 => by
    obtain ⟨p1, p2⟩ := List.pairwise_cons.mp h2
    have m1 : c ∈ abc := h1 c (by simp)
    have m2 : last < [c] := by
      rcases h3 with rfl | ⟨l, rfl, h⟩
      · exact List.nil_lt_cons c []
      · exact List.Lex.rel (h c (by simp))
    show ((decide (c ∈ abc) && decide (last < [c])) && okG [c] zs) = true
    rw [decide_eq_true m1, decide_eq_true m2, okG_of zs [c] (fun d hd => h1 d (by simp [hd])) p2 (.inr ⟨c, rfl, p1⟩)]
    rfl
theorem NG.okN {g : Int} {p : Nm} (h : NG g p) : okN p = true := by
  unfold K04.okN
  rw [decide_eq_true h.pos, decide_eq_true h.low]
  rfl
theorem due_none {g : Int} {most : Nat} {M : Mc} (h : MV g most M) (h1 : ∀ c ∈ M.z, c ∈ abc) (h2 : M.z.Pairwise (· < ·)) : due M = none := by
  have hz : ¬ (okG [] M.z = false ∨ M.z = []) := by
    intro e
    rcases e with e | e
    · rw [okG_of M.z [] h1 h2 (.inl rfl)] at e
      cases e
    · have := h.z1
      rw [e] at this
      simp at this
  have hn : (M.b ++ M.r.map Road.nu ++ M.e).find? (fun p => !okN p) = none := by
    refine List.find?_eq_none.mpr fun p hp => ?_
    have : okN p = true := by
      rcases List.mem_append.mp hp with hp | hp
      · rcases List.mem_append.mp hp with hp | hp
        · exact (h.b p hp).okN
        · obtain ⟨r, hr, rfl⟩ := List.mem_map.mp hp
          exact (h.r r hr).nu.okN
      · exact (h.e p hp).okN
    rw [this]
    decide
  have hr : M.r.findSome? (roadE M.z M.b.length) = none := by
    refine List.findSome?_eq_none_iff.mpr fun r hr => ?_
    have v := h.r r hr
    obtain ⟨c, hc, es⟩ := v.sg
    unfold roadE
    have o1 : okP M.b.length r.st = true := by unfold okP; rw [decide_eq_true v.s0, decide_eq_true v.s1]; rfl
    have o2 : okP M.b.length r.bh = true := by unfold okP; rw [decide_eq_true v.b0, decide_eq_true v.b1]; rfl
    have o3 : okI M.z r.sg = true := by rw [es]; exact decide_eq_true hc
    rw [o1, o2, o3]
    first | rfl | done
  unfold due
  rw [if_neg hz, hn]
  dsimp only
  rw [hr]
  dsimp only
  rw [if_pos h.el.symm]
end K04

namespace K04
open PySem PySem.Spec PyProof.Rows L2 DL

/-! ### rows, scaled: nothing of the program -/
abbrev Nm' := Int × Int
structure Rd' where
  st : Nat
  sg : Nat
  bh : Nat
  nu : Nm'
def lcmF (b : Nat) (ds : List Nat) : Nat := ds.foldl Nat.lcm b
theorem lcmF_dvd (ds : List Nat) : ∀ b, b ∣ lcmF b ds ∧ ∀ d ∈ ds, d ∣ lcmF b ds := by
  induction ds with
  | nil => intro b; exact ⟨Nat.dvd_refl b, fun d h => by cases h⟩
  | cons d ds ih =>
    intro b
    obtain ⟨h1, h2⟩ := ih (Nat.lcm b d)
    refine ⟨Nat.dvd_trans (Nat.dvd_lcm_left b d) h1, fun e he => ?_⟩
    rcases List.mem_cons.mp he with rfl | he
    · exact Nat.dvd_trans (Nat.dvd_lcm_right b _) h1
    · exact h2 e he
theorem lcmF_pos (ds : List Nat) : ∀ b, 0 < b → (∀ d ∈ ds, 0 < d) → 0 < lcmF b ds := by
  induction ds with
  | nil => intro b h _; exact h
  | cons d ds ih => intro b h h2; exact ih _ (Nat.lcm_pos h (h2 d (by simp))) fun e he => h2 e (by simp [he])
/-- the law's way: found // gcd(found, below) * below -/
theorem lcm_way (a b : Nat) : a / Nat.gcd a b * b = Nat.lcm a b := by
  unfold Nat.lcm
  exact (Nat.div_mul_right_comm (Nat.gcd_dvd_left a b) b).symm ▸ rfl
def scl (B : Int) (p : Nm') : Int := p.1 * B.fdiv p.2
theorem scl_mul {B C : Int} {p : Nm'} (hp : p.2 ≠ 0) (h1 : p.2 ∣ B) (h2 : p.2 ∣ C) : scl B p * C = scl C p * B := by
  obtain ⟨x, rfl⟩ := h1
  obtain ⟨y, rfl⟩ := h2
  unfold scl
  rw [Int.mul_fdiv_cancel_left _ hp, Int.mul_fdiv_cancel_left _ hp]
  calc p.1 * x * (p.2 * y) = p.1 * x * p.2 * y := by rw [Int.mul_assoc (p.1 * x)]
    _ = p.1 * y * (p.2 * x) := by
      rw [Int.mul_assoc p.1 x p.2, Int.mul_comm x p.2, Int.mul_assoc p.1, Int.mul_assoc p.1, Int.mul_comm (p.2 * x) y]
/-- one road's share in the row behind -/
def addR (B : Int) (row : List Int) (acc : List Int) (r : Rd') : List Int := acc.set r.bh (acc.getD r.bh 0 + row.getD r.st 0 * scl B r.nu)
def stepF (rs : List Rd') (B : Int) (c : Nat) (row : List Int) : List Int := (rs.filter fun r => r.sg == c).foldl (addR B row) (List.replicate row.length 0)
/-- xs times a is ys times b, place by place -/
def Rel (a b : Int) (xs ys : List Int) : Prop := xs.map (· * a) = ys.map (· * b)
theorem Rel.len {a b : Int} {xs ys : List Int} (h : Rel a b xs ys) : xs.length = ys.length := by
  have := congrArg List.length h
  simpa using this
theorem Rel.at {a b : Int} {xs ys : List Int} (h : Rel a b xs ys) (i : Nat) : xs.getD i 0 * a = ys.getD i 0 * b := by
  have e := congrArg (fun l => l[i]?) h
  simp only [List.getElem?_map] at e
  rw [List.getD_eq_getElem?_getD, List.getD_eq_getElem?_getD]
  cases h1 : xs[i]? with
  | none =>
    rw [h1] at e
    cases h2 : ys[i]? with
    | none => simp
    | some y => rw [h2] at e; cases e
  | some x =>
    rw [h1] at e
    cases h2 : ys[i]? with
    | none => rw [h2] at e; cases e
    | some y =>
      rw [h2] at e
      injection e
theorem Rel.set {a b : Int} {xs ys : List Int} (h : Rel a b xs ys) (i : Nat) {v w : Int} (e : v * a = w * b) : Rel a b (xs.set i v) (ys.set i w) := by
  unfold Rel at h ⊢
  rw [List.map_set, List.map_set, h, e]
theorem fold_rel {a b B C : Int} {row row' : List Int} (hr : Rel a b row row') : ∀ (rs : List Rd') {acc acc' : List Int}, (∀ r ∈ rs, r.nu.2 ≠ 0 ∧ r.nu.2 ∣ B ∧ r.nu.2 ∣ C) → Rel (a * C) (b * B) acc acc' → Rel (a * C) (b * B) (rs.foldl (addR B row) acc) (rs.foldl (addR C row') acc')
  | [], acc, acc', _, h => h
  | r :: rs, acc, acc', hd, h => by
    obtain ⟨h0, h1, h2⟩ := hd r (by simp)
    refine fold_rel hr rs (fun r h => hd r (by simp [h])) ?_
    refine h.set _ ?_
    have e1 := h.at r.bh
    have e2 := hr.at r.st
    have e3 := scl_mul h0 h1 h2
    rw [Int.add_mul, Int.add_mul, e1]
    refine congrArg (acc'.getD r.bh 0 * (b * B) + ·) ?_
    calc row.getD r.st 0 * scl B r.nu * (a * C) = row.getD r.st 0 * a * (scl B r.nu * C) := by
          rw [Int.mul_assoc, Int.mul_assoc, ← Int.mul_assoc (scl B r.nu), Int.mul_comm (scl B r.nu) a, Int.mul_assoc a]
      _ = row'.getD r.st 0 * b * (scl C r.nu * B) := by rw [e2, e3]
      _ = row'.getD r.st 0 * scl C r.nu * (b * B) := by
          rw [Int.mul_assoc, Int.mul_assoc, ← Int.mul_assoc b, Int.mul_comm b (scl C r.nu), Int.mul_assoc (scl C r.nu)]
theorem step_rel {a b B C : Int} {row row' : List Int} {rs : List Rd'} {c : Nat} (hr : Rel a b row row') (hd : ∀ r ∈ rs, r.sg = c → r.nu.2 ≠ 0 ∧ r.nu.2 ∣ B ∧ r.nu.2 ∣ C) : Rel (a * C) (b * B) (stepF rs B c row) (stepF rs C c row') := by
  unfold stepF
  refine fold_rel hr _ (fun r h => ?_) ?_
  · obtain ⟨h1, h2⟩ := List.mem_filter.mp h
    exact hd r h1 (by simpa using h2)
  · unfold Rel
    rw [List.map_replicate, List.map_replicate, hr.len]
    simp
/-- the sum with the ends -/
def dot (xs ys : List Int) : Int := ((xs.zip ys).map fun p => p.1 * p.2).sum
theorem dot_rel {a b : Int} : ∀ {xs ys es : List Int}, Rel a b xs ys → dot xs es * a = dot ys es * b
  | [], [], es, _ => by simp [dot]
  | [], y :: ys, es, h => by cases h
  | x :: xs, [], es, h => by cases h
  | x :: xs, y :: ys, [], h => by simp [dot]
  | x :: xs, y :: ys, e :: es, h => by
    unfold Rel at h
    injection h with h1 h2
    have ih := dot_rel (es := es) (show Rel a b xs ys from h2)
    unfold dot at ih ⊢
    simp only [List.zip_cons_cons, List.map_cons, List.sum_cons]
    rw [Int.add_mul, Int.add_mul, ih]
    refine congrArg (· + _) ?_
    have h1 : x * a = y * b := h1
    rw [Int.mul_assoc, Int.mul_comm e a, ← Int.mul_assoc, h1, Int.mul_assoc, Int.mul_comm b e, ← Int.mul_assoc]
/-- a worth in lowest terms answers as the law wants -/
theorem worth_eq {aL aP bL bP c u v : Int} (hc : c ≠ 0) (hu : u * c = aP) (hv : v * c = bP) (h : aL * bP = aP * bL) : u * bL = aL * v := by
  have : u * bL * c = aL * v * c := by
    rw [Int.mul_assoc u, Int.mul_comm bL c, ← Int.mul_assoc, hu, Int.mul_assoc aL, hv, h]
  exact Int.eq_of_mul_eq_mul_right hc this
end K04

namespace K04
open PySem PySem.Spec PyProof.Rows L2 DL

/-! ### steps, exactly -/
theorem lcm_lt {a b k : Nat} (ha : a < 2 ^ k) (hb : b < 2 ^ 40) (h0 : 1 ≤ b) : Nat.lcm a b < 2 ^ (k + 40) := by
  have h1 : Nat.lcm a b ≤ a * b := by
    unfold Nat.lcm
    exact Nat.div_le_self _ _
  have h2 : a * b < 2 ^ k * 2 ^ 40 := by
    calc a * b ≤ a * 2 ^ 40 := Nat.mul_le_mul_left a (Nat.le_of_lt hb)
      _ < 2 ^ k * 2 ^ 40 := Nat.mul_lt_mul_of_pos_right ha (by decide)
  rw [Nat.pow_add]
  omega
/-- a road that can be gone: numbers of its own are right -/
structure RG (n : Nat) (r : Road) : Prop where
  s0 : 0 ≤ r.st
  s1 : r.st < n
  b0 : 0 ≤ r.bh
  b1 : r.bh < n
  sg : ∃ c, r.sg = [c]
  p : 1 ≤ r.nu.2
  a : r.nu.1.natAbs ≤ 1000000000
  b : r.nu.2.natAbs ≤ 1000000000
def toR (r : Road) : Rd' := ⟨r.st.toNat, r.sg.headD 0, r.bh.toNat, r.nu⟩
def dens (rs : List Road) (c : Nat) : List Nat := (rs.filter fun r => r.sg == [c]).map fun r => r.nu.2.natAbs
theorem lcmF_cons (b d : Nat) (ds : List Nat) : lcmF b (d :: ds) = lcmF (Nat.lcm b d) ds := rfl
theorem steps0 {R : Option D} {c n : Nat} : ∀ (rs : List Road) (b k : Nat) (x : Option D), (∀ r ∈ rs, RG n r) → 1 ≤ b → b < 2 ^ (40 * k + 1) → k + rs.length ≤ 24 →
    ∃ (x' : Option D), forE (tgN [] 3) L_steps_of_0 (rs.map rdD) [R, some (sD [c]), some (.int (b : Int)), x, none, none, none, none, none] = some (.nx [R, some (sD [c]), some (.int ((lcmF b (dens rs c) : Nat) : Int)), x', none, none, none, none, none]) ∧ 1 ≤ lcmF b (dens rs c) ∧ lcmF b (dens rs c) < 2 ^ 961
  | [], b, k, x, hr, h1, h2, hk => ⟨x, rfl, h1, Nat.lt_of_lt_of_le h2 (Nat.pow_le_pow_right (by decide) (by simp at hk; omega))⟩
  | r :: rs, b, k, x, hr, h1, h2, hk => by
    rw [List.length_cons] at hk
    have hp := (hr r (by simp)).p
    have hn := (hr r (by simp)).b
    have hb40 : r.nu.2.natAbs < 2 ^ 40 := by
      have : (1000000000 : Nat) < 2 ^ 40 := by decide
      omega
    by_cases hs : r.sg = [c]
    · have g1 : lg (b : Int) < 6000 := by
        have := lg_le (i := (b : Int)) (k := 40 * k) (by rw [Int.natAbs_natCast]; exact h2)
        omega
      have g2 : lg r.nu.2 < 6000 := by
        have := lg_le (i := r.nu.2) (k := 40) (by omega)
        omega
      have eg : gLcm [.int (b : Int), .int r.nu.2] = some (.int ((Nat.lcm b r.nu.2.natAbs : Nat) : Int)) := by
        show (if lg (b : Int) < 6000 ∧ lg r.nu.2 < 6000 then some (D.int (lcmI b r.nu.2)) else none) = _
        rw [if_pos ⟨g1, g2⟩]
        unfold lcmI
        rw [Int.natAbs_natCast]
      have hl := lcm_lt (a := b) (b := r.nu.2.natAbs) h2 hb40 (by omega)
      have ed : dens (r :: rs) c = r.nu.2.natAbs :: dens rs c := by unfold dens; rw [List.filter_cons_of_pos (by simp [hs]), List.map_cons]
      rw [ed, lcmF_cons]
      obtain ⟨x', e, p1, p2⟩ := steps0 (R := R) (c := c) rs (Nat.lcm b r.nu.2.natAbs) (k + 1) (some (rdD r)) (fun r h => hr r (by simp [h])) (Nat.lcm_pos (by omega) (by omega)) (by
        have : 40 * k + 1 + 40 = 40 * (k + 1) + 1 := by omega
        rw [← this]; exact hl) (by omega)
      refine ⟨x', ?_, p1, p2⟩
      rw [← e, List.map_cons, rd_eq]
      generalize Nat.lcm b r.nu.2.natAbs = L at eg ⊢
      have en : nuD r.nu = .tup [.int r.nu.1, .int r.nu.2] := rfl
      simp (config := {decide := true, implicitDefEqProofs := false}) [r_fn, parOk, frzAt, outsD, List.range_succ, DL.gTup, DL.gLst, gGcd, gNeg, gDiv, gMod, gPow, DL.gSub, gAbs, gInt, gEq, gNe, gRng1, kwR, gmInsert, gmExtend, gmAppend, gmSet, ixR, DL.isNon, ixN, atI, lstD, seqD, gIsN, gNotN, forE_1, a_L_steps_of_0, eg, en, hs]
    · have ed : dens (r :: rs) c = dens rs c := by unfold dens; rw [List.filter_cons_of_neg (by simp [hs])]
      rw [ed]
      obtain ⟨x', e, p1, p2⟩ := steps0 (R := R) (c := c) rs b (k + 1) (some (rdD r)) (fun r h => hr r (by simp [h])) h1 (Nat.lt_of_lt_of_le h2 (Nat.pow_le_pow_right (by decide) (by omega))) (by omega)
      refine ⟨x', ?_, p1, p2⟩
      rw [← e, List.map_cons, rd_eq]
      simp (config := {decide := true, implicitDefEqProofs := false}) [r_fn, parOk, frzAt, outsD, List.range_succ, DL.gTup, DL.gLst, gGcd, gNeg, gDiv, gMod, gPow, DL.gSub, gAbs, gInt, gEq, gNe, gRng1, kwR, gmInsert, gmExtend, gmAppend, gmSet, ixR, DL.isNon, ixN, atI, lstD, seqD, gIsN, gNotN, forE_1, a_L_steps_of_0, hs]
def stD (B : Int) (r : Road) : D := .tup [.int r.st, .int r.bh, .int (scl B r.nu)]
@[simp] theorem sh_st (B : Int) (r : Road) : (stD B r).sh = true := rfl
@[simp] theorem fz_st (B : Int) (r : Road) : frz (stD B r) = stD B r := rfl
@[simp] theorem fzL_st (B : Int) (rs : List Road) : frzL (rs.map (stD B)) = rs.map (stD B) := fzL_map (fz_st B)
@[simp] theorem allSh_st (B : Int) (rs : List Road) : allSh (rs.map (stD B)) = true := allSh_map (sh_st B)
def live (rs : List Road) (c : Nat) : List Road := rs.filter fun r => r.sg == [c] && r.nu.1 != 0
theorem fdiv_le {b : Nat} {d : Int} (h : 1 ≤ d) : ((b : Int).fdiv d).natAbs ≤ b := by
  rw [Int.fdiv_eq_ediv_of_nonneg _ (by omega)]
  have := Int.natAbs_ediv_le_natAbs (b : Int) d
  rwa [Int.natAbs_natCast] at this
theorem steps1 {R x3 : Option D} {c n : Nat} {b : Nat} (hb : b < 2 ^ 961) : ∀ (rs done : List Road) (x5 x6 x7 x8 : Option D), (∀ r ∈ rs, RG n r) → done.length + rs.length ≤ 1000 →
    ∃ (y5 y6 y7 y8 : Option D), forE (tgTup 4 (tgCons (tgN [] 5) (tgCons (tgN [] 6) (tgCons (tgN [] 7) (tgCons (tgN [] 8) (tgNil)))))) L_steps_of_1 (rs.map rdD) [R, some (sD [c]), some (.int (b : Int)), x3, some (.ol (done.map (stD b))), x5, x6, x7, x8] = some (.nx [R, some (sD [c]), some (.int (b : Int)), x3, some (.ol ((done ++ live rs c).map (stD b))), y5, y6, y7, y8])
  | [], done, x5, x6, x7, x8, hr, hk => ⟨x5, x6, x7, x8, by rw [show live [] c = [] from rfl, List.append_nil]; rfl⟩
  | r :: rs, done, x5, x6, x7, x8, hr, hk => by
    rw [List.length_cons] at hk
    have hp := (hr r (by simp)).p
    have hna := (hr r (by simp)).a
    have hnb := (hr r (by simp)).b
    have en : nuD r.nu = .tup [.int r.nu.1, .int r.nu.2] := rfl
    by_cases hs : r.sg = [c]
    · by_cases h0 : r.nu.1 = 0
      · have el : live (r :: rs) c = live rs c := by unfold live; rw [List.filter_cons_of_neg (by simp [h0])]
        obtain ⟨y5, y6, y7, y8, e⟩ := steps1 hb (R := R) (x3 := x3) (c := c) rs done (some (.int r.st)) (some (sD r.sg)) (some (.int r.bh)) (some (nuD r.nu)) (fun r h => hr r (by simp [h])) (by omega)
        refine ⟨y5, y6, y7, y8, ?_⟩
        rw [el, ← e, List.map_cons, rd_eq]
        simp (config := {decide := true, implicitDefEqProofs := false}) [r_fn, parOk, frzAt, outsD, List.range_succ, DL.gTup, DL.gLst, gGcd, gNeg, gDiv, gMod, gPow, DL.gSub, gAbs, gInt, gEq, gNe, gRng1, kwR, gmInsert, gmExtend, gmAppend, gmSet, ixR, DL.isNon, ixN, atI, lstD, seqD, gIsN, gNotN, forE_1, a_L_steps_of_1, en, h0, hs]
      · have el : live (r :: rs) c = r :: live rs c := by unfold live; rw [List.filter_cons_of_pos (by simp [h0, hs])]
        have d0 : r.nu.2 ≠ 0 := by omega
        have d1 : lg r.nu.2 < 9000 := by
          have := lg_le (i := r.nu.2) (k := 50) (by omega)
          omega
        have d2 : lg r.nu.1 + lg ((b : Int).fdiv r.nu.2) < 1000000 := by
          have h1 := lg_le (i := r.nu.1) (k := 50) (by omega)
          have h2 := fdiv_le (b := b) hp
          have h3 := lg_le (i := (b : Int).fdiv r.nu.2) (k := 960) (by omega)
          omega
        obtain ⟨y5, y6, y7, y8, e⟩ := steps1 hb (R := R) (x3 := x3) (c := c) rs (done ++ [r]) (some (.int r.st)) (some (sD r.sg)) (some (.int r.bh)) (some (nuD r.nu)) (fun r h => hr r (by simp [h])) (by simp; omega)
        refine ⟨y5, y6, y7, y8, ?_⟩
        have ea : done ++ r :: live rs c = done ++ [r] ++ live rs c := by simp
        have es : (done ++ [r]).map (stD b) = done.map (stD b) ++ [.tup [.int r.st, .int r.bh, .int (r.nu.1 * (b : Int).fdiv r.nu.2)]] := by simp [stD, scl]
        rw [el, ea, ← e, es, List.map_cons, rd_eq]
        have hz : done.length < 16777216 := by omega
        simp (config := {decide := true, implicitDefEqProofs := false}) [r_fn, parOk, frzAt, outsD, List.range_succ, DL.gTup, DL.gLst, gGcd, gNeg, gDiv, gMod, gPow, DL.gSub, gAbs, gInt, gEq, gNe, gRng1, kwR, gmInsert, gmExtend, gmAppend, gmSet, ixR, DL.isNon, ixN, atI, lstD, seqD, gIsN, gNotN, forE_1, a_L_steps_of_1, en, h0, d0, d1, d2, hz, hs]
    · have el : live (r :: rs) c = live rs c := by unfold live; rw [List.filter_cons_of_neg (by simp [hs])]
      obtain ⟨y5, y6, y7, y8, e⟩ := steps1 hb (R := R) (x3 := x3) (c := c) rs done (some (.int r.st)) (some (sD r.sg)) (some (.int r.bh)) (some (nuD r.nu)) (fun r h => hr r (by simp [h])) (by omega)
      refine ⟨y5, y6, y7, y8, ?_⟩
      rw [el, ← e, List.map_cons, rd_eq]
      simp (config := {decide := true, implicitDefEqProofs := false}) [r_fn, parOk, frzAt, outsD, List.range_succ, DL.gTup, DL.gLst, gGcd, gNeg, gDiv, gMod, gPow, DL.gSub, gAbs, gInt, gEq, gNe, gRng1, kwR, gmInsert, gmExtend, gmAppend, gmSet, ixR, DL.isNon, ixN, atI, lstD, seqD, gIsN, gNotN, forE_1, a_L_steps_of_1, en, hs]
def shr (rs : List Road) (c : Nat) : Nat := lcmF 1 (dens rs c)
def stsD (rs : List Road) (c : Nat) : D := .tup [.lst ((live rs c).map (stD (shr rs c))), .int (shr rs c)]
theorem steps_ok {rs : List Road} {c n : Nat} (hr : ∀ r ∈ rs, RG n r) (hl : rs.length ≤ 24) : m_steps_of [.lst (rs.map rdD), sD [c]] = some (.ok (stsD rs c) [.lst (rs.map rdD), sD [c]]) := by
  obtain ⟨x, e1, p1, p2⟩ := steps0 (R := some (.lst (rs.map rdD))) (c := c) rs 1 0 none hr (by decide) (by decide) (by omega)
  obtain ⟨y5, y6, y7, y8, e2⟩ := steps1 (R := some (.lst (rs.map rdD))) (x3 := x) (c := c) p2 rs [] none none none none hr (by simp; omega)
  have ec : ((1 : Nat) : Int) = 1 := rfl
  have e0 : ([] : List Road).map (stD ((lcmF 1 (dens rs c) : Nat) : Int)) = [] := rfl
  rw [ec] at e1
  rw [e0, List.nil_append] at e2
  unfold stsD shr
  generalize lcmF 1 (dens rs c) = B at e1 e2 ⊢
  simp (config := {decide := true, implicitDefEqProofs := false}) [r_fn, parOk, frzAt, outsD, List.range_succ, DL.gTup, DL.gLst, gGcd, gNeg, gDiv, gMod, gPow, DL.gSub, gAbs, gInt, gEq, gNe, gRng1, kwR, gmInsert, gmExtend, gmAppend, gmSet, ixR, DL.isNon, ixN, atI, lstD, seqD, gIsN, gNotN, m_steps_of, f_steps_of, e1, e2]
end K04

namespace K04
open PySem PySem.Spec PyProof.Rows L2 DL

/-! ### a row behind a sign -/
def iD (xs : List Int) : List D := xs.map .int
@[simp] theorem allSh_i (xs : List Int) : allSh (xs.map D.int) = true := allSh_map fun _ => rfl
@[simp] theorem fzL_i (xs : List Int) : frzL (xs.map D.int) = xs.map D.int := fzL_map fun _ => rfl
theorem int_at {xs : List Int} {i : Int} (h0 : 0 ≤ i) (h1 : i < xs.length) : atI (xs.map D.int) i = some (.int (xs.getD i.toNat 0)) := by
  have hi : i.toNat < xs.length := by omega
  unfold atI ixN
  have h' : i < (xs.map D.int).length := by rw [List.length_map]; omega
  rw [if_pos h0, if_pos h']
  show (xs.map D.int)[i.toNat]? = _
  rw [List.getElem?_map, List.getElem?_eq_getElem hi, List.getD_eq_getElem?_getD, List.getElem?_eq_getElem hi]
  rfl
theorem set_int {xs : List Int} {i : Int} {y : Int} (h0 : 0 ≤ i) (h1 : i < xs.length) : gmSet (.ol (xs.map D.int)) [.int i, .int y] = some (.ol ((xs.set i.toNat y).map D.int), .non) := by
  unfold gmSet ixN
  dsimp only
  have h' : i < (xs.map D.int).length := by rw [List.length_map]; omega
  rw [if_pos h0, if_pos h']
  dsimp only
  rw [← List.map_set]
theorem set_same (xs : List Int) (i : Nat) : xs.set i (xs.getD i 0 + 0) = xs := by
  rw [Int.add_zero, List.getD_eq_getElem?_getD]
  apply List.ext_getElem?
  intro j
  rw [List.getElem?_set]
  split
  · rename_i h
    subst h
    split
    · rename_i h2
      rw [List.getElem?_eq_getElem h2]
      rfl
    · rename_i h2
      rw [List.getElem?_eq_none (by omega)]
  · rfl
theorem addR_len (B : Int) (row acc : List Int) (r : Rd') : (addR B row acc r).length = acc.length := by
  unfold addR
  rw [List.length_set]
def Sm (K : Nat) (xs : List Int) : Prop := ∀ i, lg (xs.getD i 0) ≤ K
theorem ib_loop {S : Option D} {n : Nat} {B : Nat} {row : List Int} (hrow : row.length = n) (hK : Sm 500000 row) (hB : B < 2 ^ 961) : ∀ (rs : List Road) (acc : List Int) (x3 x4 x5 : Option D), (∀ r ∈ rs, RG n r) → acc.length = n →
    ∃ (y3 y4 y5 : Option D), forE (tgTup 3 (tgCons (tgN [] 3) (tgCons (tgN [] 4) (tgCons (tgN [] 5) (tgNil))))) L_integers_behind_0 (rs.map (stD B)) [S, some (.lst (row.map D.int)), some (.ol (acc.map D.int)), x3, x4, x5] = some (.nx [S, some (.lst (row.map D.int)), some (.ol (((rs.map toR).foldl (addR B row) acc).map D.int)), y3, y4, y5])
  | [], acc, x3, x4, x5, hr, ha => ⟨x3, x4, x5, rfl⟩
  | r :: rs, acc, x3, x4, x5, hr, ha => by
    have v := hr r (by simp)
    have h1 := v.s1
    have h2 := v.b1
    have e1 := int_at (xs := row) v.s0 (by omega)
    have e2 := int_at (xs := acc) v.b0 (by omega)
    have ed : stD B r = .tup [.int r.st, .int r.bh, .int (scl B r.nu)] := rfl
    have ea : addR B row acc (toR r) = acc.set r.bh.toNat (acc.getD r.bh.toNat 0 + row.getD r.st.toNat 0 * scl B r.nu) := rfl
    rw [List.map_cons, List.map_cons, List.foldl_cons, ed]
    by_cases h0 : row.getD r.st.toNat 0 = 0
    · have e0 : addR B row acc (toR r) = acc := by rw [ea, h0, Int.zero_mul, set_same]
      rw [e0]
      rw [h0] at e1
      obtain ⟨y3, y4, y5, e⟩ := ib_loop (S := S) hrow hK hB rs acc (some (.int r.st)) (some (.int r.bh)) (some (.int (scl B r.nu))) (fun r h => hr r (by simp [h])) ha
      refine ⟨y3, y4, y5, ?_⟩
      rw [← e]
      simp (config := {decide := true, implicitDefEqProofs := false}) [r_fn, parOk, frzAt, outsD, List.range_succ, DL.gTup, DL.gLst, gGcd, gNeg, gDiv, gMod, gPow, DL.gSub, gAbs, gInt, gEq, gNe, gRng1, kwR, gmInsert, gmExtend, gmAppend, gmSet, ixR, DL.isNon, ixN, lstD, seqD, gIsN, gNotN, forE_1, a_L_integers_behind_0, e1]
    · have l1 := hK r.st.toNat
      have l2 : lg (scl B r.nu) ≤ 2000 := by
        unfold scl
        have h3 := fdiv_le (b := B) v.p
        have h4 := v.a
        have : (r.nu.1 * (B : Int).fdiv r.nu.2).natAbs < 2 ^ 1001 := by
          rw [Int.natAbs_mul]
          have a1 : r.nu.1.natAbs < 2 ^ 40 := Nat.lt_of_le_of_lt h4 (by decide)
          have a2 : ((B : Int).fdiv r.nu.2).natAbs < 2 ^ 961 := by omega
          calc r.nu.1.natAbs * ((B : Int).fdiv r.nu.2).natAbs < 2 ^ 40 * 2 ^ 961 := Nat.mul_lt_mul'' a1 a2
            _ = 2 ^ 1001 := by rw [← Nat.pow_add]
        have := lg_le (i := r.nu.1 * (B : Int).fdiv r.nu.2) (k := 1000) this
        omega
      have l3 : lg (row.getD r.st.toNat 0) + lg (scl B r.nu) < 1000000 := by omega
      have es := set_int (xs := acc) (y := acc.getD r.bh.toNat 0 + row.getD r.st.toNat 0 * scl B r.nu) v.b0 (by omega)
      rw [← ea] at es
      obtain ⟨y3, y4, y5, e⟩ := ib_loop (S := S) hrow hK hB rs (addR B row acc (toR r)) (some (.int r.st)) (some (.int r.bh)) (some (.int (scl B r.nu))) (fun r h => hr r (by simp [h])) (by rw [addR_len]; exact ha)
      refine ⟨y3, y4, y5, ?_⟩
      rw [← e]
      generalize addR B row acc (toR r) = Y at es ⊢
      generalize row.getD r.st.toNat 0 = u at e1 h0 l3 es
      generalize acc.getD r.bh.toNat 0 = w at e2 es
      generalize scl B r.nu = t at l3 es ⊢
      simp (config := {decide := true, implicitDefEqProofs := false}) [r_fn, parOk, frzAt, outsD, List.range_succ, DL.gTup, DL.gLst, gGcd, gNeg, gDiv, gMod, gPow, DL.gSub, gAbs, gInt, gEq, gNe, gRng1, kwR, gmInsert, gmExtend, gmAppend, ixR, DL.isNon, ixN, lstD, seqD, gIsN, gNotN, forE_1, a_L_integers_behind_0, e1, e2, h0, l3, es]
end K04

namespace K04
open PySem PySem.Spec PyProof.Rows L2 DL

theorem zeros (n : Nat) (hn : n ≤ 16777216) : gMul [.ol [.int 0], .int (n : Int)] = some (.ol ((List.replicate n (0 : Int)).map .int)) := by
  have hc : allSh [D.int 0] = true ∧ (n : Int) < 2 ^ 63 ∧ -(2 ^ 63) ≤ (n : Int) ∧ [D.int 0].length * ((n : Int)).toNat ≤ 16777216 := ⟨rfl, by omega, by omega, by simp; omega⟩
  unfold gMul
  dsimp only [lstD]
  rw [if_pos hc, Int.toNat_natCast, List.map_replicate]
  clear hc
  refine congrArg (fun l => some (D.ol l)) ?_
  induction n with
  | zero => rfl
  | succ n ih =>
    rw [List.replicate_succ, List.replicate_succ, List.flatten_cons, ih (by omega)]
    rfl
theorem fold_live {B : Int} {row : List Int} {c : Nat} : ∀ (rs : List Road) (acc : List Int), (∀ r ∈ rs, ∃ c, r.sg = [c]) → ((live rs c).map toR).foldl (addR B row) acc = ((rs.map toR).filter fun r => r.sg == c).foldl (addR B row) acc
  | [], acc, h => rfl
  | r :: rs, acc, h => by
    obtain ⟨d, es⟩ := h r (by simp)
    have ih := fun acc => fold_live (B := B) (row := row) (c := c) rs acc fun r h' => h r (by simp [h'])
    have et : (toR r).sg = d := by unfold toR; rw [es]; rfl
    rw [List.map_cons]
    by_cases hd : d = c
    · subst hd
      rw [List.filter_cons_of_pos (by simp [et]), List.foldl_cons]
      by_cases h0 : r.nu.1 = 0
      · have el : live (r :: rs) d = live rs d := by unfold live; rw [List.filter_cons_of_neg (by simp [h0])]
        have e0 : addR B row acc (toR r) = acc := by
          show acc.set r.bh.toNat (acc.getD r.bh.toNat 0 + row.getD r.st.toNat 0 * (r.nu.1 * B.fdiv r.nu.2)) = acc
          rw [h0, Int.zero_mul, Int.mul_zero, set_same]
        rw [el, e0]
        exact ih acc
      · have el : live (r :: rs) d = r :: live rs d := by unfold live; rw [List.filter_cons_of_pos (by simp [h0, es])]
        rw [el, List.map_cons, List.foldl_cons]
        exact ih _
    · have el : live (r :: rs) c = live rs c := by unfold live; rw [List.filter_cons_of_neg (by simp [es, hd])]
      rw [el, List.filter_cons_of_neg (by simp [et, hd])]
      exact ih acc
theorem stepF_len {rs : List Rd'} {B : Int} {c : Nat} {row : List Int} : (stepF rs B c row).length = row.length := by
  unfold stepF
  have : ∀ (l : List Rd') (acc : List Int), (l.foldl (addR B row) acc).length = acc.length := by
    intro l
    induction l with
    | nil => intro acc; rfl
    | cons r l ih => intro acc; rw [List.foldl_cons, ih, addR_len]
  rw [this, List.length_replicate]
theorem ib_ok {rs : List Road} {n c B : Nat} {row : List Int} (hr : ∀ r ∈ rs, RG n r) (hrow : row.length = n) (hn : n ≤ 1000) (hK : Sm 500000 row) (hB : B < 2 ^ 961) :
    m_integers_behind [.lst ((live rs c).map (stD B)), .lst (row.map .int)] = some (.ok (.ol ((stepF (rs.map toR) B c row).map .int)) [.lst ((live rs c).map (stD B)), .lst (row.map .int)]) := by
  obtain ⟨y3, y4, y5, e⟩ := ib_loop (S := some (.lst ((live rs c).map (stD B)))) hrow hK hB (live rs c) (List.replicate n 0) none none none (fun r h => hr r (List.mem_filter.mp h).1) (by rw [List.length_replicate])
  have ez := zeros n (by omega)
  have ef := fold_live (B := B) (row := row) (c := c) rs (List.replicate n 0) fun r h => (hr r h).sg
  rw [ef] at e
  unfold stepF
  rw [hrow]
  generalize (((rs.map toR).filter fun r => r.sg == c).foldl (addR B row) (List.replicate n 0)) = Y at e ⊢
  generalize (List.replicate n (0 : Int)) = Z at ez e
  generalize ((live rs c).map (stD B)) = X at e ⊢
  simp (config := {decide := true, implicitDefEqProofs := false}) [r_fn, parOk, frzAt, outsD, List.range_succ, DL.gTup, DL.gLst, gGcd, gNeg, gDiv, gMod, gPow, DL.gSub, gAbs, gInt, gEq, gNe, gRng1, kwR, gmInsert, gmExtend, gmAppend, gmSet, ixR, DL.isNon, ixN, atI, lstD, seqD, gIsN, gNotN, m_integers_behind, f_integers_behind, hrow, ez, e]
/-! ### a row as integers -/
def den (ps : List Nm) : List Nat := ps.map fun p => p.2.natAbs
def rowF (ps : List Nm) : List Int := ps.map (scl (lcmF 1 (den ps)))
theorem io_loop {S : Option D} : ∀ (ps : List Nm) (b k : Nat) (x : Option D), (∀ p ∈ ps, 1 ≤ p.2 ∧ p.2.natAbs ≤ 1000000000) → 1 ≤ b → b < 2 ^ (40 * k + 1) → k + ps.length ≤ 24 →
    ∃ x', forE (tgN [] 2) L_integers_of_0 (ps.map nuD) [S, some (.int (b : Int)), x] = some (.nx [S, some (.int ((lcmF b (den ps) : Nat) : Int)), x']) ∧ 1 ≤ lcmF b (den ps) ∧ lcmF b (den ps) < 2 ^ 961
  | [], b, k, x, hr, h1, h2, hk => ⟨x, rfl, h1, Nat.lt_of_lt_of_le h2 (Nat.pow_le_pow_right (by decide) (by simp at hk; omega))⟩
  | p :: ps, b, k, x, hr, h1, h2, hk => by
    rw [List.length_cons] at hk
    obtain ⟨hp, hn⟩ := hr p (by simp)
    have hb40 : p.2.natAbs < 2 ^ 40 := by
      have : (1000000000 : Nat) < 2 ^ 40 := by decide
      omega
    have g1 : lg (b : Int) < 6000 := by
      have := lg_le (i := (b : Int)) (k := 40 * k) (by rw [Int.natAbs_natCast]; exact h2)
      omega
    have g2 : lg p.2 < 6000 := by
      have := lg_le (i := p.2) (k := 40) (by omega)
      omega
    have eg : gLcm [.int (b : Int), .int p.2] = some (.int ((Nat.lcm b p.2.natAbs : Nat) : Int)) := by
      show (if lg (b : Int) < 6000 ∧ lg p.2 < 6000 then some (D.int (lcmI b p.2)) else none) = _
      rw [if_pos ⟨g1, g2⟩]
      unfold lcmI
      rw [Int.natAbs_natCast]
    have hl := lcm_lt (a := b) (b := p.2.natAbs) h2 hb40 (by omega)
    have ed : den (p :: ps) = p.2.natAbs :: den ps := rfl
    rw [ed, lcmF_cons]
    obtain ⟨x', e, p1, p2⟩ := io_loop (S := S) ps (Nat.lcm b p.2.natAbs) (k + 1) (some (nuD p)) (fun r h => hr r (by simp [h])) (Nat.lcm_pos (by omega) (by omega)) (by
      have : 40 * k + 1 + 40 = 40 * (k + 1) + 1 := by omega
      rw [← this]; exact hl) (by omega)
    refine ⟨x', ?_, p1, p2⟩
    rw [← e, List.map_cons]
    generalize Nat.lcm b p.2.natAbs = L at eg ⊢
    have en : nuD p = .tup [.int p.1, .int p.2] := rfl
    simp (config := {decide := true, implicitDefEqProofs := false}) [r_fn, parOk, frzAt, outsD, List.range_succ, DL.gTup, DL.gLst, gGcd, gNeg, gDiv, gMod, gPow, DL.gSub, gAbs, gInt, gEq, gNe, gRng1, kwR, gmInsert, gmExtend, gmAppend, gmSet, ixR, DL.isNon, ixN, atI, lstD, seqD, gIsN, gNotN, forE_1, a_L_integers_of_0, eg, en]
def sclD (B : Nat) : D → D
  | .tup [.int a, .int b] => .int (scl B (a, b))
  | d => d
theorem io_ok {ps : List Nm} (hr : ∀ p ∈ ps, 1 ≤ p.2 ∧ p.2.natAbs ≤ 1000000000 ∧ p.1.natAbs ≤ 1000000000) (hl : ps.length ≤ 24) :
    m_integers_of [.lst (ps.map nuD)] = some (.ok (.tup [.lst ((rowF ps).map .int), .int ((lcmF 1 (den ps) : Nat) : Int)]) [.lst (ps.map nuD)]) ∧ 1 ≤ lcmF 1 (den ps) ∧ lcmF 1 (den ps) < 2 ^ 961 := by
  obtain ⟨x, e, p1, p2⟩ := io_loop (S := some (.lst (ps.map nuD))) ps 1 0 none (fun p h => ⟨(hr p h).1, (hr p h).2.1⟩) (by decide) (by decide) (by omega)
  refine ⟨?_, p1, p2⟩
  have ec : ((1 : Nat) : Int) = 1 := rfl
  rw [ec] at e
  unfold rowF
  generalize lcmF 1 (den ps) = B at e p1 p2 ⊢
  have h := comp_map1 (ρ := [some (.lst (ps.map nuD)), some (.int (B : Int)), none]) (i := 2) (I := [0, 1]) (f := ev2 gMul (evIx (evV 2) (evC (.int 0))) (ev2 gDiv (evV 1) (evIx (evV 2) (evC (.int 1))))) (ds := ps.map nuD) (acc := []) (by decide) (by show 2 < 3; decide) (sclD B) (fun d hd => by
    obtain ⟨p, hp, rfl⟩ := List.mem_map.mp hd
    obtain ⟨h1, h2, h3⟩ := hr p hp
    have d0 : p.2 ≠ 0 := by omega
    have d1 : lg p.2 < 9000 := by
      have := lg_le (i := p.2) (k := 50) (by omega)
      omega
    have d2 : lg p.1 + lg ((B : Int).fdiv p.2) < 1000000 := by
      have h1' := lg_le (i := p.1) (k := 50) (by omega)
      have h2' := fdiv_le (b := B) h1
      have h3' := lg_le (i := (B : Int).fdiv p.2) (k := 960) (by omega)
      omega
    have en : nuD p = .tup [.int p.1, .int p.2] := rfl
    have es : sclD B (nuD p) = .int (p.1 * (B : Int).fdiv p.2) := rfl
    rw [es, en]
    simp (config := {decide := true, implicitDefEqProofs := false}) [r_fn, parOk, frzAt, outsD, List.range_succ, DL.gTup, DL.gLst, gGcd, gNeg, gDiv, gMod, gPow, DL.gSub, gAbs, gInt, gEq, gNe, gRng1, kwR, gmInsert, gmExtend, gmAppend, gmSet, ixR, DL.isNon, ixN, atI, lstD, seqD, gIsN, gNotN, d0, d1, d2]) (by simp; omega)
  have em : (ps.map nuD).map (fun d => frz (sclD B d)) = (ps.map (scl B)).map .int := by rw [List.map_map, List.map_map]; rfl
  rw [em, List.nil_append] at h
  have hC : ∀ x, C_integers_of_0 [some (.lst (ps.map nuD)), some (.int (B : Int)), x] = some (.ok (.val (.ol ((ps.map (scl B)).map .int))) [some (.lst (ps.map nuD)), some (.int (B : Int)), x]) := fun x => by
    generalize (ps.map (scl B)).map D.int = Y at h ⊢
    generalize ps.map nuD = X at h ⊢
    simp (config := {decide := true, implicitDefEqProofs := false}) [r_fn, parOk, frzAt, outsD, List.range_succ, DL.gTup, DL.gLst, gGcd, gNeg, gDiv, gMod, gPow, DL.gSub, gAbs, gInt, gEq, gNe, gRng1, kwR, gmInsert, gmExtend, gmAppend, gmSet, ixR, DL.isNon, ixN, atI, lstD, seqD, gIsN, gNotN, a_C_integers_of_0, h]
  have fY : frzL ((ps.map (scl B)).map D.int) = (ps.map (scl B)).map D.int := fzL_i _
  generalize (ps.map (scl B)).map D.int = Y at hC fY ⊢
  generalize ps.map nuD = X at e hC ⊢
  simp (config := {decide := true, implicitDefEqProofs := false}) [r_fn, parOk, frzAt, outsD, List.range_succ, DL.gTup, DL.gLst, gGcd, gNeg, gDiv, gMod, gPow, DL.gSub, gAbs, gInt, gEq, gNe, gRng1, kwR, gmInsert, gmExtend, gmAppend, gmSet, ixR, DL.isNon, ixN, atI, lstD, seqD, gIsN, gNotN, m_integers_of, f_integers_of, e, hC, fY]
end K04

namespace K04
open PySem PySem.Spec PyProof.Rows L2 DL

/-! ### the machine made -/
theorem MV.rg {g : Int} {most : Nat} {M : Mc} (h : MV g most M) (g9 : g.natAbs ≤ 1000000000) : ∀ r ∈ M.r, RG M.b.length r := fun r hr => by
  have v := h.r r hr
  obtain ⟨c, _, es⟩ := v.sg
  exact ⟨v.s0, v.s1, v.b0, v.b1, ⟨c, es⟩, v.nu.pos, by have := v.nu.a; omega, by have := v.nu.b; omega⟩
def key1 (c : Nat) : Key := .inr ⟨[c].toArray⟩
theorem key1_inj {a b : Nat} (h : key1 a = key1 b) : a = b := by
  unfold key1 at h
  injection h with h
  have := str_inj.mp h
  simpa using this
def kvs (rs : List Road) (z : List Nat) : List (Key × D) := z.map fun c => (key1 c, stsD rs c)
theorem frzK_kvs (rs : List Road) : ∀ z, frzK (kvs rs z) = kvs rs z
  | [] => by unfold kvs; rw [List.map_nil, frzK]
  | c :: z => by
    have ih := frzK_kvs rs z
    unfold kvs at ih ⊢
    rw [List.map_cons, frzK, ih]
    rfl
theorem val_kvs {rs : List Road} : ∀ {z : List Nat} {c : Nat}, c ∈ z → valD (kvs rs z) (key1 c) = some (stsD rs c)
  | d :: z, c, h => by
    unfold valD kvs
    rw [List.map_cons, List.find?_cons]
    by_cases hd : d = c
    · subst hd
      simp
    · have hk : ¬ key1 d = key1 c := fun e => hd (key1_inj e)
      rw [decide_eq_false hk]
      have hc : c ∈ z := by
        rcases List.mem_cons.mp h with e | e
        · exact absurd e.symm hd
        · exact e
      exact val_kvs hc
theorem steps_comp {a0 a2 a4 : Option D} {z : List Nat} {rs : List Road} {n : Nat} (hr : ∀ r ∈ rs, RG n r) (hl : rs.length ≤ 24) : ∀ (cs done : List Nat) (x : Option D), (done ++ cs).Nodup → done.length + cs.length ≤ 10000 →
    loopE [5] (tgN [0, 1, 2, 3, 4] 5) evYes (putE (evV 5) (evCall [false, false] m_steps_of (evCons (evV 3) (evCons (evV 5) evNil)))) ((sg cs).map sD) (kvs rs done) [a0, some (sD z), a2, some (.lst (rs.map rdD)), a4, x] = some (kvs rs (done ++ cs), [a0, some (sD z), a2, some (.lst (rs.map rdD)), a4, none])
  | [], done, x, hn, h => by simp [loop_0, sg]
  | c :: cs, done, x, hn, h => by
    rw [List.length_cons] at h
    have e1 := steps_ok (c := c) hr hl
    have ea : done ++ c :: cs = done ++ [c] ++ cs := by simp
    have e := steps_comp (a0 := a0) (a2 := a2) (a4 := a4) (z := z) hr hl cs (done ++ [c]) (some (sD [c])) (by rw [← ea]; exact hn) (by simp; omega)
    have hz : done.length < 16777216 := by omega
    have hkl : (kvs rs done).length = done.length := by unfold kvs; rw [List.length_map]
    have es : (sg (c :: cs)).map sD = sD [c] :: (sg cs).map sD := rfl
    have hnew : key1 c ∉ (kvs rs done).map Prod.fst := by
      unfold kvs
      rw [List.map_map]
      intro hm
      obtain ⟨d, hd, ed⟩ := List.mem_map.mp hm
      have : d = c := key1_inj ed
      subst this
      have := (List.nodup_append.mp hn).2.2 d hd d (by simp)
      exact this rfl
    have ep : putD (kvs rs done) (key1 c) (stsD rs c) = kvs rs (done ++ [c]) := by
      rw [putD_new hnew]
      unfold kvs
      rw [List.map_append]
      rfl
    have ep : putD (kvs rs done) (.inr ⟨[c].toArray⟩) (stsD rs c) = kvs rs (done ++ [c]) := ep
    rw [es, ea, ← e]
    have sh1 : (stsD rs c).sh = true := rfl
    have fz1 : frz (stsD rs c) = stsD rs c := rfl
    generalize stsD rs c = V at e1 ep sh1 fz1
    generalize kvs rs (done ++ [c]) = K2 at ep ⊢
    simp (config := {decide := true, implicitDefEqProofs := false}) [r_fn, parOk, frzAt, outsD, List.range_succ, DL.gTup, DL.gLst, gGcd, gNeg, gDiv, gMod, gPow, DL.gSub, gAbs, gInt, gEq, gNe, gRng1, kwR, gmInsert, gmExtend, gmAppend, gmSet, ixR, DL.isNon, ixN, atI, lstD, seqD, gIsN, gNotN, loop_1, putE, e1, hz, hkl, ep, sh1, fz1]
theorem n1 : (("_signs" : Str) = "_begin") = False := eq_false (by decide +kernel)
theorem n2 : (("_signs" : Str) = "_roads") = False := eq_false (by decide +kernel)
theorem n3 : (("_signs" : Str) = "_end") = False := eq_false (by decide +kernel)
theorem n4 : (("_signs" : Str) = "_steps") = False := eq_false (by decide +kernel)
theorem n5 : (("_begin" : Str) = "_roads") = False := eq_false (by decide +kernel)
theorem n6 : (("_begin" : Str) = "_end") = False := eq_false (by decide +kernel)
theorem n7 : (("_begin" : Str) = "_steps") = False := eq_false (by decide +kernel)
theorem n8 : (("_roads" : Str) = "_end") = False := eq_false (by decide +kernel)
theorem n9 : (("_roads" : Str) = "_steps") = False := eq_false (by decide +kernel)
theorem n10 : (("_end" : Str) = "_steps") = False := eq_false (by decide +kernel)
theorem m1 : (("_signs" : Str) = Str.empty) = False := eq_false (by decide +kernel)
theorem m2 : (("_begin" : Str) = Str.empty) = False := eq_false (by decide +kernel)
theorem m3 : (("_roads" : Str) = Str.empty) = False := eq_false (by decide +kernel)
theorem m4 : (("_end" : Str) = Str.empty) = False := eq_false (by decide +kernel)
theorem m5 : (("_steps" : Str) = Str.empty) = False := eq_false (by decide +kernel)
def fldsO (M : Mc) (k : List (Key × D)) : List (Str × D) := [("_signs", sD M.z), ("_begin", .ol (M.b.map nuD)), ("_roads", .ol (M.r.map rdD)), ("_end", .ol (M.e.map nuD)), ("_steps", .od k)]
def fldsF (M : Mc) (k : List (Key × D)) : List (Str × D) := [("_signs", sD M.z), ("_begin", .lst (M.b.map nuD)), ("_roads", .lst (M.r.map rdD)), ("_end", .lst (M.e.map nuD)), ("_steps", .dct k)]
theorem frzF_fl (M : Mc) : frzF (fldsO M (kvs M.r M.z)) = fldsF M (kvs M.r M.z) := by
  unfold fldsO fldsF
  simp only [frzF, fz_ol, fz_od, fzL_n, fzL_r, frz_s, frzK_kvs]
theorem init_ok {g : Int} {most : Nat} {M : Mc} (h : MV g most M) (g9 : g.natAbs ≤ 1000000000) (h1 : ∀ c ∈ M.z, c ∈ abc) (h2 : M.z.Pairwise (· < ·)) (hl : M.r.length ≤ 24) : m_Machine____init__ [.oi 20 [], sD M.z, .lst (M.b.map nuD), .lst (M.r.map rdD), .lst (M.e.map nuD)] = some (.ok .non [.oi 20 (fldsO M (kvs M.r M.z)), sD M.z, .lst (M.b.map nuD), .lst (M.r.map rdD), .lst (M.e.map nuD)]) := by
  have e1 := cm_ok (M := M) fun r hr => by
    obtain ⟨c, _, es⟩ := (h.r r hr).sg
    rw [es]
    show 1 ≤ 16777216
    decide
  rw [due_none h h1 h2] at e1
  have hr := h.rg g9
  obtain ⟨z, b, r, e⟩ := M
  have hzl := h.zl
  dsimp only at e1 hr hl hzl h2 ⊢
  have e2 := fun (S : D) a2 a4 => steps_comp (a0 := some S) (a2 := a2) (a4 := a4) (z := z) hr hl z [] none (by rw [List.nil_append]; exact h2.imp fun h => Nat.ne_of_lt h) (by simp; omega)
  have e0 : kvs r [] = [] := rfl
  rw [e0, List.nil_append] at e2
  unfold fldsO
  generalize kvs r z = K at e2 ⊢
  dsimp only
  simp (config := {decide := true, implicitDefEqProofs := false}) [r_fn, parOk, frzAt, outsD, List.range_succ, DL.gTup, DL.gLst, gGcd, gNeg, gDiv, gMod, gPow, DL.gSub, gAbs, gInt, gEq, gNe, gRng1, kwR, gmInsert, gmExtend, gmAppend, gmSet, ixR, DL.isNon, ixN, atI, lstD, seqD, gIsN, gNotN, m_Machine____init__, f_Machine____init__, e1, a_C_Machine____init___0, e2, sFldS, ft_20__signs, ft_20__begin, ft_20__roads, ft_20__end, ft_20__steps, putG, n1, n2, n3, n4, n5, n6, n7, n8, n9, n10]
end K04

namespace K04
open PySem PySem.Spec PyProof.Rows L2 DL

/-! ### known -/
theorem known_t {z : List Nat} {S : Option D} : ∀ (t : List Nat) (x : Option D), (∀ c ∈ t, c ∈ z) → ∃ x', forE (tgN [] 2) L_known_0 ((sg t).map sD) [S, some (sD z), x] = some (.nx [S, some (sD z), x'])
  | [], x, h => ⟨x, rfl⟩
  | c :: t, x, h => by
    obtain ⟨x', e⟩ := known_t (z := z) (S := S) t (some (sD [c])) fun d hd => h d (by simp [hd])
    refine ⟨x', ?_⟩
    have hc : c ∈ z := h c (by simp)
    have es : (sg (c :: t)).map sD = sD [c] :: (sg t).map sD := rfl
    rw [es, ← e]
    simp (config := {decide := true, implicitDefEqProofs := false}) [r_fn, parOk, frzAt, outsD, List.range_succ, DL.gTup, DL.gLst, gGcd, gNeg, gDiv, gMod, gPow, DL.gSub, gAbs, gInt, gEq, gNe, gRng1, kwR, gmInsert, gmExtend, gmAppend, gmSet, ixR, DL.isNon, ixN, atI, lstD, seqD, gIsN, gNotN, forE_1, a_L_known_0, hc]
theorem known_ok {z t : List Nat} (h : ∀ c ∈ t, c ∈ z) : m_known [sD t, sD z] = some (.ok .non [sD t, sD z]) := by
  obtain ⟨x, e⟩ := known_t (S := some (sD t)) t none h
  simp (config := {decide := true, implicitDefEqProofs := false}) [r_fn, parOk, frzAt, outsD, List.range_succ, DL.gTup, DL.gLst, gGcd, gNeg, gDiv, gMod, gPow, DL.gSub, gAbs, gInt, gEq, gNe, gRng1, kwR, gmInsert, gmExtend, gmAppend, gmSet, ixR, DL.isNon, ixN, atI, lstD, seqD, gIsN, gNotN, m_known, f_known, e]
theorem known_f {z : List Nat} {S : Option D} {c : Nat} (hc : c ∉ z) : ∀ (t u : List Nat) (x : Option D), (∀ c ∈ t, c ∈ z) → ∃ x', forE (tgN [] 2) L_known_0 ((sg (t ++ c :: u)).map sD) [S, some (sD z), x] = some (.exc (.exc 3 (sD [c])) [S, some (sD z), x'])
  | [], u, x, h => by
    refine ⟨some (sD [c]), ?_⟩
    have es : (sg (c :: u)).map sD = sD [c] :: (sg u).map sD := rfl
    rw [List.nil_append, es]
    simp (config := {decide := true, implicitDefEqProofs := false}) [r_fn, parOk, frzAt, outsD, List.range_succ, DL.gTup, DL.gLst, gGcd, gNeg, gDiv, gMod, gPow, DL.gSub, gAbs, gInt, gEq, gNe, gRng1, kwR, gmInsert, gmExtend, gmAppend, gmSet, ixR, DL.isNon, ixN, atI, lstD, seqD, gIsN, gNotN, forE_1, a_L_known_0, hc]
  | d :: t, u, x, h => by
    obtain ⟨x', e⟩ := known_f (z := z) (S := S) hc t u (some (sD [d])) fun d hd => h d (by simp [hd])
    refine ⟨x', ?_⟩
    have hd : d ∈ z := h d (by simp)
    have es : (sg (d :: t ++ c :: u)).map sD = sD [d] :: (sg (t ++ c :: u)).map sD := rfl
    rw [es, ← e]
    simp (config := {decide := true, implicitDefEqProofs := false}) [r_fn, parOk, frzAt, outsD, List.range_succ, DL.gTup, DL.gLst, gGcd, gNeg, gDiv, gMod, gPow, DL.gSub, gAbs, gInt, gEq, gNe, gRng1, kwR, gmInsert, gmExtend, gmAppend, gmSet, ixR, DL.isNon, ixN, atI, lstD, seqD, gIsN, gNotN, forE_1, a_L_known_0, hd]
theorem known_no {z t u : List Nat} {c : Nat} (hc : c ∉ z) (h : ∀ c ∈ t, c ∈ z) : m_known [sD (t ++ c :: u), sD z] = some (.exc (.exc 3 (sD [c])) [sD (t ++ c :: u), sD z]) := by
  obtain ⟨x, e⟩ := known_f (S := some (sD (t ++ c :: u))) hc t u none h
  generalize t ++ c :: u = T at e ⊢
  simp (config := {decide := true, implicitDefEqProofs := false}) [r_fn, parOk, frzAt, outsD, List.range_succ, DL.gTup, DL.gLst, gGcd, gNeg, gDiv, gMod, gPow, DL.gSub, gAbs, gInt, gEq, gNe, gRng1, kwR, gmInsert, gmExtend, gmAppend, gmSet, ixR, DL.isNon, ixN, atI, lstD, seqD, gIsN, gNotN, m_known, f_known, e]
/-! ### sizes -/
def SmN (K : Nat) (xs : List Int) : Prop := ∀ i, (xs.getD i 0).natAbs < 2 ^ K
theorem SmN.sm {K : Nat} {xs : List Int} (h : SmN (K + 1) xs) : Sm K xs := fun i => lg_le (h i)
theorem SmN.mono {K L : Nat} {xs : List Int} (h : SmN K xs) (l : K ≤ L) : SmN L xs := fun i => Nat.lt_of_lt_of_le (h i) (Nat.pow_le_pow_right (by decide) l)
theorem set_getD (xs : List Int) (j i : Nat) (v : Int) : (xs.set j v).getD i 0 = v ∨ (xs.set j v).getD i 0 = xs.getD i 0 := by
  rw [List.getD_eq_getElem?_getD, List.getD_eq_getElem?_getD, List.getElem?_set]
  split
  · split
    · exact .inl rfl
    · rename_i h1 h2
      subst h1
      rw [List.getElem?_eq_none (by omega)]
      exact .inr rfl
  · exact .inr rfl
theorem fold_bd {B : Int} {row : List Int} {T : Nat} : ∀ (l : List Rd') (acc : List Int) (m : Nat), (∀ r ∈ l, (row.getD r.st 0 * scl B r.nu).natAbs ≤ T) → (∀ i, (acc.getD i 0).natAbs ≤ m * T) → ∀ i, ((l.foldl (addR B row) acc).getD i 0).natAbs ≤ (m + l.length) * T
  | [], acc, m, h1, h2, i => h2 i
  | r :: l, acc, m, h1, h2, i => by
    rw [List.foldl_cons, List.length_cons]
    have ih := fold_bd (B := B) (row := row) (T := T) l (addR B row acc r) (m + 1) (fun r h => h1 r (by simp [h])) (fun i => by
      have e1 : (m + 1) * T = m * T + T := by rw [Nat.add_mul, Nat.one_mul]
      rcases set_getD acc r.bh i (acc.getD r.bh 0 + row.getD r.st 0 * scl B r.nu) with e | e
      · show ((acc.set r.bh _).getD i 0).natAbs ≤ _
        rw [e]
        have a1 := h2 r.bh
        have a2 := h1 r (by simp)
        have a3 := Int.natAbs_add_le (acc.getD r.bh 0) (row.getD r.st 0 * scl B r.nu)
        omega
      · show ((acc.set r.bh _).getD i 0).natAbs ≤ _
        rw [e]
        have a1 := h2 i
        omega) i
    have : m + 1 + l.length = m + (l.length + 1) := by omega
    rw [← this]
    exact ih
theorem scl_bd {n B : Nat} {r : Road} (v : RG n r) (hB : B < 2 ^ 961) : (scl B r.nu).natAbs < 2 ^ 1001 := by
  unfold scl
  have h3 := fdiv_le (b := B) v.p
  have h4 := v.a
  rw [Int.natAbs_mul]
  have a1 : r.nu.1.natAbs < 2 ^ 40 := Nat.lt_of_le_of_lt h4 (by decide)
  have a2 : ((B : Int).fdiv r.nu.2).natAbs < 2 ^ 961 := by omega
  calc r.nu.1.natAbs * ((B : Int).fdiv r.nu.2).natAbs < 2 ^ 40 * 2 ^ 961 := Nat.mul_lt_mul'' a1 a2
    _ = 2 ^ 1001 := by rw [← Nat.pow_add]
theorem step_bd {rs : List Road} {n B c K : Nat} {row : List Int} (hr : ∀ r ∈ rs, RG n r) (hl : rs.length ≤ 24) (hB : B < 2 ^ 961) (h : SmN K row) : SmN (K + 1010) (stepF (rs.map toR) B c row) := fun i => by
  unfold stepF
  have key := fold_bd (B := B) (row := row) (T := 2 ^ K * 2 ^ 1001) ((rs.map toR).filter fun r => r.sg == c) (List.replicate row.length 0) 0 (fun r hr' => by
    obtain ⟨r0, h0, rfl⟩ := List.mem_map.mp (List.mem_filter.mp hr').1
    rw [Int.natAbs_mul]
    exact Nat.mul_le_mul (Nat.le_of_lt (h _)) (Nat.le_of_lt (scl_bd (hr r0 h0) hB))) (fun i => by
    rw [List.getD_eq_getElem?_getD, List.getElem?_replicate]
    split <;> simp) i
  have hl2 : 0 + ((rs.map toR).filter fun r => r.sg == c).length ≤ 24 := by
    have := List.length_filter_le (fun r : Rd' => r.sg == c) (rs.map toR)
    rw [List.length_map] at this
    omega
  refine Nat.lt_of_le_of_lt (Nat.le_trans key (Nat.mul_le_mul_right _ hl2)) ?_
  rw [← Nat.pow_add]
  have : 24 * 2 ^ (K + 1001) < 2 ^ 9 * 2 ^ (K + 1001) := Nat.mul_lt_mul_of_pos_right (by decide) (Nat.pow_pos (by decide))
  rw [← Nat.pow_add] at this
  rw [show K + 1010 = 9 + (K + 1001) by omega]
  exact this
/-! ### lowest terms of great numbers -/
theorem lowest_big {a b : Int} (hb : 1 ≤ b) (hs : b.natAbs < 2 ^ 9000) : m_lowest [.int a, .int b] = some (.ok (lowD a b) [.int a, .int b]) := by
  obtain ⟨h1, h2, h3⟩ := gcd_small (a := a) (b := b) (by omega) (k := 8999) hs
  have g1 : lg ((Nat.gcd a.natAbs b.natAbs : Nat) : Int) < 9000 := by omega
  have g2 : lg (-((Nat.gcd a.natAbs b.natAbs : Nat) : Int)) < 9000 := by omega
  have hn : ¬ b < 0 := by omega
  have es : sgc a b = ((Nat.gcd a.natAbs b.natAbs : Nat) : Int) := by unfold sgc; rw [if_neg hn]
  simp (config := {decide := true, implicitDefEqProofs := false}) [r_fn, parOk, frzAt, outsD, List.range_succ, DL.gTup, DL.gLst, gGcd, gNeg, gDiv, gMod, gPow, DL.gSub, gAbs, gInt, gEq, gNe, gRng1, kwR, gmInsert, gmExtend, gmAppend, gmSet, ixR, DL.isNon, ixN, atI, lstD, seqD, gIsN, gNotN, m_lowest, f_lowest, hn, g1, g2, h3, es, lowD]
end K04

namespace K04
open PySem PySem.Spec PyProof.Rows L2 DL

/-! ### the machine's answer -/
def goP (rs : List Road) : List Nat → List Int → Nat → List Int × Nat
  | [], row, b => (row, b)
  | c :: t, row, b => goP rs t (stepF (rs.map toR) (shr rs c) c row) (b * shr rs c)
theorem kx (M : Mc) (k : List (Key × D)) : kIdx ("_signs" : Str) (fldsF M k) = some 0 ∧ kIdx ("_begin" : Str) (fldsF M k) = some 1 ∧ kIdx ("_roads" : Str) (fldsF M k) = some 2 ∧ kIdx ("_end" : Str) (fldsF M k) = some 3 ∧ kIdx ("_steps" : Str) (fldsF M k) = some 4 ∧ kIdx Str.empty (fldsF M k) = none := by
  unfold fldsF
  refine ⟨?_, ?_, ?_, ?_, ?_, ?_⟩ <;> simp [kIdx, n1, n2, n3, n4, n5, n6, n7, n8, n9, n10, m1, m2, m3, m4, m5]
abbrev mkD (M : Mc) : D := .ins 20 (fldsF M (kvs M.r M.z))
theorem shr_ok {rs : List Road} {n c : Nat} (hr : ∀ r ∈ rs, RG n r) (hl : rs.length ≤ 24) : 1 ≤ shr rs c ∧ shr rs c < 2 ^ 961 := by
  obtain ⟨x, e1, p1, p2⟩ := steps0 (R := none) (c := c) rs 1 0 none hr (by decide) (by decide) (by omega)
  exact ⟨p1, p2⟩
def RowD (d : D) (row : List Int) : Prop := d = .lst (row.map .int) ∨ d = .ol (row.map .int)
theorem call_loop {M : Mc} {T : Option D} (hr : ∀ r ∈ M.r, RG M.b.length r) (hl : M.r.length ≤ 24) (hb6 : M.b.length ≤ 6) : ∀ (t : List Nat) (row : List Int) (b K : Nat) (d : D) (x4 x5 x6 : Option D), (∀ c ∈ t, c ∈ M.z) → row.length = M.b.length → SmN K row → K + 1010 * t.length ≤ 490000 → b < 2 ^ K → RowD d row →
    ∃ (d' : D) (y4 y5 y6 : Option D), forE (tgN [] 4) L_Machine____call___0 ((sg t).map sD) [some (mkD M), T, some d, some (.int (b : Int)), x4, x5, x6, none, none, none] = some (.nx [some (mkD M), T, some d', some (.int ((goP M.r t row b).2 : Int)), y4, y5, y6, none, none, none]) ∧ RowD d' (goP M.r t row b).1 ∧ (goP M.r t row b).1.length = M.b.length ∧ SmN 490000 (goP M.r t row b).1 ∧ (goP M.r t row b).2 < 2 ^ 490000
  | [], row, b, K, d, x4, x5, x6, ht, hrow, hS, hK, hb, hd => ⟨d, x4, x5, x6, rfl, hd, hrow, hS.mono (by simpa using hK), Nat.lt_of_lt_of_le hb (Nat.pow_le_pow_right (by decide) (by simpa using hK))⟩
  | c :: t, row, b, K, d, x4, x5, x6, ht, hrow, hS, hK, hb, hd => by
    rw [List.length_cons] at hK
    obtain ⟨p1, p2⟩ := shr_ok (c := c) hr hl
    have e1 := ib_ok (c := c) hr hrow (by omega) (hS.mono (L := 500001) (by omega)).sm p2
    have hS' := step_bd (c := c) hr hl p2 hS
    have hb' : b * shr M.r c < 2 ^ (K + 1010) := by
      calc b * shr M.r c ≤ b * 2 ^ 961 := Nat.mul_le_mul_left b (Nat.le_of_lt p2)
        _ < 2 ^ K * 2 ^ 961 := Nat.mul_lt_mul_of_pos_right hb (Nat.pow_pos (by decide))
        _ = 2 ^ (K + 961) := by rw [← Nat.pow_add]
        _ ≤ 2 ^ (K + 1010) := Nat.pow_le_pow_right (by decide) (by omega)
    obtain ⟨d', y4, y5, y6, e, r1, r2, r3, r4⟩ := call_loop (M := M) (T := T) hr hl hb6 t (stepF (M.r.map toR) (shr M.r c) c row) (b * shr M.r c) (K + 1010) (.ol ((stepF (M.r.map toR) (shr M.r c) c row).map .int)) (some (sD [c])) (some (.lst ((live M.r c).map (stD (shr M.r c))))) (some (.int (shr M.r c : Int))) (fun d hd => ht d (by simp [hd])) (by rw [stepF_len]; exact hrow) hS' (by omega) hb' (.inr rfl)
    refine ⟨d', y4, y5, y6, ?_, r1, r2, r3, r4⟩
    have es : (sg (c :: t)).map sD = sD [c] :: (sg t).map sD := rfl
    show _ = some (SOut.nx [some (mkD M), T, some d', some (.int ((goP M.r t (stepF (M.r.map toR) (shr M.r c) c row) (b * shr M.r c)).2 : Int)), y4, y5, y6, none, none, none])
    rw [es, ← e]
    obtain ⟨x1, x2, x3, x4', x5', x6'⟩ := kx M (kvs M.r M.z)
    have f4 : (fldsF M (kvs M.r M.z))[4]? = some (("_steps" : Str), (.dct (kvs M.r M.z) : D)) := rfl
    have ev : valD (kvs M.r M.z) (.inr ⟨[c].toArray⟩) = some (.tup [.lst ((live M.r c).map (stD (shr M.r c))), .int (shr M.r c : Int)]) := val_kvs (rs := M.r) (ht c (by simp))
    have ll : lg (b : Int) + lg (shr M.r c : Int) < 1000000 := by
      have a1 := lg_le (i := (b : Int)) (k := 490000) (by rw [Int.natAbs_natCast]; exact Nat.lt_of_lt_of_le hb (Nat.pow_le_pow_right (by decide) (by omega)))
      have a2 := lg_le (i := (shr M.r c : Int)) (k := 961) (by rw [Int.natAbs_natCast]; exact Nat.lt_of_lt_of_le p2 (Nat.pow_le_pow_right (by decide) (by decide)))
      omega
    have ec : ((b * shr M.r c : Nat) : Int) = (b : Int) * (shr M.r c : Int) := Int.natCast_mul _ _
    rw [ec]
    unfold mkD
    generalize fldsF M (kvs M.r M.z) = F at x5' f4 ⊢
    generalize kvs M.r M.z = Kv at f4 ev
    generalize ((live M.r c).map (stD (shr M.r c))) = X at e1 ev ⊢
    generalize stepF (M.r.map toR) (shr M.r c) c row = Y at e1 ⊢
    generalize (shr M.r c : Int) = sh at ev ll ⊢
    rcases hd with rfl | rfl
    · simp (config := {decide := true, implicitDefEqProofs := false}) [r_fn, parOk, frzAt, outsD, List.range_succ, DL.gTup, DL.gLst, gGcd, gNeg, gDiv, gMod, gPow, DL.gSub, gAbs, gInt, gEq, gNe, gRng1, kwR, gmInsert, gmExtend, gmAppend, gmSet, ixR, DL.isNon, ixN, atI, lstD, seqD, gIsN, gNotN, forE_1, a_L_Machine____call___0, evFld, fldK, ft_20__steps, x5', f4, ev, e1, ll]
    · simp (config := {decide := true, implicitDefEqProofs := false}) [r_fn, parOk, frzAt, outsD, List.range_succ, DL.gTup, DL.gLst, gGcd, gNeg, gDiv, gMod, gPow, DL.gSub, gAbs, gInt, gEq, gNe, gRng1, kwR, gmInsert, gmExtend, gmAppend, gmSet, ixR, DL.isNon, ixN, atI, lstD, seqD, gIsN, gNotN, forE_1, a_L_Machine____call___0, evFld, fldK, ft_20__steps, x5', f4, ev, e1, ll]
end K04

namespace K04
open PySem PySem.Spec PyProof.Rows L2 DL

theorem ints_map : ∀ xs : List Int, intsD (xs.map .int) = some xs
  | [] => rfl
  | x :: xs => by
    show (match intsD (xs.map .int) with | some is => some (x :: is) | none => none) = _
    rw [ints_map xs]
theorem sum_map (xs : List Int) : gSum [.ol (xs.map .int)] = some (.int xs.sum) := by
  show (match intsD (xs.map D.int) with | some is => some (D.int is.sum) | none => none) = _
  rw [ints_map]
theorem zip_ints (xs ys : List Int) : gZipA [.lst (xs.map .int), .lst (ys.map .int)] = some ((xs.zip ys).map fun p => .tup [.int p.1, .int p.2]) := by
  show some ((((xs.map D.int).zip (ys.map D.int))).map fun p => D.tup [p.1, p.2]) = _
  rw [List.zip_map, List.map_map]
  rfl
theorem prods {a0 a1 a2 a3 a4 a5 a6 a7 : Option D} : ∀ (ps : List (Int × Int)) (acc : List Int) (x y : Option D), (∀ p ∈ ps, lg p.1 + lg p.2 < 1000000) → acc.length + ps.length ≤ 1000 →
    compE [8, 9] (tgTup 2 (tgCons (tgN [0, 1, 2, 3, 4, 5, 6, 7] 8) (tgCons (tgN [0, 1, 2, 3, 4, 5, 6, 7] 9) (tgNil)))) (evYes) (ev2 gMul (evV 8) (evV 9)) (ps.map fun p => .tup [.int p.1, .int p.2]) (acc.map .int) [a0, a1, a2, a3, a4, a5, a6, a7, x, y] = some ((acc ++ ps.map fun p => p.1 * p.2).map .int, [a0, a1, a2, a3, a4, a5, a6, a7, none, none])
  | [], acc, x, y, h, hz => by simp [comp_0]
  | p :: ps, acc, x, y, h, hz => by
    rw [List.length_cons] at hz
    have e := prods (a0 := a0) (a1 := a1) (a2 := a2) (a3 := a3) (a4 := a4) (a5 := a5) (a6 := a6) (a7 := a7) ps (acc ++ [p.1 * p.2]) (some (.int p.1)) (some (.int p.2)) (fun q hq => h q (by simp [hq])) (by simp; omega)
    have ea : acc ++ (p :: ps).map (fun p => p.1 * p.2) = acc ++ [p.1 * p.2] ++ ps.map fun p => p.1 * p.2 := by simp
    have es : (acc ++ [p.1 * p.2]).map D.int = acc.map .int ++ [.int (p.1 * p.2)] := by simp
    have hl := h p (by simp)
    have hz' : acc.length < 16777216 := by omega
    rw [ea, ← e, es, List.map_cons]
    simp (config := {decide := true, implicitDefEqProofs := false}) [r_fn, parOk, frzAt, outsD, List.range_succ, DL.gTup, DL.gLst, gGcd, gNeg, gDiv, gMod, gPow, DL.gSub, gAbs, gInt, gEq, gNe, gRng1, kwR, gmInsert, gmExtend, gmAppend, gmSet, ixR, DL.isNon, ixN, atI, lstD, seqD, gIsN, gNotN, comp_1, hl, hz']
/-- what the machine answers -/
def ansD (M : Mc) (t : List Nat) : D := lowD (dot (goP M.r t (rowF M.b) (lcmF 1 (den M.b))).1 (rowF M.e)) (((goP M.r t (rowF M.b) (lcmF 1 (den M.b))).2 * lcmF 1 (den M.e) : Nat) : Int)
theorem call_ok {g : Int} {most : Nat} {M : Mc} {t : List Nat} (h : MV g most M) (g9 : g.natAbs ≤ 1000000000) (hl : M.r.length ≤ 24) (ht : ∀ c ∈ t, c ∈ M.z) (htl : t.length ≤ 450) (hbig : 1 ≤ (goP M.r t (rowF M.b) (lcmF 1 (den M.b))).2 * lcmF 1 (den M.e) ∧ (goP M.r t (rowF M.b) (lcmF 1 (den M.b))).2 * lcmF 1 (den M.e) < 2 ^ 9000) :
    m_Machine____call__ [mkD M, sD t] = some (.ok (ansD M t) [mkD M, sD t]) := by
  have hr := h.rg g9
  have hb6 := h.bl
  have hel := h.el
  have ek := known_ok ht
  obtain ⟨eb, b1, b2⟩ := io_ok (ps := M.b) (fun p hp => ⟨(h.b p hp).pos, by have := (h.b p hp).b; omega, by have := (h.b p hp).a; omega⟩) (by omega)
  obtain ⟨ee, c1, c2⟩ := io_ok (ps := M.e) (fun p hp => ⟨(h.e p hp).pos, by have := (h.e p hp).b; omega, by have := (h.e p hp).a; omega⟩) (by omega)
  have rb : ∀ (ps : List Nm), (∀ p ∈ ps, NG g p) → lcmF 1 (den ps) < 2 ^ 961 → ∀ x ∈ rowF ps, x.natAbs < 2 ^ 1001 := fun ps hp hB x hx => by
    obtain ⟨p, hpp, rfl⟩ := List.mem_map.mp hx
    unfold scl
    have h3 := fdiv_le (b := lcmF 1 (den ps)) (hp p hpp).pos
    have h4 := (hp p hpp).a
    rw [Int.natAbs_mul]
    have a1 : p.1.natAbs < 2 ^ 40 := Nat.lt_of_le_of_lt (by omega : p.1.natAbs ≤ 1000000000) (by decide)
    calc p.1.natAbs * ((lcmF 1 (den ps) : Int).fdiv p.2).natAbs < 2 ^ 40 * 2 ^ 961 := Nat.mul_lt_mul'' a1 (by omega)
      _ = 2 ^ 1001 := by rw [← Nat.pow_add]
  have sb : SmN 1001 (rowF M.b) := fun i => by
    rw [List.getD_eq_getElem?_getD]
    cases hx : (rowF M.b)[i]? with
    | none => exact Nat.pow_pos (by decide)
    | some x => exact rb M.b h.b b2 x (List.mem_of_getElem? hx)
  obtain ⟨d', y4, y5, y6, e, r1, r2, r3, r4⟩ := call_loop (M := M) (T := some (sD t)) hr hl hb6 t (rowF M.b) (lcmF 1 (den M.b)) 1001 (.lst ((rowF M.b).map .int)) none none none ht (by unfold rowF; rw [List.length_map]) sb (by omega) (Nat.lt_of_lt_of_le b2 (Nat.pow_le_pow_right (by decide) (by decide))) (.inl rfl)
  unfold ansD
  generalize goP M.r t (rowF M.b) (lcmF 1 (den M.b)) = G at e r1 r2 r3 r4 hbig ⊢
  obtain ⟨row, bb⟩ := G
  dsimp only at e r1 r2 r3 r4 hbig ⊢
  have ew := lowest_big (a := dot row (rowF M.e)) (b := ((bb * lcmF 1 (den M.e) : Nat) : Int)) (by omega) (by rw [Int.natAbs_natCast]; exact hbig.2)
  have rw1 : ∀ p ∈ row.zip (rowF M.e), lg p.1 + lg p.2 < 1000000 := fun p hp => by
    have h1 := List.of_mem_zip hp
    have l1 : lg p.1 ≤ 490000 := by
      obtain ⟨i, hi⟩ := List.mem_iff_getElem?.mp h1.1
      have := r3.mono (L := 490001) (by decide) |>.sm i
      rwa [List.getD_eq_getElem?_getD, hi] at this
    have l2 := lg_le (i := p.2) (k := 1000) (rb M.e h.e c2 p.2 h1.2)
    omega
  have ep := fun a0 a1 a2 a3 a4 a5 a6 a7 x y => prods (a0 := a0) (a1 := a1) (a2 := a2) (a3 := a3) (a4 := a4) (a5 := a5) (a6 := a6) (a7 := a7) (row.zip (rowF M.e)) [] x y rw1 (by rw [List.length_zip, r2]; simp; omega)
  have e0 : ([] : List Int).map D.int = [] := rfl
  rw [e0, List.nil_append] at ep
  have esum := sum_map ((row.zip (rowF M.e)).map fun p => p.1 * p.2)
  have ez := zip_ints row (rowF M.e)
  have ed : dot row (rowF M.e) = ((row.zip (rowF M.e)).map fun p => p.1 * p.2).sum := rfl
  rw [ed] at ew ⊢
  obtain ⟨x1, x2, x3, x4', x5', x6'⟩ := kx M (kvs M.r M.z)
  have f0 : (fldsF M (kvs M.r M.z))[0]? = some (("_signs" : Str), (sD M.z : D)) := rfl
  have f1 : (fldsF M (kvs M.r M.z))[1]? = some (("_begin" : Str), (.lst (M.b.map nuD) : D)) := rfl
  have f3 : (fldsF M (kvs M.r M.z))[3]? = some (("_end" : Str), (.lst (M.e.map nuD) : D)) := rfl
  have ll : lg (bb : Int) + lg (lcmF 1 (den M.e) : Int) < 1000000 := by
    have a1 := lg_le (i := (bb : Int)) (k := 490000) (by rw [Int.natAbs_natCast]; exact Nat.lt_of_lt_of_le r4 (Nat.pow_le_pow_right (by decide) (by omega)))
    have a2 := lg_le (i := (lcmF 1 (den M.e) : Int)) (k := 961) (by rw [Int.natAbs_natCast]; exact Nat.lt_of_lt_of_le c2 (Nat.pow_le_pow_right (by decide) (by decide)))
    omega
  have ec : ((bb * lcmF 1 (den M.e) : Nat) : Int) = (bb : Int) * (lcmF 1 (den M.e) : Int) := Int.natCast_mul _ _
  rw [ec] at ew ⊢
  have fz1 : frzL (row.map D.int) = row.map D.int := fzL_i row
  have fz2 : ∀ a b : Int, (lowD a b).sh = true ∧ frz (lowD a b) = lowD a b := fun a b => ⟨rfl, rfl⟩
  unfold mkD at e ⊢
  generalize fldsF M (kvs M.r M.z) = F at e x1 x2 x4' f0 f1 f3 ⊢
  obtain ⟨fs, fz⟩ := fz2 (((row.zip (rowF M.e)).map fun p => p.1 * p.2).sum) ((bb : Int) * (lcmF 1 (den M.e) : Int))
  generalize lowD (((row.zip (rowF M.e)).map fun p => p.1 * p.2).sum) ((bb : Int) * (lcmF 1 (den M.e) : Int)) = V at ew fs fz ⊢
  generalize (((row.zip (rowF M.e)).map fun p => p.1 * p.2).sum) = su at ew esum
  generalize ((row.zip (rowF M.e)).map fun p => p.1 * p.2).map D.int = P at ep esum
  generalize ((row.zip (rowF M.e)).map fun p => D.tup [.int p.1, .int p.2]) = Zp at ep ez
  generalize (rowF M.e).map D.int = Em at ee ez
  generalize (lcmF 1 (den M.e) : Int) = el at ee ew ll
  rcases r1 with rfl | rfl
  · generalize row.map D.int = Rm at e ez fz1
    generalize (rowF M.b).map D.int = Bm at eb e
    simp (config := {decide := true, implicitDefEqProofs := false}) [r_fn, parOk, frzAt, outsD, List.range_succ, DL.gTup, DL.gLst, gGcd, gNeg, gDiv, gMod, gPow, DL.gSub, gAbs, gInt, gEq, gNe, gRng1, kwR, gmInsert, gmExtend, gmAppend, gmSet, ixR, DL.isNon, ixN, atI, lstD, seqD, gIsN, gNotN, m_Machine____call__, f_Machine____call__, evFld, fldK, ft_20__signs, ft_20__begin, ft_20__end, x1, x2, x4', f0, f1, f3, ek, eb, e, ee, ll, a_C_Machine____call___0, ez, ep, esum, ew, fs, fz, fz1]
  · generalize row.map D.int = Rm at e ez fz1
    generalize (rowF M.b).map D.int = Bm at eb e
    simp (config := {decide := true, implicitDefEqProofs := false}) [r_fn, parOk, frzAt, outsD, List.range_succ, DL.gTup, DL.gLst, gGcd, gNeg, gDiv, gMod, gPow, DL.gSub, gAbs, gInt, gEq, gNe, gRng1, kwR, gmInsert, gmExtend, gmAppend, gmSet, ixR, DL.isNon, ixN, atI, lstD, seqD, gIsN, gNotN, m_Machine____call__, f_Machine____call__, evFld, fldK, ft_20__signs, ft_20__begin, ft_20__end, x1, x2, x4', f0, f1, f3, ek, eb, e, ee, ll, a_C_Machine____call___0, ez, ep, esum, ew, fs, fz, fz1]
end K04

namespace K04
open PySem PySem.Spec PyProof.Rows L2 DL

/-! ### the law's own reckoning -/
theorem lcm_int {b : Nat} {d : Int} (hd : 1 ≤ d) : (b : Int).fdiv ((Nat.gcd b d.natAbs : Nat) : Int) * d = ((Nat.lcm b d.natAbs : Nat) : Int) := by
  rw [Int.fdiv_eq_ediv_of_nonneg _ (by omega), ← Int.natCast_ediv]
  conv => lhs; arg 2; rw [show d = ((d.natAbs : Nat) : Int) by omega]
  rw [← Int.natCast_mul, lcm_way]
theorem over_loop {S : Option D} : ∀ (ps : List Nm) (b k : Nat) (x y : Option D), (∀ p ∈ ps, 1 ≤ p.2 ∧ p.2.natAbs ≤ 1000000000) → 1 ≤ b → b < 2 ^ (40 * k + 1) → k + ps.length ≤ 24 →
    ∃ x' y', forE (tgTup 2 (tgCons (tgN [] 2) (tgCons (tgN [] 3) (tgNil)))) L__law_over_0 (ps.map nuD) [S, some (.int (b : Int)), x, y] = some (.nx [S, some (.int ((lcmF b (den ps) : Nat) : Int)), x', y']) ∧ lcmF b (den ps) < 2 ^ 961
  | [], b, k, x, y, hr, h1, h2, hk => ⟨x, y, rfl, Nat.lt_of_lt_of_le h2 (Nat.pow_le_pow_right (by decide) (by simp at hk; omega))⟩
  | p :: ps, b, k, x, y, hr, h1, h2, hk => by
    rw [List.length_cons] at hk
    obtain ⟨hp, hn⟩ := hr p (by simp)
    have hb40 : p.2.natAbs < 2 ^ 40 := by
      have : (1000000000 : Nat) < 2 ^ 40 := by decide
      omega
    have eg := gcd_ok (b : Int) p.2
    rw [Int.natAbs_natCast] at eg
    have g0 : Nat.gcd b p.2.natAbs ≠ 0 := by
      have := Nat.gcd_pos_of_pos_left p.2.natAbs (show 0 < b by omega)
      omega
    have g1 : lg ((Nat.gcd b p.2.natAbs : Nat) : Int) < 9000 := by
      have h3 : Nat.gcd b p.2.natAbs ≤ p.2.natAbs := Nat.gcd_le_right _ (by omega)
      have := lg_le (i := ((Nat.gcd b p.2.natAbs : Nat) : Int)) (k := 50) (by rw [Int.natAbs_natCast]; omega)
      omega
    have g2 : lg ((b : Int).fdiv ((Nat.gcd b p.2.natAbs : Nat) : Int)) + lg p.2 < 1000000 := by
      have h3 := fdiv_le (b := b) (d := ((Nat.gcd b p.2.natAbs : Nat) : Int)) (by omega)
      have h4 := lg_le (i := (b : Int).fdiv ((Nat.gcd b p.2.natAbs : Nat) : Int)) (k := 40 * k) (by omega)
      have h5 := lg_le (i := p.2) (k := 50) (by omega)
      omega
    have ei := lcm_int (b := b) hp
    have hl := lcm_lt (a := b) (b := p.2.natAbs) h2 hb40 (by omega)
    have ed : den (p :: ps) = p.2.natAbs :: den ps := rfl
    rw [ed, lcmF_cons]
    obtain ⟨x', y', e, p2⟩ := over_loop (S := S) ps (Nat.lcm b p.2.natAbs) (k + 1) (some (.int p.1)) (some (.int p.2)) (fun r h => hr r (by simp [h])) (Nat.lcm_pos (by omega) (by omega)) (by
      have : 40 * k + 1 + 40 = 40 * (k + 1) + 1 := by omega
      rw [← this]; exact hl) (by omega)
    refine ⟨x', y', ?_, p2⟩
    rw [← e, List.map_cons]
    generalize ((Nat.lcm b p.2.natAbs : Nat) : Int) = L at ei ⊢
    generalize Nat.gcd b p.2.natAbs = G at eg g0 g1 g2 ei
    have en : nuD p = .tup [.int p.1, .int p.2] := rfl
    simp (config := {decide := true, implicitDefEqProofs := false}) [r_fn, parOk, frzAt, outsD, List.range_succ, DL.gTup, DL.gLst, gGcd, gNeg, gDiv, gMod, gPow, DL.gSub, gAbs, gInt, gEq, gNe, gRng1, kwR, gmInsert, gmExtend, gmAppend, gmSet, ixR, DL.isNon, ixN, atI, lstD, seqD, gIsN, gNotN, forE_1, a_L__law_over_0, eg, g0, g1, g2, ei, en]
theorem over_ok {ps : List Nm} (hr : ∀ p ∈ ps, 1 ≤ p.2 ∧ p.2.natAbs ≤ 1000000000) (hl : ps.length ≤ 24) : m__law_over [.lst (ps.map nuD)] = some (.ok (.int ((lcmF 1 (den ps) : Nat) : Int)) [.lst (ps.map nuD)]) := by
  obtain ⟨x, y, e, _⟩ := over_loop (S := some (.lst (ps.map nuD))) ps 1 0 none none hr (by decide) (by decide) (by omega)
  have ec : ((1 : Nat) : Int) = 1 := rfl
  rw [ec] at e
  generalize ps.map nuD = X at e ⊢
  simp (config := {decide := true, implicitDefEqProofs := false}) [r_fn, parOk, frzAt, outsD, List.range_succ, DL.gTup, DL.gLst, gGcd, gNeg, gDiv, gMod, gPow, DL.gSub, gAbs, gInt, gEq, gNe, gRng1, kwR, gmInsert, gmExtend, gmAppend, gmSet, ixR, DL.isNon, ixN, atI, lstD, seqD, gIsN, gNotN, m__law_over, f__law_over, e]
theorem scl_ll {B : Nat} {p : Nm} (h1 : 1 ≤ p.2) (h2 : p.2.natAbs ≤ 1000000000) (h3 : p.1.natAbs ≤ 1000000000) (hB : B < 2 ^ 961) : p.2 ≠ 0 ∧ lg p.2 < 9000 ∧ lg p.1 + lg ((B : Int).fdiv p.2) < 1000000 := by
  refine ⟨by omega, ?_, ?_⟩
  · have := lg_le (i := p.2) (k := 50) (by omega)
    omega
  · have h1' := lg_le (i := p.1) (k := 50) (by omega)
    have h2' := fdiv_le (b := B) h1
    have h3' := lg_le (i := (B : Int).fdiv p.2) (k := 960) (by omega)
    omega
def PN (p : Nm) : Prop := 1 ≤ p.2 ∧ p.2.natAbs ≤ 1000000000 ∧ p.1.natAbs ≤ 1000000000
theorem sc1 {a0 a2 a3 a4 a5 a8 a9 : Option D} {B : Nat} (hB : B < 2 ^ 961) : ∀ (ps : List Nm) (acc : List Int) (x y : Option D), (∀ p ∈ ps, PN p) → acc.length + ps.length ≤ 1000 →
    compE [6, 7] (tgTup 2 (tgCons (tgN [0, 1, 2, 3, 4, 5, 8, 9] 6) (tgCons (tgN [0, 1, 2, 3, 4, 5, 8, 9] 7) (tgNil)))) (evYes) (ev2 gMul (evV 6) (ev2 gDiv (evV 1) (evV 7))) (ps.map nuD) (acc.map .int) [a0, some (.int B), a2, a3, a4, a5, x, y, a8, a9] = some ((acc ++ ps.map (scl B)).map .int, [a0, some (.int B), a2, a3, a4, a5, none, none, a8, a9])
  | [], acc, x, y, h, hz => by simp [comp_0]
  | p :: ps, acc, x, y, h, hz => by
    rw [List.length_cons] at hz
    obtain ⟨h1, h2, h3⟩ := h p (by simp)
    obtain ⟨d0, d1, d2⟩ := scl_ll h1 h2 h3 hB
    have e := sc1 (a0 := a0) (a2 := a2) (a3 := a3) (a4 := a4) (a5 := a5) (a8 := a8) (a9 := a9) hB ps (acc ++ [scl B p]) (some (.int p.1)) (some (.int p.2)) (fun q hq => h q (by simp [hq])) (by simp; omega)
    have ea : acc ++ (p :: ps).map (scl B) = acc ++ [scl B p] ++ ps.map (scl B) := by simp
    have es : (acc ++ [scl B p]).map D.int = acc.map .int ++ [.int (p.1 * (B : Int).fdiv p.2)] := by simp [scl]
    have hz' : acc.length < 16777216 := by omega
    have en : nuD p = .tup [.int p.1, .int p.2] := rfl
    rw [ea, ← e, es, List.map_cons]
    simp (config := {decide := true, implicitDefEqProofs := false}) [r_fn, parOk, frzAt, outsD, List.range_succ, DL.gTup, DL.gLst, gGcd, gNeg, gDiv, gMod, gPow, DL.gSub, gAbs, gInt, gEq, gNe, gRng1, kwR, gmInsert, gmExtend, gmAppend, gmSet, ixR, DL.isNon, ixN, atI, lstD, seqD, gIsN, gNotN, comp_1, d0, d1, d2, hz', en]
theorem sc2 {a0 a1 a3 a4 a5 a8 a9 : Option D} {B : Nat} (hB : B < 2 ^ 961) : ∀ (ps : List Nm) (acc : List Int) (x y : Option D), (∀ p ∈ ps, PN p) → acc.length + ps.length ≤ 1000 →
    compE [6, 7] (tgTup 2 (tgCons (tgN [0, 1, 2, 3, 4, 5, 8, 9] 6) (tgCons (tgN [0, 1, 2, 3, 4, 5, 8, 9] 7) (tgNil)))) (evYes) (ev2 gMul (evV 6) (ev2 gDiv (evV 2) (evV 7))) (ps.map nuD) (acc.map .int) [a0, a1, some (.int B), a3, a4, a5, x, y, a8, a9] = some ((acc ++ ps.map (scl B)).map .int, [a0, a1, some (.int B), a3, a4, a5, none, none, a8, a9])
  | [], acc, x, y, h, hz => by simp [comp_0]
  | p :: ps, acc, x, y, h, hz => by
    rw [List.length_cons] at hz
    obtain ⟨h1, h2, h3⟩ := h p (by simp)
    obtain ⟨d0, d1, d2⟩ := scl_ll h1 h2 h3 hB
    have e := sc2 (a0 := a0) (a1 := a1) (a3 := a3) (a4 := a4) (a5 := a5) (a8 := a8) (a9 := a9) hB ps (acc ++ [scl B p]) (some (.int p.1)) (some (.int p.2)) (fun q hq => h q (by simp [hq])) (by simp; omega)
    have ea : acc ++ (p :: ps).map (scl B) = acc ++ [scl B p] ++ ps.map (scl B) := by simp
    have es : (acc ++ [scl B p]).map D.int = acc.map .int ++ [.int (p.1 * (B : Int).fdiv p.2)] := by simp [scl]
    have hz' : acc.length < 16777216 := by omega
    have en : nuD p = .tup [.int p.1, .int p.2] := rfl
    rw [ea, ← e, es, List.map_cons]
    simp (config := {decide := true, implicitDefEqProofs := false}) [r_fn, parOk, frzAt, outsD, List.range_succ, DL.gTup, DL.gLst, gGcd, gNeg, gDiv, gMod, gPow, DL.gSub, gAbs, gInt, gEq, gNe, gRng1, kwR, gmInsert, gmExtend, gmAppend, gmSet, ixR, DL.isNon, ixN, atI, lstD, seqD, gIsN, gNotN, comp_1, d0, d1, d2, hz', en]
def rsD (B : Int) (r : Road) : D := .tup [.int r.st, sD r.sg, .int r.bh, .int (scl B r.nu)]
@[simp] theorem fzL_rs (B : Int) (rs : List Road) : frzL (rs.map (rsD B)) = rs.map (rsD B) := fzL_map fun _ => rfl
@[simp] theorem allSh_rs (B : Int) (rs : List Road) : allSh (rs.map (rsD B)) = true := allSh_map fun _ => rfl
def fourth : D → D
  | .tup [_, _, _, x] => x
  | _ => .non
def rsOf (B : Int) : D → D
  | .tup [a, s, b, .tup [.int x, .int y]] => .tup [a, s, b, .int (scl B (x, y))]
  | _ => .non
theorem nus_C {z b e a1 a2 a3 a5 a6 a7 a8 a9 x : Option D} {M : Mc} (hl : M.r.length ≤ 1000) : C__law_scaled_0 [some (ptD M), a1, a2, a3, x, a5, a6, a7, a8, a9] = some (.ok (.val (.ol ((M.r.map Road.nu).map nuD))) [some (ptD M), a1, a2, a3, x, a5, a6, a7, a8, a9]) := by
  have h := comp_map1 (ρ := [some (ptD M), a1, a2, a3, none, a5, a6, a7, a8, a9]) (i := 4) (I := [0, 1, 2, 3, 5, 6, 7, 8, 9]) (f := evIx (evV 4) (evC (.int 3))) (ds := M.r.map rdD) (acc := []) (by decide) (by show 4 < 10; decide) fourth (fun d hd => by
    obtain ⟨r, _, rfl⟩ := List.mem_map.mp hd
    unfold fourth rdD
    simp (config := {decide := true, implicitDefEqProofs := false}) [r_fn, parOk, frzAt, outsD, List.range_succ, DL.gTup, DL.gLst, gGcd, gNeg, gDiv, gMod, gPow, DL.gSub, gAbs, gInt, gEq, gNe, gRng1, kwR, gmInsert, gmExtend, gmAppend, gmSet, ixR, DL.isNon, ixN, atI, lstD, seqD, gIsN, gNotN]) (by simp; omega)
  have e : (M.r.map rdD).map (fun d => frz (fourth d)) = (M.r.map Road.nu).map nuD := by rw [List.map_map, List.map_map]; rfl
  rw [e, List.nil_append] at h
  generalize (M.r.map Road.nu).map nuD = X at h ⊢
  unfold ptD at h ⊢
  simp (config := {decide := true, implicitDefEqProofs := false}) [r_fn, parOk, frzAt, outsD, List.range_succ, DL.gTup, DL.gLst, gGcd, gNeg, gDiv, gMod, gPow, DL.gSub, gAbs, gInt, gEq, gNe, gRng1, kwR, gmInsert, gmExtend, gmAppend, gmSet, ixR, DL.isNon, ixN, atI, lstD, seqD, gIsN, gNotN, a_C__law_scaled_0, h]
theorem rs_C {a1 a2 a5 a6 a7 a8 a9 x : Option D} {M : Mc} {B : Nat} (hB : B < 2 ^ 961) (hr : ∀ r ∈ M.r, PN r.nu) (hl : M.r.length ≤ 1000) : C__law_scaled_3 [some (ptD M), a1, a2, some (.int B), x, a5, a6, a7, a8, a9] = some (.ok (.val (.ol (M.r.map (rsD B)))) [some (ptD M), a1, a2, some (.int B), x, a5, a6, a7, a8, a9]) := by
  have h := comp_map1 (ρ := [some (ptD M), a1, a2, some (.int B), none, a5, a6, a7, a8, a9]) (i := 4) (I := [0, 1, 2, 3, 5, 6, 7, 8, 9]) (f := (evOpF DL.gTup (evFz (evCons (evIx (evV 4) (evC (.int 0))) (evCons (evIx (evV 4) (evC (.int 1))) (evCons (evIx (evV 4) (evC (.int 2))) (evCons (ev2 gMul (evIx (evIx (evV 4) (evC (.int 3))) (evC (.int 0))) (ev2 gDiv (evV 3) (evIx (evIx (evV 4) (evC (.int 3))) (evC (.int 1))))) (evNil)))))))) (ds := M.r.map rdD) (acc := []) (by decide) (by show 4 < 10; decide) (rsOf B) (fun d hd => by
    obtain ⟨r, hr', rfl⟩ := List.mem_map.mp hd
    obtain ⟨h1, h2, h3⟩ := hr r hr'
    obtain ⟨d0, d1, d2⟩ := scl_ll h1 h2 h3 hB
    have er : rdD r = .tup [.int r.st, sD r.sg, .int r.bh, .tup [.int r.nu.1, .int r.nu.2]] := rfl
    have eo : rsOf B (rdD r) = .tup [.int r.st, sD r.sg, .int r.bh, .int (r.nu.1 * (B : Int).fdiv r.nu.2)] := rfl
    rw [eo, er]
    simp (config := {decide := true, implicitDefEqProofs := false}) [r_fn, parOk, frzAt, outsD, List.range_succ, DL.gTup, DL.gLst, gGcd, gNeg, gDiv, gMod, gPow, DL.gSub, gAbs, gInt, gEq, gNe, gRng1, kwR, gmInsert, gmExtend, gmAppend, gmSet, ixR, DL.isNon, ixN, atI, lstD, seqD, gIsN, gNotN, d0, d1, d2]) (by simp; omega)
  have e : (M.r.map rdD).map (fun d => frz (rsOf B d)) = M.r.map (rsD B) := by rw [List.map_map]; rfl
  rw [e, List.nil_append] at h
  generalize M.r.map (rsD B) = X at h ⊢
  unfold ptD at h ⊢
  simp (config := {decide := true, implicitDefEqProofs := false}) [r_fn, parOk, frzAt, outsD, List.range_succ, DL.gTup, DL.gLst, gGcd, gNeg, gDiv, gMod, gPow, DL.gSub, gAbs, gInt, gEq, gNe, gRng1, kwR, gmInsert, gmExtend, gmAppend, gmSet, ixR, DL.isNon, ixN, atI, lstD, seqD, gIsN, gNotN, a_C__law_scaled_3, h]
end K04

namespace K04
open PySem PySem.Spec PyProof.Rows L2 DL

theorem ng_pn {g : Int} {p : Nm} (g9 : g.natAbs ≤ 1000000000) (h : NG g p) : PN p := ⟨h.pos, by have := h.b; omega, by have := h.a; omega⟩
def mid (M : Mc) : Nat := lcmF 1 (den (M.r.map Road.nu))
theorem bound {ps : List Nm} (hp : ∀ p ∈ ps, PN p) (hl : ps.length ≤ 24) : 1 ≤ lcmF 1 (den ps) ∧ lcmF 1 (den ps) < 2 ^ 961 := (io_ok (ps := ps) hp hl).2
theorem scaled_ok {g : Int} {most : Nat} {M : Mc} (h : MV g most M) (g9 : g.natAbs ≤ 1000000000) (hl : M.r.length ≤ 24) :
    m__law_scaled [ptD M] = some (.ok (.tup [.lst ((rowF M.b).map .int), .int (lcmF 1 (den M.b) : Nat), .lst (M.r.map (rsD (mid M))), .int (mid M), .lst ((rowF M.e).map .int), .int (lcmF 1 (den M.e) : Nat)]) [ptD M]) := by
  have hb6 := h.bl
  have hel := h.el
  have pb : ∀ p ∈ M.b, PN p := fun p hp => ng_pn g9 (h.b p hp)
  have pe : ∀ p ∈ M.e, PN p := fun p hp => ng_pn g9 (h.e p hp)
  have pr : ∀ r ∈ M.r, PN r.nu := fun r hr => ng_pn g9 (h.r r hr).nu
  have pr2 : ∀ p ∈ M.r.map Road.nu, PN p := fun p hp => by
    obtain ⟨r, hr, rfl⟩ := List.mem_map.mp hp
    exact pr r hr
  have o1 := over_ok (ps := M.b) (fun p hp => ⟨(pb p hp).1, (pb p hp).2.1⟩) (by omega)
  have o2 := over_ok (ps := M.e) (fun p hp => ⟨(pe p hp).1, (pe p hp).2.1⟩) (by omega)
  have o3 := over_ok (ps := M.r.map Road.nu) (fun p hp => ⟨(pr2 p hp).1, (pr2 p hp).2.1⟩) (by rw [List.length_map]; exact hl)
  have b1 := (bound pb (by omega)).2
  have b2 := (bound pe (by omega)).2
  have b3 := (bound pr2 (by rw [List.length_map]; exact hl)).2
  have c0 := fun a1 a2 a3 a5 a6 a7 a8 a9 x => nus_C (z := none) (b := none) (e := none) (a1 := a1) (a2 := a2) (a3 := a3) (a5 := a5) (a6 := a6) (a7 := a7) (a8 := a8) (a9 := a9) (x := x) (M := M) (by omega)
  have c3 := fun a1 a2 a5 a6 a7 a8 a9 x => rs_C (a1 := a1) (a2 := a2) (a5 := a5) (a6 := a6) (a7 := a7) (a8 := a8) (a9 := a9) (x := x) (M := M) (B := mid M) b3 pr (by omega)
  have c1 := fun a0 a2 a3 a4 a5 a8 a9 x y => sc1 (a0 := a0) (a2 := a2) (a3 := a3) (a4 := a4) (a5 := a5) (a8 := a8) (a9 := a9) b1 M.b [] x y pb (by simp; omega)
  have c2 := fun a0 a1 a3 a4 a5 a8 a9 x y => sc2 (a0 := a0) (a1 := a1) (a3 := a3) (a4 := a4) (a5 := a5) (a8 := a8) (a9 := a9) b2 M.e [] x y pe (by simp; omega)
  have e0 : ([] : List Int).map D.int = [] := rfl
  rw [e0] at c1 c2
  simp only [List.nil_append] at c1 c2
  have f1 : frzL ((M.b.map (scl (lcmF 1 (den M.b)))).map D.int) = _ := fzL_i _
  have f2 : frzL ((M.e.map (scl (lcmF 1 (den M.e)))).map D.int) = _ := fzL_i _
  have f3 : frzL ((M.r.map Road.nu).map nuD) = _ := fzL_n _
  have f4 : frzL (M.r.map (rsD (mid M))) = _ := fzL_rs _ _
  unfold rowF
  unfold mid at c3 f4 ⊢
  generalize (M.b.map (scl (lcmF 1 (den M.b)))).map D.int = R1 at c1 f1 ⊢
  generalize (M.e.map (scl (lcmF 1 (den M.e)))).map D.int = R2 at c2 f2 ⊢
  generalize M.r.map (rsD (lcmF 1 (den (M.r.map Road.nu)))) = R3 at c3 f4 ⊢
  generalize (M.r.map Road.nu).map nuD = R4 at c0 f3 o3
  generalize ((lcmF 1 (den (M.r.map Road.nu)) : Nat) : Int) = B3 at o3 c3 ⊢
  generalize ((lcmF 1 (den M.b) : Nat) : Int) = B1 at o1 c1 ⊢
  generalize ((lcmF 1 (den M.e) : Nat) : Int) = B2 at o2 c2 ⊢
  unfold ptD at c0 c3 ⊢
  simp (config := {decide := true, implicitDefEqProofs := false}) [r_fn, parOk, frzAt, outsD, List.range_succ, DL.gTup, DL.gLst, gGcd, gNeg, gDiv, gMod, gPow, DL.gSub, gAbs, gInt, gEq, gNe, gRng1, kwR, gmInsert, gmExtend, gmAppend, gmSet, ixR, DL.isNon, ixN, atI, lstD, seqD, gIsN, gNotN, m__law_scaled, f__law_scaled, o1, o2, o3, c0, a_C__law_scaled_1, c1, a_C__law_scaled_2, c2, c3, f1, f2, f3, f4]
theorem lst_loop {S : Option D} {n c : Nat} {B : Nat} {row : List Int} (hrow : row.length = n) (hK : Sm 500000 row) (hB : B < 2 ^ 961) : ∀ (rs : List Road) (acc : List Int) (x4 x5 x6 x7 : Option D), (∀ r ∈ rs, RG n r) → acc.length = n →
    ∃ (y4 y5 y6 y7 : Option D), forE (tgTup 4 (tgCons (tgN [] 4) (tgCons (tgN [] 5) (tgCons (tgN [] 6) (tgCons (tgN [] 7) (tgNil)))))) L__law_stepped_0 (rs.map (rsD B)) [S, some (.lst (row.map D.int)), some (sD [c]), some (.ol (acc.map D.int)), x4, x5, x6, x7] = some (.nx [S, some (.lst (row.map D.int)), some (sD [c]), some (.ol ((((rs.map toR).filter fun r => r.sg == c).foldl (addR B row) acc).map D.int)), y4, y5, y6, y7])
  | [], acc, x4, x5, x6, x7, hr, ha => ⟨x4, x5, x6, x7, rfl⟩
  | r :: rs, acc, x4, x5, x6, x7, hr, ha => by
    have v := hr r (by simp)
    have h1 := v.s1
    have h2 := v.b1
    obtain ⟨d, es⟩ := v.sg
    have et : (toR r).sg = d := by unfold toR; rw [es]; rfl
    have e1 := int_at (xs := row) v.s0 (by omega)
    have e2 := int_at (xs := acc) v.b0 (by omega)
    have ed : rsD B r = .tup [.int r.st, sD r.sg, .int r.bh, .int (scl B r.nu)] := rfl
    have ea : addR B row acc (toR r) = acc.set r.bh.toNat (acc.getD r.bh.toNat 0 + row.getD r.st.toNat 0 * scl B r.nu) := rfl
    rw [List.map_cons, List.map_cons, ed]
    by_cases hd : d = c
    · rw [List.filter_cons_of_pos (by simp [et, hd]), List.foldl_cons]
      have l1 := hK r.st.toNat
      have l2 := lg_le (i := scl B r.nu) (k := 1000) (scl_bd v hB)
      have l3 : lg (row.getD r.st.toNat 0) + lg (scl B r.nu) < 1000000 := by omega
      have eset := set_int (xs := acc) (y := acc.getD r.bh.toNat 0 + row.getD r.st.toNat 0 * scl B r.nu) v.b0 (by omega)
      rw [← ea] at eset
      obtain ⟨y4, y5, y6, y7, e⟩ := lst_loop (S := S) (c := c) hrow hK hB rs (addR B row acc (toR r)) (some (.int r.st)) (some (sD r.sg)) (some (.int r.bh)) (some (.int (scl B r.nu))) (fun r h => hr r (by simp [h])) (by rw [addR_len]; exact ha)
      refine ⟨y4, y5, y6, y7, ?_⟩
      rw [← e]
      generalize addR B row acc (toR r) = Y at eset ⊢
      generalize row.getD r.st.toNat 0 = u at e1 l3 eset
      generalize acc.getD r.bh.toNat 0 = w at e2 eset
      generalize scl B r.nu = t at l3 eset ⊢
      simp (config := {decide := true, implicitDefEqProofs := false}) [r_fn, parOk, frzAt, outsD, List.range_succ, DL.gTup, DL.gLst, gGcd, gNeg, gDiv, gMod, gPow, DL.gSub, gAbs, gInt, gEq, gNe, gRng1, kwR, gmInsert, gmExtend, gmAppend, ixR, DL.isNon, ixN, lstD, seqD, gIsN, gNotN, forE_1, a_L__law_stepped_0, e1, e2, l3, eset, es, hd]
    · rw [List.filter_cons_of_neg (by simp [et, hd])]
      obtain ⟨y4, y5, y6, y7, e⟩ := lst_loop (S := S) (c := c) hrow hK hB rs acc (some (.int r.st)) (some (sD r.sg)) (some (.int r.bh)) (some (.int (scl B r.nu))) (fun r h => hr r (by simp [h])) ha
      refine ⟨y4, y5, y6, y7, ?_⟩
      rw [← e]
      simp (config := {decide := true, implicitDefEqProofs := false}) [r_fn, parOk, frzAt, outsD, List.range_succ, DL.gTup, DL.gLst, gGcd, gNeg, gDiv, gMod, gPow, DL.gSub, gAbs, gInt, gEq, gNe, gRng1, kwR, gmInsert, gmExtend, gmAppend, ixR, DL.isNon, ixN, lstD, seqD, gIsN, gNotN, forE_1, a_L__law_stepped_0, es, hd]
theorem stepped_ok {rs : List Road} {n c B : Nat} {row : List Int} (hr : ∀ r ∈ rs, RG n r) (hrow : row.length = n) (hn : n ≤ 1000) (hK : Sm 500000 row) (hB : B < 2 ^ 961) :
    m__law_stepped [.lst (rs.map (rsD B)), .lst (row.map .int), sD [c]] = some (.ok (.ol ((stepF (rs.map toR) B c row).map .int)) [.lst (rs.map (rsD B)), .lst (row.map .int), sD [c]]) := by
  obtain ⟨y4, y5, y6, y7, e⟩ := lst_loop (S := some (.lst (rs.map (rsD B)))) (c := c) hrow hK hB rs (List.replicate n 0) none none none none hr (by rw [List.length_replicate])
  have ez := zeros n (by omega)
  unfold stepF
  rw [hrow]
  generalize (((rs.map toR).filter fun r => r.sg == c).foldl (addR B row) (List.replicate n 0)) = Y at e ⊢
  generalize (List.replicate n (0 : Int)) = Z at ez e
  generalize (rs.map (rsD B)) = X at e ⊢
  simp (config := {decide := true, implicitDefEqProofs := false}) [r_fn, parOk, frzAt, outsD, List.range_succ, DL.gTup, DL.gLst, gGcd, gNeg, gDiv, gMod, gPow, DL.gSub, gAbs, gInt, gEq, gNe, gRng1, kwR, gmInsert, gmExtend, gmAppend, gmSet, ixR, DL.isNon, ixN, atI, lstD, seqD, gIsN, gNotN, m__law_stepped, f__law_stepped, hrow, ez, e]
end K04

namespace K04
open PySem PySem.Spec PyProof.Rows L2 DL

theorem dI_succ (k n : Nat) : dInts (k : Int) (n + 1) = .int k :: dInts ((k + 1 : Nat) : Int) n := by
  unfold dInts
  rw [List.range_succ_eq_map, List.map_cons, List.map_map]
  have h1 : (k : Int) + ((0 : Nat) : Int) = k := by omega
  rw [h1]
  refine congrArg (List.cons _) (List.map_congr_left fun i _ => ?_)
  exact congrArg D.int (by show (k : Int) + ((i + 1 : Nat) : Int) = ((k + 1 : Nat) : Int) + (i : Int); omega)
def goL (rs : List Road) (B : Nat) : List Nat → List Int → Nat → List Int × Nat
  | [], row, b => (row, b)
  | c :: t, row, b => goL rs B t (stepF (rs.map toR) B c row) (b * B)
theorem goP_mul (rs : List Road) (e : Nat) : ∀ (t : List Nat) (row : List Int) (b : Nat), (goP rs t row (b * e)).1 = (goP rs t row b).1 ∧ (goP rs t row (b * e)).2 = (goP rs t row b).2 * e
  | [], row, b => ⟨rfl, rfl⟩
  | c :: t, row, b => by
    have ih := goP_mul rs e t (stepF (rs.map toR) (shr rs c) c row) (b * shr rs c)
    show (goP rs t _ (b * e * shr rs c)).1 = _ ∧ (goP rs t _ (b * e * shr rs c)).2 = _
    rw [show b * e * shr rs c = b * shr rs c * e by rw [Nat.mul_assoc, Nat.mul_comm e, Nat.mul_assoc]]
    exact ih
theorem dvd_int {d : Int} {B : Nat} (h : d.natAbs ∣ B) : d ∣ (B : Int) := Int.natAbs_dvd.mp (Int.ofNat_dvd.mpr h)
theorem go_rel {rs : List Road} {n : Nat} (hr : ∀ r ∈ rs, RG n r) : ∀ (t : List Nat) (rowL rowP : List Int) (bL bP : Nat), Rel bP bL rowL rowP →
    Rel ((goP rs t rowP bP).2 : Int) ((goL rs (lcmF 1 (den (rs.map Road.nu))) t rowL bL).2 : Int) (goL rs (lcmF 1 (den (rs.map Road.nu))) t rowL bL).1 (goP rs t rowP bP).1
  | [], rowL, rowP, bL, bP, h => h
  | c :: t, rowL, rowP, bL, bP, h => by
    refine go_rel hr t _ _ _ _ ?_
    rw [Int.natCast_mul, Int.natCast_mul]
    refine step_rel h fun r hr' hc => ?_
    obtain ⟨r0, h0, rfl⟩ := List.mem_map.mp hr'
    have v := hr r0 h0
    obtain ⟨d, es⟩ := v.sg
    have et : (toR r0).sg = d := by unfold toR; rw [es]; rfl
    have hdc : d = c := by rw [← et]; exact hc
    have hp := v.p
    refine ⟨by show r0.nu.2 ≠ 0; omega, dvd_int ?_, dvd_int ?_⟩
    · refine (lcmF_dvd _ 1).2 _ ?_
      unfold den
      rw [List.map_map]
      exact List.mem_map.mpr ⟨r0, h0, rfl⟩
    · refine (lcmF_dvd _ 1).2 _ ?_
      unfold dens
      exact List.mem_map.mpr ⟨r0, List.mem_filter.mpr ⟨h0, by simp [es, hdc]⟩, rfl⟩
theorem wl_loop {M : Mc} {a0 a1 a2 a3 a4 a7 a8 : Option D} (hr : ∀ r ∈ M.r, RG M.b.length r) (hl : M.r.length ≤ 24) (hb6 : M.b.length ≤ 6) (hB : mid M < 2 ^ 961) : ∀ (t : List Nat) (row : List Int) (b K : Nat) (d : D) (x : Option D), row.length = M.b.length → SmN K row → K + 1010 * t.length ≤ 490000 → b < 2 ^ K → RowD d row →
    ∃ (d' : D) (x' : Option D), forE (tgN [] 11) L__law_is_worth_0 ((sg t).map sD) [a0, a1, a2, a3, a4, some (.lst (M.r.map (rsD (mid M)))), some (.int (mid M)), a7, a8, some d, some (.int (b : Int)), x, none, none, none] = some (.nx [a0, a1, a2, a3, a4, some (.lst (M.r.map (rsD (mid M)))), some (.int (mid M)), a7, a8, some d', some (.int ((goL M.r (mid M) t row b).2 : Int)), x', none, none, none]) ∧ RowD d' (goL M.r (mid M) t row b).1 ∧ (goL M.r (mid M) t row b).1.length = M.b.length ∧ SmN 490000 (goL M.r (mid M) t row b).1 ∧ (goL M.r (mid M) t row b).2 < 2 ^ 490000
  | [], row, b, K, d, x, hrow, hS, hK, hb, hd => ⟨d, x, rfl, hd, hrow, hS.mono (by simpa using hK), Nat.lt_of_lt_of_le hb (Nat.pow_le_pow_right (by decide) (by simpa using hK))⟩
  | c :: t, row, b, K, d, x, hrow, hS, hK, hb, hd => by
    rw [List.length_cons] at hK
    have e1 := stepped_ok (c := c) hr hrow (by omega) (hS.mono (L := 500001) (by omega)).sm hB
    have hS' := step_bd (c := c) hr hl hB hS
    have hb' : b * mid M < 2 ^ (K + 1010) := by
      calc b * mid M ≤ b * 2 ^ 961 := Nat.mul_le_mul_left b (Nat.le_of_lt hB)
        _ < 2 ^ K * 2 ^ 961 := Nat.mul_lt_mul_of_pos_right hb (Nat.pow_pos (by decide))
        _ = 2 ^ (K + 961) := by rw [← Nat.pow_add]
        _ ≤ 2 ^ (K + 1010) := Nat.pow_le_pow_right (by decide) (by omega)
    obtain ⟨d', x', e, r1, r2, r3, r4⟩ := wl_loop (M := M) (a0 := a0) (a1 := a1) (a2 := a2) (a3 := a3) (a4 := a4) (a7 := a7) (a8 := a8) hr hl hb6 hB t (stepF (M.r.map toR) (mid M) c row) (b * mid M) (K + 1010) (.ol ((stepF (M.r.map toR) (mid M) c row).map .int)) (some (sD [c])) (by rw [stepF_len]; exact hrow) hS' (by omega) hb' (.inr rfl)
    refine ⟨d', x', ?_, r1, r2, r3, r4⟩
    have es : (sg (c :: t)).map sD = sD [c] :: (sg t).map sD := rfl
    show _ = some (SOut.nx [a0, a1, a2, a3, a4, some (.lst (M.r.map (rsD (mid M)))), some (.int (mid M)), a7, a8, some d', some (.int ((goL M.r (mid M) t (stepF (M.r.map toR) (mid M) c row) (b * mid M)).2 : Int)), x', none, none, none])
    rw [es, ← e]
    have ll : lg (b : Int) + lg (mid M : Int) < 1000000 := by
      have a1 := lg_le (i := (b : Int)) (k := 490000) (by rw [Int.natAbs_natCast]; exact Nat.lt_of_lt_of_le hb (Nat.pow_le_pow_right (by decide) (by omega)))
      have a2 := lg_le (i := (mid M : Int)) (k := 961) (by rw [Int.natAbs_natCast]; exact Nat.lt_of_lt_of_le hB (Nat.pow_le_pow_right (by decide) (by decide)))
      omega
    have ec : ((b * mid M : Nat) : Int) = (b : Int) * (mid M : Int) := Int.natCast_mul _ _
    rw [ec]
    generalize stepF (M.r.map toR) (mid M) c row = Y at e1 ⊢
    generalize M.r.map (rsD (mid M)) = X at e1 ⊢
    generalize (mid M : Int) = sh at ll ⊢
    rcases hd with rfl | rfl
    · simp (config := {decide := true, implicitDefEqProofs := false}) [r_fn, parOk, frzAt, outsD, List.range_succ, DL.gTup, DL.gLst, gGcd, gNeg, gDiv, gMod, gPow, DL.gSub, gAbs, gInt, gEq, gNe, gRng1, kwR, gmInsert, gmExtend, gmAppend, gmSet, ixR, DL.isNon, ixN, atI, lstD, seqD, gIsN, gNotN, forE_1, a_L__law_is_worth_0, e1, ll]
    · simp (config := {decide := true, implicitDefEqProofs := false}) [r_fn, parOk, frzAt, outsD, List.range_succ, DL.gTup, DL.gLst, gGcd, gNeg, gDiv, gMod, gPow, DL.gSub, gAbs, gInt, gEq, gNe, gRng1, kwR, gmInsert, gmExtend, gmAppend, gmSet, ixR, DL.isNon, ixN, atI, lstD, seqD, gIsN, gNotN, forE_1, a_L__law_is_worth_0, e1, ll]
theorem idx_comp {d : D} {row es : List Int} {a0 a1 a2 a3 a4 a5 a6 a8 a10 a11 a12 a14 : Option D} (hd : RowD d row) (hl : row.length = es.length) (hs : ∀ i, lg (row.getD i 0) + lg (es.getD i 0) < 1000000) : ∀ (m k : Nat) (acc : List Int) (x : Option D), k + m = es.length → acc.length + m ≤ 1000 →
    compE [13] (tgN [0, 1, 2, 3, 4, 5, 6, 7, 8, 9, 10, 11, 12, 14] 13) (evYes) (ev2 gMul (evIx (evV 9) (evV 13)) (evIx (evV 7) (evV 13))) (dInts k m) (acc.map .int) [a0, a1, a2, a3, a4, a5, a6, some (.lst (es.map .int)), a8, some d, a10, a11, a12, x, a14] =
      some ((acc ++ ((row.drop k).zip (es.drop k)).map fun p => p.1 * p.2).map .int, [a0, a1, a2, a3, a4, a5, a6, some (.lst (es.map .int)), a8, some d, a10, a11, a12, none, a14])
  | 0, k, acc, x, hk, hz => by
    have e0 : dInts (k : Int) 0 = [] := rfl
    rw [e0, List.drop_eq_nil_of_le (show es.length ≤ k by omega), List.zip_nil_right]
    simp [comp_0]
  | m + 1, k, acc, x, hk, hz => by
    have hk1 : k < es.length := by omega
    have hk2 : k < row.length := by omega
    have e := idx_comp (a0 := a0) (a1 := a1) (a2 := a2) (a3 := a3) (a4 := a4) (a5 := a5) (a6 := a6) (a8 := a8) (a10 := a10) (a11 := a11) (a12 := a12) (a14 := a14) hd hl hs m (k + 1) (acc ++ [row.getD k 0 * es.getD k 0]) (some (.int (k : Int))) (by omega) (by simp; omega)
    have ea : acc ++ ((row.drop k).zip (es.drop k)).map (fun p => p.1 * p.2) = acc ++ [row.getD k 0 * es.getD k 0] ++ ((row.drop (k + 1)).zip (es.drop (k + 1))).map (fun p => p.1 * p.2) := by
      rw [List.drop_eq_getElem_cons hk1, List.drop_eq_getElem_cons hk2, List.zip_cons_cons, List.map_cons, List.getD_eq_getElem?_getD, List.getD_eq_getElem?_getD, List.getElem?_eq_getElem hk1, List.getElem?_eq_getElem hk2]
      simp
    have es' : (acc ++ [row.getD k 0 * es.getD k 0]).map D.int = acc.map .int ++ [.int (row.getD k 0 * es.getD k 0)] := by simp
    have i1 := int_at (xs := row) (i := (k : Int)) (by omega) (by omega)
    have i2 := int_at (xs := es) (i := (k : Int)) (by omega) (by omega)
    rw [Int.toNat_natCast] at i1 i2
    have hl3 := hs k
    have hz' : acc.length < 16777216 := by omega
    rw [ea, ← e, es', dI_succ]
    generalize dInts ((k + 1 : Nat) : Int) m = ts
    generalize row.getD k 0 = u at i1 hl3 ⊢
    generalize es.getD k 0 = w at i2 hl3 ⊢
    generalize (k : Int) = kk at i1 i2 ⊢
    rcases hd with rfl | rfl
    · simp (config := {decide := true, implicitDefEqProofs := false}) [r_fn, parOk, frzAt, outsD, List.range_succ, DL.gTup, DL.gLst, gGcd, gNeg, gDiv, gMod, gPow, DL.gSub, gAbs, gInt, gEq, gNe, gRng1, kwR, gmInsert, gmExtend, gmAppend, gmSet, ixR, DL.isNon, ixN, lstD, seqD, gIsN, gNotN, comp_1, i1, i2, hl3, hz']
    · simp (config := {decide := true, implicitDefEqProofs := false}) [r_fn, parOk, frzAt, outsD, List.range_succ, DL.gTup, DL.gLst, gGcd, gNeg, gDiv, gMod, gPow, DL.gSub, gAbs, gInt, gEq, gNe, gRng1, kwR, gmInsert, gmExtend, gmAppend, gmSet, ixR, DL.isNon, ixN, lstD, seqD, gIsN, gNotN, comp_1, i1, i2, hl3, hz']
end K04

namespace K04
open PySem PySem.Spec PyProof.Rows L2 DL

theorem dot_bd {K L : Nat} : ∀ {xs ys : List Int}, (∀ x ∈ xs, x.natAbs < 2 ^ K) → (∀ y ∈ ys, y.natAbs < 2 ^ L) → (dot xs ys).natAbs ≤ xs.length * 2 ^ (K + L)
  | [], ys, h1, h2 => by simp [dot]
  | x :: xs, [], h1, h2 => by simp [dot]
  | x :: xs, y :: ys, h1, h2 => by
    have ih := dot_bd (xs := xs) (ys := ys) (K := K) (L := L) (fun z hz => h1 z (by simp [hz])) (fun z hz => h2 z (by simp [hz]))
    unfold dot at ih ⊢
    rw [List.zip_cons_cons, List.map_cons, List.sum_cons, List.length_cons]
    have a3 := Int.natAbs_add_le (x * y) (((xs.zip ys).map fun p => p.1 * p.2).sum)
    have a4 : (x * y).natAbs ≤ 2 ^ (K + L) := by
      rw [Int.natAbs_mul, Nat.pow_add]
      exact Nat.mul_le_mul (Nat.le_of_lt (h1 x (by simp))) (Nat.le_of_lt (h2 y (by simp)))
    rw [Nat.add_mul, Nat.one_mul]
    show (x * y + _).natAbs ≤ _
    omega
theorem row_bd {ps : List Nm} (hp : ∀ p ∈ ps, PN p) (hB : lcmF 1 (den ps) < 2 ^ 961) : ∀ x ∈ rowF ps, x.natAbs < 2 ^ 1001 := fun x hx => by
  obtain ⟨p, hpp, rfl⟩ := List.mem_map.mp hx
  obtain ⟨h1, h2, h4⟩ := hp p hpp
  unfold scl
  have h3 := fdiv_le (b := lcmF 1 (den ps)) h1
  rw [Int.natAbs_mul]
  have a1 : p.1.natAbs < 2 ^ 40 := Nat.lt_of_le_of_lt h4 (by decide)
  calc p.1.natAbs * ((lcmF 1 (den ps) : Int).fdiv p.2).natAbs < 2 ^ 40 * 2 ^ 961 := Nat.mul_lt_mul'' a1 (by omega)
    _ = 2 ^ 1001 := by rw [← Nat.pow_add]
theorem smn_of {K : Nat} {xs : List Int} (h : ∀ x ∈ xs, x.natAbs < 2 ^ K) : SmN K xs := fun i => by
  rw [List.getD_eq_getElem?_getD]
  cases hx : xs[i]? with
  | none => exact Nat.pow_pos (by decide)
  | some x => exact h x (List.mem_of_getElem? hx)
theorem of_smn {K : Nat} {xs : List Int} (h : SmN K xs) : ∀ x ∈ xs, x.natAbs < 2 ^ K := fun x hx => by
  obtain ⟨i, hi⟩ := List.mem_iff_getElem?.mp hx
  have := h i
  rwa [List.getD_eq_getElem?_getD, hi] at this
theorem goL_len {rs : List Road} {B : Nat} : ∀ (t : List Nat) (row : List Int) (b : Nat), (goL rs B t row b).1.length = row.length
  | [], row, b => rfl
  | c :: t, row, b => by
    show (goL rs B t _ _).1.length = _
    rw [goL_len t, stepF_len]
/-- what is told, by the law's own row -/
theorem worth_rel {g : Int} {most : Nat} {M : Mc} {t : List Nat} (h : MV g most M) (g9 : g.natAbs ≤ 1000000000)
    (hbig : 1 ≤ (goP M.r t (rowF M.b) (lcmF 1 (den M.b))).2 * lcmF 1 (den M.e)) :
    ∃ p : Nm, ansD M t = nuD p ∧ 1 ≤ p.2 ∧ Nat.gcd p.1.natAbs p.2.natAbs = 1 ∧ p.2.natAbs ≤ (goP M.r t (rowF M.b) (lcmF 1 (den M.b))).2 * lcmF 1 (den M.e) ∧ p.1.natAbs ≤ (dot (goP M.r t (rowF M.b) (lcmF 1 (den M.b))).1 (rowF M.e)).natAbs ∧
      p.1 * ((goL M.r (mid M) t (rowF M.b) (lcmF 1 (den M.b) * lcmF 1 (den M.e))).2 : Int) = dot (goL M.r (mid M) t (rowF M.b) (lcmF 1 (den M.b) * lcmF 1 (den M.e))).1 (rowF M.e) * p.2 := by
  have hr := h.rg g9
  have e0 := go_rel hr t (rowF M.b) (rowF M.b) (lcmF 1 (den M.b) * lcmF 1 (den M.e)) (lcmF 1 (den M.b) * lcmF 1 (den M.e)) rfl
  obtain ⟨m1, m2⟩ := goP_mul M.r (lcmF 1 (den M.e)) t (rowF M.b) (lcmF 1 (den M.b))
  rw [m1, m2] at e0
  have e1 := dot_rel (es := rowF M.e) e0
  unfold ansD
  have hm : mid M = lcmF 1 (den (M.r.map Road.nu)) := rfl
  rw [hm]
  generalize goL M.r (lcmF 1 (den (M.r.map Road.nu))) t (rowF M.b) (lcmF 1 (den M.b) * lcmF 1 (den M.e)) = GL at e1 ⊢
  generalize (goP M.r t (rowF M.b) (lcmF 1 (den M.b))).2 * lcmF 1 (den M.e) = bb at e1 hbig ⊢
  generalize dot (goP M.r t (rowF M.b) (lcmF 1 (den M.b))).1 (rowF M.e) = aP at e1 ⊢
  have hb1 : (1 : Int) ≤ (bb : Int) := by omega
  obtain ⟨p, hp, p1, p2, p3, p4⟩ := low_ok (a := aP) (b := (bb : Int)) hb1
  rw [Int.natAbs_natCast] at p4
  refine ⟨p, hp, p1, p2, p4, p3, ?_⟩
  obtain ⟨d1, d2⟩ := sgc_dvd aP (bb : Int)
  have hc : sgc aP (bb : Int) ≠ 0 := fun hc => by
    rw [hc] at d2
    have := Int.zero_dvd.mp d2
    omega
  have hp' : nuD p = .tup [.int (aP.fdiv (sgc aP bb)), .int ((bb : Int).fdiv (sgc aP bb))] := hp.symm
  have q1 : p.1 = aP.fdiv (sgc aP bb) := by
    injection hp' with hh
    injection hh with h1 h2
    injection h1
  have q2 : p.2 = (bb : Int).fdiv (sgc aP bb) := by
    injection hp' with hh
    injection hh with h1 h2
    injection h2 with h2 _
    injection h2
  refine worth_eq hc (aP := aP) (bP := (bb : Int)) ?_ ?_ e1
  · rw [q1, Int.fdiv_eq_ediv_of_dvd d1]
    exact Int.ediv_mul_cancel d1
  · rw [q2, Int.fdiv_eq_ediv_of_dvd d2]
    exact Int.ediv_mul_cancel d2
end K04

namespace K04
open PySem PySem.Spec PyProof.Rows L2 DL

theorem one_loop {a0 a1 a2 a3 a4 a5 a6 a7 a8 a9 a10 a11 a12 a13 x : Option D} (u v : Int) : forE (tgN [] 14) L__law_is_worth_1 [.int u, .int v] [a0, a1, a2, a3, a4, a5, a6, a7, a8, a9, a10, a11, a12, a13, x] = some (.nx [a0, a1, a2, a3, a4, a5, a6, a7, a8, a9, a10, a11, a12, a13, some (.int v)]) := by
  simp (config := {decide := true, implicitDefEqProofs := false}) [r_fn, parOk, frzAt, outsD, List.range_succ, DL.gTup, DL.gLst, gGcd, gNeg, gDiv, gMod, gPow, DL.gSub, gAbs, gInt, gEq, gNe, gRng1, kwR, gmInsert, gmExtend, gmAppend, gmSet, ixR, DL.isNon, ixN, atI, lstD, seqD, gIsN, gNotN, forE_1, forE_0, a_L__law_is_worth_1, tab]
theorem is_worth_ok {g : Int} {most : Nat} {M : Mc} {t : List Nat} (h : MV g most M) (g9 : g.natAbs ≤ 1000000000) (hl : M.r.length ≤ 24) (htl : t.length ≤ 450) (hbig : 1 ≤ (goP M.r t (rowF M.b) (lcmF 1 (den M.b))).2 * lcmF 1 (den M.e) ∧ (goP M.r t (rowF M.b) (lcmF 1 (den M.b))).2 * lcmF 1 (den M.e) < 2 ^ 9000) :
    m__law_is_worth [ansD M t, ptD M, sD t] = some (.ok (.bl true) [ansD M t, ptD M, sD t]) := by
  have hr := h.rg g9
  have hb6 := h.bl
  have hel := h.el
  have pb : ∀ p ∈ M.b, PN p := fun p hp => ng_pn g9 (h.b p hp)
  have pe : ∀ p ∈ M.e, PN p := fun p hp => ng_pn g9 (h.e p hp)
  have pr2 : ∀ p ∈ M.r.map Road.nu, PN p := fun p hp => by
    obtain ⟨r, hr, rfl⟩ := List.mem_map.mp hp
    exact ng_pn g9 (h.r r hr).nu
  obtain ⟨b0, b1⟩ := bound pb (by omega)
  obtain ⟨c0, c1⟩ := bound pe (by omega)
  obtain ⟨m0, m1⟩ := bound pr2 (by rw [List.length_map]; exact hl)
  have esc := scaled_ok h g9 hl
  obtain ⟨p, hp, p1, p2, p3, p4, p5⟩ := worth_rel (t := t) h g9 hbig.1
  have hfl : lcmF 1 (den M.b) * lcmF 1 (den M.e) < 2 ^ 1930 := by
    calc lcmF 1 (den M.b) * lcmF 1 (den M.e) < 2 ^ 961 * 2 ^ 961 := Nat.mul_lt_mul'' b1 c1
      _ = 2 ^ 1922 := by rw [← Nat.pow_add]
      _ ≤ 2 ^ 1930 := Nat.pow_le_pow_right (by decide) (by decide)
  obtain ⟨d', x', ew, r1, r2, r3, r4⟩ := wl_loop (M := M) (a0 := some (nuD p)) (a1 := some (ptD M)) (a2 := some (sD t)) (a3 := some (.lst ((rowF M.b).map .int))) (a4 := some (.int (lcmF 1 (den M.b) : Nat))) (a7 := some (.lst ((rowF M.e).map .int))) (a8 := some (.int (lcmF 1 (den M.e) : Nat))) hr hl hb6 m1 t (rowF M.b) (lcmF 1 (den M.b) * lcmF 1 (den M.e)) 1930 (.lst ((rowF M.b).map .int)) none (by unfold rowF; rw [List.length_map]) ((smn_of (row_bd pb b1)).mono (by decide)) (by omega) hfl (.inl rfl)
  have gl : (goP M.r t (rowF M.b) (lcmF 1 (den M.b))).1.length = M.b.length ∧ SmN 490000 (goP M.r t (rowF M.b) (lcmF 1 (den M.b))).1 := by
    have key : ∀ (t : List Nat) (row : List Int) (b K : Nat), row.length = M.b.length → SmN K row → (goP M.r t row b).1.length = M.b.length ∧ SmN (K + 1010 * t.length) (goP M.r t row b).1 := by
      intro t
      induction t with
      | nil => intro row b K q1 q2; exact ⟨q1, q2⟩
      | cons c t ih =>
        intro row b K q1 q2
        have := ih (stepF (M.r.map toR) (shr M.r c) c row) (b * shr M.r c) (K + 1010) (by rw [stepF_len]; exact q1) (step_bd hr hl (shr_ok hr hl).2 q2)
        refine ⟨this.1, ?_⟩
        rw [List.length_cons, show K + 1010 * (t.length + 1) = K + 1010 + 1010 * t.length by omega]
        exact this.2
    have k := key t (rowF M.b) (lcmF 1 (den M.b)) 1001 (by unfold rowF; rw [List.length_map]) (smn_of (row_bd pb b1))
    exact ⟨k.1, k.2.mono (by omega)⟩
  have sz : ∀ (row : List Int), row.length = M.b.length → SmN 490000 row → (dot row (rowF M.e)).natAbs < 2 ^ 491010 := fun row q1 q2 => by
    have k := dot_bd (xs := row) (ys := rowF M.e) (of_smn q2) (row_bd pe c1)
    rw [q1] at k
    calc (dot row (rowF M.e)).natAbs ≤ M.b.length * 2 ^ (490000 + 1001) := k
      _ ≤ 6 * 2 ^ (490000 + 1001) := Nat.mul_le_mul_right _ hb6
      _ < 2 ^ 9 * 2 ^ (490000 + 1001) := Nat.mul_lt_mul_of_pos_right (by decide) (Nat.pow_pos (by decide))
      _ = 2 ^ 491010 := by rw [← Nat.pow_add]
  have l1 : lg p.1 + lg ((goL M.r (mid M) t (rowF M.b) (lcmF 1 (den M.b) * lcmF 1 (den M.e))).2 : Int) < 1000000 := by
    have s1 := sz _ gl.1 gl.2
    have a1 := lg_le (i := p.1) (k := 491010) (by
      have : (2 : Nat) ^ 491010 ≤ 2 ^ (491010 + 1) := Nat.pow_le_pow_right (by decide) (by omega)
      omega)
    have a2 := lg_le (i := ((goL M.r (mid M) t (rowF M.b) (lcmF 1 (den M.b) * lcmF 1 (den M.e))).2 : Int)) (k := 490000) (by rw [Int.natAbs_natCast]; exact Nat.lt_of_lt_of_le r4 (Nat.pow_le_pow_right (by decide) (by omega)))
    omega
  have l2 : lg (dot (goL M.r (mid M) t (rowF M.b) (lcmF 1 (den M.b) * lcmF 1 (den M.e))).1 (rowF M.e)) + lg p.2 < 1000000 := by
    have s1 := sz _ r2 r3
    have a1 := lg_le (i := dot (goL M.r (mid M) t (rowF M.b) (lcmF 1 (den M.b) * lcmF 1 (den M.e))).1 (rowF M.e)) (k := 491010) (Nat.lt_of_lt_of_le s1 (Nat.pow_le_pow_right (by decide) (by omega)))
    have a2 := lg_le (i := p.2) (k := 9000) (Nat.lt_of_lt_of_le (Nat.lt_of_le_of_lt p3 hbig.2) (Nat.pow_le_pow_right (by decide) (by omega)))
    omega
  have l3 : lg ((lcmF 1 (den M.b) : Nat) : Int) + lg ((lcmF 1 (den M.e) : Nat) : Int) < 1000000 := by
    have a1 := lg_le (i := ((lcmF 1 (den M.b) : Nat) : Int)) (k := 961) (by rw [Int.natAbs_natCast]; exact Nat.lt_of_lt_of_le b1 (Nat.pow_le_pow_right (by decide) (by omega)))
    have a2 := lg_le (i := ((lcmF 1 (den M.e) : Nat) : Int)) (k := 961) (by rw [Int.natAbs_natCast]; exact Nat.lt_of_lt_of_le c1 (Nat.pow_le_pow_right (by decide) (by omega)))
    omega
  have ecm : ((lcmF 1 (den M.b) * lcmF 1 (den M.e) : Nat) : Int) = (lcmF 1 (den M.b) : Int) * (lcmF 1 (den M.e) : Int) := Int.natCast_mul _ _
  rw [ecm] at ew
  have hix : ∀ i, lg ((goL M.r (mid M) t (rowF M.b) (lcmF 1 (den M.b) * lcmF 1 (den M.e))).1.getD i 0) + lg ((rowF M.e).getD i 0) < 1000000 := fun i => by
    have a1 := (r3.mono (L := 490001) (by omega)).sm i
    have a2 := ((smn_of (row_bd pe c1)).mono (L := 1001) (by omega)).sm (K := 1000) i
    omega
  have hre : (goL M.r (mid M) t (rowF M.b) (lcmF 1 (den M.b) * lcmF 1 (den M.e))).1.length = (rowF M.e).length := by
    rw [r2]
    unfold rowF
    rw [List.length_map]
    exact hel.symm
  have ele : (rowF M.e).length ≤ 6 := by unfold rowF; rw [List.length_map]; omega
  have eI := fun a0 a1 a2 a3 a4 a5 a6 a8 a10 a11 a12 a14 x => idx_comp (a0 := a0) (a1 := a1) (a2 := a2) (a3 := a3) (a4 := a4) (a5 := a5) (a6 := a6) (a8 := a8) (a10 := a10) (a11 := a11) (a12 := a12) (a14 := a14) r1 hre hix (rowF M.e).length 0 [] x (by omega) (by simp; omega)
  have e0 : ([] : List Int).map D.int = [] := rfl
  have ei : (((0 : Nat) : Int)) = 0 := rfl
  rw [e0, ei] at eI
  simp only [List.nil_append, List.drop_zero] at eI
  generalize goL M.r (mid M) t (rowF M.b) (lcmF 1 (den M.b) * lcmF 1 (den M.e)) = G at ew r1 r2 r3 r4 p5 l1 l2 eI
  obtain ⟨row, bb⟩ := G
  dsimp only at ew r1 r2 r3 r4 p5 l1 l2 eI
  have esum := sum_map ((row.zip (rowF M.e)).map fun p => p.1 * p.2)
  have ed : dot row (rowF M.e) = ((row.zip (rowF M.e)).map fun p => p.1 * p.2).sum := rfl
  rw [ed] at p5 l2
  rw [hp]
  have eg := gcd_ok p.1 p.2
  rw [p2] at eg
  have bl1 : -4611686018427387904 ≤ ((rowF M.e).length : Int) ∧ ((rowF M.e).length : Int) < 4611686018427387904 := by omega
  have bl2 : (((rowF M.e).length : Int)).toNat = (rowF M.e).length := rfl
  have eo := fun a0 a1 a2 a3 a4 a5 a6 a7 a8 a9 a10 a11 a12 a13 x => one_loop (a0 := a0) (a1 := a1) (a2 := a2) (a3 := a3) (a4 := a4) (a5 := a5) (a6 := a6) (a7 := a7) (a8 := a8) (a9 := a9) (a10 := a10) (a11 := a11) (a12 := a12) (a13 := a13) (x := x) p.1 p.2
  have np : ¬ p.2 < 1 := by omega
  have en : nuD p = .tup [.int p.1, .int p.2] := rfl
  rw [en] at ew ⊢
  generalize hP : ((row.zip (rowF M.e)).map fun p => p.1 * p.2).map D.int = P at eI esum
  generalize (((row.zip (rowF M.e)).map fun p => p.1 * p.2).sum) = su at p5 l2 esum
  have hml : ((rowF M.e).map D.int).length = (rowF M.e).length := by rw [List.length_map]
  generalize (rowF M.e).length = nn at eI bl1 bl2 hml ele
  generalize (rowF M.e).map D.int = Em at esc ew eI hml
  generalize (rowF M.b).map D.int = Bm at esc ew
  generalize M.r.map (rsD (mid M)) = Rm at esc ew
  generalize ((mid M : Nat) : Int) = mm at esc ew
  generalize ((lcmF 1 (den M.b) : Nat) : Int) = fb at esc ew l3
  generalize ((lcmF 1 (den M.e) : Nat) : Int) = fe at esc ew l3
  unfold ptD at esc ew ⊢
  clear hp en p1 p2 p3 p4 hix r1 r2 r3 r4 hre sz gl hbig
  generalize p.1 = u at ew p5 l1 eg eo ⊢
  generalize p.2 = v at ew p5 l2 eg np eo ⊢
  by_cases h1 : v = 1
  · subst h1
    simp (config := {decide := true, implicitDefEqProofs := false}) [r_fn, parOk, frzAt, outsD, List.range_succ, DL.gTup, DL.gLst, gGcd, gNeg, gDiv, gMod, gPow, DL.gSub, gAbs, gInt, gEq, gNe, gRng1, kwR, gmInsert, gmExtend, gmAppend, gmSet, ixR, DL.isNon, ixN, atI, lstD, seqD, gIsN, gNotN, m__law_is_worth, f__law_is_worth, esc, ew, tab, gRng1, gItT, hml, bl1, bl2, a_C__law_is_worth_0, eI, esum, eo, p5, l1, l2, l3, eg]
  · simp (config := {decide := true, implicitDefEqProofs := false}) [r_fn, parOk, frzAt, outsD, List.range_succ, DL.gTup, DL.gLst, gGcd, gNeg, gDiv, gMod, gPow, DL.gSub, gAbs, gInt, gEq, gNe, gRng1, kwR, gmInsert, gmExtend, gmAppend, gmSet, ixR, DL.isNon, ixN, atI, lstD, seqD, gIsN, gNotN, m__law_is_worth, f__law_is_worth, esc, ew, tab, gRng1, gItT, hml, bl1, bl2, a_C__law_is_worth_0, eI, esum, eo, np, p5, l1, l2, l3, eg, h1]
end K04

namespace K04
open PySem PySem.Spec PyProof.Rows L2 DL

/-! ### the bottoms stay small -/
theorem lcmF_le {K : Nat} : ∀ (ds : List Nat) (b : Nat), (∀ d ∈ ds, 1 ≤ d ∧ d ≤ 2 ^ K) → lcmF b ds ≤ b * 2 ^ (K * ds.length)
  | [], b, h => by show b ≤ b * 2 ^ (K * 0); rw [Nat.mul_zero, Nat.pow_zero, Nat.mul_one]; exact Nat.le_refl b
  | d :: ds, b, h => by
    rw [lcmF_cons]
    have ih := lcmF_le ds (Nat.lcm b d) fun e he => h e (by simp [he])
    have h1 : Nat.lcm b d ≤ b * d := by
      unfold Nat.lcm
      exact Nat.div_le_self _ _
    have h2 : b * d ≤ b * 2 ^ K := Nat.mul_le_mul_left b (h d (by simp)).2
    calc lcmF (Nat.lcm b d) ds ≤ Nat.lcm b d * 2 ^ (K * ds.length) := ih
      _ ≤ b * 2 ^ K * 2 ^ (K * ds.length) := Nat.mul_le_mul_right _ (Nat.le_trans h1 h2)
      _ = b * 2 ^ (K * (d :: ds).length) := by
        rw [Nat.mul_assoc, ← Nat.pow_add, List.length_cons, Nat.mul_add, Nat.mul_one, Nat.add_comm K]
theorem goP_le {rs : List Road} {S : Nat} (hs : ∀ c, 1 ≤ shr rs c ∧ shr rs c ≤ 2 ^ S) : ∀ (t : List Nat) (row : List Int) (b : Nat), 1 ≤ b → 1 ≤ (goP rs t row b).2 ∧ (goP rs t row b).2 ≤ b * 2 ^ (S * t.length)
  | [], row, b, h => ⟨h, by show b ≤ b * 2 ^ (S * 0); rw [Nat.mul_zero, Nat.pow_zero, Nat.mul_one]; exact Nat.le_refl b⟩
  | c :: t, row, b, h => by
    obtain ⟨h1, h2⟩ := hs c
    have ih := goP_le hs t (stepF (rs.map toR) (shr rs c) c row) (b * shr rs c) (Nat.mul_pos h h1)
    refine ⟨ih.1, Nat.le_trans ih.2 ?_⟩
    calc b * shr rs c * 2 ^ (S * t.length) ≤ b * 2 ^ S * 2 ^ (S * t.length) := Nat.mul_le_mul_right _ (Nat.mul_le_mul_left b h2)
      _ = b * 2 ^ (S * (c :: t).length) := by
        rw [Nat.mul_assoc, ← Nat.pow_add, List.length_cons, Nat.mul_add, Nat.mul_one, Nat.add_comm S]
/-- a machine the law draws: K bits a bottom -/
structure MG (M : Mc) (len : Nat) : Prop where
  g : ∃ (g : Int) (most : Nat), MV g most M ∧ g.natAbs ≤ 1000000000
  l : M.r.length ≤ 24
  abc : ∀ c ∈ M.z, c ∈ abc
  asc : M.z.Pairwise (· < ·)
  K : ∃ K, (∀ p ∈ M.b, p.2.natAbs ≤ 2 ^ K) ∧ (∀ p ∈ M.e, p.2.natAbs ≤ 2 ^ K) ∧ (∀ r ∈ M.r, r.nu.2.natAbs ≤ 2 ^ K) ∧ K * M.r.length * len + K * 12 ≤ 8990
theorem MG.big {M : Mc} {len : Nat} (h : MG M len) {t : List Nat} (ht : t.length ≤ len) : 1 ≤ (goP M.r t (rowF M.b) (lcmF 1 (den M.b))).2 * lcmF 1 (den M.e) ∧ (goP M.r t (rowF M.b) (lcmF 1 (den M.b))).2 * lcmF 1 (den M.e) < 2 ^ 9000 := by
  obtain ⟨g, most, v, g9⟩ := h.g
  obtain ⟨K, k1, k2, k3, k4⟩ := h.K
  have hr := v.rg g9
  have b6 := v.bl
  have el := v.el
  have hs : ∀ c, 1 ≤ shr M.r c ∧ shr M.r c ≤ 2 ^ (K * M.r.length) := fun c => by
    refine ⟨(shr_ok hr h.l).1, ?_⟩
    have := lcmF_le (K := K) (dens M.r c) 1 fun d hd => by
      obtain ⟨r, hr', rfl⟩ := List.mem_map.mp hd
      have hm := (List.mem_filter.mp hr').1
      exact ⟨by have := (hr r hm).p; omega, k3 r hm⟩
    rw [Nat.one_mul] at this
    refine Nat.le_trans this (Nat.pow_le_pow_right (by decide) (Nat.mul_le_mul_left K ?_))
    unfold dens
    rw [List.length_map]
    exact List.length_filter_le _ _
  have hb : 1 ≤ lcmF 1 (den M.b) ∧ lcmF 1 (den M.b) ≤ 2 ^ (K * 6) := by
    refine ⟨(bound (fun p hp => ng_pn g9 (v.b p hp)) (by omega)).1, ?_⟩
    have := lcmF_le (K := K) (den M.b) 1 fun d hd => by
      obtain ⟨p, hp, rfl⟩ := List.mem_map.mp hd
      exact ⟨by have := (v.b p hp).pos; omega, k1 p hp⟩
    rw [Nat.one_mul] at this
    refine Nat.le_trans this (Nat.pow_le_pow_right (by decide) (Nat.mul_le_mul_left K ?_))
    unfold den
    rw [List.length_map]
    exact b6
  have he : 1 ≤ lcmF 1 (den M.e) ∧ lcmF 1 (den M.e) ≤ 2 ^ (K * 6) := by
    refine ⟨(bound (fun p hp => ng_pn g9 (v.e p hp)) (by omega)).1, ?_⟩
    have := lcmF_le (K := K) (den M.e) 1 fun d hd => by
      obtain ⟨p, hp, rfl⟩ := List.mem_map.mp hd
      exact ⟨by have := (v.e p hp).pos; omega, k2 p hp⟩
    rw [Nat.one_mul] at this
    refine Nat.le_trans this (Nat.pow_le_pow_right (by decide) (Nat.mul_le_mul_left K ?_))
    unfold den
    rw [List.length_map]
    omega
  obtain ⟨q1, q2⟩ := goP_le hs t (rowF M.b) (lcmF 1 (den M.b)) hb.1
  refine ⟨Nat.mul_pos q1 he.1, ?_⟩
  calc (goP M.r t (rowF M.b) (lcmF 1 (den M.b))).2 * lcmF 1 (den M.e) ≤ lcmF 1 (den M.b) * 2 ^ (K * M.r.length * t.length) * 2 ^ (K * 6) := Nat.mul_le_mul q2 he.2
    _ ≤ 2 ^ (K * 6) * 2 ^ (K * M.r.length * len) * 2 ^ (K * 6) := Nat.mul_le_mul_right _ (Nat.mul_le_mul hb.2 (Nat.pow_le_pow_right (by decide) (Nat.mul_le_mul_left _ ht)))
    _ = 2 ^ (K * 6 + K * M.r.length * len + K * 6) := by rw [← Nat.pow_add, ← Nat.pow_add]
    _ < 2 ^ 9000 := Nat.pow_lt_pow_right (by decide) (by omega)
theorem call_g {M : Mc} {len : Nat} (h : MG M len) {t : List Nat} (ht : t.length ≤ len) (hl : len ≤ 450) (hz : ∀ c ∈ t, c ∈ M.z) : m_Machine____call__ [mkD M, sD t] = some (.ok (ansD M t) [mkD M, sD t]) ∧ m__law_is_worth [ansD M t, ptD M, sD t] = some (.ok (.bl true) [ansD M t, ptD M, sD t]) := by
  obtain ⟨g, most, v, g9⟩ := h.g
  exact ⟨call_ok v g9 h.l hz (by omega) (h.big ht), is_worth_ok v g9 h.l (by omega) (h.big ht)⟩
end K04

namespace K04
open PySem PySem.Spec PyProof.Rows L2 DL

theorem frz_ol (M : Mc) : frz (olD M) = ptD M := by
  unfold olD ptD
  simp
def one (p : Nm) : Nm := (p.1, 1)
def oneR (r : Road) : Road := ⟨r.st, r.sg, r.bh, one r.nu⟩
theorem ones {a0 a1 a2 a3 a4 a5 a8 a9 : Option D} : ∀ (ps acc : List Nm) (x y : Option D), acc.length + ps.length ≤ 1000 →
    compE [6, 7] (tgTup 2 (tgCons (tgN [0, 1, 2, 3, 4, 5, 8, 9] 6) (tgCons (tgN [0, 1, 2, 3, 4, 5, 8, 9] 7) (tgNil)))) (evYes) (evOpF DL.gTup (evFz (evCons (evV 6) (evCons (evC (.int 1)) (evNil))))) (ps.map nuD) (acc.map nuD) [a0, a1, a2, a3, a4, a5, x, y, a8, a9] = some ((acc ++ ps.map one).map nuD, [a0, a1, a2, a3, a4, a5, none, none, a8, a9])
  | [], acc, x, y, hz => by simp [comp_0]
  | p :: ps, acc, x, y, hz => by
    rw [List.length_cons] at hz
    have e := ones (a0 := a0) (a1 := a1) (a2 := a2) (a3 := a3) (a4 := a4) (a5 := a5) (a8 := a8) (a9 := a9) ps (acc ++ [one p]) (some (.int p.1)) (some (.int p.2)) (by simp; omega)
    have ea : acc ++ (p :: ps).map one = acc ++ [one p] ++ ps.map one := by simp
    have es : (acc ++ [one p]).map nuD = acc.map nuD ++ [.tup [.int p.1, .int 1]] := by simp [one, nuD]
    have hz' : acc.length < 16777216 := by omega
    have en : nuD p = .tup [.int p.1, .int p.2] := rfl
    rw [ea, ← e, es, List.map_cons]
    simp (config := {decide := true, implicitDefEqProofs := false}) [r_fn, parOk, frzAt, outsD, List.range_succ, DL.gTup, DL.gLst, gGcd, gNeg, gDiv, gMod, gPow, DL.gSub, gAbs, gInt, gEq, gNe, gRng1, kwR, gmInsert, gmExtend, gmAppend, gmSet, ixR, DL.isNon, ixN, atI, lstD, seqD, gIsN, gNotN, comp_1, hz', en]
def oneD : D → D
  | .tup [a, s, b, .tup [x, _]] => .tup [a, s, b, .tup [x, .int 1]]
  | _ => .non
theorem onesR {a0 a1 a2 a3 a4 a5 a6 a7 a8 x : Option D} {rs : List Road} (hl : rs.length ≤ 1000) : compE [9] (tgN [0, 1, 2, 3, 4, 5, 6, 7, 8] 9) (evYes) (evOpF DL.gTup (evFz (evCons (evIx (evV 9) (evC (.int 0))) (evCons (evIx (evV 9) (evC (.int 1))) (evCons (evIx (evV 9) (evC (.int 2))) (evCons (evOpF DL.gTup (evFz (evCons (evIx (evIx (evV 9) (evC (.int 3))) (evC (.int 0))) (evCons (evC (.int 1)) (evNil))))) (evNil))))))) (rs.map rdD) [] [a0, a1, a2, a3, a4, a5, a6, a7, a8, none] = some ((rs.map oneR).map rdD, [a0, a1, a2, a3, a4, a5, a6, a7, a8, none]) := by
  have h := comp_map1 (ρ := [a0, a1, a2, a3, a4, a5, a6, a7, a8, none]) (i := 9) (I := [0, 1, 2, 3, 4, 5, 6, 7, 8]) (f := (evOpF DL.gTup (evFz (evCons (evIx (evV 9) (evC (.int 0))) (evCons (evIx (evV 9) (evC (.int 1))) (evCons (evIx (evV 9) (evC (.int 2))) (evCons (evOpF DL.gTup (evFz (evCons (evIx (evIx (evV 9) (evC (.int 3))) (evC (.int 0))) (evCons (evC (.int 1)) (evNil))))) (evNil)))))))) (ds := rs.map rdD) (acc := []) (by decide) (by show 9 < 10; decide) oneD (fun d hd => by
    obtain ⟨r, _, rfl⟩ := List.mem_map.mp hd
    have er : rdD r = .tup [.int r.st, sD r.sg, .int r.bh, .tup [.int r.nu.1, .int r.nu.2]] := rfl
    have eo : oneD (rdD r) = .tup [.int r.st, sD r.sg, .int r.bh, .tup [.int r.nu.1, .int 1]] := rfl
    rw [eo, er]
    simp (config := {decide := true, implicitDefEqProofs := false}) [r_fn, parOk, frzAt, outsD, List.range_succ, DL.gTup, DL.gLst, gGcd, gNeg, gDiv, gMod, gPow, DL.gSub, gAbs, gInt, gEq, gNe, gRng1, kwR, gmInsert, gmExtend, gmAppend, gmSet, ixR, DL.isNon, ixN, atI, lstD, seqD, gIsN, gNotN]) (by simp; omega)
  have e : (rs.map rdD).map (fun d => frz (oneD d)) = (rs.map oneR).map rdD := by rw [List.map_map, List.map_map]; rfl
  rw [e, List.nil_append] at h
  exact h
theorem mg_of {M : Mc} {g : Int} {most len K : Nat} (v : MV g most M) (g9 : g.natAbs ≤ 1000000000) (hl : M.r.length ≤ 24) (h1 : ∀ c ∈ M.z, c ∈ abc) (h2 : M.z.Pairwise (· < ·)) (hK : g.natAbs ≤ 2 ^ K) (hs : K * M.r.length * len + K * 12 ≤ 8990) : MG M len :=
  ⟨⟨g, most, v, g9⟩, hl, h1, h2, K, fun p hp => Nat.le_trans (v.b p hp).b hK, fun p hp => Nat.le_trans (v.e p hp).b hK, fun r hr => Nat.le_trans (v.r r hr).nu.b hK, hs⟩
def oneM (M : Mc) : Mc := ⟨M.z, M.b.map one, M.r.map oneR, M.e.map one⟩
theorem NG.one {g : Int} {p : Nm} (h : NG g p) (g1 : 1 ≤ g) : NG g (one p) := ⟨by show (1 : Int) ≤ 1; decide, by show Nat.gcd p.1.natAbs 1 = 1; simp, h.a, by show (1 : Int).natAbs ≤ _; omega⟩
theorem mg_one {M : Mc} {g : Int} {most : Nat} (v : MV g most M) (g1 : 1 ≤ g) (g9 : g.natAbs ≤ 1000000000) (hl : M.r.length ≤ 24) (h1 : ∀ c ∈ M.z, c ∈ abc) (h2 : M.z.Pairwise (· < ·)) : MG (oneM M) 450 := by
  refine ⟨⟨g, most, ⟨v.z, v.z1, v.zl, by show (M.b.map one).length ≤ 6; rw [List.length_map]; exact v.bl, by show (M.e.map one).length = (M.b.map one).length; rw [List.length_map, List.length_map]; exact v.el, fun p hp => ?_, fun p hp => ?_, fun r hr => ?_, by show (M.r.map oneR).length ≤ most; rw [List.length_map]; exact v.rl⟩, g9⟩, by show (M.r.map oneR).length ≤ 24; rw [List.length_map]; exact hl, h1, h2, 0, fun p hp => ?_, fun p hp => ?_, fun r hr => ?_, by omega⟩
  · obtain ⟨p0, h0, rfl⟩ := List.mem_map.mp hp
    exact (v.b p0 h0).one g1
  · obtain ⟨p0, h0, rfl⟩ := List.mem_map.mp hp
    exact (v.e p0 h0).one g1
  · obtain ⟨r0, h0, rfl⟩ := List.mem_map.mp hr
    have w := v.r r0 h0
    refine ⟨w.s0, ?_, w.sg, w.b0, ?_, w.nu.one g1⟩
    · show r0.st < ((M.b.map one).length : Nat)
      rw [List.length_map]; exact w.s1
    · show r0.bh < ((M.b.map one).length : Nat)
      rw [List.length_map]; exact w.b1
  · obtain ⟨p0, h0, rfl⟩ := List.mem_map.mp hp
    show (1 : Int).natAbs ≤ _
    decide
  · obtain ⟨p0, h0, rfl⟩ := List.mem_map.mp hp
    show (1 : Int).natAbs ≤ _
    decide
  · obtain ⟨r0, h0, rfl⟩ := List.mem_map.mp hr
    show (1 : Int).natAbs ≤ _
    decide
theorem some_ok {q : Dq} {k : Nat} (h : DqOk q k) (hk : k ≤ 6000) : ∃ (q' : Dq) (M : Mc) (w : Bool), m__law_some_machine [dq q] = some (.ok (.tup [ptD M, .bl w]) [dq q']) ∧ MG M (if w = true then 450 else 45) ∧ DqOk q' (k + 400) := by
  obtain ⟨q1, z, e1, z0, zs, z1, z3, h1⟩ := signs_ok h (by omega)
  have zb : SB z := fun c hc => abc_sb c (z0 c hc)
  obtain ⟨q2, kd, e2, l2, h2⟩ := drw (l := 4) h1 (by decide) (by decide) (by omega)
  have p9 : Builtin.Int.intBits 10 * 9 ≤ 134217728 := by decide
  by_cases k3 : kd = 3
  · subst k3
    obtain ⟨q3, r, e3, l3, h3⟩ := drw (l := 2) h2 (by decide) (by decide) (by omega)
    obtain ⟨q4, M, e4, v, mz, mb, h4⟩ := machine_ok (g := 1000000000) (hf := 500000000) (gm := 999999999) (m := 1 + r) (most := 6) (z := z) (by decide) (by decide) (by decide) (by decide) h3 (by omega) zb z1 z3 (by omega) (by decide)
    have ec : (((1 + r : Nat)) : Int) = 1 + (r : Int) := by omega
    rw [ec] at e4
    have e4 : m__law_machine [dq q3, sD z, .int (1 + (r : Int)), .int 6, .int 1000000000] = some (.ok (olD M) [dq q4, sD z, .int (1 + (r : Int)), .int 6, .int 1000000000]) := e4
    have rl := v.rl
    refine ⟨q4, M, false, ?_, mg_of (K := 30) v (by decide) (by omega) (by rw [mz]; exact z0) (by rw [mz]; exact zs) (by decide) (by
      have : 30 * M.r.length * 45 ≤ 30 * 6 * 45 := Nat.mul_le_mul_right _ (Nat.mul_le_mul_left _ rl)
      show 30 * M.r.length * 45 + 30 * 12 ≤ 8990
      omega), h4.mono (by omega)⟩
    have f0 := frz_ol M
    have s0 : (olD M).sh = false := rfl
    generalize olD M = X at e4 f0 s0
    simp (config := {decide := true, implicitDefEqProofs := false}) [r_fn, parOk, frzAt, outsD, List.range_succ, DL.gTup, DL.gLst, gGcd, gNeg, gDiv, gMod, gPow, DL.gSub, gAbs, gInt, gEq, gNe, gRng1, kwR, gmInsert, gmExtend, gmAppend, gmSet, ixR, DL.isNon, ixN, atI, lstD, seqD, gIsN, gNotN, m__law_some_machine, f__law_some_machine, e1, e2, e3, e4, p9, f0, s0]
  obtain ⟨q3, r, e3, l3, h3⟩ := drw (l := 7) h2 (by decide) (by decide) (by omega)
  have key : ∃ m : Nat, m ≤ 6 ∧ ((r = 0 ∧ m = 3) ∨ (r = 1 ∧ m = 2) ∨ (r = 2 ∧ m = 1) ∨ (r = 3 ∧ m = 4) ∨ (r = 4 ∧ m = 0) ∨ (r = 5 ∧ m = 5) ∨ (r = 6 ∧ m = 6)) := by
    rcases (by omega : r = 0 ∨ r = 1 ∨ r = 2 ∨ r = 3 ∨ r = 4 ∨ r = 5 ∨ r = 6) with rfl | rfl | rfl | rfl | rfl | rfl | rfl
    · exact ⟨3, by decide, by decide⟩
    · exact ⟨2, by decide, by decide⟩
    · exact ⟨1, by decide, by decide⟩
    · exact ⟨4, by decide, by decide⟩
    · exact ⟨0, by decide, by decide⟩
    · exact ⟨5, by decide, by decide⟩
    · exact ⟨6, by decide, by decide⟩
  obtain ⟨m, m6, rel⟩ := key
  have ev : ∀ kk : Int, evIx (evOpF DL.gLst (evFz (evCons (evC (.int 3)) (evCons (evC (.int 2)) (evCons (evC (.int 1)) (evCons (evC (.int 4)) (evCons (evC (.int 0)) (evCons (evC (.int 5)) (evCons (evC (.int 6)) (evNil)))))))))) (evCall [true, false] m__law_draw (evCons (evV 0) (evCons (evC (.int 7)) (evNil)))) [some (dq q2), some (sD z), some (.int kk), none, none, none, none, none, none, none] = some (.ok (.val (.int (m : Int))) [some (dq q3), some (sD z), some (.int kk), none, none, none, none, none, none, none]) := fun kk => by
    rcases rel with ⟨rfl, rfl⟩ | ⟨rfl, rfl⟩ | ⟨rfl, rfl⟩ | ⟨rfl, rfl⟩ | ⟨rfl, rfl⟩ | ⟨rfl, rfl⟩ | ⟨rfl, rfl⟩ <;> simp (config := {decide := true, implicitDefEqProofs := false}) [r_fn, parOk, frzAt, outsD, List.range_succ, DL.gTup, DL.gLst, gGcd, gNeg, gDiv, gMod, gPow, DL.gSub, gAbs, gInt, gEq, gNe, gRng1, kwR, gmInsert, gmExtend, gmAppend, gmSet, ixR, DL.isNon, ixN, atI, lstD, seqD, gIsN, gNotN, e3]
  clear rel
  have go : ∀ (g hf gm : Int), 4 ≤ g → g ≤ 1000000000 → g.fdiv 2 = hf → g - 1 = gm → ∃ (q4 : Dq) (M : Mc), m__law_machine [dq q3, sD z, .int (m : Int), .int 24, .int g] = some (.ok (olD M) [dq q4, sD z, .int (m : Int), .int 24, .int g]) ∧ MV g 24 M ∧ M.z = z ∧ DqOk q4 (k + 4 + 1 + 1 + 300) := fun g hf gm a b c d => by
    obtain ⟨q4, M, e4, v, mz, mb, h4⟩ := machine_ok (most := 24) a b c d h3 (by omega) zb z1 z3 m6 (by decide)
    exact ⟨q4, M, e4, v, mz, h4⟩
  rcases (by omega : kd = 0 ∨ kd = 1 ∨ kd = 2) with rfl | rfl | rfl
  · obtain ⟨q4, M, e4, v, mz, h4⟩ := go 8 4 7 (by decide) (by decide) (by decide) (by decide)
    have rl := v.rl
    refine ⟨q4, M, false, ?_, mg_of (K := 4) v (by decide) rl (by rw [mz]; exact z0) (by rw [mz]; exact zs) (by decide) (by
      have : 4 * M.r.length * 45 ≤ 4 * 24 * 45 := Nat.mul_le_mul_right _ (Nat.mul_le_mul_left _ rl)
      show 4 * M.r.length * 45 + 4 * 12 ≤ 8990
      omega), h4.mono (by omega)⟩
    have f0 := frz_ol M
    have s0 : (olD M).sh = false := rfl
    have ev := ev 0
    have ev2 : evIx (evOpF DL.gLst (evFz (evCons (evC (.int 8)) (evCons (evC (.int 10)) (evCons (evC (.int 198)) (evNil)))))) (evV 2) [some (dq q3), some (sD z), some (.int 0), some (.int (m : Int)), none, none, none, none, none, none] = some (.ok (.val (.int 8)) [some (dq q3), some (sD z), some (.int 0), some (.int (m : Int)), none, none, none, none, none, none]) := by
      simp (config := {decide := true, implicitDefEqProofs := false}) [r_fn, parOk, frzAt, outsD, List.range_succ, DL.gTup, DL.gLst, gGcd, gNeg, gDiv, gMod, gPow, DL.gSub, gAbs, gInt, gEq, gNe, gRng1, kwR, gmInsert, gmExtend, gmAppend, gmSet, ixR, DL.isNon, ixN, atI, lstD, seqD, gIsN, gNotN]
    generalize olD M = X at e4 f0 s0
    simp (config := {decide := true, implicitDefEqProofs := false}) [r_fn, parOk, frzAt, outsD, List.range_succ, DL.gTup, DL.gLst, gGcd, gNeg, gDiv, gMod, gPow, DL.gSub, gAbs, gInt, gEq, gNe, gRng1, kwR, gmInsert, gmExtend, gmAppend, gmSet, ixR, DL.isNon, ixN, atI, lstD, seqD, gIsN, gNotN, m__law_some_machine, f__law_some_machine, e1, e2, ev, ev2, e4, f0, s0, -r_ix]
  · obtain ⟨q4, M, e4, v, mz, h4⟩ := go 10 5 9 (by decide) (by decide) (by decide) (by decide)
    have rl := v.rl
    refine ⟨q4, M, false, ?_, mg_of (K := 4) v (by decide) rl (by rw [mz]; exact z0) (by rw [mz]; exact zs) (by decide) (by
      have : 4 * M.r.length * 45 ≤ 4 * 24 * 45 := Nat.mul_le_mul_right _ (Nat.mul_le_mul_left _ rl)
      show 4 * M.r.length * 45 + 4 * 12 ≤ 8990
      omega), h4.mono (by omega)⟩
    have f0 := frz_ol M
    have s0 : (olD M).sh = false := rfl
    have ev := ev 1
    have ev2 : evIx (evOpF DL.gLst (evFz (evCons (evC (.int 8)) (evCons (evC (.int 10)) (evCons (evC (.int 198)) (evNil)))))) (evV 2) [some (dq q3), some (sD z), some (.int 1), some (.int (m : Int)), none, none, none, none, none, none] = some (.ok (.val (.int 10)) [some (dq q3), some (sD z), some (.int 1), some (.int (m : Int)), none, none, none, none, none, none]) := by
      simp (config := {decide := true, implicitDefEqProofs := false}) [r_fn, parOk, frzAt, outsD, List.range_succ, DL.gTup, DL.gLst, gGcd, gNeg, gDiv, gMod, gPow, DL.gSub, gAbs, gInt, gEq, gNe, gRng1, kwR, gmInsert, gmExtend, gmAppend, gmSet, ixR, DL.isNon, ixN, atI, lstD, seqD, gIsN, gNotN]
    generalize olD M = X at e4 f0 s0
    simp (config := {decide := true, implicitDefEqProofs := false}) [r_fn, parOk, frzAt, outsD, List.range_succ, DL.gTup, DL.gLst, gGcd, gNeg, gDiv, gMod, gPow, DL.gSub, gAbs, gInt, gEq, gNe, gRng1, kwR, gmInsert, gmExtend, gmAppend, gmSet, ixR, DL.isNon, ixN, atI, lstD, seqD, gIsN, gNotN, m__law_some_machine, f__law_some_machine, e1, e2, ev, ev2, e4, f0, s0, -r_ix]
  · obtain ⟨q4, M, e4, v, mz, h4⟩ := go 198 99 197 (by decide) (by decide) (by decide) (by decide)
    have rl := v.rl
    have b6 := v.bl
    have el := v.el
    refine ⟨q4, oneM M, true, ?_, mg_one v (by decide) (by decide) rl (by rw [mz]; exact z0) (by rw [mz]; exact zs), h4.mono (by omega)⟩
    have ev := ev 2
    have ev2 : evIx (evOpF DL.gLst (evFz (evCons (evC (.int 8)) (evCons (evC (.int 10)) (evCons (evC (.int 198)) (evNil)))))) (evV 2) [some (dq q3), some (sD z), some (.int 2), some (.int (m : Int)), none, none, none, none, none, none] = some (.ok (.val (.int 198)) [some (dq q3), some (sD z), some (.int 2), some (.int (m : Int)), none, none, none, none, none, none]) := by
      simp (config := {decide := true, implicitDefEqProofs := false}) [r_fn, parOk, frzAt, outsD, List.range_succ, DL.gTup, DL.gLst, gGcd, gNeg, gDiv, gMod, gPow, DL.gSub, gAbs, gInt, gEq, gNe, gRng1, kwR, gmInsert, gmExtend, gmAppend, gmSet, ixR, DL.isNon, ixN, atI, lstD, seqD, gIsN, gNotN]
    have o1 := fun a0 a1 a2 a3 a4 a5 a8 a9 x y => ones (a0 := a0) (a1 := a1) (a2 := a2) (a3 := a3) (a4 := a4) (a5 := a5) (a8 := a8) (a9 := a9) M.b [] x y (by simp; omega)
    have o2 := fun a0 a1 a2 a3 a4 a5 a8 a9 x y => ones (a0 := a0) (a1 := a1) (a2 := a2) (a3 := a3) (a4 := a4) (a5 := a5) (a8 := a8) (a9 := a9) M.e [] x y (by simp; omega)
    have o3 := fun a0 a1 a2 a3 a4 a5 a6 a7 a8 => onesR (a0 := a0) (a1 := a1) (a2 := a2) (a3 := a3) (a4 := a4) (a5 := a5) (a6 := a6) (a7 := a7) (a8 := a8) (x := none) (rs := M.r) (by omega)
    have ee : ([] : List Nm).map nuD = [] := rfl
    rw [ee] at o1 o2
    simp only [List.nil_append] at o1 o2
    have f1 := fzL_n (M.b.map one)
    have f2 := fzL_n (M.e.map one)
    have f3 := fzL_r (M.r.map oneR)
    have f4 := fzL_n M.b
    have f5 := fzL_n M.e
    have f6 := fzL_r M.r
    unfold oneM ptD
    unfold olD at e4
    dsimp only
    rw [mz] at e4 ⊢
    generalize (M.b.map one).map nuD = X1 at o1 f1 ⊢
    generalize (M.e.map one).map nuD = X2 at o2 f2 ⊢
    generalize (M.r.map oneR).map rdD = X3 at o3 f3 ⊢
    generalize M.b.map nuD = Y1 at o1 f4 e4
    generalize M.e.map nuD = Y2 at o2 f5 e4
    generalize M.r.map rdD = Y3 at o3 f6 e4
    simp (config := {decide := true, implicitDefEqProofs := false}) [r_fn, parOk, frzAt, outsD, List.range_succ, DL.gTup, DL.gLst, gGcd, gNeg, gDiv, gMod, gPow, DL.gSub, gAbs, gInt, gEq, gNe, gRng1, kwR, gmInsert, gmExtend, gmAppend, gmSet, ixR, DL.isNon, ixN, atI, lstD, seqD, gIsN, gNotN, m__law_some_machine, f__law_some_machine, e1, e2, ev, ev2, e4, -r_ix]
    simp (config := {decide := true, implicitDefEqProofs := false}) [r_fn, parOk, frzAt, outsD, List.range_succ, DL.gTup, DL.gLst, gGcd, gNeg, gDiv, gMod, gPow, DL.gSub, gAbs, gInt, gEq, gNe, gRng1, kwR, gmInsert, gmExtend, gmAppend, gmSet, ixR, DL.isNon, ixN, atI, lstD, seqD, gIsN, gNotN, e4, a_C__law_some_machine_0, a_C__law_some_machine_1, a_C__law_some_machine_2, o1, o2, o3, f1, f2, f3, f4, f5, f6]
end K04

namespace K04
open PySem PySem.Spec PyProof.Rows L2 DL

/-! ### messages -/
theorem msg_comp {z : List Nat} {L : Option D} (hz : 1 ≤ z.length) (hz2 : z.length ≤ 100) : ∀ (ts : List D) (acc : List Nat) (q : Dq) (k : Nat) (x : Option D), DqOk q k → k + ts.length ≤ 9000 → acc.length + ts.length ≤ 1000 → (∀ c ∈ acc, c ∈ z) →
    ∃ (q' : Dq) (acc' : List Nat), compE [3] (tgN [0, 1, 2] 3) (evYes) (evIx (evV 1) (evCall [true, false] m__law_draw (evCons (evV 0) (evCons (evOp DL.gLen (evCons (evV 1) (evNil))) (evNil))))) ts ((sg acc).map sD) [some (dq q), some (sD z), L, x] = some ((sg acc').map sD, [some (dq q'), some (sD z), L, none]) ∧ (∀ c ∈ acc', c ∈ z) ∧ acc'.length = acc.length + ts.length ∧ DqOk q' (k + ts.length)
  | [], acc, q, k, x, h, hk, hl, ha => ⟨q, acc, by simp [comp_0], ha, rfl, h⟩
  | t :: ts, acc, q, k, x, h, hk, hl, ha => by
    rw [List.length_cons] at hk hl
    obtain ⟨q1, r, e1, l1, h1⟩ := drw (l := (z.length : Int)) h (by omega) (by omega) (by omega)
    obtain ⟨c, hc, ec⟩ := ix_s (z := z) (i := (r : Int)) (by omega) l1 (by omega)
    obtain ⟨q2, acc2, e2, a2, n2, h2⟩ := msg_comp (L := L) hz hz2 ts (acc ++ [c]) q1 (k + 1) (some t) h1 (by omega) (by simp; omega) (fun d hd => by
      rcases List.mem_append.mp hd with hd | hd
      · exact ha d hd
      · rw [List.mem_singleton.mp hd]; exact hc)
    refine ⟨q2, acc2, ?_, a2, by rw [n2]; simp; omega, h2.mono (by simp; omega)⟩
    have es : (sg (acc ++ [c])).map sD = (sg acc).map sD ++ [sD [c]] := by simp [sg]
    have hz3 : z.length ≤ 16777216 := by omega
    have hz4 : acc.length < 16777216 := by omega
    rw [← e2, es]
    simp (config := {decide := true, implicitDefEqProofs := false}) [r_fn, parOk, frzAt, outsD, List.range_succ, DL.gTup, DL.gLst, gGcd, gNeg, gDiv, gMod, gPow, DL.gSub, gAbs, gInt, gEq, gNe, gRng1, kwR, gmInsert, gmExtend, gmAppend, gmSet, ixR, DL.isNon, ixN, atI, lstD, seqD, gIsN, gNotN, comp_1, e1, ec, hz3, hz4]
theorem message_ok {q : Dq} {k : Nat} {z : List Nat} {L : Nat} (hL : L ≤ 40) (hz : 1 ≤ z.length) (hz2 : z.length ≤ 100) (h : DqOk q k) (hk : k ≤ 8000) : ∃ (q' : Dq) (t : List Nat), m__law_message [dq q, sD z, .int L] = some (.ok (sD t) [dq q', sD z, .int L]) ∧ (∀ c ∈ t, c ∈ z) ∧ t.length ≤ L ∧ DqOk q' (k + 41) := by
  obtain ⟨q1, n, e1, l1, h1⟩ := drw (l := (L : Int) + 1) h (by omega) (by omega) (by omega)
  obtain ⟨q2, t, e2, a2, n2, h2⟩ := msg_comp (z := z) (L := some (.int (L : Int))) hz hz2 (dInts 0 n) [] q1 (k + 1) none h1 (by rw [dInts_len]; omega) (by rw [dInts_len]; simp; omega) (by simp)
  rw [dInts_len] at n2 h2
  refine ⟨q2, t, ?_, a2, by simp at n2; omega, h2.mono (by omega)⟩
  have hs : (sg ([] : List Nat)).map sD = [] := rfl
  rw [hs] at e2
  have b1 : -4611686018427387904 ≤ (n : Int) ∧ (n : Int) < 4611686018427387904 := by omega
  have b2 : ((n : Int)).toNat = n := rfl
  have hj := join_s (ms := sg t) (by rw [sg_flat]; simp at n2; omega)
  rw [sg_flat] at hj
  generalize (sg t).map sD = X at e2 hj
  simp (config := {decide := true, implicitDefEqProofs := false}) [r_fn, parOk, frzAt, outsD, List.range_succ, DL.gTup, DL.gLst, gGcd, gNeg, gDiv, gMod, gPow, DL.gSub, gAbs, gInt, gEq, gNe, gRng1, kwR, gmInsert, gmExtend, gmAppend, gmSet, ixR, DL.isNon, ixN, atI, lstD, seqD, gIsN, gNotN, m__law_message, f__law_message, a_C__law_message_0, e1, gRng1, b1, b2, e2, hj]
/-! ### a text so many times -/
theorem fold_arr : ∀ (l : List (Array Nat)) (acc : Array Nat), (l.foldl (· ++ ·) acc).toList = acc.toList ++ (l.map Array.toList).flatten
  | [], acc => by simp
  | a :: l, acc => by rw [List.foldl_cons, fold_arr l]; simp
theorem mul_s {z : List Nat} {n : Nat} (hn : 2 ≤ n) (h31 : n < 2 ^ 31) (hz : z.length * n ≤ 16777216) : gMulS [sD z, .int (n : Int)] = some (sD (List.replicate n z).flatten) := by
  have hc : (0 : Int) ≤ (n : Int) ∧ (n : Int) < 2 ^ 31 ∧ (⟨z.toArray⟩ : Str).length * ((n : Int)).toNat ≤ 16777216 := ⟨by omega, by omega, by rw [Int.toNat_natCast]; exact hz⟩
  unfold sD gMulS
  dsimp only
  rw [if_pos hc]
  clear hc
  unfold Txt.mul
  rw [if_neg (by omega)]
  have hn1 : ((n : Int) == 1) = false := by
    rw [beq_eq_false_iff_ne]
    omega
  rw [hn1, Bool.false_or]
  by_cases h0 : z = []
  · subst h0
    have e0 : ((⟨([] : List Nat).toArray⟩ : Str).length == 0) = true := rfl
    have : (List.replicate n ([] : List Nat)).flatten = [] := by simp
    rw [e0, this]
    rfl
  · have hl : ((⟨z.toArray⟩ : Str).length == 0) = false := by
      rw [beq_eq_false_iff_ne]
      show z.length ≠ 0
      intro e
      exact h0 (List.eq_nil_of_length_eq_zero e)
    rw [hl, if_neg (by decide)]
    refine congrArg (fun a : Array Nat => some (D.str ⟨a⟩)) ?_
    apply Array.toList_inj.mp
    rw [fold_arr, Int.toNat_natCast]
    simp
end K04

namespace K04
open PySem PySem.Spec PyProof.Rows L2 DL

theorem sIx_nat (n : Nat) (r : Nat) (w : Nat) : HT.sIx n w (some (r : Int)) = min r n := by
  unfold HT.sIx
  dsimp only
  have h1 : ¬ (r : Int) < 0 := by omega
  rw [if_neg h1]
  omega
theorem cut_to {α : Type} {ms : List α} {r : Nat} : cutL ms none (some (r : Int)) = ms.take r := by
  unfold cutL
  rw [sIx_nat]
  show (ms.drop 0).take (min r ms.length - 0) = _
  rw [List.drop_zero, Nat.sub_zero, ← List.take_eq_take_min]
theorem cut_from {α : Type} {ms : List α} {r : Nat} : cutL ms (some (r : Int)) none = ms.drop r := by
  unfold cutL
  rw [sIx_nat]
  show (ms.drop (min r ms.length)).take (ms.length - min r ms.length) = _
  rw [← List.length_drop, List.take_length]
  by_cases h : r ≤ ms.length
  · rw [Nat.min_eq_left h]
  · rw [Nat.min_eq_right (by omega), List.drop_length, List.drop_eq_nil_of_le (by omega)]
theorem cuts_s {z : List Nat} {lo hi : Option Int} (h : z.length ≤ 16777216) : cutD (sD z) lo hi = some (sD (cutL z lo hi)) := by
  show (if (⟨z.toArray⟩ : Str).length ≤ 16777216 then some (D.str (cutS ⟨z.toArray⟩ lo hi)) else none) = _
  rw [if_pos (show (⟨z.toArray⟩ : Str).length ≤ 16777216 from h)]
  rfl
theorem sgs_C {a0 a2 a3 a5 a6 x : Option D} {z : List Nat} (hz : z.length ≤ 100) : C__law_messages_0 [a0, some (sD z), a2, a3, x, a5, a6] = some (.ok (.val (.ol ((sg z).map sD))) [a0, some (sD z), a2, a3, x, a5, a6]) := by
  have h := comp_map1 (ρ := [a0, some (sD z), a2, a3, none, a5, a6]) (i := 4) (I := [0, 1, 2, 3, 5, 6]) (f := evV 4) (ds := (sg z).map sD) (acc := []) (by decide) (by show 4 < 7; decide) (fun d => d) (fun d hd => by
    obtain ⟨c, _, rfl⟩ := List.mem_map.mp hd
    simp (config := {decide := true, implicitDefEqProofs := false}) [r_fn, parOk, frzAt, outsD, List.range_succ, DL.gTup, DL.gLst, gGcd, gNeg, gDiv, gMod, gPow, DL.gSub, gAbs, gInt, gEq, gNe, gRng1, kwR, gmInsert, gmExtend, gmAppend, gmSet, ixR, DL.isNon, ixN, atI, lstD, seqD, gIsN, gNotN]) (by rw [List.length_map, sg_len]; simp; omega)
  have e : ((sg z).map sD).map (fun d => frz d) = (sg z).map sD := map_frz_s _
  rw [e, List.nil_append] at h
  simp (config := {decide := true, implicitDefEqProofs := false}) [r_fn, parOk, frzAt, outsD, List.range_succ, DL.gTup, DL.gLst, gGcd, gNeg, gDiv, gMod, gPow, DL.gSub, gAbs, gInt, gEq, gNe, gRng1, kwR, gmInsert, gmExtend, gmAppend, gmSet, ixR, DL.isNon, ixN, atI, lstD, seqD, gIsN, gNotN, a_C__law_messages_0, h]
theorem cut_s {t : List Nat} {r : Nat} (h : t.length ≤ 16777216) : gSl false true [sD t, .int (r : Int)] = some (sD (t.take r)) := by
  have := cuts_s (z := t) (lo := none) (hi := some (r : Int)) h
  rw [cut_to] at this
  exact this
def Msg (z : List Nat) (len : Nat) (ts : List (List Nat)) : Prop := (∀ t ∈ ts, (∀ c ∈ t, c ∈ z) ∧ t.length ≤ len) ∧ z.length + 5 ≤ ts.length ∧ ts.length ≤ 200
theorem messages_ok {q : Dq} {k : Nat} {z : List Nat} {w : Bool} (hz : 1 ≤ z.length) (hz2 : z.length ≤ 3) (h : DqOk q k) (hk : k ≤ 7000) : ∃ (q' : Dq) (ts : List (List Nat)), m__law_messages [dq q, sD z, .bl w] = some (.ok (.ol (ts.map sD)) [dq q', sD z, .bl w]) ∧ Msg z (if w = true then 450 else 45) ts ∧ DqOk q' (k + 250) := by
  obtain ⟨q1, t1, e1, a1, b1, h1⟩ := message_ok (L := 8) (by decide) hz (by omega) h (by omega)
  obtain ⟨q2, t2, e2, a2, b2, h2⟩ := message_ok (L := 8) (by decide) hz (by omega) h1 (by omega)
  obtain ⟨q3, t3, e3, a3, b3, h3⟩ := message_ok (L := 8) (by decide) hz (by omega) h2 (by omega)
  obtain ⟨q4, t4, e4, a4, b4, h4⟩ := message_ok (L := 40) (by decide) hz (by omega) h3 (by omega)
  have e1 : m__law_message [dq q, sD z, .int 8] = some (.ok (sD t1) [dq q1, sD z, .int 8]) := e1
  have e2 : m__law_message [dq q1, sD z, .int 8] = some (.ok (sD t2) [dq q2, sD z, .int 8]) := e2
  have e3 : m__law_message [dq q2, sD z, .int 8] = some (.ok (sD t3) [dq q3, sD z, .int 8]) := e3
  have e4 : m__law_message [dq q3, sD z, .int 40] = some (.ok (sD t4) [dq q4, sD z, .int 40]) := e4
  have eC := fun a0 a2 a3 a5 a6 x => sgs_C (a0 := a0) (a2 := a2) (a3 := a3) (a5 := a5) (a6 := a6) (x := x) (z := z) (by omega)
  have e3' : dInts 0 3 = [.int 0, .int 1, .int 2] := rfl
  have base : ∀ len, 40 ≤ len → ∀ t ∈ [[]] ++ sg z ++ [t1, t2, t3] ++ [t4], (∀ c ∈ t, c ∈ z) ∧ t.length ≤ len := fun len hlen t ht => by
    rcases List.mem_append.mp ht with ht | ht
    · rcases List.mem_append.mp ht with ht | ht
      · rcases List.mem_append.mp ht with ht | ht
        · rw [List.mem_singleton.mp ht]; exact ⟨fun c hc => (by cases hc), Nat.zero_le _⟩
        · obtain ⟨c, hc, rfl⟩ := List.mem_map.mp ht
          exact ⟨fun d hd => by rw [List.mem_singleton.mp hd]; exact hc, by show 1 ≤ len; omega⟩
      · rcases List.mem_cons.mp ht with rfl | ht
        · exact ⟨a1, by omega⟩
        rcases List.mem_cons.mp ht with rfl | ht
        · exact ⟨a2, by omega⟩
        rw [List.mem_singleton.mp ht]
        exact ⟨a3, by omega⟩
    · rw [List.mem_singleton.mp ht]; exact ⟨a4, by omega⟩
  have hsl : (sg z).length = z.length := sg_len z
  have s1 : 1 + z.length ≤ 16777216 := by omega
  have s2 : 1 + z.length + 3 ≤ 16777216 := by omega
  have s3 : 1 + z.length + 3 + 1 ≤ 16777216 := by omega
  have s4 : z.length + 1 ≤ 16777216 := by omega
  have s5 : z.length + 1 + 3 ≤ 16777216 := by omega
  have s6 : z.length + 1 + 3 + 1 ≤ 16777216 := by omega
  cases w with
  | false =>
    refine ⟨q4, [[]] ++ sg z ++ [t1, t2, t3] ++ [t4], ?_, ⟨base 45 (by decide), by simp, by simp; omega⟩, h4.mono (by omega)⟩
    rw [List.map_append, List.map_append, List.map_append]
    simp (config := {decide := true, implicitDefEqProofs := false}) [r_fn, parOk, frzAt, outsD, List.range_succ, DL.gTup, DL.gLst, gGcd, gNeg, gDiv, gMod, gPow, DL.gSub, gAbs, gInt, gEq, gNe, gRng1, kwR, gmInsert, gmExtend, gmAppend, gmSet, ixR, DL.isNon, ixN, atI, lstD, seqD, gIsN, gNotN, m__law_messages, f__law_messages, eC, a_C__law_messages_1, gRng1, e3', comp_1, comp_0, e1, e2, e3, e4, s1, s2, s3, s4, s5, s6]
  | true =>
    obtain ⟨q5, p, e5, a5, b5, h5⟩ := message_ok (L := 40) (by decide) hz (by omega) h4 (by omega)
    have e5 : m__law_message [dq q4, sD z, .int 40] = some (.ok (sD p) [dq q5, sD z, .int 40]) := e5
    obtain ⟨q6, r, e6, l6, h6⟩ := drw (l := 401) h5 (by decide) (by decide) (by omega)
    have g1 : gMulS [sD p, .int 10] = some (sD (List.replicate 10 p).flatten) := mul_s (n := 10) (by decide) (by decide) (by omega)
    have g2 : gMulS [sD z, .int 400] = some (sD (List.replicate 400 z).flatten) := mul_s (n := 400) (by decide) (by decide) (by omega)
    have n1 : (List.replicate 10 p).flatten.length ≤ 400 := by rw [List.length_flatten, List.map_replicate, List.sum_replicate_nat]; omega
    have n2 : (List.replicate 400 z).flatten.length ≤ 1200 := by rw [List.length_flatten, List.map_replicate, List.sum_replicate_nat]; omega
    have m1 : ∀ c ∈ (List.replicate 10 p).flatten, c ∈ z := fun c hc => by
      obtain ⟨l, hl, hcl⟩ := List.mem_flatten.mp hc
      rw [(List.mem_replicate.mp hl).2] at hcl
      exact a5 c hcl
    have m2 : ∀ c ∈ (List.replicate 400 z).flatten, c ∈ z := fun c hc => by
      obtain ⟨l, hl, hcl⟩ := List.mem_flatten.mp hc
      rw [(List.mem_replicate.mp hl).2] at hcl
      exact hcl
    generalize (List.replicate 10 p).flatten = P at g1 n1 m1
    generalize (List.replicate 400 z).flatten = Q at g2 n2 m2
    have g3 := cut_s (t := P ++ Q) (r := r) (by rw [List.length_append]; omega)
    have n3 : P.length + Q.length ≤ 16777216 := by omega
    have m3 : ∀ c ∈ (P ++ Q).take r, c ∈ z := fun c hc => by
      rcases List.mem_append.mp (List.mem_of_mem_take hc) with hc | hc
      · exact m1 c hc
      · exact m2 c hc
    have n4 : ((P ++ Q).take r).length ≤ 400 := by rw [List.length_take]; omega
    generalize (P ++ Q).take r = T at g3 m3 n4
    refine ⟨q6, [[]] ++ sg z ++ [t1, t2, t3] ++ [t4] ++ [T], ?_, ⟨fun t ht => ?_, by simp <;> omega, by simp; omega⟩, h6.mono (by omega)⟩
    · rw [List.map_append, List.map_append, List.map_append, List.map_append]
      have s7 : z.length + 1 + 3 + 1 < 16777216 := by omega
      have s8 : z.length + 3 + 1 + 1 < 16777216 := by omega
      have s9 : 1 + z.length + 3 + 1 < 16777216 := by omega
      simp (config := {decide := true, implicitDefEqProofs := false}) [r_fn, parOk, frzAt, outsD, List.range_succ, DL.gTup, DL.gLst, gGcd, gNeg, gDiv, gMod, gPow, DL.gSub, gAbs, gInt, gEq, gNe, gRng1, kwR, gmInsert, gmExtend, gmAppend, gmSet, ixR, DL.isNon, ixN, atI, lstD, seqD, gIsN, gNotN, m__law_messages, f__law_messages, eC, a_C__law_messages_1, gRng1, e3', comp_1, comp_0, e1, e2, e3, e4, e5, e6, g1, g2, g3, n3, s1, s2, s3, s4, s5, s6, s7, s8, s9, -sl_r01]
    · rcases List.mem_append.mp ht with ht | ht
      · exact base 450 (by decide) t ht
      · rw [List.mem_singleton.mp ht]
        exact ⟨m3, by show T.length ≤ 450; omega⟩
end K04

namespace K04
open PySem PySem.Spec PyProof.Rows L2 DL

/-! ### messages with signs that there are not -/
theorem call_no {M : Mc} {t u : List Nat} {c : Nat} (hc : c ∉ M.z) (h : ∀ c ∈ t, c ∈ M.z) : m_Machine____call__ [mkD M, sD (t ++ c :: u)] = some (.exc (.exc 3 (sD [c])) [mkD M, sD (t ++ c :: u)]) := by
  have e := known_no (u := u) hc h
  obtain ⟨x1, x2, x3, x4', x5', x6'⟩ := kx M (kvs M.r M.z)
  have f0 : (fldsF M (kvs M.r M.z))[0]? = some (("_signs" : Str), (sD M.z : D)) := rfl
  unfold mkD
  generalize fldsF M (kvs M.r M.z) = F at x1 f0 ⊢
  generalize t ++ c :: u = T at e ⊢
  simp (config := {decide := true, implicitDefEqProofs := false}) [r_fn, parOk, frzAt, outsD, List.range_succ, DL.gTup, DL.gLst, gGcd, gNeg, gDiv, gMod, gPow, DL.gSub, gAbs, gInt, gEq, gNe, gRng1, kwR, gmInsert, gmExtend, gmAppend, gmSet, ixR, DL.isNon, ixN, atI, lstD, seqD, gIsN, gNotN, m_Machine____call__, f_Machine____call__, evFld, fldK, ft_20__signs, x1, f0, e]
theorem first_not {z : List Nat} : ∀ (w : List Nat), (∃ c ∈ w, c ∉ z) → ∃ t c u, w = t ++ c :: u ∧ c ∉ z ∧ ∀ c ∈ t, c ∈ z
  | [], h => by
    obtain ⟨c, hc, _⟩ := h
    cases hc
  | d :: w, h => by
    by_cases hd : d ∈ z
    · obtain ⟨c, hc, hn⟩ := h
      have hw : ∃ c ∈ w, c ∉ z := by
        rcases List.mem_cons.mp hc with rfl | hc
        · exact absurd hd hn
        · exact ⟨c, hc, hn⟩
      obtain ⟨t, c, u, e, h1, h2⟩ := first_not w hw
      refine ⟨d :: t, c, u, by rw [e]; rfl, h1, fun x hx => ?_⟩
      rcases List.mem_cons.mp hx with rfl | hx
      · exact hd
      · exact h2 x hx
    · exact ⟨[], d, w, rfl, hd, fun x hx => by cases hx⟩
def keepF (z : List Nat) : D → Bool
  | .str s => s.cps.toList.all fun c => decide (c ∉ z)
  | _ => false
theorem keepF_1 {z : List Nat} {c : Nat} : keepF z (sD [c]) = decide (c ∉ z) := by
  show ([c].all fun c => decide (c ∉ z)) = _
  simp
theorem keep_flt {z : List Nat} : ∀ xs : List Nat, (((sg xs).map sD).filter (keepF z)).map (fun d => frz d) = (sg (xs.filter fun c => decide (c ∉ z))).map sD := by
  intro xs
  induction xs with
  | nil => rfl
  | cons c xs ih =>
    have e1 : (sg (c :: xs)).map sD = sD [c] :: (sg xs).map sD := rfl
    rw [e1, List.filter_cons, List.filter_cons, keepF_1]
    by_cases hc : decide (c ∉ z) = true
    · rw [if_pos hc, if_pos hc, List.map_cons, ih]
      rfl
    · rw [if_neg hc, if_neg hc, ih]
def alph : List Nat := abc ++ [65, 90, 32, 45, 48, 96, 95, 91, 123]
theorem alph_s : D.str ("abcdefghijklmnopqrstuvwxyzAZ -0`_[{" : Str) = sD alph := by unfold sD; refine congrArg D.str ?_; with_unfolding_all rfl
theorem left_C {a0 a1 a3 a4 a6 a7 a8 a9 a10 a11 a12 x : Option D} {z : List Nat} : C__law_is_refused_0 [a0, a1, some (sD z), a3, a4, x, a6, a7, a8, a9, a10, a11, a12] = some (.ok (.val (.ol ((sg (alph.filter fun c => decide (c ∉ z))).map sD))) [a0, a1, some (sD z), a3, a4, x, a6, a7, a8, a9, a10, a11, a12]) := by
  have h := comp_flt1 (ρ := [a0, a1, some (sD z), a3, a4, none, a6, a7, a8, a9, a10, a11, a12]) (i := 5) (I := [0, 1, 2, 3, 4, 6, 7, 8, 9, 10, 11, 12]) (c := evT (ev2 gNin (evV 5) (evV 2))) (f := evV 5) (ds := (sg alph).map sD) (acc := []) (by decide) (by show 5 < 13; decide)
    (keepF z) (fun d => d) (fun d hd => by
      obtain ⟨m, hm, rfl⟩ := List.mem_map.mp hd
      obtain ⟨c, _, rfl⟩ := List.mem_map.mp hm
      rw [keepF_1]
      simp (config := {decide := true, implicitDefEqProofs := false}) [r_fn, parOk, frzAt, outsD, List.range_succ, DL.gTup, DL.gLst, gGcd, gNeg, gDiv, gMod, gPow, DL.gSub, gAbs, gInt, gEq, gNe, gRng1, kwR, gmInsert, gmExtend, gmAppend, gmSet, ixR, DL.isNon, ixN, atI, lstD, seqD, gIsN, gNotN]) (fun d hd _ => by
      obtain ⟨c, _, rfl⟩ := List.mem_map.mp hd
      simp (config := {decide := true, implicitDefEqProofs := false}) [r_fn, parOk, frzAt, outsD, List.range_succ, DL.gTup, DL.gLst, gGcd, gNeg, gDiv, gMod, gPow, DL.gSub, gAbs, gInt, gEq, gNe, gRng1, kwR, gmInsert, gmExtend, gmAppend, gmSet, ixR, DL.isNon, ixN, atI, lstD, seqD, gIsN, gNotN]) (by rw [List.length_map, sg_len]; decide)
  rw [keep_flt, List.nil_append] at h
  generalize alph.filter (fun c => decide (c ∉ z)) = X at h ⊢
  generalize hA : alph = A at h
  have ea := alph_s
  rw [hA] at ea
  simp (config := {decide := true, implicitDefEqProofs := false}) [r_fn, parOk, frzAt, outsD, List.range_succ, DL.gTup, DL.gLst, gGcd, gNeg, gDiv, gMod, gPow, DL.gSub, gAbs, gInt, gEq, gNe, gRng1, kwR, gmInsert, gmExtend, gmAppend, gmSet, ixR, DL.isNon, ixN, atI, lstD, seqD, gIsN, gNotN, a_C__law_is_refused_0, ea, h]
theorem due_C {a0 a1 a3 a4 a5 a7 a8 a9 a11 a12 x : Option D} {z w : List Nat} (hw : w.length ≤ 1000) : C__law_is_refused_1 [a0, a1, some (sD z), a3, a4, a5, some (sD w), a7, a8, a9, x, a11, a12] = some (.ok (.val (.ol ((sg (w.filter fun c => decide (c ∉ z))).map sD))) [a0, a1, some (sD z), a3, a4, a5, some (sD w), a7, a8, a9, x, a11, a12]) := by
  have h := comp_flt1 (ρ := [a0, a1, some (sD z), a3, a4, a5, some (sD w), a7, a8, a9, none, a11, a12]) (i := 10) (I := [0, 1, 2, 3, 4, 5, 6, 7, 8, 9, 11, 12]) (c := evT (ev2 gNin (evV 10) (evV 2))) (f := evV 10) (ds := (sg w).map sD) (acc := []) (by decide) (by show 10 < 13; decide)
    (keepF z) (fun d => d) (fun d hd => by
      obtain ⟨m, hm, rfl⟩ := List.mem_map.mp hd
      obtain ⟨c, _, rfl⟩ := List.mem_map.mp hm
      rw [keepF_1]
      simp (config := {decide := true, implicitDefEqProofs := false}) [r_fn, parOk, frzAt, outsD, List.range_succ, DL.gTup, DL.gLst, gGcd, gNeg, gDiv, gMod, gPow, DL.gSub, gAbs, gInt, gEq, gNe, gRng1, kwR, gmInsert, gmExtend, gmAppend, gmSet, ixR, DL.isNon, ixN, atI, lstD, seqD, gIsN, gNotN]) (fun d hd _ => by
      obtain ⟨c, _, rfl⟩ := List.mem_map.mp hd
      simp (config := {decide := true, implicitDefEqProofs := false}) [r_fn, parOk, frzAt, outsD, List.range_succ, DL.gTup, DL.gLst, gGcd, gNeg, gDiv, gMod, gPow, DL.gSub, gAbs, gInt, gEq, gNe, gRng1, kwR, gmInsert, gmExtend, gmAppend, gmSet, ixR, DL.isNon, ixN, atI, lstD, seqD, gIsN, gNotN]) (by rw [List.length_map, sg_len]; simp; omega)
  rw [keep_flt, List.nil_append] at h
  generalize w.filter (fun c => decide (c ∉ z)) = X at h ⊢
  simp (config := {decide := true, implicitDefEqProofs := false}) [r_fn, parOk, frzAt, outsD, List.range_succ, DL.gTup, DL.gLst, gGcd, gNeg, gDiv, gMod, gPow, DL.gSub, gAbs, gInt, gEq, gNe, gRng1, kwR, gmInsert, gmExtend, gmAppend, gmSet, ixR, DL.isNon, ixN, atI, lstD, seqD, gIsN, gNotN, a_C__law_is_refused_1, h]
end K04

namespace K04
open PySem PySem.Spec PyProof.Rows L2 DL

theorem put_turn {a1 a2 a3 a5 a7 a9 a10 a11 a12 x8 : Option D} {q : Dq} {k : Nat} {L W : List Nat} (h : DqOk q k) (hk : k ≤ 8000) (hL : 1 ≤ L.length) (hL2 : L.length ≤ 100) (hW : W.length ≤ 900) :
    ∃ (q' : Dq) (W' : List Nat) (p : Option D), L__law_is_refused_0 [some (dq q), a1, a2, a3, some (.ol ((sg L).map sD)), a5, some (sD W), a7, x8, a9, a10, a11, a12] = some (.nx [some (dq q'), a1, a2, a3, some (.ol ((sg L).map sD)), a5, some (sD W'), a7, p, a9, a10, a11, a12]) ∧ (∃ c ∈ W', c ∈ L) ∧ W'.length = W.length + 1 ∧ DqOk q' (k + 2) := by
  obtain ⟨q1, p, e1, l1, h1⟩ := drw (l := (W.length : Int) + 1) h (by omega) (by omega) (by omega)
  obtain ⟨q2, r, e2, l2, h2⟩ := drw (l := (L.length : Int)) h1 (by omega) (by omega) (by omega)
  have hx := ix_at (f := fun c => sD [c]) (xs := L) (i := r) (by omega)
  rw [map_sg] at hx
  have ho : L[r]'(by omega) ∈ L := List.getElem_mem _
  generalize L[r]'(by omega) = o at hx ho
  have w2 : W.length ≤ 16777216 := by omega
  have c1 := cuts_s (z := W) (lo := none) (hi := some (p : Int)) w2
  have c2 := cuts_s (z := W) (lo := some (p : Int)) (hi := none) w2
  rw [cut_to] at c1
  rw [cut_from] at c2
  have t1 : (W.take p).length + (W.drop p).length = W.length := by rw [← List.length_append, List.take_append_drop]
  refine ⟨q2, W.take p ++ ([o] ++ W.drop p), some (.int p), ?_, ⟨o, by simp, ho⟩, by simp at t1 ⊢; omega, h2⟩
  generalize W.take p = X at c1 t1 ⊢
  generalize W.drop p = Y at c2 t1 ⊢
  have b1 : X.length + 1 ≤ 16777216 := by omega
  have b2 : X.length + 1 + Y.length ≤ 16777216 := by omega
  have ls : ((sg L).map sD).length = L.length := by rw [List.length_map, sg_len]
  simp (config := {decide := true, implicitDefEqProofs := false}) [r_fn, parOk, frzAt, outsD, List.range_succ, DL.gTup, DL.gLst, gGcd, gNeg, gDiv, gMod, gPow, DL.gSub, gAbs, gInt, gEq, gNe, gRng1, kwR, gmInsert, gmExtend, gmAppend, gmSet, ixR, DL.isNon, ixN, lstD, seqD, gIsN, gNotN, a_L__law_is_refused_0, e1, w2, c1, ls, e2, hx, c2, b1, b2]
theorem refused_ok {q : Dq} {k : Nat} {M : Mc} {t : List Nat} (hz : ∀ c ∈ M.z, c ∈ abc) (h : DqOk q k) (hk : k ≤ 7000) (ht : t.length ≤ 800) : ∃ q' : Dq, m__law_is_refused [dq q, mkD M, sD M.z, sD t] = some (.ok (.bl true) [dq q', mkD M, sD M.z, sD t]) ∧ DqOk q' (k + 10) := by
  have hL1 : 1 ≤ (alph.filter fun c => decide (c ∉ M.z)).length := by
    refine List.length_pos_of_mem (a := 65) (List.mem_filter.mpr ⟨by decide, decide_eq_true fun h65 => ?_⟩)
    have := hz 65 h65
    revert this
    decide
  have hL2 : (alph.filter fun c => decide (c ∉ M.z)).length ≤ 100 := Nat.le_trans (List.length_filter_le _ _) (by decide)
  have hLz : ∀ c ∈ alph.filter (fun c => decide (c ∉ M.z)), c ∉ M.z := fun c hc => of_decide_eq_true (List.mem_filter.mp hc).2
  have eL := fun a0 a1 a3 a4 a6 a7 a8 a9 a10 a11 a12 x => left_C (a0 := a0) (a1 := a1) (a3 := a3) (a4 := a4) (a6 := a6) (a7 := a7) (a8 := a8) (a9 := a9) (a10 := a10) (a11 := a11) (a12 := a12) (x := x) (z := M.z)
  generalize alph.filter (fun c => decide (c ∉ M.z)) = L at hL1 hL2 hLz eL
  obtain ⟨q1, n, e1, l1, h1⟩ := drw (l := 2) h (by decide) (by decide) (by omega)
  have key : ∃ (q' : Dq) (W : List Nat) (x7 x8 : Option D), forE (tgN [0] 7) L__law_is_refused_0 (dInts 0 (1 + n)) [some (dq q1), some (mkD M), some (sD M.z), some (sD t), some (.ol ((sg L).map sD)), none, some (sD t), none, none, none, none, none, none] = some (.nx [some (dq q'), some (mkD M), some (sD M.z), some (sD t), some (.ol ((sg L).map sD)), none, some (sD W), x7, x8, none, none, none, none]) ∧ (∃ c ∈ W, c ∈ L) ∧ W.length ≤ 900 ∧ DqOk q' (k + 10) := by
    have d1 : dInts 0 1 = [.int 0] := rfl
    have d2 : dInts 0 2 = [.int 0, .int 1] := rfl
    obtain ⟨q2, W2, x2, e2, w2, n2, h2⟩ := put_turn (a1 := some (mkD M)) (a2 := some (sD M.z)) (a3 := some (sD t)) (a5 := none) (a7 := some (.int 0)) (a9 := none) (a10 := none) (a11 := none) (a12 := none) (x8 := none) (W := t) h1 (by omega) hL1 hL2 (by omega)
    rcases (by omega : n = 0 ∨ n = 1) with rfl | rfl
    · refine ⟨q2, W2, some (.int 0), x2, ?_, w2, by omega, h2.mono (by omega)⟩
      show forE (tgN [0] 7) L__law_is_refused_0 (dInts 0 1) _ = _
      rw [d1]
      unfold mkD at e2 ⊢
      simp (config := {decide := true, implicitDefEqProofs := false}) [r_fn, parOk, frzAt, outsD, List.range_succ, DL.gTup, DL.gLst, gGcd, gNeg, gDiv, gMod, gPow, DL.gSub, gAbs, gInt, gEq, gNe, gRng1, kwR, gmInsert, gmExtend, gmAppend, gmSet, ixR, DL.isNon, ixN, atI, lstD, seqD, gIsN, gNotN, forE_1, forE_0, e2]
    · obtain ⟨q3, W3, x3, e3, w3, n3, h3⟩ := put_turn (a1 := some (mkD M)) (a2 := some (sD M.z)) (a3 := some (sD t)) (a5 := none) (a7 := some (.int 1)) (a9 := none) (a10 := none) (a11 := none) (a12 := none) (x8 := x2) (W := W2) h2 (by omega) hL1 hL2 (by omega)
      refine ⟨q3, W3, some (.int 1), x3, ?_, w3, by omega, h3.mono (by omega)⟩
      show forE (tgN [0] 7) L__law_is_refused_0 (dInts 0 2) _ = _
      rw [d2]
      unfold mkD at e2 e3 ⊢
      simp (config := {decide := true, implicitDefEqProofs := false}) [r_fn, parOk, frzAt, outsD, List.range_succ, DL.gTup, DL.gLst, gGcd, gNeg, gDiv, gMod, gPow, DL.gSub, gAbs, gInt, gEq, gNe, gRng1, kwR, gmInsert, gmExtend, gmAppend, gmSet, ixR, DL.isNon, ixN, atI, lstD, seqD, gIsN, gNotN, forE_1, forE_0, e2, e3]
  obtain ⟨q2, W, x7, x8, e2, ⟨c0, hc0, hcL⟩, wl, h2⟩ := key
  refine ⟨q2, ?_, h2⟩
  obtain ⟨t', c, u, ew, hc, ht'⟩ := first_not (z := M.z) W ⟨c0, hc0, hLz c0 hcL⟩
  have ec := call_no (u := u) hc ht'
  have eD := fun a0 a1 a3 a4 a5 a7 a8 a9 a11 a12 x => due_C (a0 := a0) (a1 := a1) (a3 := a3) (a4 := a4) (a5 := a5) (a7 := a7) (a8 := a8) (a9 := a9) (a11 := a11) (a12 := a12) (x := x) (z := M.z) (w := W) (by omega)
  have ef : W.filter (fun c => decide (c ∉ M.z)) = c :: u.filter (fun c => decide (c ∉ M.z)) := by
    rw [ew, List.filter_append, List.filter_eq_nil_iff.mpr (fun x hx => by simpa using ht' x hx), List.nil_append]
    exact List.filter_cons_of_pos (by simpa using hc)
  rw [ef] at eD
  have es : (sg (c :: u.filter (fun c => decide (c ∉ M.z)))).map sD = sD [c] :: (sg (u.filter fun c => decide (c ∉ M.z))).map sD := rfl
  rw [es] at eD
  rw [← ew] at ec
  have x6 := (kx M (kvs M.r M.z)).2.2.2.2.2
  generalize (sg (u.filter fun c => decide (c ∉ M.z))).map sD = U at eD
  generalize hX : (sg L).map sD = X at eL e2
  unfold mkD at e2 ec ⊢
  generalize fldsF M (kvs M.r M.z) = F at e2 ec x6 ⊢
  have b1 : -4611686018427387904 ≤ 1 + (n : Int) ∧ 1 + (n : Int) < 4611686018427387904 := by omega
  have b2 : (1 + (n : Int)).toNat = 1 + n := by omega
  have i0 : ∀ (d : D) (ds : List D), atI (d :: ds) 0 = some d := fun d ds => by
    unfold atI ixN
    have h1 : (0 : Int) < ((d :: ds).length : Nat) := by rw [List.length_cons]; omega
    rw [if_pos (by decide), if_pos h1]
    rfl
  simp (config := {decide := true, implicitDefEqProofs := false}) [r_fn, parOk, frzAt, outsD, List.range_succ, DL.gTup, DL.gLst, gGcd, gNeg, gDiv, gMod, gPow, DL.gSub, gAbs, gInt, gEq, gNe, gRng1, kwR, gmInsert, gmExtend, gmAppend, gmSet, ixR, DL.isNon, ixN, lstD, seqD, gIsN, gNotN, i0, m__law_is_refused, f__law_is_refused, eL, e1, gRng1, b1, b2, e2, eD, evCallI, callIK, insChk, x6, ec, catch_, catX, tab, isX, exs, xTys, xNts, gXv]
end K04

namespace K04
open PySem PySem.Spec PyProof.Rows L2 DL

/-! ### the law -/
structure Row where
  M : Mc
  len : Nat
  ts : List (List Nat)
  g : MG M len
  l : len ≤ 450
  m : Msg M.z len ts
def rowD (r : Row) : D := .tup [ptD r.M, mkD r.M, .lst (r.ts.map sD)]
@[simp] theorem sh_row (r : Row) : (rowD r).sh = true := rfl
@[simp] theorem fz_row (r : Row) : frz (rowD r) = rowD r := rfl
@[simp] theorem fzL_row (rs : List Row) : frzL (rs.map rowD) = rs.map rowD := fzL_map fz_row
theorem MG.init {M : Mc} {len : Nat} (h : MG M len) : m_Machine____init__ [.oi 20 [], sD M.z, .lst (M.b.map nuD), .lst (M.r.map rdD), .lst (M.e.map nuD)] = some (.ok .non [.oi 20 (fldsO M (kvs M.r M.z)), sD M.z, .lst (M.b.map nuD), .lst (M.r.map rdD), .lst (M.e.map nuD)]) := by
  obtain ⟨g, most, v, g9⟩ := h.g
  exact init_ok v g9 h.abc h.asc h.l
theorem row_turn {S x3 x4 x5 x6 x7 x8 x9 : Option D} {q : Dq} {k : Nat} {rs : List Row} (h : DqOk q k) (hk : k ≤ 6000) (hl : rs.length ≤ 100) :
    ∃ (q' : Dq) (r : Row) (y4 y5 y6 : Option D), L_law_0 [S, some (dq q), some (.ol (rs.map rowD)), x3, x4, x5, x6, x7, x8, x9] = some (.nx [S, some (dq q'), some (.ol ((rs ++ [r]).map rowD)), x3, y4, y5, y6, x7, x8, x9]) ∧ DqOk q' (k + 650) := by
  obtain ⟨q1, M, w, e1, g, h1⟩ := some_ok h hk
  obtain ⟨gg, most, v, g9⟩ := g.g
  obtain ⟨q2, ts, e2, m, h2⟩ := messages_ok (z := M.z) (w := w) v.z1 v.zl h1 (by omega)
  have e3 := g.init
  have fF := frzF_fl M
  refine ⟨q2, ⟨M, _, ts, g, by cases w <;> decide, m⟩, some (ptD M), some (.bl w), some (mkD M), ?_, h2⟩
  rw [List.map_append, List.map_cons, List.map_nil]
  have er : rowD ⟨M, _, ts, g, by cases w <;> decide, m⟩ = .tup [ptD M, .ins 20 (fldsF M (kvs M.r M.z)), .lst (ts.map sD)] := rfl
  rw [er]
  have hz : rs.length < 16777216 := by omega
  unfold mkD
  generalize fldsF M (kvs M.r M.z) = FF at fF ⊢
  generalize fldsO M (kvs M.r M.z) = FO at fF e3
  unfold ptD at e1 ⊢
  simp (config := {decide := true, implicitDefEqProofs := false}) [r_fn, parOk, frzAt, outsD, List.range_succ, DL.gTup, DL.gLst, gGcd, gNeg, gDiv, gMod, gPow, DL.gSub, gAbs, gInt, gEq, gNe, gRng1, kwR, gmInsert, gmExtend, gmAppend, gmSet, ixR, DL.isNon, ixN, atI, lstD, seqD, gIsN, gNotN, a_L_law_0, e1, evMake, makeK, e3, fF, e2, hz]
theorem rows3 {S x3 x4 x5 x6 x7 x8 x9 : Option D} {q : Dq} (h : DqOk q 0) : ∃ (q' : Dq) (rs : List Row) (y3 y4 y5 y6 : Option D), forE (tgN [] 3) L_law_0 [.int 0, .int 1, .int 2] [S, some (dq q), some (.ol []), x3, x4, x5, x6, x7, x8, x9] = some (.nx [S, some (dq q'), some (.ol (rs.map rowD)), y3, y4, y5, y6, x7, x8, x9]) ∧ rs.length = 3 ∧ DqOk q' 1950 := by
  obtain ⟨q1, r1, a4, a5, a6, e1, h1⟩ := row_turn (S := S) (x3 := some (.int 0)) (x4 := x4) (x5 := x5) (x6 := x6) (x7 := x7) (x8 := x8) (x9 := x9) (rs := []) h (by omega) (by simp)
  obtain ⟨q2, r2, b4, b5, b6, e2, h2⟩ := row_turn (S := S) (x3 := some (.int 1)) (x4 := a4) (x5 := a5) (x6 := a6) (x7 := x7) (x8 := x8) (x9 := x9) (rs := [] ++ [r1]) h1 (by omega) (by simp)
  obtain ⟨q3, r3, c4, c5, c6, e3, h3⟩ := row_turn (S := S) (x3 := some (.int 2)) (x4 := b4) (x5 := b5) (x6 := b6) (x7 := x7) (x8 := x8) (x9 := x9) (rs := [] ++ [r1] ++ [r2]) h2 (by omega) (by simp)
  refine ⟨q3, [] ++ [r1] ++ [r2] ++ [r3], some (.int 2), c4, c5, c6, ?_, rfl, h3⟩
  have e0 : ([] : List Row).map rowD = [] := rfl
  rw [e0] at e1
  generalize ([] ++ [r1] ++ [r2] ++ [r3]).map rowD = R3 at e3 ⊢
  generalize ([] ++ [r1] ++ [r2]).map rowD = R2 at e2 e3
  generalize ([] ++ [r1]).map rowD = R1 at e1 e2
  simp (config := {decide := true, implicitDefEqProofs := false}) [r_fn, parOk, frzAt, outsD, List.range_succ, DL.gTup, DL.gLst, gGcd, gNeg, gDiv, gMod, gPow, DL.gSub, gAbs, gInt, gEq, gNe, gRng1, kwR, gmInsert, gmExtend, gmAppend, gmSet, ixR, DL.isNon, ixN, atI, lstD, seqD, gIsN, gNotN, forE_1, forE_0, e1, e2, e3]
theorem ask_turn {S Q R T W x9 : Option D} {kk : Nat} {r : Row} : L_law_1 [S, Q, R, T, some (ptD r.M), W, some (mkD r.M), some (.int (kk : Int)), some (.lst (r.ts.map sD)), x9] = some (.nx [S, Q, R, T, some (ptD r.M), W, some (mkD r.M), some (.int (kk : Int)), some (.lst (r.ts.map sD)), x9]) := by
  by_cases hk : kk < r.ts.length
  · have hk' : (kk : Int) < r.ts.length := by omega
    have hx := ix_at (f := sD) (xs := r.ts) (i := kk) hk
    have hm := (r.m.1 r.ts[kk] (List.getElem_mem hk))
    obtain ⟨e1, e2⟩ := call_g r.g hm.2 r.l hm.1
    have x6 := (kx r.M (kvs r.M.r r.M.z)).2.2.2.2.2
    have sh1 : (ansD r.M r.ts[kk]).sh = true := rfl
    have fz1 : frz (ansD r.M r.ts[kk]) = ansD r.M r.ts[kk] := rfl
    have lm : (r.ts.map sD).length = r.ts.length := List.length_map ..
    generalize ansD r.M r.ts[kk] = A at e1 e2 sh1 fz1
    generalize r.ts[kk] = t at hx e1 e2
    generalize r.ts.map sD = X at hx lm ⊢
    unfold mkD at e1 ⊢
    generalize fldsF r.M (kvs r.M.r r.M.z) = F at e1 x6 ⊢
    have sp : (ptD r.M).sh = true := rfl
    have fp : frz (ptD r.M) = ptD r.M := by unfold ptD; simp
    generalize ptD r.M = P at e2 sp fp ⊢
    simp (config := {decide := true, implicitDefEqProofs := false}) [r_fn, parOk, frzAt, outsD, List.range_succ, DL.gTup, DL.gLst, gGcd, gNeg, gDiv, gMod, gPow, DL.gSub, gAbs, gInt, gEq, gNe, gRng1, kwR, gmInsert, gmExtend, gmAppend, gmSet, ixR, DL.isNon, ixN, lstD, seqD, gIsN, gNotN, a_L_law_1, lm, hk, hk', hx, evCallI, callIK, insChk, x6, e1, sh1, fz1, sp, fp, e2]
  · have hk' : ¬ (kk : Int) < r.ts.length := by omega
    have lm : (r.ts.map sD).length = r.ts.length := List.length_map ..
    generalize r.ts.map sD = X at lm ⊢
    simp (config := {decide := true, implicitDefEqProofs := false}) [r_fn, parOk, frzAt, outsD, List.range_succ, DL.gTup, DL.gLst, gGcd, gNeg, gDiv, gMod, gPow, DL.gSub, gAbs, gInt, gEq, gNe, gRng1, kwR, gmInsert, gmExtend, gmAppend, gmSet, ixR, DL.isNon, ixN, atI, lstD, seqD, gIsN, gNotN, a_L_law_1, lm, hk, hk']
end K04

namespace K04
open PySem PySem.Spec PyProof.Rows L2 DL

theorem row_eq (r : Row) : rowD r = .tup [ptD r.M, mkD r.M, .lst (r.ts.map sD)] := rfl
theorem ask_loop {S Q R T W x9 : Option D} {kk : Nat} : ∀ (rs : List Row) (x4 x6 x8 : Option D), ∃ y4 y6 y8 : Option D, forE (tgTup 3 (tgCons (tgN [] 4) (tgCons (tgN [] 6) (tgCons (tgN [] 8) (tgNil))))) L_law_1 (rs.map rowD) [S, Q, R, T, x4, W, x6, some (.int (kk : Int)), x8, x9] = some (.nx [S, Q, R, T, y4, W, y6, some (.int (kk : Int)), y8, x9])
  | [], x4, x6, x8 => ⟨x4, x6, x8, rfl⟩
  | r :: rs, x4, x6, x8 => by
    obtain ⟨y4, y6, y8, e⟩ := ask_loop (S := S) (Q := Q) (R := R) (T := T) (W := W) (x9 := x9) (kk := kk) rs (some (ptD r.M)) (some (mkD r.M)) (some (.lst (r.ts.map sD)))
    refine ⟨y4, y6, y8, ?_⟩
    have e1 := ask_turn (S := S) (Q := Q) (R := R) (T := T) (W := W) (x9 := x9) (kk := kk) (r := r)
    rw [← e, List.map_cons, row_eq]
    have sp : (ptD r.M).sh = true := rfl
    generalize ptD r.M = P at e1 sp ⊢
    generalize fldsF r.M (kvs r.M.r r.M.z) = F at e1 ⊢
    simp (config := {decide := true, implicitDefEqProofs := false}) [r_fn, parOk, frzAt, outsD, List.range_succ, DL.gTup, DL.gLst, gGcd, gNeg, gDiv, gMod, gPow, DL.gSub, gAbs, gInt, gEq, gNe, gRng1, kwR, gmInsert, gmExtend, gmAppend, gmSet, ixR, DL.isNon, ixN, atI, lstD, seqD, gIsN, gNotN, forE_1, e1]
theorem ask_all {S Q T W x9 : Option D} {rs : List Row} : ∀ (n k : Nat) (d : D) (x4 x6 x7 x8 : Option D), (d = .ol (rs.map rowD) ∨ d = .lst (rs.map rowD)) → ∃ (d' : D) (y4 y6 y7 y8 : Option D), forE (tgN [] 7) L_law_2 (dInts k n) [S, Q, some d, T, x4, W, x6, x7, x8, x9] = some (.nx [S, Q, some d', T, y4, W, y6, y7, y8, x9]) ∧ (d' = .ol (rs.map rowD) ∨ d' = .lst (rs.map rowD))
  | 0, k, d, x4, x6, x7, x8, hd => ⟨d, x4, x6, x7, x8, rfl, hd⟩
  | n + 1, k, d, x4, x6, x7, x8, hd => by
    obtain ⟨y4, y6, y8, e1⟩ := ask_loop (S := S) (Q := Q) (R := some (.lst (rs.map rowD))) (T := T) (W := W) (x9 := x9) (kk := k) rs x4 x6 x8
    obtain ⟨d', z4, z6, z7, z8, e2, hd'⟩ := ask_all (S := S) (Q := Q) (T := T) (W := W) (x9 := x9) (rs := rs) n (k + 1) (.lst (rs.map rowD)) y4 y6 (some (.int (k : Int))) y8 (.inr rfl)
    refine ⟨d', z4, z6, z7, z8, ?_, hd'⟩
    rw [dI_succ, ← e2]
    have ff := fzL_row rs
    generalize dInts ((k + 1 : Nat) : Int) n = ts
    generalize (k : Int) = kk at e1 ⊢
    generalize rs.map rowD = X at e1 hd ff ⊢
    rcases hd with rfl | rfl
    · simp (config := {decide := true, implicitDefEqProofs := false}) [r_fn, parOk, frzAt, outsD, List.range_succ, DL.gTup, DL.gLst, gGcd, gNeg, gDiv, gMod, gPow, DL.gSub, gAbs, gInt, gEq, gNe, gRng1, kwR, gmInsert, gmExtend, gmAppend, gmSet, ixR, DL.isNon, ixN, atI, lstD, seqD, gIsN, gNotN, forE_1, a_L_law_2, e1, ff]
    · simp (config := {decide := true, implicitDefEqProofs := false}) [r_fn, parOk, frzAt, outsD, List.range_succ, DL.gTup, DL.gLst, gGcd, gNeg, gDiv, gMod, gPow, DL.gSub, gAbs, gInt, gEq, gNe, gRng1, kwR, gmInsert, gmExtend, gmAppend, gmSet, ixR, DL.isNon, ixN, atI, lstD, seqD, gIsN, gNotN, forE_1, a_L_law_2, e1, ff]
theorem last_turn {S R T W x7 x9 : Option D} {q : Dq} {k : Nat} {r : Row} (h : DqOk q k) (hk : k ≤ 6000) : ∃ (q' : Dq) (y9 : Option D), L_law_3 [S, some (dq q), R, T, some (ptD r.M), W, some (mkD r.M), x7, some (.lst (r.ts.map sD)), x9] = some (.nx [S, some (dq q'), R, T, some (ptD r.M), W, some (mkD r.M), x7, some (.lst (r.ts.map sD)), y9]) ∧ DqOk q' (k + 11) := by
  obtain ⟨gg, most, v, g9⟩ := r.g.g
  have hml := r.m.2.1
  have z3 := v.zl
  obtain ⟨q1, i, e1, l1, h1⟩ := drw (l := (r.M.z.length : Int) + 4) h (by omega) (by omega) (by omega)
  have hi : i < r.ts.length := by omega
  have hx := ix_at (f := sD) (xs := r.ts) (i := i) hi
  have hm := (r.m.1 r.ts[i] (List.getElem_mem hi))
  obtain ⟨e3, e4⟩ := call_g r.g hm.2 r.l hm.1
  have l45 := r.l
  obtain ⟨q2, e2, h2⟩ := refused_ok (M := r.M) (t := r.ts[i]) r.g.abc h1 (by omega) (by omega)
  refine ⟨q2, some (sD r.ts[i]), ?_, h2⟩
  have x6 := (kx r.M (kvs r.M.r r.M.z)).2.2.2.2.2
  have sh1 : (ansD r.M r.ts[i]).sh = true := rfl
  have fz1 : frz (ansD r.M r.ts[i]) = ansD r.M r.ts[i] := rfl
  generalize ansD r.M r.ts[i] = A at e3 e4 sh1 fz1
  generalize r.ts[i] = t at hx e2 e3 e4 ⊢
  generalize r.ts.map sD = X at hx ⊢
  have hz2 : r.M.z.length ≤ 16777216 := by omega
  have i0 : ∀ (a b c d : D), atI [a, b, c, d] 0 = some a := fun a b c d => rfl
  unfold mkD at e2 e3 ⊢
  generalize fldsF r.M (kvs r.M.r r.M.z) = F at e2 e3 x6 ⊢
  unfold ptD at e4 ⊢
  simp (config := {decide := true, implicitDefEqProofs := false}) [r_fn, parOk, frzAt, outsD, List.range_succ, DL.gTup, DL.gLst, gGcd, gNeg, gDiv, gMod, gPow, DL.gSub, gAbs, gInt, gEq, gNe, gRng1, kwR, gmInsert, gmExtend, gmAppend, gmSet, ixR, DL.isNon, ixN, lstD, seqD, gIsN, gNotN, a_L_law_3, i0, hz2, e1, hx, e2, evCallI, callIK, insChk, x6, e3, sh1, fz1, e4]
theorem last_loop {S R T W x7 : Option D} : ∀ (rs : List Row) {q : Dq} {k : Nat} (x4 x6 x8 x9 : Option D), DqOk q k → k + 11 * rs.length ≤ 6000 → ∃ (q' : Dq) (y4 y6 y8 y9 : Option D), forE (tgTup 3 (tgCons (tgN [] 4) (tgCons (tgN [] 6) (tgCons (tgN [] 8) (tgNil))))) L_law_3 (rs.map rowD) [S, some (dq q), R, T, x4, W, x6, x7, x8, x9] = some (.nx [S, some (dq q'), R, T, y4, W, y6, x7, y8, y9])
  | [], q, k, x4, x6, x8, x9, h, hk => ⟨q, x4, x6, x8, x9, rfl⟩
  | r :: rs, q, k, x4, x6, x8, x9, h, hk => by
    rw [List.length_cons] at hk
    obtain ⟨q1, y9, e1, h1⟩ := last_turn (S := S) (R := R) (T := T) (W := W) (x7 := x7) (x9 := x9) (r := r) h (by omega)
    obtain ⟨q2, z4, z6, z8, z9, e⟩ := last_loop (S := S) (R := R) (T := T) (W := W) (x7 := x7) rs (some (ptD r.M)) (some (mkD r.M)) (some (.lst (r.ts.map sD))) y9 h1 (by omega)
    refine ⟨q2, z4, z6, z8, z9, ?_⟩
    rw [← e, List.map_cons, row_eq]
    generalize ptD r.M = P at e1 ⊢
    generalize fldsF r.M (kvs r.M.r r.M.z) = F at e1 ⊢
    simp (config := {decide := true, implicitDefEqProofs := false}) [r_fn, parOk, frzAt, outsD, List.range_succ, DL.gTup, DL.gLst, gGcd, gNeg, gDiv, gMod, gPow, DL.gSub, gAbs, gInt, gEq, gNe, gRng1, kwR, gmInsert, gmExtend, gmAppend, gmSet, ixR, DL.isNon, ixN, atI, lstD, seqD, gIsN, gNotN, forE_1, e1]
theorem law_true (ns : List Int) (hl : ns.length ≤ 63) (hb : ∀ z ∈ ns, Builtin.Int.intBits z ≤ 1048576) : ∃ outs, m_law [.frl (ns.map .int)] = some (.ok (.bl true) outs) := by
  obtain ⟨gs, m, e1, h1⟩ := deck_ok ns hl
  obtain ⟨q1, rs, y3, y4, y5, y6, e2, rl, h2⟩ := rows3 (S := some (.frl (ns.map .int))) (q := ⟨gs, 0, m, 0⟩) (x3 := none) (x4 := none) (x5 := none) (x6 := none) (x7 := none) (x8 := none) (x9 := none) h1
  obtain ⟨d', z4, z6, z7, z8, e3, hd'⟩ := ask_all (S := some (.frl (ns.map .int))) (Q := some (dq q1)) (T := y3) (W := y5) (x9 := none) (rs := rs) 10 0 (.ol (rs.map rowD)) y4 y6 none none (.inl rfl)
  obtain ⟨q2, w4, w6, w8, w9, e4⟩ := last_loop (S := some (.frl (ns.map .int))) (R := some (.lst (rs.map rowD))) (T := y3) (W := y5) (x7 := z7) rs z4 z6 z8 none h2 (by rw [rl]; decide)
  refine ⟨[.frl (ns.map .int)], ?_⟩
  have e1 : m__law_deck [.frl (ns.map .int)] = some (.ok (dq ⟨gs, 0, m, 0⟩) [.frl (ns.map .int)]) := e1
  have d3 : dInts 0 3 = [.int 0, .int 1, .int 2] := rfl
  have ei : (((0 : Nat) : Int)) = 0 := rfl
  rw [ei] at e3
  have ff := fzL_row rs
  generalize ns.map D.int = NS at e1 e2 e3 e4 ⊢
  generalize rs.map rowD = X at e2 e3 e4 hd' ff
  rcases hd' with rfl | rfl
  · simp (config := {decide := true, implicitDefEqProofs := false}) [r_fn, parOk, frzAt, outsD, DL.gTup, DL.gLst, gGcd, gNeg, gDiv, gMod, gPow, DL.gSub, gAbs, gInt, gEq, gNe, gRng1, kwR, gmInsert, gmExtend, gmAppend, gmSet, ixR, DL.isNon, ixN, atI, lstD, seqD, gIsN, gNotN, m_law, f_law, gRng1, d3, e1, e2, e3, e4, ff]
  · simp (config := {decide := true, implicitDefEqProofs := false}) [r_fn, parOk, frzAt, outsD, DL.gTup, DL.gLst, gGcd, gNeg, gDiv, gMod, gPow, DL.gSub, gAbs, gInt, gEq, gNe, gRng1, kwR, gmInsert, gmExtend, gmAppend, gmSet, ixR, DL.isNon, ixN, atI, lstD, seqD, gIsN, gNotN, m_law, f_law, gRng1, d3, e1, e2, e3, e4, ff]
end K04

namespace K04
open PySem PySem.Spec PyProof.Rows L2 DL
theorem all_mk {l : PySem.W.OpenLaw} {w : World} {K : PySem.W.Frag} {h : Heap} {mg : Str → Option Value} {fa : Addr} (X : K.In h) (G : h.Ns mainGlobals mg) (hfa : mg "law" = some (.ref fa))
    {f0 f1 f2 f3 f4 f5 f6 f7 f8 f9 f10 f11 f12 f13 f14 f15 f16 f17 f18 f19 f20 f21 f22 f23 f24 f25 f26 f27 fI C0 C1 C2 C3 C4 C5 C20 : Addr}
    {od0 an0 : Option Addr} {sl0 : Array (Option Value)} {oc0 kV0 dc0 pm0 cd0 ct0 : Value}
    {od1 an1 : Option Addr} {sl1 : Array (Option Value)} {oc1 kV1 dc1 pm1 cd1 ct1 : Value}
    {od2 an2 : Option Addr} {sl2 : Array (Option Value)} {oc2 kV2 dc2 pm2 cd2 ct2 : Value}
    {od3 an3 : Option Addr} {sl3 : Array (Option Value)} {oc3 kV3 dc3 pm3 cd3 ct3 : Value}
    {od4 an4 : Option Addr} {sl4 : Array (Option Value)} {oc4 kV4 dc4 pm4 cd4 ct4 : Value}
    {od5 an5 : Option Addr} {sl5 : Array (Option Value)} {oc5 kV5 dc5 pm5 cd5 ct5 : Value}
    {od6 an6 : Option Addr} {sl6 : Array (Option Value)} {oc6 kV6 dc6 pm6 cd6 ct6 : Value}
    {od7 an7 : Option Addr} {sl7 : Array (Option Value)} {oc7 kV7 dc7 pm7 cd7 ct7 : Value}
    {od8 an8 : Option Addr} {sl8 : Array (Option Value)} {oc8 kV8 dc8 pm8 cd8 ct8 : Value}
    {od9 an9 : Option Addr} {sl9 : Array (Option Value)} {oc9 kV9 dc9 pm9 cd9 ct9 : Value}
    {od10 an10 : Option Addr} {sl10 : Array (Option Value)} {oc10 kV10 dc10 pm10 cd10 ct10 : Value}
    {od11 an11 : Option Addr} {sl11 : Array (Option Value)} {oc11 kV11 dc11 pm11 cd11 ct11 : Value}
    {od12 an12 : Option Addr} {sl12 : Array (Option Value)} {oc12 kV12 dc12 pm12 cd12 ct12 : Value}
    {od13 an13 : Option Addr} {sl13 : Array (Option Value)} {oc13 kV13 dc13 pm13 cd13 ct13 : Value}
    {od14 an14 : Option Addr} {sl14 : Array (Option Value)} {oc14 kV14 dc14 pm14 cd14 ct14 : Value}
    {od15 an15 : Option Addr} {sl15 : Array (Option Value)} {oc15 kV15 dc15 pm15 cd15 ct15 : Value}
    {od16 an16 : Option Addr} {sl16 : Array (Option Value)} {oc16 kV16 dc16 pm16 cd16 ct16 : Value}
    {od17 an17 : Option Addr} {sl17 : Array (Option Value)} {oc17 kV17 dc17 pm17 cd17 ct17 : Value}
    {od18 an18 : Option Addr} {sl18 : Array (Option Value)} {oc18 kV18 dc18 pm18 cd18 ct18 : Value}
    {od19 an19 : Option Addr} {sl19 : Array (Option Value)} {oc19 kV19 dc19 pm19 cd19 ct19 : Value}
    {od20 an20 : Option Addr} {sl20 : Array (Option Value)} {oc20 kV20 dc20 pm20 cd20 ct20 : Value}
    {od21 an21 : Option Addr} {sl21 : Array (Option Value)} {oc21 kV21 dc21 pm21 cd21 ct21 : Value}
    {od22 an22 : Option Addr} {sl22 : Array (Option Value)} {oc22 kV22 dc22 pm22 cd22 ct22 : Value}
    {od23 an23 : Option Addr} {sl23 : Array (Option Value)} {oc23 kV23 dc23 pm23 cd23 ct23 : Value}
    {od24 an24 : Option Addr} {sl24 : Array (Option Value)} {oc24 kV24 dc24 pm24 cd24 ct24 : Value}
    {od25 an25 : Option Addr} {sl25 : Array (Option Value)} {oc25 kV25 dc25 pm25 cd25 ct25 : Value}
    {od26 an26 : Option Addr} {sl26 : Array (Option Value)} {oc26 kV26 dc26 pm26 cd26 ct26 : Value}
    {od27 an27 : Option Addr} {sl27 : Array (Option Value)} {oc27 kV27 dc27 pm27 cd27 ct27 : Value}
    {odI anI : Option Addr} {slI : Array (Option Value)} {ocI kVI dcI pmI cdI ctI : Value}
    {tk_LETTERS : Tok}
    (a0 : PySem.W.nsIn K mainGlobals "integers_behind" = some (some (.ref f0)))
    (l0 : K.lookup f0 = some ⟨oc0, od0, .func (PySem.W.fnOf "integers_behind" "integers_behind" (defArgs S_integers_behind) (defBody S_integers_behind) (defScope S_integers_behind) .none kV0 dc0 pm0 an0 cd0 ct0), sl0⟩)
    (c0 : PySem.W.codeIn K cd0 "integers_behind" = true)
    (k0 : PySem.W.keepIn K (.ref f0) = true)
    (a1 : PySem.W.nsIn K mainGlobals "integers_of" = some (some (.ref f1)))
    (l1 : K.lookup f1 = some ⟨oc1, od1, .func (PySem.W.fnOf "integers_of" "integers_of" (defArgs S_integers_of) (defBody S_integers_of) (defScope S_integers_of) .none kV1 dc1 pm1 an1 cd1 ct1), sl1⟩)
    (c1 : PySem.W.codeIn K cd1 "integers_of" = true)
    (k1 : PySem.W.keepIn K (.ref f1) = true)
    (a2 : PySem.W.nsIn K mainGlobals "known" = some (some (.ref f2)))
    (l2 : K.lookup f2 = some ⟨oc2, od2, .func (PySem.W.fnOf "known" "known" (defArgs S_known) (defBody S_known) (defScope S_known) .none kV2 dc2 pm2 an2 cd2 ct2), sl2⟩)
    (c2 : PySem.W.codeIn K cd2 "known" = true)
    (k2 : PySem.W.keepIn K (.ref f2) = true)
    (a3 : PySem.W.nsIn K mainGlobals "lowest" = some (some (.ref f3)))
    (l3 : K.lookup f3 = some ⟨oc3, od3, .func (PySem.W.fnOf "lowest" "lowest" (defArgs S_lowest) (defBody S_lowest) (defScope S_lowest) .none kV3 dc3 pm3 an3 cd3 ct3), sl3⟩)
    (c3 : PySem.W.codeIn K cd3 "lowest" = true)
    (k3 : PySem.W.keepIn K (.ref f3) = true)
    (aC20 : PySem.W.nsIn K mainGlobals "Machine" = some (some (.ref C20)))
    (a4 : PySem.W.findIn K (.ref C20) "__call__" = some (some (.ref f4)))
    (l4 : K.lookup f4 = some ⟨oc4, od4, .func (PySem.W.fnOf "__call__" "Machine.__call__" (defArgs S_Machine____call__) (defBody S_Machine____call__) (defScope S_Machine____call__) .none kV4 dc4 pm4 an4 cd4 ct4), sl4⟩)
    (c4 : PySem.W.codeIn K cd4 "Machine.__call__" = true)
    (k4 : PySem.W.keepIn K (.ref f4) = true)
    (a5 : PySem.W.nsIn K mainGlobals "is_number" = some (some (.ref f5)))
    (l5 : K.lookup f5 = some ⟨oc5, od5, .func (PySem.W.fnOf "is_number" "is_number" (defArgs S_is_number) (defBody S_is_number) (defScope S_is_number) .none kV5 dc5 pm5 an5 cd5 ct5), sl5⟩)
    (c5 : PySem.W.codeIn K cd5 "is_number" = true)
    (k5 : PySem.W.keepIn K (.ref f5) = true)
    (a6 : PySem.W.nsIn K mainGlobals "checked" = some (some (.ref f6)))
    (l6 : K.lookup f6 = some ⟨oc6, od6, .func (PySem.W.fnOf "checked" "checked" (defArgs S_checked) (defBody S_checked) (defScope S_checked) .none kV6 dc6 pm6 an6 cd6 ct6), sl6⟩)
    (c6 : PySem.W.codeIn K cd6 "checked" = true)
    (k6 : PySem.W.keepIn K (.ref f6) = true)
    (a7 : PySem.W.nsIn K mainGlobals "checked_sign" = some (some (.ref f7)))
    (l7 : K.lookup f7 = some ⟨oc7, od7, .func (PySem.W.fnOf "checked_sign" "checked_sign" (defArgs S_checked_sign) (defBody S_checked_sign) (defScope S_checked_sign) .none kV7 dc7 pm7 an7 cd7 ct7), sl7⟩)
    (c7 : PySem.W.codeIn K cd7 "checked_sign" = true)
    (k7 : PySem.W.keepIn K (.ref f7) = true)
    (a8 : PySem.W.nsIn K mainGlobals "checked_signs" = some (some (.ref f8)))
    (l8 : K.lookup f8 = some ⟨oc8, od8, .func (PySem.W.fnOf "checked_signs" "checked_signs" (defArgs S_checked_signs) (defBody S_checked_signs) (defScope S_checked_signs) .none kV8 dc8 pm8 an8 cd8 ct8), sl8⟩)
    (c8 : PySem.W.codeIn K cd8 "checked_signs" = true)
    (k8 : PySem.W.keepIn K (.ref f8) = true)
    (a9 : PySem.W.nsIn K mainGlobals "checked_machine" = some (some (.ref f9)))
    (l9 : K.lookup f9 = some ⟨oc9, od9, .func (PySem.W.fnOf "checked_machine" "checked_machine" (defArgs S_checked_machine) (defBody S_checked_machine) (defScope S_checked_machine) .none kV9 dc9 pm9 an9 cd9 ct9), sl9⟩)
    (c9 : PySem.W.codeIn K cd9 "checked_machine" = true)
    (k9 : PySem.W.keepIn K (.ref f9) = true)
    (a10 : PySem.W.nsIn K mainGlobals "steps_of" = some (some (.ref f10)))
    (l10 : K.lookup f10 = some ⟨oc10, od10, .func (PySem.W.fnOf "steps_of" "steps_of" (defArgs S_steps_of) (defBody S_steps_of) (defScope S_steps_of) .none kV10 dc10 pm10 an10 cd10 ct10), sl10⟩)
    (c10 : PySem.W.codeIn K cd10 "steps_of" = true)
    (k10 : PySem.W.keepIn K (.ref f10) = true)
    (a11 : PySem.W.findIn K (.ref C20) "__init__" = some (some (.ref f11)))
    (l11 : K.lookup f11 = some ⟨oc11, od11, .func (PySem.W.fnOf "__init__" "Machine.__init__" (defArgs S_Machine____init__) (defBody S_Machine____init__) (defScope S_Machine____init__) .none kV11 dc11 pm11 an11 cd11 ct11), sl11⟩)
    (c11 : PySem.W.codeIn K cd11 "Machine.__init__" = true)
    (k11 : PySem.W.keepIn K (.ref f11) = true)
    (a12 : PySem.W.nsIn K mainGlobals "_law_deck" = some (some (.ref f12)))
    (l12 : K.lookup f12 = some ⟨oc12, od12, .func (PySem.W.fnOf "_law_deck" "_law_deck" (defArgs S__law_deck) (defBody S__law_deck) (defScope S__law_deck) .none kV12 dc12 pm12 an12 cd12 ct12), sl12⟩)
    (c12 : PySem.W.codeIn K cd12 "_law_deck" = true)
    (k12 : PySem.W.keepIn K (.ref f12) = true)
    (a13 : PySem.W.nsIn K mainGlobals "_law_draw" = some (some (.ref f13)))
    (l13 : K.lookup f13 = some ⟨oc13, od13, .func (PySem.W.fnOf "_law_draw" "_law_draw" (defArgs S__law_draw) (defBody S__law_draw) (defScope S__law_draw) .none kV13 dc13 pm13 an13 cd13 ct13), sl13⟩)
    (c13 : PySem.W.codeIn K cd13 "_law_draw" = true)
    (k13 : PySem.W.keepIn K (.ref f13) = true)
    (a14 : PySem.W.nsIn K mainGlobals "_law_is_refused" = some (some (.ref f14)))
    (l14 : K.lookup f14 = some ⟨oc14, od14, .func (PySem.W.fnOf "_law_is_refused" "_law_is_refused" (defArgs S__law_is_refused) (defBody S__law_is_refused) (defScope S__law_is_refused) .none kV14 dc14 pm14 an14 cd14 ct14), sl14⟩)
    (c14 : PySem.W.codeIn K cd14 "_law_is_refused" = true)
    (k14 : PySem.W.keepIn K (.ref f14) = true)
    (a15 : PySem.W.nsIn K mainGlobals "_law_gcd" = some (some (.ref f15)))
    (l15 : K.lookup f15 = some ⟨oc15, od15, .func (PySem.W.fnOf "_law_gcd" "_law_gcd" (defArgs S__law_gcd) (defBody S__law_gcd) (defScope S__law_gcd) .none kV15 dc15 pm15 an15 cd15 ct15), sl15⟩)
    (c15 : PySem.W.codeIn K cd15 "_law_gcd" = true)
    (k15 : PySem.W.keepIn K (.ref f15) = true)
    (a16 : PySem.W.nsIn K mainGlobals "_law_over" = some (some (.ref f16)))
    (l16 : K.lookup f16 = some ⟨oc16, od16, .func (PySem.W.fnOf "_law_over" "_law_over" (defArgs S__law_over) (defBody S__law_over) (defScope S__law_over) .none kV16 dc16 pm16 an16 cd16 ct16), sl16⟩)
    (c16 : PySem.W.codeIn K cd16 "_law_over" = true)
    (k16 : PySem.W.keepIn K (.ref f16) = true)
    (a17 : PySem.W.nsIn K mainGlobals "_law_scaled" = some (some (.ref f17)))
    (l17 : K.lookup f17 = some ⟨oc17, od17, .func (PySem.W.fnOf "_law_scaled" "_law_scaled" (defArgs S__law_scaled) (defBody S__law_scaled) (defScope S__law_scaled) .none kV17 dc17 pm17 an17 cd17 ct17), sl17⟩)
    (c17 : PySem.W.codeIn K cd17 "_law_scaled" = true)
    (k17 : PySem.W.keepIn K (.ref f17) = true)
    (a18 : PySem.W.nsIn K mainGlobals "_law_stepped" = some (some (.ref f18)))
    (l18 : K.lookup f18 = some ⟨oc18, od18, .func (PySem.W.fnOf "_law_stepped" "_law_stepped" (defArgs S__law_stepped) (defBody S__law_stepped) (defScope S__law_stepped) .none kV18 dc18 pm18 an18 cd18 ct18), sl18⟩)
    (c18 : PySem.W.codeIn K cd18 "_law_stepped" = true)
    (k18 : PySem.W.keepIn K (.ref f18) = true)
    (a19 : PySem.W.nsIn K mainGlobals "_law_is_worth" = some (some (.ref f19)))
    (l19 : K.lookup f19 = some ⟨oc19, od19, .func (PySem.W.fnOf "_law_is_worth" "_law_is_worth" (defArgs S__law_is_worth) (defBody S__law_is_worth) (defScope S__law_is_worth) .none kV19 dc19 pm19 an19 cd19 ct19), sl19⟩)
    (c19 : PySem.W.codeIn K cd19 "_law_is_worth" = true)
    (k19 : PySem.W.keepIn K (.ref f19) = true)
    (a20 : PySem.W.nsIn K mainGlobals "_law_message" = some (some (.ref f20)))
    (l20 : K.lookup f20 = some ⟨oc20, od20, .func (PySem.W.fnOf "_law_message" "_law_message" (defArgs S__law_message) (defBody S__law_message) (defScope S__law_message) .none kV20 dc20 pm20 an20 cd20 ct20), sl20⟩)
    (c20 : PySem.W.codeIn K cd20 "_law_message" = true)
    (k20 : PySem.W.keepIn K (.ref f20) = true)
    (a21 : PySem.W.nsIn K mainGlobals "_law_messages" = some (some (.ref f21)))
    (l21 : K.lookup f21 = some ⟨oc21, od21, .func (PySem.W.fnOf "_law_messages" "_law_messages" (defArgs S__law_messages) (defBody S__law_messages) (defScope S__law_messages) .none kV21 dc21 pm21 an21 cd21 ct21), sl21⟩)
    (c21 : PySem.W.codeIn K cd21 "_law_messages" = true)
    (k21 : PySem.W.keepIn K (.ref f21) = true)
    (a22 : PySem.W.nsIn K mainGlobals "_law_pair" = some (some (.ref f22)))
    (l22 : K.lookup f22 = some ⟨oc22, od22, .func (PySem.W.fnOf "_law_pair" "_law_pair" (defArgs S__law_pair) (defBody S__law_pair) (defScope S__law_pair) .none kV22 dc22 pm22 an22 cd22 ct22), sl22⟩)
    (c22 : PySem.W.codeIn K cd22 "_law_pair" = true)
    (k22 : PySem.W.keepIn K (.ref f22) = true)
    (a23 : PySem.W.nsIn K mainGlobals "_law_number" = some (some (.ref f23)))
    (l23 : K.lookup f23 = some ⟨oc23, od23, .func (PySem.W.fnOf "_law_number" "_law_number" (defArgs S__law_number) (defBody S__law_number) (defScope S__law_number) .none kV23 dc23 pm23 an23 cd23 ct23), sl23⟩)
    (c23 : PySem.W.codeIn K cd23 "_law_number" = true)
    (k23 : PySem.W.keepIn K (.ref f23) = true)
    (a24 : PySem.W.nsIn K mainGlobals "_law_machine" = some (some (.ref f24)))
    (l24 : K.lookup f24 = some ⟨oc24, od24, .func (PySem.W.fnOf "_law_machine" "_law_machine" (defArgs S__law_machine) (defBody S__law_machine) (defScope S__law_machine) .none kV24 dc24 pm24 an24 cd24 ct24), sl24⟩)
    (c24 : PySem.W.codeIn K cd24 "_law_machine" = true)
    (k24 : PySem.W.keepIn K (.ref f24) = true)
    (a25 : PySem.W.nsIn K mainGlobals "_law_signs" = some (some (.ref f25)))
    (l25 : K.lookup f25 = some ⟨oc25, od25, .func (PySem.W.fnOf "_law_signs" "_law_signs" (defArgs S__law_signs) (defBody S__law_signs) (defScope S__law_signs) .none kV25 dc25 pm25 an25 cd25 ct25), sl25⟩)
    (c25 : PySem.W.codeIn K cd25 "_law_signs" = true)
    (k25 : PySem.W.keepIn K (.ref f25) = true)
    (a26 : PySem.W.nsIn K mainGlobals "_law_some_machine" = some (some (.ref f26)))
    (l26 : K.lookup f26 = some ⟨oc26, od26, .func (PySem.W.fnOf "_law_some_machine" "_law_some_machine" (defArgs S__law_some_machine) (defBody S__law_some_machine) (defScope S__law_some_machine) .none kV26 dc26 pm26 an26 cd26 ct26), sl26⟩)
    (c26 : PySem.W.codeIn K cd26 "_law_some_machine" = true)
    (k26 : PySem.W.keepIn K (.ref f26) = true)
    (a27 : PySem.W.nsIn K mainGlobals "law" = some (some (.ref f27)))
    (l27 : K.lookup f27 = some ⟨oc27, od27, .func (PySem.W.fnOf "law" "law" (defArgs S_law) (defBody S_law) (defScope S_law) .none kV27 dc27 pm27 an27 cd27 ct27), sl27⟩)
    (c27 : PySem.W.codeIn K cd27 "law" = true)
    (k27 : PySem.W.keepIn K (.ref f27) = true)
    (z_len : PySem.W.nsIn K mainGlobals "len" = some none)
    (g_lcm : PySem.W.nsIn K mainGlobals "lcm" = some (some (.builtin "math.lcm")))
    (g_gcd : PySem.W.nsIn K mainGlobals "gcd" = some (some (.builtin "math.gcd")))
    (z_sum : PySem.W.nsIn K mainGlobals "sum" = some none)
    (z_zip : PySem.W.nsIn K mainGlobals "zip" = some none)
    (g_LETTERS : PySem.W.nsIn K mainGlobals "LETTERS" = some (some (.str ("abcdefghijklmnopqrstuvwxyz" : Str) tk_LETTERS)))
    (z_list : PySem.W.nsIn K mainGlobals "list" = some none)
    (z_int : PySem.W.nsIn K mainGlobals "int" = some none)
    (z_range : PySem.W.nsIn K mainGlobals "range" = some none)
    (z_isinstance : PySem.W.nsIn K mainGlobals "isinstance" = some none)
    (z_ValueError : PySem.W.nsIn K mainGlobals "ValueError" = some none)
    (z_str : PySem.W.nsIn K mainGlobals "str" = some none)
    (z_abs : PySem.W.nsIn K mainGlobals "abs" = some none)
    (z_tuple : PySem.W.nsIn K mainGlobals "tuple" = some none)
    (z_bool : PySem.W.nsIn K mainGlobals "bool" = some none)
    (z_min : PySem.W.nsIn K mainGlobals "min" = some none)
    (z_sorted : PySem.W.nsIn K mainGlobals "sorted" = some none)
    (vV : PySem.W.findCls K (.type "ValueError") (.type "type") "__init__" = some (.val (.builtin "ValueError.__init__")))
    (aC0 : PySem.W.nsIn K mainGlobals "WorthError" = some (some (.ref C0)))
    (aC1 : PySem.W.nsIn K mainGlobals "InvalidNumber" = some (some (.ref C1)))
    (aC2 : PySem.W.nsIn K mainGlobals "InvalidSigns" = some (some (.ref C2)))
    (aC3 : PySem.W.nsIn K mainGlobals "UnknownSign" = some (some (.ref C3)))
    (aC4 : PySem.W.nsIn K mainGlobals "InvalidMachine" = some (some (.ref C4)))
    (aC5 : PySem.W.nsIn K mainGlobals "UnlikeSigns" = some (some (.ref C5)))
    (aI : PySem.W.findIn K (.ref C0) "__init__" = some (some (.ref fI)))
    (lI : K.lookup fI = some ⟨ocI, odI, .func (PySem.W.fnOf "__init__" "WorthError.__init__" (defArgs initS) (defBody initS) (defScope initS) .none kVI dcI pmI anI cdI ctI), slI⟩)
    (cI : PySem.W.codeIn K cdI "WorthError.__init__" = true)
    (kI : PySem.W.keepIn K (.ref fI) = true)
    (tI : PySem.W.typeIn K (.ref fI) = some (.type "function"))
    (xB : excB K (fun c => [C0, C1, C2, C3, C4, C5, 0, 0, 0, 0, 0, 0, 0, 0, 0, 0, 0, 0, 0, 0, C20].getD c 0) fI exs = true)
    (xO20 : ownB K C20 f11 [(("__call__" : Str), f4)] [] [("_signs" : Str), ("_begin" : Str), ("_steps" : Str), ("_end" : Str), ("_roads" : Str)] = true)
    : ∃ fd : FuncData, (∀ (s : Shared) (v : Value), BindsTo s fd ⟨[v], []⟩ [("script", v)]) ∧ ∀ base : Heap, K.In base → base.Ns mainGlobals mg → FnOk l.prog w K mg base (L2.CX l.prog w) 7 fa fd ["script"] (spScr K) := by
  have e := hfa.symm.trans (PySem.W.mg_of X G a27)
  cases e
  have F0 := fun_mk (st := S_integers_behind) l0 c0 k0
  have B0 := F0.binds (ps := P_integers_behind) fun _ _ _ _ _ _ us hl => match us, hl with | [_, _], _ => rfl
  have F1 := fun_mk (st := S_integers_of) l1 c1 k1
  have B1 := F1.binds (ps := P_integers_of) fun _ _ _ _ _ _ us hl => match us, hl with | [_], _ => rfl
  have F2 := fun_mk (st := S_known) l2 c2 k2
  have B2 := F2.binds (ps := P_known) fun _ _ _ _ _ _ us hl => match us, hl with | [_, _], _ => rfl
  have F3 := fun_mk (st := S_lowest) l3 c3 k3
  have B3 := F3.binds (ps := P_lowest) fun _ _ _ _ _ _ us hl => match us, hl with | [_, _], _ => rfl
  have F4 := fun_mk (st := S_Machine____call__) l4 c4 k4
  have B4 := F4.binds (ps := P_Machine____call__) fun _ _ _ _ _ _ us hl => match us, hl with | [_, _], _ => rfl
  have F5 := fun_mk (st := S_is_number) l5 c5 k5
  have B5 := F5.binds (ps := P_is_number) fun _ _ _ _ _ _ us hl => match us, hl with | [_], _ => rfl
  have F6 := fun_mk (st := S_checked) l6 c6 k6
  have B6 := F6.binds (ps := P_checked) fun _ _ _ _ _ _ us hl => match us, hl with | [_], _ => rfl
  have F7 := fun_mk (st := S_checked_sign) l7 c7 k7
  have B7 := F7.binds (ps := P_checked_sign) fun _ _ _ _ _ _ us hl => match us, hl with | [_, _], _ => rfl
  have F8 := fun_mk (st := S_checked_signs) l8 c8 k8
  have B8 := F8.binds (ps := P_checked_signs) fun _ _ _ _ _ _ us hl => match us, hl with | [_], _ => rfl
  have F9 := fun_mk (st := S_checked_machine) l9 c9 k9
  have B9 := F9.binds (ps := P_checked_machine) fun _ _ _ _ _ _ us hl => match us, hl with | [_, _, _, _], _ => rfl
  have F10 := fun_mk (st := S_steps_of) l10 c10 k10
  have B10 := F10.binds (ps := P_steps_of) fun _ _ _ _ _ _ us hl => match us, hl with | [_, _], _ => rfl
  have F11 := fun_mk (st := S_Machine____init__) l11 c11 k11
  have B11 := F11.binds (ps := P_Machine____init__) fun _ _ _ _ _ _ us hl => match us, hl with | [_, _, _, _, _], _ => rfl
  have F12 := fun_mk (st := S__law_deck) l12 c12 k12
  have B12 := F12.binds (ps := P__law_deck) fun _ _ _ _ _ _ us hl => match us, hl with | [_], _ => rfl
  have F13 := fun_mk (st := S__law_draw) l13 c13 k13
  have B13 := F13.binds (ps := P__law_draw) fun _ _ _ _ _ _ us hl => match us, hl with | [_, _], _ => rfl
  have F14 := fun_mk (st := S__law_is_refused) l14 c14 k14
  have B14 := F14.binds (ps := P__law_is_refused) fun _ _ _ _ _ _ us hl => match us, hl with | [_, _, _, _], _ => rfl
  have F15 := fun_mk (st := S__law_gcd) l15 c15 k15
  have B15 := F15.binds (ps := P__law_gcd) fun _ _ _ _ _ _ us hl => match us, hl with | [_, _], _ => rfl
  have F16 := fun_mk (st := S__law_over) l16 c16 k16
  have B16 := F16.binds (ps := P__law_over) fun _ _ _ _ _ _ us hl => match us, hl with | [_], _ => rfl
  have F17 := fun_mk (st := S__law_scaled) l17 c17 k17
  have B17 := F17.binds (ps := P__law_scaled) fun _ _ _ _ _ _ us hl => match us, hl with | [_], _ => rfl
  have F18 := fun_mk (st := S__law_stepped) l18 c18 k18
  have B18 := F18.binds (ps := P__law_stepped) fun _ _ _ _ _ _ us hl => match us, hl with | [_, _, _], _ => rfl
  have F19 := fun_mk (st := S__law_is_worth) l19 c19 k19
  have B19 := F19.binds (ps := P__law_is_worth) fun _ _ _ _ _ _ us hl => match us, hl with | [_, _, _], _ => rfl
  have F20 := fun_mk (st := S__law_message) l20 c20 k20
  have B20 := F20.binds (ps := P__law_message) fun _ _ _ _ _ _ us hl => match us, hl with | [_, _, _], _ => rfl
  have F21 := fun_mk (st := S__law_messages) l21 c21 k21
  have B21 := F21.binds (ps := P__law_messages) fun _ _ _ _ _ _ us hl => match us, hl with | [_, _, _], _ => rfl
  have F22 := fun_mk (st := S__law_pair) l22 c22 k22
  have B22 := F22.binds (ps := P__law_pair) fun _ _ _ _ _ _ us hl => match us, hl with | [_, _], _ => rfl
  have F23 := fun_mk (st := S__law_number) l23 c23 k23
  have B23 := F23.binds (ps := P__law_number) fun _ _ _ _ _ _ us hl => match us, hl with | [_, _], _ => rfl
  have F24 := fun_mk (st := S__law_machine) l24 c24 k24
  have B24 := F24.binds (ps := P__law_machine) fun _ _ _ _ _ _ us hl => match us, hl with | [_, _, _, _, _], _ => rfl
  have F25 := fun_mk (st := S__law_signs) l25 c25 k25
  have B25 := F25.binds (ps := P__law_signs) fun _ _ _ _ _ _ us hl => match us, hl with | [_], _ => rfl
  have F26 := fun_mk (st := S__law_some_machine) l26 c26 k26
  have B26 := F26.binds (ps := P__law_some_machine) fun _ _ _ _ _ _ us hl => match us, hl with | [_], _ => rfl
  have F27 := fun_mk (st := S_law) l27 c27 k27
  have B27 := F27.binds (ps := P_law) fun _ _ _ _ _ _ us hl => match us, hl with | [_], _ => rfl
  have FI := fun_mk (st := initS) lI cI kI
  have BI := FI.binds (ps := [("self" : Str), ("value" : Str)]) fun _ _ _ _ _ _ us hl => match us, hl with | [_, _], _ => rfl
  obtain ⟨x1, x2, x3⟩ := exc_all xB
  have T : Txt K mg (fun c => [C0, C1, C2, C3, C4, C5, 0, 0, 0, 0, 0, 0, 0, 0, 0, 0, 0, 0, 0, 0, C20].getD c 0) fI (PySem.W.fnOf "__init__" "WorthError.__init__" (defArgs initS) (defBody initS) (defScope initS) .none kVI dcI pmI anI cdI ctI) (fun i => [f0, f1, f2, f3, f4, f5, f6, f7, f8, f9, f10, f11, f12, f13, f14, f15, f16, f17, f18, f19, f20, f21, f22, f23, f24, f25, f26, fa].getD i 0) (fun i => match i with | 0 => PySem.W.fnOf "integers_behind" "integers_behind" (defArgs S_integers_behind) (defBody S_integers_behind) (defScope S_integers_behind) .none kV0 dc0 pm0 an0 cd0 ct0 | 1 => PySem.W.fnOf "integers_of" "integers_of" (defArgs S_integers_of) (defBody S_integers_of) (defScope S_integers_of) .none kV1 dc1 pm1 an1 cd1 ct1 | 2 => PySem.W.fnOf "known" "known" (defArgs S_known) (defBody S_known) (defScope S_known) .none kV2 dc2 pm2 an2 cd2 ct2 | 3 => PySem.W.fnOf "lowest" "lowest" (defArgs S_lowest) (defBody S_lowest) (defScope S_lowest) .none kV3 dc3 pm3 an3 cd3 ct3 | 4 => PySem.W.fnOf "__call__" "Machine.__call__" (defArgs S_Machine____call__) (defBody S_Machine____call__) (defScope S_Machine____call__) .none kV4 dc4 pm4 an4 cd4 ct4 | 5 => PySem.W.fnOf "is_number" "is_number" (defArgs S_is_number) (defBody S_is_number) (defScope S_is_number) .none kV5 dc5 pm5 an5 cd5 ct5 | 6 => PySem.W.fnOf "checked" "checked" (defArgs S_checked) (defBody S_checked) (defScope S_checked) .none kV6 dc6 pm6 an6 cd6 ct6 | 7 => PySem.W.fnOf "checked_sign" "checked_sign" (defArgs S_checked_sign) (defBody S_checked_sign) (defScope S_checked_sign) .none kV7 dc7 pm7 an7 cd7 ct7 | 8 => PySem.W.fnOf "checked_signs" "checked_signs" (defArgs S_checked_signs) (defBody S_checked_signs) (defScope S_checked_signs) .none kV8 dc8 pm8 an8 cd8 ct8 | 9 => PySem.W.fnOf "checked_machine" "checked_machine" (defArgs S_checked_machine) (defBody S_checked_machine) (defScope S_checked_machine) .none kV9 dc9 pm9 an9 cd9 ct9 | 10 => PySem.W.fnOf "steps_of" "steps_of" (defArgs S_steps_of) (defBody S_steps_of) (defScope S_steps_of) .none kV10 dc10 pm10 an10 cd10 ct10 | 11 => PySem.W.fnOf "__init__" "Machine.__init__" (defArgs S_Machine____init__) (defBody S_Machine____init__) (defScope S_Machine____init__) .none kV11 dc11 pm11 an11 cd11 ct11 | 12 => PySem.W.fnOf "_law_deck" "_law_deck" (defArgs S__law_deck) (defBody S__law_deck) (defScope S__law_deck) .none kV12 dc12 pm12 an12 cd12 ct12 | 13 => PySem.W.fnOf "_law_draw" "_law_draw" (defArgs S__law_draw) (defBody S__law_draw) (defScope S__law_draw) .none kV13 dc13 pm13 an13 cd13 ct13 | 14 => PySem.W.fnOf "_law_is_refused" "_law_is_refused" (defArgs S__law_is_refused) (defBody S__law_is_refused) (defScope S__law_is_refused) .none kV14 dc14 pm14 an14 cd14 ct14 | 15 => PySem.W.fnOf "_law_gcd" "_law_gcd" (defArgs S__law_gcd) (defBody S__law_gcd) (defScope S__law_gcd) .none kV15 dc15 pm15 an15 cd15 ct15 | 16 => PySem.W.fnOf "_law_over" "_law_over" (defArgs S__law_over) (defBody S__law_over) (defScope S__law_over) .none kV16 dc16 pm16 an16 cd16 ct16 | 17 => PySem.W.fnOf "_law_scaled" "_law_scaled" (defArgs S__law_scaled) (defBody S__law_scaled) (defScope S__law_scaled) .none kV17 dc17 pm17 an17 cd17 ct17 | 18 => PySem.W.fnOf "_law_stepped" "_law_stepped" (defArgs S__law_stepped) (defBody S__law_stepped) (defScope S__law_stepped) .none kV18 dc18 pm18 an18 cd18 ct18 | 19 => PySem.W.fnOf "_law_is_worth" "_law_is_worth" (defArgs S__law_is_worth) (defBody S__law_is_worth) (defScope S__law_is_worth) .none kV19 dc19 pm19 an19 cd19 ct19 | 20 => PySem.W.fnOf "_law_message" "_law_message" (defArgs S__law_message) (defBody S__law_message) (defScope S__law_message) .none kV20 dc20 pm20 an20 cd20 ct20 | 21 => PySem.W.fnOf "_law_messages" "_law_messages" (defArgs S__law_messages) (defBody S__law_messages) (defScope S__law_messages) .none kV21 dc21 pm21 an21 cd21 ct21 | 22 => PySem.W.fnOf "_law_pair" "_law_pair" (defArgs S__law_pair) (defBody S__law_pair) (defScope S__law_pair) .none kV22 dc22 pm22 an22 cd22 ct22 | 23 => PySem.W.fnOf "_law_number" "_law_number" (defArgs S__law_number) (defBody S__law_number) (defScope S__law_number) .none kV23 dc23 pm23 an23 cd23 ct23 | 24 => PySem.W.fnOf "_law_machine" "_law_machine" (defArgs S__law_machine) (defBody S__law_machine) (defScope S__law_machine) .none kV24 dc24 pm24 an24 cd24 ct24 | 25 => PySem.W.fnOf "_law_signs" "_law_signs" (defArgs S__law_signs) (defBody S__law_signs) (defScope S__law_signs) .none kV25 dc25 pm25 an25 cd25 ct25 | 26 => PySem.W.fnOf "_law_some_machine" "_law_some_machine" (defArgs S__law_some_machine) (defBody S__law_some_machine) (defScope S__law_some_machine) .none kV26 dc26 pm26 an26 cd26 ct26 | 27 => PySem.W.fnOf "law" "law" (defArgs S_law) (defBody S_law) (defScope S_law) .none kV27 dc27 pm27 an27 cd27 ct27 | _ => PySem.W.fnOf "integers_behind" "integers_behind" (defArgs S_integers_behind) (defBody S_integers_behind) (defScope S_integers_behind) .none kV0 dc0 pm0 an0 cd0 ct0) (fun i => match i with  | _ => 0) := {
    fnI := FI,
    bI := BI,
    bK := fun s a u => .of_eq rfl,
    tI := tI,
    vV := vV,
    zV := PySem.W.mg_none_of X G z_ValueError,
    ex := x1,
    tab := x2,
    ct := x3,
    fn_integers_behind := F0,
    b_integers_behind := B0,
    g_integers_behind := PySem.W.mg_of X G a0,
    fn_integers_of := F1,
    b_integers_of := B1,
    g_integers_of := PySem.W.mg_of X G a1,
    fn_known := F2,
    b_known := B2,
    g_known := PySem.W.mg_of X G a2,
    fn_lowest := F3,
    b_lowest := B3,
    g_lowest := PySem.W.mg_of X G a3,
    fn_Machine____call__ := F4,
    b_Machine____call__ := B4,
    fn_is_number := F5,
    b_is_number := B5,
    g_is_number := PySem.W.mg_of X G a5,
    fn_checked := F6,
    b_checked := B6,
    g_checked := PySem.W.mg_of X G a6,
    fn_checked_sign := F7,
    b_checked_sign := B7,
    g_checked_sign := PySem.W.mg_of X G a7,
    fn_checked_signs := F8,
    b_checked_signs := B8,
    g_checked_signs := PySem.W.mg_of X G a8,
    fn_checked_machine := F9,
    b_checked_machine := B9,
    g_checked_machine := PySem.W.mg_of X G a9,
    fn_steps_of := F10,
    b_steps_of := B10,
    g_steps_of := PySem.W.mg_of X G a10,
    fn_Machine____init__ := F11,
    b_Machine____init__ := B11,
    fn__law_deck := F12,
    b__law_deck := B12,
    g__law_deck := PySem.W.mg_of X G a12,
    fn__law_draw := F13,
    b__law_draw := B13,
    g__law_draw := PySem.W.mg_of X G a13,
    fn__law_is_refused := F14,
    b__law_is_refused := B14,
    g__law_is_refused := PySem.W.mg_of X G a14,
    fn__law_gcd := F15,
    b__law_gcd := B15,
    g__law_gcd := PySem.W.mg_of X G a15,
    fn__law_over := F16,
    b__law_over := B16,
    g__law_over := PySem.W.mg_of X G a16,
    fn__law_scaled := F17,
    b__law_scaled := B17,
    g__law_scaled := PySem.W.mg_of X G a17,
    fn__law_stepped := F18,
    b__law_stepped := B18,
    g__law_stepped := PySem.W.mg_of X G a18,
    fn__law_is_worth := F19,
    b__law_is_worth := B19,
    g__law_is_worth := PySem.W.mg_of X G a19,
    fn__law_message := F20,
    b__law_message := B20,
    g__law_message := PySem.W.mg_of X G a20,
    fn__law_messages := F21,
    b__law_messages := B21,
    g__law_messages := PySem.W.mg_of X G a21,
    fn__law_pair := F22,
    b__law_pair := B22,
    g__law_pair := PySem.W.mg_of X G a22,
    fn__law_number := F23,
    b__law_number := B23,
    g__law_number := PySem.W.mg_of X G a23,
    fn__law_machine := F24,
    b__law_machine := B24,
    g__law_machine := PySem.W.mg_of X G a24,
    fn__law_signs := F25,
    b__law_signs := B25,
    g__law_signs := PySem.W.mg_of X G a25,
    fn__law_some_machine := F26,
    b__law_some_machine := B26,
    g__law_some_machine := PySem.W.mg_of X G a26,
    fn_law := F27,
    b_law := B27,
    g_law := PySem.W.mg_of X G a27,
    own_Machine := ownB_ok xO20,
    ft := fldT_ok (fun q hq => by simp only [List.mem_cons, List.not_mem_nil, or_false] at hq <;> (rcases hq with rfl) <;> (first | exact fun f hf => ⟨(ownB_ok xO20).cls, (ownB_ok xO20).no f hf⟩)),
    kwm_Machine____call___message := kwm_of F4 (fun _ _ _ _ _ _ u ws us hl e => match ws, hl, e with | [_], _, e => by cases e; rfl) rfl,
    z_len := PySem.W.mg_none_of X G z_len,
    g_lcm := PySem.W.mg_of X G g_lcm,
    g_UnknownSign := PySem.W.mg_of X G aC3,
    g_gcd := PySem.W.mg_of X G g_gcd,
    z_sum := PySem.W.mg_none_of X G z_sum,
    z_zip := PySem.W.mg_none_of X G z_zip,
    g_InvalidNumber := PySem.W.mg_of X G aC1,
    g_LETTERS := ⟨_, PySem.W.mg_of X G g_LETTERS⟩,
    g_InvalidSigns := PySem.W.mg_of X G aC2,
    g_InvalidMachine := PySem.W.mg_of X G aC4,
    z_list := PySem.W.mg_none_of X G z_list,
    z_int := PySem.W.mg_none_of X G z_int,
    z_range := PySem.W.mg_none_of X G z_range,
    g_WorthError := PySem.W.mg_of X G aC0,
    z_isinstance := PySem.W.mg_none_of X G z_isinstance,
    z_ValueError := PySem.W.mg_none_of X G z_ValueError,
    g_UnlikeSigns := PySem.W.mg_of X G aC5,
    z_str := PySem.W.mg_none_of X G z_str,
    z_abs := PySem.W.mg_none_of X G z_abs,
    z_tuple := PySem.W.mg_none_of X G z_tuple,
    z_bool := PySem.W.mg_none_of X G z_bool,
    z_min := PySem.W.mg_none_of X G z_min,
    z_sorted := PySem.W.mg_none_of X G z_sorted,
    g_Machine := PySem.W.mg_of X G aC20 }
  exact ⟨PySem.W.fnOf "law" "law" (defArgs S_law) (defBody S_law) (defScope S_law) .none kV27 dc27 pm27 an27 cd27 ct27, fun s v => .of_eq rfl, fun base _ _ => law_end (ca := fun c => [C0, C1, C2, C3, C4, C5, 0, 0, 0, 0, 0, 0, 0, 0, 0, 0, 0, 0, 0, 0, C20].getD c 0) law_true (ok_law (P := l.prog) (w := w) (base := base) T)⟩
end K04
open PySem PySem.W PyProof.Rows
set_option maxHeartbeats 0 in
theorem PySem.Challenge.cw_wholeworths_k04_worths_by_rows_holds : PySem.Challenge.rw_wholeworths_k04_worths_by_rows.Holds := by
  w_on; o_law; k_head; (case hw => w_witness2)
  k_fill
  refine L2.walk_ofB (l := PySem.Challenge.rw_wholeworths_k04_worths_by_rows) (n := 63) (k := 7) (x := "script") (CX := fun w => L2.CX (PySem.Challenge.rw_wholeworths_k04_worths_by_rows).prog w) (sp := fun w => DL.spScr _) rfl (by decide) rfl ⟨rfl, by decide, by decide⟩ (fun w h Y => PySem.W.kIn_of Y) ?F (fun _ _ a ns hl hb _ hS => ⟨a, ns, rfl, hl, hb, hS, fun _ => rfl⟩) (fun w H s e s' h => DL.cx_end w H s e s' h)
  case F =>
    intro w mg fa h KX G hmg
    refine' K04.all_mk KX G hmg ?a0 ?l0 ?c0 ?k0 ?a1 ?l1 ?c1 ?k1 ?a2 ?l2 ?c2 ?k2 ?a3 ?l3 ?c3 ?k3 ?aC20 ?a4 ?l4 ?c4 ?k4 ?a5 ?l5 ?c5 ?k5 ?a6 ?l6 ?c6 ?k6 ?a7 ?l7 ?c7 ?k7 ?a8 ?l8 ?c8 ?k8 ?a9 ?l9 ?c9 ?k9 ?a10 ?l10 ?c10 ?k10 ?a11 ?l11 ?c11 ?k11 ?a12 ?l12 ?c12 ?k12 ?a13 ?l13 ?c13 ?k13 ?a14 ?l14 ?c14 ?k14 ?a15 ?l15 ?c15 ?k15 ?a16 ?l16 ?c16 ?k16 ?a17 ?l17 ?c17 ?k17 ?a18 ?l18 ?c18 ?k18 ?a19 ?l19 ?c19 ?k19 ?a20 ?l20 ?c20 ?k20 ?a21 ?l21 ?c21 ?k21 ?a22 ?l22 ?c22 ?k22 ?a23 ?l23 ?c23 ?k23 ?a24 ?l24 ?c24 ?k24 ?a25 ?l25 ?c25 ?k25 ?a26 ?l26 ?c26 ?k26 ?a27 ?l27 ?c27 ?k27 ?z_len ?g_lcm ?g_gcd ?z_sum ?z_zip ?g_LETTERS ?z_list ?z_int ?z_range ?z_isinstance ?z_ValueError ?z_str ?z_abs ?z_tuple ?z_bool ?z_min ?z_sorted ?vV ?aC0 ?aC1 ?aC2 ?aC3 ?aC4 ?aC5 ?aI ?lI ?cI ?kI ?tI ?xB ?xO20
    (case a0 => k_is)
    (case l0 => k_is)
    (case c0 => k_is)
    (case k0 => k_is)
    (case a1 => k_is)
    (case l1 => k_is)
    (case c1 => k_is)
    (case k1 => k_is)
    (case a2 => k_is)
    (case l2 => k_is)
    (case c2 => k_is)
    (case k2 => k_is)
    (case a3 => k_is)
    (case l3 => k_is)
    (case c3 => k_is)
    (case k3 => k_is)
    (case aC20 => k_is)
    (case a4 => k_is)
    (case l4 => k_is)
    (case c4 => k_is)
    (case k4 => k_is)
    (case a5 => k_is)
    (case l5 => k_is)
    (case c5 => k_is)
    (case k5 => k_is)
    (case a6 => k_is)
    (case l6 => k_is)
    (case c6 => k_is)
    (case k6 => k_is)
    (case a7 => k_is)
    (case l7 => k_is)
    (case c7 => k_is)
    (case k7 => k_is)
    (case a8 => k_is)
    (case l8 => k_is)
    (case c8 => k_is)
    (case k8 => k_is)
    (case a9 => k_is)
    (case l9 => k_is)
    (case c9 => k_is)
    (case k9 => k_is)
    (case a10 => k_is)
    (case l10 => k_is)
    (case c10 => k_is)
    (case k10 => k_is)
    (case a11 => k_is)
    (case l11 => k_is)
    (case c11 => k_is)
    (case k11 => k_is)
    (case a12 => k_is)
    (case l12 => k_is)
    (case c12 => k_is)
    (case k12 => k_is)
    (case a13 => k_is)
    (case l13 => k_is)
    (case c13 => k_is)
    (case k13 => k_is)
    (case a14 => k_is)
    (case l14 => k_is)
    (case c14 => k_is)
    (case k14 => k_is)
    (case a15 => k_is)
    (case l15 => k_is)
    (case c15 => k_is)
    (case k15 => k_is)
    (case a16 => k_is)
    (case l16 => k_is)
    (case c16 => k_is)
    (case k16 => k_is)
    (case a17 => k_is)
    (case l17 => k_is)
    (case c17 => k_is)
    (case k17 => k_is)
    (case a18 => k_is)
    (case l18 => k_is)
    (case c18 => k_is)
    (case k18 => k_is)
    (case a19 => k_is)
    (case l19 => k_is)
    (case c19 => k_is)
    (case k19 => k_is)
    (case a20 => k_is)
    (case l20 => k_is)
    (case c20 => k_is)
    (case k20 => k_is)
    (case a21 => k_is)
    (case l21 => k_is)
    (case c21 => k_is)
    (case k21 => k_is)
    (case a22 => k_is)
    (case l22 => k_is)
    (case c22 => k_is)
    (case k22 => k_is)
    (case a23 => k_is)
    (case l23 => k_is)
    (case c23 => k_is)
    (case k23 => k_is)
    (case a24 => k_is)
    (case l24 => k_is)
    (case c24 => k_is)
    (case k24 => k_is)
    (case a25 => k_is)
    (case l25 => k_is)
    (case c25 => k_is)
    (case k25 => k_is)
    (case a26 => k_is)
    (case l26 => k_is)
    (case c26 => k_is)
    (case k26 => k_is)
    (case a27 => k_is)
    (case l27 => k_is)
    (case c27 => k_is)
    (case k27 => k_is)
    (case z_len => k_is)
    (case g_lcm => k_is)
    (case g_gcd => k_is)
    (case z_sum => k_is)
    (case z_zip => k_is)
    (case g_LETTERS => k_is)
    (case z_list => k_is)
    (case z_int => k_is)
    (case z_range => k_is)
    (case z_isinstance => k_is)
    (case z_ValueError => k_is)
    (case z_str => k_is)
    (case z_abs => k_is)
    (case z_tuple => k_is)
    (case z_bool => k_is)
    (case z_min => k_is)
    (case z_sorted => k_is)
    (case vV => k_is)
    (case aC0 => k_is)
    (case aC1 => k_is)
    (case aC2 => k_is)
    (case aC3 => k_is)
    (case aC4 => k_is)
    (case aC5 => k_is)
    (case aI => k_is)
    (case lI => k_is)
    (case cI => k_is)
    (case kI => k_is)
    (case tI => k_is)
    (case xB => kernel_rfl)
    (case xO20 => kernel_rfl)


