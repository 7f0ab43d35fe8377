import PyProof.Rows.All
import Wide.All
import OpenK.AllK
import Wide.FinOn
import HandS.ForMost
import HandS.Walk
import HandS.Evl
import HandS.IsInst
import HandS.Style
import HandS.Conv
import PyProof.Draws
import PyProof.EnumMake
import HandS.ForExc
import HandS.ExcIs
import HandS.SetFor
import HandS.Strs
import HandS.Zip
import HandS.Dict
import HandS.New0
import HandS.Ends
import PySem.Challenge.RW_bracketmend_k03_whole_turns
set_option Elab.async false
set_option linter.all false
set_option maxRecDepth 100000
set_option maxHeartbeats 4000000
namespace BM
open PySem L2 Evl
/-- what a def knows of the heap beyond what it began with: own objects, tuples -/
structure Ld where
  L : List (Addr × HO)
  T : List (Addr × List V)
structure Own (H0 H : Hp) (s : Ld) : Prop where
  ex : Ex H0 H
  nd : (s.L.map (·.1)).Nodup
  own : ∀ e ∈ s.L, H0 e.1 = none ∧ H e.1 = some e.2
  tp : ∀ t ∈ s.T, H t.1 = some (.tup t.2)
theorem Own.start (H : Hp) : Own H H ⟨[], []⟩ := ⟨Ex.refl H, List.nodup_nil, (fun _ h => nomatch h), (fun _ h => nomatch h)⟩
theorem Own.ext {H0 H H' : Hp} {s : Ld} (o : Own H0 H s) (e : Ex H H') : Own H0 H' s :=
  ⟨o.ex.trans e, o.nd, fun x hx => ⟨(o.own x hx).1, e _ _ (o.own x hx).2⟩, fun t ht => e _ _ (o.tp t ht)⟩
theorem Own.new {H0 H : Hp} {s : Ld} {p : Addr} {u : HO} (o : Own H0 H s) (hp : H p = none) : Own H0 (upd H p u) ⟨(p, u) :: s.L, s.T⟩ := by
  have e : Ex H (upd H p u) := Ex.new hp
  refine ⟨o.ex.trans e, ?_, ?_, fun t ht => e _ _ (o.tp t ht)⟩
  · refine List.nodup_cons.mpr ⟨fun h => ?_, o.nd⟩
    obtain ⟨x, hx, rfl⟩ := List.mem_map.mp h
    rw [(o.own x hx).2] at hp
    cases hp
  · intro x hx
    rcases List.mem_cons.mp hx with rfl | hx
    · exact ⟨fresh_back o.ex hp, upd_same⟩
    · exact ⟨(o.own x hx).1, e _ _ (o.own x hx).2⟩
/-- a new object behind an extension -/
theorem Own.newE {H0 H H' : Hp} {s : Ld} {p : Addr} {u : HO} (o : Own H0 H s) (hp : H p = none) (e : Ex H H') (h : H' p = some u) : Own H0 H' ⟨(p, u) :: s.L, s.T⟩ := by
  refine ⟨o.ex.trans e, ?_, ?_, fun t ht => e _ _ (o.tp t ht)⟩
  · refine List.nodup_cons.mpr ⟨fun h => ?_, o.nd⟩
    obtain ⟨x, hx, rfl⟩ := List.mem_map.mp h
    rw [(o.own x hx).2] at hp
    cases hp
  · intro x hx
    rcases List.mem_cons.mp hx with rfl | hx
    · exact ⟨fresh_back o.ex hp, h⟩
    · exact ⟨(o.own x hx).1, e _ _ (o.own x hx).2⟩
theorem Own.newT {H0 H : Hp} {s : Ld} {p : Addr} {xs : List V} (o : Own H0 H s) (hp : H p = none) : Own H0 (upd H p (.tup xs)) ⟨s.L, (p, xs) :: s.T⟩ := by
  have e : Ex H (upd H p (.tup xs)) := Ex.new hp
  refine ⟨o.ex.trans e, o.nd, fun x hx => ⟨(o.own x hx).1, e _ _ (o.own x hx).2⟩, ?_⟩
  intro t ht
  rcases List.mem_cons.mp ht with rfl | ht
  · exact upd_same
  · exact e _ _ (o.tp t ht)
theorem Own.dropL {H0 H : Hp} {s : Ld} (o : Own H0 H s) {L : List (Addr × HO)} {T : List (Addr × List V)} (hL : L.Sublist s.L) (hT : T ⊆ s.T) : Own H0 H ⟨L, T⟩ :=
  ⟨o.ex, (hL.map (·.1)).nodup o.nd, fun e he => o.own e (hL.subset he), fun t ht => o.tp t (hT ht)⟩
/-- less is known -/
structure Sub (s0 s : Ld) : Prop where
  l : s0.L.Sublist s.L
  t : s0.T.Sublist s.T
theorem Sub.refl (s : Ld) : Sub s s := ⟨List.Sublist.refl _, List.Sublist.refl _⟩
theorem Own.sub {H0 H : Hp} {s s0 : Ld} (o : Own H0 H s) (h : Sub s0 s) : Own H0 H s0 := o.dropL h.l h.t.subset
/-- one own object changed -/
inductive Swap (p : Addr) (o o' : HO) : List (Addr × HO) → List (Addr × HO) → Prop where
  | here {L} : Swap p o o' ((p, o) :: L) ((p, o') :: L)
  | there {e L L'} : Swap p o o' L L' → Swap p o o' (e :: L) (e :: L')
theorem Swap.keys {p : Addr} {o o' : HO} {L L' : List (Addr × HO)} (h : Swap p o o' L L') : L'.map (·.1) = L.map (·.1) := by
  induction h with
  | here => rfl
  | there _ ih => rw [List.map_cons, List.map_cons, ih]
theorem Swap.mem {p : Addr} {o o' : HO} {L L' : List (Addr × HO)} (h : Swap p o o' L L') : (p, o) ∈ L := by
  induction h with
  | here => exact List.mem_cons_self
  | there _ ih => exact List.mem_cons_of_mem _ ih
theorem Swap.of_mem {p : Addr} {o o' : HO} {L L' : List (Addr × HO)} (h : Swap p o o' L L') (nd : (L.map (·.1)).Nodup) : ∀ e ∈ L', e = (p, o') ∨ (e ∈ L ∧ e.1 ≠ p) := by
  induction h with
  | @here L =>
    intro e he
    rcases List.mem_cons.mp he with rfl | he
    · exact .inl rfl
    · refine .inr ⟨List.mem_cons_of_mem _ he, fun z => ?_⟩
      rw [List.map_cons] at nd
      exact (List.nodup_cons.mp nd).1 (List.mem_map.mpr ⟨e, he, z⟩)
  | @there x L L' h ih =>
    rw [List.map_cons] at nd
    have nd' := List.nodup_cons.mp nd
    intro e he
    rcases List.mem_cons.mp he with rfl | he
    · refine .inr ⟨List.mem_cons_self, fun z => ?_⟩
      refine nd'.1 (List.mem_map.mpr ⟨(p, o), h.mem, z.symm⟩)
    · rcases ih nd'.2 e he with r | ⟨r, r'⟩
      · exact .inl r
      · exact .inr ⟨List.mem_cons_of_mem _ r, r'⟩
def NotTup : HO → Prop
  | .tup _ => False
  | _ => True
theorem Own.swap {H0 H : Hp} {s : Ld} {p : Addr} {u u' : HO} {L' : List (Addr × HO)} (o : Own H0 H s) (h : Swap p u u' s.L L') (nt : NotTup u) : Own H0 (upd H p u') ⟨L', s.T⟩ := by
  have hp := o.own _ h.mem
  refine ⟨fun a x e => ?_, by rw [h.keys]; exact o.nd, fun e he => ?_, fun t ht => ?_⟩
  · rw [upd_ne (ne_of_none e hp.1)]
    exact o.ex _ _ e
  · rcases h.of_mem o.nd e he with rfl | ⟨he, ne⟩
    · exact ⟨hp.1, upd_same⟩
    · rw [upd_ne ne]
      exact o.own e he
  · rw [upd_ne]
    · exact o.tp t ht
    · intro z
      have h1 := o.tp t ht
      rw [z, hp.2] at h1
      cases h1
      exact nt
/-! ### lists and tuples to be read -/
def IsL (K : PySem.W.Frag) (H0 : Hp) (s : Ld) (a : Addr) (xs : List V) : Prop := ∀ H, Own H0 H s → SqL K H a xs
def IsT (K : PySem.W.Frag) (H0 : Hp) (s : Ld) (a : Addr) (xs : List V) : Prop := ∀ H, Own H0 H s → SqT K H a xs
section
variable {K : PySem.W.Frag} {H0 : Hp} {s : Ld} {a : Addr} {xs : List V}
theorem isL_own (h : (a, HO.lst xs) ∈ s.L) : IsL K H0 s a xs := fun H o => sq_of (o.own _ h).2
theorem isL_old (h : SqL K H0 a xs) : IsL K H0 s a xs := fun H o => ex_l o.ex h
theorem isT_own (h : (a, xs) ∈ s.T) : IsT K H0 s a xs := fun H o => st_of (o.tp _ h)
theorem isT_old (h : SqT K H0 a xs) : IsT K H0 s a xs := fun H o => ex_t o.ex h
end
/-! ### what is asked, over the own objects -/
def WE (H0 : Hp) (t : TE) (σ : L2.St) (s : Ld) (Q : V → Ld → Prop) : Prop := ∀ H, Own H0 H s → ∀ R : VK, (∀ v H' s', Own H0 H' s' → Q v s' → R v H') → t σ H R
def WT (H0 : Hp) (t : TT) (σ : L2.St) (s : Ld) (Q : Bool → Ld → Prop) : Prop := ∀ H, Own H0 H s → ∀ R : Bool → Hp → Prop, (∀ v H' s', Own H0 H' s' → Q v s' → R v H') → t σ H R
def WA (H0 : Hp) (t : TA) (σ : L2.St) (s : Ld) (Q : List V → Ld → Prop) : Prop := ∀ H, Own H0 H s → ∀ R : List V → Hp → Prop, (∀ v H' s', Own H0 H' s' → Q v s' → R v H') → t σ H R
def WO (H0 : Hp) (t : TO) (σ : L2.St) (s : Ld) (Q : Option Int → Ld → Prop) : Prop := ∀ H, Own H0 H s → ∀ R : Option Int → Hp → Prop, (∀ v H' s', Own H0 H' s' → Q v s' → R v H') → t σ H R
def W2 (H0 : Hp) (r : R2) (x y : V) (s : Ld) (Q : V → Ld → Prop) : Prop := ∀ H, Own H0 H s → ∀ R : VK, (∀ v H' s', Own H0 H' s' → Q v s' → R v H') → r x y H R
def W1 (H0 : Hp) (r : V → Hp → VK → Prop) (x : V) (s : Ld) (Q : V → Ld → Prop) : Prop := ∀ H, Own H0 H s → ∀ R : VK, (∀ v H' s', Own H0 H' s' → Q v s' → R v H') → r x H R
def WL (H0 : Hp) (r : List V → Hp → VK → Prop) (xs : List V) (s : Ld) (Q : V → Ld → Prop) : Prop := ∀ H, Own H0 H s → ∀ R : VK, (∀ v H' s', Own H0 H' s' → Q v s' → R v H') → r xs H R
def WM (H0 : Hp) (r : V → List V → Hp → VK → Prop) (x : V) (xs : List V) (s : Ld) (Q : V → Ld → Prop) : Prop := ∀ H, Own H0 H s → ∀ R : VK, (∀ v H' s', Own H0 H' s' → Q v s' → R v H') → r x xs H R
def WSl (H0 : Hp) (r : V → Option Int → Option Int → Hp → VK → Prop) (x : V) (lo hi : Option Int) (s : Ld) (Q : V → Ld → Prop) : Prop := ∀ H, Own H0 H s → ∀ R : VK, (∀ v H' s', Own H0 H' s' → Q v s' → R v H') → r x lo hi H R
def WC (H0 : Hp) (sp : Sp) (E : XK) (vs : List V) (s : Ld) (Q : V → Ld → Prop) : Prop := ∀ H, Own H0 H s → ∀ R : VK, (∀ v H' s', Own H0 H' s' → Q v s' → R v H') → sp vs H R E
def WSet (H0 : Hp) (r : TSet) (o i v : V) (s : Ld) (Q : Ld → Prop) : Prop := ∀ H, Own H0 H s → ∀ R : Hp → Prop, (∀ H' s', Own H0 H' s' → Q s' → R H') → r o i v H R
def WG (H0 : Hp) (g : TG) (v : V) (σ : L2.St) (s : Ld) (Q : L2.St → Ld → Prop) : Prop := ∀ H, Own H0 H s → ∀ R : L2.St → Hp → Prop, (∀ σ' H' s', Own H0 H' s' → Q σ' s' → R σ' H') → g v σ H R
def WGs (H0 : Hp) (g : TGs) (vs : List V) (σ : L2.St) (s : Ld) (Q : L2.St → Ld → Prop) : Prop := ∀ H, Own H0 H s → ∀ R : L2.St → Hp → Prop, (∀ σ' H' s', Own H0 H' s' → Q σ' s' → R σ' H') → g vs σ H R
def WI (H0 : Hp) (wi : TI) (σ : L2.St) (s : Ld) (Q : It → Ld → Prop) : Prop := ∀ H, Own H0 H s → ∀ R : It → Hp → Prop, (∀ J H' s', Own H0 H' s' → Q J s' → R J H') → wi σ H R
structure Dl where
  nx : L2.St → Ld → Prop
  rt : V → Ld → Prop
  bk : L2.St → Ld → Prop := fun _ _ => False
  ct : L2.St → Ld → Prop := fun _ _ => False
structure Low (H0 : Hp) (D : Dl) (E : Ends) : Prop where
  nx : ∀ σ H s, Own H0 H s → D.nx σ s → E.nx σ H
  rt : ∀ v H s, Own H0 H s → D.rt v s → E.rt v H
  bk : ∀ σ H s, Own H0 H s → D.bk σ s → E.bk σ H
  ct : ∀ σ H s, Own H0 H s → D.ct σ s → E.ct σ H
def WS (H0 : Hp) (t : TS) (σ : L2.St) (s : Ld) (D : Dl) : Prop := ∀ H, Own H0 H s → ∀ E : Ends, Low H0 D E → t E σ H
section
variable {K : PySem.W.Frag} {H0 : Hp} {σ : L2.St} {s : Ld} {ta tb te tl : TE} {t u : TT} {tr : TA} {x y z v : V} {r : R2} {Q : V → Ld → Prop} {D : Dl} {t1 t2 : TS} {g : TG}
/-! ### values -/
theorem we_var {i : Nat} (h : σ[i]? = some (some v)) (q : Q v s) : WE H0 (tVar i) σ s Q := fun H o R k => ⟨v, h, k v H s o q⟩
theorem we_c (q : Q v s) : WE H0 (tC v) σ s Q := fun H o R k => k v H s o q
theorem we_op (h : WE H0 ta σ s fun x s1 => WE H0 tb σ s1 fun y s2 => W2 H0 r x y s2 Q) : WE H0 (tOp r ta tb) σ s Q := fun H o R k =>
  h H o _ fun x H1 s1 o1 h1 => h1 H1 o1 _ fun y H2 s2 o2 h2 => h2 H2 o2 R k
theorem we_un {r : V → Hp → VK → Prop} (h : WE H0 ta σ s fun x s1 => W1 H0 r x s1 Q) : WE H0 (tUn r ta) σ s Q := fun H o R k =>
  h H o _ fun x H1 s1 o1 h1 => h1 H1 o1 R k
theorem we_if {c : TT} (h : WT H0 c σ s fun b s1 => (b = true → WE H0 ta σ s1 Q) ∧ (b = false → WE H0 tb σ s1 Q)) : WE H0 (tIf c ta tb) σ s Q := fun H o R k =>
  h H o _ fun b H1 s1 o1 h1 => by
    cases b with
    | true => exact h1.1 rfl H1 o1 R k
    | false => exact h1.2 rfl H1 o1 R k
theorem we_and (h : WE H0 ta σ s fun x s1 => ∃ c, x = .bl c ∧ (c = true → WE H0 tb σ s1 Q) ∧ (c = false → Q (.bl false) s1)) : WE H0 (tAndV ta tb) σ s Q := fun H o R k =>
  h H o _ fun x H1 s1 o1 ⟨c, e, h1, h2⟩ => ⟨c, e, by
    cases c with
    | true => exact h1 rfl H1 o1 R k
    | false => exact k _ H1 s1 o1 (h2 rfl)⟩
theorem we_or (h : WE H0 ta σ s fun x s1 => ∃ c, x = .bl c ∧ (c = true → Q (.bl true) s1) ∧ (c = false → WE H0 tb σ s1 Q)) : WE H0 (tOrV ta tb) σ s Q := fun H o R k =>
  h H o _ fun x H1 s1 o1 ⟨c, e, h2, h1⟩ => ⟨c, e, by
    cases c with
    | true => exact k _ H1 s1 o1 (h2 rfl)
    | false => exact h1 rfl H1 o1 R k⟩
theorem we_or_val {b1 b2 : Bool} (ha : ∀ Q : V → Ld → Prop, Q (.bl b1) s → WE H0 ta σ s Q) (hb : ∀ Q : V → Ld → Prop, Q (.bl b2) s → WE H0 tb σ s Q) (q : Q (.bl (b1 || b2)) s) : WE H0 (tOrV ta tb) σ s Q :=
  we_or (ha _ ⟨b1, rfl, by
    cases b1
    · exact ⟨(fun h => nomatch h), fun _ => hb _ q⟩
    · exact ⟨fun _ => q, (fun h => nomatch h)⟩⟩)
theorem we_not (h : WE H0 ta σ s fun x s1 => ∃ c, x = .bl c ∧ Q (.bl (!c)) s1) : WE H0 (tNotV ta) σ s Q := fun H o R k =>
  h H o _ fun x H1 s1 o1 ⟨c, e, h1⟩ => ⟨c, e, k _ H1 s1 o1 h1⟩
theorem wa_nil {Q : List V → Ld → Prop} (q : Q [] s) : WA H0 tNil σ s Q := fun H o R k => k [] H s o q
theorem wa_cons {Q : List V → Ld → Prop} (h : WE H0 ta σ s fun x s1 => WA H0 tr σ s1 fun xs s2 => Q (x :: xs) s2) : WA H0 (tCons ta tr) σ s Q := fun H o R k =>
  h H o _ fun x H1 s1 o1 h1 => h1 H1 o1 _ fun xs H2 s2 o2 h2 => k _ H2 s2 o2 h2
theorem we_lst {ta : TA} (h : WA H0 ta σ s fun xs s1 => xs.length ≤ 100000 ∧ ∀ p, H0 p = none → Q (.ref p) ⟨(p, .lst xs) :: s1.L, s1.T⟩) : WE H0 (tLst ta) σ s Q := fun H o R k =>
  h H o _ fun xs H1 s1 o1 ⟨hl, h1⟩ => ⟨sz_of hl, fun p hp => k _ _ _ (o1.new hp) (h1 p (fresh_back o1.ex hp))⟩
theorem we_tup {ta : TA} (h : WA H0 ta σ s fun xs s1 => xs.length ≤ 100000 ∧ ∀ p, H0 p = none → Q (.ref p) ⟨s1.L, (p, xs) :: s1.T⟩) : WE H0 (tTup ta) σ s Q := fun H o R k =>
  h H o _ fun xs H1 s1 o1 ⟨hl, h1⟩ => ⟨sz_of hl, fun p hp => k _ _ _ (o1.newT hp) (h1 p (fresh_back o1.ex hp))⟩
theorem we_cb {r : List V → Hp → VK → Prop} {ta : TA} (h : WA H0 ta σ s fun xs s1 => WL H0 r xs s1 Q) : WE H0 (tCB r ta) σ s Q := fun H o R k =>
  h H o _ fun xs H1 s1 o1 h1 => h1 H1 o1 R k
theorem we_sl {r : V → Option Int → Option Int → Hp → VK → Prop} {tl th : TO} (h : WE H0 te σ s fun x s1 => WO H0 tl σ s1 fun l s2 => WO H0 th σ s2 fun u s3 => WSl H0 r x l u s3 Q) : WE H0 (tSl r te tl th) σ s Q := fun H o R k =>
  h H o _ fun x H1 s1 o1 h1 => h1 H1 o1 _ fun l H2 s2 o2 h2 => h2 H2 o2 _ fun u H3 s3 o3 h3 => h3 H3 o3 R k
theorem wo_none {Q : Option Int → Ld → Prop} (q : Q none s) : WO H0 tNoPart σ s Q := fun H o R k => k none H s o q
theorem wo_some {Q : Option Int → Ld → Prop} (h : WE H0 te σ s fun x s1 => ∃ i, x = .int i ∧ Q (some i) s1) : WO H0 (tPart te) σ s Q := fun H o R k =>
  h H o _ fun x H1 s1 o1 ⟨i, e, h1⟩ => ⟨i, e, k _ H1 s1 o1 h1⟩
/-! ### tests -/
theorem wt_test {Q : Bool → Ld → Prop} (h : WE H0 te σ s fun x s1 => ∃ b, x = .bl b ∧ Q b s1) : WT H0 (tTest te) σ s Q := fun H o R k =>
  h H o _ fun x H1 s1 o1 ⟨b, e, h1⟩ => ⟨b, e, k _ H1 s1 o1 h1⟩
theorem wt_B {Q : Bool → Ld → Prop} (h : WE H0 te σ s fun x s1 => ∃ b, x = .bl b ∧ Q b s1) : WT H0 (tB te) σ s Q := fun H o R k =>
  h H o _ fun x H1 s1 o1 ⟨b, e, h1⟩ => ⟨b, e, k _ H1 s1 o1 h1⟩
theorem wt_and {Q : Bool → Ld → Prop} (h : WT H0 t σ s fun b s1 => (b = true → WT H0 u σ s1 Q) ∧ (b = false → Q false s1)) : WT H0 (tAnd t u) σ s Q := fun H o R k =>
  h H o _ fun b H1 s1 o1 h1 => by
    cases b with
    | true => exact h1.1 rfl H1 o1 R k
    | false => exact k _ H1 s1 o1 (h1.2 rfl)
theorem wt_or {Q : Bool → Ld → Prop} (h : WT H0 t σ s fun b s1 => (b = true → Q true s1) ∧ (b = false → WT H0 u σ s1 Q)) : WT H0 (tOr t u) σ s Q := fun H o R k =>
  h H o _ fun b H1 s1 o1 h1 => by
    cases b with
    | true => exact k _ H1 s1 o1 (h1.1 rfl)
    | false => exact h1.2 rfl H1 o1 R k
theorem wt_not {Q : Bool → Ld → Prop} (h : WT H0 t σ s fun b s1 => Q (!b) s1) : WT H0 (tNot t) σ s Q := fun H o R k =>
  h H o _ fun b H1 s1 o1 h1 => k _ H1 s1 o1 h1
theorem we_chain {r r' : R2} {tc : TE} (h : WE H0 ta σ s fun x s1 => WE H0 tb σ s1 fun y s2 => W2 H0 r x y s2 fun z s3 => ∃ c, z = .bl c ∧ (c = true → WE H0 tc σ s3 fun w s4 => W2 H0 r' y w s4 Q) ∧ (c = false → Q (.bl false) s3)) : WE H0 (tChain r r' ta tb tc) σ s Q := fun H o R k =>
  h H o _ fun x H1 s1 o1 h1 => h1 H1 o1 _ fun y H2 s2 o2 h2 => h2 H2 o2 _ fun z H3 s3 o3 ⟨c, e, h3, h4⟩ => ⟨c, e, by
    cases c with
    | true => exact h3 rfl H3 o3 _ fun w H4 s4 o4 h5 => h5 H4 o4 R k
    | false => exact k _ H3 s3 o3 (h4 rfl)⟩
/-! ### statements -/
theorem ws_seq (h : WS H0 t1 σ s { D with nx := fun σ' s' => WS H0 t2 σ' s' D }) : WS H0 (tSeq t1 t2) σ s D := fun H o E l =>
  h H o _ ⟨fun σ' H' s' o' h' => h' H' o' E l, l.rt, l.bk, l.ct⟩
theorem ws_next (q : D.nx σ s) : WS H0 tNext σ s D := fun H o E l => l.nx σ H s o q
theorem ws_brk (q : D.bk σ s) : WS H0 tBreak σ s D := fun H o E l => l.bk σ H s o q
theorem ws_cont (q : D.ct σ s) : WS H0 tCont σ s D := fun H o E l => l.ct σ H s o q
theorem ws_drop (h : WE H0 te σ s fun _ s1 => D.nx σ s1) : WS H0 (tDrop te) σ s D := fun H o E l => h H o _ fun v H1 s1 o1 h1 => l.nx σ H1 s1 o1 h1
theorem ws_ret (h : WE H0 te σ s D.rt) : WS H0 (tRet te) σ s D := fun H o E l => h H o _ fun v H1 s1 o1 h1 => l.rt v H1 s1 o1 h1
theorem ws_if {c : TT} (h : WT H0 c σ s fun b s1 => (b = true → WS H0 t1 σ s1 D) ∧ (b = false → WS H0 t2 σ s1 D)) : WS H0 (tIfS c t1 t2) σ s D := fun H o E l =>
  h H o _ fun b H1 s1 o1 h1 => by
    cases b with
    | true => exact h1.1 rfl H1 o1 E l
    | false => exact h1.2 rfl H1 o1 E l
theorem ws_asg (h : WE H0 te σ s fun x s1 => WG H0 g x σ s1 D.nx) : WS H0 (tAsg te g) σ s D := fun H o E l =>
  h H o _ fun x H1 s1 o1 h1 => h1 H1 o1 _ fun σ' H' s' o' q => l.nx σ' H' s' o' q
theorem ws_set {i : Nat} (h : WE H0 te σ s fun x s1 => D.nx (σ.set i (some x)) s1) : WS H0 (tAsg te (gName i)) σ s D := fun H o E l =>
  h H o _ fun x H1 s1 o1 h1 => l.nx _ H1 s1 o1 h1
theorem ws_par {i j : Nat} {ta : TA} (h : WA H0 ta σ s fun vs s1 => ∃ v w, vs = [v, w] ∧ D.nx ((σ.set i (some v)).set j (some w)) s1) : WS H0 (tPar i j ta) σ s D := fun H o E l =>
  h H o _ fun vs H1 s1 o1 ⟨v, w, e, h1⟩ => ⟨v, w, e, l.nx _ H1 s1 o1 h1⟩
theorem wg_name {i : Nat} {Q : L2.St → Ld → Prop} (q : Q (σ.set i (some v)) s) : WG H0 (gName i) v σ s Q := fun H o R k => k _ H s o q
theorem wg_tup {n : Nat} {g : TGs} {a : Addr} {xs : List V} {Q : L2.St → Ld → Prop} (ht : IsT K H0 s a xs) (hn : xs.length = n) (h : WGs H0 g xs σ s Q) : WG H0 (gTup K n g) (.ref a) σ s Q := fun H o R k =>
  ⟨a, xs, rfl, ht H o, hn, h H o R k⟩
theorem wgs_nil {Q : L2.St → Ld → Prop} (q : Q σ s) : WGs H0 gNil [] σ s Q := fun H o R k => ⟨rfl, k _ H s o q⟩
theorem wgs_cons {g : TG} {gs : TGs} {vs : List V} {Q : L2.St → Ld → Prop} (h : WG H0 g v σ s fun σ1 s1 => WGs H0 gs vs σ1 s1 Q) : WGs H0 (gCons g gs) (v :: vs) σ s Q := fun H o R k =>
  ⟨v, vs, rfl, h H o _ fun σ1 H1 s1 o1 h1 => h1 H1 o1 R k⟩
theorem wg_sub {to ti : TE} {ts : TSet} {Q : L2.St → Ld → Prop} (h : WE H0 to σ s fun o s1 => WE H0 ti σ s1 fun i s2 => WSet H0 ts o i v s2 fun s3 => Q σ s3) : WG H0 (gSub to ti ts) v σ s Q := fun H o R k =>
  h H o _ fun x H1 s1 o1 h1 => h1 H1 o1 _ fun y H2 s2 o2 h2 => h2 H2 o2 _ fun H3 s3 o3 q => k _ H3 s3 o3 q
theorem spl_t {c : Bool} {A B : Prop} (hc : c = true) (h : A) : (c = true → A) ∧ (c = false → B) := ⟨fun _ => h, fun e => absurd (hc.symm.trans e) (by decide)⟩
theorem spl_f {c : Bool} {A B : Prop} (hc : c = false) (h : B) : (c = true → A) ∧ (c = false → B) := ⟨fun e => absurd (hc.symm.trans e) (by decide), fun _ => h⟩
/-! ### loops -/
theorem ws_weak {s0 : Ld} (hs : Sub s0 s) (h : WS H0 t1 σ s0 D) : WS H0 t1 σ s D := fun H o E l => h H (o.sub hs) E l
theorem ws_cut (M : L2.St → Ld → Prop) (h : WS H0 t1 σ s { D with nx := fun σ' s' => ∃ s0, Sub s0 s' ∧ M σ' s0 }) (k : ∀ σ' s', M σ' s' → WS H0 t2 σ' s' D) : WS H0 (tSeq t1 t2) σ s D := fun H o E l =>
  h H o _ ⟨(fun σ' H' s' o' ⟨s0, hs0, q⟩ => k σ' s0 q H' (o'.sub hs0) E l), l.rt, l.bk, l.ct⟩
/-- a loop's turn: what follows the body -/
def turnD (D : Dl) (J : L2.St → Ld → Prop) : Dl := { nx := fun σ' s' => ∃ s0, Sub s0 s' ∧ J σ' s0, ct := fun σ' s' => ∃ s0, Sub s0 s' ∧ J σ' s0, bk := D.nx, rt := D.rt }
def LoopOk (H0 : Hp) (J : It) (g : TG) (tb : TS) (σ : L2.St) (s : Ld) (D : Dl) : Prop := ∃ n G Y, Walk J n G Y ∧ ∃ I : Nat → L2.St → Ld → Prop, I 0 σ s ∧ (∀ i σ s H, i ≤ n → I i σ s → Own H0 H s → G H) ∧
    (∀ i x σ s H H', i < n → I i σ s → Own H0 H s → Y i H x H' → ∃ s', Own H0 H' s' ∧ WG H0 g x σ s' fun σ2 s2 => WS H0 tb σ2 s2 (turnD D (I (i + 1)))) ∧ (∀ σ s, I n σ s → D.nx σ s)
theorem ws_for {wi : TI} {tb : TS} (h : WI H0 wi σ s fun J s1 => LoopOk H0 J g tb σ s1 D) : WS H0 (tFor wi g tb) σ s D := fun H o E l => by
  refine h H o _ ?_
  rintro J H1 s1 o1 ⟨n, G, Y, w, I, h0, hG, hs, hd⟩
  refine for_it w (fun i σ H => ∃ s, Own H0 H s ∧ I i σ s) ⟨s1, o1, h0⟩ ?_ ?_ ?_
  · rintro i σ H hi ⟨s, o, q⟩
    exact hG i σ s H hi q o
  · rintro i x σ H H' hi ⟨s, o, q⟩ y
    obtain ⟨s', o', q'⟩ := hs i x σ s H H' hi q o y
    refine q' H' o' _ fun σ2 H2 s2 o2 h2 => ?_
    refine h2 H2 o2 _ ⟨fun σ' H' s' o' ⟨s0, hs0, q⟩ => ⟨s0, o'.sub hs0, q⟩, l.rt, fun σ' H' s' o' q => l.nx σ' H' s' o' q, fun σ' H' s' o' ⟨s0, hs0, q⟩ => ⟨s0, o'.sub hs0, q⟩⟩
  · rintro σ H ⟨s, o, q⟩
    exact l.nx σ H s o (hd σ s q)
def CompOk (H0 : Hp) (J : It) (g : TG) (tt : TT) (te : TE) (σ : L2.St) (vs : List Nat) (s1 : Ld) (Q : V → Ld → Prop) : Prop := ∃ n G Y, Walk J n G Y ∧ ∀ D, H0 D = none → ∃ I : Nat → Ld → Prop, I 0 ⟨(D, .lst []) :: s1.L, s1.T⟩ ∧ (∀ i s H, i ≤ n → I i s → Own H0 H s → G H) ∧
    (∀ i x s H H', i < n → I i s → Own H0 H s → Y i H x H' → ∃ s', Own H0 H' s' ∧ WG H0 g x (wipe σ vs) s' fun σ2 s2 => wipe σ2 vs = wipe σ vs ∧ WT H0 tt σ2 s2 fun b s3 =>
      (b = true → WE H0 te σ2 s3 fun y s4 => ∃ acc L' s0, Swap D (.lst acc) (.lst (acc ++ [y])) s4.L L' ∧ acc.length < 100000 ∧ Sub s0 ⟨L', s4.T⟩ ∧ I (i + 1) s0) ∧ (b = false → ∃ s0, Sub s0 s3 ∧ I (i + 1) s0)) ∧ (∀ s, I n s → Q (.ref D) s)
theorem we_lc {wi : TI} {tt : TT} {vs : List Nat} (h : WI H0 wi σ s fun J s1 => CompOk H0 J g tt te σ vs s1 Q) : WE H0 (tLc wi g tt te vs) σ s Q := fun H o R k => by
  refine h H o _ ?_
  rintro J H1 s1 o1 ⟨n, G, Y, w, h1⟩ D hD
  obtain ⟨I, h0, hG, hs, hd⟩ := h1 D (fresh_back o1.ex hD)
  refine lc_it w (fun i H => ∃ s, Own H0 H s ∧ I i s) ⟨_, o1.new hD, h0⟩ ?_ ?_ ?_
  · rintro i H hi ⟨s, o, q⟩
    exact hG i s H hi q o
  · rintro i x H H' hi ⟨s, o, q⟩ y
    obtain ⟨s', o', q'⟩ := hs i x s H H' hi q o y
    refine q' H' o' _ fun σ2 H2 s2 o2 h2 => ⟨h2.1, h2.2 H2 o2 _ fun b H3 s3 o3 h3 => ?_⟩
    cases b with
    | true =>
      rw [if_pos rfl]
      refine h3.1 rfl H3 o3 _ ?_
      rintro y H4 s4 o4 ⟨acc, L', s0, sw, hl, hs0, q⟩
      exact ⟨acc, (o4.own _ sw.mem).2, sz_lt hl, s0, (o4.swap sw trivial).sub hs0, q⟩
    | false =>
      rw [if_neg Bool.false_ne_true]
      obtain ⟨s0, hs0, q⟩ := h3.2 rfl
      exact ⟨s0, o3.sub hs0, q⟩
  · rintro H ⟨s, o, q⟩
    exact k _ H s o (hd s q)
end
end BM
namespace BM
open PySem L2 Evl
/-! ### rows as lists of truths -/
def B (b : Bool) : Nat := if b then 40 else 41
def T (r : List Bool) : Str := ⟨(r.map B).toArray⟩
theorem T_len (r : List Bool) : (T r).length = r.length := by
  show (r.map B).toArray.size = _
  simp
theorem T_list (r : List Bool) : (T r).cps.toList = r.map B := by
  show (r.map B).toArray.toList = _
  simp
theorem B_inj {a b : Bool} (h : B a = B b) : a = b := by
  cases a <;> cases b <;> first | rfl | (exact absurd h (by decide))
theorem T_inj {r u : List Bool} (h : T r = T u) : r = u := by
  have h1 : (T r).cps.toList = (T u).cps.toList := by rw [h]
  rw [T_list, T_list] at h1
  induction r generalizing u with
  | nil =>
    cases u with
    | nil => rfl
    | cons b u => simp at h1
  | cons a r ih =>
    cases u with
    | nil => simp at h1
    | cons b u =>
      simp only [List.map_cons, List.cons.injEq] at h1
      rw [B_inj h1.1]
      have h2 : T r = T u := by
        unfold T
        rw [h1.2]
      rw [ih h2 h1.2]
theorem T_eq {r u : List Bool} : (T r = T u) ↔ r = u := ⟨T_inj, fun h => by rw [h]⟩
theorem tV_eq {r u : List Bool} : (V.str (T r) = V.str (T u)) ↔ r = u := ⟨fun h => T_inj (V.str.inj h), fun h => by rw [h]⟩
theorem T_app (r u : List Bool) : T r ++ T u = T (r ++ u) := by
  apply TL.ext_tl
  rw [TL.tl_append]
  show (T r).cps.toList ++ (T u).cps.toList = (T (r ++ u)).cps.toList
  rw [T_list, T_list, T_list, List.map_append]
/-! ### constants -/
section
variable {X : Cx}
theorem pe_strT (r : List Bool) {x : Str} {j pos} (h : x = T r := by rfl) : PE X (.Constant (.str x) j pos) (tC (.str (T r))) := by
  rw [← h]
  exact pe_str
end
/-! ### operators: named readings -/
def aAdd : R2 := rI0 fun i j => .int (i + j)
def aSub : R2 := rI0 fun i j => .int (i - j)
def aMul : R2 := rI CMul fun i j => .int (i * j)
def aDiv : R2 := rI CDiv fun i j => .int (i / j)
def aMod : R2 := rI (fun _ j => 0 < j) fun i j => .int (i % j)
def aPow : R2 := rI CPow fun i j => .int (i ^ j.toNat)
def aShl : R2 := rI CPow fun i j => .int (i * 2 ^ j.toNat)
def aShr : R2 := rI (fun _ j => 0 ≤ j) fun i j => .int (i / 2 ^ j.toNat)
def aAnd : R2 := rI0 fun i j => .int (Builtin.bitAnd i j)
def aLt : R2 := rI0 fun i j => .bl (decide (i < j))
def aLe : R2 := rI0 fun i j => .bl (decide (i ≤ j))
def aGt : R2 := rI0 fun i j => .bl (decide (j < i))
def aGe : R2 := rI0 fun i j => .bl (decide (j ≤ i))
def aCatT : R2 := fun x y H Q => ∃ r u : List Bool, x = .str (T r) ∧ y = .str (T u) ∧ r.length + u.length ≤ 100000 ∧ Q (.str (T (r ++ u))) H
def aIxT : R2 := fun x y H Q => ∃ (r : List Bool) (i : Int) (b : Bool), x = .str (T r) ∧ y = .int i ∧ r.length ≤ 100000 ∧ atI r i = some b ∧ Q (.str (T [b])) H
def aInT : R2 := fun x y H Q => ∃ (b : Bool) (r : List Bool), x = .str (T [b]) ∧ y = .str (T r) ∧ Q (.bl (decide (b ∈ r))) H
def aIsN : R2 := fun x y H Q => y = .non ∧ Q (.bl (decide (x = .non))) H
def aNotN : R2 := fun x y H Q => y = .non ∧ Q (.bl (!decide (x = .non))) H
def aIsB : R2 := fun x y H Q => ∃ a b : Bool, x = .bl a ∧ y = .bl b ∧ Q (.bl (decide (a = b))) H
def aNeg : V → Hp → VK → Prop := rU fun i => .int (-i)
def aLenL (K : PySem.W.Frag) : List V → Hp → VK → Prop := fun xs H Q => ∃ p ys, xs = [.ref p] ∧ (SqL K H p ys ∨ SqT K H p ys) ∧ Q (.int ys.length) H
def aLenT : List V → Hp → VK → Prop := fun xs H Q => ∃ r : List Bool, xs = [.str (T r)] ∧ r.length ≤ 100000 ∧ Q (.int r.length) H
def aAbs : List V → Hp → VK → Prop := fun xs H Q => ∃ i, xs = [.int i] ∧ Q (.int (if i < 0 then -i else i)) H
def aMax2 : List V → Hp → VK → Prop := fun xs H Q => ∃ i j, xs = [.int i, .int j] ∧ Q (.int (if j > i then j else i)) H
def aMin2 : List V → Hp → VK → Prop := fun xs H Q => ∃ i j, xs = [.int i, .int j] ∧ Q (.int (if j < i then j else i)) H
def aIntB : List V → Hp → VK → Prop := fun xs H Q => ∃ k : Bool, xs = [.bl k] ∧ Q (.int (if k then 1 else 0)) H
def aListOf (K : PySem.W.Frag) : List V → Hp → VK → Prop := fun xs H Q => ∃ p ys, xs = [.ref p] ∧ (SqL K H p ys ∨ SqT K H p ys) ∧ ∀ l, H l = none → Q (.ref l) (upd H l (.lst ys))
def aAll (K : PySem.W.Frag) : List V → Hp → VK → Prop := fun vs H Q => ∃ (a : Addr) (bs : List Bool), vs = [V.ref a] ∧ SqL K H a (bs.map V.bl) ∧ Q (.bl (bs.all id)) H
def aAny (K : PySem.W.Frag) : List V → Hp → VK → Prop := fun vs H Q => ∃ (a : Addr) (bs : List Bool), vs = [V.ref a] ∧ SqL K H a (bs.map V.bl) ∧ Q (.bl (bs.any id)) H
def aJoin (K : PySem.W.Frag) : V → List V → Hp → VK → Prop := fun x xs H Q => ∃ (p : Addr) (rs : List (List Bool)), x = .str (T []) ∧ xs = [.ref p] ∧ SqL K H p (rs.map fun r => .str (T r)) ∧ (rs.map (·.length)).sum ≤ 100000 ∧ Q (.str (T rs.flatten)) H
def cutL {α : Type} (xs : List α) (lo hi : Option Int) : List α := (xs.drop (HT.sIx xs.length 0 lo)).take (HT.sIx xs.length xs.length hi - HT.sIx xs.length 0 lo)
def aSlT : V → Option Int → Option Int → Hp → VK → Prop := fun x lo hi H Q => ∃ r : List Bool, x = .str (T r) ∧ r.length ≤ 100000 ∧ Q (.str (T (cutL r lo hi))) H
def aIsi (K : PySem.W.Frag) (u : String) : List V → Hp → VK → Prop := fun xs H Q => ∃ (x c : V) (t : Value) (b : Bool), xs = [x, c] ∧ c = .ty u ∧ TyX K H x t ∧ PySem.W.kitOne K t (.type u) = some b ∧ Q (.bl b) H
section
variable {X : Cx}
theorem o_add : OpR X (binaryOp .Add) aAdd := op_add
theorem o_sub : OpR X (binaryOp .Sub) aSub := op_sub
theorem o_mul : OpR X (binaryOp .Mult) aMul := op_mul
theorem o_div : OpR X (binaryOp .FloorDiv) aDiv := op_fdiv
theorem o_mod : OpR X (binaryOp .Mod) aMod := op_mod
theorem o_pow : OpR X (binaryOp .Pow) aPow := op_pow
theorem o_shl : OpR X (binaryOp .LShift) aShl := op_shl
theorem o_shr : OpR X (binaryOp .RShift) aShr := op_shr
theorem o_and : OpR X (binaryOp .BitAnd) aAnd := op_and
theorem o_lt : OpR X (compareOp .Lt) aLt := op_lt
theorem o_le : OpR X (compareOp .LtE) aLe := op_le
theorem o_gt : OpR X (compareOp .Gt) aGt := op_gt
theorem o_ge : OpR X (compareOp .GtE) aGe := op_ge
theorem o_neg : UnR X (unaryOp .USub) aNeg := un_neg
theorem OpR.imp {f : Value → Value → Sem Value} {r r' : R2} (h : OpR X f r) (i : ∀ x y H Q, r' x y H Q → r x y H Q) : OpR X f r' := fun pins s σ H x y v u Q I rx ry q => h pins s σ H x y v u Q I rx ry (i x y H Q q)
theorem IxR.imp {r r' : R2} (h : IxR X r) (i : ∀ x y H Q, r' x y H Q → r x y H Q) : IxR X r' := fun a b pins s σ H x y v u Q I rx ry q => h a b pins s σ H x y v u Q I rx ry (i x y H Q q)
theorem CallR.imp {f : Value} {r r' : List V → Hp → VK → Prop} (h : CallR X f r) (i : ∀ x H Q, r' x H Q → r x H Q) : CallR X f r' := fun pins s σ H xs us Q I rx q => h pins s σ H xs us Q I rx (i xs H Q q)
theorem MtR.imp {id : String} {r r' : V → List V → Hp → VK → Prop} (h : MtR X id r) (i : ∀ x y H Q, r' x y H Q → r x y H Q) : MtR X id r' := fun pins s σ H x xs v us Q I rx ry q => h pins s σ H x xs v us Q I rx ry (i x xs H Q q)
theorem SlR.imp {r r' : V → Option Int → Option Int → Hp → VK → Prop} (h : SlR X r) (i : ∀ x lo hi H Q, r' x lo hi H Q → r x lo hi H Q) : SlR X r' := fun pins s σ H x v vl vu lo hi sl Q I rx hs pl pu q => h pins s σ H x v vl vu lo hi sl Q I rx hs pl pu (i x lo hi H Q q)
theorem o_catT : OpR X (binaryOp .Add) aCatT := OpR.imp op_add_str fun x y H Q ⟨r, u, e1, e2, hl, q⟩ => ⟨T r, T u, e1, e2, by rw [T_len, T_len]; exact sz_of hl, by rw [T_app]; exact q⟩
theorem x_T : IxR X aIxT := IxR.imp ix_str fun x y H Q ⟨r, i, b, e1, e2, hl, ha, q⟩ => ⟨T r, i, B b, e1, e2, by rw [T_len]; exact sz_of hl, by
  rw [T_list]
  unfold atI at ha ⊢
  rw [List.length_map]
  cases h : ixN r.length i with
  | none => rw [h] at ha; cases ha
  | some j =>
    rw [h] at ha
    show (r.map B)[j]? = _
    have ha' : r[j]? = some b := ha
    rw [List.getElem?_map, ha'] <;> rfl, q⟩
theorem o_inT : OpR X (compareOp .In) aInT := OpR.imp op_in_sign fun x y H Q ⟨b, r, e1, e2, q⟩ => ⟨B b, T r, e1, e2, by
  have e : decide (B b ∈ (T r).cps.toList) = decide (b ∈ r) := by
    rw [T_list]
    apply decide_eq_decide.mpr
    rw [List.mem_map]
    exact ⟨fun ⟨a, h, e⟩ => B_inj e ▸ h, fun h => ⟨b, h, rfl⟩⟩
  rw [e]
  exact q⟩
theorem c_len : CallR X (.builtin "len") (aLenL X.K) := call_len_seq
theorem c_lenT : CallR X (.builtin "len") aLenT := CallR.imp call_len_str fun xs H Q ⟨r, e, hl, q⟩ => ⟨T r, e, by rw [T_len]; exact sz_of hl, by rw [T_len]; exact q⟩
theorem c_abs : CallR X (.builtin "abs") aAbs := call_abs
theorem c_max2 (hc : X.calm = true) : CallR X (.builtin "max") aMax2 := call_max2 hc
theorem c_intB : CallR X (.type "int") aIntB := CallR.imp call_int1 fun xs H Q q => Or.inr q
theorem c_listOf : CallR X (.type "list") (aListOf X.K) := call_list_of
theorem c_all (hc : X.calm = true) : CallR X (.builtin "all") (aAll X.K) := cr_all hc
theorem c_any (hc : X.calm = true) : CallR X (.builtin "any") (aAny X.K) := cr_any hc
theorem T_join : ∀ rs : List (List Bool), Txt.join (T []) (rs.map T) = T rs.flatten := by
  intro rs
  rw [TL.join_eq]
  apply TL.ext_tl
  rw [TL.tl_join]
  show TL.joinL (T []).cps.toList ((rs.map T).map fun x => x.cps.toList) = (T rs.flatten).cps.toList
  rw [T_list, T_list]
  have e : ((rs.map T).map fun x => x.cps.toList) = rs.map fun r => r.map B := by
    rw [List.map_map]
    apply List.map_congr_left
    intro r _
    exact T_list r
  rw [e]
  clear e
  induction rs with
  | nil => rfl
  | cons r rs ih =>
    cases rs with
    | nil => simp [TL.joinL]
    | cons u rs =>
      rw [List.flatten_cons, List.map_append, ← ih]
      rfl
theorem m_join : MtR X "str.join" (aJoin X.K) := MtR.imp mt_join fun x xs H Q ⟨p, rs, e1, e2, h, hl, q⟩ => ⟨T [], p, rs.map T, e1, e2, Or.inl (by rw [List.map_map]; exact h), by
  rw [T_len, List.map_map]
  have e : (rs.map ((fun x => x.length) ∘ T)) = rs.map (·.length) := by
    apply List.map_congr_left
    intro r _
    exact T_len r
  rw [e]
  simp only [List.length_nil, Nat.mul_zero, Nat.add_zero]
  exact Nat.le_trans hl (by decide), by rw [T_join]; exact q⟩
theorem T_cut (r : List Bool) (lo hi : Option Int) : cutS (T r) lo hi = T (cutL r lo hi) := by
  unfold cutS cutL
  rw [T_list, T_len, ← List.map_drop, ← List.map_take]
  rfl
theorem s_T : SlR X aSlT := SlR.imp sl_str fun x lo hi H Q ⟨r, e, hl, q⟩ => ⟨T r, e, by rw [T_len]; exact sz_of hl, by rw [T_cut]; exact q⟩
theorem c_isi (u : String) : CallR X (.builtin "isinstance") (aIsi X.K u) := CallR.imp call_isi fun xs H Q ⟨x, c, t, b, e, ec, ty, k, q⟩ => ⟨x, c, t, .type u, b, e, by rw [ec]; exact .ty u, ty, k, q⟩
end
end BM
namespace BM
open PySem L2 Evl
section
variable {K : PySem.W.Frag} {H0 : Hp} {σ : L2.St} {s : Ld} {ta tb te tl : TE} {t u : TT} {tr : TA} {x y z v : V} {r : R2} {Q : V → Ld → Prop} {D : Dl} {t1 t2 : TS} {g : TG} {i j : Int}
theorem w2_add (q : Q (.int (i + j)) s) : W2 H0 aAdd (.int i) (.int j) s Q := fun H o R k => ⟨i, j, rfl, rfl, k _ H s o q⟩
theorem w2_sub (q : Q (.int (i - j)) s) : W2 H0 aSub (.int i) (.int j) s Q := fun H o R k => ⟨i, j, rfl, rfl, k _ H s o q⟩
theorem w2_mul (h : CMul i j) (q : Q (.int (i * j)) s) : W2 H0 aMul (.int i) (.int j) s Q := fun H o R k => ⟨i, j, rfl, rfl, h, k _ H s o q⟩
theorem w2_div (h : 0 < j ∧ j < 1073741824) (q : Q (.int (i / j)) s) : W2 H0 aDiv (.int i) (.int j) s Q := fun H o R k => ⟨i, j, rfl, rfl, h, k _ H s o q⟩
theorem w2_mod (h : 0 < j) (q : Q (.int (i % j)) s) : W2 H0 aMod (.int i) (.int j) s Q := fun H o R k => ⟨i, j, rfl, rfl, h, k _ H s o q⟩
theorem w2_pow (h : CPow i j) (q : Q (.int (i ^ j.toNat)) s) : W2 H0 aPow (.int i) (.int j) s Q := fun H o R k => ⟨i, j, rfl, rfl, h, k _ H s o q⟩
theorem w2_shl (h : CPow i j) (q : Q (.int (i * 2 ^ j.toNat)) s) : W2 H0 aShl (.int i) (.int j) s Q := fun H o R k => ⟨i, j, rfl, rfl, h, k _ H s o q⟩
theorem w2_shr (h : 0 ≤ j) (q : Q (.int (i / 2 ^ j.toNat)) s) : W2 H0 aShr (.int i) (.int j) s Q := fun H o R k => ⟨i, j, rfl, rfl, h, k _ H s o q⟩
theorem w2_and (q : Q (.int (Builtin.bitAnd i j)) s) : W2 H0 aAnd (.int i) (.int j) s Q := fun H o R k => ⟨i, j, rfl, rfl, k _ H s o q⟩
theorem w2_lt (q : Q (.bl (decide (i < j))) s) : W2 H0 aLt (.int i) (.int j) s Q := fun H o R k => ⟨i, j, rfl, rfl, k _ H s o q⟩
theorem w2_le (q : Q (.bl (decide (i ≤ j))) s) : W2 H0 aLe (.int i) (.int j) s Q := fun H o R k => ⟨i, j, rfl, rfl, k _ H s o q⟩
theorem w2_gt (q : Q (.bl (decide (j < i))) s) : W2 H0 aGt (.int i) (.int j) s Q := fun H o R k => ⟨i, j, rfl, rfl, k _ H s o q⟩
theorem w2_ge (q : Q (.bl (decide (j ≤ i))) s) : W2 H0 aGe (.int i) (.int j) s Q := fun H o R k => ⟨i, j, rfl, rfl, k _ H s o q⟩
theorem w2_eqI (q : Q (.bl (decide (i = j))) s) : W2 H0 rEq (.int i) (.int j) s Q := fun H o R k => ⟨rfl, k _ H s o (by
  have e : decide (V.int i = V.int j) = decide (i = j) := decide_eq_decide.mpr ⟨fun h => V.int.inj h, fun h => by rw [h]⟩
  rw [e]; exact q)⟩
theorem w2_neI (q : Q (.bl (!decide (i = j))) s) : W2 H0 rNe (.int i) (.int j) s Q := fun H o R k => ⟨rfl, k _ H s o (by
  have e : decide (V.int i = V.int j) = decide (i = j) := decide_eq_decide.mpr ⟨fun h => V.int.inj h, fun h => by rw [h]⟩
  rw [e]; exact q)⟩
theorem w2_eqB {a b : Bool} (q : Q (.bl (decide (a = b))) s) : W2 H0 rEq (.bl a) (.bl b) s Q := fun H o R k => ⟨rfl, k _ H s o (by
  have e : decide (V.bl a = V.bl b) = decide (a = b) := decide_eq_decide.mpr ⟨fun h => V.bl.inj h, fun h => by rw [h]⟩
  rw [e]; exact q)⟩
theorem w2_neB {a b : Bool} (q : Q (.bl (!decide (a = b))) s) : W2 H0 rNe (.bl a) (.bl b) s Q := fun H o R k => ⟨rfl, k _ H s o (by
  have e : decide (V.bl a = V.bl b) = decide (a = b) := decide_eq_decide.mpr ⟨fun h => V.bl.inj h, fun h => by rw [h]⟩
  rw [e]; exact q)⟩
theorem w2_eqT {a b : List Bool} (q : Q (.bl (decide (a = b))) s) : W2 H0 rEq (.str (T a)) (.str (T b)) s Q := fun H o R k => ⟨rfl, k _ H s o (by
  have e : decide (V.str (T a) = V.str (T b)) = decide (a = b) := decide_eq_decide.mpr tV_eq
  rw [e]; exact q)⟩
theorem w2_neT {a b : List Bool} (q : Q (.bl (!decide (a = b))) s) : W2 H0 rNe (.str (T a)) (.str (T b)) s Q := fun H o R k => ⟨rfl, k _ H s o (by
  have e : decide (V.str (T a) = V.str (T b)) = decide (a = b) := decide_eq_decide.mpr tV_eq
  rw [e]; exact q)⟩
theorem w2_isN (q : Q (.bl (decide (x = .non))) s) : W2 H0 aIsN x .non s Q := fun H o R k => ⟨rfl, k _ H s o q⟩
theorem w2_notN (q : Q (.bl (!decide (x = .non))) s) : W2 H0 aNotN x .non s Q := fun H o R k => ⟨rfl, k _ H s o q⟩
theorem w2_isB {a b : Bool} (q : Q (.bl (decide (a = b))) s) : W2 H0 aIsB (.bl a) (.bl b) s Q := fun H o R k => ⟨a, b, rfl, rfl, k _ H s o q⟩
theorem w2_catT {a b : List Bool} (h : a.length + b.length ≤ 100000) (q : Q (.str (T (a ++ b))) s) : W2 H0 aCatT (.str (T a)) (.str (T b)) s Q := fun H o R k => ⟨a, b, rfl, rfl, h, k _ H s o q⟩
theorem w2_ixT {a : List Bool} {b : Bool} (hl : a.length ≤ 100000) (h : atI a i = some b) (q : Q (.str (T [b])) s) : W2 H0 aIxT (.str (T a)) (.int i) s Q := fun H o R k => ⟨a, i, b, rfl, rfl, hl, h, k _ H s o q⟩
theorem w2_inT {a : List Bool} {b : Bool} (q : Q (.bl (decide (b ∈ a))) s) : W2 H0 aInT (.str (T [b])) (.str (T a)) s Q := fun H o R k => ⟨b, a, rfl, rfl, k _ H s o q⟩
theorem w2_ixL {p : Addr} {xs : List V} (hx : IsL K H0 s p xs) (h : atI xs i = some v) (q : Q v s) : W2 H0 (rIxL K) (.ref p) (.int i) s Q := fun H o R k => ⟨p, xs, i, v, rfl, rfl, hx H o, h, k _ H s o q⟩
theorem w2_ixU {p : Addr} {xs : List V} (hx : IsT K H0 s p xs) (h : atI xs i = some v) (q : Q v s) : W2 H0 (rIxT K) (.ref p) (.int i) s Q := fun H o R k => ⟨p, xs, i, v, rfl, rfl, hx H o, h, k _ H s o q⟩
theorem w2_inL {p : Addr} {xs : List V} (hx : IsL K H0 s p xs) (h1 : flatV x = true) (h2 : xs.all flatV = true) (q : Q (.bl (inV x xs)) s) : W2 H0 (rIn K false) x (.ref p) s Q := fun H o R k => ⟨p, xs, rfl, Or.inl (hx H o), h1, h2, k _ H s o q⟩
theorem w1_neg (q : Q (.int (-i)) s) : W1 H0 aNeg (.int i) s Q := fun H o R k => ⟨i, rfl, k _ H s o q⟩
/-! calls of built-ins -/
theorem wl_len {p : Addr} {xs : List V} (hx : IsL K H0 s p xs) (q : Q (.int (xs.length : Int)) s) : WL H0 (aLenL K) [.ref p] s Q := fun H o R k => ⟨p, xs, rfl, Or.inl (hx H o), k _ H s o q⟩
theorem wl_lenT {a : List Bool} (hl : a.length ≤ 100000) (q : Q (.int (a.length : Int)) s) : WL H0 aLenT [.str (T a)] s Q := fun H o R k => ⟨a, rfl, hl, k _ H s o q⟩
theorem wl_abs (q : Q (.int (if i < 0 then -i else i)) s) : WL H0 aAbs [.int i] s Q := fun H o R k => ⟨i, rfl, k _ H s o q⟩
theorem wl_max2 (q : Q (.int (if j > i then j else i)) s) : WL H0 aMax2 [.int i, .int j] s Q := fun H o R k => ⟨i, j, rfl, k _ H s o q⟩
theorem wl_min2 (q : Q (.int (if j < i then j else i)) s) : WL H0 aMin2 [.int i, .int j] s Q := fun H o R k => ⟨i, j, rfl, k _ H s o q⟩
theorem wl_intB {b : Bool} (q : Q (.int (if b then 1 else 0)) s) : WL H0 aIntB [.bl b] s Q := fun H o R k => ⟨b, rfl, k _ H s o q⟩
theorem wl_listOf {p : Addr} {xs : List V} (hx : IsL K H0 s p xs) (q : ∀ l, H0 l = none → Q (.ref l) ⟨(l, .lst xs) :: s.L, s.T⟩) : WL H0 (aListOf K) [.ref p] s Q := fun H o R k => ⟨p, xs, rfl, Or.inl (hx H o), fun l hl => k _ _ _ (o.new hl) (q l (fresh_back o.ex hl))⟩
theorem wl_all {p : Addr} {bs : List Bool} (hx : IsL K H0 s p (bs.map V.bl)) (q : Q (.bl (bs.all id)) s) : WL H0 (aAll K) [.ref p] s Q := fun H o R k => ⟨p, bs, rfl, hx H o, k _ H s o q⟩
theorem wl_any {p : Addr} {bs : List Bool} (hx : IsL K H0 s p (bs.map V.bl)) (q : Q (.bl (bs.any id)) s) : WL H0 (aAny K) [.ref p] s Q := fun H o R k => ⟨p, bs, rfl, hx H o, k _ H s o q⟩
theorem wl_sum {p : Addr} {ns : List Int} (hx : IsL K H0 s p (ns.map V.int)) (q : Q (.int ns.sum) s) : WL H0 (rSum K) [.ref p] s Q := fun H o R k => ⟨p, ns, rfl, hx H o, k _ H s o q⟩
theorem wl_min {p : Addr} {ns : List Int} (hx : IsL K H0 s p (ns.map V.int)) (hn : 0 < ns.length) (q : ∀ m, m ∈ ns → (∀ y, y ∈ ns → m ≤ y) → Q (.int m) s) : WL H0 (rMin K) [.ref p] s Q := fun H o R k => ⟨p, ns, rfl, hx H o, hn, fun m h1 h2 => k _ H s o (q m h1 h2)⟩
theorem wl_isi {c : String} {tv : Value} {b : Bool} (ty : ∀ H, Own H0 H s → TyX K H x tv) (hk : PySem.W.kitOne K tv (.type c) = some b) (q : Q (.bl b) s) : WL H0 (aIsi K c) [x, .ty c] s Q := fun H o R k => ⟨x, .ty c, tv, b, rfl, rfl, ty H o, hk, k _ H s o q⟩
/-! methods -/
theorem we_bm {T : String} {r : V → List V → Hp → VK → Prop} {to : TE} (h : WE H0 to σ s fun x s1 => (∀ H, Own H0 H s1 → tyV K T x H) ∧ WA H0 tr σ s1 fun xs s2 => WM H0 r x xs s2 Q) : WE H0 (tBM K T r to tr) σ s Q := fun H o R k =>
  h H o _ fun x H1 s1 o1 ⟨ty, h1⟩ => ⟨ty H1 o1, h1 H1 o1 _ fun xs H2 s2 o2 h2 => h2 H2 o2 R k⟩
theorem we_bm0 {T : String} {r : V → List V → Hp → VK → Prop} {to : TE} (h : WE H0 to σ s fun x s1 => (∀ H, Own H0 H s1 → tyV K T x H) ∧ WM H0 r x [] s1 Q) : WE H0 (tBM0 K T r to) σ s Q := fun H o R k =>
  h H o _ fun x H1 s1 o1 ⟨ty, h1⟩ => ⟨ty H1 o1, h1 H1 o1 R k⟩
theorem ty_L {p : Addr} {xs : List V} (hx : IsL K H0 s p xs) : ∀ H, Own H0 H s → tyV K "list" (.ref p) H := fun H o => Or.inl ⟨rfl, xs, hx H o⟩
theorem ty_S {a : Str} : ∀ H, Own H0 H s → tyV K "str" (.str a) H := fun H o => rfl
theorem wm_append {p : Addr} {xs : List V} {L' : List (Addr × HO)} (sw : Swap p (.lst xs) (.lst (xs ++ [v])) s.L L') (hl : xs.length < 100000) (q : Q .non ⟨L', s.T⟩) : WM H0 rAppend (.ref p) [v] s Q := fun H o R k =>
  ⟨p, xs, v, rfl, rfl, (o.own _ sw.mem).2, sz_lt hl, k _ _ _ (o.swap sw trivial) q⟩
theorem wm_join {p : Addr} {rs : List (List Bool)} (hx : IsL K H0 s p (rs.map fun r => .str (T r))) (hl : (rs.map (·.length)).sum ≤ 100000) (q : Q (.str (T rs.flatten)) s) : WM H0 (aJoin K) (.str (T [])) [.ref p] s Q := fun H o R k =>
  ⟨p, rs, rfl, rfl, hx H o, hl, k _ H s o q⟩
theorem wset_list {p : Addr} {xs : List V} {j : Nat} {L' : List (Addr × HO)} {Q : Ld → Prop} (hj : ixN xs.length i = some j) (sw : Swap p (.lst xs) (.lst (xs.set j v)) s.L L') (q : Q ⟨L', s.T⟩) : WSet H0 rSetL (.ref p) (.int i) v s Q := fun H o R k =>
  ⟨p, xs, i, j, rfl, rfl, (o.own _ sw.mem).2, hj, k _ _ (o.swap sw trivial) q⟩
/-! slices, lists joined -/
theorem wsl_T {a : List Bool} {lo hi : Option Int} (hl : a.length ≤ 100000) (q : Q (.str (T (cutL a lo hi))) s) : WSl H0 aSlT (.str (T a)) lo hi s Q := fun H o R k => ⟨a, rfl, hl, k _ H s o q⟩
theorem wsl_L {p : Addr} {xs : List V} {lo hi : Option Int} (hx : IsL K H0 s p xs) (q : ∀ l, H0 l = none → Q (.ref l) ⟨(l, .lst (cutL xs lo hi)) :: s.L, s.T⟩) : WSl H0 (rSlL K) (.ref p) lo hi s Q := fun H o R k => ⟨p, xs, rfl, hx H o, fun l hl => k _ _ _ (o.new hl) (q l (fresh_back o.ex hl))⟩
theorem w2_cat {p b : Addr} {xs zs : List V} (hp : (p, HO.lst xs) ∈ s.L) (hb : (b, HO.lst zs) ∈ s.L) (hl : xs.length + zs.length ≤ 100000) (q : ∀ l, H0 l = none → Q (.ref l) ⟨(l, .lst (xs ++ zs)) :: s.L, s.T⟩) : W2 H0 rCat (.ref p) (.ref b) s Q := fun H o R k =>
  ⟨p, b, xs, zs, rfl, rfl, (o.own _ hp).2, (o.own _ hb).2, sz_of hl, fun l hl => k _ _ _ (o.new hl) (q l (fresh_back o.ex hl))⟩
/-! ### own defs: promises of two shapes -/
def spV (R : List V → Hp → V → Prop) : Sp := fun vs H Q _ => ∃ v, R vs H v ∧ ∀ H', Ex H H' → Q v H'
def spL (R : List V → Hp → List V → Prop) : Sp := fun vs H Q _ => ∃ xs, R vs H xs ∧ ∀ p H', H p = none → Ex H H' → H' p = some (.lst xs) → Q (.ref p) H'
theorem wc_V {R : List V → Hp → V → Prop} {E : XK} {vs : List V} (h : ∀ H, Own H0 H s → R vs H v) (q : Q v s) : WC H0 (spV R) E vs s Q := fun H o R' k => ⟨v, h H o, fun H' e => k _ _ _ (o.ext e) q⟩
theorem wc_L {R : List V → Hp → List V → Prop} {E : XK} {vs xs : List V} (h : ∀ H, Own H0 H s → R vs H xs) (q : ∀ p, H0 p = none → Q (.ref p) ⟨(p, .lst xs) :: s.L, s.T⟩) : WC H0 (spL R) E vs s Q := fun H o R' k =>
  ⟨xs, h H o, fun p H' hp e hx => k _ _ _ (o.newE hp e hx) (q p (fresh_back o.ex hp))⟩
/-! ### a def's body -/
def retV (v : V) : Dl := { nx := fun _ _ => v = .non, rt := fun u _ => u = v }
def retL (xs : List V) : Dl := { nx := fun _ _ => False, rt := fun u s => ∃ p, u = .ref p ∧ (p, HO.lst xs) ∈ s.L }
theorem body_V {H : Hp} {t : TS} {N : List Str} {vs : List V} {Q : VK} (h : WS H t (start N vs) ⟨[], []⟩ (retV v)) (k : ∀ H', Ex H H' → Q v H') : t { nx := fun _ H' => Q .non H', rt := Q } (start N vs) H :=
  h H (Own.start H) _ ⟨fun σ H' s o e => by
    have e' : v = .non := e
    rw [← e']
    exact k H' o.ex, fun u H' s o e => by
    have e' : u = v := e
    rw [e']
    exact k H' o.ex, (fun _ _ _ _ q => q.elim), (fun _ _ _ _ q => q.elim)⟩
theorem body_L {H : Hp} {t : TS} {N : List Str} {vs xs : List V} {Q : VK} (h : WS H t (start N vs) ⟨[], []⟩ (retL xs)) (k : ∀ p H', H p = none → Ex H H' → H' p = some (.lst xs) → Q (.ref p) H') : t { nx := fun _ H' => Q .non H', rt := Q } (start N vs) H :=
  h H (Own.start H) _ ⟨(fun _ _ _ _ q => q.elim), fun u H' s o ⟨p, e, m⟩ => by
    rw [e]
    exact k p H' (o.own _ m).1 o.ex (o.own _ m).2, (fun _ _ _ _ q => q.elim), (fun _ _ _ _ q => q.elim)⟩
/-! ### what is walked -/
theorem wi_list {R : It → Ld → Prop} (h : WE H0 tl σ s fun x s1 => ∃ a, x = .ref a ∧ (∃ xs, IsL K H0 s1 a xs) ∧ R (Itl K a) s1) : WI H0 (iList K tl) σ s R := fun H o R' k =>
  h H o _ fun x H1 s1 o1 ⟨a, e, ⟨xs, hx⟩, q⟩ => ⟨a, e, ⟨xs, hx H1 o1⟩, k _ H1 s1 o1 q⟩
theorem wi_tup {R : It → Ld → Prop} (h : WE H0 tl σ s fun x s1 => ∃ a, x = .ref a ∧ (∃ xs, IsT K H0 s1 a xs) ∧ R (Itt K a) s1) : WI H0 (iTup K tl) σ s R := fun H o R' k =>
  h H o _ fun x H1 s1 o1 ⟨a, e, ⟨xs, hx⟩, q⟩ => ⟨a, e, ⟨xs, hx H1 o1⟩, k _ H1 s1 o1 q⟩
theorem wi_T {R : It → Ld → Prop} (h : WE H0 te σ s fun x s1 => ∃ r, x = .str (T r) ∧ R (Its (T r)) s1) : WI H0 (iStr te) σ s R := fun H o R' k =>
  h H o _ fun x H1 s1 o1 ⟨r, e, q⟩ => ⟨T r, e, k _ H1 s1 o1 q⟩
theorem we_call0 {sp : Sp} {E : XK} {ta : TA} (h : WA H0 ta σ s fun xs s1 => WC H0 sp E xs s1 Q) : WE H0 (tCall sp [] E ta) σ s Q := fun H o R k =>
  h H o _ fun xs H1 s1 o1 h1 => by
    show sp (xs ++ []) H1 R E
    rw [List.append_nil]
    exact h1 H1 o1 R k
theorem wi_rng1 {R : It → Ld → Prop} (h : WA H0 tr σ s fun xs s1 => ∃ n : Int, xs = [.int n] ∧ (n ≤ 1000000 ∧ -1000000 ≤ n) ∧ R (Itr 0 n.toNat) s1) : WI H0 (iRng1 tr) σ s R := fun H o R' k =>
  h H o _ fun x H1 s1 o1 ⟨n, e, h1, q⟩ => ⟨n, e, by omega, by omega, k _ H1 s1 o1 q⟩
theorem wi_rng2 {R : It → Ld → Prop} (h : WA H0 tr σ s fun xs s1 => ∃ m n : Int, xs = [.int m, .int n] ∧ (n ≤ 1000000 ∧ -1000000 ≤ n ∧ m ≤ 1000000 ∧ -1000000 ≤ m) ∧ R (Itr m (n - m).toNat) s1) : WI H0 (iRng2 tr) σ s R := fun H o R' k =>
  h H o _ fun x H1 s1 o1 ⟨m, n, e, h1, q⟩ => ⟨m, n, e, by omega, k _ H1 s1 o1 q⟩
theorem wi_rng3 {R : It → Ld → Prop} (h : WA H0 tr σ s fun xs s1 => ∃ (i j c : Int) (n : Nat), xs = [.int i, .int j, .int c] ∧ RgC i j c n ∧ R (Itc i c n) s1) : WI H0 (iRng3 tr) σ s R := fun H o R' k =>
  h H o _ fun x H1 s1 o1 ⟨i, j, c, n, e, h1, q⟩ => ⟨i, j, c, n, e, h1, k _ H1 s1 o1 q⟩
theorem wi_enum {R : It → Ld → Prop} (h : WA H0 tr σ s fun xs s1 => ∃ a ys, xs = [.ref a] ∧ IsL K H0 s1 a ys ∧ R (Ite K a) s1) : WI H0 (iEnum K tr) σ s R := fun H o R' k =>
  h H o _ fun x H1 s1 o1 ⟨a, ys, e, h1, q⟩ => ⟨a, ys, e, h1 H1 o1, k _ H1 s1 o1 q⟩
theorem wi_zip {R : It → Ld → Prop} (h : WA H0 tr σ s fun xs s1 => ∃ a b ys zs, xs = [.ref a, .ref b] ∧ IsL K H0 s1 a ys ∧ IsL K H0 s1 b zs ∧ R (Itz K a b) s1) : WI H0 (iZip K tr) σ s R := fun H o R' k =>
  h H o _ fun x H1 s1 o1 ⟨a, b, ys, zs, e, h1, h2, q⟩ => ⟨a, b, ys, zs, e, h1 H1 o1, h2 H1 o1, k _ H1 s1 o1 q⟩
theorem T_at {r : List Bool} {i c : Nat} (h : (T r).cps[i]? = some c) : ∃ b, r[i]? = some b ∧ c = B b := by
  have hc' : (T r).cps.toList[i]? = some c := by rw [Array.getElem?_toList]; exact h
  rw [T_list, List.getElem?_map] at hc'
  cases h : r[i]? with
  | none => rw [h] at hc'; cases hc'
  | some b =>
    rw [h] at hc'
    exact ⟨b, rfl, (Option.some.inj hc').symm⟩
/-- the loop's part, for each thing walked: what it gives and what stays -/
theorem lp_list {a : Addr} {xs : List V} {n : Nat} (I : Nat → L2.St → Ld → Prop) (hn : xs.length = n) (h0 : I 0 σ s) (hI : ∀ i σ s, i ≤ n → I i σ s → IsL K H0 s a xs)
    (hs : ∀ i x σ s, i < n → xs[i]? = some x → I i σ s → WG H0 g x σ s fun σ2 s2 => WS H0 t1 σ2 s2 (turnD D (I (i + 1)))) (hd : ∀ σ s, I n σ s → D.nx σ s) : LoopOk H0 (Itl K a) g t1 σ s D := by
  subst hn
  exact ⟨xs.length, _, _, walk_list (xs := xs), I, h0, fun i σ s H hi q o => hI i σ s hi q H o, fun i x σ s H H' hi q o ⟨e, hx⟩ => ⟨s, by rw [e]; exact o, hs i x σ s hi hx q⟩, hd⟩
theorem lp_T {r : List Bool} {n : Nat} (I : Nat → L2.St → Ld → Prop) (hn : r.length = n) (h0 : I 0 σ s)
    (hs : ∀ i b σ s, i < n → r[i]? = some b → I i σ s → WG H0 g (.str (T [b])) σ s fun σ2 s2 => WS H0 t1 σ2 s2 (turnD D (I (i + 1)))) (hd : ∀ σ s, I n σ s → D.nx σ s) : LoopOk H0 (Its (T r)) g t1 σ s D := by
  have e : (T r).cps.size = n := by rw [← hn]; exact T_len r
  subst e
  refine ⟨_, _, _, walk_str (z := T r), I, h0, fun i σ s H hi q o => trivial, fun i x σ s H H' hi q o ⟨e, c, hc, ex⟩ => ⟨s, by rw [e]; exact o, ?_⟩, hd⟩
  obtain ⟨b, h, rfl⟩ := T_at hc
  rw [ex]
  exact hs i b σ s hi h q
theorem lp_rng {lo : Int} {m : Nat} (I : Nat → L2.St → Ld → Prop) (h0 : I 0 σ s)
    (hs : ∀ i σ s, i < m → I i σ s → WG H0 g (.int (lo + (i : Int))) σ s fun σ2 s2 => WS H0 t1 σ2 s2 (turnD D (I (i + 1)))) (hd : ∀ σ s, I m σ s → D.nx σ s) : LoopOk H0 (Itr lo m) g t1 σ s D :=
  ⟨m, _, _, walk_range, I, h0, fun i σ s H hi q o => trivial, fun i x σ s H H' hi q o ⟨e, ex⟩ => ⟨s, by rw [e]; exact o, by rw [ex]; exact hs i σ s hi q⟩, hd⟩
/-! comprehensions: F i is the list behind i items -/
theorem cp_core {J : It} {n : Nat} {G : Hp → Prop} {Y : Nat → Hp → V → Hp → Prop} {tt : TT} {vs : List Nat} (w : Walk J n G Y) (hn : n ≤ 90000) (F : Nat → List V) (hF0 : F 0 = []) (hFl : ∀ i, i ≤ n → (F i).length ≤ i)
    (hG : ∀ D x H, Own H0 H ⟨(D, .lst x) :: s.L, s.T⟩ → G H)
    (hs : ∀ D i x H H', i < n → Own H0 H ⟨(D, .lst (F i)) :: s.L, s.T⟩ → Y i H x H' → ∃ s', Own H0 H' s' ∧ WG H0 g x (wipe σ vs) s' fun σ2 s2 => wipe σ2 vs = wipe σ vs ∧ WT H0 tt σ2 s2 fun b s3 =>
      (b = true → WE H0 te σ2 s3 fun y s4 => Sub ⟨(D, .lst (F i)) :: s.L, s.T⟩ s4 ∧ F (i + 1) = F i ++ [y]) ∧ (b = false → Sub ⟨(D, .lst (F i)) :: s.L, s.T⟩ s3 ∧ F (i + 1) = F i)) (hq : ∀ D, H0 D = none → Q (.ref D) ⟨(D, .lst (F n)) :: s.L, s.T⟩) : CompOk H0 J g tt te σ vs s Q := by
  refine ⟨n, G, Y, w, fun D hD => ⟨fun i s' => s' = ⟨(D, .lst (F i)) :: s.L, s.T⟩, (by show (⟨(D, .lst []) :: s.L, s.T⟩ : Ld) = ⟨(D, .lst (F 0)) :: s.L, s.T⟩; rw [hF0]), fun i s' H hi e o => ?_, fun i x s' H H' hi e o y => ?_, fun s' e => by rw [e]; exact hq D hD⟩⟩
  · rw [e] at o
    exact hG D _ H o
  · rw [e] at o
    obtain ⟨s2, o2, h2⟩ := hs D i x H H' hi o y
    refine ⟨s2, o2, fun H3 o3 R k => h2 H3 o3 R fun σ3 H4 s4 o4 h4 => k _ H4 s4 o4 ⟨h4.1, fun H5 o5 R5 k5 => h4.2 H5 o5 R5 fun b H6 s6 o6 h6 => k5 b H6 s6 o6 ⟨fun hb => ?_, fun hb => ?_⟩⟩⟩
    · refine fun H7 o7 R7 k7 => h6.1 hb H7 o7 R7 fun y H8 s8 o8 h8 => k7 y H8 s8 o8 ?_
      obtain ⟨hsub, he⟩ := h8
      obtain ⟨L8, sw, hs8⟩ : ∃ L', Swap D (.lst (F i)) (.lst (F i ++ [y])) s8.L L' ∧ List.Sublist ((D, HO.lst (F i ++ [y])) :: s.L) L' := by
        have aux : ∀ (L M : List (Addr × HO)), List.Sublist ((D, HO.lst (F i)) :: L) M → ∃ L', Swap D (.lst (F i)) (.lst (F i ++ [y])) M L' ∧ List.Sublist ((D, HO.lst (F i ++ [y])) :: L) L' := by
          intro L M h
          generalize hx : ((D, HO.lst (F i)) :: L) = X at h
          induction h with
          | slnil => cases hx
          | cons a h ih =>
            obtain ⟨L', h1, h2⟩ := ih hx
            exact ⟨_, .there h1, .cons _ h2⟩
          | cons_cons a h ih =>
            cases hx
            exact ⟨_, .here, .cons_cons _ h⟩
        exact aux s.L s8.L hsub.l
      exact ⟨F i, L8, ⟨(D, .lst (F (i + 1))) :: s.L, s.T⟩, sw, Nat.lt_of_le_of_lt (hFl i (Nat.le_of_lt hi)) (by omega), ⟨by rw [he]; exact hs8, hsub.t⟩, rfl⟩
    · obtain ⟨hsub, he⟩ := h6.2 hb
      exact ⟨_, hsub, (by show (⟨(D, .lst (F i)) :: s.L, s.T⟩ : Ld) = ⟨(D, .lst (F (i + 1))) :: s.L, s.T⟩; rw [he])⟩
theorem cp_list {a : Addr} {xs : List V} {tt : TT} {vs : List Nat} (F : Nat → List V) (hx : IsL K H0 s a xs) (hn : xs.length ≤ 90000) (hF0 : F 0 = []) (hFl : ∀ i, i ≤ xs.length → (F i).length ≤ i)
    (hs : ∀ D i x, i < xs.length → xs[i]? = some x → WG H0 g x (wipe σ vs) ⟨(D, .lst (F i)) :: s.L, s.T⟩ fun σ2 s2 => wipe σ2 vs = wipe σ vs ∧ WT H0 tt σ2 s2 fun b s3 =>
      (b = true → WE H0 te σ2 s3 fun y s4 => Sub ⟨(D, .lst (F i)) :: s.L, s.T⟩ s4 ∧ F (i + 1) = F i ++ [y]) ∧ (b = false → Sub ⟨(D, .lst (F i)) :: s.L, s.T⟩ s3 ∧ F (i + 1) = F i)) (hq : ∀ D, H0 D = none → Q (.ref D) ⟨(D, .lst (F xs.length)) :: s.L, s.T⟩) : CompOk H0 (Itl K a) g tt te σ vs s Q :=
  cp_core (walk_list (xs := xs)) hn F hF0 hFl (fun D x H o => hx H (o.dropL (.cons _ (.refl _)) fun _ h => h)) (fun D i x H H' hi o ⟨e, h⟩ => ⟨⟨(D, .lst (F i)) :: s.L, s.T⟩, by rw [e]; exact o, hs D i x hi h⟩) hq
theorem cp_T {r : List Bool} {tt : TT} {vs : List Nat} (F : Nat → List V) (hn : r.length ≤ 90000) (hF0 : F 0 = []) (hFl : ∀ i, i ≤ r.length → (F i).length ≤ i)
    (hs : ∀ D i b, i < r.length → r[i]? = some b → WG H0 g (.str (T [b])) (wipe σ vs) ⟨(D, .lst (F i)) :: s.L, s.T⟩ fun σ2 s2 => wipe σ2 vs = wipe σ vs ∧ WT H0 tt σ2 s2 fun b s3 =>
      (b = true → WE H0 te σ2 s3 fun y s4 => Sub ⟨(D, .lst (F i)) :: s.L, s.T⟩ s4 ∧ F (i + 1) = F i ++ [y]) ∧ (b = false → Sub ⟨(D, .lst (F i)) :: s.L, s.T⟩ s3 ∧ F (i + 1) = F i)) (hq : ∀ D, H0 D = none → Q (.ref D) ⟨(D, .lst (F r.length)) :: s.L, s.T⟩) : CompOk H0 (Its (T r)) g tt te σ vs s Q := by
  have e : (T r).cps.size = r.length := T_len r
  refine cp_core (n := r.length) (e ▸ walk_str (z := T r)) hn F hF0 hFl (fun D x H o => trivial) (fun D i x H H' hi o ⟨e, c, hc, ex⟩ => ⟨⟨(D, .lst (F i)) :: s.L, s.T⟩, by rw [e]; exact o, ?_⟩) hq
  obtain ⟨b, h, rfl⟩ := T_at hc
  rw [ex]
  exact hs D i b hi h
theorem cp_rng {lo : Int} {m : Nat} {tt : TT} {vs : List Nat} (F : Nat → List V) (hn : m ≤ 90000) (hF0 : F 0 = []) (hFl : ∀ i, i ≤ m → (F i).length ≤ i)
    (hs : ∀ D i, i < m → WG H0 g (.int (lo + (i : Int))) (wipe σ vs) ⟨(D, .lst (F i)) :: s.L, s.T⟩ fun σ2 s2 => wipe σ2 vs = wipe σ vs ∧ WT H0 tt σ2 s2 fun b s3 =>
      (b = true → WE H0 te σ2 s3 fun y s4 => Sub ⟨(D, .lst (F i)) :: s.L, s.T⟩ s4 ∧ F (i + 1) = F i ++ [y]) ∧ (b = false → Sub ⟨(D, .lst (F i)) :: s.L, s.T⟩ s3 ∧ F (i + 1) = F i)) (hq : ∀ D, H0 D = none → Q (.ref D) ⟨(D, .lst (F m)) :: s.L, s.T⟩) : CompOk H0 (Itr lo m) g tt te σ vs s Q :=
  cp_core walk_range hn F hF0 hFl (fun D x H o => trivial) (fun D i x H H' hi o ⟨e, ex⟩ => ⟨⟨(D, .lst (F i)) :: s.L, s.T⟩, by rw [e]; exact o, by rw [ex]; exact hs D i hi⟩) hq
end
end BM
namespace BM
open PySem L2 Evl PyProof.Rows
/-! ### enumerate(text) -/
def IteT (x : Str) : It := ⟨fun i _ => i < x.cps.size, fun i H v H' => ∃ T c, v = .ref T ∧ H T = none ∧ H' = upd H T (.tup [.int (i : Nat), .str ⟨#[c]⟩]) ∧ x.cps[i]? = some c, fun i _ => x.cps.size ≤ i⟩
theorem turn_enumT {P : Program} {w : World} {K : PySem.W.Frag} {elts : List Expr} {kk : Nat} {tpos : Pos} (e it : Addr) (x : Str) (t : Tok) (ty : String) (hty : ty = "str_ascii_iterator" ∨ ty = "str_iterator") :
    Turn P w K (.Tuple elts kk tpos) (IteT x) [e, it] e (fun i h => (∃ old, IsEnum h e it ((i : Nat) : Int) old) ∧ (h.IsStrIter it ty x t i ∧ i ≤ x.cps.size) ∧ e ≠ it) where
  mem := by simp
  obj := fun i h st b hb => by
    obtain ⟨⟨old, he⟩, ⟨⟨o, ho, hc, hd⟩, _⟩, _⟩ := st
    have e' : b = e ∨ b = it := by simpa using hb
    rcases e' with z | z
    · rw [z]; exact ⟨_, he, fun v q => nomatch q⟩
    · rw [z]; exact ⟨o, ho, fun v q => by rw [hd] at q; cases q⟩
  keep := fun i h h' st k => let ⟨⟨old, he⟩, ⟨⟨o, ho, r⟩, hl⟩, hne⟩ := st; ⟨⟨old, k e (by simp) _ he⟩, ⟨⟨o, k it (by simp) _ ho, r⟩, hl⟩, hne⟩
  item := by
    intro X hP hw hK hc i pins s σ H E I hf st hg
    subst hP hw hK
    obtain ⟨⟨old, he⟩, ⟨hit, hle⟩, hne⟩ := st
    have hh : X.A.in1.handled = none := I.ok.hd hc
    have D : Draws X.prog X.w X.A.in1 it [it] x.cps.size (fun i v => ∃ c u, x.cps[i]? = some c ∧ v = .str ⟨#[c]⟩ u) (fun i h => h.IsStrIter it ty x t i) := by
      rcases hty with e | e
      · rw [e]; exact Draws.strAscii hh it x t
      · rw [e]; exact Draws.strWide hh it x t
    have hel : e < s.heap.objs.size := Heap.lt_size he
    have hil : it < s.heap.objs.size := by obtain ⟨_, q, _⟩ := hit; exact Heap.lt_size q
    refine wpAny_pyNext_enum_itemD D he hit hg hne (by simpa using hne) fun u h' tk hP ho hit' hT hsz hk => ?_
    obtain ⟨c, tc, hcx, rfl⟩ := hP
    refine ⟨_, rfl, wpAny_letOwnedTupleGo_enum (s := { s with heap := h', toks := tk + 1 }) ho fun h'' he' sb => ?_⟩
    have hT2 : h''.get? s.heap.objs.size = some { cls := .type "tuple", data := .seq #[.int i tk, .str ⟨#[c]⟩ tc] } := (sb.2 _ (Nat.ne_of_gt hel)).trans hT
    have new : ObjOk X.prog X.w (upd H s.heap.objs.size (.tup [.int (i : Nat), .str ⟨#[c]⟩])) h'' s.heap.objs.size (.tup [.int (i : Nat), .str ⟨#[c]⟩]) :=
      ⟨by show 2 ≤ sizeLine; decide, [.int i tk, .str ⟨#[c]⟩ tc], .cons ⟨_, rfl⟩ (.cons ⟨_, rfl⟩ .nil), ⟨_, hT2, rfl, _, rfl⟩⟩
    have I1 : Inv X pins σ (upd H s.heap.objs.size (.tup [.int (i : Nat), .str ⟨#[c]⟩])) { s with heap := h'', toks := tk + 1 } :=
      I.turnedNew (ch := [e, it]) (fun b ob hb q => (sb.2 b (fun z => hb (by simp [z]))).trans (hk b ob (fun z => hb (by simp [z])) (fun z => hb (by simp [z])) q)) hf (Nat.le_refl _) new
    have hit2 : h''.IsStrIter it ty x t (i + 1) := by
      obtain ⟨o, ho, r⟩ := hit'
      exact ⟨o, (sb.2 it (Ne.symm hne)).trans ho, r⟩
    refine ⟨.ref s.heap.objs.size, _, I1, rfl, ⟨_, c, rfl, I.hok.fresh (Nat.le_refl _), rfl, hcx⟩, ⟨⟨.str ⟨#[c]⟩ tc, ?_⟩, ⟨hit2, hg⟩, hne⟩, fun b hb => ?_⟩
    · have e1 : ((i + 1 : Nat) : Int) = (i : Int) + 1 := by omega
      rw [e1]; exact he'
    · have hb' : b < s.heap.objs.size := by
        have e' : b = e ∨ b = it := by simpa using hb
        rcases e' with z | z
        · rw [z]; exact hel
        · rw [z]; exact hil
      rw [upd_ne (Nat.ne_of_lt hb')]
      exact (hf b hb).1
  done := by
    intro X hP hw hK hc i pins s σ H E I hf st hg
    subst hP hw hK
    obtain ⟨⟨old, he⟩, ⟨hit, hle⟩, hne⟩ := st
    have hh : X.A.in1.handled = none := I.ok.hd hc
    have D : Draws X.prog X.w X.A.in1 it [it] x.cps.size (fun i v => ∃ c u, x.cps[i]? = some c ∧ v = .str ⟨#[c]⟩ u) (fun i h => h.IsStrIter it ty x t i) := by
      rcases hty with e | e
      · rw [e]; exact Draws.strAscii hh it x t
      · rw [e]; exact Draws.strWide hh it x t
    obtain ⟨f0, f1, f2, f3, f4, f5⟩ := hf it (by simp)
    have ei : i = x.cps.size := Nat.le_antisymm hle hg
    subst ei
    exact wpAny_pyNext_enum_endD D he hit fun h' eb => ⟨rfl, I.turned (t' := s.toks) (fun b o hb q => eb b o hb q) f0 f1 f3 f4 f5⟩
  self := fun A i s Q E st h => let ⟨⟨_, he⟩, _⟩ := st; wpAny_pyIter_enum he h
def iEnumT (ta : TA) : TI := fun σ H R => ta σ H fun vs H1 => ∃ r : List Bool, vs = [.str (T r)] ∧ R (IteT (T r)) H1
theorem pi_enumT {X : Cx} {e : Expr} {ta : TA} {p pos tpos : Pos} {elts : List Expr} {kk : Nat} (hg : Gl X "enumerate") (hm : X.mg "enumerate" = none) (ha : PA X [e] ta) (hs : starEach [e] X.env = [(false, eval e X.env)] := by rfl) :
    PI X (.Tuple elts kk tpos) (.Call (.Name "enumerate" p) [e] [] pos) (iEnumT ta) := by
  refine ⟨fun pins s σ H R I h => ?_⟩
  refine Call_ (ld_blt I hg hm boot_enumerate (PyProof.Rows.callWith_type1 (thn (ha.run pos pins s σ H _ I h) fun us s1 ⟨vs, H1, I1, r1, q1⟩ => ?_) hs rfl))
  obtain ⟨r, ex, q⟩ := q1
  subst ex
  cases r1 with
  | cons r0 rr =>
    cases rr
    obtain ⟨t, rfl⟩ := r0
    refine call_enumerate_str fun h' he hit hsz hk => wpAny_pyIter_enum he ?_
    have I2 : Inv X pins σ H1 { s1 with heap := h' } := I1.kept (t' := s1.toks) hk
    have hty : strIterType (T r) = "str_ascii_iterator" ∨ strIterType (T r) = "str_iterator" := by
      unfold strIterType
      split
      · exact .inl rfl
      · exact .inr rfl
    refine ⟨s1.heap.objs.size + 1, [s1.heap.objs.size + 1, s1.heap.objs.size], _, _, H1, rfl, I2, turn_enumT (s1.heap.objs.size + 1) s1.heap.objs.size (T r) t _ hty, ⟨⟨.none, he⟩, ⟨hit, Nat.zero_le _⟩, Nat.succ_ne_self _⟩, fun b hb => ?_, q⟩
    have e' : b = s1.heap.objs.size + 1 ∨ b = s1.heap.objs.size := by simpa using hb
    have hle : s1.heap.objs.size ≤ b := by
      rcases e' with z | z
      · rw [z]; exact Nat.le_add_right _ _
      · rw [z]; exact Nat.le_refl _
    exact I1.fpOk hle (I1.hok.fresh hle)
/-! ### a < b < c < d -/
def tChain3 (r1 r2 r3 : R2) (ta tb tc td : TE) : TE := fun σ H Q => ta σ H fun x H1 => tb σ H1 fun y H2 => r1 x y H2 fun z H3 => ∃ k, z = .bl k ∧
  (if k = true then tc σ H3 fun w' H4 => r2 y w' H4 fun z2 H5 => ∃ k2, z2 = .bl k2 ∧ (if k2 = true then td σ H5 fun w2 H6 => r3 w' w2 H6 Q else Q (.bl false) H5) else Q (.bl false) H3)
/-! ### text[::-1] -/
def tRevT (te : TE) : TE := fun σ H Q => te σ H fun x H1 => ∃ r : List Bool, x = .str (T r) ∧ r.length ≤ 100000 ∧ Q (.str (T r.reverse)) H1
theorem rev_picked (x : Str) (k : Tok) : ((slicePicked x none none (some (-1, k))).filterMap (x.cps[·]?)) = x.cps.toList.reverse := by
  have e0 : slicePicked x none none (some (-1, k)) = (List.range x.length).map fun i => x.length - 1 - i := by
    unfold slicePicked Builtin.Str.strSliceIndices sliceRange
    simp only [Option.map_none, Option.map_some, Option.getD_some]
    have h1 : ¬ ((-1 : Int) > 0) := by decide
    simp only [if_neg h1]
    by_cases hz : x.length = 0
    · rw [hz]
      rfl
    · have h2 : ((x.length : Int) - 1 > -1) := by omega
      rw [if_pos h2]
      have h3 : (((x.length : Int) - 1 - -1 - -1 - 1) / - -1).toNat = x.length := by
        have h4 : ((x.length : Int) - 1 - -1 - -1 - 1) = (x.length : Int) := by omega
        have h5 : (- -1 : Int) = 1 := by decide
        rw [h4, h5, Int.ediv_one]
        rfl
      rw [h3]
      apply List.map_congr_left
      intro i hi
      have := List.mem_range.mp hi
      omega
  rw [e0, List.filterMap_map]
  have e1 : ∀ n, n ≤ x.length → (List.range n).filterMap ((fun i => x.cps[i]?) ∘ fun i => x.length - 1 - i) = x.cps.toList.reverse.take n := by
    intro n
    induction n with
    | zero => intro _; rfl
    | succ n ih =>
      intro h
      rw [List.range_succ, List.filterMap_append, ih (by omega)]
      have hl : x.cps.toList.reverse.length = x.length := by simp [Str.length]
      have hn : n < x.cps.toList.reverse.length := by omega
      rw [List.take_succ, List.getElem?_eq_getElem hn]
      have h3 : x.length - 1 - n < x.cps.size := by show _ < x.length; omega
      have h4 : x.cps[x.length - 1 - n]? = some (x.cps.toList.reverse[n]) := by
        rw [List.getElem_reverse]
        rw [Array.getElem?_eq_getElem h3]
        simp [Str.length]
      simp only [List.filterMap_cons, List.filterMap_nil, Function.comp, h4]
      rfl
  rw [e1 _ (Nat.le_refl _)]
  apply List.take_of_length_le
  simp [Str.length]
section
variable {X : Cx} {e : Expr} {te : TE} {k : Nat} {p1 p2 p3 pos : Pos}
theorem pe_revT (he : PE X e te) : PE X (.Subscript e (.Slice none none (some (.UnaryOp .USub (.Constant (.int 1) k p1) p2)) p3) pos) (tRevT te) := by
  refine ⟨fun pins s σ H Q I h => ?_⟩
  refine Subscript_ (thn (he.run pins s σ H _ I h) fun v s1 ⟨x, H1, I1, r1, q1⟩ => ?_)
  obtain ⟨r, ex, hl, q⟩ := q1
  subst ex
  obtain ⟨tx, rfl⟩ := r1
  have hst : PO X (some (.UnaryOp .USub (.Constant (.int 1) k p1) p2)) (tPart (tUn (rU fun i => .int (-i)) (tC (.int 1)))) := po_some (pe_un un_neg pe_int)
  refine wpAny_Slice (thn (po_none.run pins s1 σ H1 (fun o H2 => o = none ∧ H2 = H1) I1 ⟨rfl, rfl⟩) fun vl s2 ⟨l, H2, I2, pl, el, e2⟩ => ?_)
  subst el e2
  refine thn (po_none.run pins s2 σ H2 (fun o H3 => o = none ∧ H3 = H2) I2 ⟨rfl, rfl⟩) fun vu s3 ⟨u, H3, I3, pu, eu, e3⟩ => ?_
  subst eu e3
  refine thn (hst.run pins s3 σ H3 (fun o H4 => o = some (-1) ∧ H4 = H3) I3 ⟨1, rfl, -1, rfl, rfl, rfl⟩) fun vs s4 ⟨o, H4, I4, ps, eo, e4⟩ => ?_
  subst eo e4
  have I5 : Inv X pins σ H4 { s4 with heap := s4.heap.push { cls := .type "slice", data := .fields #[vl, vu, vs] } } := I4.kept (t' := s4.toks) fun b ob q => Heap.get?_push_of_some _ q
  obtain ⟨l1, hl1, hl2⟩ := IsPart.raw pl
  obtain ⟨u1, hu1, hu2⟩ := IsPart.raw pu
  obtain ⟨s1', hs1, hs2⟩ := IsPart.raw ps
  obtain rfl : l1 = none := by cases l1 with | none => rfl | some z => cases hl2
  obtain rfl : u1 = none := by cases u1 with | none => rfl | some z => cases hu2
  obtain ⟨kk, rfl⟩ : ∃ kk, s1' = some (-1, kk) := by
    cases s1' with
    | none => cases hs2
    | some z =>
      obtain ⟨z1, z2⟩ := z
      have : z1 = -1 := Option.some.inj hs2
      exact ⟨z2, by rw [this]⟩
  have hsl : (s4.heap.push { cls := .type "slice", data := .fields #[vl, vu, vs] }).IsSlice s4.heap.objs.size none none (some (-1, kk)) := by
    rw [hl1, hu1, hs1]
    exact ⟨_, Heap.get?_push_size _ rfl, rfl, rfl⟩
  show wpAny (model X.prog X.w) X.A (subscriptTail e (.Slice none none (some (.UnaryOp .USub (.Constant (.int 1) k p1) p2)) p3) (.str (T r) tx) (.ref s4.heap.objs.size)) (EP X pins σ Q) X.xe { s4 with heap := s4.heap.push { cls := .type "slice", data := .fields #[vl, vu, vs] } }
  refine tail_any (ops := [.ref s4.heap.objs.size, .str (T r) tx]) (typeIs_str _ _ _) F.slot_str_getitem.lookup ?_ (by with_unfolding_all rfl)
  refine wpAny_getItem_str_slice (l := none) (u := none) (st := some (-1, kk)) hsl (by rfl) ?_
  unfold sliceMade
  rw [if_neg (by simp)]
  have er : (⟨((slicePicked (T r) none none (some (-1, kk))).filterMap ((T r).cps[·]?)).toArray⟩ : Str) = T r.reverse := by
    rw [rev_picked, T_list, ← List.map_reverse]
    rfl
  rw [er]
  refine ⟨by rw [T_len, List.length_reverse]; exact sz_of hl, .str (T r.reverse), H4, ?_, ⟨_, rfl⟩, q⟩
  exact I5.tok _
end
/-! ### list(text) -/
def aListT : List V → Hp → VK → Prop := fun xs H Q => ∃ r : List Bool, xs = [.str (T r)] ∧ r.length ≤ 100000 ∧ ∀ l, H l = none → Q (.ref l) (upd H l (.lst (r.map fun b => .str (T [b]))))
theorem c_listT {X : Cx} (hc : X.calm = true) : CallR X (.type "list") aListT := by
  intro pins s σ H xs us Q I rx h
  obtain ⟨r, rfl, hl, q⟩ := h
  obtain ⟨u, rfl, ru⟩ := vals1 rx
  obtain ⟨t, rfl⟩ := ru
  refine call_list_str (I.ok.hd hc) (T r) t (hn := by show (T r).length ≤ _; rw [T_len]; exact sz_of hl) fun h' tk acc' c' hk ho hi => ?_
  refine ⟨.ref s.heap.objs.size, _, I.laid (t' := tk) (o := .lst (r.map fun b => .str (T [b]))) hk (Nat.le_refl _) ?_, rfl, q _ (I.hok.fresh (Nat.le_refl _))⟩
  have hz : acc'.toList.length = r.length := by
    have h1 : acc'.size = (T r).length := hi.1
    rw [T_len] at h1
    simpa using h1
  refine ⟨by rw [List.length_map]; exact sz_of hl, acc'.toList, c', ?_, ho⟩
  refine vals_of_at (by rw [List.length_map, hz]) fun j x u h1 h2 => ?_
  obtain ⟨c, tk', hc1, rfl⟩ := hi.2 j u (by simpa using h2)
  obtain ⟨b, hb, rfl⟩ := T_at hc1
  rw [List.getElem?_map, hb] at h1
  cases h1
  exact ⟨tk', rfl⟩
/-! ### xs.count(y) -/
def aCount (K : PySem.W.Frag) : V → List V → Hp → VK → Prop := fun x xs H Q => ∃ (p : Addr) (ys : List V) (y : V), x = .ref p ∧ xs = [y] ∧ SqL K H p ys ∧ flatV y = true ∧ ys.all flatV = true ∧ Q (.int ((ys.countP fun z => eqV z y : Nat) : Int)) H
theorem count_eqU {x : V} : ∀ {xs : List V} {us : List Value}, Vals xs us → xs.all flatV = true → us.countP (eqU x) = xs.countP fun y => eqV y x
  | _, _, .nil, _ => rfl
  | y :: xs, u :: us, .cons r t, f => by
    rw [List.all_cons, Bool.and_eq_true] at f
    rw [List.countP_cons, List.countP_cons, eqU_of r f.1, count_eqU t f.2]
theorem m_count {X : Cx} : MtR X "list.count" (aCount X.K) := by
  intro pins s σ H x xs v us Q I rx rxs h
  obtain ⟨p, ys, y, rfl, rfl, hs, fy, fa, q⟩ := h
  cases rx
  obtain ⟨u, rfl, ru⟩ := rxs.one
  obtain ⟨its, rv, ⟨⟨cls, dd, data, sl⟩, n, ho, hc, hdn, hd⟩, hlen⟩ := I.list hs
  simp only at hc hd
  subst hc hd
  refine call_meets PySem.F.slot_list_count ⟨_, ho, rfl⟩ PySem.F.entry_list_count (PySem.F.args_list_count_2 _ _)
    (SeqAt.list_countAt p its.toArray n dd sl u (eqU y)) ⟨ho, fun z hz => mem_eqAt ru fy rv fa z (by simpa using hz), ?_⟩
  refine ⟨.int ((ys.countP fun z => eqV z y : Nat) : Int), H, I.tok _, ⟨s.toks, ?_⟩, q⟩
  show Value.int ((its.toArray.toList.countP (eqU y) : Nat) : Int) s.toks = _
  rw [show its.toArray.toList = its from rfl, count_eqU rv fa]
/-! ### == of data -/
def DpL (K : PySem.W.Frag) (H0 : Hp) (s : Ld) (v : V) (d : PyData) : Prop := ∀ H, Own H0 H s → Dp K H v d
theorem dpAll_map {K : PySem.W.Frag} {H : Hp} {α : Type} {f : α → V} {g : α → PyData} (h : ∀ a, Dp K H (f a) (g a)) : ∀ xs : List α, DpAll K H (xs.map f) (xs.map g)
  | [] => .nil
  | a :: xs => .cons (h a) (dpAll_map h xs)
theorem eqvAll_map {α : Type} [DecidableEq α] {g : α → PyData} (h : ∀ a b, PyData.eqv (g a) (g b) = decide (a = b)) : ∀ xs ys : List α, PyData.eqvAll (xs.map g) (ys.map g) = decide (xs = ys)
  | [], [] => by simp [PyData.eqvAll]
  | [], y :: ys => by simp [PyData.eqvAll]
  | x :: xs, [] => by simp [PyData.eqvAll]
  | x :: xs, y :: ys => by
    simp only [List.map_cons, PyData.eqvAll, h, eqvAll_map h xs ys, List.cons.injEq]
    by_cases e : x = y <;> simp [e]
theorem eqv_intD (a b : Int) : PyData.eqv (.int a) (.int b) = decide (a = b) := by
  simp only [PyData.eqv]
  by_cases e : a = b
  · subst e; simp
  · simp [e]
theorem eqv_blD (a b : Bool) : PyData.eqv (.bool a) (.bool b) = decide (a = b) := by
  simp only [PyData.eqv]
  cases a <;> cases b <;> rfl
theorem all_canLay {α : Type} {g : α → PyData} (h : ∀ a, (g a).canLay0 = true) : ∀ xs : List α, PyData.canLayAll0 (xs.map g) = true
  | [] => rfl
  | a :: xs => by simp [PyData.canLayAll0, h a, all_canLay h xs]
theorem all_depth {α : Type} {g : α → PyData} {k : Nat} (h : ∀ a, (g a).depth ≤ k) : ∀ xs : List α, PyData.depthAll (xs.map g) ≤ k
  | [] => by simp [PyData.depthAll]
  | a :: xs => by
    have := h a
    have := all_depth h xs
    simp only [List.map_cons, PyData.depthAll]
    omega
theorem shaped_map {α : Type} {g : α → PyData} {k : Nat} (h : ∀ a, (g a).canLay0 = true) (hd : ∀ a, (g a).depth ≤ k) (hk : k ≤ 60) (xs : List α) : SeqAt.shaped (.list (xs.map g)) = true := by
  unfold SeqAt.shaped
  have h1 : PyData.canLay0 (.list (xs.map g)) = true := by
    simp only [PyData.canLay0]
    exact all_canLay h xs
  have h2 := all_depth hd xs
  have h3 : PyData.depth (.list (xs.map g)) ≤ 64 := by
    simp only [PyData.depth]
    omega
  simp [h1, h3]
section
variable {K : PySem.W.Frag} {H0 : Hp} {s : Ld} {Q : V → Ld → Prop} {x y : V}
theorem w2_neD {d e : PyData} {b : Bool} (h1 : DpL K H0 s x d) (h2 : DpL K H0 s y e) (s1 : SeqAt.shaped d = true) (s2 : SeqAt.shaped e = true) (hb : PyData.eqv d e = b) (q : Q (.bl (!b)) s) : W2 H0 (rNeD K) x y s Q := fun H o R k => ⟨d, e, h1 H o, h2 H o, s1, s2, k _ H s o (by rw [hb]; exact q)⟩
/-- a list of pairs -/
def PairsIn (K : PySem.W.Frag) (H : Hp) (xs : List V) (ps : List (Int × Int)) : Prop := Paired (fun x (p : Int × Int) => ∃ t, x = V.ref t ∧ SqT K H t [.int p.1, .int p.2]) xs ps
theorem PairsIn.mono {H H' : Hp} {xs : List V} {ps : List (Int × Int)} (h : PairsIn K H xs ps) (e : Ex H H') : PairsIn K H' xs ps := Paired.mapP h fun a b ⟨t, h1, h2⟩ => ⟨t, h1, ex_t e h2⟩
variable {a b : Addr}
theorem dl_ints {ns : List Int} (h : IsL K H0 s a (ns.map V.int)) : DpL K H0 s (.ref a) (.list (ns.map PyData.int)) := fun H o => .lst (h H o) (dpAll_map (fun i => .int i) ns)
theorem dl_bls {ns : List Bool} (h : IsL K H0 s a (ns.map V.bl)) : DpL K H0 s (.ref a) (.list (ns.map PyData.bool)) := fun H o => .lst (h H o) (dpAll_map (fun i => .bl i) ns)
theorem w2_neLI {ns ms : List Int} (h1 : IsL K H0 s a (ns.map V.int)) (h2 : IsL K H0 s b (ms.map V.int)) (q : Q (.bl (!decide (ns = ms))) s) : W2 H0 (rNeD K) (.ref a) (.ref b) s Q :=
  w2_neD (dl_ints h1) (dl_ints h2) (shaped_map (k := 10) (fun _ => rfl) (fun _ => by simp [PyData.depth]) (by decide) _) (shaped_map (k := 10) (fun _ => rfl) (fun _ => by simp [PyData.depth]) (by decide) _) (by simp only [PyData.eqv]; exact eqvAll_map eqv_intD ns ms) q
theorem w2_neLB {ns ms : List Bool} (h1 : IsL K H0 s a (ns.map V.bl)) (h2 : IsL K H0 s b (ms.map V.bl)) (q : Q (.bl (!decide (ns = ms))) s) : W2 H0 (rNeD K) (.ref a) (.ref b) s Q :=
  w2_neD (dl_bls h1) (dl_bls h2) (shaped_map (k := 10) (fun _ => rfl) (fun _ => by simp [PyData.depth]) (by decide) _) (shaped_map (k := 10) (fun _ => rfl) (fun _ => by simp [PyData.depth]) (by decide) _) (by simp only [PyData.eqv]; exact eqvAll_map eqv_blD ns ms) q
end
section
variable {K : PySem.W.Frag} {H0 : Hp} {σ : L2.St} {s : Ld} {ta tb te tl tc td : TE} {t u : TT} {tr : TA} {x y z v : V} {r : R2} {Q : V → Ld → Prop} {D : Dl} {t1 t2 : TS} {g : TG} {i j : Int}
theorem we_chain3 {r1 r2 r3 : R2} (h : WE H0 ta σ s fun x s1 => WE H0 tb σ s1 fun y s2 => W2 H0 r1 x y s2 fun z s3 => ∃ c, z = .bl c ∧ (c = true → WE H0 tc σ s3 fun w s4 => W2 H0 r2 y w s4 fun z2 s5 => ∃ c2, z2 = .bl c2 ∧ (c2 = true → WE H0 td σ s5 fun w2 s6 => W2 H0 r3 w w2 s6 Q) ∧ (c2 = false → Q (.bl false) s5)) ∧ (c = false → Q (.bl false) s3)) : WE H0 (tChain3 r1 r2 r3 ta tb tc td) σ s Q := fun H o R k =>
  h H o _ fun x H1 s1 o1 h1 => h1 H1 o1 _ fun y H2 s2 o2 h2 => h2 H2 o2 _ fun z H3 s3 o3 ⟨c, e, h3, h4⟩ => ⟨c, e, by
    cases c with
    | false => exact k _ H3 s3 o3 (h4 rfl)
    | true => exact h3 rfl H3 o3 _ fun w H4 s4 o4 h5 => h5 H4 o4 _ fun z2 H5 s5 o5 ⟨c2, e2, h6, h7⟩ => ⟨c2, e2, by
        cases c2 with
        | false => exact k _ H5 s5 o5 (h7 rfl)
        | true => exact h6 rfl H5 o5 _ fun w2 H6 s6 o6 h8 => h8 H6 o6 R k⟩⟩
theorem we_revT (h : WE H0 te σ s fun x s1 => ∃ r : List Bool, x = .str (T r) ∧ r.length ≤ 100000 ∧ Q (.str (T r.reverse)) s1) : WE H0 (tRevT te) σ s Q := fun H o R k =>
  h H o _ fun x H1 s1 o1 ⟨r, e, hl, q⟩ => ⟨r, e, hl, k _ H1 s1 o1 q⟩
theorem we_revL (h : WE H0 te σ s fun x s1 => ∃ a xs, x = .ref a ∧ IsL K H0 s1 a xs ∧ ∀ p, H0 p = none → Q (.ref p) ⟨(p, .lst xs.reverse) :: s1.L, s1.T⟩) : WE H0 (tRevL K te) σ s Q := fun H o R k =>
  h H o _ fun x H1 s1 o1 ⟨a, xs, e, hx, q⟩ => ⟨a, xs, e, hx H1 o1, fun p hp => k _ _ _ (o1.new hp) (q p (fresh_back o1.ex hp))⟩
theorem wl_listT {a : List Bool} (hl : a.length ≤ 100000) (q : ∀ l, H0 l = none → Q (.ref l) ⟨(l, .lst (a.map fun b => .str (T [b]))) :: s.L, s.T⟩) : WL H0 aListT [.str (T a)] s Q := fun H o R k => ⟨a, rfl, hl, fun l hl => k _ _ _ (o.new hl) (q l (fresh_back o.ex hl))⟩
theorem wm_count {p : Addr} {ys : List V} (hx : IsL K H0 s p ys) (h1 : flatV y = true) (h2 : ys.all flatV = true) (q : Q (.int ((ys.countP fun z => eqV z y : Nat) : Int)) s) : WM H0 (aCount K) (.ref p) [y] s Q := fun H o R k => ⟨p, ys, y, rfl, rfl, hx H o, h1, h2, k _ H s o q⟩
theorem wi_enumT {R : It → Ld → Prop} (h : WA H0 tr σ s fun xs s1 => ∃ r : List Bool, xs = [.str (T r)] ∧ R (IteT (T r)) s1) : WI H0 (iEnumT tr) σ s R := fun H o R' k =>
  h H o _ fun x H1 s1 o1 ⟨r, e, q⟩ => ⟨r, e, k _ H1 s1 o1 q⟩
theorem walk_enumT {z : Str} : Walk (IteT z) z.cps.size (fun _ => True) (fun i H v H' => ∃ p c, v = .ref p ∧ H p = none ∧ H' = upd H p (.tup [.int (i : Nat), .str ⟨#[c]⟩]) ∧ z.cps[i]? = some c) :=
  ⟨fun _ _ hi _ => hi, fun _ _ => Nat.le_refl _, fun _ _ _ _ _ _ y => y⟩
theorem cp_enumT {r : List Bool} {tt : TT} {vs : List Nat} (F : Nat → List V) (hn : r.length ≤ 90000) (hF0 : F 0 = []) (hFl : ∀ i, i ≤ r.length → (F i).length ≤ i)
    (hs : ∀ D i b p, i < r.length → r[i]? = some b → WG H0 g (.ref p) (wipe σ vs) ⟨(D, .lst (F i)) :: s.L, (p, [.int (i : Int), .str (T [b])]) :: s.T⟩ fun σ2 s2 => wipe σ2 vs = wipe σ vs ∧ WT H0 tt σ2 s2 fun b s3 =>
      (b = true → WE H0 te σ2 s3 fun y s4 => Sub ⟨(D, .lst (F i)) :: s.L, s.T⟩ s4 ∧ F (i + 1) = F i ++ [y]) ∧ (b = false → Sub ⟨(D, .lst (F i)) :: s.L, s.T⟩ s3 ∧ F (i + 1) = F i)) (hq : ∀ D, H0 D = none → Q (.ref D) ⟨(D, .lst (F r.length)) :: s.L, s.T⟩) : CompOk H0 (IteT (T r)) g tt te σ vs s Q := by
  have e : (T r).cps.size = r.length := T_len r
  refine cp_core (n := r.length) (e ▸ walk_enumT (z := T r)) hn F hF0 hFl (fun D x H o => trivial) (fun D i v H H' hi o ⟨p, c, ev, hp, e, hc⟩ => ?_) hq
  obtain ⟨b, hb, rfl⟩ := T_at hc
  exact ⟨⟨(D, .lst (F i)) :: s.L, (p, [.int (i : Int), .str (T [b])]) :: s.T⟩, by rw [e]; exact o.newT hp, by rw [ev]; exact hs D i b p hi hb⟩
theorem wt_yes {Q : Bool → Ld → Prop} (q : Q true s) : WT H0 tYes σ s Q := fun H o R k => k true H s o q
end
end BM
/-! rows as lists of truths: depths, right, deeds -/
namespace BM
def sg (b : Bool) : Int := if b then 1 else -1
def hgt : List Bool → Int
  | [] => 0
  | b :: r => sg b + hgt r
theorem hgt_app : ∀ r u : List Bool, hgt (r ++ u) = hgt r + hgt u
  | [], u => by simp [hgt]
  | b :: r, u => by simp only [List.cons_append, hgt, hgt_app r u]; omega
def dps (r : List Bool) : List Int := (List.range (r.length + 1)).map fun j => hgt (r.take j)
theorem dps_len (r : List Bool) : (dps r).length = r.length + 1 := by simp [dps]
theorem dps_snoc (r : List Bool) (b : Bool) : dps (r ++ [b]) = dps r ++ [hgt r + sg b] := by
  unfold dps
  rw [List.length_append, List.range_succ, List.map_append]
  congr 1
  · have e : r.length + [b].length = r.length + 1 := rfl
    rw [e]
    apply List.map_congr_left
    intro j hj
    have := List.mem_range.mp hj
    rw [List.take_append_of_le_length (by omega)]
  · simp only [List.length_cons, List.length_nil, List.map_cons, List.map_nil]
    rw [List.take_of_length_le (by simp), hgt_app]
    simp [hgt]
theorem dps_get {r : List Bool} {j : Nat} (h : j ≤ r.length) : (dps r)[j]? = some (hgt (r.take j)) := by
  unfold dps
  rw [List.getElem?_map, List.getElem?_range (by omega)]
  rfl
theorem dps_last (r : List Bool) : (dps r)[r.length]? = some (hgt r) := by rw [dps_get (Nat.le_refl _), List.take_length]
theorem mem_dps {r : List Bool} {z : Int} : z ∈ dps r ↔ ∃ j, j ≤ r.length ∧ z = hgt (r.take j) := by
  unfold dps
  simp only [List.mem_map, List.mem_range]
  constructor
  · rintro ⟨j, h, rfl⟩
    exact ⟨j, by omega, rfl⟩
  · rintro ⟨j, h, rfl⟩
    exact ⟨j, by omega, rfl⟩
theorem take_snoc {α : Type} {l : List α} {i : Nat} {x : α} (h : l[i]? = some x) : l.take (i + 1) = l.take i ++ [x] := by
  rw [List.take_succ, h]
  rfl
/-- right -/
def isR (r : List Bool) : Bool := decide (hgt r = 0) && (dps r).all fun z => decide (0 ≤ z)
theorem isR_iff {r : List Bool} : isR r = true ↔ hgt r = 0 ∧ ∀ j, j ≤ r.length → 0 ≤ hgt (r.take j) := by
  unfold isR
  simp only [Bool.and_eq_true, decide_eq_true_eq, List.all_eq_true]
  constructor
  · rintro ⟨h1, h2⟩
    exact ⟨h1, fun j hj => h2 _ (mem_dps.mpr ⟨j, hj, rfl⟩)⟩
  · rintro ⟨h1, h2⟩
    refine ⟨h1, fun z hz => ?_⟩
    obtain ⟨j, hj, rfl⟩ := mem_dps.mp hz
    exact h2 j hj
def flp (ps : List Int) (r : List Bool) : List Bool := r.mapIdx fun i b => if ((i : Int) ∈ ps) then !b else b
theorem flp_len (ps : List Int) (r : List Bool) : (flp ps r).length = r.length := by simp [flp]
end BM
namespace BM
open PySem L2 Evl
/-- where the classes stand -/
structure CA where
  c_BracketError : Addr
  c_BadRow : Addr
  c_BadPlaces : Addr
  c_BadStretches : Addr
  c_BadNumber : Addr
  c_BadBracket : Addr
  c_NotSo : Addr
  c_TooMany : Addr
  c_Answer : Addr
  c_Uneven : Addr
  c_Odd : Addr
  c_Swapped : Addr
  c_Turned : Addr
  c_Rounded : Addr
  c_Growing : Addr
/-- a value is handed back that is so; all else stays -/
def spP (pre : List V → Hp → Prop) (post : List V → V → Prop) : Sp := fun vs H Q _ => pre vs H ∧ ∀ v H', post vs v → Ex H H' → Q v H'
theorem wc_P {H0 : Hp} {s : Ld} {Q : V → Ld → Prop} {pre : List V → Hp → Prop} {post : List V → V → Prop} {E : XK} {vs : List V} (h : ∀ H, Own H0 H s → pre vs H) (q : ∀ v, post vs v → Q v s) : WC H0 (spP pre post) E vs s Q := fun H o R' k => ⟨h H o, fun v H' p e => k _ _ _ (o.ext e) (q v p)⟩
theorem body_P {H : Hp} {t : TS} {N : List Str} {vs : List V} {Q : VK} {P : V → Prop} (h : WS H t (start N vs) ⟨[], []⟩ { nx := fun _ _ => P .non, rt := fun u _ => P u }) (k : ∀ v H', P v → Ex H H' → Q v H') : t { nx := fun _ H' => Q .non H', rt := Q } (start N vs) H :=
  h H (Own.start H) _ ⟨(fun σ H' s o e => k _ H' e o.ex), (fun u H' s o e => k u H' e o.ex), (fun _ _ _ _ q => q.elim), (fun _ _ _ _ q => q.elim)⟩
section
def sp_is_whole (K : PySem.W.Frag) (C : CA) : Sp := fun vs H Q _ => ∃ x t b1 b2, vs = [x] ∧ TyX K H x t ∧ PySem.W.kitOne K t (.type "int") = some b1 ∧ PySem.W.kitOne K t (.type "bool") = some b2 ∧ ∀ H', Ex H H' → Q (.bl (b1 && !b2)) H'
def sp_asked_row (K : PySem.W.Frag) (C : CA) : Sp := spV fun vs H v => ∃ r : List Bool, vs = [.str (T r)] ∧ r.length ≤ 40 ∧ v = .non
def sp_deepens (K : PySem.W.Frag) (C : CA) : Sp := spV fun vs H v => ∃ b : Bool, vs = [.str (T [b])] ∧ v = .int (sg b)
def sp_depths_of (K : PySem.W.Frag) (C : CA) : Sp := spL fun vs H xs => ∃ r : List Bool, vs = [.str (T r)] ∧ r.length ≤ 1000 ∧ xs = (dps r).map V.int
def sp_is_right_row (K : PySem.W.Frag) (C : CA) : Sp := spV fun vs H v => ∃ r : List Bool, vs = [.str (T r)] ∧ r.length ≤ 1000 ∧ v = .bl (isR r)
def sp_flipped (K : PySem.W.Frag) (C : CA) : Sp := spV fun vs H v => ∃ b : Bool, vs = [.str (T [b])] ∧ v = .str (T [!b])
def sp_turned (K : PySem.W.Frag) (C : CA) : Sp := spV fun vs H v => ∃ (r : List Bool) (a : Addr) (ps : List Int), vs = [.str (T r), .ref a] ∧ r.length ≤ 1000 ∧ SqL K H a (ps.map V.int) ∧ v = .str (T (flp ps r))
def sp_depths (K : PySem.W.Frag) (C : CA) : Sp := spL fun vs H xs => ∃ r : List Bool, vs = [.str (T r)] ∧ r.length ≤ 40 ∧ xs = (dps r).map V.int
def sp_is_right (K : PySem.W.Frag) (C : CA) : Sp := spV fun vs H v => ∃ r : List Bool, vs = [.str (T r)] ∧ r.length ≤ 40 ∧ v = .bl (isR r)
/-! the law's own -/
def sp__law_number (K : PySem.W.Frag) (C : CA) : Sp := spP (fun vs H => ∃ c a w : Int, vs = [.int c, .int a, .int w] ∧ 0 ≤ a ∧ a ≤ 1000000) fun vs v => ∃ n : Int, v = .int n
def sp__law_row (K : PySem.W.Frag) (C : CA) : Sp := spP (fun vs H => ∃ (a : Addr) (ns : List Int) (k m : Int) (e : Bool), vs = [.ref a, .int k, .int m, .bl e] ∧ SqL K H a (ns.map V.int) ∧ ns.length ≤ 63 ∧ 0 ≤ k ∧ k ≤ 1000 ∧ 0 ≤ m ∧ m ≤ 40)
  fun vs v => ∃ (a : Addr) (k m : Int) (e : Bool) (r : List Bool), vs = [.ref a, .int k, .int m, .bl e] ∧ v = .str (T r) ∧ (r.length : Int) ≤ m ∧ (e = true → hgt r = 0)
def sp__law_depths (K : PySem.W.Frag) (C : CA) : Sp := spL fun vs H xs => ∃ r : List Bool, vs = [.str (T r)] ∧ r.length ≤ 1000 ∧ xs = (dps r).map V.int
def sp__law_good (K : PySem.W.Frag) (C : CA) : Sp := spV fun vs H v => ∃ r : List Bool, vs = [.str (T r)] ∧ r.length ≤ 1000 ∧ v = .bl (isR r)
def sp__law_over (K : PySem.W.Frag) (C : CA) : Sp := spV fun vs H v => ∃ (r : List Bool) (a : Addr) (ps : List Int), vs = [.str (T r), .ref a] ∧ r.length ≤ 1000 ∧ SqL K H a (ps.map V.int) ∧ (∀ p ∈ ps, 0 ≤ p ∧ p < (r.length : Int)) ∧ v = .str (T (flp ps r))
end
end BM
namespace BM
open PySem L2 Evl PyProof.Rows
def N_asked_row : List Str := ["row", "one"]
def rd_asked_row (K : PySem.W.Frag) (C_ : CA) : TS :=
    (tIfS (tOr (tNot (tB (tCB (aIsi K "str") (tCons (tVar 0) (tCons (tC (.ty "str")) tNil))))) (tOr (tTest (tOp aGt (tCB aLenT (tCons (tVar 0) tNil)) (tC (.int 40)))) (tNot (tB (tCB (aAll K) (tCons (tLc (iStr (tVar 0)) (gName 1) tYes (tOp aInT (tVar 1) (tC (.str (T [true, false])))) [1]) tNil)))))) tNever tNext)
def N_deepens : List Str := ["bracket"]
def rd_deepens (K : PySem.W.Frag) (C_ : CA) : TS :=
    (tRet (tIf (tTest (tOp rEq (tVar 0) (tC (.str (T [true]))))) (tC (.int 1)) (tUn aNeg (tC (.int 1)))))
def N_depths_of : List Str := ["row", "found", "bracket"]
def rd_depths_of (K : PySem.W.Frag) (C_ : CA) : TS :=
    (tSeq (tAsg (tLst (tCons (tC (.int 0)) tNil)) (gName 1))
    (tSeq (tFor (iStr (tVar 0)) (gName 2) (tDrop (tBM K "list" rAppend (tVar 1) (tCons (tOp aAdd (tOp (rIxL K) (tVar 1) (tUn aNeg (tC (.int 1)))) (tCall (sp_deepens K C_) [] E0 (tCons (tVar 2) tNil))) tNil))))
    (tRet (tVar 1))))
def N_is_right_row : List Str := ["row", "found"]
def rd_is_right_row (K : PySem.W.Frag) (C_ : CA) : TS :=
    (tSeq (tAsg (tCall (sp_depths_of K C_) [] E0 (tCons (tVar 0) tNil)) (gName 1))
    (tRet (tAndV (tOp rEq (tOp (rIxL K) (tVar 1) (tUn aNeg (tC (.int 1)))) (tC (.int 0))) (tOp rEq (tCB (rMin K) (tCons (tVar 1) tNil)) (tC (.int 0))))))
def N_flipped : List Str := ["bracket"]
def rd_flipped (K : PySem.W.Frag) (C_ : CA) : TS :=
    (tRet (tIf (tTest (tOp rEq (tVar 0) (tC (.str (T [true]))))) (tC (.str (T [false]))) (tC (.str (T [true])))))
def N_turned : List Str := ["row", "places", "at", "one"]
def rd_turned (K : PySem.W.Frag) (C_ : CA) : TS :=
    (tRet (tBM K "str" (aJoin K) (tC (.str (T []))) (tCons (tLc (iEnumT (tCons (tVar 0) tNil)) (gTup K 2 (gCons (gName 2) (gCons (gName 3) gNil))) tYes (tIf (tTest (tOp (rIn K false) (tVar 2) (tVar 1))) (tCall (sp_flipped K C_) [] E0 (tCons (tVar 3) tNil)) (tVar 3)) [2, 3]) tNil)))
def N__law_number : List Str := ["_law_cell", "_law_at", "_law_whole", "_law_small", "_law_blend", "_law_more"]
def rd__law_number (K : PySem.W.Frag) (C_ : CA) : TS :=
    (tSeq (tIfS (tTest (tOp aGe (tVar 0) (tOp aPow (tC (.int 10)) (tC (.int 18))))) (tRet (tOp aDiv (tVar 0) (tOp aAdd (tC (.int 1)) (tOp aMod (tVar 1) (tC (.int 7)))))) tNext)
    (tSeq (tAsg (tOp aMod (tVar 0) (tOp aPow (tC (.int 10)) (tC (.int 18)))) (gName 3))
    (tSeq (tAsg (tOp aMod (tOp aAdd (tOp aMul (tOp aAdd (tVar 3) (tOp aMul (tC (.int 977)) (tVar 1))) (tC (.int 48271))) (tVar 2)) (tC (.int 2147483647))) (gName 4))
    (tSeq (tAsg (tOp aMul (tVar 4) (tOp aAdd (tOp aAdd (tVar 3) (tOp aMul (tC (.int 31)) (tVar 1))) (tC (.int 7)))) (gName 5))
    (tRet (tOp aDiv (tOp aMul (tOp aMul (tVar 5) (tOp aAdd (tOp aAdd (tVar 4) (tVar 3)) (tC (.int 5)))) (tOp aAdd (tOp aMul (tVar 4) (tVar 4)) (tC (.int 11)))) (tOp aAdd (tC (.int 1009)) (tVar 1))))))))
def N__law_row : List Str := ["_law_script", "_law_by", "_law_most", "_law_even", "_law_cells", "_law_wide", "_law_at", "_law_found", "_law_more", "_law_whole", "_law_spot", "_law_cell", "_law_number_here", "_law_mixed", "_law_kinds"]
def rd__law_row (K : PySem.W.Frag) (C_ : CA) : TS :=
    (tSeq (tAsg (tIf (tTest (tOp (rNeD K) (tVar 0) (tLst tNil))) (tSl (rSlL K) (tVar 0) tNoPart (tPart (tC (.int 63)))) (tLst (tCons (tC (.int 5)) tNil))) (gName 4))
    (tSeq (tPar 9 7 (tCons (tOp aAdd (tCB aAbs (tCons (tCB (rSum K) (tCons (tVar 4) tNil)) tNil)) (tOp aMul (tC (.int 7)) (tVar 1))) (tCons (tLst tNil) tNil)))
    (tSeq (tAsg (tOp aAdd (tC (.int 1)) (tOp aMod (tOp aDiv (tVar 9) (tC (.int 5))) (tC (.int 6)))) (gName 5))
    (tSeq (tFor (iRng1 (tCons (tOp aMod (tOp aDiv (tVar 9) (tC (.int 30))) (tOp aAdd (tVar 2) (tC (.int 1)))) tNil)) (gName 6) (tSeq (tAsg (tOp aDiv (tVar 6) (tVar 5)) (gName 10))
    (tSeq (tAsg (tOp aAdd (tOp (rIxL K) (tVar 4) (tOp aMod (tOp aAdd (tVar 10) (tVar 1)) (tCB (aLenL K) (tCons (tVar 4) tNil)))) (tOp aDiv (tVar 10) (tCB (aLenL K) (tCons (tVar 4) tNil)))) (gName 11))
    (tSeq (tAsg (tOp aDiv (tCB aAbs (tCons (tCall (sp__law_number K C_) [] E0 (tCons (tVar 11) (tCons (tOp aAdd (tVar 10) (tVar 1)) (tCons (tVar 9) tNil)))) tNil)) (tC (.int 3))) (gName 12))
    (tSeq (tAsg (tCB aIntB (tCons (tOrV (tOp aGt (tOp aMod (tVar 12) (tC (.int 3))) (tC (.int 0))) (tOp rEq (tOp aMod (tVar 6) (tC (.int 2))) (tC (.int 0)))) tNil)) (gName 13))
    (tSeq (tAsg (tTup (tCons (tOp aMod (tVar 12) (tC (.int 2))) (tCons (tOp aMod (tVar 6) (tC (.int 2))) (tCons (tOp aSub (tC (.int 1)) (tOp aMod (tVar 6) (tC (.int 2)))) (tCons (tVar 13) (tCons (tCB aIntB (tCons (tOp rEq (tOp aMod (tVar 10) (tC (.int 2))) (tC (.int 0))) tNil)) tNil)))))) (gName 14))
    (tDrop (tBM K "list" rAppend (tVar 7) (tCons (tOp aIxT (tC (.str (T [true, false]))) (tOp (rIxT K) (tVar 14) (tOp aMod (tVar 9) (tC (.int 5))))) tNil)))))))))
    (tSeq (tAsg (tIf (tB (tVar 3)) (tSl (rSlL K) (tVar 7) tNoPart (tPart (tOp aMul (tOp aDiv (tCB (aLenL K) (tCons (tVar 7) tNil)) (tC (.int 2))) (tC (.int 2))))) (tVar 7)) (gName 7))
    (tSeq (tAsg (tOp aSub (tBM K "list" (aCount K) (tVar 7) (tCons (tC (.str (T [true]))) tNil)) (tBM K "list" (aCount K) (tVar 7) (tCons (tC (.str (T [false]))) tNil))) (gName 8))
    (tSeq (tFor (iRng1 (tCons (tCB (aLenL K) (tCons (tVar 7) tNil)) tNil)) (gName 6) (tSeq (tAsg (tOp aMod (tOp aAdd (tVar 6) (tVar 9)) (tCB (aLenL K) (tCons (tVar 7) tNil))) (gName 10))
    (tIfS (tAnd (tB (tVar 3)) (tAnd (tTest (tOp rNe (tVar 8) (tC (.int 0)))) (tTest (tOp rEq (tOp (rIxL K) (tVar 7) (tVar 10)) (tOp aIxT (tC (.str (T [true, false]))) (tCB aIntB (tCons (tOp aLt (tVar 8) (tC (.int 0))) tNil))))))) (tSeq (tAsg (tOp aIxT (tC (.str (T [true, false]))) (tCB aIntB (tCons (tOp aGt (tVar 8) (tC (.int 0))) tNil))) (gSub (tVar 7) (tVar 10) rSetL))
    (tAsg (tIf (tTest (tOp aGt (tVar 8) (tC (.int 0)))) (tOp aSub (tVar 8) (tC (.int 2))) (tOp aAdd (tVar 8) (tC (.int 2)))) (gName 8))) tNext)))
    (tRet (tBM K "str" (aJoin K) (tC (.str (T []))) (tCons (tVar 7) tNil))))))))))
def N__law_depths : List Str := ["_law_row_here", "_law_found", "_law_bracket"]
def rd__law_depths (K : PySem.W.Frag) (C_ : CA) : TS :=
    (tSeq (tAsg (tLst (tCons (tC (.int 0)) tNil)) (gName 1))
    (tSeq (tFor (iStr (tVar 0)) (gName 2) (tDrop (tBM K "list" rAppend (tVar 1) (tCons (tOp aAdd (tOp (rIxL K) (tVar 1) (tUn aNeg (tC (.int 1)))) (tIf (tTest (tOp rEq (tVar 2) (tC (.str (T [true]))))) (tC (.int 1)) (tUn aNeg (tC (.int 1))))) tNil))))
    (tRet (tVar 1))))
def N__law_good : List Str := ["_law_row_here", "_law_stack", "_law_bracket"]
def rd__law_good (K : PySem.W.Frag) (C_ : CA) : TS :=
    (tSeq (tAsg (tC (.int 0)) (gName 1))
    (tSeq (tFor (iStr (tVar 0)) (gName 2) (tSeq (tAsg (tIf (tTest (tOp rEq (tVar 2) (tC (.str (T [true]))))) (tOp aAdd (tVar 1) (tC (.int 1))) (tOp aSub (tVar 1) (tC (.int 1)))) (gName 1))
    (tIfS (tTest (tOp aLt (tVar 1) (tC (.int 0)))) (tRet (tC (.bl false))) tNext)))
    (tRet (tOp rEq (tVar 1) (tC (.int 0))))))
def N__law_over : List Str := ["_law_row_here", "_law_places", "_law_found", "_law_at"]
def rd__law_over (K : PySem.W.Frag) (C_ : CA) : TS :=
    (tSeq (tAsg (tCB aListT (tCons (tVar 0) tNil)) (gName 2))
    (tSeq (tFor (iList K (tVar 1)) (gName 3) (tAsg (tOp aIxT (tC (.str (T [true, false]))) (tCB aIntB (tCons (tOp rEq (tOp aIxT (tVar 0) (tVar 3)) (tC (.str (T [true])))) tNil))) (gSub (tVar 2) (tVar 3) rSetL)))
    (tRet (tBM K "str" (aJoin K) (tC (.str (T []))) (tCons (tVar 2) tNil)))))
end BM
namespace BM
open PySem L2 Evl
local macro_rules | `(tactic| walk_at "mem") => `(tactic| first | exact List.mem_cons_self | (refine List.mem_cons_of_mem _ ?_; walk_at "mem"))
local macro_rules | `(tactic| walk_at "swap") => `(tactic| first | exact Swap.here | (refine Swap.there ?_; walk_at "swap"))
local macro_rules | `(tactic| walk_at "subl") => `(tactic| first | exact List.Sublist.refl _ | exact List.nil_sublist _ | (refine List.Sublist.cons_cons _ ?_; walk_at "subl") | (refine List.Sublist.cons _ ?_; walk_at "subl"))
local macro_rules | `(tactic| walk_at "sub") => `(tactic| first | exact Sub.refl _ | (refine ⟨?_, ?_⟩ <;> walk_at "subl"))
local macro_rules | `(tactic| walk_at "isl") => `(tactic| first | exact isL_own (by walk_at "mem") | exact isL_old (by assumption) | assumption)
local macro_rules | `(tactic| walk_at "ist") => `(tactic| first | exact isT_own (by walk_at "mem") | exact isT_old (by assumption) | assumption)
local macro_rules | `(tactic| walk_at "len") => `(tactic| first | omega | decide | (simp only [List.length_map, List.length_take, List.length_drop, List.length_append, List.length_cons, List.length_nil, List.length_reverse, dps_len, flp_len]; omega) | (simp [dps_len, flp_len]; omega) | simp)
local macro_rules | `(tactic| walk_at "b0") => `(tactic| first
  | with_reducible refine' ws_set ?_
  | with_reducible refine' ws_par ?_
  | with_reducible refine' ws_asg ?_
  | with_reducible refine' ws_drop ?_
  | with_reducible refine' ws_ret ?_
  | with_reducible refine' ws_if ?_
  | with_reducible refine' ws_next ?_
  | with_reducible refine' ws_brk ?_
  | with_reducible refine' ws_cont ?_
  | ((with_reducible refine' we_var ?hv ?_); case hv => rfl)
  | with_reducible refine' we_c ?_
  | with_reducible refine' we_op ?_
  | with_reducible refine' we_un ?_
  | with_reducible refine' we_if ?_
  | with_reducible refine' we_and ?_
  | with_reducible refine' we_or ?_
  | with_reducible refine' we_not ?_
  | with_reducible refine' wa_nil ?_
  | with_reducible refine' wa_cons ?_
  | (with_reducible refine' we_lst ?_)
  | (with_reducible refine' we_tup ?_)
  | with_reducible refine' we_cb ?_
  | with_reducible refine' we_call0 ?_
  | with_reducible refine' we_sl ?_
  | with_reducible refine' wo_none ?_
  | (with_reducible refine' wo_some ?_)
  | with_reducible refine' wt_test ?_
  | with_reducible refine' wt_B ?_
  | with_reducible refine' wt_and ?_
  | with_reducible refine' wt_or ?_
  | with_reducible refine' wt_not ?_
  | with_reducible refine' wt_yes ?_
  | with_reducible refine' we_chain ?_
  | with_reducible refine' we_chain3 ?_
  | with_reducible refine' we_revT ?_
  | with_reducible refine' we_revL ?_
  | with_reducible refine' we_bm ?_
  | with_reducible refine' we_bm0 ?_
  | with_reducible refine' ws_for ?_
  | with_reducible refine' we_lc ?_
  | with_reducible refine' wi_list ?_
  | with_reducible refine' wi_tup ?_
  | with_reducible refine' wi_T ?_
  | with_reducible refine' wi_rng1 ?_
  | with_reducible refine' wi_rng2 ?_
  | with_reducible refine' wi_rng3 ?_
  | with_reducible refine' wi_enum ?_
  | with_reducible refine' wi_enumT ?_
  | with_reducible refine' wi_zip ?_
  | with_reducible refine' wg_name ?_
  | with_reducible refine' wg_sub ?_
  | with_reducible refine' wgs_nil ?_
  | with_reducible refine' wgs_cons ?_
  | ((with_reducible refine' wg_tup ?ht ?hn ?_); (case ht => walk_at "ist"); (case hn => rfl))
  | with_reducible refine' w2_add ?_
  | with_reducible refine' w2_sub ?_
  | with_reducible refine' w2_lt ?_
  | with_reducible refine' w2_le ?_
  | with_reducible refine' w2_gt ?_
  | with_reducible refine' w2_ge ?_
  | with_reducible refine' w2_eqI ?_
  | with_reducible refine' w2_neI ?_
  | with_reducible refine' w2_eqT ?_
  | with_reducible refine' w2_neT ?_
  | with_reducible refine' w2_eqB ?_
  | with_reducible refine' w2_neB ?_
  | with_reducible refine' w2_isN ?_
  | with_reducible refine' w2_notN ?_
  | with_reducible refine' w2_isB ?_
  | with_reducible refine' w2_inT ?_
  | with_reducible refine' w1_neg ?_
  | with_reducible refine' wl_abs ?_
  | with_reducible refine' wl_max2 ?_
  | with_reducible refine' wl_min2 ?_
  | with_reducible refine' wl_intB ?_
  | ((with_reducible refine' w2_div ?h ?_); case h => first | omega | (constructor <;> omega))
  | ((with_reducible refine' w2_mod ?h ?_); case h => omega)
  | ((with_reducible refine' w2_catT ?h ?_); case h => walk_at "len")
  | ((with_reducible refine' wsl_T ?h ?_); case h => walk_at "len")
  | ((with_reducible refine' wl_lenT ?h ?_); case h => walk_at "len")
  | ((with_reducible refine' wl_len ?h ?_); case h => walk_at "isl")
  | ((with_reducible refine' wl_len ?h ?_); case h => walk_at "isl")
  | ((with_reducible refine' wm_append ?sw ?hl ?_); (case sw => walk_at "swap"); (case hl => walk_at "len")))
local macro_rules | `(tactic| walk_at "b1") => `(tactic| first | with_reducible refine' ws_seq ?_ | walk_at "b0")
local macro_rules | `(tactic| walk_at "bx") => `(tactic| first
  | refine ⟨_, rfl, ?_⟩
  | refine ⟨_, _, rfl, ?_⟩
  | refine ⟨ty_L (by walk_at "isl"), ?_⟩
  | refine ⟨ty_S, ?_⟩
  | refine spl_t (by rfl) ?_
  | refine spl_f (by rfl) ?_
  | exact rfl)
local macro_rules | `(tactic| walk_at "bm") => `(tactic| repeat (first | walk_at "b1" | walk_at "bx"))
local macro_rules | `(tactic| walk_at "bn") => `(tactic| repeat (first | walk_at "b0" | walk_at "bx"))
theorem atI_m1 {α : Type} {xs : List α} {v : α} (h : xs[xs.length - 1]? = some v) : atI xs (-1) = some v := by
  unfold atI ixN
  have hl : xs.length - 1 < xs.length := (List.getElem?_eq_some_iff.mp h).1
  rw [if_neg (by decide), if_pos (by omega)]
  have e : ((-1 : Int) + (xs.length : Int)).toNat = xs.length - 1 := by omega
  rw [e]
  exact h
theorem dps_m1 (r : List Bool) : atI ((dps r).map V.int) (-1) = some (.int (hgt r)) := by
  apply atI_m1
  rw [List.length_map, dps_len, List.getElem?_map]
  have : r.length + 1 - 1 = r.length := by omega
  rw [this, dps_last]
  rfl
theorem atI_of {α : Type} {xs : List α} {v : α} {i : Int} (h0 : 0 ≤ i) (h : xs[i.toNat]? = some v) : atI xs i = some v := by
  have e : i = (i.toNat : Int) := by omega
  rw [e]
  exact atI_nat h
theorem ln_deepens {K : PySem.W.Frag} {C : CA} {vs : List V} {H : Hp} {Q : VK} {E : XK} (h : sp_deepens K C vs H Q E) : vs.length = 1 := by
  obtain ⟨v, ⟨b, rfl, _⟩, _⟩ := h
  rfl
theorem c_deepens {K : PySem.W.Frag} {C : CA} {H0 : Hp} {s : Ld} {Q : V → Ld → Prop} {E : XK} {b : Bool} (q : Q (.int (sg b)) s) : WC H0 (sp_deepens K C) E [.str (T [b])] s Q := wc_V (fun H o => ⟨b, rfl, rfl⟩) q
theorem pu_deepens {K : PySem.W.Frag} {C : CA} {vs : List V} {H : Hp} {Q : VK} {E : XK} (h : sp_deepens K C vs H Q E) : rd_deepens K C { nx := fun _ H' => Q .non H', rt := Q } (start N_deepens vs) H := by
  obtain ⟨v, ⟨b, rfl, rfl⟩, k⟩ := h
  refine body_V ?_ k
  unfold rd_deepens
  walk_at "bm"
  cases b
  · refine ⟨fun hc => absurd hc (by decide), fun hc => ?_⟩
    walk_at "bm"
  · refine ⟨fun hc => ?_, fun hc => absurd hc (by decide)⟩
    walk_at "bm"
local macro_rules | `(tactic| walk_at "b0") => `(tactic| with_reducible refine' c_deepens ?_)
theorem ln_depths_of {K : PySem.W.Frag} {C : CA} {vs : List V} {H : Hp} {Q : VK} {E : XK} (h : sp_depths_of K C vs H Q E) : vs.length = 1 := by
  obtain ⟨v, ⟨b, rfl, _⟩, _⟩ := h
  rfl
theorem pu_depths_of {K : PySem.W.Frag} {C : CA} {vs : List V} {H : Hp} {Q : VK} {E : XK} (h : sp_depths_of K C vs H Q E) : rd_depths_of K C { nx := fun _ H' => Q .non H', rt := Q } (start N_depths_of vs) H := by
  obtain ⟨v, ⟨r, rfl, hl, rfl⟩, k⟩ := h
  refine body_L ?_ k
  unfold rd_depths_of
  walk_at "bm"
  refine ⟨by decide, fun p hp => ?_⟩
  walk_at "bm"
  refine lp_T (fun i σ s => ∃ b, σ = [some (.str (T r)), some (.ref p), b] ∧ s = ⟨[(p, .lst ((dps (r.take i)).map V.int))], []⟩) rfl ⟨none, rfl, rfl⟩ ?_ ?_
  · rintro i b σ s hi hb ⟨b0, rfl, rfl⟩
    walk_at "bm"
    refine w2_ixL (by walk_at "isl") (dps_m1 _) ?_
    walk_at "bm"
    refine ⟨_, Sub.refl _, _, rfl, ?_⟩
    rw [take_snoc hb, dps_snoc, List.map_append]
    rfl
  · rintro σ s ⟨b0, rfl, rfl⟩
    walk_at "bm"
    rw [List.take_length]
    exact List.mem_cons_self
theorem c_depths_of {K : PySem.W.Frag} {C : CA} {H0 : Hp} {s : Ld} {Q : V → Ld → Prop} {E : XK} {r : List Bool} (hl : r.length ≤ 1000) (q : ∀ p, H0 p = none → Q (.ref p) ⟨(p, .lst ((dps r).map V.int)) :: s.L, s.T⟩) : WC H0 (sp_depths_of K C) E [.str (T r)] s Q := wc_L (fun H o => ⟨r, rfl, hl, rfl⟩) q
local macro_rules | `(tactic| walk_at "b0") => `(tactic| ((with_reducible refine' c_depths_of ?hl ?_); (case hl => walk_at "len")))
theorem c_is_wholeI {K : PySem.W.Frag} {C : CA} {H0 : Hp} {s : Ld} {Q : V → Ld → Prop} {E : XK} {i : Int} (q : Q (.bl true) s) : WC H0 (sp_is_whole K C) E [.int i] s Q := fun H o R k =>
  ⟨.int i, _, true, false, rfl, .base (.int i), kit_ty (by decide +kernel), kit_ty (by decide +kernel), fun H' e => k _ _ _ (o.ext e) q⟩
local macro_rules | `(tactic| walk_at "b0") => `(tactic| with_reducible refine' c_is_wholeI ?_)
theorem ln_flipped {K : PySem.W.Frag} {C : CA} {vs : List V} {H : Hp} {Q : VK} {E : XK} (h : sp_flipped K C vs H Q E) : vs.length = 1 := by
  obtain ⟨v, ⟨b, rfl, _⟩, _⟩ := h
  rfl
theorem pu_flipped {K : PySem.W.Frag} {C : CA} {vs : List V} {H : Hp} {Q : VK} {E : XK} (h : sp_flipped K C vs H Q E) : rd_flipped K C { nx := fun _ H' => Q .non H', rt := Q } (start N_flipped vs) H := by
  obtain ⟨v, ⟨b, rfl, rfl⟩, k⟩ := h
  refine body_V ?_ k
  unfold rd_flipped
  walk_at "bm"
  cases b
  · refine ⟨fun hc => absurd hc (by decide), fun hc => ?_⟩
    walk_at "bm"
  · refine ⟨fun hc => ?_, fun hc => absurd hc (by decide)⟩
    walk_at "bm"
theorem c_flipped {K : PySem.W.Frag} {C : CA} {H0 : Hp} {s : Ld} {Q : V → Ld → Prop} {E : XK} {b : Bool} (q : Q (.str (T [!b])) s) : WC H0 (sp_flipped K C) E [.str (T [b])] s Q := wc_V (fun H o => ⟨b, rfl, rfl⟩) q
local macro_rules | `(tactic| walk_at "b0") => `(tactic| with_reducible refine' c_flipped ?_)
theorem ln_is_right_row {K : PySem.W.Frag} {C : CA} {vs : List V} {H : Hp} {Q : VK} {E : XK} (h : sp_is_right_row K C vs H Q E) : vs.length = 1 := by
  obtain ⟨v, ⟨b, rfl, _⟩, _⟩ := h
  rfl
theorem min_dps {r : List Bool} {m : Int} (h1 : m ∈ dps r) (h2 : ∀ y, y ∈ dps r → m ≤ y) (hz : hgt r = 0) : decide (m = 0) = (dps r).all fun z => decide (0 ≤ z) := by
  have h0 : (0 : Int) ∈ dps r := mem_dps.mpr ⟨0, Nat.zero_le _, rfl⟩
  have h3 := h2 0 h0
  by_cases e : m = 0
  · subst e
    rw [decide_eq_true rfl]
    symm
    rw [List.all_eq_true]
    intro z hz
    exact decide_eq_true (h2 z hz)
  · rw [decide_eq_false e]
    symm
    rw [List.all_eq_false]
    exact ⟨m, h1, by simp; omega⟩
theorem pu_is_right_row {K : PySem.W.Frag} {C : CA} {vs : List V} {H : Hp} {Q : VK} {E : XK} (h : sp_is_right_row K C vs H Q E) : rd_is_right_row K C { nx := fun _ H' => Q .non H', rt := Q } (start N_is_right_row vs) H := by
  obtain ⟨v, ⟨r, rfl, hl, rfl⟩, k⟩ := h
  refine body_V ?_ k
  unfold rd_is_right_row
  walk_at "bm"
  intro p hp
  walk_at "bm"
  refine w2_ixL (by walk_at "isl") (dps_m1 _) ?_
  walk_at "bm"
  refine ⟨fun hc => ?_, fun hc => ?_⟩
  · walk_at "bm"
    refine wl_min (by walk_at "isl") (by rw [dps_len]; omega) fun m h1 h2 => ?_
    walk_at "bm"
    have hz : hgt r = 0 := of_decide_eq_true hc
    show V.bl _ = V.bl _
    unfold isR
    rw [hc, min_dps h1 h2 hz]
    rfl
  · show V.bl _ = V.bl _
    unfold isR
    rw [hc]
    rfl
theorem c_is_right_row {K : PySem.W.Frag} {C : CA} {H0 : Hp} {s : Ld} {Q : V → Ld → Prop} {E : XK} {r : List Bool} (hl : r.length ≤ 1000) (q : Q (.bl (isR r)) s) : WC H0 (sp_is_right_row K C) E [.str (T r)] s Q := wc_V (fun H o => ⟨r, rfl, hl, rfl⟩) q
local macro_rules | `(tactic| walk_at "b0") => `(tactic| ((with_reducible refine' c_is_right_row ?hl ?_); (case hl => walk_at "len")))
end BM
namespace BM
open PySem L2 Evl
local macro_rules | `(tactic| walk_at "mem") => `(tactic| first | exact List.mem_cons_self | (refine List.mem_cons_of_mem _ ?_; walk_at "mem"))
local macro_rules | `(tactic| walk_at "swap") => `(tactic| first | exact Swap.here | (refine Swap.there ?_; walk_at "swap"))
local macro_rules | `(tactic| walk_at "subl") => `(tactic| first | exact List.Sublist.refl _ | exact List.nil_sublist _ | (refine List.Sublist.cons_cons _ ?_; walk_at "subl") | (refine List.Sublist.cons _ ?_; walk_at "subl"))
local macro_rules | `(tactic| walk_at "sub") => `(tactic| first | exact Sub.refl _ | (refine ⟨?_, ?_⟩ <;> walk_at "subl"))
local macro_rules | `(tactic| walk_at "isl") => `(tactic| first | exact isL_own (by walk_at "mem") | exact isL_old (by assumption) | assumption)
local macro_rules | `(tactic| walk_at "ist") => `(tactic| first | exact isT_own (by walk_at "mem") | exact isT_old (by assumption) | assumption)
local macro_rules | `(tactic| walk_at "len") => `(tactic| first | omega | decide | (simp only [List.length_map, List.length_take, List.length_drop, List.length_append, List.length_cons, List.length_nil, List.length_reverse, dps_len, flp_len]; omega) | (simp [dps_len, flp_len]; omega) | simp)
local macro_rules | `(tactic| walk_at "b0") => `(tactic| first
  | with_reducible refine' ws_set ?_
  | with_reducible refine' ws_par ?_
  | with_reducible refine' ws_asg ?_
  | with_reducible refine' ws_drop ?_
  | with_reducible refine' ws_ret ?_
  | with_reducible refine' ws_if ?_
  | with_reducible refine' ws_next ?_
  | with_reducible refine' ws_brk ?_
  | with_reducible refine' ws_cont ?_
  | ((with_reducible refine' we_var ?hv ?_); case hv => rfl)
  | with_reducible refine' we_c ?_
  | with_reducible refine' we_op ?_
  | with_reducible refine' we_un ?_
  | with_reducible refine' we_if ?_
  | with_reducible refine' we_and ?_
  | with_reducible refine' we_or ?_
  | with_reducible refine' we_not ?_
  | with_reducible refine' wa_nil ?_
  | with_reducible refine' wa_cons ?_
  | (with_reducible refine' we_lst ?_)
  | (with_reducible refine' we_tup ?_)
  | with_reducible refine' we_cb ?_
  | with_reducible refine' we_call0 ?_
  | with_reducible refine' we_sl ?_
  | with_reducible refine' wo_none ?_
  | (with_reducible refine' wo_some ?_)
  | with_reducible refine' wt_test ?_
  | with_reducible refine' wt_B ?_
  | with_reducible refine' wt_and ?_
  | with_reducible refine' wt_or ?_
  | with_reducible refine' wt_not ?_
  | with_reducible refine' wt_yes ?_
  | with_reducible refine' we_chain ?_
  | with_reducible refine' we_chain3 ?_
  | with_reducible refine' we_revT ?_
  | with_reducible refine' we_revL ?_
  | with_reducible refine' we_bm ?_
  | with_reducible refine' we_bm0 ?_
  | with_reducible refine' ws_for ?_
  | with_reducible refine' we_lc ?_
  | with_reducible refine' wi_list ?_
  | with_reducible refine' wi_tup ?_
  | with_reducible refine' wi_T ?_
  | with_reducible refine' wi_rng1 ?_
  | with_reducible refine' wi_rng2 ?_
  | with_reducible refine' wi_rng3 ?_
  | with_reducible refine' wi_enum ?_
  | with_reducible refine' wi_enumT ?_
  | with_reducible refine' wi_zip ?_
  | with_reducible refine' wg_name ?_
  | with_reducible refine' wg_sub ?_
  | with_reducible refine' wgs_nil ?_
  | with_reducible refine' wgs_cons ?_
  | ((with_reducible refine' wg_tup ?ht ?hn ?_); (case ht => walk_at "ist"); (case hn => rfl))
  | with_reducible refine' w2_add ?_
  | with_reducible refine' w2_sub ?_
  | with_reducible refine' w2_lt ?_
  | with_reducible refine' w2_le ?_
  | with_reducible refine' w2_gt ?_
  | with_reducible refine' w2_ge ?_
  | with_reducible refine' w2_eqI ?_
  | with_reducible refine' w2_neI ?_
  | with_reducible refine' w2_eqT ?_
  | with_reducible refine' w2_neT ?_
  | with_reducible refine' w2_eqB ?_
  | with_reducible refine' w2_neB ?_
  | with_reducible refine' w2_isN ?_
  | with_reducible refine' w2_notN ?_
  | with_reducible refine' w2_isB ?_
  | with_reducible refine' w2_inT ?_
  | with_reducible refine' w1_neg ?_
  | with_reducible refine' wl_abs ?_
  | with_reducible refine' wl_max2 ?_
  | with_reducible refine' wl_min2 ?_
  | with_reducible refine' wl_intB ?_
  | ((with_reducible refine' w2_div ?h ?_); case h => first | omega | (constructor <;> omega))
  | ((with_reducible refine' w2_mod ?h ?_); case h => omega)
  | ((with_reducible refine' w2_catT ?h ?_); case h => walk_at "len")
  | ((with_reducible refine' wsl_T ?h ?_); case h => walk_at "len")
  | ((with_reducible refine' wl_lenT ?h ?_); case h => walk_at "len")
  | ((with_reducible refine' wl_len ?h ?_); case h => walk_at "isl")
  | ((with_reducible refine' wl_len ?h ?_); case h => walk_at "isl")
  | ((with_reducible refine' wm_append ?sw ?hl ?_); (case sw => walk_at "swap"); (case hl => walk_at "len")))
local macro_rules | `(tactic| walk_at "b1") => `(tactic| first | with_reducible refine' ws_seq ?_ | walk_at "b0")
local macro_rules | `(tactic| walk_at "bx") => `(tactic| first
  | refine ⟨_, rfl, ?_⟩
  | refine ⟨_, _, rfl, ?_⟩
  | refine ⟨ty_L (by walk_at "isl"), ?_⟩
  | refine ⟨ty_S, ?_⟩
  | refine spl_t (by rfl) ?_
  | refine spl_f (by rfl) ?_
  | exact rfl)
local macro_rules | `(tactic| walk_at "bm") => `(tactic| repeat (first | walk_at "b1" | walk_at "bx"))
local macro_rules | `(tactic| walk_at "bn") => `(tactic| repeat (first | walk_at "b0" | walk_at "bx"))
local macro_rules | `(tactic| walk_at "b0") => `(tactic| with_reducible refine' c_deepens ?_)
local macro_rules | `(tactic| walk_at "b0") => `(tactic| ((with_reducible refine' c_depths_of ?hl ?_); (case hl => walk_at "len")))
local macro_rules | `(tactic| walk_at "b0") => `(tactic| with_reducible refine' c_is_wholeI ?_)
local macro_rules | `(tactic| walk_at "b0") => `(tactic| with_reducible refine' c_flipped ?_)
local macro_rules | `(tactic| walk_at "b0") => `(tactic| ((with_reducible refine' c_is_right_row ?hl ?_); (case hl => walk_at "len")))
theorem sIx_some {n d : Nat} {v : Int} (h : 0 ≤ v) : HT.sIx n d (some v) = min v.toNat n := by
  unfold HT.sIx
  simp only
  rw [if_neg (by omega)]
theorem cut_hi {α : Type} {r : List α} {p : Int} (h : 0 ≤ p) : cutL r none (some p) = r.take p.toNat := by
  unfold cutL
  rw [sIx_some h, HT.sIx_none, List.drop_zero, Nat.sub_zero]
  rcases Nat.le_total p.toNat r.length with h1 | h1
  · rw [Nat.min_eq_left h1]
  · rw [Nat.min_eq_right h1, List.take_of_length_le h1, List.take_of_length_le (Nat.le_refl _)]
theorem cut_lo {α : Type} {r : List α} {p : Int} (h : 0 ≤ p) : cutL r (some p) none = r.drop p.toNat := by
  unfold cutL
  rw [sIx_some h, HT.sIx_none, List.take_of_length_le (by simp)]
  rcases Nat.le_total p.toNat r.length with h1 | h1
  · rw [Nat.min_eq_left h1]
  · rw [Nat.min_eq_right h1, List.drop_of_length_le h1, List.drop_of_length_le (Nat.le_refl _)]
theorem get_some {α : Type} {r : List α} {i : Nat} (h : i < r.length) : ∃ x, r[i]? = some x := ⟨r[i], List.getElem?_eq_getElem h⟩
theorem ln_asked_row {K : PySem.W.Frag} {C : CA} {vs : List V} {H : Hp} {Q : VK} {E : XK} (h : sp_asked_row K C vs H Q E) : vs.length = 1 := by
  obtain ⟨v, ⟨b, rfl, _⟩, _⟩ := h
  rfl
theorem mem_tf (b : Bool) : decide (b ∈ [true, false]) = true := by cases b <;> decide
theorem rep_true (n : Nat) : (List.replicate n true).all id = true := by
  rw [List.all_eq_true]
  intro x hx
  exact (List.eq_of_mem_replicate hx)
theorem rep_map {α : Type} (x : α) (n : Nat) {β : Type} (f : α → β) : (List.replicate n x).map f = List.replicate n (f x) := List.map_replicate
theorem pu_asked_row {K : PySem.W.Frag} {C : CA} {vs : List V} {H : Hp} {Q : VK} {E : XK} (h : sp_asked_row K C vs H Q E) : rd_asked_row K C { nx := fun _ H' => Q .non H', rt := Q } (start N_asked_row vs) H := by
  obtain ⟨v, ⟨r, rfl, hl, rfl⟩, k⟩ := h
  refine body_V ?_ k
  unfold rd_asked_row
  walk_at "bm"
  refine wl_isi (tv := .type "str") (b := true) (fun H' o => .base (.str _)) (kit_ty (by decide +kernel)) ?_
  walk_at "bm"
  refine ⟨fun hc => absurd (of_decide_eq_true hc) (by omega), fun _ => ?_⟩
  walk_at "bm"
  refine cp_T (fun i => List.replicate i (.bl true)) (by omega) rfl (fun i _ => by simp) ?_ ?_
  · intro D i b hi hb
    walk_at "bm"
    refine ⟨rfl, ?_⟩
    walk_at "bm"
    refine ⟨Sub.refl _, ?_⟩
    rw [mem_tf, List.replicate_succ']
  · intro D hD
    walk_at "bm"
    refine wl_all (bs := List.replicate r.length true) (by rw [rep_map]; walk_at "isl") ?_
    walk_at "bm"
    rw [rep_true]
    walk_at "bm"
theorem c_asked_row {K : PySem.W.Frag} {C : CA} {H0 : Hp} {s : Ld} {Q : V → Ld → Prop} {E : XK} {r : List Bool} (hl : r.length ≤ 40) (q : Q .non s) : WC H0 (sp_asked_row K C) E [.str (T r)] s Q := wc_V (fun H o => ⟨r, rfl, hl, rfl⟩) q
local macro_rules | `(tactic| walk_at "b0") => `(tactic| ((with_reducible refine' c_asked_row ?hl ?_); (case hl => walk_at "len")))
theorem c_depths {K : PySem.W.Frag} {C : CA} {H0 : Hp} {s : Ld} {Q : V → Ld → Prop} {E : XK} {r : List Bool} (hl : r.length ≤ 40) (q : ∀ p, H0 p = none → Q (.ref p) ⟨(p, .lst ((dps r).map V.int)) :: s.L, s.T⟩) : WC H0 (sp_depths K C) E [.str (T r)] s Q := wc_L (fun H o => ⟨r, rfl, hl, rfl⟩) q
local macro_rules | `(tactic| walk_at "b0") => `(tactic| ((with_reducible refine' c_depths ?hl ?_); (case hl => walk_at "len")))
theorem c_is_right {K : PySem.W.Frag} {C : CA} {H0 : Hp} {s : Ld} {Q : V → Ld → Prop} {E : XK} {r : List Bool} (hl : r.length ≤ 40) (q : Q (.bl (isR r)) s) : WC H0 (sp_is_right K C) E [.str (T r)] s Q := wc_V (fun H o => ⟨r, rfl, hl, rfl⟩) q
local macro_rules | `(tactic| walk_at "b0") => `(tactic| ((with_reducible refine' c_is_right ?hl ?_); (case hl => walk_at "len")))
theorem ln_turned {K : PySem.W.Frag} {C : CA} {vs : List V} {H : Hp} {Q : VK} {E : XK} (h : sp_turned K C vs H Q E) : vs.length = 2 := by
  obtain ⟨v, ⟨b, p, q, rfl, _⟩, _⟩ := h
  rfl
theorem flat_ints (ns : List Int) : (ns.map V.int).all flatV = true := by
  rw [List.all_map, List.all_eq_true]
  intro x _
  rfl
theorem inV_ints (i : Int) (ns : List Int) : inV (.int i) (ns.map V.int) = decide (i ∈ ns) := by
  unfold inV
  rw [List.any_map]
  induction ns with
  | nil => simp
  | cons n ns ih =>
    rw [List.any_cons, ih]
    show (n == i || _) = _
    by_cases e : n = i
    · subst e
      simp
    · have e' : ¬ i = n := fun z => e z.symm
      simp [e, e']
def flpAt (ps : List Int) (i : Nat) (b : Bool) : Bool := if ((i : Int) ∈ ps) then !b else b
theorem flp_get {ps : List Int} {r : List Bool} {i : Nat} {b : Bool} (h : r[i]? = some b) : (flp ps r)[i]? = some (flpAt ps i b) := by
  unfold flp flpAt
  rw [List.getElem?_mapIdx, h]
  rfl
theorem flat_one (r : List Bool) : (r.map fun b => [b]).flatten = r := by
  induction r with
  | nil => rfl
  | cons b r ih => rw [List.map_cons, List.flatten_cons, ih]; rfl
theorem sum_one (r : List Bool) : ((r.map fun b => [b]).map (·.length)).sum = r.length := by
  induction r with
  | nil => rfl
  | cons b r ih =>
    rw [List.map_cons, List.map_cons, List.sum_cons, ih]
    simp
    omega
theorem ones_map (r : List Bool) : (r.map fun b => V.str (T [b])) = (r.map fun b => [b]).map fun u => V.str (T u) := by
  rw [List.map_map]
  rfl
theorem wm_join1 {K : PySem.W.Frag} {H0 : Hp} {s : Ld} {Q : V → Ld → Prop} {p : Addr} {r : List Bool} (hx : IsL K H0 s p (r.map fun b => .str (T [b]))) (hl : r.length ≤ 100000) (q : Q (.str (T r)) s) : WM H0 (aJoin K) (.str (T [])) [.ref p] s Q :=
  wm_join (rs := r.map fun b => [b]) (by rw [← ones_map]; exact hx) (by rw [sum_one]; exact hl) (by rw [flat_one]; exact q)
theorem pu_turned {K : PySem.W.Frag} {C : CA} {vs : List V} {H : Hp} {Q : VK} {E : XK} (h : sp_turned K C vs H Q E) : rd_turned K C { nx := fun _ H' => Q .non H', rt := Q } (start N_turned vs) H := by
  obtain ⟨v, ⟨r, a, ps, rfl, hl, hp, rfl⟩, k⟩ := h
  refine body_V ?_ k
  unfold rd_turned
  walk_at "bm"
  refine cp_enumT (fun i => ((flp ps r).take i).map fun b => .str (T [b])) (by omega) rfl (fun i _ => by simp; omega) ?_ ?_
  · intro D i b p hi hb
    have hf := flp_get (ps := ps) hb
    walk_at "bm"
    refine ⟨rfl, ?_⟩
    walk_at "bm"
    refine w2_inL (by walk_at "isl") rfl (flat_ints _) ?_
    rw [inV_ints]
    walk_at "bm"
    have hs : Sub ⟨[(D, HO.lst (((flp ps r).take i).map fun b => .str (T [b])))], []⟩ ⟨[(D, HO.lst (((flp ps r).take i).map fun b => .str (T [b])))], [(p, [.int (i : Int), .str (T [b])])]⟩ := by walk_at "sub"
    refine ⟨fun hc => ?_, fun hc => ?_⟩
    · walk_at "bm"
      refine ⟨hs, ?_⟩
      rw [take_snoc hf, List.map_append]
      unfold flpAt
      rw [if_pos (of_decide_eq_true hc)]
      rfl
    · walk_at "bm"
      refine ⟨hs, ?_⟩
      rw [take_snoc hf, List.map_append]
      unfold flpAt
      rw [if_neg (of_decide_eq_false hc)]
      rfl
  · intro D hD
    have e : (flp ps r).take r.length = flp ps r := by rw [List.take_of_length_le (by rw [flp_len]; exact Nat.le_refl _)]
    rw [e]
    walk_at "bm"
    refine wm_join1 (by walk_at "isl") (by rw [flp_len]; omega) ?_
    walk_at "bm"
theorem c_turned {K : PySem.W.Frag} {C : CA} {H0 : Hp} {s : Ld} {Q : V → Ld → Prop} {E : XK} {r : List Bool} {a : Addr} {ps : List Int} (hl : r.length ≤ 1000) (hx : IsL K H0 s a (ps.map V.int)) (q : Q (.str (T (flp ps r))) s) : WC H0 (sp_turned K C) E [.str (T r), .ref a] s Q := wc_V (fun H o => ⟨r, a, ps, rfl, hl, hx H o, rfl⟩) q
end BM
namespace BM
open PySem L2 Evl
local macro_rules | `(tactic| walk_at "mem") => `(tactic| first | exact List.mem_cons_self | (refine List.mem_cons_of_mem _ ?_; walk_at "mem"))
local macro_rules | `(tactic| walk_at "swap") => `(tactic| first | exact Swap.here | (refine Swap.there ?_; walk_at "swap"))
local macro_rules | `(tactic| walk_at "subl") => `(tactic| first | exact List.Sublist.refl _ | exact List.nil_sublist _ | (refine List.Sublist.cons_cons _ ?_; walk_at "subl") | (refine List.Sublist.cons _ ?_; walk_at "subl"))
local macro_rules | `(tactic| walk_at "sub") => `(tactic| first | exact Sub.refl _ | (refine ⟨?_, ?_⟩ <;> walk_at "subl"))
local macro_rules | `(tactic| walk_at "isl") => `(tactic| first | exact isL_own (by walk_at "mem") | exact isL_old (by assumption) | assumption)
local macro_rules | `(tactic| walk_at "ist") => `(tactic| first | exact isT_own (by walk_at "mem") | exact isT_old (by assumption) | assumption)
local macro_rules | `(tactic| walk_at "len") => `(tactic| first | omega | decide | (simp only [List.length_map, List.length_take, List.length_drop, List.length_append, List.length_cons, List.length_nil, List.length_reverse, dps_len, flp_len]; omega) | (simp [dps_len, flp_len]; omega) | simp)
local macro_rules | `(tactic| walk_at "b0") => `(tactic| first
  | with_reducible refine' ws_set ?_
  | with_reducible refine' ws_par ?_
  | with_reducible refine' ws_asg ?_
  | with_reducible refine' ws_drop ?_
  | with_reducible refine' ws_ret ?_
  | with_reducible refine' ws_if ?_
  | with_reducible refine' ws_next ?_
  | with_reducible refine' ws_brk ?_
  | with_reducible refine' ws_cont ?_
  | ((with_reducible refine' we_var ?hv ?_); case hv => rfl)
  | with_reducible refine' we_c ?_
  | with_reducible refine' we_op ?_
  | with_reducible refine' we_un ?_
  | with_reducible refine' we_if ?_
  | with_reducible refine' we_and ?_
  | with_reducible refine' we_or ?_
  | with_reducible refine' we_not ?_
  | with_reducible refine' wa_nil ?_
  | with_reducible refine' wa_cons ?_
  | (with_reducible refine' we_lst ?_)
  | (with_reducible refine' we_tup ?_)
  | with_reducible refine' we_cb ?_
  | with_reducible refine' we_call0 ?_
  | with_reducible refine' we_sl ?_
  | with_reducible refine' wo_none ?_
  | (with_reducible refine' wo_some ?_)
  | with_reducible refine' wt_test ?_
  | with_reducible refine' wt_B ?_
  | with_reducible refine' wt_and ?_
  | with_reducible refine' wt_or ?_
  | with_reducible refine' wt_not ?_
  | with_reducible refine' wt_yes ?_
  | with_reducible refine' we_chain ?_
  | with_reducible refine' we_chain3 ?_
  | with_reducible refine' we_revT ?_
  | with_reducible refine' we_revL ?_
  | with_reducible refine' we_bm ?_
  | with_reducible refine' we_bm0 ?_
  | with_reducible refine' ws_for ?_
  | with_reducible refine' we_lc ?_
  | with_reducible refine' wi_list ?_
  | with_reducible refine' wi_tup ?_
  | with_reducible refine' wi_T ?_
  | with_reducible refine' wi_rng1 ?_
  | with_reducible refine' wi_rng2 ?_
  | with_reducible refine' wi_rng3 ?_
  | with_reducible refine' wi_enum ?_
  | with_reducible refine' wi_enumT ?_
  | with_reducible refine' wi_zip ?_
  | with_reducible refine' wg_name ?_
  | with_reducible refine' wg_sub ?_
  | with_reducible refine' wgs_nil ?_
  | with_reducible refine' wgs_cons ?_
  | ((with_reducible refine' wg_tup ?ht ?hn ?_); (case ht => walk_at "ist"); (case hn => rfl))
  | with_reducible refine' w2_add ?_
  | with_reducible refine' w2_sub ?_
  | with_reducible refine' w2_lt ?_
  | with_reducible refine' w2_le ?_
  | with_reducible refine' w2_gt ?_
  | with_reducible refine' w2_ge ?_
  | with_reducible refine' w2_eqI ?_
  | with_reducible refine' w2_neI ?_
  | with_reducible refine' w2_eqT ?_
  | with_reducible refine' w2_neT ?_
  | with_reducible refine' w2_eqB ?_
  | with_reducible refine' w2_neB ?_
  | with_reducible refine' w2_isN ?_
  | with_reducible refine' w2_notN ?_
  | with_reducible refine' w2_isB ?_
  | with_reducible refine' w2_inT ?_
  | with_reducible refine' w1_neg ?_
  | with_reducible refine' wl_abs ?_
  | with_reducible refine' wl_max2 ?_
  | with_reducible refine' wl_min2 ?_
  | with_reducible refine' wl_intB ?_
  | ((with_reducible refine' w2_div ?h ?_); case h => first | omega | (constructor <;> omega))
  | ((with_reducible refine' w2_mod ?h ?_); case h => omega)
  | ((with_reducible refine' w2_catT ?h ?_); case h => walk_at "len")
  | ((with_reducible refine' wsl_T ?h ?_); case h => walk_at "len")
  | ((with_reducible refine' wl_lenT ?h ?_); case h => walk_at "len")
  | ((with_reducible refine' wl_len ?h ?_); case h => walk_at "isl")
  | ((with_reducible refine' wl_len ?h ?_); case h => walk_at "isl")
  | ((with_reducible refine' wm_append ?sw ?hl ?_); (case sw => walk_at "swap"); (case hl => walk_at "len")))
local macro_rules | `(tactic| walk_at "b1") => `(tactic| first | with_reducible refine' ws_seq ?_ | walk_at "b0")
local macro_rules | `(tactic| walk_at "bx") => `(tactic| first
  | refine ⟨_, rfl, ?_⟩
  | refine ⟨_, _, rfl, ?_⟩
  | refine ⟨ty_L (by walk_at "isl"), ?_⟩
  | refine ⟨ty_S, ?_⟩
  | refine spl_t (by rfl) ?_
  | refine spl_f (by rfl) ?_
  | exact rfl)
local macro_rules | `(tactic| walk_at "bm") => `(tactic| repeat (first | walk_at "b1" | walk_at "bx"))
local macro_rules | `(tactic| walk_at "bn") => `(tactic| repeat (first | walk_at "b0" | walk_at "bx"))
local macro_rules | `(tactic| walk_at "b0") => `(tactic| with_reducible refine' c_deepens ?_)
local macro_rules | `(tactic| walk_at "b0") => `(tactic| ((with_reducible refine' c_depths_of ?hl ?_); (case hl => walk_at "len")))
local macro_rules | `(tactic| walk_at "b0") => `(tactic| with_reducible refine' c_is_wholeI ?_)
local macro_rules | `(tactic| walk_at "b0") => `(tactic| with_reducible refine' c_flipped ?_)
local macro_rules | `(tactic| walk_at "b0") => `(tactic| ((with_reducible refine' c_is_right_row ?hl ?_); (case hl => walk_at "len")))
local macro_rules | `(tactic| walk_at "b0") => `(tactic| ((with_reducible refine' c_asked_row ?hl ?_); (case hl => walk_at "len")))
local macro_rules | `(tactic| walk_at "b0") => `(tactic| ((with_reducible refine' c_depths ?hl ?_); (case hl => walk_at "len")))
local macro_rules | `(tactic| walk_at "b0") => `(tactic| ((with_reducible refine' c_is_right ?hl ?_); (case hl => walk_at "len")))
theorem getI {ps : List Int} {i : Nat} {y : V} (hy : (ps.map V.int)[i]? = some y) : ∃ z, ps[i]? = some z ∧ y = V.int z := by
  rw [List.getElem?_map] at hy
  cases e : ps[i]? with
  | none => rw [e] at hy; cases hy
  | some z => rw [e] at hy; exact ⟨z, rfl, (Option.some.inj hy).symm⟩
end BM
/-! how a law's row is made even -/
namespace BM
theorem hgt_count (r : List Bool) : hgt r = (r.count true : Int) - (r.count false : Int) := by
  induction r with
  | nil => simp [hgt]
  | cons b r ih =>
    simp only [hgt, ih, List.count_cons]
    cases b <;> simp [sg] <;> omega
theorem hgt_set {r : List Bool} {j : Nat} {a : Bool} (h : r[j]? = some a) (b : Bool) : hgt (r.set j b) = hgt r - sg a + sg b := by
  induction r generalizing j with
  | nil => simp at h
  | cons c r ih =>
    cases j with
    | zero =>
      have e : c = a := by simpa using h
      subst e
      simp only [List.set_cons_zero, hgt]
      omega
    | succ j =>
      have h' : r[j]? = some a := by simpa using h
      simp only [List.set_cons_succ, hgt, ih h']
      omega
theorem hgt_all {r : List Bool} {b : Bool} (h : ∀ x ∈ r, x = b) : hgt r = sg b * r.length := by
  induction r with
  | nil => simp [hgt]
  | cons c r ih =>
    have h1 := h c List.mem_cons_self
    have h2 := ih fun x hx => h x (List.mem_cons_of_mem _ hx)
    simp only [hgt, h2, h1, List.length_cons]
    cases b <;> simp [sg] <;> omega
theorem hgt_par (r : List Bool) : (hgt r + r.length) % 2 = 0 := by
  induction r with
  | nil => simp [hgt]
  | cons c r ih =>
    simp only [hgt, List.length_cons]
    cases c <;> simp [sg] <;> omega
/-- what holds behind i turns of the evening loop -/
structure EvenUp (w : Int) (n i : Nat) (r : List Bool) (m : Int) : Prop where
  len : r.length = n
  hg : hgt r = m
  par : n % 2 = 0
  vis : m = 0 ∨ (0 < m ∧ ∀ j, j < i → r[(((j : Int) + w) % (n : Int)).toNat]? = some false) ∨ (m < 0 ∧ ∀ j, j < i → r[(((j : Int) + w) % (n : Int)).toNat]? = some true)
theorem EvenUp.start {w : Int} {r : List Bool} (hp : r.length % 2 = 0) : EvenUp w r.length 0 r (hgt r) :=
  ⟨rfl, rfl, hp, by
    rcases Int.lt_trichotomy (hgt r) 0 with h | h | h
    · exact .inr (.inr ⟨h, fun j hj => absurd hj (Nat.not_lt_zero _)⟩)
    · exact .inl h
    · exact .inr (.inl ⟨h, fun j hj => absurd hj (Nat.not_lt_zero _)⟩)⟩
theorem set_get {r : List Bool} {j k : Nat} {b : Bool} (hj : j < r.length) (h : r[k]? = some b) : (r.set j b)[k]? = some b := by
  by_cases e : j = k
  · subst e
    rw [List.getElem?_set_self hj]
  · rw [List.getElem?_set_ne e]
    exact h
theorem EvenUp.turn {w m : Int} {n i : Nat} {r : List Bool} {a : Bool} (E : EvenUp w n i r m) (hm : m ≠ 0) (h : r[(((i : Int) + w) % (n : Int)).toNat]? = some a) (ha : a = decide (0 < m)) :
    EvenUp w n (i + 1) (r.set (((i : Int) + w) % (n : Int)).toNat (!a)) (if 0 < m then m - 2 else m + 2) := by
  have hj : (((i : Int) + w) % (n : Int)).toNat < r.length := (List.getElem?_eq_some_iff.mp h).1
  have hg := hgt_set h (!a)
  have hpar := hgt_par r
  have e1 := E.hg
  have e2 := E.len
  have e3 := E.par
  refine ⟨by rw [List.length_set]; exact E.len, ?_, E.par, ?_⟩
  · rw [hg, E.hg, ha]
    by_cases h0 : 0 < m
    · simp [h0, sg]; omega
    · simp [h0, sg]; omega
  · rcases E.vis with v | ⟨v, hv⟩ | ⟨v, hv⟩
    · exact absurd v hm
    · have ea : a = true := by rw [ha]; exact decide_eq_true v
      subst ea
      rw [if_pos v]
      by_cases h2 : m - 2 = 0
      · exact .inl h2
      · refine .inr (.inl ⟨by omega, fun j hj' => ?_⟩)
        rcases Nat.lt_succ_iff_lt_or_eq.mp hj' with h3 | h3
        · exact set_get hj (hv j h3)
        · subst h3
          exact List.getElem?_set_self hj
    · have ea : a = false := by rw [ha]; exact decide_eq_false (by omega)
      subst ea
      rw [if_neg (by omega)]
      by_cases h2 : m + 2 = 0
      · exact .inl h2
      · refine .inr (.inr ⟨by omega, fun j hj' => ?_⟩)
        rcases Nat.lt_succ_iff_lt_or_eq.mp hj' with h3 | h3
        · exact set_get hj (hv j h3)
        · subst h3
          exact List.getElem?_set_self hj
theorem EvenUp.stay {w m : Int} {n i : Nat} {r : List Bool} {a : Bool} (E : EvenUp w n i r m) (h : r[(((i : Int) + w) % (n : Int)).toNat]? = some a) (ha : m ≠ 0 → a ≠ decide (0 < m)) : EvenUp w n (i + 1) r m := by
  refine ⟨E.len, E.hg, E.par, ?_⟩
  rcases E.vis with v | ⟨v, hv⟩ | ⟨v, hv⟩
  · exact .inl v
  · refine .inr (.inl ⟨v, fun j hj => ?_⟩)
    rcases Nat.lt_succ_iff_lt_or_eq.mp hj with h3 | h3
    · exact hv j h3
    · subst h3
      rw [h]
      have := ha (by omega)
      rw [decide_eq_true v] at this
      cases a
      · rfl
      · exact absurd rfl this
  · refine .inr (.inr ⟨v, fun j hj => ?_⟩)
    rcases Nat.lt_succ_iff_lt_or_eq.mp hj with h3 | h3
    · exact hv j h3
    · subst h3
      rw [h]
      have := ha (by omega)
      rw [decide_eq_false (by omega)] at this
      cases a
      · exact absurd rfl this
      · rfl
theorem EvenUp.done {w m : Int} {n : Nat} {r : List Bool} (E : EvenUp w n n r m) : hgt r = 0 := by
  have hall : ∀ b, (∀ j, j < n → r[(((j : Int) + w) % (n : Int)).toNat]? = some b) → ∀ x ∈ r, x = b := by
    intro b hb x hx
    obtain ⟨k, hk, e⟩ := List.getElem_of_mem hx
    have hn : 0 < n := by rw [← E.len]; omega
    have hlen := E.len
    have h1 := Int.emod_nonneg ((k : Int) - w) (b := (n : Int)) (by omega)
    have h2 := Int.emod_lt_of_pos ((k : Int) - w) (b := (n : Int)) (by omega)
    have h3 := hb (((k : Int) - w) % (n : Int)).toNat (by omega)
    have h4 : ((((((k : Int) - w) % (n : Int)).toNat : Nat) : Int) + w) % (n : Int) = (k : Int) := by
      rw [Int.toNat_of_nonneg h1, Int.emod_add_emod]
      have : (k : Int) - w + w = k := by omega
      rw [this]
      exact Int.emod_eq_of_lt (by omega) (by omega)
    rw [h4, Int.toNat_natCast, List.getElem?_eq_getElem hk, e] at h3
    exact Option.some.inj h3
  have e1 := E.hg
  rcases E.vis with v | ⟨v, hv⟩ | ⟨v, hv⟩
  · omega
  · have := hgt_all (hall false hv)
    simp [sg] at this
    omega
  · have := hgt_all (hall true hv)
    simp [sg] at this
    omega
end BM
namespace BM
open PySem L2 Evl
local macro_rules | `(tactic| walk_at "mem") => `(tactic| first | exact List.mem_cons_self | (refine List.mem_cons_of_mem _ ?_; walk_at "mem"))
local macro_rules | `(tactic| walk_at "swap") => `(tactic| first | exact Swap.here | (refine Swap.there ?_; walk_at "swap"))
local macro_rules | `(tactic| walk_at "subl") => `(tactic| first | exact List.Sublist.refl _ | exact List.nil_sublist _ | (refine List.Sublist.cons_cons _ ?_; walk_at "subl") | (refine List.Sublist.cons _ ?_; walk_at "subl"))
local macro_rules | `(tactic| walk_at "sub") => `(tactic| first | exact Sub.refl _ | (refine ⟨?_, ?_⟩ <;> walk_at "subl"))
local macro_rules | `(tactic| walk_at "isl") => `(tactic| first | exact isL_own (by walk_at "mem") | exact isL_old (by assumption) | assumption)
local macro_rules | `(tactic| walk_at "ist") => `(tactic| first | exact isT_own (by walk_at "mem") | exact isT_old (by assumption) | assumption)
local macro_rules | `(tactic| walk_at "len") => `(tactic| first | omega | decide | (simp only [List.length_map, List.length_take, List.length_drop, List.length_append, List.length_cons, List.length_nil, List.length_reverse, dps_len, flp_len]; omega) | (simp [dps_len, flp_len]; omega) | simp)
local macro_rules | `(tactic| walk_at "b0") => `(tactic| first
  | with_reducible refine' ws_set ?_
  | with_reducible refine' ws_par ?_
  | with_reducible refine' ws_asg ?_
  | with_reducible refine' ws_drop ?_
  | with_reducible refine' ws_ret ?_
  | with_reducible refine' ws_if ?_
  | with_reducible refine' ws_next ?_
  | with_reducible refine' ws_brk ?_
  | with_reducible refine' ws_cont ?_
  | ((with_reducible refine' we_var ?hv ?_); case hv => rfl)
  | with_reducible refine' we_c ?_
  | with_reducible refine' we_op ?_
  | with_reducible refine' we_un ?_
  | with_reducible refine' we_if ?_
  | with_reducible refine' we_and ?_
  | with_reducible refine' we_or ?_
  | with_reducible refine' we_not ?_
  | with_reducible refine' wa_nil ?_
  | with_reducible refine' wa_cons ?_
  | (with_reducible refine' we_lst ?_)
  | (with_reducible refine' we_tup ?_)
  | with_reducible refine' we_cb ?_
  | with_reducible refine' we_call0 ?_
  | with_reducible refine' we_sl ?_
  | with_reducible refine' wo_none ?_
  | (with_reducible refine' wo_some ?_)
  | with_reducible refine' wt_test ?_
  | with_reducible refine' wt_B ?_
  | with_reducible refine' wt_and ?_
  | with_reducible refine' wt_or ?_
  | with_reducible refine' wt_not ?_
  | with_reducible refine' wt_yes ?_
  | with_reducible refine' we_chain ?_
  | with_reducible refine' we_chain3 ?_
  | with_reducible refine' we_revT ?_
  | with_reducible refine' we_revL ?_
  | with_reducible refine' we_bm ?_
  | with_reducible refine' we_bm0 ?_
  | with_reducible refine' ws_for ?_
  | with_reducible refine' we_lc ?_
  | with_reducible refine' wi_list ?_
  | with_reducible refine' wi_tup ?_
  | with_reducible refine' wi_T ?_
  | with_reducible refine' wi_rng1 ?_
  | with_reducible refine' wi_rng2 ?_
  | with_reducible refine' wi_rng3 ?_
  | with_reducible refine' wi_enum ?_
  | with_reducible refine' wi_enumT ?_
  | with_reducible refine' wi_zip ?_
  | with_reducible refine' wg_name ?_
  | with_reducible refine' wg_sub ?_
  | with_reducible refine' wgs_nil ?_
  | with_reducible refine' wgs_cons ?_
  | ((with_reducible refine' wg_tup ?ht ?hn ?_); (case ht => walk_at "ist"); (case hn => rfl))
  | with_reducible refine' w2_add ?_
  | with_reducible refine' w2_sub ?_
  | with_reducible refine' w2_lt ?_
  | with_reducible refine' w2_le ?_
  | with_reducible refine' w2_gt ?_
  | with_reducible refine' w2_ge ?_
  | with_reducible refine' w2_eqI ?_
  | with_reducible refine' w2_neI ?_
  | with_reducible refine' w2_eqT ?_
  | with_reducible refine' w2_neT ?_
  | with_reducible refine' w2_eqB ?_
  | with_reducible refine' w2_neB ?_
  | with_reducible refine' w2_isN ?_
  | with_reducible refine' w2_notN ?_
  | with_reducible refine' w2_isB ?_
  | with_reducible refine' w2_inT ?_
  | with_reducible refine' w1_neg ?_
  | with_reducible refine' wl_abs ?_
  | with_reducible refine' wl_max2 ?_
  | with_reducible refine' wl_min2 ?_
  | with_reducible refine' wl_intB ?_
  | ((with_reducible refine' w2_div ?h ?_); case h => first | omega | (constructor <;> omega))
  | ((with_reducible refine' w2_mod ?h ?_); case h => omega)
  | ((with_reducible refine' w2_catT ?h ?_); case h => walk_at "len")
  | ((with_reducible refine' wsl_T ?h ?_); case h => walk_at "len")
  | ((with_reducible refine' wl_lenT ?h ?_); case h => walk_at "len")
  | ((with_reducible refine' wl_len ?h ?_); case h => walk_at "isl")
  | ((with_reducible refine' wl_len ?h ?_); case h => walk_at "isl")
  | ((with_reducible refine' wm_append ?sw ?hl ?_); (case sw => walk_at "swap"); (case hl => walk_at "len")))
local macro_rules | `(tactic| walk_at "b1") => `(tactic| first | with_reducible refine' ws_seq ?_ | walk_at "b0")
local macro_rules | `(tactic| walk_at "bx") => `(tactic| first
  | refine ⟨_, rfl, ?_⟩
  | refine ⟨_, _, rfl, ?_⟩
  | refine ⟨ty_L (by walk_at "isl"), ?_⟩
  | refine ⟨ty_S, ?_⟩
  | refine spl_t (by rfl) ?_
  | refine spl_f (by rfl) ?_
  | exact rfl)
local macro_rules | `(tactic| walk_at "bm") => `(tactic| repeat (first | walk_at "b1" | walk_at "bx"))
local macro_rules | `(tactic| walk_at "bn") => `(tactic| repeat (first | walk_at "b0" | walk_at "bx"))
local macro_rules | `(tactic| walk_at "b0") => `(tactic| with_reducible refine' c_deepens ?_)
local macro_rules | `(tactic| walk_at "b0") => `(tactic| ((with_reducible refine' c_depths_of ?hl ?_); (case hl => walk_at "len")))
local macro_rules | `(tactic| walk_at "b0") => `(tactic| with_reducible refine' c_is_wholeI ?_)
local macro_rules | `(tactic| walk_at "b0") => `(tactic| with_reducible refine' c_flipped ?_)
local macro_rules | `(tactic| walk_at "b0") => `(tactic| ((with_reducible refine' c_is_right_row ?hl ?_); (case hl => walk_at "len")))
local macro_rules | `(tactic| walk_at "b0") => `(tactic| ((with_reducible refine' c_asked_row ?hl ?_); (case hl => walk_at "len")))
local macro_rules | `(tactic| walk_at "b0") => `(tactic| ((with_reducible refine' c_depths ?hl ?_); (case hl => walk_at "len")))
local macro_rules | `(tactic| walk_at "b0") => `(tactic| ((with_reducible refine' c_is_right ?hl ?_); (case hl => walk_at "len")))
theorem cmul_l {i j : Int} (h1 : -18446744073709551616 < i) (h2 : i < 18446744073709551616) : CMul i j := Or.inl ⟨by omega, by omega⟩
theorem cmul_r {i j : Int} (h1 : -18446744073709551616 < j) (h2 : j < 18446744073709551616) : CMul i j := Or.inr ⟨by omega, by omega⟩
theorem ln__law_number {K : PySem.W.Frag} {C : CA} {vs : List V} {H : Hp} {Q : VK} {E : XK} (h : sp__law_number K C vs H Q E) : vs.length = 3 := by
  obtain ⟨⟨c, a, w, rfl, _⟩, _⟩ := h
  rfl
theorem pu__law_number {K : PySem.W.Frag} {C : CA} {vs : List V} {H : Hp} {Q : VK} {E : XK} (h : sp__law_number K C vs H Q E) : rd__law_number K C { nx := fun _ H' => Q .non H', rt := Q } (start N__law_number vs) H := by
  obtain ⟨⟨c, a, w, rfl, h0, h1⟩, k⟩ := h
  refine body_P (P := fun v => ∃ n : Int, v = .int n) ?_ k
  have ep : (10 : Int) ^ (18 : Int).toNat = 1000000000000000000 := by decide
  have cp : CPow 10 18 := ⟨by decide, by decide, by decide⟩
  unfold rd__law_number
  walk_at "bm"
  refine w2_pow cp ?_
  rw [ep]
  walk_at "bm"
  refine ⟨fun _ => ?_, fun _ => ?_⟩
  · walk_at "bm"
    exact ⟨_, rfl⟩
  · walk_at "bm"
    refine w2_pow cp ?_
    rw [ep]
    walk_at "bm"
    generalize hs : c % 1000000000000000000 = sm
    walk_at "bm"
    refine w2_mul (cmul_l (by decide) (by decide)) ?_
    walk_at "bm"
    refine w2_mul (cmul_r (by decide) (by decide)) ?_
    walk_at "bm"
    generalize hb : ((sm + 977 * a) * 48271 + w) % 2147483647 = b
    walk_at "bm"
    refine w2_mul (cmul_l (by decide) (by decide)) ?_
    walk_at "bm"
    refine w2_mul (cmul_l (by omega) (by omega)) ?_
    walk_at "bm"
    refine w2_mul (cmul_r (by omega) (by omega)) ?_
    walk_at "bm"
    refine w2_mul (cmul_l (by omega) (by omega)) ?_
    walk_at "bm"
    have hbb : b * b < 4611686014132420610 := by
      have h2 : b * b ≤ 2147483646 * 2147483646 := Int.mul_le_mul (by omega) (by omega) (by omega) (by decide)
      omega
    have hb0 : 0 ≤ b * b := Int.mul_nonneg (by omega) (by omega)
    refine w2_mul (cmul_r (by omega) (by omega)) ?_
    walk_at "bm"
    exact ⟨_, rfl⟩
theorem c__law_number {K : PySem.W.Frag} {C : CA} {H0 : Hp} {s : Ld} {Q : V → Ld → Prop} {E : XK} {c a w : Int} (h0 : 0 ≤ a ∧ a ≤ 1000000) (q : ∀ n : Int, Q (.int n) s) : WC H0 (sp__law_number K C) E [.int c, .int a, .int w] s Q :=
  wc_P (fun H o => ⟨c, a, w, rfl, h0.1, h0.2⟩) (fun v ⟨n, e⟩ => by rw [e]; exact q n)
theorem ln__law_depths {K : PySem.W.Frag} {C : CA} {vs : List V} {H : Hp} {Q : VK} {E : XK} (h : sp__law_depths K C vs H Q E) : vs.length = 1 := by
  obtain ⟨v, ⟨b, rfl, _⟩, _⟩ := h
  rfl
theorem pu__law_depths {K : PySem.W.Frag} {C : CA} {vs : List V} {H : Hp} {Q : VK} {E : XK} (h : sp__law_depths K C vs H Q E) : rd__law_depths K C { nx := fun _ H' => Q .non H', rt := Q } (start N__law_depths vs) H := by
  obtain ⟨v, ⟨r, rfl, hl, rfl⟩, k⟩ := h
  refine body_L ?_ k
  unfold rd__law_depths
  walk_at "bm"
  refine ⟨by decide, fun p hp => ?_⟩
  walk_at "bm"
  refine lp_T (fun i σ s => ∃ b, σ = [some (.str (T r)), some (.ref p), b] ∧ s = ⟨[(p, .lst ((dps (r.take i)).map V.int))], []⟩) rfl ⟨none, rfl, rfl⟩ ?_ ?_
  · rintro i b σ s hi hb ⟨b0, rfl, rfl⟩
    have e : (p, HO.lst ((dps (r.take i)).map V.int ++ [.int (hgt (r.take i) + sg b)])) = (p, HO.lst ((dps (r.take (i + 1))).map V.int)) := by
      rw [take_snoc hb, dps_snoc, List.map_append]
      rfl
    walk_at "bm"
    refine w2_ixL (by walk_at "isl") (dps_m1 _) ?_
    walk_at "bm"
    cases b
    · refine ⟨fun hc => absurd hc (by decide), fun hc => ?_⟩
      walk_at "bm"
      refine ⟨_, Sub.refl _, _, rfl, ?_⟩
      rw [← e]
      rfl
    · refine ⟨fun hc => ?_, fun hc => absurd hc (by decide)⟩
      walk_at "bm"
      refine ⟨_, Sub.refl _, _, rfl, ?_⟩
      rw [← e]
      rfl
  · rintro σ s ⟨b0, rfl, rfl⟩
    walk_at "bm"
    rw [List.take_length]
    exact List.mem_cons_self
theorem c__law_depths {K : PySem.W.Frag} {C : CA} {H0 : Hp} {s : Ld} {Q : V → Ld → Prop} {E : XK} {r : List Bool} (hl : r.length ≤ 1000) (q : ∀ p, H0 p = none → Q (.ref p) ⟨(p, .lst ((dps r).map V.int)) :: s.L, s.T⟩) : WC H0 (sp__law_depths K C) E [.str (T r)] s Q := wc_L (fun H o => ⟨r, rfl, hl, rfl⟩) q
local macro_rules | `(tactic| walk_at "b0") => `(tactic| ((with_reducible refine' c__law_depths ?hl ?_); (case hl => walk_at "len")))
theorem ln__law_good {K : PySem.W.Frag} {C : CA} {vs : List V} {H : Hp} {Q : VK} {E : XK} (h : sp__law_good K C vs H Q E) : vs.length = 1 := by
  obtain ⟨v, ⟨b, rfl, _⟩, _⟩ := h
  rfl
theorem isR_bad {r : List Bool} {i : Nat} (hi : i ≤ r.length) (h : hgt (r.take i) < 0) : isR r = false := by
  cases e : isR r with
  | false => rfl
  | true =>
    have := (isR_iff.mp e).2 i hi
    omega
theorem pu__law_good {K : PySem.W.Frag} {C : CA} {vs : List V} {H : Hp} {Q : VK} {E : XK} (h : sp__law_good K C vs H Q E) : rd__law_good K C { nx := fun _ H' => Q .non H', rt := Q } (start N__law_good vs) H := by
  obtain ⟨v, ⟨r, rfl, hl, rfl⟩, k⟩ := h
  refine body_V ?_ k
  unfold rd__law_good
  walk_at "bm"
  refine lp_T (fun i σ s => ∃ b, σ = [some (.str (T r)), some (.int (hgt (r.take i))), b] ∧ s = ⟨[], []⟩ ∧ ∀ j, j ≤ i → 0 ≤ hgt (r.take j)) rfl ⟨none, rfl, rfl, fun j hj => by rw [show j = 0 by omega]; exact Int.le_refl 0⟩ ?_ ?_
  · rintro i b σ s hi hb ⟨b0, rfl, rfl, hn⟩
    have e : hgt (r.take (i + 1)) = hgt (r.take i) + sg b := by rw [take_snoc hb, hgt_app]; simp [hgt]
    have fin : ∀ z : Int, z = hgt (r.take (i + 1)) → (decide (z < 0) = true → WS H (tRet (tC (V.bl false))) [some (.str (T r)), some (.int z), some (.str (T [b]))] ⟨[], []⟩ (turnD { nx := fun σ' s' => WS H (tRet (tOp rEq (tVar 1) (tC (V.int 0)))) σ' s' (retV (.bl (isR r))), rt := (retV (.bl (isR r))).rt, bk := (retV (.bl (isR r))).bk, ct := (retV (.bl (isR r))).ct } fun σ s => ∃ b, σ = [some (.str (T r)), some (.int (hgt (r.take (i + 1)))), b] ∧ s = ⟨[], []⟩ ∧ ∀ j, j ≤ i + 1 → 0 ≤ hgt (r.take j))) ∧
        (decide (z < 0) = false → WS H tNext [some (.str (T r)), some (.int z), some (.str (T [b]))] ⟨[], []⟩ (turnD { nx := fun σ' s' => WS H (tRet (tOp rEq (tVar 1) (tC (V.int 0)))) σ' s' (retV (.bl (isR r))), rt := (retV (.bl (isR r))).rt, bk := (retV (.bl (isR r))).bk, ct := (retV (.bl (isR r))).ct } fun σ s => ∃ b, σ = [some (.str (T r)), some (.int (hgt (r.take (i + 1)))), b] ∧ s = ⟨[], []⟩ ∧ ∀ j, j ≤ i + 1 → 0 ≤ hgt (r.take j))) := by
      rintro z rfl
      refine ⟨fun hc => ?_, fun hc => ?_⟩
      · walk_at "bm"
        show V.bl false = V.bl (isR r)
        rw [isR_bad (i := i + 1) (by omega) (of_decide_eq_true hc)]
      · walk_at "bm"
        refine ⟨_, Sub.refl _, _, rfl, rfl, fun j hj => ?_⟩
        rcases Nat.lt_succ_iff_lt_or_eq.mp (Nat.lt_succ_of_le hj) with h1 | h1
        · exact hn j (by omega)
        · rw [h1]
          have := of_decide_eq_false hc
          omega
    walk_at "bm"
    cases b
    · refine ⟨fun hc => absurd hc (by decide), fun hc => ?_⟩
      walk_at "bm"
      exact fin _ (by rw [e]; simp [sg]; omega)
    · refine ⟨fun hc => ?_, fun hc => absurd hc (by decide)⟩
      walk_at "bm"
      exact fin _ (by rw [e]; simp [sg])
  · rintro σ s ⟨b0, rfl, rfl, hn⟩
    walk_at "bm"
    rw [List.take_length]
    show V.bl _ = V.bl _
    congr 1
    unfold isR
    have : ((dps r).all fun z => decide (0 ≤ z)) = true := by
      rw [List.all_eq_true]
      intro z hz
      obtain ⟨j, hj, rfl⟩ := mem_dps.mp hz
      exact decide_eq_true (hn j hj)
    rw [this, Bool.and_true]
theorem c__law_good {K : PySem.W.Frag} {C : CA} {H0 : Hp} {s : Ld} {Q : V → Ld → Prop} {E : XK} {r : List Bool} (hl : r.length ≤ 1000) (q : Q (.bl (isR r)) s) : WC H0 (sp__law_good K C) E [.str (T r)] s Q := wc_V (fun H o => ⟨r, rfl, hl, rfl⟩) q
local macro_rules | `(tactic| walk_at "b0") => `(tactic| ((with_reducible refine' c__law_good ?hl ?_); (case hl => walk_at "len")))
end BM
namespace BM
open PySem L2 Evl
local macro_rules | `(tactic| walk_at "mem") => `(tactic| first | exact List.mem_cons_self | (refine List.mem_cons_of_mem _ ?_; walk_at "mem"))
local macro_rules | `(tactic| walk_at "swap") => `(tactic| first | exact Swap.here | (refine Swap.there ?_; walk_at "swap"))
local macro_rules | `(tactic| walk_at "subl") => `(tactic| first | exact List.Sublist.refl _ | exact List.nil_sublist _ | (refine List.Sublist.cons_cons _ ?_; walk_at "subl") | (refine List.Sublist.cons _ ?_; walk_at "subl"))
local macro_rules | `(tactic| walk_at "sub") => `(tactic| first | exact Sub.refl _ | (refine ⟨?_, ?_⟩ <;> walk_at "subl"))
local macro_rules | `(tactic| walk_at "isl") => `(tactic| first | exact isL_own (by walk_at "mem") | exact isL_old (by assumption) | assumption)
local macro_rules | `(tactic| walk_at "ist") => `(tactic| first | exact isT_own (by walk_at "mem") | exact isT_old (by assumption) | assumption)
local macro_rules | `(tactic| walk_at "len") => `(tactic| first | omega | decide | (simp only [List.length_map, List.length_take, List.length_drop, List.length_append, List.length_cons, List.length_nil, List.length_reverse, dps_len, flp_len]; omega) | (simp [dps_len, flp_len]; omega) | simp)
local macro_rules | `(tactic| walk_at "b0") => `(tactic| first
  | with_reducible refine' ws_set ?_
  | with_reducible refine' ws_par ?_
  | with_reducible refine' ws_asg ?_
  | with_reducible refine' ws_drop ?_
  | with_reducible refine' ws_ret ?_
  | with_reducible refine' ws_if ?_
  | with_reducible refine' ws_next ?_
  | with_reducible refine' ws_brk ?_
  | with_reducible refine' ws_cont ?_
  | ((with_reducible refine' we_var ?hv ?_); case hv => rfl)
  | with_reducible refine' we_c ?_
  | with_reducible refine' we_op ?_
  | with_reducible refine' we_un ?_
  | with_reducible refine' we_if ?_
  | with_reducible refine' we_and ?_
  | with_reducible refine' we_or ?_
  | with_reducible refine' we_not ?_
  | with_reducible refine' wa_nil ?_
  | with_reducible refine' wa_cons ?_
  | (with_reducible refine' we_lst ?_)
  | (with_reducible refine' we_tup ?_)
  | with_reducible refine' we_cb ?_
  | with_reducible refine' we_call0 ?_
  | with_reducible refine' we_sl ?_
  | with_reducible refine' wo_none ?_
  | (with_reducible refine' wo_some ?_)
  | with_reducible refine' wt_test ?_
  | with_reducible refine' wt_B ?_
  | with_reducible refine' wt_and ?_
  | with_reducible refine' wt_or ?_
  | with_reducible refine' wt_not ?_
  | with_reducible refine' wt_yes ?_
  | with_reducible refine' we_chain ?_
  | with_reducible refine' we_chain3 ?_
  | with_reducible refine' we_revT ?_
  | with_reducible refine' we_revL ?_
  | with_reducible refine' we_bm ?_
  | with_reducible refine' we_bm0 ?_
  | with_reducible refine' ws_for ?_
  | with_reducible refine' we_lc ?_
  | with_reducible refine' wi_list ?_
  | with_reducible refine' wi_tup ?_
  | with_reducible refine' wi_T ?_
  | with_reducible refine' wi_rng1 ?_
  | with_reducible refine' wi_rng2 ?_
  | with_reducible refine' wi_rng3 ?_
  | with_reducible refine' wi_enum ?_
  | with_reducible refine' wi_enumT ?_
  | with_reducible refine' wi_zip ?_
  | with_reducible refine' wg_name ?_
  | with_reducible refine' wg_sub ?_
  | with_reducible refine' wgs_nil ?_
  | with_reducible refine' wgs_cons ?_
  | ((with_reducible refine' wg_tup ?ht ?hn ?_); (case ht => walk_at "ist"); (case hn => rfl))
  | with_reducible refine' w2_add ?_
  | with_reducible refine' w2_sub ?_
  | with_reducible refine' w2_lt ?_
  | with_reducible refine' w2_le ?_
  | with_reducible refine' w2_gt ?_
  | with_reducible refine' w2_ge ?_
  | with_reducible refine' w2_eqI ?_
  | with_reducible refine' w2_neI ?_
  | with_reducible refine' w2_eqT ?_
  | with_reducible refine' w2_neT ?_
  | with_reducible refine' w2_eqB ?_
  | with_reducible refine' w2_neB ?_
  | with_reducible refine' w2_isN ?_
  | with_reducible refine' w2_notN ?_
  | with_reducible refine' w2_isB ?_
  | with_reducible refine' w2_inT ?_
  | with_reducible refine' w1_neg ?_
  | with_reducible refine' wl_abs ?_
  | with_reducible refine' wl_max2 ?_
  | with_reducible refine' wl_min2 ?_
  | with_reducible refine' wl_intB ?_
  | ((with_reducible refine' w2_div ?h ?_); case h => first | omega | (constructor <;> omega))
  | ((with_reducible refine' w2_mod ?h ?_); case h => omega)
  | ((with_reducible refine' w2_catT ?h ?_); case h => walk_at "len")
  | ((with_reducible refine' wsl_T ?h ?_); case h => walk_at "len")
  | ((with_reducible refine' wl_lenT ?h ?_); case h => walk_at "len")
  | ((with_reducible refine' wl_len ?h ?_); case h => walk_at "isl")
  | ((with_reducible refine' wl_len ?h ?_); case h => walk_at "isl")
  | ((with_reducible refine' wm_append ?sw ?hl ?_); (case sw => walk_at "swap"); (case hl => walk_at "len")))
local macro_rules | `(tactic| walk_at "b1") => `(tactic| first | with_reducible refine' ws_seq ?_ | walk_at "b0")
local macro_rules | `(tactic| walk_at "bx") => `(tactic| first
  | refine ⟨_, rfl, ?_⟩
  | refine ⟨_, _, rfl, ?_⟩
  | refine ⟨ty_L (by walk_at "isl"), ?_⟩
  | refine ⟨ty_S, ?_⟩
  | refine spl_t (by rfl) ?_
  | refine spl_f (by rfl) ?_
  | exact rfl)
local macro_rules | `(tactic| walk_at "bm") => `(tactic| repeat (first | walk_at "b1" | walk_at "bx"))
local macro_rules | `(tactic| walk_at "bn") => `(tactic| repeat (first | walk_at "b0" | walk_at "bx"))
local macro_rules | `(tactic| walk_at "b0") => `(tactic| with_reducible refine' c_deepens ?_)
local macro_rules | `(tactic| walk_at "b0") => `(tactic| ((with_reducible refine' c_depths_of ?hl ?_); (case hl => walk_at "len")))
local macro_rules | `(tactic| walk_at "b0") => `(tactic| with_reducible refine' c_is_wholeI ?_)
local macro_rules | `(tactic| walk_at "b0") => `(tactic| with_reducible refine' c_flipped ?_)
local macro_rules | `(tactic| walk_at "b0") => `(tactic| ((with_reducible refine' c_is_right_row ?hl ?_); (case hl => walk_at "len")))
local macro_rules | `(tactic| walk_at "b0") => `(tactic| ((with_reducible refine' c_asked_row ?hl ?_); (case hl => walk_at "len")))
local macro_rules | `(tactic| walk_at "b0") => `(tactic| ((with_reducible refine' c_depths ?hl ?_); (case hl => walk_at "len")))
local macro_rules | `(tactic| walk_at "b0") => `(tactic| ((with_reducible refine' c_is_right ?hl ?_); (case hl => walk_at "len")))
local macro_rules | `(tactic| walk_at "b0") => `(tactic| ((with_reducible refine' c__law_depths ?hl ?_); (case hl => walk_at "len")))
local macro_rules | `(tactic| walk_at "b0") => `(tactic| ((with_reducible refine' c__law_good ?hl ?_); (case hl => walk_at "len")))
theorem ln__law_over {K : PySem.W.Frag} {C : CA} {vs : List V} {H : Hp} {Q : VK} {E : XK} (h : sp__law_over K C vs H Q E) : vs.length = 2 := by
  obtain ⟨v, ⟨b, p, q, rfl, _⟩, _⟩ := h
  rfl
theorem mapset {α β : Type} (f : α → β) (l : List α) (j : Nat) (a : α) : (l.map f).set j (f a) = (l.set j a).map f := by rw [List.map_set]
theorem flp_set {ps : List Int} {r : List Bool} {p : Int} {b : Bool} (h0 : 0 ≤ p) (hb : r[p.toNat]? = some b) : (flp ps r).set p.toNat (!b) = flp (ps ++ [p]) r := by
  apply List.ext_getElem?
  intro i
  by_cases e : p.toNat = i
  · subst e
    rw [List.getElem?_set_self (by rw [flp_len]; exact (List.getElem?_eq_some_iff.mp hb).1), flp_get hb]
    unfold flpAt
    have : ((p.toNat : Nat) : Int) = p := by omega
    rw [this, if_pos (by simp)]
  · rw [List.getElem?_set_ne e]
    unfold flp
    rw [List.getElem?_mapIdx, List.getElem?_mapIdx]
    cases r[i]? with
    | none => rfl
    | some c =>
      have h1 : ¬ ((i : Int) = p) := by omega
      simp [h1]
theorem flp_nil (r : List Bool) : flp [] r = r := by
  unfold flp
  apply List.ext_getElem?
  intro i
  rw [List.getElem?_mapIdx]
  cases r[i]? <;> simp
theorem ixN_of {n : Nat} {i : Int} (h0 : 0 ≤ i) (h1 : i < n) : ixN n i = some i.toNat := by
  unfold ixN
  rw [if_pos h0, if_pos h1]
theorem pu__law_over {K : PySem.W.Frag} {C : CA} {vs : List V} {H : Hp} {Q : VK} {E : XK} (h : sp__law_over K C vs H Q E) : rd__law_over K C { nx := fun _ H' => Q .non H', rt := Q } (start N__law_over vs) H := by
  obtain ⟨v, ⟨r, a, ps, rfl, hl, hs, hr, rfl⟩, k⟩ := h
  refine body_V ?_ k
  unfold rd__law_over
  walk_at "bm"
  refine wl_listT (by omega) fun p hp => ?_
  walk_at "bm"
  refine ⟨⟨_, isL_old hs⟩, ?_⟩
  refine lp_list (xs := ps.map V.int) (fun i σ s => ∃ b, σ = [some (.str (T r)), some (.ref a), some (.ref p), b] ∧ s = ⟨[(p, .lst ((flp (ps.take i) r).map fun b => .str (T [b])))], []⟩) rfl ⟨none, rfl, by rw [List.take_zero, flp_nil]⟩ (fun i σ s hi _ => isL_old hs) ?_ ?_
  · rintro i y σ s hi hy ⟨b, rfl, rfl⟩
    obtain ⟨z, hz, rfl⟩ := getI hy
    have hb := hr z (List.mem_of_getElem? hz)
    obtain ⟨c, hc⟩ := get_some (r := r) (i := z.toNat) (by omega)
    walk_at "bm"
    refine w2_ixT (b := c) (by omega) (atI_of (by omega) hc) ?_
    walk_at "bm"
    refine w2_ixT (b := !c) (by decide) (by cases c <;> rfl) ?_
    walk_at "bm"
    refine wset_list (xs := (flp (ps.take i) r).map fun b => .str (T [b])) (j := z.toNat) (by rw [List.length_map, flp_len]; exact ixN_of hb.1 hb.2) (by walk_at "swap") ?_
    refine ⟨_, Sub.refl _, _, rfl, ?_⟩
    rw [mapset (fun b => V.str (T [b])), flp_set hb.1 hc, take_snoc hz]
  · rintro σ s ⟨b, rfl, rfl⟩
    rw [List.length_map, List.take_length]
    walk_at "bm"
    refine wm_join1 (by walk_at "isl") (by rw [flp_len]; omega) ?_
    walk_at "bm"
theorem c__law_over {K : PySem.W.Frag} {C : CA} {H0 : Hp} {s : Ld} {Q : V → Ld → Prop} {E : XK} {r : List Bool} {a : Addr} {ps : List Int} (hl : r.length ≤ 1000) (hx : IsL K H0 s a (ps.map V.int)) (hr : ∀ p ∈ ps, 0 ≤ p ∧ p < (r.length : Int)) (q : Q (.str (T (flp ps r))) s) : WC H0 (sp__law_over K C) E [.str (T r), .ref a] s Q := wc_V (fun H o => ⟨r, a, ps, rfl, hl, hx H o, hr, rfl⟩) q
end BM
namespace BM
open PySem L2 Evl
local macro_rules | `(tactic| walk_at "mem") => `(tactic| first | exact List.mem_cons_self | (refine List.mem_cons_of_mem _ ?_; walk_at "mem"))
local macro_rules | `(tactic| walk_at "swap") => `(tactic| first | exact Swap.here | (refine Swap.there ?_; walk_at "swap"))
local macro_rules | `(tactic| walk_at "subl") => `(tactic| first | exact List.Sublist.refl _ | exact List.nil_sublist _ | (refine List.Sublist.cons_cons _ ?_; walk_at "subl") | (refine List.Sublist.cons _ ?_; walk_at "subl"))
local macro_rules | `(tactic| walk_at "sub") => `(tactic| first | exact Sub.refl _ | (refine ⟨?_, ?_⟩ <;> walk_at "subl"))
local macro_rules | `(tactic| walk_at "isl") => `(tactic| first | exact isL_own (by walk_at "mem") | exact isL_old (by assumption) | assumption)
local macro_rules | `(tactic| walk_at "ist") => `(tactic| first | exact isT_own (by walk_at "mem") | exact isT_old (by assumption) | assumption)
local macro_rules | `(tactic| walk_at "len") => `(tactic| first | omega | decide | (simp only [List.length_map, List.length_take, List.length_drop, List.length_append, List.length_cons, List.length_nil, List.length_reverse, dps_len, flp_len]; omega) | (simp [dps_len, flp_len]; omega) | simp)
local macro_rules | `(tactic| walk_at "b0") => `(tactic| first
  | with_reducible refine' ws_set ?_
  | with_reducible refine' ws_par ?_
  | with_reducible refine' ws_asg ?_
  | with_reducible refine' ws_drop ?_
  | with_reducible refine' ws_ret ?_
  | with_reducible refine' ws_if ?_
  | with_reducible refine' ws_next ?_
  | with_reducible refine' ws_brk ?_
  | with_reducible refine' ws_cont ?_
  | ((with_reducible refine' we_var ?hv ?_); case hv => rfl)
  | with_reducible refine' we_c ?_
  | with_reducible refine' we_op ?_
  | with_reducible refine' we_un ?_
  | with_reducible refine' we_if ?_
  | with_reducible refine' we_and ?_
  | with_reducible refine' we_or ?_
  | with_reducible refine' we_not ?_
  | with_reducible refine' wa_nil ?_
  | with_reducible refine' wa_cons ?_
  | (with_reducible refine' we_lst ?_)
  | (with_reducible refine' we_tup ?_)
  | with_reducible refine' we_cb ?_
  | with_reducible refine' we_call0 ?_
  | with_reducible refine' we_sl ?_
  | with_reducible refine' wo_none ?_
  | (with_reducible refine' wo_some ?_)
  | with_reducible refine' wt_test ?_
  | with_reducible refine' wt_B ?_
  | with_reducible refine' wt_and ?_
  | with_reducible refine' wt_or ?_
  | with_reducible refine' wt_not ?_
  | with_reducible refine' wt_yes ?_
  | with_reducible refine' we_chain ?_
  | with_reducible refine' we_chain3 ?_
  | with_reducible refine' we_revT ?_
  | with_reducible refine' we_revL ?_
  | with_reducible refine' we_bm ?_
  | with_reducible refine' we_bm0 ?_
  | with_reducible refine' ws_for ?_
  | with_reducible refine' we_lc ?_
  | with_reducible refine' wi_list ?_
  | with_reducible refine' wi_tup ?_
  | with_reducible refine' wi_T ?_
  | with_reducible refine' wi_rng1 ?_
  | with_reducible refine' wi_rng2 ?_
  | with_reducible refine' wi_rng3 ?_
  | with_reducible refine' wi_enum ?_
  | with_reducible refine' wi_enumT ?_
  | with_reducible refine' wi_zip ?_
  | with_reducible refine' wg_name ?_
  | with_reducible refine' wg_sub ?_
  | with_reducible refine' wgs_nil ?_
  | with_reducible refine' wgs_cons ?_
  | ((with_reducible refine' wg_tup ?ht ?hn ?_); (case ht => walk_at "ist"); (case hn => rfl))
  | with_reducible refine' w2_add ?_
  | with_reducible refine' w2_sub ?_
  | with_reducible refine' w2_lt ?_
  | with_reducible refine' w2_le ?_
  | with_reducible refine' w2_gt ?_
  | with_reducible refine' w2_ge ?_
  | with_reducible refine' w2_eqI ?_
  | with_reducible refine' w2_neI ?_
  | with_reducible refine' w2_eqT ?_
  | with_reducible refine' w2_neT ?_
  | with_reducible refine' w2_eqB ?_
  | with_reducible refine' w2_neB ?_
  | with_reducible refine' w2_isN ?_
  | with_reducible refine' w2_notN ?_
  | with_reducible refine' w2_isB ?_
  | with_reducible refine' w2_inT ?_
  | with_reducible refine' w1_neg ?_
  | with_reducible refine' wl_abs ?_
  | with_reducible refine' wl_max2 ?_
  | with_reducible refine' wl_min2 ?_
  | with_reducible refine' wl_intB ?_
  | ((with_reducible refine' w2_div ?h ?_); case h => first | omega | (constructor <;> omega))
  | ((with_reducible refine' w2_mod ?h ?_); case h => omega)
  | ((with_reducible refine' w2_catT ?h ?_); case h => walk_at "len")
  | ((with_reducible refine' wsl_T ?h ?_); case h => walk_at "len")
  | ((with_reducible refine' wl_lenT ?h ?_); case h => walk_at "len")
  | ((with_reducible refine' wl_len ?h ?_); case h => walk_at "isl")
  | ((with_reducible refine' wl_len ?h ?_); case h => walk_at "isl")
  | ((with_reducible refine' wm_append ?sw ?hl ?_); (case sw => walk_at "swap"); (case hl => walk_at "len")))
local macro_rules | `(tactic| walk_at "b1") => `(tactic| first | with_reducible refine' ws_seq ?_ | walk_at "b0")
local macro_rules | `(tactic| walk_at "bx") => `(tactic| first
  | refine ⟨_, rfl, ?_⟩
  | refine ⟨_, _, rfl, ?_⟩
  | refine ⟨ty_L (by walk_at "isl"), ?_⟩
  | refine ⟨ty_S, ?_⟩
  | refine spl_t (by rfl) ?_
  | refine spl_f (by rfl) ?_
  | exact rfl)
local macro_rules | `(tactic| walk_at "bm") => `(tactic| repeat (first | walk_at "b1" | walk_at "bx"))
local macro_rules | `(tactic| walk_at "bn") => `(tactic| repeat (first | walk_at "b0" | walk_at "bx"))
local macro_rules | `(tactic| walk_at "b0") => `(tactic| with_reducible refine' c_deepens ?_)
local macro_rules | `(tactic| walk_at "b0") => `(tactic| ((with_reducible refine' c_depths_of ?hl ?_); (case hl => walk_at "len")))
local macro_rules | `(tactic| walk_at "b0") => `(tactic| with_reducible refine' c_is_wholeI ?_)
local macro_rules | `(tactic| walk_at "b0") => `(tactic| with_reducible refine' c_flipped ?_)
local macro_rules | `(tactic| walk_at "b0") => `(tactic| ((with_reducible refine' c_is_right_row ?hl ?_); (case hl => walk_at "len")))
local macro_rules | `(tactic| walk_at "b0") => `(tactic| ((with_reducible refine' c_asked_row ?hl ?_); (case hl => walk_at "len")))
local macro_rules | `(tactic| walk_at "b0") => `(tactic| ((with_reducible refine' c_depths ?hl ?_); (case hl => walk_at "len")))
local macro_rules | `(tactic| walk_at "b0") => `(tactic| ((with_reducible refine' c_is_right ?hl ?_); (case hl => walk_at "len")))
local macro_rules | `(tactic| walk_at "b0") => `(tactic| ((with_reducible refine' c__law_depths ?hl ?_); (case hl => walk_at "len")))
local macro_rules | `(tactic| walk_at "b0") => `(tactic| ((with_reducible refine' c__law_good ?hl ?_); (case hl => walk_at "len")))
theorem ln__law_row {K : PySem.W.Frag} {C : CA} {vs : List V} {H : Hp} {Q : VK} {E : XK} (h : sp__law_row K C vs H Q E) : vs.length = 4 := by
  obtain ⟨⟨a, ns, k, m, e, rfl, _⟩, _⟩ := h
  rfl
abbrev ch (b : Bool) : V := .str (T [b])
theorem flat_ch (r : List Bool) : (r.map ch).all flatV = true := by
  rw [List.all_map, List.all_eq_true]
  intro x _
  rfl
theorem count_ch (r : List Bool) (b : Bool) : (r.map ch).countP (fun z => eqV z (ch b)) = r.count b := by
  rw [List.countP_map]
  unfold List.count
  apply List.countP_congr
  intro c _
  show (T [c] == T [b]) = true ↔ (c == b) = true
  simp only [beq_iff_eq, T_eq, List.cons.injEq, and_true]
theorem atI_small {z : Int} (h : z = 0 ∨ z = 1) : ∃ b, atI [true, false] z = some b := by
  rcases h with rfl | rfl
  · exact ⟨true, rfl⟩
  · exact ⟨false, rfl⟩
theorem five_at {w a b c d e : Int} (ha : a = 0 ∨ a = 1) (hb : b = 0 ∨ b = 1) (hc : c = 0 ∨ c = 1) (hd : d = 0 ∨ d = 1) (he : e = 0 ∨ e = 1) : ∃ z : Int, (z = 0 ∨ z = 1) ∧ atI [V.int a, .int b, .int c, .int d, .int e] (w % 5) = some (.int z) := by
  have h : w % 5 = 0 ∨ w % 5 = 1 ∨ w % 5 = 2 ∨ w % 5 = 3 ∨ w % 5 = 4 := by omega
  rcases h with h | h | h | h | h <;> rw [h]
  · exact ⟨a, ha, rfl⟩
  · exact ⟨b, hb, rfl⟩
  · exact ⟨c, hc, rfl⟩
  · exact ⟨d, hd, rfl⟩
  · exact ⟨e, he, rfl⟩
theorem int01 {p : Prop} [Decidable p] : ((if decide p = true then (1 : Int) else 0) = 0) ∨ ((if decide p = true then (1 : Int) else 0) = 1) := by
  by_cases h : p
  · exact .inr (by simp [h])
  · exact .inl (by simp [h])
/-- where the row's making stands -/
def LRow (a p q : Addr) (k m wd W : Int) (e : Bool) (cs : List Int) (P : List Bool → Option V → Prop) (σ : L2.St) (s : Ld) : Prop :=
  ∃ (x6 x8 x10 x11 x12 x13 x14 : Option V) (r : List Bool), σ = [some (.ref a), some (.int k), some (.int m), some (.bl e), some (.ref p), some (.int wd), x6, some (.ref q), x8, some (.int W), x10, x11, x12, x13, x14] ∧ s = ⟨[(q, .lst (r.map ch)), (p, .lst (cs.map V.int))], []⟩ ∧ P r x8
theorem pu__law_row {K : PySem.W.Frag} {C : CA} {vs : List V} {H : Hp} {Q : VK} {E : XK} (h : sp__law_row K C vs H Q E) : rd__law_row K C { nx := fun _ H' => Q .non H', rt := Q } (start N__law_row vs) H := by
  obtain ⟨⟨a, ns, k, m, e, rfl, hs, hns, hk0, hk1, hm0, hm1⟩, kk⟩ := h
  refine body_P (P := fun v => ∃ r : List Bool, v = .str (T r) ∧ (r.length : Int) ≤ m ∧ (e = true → hgt r = 0)) ?_ (fun v H' ⟨r, h1, h2, h3⟩ x => kk v H' ⟨a, k, m, e, r, rfl, h1, h2, h3⟩ x)
  unfold rd__law_row
  refine ws_cut (fun σ s => ∃ (p : Addr) (cs : List Int), σ = [some (.ref a), some (.int k), some (.int m), some (.bl e), some (.ref p), none, none, none, none, none, none, none, none, none, none] ∧ s = ⟨[(p, .lst (cs.map V.int))], []⟩ ∧ 0 < cs.length ∧ cs.length ≤ 63) ?_ ?_
  · walk_at "bm"
    refine ⟨by decide, fun p0 hp0 => ?_⟩
    refine w2_neLI (ns := ns) (ms := []) (isL_old hs) (by walk_at "isl") ?_
    walk_at "bm"
    refine ⟨fun hc => ?_, fun hc => ?_⟩
    · walk_at "bm"
      refine wsl_L (isL_old hs) fun p hp => ?_
      refine ⟨⟨[(p, .lst (ns.map V.int))], []⟩, ?_, p, ns, rfl, rfl, ?_, hns⟩
      · rw [cut_hi (by omega), List.take_of_length_le (by rw [List.length_map]; omega)]
        walk_at "sub"
      · cases ns with
        | nil => simp at hc
        | cons x y => simp
    · walk_at "bm"
      refine ⟨by decide, fun p hp => ?_⟩
      exact ⟨⟨[(p, .lst ([5].map V.int))], []⟩, by walk_at "sub", p, [5], rfl, rfl, by decide, by decide⟩
  · rintro σ s ⟨p, cs, rfl, rfl, hc0, hc1⟩
    have hcl : (cs.map V.int).length = cs.length := List.length_map ..
    walk_at "bm"
    refine wl_sum (by walk_at "isl") ?_
    walk_at "bm"
    refine w2_mul (cmul_l (by decide) (by decide)) ?_
    walk_at "bm"
    refine ⟨by decide, fun q hq => ?_⟩
    walk_at "bn"
    obtain ⟨W, hW, hW0⟩ : ∃ W : Int, (if cs.sum < 0 then -cs.sum else cs.sum) + 7 * k = W ∧ 0 ≤ W := ⟨_, rfl, by split <;> omega⟩
    rw [hW]
    refine ws_seq ?_
    walk_at "bn"
    obtain ⟨wd, hwd, hwd0⟩ : ∃ wd : Int, 1 + W / 5 % 6 = wd ∧ 1 ≤ wd ∧ wd ≤ 6 := ⟨_, rfl, by omega⟩
    rw [hwd]
    refine ws_cut (LRow a p q k m wd W e cs fun r _ => (r.length : Int) ≤ m) ?_ ?_
    · have hb1 : W / 30 % (m + 1) < m + 1 := Int.emod_lt_of_pos _ (by omega)
      have hb0 : 0 ≤ W / 30 % (m + 1) := Int.emod_nonneg _ (by omega)
      walk_at "bm"
      refine ⟨by omega, ?_⟩
      refine lp_rng (fun i => LRow a p q k m wd W e cs fun r _ => r.length = i) ⟨none, none, none, none, none, none, none, [], rfl, rfl, rfl⟩ ?_ ?_
      · rintro i σ s hi ⟨x6, x8, x10, x11, x12, x13, x14, r, rfl, rfl, hr⟩
        have hiz : (i : Int) ≤ 40 := by omega
        refine wg_name ?_
        refine ws_seq ?_
        walk_at "bn"
        obtain ⟨sp, hsp, hsp0, hsp1⟩ : ∃ sp : Int, (0 + (i : Int)) / wd = sp ∧ 0 ≤ sp ∧ sp ≤ 40 := ⟨_, rfl, Int.ediv_nonneg (by omega) (by omega), by
          have := Int.ediv_le_self (a := (0 + (i : Int))) wd (by omega)
          omega⟩
        rw [hsp]
        walk_at "bm"
        have hm1' := Int.emod_nonneg (sp + k) (b := ((cs.map V.int).length : Int)) (by omega)
        have hm2' := Int.emod_lt_of_pos (sp + k) (b := ((cs.map V.int).length : Int)) (by omega)
        obtain ⟨z, hz⟩ := get_some (r := cs) (i := ((sp + k) % ((cs.map V.int).length : Int)).toNat) (by omega)
        refine w2_ixL (v := .int z) (by walk_at "isl") (atI_of hm1' (by rw [List.getElem?_map, hz]; rfl)) ?_
        walk_at "bm"
        refine c__law_number (by omega) fun n => ?_
        walk_at "bn"
        generalize hnh : (if n < 0 then -n else n) / 3 = nh
        refine ws_seq (ws_set (we_cb (wa_cons (we_or_val (b1 := decide (0 < nh % 3)) (b2 := decide ((0 + (i : Int)) % 2 = 0)) (fun Q q => by walk_at "bm"; exact q) (fun Q q => by walk_at "bm"; exact q) ?_))))
        walk_at "bn"
        obtain ⟨mx, hmx, hmx01⟩ : ∃ mx : Int, (if (decide (0 < nh % 3) || decide ((0 + (i : Int)) % 2 = 0)) = true then (1 : Int) else 0) = mx ∧ (mx = 0 ∨ mx = 1) := ⟨_, rfl, by split <;> simp⟩
        rw [hmx]
        walk_at "bm"
        refine ⟨by simp, fun tt htt => ?_⟩
        walk_at "bm"
        obtain ⟨y, hy, hat⟩ := five_at (w := W) (a := nh % 2) (b := (0 + (i : Int)) % 2) (c := 1 - (0 + (i : Int)) % 2) (d := mx) (e := if decide (sp % 2 = 0) = true then 1 else 0) (by omega) (by omega) (by omega) hmx01 int01
        refine w2_ixU (v := .int y) (by walk_at "ist") hat ?_
        obtain ⟨b, hb⟩ := atI_small hy
        refine w2_ixT (b := b) (by simp) hb ?_
        walk_at "bm"
        refine ⟨⟨[(q, .lst (r.map ch ++ [ch b])), (p, .lst (cs.map V.int))], []⟩, by walk_at "sub", some (.int (0 + (i : Int))), x8, some (.int sp), some (.int (z + sp / ((cs.map V.int).length : Int))), some (.int nh), some (.int mx), some (.ref tt), r ++ [b], rfl, ?_, by simp [hr]⟩
        rw [List.map_append]
        rfl
      · rintro σ s ⟨x6, x8, x10, x11, x12, x13, x14, r, rfl, rfl, hr⟩
        exact ⟨_, Sub.refl _, x6, x8, x10, x11, x12, x13, x14, r, rfl, rfl, by omega⟩
    · rintro σ s ⟨x6, x8, x10, x11, x12, x13, x14, r, rfl, rfl, hr⟩
      refine ws_cut (fun σ s => ∃ (q : Addr), LRow a p q k m wd W e cs (fun r _ => (r.length : Int) ≤ m ∧ (e = true → r.length % 2 = 0)) σ s) ?_ ?_
      · walk_at "bm"
        refine ⟨fun he => ?_, fun he => ?_⟩
        · walk_at "bm"
          refine w2_mul (cmul_r (by decide) (by decide)) ?_
          walk_at "bm"
          refine wsl_L (by walk_at "isl") fun q2 hq2 => ?_
          refine ⟨⟨[(q2, .lst ((r.take (r.length / 2 * 2)).map ch)), (p, .lst (cs.map V.int))], []⟩, ?_, q2, x6, x8, x10, x11, x12, x13, x14, r.take (r.length / 2 * 2), rfl, rfl, by simp; omega, fun _ => by simp; omega⟩
          rw [cut_hi (by omega), List.length_map, show ((r.length : Int) / 2 * 2).toNat = r.length / 2 * 2 by omega, List.map_take]
          walk_at "sub"
        · walk_at "bm"
          exact ⟨_, Sub.refl _, q, x6, x8, x10, x11, x12, x13, x14, r, rfl, rfl, hr, fun h => by rw [he] at h; cases h⟩
      · rintro σ s ⟨q, x6, x8, x10, x11, x12, x13, x14, r, rfl, rfl, hr, hev⟩
        have hrl : (r.map ch).length = r.length := List.length_map ..
        walk_at "bm"
        refine wm_count (by walk_at "isl") rfl (flat_ch r) ?_
        walk_at "bm"
        refine wm_count (by walk_at "isl") rfl (flat_ch r) ?_
        rw [count_ch r true, count_ch r false]
        refine w2_sub ?_
        rw [← hgt_count]
        walk_at "bm"
        refine ⟨by omega, ?_⟩
        refine lp_rng (fun i => LRow a p q k m wd W e cs fun r' x8 => r'.length = r.length ∧ (if e = true then ∃ mo, x8 = some (.int mo) ∧ EvenUp W r.length i r' mo else ∃ mo, x8 = some (.int mo))) ⟨x6, some (.int (hgt r)), x10, x11, x12, x13, x14, r, rfl, rfl, rfl, ?_⟩ ?_ ?_
        · cases e with
          | true => exact ⟨_, rfl, EvenUp.start (hev rfl)⟩
          | false => exact ⟨_, rfl⟩
        · rintro i σ s hi ⟨x6, x8, x10, x11, x12, x13, x14, r', rfl, rfl, hr', hx⟩
          rw [hrl] at hi
          have hrl' : (r'.map ch).length = r'.length := List.length_map ..
          obtain ⟨mo, rfl⟩ : ∃ mo, x8 = some (.int mo) := by
            cases e with
            | true => obtain ⟨mo, h, _⟩ := hx; exact ⟨mo, h⟩
            | false => exact hx
          walk_at "bm"
          have hm1' := Int.emod_nonneg (0 + (i : Int) + W) (b := ((r'.map ch).length : Int)) (by omega)
          have hm2' := Int.emod_lt_of_pos (0 + (i : Int) + W) (b := ((r'.map ch).length : Int)) (by omega)
          have hsp : (0 + (i : Int) + W) % ((r'.map ch).length : Int) = ((i : Int) + W) % (r.length : Int) := by
            rw [hrl', hr', show (0 + (i : Int) + W) = (i : Int) + W by omega]
          obtain ⟨y, hy⟩ := get_some (r := r') (i := ((0 + (i : Int) + W) % ((r'.map ch).length : Int)).toNat) (by omega)
          have hy2 : r'[(((i : Int) + W) % (r.length : Int)).toNat]? = some y := by rw [← hsp]; exact hy
          cases e with
          | false =>
            walk_at "bm"
            exact ⟨_, Sub.refl _, _, _, _, x11, x12, x13, x14, r', rfl, rfl, hr', mo, rfl⟩
          | true =>
            obtain ⟨mo', hmo, EU⟩ := hx
            cases hmo
            walk_at "bm"
            refine ⟨fun hne => ?_, fun hne => ?_⟩
            · have hne' : mo ≠ 0 := by simpa using hne
              walk_at "bm"
              refine w2_ixL (v := ch y) (by walk_at "isl") (atI_of hm1' (by rw [List.getElem?_map, hy]; rfl)) ?_
              walk_at "bm"
              have hd : atI [true, false] (if decide (mo < 0) = true then 1 else 0) = some (decide (0 < mo)) := by
                by_cases h : mo < 0
                · simp [h, show ¬ 0 < mo by omega]
                  rfl
                · simp [h, show 0 < mo by omega]
                  rfl
              refine w2_ixT (b := decide (0 < mo)) (by simp) hd ?_
              walk_at "bm"
              refine ⟨fun hyc => ?_, fun hyc => ?_⟩
              · have hya : y = decide (0 < mo) := by simpa using hyc
                have EU2 := EU.turn hne' hy2 hya
                walk_at "bm"
                have hd2 : atI [true, false] (if decide (0 < mo) = true then 1 else 0) = some (!y) := by
                  rw [hya]
                  by_cases h : 0 < mo
                  · simp [h]
                    rfl
                  · simp [h]
                    rfl
                refine w2_ixT (b := !y) (by simp) hd2 ?_
                walk_at "bm"
                refine wset_list (xs := r'.map ch) (j := ((0 + (i : Int) + W) % ((r'.map ch).length : Int)).toNat) (ixN_of hm1' hm2') (by walk_at "swap") ?_
                walk_at "bm"
                have fin : ∀ mo2, mo2 = (if 0 < mo then mo - 2 else mo + 2) → ∃ s0, Sub s0 ⟨[(q, HO.lst ((r'.map ch).set ((0 + (i : Int) + W) % ((r'.map ch).length : Int)).toNat (ch (!y)))), (p, .lst (cs.map V.int))], []⟩ ∧ LRow a p q k m wd W true cs (fun r' x8 => r'.length = r.length ∧ (if true = true then ∃ mo, x8 = some (.int mo) ∧ EvenUp W r.length (i + 1) r' mo else ∃ mo, x8 = some (.int mo))) [some (.ref a), some (.int k), some (.int m), some (.bl true), some (.ref p), some (.int wd), some (.int (0 + (i : Int))), some (.ref q), some (.int mo2), some (.int W), some (.int ((0 + (i : Int) + W) % ((r'.map ch).length : Int))), x11, x12, x13, x14] s0 := by
                  rintro mo2 rfl
                  refine ⟨_, Sub.refl _, _, _, _, x11, x12, x13, x14, r'.set (((i : Int) + W) % (r.length : Int)).toNat (!y), rfl, ?_, by rw [List.length_set]; exact hr', _, rfl, EU2⟩
                  rw [mapset ch, hsp]
                refine ⟨fun h => ?_, fun h => ?_⟩
                · walk_at "bm"
                  exact fin _ (by rw [if_pos (of_decide_eq_true h)])
                · walk_at "bm"
                  exact fin _ (by rw [if_neg (of_decide_eq_false h)])
              · have hya : y ≠ decide (0 < mo) := by simpa using hyc
                walk_at "bm"
                exact ⟨_, Sub.refl _, _, _, _, x11, x12, x13, x14, r', rfl, rfl, hr', mo, rfl, EU.stay hy2 fun _ => hya⟩
            · have hne' : mo = 0 := by simpa using hne
              walk_at "bm"
              exact ⟨_, Sub.refl _, _, _, _, x11, x12, x13, x14, r', rfl, rfl, hr', mo, rfl, EU.stay hy2 fun h => absurd hne' h⟩
        · rintro σ s ⟨x6, x8, x10, x11, x12, x13, x14, r', rfl, rfl, hr', hx⟩
          walk_at "bm"
          refine wm_join1 (by walk_at "isl") (by omega) ?_
          refine ⟨r', rfl, by omega, fun he => ?_⟩
          subst he
          obtain ⟨mo, _, EU⟩ := hx
          rw [hrl] at EU
          exact EU.done
theorem c__law_row {K : PySem.W.Frag} {C : CA} {H0 : Hp} {s : Ld} {Q : V → Ld → Prop} {E : XK} {a : Addr} {ns : List Int} {k m : Int} {e : Bool} (hx : IsL K H0 s a (ns.map V.int)) (hn : ns.length ≤ 63) (hk : 0 ≤ k ∧ k ≤ 1000 ∧ 0 ≤ m ∧ m ≤ 40) (q : ∀ r : List Bool, (r.length : Int) ≤ m → (e = true → hgt r = 0) → Q (.str (T r)) s) : WC H0 (sp__law_row K C) E [.ref a, .int k, .int m, .bl e] s Q :=
  wc_P (fun H o => ⟨a, ns, k, m, e, rfl, hx H o, hn, hk.1, hk.2.1, hk.2.2.1, hk.2.2.2⟩) (fun v ⟨a', k', m', e', r, h1, h2, h3, h4⟩ => by
    cases h1
    rw [h2]
    exact q r h3 h4)
end BM
namespace BM
open PySem L2 Evl
theorem kit_self (K : PySem.W.Frag) (D : Addr) : PySem.W.kitOne K (.ref D) (.ref D) = some true := by
  unfold PySem.W.kitOne
  rw [if_pos (by simp)]
/-- an own class as it stands -/
structure ClsK (K : PySem.W.Frag) (C : Addr) : Prop where
  hd : PySem.W.hasDictIn K C = true
  ty : PySem.W.typeIn K (.ref C) = some (.type "type")
theorem kitCls_of {K : PySem.W.Frag} {D c : Addr} {b : Bool} (hc : ClsK K c) (h : PySem.W.subIn K (.ref D) (.ref c) = some b) : PySem.W.kitCls K (.ref D) (.ref c) = some b := by
  obtain ⟨cd, e, _⟩ := PySem.W.any_some hc.hd
  unfold PySem.W.kitCls
  have e2 : ((PySem.W.clsIn K c).isSome && PySem.W.typeIn K (.ref c) == some (.type "type")) = true := by rw [e, hc.ty] <;> rfl
  show (if ((PySem.W.clsIn K c).isSome && PySem.W.typeIn K (.ref c) == some (.type "type")) = true then PySem.W.subIn K (.ref D) (.ref c) else none) = some b
  rw [if_pos e2]
  exact h
theorem kit_no {K : PySem.W.Frag} {D c : Addr} (hc : ClsK K c) (h : PySem.W.subIn K (.ref D) (.ref c) = some false) (hs : PySem.W.subIn K (.ref c) (.ref c) = some true) : PySem.W.kitOne K (.ref D) (.ref c) = some false := by
  unfold PySem.W.kitOne
  rw [if_neg]
  · exact kitCls_of hc h
  · intro e
    have e' : (Value.ref D) = Value.ref c := by simpa using e
    cases e'
    rw [h] at hs
    cases hs
theorem kit_yes {K : PySem.W.Frag} {D c : Addr} (hc : ClsK K c) (h : PySem.W.subIn K (.ref D) (.ref c) = some true) : PySem.W.kitOne K (.ref D) (.ref c) = some true := by
  unfold PySem.W.kitOne
  split
  · rfl
  · exact kitCls_of hc h
end BM
namespace BM
open PySem PySem.Spec PyProof.Rows L2
section
variable {P : Program} {w : World} {A : Around} {E : Value → Shared → Prop} {s : Shared}
/-- set(l), l a list of ints: what stands in it, and at most how many -/
theorem call_set_lstI {l : Addr} {xs : Array Value} (ns : List Int) {Q : Value → Shared → Prop} (hh : A.handled = none) (hl : s.heap.IsList l xs) (hit : IntsAre xs.toList ns) (hb : ns.length + 1 < scanBound)
    (h : ∀ (h2 : Heap) (k c : Nat), SetR w h2 s.heap.objs.size (fun j => decide (j ∈ ns)) c → c ≤ ns.length → (∀ b o, s.heap.get? b = some o → h2.get? b = some o) → Q (.ref s.heap.objs.size) { s with heap := h2, toks := k }) :
    wpAny (model P w) A (call (.type "set") [.ref l]) Q E s := by
  have hzz : xs.size = ns.length := by rw [← Array.length_toList]; exact IntsAre.length hit
  obtain ⟨c, tl, m1⟩ := F.called_set.mro
  have m2 := F.called_set.made
  have m3 := F.called_set.sub
  have m4 := F.called_set.notType
  have m5 := F.called_set.canCreate
  have m6 := F.typeCall_set_1 (.ref l)
  refine wpAny_call (codeAny_of_tree (?_ : wpAny _ _ (callAny (.type "set") _) _ _ _))
  refine wpAny_pure ⟨Code.quiet_builtin _ (by decide +kernel), codeAny_builtin F.entry_type_call (?_ : _)⟩
  rw [(Around.under_plain (weight_type_call_type "set" [.ref l] []) rfl : _)]
  repeat (any_goals (first | assumption | wp_step))
  refine codeAny_mono (code_set_led1 (.ref l) (E := E) (Q₁ := fun ob s1 => ob = .ref s.heap.objs.size ∧ s1 = { s with heap := s.heap.push ({ cls := Value.type "set", dict := none, data := Data.set #[] 0 (.fresh 0 0 (!w.params.followText "set-order")) } : Obj) }) ⟨rfl, rfl⟩) fun r s1 hr => ?_
  cases r with
  | error e => exact hr
  | ok fl =>
    cases fl with
    | ret ob =>
      obtain ⟨rfl, rfl⟩ := hr
      have g1 : (s.heap.push ({ cls := Value.type "set", dict := none, data := Data.set #[] 0 (.fresh 0 0 (!w.params.followText "set-order")) } : Obj)).get? s.heap.objs.size = some ({ cls := Value.type "set", dict := none, data := Data.set #[] 0 (.fresh 0 0 (!w.params.followText "set-order")) } : Obj) := Heap.get?_push_size _ rfl
      have g2 : Shared.TypeIs { s with heap := s.heap.push ({ cls := Value.type "set", dict := none, data := Data.set #[] 0 (.fresh 0 0 (!w.params.followText "set-order")) } : Obj) } (.ref s.heap.objs.size) "set" := ⟨_, g1, rfl⟩
      have m7 := F.called_set.init.lookup
      have m8 := F.called_set.init.bind (.ref s.heap.objs.size)
      repeat (any_goals (first | assumption | wp_step))
      refine codeAny_mono (codeAny_call_builtin (R := wants (fun r s2 => r = .none ∧ ∃ h2 k c, s2 = { s with heap := h2, toks := k } ∧ SetR w h2 s.heap.objs.size (fun j => decide (j ∈ ns)) c ∧ c ≤ ns.length ∧ ∀ b o, s.heap.get? b = some o → h2.get? b = some o) E)
        F.called_set.init.plain F.entry_set_init (check_set_init_1 g2 ?_)) fun r2 s2 hr2 => ?_
      · obtain ⟨⟨oc, od, odt, osl⟩, hol, hc1, nl, hd1⟩ := hl
        simp only at hc1 hd1
        subst hc1 hd1
        have lt : l < s.heap.objs.size := Heap.lt_size hol
        have g3 : (s.heap.push ({ cls := Value.type "set", dict := none, data := Data.set #[] 0 (.fresh 0 0 (!w.params.followText "set-order")) } : Obj)).get? l = some { cls := .type "list", dict := od, data := .seq xs nl, slots := osl } := Heap.get?_push_of_some _ hol
        have m9 := F.sub_list_set
        have m10 := F.sub_list_frozenset
        have m11 : (Value.type "list" == Value.type "dict") = false := by decide
        have g4 : (s.heap.push ({ cls := Value.type "set", dict := none, data := Data.set #[] 0 (.fresh 0 0 (!w.params.followText "set-order")) } : Obj)).IsList l xs := ⟨_, g3, rfl, nl, rfl⟩
        unfold Builtin.«set.__init__» noKeywords Builtin.Frozenset.updateFrom
        generalize hPy : pyIter = PY
        wp_walk
        subst hPy
        refine wpAny_pyIter_list g4 (wpAny_bind (wpAny_runValue ?_))
        have hd : A.in1.in1.in1.handled = none := by simp [hh]
        have n1 : l ≠ (s.heap.push ({ cls := Value.type "set", dict := none, data := Data.set #[] 0 (.fresh 0 0 (!w.params.followText "set-order")) } : Obj)).objs.size := by
          rw [Heap.size_push]
          exact Nat.ne_of_lt (Nat.lt_succ_of_lt lt)
        have n2 : s.heap.objs.size ∉ [(s.heap.push ({ cls := Value.type "set", dict := none, data := Data.set #[] 0 (.fresh 0 0 (!w.params.followText "set-order")) } : Obj)).objs.size, l] := by
          rw [Heap.size_push]
          intro z
          rcases List.mem_cons.mp z with z | z
          · exact Nat.ne_of_lt (Nat.lt_succ_self _) z
          · exact Nat.ne_of_gt lt (List.mem_singleton.mp z)
        have vals : ∀ (i : Nat) (v : Value), xs[i]? = some v → ∃ k t, ns[i]? = some k ∧ v = .int k t := fun i v hv => by
          have lt : i < ns.length := hzz ▸ (Array.getElem?_eq_some_iff.mp hv).1
          obtain ⟨t, e⟩ := IntsAre.int_at hit i v (by rw [Array.getElem?_toList]; exact hv)
          refine ⟨ns[i], t, List.getElem?_eq_getElem lt, e.trans ?_⟩
          rw [List.getD_eq_getElem?_getD, List.getElem?_eq_getElem lt] <;> rfl
        refine set_update_ints ((Walks.list hd _ l n1 xs).toS) s.heap.objs.size n2 ns hzz hb vals (xs.size - 0) 0 _ (by omega) (Nat.zero_le _) ⟨⟨_, Heap.get?_push_size _ rfl, rfl, rfl⟩, g4.push _⟩ ?hz0 ?hzR
        case hz0 => exact ⟨0, Nat.le_refl 0, setR_new_at (Heap.get?_push_of_some _ g1)⟩
        case hzR =>
          intro s3 c3 hm hc3 hS3
          obtain ⟨h4, a4, b4, k4, o4⟩ := s3
          have e1 : a4 = s.gens := hm.gens
          have e2 : b4 = s.drawn := hm.drawn
          have e3 : o4 = s.os := hm.os
          subst e1 e2 e3
          change wpAny _ _ _ _ _ _
          apply wpAny_pure
          change wpAny _ _ (ret Value.none) _ _ _
          refine wpAny_pure ⟨rfl, h4, k4, c3, rfl, hS3, hzz ▸ hc3, fun b o e => ?_⟩
          have lb : b < s.heap.objs.size := Heap.lt_size e
          refine hm.heap b o (fun z => ?_) (Heap.get?_push_of_some _ (Heap.get?_push_of_some _ e))
          rcases List.mem_cons.mp z with z | z
          · exact Nat.ne_of_lt lb z
          · have z1 := List.mem_singleton.mp z
            rw [Heap.size_push] at z1
            exact Nat.ne_of_lt (Nat.lt_succ_of_lt lb) z1
      · cases r2 with
        | error e => exact hr2
        | ok fl2 =>
          cases fl2 with
          | ret r =>
            obtain ⟨rfl, h2, k, c2, rfl, q1, q2, q3⟩ := hr2
            repeat (any_goals (first | assumption | wp_step))
            exact h _ _ _ q1 q2 q3
          | _ => exact hr2.elim
    | _ => exact hr.elim
end
end BM
namespace BM
open PySem L2 Evl
def aNotB : R2 := fun x y H Q => ∃ a b : Bool, x = .bl a ∧ y = .bl b ∧ Q (.bl (!decide (a = b))) H
section
variable {X : Cx}
theorem o_notB : OpR X (compareOp .IsNot) aNotB := OpR.imp op_notBl fun x y H Q ⟨a, b, e1, e2, q⟩ => ⟨a, b, e1, e2, by first | exact q | (have e : (!decide (a = b)) = (a != b) := (by cases a <;> cases b <;> rfl); rw [← e]; exact q) | (have e : (!decide (a = b)) = (!(a == b)) := (by cases a <;> cases b <;> rfl); rw [← e]; exact q)⟩
end
section
variable {K : PySem.W.Frag} {H0 : Hp} {σ : L2.St} {s : Ld} {Q : V → Ld → Prop} {t : TT}
theorem w2_notB {a b : Bool} (q : Q (.bl (!decide (a = b))) s) : W2 H0 aNotB (.bl a) (.bl b) s Q := fun H o R k => ⟨a, b, rfl, rfl, k _ H s o q⟩
end
end BM
namespace BM
open PySem L2 Evl
local macro_rules | `(tactic| walk_at "mem") => `(tactic| first | exact List.mem_cons_self | (refine List.mem_cons_of_mem _ ?_; walk_at "mem"))
local macro_rules | `(tactic| walk_at "swap") => `(tactic| first | exact Swap.here | (refine Swap.there ?_; walk_at "swap"))
local macro_rules | `(tactic| walk_at "subl") => `(tactic| first | exact List.Sublist.refl _ | exact List.nil_sublist _ | (refine List.Sublist.cons_cons _ ?_; walk_at "subl") | (refine List.Sublist.cons _ ?_; walk_at "subl"))
local macro_rules | `(tactic| walk_at "sub") => `(tactic| first | exact Sub.refl _ | (refine ⟨?_, ?_⟩ <;> walk_at "subl"))
local macro_rules | `(tactic| walk_at "isl") => `(tactic| first | exact isL_own (by walk_at "mem") | exact isL_old (by assumption) | assumption)
local macro_rules | `(tactic| walk_at "ist") => `(tactic| first | exact isT_own (by walk_at "mem") | exact isT_old (by assumption) | assumption)
local macro_rules | `(tactic| walk_at "len") => `(tactic| first | omega | decide | (simp only [List.length_map, List.length_take, List.length_drop, List.length_append, List.length_cons, List.length_nil, List.length_reverse, dps_len, flp_len]; omega) | (simp [dps_len, flp_len]; omega) | simp)
local macro_rules | `(tactic| walk_at "b0") => `(tactic| first
  | with_reducible refine' ws_set ?_
  | with_reducible refine' ws_par ?_
  | with_reducible refine' ws_asg ?_
  | with_reducible refine' ws_drop ?_
  | with_reducible refine' ws_ret ?_
  | with_reducible refine' ws_if ?_
  | with_reducible refine' ws_next ?_
  | with_reducible refine' ws_brk ?_
  | with_reducible refine' ws_cont ?_
  | ((with_reducible refine' we_var ?hv ?_); case hv => rfl)
  | with_reducible refine' we_c ?_
  | with_reducible refine' we_op ?_
  | with_reducible refine' we_un ?_
  | with_reducible refine' we_if ?_
  | with_reducible refine' we_and ?_
  | with_reducible refine' we_or ?_
  | with_reducible refine' we_not ?_
  | with_reducible refine' wa_nil ?_
  | with_reducible refine' wa_cons ?_
  | (with_reducible refine' we_lst ?_)
  | (with_reducible refine' we_tup ?_)
  | with_reducible refine' we_cb ?_
  | with_reducible refine' we_call0 ?_
  | with_reducible refine' we_sl ?_
  | with_reducible refine' wo_none ?_
  | (with_reducible refine' wo_some ?_)
  | with_reducible refine' wt_test ?_
  | with_reducible refine' wt_B ?_
  | with_reducible refine' wt_and ?_
  | with_reducible refine' wt_or ?_
  | with_reducible refine' wt_not ?_
  | with_reducible refine' wt_yes ?_
  | with_reducible refine' we_chain ?_
  | with_reducible refine' we_chain3 ?_
  | with_reducible refine' we_revT ?_
  | with_reducible refine' we_revL ?_
  | with_reducible refine' we_bm ?_
  | with_reducible refine' we_bm0 ?_
  | with_reducible refine' ws_for ?_
  | with_reducible refine' we_lc ?_
  | with_reducible refine' wi_list ?_
  | with_reducible refine' wi_tup ?_
  | with_reducible refine' wi_T ?_
  | with_reducible refine' wi_rng1 ?_
  | with_reducible refine' wi_rng2 ?_
  | with_reducible refine' wi_rng3 ?_
  | with_reducible refine' wi_enum ?_
  | with_reducible refine' wi_enumT ?_
  | with_reducible refine' wi_zip ?_
  | with_reducible refine' wg_name ?_
  | with_reducible refine' wg_sub ?_
  | with_reducible refine' wgs_nil ?_
  | with_reducible refine' wgs_cons ?_
  | ((with_reducible refine' wg_tup ?ht ?hn ?_); (case ht => walk_at "ist"); (case hn => rfl))
  | with_reducible refine' w2_add ?_
  | with_reducible refine' w2_sub ?_
  | with_reducible refine' w2_lt ?_
  | with_reducible refine' w2_le ?_
  | with_reducible refine' w2_gt ?_
  | with_reducible refine' w2_ge ?_
  | with_reducible refine' w2_eqI ?_
  | with_reducible refine' w2_neI ?_
  | with_reducible refine' w2_eqT ?_
  | with_reducible refine' w2_neT ?_
  | with_reducible refine' w2_eqB ?_
  | with_reducible refine' w2_neB ?_
  | with_reducible refine' w2_isN ?_
  | with_reducible refine' w2_notN ?_
  | with_reducible refine' w2_isB ?_
  | with_reducible refine' w2_inT ?_
  | with_reducible refine' w1_neg ?_
  | with_reducible refine' wl_abs ?_
  | with_reducible refine' wl_max2 ?_
  | with_reducible refine' wl_min2 ?_
  | with_reducible refine' wl_intB ?_
  | ((with_reducible refine' w2_div ?h ?_); case h => first | omega | (constructor <;> omega))
  | ((with_reducible refine' w2_mod ?h ?_); case h => omega)
  | ((with_reducible refine' w2_catT ?h ?_); case h => walk_at "len")
  | ((with_reducible refine' wsl_T ?h ?_); case h => walk_at "len")
  | ((with_reducible refine' wl_lenT ?h ?_); case h => walk_at "len")
  | ((with_reducible refine' wl_len ?h ?_); case h => walk_at "isl")
  | ((with_reducible refine' wl_len ?h ?_); case h => walk_at "isl")
  | ((with_reducible refine' wm_append ?sw ?hl ?_); (case sw => walk_at "swap"); (case hl => walk_at "len")))
local macro_rules | `(tactic| walk_at "b1") => `(tactic| first | with_reducible refine' ws_seq ?_ | walk_at "b0")
local macro_rules | `(tactic| walk_at "bx") => `(tactic| first
  | refine ⟨_, rfl, ?_⟩
  | refine ⟨_, _, rfl, ?_⟩
  | refine ⟨ty_L (by walk_at "isl"), ?_⟩
  | refine ⟨ty_S, ?_⟩
  | refine spl_t (by rfl) ?_
  | refine spl_f (by rfl) ?_
  | exact rfl)
local macro_rules | `(tactic| walk_at "bm") => `(tactic| repeat (first | walk_at "b1" | walk_at "bx"))
local macro_rules | `(tactic| walk_at "bn") => `(tactic| repeat (first | walk_at "b0" | walk_at "bx"))
local macro_rules | `(tactic| walk_at "b0") => `(tactic| with_reducible refine' c_deepens ?_)
local macro_rules | `(tactic| walk_at "b0") => `(tactic| ((with_reducible refine' c_depths_of ?hl ?_); (case hl => walk_at "len")))
local macro_rules | `(tactic| walk_at "b0") => `(tactic| with_reducible refine' c_is_wholeI ?_)
local macro_rules | `(tactic| walk_at "b0") => `(tactic| with_reducible refine' c_flipped ?_)
local macro_rules | `(tactic| walk_at "b0") => `(tactic| ((with_reducible refine' c_is_right_row ?hl ?_); (case hl => walk_at "len")))
local macro_rules | `(tactic| walk_at "b0") => `(tactic| ((with_reducible refine' c_asked_row ?hl ?_); (case hl => walk_at "len")))
local macro_rules | `(tactic| walk_at "b0") => `(tactic| ((with_reducible refine' c_depths ?hl ?_); (case hl => walk_at "len")))
local macro_rules | `(tactic| walk_at "b0") => `(tactic| ((with_reducible refine' c_is_right ?hl ?_); (case hl => walk_at "len")))
local macro_rules | `(tactic| walk_at "b0") => `(tactic| ((with_reducible refine' c__law_depths ?hl ?_); (case hl => walk_at "len")))
local macro_rules | `(tactic| walk_at "b0") => `(tactic| ((with_reducible refine' c__law_good ?hl ?_); (case hl => walk_at "len")))
end BM
namespace BM
open PySem L2 Evl
local macro_rules | `(tactic| walk_at "mem") => `(tactic| first | exact List.mem_cons_self | (refine List.mem_cons_of_mem _ ?_; walk_at "mem"))
local macro_rules | `(tactic| walk_at "swap") => `(tactic| first | exact Swap.here | (refine Swap.there ?_; walk_at "swap"))
local macro_rules | `(tactic| walk_at "subl") => `(tactic| first | exact List.Sublist.refl _ | exact List.nil_sublist _ | (refine List.Sublist.cons_cons _ ?_; walk_at "subl") | (refine List.Sublist.cons _ ?_; walk_at "subl"))
local macro_rules | `(tactic| walk_at "sub") => `(tactic| first | exact Sub.refl _ | (refine ⟨?_, ?_⟩ <;> walk_at "subl"))
local macro_rules | `(tactic| walk_at "isl") => `(tactic| first | exact isL_own (by walk_at "mem") | exact isL_old (by assumption) | assumption)
local macro_rules | `(tactic| walk_at "ist") => `(tactic| first | exact isT_own (by walk_at "mem") | exact isT_old (by assumption) | assumption)
local macro_rules | `(tactic| walk_at "len") => `(tactic| first | omega | decide | (simp only [List.length_map, List.length_take, List.length_drop, List.length_append, List.length_cons, List.length_nil, List.length_reverse, dps_len, flp_len]; omega) | (simp [dps_len, flp_len]; omega) | simp)
local macro_rules | `(tactic| walk_at "b0") => `(tactic| first
  | with_reducible refine' ws_set ?_
  | with_reducible refine' ws_par ?_
  | with_reducible refine' ws_asg ?_
  | with_reducible refine' ws_drop ?_
  | with_reducible refine' ws_ret ?_
  | with_reducible refine' ws_if ?_
  | with_reducible refine' ws_next ?_
  | with_reducible refine' ws_brk ?_
  | with_reducible refine' ws_cont ?_
  | ((with_reducible refine' we_var ?hv ?_); case hv => rfl)
  | with_reducible refine' we_c ?_
  | with_reducible refine' we_op ?_
  | with_reducible refine' we_un ?_
  | with_reducible refine' we_if ?_
  | with_reducible refine' we_and ?_
  | with_reducible refine' we_or ?_
  | with_reducible refine' we_not ?_
  | with_reducible refine' wa_nil ?_
  | with_reducible refine' wa_cons ?_
  | (with_reducible refine' we_lst ?_)
  | (with_reducible refine' we_tup ?_)
  | with_reducible refine' we_cb ?_
  | with_reducible refine' we_call0 ?_
  | with_reducible refine' we_sl ?_
  | with_reducible refine' wo_none ?_
  | (with_reducible refine' wo_some ?_)
  | with_reducible refine' wt_test ?_
  | with_reducible refine' wt_B ?_
  | with_reducible refine' wt_and ?_
  | with_reducible refine' wt_or ?_
  | with_reducible refine' wt_not ?_
  | with_reducible refine' wt_yes ?_
  | with_reducible refine' we_chain ?_
  | with_reducible refine' we_chain3 ?_
  | with_reducible refine' we_revT ?_
  | with_reducible refine' we_revL ?_
  | with_reducible refine' we_bm ?_
  | with_reducible refine' we_bm0 ?_
  | with_reducible refine' ws_for ?_
  | with_reducible refine' we_lc ?_
  | with_reducible refine' wi_list ?_
  | with_reducible refine' wi_tup ?_
  | with_reducible refine' wi_T ?_
  | with_reducible refine' wi_rng1 ?_
  | with_reducible refine' wi_rng2 ?_
  | with_reducible refine' wi_rng3 ?_
  | with_reducible refine' wi_enum ?_
  | with_reducible refine' wi_enumT ?_
  | with_reducible refine' wi_zip ?_
  | with_reducible refine' wg_name ?_
  | with_reducible refine' wg_sub ?_
  | with_reducible refine' wgs_nil ?_
  | with_reducible refine' wgs_cons ?_
  | ((with_reducible refine' wg_tup ?ht ?hn ?_); (case ht => walk_at "ist"); (case hn => rfl))
  | with_reducible refine' w2_add ?_
  | with_reducible refine' w2_sub ?_
  | with_reducible refine' w2_lt ?_
  | with_reducible refine' w2_le ?_
  | with_reducible refine' w2_gt ?_
  | with_reducible refine' w2_ge ?_
  | with_reducible refine' w2_eqI ?_
  | with_reducible refine' w2_neI ?_
  | with_reducible refine' w2_eqT ?_
  | with_reducible refine' w2_neT ?_
  | with_reducible refine' w2_eqB ?_
  | with_reducible refine' w2_neB ?_
  | with_reducible refine' w2_isN ?_
  | with_reducible refine' w2_notN ?_
  | with_reducible refine' w2_isB ?_
  | with_reducible refine' w2_inT ?_
  | with_reducible refine' w1_neg ?_
  | with_reducible refine' wl_abs ?_
  | with_reducible refine' wl_max2 ?_
  | with_reducible refine' wl_min2 ?_
  | with_reducible refine' wl_intB ?_
  | ((with_reducible refine' w2_div ?h ?_); case h => first | omega | (constructor <;> omega))
  | ((with_reducible refine' w2_mod ?h ?_); case h => omega)
  | ((with_reducible refine' w2_catT ?h ?_); case h => walk_at "len")
  | ((with_reducible refine' wsl_T ?h ?_); case h => walk_at "len")
  | ((with_reducible refine' wl_lenT ?h ?_); case h => walk_at "len")
  | ((with_reducible refine' wl_len ?h ?_); case h => walk_at "isl")
  | ((with_reducible refine' wl_len ?h ?_); case h => walk_at "isl")
  | ((with_reducible refine' wm_append ?sw ?hl ?_); (case sw => walk_at "swap"); (case hl => walk_at "len")))
local macro_rules | `(tactic| walk_at "b1") => `(tactic| first | with_reducible refine' ws_seq ?_ | walk_at "b0")
local macro_rules | `(tactic| walk_at "bx") => `(tactic| first
  | refine ⟨_, rfl, ?_⟩
  | refine ⟨_, _, rfl, ?_⟩
  | refine ⟨ty_L (by walk_at "isl"), ?_⟩
  | refine ⟨ty_S, ?_⟩
  | refine spl_t (by rfl) ?_
  | refine spl_f (by rfl) ?_
  | exact rfl)
local macro_rules | `(tactic| walk_at "bm") => `(tactic| repeat (first | walk_at "b1" | walk_at "bx"))
local macro_rules | `(tactic| walk_at "bn") => `(tactic| repeat (first | walk_at "b0" | walk_at "bx"))
local macro_rules | `(tactic| walk_at "b0") => `(tactic| with_reducible refine' c_deepens ?_)
local macro_rules | `(tactic| walk_at "b0") => `(tactic| ((with_reducible refine' c_depths_of ?hl ?_); (case hl => walk_at "len")))
local macro_rules | `(tactic| walk_at "b0") => `(tactic| with_reducible refine' c_is_wholeI ?_)
local macro_rules | `(tactic| walk_at "b0") => `(tactic| with_reducible refine' c_flipped ?_)
local macro_rules | `(tactic| walk_at "b0") => `(tactic| ((with_reducible refine' c_is_right_row ?hl ?_); (case hl => walk_at "len")))
local macro_rules | `(tactic| walk_at "b0") => `(tactic| ((with_reducible refine' c_asked_row ?hl ?_); (case hl => walk_at "len")))
local macro_rules | `(tactic| walk_at "b0") => `(tactic| ((with_reducible refine' c_depths ?hl ?_); (case hl => walk_at "len")))
local macro_rules | `(tactic| walk_at "b0") => `(tactic| ((with_reducible refine' c_is_right ?hl ?_); (case hl => walk_at "len")))
local macro_rules | `(tactic| walk_at "b0") => `(tactic| ((with_reducible refine' c__law_depths ?hl ?_); (case hl => walk_at "len")))
local macro_rules | `(tactic| walk_at "b0") => `(tactic| ((with_reducible refine' c__law_good ?hl ?_); (case hl => walk_at "len")))
local macro_rules | `(tactic| walk_at "b0") => `(tactic| ((with_reducible refine' wl_listOf ?hx ?_); (case hx => walk_at "isl")))
local macro_rules | `(tactic| walk_at "b0") => `(tactic| with_reducible refine' w2_notB ?_)
theorem own_l {H0 : Hp} {s : Ld} {p : Addr} {o : HO} (h : (p, o) ∈ s.L) : ∀ H, Own H0 H s → H p = some o := fun H w => (w.own _ h).2
local macro_rules | `(tactic| walk_at "own") => `(tactic| exact own_l (by walk_at "mem"))
end BM
namespace BM
open PySem L2 Evl
local macro_rules | `(tactic| walk_at "mem") => `(tactic| first | exact List.mem_cons_self | (refine List.mem_cons_of_mem _ ?_; walk_at "mem"))
local macro_rules | `(tactic| walk_at "swap") => `(tactic| first | exact Swap.here | (apply Swap.there; walk_at "swap"))
local macro_rules | `(tactic| walk_at "subl") => `(tactic| first | exact List.Sublist.refl _ | exact List.nil_sublist _ | (refine List.Sublist.cons_cons _ ?_; walk_at "subl") | (refine List.Sublist.cons _ ?_; walk_at "subl"))
local macro_rules | `(tactic| walk_at "sub") => `(tactic| first | exact Sub.refl _ | (refine ⟨?_, ?_⟩ <;> walk_at "subl"))
local macro_rules | `(tactic| walk_at "isl") => `(tactic| first | exact isL_own (by walk_at "mem") | exact isL_old (by assumption) | assumption)
local macro_rules | `(tactic| walk_at "ist") => `(tactic| first | exact isT_own (by walk_at "mem") | exact isT_old (by assumption) | assumption)
local macro_rules | `(tactic| walk_at "len") => `(tactic| first | omega | decide | (simp only [List.length_map, List.length_take, List.length_drop, List.length_append, List.length_cons, List.length_nil, List.length_reverse, dps_len, flp_len]; omega) | (simp [dps_len, flp_len]; omega) | simp)
local macro_rules | `(tactic| walk_at "b0") => `(tactic| first
  | with_reducible refine' ws_set ?_
  | with_reducible refine' ws_par ?_
  | with_reducible refine' ws_asg ?_
  | with_reducible refine' ws_drop ?_
  | with_reducible refine' ws_ret ?_
  | with_reducible refine' ws_if ?_
  | with_reducible refine' ws_next ?_
  | with_reducible refine' ws_brk ?_
  | with_reducible refine' ws_cont ?_
  | ((with_reducible refine' we_var ?hv ?_); case hv => rfl)
  | with_reducible refine' we_c ?_
  | with_reducible refine' we_op ?_
  | with_reducible refine' we_un ?_
  | with_reducible refine' we_if ?_
  | with_reducible refine' we_and ?_
  | with_reducible refine' we_or ?_
  | with_reducible refine' we_not ?_
  | with_reducible refine' wa_nil ?_
  | with_reducible refine' wa_cons ?_
  | (with_reducible refine' we_lst ?_)
  | (with_reducible refine' we_tup ?_)
  | with_reducible refine' we_cb ?_
  | with_reducible refine' we_call0 ?_
  | with_reducible refine' we_sl ?_
  | with_reducible refine' wo_none ?_
  | (with_reducible refine' wo_some ?_)
  | with_reducible refine' wt_test ?_
  | with_reducible refine' wt_B ?_
  | with_reducible refine' wt_and ?_
  | with_reducible refine' wt_or ?_
  | with_reducible refine' wt_not ?_
  | with_reducible refine' wt_yes ?_
  | with_reducible refine' we_chain ?_
  | with_reducible refine' we_chain3 ?_
  | with_reducible refine' we_revT ?_
  | with_reducible refine' we_revL ?_
  | with_reducible refine' we_bm ?_
  | with_reducible refine' we_bm0 ?_
  | with_reducible refine' ws_for ?_
  | with_reducible refine' we_lc ?_
  | with_reducible refine' wi_list ?_
  | with_reducible refine' wi_tup ?_
  | with_reducible refine' wi_T ?_
  | with_reducible refine' wi_rng1 ?_
  | with_reducible refine' wi_rng2 ?_
  | with_reducible refine' wi_rng3 ?_
  | with_reducible refine' wi_enum ?_
  | with_reducible refine' wi_enumT ?_
  | with_reducible refine' wi_zip ?_
  | with_reducible refine' wg_name ?_
  | with_reducible refine' wg_sub ?_
  | with_reducible refine' wgs_nil ?_
  | with_reducible refine' wgs_cons ?_
  | ((with_reducible refine' wg_tup ?ht ?hn ?_); (case ht => walk_at "ist"); (case hn => rfl))
  | with_reducible refine' w2_add ?_
  | with_reducible refine' w2_sub ?_
  | with_reducible refine' w2_lt ?_
  | with_reducible refine' w2_le ?_
  | with_reducible refine' w2_gt ?_
  | with_reducible refine' w2_ge ?_
  | with_reducible refine' w2_eqI ?_
  | with_reducible refine' w2_neI ?_
  | with_reducible refine' w2_eqT ?_
  | with_reducible refine' w2_neT ?_
  | with_reducible refine' w2_eqB ?_
  | with_reducible refine' w2_neB ?_
  | with_reducible refine' w2_isN ?_
  | with_reducible refine' w2_notN ?_
  | with_reducible refine' w2_isB ?_
  | with_reducible refine' w2_inT ?_
  | with_reducible refine' w1_neg ?_
  | with_reducible refine' wl_abs ?_
  | with_reducible refine' wl_max2 ?_
  | with_reducible refine' wl_min2 ?_
  | with_reducible refine' wl_intB ?_
  | ((with_reducible refine' w2_div ?h ?_); case h => first | omega | (constructor <;> omega))
  | ((with_reducible refine' w2_mod ?h ?_); case h => omega)
  | ((with_reducible refine' w2_catT ?h ?_); case h => walk_at "len")
  | ((with_reducible refine' wsl_T ?h ?_); case h => walk_at "len")
  | ((with_reducible refine' wl_lenT ?h ?_); case h => walk_at "len")
  | ((with_reducible refine' wl_len ?h ?_); case h => walk_at "isl")
  | ((with_reducible refine' wl_len ?h ?_); case h => walk_at "isl")
  | ((with_reducible refine' wm_append ?sw ?hl ?_); (case sw => walk_at "swap"); (case hl => walk_at "len")))
local macro_rules | `(tactic| walk_at "b1") => `(tactic| first | with_reducible refine' ws_seq ?_ | walk_at "b0")
local macro_rules | `(tactic| walk_at "bx") => `(tactic| first
  | refine ⟨_, rfl, ?_⟩
  | refine ⟨_, _, rfl, ?_⟩
  | refine ⟨ty_L (by walk_at "isl"), ?_⟩
  | refine ⟨ty_S, ?_⟩
  | refine spl_t (by rfl) ?_
  | refine spl_f (by rfl) ?_
  | exact rfl)
local macro_rules | `(tactic| walk_at "bm") => `(tactic| repeat (first | walk_at "b1" | walk_at "bx"))
local macro_rules | `(tactic| walk_at "bn") => `(tactic| repeat (first | walk_at "b0" | walk_at "bx"))
local macro_rules | `(tactic| walk_at "b0") => `(tactic| with_reducible refine' c_deepens ?_)
local macro_rules | `(tactic| walk_at "b0") => `(tactic| ((with_reducible refine' c_depths_of ?hl ?_); (case hl => walk_at "len")))
local macro_rules | `(tactic| walk_at "b0") => `(tactic| with_reducible refine' c_is_wholeI ?_)
local macro_rules | `(tactic| walk_at "b0") => `(tactic| with_reducible refine' c_flipped ?_)
local macro_rules | `(tactic| walk_at "b0") => `(tactic| ((with_reducible refine' c_is_right_row ?hl ?_); (case hl => walk_at "len")))
local macro_rules | `(tactic| walk_at "b0") => `(tactic| ((with_reducible refine' c_asked_row ?hl ?_); (case hl => walk_at "len")))
local macro_rules | `(tactic| walk_at "b0") => `(tactic| ((with_reducible refine' c_depths ?hl ?_); (case hl => walk_at "len")))
local macro_rules | `(tactic| walk_at "b0") => `(tactic| ((with_reducible refine' c_is_right ?hl ?_); (case hl => walk_at "len")))
local macro_rules | `(tactic| walk_at "b0") => `(tactic| ((with_reducible refine' c__law_depths ?hl ?_); (case hl => walk_at "len")))
local macro_rules | `(tactic| walk_at "b0") => `(tactic| ((with_reducible refine' c__law_good ?hl ?_); (case hl => walk_at "len")))
local macro_rules | `(tactic| walk_at "b0") => `(tactic| ((with_reducible refine' wl_listOf ?hx ?_); (case hx => walk_at "isl")))
local macro_rules | `(tactic| walk_at "b0") => `(tactic| with_reducible refine' w2_notB ?_)
local macro_rules | `(tactic| walk_at "own") => `(tactic| exact own_l (by walk_at "mem"))
theorem Paired.one {α β : Type} {R : α → β → Prop} {xs : List α} {ys : List β} (h : Paired R xs ys) {x : α} {y : β} (r : R x y) : Paired R (xs ++ [x]) (ys ++ [y]) := by
  induction h with
  | nil => exact .cons r .nil
  | cons a t ih => exact .cons a ih
theorem Paired.len {α β : Type} {R : α → β → Prop} {xs : List α} {ys : List β} (h : Paired R xs ys) : xs.length = ys.length := by
  induction h with
  | nil => rfl
  | cons a t ih => rw [List.length_cons, List.length_cons, ih]
end BM
namespace BM
open PySem PySem.Spec PyProof.Rows L2 Evl
/-! ### methods in a try's body -/
/-! ### objects in the ledger -/
def del (g : Addr) (H : Hp) : Hp := fun a => if a = g then none else H a
theorem del_same {g : Addr} {H : Hp} : del g H g = none := if_pos rfl
theorem del_ne {g a : Addr} {H : Hp} (h : a ≠ g) : del g H a = H a := if_neg h
theorem own_del {H : Hp} {g : Addr} {o : HO} (h : H g = some o) : Own (del g H) H ⟨[(g, o)], []⟩ := by
  refine ⟨fun a u hu => ?_, List.nodup_cons.mpr ⟨by simp, List.nodup_nil⟩, fun e he => ?_, fun t ht => nomatch ht⟩
  · by_cases ha : a = g
    · rw [ha, del_same] at hu
      cases hu
    · rw [del_ne ha] at hu
      exact hu
  · rw [List.mem_singleton.mp he]
    exact ⟨del_same, h⟩
theorem own_after {H0 H H' : Hp} {s : Ld} {g : Addr} {o o' : HO} {L' : List (Addr × HO)} (w : Own H0 H s) (sw : Swap g o o' s.L L') (nt : NotTup o) (e : Ex (del g H) H') (h : H' g = some o') : Own H0 H' ⟨L', s.T⟩ := by
  have hg := w.own _ sw.mem
  have keep : ∀ a u, a ≠ g → H a = some u → H' a = some u := fun a u ha hu => e _ _ (by rw [del_ne ha]; exact hu)
  refine ⟨fun a u hu => keep a u (fun x => ?_) (w.ex _ _ hu), by rw [sw.keys]; exact w.nd, fun x hx => ?_, fun t ht => keep _ _ (fun z => ?_) (w.tp t ht)⟩
  · rw [x, hg.1] at hu
    cases hu
  · rcases sw.of_mem w.nd x hx with rfl | ⟨h1, h2⟩
    · exact ⟨hg.1, h⟩
    · exact ⟨(w.own x h1).1, keep _ _ h2 (w.own x h1).2⟩
  · have := w.tp t ht
    rw [z, hg.2] at this
    cases this
    exact nt
section
variable {K : PySem.W.Frag} {H0 : Hp} {σ : L2.St} {s : Ld} {ta : TA} {te tv : TE} {Q : V → Ld → Prop} {D : Dl} {f m : Str} {E : XK} {C : Addr} {sp : Sp} {vs : List V}
theorem we_fld (h : WE H0 te σ s fun x s1 => ∃ a C dx fs v, x = .ref a ∧ (∀ H, Own H0 H s1 → H a = some (.ins C dx fs)) ∧ Cls K C ∧ NoAttr K C f ∧ fs.lookup f = some v ∧ Q v s1) : WE H0 (tFld K te f) σ s Q := fun H o R k =>
  h H o _ fun x H1 s1 o1 ⟨a, C, dx, fs, v, e, ha, hc, hn, hl, q⟩ => ⟨a, C, dx, fs, v, e, ha H1 o1, hc, hn, hl, k _ _ _ o1 q⟩
theorem ws_fld (h : WE H0 tv σ s fun y s1 => WE H0 te σ s1 fun x s2 => ∃ a C dx fs L', x = .ref a ∧ Swap a (.ins C dx fs) (.ins C dx (putF f y fs)) s2.L L' ∧ Cls K C ∧ NoAttr K C f ∧ fs.length < 1000 ∧ D.nx σ ⟨L', s2.T⟩) : WS H0 (sFld K te tv f) σ s D := fun H o E l =>
  h H o _ fun y H1 s1 o1 h1 => h1 H1 o1 _ fun x H2 s2 o2 ⟨a, C, dx, fs, L', e, sw, hc, hn, hl, q⟩ => ⟨a, C, dx, fs, e, (o2.own _ sw.mem).2, hc, hn, hl, l.nx _ _ _ (o2.swap sw trivial) q⟩
theorem we_meth {dvs : List V} (h : WE H0 te σ s fun x s1 => ∃ a dx fs, x = .ref a ∧ (∀ H, Own H0 H s1 → H a = some (.ins C dx fs)) ∧ fs.lookup m = none ∧ WA H0 ta σ s1 fun vs s2 => WC H0 sp E (x :: (vs ++ dvs)) s2 Q) : WE H0 (tMeth C m sp dvs E te ta) σ s Q := fun H o R k =>
  h H o _ fun x H1 s1 o1 ⟨a, dx, fs, e, ha, hl, h1⟩ => ⟨a, dx, fs, e, ha H1 o1, hl, h1 H1 o1 _ fun vs H2 s2 o2 h2 => h2 H2 o2 R k⟩
theorem we_make {dvs : List V} (h : WA H0 ta σ s fun vs s1 => ∀ x dx, H0 x = none → H0 dx = none → dx ≠ x → WC H0 sp E (.ref x :: (vs ++ dvs)) ⟨(x, .ins C dx []) :: (dx, .own x) :: s1.L, s1.T⟩ fun v s2 => v = .non ∧ Q (.ref x) s2) : WE H0 (tMake C sp dvs E ta) σ s Q := fun H o R k =>
  h H o _ fun vs H1 s1 o1 h1 => fun x dx hx hdx hne => by
    have o2 := o1.new (u := .own x) hdx
    have hx2 : (upd H1 dx (.own x)) x = none := by rw [upd_ne hne.symm]; exact hx
    exact h1 x dx (fresh_back o1.ex hx) (fresh_back o1.ex hdx) hne _ (o2.new (u := .ins C dx []) hx2) _ fun v H2 s2 o3 ⟨e, q⟩ => ⟨e, k _ _ _ o3 q⟩
end
end BM
namespace BM
/-! ### what a row lacks -/
def lkS (p : Int × Int) (b : Bool) : Int × Int := if b then (p.1, p.2 + 1) else if p.2 > 0 then (p.1, p.2 - 1) else (p.1 + 1, p.2)
def lk (r : List Bool) : Int × Int := r.foldl lkS (0, 0)
theorem snoc_ind {P : List Bool → Prop} (h0 : P []) (h1 : ∀ r b, P r → P (r ++ [b])) (r : List Bool) : P r := by
  have : ∀ n (r : List Bool), r.length = n → P r := by
    intro n
    induction n with
    | zero =>
      intro r h
      rw [List.length_eq_zero_iff.mp h]
      exact h0
    | succ n ih =>
      intro r h
      have hne : r ≠ [] := fun e => by rw [e] at h; cases h
      rw [← List.dropLast_concat_getLast hne]
      exact h1 _ _ (ih _ (by rw [List.length_dropLast, h]; rfl))
  exact this _ r rfl
/-! ### the longest right stretch -/
theorem hgt_par7 (r : List Bool) : (hgt r - (r.length : Int)) % 2 = 0 := by
  induction r using snoc_ind with
  | h0 => rfl
  | h1 r b ih =>
    rw [hgt_app, List.length_append]
    cases b <;> simp [hgt, sg] <;> omega
end BM
namespace BM
open PySem L2 Evl
/-- the class Growing as it stands -/
structure Grw (K : PySem.W.Frag) (C : CA) : Prop where
  cl : Cls K C.c_Growing
  nr : NoAttr K C.c_Growing "row"
end BM
namespace BM
open PySem L2 Evl
local macro_rules | `(tactic| walk_at "mem") => `(tactic| first | exact List.mem_cons_self | (refine List.mem_cons_of_mem _ ?_; walk_at "mem"))
local macro_rules | `(tactic| walk_at "swap") => `(tactic| first | exact Swap.here | (apply Swap.there; walk_at "swap"))
local macro_rules | `(tactic| walk_at "subl") => `(tactic| first | exact List.Sublist.refl _ | exact List.nil_sublist _ | (refine List.Sublist.cons_cons _ ?_; walk_at "subl") | (refine List.Sublist.cons _ ?_; walk_at "subl"))
local macro_rules | `(tactic| walk_at "sub") => `(tactic| first | exact Sub.refl _ | (refine ⟨?_, ?_⟩ <;> walk_at "subl"))
local macro_rules | `(tactic| walk_at "isl") => `(tactic| first | exact isL_own (by walk_at "mem") | exact isL_old (by assumption) | assumption)
local macro_rules | `(tactic| walk_at "ist") => `(tactic| first | exact isT_own (by walk_at "mem") | exact isT_old (by assumption) | assumption)
local macro_rules | `(tactic| walk_at "len") => `(tactic| first | omega | decide | (simp only [List.length_map, List.length_take, List.length_drop, List.length_append, List.length_cons, List.length_nil, List.length_reverse, dps_len, flp_len]; omega) | (simp [dps_len, flp_len]; omega) | simp)
local macro_rules | `(tactic| walk_at "b0") => `(tactic| first
  | with_reducible refine' ws_set ?_
  | with_reducible refine' ws_par ?_
  | with_reducible refine' ws_asg ?_
  | with_reducible refine' ws_drop ?_
  | with_reducible refine' ws_ret ?_
  | with_reducible refine' ws_if ?_
  | with_reducible refine' ws_next ?_
  | with_reducible refine' ws_brk ?_
  | with_reducible refine' ws_cont ?_
  | ((with_reducible refine' we_var ?hv ?_); case hv => rfl)
  | with_reducible refine' we_c ?_
  | with_reducible refine' we_op ?_
  | with_reducible refine' we_un ?_
  | with_reducible refine' we_if ?_
  | with_reducible refine' we_and ?_
  | with_reducible refine' we_or ?_
  | with_reducible refine' we_not ?_
  | with_reducible refine' wa_nil ?_
  | with_reducible refine' wa_cons ?_
  | (with_reducible refine' we_lst ?_)
  | (with_reducible refine' we_tup ?_)
  | with_reducible refine' we_cb ?_
  | with_reducible refine' we_call0 ?_
  | with_reducible refine' we_sl ?_
  | with_reducible refine' wo_none ?_
  | (with_reducible refine' wo_some ?_)
  | with_reducible refine' wt_test ?_
  | with_reducible refine' wt_B ?_
  | with_reducible refine' wt_and ?_
  | with_reducible refine' wt_or ?_
  | with_reducible refine' wt_not ?_
  | with_reducible refine' wt_yes ?_
  | with_reducible refine' we_chain ?_
  | with_reducible refine' we_chain3 ?_
  | with_reducible refine' we_revT ?_
  | with_reducible refine' we_revL ?_
  | with_reducible refine' we_bm ?_
  | with_reducible refine' we_bm0 ?_
  | with_reducible refine' ws_for ?_
  | with_reducible refine' we_lc ?_
  | with_reducible refine' wi_list ?_
  | with_reducible refine' wi_tup ?_
  | with_reducible refine' wi_T ?_
  | with_reducible refine' wi_rng1 ?_
  | with_reducible refine' wi_rng2 ?_
  | with_reducible refine' wi_rng3 ?_
  | with_reducible refine' wi_enum ?_
  | with_reducible refine' wi_enumT ?_
  | with_reducible refine' wi_zip ?_
  | with_reducible refine' wg_name ?_
  | with_reducible refine' wg_sub ?_
  | with_reducible refine' wgs_nil ?_
  | with_reducible refine' wgs_cons ?_
  | ((with_reducible refine' wg_tup ?ht ?hn ?_); (case ht => walk_at "ist"); (case hn => rfl))
  | with_reducible refine' w2_add ?_
  | with_reducible refine' w2_sub ?_
  | with_reducible refine' w2_lt ?_
  | with_reducible refine' w2_le ?_
  | with_reducible refine' w2_gt ?_
  | with_reducible refine' w2_ge ?_
  | with_reducible refine' w2_eqI ?_
  | with_reducible refine' w2_neI ?_
  | with_reducible refine' w2_eqT ?_
  | with_reducible refine' w2_neT ?_
  | with_reducible refine' w2_eqB ?_
  | with_reducible refine' w2_neB ?_
  | with_reducible refine' w2_isN ?_
  | with_reducible refine' w2_notN ?_
  | with_reducible refine' w2_isB ?_
  | with_reducible refine' w2_inT ?_
  | with_reducible refine' w1_neg ?_
  | with_reducible refine' wl_abs ?_
  | with_reducible refine' wl_max2 ?_
  | with_reducible refine' wl_min2 ?_
  | with_reducible refine' wl_intB ?_
  | ((with_reducible refine' w2_div ?h ?_); case h => first | omega | (constructor <;> omega))
  | ((with_reducible refine' w2_mod ?h ?_); case h => omega)
  | ((with_reducible refine' w2_catT ?h ?_); case h => walk_at "len")
  | ((with_reducible refine' wsl_T ?h ?_); case h => walk_at "len")
  | ((with_reducible refine' wl_lenT ?h ?_); case h => walk_at "len")
  | ((with_reducible refine' wl_len ?h ?_); case h => walk_at "isl")
  | ((with_reducible refine' wl_len ?h ?_); case h => walk_at "isl")
  | ((with_reducible refine' wm_append ?sw ?hl ?_); (case sw => walk_at "swap"); (case hl => walk_at "len")))
local macro_rules | `(tactic| walk_at "b1") => `(tactic| first | with_reducible refine' ws_seq ?_ | walk_at "b0")
local macro_rules | `(tactic| walk_at "bx") => `(tactic| first
  | refine ⟨_, rfl, ?_⟩
  | refine ⟨_, _, rfl, ?_⟩
  | refine ⟨ty_L (by walk_at "isl"), ?_⟩
  | refine ⟨ty_S, ?_⟩
  | refine spl_t (by rfl) ?_
  | refine spl_f (by rfl) ?_
  | exact rfl)
local macro_rules | `(tactic| walk_at "bm") => `(tactic| repeat (first | walk_at "b1" | walk_at "bx"))
local macro_rules | `(tactic| walk_at "bn") => `(tactic| repeat (first | walk_at "b0" | walk_at "bx"))
local macro_rules | `(tactic| walk_at "b0") => `(tactic| with_reducible refine' c_deepens ?_)
local macro_rules | `(tactic| walk_at "b0") => `(tactic| ((with_reducible refine' c_depths_of ?hl ?_); (case hl => walk_at "len")))
local macro_rules | `(tactic| walk_at "b0") => `(tactic| with_reducible refine' c_is_wholeI ?_)
local macro_rules | `(tactic| walk_at "b0") => `(tactic| with_reducible refine' c_flipped ?_)
local macro_rules | `(tactic| walk_at "b0") => `(tactic| ((with_reducible refine' c_is_right_row ?hl ?_); (case hl => walk_at "len")))
local macro_rules | `(tactic| walk_at "b0") => `(tactic| ((with_reducible refine' c_asked_row ?hl ?_); (case hl => walk_at "len")))
local macro_rules | `(tactic| walk_at "b0") => `(tactic| ((with_reducible refine' c_depths ?hl ?_); (case hl => walk_at "len")))
local macro_rules | `(tactic| walk_at "b0") => `(tactic| ((with_reducible refine' c_is_right ?hl ?_); (case hl => walk_at "len")))
local macro_rules | `(tactic| walk_at "b0") => `(tactic| ((with_reducible refine' c__law_depths ?hl ?_); (case hl => walk_at "len")))
local macro_rules | `(tactic| walk_at "b0") => `(tactic| ((with_reducible refine' c__law_good ?hl ?_); (case hl => walk_at "len")))
local macro_rules | `(tactic| walk_at "b0") => `(tactic| ((with_reducible refine' wl_listOf ?hx ?_); (case hx => walk_at "isl")))
local macro_rules | `(tactic| walk_at "b0") => `(tactic| with_reducible refine' w2_notB ?_)
local macro_rules | `(tactic| walk_at "own") => `(tactic| exact own_l (by walk_at "mem"))
local macro_rules | `(tactic| walk_at "b0") => `(tactic| with_reducible refine' we_fld ?_)
local macro_rules | `(tactic| walk_at "b0") => `(tactic| refine ⟨_, _, _, _, _, rfl, own_l (by walk_at "mem"), Grw.cl (by assumption), Grw.nr (by assumption), by rfl, ?_⟩)
local macro_rules | `(tactic| walk_at "b0") => `(tactic| refine ⟨_, _, _, _, _, rfl, fun H' o => o.ex _ _ (by assumption), Grw.cl (by assumption), Grw.nr (by assumption), by rfl, ?_⟩)
end BM
namespace BM
open PySem L2 Evl
local macro_rules | `(tactic| walk_at "mem") => `(tactic| first | exact List.mem_cons_self | (refine List.mem_cons_of_mem _ ?_; walk_at "mem"))
local macro_rules | `(tactic| walk_at "swap") => `(tactic| first | exact Swap.here | (apply Swap.there; walk_at "swap"))
local macro_rules | `(tactic| walk_at "subl") => `(tactic| first | exact List.Sublist.refl _ | exact List.nil_sublist _ | (refine List.Sublist.cons_cons _ ?_; walk_at "subl") | (refine List.Sublist.cons _ ?_; walk_at "subl"))
local macro_rules | `(tactic| walk_at "sub") => `(tactic| first | exact Sub.refl _ | (refine ⟨?_, ?_⟩ <;> walk_at "subl"))
local macro_rules | `(tactic| walk_at "isl") => `(tactic| first | exact isL_own (by walk_at "mem") | exact isL_old (by assumption) | assumption)
local macro_rules | `(tactic| walk_at "ist") => `(tactic| first | exact isT_own (by walk_at "mem") | exact isT_old (by assumption) | assumption)
local macro_rules | `(tactic| walk_at "len") => `(tactic| first | omega | decide | (simp only [List.length_map, List.length_take, List.length_drop, List.length_append, List.length_cons, List.length_nil, List.length_reverse, dps_len, flp_len]; omega) | (simp [dps_len, flp_len]; omega) | simp)
local macro_rules | `(tactic| walk_at "b0") => `(tactic| first
  | with_reducible refine' ws_set ?_
  | with_reducible refine' ws_par ?_
  | with_reducible refine' ws_asg ?_
  | with_reducible refine' ws_drop ?_
  | with_reducible refine' ws_ret ?_
  | with_reducible refine' ws_if ?_
  | with_reducible refine' ws_next ?_
  | with_reducible refine' ws_brk ?_
  | with_reducible refine' ws_cont ?_
  | ((with_reducible refine' we_var ?hv ?_); case hv => rfl)
  | with_reducible refine' we_c ?_
  | with_reducible refine' we_op ?_
  | with_reducible refine' we_un ?_
  | with_reducible refine' we_if ?_
  | with_reducible refine' we_and ?_
  | with_reducible refine' we_or ?_
  | with_reducible refine' we_not ?_
  | with_reducible refine' wa_nil ?_
  | with_reducible refine' wa_cons ?_
  | (with_reducible refine' we_lst ?_)
  | (with_reducible refine' we_tup ?_)
  | with_reducible refine' we_cb ?_
  | with_reducible refine' we_call0 ?_
  | with_reducible refine' we_sl ?_
  | with_reducible refine' wo_none ?_
  | (with_reducible refine' wo_some ?_)
  | with_reducible refine' wt_test ?_
  | with_reducible refine' wt_B ?_
  | with_reducible refine' wt_and ?_
  | with_reducible refine' wt_or ?_
  | with_reducible refine' wt_not ?_
  | with_reducible refine' wt_yes ?_
  | with_reducible refine' we_chain ?_
  | with_reducible refine' we_chain3 ?_
  | with_reducible refine' we_revT ?_
  | with_reducible refine' we_revL ?_
  | with_reducible refine' we_bm ?_
  | with_reducible refine' we_bm0 ?_
  | with_reducible refine' ws_for ?_
  | with_reducible refine' we_lc ?_
  | with_reducible refine' wi_list ?_
  | with_reducible refine' wi_tup ?_
  | with_reducible refine' wi_T ?_
  | with_reducible refine' wi_rng1 ?_
  | with_reducible refine' wi_rng2 ?_
  | with_reducible refine' wi_rng3 ?_
  | with_reducible refine' wi_enum ?_
  | with_reducible refine' wi_enumT ?_
  | with_reducible refine' wi_zip ?_
  | with_reducible refine' wg_name ?_
  | with_reducible refine' wg_sub ?_
  | with_reducible refine' wgs_nil ?_
  | with_reducible refine' wgs_cons ?_
  | ((with_reducible refine' wg_tup ?ht ?hn ?_); (case ht => walk_at "ist"); (case hn => rfl))
  | with_reducible refine' w2_add ?_
  | with_reducible refine' w2_sub ?_
  | with_reducible refine' w2_lt ?_
  | with_reducible refine' w2_le ?_
  | with_reducible refine' w2_gt ?_
  | with_reducible refine' w2_ge ?_
  | with_reducible refine' w2_eqI ?_
  | with_reducible refine' w2_neI ?_
  | with_reducible refine' w2_eqT ?_
  | with_reducible refine' w2_neT ?_
  | with_reducible refine' w2_eqB ?_
  | with_reducible refine' w2_neB ?_
  | with_reducible refine' w2_isN ?_
  | with_reducible refine' w2_notN ?_
  | with_reducible refine' w2_isB ?_
  | with_reducible refine' w2_inT ?_
  | with_reducible refine' w1_neg ?_
  | with_reducible refine' wl_abs ?_
  | with_reducible refine' wl_max2 ?_
  | with_reducible refine' wl_min2 ?_
  | with_reducible refine' wl_intB ?_
  | ((with_reducible refine' w2_div ?h ?_); case h => first | omega | (constructor <;> omega))
  | ((with_reducible refine' w2_mod ?h ?_); case h => omega)
  | ((with_reducible refine' w2_catT ?h ?_); case h => walk_at "len")
  | ((with_reducible refine' wsl_T ?h ?_); case h => walk_at "len")
  | ((with_reducible refine' wl_lenT ?h ?_); case h => walk_at "len")
  | ((with_reducible refine' wl_len ?h ?_); case h => walk_at "isl")
  | ((with_reducible refine' wl_len ?h ?_); case h => walk_at "isl")
  | ((with_reducible refine' wm_append ?sw ?hl ?_); (case sw => walk_at "swap"); (case hl => walk_at "len")))
local macro_rules | `(tactic| walk_at "b1") => `(tactic| first | with_reducible refine' ws_seq ?_ | walk_at "b0")
local macro_rules | `(tactic| walk_at "bx") => `(tactic| first
  | refine ⟨_, rfl, ?_⟩
  | refine ⟨_, _, rfl, ?_⟩
  | refine ⟨ty_L (by walk_at "isl"), ?_⟩
  | refine ⟨ty_S, ?_⟩
  | refine spl_t (by rfl) ?_
  | refine spl_f (by rfl) ?_
  | exact rfl)
local macro_rules | `(tactic| walk_at "bm") => `(tactic| repeat (first | walk_at "b1" | walk_at "bx"))
local macro_rules | `(tactic| walk_at "bn") => `(tactic| repeat (first | walk_at "b0" | walk_at "bx"))
local macro_rules | `(tactic| walk_at "b0") => `(tactic| with_reducible refine' c_deepens ?_)
local macro_rules | `(tactic| walk_at "b0") => `(tactic| ((with_reducible refine' c_depths_of ?hl ?_); (case hl => walk_at "len")))
local macro_rules | `(tactic| walk_at "b0") => `(tactic| with_reducible refine' c_is_wholeI ?_)
local macro_rules | `(tactic| walk_at "b0") => `(tactic| with_reducible refine' c_flipped ?_)
local macro_rules | `(tactic| walk_at "b0") => `(tactic| ((with_reducible refine' c_is_right_row ?hl ?_); (case hl => walk_at "len")))
local macro_rules | `(tactic| walk_at "b0") => `(tactic| ((with_reducible refine' c_asked_row ?hl ?_); (case hl => walk_at "len")))
local macro_rules | `(tactic| walk_at "b0") => `(tactic| ((with_reducible refine' c_depths ?hl ?_); (case hl => walk_at "len")))
local macro_rules | `(tactic| walk_at "b0") => `(tactic| ((with_reducible refine' c_is_right ?hl ?_); (case hl => walk_at "len")))
local macro_rules | `(tactic| walk_at "b0") => `(tactic| ((with_reducible refine' c__law_depths ?hl ?_); (case hl => walk_at "len")))
local macro_rules | `(tactic| walk_at "b0") => `(tactic| ((with_reducible refine' c__law_good ?hl ?_); (case hl => walk_at "len")))
local macro_rules | `(tactic| walk_at "b0") => `(tactic| ((with_reducible refine' wl_listOf ?hx ?_); (case hx => walk_at "isl")))
local macro_rules | `(tactic| walk_at "b0") => `(tactic| with_reducible refine' w2_notB ?_)
local macro_rules | `(tactic| walk_at "own") => `(tactic| exact own_l (by walk_at "mem"))
local macro_rules | `(tactic| walk_at "b0") => `(tactic| with_reducible refine' we_fld ?_)
local macro_rules | `(tactic| walk_at "b0") => `(tactic| refine ⟨_, _, _, _, _, rfl, own_l (by walk_at "mem"), Grw.cl (by assumption), Grw.nr (by assumption), by rfl, ?_⟩)
local macro_rules | `(tactic| walk_at "b0") => `(tactic| refine ⟨_, _, _, _, _, rfl, fun H' o => o.ex _ _ (by assumption), Grw.cl (by assumption), Grw.nr (by assumption), by rfl, ?_⟩)
end BM
namespace BM
open PySem L2 Evl
local macro_rules | `(tactic| walk_at "mem") => `(tactic| first | exact List.mem_cons_self | (refine List.mem_cons_of_mem _ ?_; walk_at "mem"))
local macro_rules | `(tactic| walk_at "swap") => `(tactic| first | exact Swap.here | (apply Swap.there; walk_at "swap"))
local macro_rules | `(tactic| walk_at "subl") => `(tactic| first | exact List.Sublist.refl _ | exact List.nil_sublist _ | (refine List.Sublist.cons_cons _ ?_; walk_at "subl") | (refine List.Sublist.cons _ ?_; walk_at "subl"))
local macro_rules | `(tactic| walk_at "sub") => `(tactic| first | exact Sub.refl _ | (refine ⟨?_, ?_⟩ <;> walk_at "subl"))
local macro_rules | `(tactic| walk_at "isl") => `(tactic| first | exact isL_own (by walk_at "mem") | exact isL_old (by assumption) | assumption)
local macro_rules | `(tactic| walk_at "ist") => `(tactic| first | exact isT_own (by walk_at "mem") | exact isT_old (by assumption) | assumption)
local macro_rules | `(tactic| walk_at "len") => `(tactic| first | omega | decide | (simp only [List.length_map, List.length_take, List.length_drop, List.length_append, List.length_cons, List.length_nil, List.length_reverse, dps_len, flp_len]; omega) | (simp [dps_len, flp_len]; omega) | simp)
local macro_rules | `(tactic| walk_at "b0") => `(tactic| first
  | with_reducible refine' ws_set ?_
  | with_reducible refine' ws_par ?_
  | with_reducible refine' ws_asg ?_
  | with_reducible refine' ws_drop ?_
  | with_reducible refine' ws_ret ?_
  | with_reducible refine' ws_if ?_
  | with_reducible refine' ws_next ?_
  | with_reducible refine' ws_brk ?_
  | with_reducible refine' ws_cont ?_
  | ((with_reducible refine' we_var ?hv ?_); case hv => rfl)
  | with_reducible refine' we_c ?_
  | with_reducible refine' we_op ?_
  | with_reducible refine' we_un ?_
  | with_reducible refine' we_if ?_
  | with_reducible refine' we_and ?_
  | with_reducible refine' we_or ?_
  | with_reducible refine' we_not ?_
  | with_reducible refine' wa_nil ?_
  | with_reducible refine' wa_cons ?_
  | (with_reducible refine' we_lst ?_)
  | (with_reducible refine' we_tup ?_)
  | with_reducible refine' we_cb ?_
  | with_reducible refine' we_call0 ?_
  | with_reducible refine' we_sl ?_
  | with_reducible refine' wo_none ?_
  | (with_reducible refine' wo_some ?_)
  | with_reducible refine' wt_test ?_
  | with_reducible refine' wt_B ?_
  | with_reducible refine' wt_and ?_
  | with_reducible refine' wt_or ?_
  | with_reducible refine' wt_not ?_
  | with_reducible refine' wt_yes ?_
  | with_reducible refine' we_chain ?_
  | with_reducible refine' we_chain3 ?_
  | with_reducible refine' we_revT ?_
  | with_reducible refine' we_revL ?_
  | with_reducible refine' we_bm ?_
  | with_reducible refine' we_bm0 ?_
  | with_reducible refine' ws_for ?_
  | with_reducible refine' we_lc ?_
  | with_reducible refine' wi_list ?_
  | with_reducible refine' wi_tup ?_
  | with_reducible refine' wi_T ?_
  | with_reducible refine' wi_rng1 ?_
  | with_reducible refine' wi_rng2 ?_
  | with_reducible refine' wi_rng3 ?_
  | with_reducible refine' wi_enum ?_
  | with_reducible refine' wi_enumT ?_
  | with_reducible refine' wi_zip ?_
  | with_reducible refine' wg_name ?_
  | with_reducible refine' wg_sub ?_
  | with_reducible refine' wgs_nil ?_
  | with_reducible refine' wgs_cons ?_
  | ((with_reducible refine' wg_tup ?ht ?hn ?_); (case ht => walk_at "ist"); (case hn => rfl))
  | with_reducible refine' w2_add ?_
  | with_reducible refine' w2_sub ?_
  | with_reducible refine' w2_lt ?_
  | with_reducible refine' w2_le ?_
  | with_reducible refine' w2_gt ?_
  | with_reducible refine' w2_ge ?_
  | with_reducible refine' w2_eqI ?_
  | with_reducible refine' w2_neI ?_
  | with_reducible refine' w2_eqT ?_
  | with_reducible refine' w2_neT ?_
  | with_reducible refine' w2_eqB ?_
  | with_reducible refine' w2_neB ?_
  | with_reducible refine' w2_isN ?_
  | with_reducible refine' w2_notN ?_
  | with_reducible refine' w2_isB ?_
  | with_reducible refine' w2_inT ?_
  | with_reducible refine' w1_neg ?_
  | with_reducible refine' wl_abs ?_
  | with_reducible refine' wl_max2 ?_
  | with_reducible refine' wl_min2 ?_
  | with_reducible refine' wl_intB ?_
  | ((with_reducible refine' w2_div ?h ?_); case h => first | omega | (constructor <;> omega))
  | ((with_reducible refine' w2_mod ?h ?_); case h => omega)
  | ((with_reducible refine' w2_catT ?h ?_); case h => walk_at "len")
  | ((with_reducible refine' wsl_T ?h ?_); case h => walk_at "len")
  | ((with_reducible refine' wl_lenT ?h ?_); case h => walk_at "len")
  | ((with_reducible refine' wl_len ?h ?_); case h => walk_at "isl")
  | ((with_reducible refine' wl_len ?h ?_); case h => walk_at "isl")
  | ((with_reducible refine' wm_append ?sw ?hl ?_); (case sw => walk_at "swap"); (case hl => walk_at "len")))
local macro_rules | `(tactic| walk_at "b1") => `(tactic| first | with_reducible refine' ws_seq ?_ | walk_at "b0")
local macro_rules | `(tactic| walk_at "bx") => `(tactic| first
  | refine ⟨_, rfl, ?_⟩
  | refine ⟨_, _, rfl, ?_⟩
  | refine ⟨ty_L (by walk_at "isl"), ?_⟩
  | refine ⟨ty_S, ?_⟩
  | refine spl_t (by rfl) ?_
  | refine spl_f (by rfl) ?_
  | exact rfl)
local macro_rules | `(tactic| walk_at "bm") => `(tactic| repeat (first | walk_at "b1" | walk_at "bx"))
local macro_rules | `(tactic| walk_at "bn") => `(tactic| repeat (first | walk_at "b0" | walk_at "bx"))
local macro_rules | `(tactic| walk_at "b0") => `(tactic| with_reducible refine' c_deepens ?_)
local macro_rules | `(tactic| walk_at "b0") => `(tactic| ((with_reducible refine' c_depths_of ?hl ?_); (case hl => walk_at "len")))
local macro_rules | `(tactic| walk_at "b0") => `(tactic| with_reducible refine' c_is_wholeI ?_)
local macro_rules | `(tactic| walk_at "b0") => `(tactic| with_reducible refine' c_flipped ?_)
local macro_rules | `(tactic| walk_at "b0") => `(tactic| ((with_reducible refine' c_is_right_row ?hl ?_); (case hl => walk_at "len")))
local macro_rules | `(tactic| walk_at "b0") => `(tactic| ((with_reducible refine' c_asked_row ?hl ?_); (case hl => walk_at "len")))
local macro_rules | `(tactic| walk_at "b0") => `(tactic| ((with_reducible refine' c_depths ?hl ?_); (case hl => walk_at "len")))
local macro_rules | `(tactic| walk_at "b0") => `(tactic| ((with_reducible refine' c_is_right ?hl ?_); (case hl => walk_at "len")))
local macro_rules | `(tactic| walk_at "b0") => `(tactic| ((with_reducible refine' c__law_depths ?hl ?_); (case hl => walk_at "len")))
local macro_rules | `(tactic| walk_at "b0") => `(tactic| ((with_reducible refine' c__law_good ?hl ?_); (case hl => walk_at "len")))
local macro_rules | `(tactic| walk_at "b0") => `(tactic| ((with_reducible refine' wl_listOf ?hx ?_); (case hx => walk_at "isl")))
local macro_rules | `(tactic| walk_at "b0") => `(tactic| with_reducible refine' w2_notB ?_)
local macro_rules | `(tactic| walk_at "own") => `(tactic| exact own_l (by walk_at "mem"))
local macro_rules | `(tactic| walk_at "b0") => `(tactic| with_reducible refine' we_fld ?_)
local macro_rules | `(tactic| walk_at "b0") => `(tactic| refine ⟨_, _, _, _, _, rfl, own_l (by walk_at "mem"), Grw.cl (by assumption), Grw.nr (by assumption), by rfl, ?_⟩)
local macro_rules | `(tactic| walk_at "b0") => `(tactic| refine ⟨_, _, _, _, _, rfl, fun H' o => o.ex _ _ (by assumption), Grw.cl (by assumption), Grw.nr (by assumption), by rfl, ?_⟩)
local macro_rules | `(tactic| walk_at "b0") => `(tactic| with_reducible refine' we_meth ?_)
local macro_rules | `(tactic| walk_at "b0") => `(tactic| refine ⟨_, _, _, rfl, own_l (by walk_at "mem"), by rfl, ?_⟩)
local macro_rules | `(tactic| walk_at "b0") => `(tactic| refine ⟨_, _, _, rfl, fun H' o => o.ex _ _ (by assumption), by rfl, ?_⟩)
local macro_rules | `(tactic| walk_at "gown") => `(tactic| first | exact own_l (by walk_at "mem") | exact fun H' o => o.ex _ _ (by assumption))
/-! the ask -/
end BM
namespace BM
open PySem L2 Evl
local macro_rules | `(tactic| walk_at "mem") => `(tactic| first | exact List.mem_cons_self | (refine List.mem_cons_of_mem _ ?_; walk_at "mem"))
local macro_rules | `(tactic| walk_at "swap") => `(tactic| first | exact Swap.here | (apply Swap.there; walk_at "swap"))
local macro_rules | `(tactic| walk_at "subl") => `(tactic| first | exact List.Sublist.refl _ | exact List.nil_sublist _ | (refine List.Sublist.cons_cons _ ?_; walk_at "subl") | (refine List.Sublist.cons _ ?_; walk_at "subl"))
local macro_rules | `(tactic| walk_at "sub") => `(tactic| first | exact Sub.refl _ | (refine ⟨?_, ?_⟩ <;> walk_at "subl"))
local macro_rules | `(tactic| walk_at "isl") => `(tactic| first | exact isL_own (by walk_at "mem") | exact isL_old (by assumption) | assumption)
local macro_rules | `(tactic| walk_at "ist") => `(tactic| first | exact isT_own (by walk_at "mem") | exact isT_old (by assumption) | assumption)
local macro_rules | `(tactic| walk_at "len") => `(tactic| first | omega | decide | (simp only [List.length_map, List.length_take, List.length_drop, List.length_append, List.length_cons, List.length_nil, List.length_reverse, dps_len, flp_len]; omega) | (simp [dps_len, flp_len]; omega) | simp)
local macro_rules | `(tactic| walk_at "b0") => `(tactic| first
  | with_reducible refine' ws_set ?_
  | with_reducible refine' ws_par ?_
  | with_reducible refine' ws_asg ?_
  | with_reducible refine' ws_drop ?_
  | with_reducible refine' ws_ret ?_
  | with_reducible refine' ws_if ?_
  | with_reducible refine' ws_next ?_
  | with_reducible refine' ws_brk ?_
  | with_reducible refine' ws_cont ?_
  | ((with_reducible refine' we_var ?hv ?_); case hv => rfl)
  | with_reducible refine' we_c ?_
  | with_reducible refine' we_op ?_
  | with_reducible refine' we_un ?_
  | with_reducible refine' we_if ?_
  | with_reducible refine' we_and ?_
  | with_reducible refine' we_or ?_
  | with_reducible refine' we_not ?_
  | with_reducible refine' wa_nil ?_
  | with_reducible refine' wa_cons ?_
  | (with_reducible refine' we_lst ?_)
  | (with_reducible refine' we_tup ?_)
  | with_reducible refine' we_cb ?_
  | with_reducible refine' we_call0 ?_
  | with_reducible refine' we_sl ?_
  | with_reducible refine' wo_none ?_
  | (with_reducible refine' wo_some ?_)
  | with_reducible refine' wt_test ?_
  | with_reducible refine' wt_B ?_
  | with_reducible refine' wt_and ?_
  | with_reducible refine' wt_or ?_
  | with_reducible refine' wt_not ?_
  | with_reducible refine' wt_yes ?_
  | with_reducible refine' we_chain ?_
  | with_reducible refine' we_chain3 ?_
  | with_reducible refine' we_revT ?_
  | with_reducible refine' we_revL ?_
  | with_reducible refine' we_bm ?_
  | with_reducible refine' we_bm0 ?_
  | with_reducible refine' ws_for ?_
  | with_reducible refine' we_lc ?_
  | with_reducible refine' wi_list ?_
  | with_reducible refine' wi_tup ?_
  | with_reducible refine' wi_T ?_
  | with_reducible refine' wi_rng1 ?_
  | with_reducible refine' wi_rng2 ?_
  | with_reducible refine' wi_rng3 ?_
  | with_reducible refine' wi_enum ?_
  | with_reducible refine' wi_enumT ?_
  | with_reducible refine' wi_zip ?_
  | with_reducible refine' wg_name ?_
  | with_reducible refine' wg_sub ?_
  | with_reducible refine' wgs_nil ?_
  | with_reducible refine' wgs_cons ?_
  | ((with_reducible refine' wg_tup ?ht ?hn ?_); (case ht => walk_at "ist"); (case hn => rfl))
  | with_reducible refine' w2_add ?_
  | with_reducible refine' w2_sub ?_
  | with_reducible refine' w2_lt ?_
  | with_reducible refine' w2_le ?_
  | with_reducible refine' w2_gt ?_
  | with_reducible refine' w2_ge ?_
  | with_reducible refine' w2_eqI ?_
  | with_reducible refine' w2_neI ?_
  | with_reducible refine' w2_eqT ?_
  | with_reducible refine' w2_neT ?_
  | with_reducible refine' w2_eqB ?_
  | with_reducible refine' w2_neB ?_
  | with_reducible refine' w2_isN ?_
  | with_reducible refine' w2_notN ?_
  | with_reducible refine' w2_isB ?_
  | with_reducible refine' w2_inT ?_
  | with_reducible refine' w1_neg ?_
  | with_reducible refine' wl_abs ?_
  | with_reducible refine' wl_max2 ?_
  | with_reducible refine' wl_min2 ?_
  | with_reducible refine' wl_intB ?_
  | ((with_reducible refine' w2_div ?h ?_); case h => first | omega | (constructor <;> omega))
  | ((with_reducible refine' w2_mod ?h ?_); case h => omega)
  | ((with_reducible refine' w2_catT ?h ?_); case h => walk_at "len")
  | ((with_reducible refine' wsl_T ?h ?_); case h => walk_at "len")
  | ((with_reducible refine' wl_lenT ?h ?_); case h => walk_at "len")
  | ((with_reducible refine' wl_len ?h ?_); case h => walk_at "isl")
  | ((with_reducible refine' wl_len ?h ?_); case h => walk_at "isl")
  | ((with_reducible refine' wm_append ?sw ?hl ?_); (case sw => walk_at "swap"); (case hl => walk_at "len")))
local macro_rules | `(tactic| walk_at "b1") => `(tactic| first | with_reducible refine' ws_seq ?_ | walk_at "b0")
local macro_rules | `(tactic| walk_at "bx") => `(tactic| first
  | refine ⟨_, rfl, ?_⟩
  | refine ⟨_, _, rfl, ?_⟩
  | refine ⟨ty_L (by walk_at "isl"), ?_⟩
  | refine ⟨ty_S, ?_⟩
  | refine spl_t (by rfl) ?_
  | refine spl_f (by rfl) ?_
  | exact rfl)
local macro_rules | `(tactic| walk_at "bm") => `(tactic| repeat (first | walk_at "b1" | walk_at "bx"))
local macro_rules | `(tactic| walk_at "bn") => `(tactic| repeat (first | walk_at "b0" | walk_at "bx"))
local macro_rules | `(tactic| walk_at "b0") => `(tactic| with_reducible refine' c_deepens ?_)
local macro_rules | `(tactic| walk_at "b0") => `(tactic| ((with_reducible refine' c_depths_of ?hl ?_); (case hl => walk_at "len")))
local macro_rules | `(tactic| walk_at "b0") => `(tactic| with_reducible refine' c_is_wholeI ?_)
local macro_rules | `(tactic| walk_at "b0") => `(tactic| with_reducible refine' c_flipped ?_)
local macro_rules | `(tactic| walk_at "b0") => `(tactic| ((with_reducible refine' c_is_right_row ?hl ?_); (case hl => walk_at "len")))
local macro_rules | `(tactic| walk_at "b0") => `(tactic| ((with_reducible refine' c_asked_row ?hl ?_); (case hl => walk_at "len")))
local macro_rules | `(tactic| walk_at "b0") => `(tactic| ((with_reducible refine' c_depths ?hl ?_); (case hl => walk_at "len")))
local macro_rules | `(tactic| walk_at "b0") => `(tactic| ((with_reducible refine' c_is_right ?hl ?_); (case hl => walk_at "len")))
local macro_rules | `(tactic| walk_at "b0") => `(tactic| ((with_reducible refine' c__law_depths ?hl ?_); (case hl => walk_at "len")))
local macro_rules | `(tactic| walk_at "b0") => `(tactic| ((with_reducible refine' c__law_good ?hl ?_); (case hl => walk_at "len")))
local macro_rules | `(tactic| walk_at "b0") => `(tactic| ((with_reducible refine' wl_listOf ?hx ?_); (case hx => walk_at "isl")))
local macro_rules | `(tactic| walk_at "b0") => `(tactic| with_reducible refine' w2_notB ?_)
local macro_rules | `(tactic| walk_at "own") => `(tactic| exact own_l (by walk_at "mem"))
local macro_rules | `(tactic| walk_at "b0") => `(tactic| with_reducible refine' we_fld ?_)
local macro_rules | `(tactic| walk_at "b0") => `(tactic| refine ⟨_, _, _, _, _, rfl, own_l (by walk_at "mem"), Grw.cl (by assumption), Grw.nr (by assumption), by rfl, ?_⟩)
local macro_rules | `(tactic| walk_at "b0") => `(tactic| refine ⟨_, _, _, _, _, rfl, fun H' o => o.ex _ _ (by assumption), Grw.cl (by assumption), Grw.nr (by assumption), by rfl, ?_⟩)
local macro_rules | `(tactic| walk_at "b0") => `(tactic| with_reducible refine' we_meth ?_)
local macro_rules | `(tactic| walk_at "b0") => `(tactic| refine ⟨_, _, _, rfl, own_l (by walk_at "mem"), by rfl, ?_⟩)
local macro_rules | `(tactic| walk_at "b0") => `(tactic| refine ⟨_, _, _, rfl, fun H' o => o.ex _ _ (by assumption), by rfl, ?_⟩)
local macro_rules | `(tactic| walk_at "gown") => `(tactic| first | exact own_l (by walk_at "mem") | exact fun H' o => o.ex _ _ (by assumption))
end BM
namespace BM
open PySem PySem.Spec PyProof.Rows L2 Evl
/-! ### counting signs, the place of a number -/
def aCountT : V → List V → Hp → VK → Prop := fun x xs H Q => ∃ (r : List Bool) (b : Bool), x = .str (T r) ∧ xs = [.str (T [b])] ∧ Q (.int (r.count b : Int)) H
def aIndex (K : PySem.W.Frag) : V → List V → Hp → VK → Prop := fun x xs H Q => ∃ (a : Addr) (ns : List Int) (n : Int) (j : Nat), x = .ref a ∧ xs = [.int n] ∧ SqL K H a (ns.map V.int) ∧ ns[j]? = some n ∧ (∀ m, m < j → ns[m]? ≠ some n) ∧ Q (.int (j : Int)) H
def aIsiC (K : PySem.W.Frag) (c : Addr) : List V → Hp → VK → Prop := fun xs H Q => ∃ (x : V) (t : Value) (b : Bool), xs = [x, .ref c] ∧ TyX K H x t ∧ PySem.W.kitOne K t (.ref c) = some b ∧ Q (.bl b) H
section
variable {X : Cx}
theorem m_index : MtR X "list.index" (aIndex X.K) := MtR.imp mt_index fun x xs H Q ⟨a, ns, n, j, e1, e2, hs, hj, hn, q⟩ => ⟨a, ns.map V.int, .int n, j, .int n, e1, e2, hs, rfl, by rw [List.all_map, List.all_eq_true]; exact fun _ _ => rfl, by rw [List.getElem?_map, hj]; rfl, by show (n == n) = true; simp, fun m z hm hz => by
  rw [List.getElem?_map] at hz
  cases e : ns[m]? with
  | none => rw [e] at hz; cases hz
  | some k =>
    rw [e] at hz
    cases hz
    show (k == n) = false
    have : k ≠ n := fun h => hn m hm (by rw [e, h])
    simpa using this, q⟩
theorem c_isiC (c : Addr) : CallR X (.builtin "isinstance") (aIsiC X.K c) := CallR.imp call_isi fun xs H Q ⟨x, t, b, e, ty, k, q⟩ => ⟨x, .ref c, t, .ref c, b, e, .own c, ty, k, q⟩
end
section
variable {K : PySem.W.Frag} {H0 : Hp} {σ : L2.St} {s : Ld} {Q : V → Ld → Prop} {x : V}
theorem wm_countT {r : List Bool} {b : Bool} (q : Q (.int (r.count b : Int)) s) : WM H0 aCountT (.str (T r)) [.str (T [b])] s Q := fun H o R k => ⟨r, b, rfl, rfl, k _ H s o q⟩
theorem wm_index {a : Addr} {ns : List Int} {n : Int} {j : Nat} (hx : IsL K H0 s a (ns.map V.int)) (hj : ns[j]? = some n) (hn : ∀ m, m < j → ns[m]? ≠ some n) (q : Q (.int (j : Int)) s) : WM H0 (aIndex K) (.ref a) [.int n] s Q := fun H o R k => ⟨a, ns, n, j, rfl, rfl, hx H o, hj, hn, k _ H s o q⟩
theorem wl_isiC {c : Addr} {t : Value} {b : Bool} (ty : ∀ H, Own H0 H s → TyX K H x t) (hk : PySem.W.kitOne K t (.ref c) = some b) (q : Q (.bl b) s) : WL H0 (aIsiC K c) [x, .ref c] s Q := fun H o R k => ⟨x, t, b, rfl, ty H o, hk, k _ H s o q⟩
end
/-- a class of answers as it stands -/
structure Anc (K : PySem.W.Frag) (C : Addr) : Prop where
  cl : Cls K C
  ha : PySem.W.findIn K (.ref C) "__class__" = some (some (.builtin "object.__class__"))
  hn : PySem.W.specialIn K (.builtin "object.__class__") "__get__" = some (some (.builtin "getset_descriptor.__get__"))
  ht : PySem.W.takesIn K (.builtin "object.__class__") = some true
  hm : PySem.W.mroIn K C (.type "object") = some true
theorem Anc.ty {K : PySem.W.Frag} {C a dx : Addr} {H : Hp} {fs : List (Str × V)} (h : Anc K C) (e : H a = some (.ins C dx fs)) : TyX K H (.ref a) (.ref C) := .base (.ins e h.cl h.ha h.hn h.ht h.hm)
/-! ### a method of one of two classes -/
section
variable {X : Cx} {CX : CXT} {k1 k2 : Nat} {f1 f2 C1 C2 : Addr} {fd1 fd2 : FuncData} {ps1 ps2 : List Str} {sp1 sp2 : Sp} {E : XK} {m : Str} {pos apos : Pos} {e o : Expr} {es : List Expr} {ta : TE} {t : TA}
def tMethU (C1 C2 : Addr) (m : Str) (sp1 sp2 : Sp) (E : XK) (ta : TE) (t : TA) : TE := fun σ H Q => ta σ H fun x H1 => ∃ a C dx fs, x = .ref a ∧ H1 a = some (.ins C dx fs) ∧ fs.lookup m = none ∧ ((C = C1 ∧ t σ H1 fun vs H2 => sp1 (x :: vs) H2 Q E) ∨ (C = C2 ∧ t σ H1 fun vs H2 => sp2 (x :: vs) H2 Q E))
theorem pe_methU {pl : Sem Bool} (he : PE X o ta) (c1 : Cls X.K C1) (m1 : Meth X.K C1 m f1) (F1 : FnOk X.prog X.w X.K X.mg X.base CX k1 f1 fd1 ps1 sp1) (hr1 : Room k1 X.A) (b1 : Binds X.K fd1 ps1 []) (c2 : Cls X.K C2) (m2 : Meth X.K C2 m f2) (F2 : FnOk X.prog X.w X.K X.mg X.base CX k2 f2 fd2 ps2 sp2) (hr2 : Room k2 X.A) (b2 : Binds X.K fd2 ps2 []) (hx : Passes CX X E) (ha : PA X (e :: es) t)
    (h1 : starEach (e :: es) X.env = (false, eval e X.env) :: starEach es X.env := by rfl) (h2 : (backTo pos (starEach es X.env)).any (·.1) = false := by rfl)
    (h3 : eval (.Call (.Attribute o m apos) (e :: es) [] pos) X.env = (eval o X.env >>= fun ov => standAt apos.atName >>= fun _ => holding [ov] (getMethod ov m pl) >>= fun (f, first) => callWith pos f first (backTo pos (starEach (e :: es) X.env)) (backToKw pos (keywordEach [] X.env))) := by rfl) :
    PE X (.Call (.Attribute o m apos) (e :: es) [] pos) (tMethU C1 C2 m sp1 sp2 E ta t) := by
  refine ⟨fun pins s σ H Q I h => PySem.W.methodCall_KW (pl := pl) (L2.thn (he.run pins s σ H _ I h) fun u s1 ⟨x, H1, I1, rx, a, C, dx, fs, ex, ea, l, q⟩ => ?_) h3⟩
  cases ex
  cases (show u = Value.ref a from rx)
  rcases q with ⟨rfl, q⟩ | ⟨rfl, q⟩
  · refine getmeth_ok I1 ea c1 m1 l (PySem.W.callWith_K (first := [.ref a]) (h₀ := X.base) I.ok.mod.kin m1.kp (L2.thn (ha.run pos pins s1 σ H1 _ I1 q) fun us s2 ⟨vs, H2, I2, r, q2⟩ => ⟨I2.kIn, ?_⟩) h1 h2)
    exact run_fn (us := .ref a :: us) (vs := .ref a :: vs) (dvs := []) F1 hr1 b1 .nil hx I2 (.cons rfl r) (by rw [List.append_nil]; exact q2)
  · refine getmeth_ok I1 ea c2 m2 l (PySem.W.callWith_K (first := [.ref a]) (h₀ := X.base) I.ok.mod.kin m2.kp (L2.thn (ha.run pos pins s1 σ H1 _ I1 q) fun us s2 ⟨vs, H2, I2, r, q2⟩ => ⟨I2.kIn, ?_⟩) h1 h2)
    exact run_fn (us := .ref a :: us) (vs := .ref a :: vs) (dvs := []) F2 hr2 b2 .nil hx I2 (.cons rfl r) (by rw [List.append_nil]; exact q2)
end
section
variable {K : PySem.W.Frag} {H0 : Hp} {σ : L2.St} {s : Ld} {ta : TA} {te : TE} {Q : V → Ld → Prop} {m : Str} {E : XK} {C1 C2 : Addr} {sp1 sp2 : Sp}
theorem we_methU (h : WE H0 te σ s fun x s1 => ∃ a C dx fs, x = .ref a ∧ (∀ H, Own H0 H s1 → H a = some (.ins C dx fs)) ∧ fs.lookup m = none ∧ ((C = C1 ∧ WA H0 ta σ s1 fun vs s2 => WC H0 sp1 E (x :: vs) s2 Q) ∨ (C = C2 ∧ WA H0 ta σ s1 fun vs s2 => WC H0 sp2 E (x :: vs) s2 Q))) : WE H0 (tMethU C1 C2 m sp1 sp2 E te ta) σ s Q := fun H o R k =>
  h H o _ fun x H1 s1 o1 ⟨a, C, dx, fs, e, ha, hl, h1⟩ => ⟨a, C, dx, fs, e, ha H1 o1, hl, h1.imp (fun ⟨e, h1⟩ => ⟨e, h1 H1 o1 _ fun vs H2 s2 o2 h2 => h2 H2 o2 R k⟩) (fun ⟨e, h1⟩ => ⟨e, h1 H1 o1 _ fun vs H2 s2 o2 h2 => h2 H2 o2 R k⟩)⟩
end
end BM
namespace BM
open PySem L2 Evl
local macro_rules | `(tactic| walk_at "mem") => `(tactic| first | exact List.mem_cons_self | (refine List.mem_cons_of_mem _ ?_; walk_at "mem"))
local macro_rules | `(tactic| walk_at "swap") => `(tactic| first | exact Swap.here | (apply Swap.there; walk_at "swap"))
local macro_rules | `(tactic| walk_at "subl") => `(tactic| first | exact List.Sublist.refl _ | exact List.nil_sublist _ | (refine List.Sublist.cons_cons _ ?_; walk_at "subl") | (refine List.Sublist.cons _ ?_; walk_at "subl"))
local macro_rules | `(tactic| walk_at "sub") => `(tactic| first | exact Sub.refl _ | (refine ⟨?_, ?_⟩ <;> walk_at "subl"))
local macro_rules | `(tactic| walk_at "isl") => `(tactic| first | exact isL_own (by walk_at "mem") | exact isL_old (by assumption) | assumption)
local macro_rules | `(tactic| walk_at "ist") => `(tactic| first | exact isT_own (by walk_at "mem") | exact isT_old (by assumption) | assumption)
local macro_rules | `(tactic| walk_at "len") => `(tactic| first | omega | decide | (simp only [List.length_map, List.length_take, List.length_drop, List.length_append, List.length_cons, List.length_nil, List.length_reverse, dps_len, flp_len]; omega) | (simp [dps_len, flp_len]; omega) | simp)
local macro_rules | `(tactic| walk_at "b0") => `(tactic| first
  | with_reducible refine' ws_set ?_
  | with_reducible refine' ws_par ?_
  | with_reducible refine' ws_asg ?_
  | with_reducible refine' ws_drop ?_
  | with_reducible refine' ws_ret ?_
  | with_reducible refine' ws_if ?_
  | with_reducible refine' ws_next ?_
  | with_reducible refine' ws_brk ?_
  | with_reducible refine' ws_cont ?_
  | ((with_reducible refine' we_var ?hv ?_); case hv => rfl)
  | with_reducible refine' we_c ?_
  | with_reducible refine' we_op ?_
  | with_reducible refine' we_un ?_
  | with_reducible refine' we_if ?_
  | with_reducible refine' we_and ?_
  | with_reducible refine' we_or ?_
  | with_reducible refine' we_not ?_
  | with_reducible refine' wa_nil ?_
  | with_reducible refine' wa_cons ?_
  | (with_reducible refine' we_lst ?_)
  | (with_reducible refine' we_tup ?_)
  | with_reducible refine' we_cb ?_
  | with_reducible refine' we_call0 ?_
  | with_reducible refine' we_sl ?_
  | with_reducible refine' wo_none ?_
  | (with_reducible refine' wo_some ?_)
  | with_reducible refine' wt_test ?_
  | with_reducible refine' wt_B ?_
  | with_reducible refine' wt_and ?_
  | with_reducible refine' wt_or ?_
  | with_reducible refine' wt_not ?_
  | with_reducible refine' wt_yes ?_
  | with_reducible refine' we_chain ?_
  | with_reducible refine' we_chain3 ?_
  | with_reducible refine' we_revT ?_
  | with_reducible refine' we_revL ?_
  | with_reducible refine' we_bm ?_
  | with_reducible refine' we_bm0 ?_
  | with_reducible refine' ws_for ?_
  | with_reducible refine' we_lc ?_
  | with_reducible refine' wi_list ?_
  | with_reducible refine' wi_tup ?_
  | with_reducible refine' wi_T ?_
  | with_reducible refine' wi_rng1 ?_
  | with_reducible refine' wi_rng2 ?_
  | with_reducible refine' wi_rng3 ?_
  | with_reducible refine' wi_enum ?_
  | with_reducible refine' wi_enumT ?_
  | with_reducible refine' wi_zip ?_
  | with_reducible refine' wg_name ?_
  | with_reducible refine' wg_sub ?_
  | with_reducible refine' wgs_nil ?_
  | with_reducible refine' wgs_cons ?_
  | ((with_reducible refine' wg_tup ?ht ?hn ?_); (case ht => walk_at "ist"); (case hn => rfl))
  | with_reducible refine' w2_add ?_
  | with_reducible refine' w2_sub ?_
  | with_reducible refine' w2_lt ?_
  | with_reducible refine' w2_le ?_
  | with_reducible refine' w2_gt ?_
  | with_reducible refine' w2_ge ?_
  | with_reducible refine' w2_eqI ?_
  | with_reducible refine' w2_neI ?_
  | with_reducible refine' w2_eqT ?_
  | with_reducible refine' w2_neT ?_
  | with_reducible refine' w2_eqB ?_
  | with_reducible refine' w2_neB ?_
  | with_reducible refine' w2_isN ?_
  | with_reducible refine' w2_notN ?_
  | with_reducible refine' w2_isB ?_
  | with_reducible refine' w2_inT ?_
  | with_reducible refine' w1_neg ?_
  | with_reducible refine' wl_abs ?_
  | with_reducible refine' wl_max2 ?_
  | with_reducible refine' wl_min2 ?_
  | with_reducible refine' wl_intB ?_
  | ((with_reducible refine' w2_div ?h ?_); case h => first | omega | (constructor <;> omega))
  | ((with_reducible refine' w2_mod ?h ?_); case h => omega)
  | ((with_reducible refine' w2_catT ?h ?_); case h => walk_at "len")
  | ((with_reducible refine' wsl_T ?h ?_); case h => walk_at "len")
  | ((with_reducible refine' wl_lenT ?h ?_); case h => walk_at "len")
  | ((with_reducible refine' wl_len ?h ?_); case h => walk_at "isl")
  | ((with_reducible refine' wl_len ?h ?_); case h => walk_at "isl")
  | ((with_reducible refine' wm_append ?sw ?hl ?_); (case sw => walk_at "swap"); (case hl => walk_at "len")))
local macro_rules | `(tactic| walk_at "b1") => `(tactic| first | with_reducible refine' ws_seq ?_ | walk_at "b0")
local macro_rules | `(tactic| walk_at "bx") => `(tactic| first
  | refine ⟨_, rfl, ?_⟩
  | refine ⟨_, _, rfl, ?_⟩
  | refine ⟨ty_L (by walk_at "isl"), ?_⟩
  | refine ⟨ty_S, ?_⟩
  | refine spl_t (by rfl) ?_
  | refine spl_f (by rfl) ?_
  | exact rfl)
local macro_rules | `(tactic| walk_at "bm") => `(tactic| repeat (first | walk_at "b1" | walk_at "bx"))
local macro_rules | `(tactic| walk_at "bn") => `(tactic| repeat (first | walk_at "b0" | walk_at "bx"))
local macro_rules | `(tactic| walk_at "b0") => `(tactic| with_reducible refine' c_deepens ?_)
local macro_rules | `(tactic| walk_at "b0") => `(tactic| ((with_reducible refine' c_depths_of ?hl ?_); (case hl => walk_at "len")))
local macro_rules | `(tactic| walk_at "b0") => `(tactic| with_reducible refine' c_is_wholeI ?_)
local macro_rules | `(tactic| walk_at "b0") => `(tactic| with_reducible refine' c_flipped ?_)
local macro_rules | `(tactic| walk_at "b0") => `(tactic| ((with_reducible refine' c_is_right_row ?hl ?_); (case hl => walk_at "len")))
local macro_rules | `(tactic| walk_at "b0") => `(tactic| ((with_reducible refine' c_asked_row ?hl ?_); (case hl => walk_at "len")))
local macro_rules | `(tactic| walk_at "b0") => `(tactic| ((with_reducible refine' c_depths ?hl ?_); (case hl => walk_at "len")))
local macro_rules | `(tactic| walk_at "b0") => `(tactic| ((with_reducible refine' c_is_right ?hl ?_); (case hl => walk_at "len")))
local macro_rules | `(tactic| walk_at "b0") => `(tactic| ((with_reducible refine' c__law_depths ?hl ?_); (case hl => walk_at "len")))
local macro_rules | `(tactic| walk_at "b0") => `(tactic| ((with_reducible refine' c__law_good ?hl ?_); (case hl => walk_at "len")))
local macro_rules | `(tactic| walk_at "b0") => `(tactic| ((with_reducible refine' wl_listOf ?hx ?_); (case hx => walk_at "isl")))
local macro_rules | `(tactic| walk_at "b0") => `(tactic| with_reducible refine' w2_notB ?_)
local macro_rules | `(tactic| walk_at "own") => `(tactic| exact own_l (by walk_at "mem"))
local macro_rules | `(tactic| walk_at "b0") => `(tactic| with_reducible refine' we_fld ?_)
local macro_rules | `(tactic| walk_at "b0") => `(tactic| refine ⟨_, _, _, _, _, rfl, own_l (by walk_at "mem"), Grw.cl (by assumption), Grw.nr (by assumption), by rfl, ?_⟩)
local macro_rules | `(tactic| walk_at "b0") => `(tactic| refine ⟨_, _, _, _, _, rfl, fun H' o => o.ex _ _ (by assumption), Grw.cl (by assumption), Grw.nr (by assumption), by rfl, ?_⟩)
local macro_rules | `(tactic| walk_at "b0") => `(tactic| with_reducible refine' we_meth ?_)
local macro_rules | `(tactic| walk_at "b0") => `(tactic| refine ⟨_, _, _, rfl, own_l (by walk_at "mem"), by rfl, ?_⟩)
local macro_rules | `(tactic| walk_at "b0") => `(tactic| refine ⟨_, _, _, rfl, fun H' o => o.ex _ _ (by assumption), by rfl, ?_⟩)
local macro_rules | `(tactic| walk_at "gown") => `(tactic| first | exact own_l (by walk_at "mem") | exact fun H' o => o.ex _ _ (by assumption))
local macro_rules | `(tactic| walk_at "b0") => `(tactic| with_reducible refine' wm_countT ?_)
theorem own_add {H0 H : Hp} {s : Ld} {p : Addr} {u : HO} (w : Own H0 H s) (h0 : H0 p = none) (hk : p ∉ s.L.map (·.1)) (h : H p = some u) : Own H0 H ⟨(p, u) :: s.L, s.T⟩ :=
  ⟨w.ex, List.nodup_cons.mpr ⟨hk, w.nd⟩, fun e he => by
    rcases List.mem_cons.mp he with rfl | h1
    · exact ⟨h0, h⟩
    · exact w.own e h1, w.tp⟩
theorem own_key {H0 H : Hp} {s : Ld} {p : Addr} (w : Own H0 H s) (hp : H p = none) : p ∉ s.L.map (·.1) := fun h => by
  obtain ⟨e, he, ee⟩ := List.mem_map.mp h
  have := (w.own e he).2
  rw [ee, hp] at this
  cases this
theorem sq_del {K : PySem.W.Frag} {H : Hp} {x a : Addr} {xs : List V} (h : a ≠ x) (hs : SqL K H a xs) : SqL K (del x H) a xs := by
  unfold SqL Rd at hs ⊢
  rw [del_ne h]
  exact hs
end BM
namespace BM
open PySem L2 Evl
local macro_rules | `(tactic| walk_at "mem") => `(tactic| first | exact List.mem_cons_self | (refine List.mem_cons_of_mem _ ?_; walk_at "mem"))
local macro_rules | `(tactic| walk_at "swap") => `(tactic| first | exact Swap.here | (apply Swap.there; walk_at "swap"))
local macro_rules | `(tactic| walk_at "subl") => `(tactic| first | exact List.Sublist.refl _ | exact List.nil_sublist _ | (refine List.Sublist.cons_cons _ ?_; walk_at "subl") | (refine List.Sublist.cons _ ?_; walk_at "subl"))
local macro_rules | `(tactic| walk_at "sub") => `(tactic| first | exact Sub.refl _ | (refine ⟨?_, ?_⟩ <;> walk_at "subl"))
local macro_rules | `(tactic| walk_at "isl") => `(tactic| first | exact isL_own (by walk_at "mem") | exact isL_old (by assumption) | assumption)
local macro_rules | `(tactic| walk_at "ist") => `(tactic| first | exact isT_own (by walk_at "mem") | exact isT_old (by assumption) | assumption)
local macro_rules | `(tactic| walk_at "len") => `(tactic| first | omega | decide | (simp only [List.length_map, List.length_take, List.length_drop, List.length_append, List.length_cons, List.length_nil, List.length_reverse, dps_len, flp_len]; omega) | (simp [dps_len, flp_len]; omega) | simp)
local macro_rules | `(tactic| walk_at "b0") => `(tactic| first
  | with_reducible refine' ws_set ?_
  | with_reducible refine' ws_par ?_
  | with_reducible refine' ws_asg ?_
  | with_reducible refine' ws_drop ?_
  | with_reducible refine' ws_ret ?_
  | with_reducible refine' ws_if ?_
  | with_reducible refine' ws_next ?_
  | with_reducible refine' ws_brk ?_
  | with_reducible refine' ws_cont ?_
  | ((with_reducible refine' we_var ?hv ?_); case hv => rfl)
  | with_reducible refine' we_c ?_
  | with_reducible refine' we_op ?_
  | with_reducible refine' we_un ?_
  | with_reducible refine' we_if ?_
  | with_reducible refine' we_and ?_
  | with_reducible refine' we_or ?_
  | with_reducible refine' we_not ?_
  | with_reducible refine' wa_nil ?_
  | with_reducible refine' wa_cons ?_
  | (with_reducible refine' we_lst ?_)
  | (with_reducible refine' we_tup ?_)
  | with_reducible refine' we_cb ?_
  | with_reducible refine' we_call0 ?_
  | with_reducible refine' we_sl ?_
  | with_reducible refine' wo_none ?_
  | (with_reducible refine' wo_some ?_)
  | with_reducible refine' wt_test ?_
  | with_reducible refine' wt_B ?_
  | with_reducible refine' wt_and ?_
  | with_reducible refine' wt_or ?_
  | with_reducible refine' wt_not ?_
  | with_reducible refine' wt_yes ?_
  | with_reducible refine' we_chain ?_
  | with_reducible refine' we_chain3 ?_
  | with_reducible refine' we_revT ?_
  | with_reducible refine' we_revL ?_
  | with_reducible refine' we_bm ?_
  | with_reducible refine' we_bm0 ?_
  | with_reducible refine' ws_for ?_
  | with_reducible refine' we_lc ?_
  | with_reducible refine' wi_list ?_
  | with_reducible refine' wi_tup ?_
  | with_reducible refine' wi_T ?_
  | with_reducible refine' wi_rng1 ?_
  | with_reducible refine' wi_rng2 ?_
  | with_reducible refine' wi_rng3 ?_
  | with_reducible refine' wi_enum ?_
  | with_reducible refine' wi_enumT ?_
  | with_reducible refine' wi_zip ?_
  | with_reducible refine' wg_name ?_
  | with_reducible refine' wg_sub ?_
  | with_reducible refine' wgs_nil ?_
  | with_reducible refine' wgs_cons ?_
  | ((with_reducible refine' wg_tup ?ht ?hn ?_); (case ht => walk_at "ist"); (case hn => rfl))
  | with_reducible refine' w2_add ?_
  | with_reducible refine' w2_sub ?_
  | with_reducible refine' w2_lt ?_
  | with_reducible refine' w2_le ?_
  | with_reducible refine' w2_gt ?_
  | with_reducible refine' w2_ge ?_
  | with_reducible refine' w2_eqI ?_
  | with_reducible refine' w2_neI ?_
  | with_reducible refine' w2_eqT ?_
  | with_reducible refine' w2_neT ?_
  | with_reducible refine' w2_eqB ?_
  | with_reducible refine' w2_neB ?_
  | with_reducible refine' w2_isN ?_
  | with_reducible refine' w2_notN ?_
  | with_reducible refine' w2_isB ?_
  | with_reducible refine' w2_inT ?_
  | with_reducible refine' w1_neg ?_
  | with_reducible refine' wl_abs ?_
  | with_reducible refine' wl_max2 ?_
  | with_reducible refine' wl_min2 ?_
  | with_reducible refine' wl_intB ?_
  | ((with_reducible refine' w2_div ?h ?_); case h => first | omega | (constructor <;> omega))
  | ((with_reducible refine' w2_mod ?h ?_); case h => omega)
  | ((with_reducible refine' w2_catT ?h ?_); case h => walk_at "len")
  | ((with_reducible refine' wsl_T ?h ?_); case h => walk_at "len")
  | ((with_reducible refine' wl_lenT ?h ?_); case h => walk_at "len")
  | ((with_reducible refine' wl_len ?h ?_); case h => walk_at "isl")
  | ((with_reducible refine' wl_len ?h ?_); case h => walk_at "isl")
  | ((with_reducible refine' wm_append ?sw ?hl ?_); (case sw => walk_at "swap"); (case hl => walk_at "len")))
local macro_rules | `(tactic| walk_at "b1") => `(tactic| first | with_reducible refine' ws_seq ?_ | walk_at "b0")
local macro_rules | `(tactic| walk_at "bx") => `(tactic| first
  | refine ⟨_, rfl, ?_⟩
  | refine ⟨_, _, rfl, ?_⟩
  | refine ⟨ty_L (by walk_at "isl"), ?_⟩
  | refine ⟨ty_S, ?_⟩
  | refine spl_t (by rfl) ?_
  | refine spl_f (by rfl) ?_
  | exact rfl)
local macro_rules | `(tactic| walk_at "bm") => `(tactic| repeat (first | walk_at "b1" | walk_at "bx"))
local macro_rules | `(tactic| walk_at "bn") => `(tactic| repeat (first | walk_at "b0" | walk_at "bx"))
local macro_rules | `(tactic| walk_at "b0") => `(tactic| with_reducible refine' c_deepens ?_)
local macro_rules | `(tactic| walk_at "b0") => `(tactic| ((with_reducible refine' c_depths_of ?hl ?_); (case hl => walk_at "len")))
local macro_rules | `(tactic| walk_at "b0") => `(tactic| with_reducible refine' c_is_wholeI ?_)
local macro_rules | `(tactic| walk_at "b0") => `(tactic| with_reducible refine' c_flipped ?_)
local macro_rules | `(tactic| walk_at "b0") => `(tactic| ((with_reducible refine' c_is_right_row ?hl ?_); (case hl => walk_at "len")))
local macro_rules | `(tactic| walk_at "b0") => `(tactic| ((with_reducible refine' c_asked_row ?hl ?_); (case hl => walk_at "len")))
local macro_rules | `(tactic| walk_at "b0") => `(tactic| ((with_reducible refine' c_depths ?hl ?_); (case hl => walk_at "len")))
local macro_rules | `(tactic| walk_at "b0") => `(tactic| ((with_reducible refine' c_is_right ?hl ?_); (case hl => walk_at "len")))
local macro_rules | `(tactic| walk_at "b0") => `(tactic| ((with_reducible refine' c__law_depths ?hl ?_); (case hl => walk_at "len")))
local macro_rules | `(tactic| walk_at "b0") => `(tactic| ((with_reducible refine' c__law_good ?hl ?_); (case hl => walk_at "len")))
local macro_rules | `(tactic| walk_at "b0") => `(tactic| ((with_reducible refine' wl_listOf ?hx ?_); (case hx => walk_at "isl")))
local macro_rules | `(tactic| walk_at "b0") => `(tactic| with_reducible refine' w2_notB ?_)
local macro_rules | `(tactic| walk_at "own") => `(tactic| exact own_l (by walk_at "mem"))
local macro_rules | `(tactic| walk_at "b0") => `(tactic| with_reducible refine' we_fld ?_)
local macro_rules | `(tactic| walk_at "b0") => `(tactic| refine ⟨_, _, _, _, _, rfl, own_l (by walk_at "mem"), Grw.cl (by assumption), Grw.nr (by assumption), by rfl, ?_⟩)
local macro_rules | `(tactic| walk_at "b0") => `(tactic| refine ⟨_, _, _, _, _, rfl, fun H' o => o.ex _ _ (by assumption), Grw.cl (by assumption), Grw.nr (by assumption), by rfl, ?_⟩)
local macro_rules | `(tactic| walk_at "b0") => `(tactic| with_reducible refine' we_meth ?_)
local macro_rules | `(tactic| walk_at "b0") => `(tactic| refine ⟨_, _, _, rfl, own_l (by walk_at "mem"), by rfl, ?_⟩)
local macro_rules | `(tactic| walk_at "b0") => `(tactic| refine ⟨_, _, _, rfl, fun H' o => o.ex _ _ (by assumption), by rfl, ?_⟩)
local macro_rules | `(tactic| walk_at "gown") => `(tactic| first | exact own_l (by walk_at "mem") | exact fun H' o => o.ex _ _ (by assumption))
local macro_rules | `(tactic| walk_at "b0") => `(tactic| with_reducible refine' wm_countT ?_)
end BM
namespace BM
open PySem L2 Evl
local macro_rules | `(tactic| walk_at "mem") => `(tactic| first | exact List.mem_cons_self | (refine List.mem_cons_of_mem _ ?_; walk_at "mem"))
local macro_rules | `(tactic| walk_at "swap") => `(tactic| first | exact Swap.here | (apply Swap.there; walk_at "swap"))
local macro_rules | `(tactic| walk_at "subl") => `(tactic| first | exact List.Sublist.refl _ | exact List.nil_sublist _ | (refine List.Sublist.cons_cons _ ?_; walk_at "subl") | (refine List.Sublist.cons _ ?_; walk_at "subl"))
local macro_rules | `(tactic| walk_at "sub") => `(tactic| first | exact Sub.refl _ | (refine ⟨?_, ?_⟩ <;> walk_at "subl"))
local macro_rules | `(tactic| walk_at "isl") => `(tactic| first | exact isL_own (by walk_at "mem") | exact isL_old (by assumption) | assumption)
local macro_rules | `(tactic| walk_at "ist") => `(tactic| first | exact isT_own (by walk_at "mem") | exact isT_old (by assumption) | assumption)
local macro_rules | `(tactic| walk_at "len") => `(tactic| first | omega | decide | (simp only [List.length_map, List.length_take, List.length_drop, List.length_append, List.length_cons, List.length_nil, List.length_reverse, dps_len, flp_len]; omega) | (simp [dps_len, flp_len]; omega) | simp)
local macro_rules | `(tactic| walk_at "b0") => `(tactic| first
  | with_reducible refine' ws_set ?_
  | with_reducible refine' ws_par ?_
  | with_reducible refine' ws_asg ?_
  | with_reducible refine' ws_drop ?_
  | with_reducible refine' ws_ret ?_
  | with_reducible refine' ws_if ?_
  | with_reducible refine' ws_next ?_
  | with_reducible refine' ws_brk ?_
  | with_reducible refine' ws_cont ?_
  | ((with_reducible refine' we_var ?hv ?_); case hv => rfl)
  | with_reducible refine' we_c ?_
  | with_reducible refine' we_op ?_
  | with_reducible refine' we_un ?_
  | with_reducible refine' we_if ?_
  | with_reducible refine' we_and ?_
  | with_reducible refine' we_or ?_
  | with_reducible refine' we_not ?_
  | with_reducible refine' wa_nil ?_
  | with_reducible refine' wa_cons ?_
  | (with_reducible refine' we_lst ?_)
  | (with_reducible refine' we_tup ?_)
  | with_reducible refine' we_cb ?_
  | with_reducible refine' we_call0 ?_
  | with_reducible refine' we_sl ?_
  | with_reducible refine' wo_none ?_
  | (with_reducible refine' wo_some ?_)
  | with_reducible refine' wt_test ?_
  | with_reducible refine' wt_B ?_
  | with_reducible refine' wt_and ?_
  | with_reducible refine' wt_or ?_
  | with_reducible refine' wt_not ?_
  | with_reducible refine' wt_yes ?_
  | with_reducible refine' we_chain ?_
  | with_reducible refine' we_chain3 ?_
  | with_reducible refine' we_revT ?_
  | with_reducible refine' we_revL ?_
  | with_reducible refine' we_bm ?_
  | with_reducible refine' we_bm0 ?_
  | with_reducible refine' ws_for ?_
  | with_reducible refine' we_lc ?_
  | with_reducible refine' wi_list ?_
  | with_reducible refine' wi_tup ?_
  | with_reducible refine' wi_T ?_
  | with_reducible refine' wi_rng1 ?_
  | with_reducible refine' wi_rng2 ?_
  | with_reducible refine' wi_rng3 ?_
  | with_reducible refine' wi_enum ?_
  | with_reducible refine' wi_enumT ?_
  | with_reducible refine' wi_zip ?_
  | with_reducible refine' wg_name ?_
  | with_reducible refine' wg_sub ?_
  | with_reducible refine' wgs_nil ?_
  | with_reducible refine' wgs_cons ?_
  | ((with_reducible refine' wg_tup ?ht ?hn ?_); (case ht => walk_at "ist"); (case hn => rfl))
  | with_reducible refine' w2_add ?_
  | with_reducible refine' w2_sub ?_
  | with_reducible refine' w2_lt ?_
  | with_reducible refine' w2_le ?_
  | with_reducible refine' w2_gt ?_
  | with_reducible refine' w2_ge ?_
  | with_reducible refine' w2_eqI ?_
  | with_reducible refine' w2_neI ?_
  | with_reducible refine' w2_eqT ?_
  | with_reducible refine' w2_neT ?_
  | with_reducible refine' w2_eqB ?_
  | with_reducible refine' w2_neB ?_
  | with_reducible refine' w2_isN ?_
  | with_reducible refine' w2_notN ?_
  | with_reducible refine' w2_isB ?_
  | with_reducible refine' w2_inT ?_
  | with_reducible refine' w1_neg ?_
  | with_reducible refine' wl_abs ?_
  | with_reducible refine' wl_max2 ?_
  | with_reducible refine' wl_min2 ?_
  | with_reducible refine' wl_intB ?_
  | ((with_reducible refine' w2_div ?h ?_); case h => first | omega | (constructor <;> omega))
  | ((with_reducible refine' w2_mod ?h ?_); case h => omega)
  | ((with_reducible refine' w2_catT ?h ?_); case h => walk_at "len")
  | ((with_reducible refine' wsl_T ?h ?_); case h => walk_at "len")
  | ((with_reducible refine' wl_lenT ?h ?_); case h => walk_at "len")
  | ((with_reducible refine' wl_len ?h ?_); case h => walk_at "isl")
  | ((with_reducible refine' wl_len ?h ?_); case h => walk_at "isl")
  | ((with_reducible refine' wm_append ?sw ?hl ?_); (case sw => walk_at "swap"); (case hl => walk_at "len")))
local macro_rules | `(tactic| walk_at "b1") => `(tactic| first | with_reducible refine' ws_seq ?_ | walk_at "b0")
local macro_rules | `(tactic| walk_at "bx") => `(tactic| first
  | refine ⟨_, rfl, ?_⟩
  | refine ⟨_, _, rfl, ?_⟩
  | refine ⟨ty_L (by walk_at "isl"), ?_⟩
  | refine ⟨ty_S, ?_⟩
  | refine spl_t (by rfl) ?_
  | refine spl_f (by rfl) ?_
  | exact rfl)
local macro_rules | `(tactic| walk_at "bm") => `(tactic| repeat (first | walk_at "b1" | walk_at "bx"))
local macro_rules | `(tactic| walk_at "bn") => `(tactic| repeat (first | walk_at "b0" | walk_at "bx"))
local macro_rules | `(tactic| walk_at "b0") => `(tactic| with_reducible refine' c_deepens ?_)
local macro_rules | `(tactic| walk_at "b0") => `(tactic| ((with_reducible refine' c_depths_of ?hl ?_); (case hl => walk_at "len")))
local macro_rules | `(tactic| walk_at "b0") => `(tactic| with_reducible refine' c_is_wholeI ?_)
local macro_rules | `(tactic| walk_at "b0") => `(tactic| with_reducible refine' c_flipped ?_)
local macro_rules | `(tactic| walk_at "b0") => `(tactic| ((with_reducible refine' c_is_right_row ?hl ?_); (case hl => walk_at "len")))
local macro_rules | `(tactic| walk_at "b0") => `(tactic| ((with_reducible refine' c_asked_row ?hl ?_); (case hl => walk_at "len")))
local macro_rules | `(tactic| walk_at "b0") => `(tactic| ((with_reducible refine' c_depths ?hl ?_); (case hl => walk_at "len")))
local macro_rules | `(tactic| walk_at "b0") => `(tactic| ((with_reducible refine' c_is_right ?hl ?_); (case hl => walk_at "len")))
local macro_rules | `(tactic| walk_at "b0") => `(tactic| ((with_reducible refine' c__law_depths ?hl ?_); (case hl => walk_at "len")))
local macro_rules | `(tactic| walk_at "b0") => `(tactic| ((with_reducible refine' c__law_good ?hl ?_); (case hl => walk_at "len")))
local macro_rules | `(tactic| walk_at "b0") => `(tactic| ((with_reducible refine' wl_listOf ?hx ?_); (case hx => walk_at "isl")))
local macro_rules | `(tactic| walk_at "b0") => `(tactic| with_reducible refine' w2_notB ?_)
local macro_rules | `(tactic| walk_at "own") => `(tactic| exact own_l (by walk_at "mem"))
local macro_rules | `(tactic| walk_at "b0") => `(tactic| with_reducible refine' we_fld ?_)
local macro_rules | `(tactic| walk_at "b0") => `(tactic| refine ⟨_, _, _, _, _, rfl, own_l (by walk_at "mem"), Grw.cl (by assumption), Grw.nr (by assumption), by rfl, ?_⟩)
local macro_rules | `(tactic| walk_at "b0") => `(tactic| refine ⟨_, _, _, _, _, rfl, fun H' o => o.ex _ _ (by assumption), Grw.cl (by assumption), Grw.nr (by assumption), by rfl, ?_⟩)
local macro_rules | `(tactic| walk_at "b0") => `(tactic| with_reducible refine' we_meth ?_)
local macro_rules | `(tactic| walk_at "b0") => `(tactic| refine ⟨_, _, _, rfl, own_l (by walk_at "mem"), by rfl, ?_⟩)
local macro_rules | `(tactic| walk_at "b0") => `(tactic| refine ⟨_, _, _, rfl, fun H' o => o.ex _ _ (by assumption), by rfl, ?_⟩)
local macro_rules | `(tactic| walk_at "gown") => `(tactic| first | exact own_l (by walk_at "mem") | exact fun H' o => o.ex _ _ (by assumption))
local macro_rules | `(tactic| walk_at "b0") => `(tactic| with_reducible refine' wm_countT ?_)
local macro_rules | `(tactic| walk_at "b0") => `(tactic| with_reducible refine' we_methU ?_)
theorem body_K {H : Hp} {t : TS} {N : List Str} {vs : List V} {Q : VK} {P : V → Ld → Prop} (h : WS H t (start N vs) ⟨[], []⟩ { nx := fun _ _ => False, rt := P }) (k : ∀ v H' s, Own H H' s → P v s → Q v H') : t { nx := fun _ H' => Q .non H', rt := Q } (start N vs) H :=
  h H (Own.start H) _ ⟨(fun _ _ _ _ q => q.elim), fun u H' s o q => k u H' s o q, (fun _ _ _ _ q => q.elim), (fun _ _ _ _ q => q.elim)⟩
theorem first_of {ns : List Int} {m : Int} (h : m ∈ ns) : ∃ j : Nat, ns[j]? = some m ∧ ∀ i : Nat, i < j → ns[i]? ≠ some m := by
  induction ns with
  | nil => cases h
  | cons a ns ih =>
    by_cases e : a = m
    · exact ⟨0, by rw [e]; rfl, fun i hi => absurd hi (Nat.not_lt_zero _)⟩
    · obtain ⟨j, h1, h2⟩ := ih ((List.mem_cons.mp h).resolve_left fun e2 => e e2.symm)
      refine ⟨j + 1, h1, fun i hi => ?_⟩
      cases i with
      | zero => exact fun e2 => e (Option.some.inj e2)
      | succ i => exact h2 i (by omega)
end BM
namespace BM
open PySem L2 Evl
local macro_rules | `(tactic| walk_at "mem") => `(tactic| first | exact List.mem_cons_self | (refine List.mem_cons_of_mem _ ?_; walk_at "mem"))
local macro_rules | `(tactic| walk_at "swap") => `(tactic| first | exact Swap.here | (apply Swap.there; walk_at "swap"))
local macro_rules | `(tactic| walk_at "subl") => `(tactic| first | exact List.Sublist.refl _ | exact List.nil_sublist _ | (refine List.Sublist.cons_cons _ ?_; walk_at "subl") | (refine List.Sublist.cons _ ?_; walk_at "subl"))
local macro_rules | `(tactic| walk_at "sub") => `(tactic| first | exact Sub.refl _ | (refine ⟨?_, ?_⟩ <;> walk_at "subl"))
local macro_rules | `(tactic| walk_at "isl") => `(tactic| first | exact isL_own (by walk_at "mem") | exact isL_old (by assumption) | assumption)
local macro_rules | `(tactic| walk_at "ist") => `(tactic| first | exact isT_own (by walk_at "mem") | exact isT_old (by assumption) | assumption)
local macro_rules | `(tactic| walk_at "len") => `(tactic| first | omega | decide | (simp only [List.length_map, List.length_take, List.length_drop, List.length_append, List.length_cons, List.length_nil, List.length_reverse, dps_len, flp_len]; omega) | (simp [dps_len, flp_len]; omega) | simp)
local macro_rules | `(tactic| walk_at "b0") => `(tactic| first
  | with_reducible refine' ws_set ?_
  | with_reducible refine' ws_par ?_
  | with_reducible refine' ws_asg ?_
  | with_reducible refine' ws_drop ?_
  | with_reducible refine' ws_ret ?_
  | with_reducible refine' ws_if ?_
  | with_reducible refine' ws_next ?_
  | with_reducible refine' ws_brk ?_
  | with_reducible refine' ws_cont ?_
  | ((with_reducible refine' we_var ?hv ?_); case hv => rfl)
  | with_reducible refine' we_c ?_
  | with_reducible refine' we_op ?_
  | with_reducible refine' we_un ?_
  | with_reducible refine' we_if ?_
  | with_reducible refine' we_and ?_
  | with_reducible refine' we_or ?_
  | with_reducible refine' we_not ?_
  | with_reducible refine' wa_nil ?_
  | with_reducible refine' wa_cons ?_
  | (with_reducible refine' we_lst ?_)
  | (with_reducible refine' we_tup ?_)
  | with_reducible refine' we_cb ?_
  | with_reducible refine' we_call0 ?_
  | with_reducible refine' we_sl ?_
  | with_reducible refine' wo_none ?_
  | (with_reducible refine' wo_some ?_)
  | with_reducible refine' wt_test ?_
  | with_reducible refine' wt_B ?_
  | with_reducible refine' wt_and ?_
  | with_reducible refine' wt_or ?_
  | with_reducible refine' wt_not ?_
  | with_reducible refine' wt_yes ?_
  | with_reducible refine' we_chain ?_
  | with_reducible refine' we_chain3 ?_
  | with_reducible refine' we_revT ?_
  | with_reducible refine' we_revL ?_
  | with_reducible refine' we_bm ?_
  | with_reducible refine' we_bm0 ?_
  | with_reducible refine' ws_for ?_
  | with_reducible refine' we_lc ?_
  | with_reducible refine' wi_list ?_
  | with_reducible refine' wi_tup ?_
  | with_reducible refine' wi_T ?_
  | with_reducible refine' wi_rng1 ?_
  | with_reducible refine' wi_rng2 ?_
  | with_reducible refine' wi_rng3 ?_
  | with_reducible refine' wi_enum ?_
  | with_reducible refine' wi_enumT ?_
  | with_reducible refine' wi_zip ?_
  | with_reducible refine' wg_name ?_
  | with_reducible refine' wg_sub ?_
  | with_reducible refine' wgs_nil ?_
  | with_reducible refine' wgs_cons ?_
  | ((with_reducible refine' wg_tup ?ht ?hn ?_); (case ht => walk_at "ist"); (case hn => rfl))
  | with_reducible refine' w2_add ?_
  | with_reducible refine' w2_sub ?_
  | with_reducible refine' w2_lt ?_
  | with_reducible refine' w2_le ?_
  | with_reducible refine' w2_gt ?_
  | with_reducible refine' w2_ge ?_
  | with_reducible refine' w2_eqI ?_
  | with_reducible refine' w2_neI ?_
  | with_reducible refine' w2_eqT ?_
  | with_reducible refine' w2_neT ?_
  | with_reducible refine' w2_eqB ?_
  | with_reducible refine' w2_neB ?_
  | with_reducible refine' w2_isN ?_
  | with_reducible refine' w2_notN ?_
  | with_reducible refine' w2_isB ?_
  | with_reducible refine' w2_inT ?_
  | with_reducible refine' w1_neg ?_
  | with_reducible refine' wl_abs ?_
  | with_reducible refine' wl_max2 ?_
  | with_reducible refine' wl_min2 ?_
  | with_reducible refine' wl_intB ?_
  | ((with_reducible refine' w2_div ?h ?_); case h => first | omega | (constructor <;> omega))
  | ((with_reducible refine' w2_mod ?h ?_); case h => omega)
  | ((with_reducible refine' w2_catT ?h ?_); case h => walk_at "len")
  | ((with_reducible refine' wsl_T ?h ?_); case h => walk_at "len")
  | ((with_reducible refine' wl_lenT ?h ?_); case h => walk_at "len")
  | ((with_reducible refine' wl_len ?h ?_); case h => walk_at "isl")
  | ((with_reducible refine' wl_len ?h ?_); case h => walk_at "isl")
  | ((with_reducible refine' wm_append ?sw ?hl ?_); (case sw => walk_at "swap"); (case hl => walk_at "len")))
local macro_rules | `(tactic| walk_at "b1") => `(tactic| first | with_reducible refine' ws_seq ?_ | walk_at "b0")
local macro_rules | `(tactic| walk_at "bx") => `(tactic| first
  | refine ⟨_, rfl, ?_⟩
  | refine ⟨_, _, rfl, ?_⟩
  | refine ⟨ty_L (by walk_at "isl"), ?_⟩
  | refine ⟨ty_S, ?_⟩
  | refine spl_t (by rfl) ?_
  | refine spl_f (by rfl) ?_
  | exact rfl)
local macro_rules | `(tactic| walk_at "bm") => `(tactic| repeat (first | walk_at "b1" | walk_at "bx"))
local macro_rules | `(tactic| walk_at "bn") => `(tactic| repeat (first | walk_at "b0" | walk_at "bx"))
local macro_rules | `(tactic| walk_at "b0") => `(tactic| with_reducible refine' c_deepens ?_)
local macro_rules | `(tactic| walk_at "b0") => `(tactic| ((with_reducible refine' c_depths_of ?hl ?_); (case hl => walk_at "len")))
local macro_rules | `(tactic| walk_at "b0") => `(tactic| with_reducible refine' c_is_wholeI ?_)
local macro_rules | `(tactic| walk_at "b0") => `(tactic| with_reducible refine' c_flipped ?_)
local macro_rules | `(tactic| walk_at "b0") => `(tactic| ((with_reducible refine' c_is_right_row ?hl ?_); (case hl => walk_at "len")))
local macro_rules | `(tactic| walk_at "b0") => `(tactic| ((with_reducible refine' c_asked_row ?hl ?_); (case hl => walk_at "len")))
local macro_rules | `(tactic| walk_at "b0") => `(tactic| ((with_reducible refine' c_depths ?hl ?_); (case hl => walk_at "len")))
local macro_rules | `(tactic| walk_at "b0") => `(tactic| ((with_reducible refine' c_is_right ?hl ?_); (case hl => walk_at "len")))
local macro_rules | `(tactic| walk_at "b0") => `(tactic| ((with_reducible refine' c__law_depths ?hl ?_); (case hl => walk_at "len")))
local macro_rules | `(tactic| walk_at "b0") => `(tactic| ((with_reducible refine' c__law_good ?hl ?_); (case hl => walk_at "len")))
local macro_rules | `(tactic| walk_at "b0") => `(tactic| ((with_reducible refine' wl_listOf ?hx ?_); (case hx => walk_at "isl")))
local macro_rules | `(tactic| walk_at "b0") => `(tactic| with_reducible refine' w2_notB ?_)
local macro_rules | `(tactic| walk_at "own") => `(tactic| exact own_l (by walk_at "mem"))
local macro_rules | `(tactic| walk_at "b0") => `(tactic| with_reducible refine' we_fld ?_)
local macro_rules | `(tactic| walk_at "b0") => `(tactic| refine ⟨_, _, _, _, _, rfl, own_l (by walk_at "mem"), Grw.cl (by assumption), Grw.nr (by assumption), by rfl, ?_⟩)
local macro_rules | `(tactic| walk_at "b0") => `(tactic| refine ⟨_, _, _, _, _, rfl, fun H' o => o.ex _ _ (by assumption), Grw.cl (by assumption), Grw.nr (by assumption), by rfl, ?_⟩)
local macro_rules | `(tactic| walk_at "b0") => `(tactic| with_reducible refine' we_meth ?_)
local macro_rules | `(tactic| walk_at "b0") => `(tactic| refine ⟨_, _, _, rfl, own_l (by walk_at "mem"), by rfl, ?_⟩)
local macro_rules | `(tactic| walk_at "b0") => `(tactic| refine ⟨_, _, _, rfl, fun H' o => o.ex _ _ (by assumption), by rfl, ?_⟩)
local macro_rules | `(tactic| walk_at "gown") => `(tactic| first | exact own_l (by walk_at "mem") | exact fun H' o => o.ex _ _ (by assumption))
local macro_rules | `(tactic| walk_at "b0") => `(tactic| with_reducible refine' wm_countT ?_)
local macro_rules | `(tactic| walk_at "b0") => `(tactic| with_reducible refine' we_methU ?_)
theorem getR {rs : List (List Bool)} {i : Nat} {y : V} (hy : (rs.map fun r => V.str (T r))[i]? = some y) : ∃ z, rs[i]? = some z ∧ y = V.str (T z) := by
  rw [List.getElem?_map] at hy
  cases e : rs[i]? with
  | none => rw [e] at hy; cases hy
  | some z => rw [e] at hy; exact ⟨z, rfl, (Option.some.inj hy).symm⟩
end BM
namespace BM
open PySem L2 Evl
/-! ### a sign many times -/
def aRepT : R2 := fun x y H Q => ∃ (b : Bool) (n : Nat), x = .str (T [b]) ∧ y = .int (n : Int) ∧ n ≤ 1000 ∧ Q (.str (T (List.replicate n b))) H
theorem fold_rep (c : Nat) : ∀ (n : Nat) (acc : Array Nat), (List.replicate n #[c]).foldl (· ++ ·) acc = acc ++ (List.replicate n c).toArray
  | 0, acc => by simp
  | n + 1, acc => by
    rw [List.replicate_succ, List.foldl_cons, fold_rep c n, List.replicate_succ]
    apply Array.ext'
    simp
theorem mul_T (b : Bool) (n : Nat) : Txt.mul (T [b]) (n : Int) = T (List.replicate n b) := by
  unfold Txt.mul
  by_cases h1 : (n : Int) < 1
  · rw [if_pos h1, show n = 0 by omega]
    rfl
  · rw [if_neg h1]
    by_cases h2 : (n : Int) = 1
    · rw [if_pos (by simp [h2]), show n = 1 by omega]
      rfl
    · rw [if_neg (by simp [h2, T_len])]
      show (⟨(List.replicate ((n : Int)).toNat #[B b]).foldl (· ++ ·) #[]⟩ : Str) = ⟨((List.replicate n b).map B).toArray⟩
      rw [fold_rep, Int.toNat_natCast, List.map_replicate]
      congr 1
      simp
theorem o_repT {X : Cx} : OpR X (binaryOp .Mult) aRepT := by
  intro pins s σ H x y v u Q I rx ry h
  obtain ⟨b, n, rfl, rfl, hn, q⟩ := h
  obtain ⟨t, rfl⟩ := rx
  obtain ⟨t2, rfl⟩ := ry
  have hl : (T [b]).length = 1 := T_len [b]
  refine SB.mul ⟨by simp; omega, fun h1 h2 => ?_, fun h1 h2 => ?_⟩ fun t' k => ⟨.str (T (List.replicate n b)), H, I.tok _, ⟨t', by rw [mul_T]⟩, q⟩
  · rw [hl]
    have hp : (0 : Int) < n := by omega
    have : (1 : Int) ≤ (2 ^ 63 - 1) / (n : Int) := (Int.le_ediv_iff_mul_le hp).mpr (by omega)
    omega
  · rw [hl, Nat.one_mul, Int.toNat_natCast]
    show decide (n > sizeLine) = false
    rw [sizeLine_eq]
    simp
    omega
theorem w2_repT {H0 : Hp} {s : Ld} {Q : V → Ld → Prop} {b : Bool} {j : Int} (h : 0 ≤ j ∧ j ≤ 1000) (q : Q (.str (T (List.replicate j.toNat b))) s) : W2 H0 aRepT (.str (T [b])) (.int j) s Q := fun H o R k => ⟨b, j.toNat, rfl, by rw [Int.toNat_of_nonneg h.1], by omega, k _ H s o q⟩
/-! ### rows met, as a dict -/
theorem nodup_len {α : Type} [DecidableEq α] : ∀ {l s : List α}, l.Nodup → (∀ x ∈ l, x ∈ s) → l.length ≤ s.length
  | [], s, _, _ => Nat.zero_le _
  | a :: l, s, h, hs => by
    have h1 := List.nodup_cons.mp h
    have ha := hs a List.mem_cons_self
    have ih := nodup_len (s := s.erase a) h1.2 fun x hx => (List.mem_erase_of_ne (fun e => h1.1 (by rw [← e]; exact hx))).mpr (hs x (List.mem_cons_of_mem _ hx))
    rw [List.length_erase_of_mem ha] at ih
    have : 0 < s.length := List.length_pos_of_mem ha
    rw [List.length_cons]
    omega
end BM
namespace BM
open PySem L2 Evl
local macro_rules | `(tactic| walk_at "mem") => `(tactic| first | exact List.mem_cons_self | (refine List.mem_cons_of_mem _ ?_; walk_at "mem"))
local macro_rules | `(tactic| walk_at "swap") => `(tactic| first | exact Swap.here | (apply Swap.there; walk_at "swap"))
local macro_rules | `(tactic| walk_at "subl") => `(tactic| first | exact List.Sublist.refl _ | exact List.nil_sublist _ | (refine List.Sublist.cons_cons _ ?_; walk_at "subl") | (refine List.Sublist.cons _ ?_; walk_at "subl"))
local macro_rules | `(tactic| walk_at "sub") => `(tactic| first | exact Sub.refl _ | (refine ⟨?_, ?_⟩ <;> walk_at "subl"))
local macro_rules | `(tactic| walk_at "isl") => `(tactic| first | exact isL_own (by walk_at "mem") | exact isL_old (by assumption) | assumption)
local macro_rules | `(tactic| walk_at "ist") => `(tactic| first | exact isT_own (by walk_at "mem") | exact isT_old (by assumption) | assumption)
local macro_rules | `(tactic| walk_at "len") => `(tactic| first | omega | decide | (simp only [List.length_map, List.length_take, List.length_drop, List.length_append, List.length_cons, List.length_nil, List.length_reverse, dps_len, flp_len]; omega) | (simp [dps_len, flp_len]; omega) | simp)
local macro_rules | `(tactic| walk_at "b0") => `(tactic| first
  | with_reducible refine' ws_set ?_
  | with_reducible refine' ws_par ?_
  | with_reducible refine' ws_asg ?_
  | with_reducible refine' ws_drop ?_
  | with_reducible refine' ws_ret ?_
  | with_reducible refine' ws_if ?_
  | with_reducible refine' ws_next ?_
  | with_reducible refine' ws_brk ?_
  | with_reducible refine' ws_cont ?_
  | ((with_reducible refine' we_var ?hv ?_); case hv => rfl)
  | with_reducible refine' we_c ?_
  | with_reducible refine' we_op ?_
  | with_reducible refine' we_un ?_
  | with_reducible refine' we_if ?_
  | with_reducible refine' we_and ?_
  | with_reducible refine' we_or ?_
  | with_reducible refine' we_not ?_
  | with_reducible refine' wa_nil ?_
  | with_reducible refine' wa_cons ?_
  | (with_reducible refine' we_lst ?_)
  | (with_reducible refine' we_tup ?_)
  | with_reducible refine' we_cb ?_
  | with_reducible refine' we_call0 ?_
  | with_reducible refine' we_sl ?_
  | with_reducible refine' wo_none ?_
  | (with_reducible refine' wo_some ?_)
  | with_reducible refine' wt_test ?_
  | with_reducible refine' wt_B ?_
  | with_reducible refine' wt_and ?_
  | with_reducible refine' wt_or ?_
  | with_reducible refine' wt_not ?_
  | with_reducible refine' wt_yes ?_
  | with_reducible refine' we_chain ?_
  | with_reducible refine' we_chain3 ?_
  | with_reducible refine' we_revT ?_
  | with_reducible refine' we_revL ?_
  | with_reducible refine' we_bm ?_
  | with_reducible refine' we_bm0 ?_
  | with_reducible refine' ws_for ?_
  | with_reducible refine' we_lc ?_
  | with_reducible refine' wi_list ?_
  | with_reducible refine' wi_tup ?_
  | with_reducible refine' wi_T ?_
  | with_reducible refine' wi_rng1 ?_
  | with_reducible refine' wi_rng2 ?_
  | with_reducible refine' wi_rng3 ?_
  | with_reducible refine' wi_enum ?_
  | with_reducible refine' wi_enumT ?_
  | with_reducible refine' wi_zip ?_
  | with_reducible refine' wg_name ?_
  | with_reducible refine' wg_sub ?_
  | with_reducible refine' wgs_nil ?_
  | with_reducible refine' wgs_cons ?_
  | ((with_reducible refine' wg_tup ?ht ?hn ?_); (case ht => walk_at "ist"); (case hn => rfl))
  | with_reducible refine' w2_add ?_
  | with_reducible refine' w2_sub ?_
  | with_reducible refine' w2_lt ?_
  | with_reducible refine' w2_le ?_
  | with_reducible refine' w2_gt ?_
  | with_reducible refine' w2_ge ?_
  | with_reducible refine' w2_eqI ?_
  | with_reducible refine' w2_neI ?_
  | with_reducible refine' w2_eqT ?_
  | with_reducible refine' w2_neT ?_
  | with_reducible refine' w2_eqB ?_
  | with_reducible refine' w2_neB ?_
  | with_reducible refine' w2_isN ?_
  | with_reducible refine' w2_notN ?_
  | with_reducible refine' w2_isB ?_
  | with_reducible refine' w2_inT ?_
  | with_reducible refine' w1_neg ?_
  | with_reducible refine' wl_abs ?_
  | with_reducible refine' wl_max2 ?_
  | with_reducible refine' wl_min2 ?_
  | with_reducible refine' wl_intB ?_
  | ((with_reducible refine' w2_div ?h ?_); case h => first | omega | (constructor <;> omega))
  | ((with_reducible refine' w2_mod ?h ?_); case h => omega)
  | ((with_reducible refine' w2_catT ?h ?_); case h => walk_at "len")
  | ((with_reducible refine' wsl_T ?h ?_); case h => walk_at "len")
  | ((with_reducible refine' wl_lenT ?h ?_); case h => walk_at "len")
  | ((with_reducible refine' wl_len ?h ?_); case h => walk_at "isl")
  | ((with_reducible refine' wl_len ?h ?_); case h => walk_at "isl")
  | ((with_reducible refine' wm_append ?sw ?hl ?_); (case sw => walk_at "swap"); (case hl => walk_at "len")))
local macro_rules | `(tactic| walk_at "b1") => `(tactic| first | with_reducible refine' ws_seq ?_ | walk_at "b0")
local macro_rules | `(tactic| walk_at "bx") => `(tactic| first
  | refine ⟨_, rfl, ?_⟩
  | refine ⟨_, _, rfl, ?_⟩
  | refine ⟨ty_L (by walk_at "isl"), ?_⟩
  | refine ⟨ty_S, ?_⟩
  | refine spl_t (by rfl) ?_
  | refine spl_f (by rfl) ?_
  | exact rfl)
local macro_rules | `(tactic| walk_at "bm") => `(tactic| repeat (first | walk_at "b1" | walk_at "bx"))
local macro_rules | `(tactic| walk_at "bn") => `(tactic| repeat (first | walk_at "b0" | walk_at "bx"))
local macro_rules | `(tactic| walk_at "b0") => `(tactic| with_reducible refine' c_deepens ?_)
local macro_rules | `(tactic| walk_at "b0") => `(tactic| ((with_reducible refine' c_depths_of ?hl ?_); (case hl => walk_at "len")))
local macro_rules | `(tactic| walk_at "b0") => `(tactic| with_reducible refine' c_is_wholeI ?_)
local macro_rules | `(tactic| walk_at "b0") => `(tactic| with_reducible refine' c_flipped ?_)
local macro_rules | `(tactic| walk_at "b0") => `(tactic| ((with_reducible refine' c_is_right_row ?hl ?_); (case hl => walk_at "len")))
local macro_rules | `(tactic| walk_at "b0") => `(tactic| ((with_reducible refine' c_asked_row ?hl ?_); (case hl => walk_at "len")))
local macro_rules | `(tactic| walk_at "b0") => `(tactic| ((with_reducible refine' c_depths ?hl ?_); (case hl => walk_at "len")))
local macro_rules | `(tactic| walk_at "b0") => `(tactic| ((with_reducible refine' c_is_right ?hl ?_); (case hl => walk_at "len")))
local macro_rules | `(tactic| walk_at "b0") => `(tactic| ((with_reducible refine' c__law_depths ?hl ?_); (case hl => walk_at "len")))
local macro_rules | `(tactic| walk_at "b0") => `(tactic| ((with_reducible refine' c__law_good ?hl ?_); (case hl => walk_at "len")))
local macro_rules | `(tactic| walk_at "b0") => `(tactic| ((with_reducible refine' wl_listOf ?hx ?_); (case hx => walk_at "isl")))
local macro_rules | `(tactic| walk_at "b0") => `(tactic| with_reducible refine' w2_notB ?_)
local macro_rules | `(tactic| walk_at "own") => `(tactic| exact own_l (by walk_at "mem"))
local macro_rules | `(tactic| walk_at "b0") => `(tactic| with_reducible refine' we_fld ?_)
local macro_rules | `(tactic| walk_at "b0") => `(tactic| refine ⟨_, _, _, _, _, rfl, own_l (by walk_at "mem"), Grw.cl (by assumption), Grw.nr (by assumption), by rfl, ?_⟩)
local macro_rules | `(tactic| walk_at "b0") => `(tactic| refine ⟨_, _, _, _, _, rfl, fun H' o => o.ex _ _ (by assumption), Grw.cl (by assumption), Grw.nr (by assumption), by rfl, ?_⟩)
local macro_rules | `(tactic| walk_at "b0") => `(tactic| with_reducible refine' we_meth ?_)
local macro_rules | `(tactic| walk_at "b0") => `(tactic| refine ⟨_, _, _, rfl, own_l (by walk_at "mem"), by rfl, ?_⟩)
local macro_rules | `(tactic| walk_at "b0") => `(tactic| refine ⟨_, _, _, rfl, fun H' o => o.ex _ _ (by assumption), by rfl, ?_⟩)
local macro_rules | `(tactic| walk_at "gown") => `(tactic| first | exact own_l (by walk_at "mem") | exact fun H' o => o.ex _ _ (by assumption))
local macro_rules | `(tactic| walk_at "b0") => `(tactic| with_reducible refine' wm_countT ?_)
local macro_rules | `(tactic| walk_at "b0") => `(tactic| with_reducible refine' we_methU ?_)
end BM
namespace BM
open PySem L2 Evl
local macro_rules | `(tactic| walk_at "mem") => `(tactic| first | exact List.mem_cons_self | (refine List.mem_cons_of_mem _ ?_; walk_at "mem"))
local macro_rules | `(tactic| walk_at "swap") => `(tactic| first | exact Swap.here | (apply Swap.there; walk_at "swap"))
local macro_rules | `(tactic| walk_at "subl") => `(tactic| first | exact List.Sublist.refl _ | exact List.nil_sublist _ | (refine List.Sublist.cons_cons _ ?_; walk_at "subl") | (refine List.Sublist.cons _ ?_; walk_at "subl"))
local macro_rules | `(tactic| walk_at "sub") => `(tactic| first | exact Sub.refl _ | (refine ⟨?_, ?_⟩ <;> walk_at "subl"))
local macro_rules | `(tactic| walk_at "isl") => `(tactic| first | exact isL_own (by walk_at "mem") | exact isL_old (by assumption) | assumption)
local macro_rules | `(tactic| walk_at "ist") => `(tactic| first | exact isT_own (by walk_at "mem") | exact isT_old (by assumption) | assumption)
local macro_rules | `(tactic| walk_at "len") => `(tactic| first | omega | decide | (simp only [List.length_map, List.length_take, List.length_drop, List.length_append, List.length_cons, List.length_nil, List.length_reverse, dps_len, flp_len]; omega) | (simp [dps_len, flp_len]; omega) | simp)
local macro_rules | `(tactic| walk_at "b0") => `(tactic| first
  | with_reducible refine' ws_set ?_
  | with_reducible refine' ws_par ?_
  | with_reducible refine' ws_asg ?_
  | with_reducible refine' ws_drop ?_
  | with_reducible refine' ws_ret ?_
  | with_reducible refine' ws_if ?_
  | with_reducible refine' ws_next ?_
  | with_reducible refine' ws_brk ?_
  | with_reducible refine' ws_cont ?_
  | ((with_reducible refine' we_var ?hv ?_); case hv => rfl)
  | with_reducible refine' we_c ?_
  | with_reducible refine' we_op ?_
  | with_reducible refine' we_un ?_
  | with_reducible refine' we_if ?_
  | with_reducible refine' we_and ?_
  | with_reducible refine' we_or ?_
  | with_reducible refine' we_not ?_
  | with_reducible refine' wa_nil ?_
  | with_reducible refine' wa_cons ?_
  | (with_reducible refine' we_lst ?_)
  | (with_reducible refine' we_tup ?_)
  | with_reducible refine' we_cb ?_
  | with_reducible refine' we_call0 ?_
  | with_reducible refine' we_sl ?_
  | with_reducible refine' wo_none ?_
  | (with_reducible refine' wo_some ?_)
  | with_reducible refine' wt_test ?_
  | with_reducible refine' wt_B ?_
  | with_reducible refine' wt_and ?_
  | with_reducible refine' wt_or ?_
  | with_reducible refine' wt_not ?_
  | with_reducible refine' wt_yes ?_
  | with_reducible refine' we_chain ?_
  | with_reducible refine' we_chain3 ?_
  | with_reducible refine' we_revT ?_
  | with_reducible refine' we_revL ?_
  | with_reducible refine' we_bm ?_
  | with_reducible refine' we_bm0 ?_
  | with_reducible refine' ws_for ?_
  | with_reducible refine' we_lc ?_
  | with_reducible refine' wi_list ?_
  | with_reducible refine' wi_tup ?_
  | with_reducible refine' wi_T ?_
  | with_reducible refine' wi_rng1 ?_
  | with_reducible refine' wi_rng2 ?_
  | with_reducible refine' wi_rng3 ?_
  | with_reducible refine' wi_enum ?_
  | with_reducible refine' wi_enumT ?_
  | with_reducible refine' wi_zip ?_
  | with_reducible refine' wg_name ?_
  | with_reducible refine' wg_sub ?_
  | with_reducible refine' wgs_nil ?_
  | with_reducible refine' wgs_cons ?_
  | ((with_reducible refine' wg_tup ?ht ?hn ?_); (case ht => walk_at "ist"); (case hn => rfl))
  | with_reducible refine' w2_add ?_
  | with_reducible refine' w2_sub ?_
  | with_reducible refine' w2_lt ?_
  | with_reducible refine' w2_le ?_
  | with_reducible refine' w2_gt ?_
  | with_reducible refine' w2_ge ?_
  | with_reducible refine' w2_eqI ?_
  | with_reducible refine' w2_neI ?_
  | with_reducible refine' w2_eqT ?_
  | with_reducible refine' w2_neT ?_
  | with_reducible refine' w2_eqB ?_
  | with_reducible refine' w2_neB ?_
  | with_reducible refine' w2_isN ?_
  | with_reducible refine' w2_notN ?_
  | with_reducible refine' w2_isB ?_
  | with_reducible refine' w2_inT ?_
  | with_reducible refine' w1_neg ?_
  | with_reducible refine' wl_abs ?_
  | with_reducible refine' wl_max2 ?_
  | with_reducible refine' wl_min2 ?_
  | with_reducible refine' wl_intB ?_
  | ((with_reducible refine' w2_div ?h ?_); case h => first | omega | (constructor <;> omega))
  | ((with_reducible refine' w2_mod ?h ?_); case h => omega)
  | ((with_reducible refine' w2_catT ?h ?_); case h => walk_at "len")
  | ((with_reducible refine' wsl_T ?h ?_); case h => walk_at "len")
  | ((with_reducible refine' wl_lenT ?h ?_); case h => walk_at "len")
  | ((with_reducible refine' wl_len ?h ?_); case h => walk_at "isl")
  | ((with_reducible refine' wl_len ?h ?_); case h => walk_at "isl")
  | ((with_reducible refine' wm_append ?sw ?hl ?_); (case sw => walk_at "swap"); (case hl => walk_at "len")))
local macro_rules | `(tactic| walk_at "b1") => `(tactic| first | with_reducible refine' ws_seq ?_ | walk_at "b0")
local macro_rules | `(tactic| walk_at "bx") => `(tactic| first
  | refine ⟨_, rfl, ?_⟩
  | refine ⟨_, _, rfl, ?_⟩
  | refine ⟨ty_L (by walk_at "isl"), ?_⟩
  | refine ⟨ty_S, ?_⟩
  | refine spl_t (by rfl) ?_
  | refine spl_f (by rfl) ?_
  | exact rfl)
local macro_rules | `(tactic| walk_at "bm") => `(tactic| repeat (first | walk_at "b1" | walk_at "bx"))
local macro_rules | `(tactic| walk_at "bn") => `(tactic| repeat (first | walk_at "b0" | walk_at "bx"))
local macro_rules | `(tactic| walk_at "b0") => `(tactic| with_reducible refine' c_deepens ?_)
local macro_rules | `(tactic| walk_at "b0") => `(tactic| ((with_reducible refine' c_depths_of ?hl ?_); (case hl => walk_at "len")))
local macro_rules | `(tactic| walk_at "b0") => `(tactic| with_reducible refine' c_is_wholeI ?_)
local macro_rules | `(tactic| walk_at "b0") => `(tactic| with_reducible refine' c_flipped ?_)
local macro_rules | `(tactic| walk_at "b0") => `(tactic| ((with_reducible refine' c_is_right_row ?hl ?_); (case hl => walk_at "len")))
local macro_rules | `(tactic| walk_at "b0") => `(tactic| ((with_reducible refine' c_asked_row ?hl ?_); (case hl => walk_at "len")))
local macro_rules | `(tactic| walk_at "b0") => `(tactic| ((with_reducible refine' c_depths ?hl ?_); (case hl => walk_at "len")))
local macro_rules | `(tactic| walk_at "b0") => `(tactic| ((with_reducible refine' c_is_right ?hl ?_); (case hl => walk_at "len")))
local macro_rules | `(tactic| walk_at "b0") => `(tactic| ((with_reducible refine' c__law_depths ?hl ?_); (case hl => walk_at "len")))
local macro_rules | `(tactic| walk_at "b0") => `(tactic| ((with_reducible refine' c__law_good ?hl ?_); (case hl => walk_at "len")))
local macro_rules | `(tactic| walk_at "b0") => `(tactic| ((with_reducible refine' wl_listOf ?hx ?_); (case hx => walk_at "isl")))
local macro_rules | `(tactic| walk_at "b0") => `(tactic| with_reducible refine' w2_notB ?_)
local macro_rules | `(tactic| walk_at "own") => `(tactic| exact own_l (by walk_at "mem"))
local macro_rules | `(tactic| walk_at "b0") => `(tactic| with_reducible refine' we_fld ?_)
local macro_rules | `(tactic| walk_at "b0") => `(tactic| refine ⟨_, _, _, _, _, rfl, own_l (by walk_at "mem"), Grw.cl (by assumption), Grw.nr (by assumption), by rfl, ?_⟩)
local macro_rules | `(tactic| walk_at "b0") => `(tactic| refine ⟨_, _, _, _, _, rfl, fun H' o => o.ex _ _ (by assumption), Grw.cl (by assumption), Grw.nr (by assumption), by rfl, ?_⟩)
local macro_rules | `(tactic| walk_at "b0") => `(tactic| with_reducible refine' we_meth ?_)
local macro_rules | `(tactic| walk_at "b0") => `(tactic| refine ⟨_, _, _, rfl, own_l (by walk_at "mem"), by rfl, ?_⟩)
local macro_rules | `(tactic| walk_at "b0") => `(tactic| refine ⟨_, _, _, rfl, fun H' o => o.ex _ _ (by assumption), by rfl, ?_⟩)
local macro_rules | `(tactic| walk_at "gown") => `(tactic| first | exact own_l (by walk_at "mem") | exact fun H' o => o.ex _ _ (by assumption))
local macro_rules | `(tactic| walk_at "b0") => `(tactic| with_reducible refine' wm_countT ?_)
local macro_rules | `(tactic| walk_at "b0") => `(tactic| with_reducible refine' we_methU ?_)
end BM
namespace BM
open PySem PySem.W PySem.Spec PySem.Calls PyProof.Rows Builtin L2 Evl NwA
/-- a class that has no __init__ but object's -/
structure Mk0 (K : PySem.W.Frag) (C : Addr) : Prop where
  makes : PySem.W.makesIn K C = true
  init : PySem.W.findIn K (.ref C) "__init__" = some (some (.builtin "object.__init__"))
  top : PySem.W.mroIn K C (.type "object") = some true
  kp : PySem.W.keepIn K (.ref C) = true
def tMk0 (C : Addr) : TE := fun _ H Q => ∀ x dx, H x = none → H dx = none → dx ≠ x → Q (.ref x) (upd (upd H dx (.own x)) x (.ins C dx []))
section
variable {X : Cx} {C : Addr} {pins : List (Addr × Obj)} {σ : L2.St} {H : Hp} {s : Shared} {Q : VK}
theorem run_mk0 (M : Mk0 X.K C) (I : Inv X pins σ H s) (h : tMk0 C σ H Q) : wpAny (model X.prog X.w) X.A (call (.ref C) []) (EP X pins σ Q) X.xe s := by
  have hq := h (s.heap.objs.size + 1) s.heap.objs.size (I.hok.fresh (Nat.le_succ _)) (I.hok.fresh (Nat.le_refl _)) (Nat.ne_of_lt (Nat.lt_succ_self _))
  have I2 := Inv.made (C := C) I
  have ho : ((s.heap.push PySem.W.emptyDict).push (PySem.W.instObj C s.heap.objs.size)).get? (s.heap.objs.size + 1) = some (PySem.W.instObj C s.heap.objs.size) := by
    have := Heap.get?_push_size (s.heap.push PySem.W.emptyDict) (o := PySem.W.instObj C s.heap.objs.size) rfl
    rw [Heap.size_push] at this
    exact this
  refine wpAny_call (make_map0 I.kIn M.makes M.init (fun self => Looks.of_pure (oi_bind _)) ?_)
  have t1 : Looks (model X.prog X.w) ((s.heap.push PySem.W.emptyDict).push (PySem.W.instObj C s.heap.objs.size)) (typeOf (.ref (s.heap.objs.size + 1))) (.ref C) := type_at ho rfl
  have t2 : Looks (model X.prog X.w) ((s.heap.push PySem.W.emptyDict).push (PySem.W.instObj C s.heap.objs.size)) (isInstance (.ref (s.heap.objs.size + 1)) (.type "object")) true := t1.andThen (looks_mroIn I2.kIn M.top)
  refine codeAny_call_builtin oi_plain entry_oi (@check_slot (model X.prog X.w) _ _ _ "object.__init__" "object" "__init__" (.ref (s.heap.objs.size + 1)) [] [] _ oi_kind oi_split t2 (oi_args_any _ [] []) ?_)
  rw [oi_run]
  exact wpAny_pure (And.intro rfl ⟨V.ref (s.heap.objs.size + 1), _, I2, rfl, hq⟩)
theorem pe_mk0 {x : Str} {p pos : Pos} (M : Mk0 X.K C) (hg : Gl X x) (hm : X.mg x = some (.ref C)) (hdb : (x == ("__debug__" : Str)) = false := by decide) : PE X (.Call (.Name x p) [] [] pos) (tMk0 C) := by
  refine ⟨fun pins s σ H Q I h => wpAny_Call_Name_kw (ld_glob I hg hm ?_ hdb)⟩
  exact PySem.W.callWith_K0 I.kIn M.kp (run_mk0 M I h)
end
theorem we_mk0 {H0 : Hp} {σ : L2.St} {s : Ld} {Q : V → Ld → Prop} {C : Addr} (h : ∀ x dx, H0 x = none → Q (.ref x) ⟨(x, .ins C dx []) :: (dx, .own x) :: s.L, s.T⟩) : WE H0 (tMk0 C) σ s Q := fun H o R k x dx hx hdx hne =>
  k _ _ _ ((o.new (u := .own x) hdx).new (u := .ins C dx []) (by rw [upd_ne hne.symm]; exact hx)) (h x dx (fresh_back o.ex hx))
end BM
namespace BM
open PySem PySem.Spec PyProof.Rows L2
/-! len(set(l)), l a list of ints, some perhaps more than once -/
theorem short_of {α : Type} [DecidableEq α] : ∀ {ns : List α}, ¬ ns.Nodup → ∃ ms : List α, ms.length < ns.length ∧ ∀ x ∈ ns, x ∈ ms
  | [], h => absurd List.nodup_nil h
  | a :: t, h => by
    by_cases ha : a ∈ t
    · exact ⟨t, by simp, fun x hx => by
        rcases List.mem_cons.mp hx with rfl | hx
        · exact ha
        · exact hx⟩
    · obtain ⟨ms, h1, h2⟩ := short_of (ns := t) fun hn => h (List.nodup_cons.mpr ⟨ha, hn⟩)
      exact ⟨a :: ms, by simp; exact h1, fun x hx => by
        rcases List.mem_cons.mp hx with rfl | hx
        · exact List.mem_cons_self
        · exact List.mem_cons_of_mem _ (h2 x hx)⟩
def tLenSetD (K : PySem.W.Frag) (te : TE) : TE := fun σ H Q => te σ H fun x H1 => ∃ (l : Addr) (ns : List Int), x = .ref l ∧ SqL K H1 l (ns.map V.int) ∧ ns.length ≤ 4000 ∧ ∀ c : Nat, c ≤ ns.length → (c = ns.length ↔ ns.Nodup) → Q (.int (c : Int)) H1
theorem pe_lenSetD {X : Cx} {a : Expr} {te : TE} {p p2 q pos : Pos} (hc : X.calm = true) (hg : Gl X "len") (hm : X.mg "len" = none) (hg2 : Gl X "set") (hm2 : X.mg "set" = none) (ha : PE X a te)
    (na : starEach [a] X.env = (false, eval a X.env) :: starEach [] X.env := by rfl) : PE X (.Call (.Name "len" p) [.Call (.Name "set" p2) [a] [] q] [] pos) (tLenSetD X.K te) := by
  refine ⟨fun pins s σ H Q I h => ?_⟩
  refine Call_ (ld_blt I hg hm boot_len (callWith_builtin1 (args_cons ?_ rfl) rfl rfl))
  refine Call_ (ld_blt I hg2 hm2 boot_set (callWith_type1 (args_cons (L2.thn (ha.run pins s σ H _ I h) fun v s1 ⟨x, H1, I1, r1, q1⟩ => args_nil ?_) na) na rfl))
  obtain ⟨l, ns, rfl, hq, hl, q1⟩ := q1
  cases r1
  obtain ⟨its, r, pl, hz⟩ := I1.list hq
  refine call_set_lstI ns (I1.ok.hd hc) pl.isList (ints_of_vals r) (by unfold scanBound; omega) fun h2 tk c R1 hcn k => args_nil ?_
  obtain ⟨o, es, ep, t, ho, hex, hd, _, hnd, hm3, _, hf, hn, _⟩ := R1
  have I2 : Inv X pins σ H1 { s1 with heap := h2, toks := tk } := I1.kept fun b o e => k b o e
  have hkl : (es.toList.map keyOf).length = c := by rw [List.length_map, Array.length_toList, hn]
  have hmem : ∀ z, z ∈ es.toList.map keyOf ↔ z ∈ ns := fun z => by rw [← hm3 z, decide_eq_true_eq]
  refine call_len_set ho hex hd hf (by rw [hn] <;> omega) ⟨.int c, H1, I2.tok _, ⟨_, by rw [hn]⟩, q1 c hcn ⟨fun e => ?_, fun e => ?_⟩⟩
  · refine Classical.byContradiction fun hh => ?_
    obtain ⟨ms, h3, h4⟩ := short_of hh
    have := nodup_len hnd fun x hx => h4 x ((hmem x).mp hx)
    omega
  · have := nodup_len e fun x hx => (hmem x).mpr hx
    omega
open Evl in
theorem we_lenSetD {K : PySem.W.Frag} {H0 : Hp} {σ : L2.St} {s : Ld} {te : TE} {Q : V → Ld → Prop} (h : WE H0 te σ s fun x s1 => ∃ (l : Addr) (ns : List Int), x = .ref l ∧ IsL K H0 s1 l (ns.map V.int) ∧ ns.length ≤ 4000 ∧ ∀ c : Nat, c ≤ ns.length → (c = ns.length ↔ ns.Nodup) → Q (.int (c : Int)) s1) : WE H0 (tLenSetD K te) σ s Q := fun H o R k =>
  h H o _ fun x H1 s1 o1 ⟨l, ns, e, h1, h2, q⟩ => ⟨l, ns, e, h1 H1 o1, h2, fun c h3 h4 => k _ _ _ o1 (q c h3 h4)⟩
end BM
namespace BM
/-! ### turned brackets: what they give to a depth -/
def cnl (ps : List Nat) (j : Nat) : Nat := (ps.filter fun p => decide (p < j)).length
theorem cnl_app (a b : List Nat) (j : Nat) : cnl (a ++ b) j = cnl a j + cnl b j := by
  unfold cnl
  rw [List.filter_append, List.length_append]
theorem cnl_zero (ps : List Nat) : cnl ps 0 = 0 := by
  unfold cnl
  rw [List.length_eq_zero_iff, List.filter_eq_nil_iff]
  intro p _
  simp
theorem cnl_succ : ∀ {ps : List Nat} (j : Nat), ps.Nodup → cnl ps (j + 1) = cnl ps j + if j ∈ ps then 1 else 0
  | [], j, _ => rfl
  | p :: ps, j, h => by
    have h1 := List.nodup_cons.mp h
    have ih := cnl_succ (ps := ps) j h1.2
    unfold cnl at ih ⊢
    simp only [List.filter_cons]
    by_cases e : p = j
    · subst e
      rw [if_pos (by simp), if_neg (by simp), List.length_cons, ih, if_neg h1.1, if_pos List.mem_cons_self]
    · have hm : (j ∈ p :: ps) = (j ∈ ps) := by
        apply propext
        rw [List.mem_cons]
        exact ⟨fun h => h.resolve_left fun e2 => e e2.symm, fun h => .inr h⟩
      by_cases hp : p < j
      · rw [if_pos (by simp; omega), if_pos (by simpa using hp), List.length_cons, List.length_cons, ih]
        simp only [hm]
        omega
      · rw [if_neg (by simp; omega), if_neg (by simpa using hp), ih]
        simp only [hm]
theorem cnl_all {ps : List Nat} {j : Nat} (h : ∀ p ∈ ps, p < j) : cnl ps j = ps.length := by
  unfold cnl
  rw [List.filter_eq_self.mpr]
  intro p hp
  simpa using h p hp
theorem cnl_none {ps : List Nat} {j : Nat} (h : ∀ p ∈ ps, j ≤ p) : cnl ps j = 0 := by
  unfold cnl
  rw [List.length_eq_zero_iff, List.filter_eq_nil_iff]
  intro p hp
  have := h p hp
  simp
  omega
abbrev inz (ps : List Nat) : List Int := ps.map Int.ofNat
theorem mem_inz {ps : List Nat} {j : Nat} : ((j : Nat) : Int) ∈ inz ps ↔ j ∈ ps := by
  rw [List.mem_map]
  exact ⟨fun ⟨a, h, e⟩ => by have : a = j := Int.ofNat.inj e; rw [← this]; exact h, fun h => ⟨j, h, rfl⟩⟩
theorem flp_at {r : List Bool} {ps : List Int} {j : Nat} {b : Bool} (h : r[j]? = some b) : (flp ps r)[j]? = some (if (j : Int) ∈ ps then !b else b) := by
  unfold flp
  rw [List.getElem?_mapIdx, h]
  rfl
/-- closing brackets at A turned, opening ones at B -/
theorem hgt_flp {r : List Bool} {A B : List Nat} (nA : A.Nodup) (nB : B.Nodup) (dj : ∀ p ∈ A, p ∉ B) (hA : ∀ p ∈ A, r[p]? = some false) (hB : ∀ p ∈ B, r[p]? = some true) :
    ∀ j, j ≤ r.length → hgt ((flp (inz (A ++ B)) r).take j) = hgt (r.take j) + 2 * (cnl A j : Int) - 2 * (cnl B j : Int)
  | 0, _ => by
    rw [cnl_zero, cnl_zero]
    rfl
  | j + 1, hj => by
    have ih := hgt_flp nA nB dj hA hB j (by omega)
    obtain ⟨b, hb⟩ : ∃ b, r[j]? = some b := ⟨_, List.getElem?_eq_getElem (by omega)⟩
    have hf := flp_at (ps := inz (A ++ B)) hb
    rw [take_snoc hf, take_snoc hb, hgt_app, hgt_app, ih, cnl_succ j nA, cnl_succ j nB]
    have hm : (((j : Nat) : Int) ∈ inz (A ++ B)) ↔ (j ∈ A ∨ j ∈ B) := by rw [mem_inz, List.mem_append]
    by_cases h1 : j ∈ A
    · have h2 := dj j h1
      have hb2 := hA j h1
      rw [hb] at hb2
      cases hb2
      rw [if_pos (hm.mpr (.inl h1)), if_pos h1, if_neg h2]
      simp [hgt, sg]
      omega
    · by_cases h2 : j ∈ B
      · have hb2 := hB j h2
        rw [hb] at hb2
        cases hb2
        rw [if_pos (hm.mpr (.inr h2)), if_neg h1, if_pos h2]
        simp [hgt, sg]
        omega
      · rw [if_neg (fun h => (hm.mp h).elim h1 h2), if_neg h1, if_neg h2]
        omega
/-- least depth so far, and from here on -/
def rm (r : List Bool) : Nat → Int
  | 0 => 0
  | i + 1 => min (rm r i) (hgt (r.take (i + 1)))
theorem rm_le (r : List Bool) : ∀ {i j : Nat}, j ≤ i → rm r i ≤ hgt (r.take j)
  | 0, j, h => by
    rw [Nat.le_zero.mp h]
    exact Int.le_refl 0
  | i + 1, j, h => by
    show min (rm r i) (hgt (r.take (i + 1))) ≤ _
    rcases Nat.lt_or_ge j (i + 1) with h1 | h1
    · have := rm_le r (show j ≤ i by omega)
      omega
    · rw [show j = i + 1 by omega]
      omega
def isC (r : List Bool) (p : Nat) : Bool := decide (r[p]? = some false) && decide (hgt (r.take (p + 1)) = rm r (p + 1))
def clos (r : List Bool) (c : Nat) : List Nat := (List.range c).filter (isC r)
theorem clos_succ (r : List Bool) (c : Nat) : clos r (c + 1) = clos r c ++ if isC r c = true then [c] else [] := by
  unfold clos
  rw [List.range_succ, List.filter_append]
  congr 1
  simp only [List.filter_cons, List.filter_nil]
theorem rm_clos (r : List Bool) : ∀ i, i ≤ r.length → -((clos r i).length : Int) ≤ rm r i
  | 0, _ => Int.le_refl 0
  | i + 1, h => by
    have ih := rm_clos r i (by omega)
    obtain ⟨b, hb⟩ : ∃ b, r[i]? = some b := ⟨_, List.getElem?_eq_getElem (by omega)⟩
    have e : hgt (r.take (i + 1)) = hgt (r.take i) + sg b := by rw [take_snoc hb, hgt_app]; simp [hgt]
    have hle := rm_le r (Nat.le_refl i)
    rw [clos_succ, List.length_append]
    have er : rm r (i + 1) = min (rm r i) (hgt (r.take (i + 1))) := rfl
    by_cases hc : isC r i = true
    · rw [if_pos hc]
      have : hgt (r.take (i + 1)) ≥ hgt (r.take i) - 1 := by cases b <;> simp [sg] at e <;> omega
      simp
      omega
    · rw [if_neg hc]
      have : rm r (i + 1) = rm r i := by
        rcases Int.lt_or_le (hgt (r.take (i + 1))) (rm r i) with h1 | h1
        · exfalso
          apply hc
          have hb2 : b = false := by
            cases b
            · rfl
            · simp only [sg, if_true] at e
              omega
          unfold isC
          rw [hb, hb2, decide_eq_true (show hgt (r.take (i + 1)) = rm r (i + 1) by omega)]
          rfl
        · omega
      simp
      omega
def smd (r : List Bool) : Nat → Int
  | 0 => hgt r
  | d + 1 => min (hgt (r.take (r.length - (d + 1)))) (smd r d)
theorem smd_le (r : List Bool) : ∀ {d e : Nat}, e ≤ d → smd r d ≤ hgt (r.take (r.length - e))
  | 0, e, h => by
    rw [Nat.le_zero.mp h, Nat.sub_zero, List.take_length]
    exact Int.le_refl _
  | d + 1, e, h => by
    show min (hgt (r.take (r.length - (d + 1)))) (smd r d) ≤ _
    rcases Nat.lt_or_ge e (d + 1) with h1 | h1
    · have := smd_le r (show e ≤ d by omega)
      omega
    · rw [show e = d + 1 by omega]
      omega
def isO (r : List Bool) (p : Nat) : Bool := decide (r[p]? = some true) && decide (hgt (r.take p) = smd r (r.length - p))
def opd (r : List Bool) : Nat → List Nat
  | 0 => []
  | d + 1 => (if isO r (r.length - (d + 1)) = true then [r.length - (d + 1)] else []) ++ opd r d
theorem opd_ge (r : List Bool) : ∀ {d : Nat} {p : Nat}, p ∈ opd r d → r.length - d ≤ p ∧ p < r.length ∧ r[p]? = some true
  | 0, p, h => by cases h
  | d + 1, p, h => by
    rcases List.mem_append.mp h with h | h
    · split at h
      · rename_i hO
        have e := List.mem_singleton.mp h
        subst e
        unfold isO at hO
        have h1 := of_decide_eq_true (Bool.and_eq_true_iff.mp hO).1
        exact ⟨by omega, (List.getElem?_eq_some_iff.mp h1).1, h1⟩
      · cases h
    · have := opd_ge r h
      exact ⟨by omega, this.2⟩
theorem opd_nodup (r : List Bool) : ∀ {d : Nat}, d ≤ r.length → (opd r d).Nodup
  | 0, _ => List.nodup_nil
  | d + 1, h => by
    have ih := opd_nodup r (d := d) (by omega)
    show ((if isO r (r.length - (d + 1)) = true then [r.length - (d + 1)] else []) ++ opd r d).Nodup
    split
    · refine List.nodup_cons.mpr ⟨fun hm => ?_, ih⟩
      have := (opd_ge r hm).1
      omega
    · exact ih
theorem smd_opd (r : List Bool) : ∀ d, d ≤ r.length → hgt r - smd r d ≤ ((opd r d).length : Int)
  | 0, _ => by show hgt r - hgt r ≤ 0; omega
  | d + 1, h => by
    have ih := smd_opd r d (by omega)
    obtain ⟨b, hb⟩ : ∃ b, r[r.length - (d + 1)]? = some b := ⟨_, List.getElem?_eq_getElem (by omega)⟩
    have e : hgt (r.take (r.length - d)) = hgt (r.take (r.length - (d + 1))) + sg b := by
      have := take_snoc hb
      rw [show r.length - (d + 1) + 1 = r.length - d by omega] at this
      rw [this, hgt_app]
      simp [hgt]
    have hle := smd_le r (Nat.le_refl d)
    have er : smd r (d + 1) = min (hgt (r.take (r.length - (d + 1)))) (smd r d) := rfl
    show hgt r - smd r (d + 1) ≤ (((if isO r (r.length - (d + 1)) = true then [r.length - (d + 1)] else []) ++ opd r d).length : Int)
    rw [List.length_append]
    by_cases hc : isO r (r.length - (d + 1)) = true
    · rw [if_pos hc]
      have : hgt (r.take (r.length - (d + 1))) ≥ hgt (r.take (r.length - d)) - 1 := by cases b <;> simp [sg] at e <;> omega
      simp
      omega
    · rw [if_neg hc]
      have : smd r (d + 1) = smd r d := by
        rcases Int.lt_or_le (hgt (r.take (r.length - (d + 1)))) (smd r d) with h1 | h1
        · exfalso
          apply hc
          have hb2 : b = true := by
            cases b
            · simp only [sg, Bool.false_eq_true, if_false] at e
              omega
            · rfl
          unfold isO
          rw [hb, hb2, show r.length - (r.length - (d + 1)) = d + 1 by omega, decide_eq_true (show hgt (r.take (r.length - (d + 1))) = smd r (d + 1) by omega)]
          rfl
        · omega
      simp
      omega
theorem clos_mem {r : List Bool} {c p : Nat} (h : p ∈ clos r c) : p < c ∧ r[p]? = some false := by
  obtain ⟨h1, h2⟩ := List.mem_filter.mp h
  exact ⟨List.mem_range.mp h1, of_decide_eq_true (Bool.and_eq_true_iff.mp h2).1⟩
theorem clos_nodup (r : List Bool) (c : Nat) : (clos r c).Nodup := List.Nodup.sublist List.filter_sublist List.nodup_range
theorem clos_split (r : List Bool) {c j : Nat} (h : j ≤ c) : ∃ L, clos r c = clos r j ++ L ∧ ∀ p ∈ L, j ≤ p := by
  induction c with
  | zero => exact ⟨[], by rw [Nat.le_zero.mp h, List.append_nil], fun p hp => by cases hp⟩
  | succ c ih =>
    rcases Nat.lt_or_ge j (c + 1) with h1 | h1
    · obtain ⟨L, e, hL⟩ := ih (by omega)
      refine ⟨L ++ (if isC r c = true then [c] else []), by rw [clos_succ, e, List.append_assoc], fun p hp => ?_⟩
      rcases List.mem_append.mp hp with hp | hp
      · exact hL p hp
      · split at hp
        · rw [List.mem_singleton.mp hp]
          omega
        · cases hp
    · exact ⟨[], by rw [show j = c + 1 by omega, List.append_nil], fun p hp => by cases hp⟩
theorem opd_split (r : List Bool) {d e : Nat} (h : e ≤ d) (hd : d ≤ r.length) : ∃ S, opd r d = S ++ opd r e ∧ ∀ p ∈ S, p < r.length - e := by
  induction d with
  | zero => exact ⟨[], by rw [Nat.le_zero.mp h]; rfl, fun p hp => by cases hp⟩
  | succ d ih =>
    rcases Nat.lt_or_ge e (d + 1) with h1 | h1
    · obtain ⟨S, eS, hS⟩ := ih (by omega) (by omega)
      refine ⟨(if isO r (r.length - (d + 1)) = true then [r.length - (d + 1)] else []) ++ S, by rw [List.append_assoc, ← eS]; rfl, fun p hp => ?_⟩
      rcases List.mem_append.mp hp with hp | hp
      · split at hp
        · rw [List.mem_singleton.mp hp]
          omega
        · cases hp
      · exact hS p hp
    · exact ⟨[], by rw [show e = d + 1 by omega]; rfl, fun p hp => by cases hp⟩
theorem rm_low {r : List Bool} {c : Nat} (h : ∀ j, j ≤ r.length → hgt (r.take c) ≤ hgt (r.take j)) (hc : c ≤ r.length) : rm r c = hgt (r.take c) := by
  have h1 := rm_le r (Nat.le_refl c)
  have h2 : ∀ i, i ≤ r.length → hgt (r.take c) ≤ rm r i := by
    intro i
    induction i with
    | zero => intro _; have := h 0 (Nat.zero_le _); exact this
    | succ i ih =>
      intro hi
      have a := ih (by omega)
      have b := h (i + 1) hi
      show _ ≤ min (rm r i) (hgt (r.take (i + 1)))
      omega
  have := h2 c hc
  omega
theorem smd_low {r : List Bool} {c : Nat} (h : ∀ j, j ≤ r.length → hgt (r.take c) ≤ hgt (r.take j)) (hc : c ≤ r.length) : smd r (r.length - c) = hgt (r.take c) := by
  have h1 := smd_le r (Nat.le_refl (r.length - c))
  rw [show r.length - (r.length - c) = c by omega] at h1
  have h2 : ∀ d, d ≤ r.length → hgt (r.take c) ≤ smd r d := by
    intro d
    induction d with
    | zero =>
      intro _
      have := h r.length (Nat.le_refl _)
      rw [List.take_length] at this
      exact this
    | succ d ih =>
      intro hd
      have a := ih (by omega)
      have b := h (r.length - (d + 1)) (by omega)
      show _ ≤ min (hgt (r.take (r.length - (d + 1)))) (smd r d)
      omega
  have := h2 (r.length - c) (by omega)
  omega
/-- the turned brackets mend the row -/
theorem turn_mend {r : List Bool} {c : Nat} (hc : c ≤ r.length) (hev : r.length % 2 = 0) (hmin : ∀ j, j ≤ r.length → hgt (r.take c) ≤ hgt (r.take j)) {many more : Nat} (hm : (many : Int) = (-hgt (r.take c) + 1) / 2) (ho : (more : Int) = (hgt r - hgt (r.take c) + 1) / 2) :
    many ≤ (clos r c).length ∧ more ≤ (opd r (r.length - c)).length ∧ isR (flp (inz ((clos r c).take many ++ (opd r (r.length - c)).drop ((opd r (r.length - c)).length - more))) r) = true := by
  have h0 := hmin 0 (Nat.zero_le _)
  have e0 : hgt (r.take 0) = 0 := rfl
  have hn := hmin r.length (Nat.le_refl _)
  rw [List.take_length] at hn
  have hpar := hgt_par7 r
  have k1 := rm_clos r c hc
  rw [rm_low hmin hc] at k1
  have k2 := smd_opd r (r.length - c) (by omega)
  rw [smd_low hmin hc] at k2
  have hmc : many ≤ (clos r c).length := by omega
  have hmo : more ≤ (opd r (r.length - c)).length := by omega
  refine ⟨hmc, hmo, ?_⟩
  obtain ⟨A, hA⟩ : ∃ A, (clos r c).take many = A := ⟨_, rfl⟩
  obtain ⟨B, hB⟩ : ∃ B, (opd r (r.length - c)).drop ((opd r (r.length - c)).length - more) = B := ⟨_, rfl⟩
  rw [hA, hB]
  have lA : A.length = many := by rw [← hA, List.length_take]; omega
  have lB : B.length = more := by rw [← hB, List.length_drop]; omega
  have mA : ∀ p ∈ A, p < c ∧ r[p]? = some false := fun p hp => clos_mem (List.take_subset _ _ (hA ▸ hp))
  have mB : ∀ p ∈ B, c ≤ p ∧ p < r.length ∧ r[p]? = some true := fun p hp => by
    have := opd_ge r (List.drop_subset _ _ (hB ▸ hp))
    rw [show r.length - (r.length - c) = c by omega] at this
    exact this
  have nA : A.Nodup := hA ▸ List.Nodup.sublist (List.take_sublist _ _) (clos_nodup r c)
  have nB : B.Nodup := hB ▸ List.Nodup.sublist (List.drop_sublist _ _) (opd_nodup r (by omega))
  have F := hgt_flp nA nB (fun p hp hq => by have := (mA p hp).1; have := (mB p hq).1; omega) (fun p hp => (mA p hp).2) (fun p hp => (mB p hp).2.2)
  rw [isR_iff]
  have hlen : (flp (inz (A ++ B)) r).length = r.length := flp_len _ _
  have tot : hgt (flp (inz (A ++ B)) r) = 0 := by
    have := F r.length (Nat.le_refl _)
    rw [← hlen, List.take_length, hlen, List.take_length, cnl_all (fun p hp => by have := (mA p hp).1; omega), cnl_all (fun p hp => (mB p hp).2.1), lA, lB] at this
    omega
  refine ⟨tot, fun j hj => ?_⟩
  rw [hlen] at hj
  rw [F j hj]
  rcases Nat.le_total j c with h1 | h1
  · have b0 : cnl B j = 0 := cnl_none fun p hp => by have := (mB p hp).1; omega
    rw [b0]
    obtain ⟨L, eL, hL⟩ := clos_split r h1
    have a0 : cnl A j = min many (clos r j).length := by
      rw [← hA, eL, List.take_append, cnl_app, cnl_all (fun p hp => (clos_mem (List.take_subset _ _ hp)).1), cnl_none (fun p hp => hL p (List.take_subset _ _ hp)), List.length_take]
      omega
    rw [a0]
    have g1 := rm_clos r j hj
    have g2 := rm_le r (Nat.le_refl j)
    have g3 := hmin j hj
    omega
  · have a0 : cnl A j = many := by
      rw [cnl_all (fun p hp => by have := (mA p hp).1; omega), lA]
    rw [a0]
    obtain ⟨S, eS, hS⟩ := opd_split r (show r.length - j ≤ r.length - c by omega) (by omega)
    rw [show r.length - (r.length - j) = j by omega] at hS
    have lS : (opd r (r.length - c)).length = S.length + (opd r (r.length - j)).length := by rw [eS, List.length_append]
    have b0 : cnl B j = more - min more (opd r (r.length - j)).length := by
      rw [← hB, lS, eS, List.drop_append, cnl_app, cnl_all (fun p hp => hS p (List.drop_subset _ _ hp)), cnl_none (fun p hp => by
        have := (opd_ge r (List.drop_subset _ _ hp)).1
        omega), List.length_drop]
      omega
    rw [b0]
    have g1 := smd_opd r (r.length - j) (by omega)
    have g2 := smd_le r (Nat.le_refl (r.length - j))
    rw [show r.length - (r.length - j) = j by omega] at g2
    have g3 := hmin j hj
    have tt : hgt r + 2 * (many : Int) - 2 * (more : Int) = 0 := by omega
    omega
/-- no fewer turned brackets do -/
theorem flp_up {r : List Bool} {ps : List Nat} (nd : ps.Nodup) : ∀ j, j ≤ r.length → hgt ((flp (inz ps) r).take j) ≤ hgt (r.take j) + 2 * (cnl ps j : Int)
  | 0, _ => by
    rw [cnl_zero]
    exact Int.le_refl _
  | j + 1, hj => by
    have ih := flp_up (r := r) nd j (by omega)
    obtain ⟨b, hb⟩ : ∃ b, r[j]? = some b := ⟨_, List.getElem?_eq_getElem (by omega)⟩
    have hf := flp_at (ps := inz ps) hb
    rw [take_snoc hf, take_snoc hb, hgt_app, hgt_app, cnl_succ j nd]
    by_cases h1 : j ∈ ps
    · rw [if_pos (mem_inz.mpr h1), if_pos h1]
      cases b <;> simp [hgt, sg] <;> omega
    · rw [if_neg (fun h => h1 (mem_inz.mp h)), if_neg h1]
      omega
theorem flp_down {r : List Bool} {ps : List Nat} (nd : ps.Nodup) {c : Nat} : ∀ d, c + d ≤ r.length → hgt (r.take (c + d)) - hgt (r.take c) - 2 * ((cnl ps (c + d) : Int) - cnl ps c) ≤ hgt ((flp (inz ps) r).take (c + d)) - hgt ((flp (inz ps) r).take c)
  | 0, _ => by simp
  | d + 1, hj => by
    have ih := flp_down (r := r) (c := c) nd d (by omega)
    obtain ⟨b, hb⟩ : ∃ b, r[c + d]? = some b := ⟨_, List.getElem?_eq_getElem (by omega)⟩
    have hf := flp_at (ps := inz ps) hb
    rw [show c + (d + 1) = c + d + 1 by omega, take_snoc hf, take_snoc hb, hgt_app, hgt_app, cnl_succ (c + d) nd]
    by_cases h1 : c + d ∈ ps
    · rw [if_pos (mem_inz.mpr h1), if_pos h1]
      cases b <;> simp [hgt, sg] <;> omega
    · rw [if_neg (fun h => h1 (mem_inz.mp h)), if_neg h1]
      omega
theorem turn_least {r : List Bool} {c : Nat} (hc : c ≤ r.length) {ps : List Nat} (nd : ps.Nodup) (hl : ∀ p ∈ ps, p < r.length) (hR : isR (flp (inz ps) r) = true) {many more : Nat} (hm : (many : Int) = (-hgt (r.take c) + 1) / 2) (ho : (more : Int) = (hgt r - hgt (r.take c) + 1) / 2) : many + more ≤ ps.length := by
  obtain ⟨h1, h2⟩ := isR_iff.mp hR
  have hlen : (flp (inz ps) r).length = r.length := flp_len _ _
  have a := flp_up (r := r) nd c hc
  have b := flp_down (r := r) nd (c := c) (r.length - c) (by omega)
  rw [show c + (r.length - c) = r.length by omega, List.take_length, cnl_all hl] at b
  have e : hgt ((flp (inz ps) r).take r.length) = 0 := by rw [← hlen, List.take_length, h1]
  rw [e] at b
  have g := h2 c (by omega)
  omega
end BM
namespace BM
theorem rm_att (r : List Bool) : ∀ i, ∃ j, j ≤ i ∧ rm r i = hgt (r.take j)
  | 0 => ⟨0, Nat.le_refl _, rfl⟩
  | i + 1 => by
    obtain ⟨j, hj, e⟩ := rm_att r i
    have er : rm r (i + 1) = min (rm r i) (hgt (r.take (i + 1))) := rfl
    rcases Int.le_total (rm r i) (hgt (r.take (i + 1))) with h | h
    · exact ⟨j, by omega, by omega⟩
    · exact ⟨i + 1, Nat.le_refl _, by omega⟩
theorem smd_att (r : List Bool) : ∀ d, ∃ e, e ≤ d ∧ smd r d = hgt (r.take (r.length - e))
  | 0 => ⟨0, Nat.le_refl _, by rw [Nat.sub_zero, List.take_length]; rfl⟩
  | d + 1 => by
    obtain ⟨j, hj, e⟩ := smd_att r d
    have er : smd r (d + 1) = min (hgt (r.take (r.length - (d + 1)))) (smd r d) := rfl
    rcases Int.le_total (smd r d) (hgt (r.take (r.length - (d + 1)))) with h | h
    · exact ⟨j, by omega, by omega⟩
    · exact ⟨d + 1, Nat.le_refl _, by omega⟩
theorem rm_min {r : List Bool} {i : Nat} {m : Int} (hi : i ≤ r.length) (h1 : m ∈ (dps r).take (i + 1)) (h2 : ∀ y ∈ (dps r).take (i + 1), m ≤ y) : m = rm r i := by
  have mem : ∀ j, j ≤ i → hgt (r.take j) ∈ (dps r).take (i + 1) := fun j hj => List.mem_iff_getElem?.mpr ⟨j, by rw [List.getElem?_take, if_pos (by omega), dps_get (by omega)]⟩
  obtain ⟨j, hj⟩ := List.mem_iff_getElem?.mp h1
  rw [List.getElem?_take] at hj
  split at hj
  · rename_i hlt
    rw [dps_get (by omega)] at hj
    have e := Option.some.inj hj
    have a := rm_le r (show j ≤ i by omega)
    obtain ⟨k, hk, ek⟩ := rm_att r i
    have b := h2 _ (mem k hk)
    omega
  · cases hj
theorem smd_min {r : List Bool} {c : Nat} {m : Int} (hc : c ≤ r.length) (h1 : m ∈ (dps r).drop c) (h2 : ∀ y ∈ (dps r).drop c, m ≤ y) : m = smd r (r.length - c) := by
  have mem : ∀ j, c ≤ j → j ≤ r.length → hgt (r.take j) ∈ (dps r).drop c := fun j hj hl => List.mem_iff_getElem?.mpr ⟨j - c, by rw [List.getElem?_drop, show c + (j - c) = j by omega, dps_get hl]⟩
  obtain ⟨j, hj⟩ := List.mem_iff_getElem?.mp h1
  rw [List.getElem?_drop] at hj
  have hjl : c + j ≤ r.length := by
    have := (List.getElem?_eq_some_iff.mp hj).1
    rw [dps_len] at this
    omega
  rw [dps_get hjl] at hj
  have e := Option.some.inj hj
  have a := smd_le r (show r.length - (c + j) ≤ r.length - c by omega)
  rw [show r.length - (r.length - (c + j)) = c + j by omega] at a
  obtain ⟨k, hk, ek⟩ := smd_att r (r.length - c)
  have b := h2 _ (mem (r.length - k) (by omega) (by omega))
  omega
/-- the opening brackets met from c on, i places -/
def segO (r : List Bool) (c i : Nat) : List Nat := ((List.range i).filter fun k => isO r (c + k)).map (c + ·)
theorem segO_succ (r : List Bool) (c i : Nat) : segO r c (i + 1) = segO r c i ++ if isO r (c + i) = true then [c + i] else [] := by
  unfold segO
  rw [List.range_succ, List.filter_append, List.map_append]
  congr 1
  simp only [List.filter_cons, List.filter_nil]
  split <;> rfl
theorem segO_opd (r : List Bool) {c : Nat} : ∀ i, c + i ≤ r.length → segO r c i ++ opd r (r.length - (c + i)) = opd r (r.length - c)
  | 0, _ => rfl
  | i + 1, h => by
    have ih := segO_opd r (c := c) i (by omega)
    have this : r.length - (c + i) = r.length - (c + (i + 1)) + 1 := by omega
    have e : opd r (r.length - (c + i)) = (if isO r (c + i) = true then [c + i] else []) ++ opd r (r.length - (c + (i + 1))) := by
      rw [this]
      show (if isO r (r.length - (r.length - (c + (i + 1)) + 1)) = true then [r.length - (r.length - (c + (i + 1)) + 1)] else []) ++ opd r (r.length - (c + (i + 1))) = _
      rw [show r.length - (r.length - (c + (i + 1)) + 1) = c + i by omega]
    rw [segO_succ, List.append_assoc, ← e, ih]
theorem segO_all (r : List Bool) {c : Nat} (hc : c ≤ r.length) : segO r c (r.length - c) = opd r (r.length - c) := by
  have := segO_opd r (c := c) (r.length - c) (by omega)
  rw [show r.length - (c + (r.length - c)) = 0 by omega] at this
  rw [← this]
  show _ = _ ++ []
  rw [List.append_nil]
theorem segO_len (r : List Bool) (c i : Nat) : (segO r c i).length ≤ i := by
  unfold segO
  rw [List.length_map]
  exact Nat.le_trans (List.length_filter_le _ _) (by rw [List.length_range]; exact Nat.le_refl _)
theorem clos_len (r : List Bool) (c : Nat) : (clos r c).length ≤ c := by
  unfold clos
  exact Nat.le_trans (List.length_filter_le _ _) (by rw [List.length_range]; exact Nat.le_refl _)
end BM
namespace BM
open PySem L2 Evl
abbrev oIns (C : CA) (d : Addr) : HO := .ins C.c_Odd d []
abbrev tIns (C : CA) (d a : Addr) (z : Int) : HO := .ins C.c_Turned d [("places", .ref a), ("cut", .int z)]
structure TnC (K : PySem.W.Frag) (C : CA) : Prop where
  c : Anc K C.c_Turned
  np : NoAttr K C.c_Turned "places"
  nc : NoAttr K C.c_Turned "cut"
structure Ex03 (K : PySem.W.Frag) (C : CA) : Prop where
  o : Anc K C.c_Odd
  t : TnC K C
  oa : PySem.W.kitOne K (.ref C.c_Odd) (.ref C.c_Answer) = some true
  ta : PySem.W.kitOne K (.ref C.c_Turned) (.ref C.c_Answer) = some true
  os : PySem.W.kitOne K (.ref C.c_Odd) (.ref C.c_Swapped) = some false
  ts : PySem.W.kitOne K (.ref C.c_Turned) (.ref C.c_Swapped) = some false
  ou : PySem.W.kitOne K (.ref C.c_Odd) (.ref C.c_Uneven) = some false
  tu : PySem.W.kitOne K (.ref C.c_Turned) (.ref C.c_Uneven) = some false
  or' : PySem.W.kitOne K (.ref C.c_Odd) (.ref C.c_Rounded) = some false
  tr : PySem.W.kitOne K (.ref C.c_Turned) (.ref C.c_Rounded) = some false
  ot : PySem.W.kitOne K (.ref C.c_Odd) (.ref C.c_Turned) = some false
  to : PySem.W.kitOne K (.ref C.c_Turned) (.ref C.c_Odd) = some false
def odSh (r : List Bool) : Bool := decide ((r.length : Int) % 2 = 1)
def pos (z : Int) : Int := if z > 0 then z else 0
def tnNum (r : List Bool) (z : Int) : Int := (pos (-hgt (r.take z.toNat)) + 1) / 2 + (pos (hgt r - hgt (r.take z.toNat)) + 1) / 2
def tnSh (r : List Bool) (ps : List Int) (z : Int) : Bool := decide (∀ p ∈ ps, 0 ≤ p ∧ p < (r.length : Int)) && (decide ps.Nodup && (isR (flp ps r) && (decide (0 ≤ z ∧ z ≤ (r.length : Int)) && decide ((ps.length : Int) = tnNum r z))))
def sp_o_shows (K : PySem.W.Frag) (C : CA) : Sp := spV fun vs H v => ∃ (x : V) (r : List Bool), vs = [x, .str (T r)] ∧ r.length ≤ 1000 ∧ v = .bl (odSh r)
def sp_t_init (K : PySem.W.Frag) (C : CA) : Sp := fun vs H Q _ => ∃ (x d a : Addr) (ps : List Int) (z : Int), TnC K C ∧ vs = [.ref x, .ref a, .int z] ∧ H x = some (.ins C.c_Turned d []) ∧ SqL K H a (ps.map V.int) ∧ a ≠ x ∧
  ∀ H' a2, Ex (del x H) H' → del x H a2 = none → [a2, x].Nodup → H' x = some (tIns C d a2 z) → H' a2 = some (.lst (ps.map V.int)) → Q .non H'
def sp_t_shows (K : PySem.W.Frag) (C : CA) : Sp := spV fun vs H v => ∃ (g d a : Addr) (ps : List Int) (z : Int) (r : List Bool), TnC K C ∧ vs = [.ref g, .str (T r)] ∧ H g = some (tIns C d a z) ∧ SqL K H a (ps.map V.int) ∧ ps.length ≤ 4000 ∧ r.length ≤ 1000 ∧ v = .bl (tnSh r ps z)
def sp__law_turned (K : PySem.W.Frag) (C : CA) : Sp := spV fun vs H v => ∃ (r : List Bool) (a : Addr) (ps : List Int) (z : Int), vs = [.str (T r), .ref a, .int z] ∧ SqL K H a (ps.map V.int) ∧ ps.length ≤ 4000 ∧ r.length ≤ 1000 ∧ v = .bl (tnSh r ps z)
def TnAns (K : PySem.W.Frag) (C : CA) (H : Hp) (x : Addr) (f : List Bool → Bool) : Prop := (∃ d, H x = some (oIns C d) ∧ f = odSh) ∨ (∃ d a z ps, H x = some (tIns C d a z) ∧ SqL K H a (ps.map V.int) ∧ ps.length ≤ 4000 ∧ f = fun r => tnSh r ps z)
def sp_turns (K : PySem.W.Frag) (C : CA) : Sp := fun vs H Q _ => ∃ r : List Bool, Ex03 K C ∧ vs = [.str (T r)] ∧ r.length ≤ 40 ∧
  (r.length % 2 = 1 → ∀ H' x d, Ex H H' → H x = none → H' x = some (oIns C d) → Q (.ref x) H') ∧
  (r.length % 2 = 0 → ∀ H' x d a c ps, Ex H H' → H x = none → H a = none → [a, x].Nodup → H' x = some (tIns C d a (c : Nat)) → H' a = some (.lst ((inz ps).map V.int)) → c ≤ r.length → (∀ j, j ≤ r.length → hgt (r.take c) ≤ hgt (r.take j)) → ps.Nodup → (∀ p ∈ ps, p < r.length) → isR (flp (inz ps) r) = true → (ps.length : Int) = tnNum r c → Q (.ref x) H')
def sp__law_due03 (K : PySem.W.Frag) (C : CA) : Sp := spV fun vs H v => ∃ (r : List Bool) (x : Addr) (f : List Bool → Bool), Ex03 K C ∧ vs = [.str (T r), .ref x] ∧ r.length ≤ 1000 ∧ TnAns K C H x f ∧ v = .bl (f r)
def sp__law_right03 (K : PySem.W.Frag) (C : CA) : Sp := spV fun vs H v => ∃ (r : List Bool) (b : Addr) (rs : List (List Bool)), Ex03 K C ∧ vs = [.str (T r), .ref b] ∧ r.length ≤ 40 ∧ SqL K H b (rs.map fun r => .str (T r)) ∧ (∀ u ∈ rs, u.length ≤ 1000) ∧ v = .bl true
def sp__law_least03 (K : PySem.W.Frag) (C : CA) : Sp := spV fun vs H v => ∃ (r : List Bool) (c : Nat) (ps : List Nat), vs = [.str (T r)] ∧ r.length ≤ 8 ∧ c ≤ r.length ∧ ps.Nodup ∧ (∀ p ∈ ps, p < r.length) ∧ isR (flp (inz ps) r) = true ∧ (ps.length : Int) = tnNum r c ∧ (∀ j, j ≤ r.length → hgt (r.take c) ≤ hgt (r.take j)) ∧ v = .int ps.length
def sp_law03 (K : PySem.W.Frag) (C : CA) : Sp := spV fun vs H v => ∃ (a : Addr) (ns : List Int), Ex03 K C ∧ vs = [.ref a] ∧ SqL K H a (ns.map V.int) ∧ ns.length ≤ 63 ∧ v = .bl true
end BM
namespace BM
open PySem L2 Evl
def N_o_shows : List Str := ["self", "row"]
def rd_o_shows (K : PySem.W.Frag) (C_ : CA) : TS :=
    (tRet (tOp rEq (tOp aMod (tCB aLenT (tCons (tVar 1) tNil)) (tC (.int 2))) (tC (.int 1))))
def N_t_init : List Str := ["self", "places", "cut"]
def rd_t_init (K : PySem.W.Frag) (C_ : CA) : TS :=
    (tSeq (sFld K (tVar 0) (tCB (aListOf K) (tCons (tVar 1) tNil)) "places")
    (sFld K (tVar 0) (tVar 2) "cut"))
def N_t_shows : List Str := ["self", "row", "found", "low", "high", "place"]
def rd_t_shows (K : PySem.W.Frag) (C_ : CA) : TS :=
    (tSeq (tIfS (tOr (tNot (tB (tCB (aAll K) (tCons (tLc (iList K (tFld K (tVar 0) "places")) (gName 5) tYes (tChain aLe aLt (tC (.int 0)) (tVar 5) (tCB aLenT (tCons (tVar 1) tNil))) [5]) tNil)))) (tTest (tOp rNe (tLenSetD K (tFld K (tVar 0) "places")) (tCB (aLenL K) (tCons (tFld K (tVar 0) "places") tNil))))) (tRet (tC (.bl false))) tNext)
    (tSeq (tIfS (tOr (tNot (tB (tCall (sp_is_right_row K C_) [] E0 (tCons (tCall (sp_turned K C_) [] E0 (tCons (tVar 1) (tCons (tFld K (tVar 0) "places") tNil))) tNil)))) (tNot (tTest (tChain aLe aLe (tC (.int 0)) (tFld K (tVar 0) "cut") (tCB aLenT (tCons (tVar 1) tNil)))))) (tRet (tC (.bl false))) tNext)
    (tSeq (tAsg (tCall (sp_depths_of K C_) [] E0 (tCons (tVar 1) tNil)) (gName 2))
    (tSeq (tPar 3 4 (tCons (tCB aMax2 (tCons (tC (.int 0)) (tCons (tUn aNeg (tOp (rIxL K) (tVar 2) (tFld K (tVar 0) "cut"))) tNil))) (tCons (tCB aMax2 (tCons (tC (.int 0)) (tCons (tOp aSub (tOp (rIxL K) (tVar 2) (tUn aNeg (tC (.int 1)))) (tOp (rIxL K) (tVar 2) (tFld K (tVar 0) "cut"))) tNil))) tNil)))
    (tRet (tOp rEq (tCB (aLenL K) (tCons (tFld K (tVar 0) "places") tNil)) (tOp aAdd (tOp aDiv (tOp aAdd (tVar 3) (tC (.int 1))) (tC (.int 2))) (tOp aDiv (tOp aAdd (tVar 4) (tC (.int 1))) (tC (.int 2))))))))))
def N_turns : List Str := ["row", "found", "high", "closers", "openers", "low", "cut", "many", "more", "at"]
def rd_turns (K : PySem.W.Frag) (C_ : CA) : TS :=
    (tSeq (tDrop (tCall (sp_asked_row K C_) [] E0 (tCons (tVar 0) tNil)))
    (tSeq (tIfS (tTest (tOp rEq (tOp aMod (tCB aLenT (tCons (tVar 0) tNil)) (tC (.int 2))) (tC (.int 1)))) (tRet (tMk0 C_.c_Odd)) tNext)
    (tSeq (tAsg (tCall (sp_depths_of K C_) [] E0 (tCons (tVar 0) tNil)) (gName 1))
    (tSeq (tPar 5 6 (tCons (tUn aNeg (tCB (rMin K) (tCons (tVar 1) tNil))) (tCons (tBM K "list" (aIndex K) (tVar 1) (tCons (tCB (rMin K) (tCons (tVar 1) tNil)) tNil)) tNil)))
    (tSeq (tAsg (tOp aAdd (tOp (rIxL K) (tVar 1) (tUn aNeg (tC (.int 1)))) (tVar 5)) (gName 2))
    (tSeq (tAsg (tLc (iRng1 (tCons (tVar 6) tNil)) (gName 9) (tAnd (tTest (tOp rEq (tOp aIxT (tVar 0) (tVar 9)) (tC (.str (T [false]))))) (tTest (tOp rEq (tOp (rIxL K) (tVar 1) (tOp aAdd (tVar 9) (tC (.int 1)))) (tCB (rMin K) (tCons (tSl (rSlL K) (tVar 1) tNoPart (tPart (tOp aAdd (tVar 9) (tC (.int 2))))) tNil))))) (tVar 9) [9]) (gName 3))
    (tSeq (tAsg (tLc (iRng2 (tCons (tVar 6) (tCons (tCB aLenT (tCons (tVar 0) tNil)) tNil))) (gName 9) (tAnd (tTest (tOp rEq (tOp aIxT (tVar 0) (tVar 9)) (tC (.str (T [true]))))) (tTest (tOp rEq (tOp (rIxL K) (tVar 1) (tVar 9)) (tCB (rMin K) (tCons (tSl (rSlL K) (tVar 1) (tPart (tVar 9)) tNoPart) tNil))))) (tVar 9) [9]) (gName 4))
    (tSeq (tPar 7 8 (tCons (tOp aDiv (tOp aAdd (tVar 5) (tC (.int 1))) (tC (.int 2))) (tCons (tOp aDiv (tOp aAdd (tVar 2) (tC (.int 1))) (tC (.int 2))) tNil)))
    (tRet (tMake C_.c_Turned (sp_t_init K C_) [] E0 (tCons (tOp rCat (tSl (rSlL K) (tVar 3) tNoPart (tPart (tVar 7))) (tSl (rSlL K) (tVar 4) (tPart (tOp aSub (tCB (aLenL K) (tCons (tVar 4) tNil)) (tVar 8))) tNoPart)) (tCons (tVar 6) tNil))))))))))))
def N__law_turned : List Str := ["_law_row_here", "_law_places", "_law_cut", "_law_found", "_law_low", "_law_high", "_law_place"]
def rd__law_turned (K : PySem.W.Frag) (C_ : CA) : TS :=
    (tSeq (tIfS (tOr (tTest (tOp aLt (tLenSetD K (tVar 1)) (tCB (aLenL K) (tCons (tVar 1) tNil)))) (tB (tCB (aAny K) (tCons (tLc (iList K (tVar 1)) (gName 6) tYes (tNotV (tChain aLe aLt (tC (.int 0)) (tVar 6) (tCB aLenT (tCons (tVar 0) tNil)))) [6]) tNil)))) (tRet (tC (.bl false))) tNext)
    (tSeq (tIfS (tOr (tNot (tB (tCall (sp__law_good K C_) [] E0 (tCons (tCall (sp__law_over K C_) [] E0 (tCons (tVar 0) (tCons (tVar 1) tNil))) tNil)))) (tNot (tTest (tChain aLe aLe (tC (.int 0)) (tVar 2) (tCB aLenT (tCons (tVar 0) tNil)))))) (tRet (tC (.bl false))) tNext)
    (tSeq (tAsg (tCall (sp__law_depths K C_) [] E0 (tCons (tVar 0) tNil)) (gName 3))
    (tSeq (tPar 4 5 (tCons (tCB aMax2 (tCons (tC (.int 0)) (tCons (tUn aNeg (tOp (rIxL K) (tVar 3) (tVar 2))) tNil))) (tCons (tCB aMax2 (tCons (tC (.int 0)) (tCons (tOp aSub (tOp (rIxL K) (tVar 3) (tUn aNeg (tC (.int 1)))) (tOp (rIxL K) (tVar 3) (tVar 2))) tNil))) tNil)))
    (tRet (tOp rEq (tCB (aLenL K) (tCons (tVar 1) tNil)) (tOp aAdd (tOp aAdd (tOp aAdd (tOp aDiv (tVar 4) (tC (.int 2))) (tOp aMod (tVar 4) (tC (.int 2)))) (tOp aDiv (tVar 5) (tC (.int 2)))) (tOp aMod (tVar 5) (tC (.int 2))))))))))
def N__law_due03 : List Str := ["_law_row_here", "_law_answer"]
def rd__law_due03 (K : PySem.W.Frag) (C_ : CA) : TS :=
    (tSeq (tIfS (tB (tCB (aIsiC K C_.c_Odd) (tCons (tVar 1) (tCons (tC (.ref C_.c_Odd)) tNil)))) (tRet (tOp rEq (tOp aMod (tCB aLenT (tCons (tVar 0) tNil)) (tC (.int 2))) (tC (.int 1)))) tNext)
    (tRet (tCall (sp__law_turned K C_) [] E0 (tCons (tVar 0) (tCons (tFld K (tVar 1) "places") (tCons (tFld K (tVar 1) "cut") tNil))))))
def N__law_right03 : List Str := ["_law_row_here", "_law_others", "_law_even", "_law_again", "_law_answer", "_law_other"]
def rd__law_right03 (K : PySem.W.Frag) (C_ : CA) : TS :=
    (tSeq (tAsg (tOp rEq (tOp aMod (tCB aLenT (tCons (tVar 0) tNil)) (tC (.int 2))) (tC (.int 0))) (gName 2))
    (tSeq (tFor (iRng1 (tCons (tC (.int 2)) tNil)) (gName 3) (tSeq (tAsg (tCall (sp_turns K C_) [] E0 (tCons (tVar 0) tNil)) (gName 4))
    (tSeq (tIfS (tOr (tNot (tB (tCB (aIsiC K C_.c_Answer) (tCons (tVar 4) (tCons (tC (.ref C_.c_Answer)) tNil))))) (tB (tCB (aIsiC K C_.c_Swapped) (tCons (tVar 4) (tCons (tC (.ref C_.c_Swapped)) tNil))))) (tRet (tC (.bl false))) tNext)
    (tSeq (tIfS (tOr (tB (tCB (aIsiC K C_.c_Uneven) (tCons (tVar 4) (tCons (tC (.ref C_.c_Uneven)) tNil)))) (tB (tCB (aIsiC K C_.c_Rounded) (tCons (tVar 4) (tCons (tC (.ref C_.c_Rounded)) tNil))))) (tRet (tC (.bl false))) tNext)
    (tSeq (tIfS (tTest (tOp (rNeD K) (tLst (tCons (tCB (aIsiC K C_.c_Turned) (tCons (tVar 4) (tCons (tC (.ref C_.c_Turned)) tNil))) (tCons (tCB (aIsiC K C_.c_Odd) (tCons (tVar 4) (tCons (tC (.ref C_.c_Odd)) tNil))) tNil))) (tLst (tCons (tVar 2) (tCons (tNotV (tVar 2)) tNil))))) (tRet (tC (.bl false))) tNext)
    (tSeq (tIfS (tOr (tNot (tB (tCall (sp__law_due03 K C_) [] E0 (tCons (tVar 0) (tCons (tVar 4) tNil))))) (tTest (tOp aNotB (tMethU C_.c_Odd C_.c_Turned "shows" (sp_o_shows K C_) (sp_t_shows K C_) E0 (tVar 4) (tCons (tVar 0) tNil)) (tC (.bl true))))) (tRet (tC (.bl false))) tNext)
    (tSeq (tFor (iList K (tVar 1)) (gName 5) (tIfS (tTest (tOp rNe (tMethU C_.c_Odd C_.c_Turned "shows" (sp_o_shows K C_) (sp_t_shows K C_) E0 (tVar 4) (tCons (tVar 5) tNil)) (tCall (sp__law_due03 K C_) [] E0 (tCons (tVar 5) (tCons (tVar 4) tNil))))) (tRet (tC (.bl false))) tNext))
    (tIfS (tB (tVar 2)) (tSeq (tDrop (tBM K "list" rAppend (tFld K (tVar 4) "places") (tCons (tCB aLenT (tCons (tVar 0) tNil)) tNil)))
    (tIfS (tTest (tOp aNotB (tMethU C_.c_Odd C_.c_Turned "shows" (sp_o_shows K C_) (sp_t_shows K C_) E0 (tVar 4) (tCons (tVar 0) tNil)) (tC (.bl false)))) (tRet (tC (.bl false))) tNext)) tNext))))))))
    (tRet (tC (.bl true)))))
def N__law_least03 : List Str := ["_law_row_here", "_law_best", "_law_mark", "_law_places", "_law_at"]
def rd__law_least03 (K : PySem.W.Frag) (C_ : CA) : TS :=
    (tSeq (tAsg (tCB aLenT (tCons (tVar 0) tNil)) (gName 1))
    (tSeq (tFor (iRng1 (tCons (tOp aShl (tC (.int 1)) (tCB aLenT (tCons (tVar 0) tNil))) tNil)) (gName 2) (tSeq (tAsg (tLc (iRng1 (tCons (tCB aLenT (tCons (tVar 0) tNil)) tNil)) (gName 4) (tTest (tOp rEq (tOp aAnd (tOp aShr (tVar 2) (tVar 4)) (tC (.int 1))) (tC (.int 1)))) (tVar 4) [4]) (gName 3))
    (tIfS (tAnd (tTest (tOp aLt (tCB (aLenL K) (tCons (tVar 3) tNil)) (tVar 1))) (tB (tCall (sp__law_good K C_) [] E0 (tCons (tCall (sp__law_over K C_) [] E0 (tCons (tVar 0) (tCons (tVar 3) tNil))) tNil)))) (tAsg (tCB (aLenL K) (tCons (tVar 3) tNil)) (gName 1)) tNext)))
    (tRet (tVar 1))))
def N_law03 : List Str := ["_law_script", "_law_whole", "_law_by", "_law_row_here", "_law_told"]
def rd_law03 (K : PySem.W.Frag) (C_ : CA) : TS :=
    (tSeq (tAsg (tCB aAbs (tCons (tCB (rSum K) (tCons (tSl (rSlL K) (tVar 0) tNoPart (tPart (tC (.int 63)))) tNil)) tNil)) (gName 1))
    (tSeq (tFor (iList K (tLst (tCons (tC (.int 0)) (tCons (tC (.int 1)) (tCons (tC (.int 2)) (tCons (tC (.int 3)) tNil)))))) (gName 2) (tSeq (tAsg (tCall (sp__law_row K C_) [] E0 (tCons (tVar 0) (tCons (tVar 2) (tCons (tC (.int 40)) (tCons (tOp rEq (tVar 2) (tC (.int 0))) tNil))))) (gName 3))
    (tIfS (tNot (tB (tCall (sp__law_right03 K C_) [] E0 (tCons (tVar 3) (tCons (tLst (tCons (tCall (sp__law_row K C_) [] E0 (tCons (tVar 0) (tCons (tOp aAdd (tVar 2) (tC (.int 4))) (tCons (tC (.int 40)) (tCons (tC (.bl true)) tNil))))) (tCons (tRevT (tVar 3)) (tCons (tSl aSlT (tVar 3) (tPart (tC (.int 2))) tNoPart) (tCons (tC (.str (T []))) tNil))))) tNil))))) (tRet (tC (.bl false))) tNext)))
    (tSeq (tAsg (tCall (sp__law_row K C_) [] E0 (tCons (tVar 0) (tCons (tC (.int 9)) (tCons (tC (.int 8)) (tCons (tOp rEq (tOp aMod (tVar 1) (tC (.int 2))) (tC (.int 0))) tNil))))) (gName 3))
    (tSeq (tAsg (tSl aSlT (tVar 3) tNoPart (tPart (tOp aMul (tOp aDiv (tCB aLenT (tCons (tVar 3) tNil)) (tC (.int 2))) (tC (.int 2))))) (gName 3))
    (tSeq (tAsg (tCall (sp_turns K C_) [] E0 (tCons (tVar 3) tNil)) (gName 4))
    (tSeq (tIfS (tOr (tNot (tB (tCB (aIsiC K C_.c_Turned) (tCons (tVar 4) (tCons (tC (.ref C_.c_Turned)) tNil))))) (tTest (tOp rNe (tCB (aLenL K) (tCons (tFld K (tVar 4) "places") tNil)) (tCall (sp__law_least03 K C_) [] E0 (tCons (tVar 3) tNil))))) (tRet (tC (.bl false))) tNext)
    (tSeq (tIfS (tOr (tTest (tOp rNe (tCB (aLenL K) (tCons (tFld K (tCall (sp_turns K C_) [] E0 (tCons (tOp aCatT (tOp aRepT (tC (.str (T [false]))) (tC (.int 20))) (tOp aRepT (tC (.str (T [true]))) (tC (.int 20)))) tNil)) "places") tNil)) (tC (.int 20)))) (tOr (tTest (tOp rNe (tCB (aLenL K) (tCons (tFld K (tCall (sp_turns K C_) [] E0 (tCons (tOp aRepT (tC (.str (T [true]))) (tC (.int 40))) tNil)) "places") tNil)) (tC (.int 20)))) (tTest (tOp (rNeD K) (tFld K (tCall (sp_turns K C_) [] E0 (tCons (tC (.str (T []))) tNil)) "places") (tLst tNil))))) (tRet (tC (.bl false))) tNext)
    (tRet (tAndV (tCB (aIsiC K C_.c_Odd) (tCons (tCall (sp_turns K C_) [] E0 (tCons (tC (.str (T [false, true, true]))) tNil)) (tCons (tC (.ref C_.c_Odd)) tNil))) (tOp rEq (tCB (aLenL K) (tCons (tFld K (tCall (sp_turns K C_) [] E0 (tCons (tC (.str (T [false, true, true, true, false, true]))) tNil)) "places") tNil)) (tC (.int 3))))))))))))
end BM
namespace BM
open PySem L2 Evl
local macro_rules | `(tactic| walk_at "mem") => `(tactic| first | exact List.mem_cons_self | (refine List.mem_cons_of_mem _ ?_; walk_at "mem"))
local macro_rules | `(tactic| walk_at "swap") => `(tactic| first | exact Swap.here | (apply Swap.there; walk_at "swap"))
local macro_rules | `(tactic| walk_at "subl") => `(tactic| first | exact List.Sublist.refl _ | exact List.nil_sublist _ | (refine List.Sublist.cons_cons _ ?_; walk_at "subl") | (refine List.Sublist.cons _ ?_; walk_at "subl"))
local macro_rules | `(tactic| walk_at "sub") => `(tactic| first | exact Sub.refl _ | (refine ⟨?_, ?_⟩ <;> walk_at "subl"))
local macro_rules | `(tactic| walk_at "isl") => `(tactic| first | exact isL_own (by walk_at "mem") | exact isL_old (by assumption) | assumption)
local macro_rules | `(tactic| walk_at "ist") => `(tactic| first | exact isT_own (by walk_at "mem") | exact isT_old (by assumption) | assumption)
local macro_rules | `(tactic| walk_at "len") => `(tactic| first | omega | decide | (simp only [List.length_map, List.length_take, List.length_drop, List.length_append, List.length_cons, List.length_nil, List.length_reverse, dps_len, flp_len]; omega) | (simp [dps_len, flp_len]; omega) | simp)
local macro_rules | `(tactic| walk_at "b0") => `(tactic| first
  | with_reducible refine' ws_set ?_
  | with_reducible refine' ws_par ?_
  | with_reducible refine' ws_asg ?_
  | with_reducible refine' ws_drop ?_
  | with_reducible refine' ws_ret ?_
  | with_reducible refine' ws_if ?_
  | with_reducible refine' ws_next ?_
  | with_reducible refine' ws_brk ?_
  | with_reducible refine' ws_cont ?_
  | ((with_reducible refine' we_var ?hv ?_); case hv => rfl)
  | with_reducible refine' we_c ?_
  | with_reducible refine' we_op ?_
  | with_reducible refine' we_un ?_
  | with_reducible refine' we_if ?_
  | with_reducible refine' we_and ?_
  | with_reducible refine' we_or ?_
  | with_reducible refine' we_not ?_
  | with_reducible refine' wa_nil ?_
  | with_reducible refine' wa_cons ?_
  | (with_reducible refine' we_lst ?_)
  | (with_reducible refine' we_tup ?_)
  | with_reducible refine' we_cb ?_
  | with_reducible refine' we_call0 ?_
  | with_reducible refine' we_sl ?_
  | with_reducible refine' wo_none ?_
  | (with_reducible refine' wo_some ?_)
  | with_reducible refine' wt_test ?_
  | with_reducible refine' wt_B ?_
  | with_reducible refine' wt_and ?_
  | with_reducible refine' wt_or ?_
  | with_reducible refine' wt_not ?_
  | with_reducible refine' wt_yes ?_
  | with_reducible refine' we_chain ?_
  | with_reducible refine' we_chain3 ?_
  | with_reducible refine' we_revT ?_
  | with_reducible refine' we_revL ?_
  | with_reducible refine' we_bm ?_
  | with_reducible refine' we_bm0 ?_
  | with_reducible refine' ws_for ?_
  | with_reducible refine' we_lc ?_
  | with_reducible refine' wi_list ?_
  | with_reducible refine' wi_tup ?_
  | with_reducible refine' wi_T ?_
  | with_reducible refine' wi_rng1 ?_
  | with_reducible refine' wi_rng2 ?_
  | with_reducible refine' wi_rng3 ?_
  | with_reducible refine' wi_enum ?_
  | with_reducible refine' wi_enumT ?_
  | with_reducible refine' wi_zip ?_
  | with_reducible refine' wg_name ?_
  | with_reducible refine' wg_sub ?_
  | with_reducible refine' wgs_nil ?_
  | with_reducible refine' wgs_cons ?_
  | ((with_reducible refine' wg_tup ?ht ?hn ?_); (case ht => walk_at "ist"); (case hn => rfl))
  | with_reducible refine' w2_add ?_
  | with_reducible refine' w2_sub ?_
  | with_reducible refine' w2_lt ?_
  | with_reducible refine' w2_le ?_
  | with_reducible refine' w2_gt ?_
  | with_reducible refine' w2_ge ?_
  | with_reducible refine' w2_eqI ?_
  | with_reducible refine' w2_neI ?_
  | with_reducible refine' w2_eqT ?_
  | with_reducible refine' w2_neT ?_
  | with_reducible refine' w2_eqB ?_
  | with_reducible refine' w2_neB ?_
  | with_reducible refine' w2_isN ?_
  | with_reducible refine' w2_notN ?_
  | with_reducible refine' w2_isB ?_
  | with_reducible refine' w2_inT ?_
  | with_reducible refine' w1_neg ?_
  | with_reducible refine' wl_abs ?_
  | with_reducible refine' wl_max2 ?_
  | with_reducible refine' wl_min2 ?_
  | with_reducible refine' wl_intB ?_
  | ((with_reducible refine' w2_div ?h ?_); case h => first | omega | (constructor <;> omega))
  | ((with_reducible refine' w2_mod ?h ?_); case h => omega)
  | ((with_reducible refine' w2_catT ?h ?_); case h => walk_at "len")
  | ((with_reducible refine' wsl_T ?h ?_); case h => walk_at "len")
  | ((with_reducible refine' wl_lenT ?h ?_); case h => walk_at "len")
  | ((with_reducible refine' wl_len ?h ?_); case h => walk_at "isl")
  | ((with_reducible refine' wl_len ?h ?_); case h => walk_at "isl")
  | ((with_reducible refine' wm_append ?sw ?hl ?_); (case sw => walk_at "swap"); (case hl => walk_at "len")))
local macro_rules | `(tactic| walk_at "b1") => `(tactic| first | with_reducible refine' ws_seq ?_ | walk_at "b0")
local macro_rules | `(tactic| walk_at "bx") => `(tactic| first
  | refine ⟨_, rfl, ?_⟩
  | refine ⟨_, _, rfl, ?_⟩
  | refine ⟨ty_L (by walk_at "isl"), ?_⟩
  | refine ⟨ty_S, ?_⟩
  | refine spl_t (by rfl) ?_
  | refine spl_f (by rfl) ?_
  | exact rfl)
local macro_rules | `(tactic| walk_at "bm") => `(tactic| repeat (first | walk_at "b1" | walk_at "bx"))
local macro_rules | `(tactic| walk_at "bn") => `(tactic| repeat (first | walk_at "b0" | walk_at "bx"))
local macro_rules | `(tactic| walk_at "b0") => `(tactic| with_reducible refine' c_deepens ?_)
local macro_rules | `(tactic| walk_at "b0") => `(tactic| ((with_reducible refine' c_depths_of ?hl ?_); (case hl => walk_at "len")))
local macro_rules | `(tactic| walk_at "b0") => `(tactic| with_reducible refine' c_is_wholeI ?_)
local macro_rules | `(tactic| walk_at "b0") => `(tactic| with_reducible refine' c_flipped ?_)
local macro_rules | `(tactic| walk_at "b0") => `(tactic| ((with_reducible refine' c_is_right_row ?hl ?_); (case hl => walk_at "len")))
local macro_rules | `(tactic| walk_at "b0") => `(tactic| ((with_reducible refine' c_asked_row ?hl ?_); (case hl => walk_at "len")))
local macro_rules | `(tactic| walk_at "b0") => `(tactic| ((with_reducible refine' c_depths ?hl ?_); (case hl => walk_at "len")))
local macro_rules | `(tactic| walk_at "b0") => `(tactic| ((with_reducible refine' c_is_right ?hl ?_); (case hl => walk_at "len")))
local macro_rules | `(tactic| walk_at "b0") => `(tactic| ((with_reducible refine' c__law_depths ?hl ?_); (case hl => walk_at "len")))
local macro_rules | `(tactic| walk_at "b0") => `(tactic| ((with_reducible refine' c__law_good ?hl ?_); (case hl => walk_at "len")))
local macro_rules | `(tactic| walk_at "b0") => `(tactic| ((with_reducible refine' wl_listOf ?hx ?_); (case hx => walk_at "isl")))
local macro_rules | `(tactic| walk_at "b0") => `(tactic| with_reducible refine' w2_notB ?_)
local macro_rules | `(tactic| walk_at "own") => `(tactic| exact own_l (by walk_at "mem"))
local macro_rules | `(tactic| walk_at "b0") => `(tactic| with_reducible refine' we_fld ?_)
local macro_rules | `(tactic| walk_at "b0") => `(tactic| refine ⟨_, _, _, _, _, rfl, own_l (by walk_at "mem"), Grw.cl (by assumption), Grw.nr (by assumption), by rfl, ?_⟩)
local macro_rules | `(tactic| walk_at "b0") => `(tactic| refine ⟨_, _, _, _, _, rfl, fun H' o => o.ex _ _ (by assumption), Grw.cl (by assumption), Grw.nr (by assumption), by rfl, ?_⟩)
local macro_rules | `(tactic| walk_at "b0") => `(tactic| with_reducible refine' we_meth ?_)
local macro_rules | `(tactic| walk_at "b0") => `(tactic| refine ⟨_, _, _, rfl, own_l (by walk_at "mem"), by rfl, ?_⟩)
local macro_rules | `(tactic| walk_at "b0") => `(tactic| refine ⟨_, _, _, rfl, fun H' o => o.ex _ _ (by assumption), by rfl, ?_⟩)
local macro_rules | `(tactic| walk_at "gown") => `(tactic| first | exact own_l (by walk_at "mem") | exact fun H' o => o.ex _ _ (by assumption))
local macro_rules | `(tactic| walk_at "b0") => `(tactic| with_reducible refine' wm_countT ?_)
local macro_rules | `(tactic| walk_at "b0") => `(tactic| with_reducible refine' we_methU ?_)
theorem ln_o_shows {K : PySem.W.Frag} {C : CA} {vs : List V} {H : Hp} {Q : VK} {E : XK} (h : sp_o_shows K C vs H Q E) : vs.length = 2 := by
  obtain ⟨_, ⟨x, r, rfl, _⟩, _⟩ := h
  rfl
theorem pu_o_shows {K : PySem.W.Frag} {C : CA} {vs : List V} {H : Hp} {Q : VK} {E : XK} (h : sp_o_shows K C vs H Q E) : rd_o_shows K C { nx := fun _ H' => Q .non H', rt := Q } (start N_o_shows vs) H := by
  obtain ⟨_, ⟨x, r, rfl, hl, rfl⟩, k⟩ := h
  refine body_V ?_ k
  unfold rd_o_shows
  walk_at "bm"
theorem c_o_shows {K : PySem.W.Frag} {C : CA} {H0 : Hp} {s : Ld} {Q : V → Ld → Prop} {E : XK} {x : V} {r : List Bool} (hl : r.length ≤ 1000) (q : Q (.bl (odSh r)) s) : WC H0 (sp_o_shows K C) E [x, .str (T r)] s Q := wc_V (fun H o => ⟨x, r, rfl, hl, rfl⟩) q
theorem ln_t_init {K : PySem.W.Frag} {C : CA} {vs : List V} {H : Hp} {Q : VK} {E : XK} (h : sp_t_init K C vs H Q E) : vs.length = 3 := by
  obtain ⟨x, d, a, ps, z, _, rfl, _⟩ := h
  rfl
theorem pu_t_init {K : PySem.W.Frag} {C : CA} {vs : List V} {H : Hp} {Q : VK} {E : XK} (h : sp_t_init K C vs H Q E) : rd_t_init K C { nx := fun _ H' => Q .non H', rt := Q } (start N_t_init vs) H := by
  obtain ⟨x, d, a, ps, z, hT, rfl, hx, ha, hax, k⟩ := h
  have ha' : SqL K (del x H) a (ps.map V.int) := sq_del hax ha
  have h1 : WS (del x H) (rd_t_init K C) (start N_t_init [.ref x, .ref a, .int z]) ⟨[(x, .ins C.c_Turned d [])], []⟩ { nx := fun _ s => ∃ a2, Sub ⟨[(a2, .lst (ps.map V.int)), (x, tIns C d a2 z)], []⟩ s, rt := fun _ _ => False } := by
    unfold rd_t_init
    refine ws_seq (ws_fld ?_)
    walk_at "bm"
    intro a2 ha2
    walk_at "bm"
    refine ⟨x, _, d, [], _, rfl, Swap.there Swap.here, hT.c.cl, hT.np, by decide, ?_⟩
    refine ws_fld ?_
    walk_at "bm"
    refine ⟨x, _, d, _, _, rfl, Swap.there Swap.here, hT.c.cl, hT.nc, by show 1 < 1000; decide, ?_⟩
    exact ⟨a2, Sub.refl _⟩
  refine h1 H (own_del hx) _ ⟨fun σ H' s w ⟨a2, hs⟩ => ?_, (fun _ _ _ _ q => q.elim), (fun _ _ _ _ q => q.elim), (fun _ _ _ _ q => q.elim)⟩
  have w2 := w.sub hs
  have nd : [a2, x].Nodup := w2.nd
  have ma := w2.own (a2, .lst (ps.map V.int)) List.mem_cons_self
  exact k H' a2 w.ex ma.1 nd (w2.own (x, tIns C d a2 z) (List.mem_cons_of_mem _ List.mem_cons_self)).2 ma.2
theorem atI_dps {r : List Bool} {z : Int} (h0 : 0 ≤ z) (h1 : z ≤ (r.length : Int)) : atI ((dps r).map V.int) z = some (.int (hgt (r.take z.toNat))) := atI_of h0 (by rw [List.getElem?_map, dps_get (by omega)]; rfl)
theorem tnSh_out {r : List Bool} {ps : List Int} {z : Int} (h : ¬ ∀ p ∈ ps, 0 ≤ p ∧ p < (r.length : Int)) : tnSh r ps z = false := by
  unfold tnSh
  rw [decide_eq_false h]
  rfl
theorem ln_t_shows {K : PySem.W.Frag} {C : CA} {vs : List V} {H : Hp} {Q : VK} {E : XK} (h : sp_t_shows K C vs H Q E) : vs.length = 2 := by
  obtain ⟨_, ⟨g, d, a, ps, z, r, _, rfl, _⟩, _⟩ := h
  rfl
theorem pu_t_shows {K : PySem.W.Frag} {C : CA} {vs : List V} {H : Hp} {Q : VK} {E : XK} (h : sp_t_shows K C vs H Q E) : rd_t_shows K C { nx := fun _ H' => Q .non H', rt := Q } (start N_t_shows vs) H := by
  obtain ⟨_, ⟨g, d, a, ps, z, r, hT, rfl, hg, ha, hps, hl, rfl⟩, k⟩ := h
  refine body_V ?_ k
  unfold rd_t_shows
  refine ws_cut (fun σ s => σ = [some (.ref g), some (.str (T r)), none, none, none, none] ∧ s = ⟨[], []⟩ ∧ (∀ p ∈ ps, 0 ≤ p ∧ p < (r.length : Int)) ∧ ps.Nodup) ?_ ?_
  · walk_at "bm"
    refine ⟨_, _, _, _, _, rfl, fun H' o => o.ex _ _ hg, hT.c.cl, hT.np, rfl, ?_⟩
    refine ⟨_, rfl, ⟨_, isL_old ha⟩, ?_⟩
    refine cp_list (xs := ps.map V.int) (fun i => ((ps.take i).map fun p => decide (0 ≤ p ∧ p < (r.length : Int))).map V.bl) (isL_old ha) (by rw [List.length_map]; omega) rfl (fun i hi => by rw [List.length_map, List.length_map, List.length_take]; omega) ?_ ?_
    · intro D i y hi hy
      obtain ⟨p, hp, rfl⟩ := getI hy
      walk_at "bm"
      refine ⟨rfl, ?_⟩
      walk_at "bm"
      refine ⟨fun h => ?_, fun h => ?_⟩
      · walk_at "bm"
        refine ⟨Sub.refl _, ?_⟩
        rw [take_snoc hp, List.map_append, List.map_append]
        have h' := of_decide_eq_true h
        simp [h']
      · refine ⟨Sub.refl _, ?_⟩
        rw [take_snoc hp, List.map_append, List.map_append]
        have h' := of_decide_eq_false h
        simp [h']
    intro D hD
    rw [List.length_map, List.take_length]
    walk_at "bm"
    refine wl_all (bs := ps.map fun p => decide (0 ≤ p ∧ p < (r.length : Int))) (by walk_at "isl") ?_
    have hall : (ps.map fun p => decide (0 ≤ p ∧ p < (r.length : Int))).all id = decide (∀ p ∈ ps, 0 ≤ p ∧ p < (r.length : Int)) := by
      rw [Bool.eq_iff_iff, decide_eq_true_eq, List.all_map, List.all_eq_true]
      exact ⟨fun h p hp => of_decide_eq_true (h p hp), fun h p hp => decide_eq_true (h p hp)⟩
    rw [hall]
    walk_at "bm"
    refine ⟨fun h => ?_, fun h => ?_⟩
    · walk_at "bm"
      have h' : ¬ ∀ p ∈ ps, 0 ≤ p ∧ p < (r.length : Int) := fun hh => by rw [decide_eq_true hh] at h; cases h
      show V.bl _ = V.bl _
      rw [tnSh_out h']
    · have h' : ∀ p ∈ ps, 0 ≤ p ∧ p < (r.length : Int) := by
        cases e : decide (∀ p ∈ ps, 0 ≤ p ∧ p < (r.length : Int)) with
        | true => exact of_decide_eq_true e
        | false => rw [e] at h; cases h
      walk_at "bm"
      refine we_lenSetD ?_
      walk_at "bm"
      refine ⟨_, _, _, _, _, rfl, fun H' o => o.ex _ _ hg, hT.c.cl, hT.np, rfl, ?_⟩
      refine ⟨a, ps, rfl, isL_old ha, hps, fun c hc1 hc2 => ?_⟩
      walk_at "bm"
      refine ⟨_, _, _, _, _, rfl, fun H' o => o.ex _ _ hg, hT.c.cl, hT.np, rfl, ?_⟩
      walk_at "bm"
      rw [List.length_map]
      refine ⟨fun h2 => ?_, fun h2 => ?_⟩
      · walk_at "bm"
        have h2' : ¬ ps.Nodup := fun hh => by rw [hc2.mpr hh] at h2; simp at h2
        show V.bl _ = V.bl _
        unfold tnSh
        rw [decide_eq_true h', decide_eq_false h2']
        rfl
      · walk_at "bm"
        have h2' : ps.Nodup := hc2.mp (by simp at h2; omega)
        exact ⟨_, by walk_at "sub", rfl, rfl, h', h2'⟩
  rintro σ s ⟨rfl, rfl, h1, h2⟩
  have res : tnSh r ps z = (isR (flp ps r) && (decide (0 ≤ z ∧ z ≤ (r.length : Int)) && decide ((ps.length : Int) = tnNum r z))) := by
    unfold tnSh
    rw [decide_eq_true h1, decide_eq_true h2]
    rfl
  rw [res]
  refine ws_cut (fun σ s => σ = [some (.ref g), some (.str (T r)), none, none, none, none] ∧ s = ⟨[], []⟩ ∧ isR (flp ps r) = true ∧ 0 ≤ z ∧ z ≤ (r.length : Int)) ?_ ?_
  · walk_at "bm"
    refine ⟨_, _, _, _, _, rfl, fun H' o => o.ex _ _ hg, hT.c.cl, hT.np, rfl, ?_⟩
    walk_at "bm"
    refine c_turned hl (isL_old ha) ?_
    walk_at "bm"
    refine ⟨fun h => ?_, fun h => ?_⟩
    · walk_at "bm"
      have h' : isR (flp ps r) = false := by simpa using h
      show V.bl _ = V.bl _
      rw [h']
      rfl
    · have h' : isR (flp ps r) = true := by simpa using h
      walk_at "bm"
      refine ⟨_, _, _, _, _, rfl, fun H' o => o.ex _ _ hg, hT.c.cl, hT.nc, rfl, ?_⟩
      walk_at "bm"
      refine ⟨fun h3 => ?_, fun h3 => ?_⟩
      · have h3' := of_decide_eq_true h3
        walk_at "bm"
        refine ⟨fun h4 => ?_, fun h4 => ?_⟩
        · walk_at "bm"
          have h4' : ¬ z ≤ (r.length : Int) := by simpa using h4
          show V.bl _ = V.bl _
          rw [h', decide_eq_false (fun hh => h4' hh.2)]
          rfl
        · walk_at "bm"
          exact ⟨_, Sub.refl _, rfl, rfl, h', h3', by simpa using h4⟩
      · have h3' := of_decide_eq_false h3
        walk_at "bm"
        show V.bl _ = V.bl _
        rw [h', decide_eq_false (fun hh => h3' hh.1)]
        rfl
  rintro σ s ⟨rfl, rfl, h3, h4, h5⟩
  rw [h3, decide_eq_true (show 0 ≤ z ∧ z ≤ (r.length : Int) from ⟨h4, h5⟩)]
  simp only [Bool.true_and]
  walk_at "bm"
  intro f hf
  walk_at "bm"
  refine ⟨_, _, _, _, _, rfl, fun H' o => o.ex _ _ hg, hT.c.cl, hT.nc, rfl, ?_⟩
  refine w2_ixL (by walk_at "isl") (atI_dps h4 h5) ?_
  walk_at "bm"
  refine w2_ixL (by walk_at "isl") (dps_m1 _) ?_
  walk_at "bm"
  refine ⟨_, _, _, _, _, rfl, fun H' o => o.ex _ _ hg, hT.c.cl, hT.nc, rfl, ?_⟩
  refine w2_ixL (by walk_at "isl") (atI_dps h4 h5) ?_
  walk_at "bm"
  refine ⟨_, _, _, _, _, rfl, fun H' o => o.ex _ _ hg, hT.c.cl, hT.np, rfl, ?_⟩
  walk_at "bm"
  show V.bl _ = V.bl _
  rw [List.length_map]
  rfl
theorem c_t_shows {K : PySem.W.Frag} {C : CA} {H0 : Hp} {s : Ld} {Q : V → Ld → Prop} {E : XK} {g d a : Addr} {ps : List Int} {z : Int} {r : List Bool} (hT : TnC K C) (hg : ∀ H, Own H0 H s → H g = some (tIns C d a z)) (ha : IsL K H0 s a (ps.map V.int)) (hps : ps.length ≤ 4000) (hl : r.length ≤ 1000) (q : Q (.bl (tnSh r ps z)) s) : WC H0 (sp_t_shows K C) E [.ref g, .str (T r)] s Q := wc_V (fun H o => ⟨g, d, a, ps, z, r, hT, rfl, hg H o, ha H o, hps, hl, rfl⟩) q
end BM
namespace BM
open PySem L2 Evl
local macro_rules | `(tactic| walk_at "mem") => `(tactic| first | exact List.mem_cons_self | (refine List.mem_cons_of_mem _ ?_; walk_at "mem"))
local macro_rules | `(tactic| walk_at "swap") => `(tactic| first | exact Swap.here | (apply Swap.there; walk_at "swap"))
local macro_rules | `(tactic| walk_at "subl") => `(tactic| first | exact List.Sublist.refl _ | exact List.nil_sublist _ | (refine List.Sublist.cons_cons _ ?_; walk_at "subl") | (refine List.Sublist.cons _ ?_; walk_at "subl"))
local macro_rules | `(tactic| walk_at "sub") => `(tactic| first | exact Sub.refl _ | (refine ⟨?_, ?_⟩ <;> walk_at "subl"))
local macro_rules | `(tactic| walk_at "isl") => `(tactic| first | exact isL_own (by walk_at "mem") | exact isL_old (by assumption) | assumption)
local macro_rules | `(tactic| walk_at "ist") => `(tactic| first | exact isT_own (by walk_at "mem") | exact isT_old (by assumption) | assumption)
local macro_rules | `(tactic| walk_at "len") => `(tactic| first | omega | decide | (simp only [List.length_map, List.length_take, List.length_drop, List.length_append, List.length_cons, List.length_nil, List.length_reverse, dps_len, flp_len]; omega) | (simp [dps_len, flp_len]; omega) | simp)
local macro_rules | `(tactic| walk_at "b0") => `(tactic| first
  | with_reducible refine' ws_set ?_
  | with_reducible refine' ws_par ?_
  | with_reducible refine' ws_asg ?_
  | with_reducible refine' ws_drop ?_
  | with_reducible refine' ws_ret ?_
  | with_reducible refine' ws_if ?_
  | with_reducible refine' ws_next ?_
  | with_reducible refine' ws_brk ?_
  | with_reducible refine' ws_cont ?_
  | ((with_reducible refine' we_var ?hv ?_); case hv => rfl)
  | with_reducible refine' we_c ?_
  | with_reducible refine' we_op ?_
  | with_reducible refine' we_un ?_
  | with_reducible refine' we_if ?_
  | with_reducible refine' we_and ?_
  | with_reducible refine' we_or ?_
  | with_reducible refine' we_not ?_
  | with_reducible refine' wa_nil ?_
  | with_reducible refine' wa_cons ?_
  | (with_reducible refine' we_lst ?_)
  | (with_reducible refine' we_tup ?_)
  | with_reducible refine' we_cb ?_
  | with_reducible refine' we_call0 ?_
  | with_reducible refine' we_sl ?_
  | with_reducible refine' wo_none ?_
  | (with_reducible refine' wo_some ?_)
  | with_reducible refine' wt_test ?_
  | with_reducible refine' wt_B ?_
  | with_reducible refine' wt_and ?_
  | with_reducible refine' wt_or ?_
  | with_reducible refine' wt_not ?_
  | with_reducible refine' wt_yes ?_
  | with_reducible refine' we_chain ?_
  | with_reducible refine' we_chain3 ?_
  | with_reducible refine' we_revT ?_
  | with_reducible refine' we_revL ?_
  | with_reducible refine' we_bm ?_
  | with_reducible refine' we_bm0 ?_
  | with_reducible refine' ws_for ?_
  | with_reducible refine' we_lc ?_
  | with_reducible refine' wi_list ?_
  | with_reducible refine' wi_tup ?_
  | with_reducible refine' wi_T ?_
  | with_reducible refine' wi_rng1 ?_
  | with_reducible refine' wi_rng2 ?_
  | with_reducible refine' wi_rng3 ?_
  | with_reducible refine' wi_enum ?_
  | with_reducible refine' wi_enumT ?_
  | with_reducible refine' wi_zip ?_
  | with_reducible refine' wg_name ?_
  | with_reducible refine' wg_sub ?_
  | with_reducible refine' wgs_nil ?_
  | with_reducible refine' wgs_cons ?_
  | ((with_reducible refine' wg_tup ?ht ?hn ?_); (case ht => walk_at "ist"); (case hn => rfl))
  | with_reducible refine' w2_add ?_
  | with_reducible refine' w2_sub ?_
  | with_reducible refine' w2_lt ?_
  | with_reducible refine' w2_le ?_
  | with_reducible refine' w2_gt ?_
  | with_reducible refine' w2_ge ?_
  | with_reducible refine' w2_eqI ?_
  | with_reducible refine' w2_neI ?_
  | with_reducible refine' w2_eqT ?_
  | with_reducible refine' w2_neT ?_
  | with_reducible refine' w2_eqB ?_
  | with_reducible refine' w2_neB ?_
  | with_reducible refine' w2_isN ?_
  | with_reducible refine' w2_notN ?_
  | with_reducible refine' w2_isB ?_
  | with_reducible refine' w2_inT ?_
  | with_reducible refine' w1_neg ?_
  | with_reducible refine' wl_abs ?_
  | with_reducible refine' wl_max2 ?_
  | with_reducible refine' wl_min2 ?_
  | with_reducible refine' wl_intB ?_
  | ((with_reducible refine' w2_div ?h ?_); case h => first | omega | (constructor <;> omega))
  | ((with_reducible refine' w2_mod ?h ?_); case h => omega)
  | ((with_reducible refine' w2_catT ?h ?_); case h => walk_at "len")
  | ((with_reducible refine' wsl_T ?h ?_); case h => walk_at "len")
  | ((with_reducible refine' wl_lenT ?h ?_); case h => walk_at "len")
  | ((with_reducible refine' wl_len ?h ?_); case h => walk_at "isl")
  | ((with_reducible refine' wl_len ?h ?_); case h => walk_at "isl")
  | ((with_reducible refine' wm_append ?sw ?hl ?_); (case sw => walk_at "swap"); (case hl => walk_at "len")))
local macro_rules | `(tactic| walk_at "b1") => `(tactic| first | with_reducible refine' ws_seq ?_ | walk_at "b0")
local macro_rules | `(tactic| walk_at "bx") => `(tactic| first
  | refine ⟨_, rfl, ?_⟩
  | refine ⟨_, _, rfl, ?_⟩
  | refine ⟨ty_L (by walk_at "isl"), ?_⟩
  | refine ⟨ty_S, ?_⟩
  | refine spl_t (by rfl) ?_
  | refine spl_f (by rfl) ?_
  | exact rfl)
local macro_rules | `(tactic| walk_at "bm") => `(tactic| repeat (first | walk_at "b1" | walk_at "bx"))
local macro_rules | `(tactic| walk_at "bn") => `(tactic| repeat (first | walk_at "b0" | walk_at "bx"))
local macro_rules | `(tactic| walk_at "b0") => `(tactic| with_reducible refine' c_deepens ?_)
local macro_rules | `(tactic| walk_at "b0") => `(tactic| ((with_reducible refine' c_depths_of ?hl ?_); (case hl => walk_at "len")))
local macro_rules | `(tactic| walk_at "b0") => `(tactic| with_reducible refine' c_is_wholeI ?_)
local macro_rules | `(tactic| walk_at "b0") => `(tactic| with_reducible refine' c_flipped ?_)
local macro_rules | `(tactic| walk_at "b0") => `(tactic| ((with_reducible refine' c_is_right_row ?hl ?_); (case hl => walk_at "len")))
local macro_rules | `(tactic| walk_at "b0") => `(tactic| ((with_reducible refine' c_asked_row ?hl ?_); (case hl => walk_at "len")))
local macro_rules | `(tactic| walk_at "b0") => `(tactic| ((with_reducible refine' c_depths ?hl ?_); (case hl => walk_at "len")))
local macro_rules | `(tactic| walk_at "b0") => `(tactic| ((with_reducible refine' c_is_right ?hl ?_); (case hl => walk_at "len")))
local macro_rules | `(tactic| walk_at "b0") => `(tactic| ((with_reducible refine' c__law_depths ?hl ?_); (case hl => walk_at "len")))
local macro_rules | `(tactic| walk_at "b0") => `(tactic| ((with_reducible refine' c__law_good ?hl ?_); (case hl => walk_at "len")))
local macro_rules | `(tactic| walk_at "b0") => `(tactic| ((with_reducible refine' wl_listOf ?hx ?_); (case hx => walk_at "isl")))
local macro_rules | `(tactic| walk_at "b0") => `(tactic| with_reducible refine' w2_notB ?_)
local macro_rules | `(tactic| walk_at "own") => `(tactic| exact own_l (by walk_at "mem"))
local macro_rules | `(tactic| walk_at "b0") => `(tactic| with_reducible refine' we_fld ?_)
local macro_rules | `(tactic| walk_at "b0") => `(tactic| refine ⟨_, _, _, _, _, rfl, own_l (by walk_at "mem"), Grw.cl (by assumption), Grw.nr (by assumption), by rfl, ?_⟩)
local macro_rules | `(tactic| walk_at "b0") => `(tactic| refine ⟨_, _, _, _, _, rfl, fun H' o => o.ex _ _ (by assumption), Grw.cl (by assumption), Grw.nr (by assumption), by rfl, ?_⟩)
local macro_rules | `(tactic| walk_at "b0") => `(tactic| with_reducible refine' we_meth ?_)
local macro_rules | `(tactic| walk_at "b0") => `(tactic| refine ⟨_, _, _, rfl, own_l (by walk_at "mem"), by rfl, ?_⟩)
local macro_rules | `(tactic| walk_at "b0") => `(tactic| refine ⟨_, _, _, rfl, fun H' o => o.ex _ _ (by assumption), by rfl, ?_⟩)
local macro_rules | `(tactic| walk_at "gown") => `(tactic| first | exact own_l (by walk_at "mem") | exact fun H' o => o.ex _ _ (by assumption))
local macro_rules | `(tactic| walk_at "b0") => `(tactic| with_reducible refine' wm_countT ?_)
local macro_rules | `(tactic| walk_at "b0") => `(tactic| with_reducible refine' we_methU ?_)
theorem ln__law_turned {K : PySem.W.Frag} {C : CA} {vs : List V} {H : Hp} {Q : VK} {E : XK} (h : sp__law_turned K C vs H Q E) : vs.length = 3 := by
  obtain ⟨_, ⟨r, a, ps, z, rfl, _⟩, _⟩ := h
  rfl
theorem pu__law_turned {K : PySem.W.Frag} {C : CA} {vs : List V} {H : Hp} {Q : VK} {E : XK} (h : sp__law_turned K C vs H Q E) : rd__law_turned K C { nx := fun _ H' => Q .non H', rt := Q } (start N__law_turned vs) H := by
  obtain ⟨_, ⟨r, a, ps, z, rfl, ha, hps, hl, rfl⟩, k⟩ := h
  refine body_V ?_ k
  unfold rd__law_turned
  refine ws_cut (fun σ s => σ = [some (.str (T r)), some (.ref a), some (.int z), none, none, none, none] ∧ s = ⟨[], []⟩ ∧ (∀ p ∈ ps, 0 ≤ p ∧ p < (r.length : Int)) ∧ ps.Nodup) ?_ ?_
  · walk_at "bm"
    refine we_lenSetD ?_
    walk_at "bm"
    refine ⟨a, ps, rfl, isL_old ha, hps, fun c hc1 hc2 => ?_⟩
    walk_at "bm"
    rw [List.length_map]
    refine ⟨fun h2 => ?_, fun h2 => ?_⟩
    · walk_at "bm"
      have h2' : ¬ ps.Nodup := fun hh => by rw [hc2.mpr hh] at h2; simp at h2
      show V.bl _ = V.bl _
      unfold tnSh
      rw [decide_eq_false h2']
      simp
    · have h2' : ps.Nodup := hc2.mp (by simp at h2; omega)
      walk_at "bm"
      refine ⟨⟨_, isL_old ha⟩, ?_⟩
      refine cp_list (xs := ps.map V.int) (fun i => ((ps.take i).map fun p => !decide (0 ≤ p ∧ p < (r.length : Int))).map V.bl) (isL_old ha) (by rw [List.length_map]; omega) rfl (fun i hi => by rw [List.length_map, List.length_map, List.length_take]; omega) ?_ ?_
      · intro D i y hi hy
        obtain ⟨p, hp, rfl⟩ := getI hy
        walk_at "bm"
        refine ⟨rfl, ?_⟩
        walk_at "bm"
        refine ⟨fun h => ?_, fun h => ?_⟩
        · walk_at "bm"
          refine ⟨Sub.refl _, ?_⟩
          rw [take_snoc hp, List.map_append, List.map_append]
          have h' := of_decide_eq_true h
          simp [h']
        · walk_at "bm"
          refine ⟨Sub.refl _, ?_⟩
          rw [take_snoc hp, List.map_append, List.map_append]
          have h' := of_decide_eq_false h
          simp [h']
      intro D hD
      rw [List.length_map, List.take_length]
      walk_at "bm"
      refine wl_any (bs := ps.map fun p => !decide (0 ≤ p ∧ p < (r.length : Int))) (by walk_at "isl") ?_
      have hall : (ps.map fun p => !decide (0 ≤ p ∧ p < (r.length : Int))).any id = !decide (∀ p ∈ ps, 0 ≤ p ∧ p < (r.length : Int)) := by
        rw [Bool.eq_iff_iff, List.any_map, List.any_eq_true, Bool.not_eq_true', decide_eq_false_iff_not]
        constructor
        · rintro ⟨p, hp, h⟩ hh
          have := hh p hp
          simp [this] at h
        · intro hh
          refine Classical.byContradiction fun hn => hh fun p hp => ?_
          refine Classical.byContradiction fun h3 => hn ⟨p, hp, ?_⟩
          simp only [Function.comp, id]
          rw [decide_eq_false h3]
          rfl
      rw [hall]
      walk_at "bm"
      refine ⟨fun h => ?_, fun h => ?_⟩
      · walk_at "bm"
        have h' : ¬ ∀ p ∈ ps, 0 ≤ p ∧ p < (r.length : Int) := fun hh => by rw [decide_eq_true hh] at h; cases h
        show V.bl _ = V.bl _
        rw [tnSh_out h']
      · have h' : ∀ p ∈ ps, 0 ≤ p ∧ p < (r.length : Int) := by
          cases e : decide (∀ p ∈ ps, 0 ≤ p ∧ p < (r.length : Int)) with
          | true => exact of_decide_eq_true e
          | false => rw [e] at h; cases h
        walk_at "bm"
        exact ⟨_, by walk_at "sub", rfl, rfl, h', h2'⟩
  rintro σ s ⟨rfl, rfl, h1, h2⟩
  have res : tnSh r ps z = (isR (flp ps r) && (decide (0 ≤ z ∧ z ≤ (r.length : Int)) && decide ((ps.length : Int) = tnNum r z))) := by
    unfold tnSh
    rw [decide_eq_true h1, decide_eq_true h2]
    rfl
  rw [res]
  refine ws_cut (fun σ s => σ = [some (.str (T r)), some (.ref a), some (.int z), none, none, none, none] ∧ s = ⟨[], []⟩ ∧ isR (flp ps r) = true ∧ 0 ≤ z ∧ z ≤ (r.length : Int)) ?_ ?_
  · walk_at "bm"
    refine c__law_over hl (isL_old ha) h1 ?_
    walk_at "bm"
    refine ⟨fun h => ?_, fun h => ?_⟩
    · walk_at "bm"
      have h' : isR (flp ps r) = false := by simpa using h
      show V.bl _ = V.bl _
      rw [h']
      rfl
    · have h' : isR (flp ps r) = true := by simpa using h
      walk_at "bm"
      refine ⟨fun h3 => ?_, fun h3 => ?_⟩
      · have h3' := of_decide_eq_true h3
        walk_at "bm"
        refine ⟨fun h4 => ?_, fun h4 => ?_⟩
        · walk_at "bm"
          have h4' : ¬ z ≤ (r.length : Int) := by simpa using h4
          show V.bl _ = V.bl _
          rw [h', decide_eq_false (fun hh => h4' hh.2)]
          rfl
        · walk_at "bm"
          exact ⟨_, Sub.refl _, rfl, rfl, h', h3', by simpa using h4⟩
      · have h3' := of_decide_eq_false h3
        walk_at "bm"
        show V.bl _ = V.bl _
        rw [h', decide_eq_false (fun hh => h3' hh.1)]
        rfl
  rintro σ s ⟨rfl, rfl, h3, h4, h5⟩
  rw [h3, decide_eq_true (show 0 ≤ z ∧ z ≤ (r.length : Int) from ⟨h4, h5⟩)]
  simp only [Bool.true_and]
  walk_at "bm"
  intro f hf
  walk_at "bm"
  refine w2_ixL (by walk_at "isl") (atI_dps h4 h5) ?_
  walk_at "bm"
  refine w2_ixL (by walk_at "isl") (dps_m1 _) ?_
  walk_at "bm"
  refine w2_ixL (by walk_at "isl") (atI_dps h4 h5) ?_
  walk_at "bm"
  show V.bl _ = V.bl _
  rw [List.length_map]
  congr 1
  apply decide_eq_decide.mpr
  unfold tnNum pos
  omega
theorem c__law_turned {K : PySem.W.Frag} {C : CA} {H0 : Hp} {s : Ld} {Q : V → Ld → Prop} {E : XK} {a : Addr} {ps : List Int} {z : Int} {r : List Bool} (ha : IsL K H0 s a (ps.map V.int)) (hps : ps.length ≤ 4000) (hl : r.length ≤ 1000) (q : Q (.bl (tnSh r ps z)) s) : WC H0 (sp__law_turned K C) E [.str (T r), .ref a, .int z] s Q := wc_V (fun H o => ⟨r, a, ps, z, rfl, ha H o, hps, hl, rfl⟩) q
theorem ln__law_due03 {K : PySem.W.Frag} {C : CA} {vs : List V} {H : Hp} {Q : VK} {E : XK} (h : sp__law_due03 K C vs H Q E) : vs.length = 2 := by
  obtain ⟨_, ⟨r, x, f, _, rfl, _⟩, _⟩ := h
  rfl
theorem pu__law_due03 {K : PySem.W.Frag} {C : CA} {vs : List V} {H : Hp} {Q : VK} {E : XK} (h : sp__law_due03 K C vs H Q E) : rd__law_due03 K C { nx := fun _ H' => Q .non H', rt := Q } (start N__law_due03 vs) H := by
  obtain ⟨_, ⟨r, x, f, hX, rfl, hl, hA, rfl⟩, k⟩ := h
  refine body_V ?_ k
  unfold rd__law_due03
  rcases hA with ⟨d, hx, rfl⟩ | ⟨d, a, z, ps, hx, ha, hps, rfl⟩
  · walk_at "bm"
    refine wl_isiC (fun H' o => hX.o.ty (o.ex _ _ hx)) (kit_self _ _) ?_
    walk_at "bm"
  · walk_at "bm"
    refine wl_isiC (fun H' o => hX.t.c.ty (o.ex _ _ hx)) hX.to ?_
    walk_at "bm"
    refine ⟨_, _, _, _, _, rfl, fun H' o => o.ex _ _ hx, hX.t.c.cl, hX.t.np, rfl, ?_⟩
    walk_at "bm"
    refine ⟨_, _, _, _, _, rfl, fun H' o => o.ex _ _ hx, hX.t.c.cl, hX.t.nc, rfl, ?_⟩
    walk_at "bm"
    refine c__law_turned (isL_old ha) hps hl ?_
    rfl
theorem c__law_due03 {K : PySem.W.Frag} {C : CA} {H0 : Hp} {s : Ld} {Q : V → Ld → Prop} {E : XK} {r : List Bool} {x : Addr} {f : List Bool → Bool} (hX : Ex03 K C) (hl : r.length ≤ 1000) (hA : ∀ H, Own H0 H s → TnAns K C H x f) (q : Q (.bl (f r)) s) : WC H0 (sp__law_due03 K C) E [.str (T r), .ref x] s Q := wc_V (fun H o => ⟨r, x, f, hX, rfl, hl, hA H o, rfl⟩) q
end BM
namespace BM
open PySem L2 Evl
local macro_rules | `(tactic| walk_at "mem") => `(tactic| first | exact List.mem_cons_self | (refine List.mem_cons_of_mem _ ?_; walk_at "mem"))
local macro_rules | `(tactic| walk_at "swap") => `(tactic| first | exact Swap.here | (apply Swap.there; walk_at "swap"))
local macro_rules | `(tactic| walk_at "subl") => `(tactic| first | exact List.Sublist.refl _ | exact List.nil_sublist _ | (refine List.Sublist.cons_cons _ ?_; walk_at "subl") | (refine List.Sublist.cons _ ?_; walk_at "subl"))
local macro_rules | `(tactic| walk_at "sub") => `(tactic| first | exact Sub.refl _ | (refine ⟨?_, ?_⟩ <;> walk_at "subl"))
local macro_rules | `(tactic| walk_at "isl") => `(tactic| first | exact isL_own (by walk_at "mem") | exact isL_old (by assumption) | assumption)
local macro_rules | `(tactic| walk_at "ist") => `(tactic| first | exact isT_own (by walk_at "mem") | exact isT_old (by assumption) | assumption)
local macro_rules | `(tactic| walk_at "len") => `(tactic| first | omega | decide | (simp only [List.length_map, List.length_take, List.length_drop, List.length_append, List.length_cons, List.length_nil, List.length_reverse, dps_len, flp_len]; omega) | (simp [dps_len, flp_len]; omega) | simp)
local macro_rules | `(tactic| walk_at "b0") => `(tactic| first
  | with_reducible refine' ws_set ?_
  | with_reducible refine' ws_par ?_
  | with_reducible refine' ws_asg ?_
  | with_reducible refine' ws_drop ?_
  | with_reducible refine' ws_ret ?_
  | with_reducible refine' ws_if ?_
  | with_reducible refine' ws_next ?_
  | with_reducible refine' ws_brk ?_
  | with_reducible refine' ws_cont ?_
  | ((with_reducible refine' we_var ?hv ?_); case hv => rfl)
  | with_reducible refine' we_c ?_
  | with_reducible refine' we_op ?_
  | with_reducible refine' we_un ?_
  | with_reducible refine' we_if ?_
  | with_reducible refine' we_and ?_
  | with_reducible refine' we_or ?_
  | with_reducible refine' we_not ?_
  | with_reducible refine' wa_nil ?_
  | with_reducible refine' wa_cons ?_
  | (with_reducible refine' we_lst ?_)
  | (with_reducible refine' we_tup ?_)
  | with_reducible refine' we_cb ?_
  | with_reducible refine' we_call0 ?_
  | with_reducible refine' we_sl ?_
  | with_reducible refine' wo_none ?_
  | (with_reducible refine' wo_some ?_)
  | with_reducible refine' wt_test ?_
  | with_reducible refine' wt_B ?_
  | with_reducible refine' wt_and ?_
  | with_reducible refine' wt_or ?_
  | with_reducible refine' wt_not ?_
  | with_reducible refine' wt_yes ?_
  | with_reducible refine' we_chain ?_
  | with_reducible refine' we_chain3 ?_
  | with_reducible refine' we_revT ?_
  | with_reducible refine' we_revL ?_
  | with_reducible refine' we_bm ?_
  | with_reducible refine' we_bm0 ?_
  | with_reducible refine' ws_for ?_
  | with_reducible refine' we_lc ?_
  | with_reducible refine' wi_list ?_
  | with_reducible refine' wi_tup ?_
  | with_reducible refine' wi_T ?_
  | with_reducible refine' wi_rng1 ?_
  | with_reducible refine' wi_rng2 ?_
  | with_reducible refine' wi_rng3 ?_
  | with_reducible refine' wi_enum ?_
  | with_reducible refine' wi_enumT ?_
  | with_reducible refine' wi_zip ?_
  | with_reducible refine' wg_name ?_
  | with_reducible refine' wg_sub ?_
  | with_reducible refine' wgs_nil ?_
  | with_reducible refine' wgs_cons ?_
  | ((with_reducible refine' wg_tup ?ht ?hn ?_); (case ht => walk_at "ist"); (case hn => rfl))
  | with_reducible refine' w2_add ?_
  | with_reducible refine' w2_sub ?_
  | with_reducible refine' w2_lt ?_
  | with_reducible refine' w2_le ?_
  | with_reducible refine' w2_gt ?_
  | with_reducible refine' w2_ge ?_
  | with_reducible refine' w2_eqI ?_
  | with_reducible refine' w2_neI ?_
  | with_reducible refine' w2_eqT ?_
  | with_reducible refine' w2_neT ?_
  | with_reducible refine' w2_eqB ?_
  | with_reducible refine' w2_neB ?_
  | with_reducible refine' w2_isN ?_
  | with_reducible refine' w2_notN ?_
  | with_reducible refine' w2_isB ?_
  | with_reducible refine' w2_inT ?_
  | with_reducible refine' w1_neg ?_
  | with_reducible refine' wl_abs ?_
  | with_reducible refine' wl_max2 ?_
  | with_reducible refine' wl_min2 ?_
  | with_reducible refine' wl_intB ?_
  | ((with_reducible refine' w2_div ?h ?_); case h => first | omega | (constructor <;> omega))
  | ((with_reducible refine' w2_mod ?h ?_); case h => omega)
  | ((with_reducible refine' w2_catT ?h ?_); case h => walk_at "len")
  | ((with_reducible refine' wsl_T ?h ?_); case h => walk_at "len")
  | ((with_reducible refine' wl_lenT ?h ?_); case h => walk_at "len")
  | ((with_reducible refine' wl_len ?h ?_); case h => walk_at "isl")
  | ((with_reducible refine' wl_len ?h ?_); case h => walk_at "isl")
  | ((with_reducible refine' wm_append ?sw ?hl ?_); (case sw => walk_at "swap"); (case hl => walk_at "len")))
local macro_rules | `(tactic| walk_at "b1") => `(tactic| first | with_reducible refine' ws_seq ?_ | walk_at "b0")
local macro_rules | `(tactic| walk_at "bx") => `(tactic| first
  | refine ⟨_, rfl, ?_⟩
  | refine ⟨_, _, rfl, ?_⟩
  | refine ⟨ty_L (by walk_at "isl"), ?_⟩
  | refine ⟨ty_S, ?_⟩
  | refine spl_t (by rfl) ?_
  | refine spl_f (by rfl) ?_
  | exact rfl)
local macro_rules | `(tactic| walk_at "bm") => `(tactic| repeat (first | walk_at "b1" | walk_at "bx"))
local macro_rules | `(tactic| walk_at "bn") => `(tactic| repeat (first | walk_at "b0" | walk_at "bx"))
local macro_rules | `(tactic| walk_at "b0") => `(tactic| with_reducible refine' c_deepens ?_)
local macro_rules | `(tactic| walk_at "b0") => `(tactic| ((with_reducible refine' c_depths_of ?hl ?_); (case hl => walk_at "len")))
local macro_rules | `(tactic| walk_at "b0") => `(tactic| with_reducible refine' c_is_wholeI ?_)
local macro_rules | `(tactic| walk_at "b0") => `(tactic| with_reducible refine' c_flipped ?_)
local macro_rules | `(tactic| walk_at "b0") => `(tactic| ((with_reducible refine' c_is_right_row ?hl ?_); (case hl => walk_at "len")))
local macro_rules | `(tactic| walk_at "b0") => `(tactic| ((with_reducible refine' c_asked_row ?hl ?_); (case hl => walk_at "len")))
local macro_rules | `(tactic| walk_at "b0") => `(tactic| ((with_reducible refine' c_depths ?hl ?_); (case hl => walk_at "len")))
local macro_rules | `(tactic| walk_at "b0") => `(tactic| ((with_reducible refine' c_is_right ?hl ?_); (case hl => walk_at "len")))
local macro_rules | `(tactic| walk_at "b0") => `(tactic| ((with_reducible refine' c__law_depths ?hl ?_); (case hl => walk_at "len")))
local macro_rules | `(tactic| walk_at "b0") => `(tactic| ((with_reducible refine' c__law_good ?hl ?_); (case hl => walk_at "len")))
local macro_rules | `(tactic| walk_at "b0") => `(tactic| ((with_reducible refine' wl_listOf ?hx ?_); (case hx => walk_at "isl")))
local macro_rules | `(tactic| walk_at "b0") => `(tactic| with_reducible refine' w2_notB ?_)
local macro_rules | `(tactic| walk_at "own") => `(tactic| exact own_l (by walk_at "mem"))
local macro_rules | `(tactic| walk_at "b0") => `(tactic| with_reducible refine' we_fld ?_)
local macro_rules | `(tactic| walk_at "b0") => `(tactic| refine ⟨_, _, _, _, _, rfl, own_l (by walk_at "mem"), Grw.cl (by assumption), Grw.nr (by assumption), by rfl, ?_⟩)
local macro_rules | `(tactic| walk_at "b0") => `(tactic| refine ⟨_, _, _, _, _, rfl, fun H' o => o.ex _ _ (by assumption), Grw.cl (by assumption), Grw.nr (by assumption), by rfl, ?_⟩)
local macro_rules | `(tactic| walk_at "b0") => `(tactic| with_reducible refine' we_meth ?_)
local macro_rules | `(tactic| walk_at "b0") => `(tactic| refine ⟨_, _, _, rfl, own_l (by walk_at "mem"), by rfl, ?_⟩)
local macro_rules | `(tactic| walk_at "b0") => `(tactic| refine ⟨_, _, _, rfl, fun H' o => o.ex _ _ (by assumption), by rfl, ?_⟩)
local macro_rules | `(tactic| walk_at "gown") => `(tactic| first | exact own_l (by walk_at "mem") | exact fun H' o => o.ex _ _ (by assumption))
local macro_rules | `(tactic| walk_at "b0") => `(tactic| with_reducible refine' wm_countT ?_)
local macro_rules | `(tactic| walk_at "b0") => `(tactic| with_reducible refine' we_methU ?_)
theorem c_t_init {K : PySem.W.Frag} {C : CA} {H0 : Hp} {Q : V → Ld → Prop} {E : XK} {x d a : Addr} {ps : List Int} {z : Int} {L : List (Addr × HO)} {T : List (Addr × List V)} (hT : TnC K C) (ha : (a, HO.lst (ps.map V.int)) ∈ L) (q : ∀ a2, H0 a2 = none → Q .non ⟨(a2, .lst (ps.map V.int)) :: (x, tIns C d a2 z) :: L, T⟩) : WC H0 (sp_t_init K C) E [.ref x, .ref a, .int z] ⟨(x, .ins C.c_Turned d []) :: L, T⟩ Q := fun H o R k => by
  have hk : x ∉ L.map (·.1) := (List.nodup_cons.mp o.nd).1
  have hax : a ≠ x := fun e => hk (List.mem_map.mpr ⟨_, ha, e⟩)
  refine ⟨x, d, a, ps, z, hT, rfl, (o.own _ List.mem_cons_self).2, sq_of (o.own _ (List.mem_cons_of_mem _ ha)).2, hax, fun H' a2 e h1 nd hx h3 => ?_⟩
  have a2x : a2 ≠ x := fun e => (List.nodup_cons.mp nd).1 (by rw [e]; exact List.mem_cons_self)
  rw [del_ne a2x] at h1
  have w1 := own_after o (Swap.here (o := .ins C.c_Turned d []) (o' := tIns C d a2 z)) trivial e hx
  have w2 := own_add w1 (fresh_back o.ex h1) (show a2 ∉ x :: L.map (·.1) from own_key o h1) h3
  exact k _ _ _ w2 (q a2 (fresh_back o.ex h1))
theorem we_turned {K : PySem.W.Frag} {C : CA} {H0 : Hp} {σ : L2.St} {s : Ld} {Q : V → Ld → Prop} {E : XK} {ta : TA} (hT : TnC K C) (h : WA H0 ta σ s fun vs s1 => ∃ (a : Addr) (ps : List Int) (z : Int), vs = [.ref a, .int z] ∧ (a, HO.lst (ps.map V.int)) ∈ s1.L ∧ ∀ x dx a2, H0 x = none → H0 a2 = none → Q (.ref x) ⟨(a2, .lst (ps.map V.int)) :: (x, tIns C dx a2 z) :: (dx, .own x) :: s1.L, s1.T⟩) : WE H0 (tMake C.c_Turned (sp_t_init K C) [] E ta) σ s Q :=
  we_make fun H o R k => h H o R fun vs H1 s1 o1 ⟨a, ps, z, e, ma, q⟩ => k _ _ _ o1 fun x dx hx hdx hne => by
    subst e
    exact c_t_init hT (List.mem_cons_of_mem _ ma) fun a2 h1 => ⟨rfl, q x dx a2 hx h1⟩
abbrev natsV (ps : List Nat) : List V := (inz ps).map V.int
theorem natsV_app (a b : List Nat) : natsV (a ++ b) = natsV a ++ natsV b := by
  unfold natsV inz
  rw [List.map_append, List.map_append]
theorem ln_turns {K : PySem.W.Frag} {C : CA} {vs : List V} {H : Hp} {Q : VK} {E : XK} (h : sp_turns K C vs H Q E) : vs.length = 1 := by
  obtain ⟨r, _, rfl, _⟩ := h
  rfl
theorem pu_turns {K : PySem.W.Frag} {C : CA} {vs : List V} {H : Hp} {Q : VK} {E : XK} (h : sp_turns K C vs H Q E) : rd_turns K C { nx := fun _ H' => Q .non H', rt := Q } (start N_turns vs) H := by
  obtain ⟨r, hX, rfl, hl, k1, k2⟩ := h
  refine body_K (P := fun v s => (r.length % 2 = 1 ∧ ∃ x d, v = .ref x ∧ (x, oIns C d) ∈ s.L) ∨ (r.length % 2 = 0 ∧ ∃ (x d a : Addr) (c : Nat) (ps : List Nat), v = .ref x ∧ Sub ⟨[(a, .lst (natsV ps)), (x, tIns C d a (c : Nat))], []⟩ s ∧ c ≤ r.length ∧ (∀ j, j ≤ r.length → hgt (r.take c) ≤ hgt (r.take j)) ∧ ps.Nodup ∧ (∀ p ∈ ps, p < r.length) ∧ isR (flp (inz ps) r) = true ∧ (ps.length : Int) = tnNum r c)) ?_ ?_
  · unfold rd_turns
    refine ws_seq ?_
    walk_at "bn"
    refine ws_seq ?_
    walk_at "bn"
    refine ⟨fun h => ?_, fun h => ?_⟩
    · have h' : r.length % 2 = 1 := by have := of_decide_eq_true h; omega
      walk_at "bn"
      refine we_mk0 fun x d hx => ?_
      exact .inl ⟨h', x, d, rfl, List.mem_cons_self⟩
    have h' : r.length % 2 = 0 := by have := of_decide_eq_false h; omega
    walk_at "bn"
    refine ws_cut (fun σ s => ∃ f, σ = [some (.str (T r)), some (.ref f), none, none, none, none, none, none, none, none] ∧ s = ⟨[(f, .lst ((dps r).map V.int))], []⟩) ?_ ?_
    · walk_at "bm"
      intro f hf
      exact ⟨_, Sub.refl _, f, rfl, rfl⟩
    rintro σ s ⟨f, rfl, rfl⟩
    refine ws_cut (fun σ s => ∃ c : Nat, σ = [some (.str (T r)), some (.ref f), none, none, none, some (.int (-hgt (r.take c))), some (.int (c : Int)), none, none, none] ∧ s = ⟨[(f, .lst ((dps r).map V.int))], []⟩ ∧ c ≤ r.length ∧ ∀ j, j ≤ r.length → hgt (r.take c) ≤ hgt (r.take j)) ?_ ?_
    · walk_at "bm"
      refine wl_min (by walk_at "isl") (by rw [dps_len]; omega) fun m h1 h2 => ?_
      walk_at "bm"
      refine wl_min (by walk_at "isl") (by rw [dps_len]; omega) fun m2 h3 h4 => ?_
      have em : m2 = m := Int.le_antisymm (h4 _ h1) (h2 _ h3)
      subst em
      obtain ⟨c, hc, hfirst⟩ := first_of h1
      have hcl : c ≤ r.length := by
        have := (List.getElem?_eq_some_iff.mp hc).1
        rw [dps_len] at this
        omega
      have ec : hgt (r.take c) = m2 := by
        rw [dps_get hcl] at hc
        exact Option.some.inj hc
      walk_at "bm"
      refine wm_index (by walk_at "isl") hc hfirst ?_
      walk_at "bm"
      exact ⟨_, Sub.refl _, c, by rw [ec]; rfl, rfl, hcl, fun j hj => by rw [ec]; exact h2 _ (mem_dps.mpr ⟨j, hj, rfl⟩)⟩
    rintro σ s ⟨c, rfl, rfl, hc, hmin⟩
    refine ws_seq ?_
    walk_at "bn"
    refine w2_ixL (by walk_at "isl") (dps_m1 _) ?_
    walk_at "bn"
    refine ws_cut (fun σ s => ∃ a, σ = [some (.str (T r)), some (.ref f), some (.int (hgt r + -hgt (r.take c))), some (.ref a), none, some (.int (-hgt (r.take c))), some (.int (c : Int)), none, none, none] ∧ s = ⟨[(a, .lst (natsV (clos r c))), (f, .lst ((dps r).map V.int))], []⟩) ?_ ?_
    · walk_at "bm"
      refine ⟨by omega, ?_⟩
      refine cp_rng (fun i => natsV (clos r i)) (by omega) rfl (fun i hi => by unfold natsV; rw [List.length_map, List.length_map]; exact clos_len r i) ?_ ?_
      · intro D i hi
        have hi' : i < c := by omega
        obtain ⟨b, hb⟩ := get_some (r := r) (i := i) (by omega)
        rw [show ((0 : Int) + (i : Int)) = (i : Int) by omega]
        walk_at "bm"
        refine ⟨rfl, ?_⟩
        walk_at "bm"
        refine w2_ixT (b := b) (by omega) (atI_of (by omega) (by rw [Int.toNat_natCast]; exact hb)) ?_
        walk_at "bm"
        have hno : isC r i = false → natsV (clos r (i + 1)) = natsV (clos r i) := fun h => by rw [clos_succ, h, if_neg (by decide), List.append_nil]
        have hyes : isC r i = true → natsV (clos r (i + 1)) = natsV (clos r i) ++ [V.int (i : Int)] := fun h => by rw [clos_succ, if_pos h, natsV_app]; rfl
        refine ⟨fun h => ?_, fun h => ?_⟩
        · have hbf : b = false := by simpa using h
          subst hbf
          walk_at "bm"
          refine w2_ixL (by walk_at "isl") (atI_dps (by omega) (by omega)) ?_
          walk_at "bm"
          refine wsl_L (by walk_at "isl") fun p hp => ?_
          rw [cut_hi (by omega), ← List.map_take, show ((i : Int) + 2).toNat = i + 1 + 1 by omega]
          walk_at "bm"
          refine wl_min (by walk_at "isl") (by rw [List.length_take, dps_len]; omega) fun m h1 h2 => ?_
          have em := rm_min (show i + 1 ≤ r.length by omega) h1 h2
          subst em
          rw [show ((i : Int) + 1).toNat = i + 1 by omega]
          walk_at "bm"
          have hC : isC r i = decide (hgt (r.take (i + 1)) = rm r (i + 1)) := by
            unfold isC
            rw [hb]
            rfl
          refine ⟨fun h3 => ?_, fun h3 => ?_⟩
          · walk_at "bm"
            exact ⟨by walk_at "sub", hyes (by rw [hC, h3])⟩
          · exact ⟨by walk_at "sub", hno (by rw [hC, h3])⟩
        · have hbf : b = true := by
            cases b
            · simp at h
            · rfl
          subst hbf
          walk_at "bm"
          exact ⟨Sub.refl _, hno (by unfold isC; rw [hb]; rfl)⟩
      · intro D hD
        rw [Int.toNat_natCast]
        exact ⟨_, Sub.refl _, D, rfl, rfl⟩
    rintro σ s ⟨a, rfl, rfl⟩
    refine ws_cut (fun σ s => ∃ b, σ = [some (.str (T r)), some (.ref f), some (.int (hgt r + -hgt (r.take c))), some (.ref a), some (.ref b), some (.int (-hgt (r.take c))), some (.int (c : Int)), none, none, none] ∧ s = ⟨[(b, .lst (natsV (opd r (r.length - c)))), (a, .lst (natsV (clos r c)))], []⟩) ?_ ?_
    · walk_at "bm"
      refine ⟨by omega, ?_⟩
      refine cp_rng (fun i => natsV (segO r c i)) (by omega) rfl (fun i hi => by unfold natsV; rw [List.length_map, List.length_map]; exact segO_len r c i) ?_ ?_
      · intro D i hi
        have hi' : c + i < r.length := by omega
        obtain ⟨b, hb⟩ := get_some (r := r) (i := c + i) hi'
        rw [show ((c : Int) + (i : Int)) = ((c + i : Nat) : Int) by omega]
        walk_at "bm"
        refine ⟨rfl, ?_⟩
        walk_at "bm"
        refine w2_ixT (b := b) (by omega) (atI_of (by omega) (by rw [Int.toNat_natCast]; exact hb)) ?_
        walk_at "bm"
        have hno : isO r (c + i) = false → natsV (segO r c (i + 1)) = natsV (segO r c i) := fun h => by rw [segO_succ, h, if_neg (by decide), List.append_nil]
        have hyes : isO r (c + i) = true → natsV (segO r c (i + 1)) = natsV (segO r c i) ++ [V.int ((c + i : Nat) : Int)] := fun h => by rw [segO_succ, if_pos h, natsV_app]; rfl
        refine ⟨fun h => ?_, fun h => ?_⟩
        · have hbf : b = true := by simpa using h
          subst hbf
          walk_at "bm"
          refine w2_ixL (by walk_at "isl") (atI_dps (by omega) (by omega)) ?_
          walk_at "bm"
          refine wsl_L (by walk_at "isl") fun p hp => ?_
          rw [cut_lo (by omega), ← List.map_drop, Int.toNat_natCast]
          walk_at "bm"
          refine wl_min (by walk_at "isl") (by rw [List.length_drop, dps_len]; omega) fun m h1 h2 => ?_
          have em := smd_min (show c + i ≤ r.length by omega) h1 h2
          subst em
          walk_at "bm"
          have hC : isO r (c + i) = decide (hgt (r.take (c + i)) = smd r (r.length - (c + i))) := by
            unfold isO
            rw [hb]
            rfl
          refine ⟨fun h3 => ?_, fun h3 => ?_⟩
          · walk_at "bm"
            exact ⟨by walk_at "sub", hyes (by rw [hC, h3])⟩
          · exact ⟨by walk_at "sub", hno (by rw [hC, h3])⟩
        · have hbf : b = false := by
            cases b
            · rfl
            · simp at h
          subst hbf
          walk_at "bm"
          exact ⟨Sub.refl _, hno (by unfold isO; rw [hb]; rfl)⟩
      · intro D hD
        rw [show ((r.length : Int) - (c : Int)).toNat = r.length - c by omega, segO_all r hc]
        exact ⟨_, by walk_at "sub", D, rfl, rfl⟩
    rintro σ s ⟨b, rfl, rfl⟩
    have hn0 := hmin 0 (Nat.zero_le _)
    have e00 : hgt (r.take 0) = 0 := rfl
    have hnn := hmin r.length (Nat.le_refl _)
    rw [List.take_length] at hnn
    obtain ⟨many, hmany⟩ : ∃ many : Nat, (many : Int) = (-hgt (r.take c) + 1) / 2 := ⟨((-hgt (r.take c) + 1) / 2).toNat, by omega⟩
    obtain ⟨more, hmore⟩ : ∃ more : Nat, (more : Int) = (hgt r - hgt (r.take c) + 1) / 2 := ⟨((hgt r - hgt (r.take c) + 1) / 2).toNat, by omega⟩
    obtain ⟨g1, g2, g3⟩ := turn_mend hc h' hmin hmany hmore
    have lc := clos_len r c
    have lo : (opd r (r.length - c)).length ≤ r.length := by rw [← segO_all r hc]; exact Nat.le_trans (segO_len r c _) (by omega)
    refine ws_seq ?_
    walk_at "bn"
    rw [← hmany, show (hgt r + -hgt (r.take c) + 1) / 2 = (more : Int) by rw [hmore]; congr 1]
    walk_at "bn"
    refine we_turned hX.t ?_
    walk_at "bm"
    refine wsl_L (by walk_at "isl") fun q1 hq1 => ?_
    rw [cut_hi (by omega), Int.toNat_natCast]
    walk_at "bm"
    refine wsl_L (by walk_at "isl") fun q2 hq2 => ?_
    rw [cut_lo (by simp; omega)]
    have eL : List.take many (natsV (clos r c)) ++ List.drop (((natsV (opd r (r.length - c))).length : Int) - (more : Int)).toNat (natsV (opd r (r.length - c))) = natsV ((clos r c).take many ++ (opd r (r.length - c)).drop ((opd r (r.length - c)).length - more)) := by
      rw [natsV_app]
      have el : (natsV (opd r (r.length - c))).length = (opd r (r.length - c)).length := by unfold natsV; rw [List.length_map, List.length_map]
      rw [el, show (((opd r (r.length - c)).length : Int) - (more : Int)).toNat = (opd r (r.length - c)).length - more by omega]
      unfold natsV inz
      rw [List.map_take, List.map_take, List.map_drop, List.map_drop]
    have eN : (natsV ((clos r c).take many ++ (opd r (r.length - c)).drop ((opd r (r.length - c)).length - more))).length ≤ 100000 := by
      unfold natsV
      rw [List.length_map, List.length_map, List.length_append, List.length_take, List.length_drop]
      omega
    walk_at "bm"
    refine w2_cat (by walk_at "mem") (by walk_at "mem") (by rw [← List.length_append, eL]; exact eN) fun q3 hq3 => ?_
    rw [eL]
    walk_at "bm"
    refine ⟨q3, inz ((clos r c).take many ++ (opd r (r.length - c)).drop ((opd r (r.length - c)).length - more)), (c : Int), rfl, List.mem_cons_self, fun x dx a2 hx ha2 => .inr ⟨h', x, dx, a2, c, _, rfl, by walk_at "sub", hc, hmin, ?_, ?_, g3, ?_⟩⟩
    · refine List.nodup_append.mpr ⟨List.Nodup.sublist (List.take_sublist _ _) (clos_nodup r c), List.Nodup.sublist (List.drop_sublist _ _) (opd_nodup r (by omega)), fun x hx y hy => ?_⟩
      have h1 := (clos_mem (List.take_subset _ _ hx)).1
      have h2 := (opd_ge r (List.drop_subset _ _ hy)).1
      omega
    · intro p hp
      rcases List.mem_append.mp hp with hp | hp
      · have := (clos_mem (List.take_subset _ _ hp)).1
        omega
      · exact (opd_ge r (List.drop_subset _ _ hp)).2.1
    · rw [List.length_append, List.length_take, List.length_drop]
      unfold tnNum pos
      rw [Int.toNat_natCast]
      omega
  · rintro v H' s w (⟨h0, x, d, rfl, m⟩ | ⟨h0, x, d, a, c, ps, rfl, hs, h1, h2, h3, h4, h5, h6⟩)
    · exact k1 h0 H' x d w.ex (w.own _ m).1 (w.own _ m).2
    · have w2 := w.sub hs
      have nd : [a, x].Nodup := w2.nd
      have ma := w2.own (a, .lst (natsV ps)) List.mem_cons_self
      have mx := w2.own (x, tIns C d a (c : Nat)) (List.mem_cons_of_mem _ List.mem_cons_self)
      exact k2 h0 H' x d a c ps w.ex mx.1 ma.1 nd mx.2 ma.2 h1 h2 h3 h4 h5 h6
end BM
namespace BM
open PySem L2 Evl
local macro_rules | `(tactic| walk_at "mem") => `(tactic| first | exact List.mem_cons_self | (refine List.mem_cons_of_mem _ ?_; walk_at "mem"))
local macro_rules | `(tactic| walk_at "swap") => `(tactic| first | exact Swap.here | (apply Swap.there; walk_at "swap"))
local macro_rules | `(tactic| walk_at "subl") => `(tactic| first | exact List.Sublist.refl _ | exact List.nil_sublist _ | (refine List.Sublist.cons_cons _ ?_; walk_at "subl") | (refine List.Sublist.cons _ ?_; walk_at "subl"))
local macro_rules | `(tactic| walk_at "sub") => `(tactic| first | exact Sub.refl _ | (refine ⟨?_, ?_⟩ <;> walk_at "subl"))
local macro_rules | `(tactic| walk_at "isl") => `(tactic| first | exact isL_own (by walk_at "mem") | exact isL_old (by assumption) | assumption)
local macro_rules | `(tactic| walk_at "ist") => `(tactic| first | exact isT_own (by walk_at "mem") | exact isT_old (by assumption) | assumption)
local macro_rules | `(tactic| walk_at "len") => `(tactic| first | omega | decide | (simp only [List.length_map, List.length_take, List.length_drop, List.length_append, List.length_cons, List.length_nil, List.length_reverse, dps_len, flp_len]; omega) | (simp [dps_len, flp_len]; omega) | simp)
local macro_rules | `(tactic| walk_at "b0") => `(tactic| first
  | with_reducible refine' ws_set ?_
  | with_reducible refine' ws_par ?_
  | with_reducible refine' ws_asg ?_
  | with_reducible refine' ws_drop ?_
  | with_reducible refine' ws_ret ?_
  | with_reducible refine' ws_if ?_
  | with_reducible refine' ws_next ?_
  | with_reducible refine' ws_brk ?_
  | with_reducible refine' ws_cont ?_
  | ((with_reducible refine' we_var ?hv ?_); case hv => rfl)
  | with_reducible refine' we_c ?_
  | with_reducible refine' we_op ?_
  | with_reducible refine' we_un ?_
  | with_reducible refine' we_if ?_
  | with_reducible refine' we_and ?_
  | with_reducible refine' we_or ?_
  | with_reducible refine' we_not ?_
  | with_reducible refine' wa_nil ?_
  | with_reducible refine' wa_cons ?_
  | (with_reducible refine' we_lst ?_)
  | (with_reducible refine' we_tup ?_)
  | with_reducible refine' we_cb ?_
  | with_reducible refine' we_call0 ?_
  | with_reducible refine' we_sl ?_
  | with_reducible refine' wo_none ?_
  | (with_reducible refine' wo_some ?_)
  | with_reducible refine' wt_test ?_
  | with_reducible refine' wt_B ?_
  | with_reducible refine' wt_and ?_
  | with_reducible refine' wt_or ?_
  | with_reducible refine' wt_not ?_
  | with_reducible refine' wt_yes ?_
  | with_reducible refine' we_chain ?_
  | with_reducible refine' we_chain3 ?_
  | with_reducible refine' we_revT ?_
  | with_reducible refine' we_revL ?_
  | with_reducible refine' we_bm ?_
  | with_reducible refine' we_bm0 ?_
  | with_reducible refine' ws_for ?_
  | with_reducible refine' we_lc ?_
  | with_reducible refine' wi_list ?_
  | with_reducible refine' wi_tup ?_
  | with_reducible refine' wi_T ?_
  | with_reducible refine' wi_rng1 ?_
  | with_reducible refine' wi_rng2 ?_
  | with_reducible refine' wi_rng3 ?_
  | with_reducible refine' wi_enum ?_
  | with_reducible refine' wi_enumT ?_
  | with_reducible refine' wi_zip ?_
  | with_reducible refine' wg_name ?_
  | with_reducible refine' wg_sub ?_
  | with_reducible refine' wgs_nil ?_
  | with_reducible refine' wgs_cons ?_
  | ((with_reducible refine' wg_tup ?ht ?hn ?_); (case ht => walk_at "ist"); (case hn => rfl))
  | with_reducible refine' w2_add ?_
  | with_reducible refine' w2_sub ?_
  | with_reducible refine' w2_lt ?_
  | with_reducible refine' w2_le ?_
  | with_reducible refine' w2_gt ?_
  | with_reducible refine' w2_ge ?_
  | with_reducible refine' w2_eqI ?_
  | with_reducible refine' w2_neI ?_
  | with_reducible refine' w2_eqT ?_
  | with_reducible refine' w2_neT ?_
  | with_reducible refine' w2_eqB ?_
  | with_reducible refine' w2_neB ?_
  | with_reducible refine' w2_isN ?_
  | with_reducible refine' w2_notN ?_
  | with_reducible refine' w2_isB ?_
  | with_reducible refine' w2_inT ?_
  | with_reducible refine' w1_neg ?_
  | with_reducible refine' wl_abs ?_
  | with_reducible refine' wl_max2 ?_
  | with_reducible refine' wl_min2 ?_
  | with_reducible refine' wl_intB ?_
  | ((with_reducible refine' w2_div ?h ?_); case h => first | omega | (constructor <;> omega))
  | ((with_reducible refine' w2_mod ?h ?_); case h => omega)
  | ((with_reducible refine' w2_catT ?h ?_); case h => walk_at "len")
  | ((with_reducible refine' wsl_T ?h ?_); case h => walk_at "len")
  | ((with_reducible refine' wl_lenT ?h ?_); case h => walk_at "len")
  | ((with_reducible refine' wl_len ?h ?_); case h => walk_at "isl")
  | ((with_reducible refine' wl_len ?h ?_); case h => walk_at "isl")
  | ((with_reducible refine' wm_append ?sw ?hl ?_); (case sw => walk_at "swap"); (case hl => walk_at "len")))
local macro_rules | `(tactic| walk_at "b1") => `(tactic| first | with_reducible refine' ws_seq ?_ | walk_at "b0")
local macro_rules | `(tactic| walk_at "bx") => `(tactic| first
  | refine ⟨_, rfl, ?_⟩
  | refine ⟨_, _, rfl, ?_⟩
  | refine ⟨ty_L (by walk_at "isl"), ?_⟩
  | refine ⟨ty_S, ?_⟩
  | refine spl_t (by rfl) ?_
  | refine spl_f (by rfl) ?_
  | exact rfl)
local macro_rules | `(tactic| walk_at "bm") => `(tactic| repeat (first | walk_at "b1" | walk_at "bx"))
local macro_rules | `(tactic| walk_at "bn") => `(tactic| repeat (first | walk_at "b0" | walk_at "bx"))
local macro_rules | `(tactic| walk_at "b0") => `(tactic| with_reducible refine' c_deepens ?_)
local macro_rules | `(tactic| walk_at "b0") => `(tactic| ((with_reducible refine' c_depths_of ?hl ?_); (case hl => walk_at "len")))
local macro_rules | `(tactic| walk_at "b0") => `(tactic| with_reducible refine' c_is_wholeI ?_)
local macro_rules | `(tactic| walk_at "b0") => `(tactic| with_reducible refine' c_flipped ?_)
local macro_rules | `(tactic| walk_at "b0") => `(tactic| ((with_reducible refine' c_is_right_row ?hl ?_); (case hl => walk_at "len")))
local macro_rules | `(tactic| walk_at "b0") => `(tactic| ((with_reducible refine' c_asked_row ?hl ?_); (case hl => walk_at "len")))
local macro_rules | `(tactic| walk_at "b0") => `(tactic| ((with_reducible refine' c_depths ?hl ?_); (case hl => walk_at "len")))
local macro_rules | `(tactic| walk_at "b0") => `(tactic| ((with_reducible refine' c_is_right ?hl ?_); (case hl => walk_at "len")))
local macro_rules | `(tactic| walk_at "b0") => `(tactic| ((with_reducible refine' c__law_depths ?hl ?_); (case hl => walk_at "len")))
local macro_rules | `(tactic| walk_at "b0") => `(tactic| ((with_reducible refine' c__law_good ?hl ?_); (case hl => walk_at "len")))
local macro_rules | `(tactic| walk_at "b0") => `(tactic| ((with_reducible refine' wl_listOf ?hx ?_); (case hx => walk_at "isl")))
local macro_rules | `(tactic| walk_at "b0") => `(tactic| with_reducible refine' w2_notB ?_)
local macro_rules | `(tactic| walk_at "own") => `(tactic| exact own_l (by walk_at "mem"))
local macro_rules | `(tactic| walk_at "b0") => `(tactic| with_reducible refine' we_fld ?_)
local macro_rules | `(tactic| walk_at "b0") => `(tactic| refine ⟨_, _, _, _, _, rfl, own_l (by walk_at "mem"), Grw.cl (by assumption), Grw.nr (by assumption), by rfl, ?_⟩)
local macro_rules | `(tactic| walk_at "b0") => `(tactic| refine ⟨_, _, _, _, _, rfl, fun H' o => o.ex _ _ (by assumption), Grw.cl (by assumption), Grw.nr (by assumption), by rfl, ?_⟩)
local macro_rules | `(tactic| walk_at "b0") => `(tactic| with_reducible refine' we_meth ?_)
local macro_rules | `(tactic| walk_at "b0") => `(tactic| refine ⟨_, _, _, rfl, own_l (by walk_at "mem"), by rfl, ?_⟩)
local macro_rules | `(tactic| walk_at "b0") => `(tactic| refine ⟨_, _, _, rfl, fun H' o => o.ex _ _ (by assumption), by rfl, ?_⟩)
local macro_rules | `(tactic| walk_at "gown") => `(tactic| first | exact own_l (by walk_at "mem") | exact fun H' o => o.ex _ _ (by assumption))
local macro_rules | `(tactic| walk_at "b0") => `(tactic| with_reducible refine' wm_countT ?_)
local macro_rules | `(tactic| walk_at "b0") => `(tactic| with_reducible refine' we_methU ?_)
theorem c_turns_odd {K : PySem.W.Frag} {C : CA} {H0 : Hp} {s : Ld} {Q : V → Ld → Prop} {E : XK} {r : List Bool} (hX : Ex03 K C) (hl : r.length ≤ 40) (h0 : r.length % 2 = 1) (q : ∀ x d, Q (.ref x) ⟨(x, oIns C d) :: s.L, s.T⟩) : WC H0 (sp_turns K C) E [.str (T r)] s Q := fun H o R k =>
  ⟨r, hX, rfl, hl, fun _ H' x d e hx h => k _ _ _ (own_add (o.ext e) (fresh_back o.ex hx) (own_key o hx) h) (q x d), fun h => absurd h (by omega)⟩
theorem c_turns_ev {K : PySem.W.Frag} {C : CA} {H0 : Hp} {s : Ld} {Q : V → Ld → Prop} {E : XK} {r : List Bool} (hX : Ex03 K C) (hl : r.length ≤ 40) (h0 : r.length % 2 = 0) (q : ∀ x d a (c : Nat) (ps : List Nat), c ≤ r.length → (∀ j, j ≤ r.length → hgt (r.take c) ≤ hgt (r.take j)) → ps.Nodup → (∀ p ∈ ps, p < r.length) → isR (flp (inz ps) r) = true → (ps.length : Int) = tnNum r c → Q (.ref x) ⟨(a, .lst (natsV ps)) :: (x, tIns C d a (c : Nat)) :: s.L, s.T⟩) : WC H0 (sp_turns K C) E [.str (T r)] s Q := fun H o R k =>
  ⟨r, hX, rfl, hl, fun h => absurd h (by omega), fun _ H' x d a c ps e hx ha nd h1 h2 g1 g2 g3 g4 g5 g6 => by
    have na : a ∉ [x] := (List.nodup_cons.mp nd).1
    have w1 := own_add (o.ext e) (fresh_back o.ex hx) (own_key o hx) h1
    have w2 := own_add w1 (fresh_back o.ex ha) (fun hm => by
      rcases List.mem_cons.mp hm with z | hm
      · exact na (by rw [z]; exact List.mem_cons_self)
      · exact own_key o ha hm) h2
    exact k _ _ _ w2 (q x d a c ps g1 g2 g3 g4 g5 g6)⟩
theorem inz_nodup {ps : List Nat} (h : ps.Nodup) : (inz ps).Nodup := by
  induction ps with
  | nil => exact List.nodup_nil
  | cons a ps ih =>
    have h1 := List.nodup_cons.mp h
    exact List.nodup_cons.mpr ⟨fun hm => h1.1 (mem_inz.mp hm), ih h1.2⟩
theorem inz_in {r : List Bool} {ps : List Nat} (h : ∀ p ∈ ps, p < r.length) : ∀ p ∈ inz ps, 0 ≤ p ∧ p < (r.length : Int) := fun p hp => by
  obtain ⟨a, ha, rfl⟩ := List.mem_map.mp hp
  have := h a ha
  show 0 ≤ ((a : Nat) : Int) ∧ ((a : Nat) : Int) < _
  omega
theorem tnSh_self {r : List Bool} {c : Nat} {ps : List Nat} (hc : c ≤ r.length) (h1 : ps.Nodup) (h2 : ∀ p ∈ ps, p < r.length) (h3 : isR (flp (inz ps) r) = true) (h4 : (ps.length : Int) = tnNum r c) : tnSh r (inz ps) (c : Int) = true := by
  unfold tnSh
  rw [decide_eq_true (inz_in h2), decide_eq_true (inz_nodup h1), h3, decide_eq_true (show 0 ≤ (c : Int) ∧ (c : Int) ≤ (r.length : Int) by omega), List.length_map, decide_eq_true h4]
  rfl
theorem odSh_self {r : List Bool} (h : r.length % 2 = 1) : odSh r = true := by
  unfold odSh
  exact decide_eq_true (by omega)
theorem ln__law_right03 {K : PySem.W.Frag} {C : CA} {vs : List V} {H : Hp} {Q : VK} {E : XK} (h : sp__law_right03 K C vs H Q E) : vs.length = 2 := by
  obtain ⟨_, ⟨r, b, rs, _, rfl, _⟩, _⟩ := h
  rfl
theorem pu__law_right03 {K : PySem.W.Frag} {C : CA} {vs : List V} {H : Hp} {Q : VK} {E : XK} (h : sp__law_right03 K C vs H Q E) : rd__law_right03 K C { nx := fun _ H' => Q .non H', rt := Q } (start N__law_right03 vs) H := by
  obtain ⟨_, ⟨r, o, rs, hX, rfl, hl, ho, hrs, rfl⟩, k⟩ := h
  refine body_V ?_ k
  unfold rd__law_right03
  obtain ⟨ev, hev⟩ : ∃ ev : Bool, decide ((r.length : Int) % 2 = 0) = ev := ⟨_, rfl⟩
  refine ws_cut (fun σ s => σ = [some (.str (T r)), some (.ref o), some (.bl ev), none, none, none] ∧ s = ⟨[], []⟩) ?_ ?_
  · walk_at "bm"
    rw [hev]
    exact ⟨_, Sub.refl _, rfl, rfl⟩
  rintro σ s ⟨rfl, rfl⟩
  refine ws_cut (fun σ s => ∃ x3 x4 x5, σ = [some (.str (T r)), some (.ref o), some (.bl ev), x3, x4, x5] ∧ s = ⟨[], []⟩) ?_ ?_
  · walk_at "bm"
    refine ⟨by decide, ?_⟩
    refine lp_rng (fun i σ s => ∃ x3 x4 x5, σ = [some (.str (T r)), some (.ref o), some (.bl ev), x3, x4, x5] ∧ s = ⟨[], []⟩) ⟨none, none, none, rfl, rfl⟩ ?_ (fun σ s ⟨x3, x4, x5, e1, e2⟩ => ⟨_, Sub.refl _, x3, x4, x5, e1, e2⟩)
    rintro i σ s hi ⟨x3, x4, x5, rfl, rfl⟩
    refine wg_name ?_
    by_cases h0 : r.length % 2 = 0
    · have evt : ev = true := by rw [← hev]; exact decide_eq_true (by omega)
      subst evt
      refine ws_seq ?_
      walk_at "bn"
      refine c_turns_ev hX hl h0 fun x d a c ps g1 g2 g3 g4 g5 g6 => ?_
      have hpl : (inz ps).length ≤ 4000 := by
        have := nodup_len g3 (s := List.range r.length) fun p hp => List.mem_range.mpr (g4 p hp)
        rw [List.length_range] at this
        rw [List.length_map]
        omega
      have hp40 : (inz ps).length ≤ 40 := by
        have := nodup_len g3 (s := List.range r.length) fun p hp => List.mem_range.mpr (g4 p hp)
        rw [List.length_range] at this
        rw [List.length_map]
        omega
      have hnl : (natsV ps).length < 100000 := by
        unfold natsV
        rw [List.length_map]
        omega
      walk_at "bn"
      have hty : ∀ {s : Ld}, (x, tIns C d a (c : Nat)) ∈ s.L → ∀ H', Own H H' s → TyX K H' (.ref x) (.ref C.c_Turned) := fun h H' w => hX.t.c.ty (w.own _ h).2
      have hA : ∀ {s : Ld}, Sub ⟨[(a, .lst (natsV ps)), (x, tIns C d a (c : Nat))], []⟩ s → ∀ H', Own H H' s → TnAns K C H' x (fun r' => tnSh r' (inz ps) (c : Int)) := fun {s} hs H' w => .inr ⟨d, a, (c : Int), inz ps, own_l (by walk_at "mem") H' (w.sub hs), sq_of (own_l (by walk_at "mem") H' (w.sub hs)), hpl, rfl⟩
      walk_at "bm"
      refine wl_isiC (hty (by walk_at "mem")) hX.ta ?_
      walk_at "bm"
      refine wl_isiC (hty (by walk_at "mem")) hX.ts ?_
      walk_at "bm"
      refine wl_isiC (hty (by walk_at "mem")) hX.tu ?_
      walk_at "bm"
      refine wl_isiC (hty (by walk_at "mem")) hX.tr ?_
      walk_at "bm"
      refine wl_isiC (hty (by walk_at "mem")) (kit_self _ _) ?_
      walk_at "bm"
      refine wl_isiC (hty (by walk_at "mem")) hX.to ?_
      walk_at "bm"
      refine ⟨by simp, fun p1 hp1 => ?_⟩
      walk_at "bm"
      refine ⟨by simp, fun p2 hp2 => ?_⟩
      refine w2_neLB (ns := [true, false]) (ms := [true, false]) (by walk_at "isl") (by walk_at "isl") ?_
      walk_at "bm"
      refine c__law_due03 hX (by omega) (hA (by walk_at "sub")) ?_
      rw [tnSh_self g1 g3 g4 g5 g6]
      walk_at "bm"
      refine ⟨x, _, d, _, rfl, own_l (by walk_at "mem"), by rfl, .inr ⟨rfl, ?_⟩⟩
      walk_at "bm"
      refine c_t_shows hX.t (d := d) (a := a) (ps := inz ps) (z := (c : Int)) (own_l (by walk_at "mem")) (by walk_at "isl") hpl (by omega) ?_
      rw [tnSh_self g1 g3 g4 g5 g6]
      walk_at "bn"
      refine ws_weak (s0 := ⟨[(a, .lst (natsV ps)), (x, tIns C d a (c : Nat))], []⟩) (by walk_at "sub") ?_
      refine ws_cut (fun σ s => ∃ x5, σ = [some (.str (T r)), some (.ref o), some (.bl true), some (.int (0 + (i : Int))), some (.ref x), x5] ∧ s = ⟨[(a, .lst (natsV ps)), (x, tIns C d a (c : Nat))], []⟩) ?_ ?_
      · walk_at "bm"
        refine ⟨⟨_, isL_old ho⟩, ?_⟩
        refine lp_list (xs := rs.map fun r => .str (T r)) (n := rs.length) (fun j σ s => ∃ x5, σ = [some (.str (T r)), some (.ref o), some (.bl true), some (.int (0 + (i : Int))), some (.ref x), x5] ∧ s = ⟨[(a, .lst (natsV ps)), (x, tIns C d a (c : Nat))], []⟩) (by simp) ⟨x5, rfl, rfl⟩ (fun _ _ _ _ _ => isL_old ho) ?_ (fun σ s ⟨x5, e1, e2⟩ => ⟨_, Sub.refl _, x5, e1, e2⟩)
        rintro j y σ s hj hy ⟨x5, rfl, rfl⟩
        obtain ⟨z, hz, rfl⟩ := getR hy
        have hzl := hrs z (List.mem_of_getElem? hz)
        refine wg_name ?_
        walk_at "bm"
        refine ⟨x, _, d, _, rfl, own_l (by walk_at "mem"), by rfl, .inr ⟨rfl, ?_⟩⟩
        walk_at "bm"
        refine c_t_shows hX.t (d := d) (a := a) (ps := inz ps) (z := (c : Int)) (own_l (by walk_at "mem")) (by walk_at "isl") hpl hzl ?_
        walk_at "bm"
        refine c__law_due03 hX hzl (hA (by walk_at "sub")) ?_
        walk_at "bm"
        refine spl_f (by simp) ?_
        walk_at "bm"
        exact ⟨_, Sub.refl _, _, rfl, rfl⟩
      rintro σ s ⟨x5, rfl, rfl⟩
      walk_at "bm"
      refine ⟨_, _, _, _, _, rfl, own_l (by walk_at "mem"), hX.t.c.cl, hX.t.np, rfl, ?_⟩
      walk_at "bm"
      refine ⟨x, _, d, _, rfl, own_l (by walk_at "mem"), by rfl, .inr ⟨rfl, ?_⟩⟩
      walk_at "bm"
      refine c_t_shows hX.t (d := d) (a := a) (ps := inz ps ++ [(r.length : Int)]) (z := (c : Int)) (own_l (by walk_at "mem")) (by rw [List.map_append]; walk_at "isl") (by rw [List.length_append]; show _ + 1 ≤ 4000; omega) (by omega) ?_
      rw [tnSh_out (fun hh => by have := (hh (r.length : Int) (List.mem_append_right _ List.mem_cons_self)).2; omega)]
      walk_at "bm"
      exact ⟨_, by walk_at "sub", _, _, _, rfl, rfl⟩
    · have evt : ev = false := by rw [← hev]; exact decide_eq_false (by omega)
      have h0' : r.length % 2 = 1 := by omega
      subst evt
      refine ws_seq ?_
      walk_at "bn"
      refine c_turns_odd hX hl h0' fun x d => ?_
      walk_at "bn"
      have hty : ∀ {s : Ld}, (x, oIns C d) ∈ s.L → ∀ H', Own H H' s → TyX K H' (.ref x) (.ref C.c_Odd) := fun h H' w => hX.o.ty (w.own _ h).2
      have hA : ∀ {s : Ld}, Sub ⟨[(x, oIns C d)], []⟩ s → ∀ H', Own H H' s → TnAns K C H' x odSh := fun {s} hs H' w => .inl ⟨d, own_l (by walk_at "mem") H' (w.sub hs), rfl⟩
      walk_at "bm"
      refine wl_isiC (hty (by walk_at "mem")) hX.oa ?_
      walk_at "bm"
      refine wl_isiC (hty (by walk_at "mem")) hX.os ?_
      walk_at "bm"
      refine wl_isiC (hty (by walk_at "mem")) hX.ou ?_
      walk_at "bm"
      refine wl_isiC (hty (by walk_at "mem")) hX.or' ?_
      walk_at "bm"
      refine wl_isiC (hty (by walk_at "mem")) hX.ot ?_
      walk_at "bm"
      refine wl_isiC (hty (by walk_at "mem")) (kit_self _ _) ?_
      walk_at "bm"
      refine ⟨by simp, fun p1 hp1 => ?_⟩
      walk_at "bm"
      refine ⟨by simp, fun p2 hp2 => ?_⟩
      refine w2_neLB (ns := [false, true]) (ms := [false, true]) (by walk_at "isl") (by walk_at "isl") ?_
      walk_at "bm"
      refine c__law_due03 hX (by omega) (hA (by walk_at "sub")) ?_
      rw [odSh_self h0']
      walk_at "bm"
      refine ⟨x, _, d, _, rfl, own_l (by walk_at "mem"), by rfl, .inl ⟨rfl, ?_⟩⟩
      walk_at "bm"
      refine c_o_shows (by omega) ?_
      rw [odSh_self h0']
      walk_at "bn"
      refine ws_weak (s0 := ⟨[(x, oIns C d)], []⟩) (by walk_at "sub") ?_
      refine ws_cut (fun σ s => ∃ x5, σ = [some (.str (T r)), some (.ref o), some (.bl false), some (.int (0 + (i : Int))), some (.ref x), x5] ∧ s = ⟨[(x, oIns C d)], []⟩) ?_ ?_
      · walk_at "bm"
        refine ⟨⟨_, isL_old ho⟩, ?_⟩
        refine lp_list (xs := rs.map fun r => .str (T r)) (n := rs.length) (fun j σ s => ∃ x5, σ = [some (.str (T r)), some (.ref o), some (.bl false), some (.int (0 + (i : Int))), some (.ref x), x5] ∧ s = ⟨[(x, oIns C d)], []⟩) (by simp) ⟨x5, rfl, rfl⟩ (fun _ _ _ _ _ => isL_old ho) ?_ (fun σ s ⟨x5, e1, e2⟩ => ⟨_, Sub.refl _, x5, e1, e2⟩)
        rintro j y σ s hj hy ⟨x5, rfl, rfl⟩
        obtain ⟨z, hz, rfl⟩ := getR hy
        have hzl := hrs z (List.mem_of_getElem? hz)
        refine wg_name ?_
        walk_at "bm"
        refine ⟨x, _, d, _, rfl, own_l (by walk_at "mem"), by rfl, .inl ⟨rfl, ?_⟩⟩
        walk_at "bm"
        refine c_o_shows hzl ?_
        walk_at "bm"
        refine c__law_due03 hX hzl (hA (by walk_at "sub")) ?_
        walk_at "bm"
        refine spl_f (by simp) ?_
        walk_at "bm"
        exact ⟨_, Sub.refl _, _, rfl, rfl⟩
      rintro σ s ⟨x5, rfl, rfl⟩
      walk_at "bm"
      exact ⟨_, by walk_at "sub", _, _, _, rfl, rfl⟩
  rintro σ s ⟨x3, x4, x5, rfl, rfl⟩
  walk_at "bm"
end BM
namespace BM
/-! the marks of a row: which brackets are turned over -/
def mkm : Nat → (Nat → Bool) → Nat
  | 0, _ => 0
  | n + 1, f => (if f 0 then 1 else 0) + 2 * mkm n fun i => f (i + 1)
theorem mkm_lt : ∀ n f, mkm n f < 2 ^ n
  | 0, f => by simp [mkm]
  | n + 1, f => by
    have := mkm_lt n fun i => f (i + 1)
    show (if f 0 then 1 else 0) + 2 * mkm n (fun i => f (i + 1)) < _
    rw [Nat.pow_succ]
    split <;> omega
theorem mkm_bit : ∀ n f a, a < n → mkm n f / 2 ^ a % 2 = if f a then 1 else 0
  | 0, f, a, h => absurd h (Nat.not_lt_zero _)
  | n + 1, f, 0, _ => by
    show ((if f 0 then 1 else 0) + 2 * mkm n fun i => f (i + 1)) / 2 ^ 0 % 2 = _
    rw [Nat.pow_zero, Nat.div_one]
    split <;> omega
  | n + 1, f, a + 1, h => by
    have ih := mkm_bit n (fun i => f (i + 1)) a (by omega)
    show ((if f 0 then 1 else 0) + 2 * mkm n fun i => f (i + 1)) / 2 ^ (a + 1) % 2 = _
    rw [Nat.pow_succ', ← Nat.div_div_eq_div_mul]
    have e : ((if f 0 then 1 else 0) + 2 * mkm n fun i => f (i + 1)) / 2 = mkm n fun i => f (i + 1) := by
      split <;> omega
    rw [e]
    exact ih
def btm (m n : Nat) : List Nat := (List.range n).filter fun a => decide (m / 2 ^ a % 2 = 1)
theorem btm_succ (m n : Nat) : btm m (n + 1) = btm m n ++ if m / 2 ^ n % 2 = 1 then [n] else [] := by
  unfold btm
  rw [List.range_succ, List.filter_append]
  congr 1
  simp only [List.filter_cons, List.filter_nil]
  split <;> simp_all
theorem btm_nodup (m n : Nat) : (btm m n).Nodup := List.Nodup.sublist List.filter_sublist List.nodup_range
theorem btm_lt {m n p : Nat} (h : p ∈ btm m n) : p < n := List.mem_range.mp (List.mem_filter.mp h).1
theorem btm_len (m n : Nat) : (btm m n).length ≤ n := by
  unfold btm
  exact Nat.le_trans (List.length_filter_le _ _) (by rw [List.length_range]; exact Nat.le_refl _)
theorem btm_mk {n : Nat} {ps : List Nat} (hl : ∀ p ∈ ps, p < n) (p : Nat) : p ∈ btm (mkm n fun i => decide (i ∈ ps)) n ↔ p ∈ ps := by
  unfold btm
  rw [List.mem_filter, List.mem_range, decide_eq_true_eq]
  constructor
  · rintro ⟨h1, h2⟩
    rw [mkm_bit n _ p h1] at h2
    by_cases h : p ∈ ps
    · exact h
    · simp [h] at h2
  · intro h
    refine ⟨hl p h, ?_⟩
    rw [mkm_bit n _ p (hl p h)]
    simp [h]
theorem flp_same {r : List Bool} {ps qs : List Nat} (h : ∀ p, p ∈ ps ↔ p ∈ qs) : flp (inz ps) r = flp (inz qs) r := by
  unfold flp
  apply List.ext_getElem?
  intro i
  simp only [List.getElem?_mapIdx, mem_inz, h i]
theorem btm_cover {r : List Bool} {ps : List Nat} (nd : ps.Nodup) (hl : ∀ p ∈ ps, p < r.length) : ∃ m, m < 2 ^ r.length ∧ (btm m r.length).length = ps.length ∧ flp (inz (btm m r.length)) r = flp (inz ps) r := by
  refine ⟨mkm r.length fun i => decide (i ∈ ps), mkm_lt _ _, ?_, flp_same (btm_mk hl)⟩
  have h1 : (btm (mkm r.length fun i => decide (i ∈ ps)) r.length).Perm ps := (List.perm_ext_iff_of_nodup (btm_nodup _ _) nd).mpr fun p => btm_mk hl p
  exact h1.length_eq
end BM
namespace BM
open PySem L2 Evl
local macro_rules | `(tactic| walk_at "mem") => `(tactic| first | exact List.mem_cons_self | (refine List.mem_cons_of_mem _ ?_; walk_at "mem"))
local macro_rules | `(tactic| walk_at "swap") => `(tactic| first | exact Swap.here | (apply Swap.there; walk_at "swap"))
local macro_rules | `(tactic| walk_at "subl") => `(tactic| first | exact List.Sublist.refl _ | exact List.nil_sublist _ | (refine List.Sublist.cons_cons _ ?_; walk_at "subl") | (refine List.Sublist.cons _ ?_; walk_at "subl"))
local macro_rules | `(tactic| walk_at "sub") => `(tactic| first | exact Sub.refl _ | (refine ⟨?_, ?_⟩ <;> walk_at "subl"))
local macro_rules | `(tactic| walk_at "isl") => `(tactic| first | exact isL_own (by walk_at "mem") | exact isL_old (by assumption) | assumption)
local macro_rules | `(tactic| walk_at "ist") => `(tactic| first | exact isT_own (by walk_at "mem") | exact isT_old (by assumption) | assumption)
local macro_rules | `(tactic| walk_at "len") => `(tactic| first | omega | decide | (simp only [List.length_map, List.length_take, List.length_drop, List.length_append, List.length_cons, List.length_nil, List.length_reverse, dps_len, flp_len]; omega) | (simp [dps_len, flp_len]; omega) | simp)
local macro_rules | `(tactic| walk_at "b0") => `(tactic| first
  | with_reducible refine' ws_set ?_
  | with_reducible refine' ws_par ?_
  | with_reducible refine' ws_asg ?_
  | with_reducible refine' ws_drop ?_
  | with_reducible refine' ws_ret ?_
  | with_reducible refine' ws_if ?_
  | with_reducible refine' ws_next ?_
  | with_reducible refine' ws_brk ?_
  | with_reducible refine' ws_cont ?_
  | ((with_reducible refine' we_var ?hv ?_); case hv => rfl)
  | with_reducible refine' we_c ?_
  | with_reducible refine' we_op ?_
  | with_reducible refine' we_un ?_
  | with_reducible refine' we_if ?_
  | with_reducible refine' we_and ?_
  | with_reducible refine' we_or ?_
  | with_reducible refine' we_not ?_
  | with_reducible refine' wa_nil ?_
  | with_reducible refine' wa_cons ?_
  | (with_reducible refine' we_lst ?_)
  | (with_reducible refine' we_tup ?_)
  | with_reducible refine' we_cb ?_
  | with_reducible refine' we_call0 ?_
  | with_reducible refine' we_sl ?_
  | with_reducible refine' wo_none ?_
  | (with_reducible refine' wo_some ?_)
  | with_reducible refine' wt_test ?_
  | with_reducible refine' wt_B ?_
  | with_reducible refine' wt_and ?_
  | with_reducible refine' wt_or ?_
  | with_reducible refine' wt_not ?_
  | with_reducible refine' wt_yes ?_
  | with_reducible refine' we_chain ?_
  | with_reducible refine' we_chain3 ?_
  | with_reducible refine' we_revT ?_
  | with_reducible refine' we_revL ?_
  | with_reducible refine' we_bm ?_
  | with_reducible refine' we_bm0 ?_
  | with_reducible refine' ws_for ?_
  | with_reducible refine' we_lc ?_
  | with_reducible refine' wi_list ?_
  | with_reducible refine' wi_tup ?_
  | with_reducible refine' wi_T ?_
  | with_reducible refine' wi_rng1 ?_
  | with_reducible refine' wi_rng2 ?_
  | with_reducible refine' wi_rng3 ?_
  | with_reducible refine' wi_enum ?_
  | with_reducible refine' wi_enumT ?_
  | with_reducible refine' wi_zip ?_
  | with_reducible refine' wg_name ?_
  | with_reducible refine' wg_sub ?_
  | with_reducible refine' wgs_nil ?_
  | with_reducible refine' wgs_cons ?_
  | ((with_reducible refine' wg_tup ?ht ?hn ?_); (case ht => walk_at "ist"); (case hn => rfl))
  | with_reducible refine' w2_add ?_
  | with_reducible refine' w2_sub ?_
  | with_reducible refine' w2_lt ?_
  | with_reducible refine' w2_le ?_
  | with_reducible refine' w2_gt ?_
  | with_reducible refine' w2_ge ?_
  | with_reducible refine' w2_eqI ?_
  | with_reducible refine' w2_neI ?_
  | with_reducible refine' w2_eqT ?_
  | with_reducible refine' w2_neT ?_
  | with_reducible refine' w2_eqB ?_
  | with_reducible refine' w2_neB ?_
  | with_reducible refine' w2_isN ?_
  | with_reducible refine' w2_notN ?_
  | with_reducible refine' w2_isB ?_
  | with_reducible refine' w2_inT ?_
  | with_reducible refine' w1_neg ?_
  | with_reducible refine' wl_abs ?_
  | with_reducible refine' wl_max2 ?_
  | with_reducible refine' wl_min2 ?_
  | with_reducible refine' wl_intB ?_
  | ((with_reducible refine' w2_div ?h ?_); case h => first | omega | (constructor <;> omega))
  | ((with_reducible refine' w2_mod ?h ?_); case h => omega)
  | ((with_reducible refine' w2_catT ?h ?_); case h => walk_at "len")
  | ((with_reducible refine' wsl_T ?h ?_); case h => walk_at "len")
  | ((with_reducible refine' wl_lenT ?h ?_); case h => walk_at "len")
  | ((with_reducible refine' wl_len ?h ?_); case h => walk_at "isl")
  | ((with_reducible refine' wl_len ?h ?_); case h => walk_at "isl")
  | ((with_reducible refine' wm_append ?sw ?hl ?_); (case sw => walk_at "swap"); (case hl => walk_at "len")))
local macro_rules | `(tactic| walk_at "b1") => `(tactic| first | with_reducible refine' ws_seq ?_ | walk_at "b0")
local macro_rules | `(tactic| walk_at "bx") => `(tactic| first
  | refine ⟨_, rfl, ?_⟩
  | refine ⟨_, _, rfl, ?_⟩
  | refine ⟨ty_L (by walk_at "isl"), ?_⟩
  | refine ⟨ty_S, ?_⟩
  | refine spl_t (by rfl) ?_
  | refine spl_f (by rfl) ?_
  | exact rfl)
local macro_rules | `(tactic| walk_at "bm") => `(tactic| repeat (first | walk_at "b1" | walk_at "bx"))
local macro_rules | `(tactic| walk_at "bn") => `(tactic| repeat (first | walk_at "b0" | walk_at "bx"))
local macro_rules | `(tactic| walk_at "b0") => `(tactic| with_reducible refine' c_deepens ?_)
local macro_rules | `(tactic| walk_at "b0") => `(tactic| ((with_reducible refine' c_depths_of ?hl ?_); (case hl => walk_at "len")))
local macro_rules | `(tactic| walk_at "b0") => `(tactic| with_reducible refine' c_is_wholeI ?_)
local macro_rules | `(tactic| walk_at "b0") => `(tactic| with_reducible refine' c_flipped ?_)
local macro_rules | `(tactic| walk_at "b0") => `(tactic| ((with_reducible refine' c_is_right_row ?hl ?_); (case hl => walk_at "len")))
local macro_rules | `(tactic| walk_at "b0") => `(tactic| ((with_reducible refine' c_asked_row ?hl ?_); (case hl => walk_at "len")))
local macro_rules | `(tactic| walk_at "b0") => `(tactic| ((with_reducible refine' c_depths ?hl ?_); (case hl => walk_at "len")))
local macro_rules | `(tactic| walk_at "b0") => `(tactic| ((with_reducible refine' c_is_right ?hl ?_); (case hl => walk_at "len")))
local macro_rules | `(tactic| walk_at "b0") => `(tactic| ((with_reducible refine' c__law_depths ?hl ?_); (case hl => walk_at "len")))
local macro_rules | `(tactic| walk_at "b0") => `(tactic| ((with_reducible refine' c__law_good ?hl ?_); (case hl => walk_at "len")))
local macro_rules | `(tactic| walk_at "b0") => `(tactic| ((with_reducible refine' wl_listOf ?hx ?_); (case hx => walk_at "isl")))
local macro_rules | `(tactic| walk_at "b0") => `(tactic| with_reducible refine' w2_notB ?_)
local macro_rules | `(tactic| walk_at "own") => `(tactic| exact own_l (by walk_at "mem"))
local macro_rules | `(tactic| walk_at "b0") => `(tactic| with_reducible refine' we_fld ?_)
local macro_rules | `(tactic| walk_at "b0") => `(tactic| refine ⟨_, _, _, _, _, rfl, own_l (by walk_at "mem"), Grw.cl (by assumption), Grw.nr (by assumption), by rfl, ?_⟩)
local macro_rules | `(tactic| walk_at "b0") => `(tactic| refine ⟨_, _, _, _, _, rfl, fun H' o => o.ex _ _ (by assumption), Grw.cl (by assumption), Grw.nr (by assumption), by rfl, ?_⟩)
local macro_rules | `(tactic| walk_at "b0") => `(tactic| with_reducible refine' we_meth ?_)
local macro_rules | `(tactic| walk_at "b0") => `(tactic| refine ⟨_, _, _, rfl, own_l (by walk_at "mem"), by rfl, ?_⟩)
local macro_rules | `(tactic| walk_at "b0") => `(tactic| refine ⟨_, _, _, rfl, fun H' o => o.ex _ _ (by assumption), by rfl, ?_⟩)
local macro_rules | `(tactic| walk_at "gown") => `(tactic| first | exact own_l (by walk_at "mem") | exact fun H' o => o.ex _ _ (by assumption))
local macro_rules | `(tactic| walk_at "b0") => `(tactic| with_reducible refine' wm_countT ?_)
local macro_rules | `(tactic| walk_at "b0") => `(tactic| with_reducible refine' we_methU ?_)
theorem c__law_right03 {K : PySem.W.Frag} {C : CA} {H0 : Hp} {s : Ld} {Q : V → Ld → Prop} {E : XK} {r : List Bool} {b : Addr} {rs : List (List Bool)} (hX : Ex03 K C) (hl : r.length ≤ 40) (hb : IsL K H0 s b (rs.map fun r => .str (T r))) (hrs : ∀ u ∈ rs, u.length ≤ 1000) (q : Q (.bl true) s) : WC H0 (sp__law_right03 K C) E [.str (T r), .ref b] s Q := wc_V (fun H o => ⟨r, b, rs, hX, rfl, hl, hb H o, hrs, rfl⟩) q
theorem and_bit (m a : Nat) : Builtin.bitAnd ((m : Int) / 2 ^ ((a : Int).toNat)) 1 = ((m / 2 ^ a % 2 : Nat) : Int) := by
  rw [Int.toNat_natCast]
  have e : ((m : Int) / 2 ^ a) = ((m / 2 ^ a : Nat) : Int) := by rw [Int.natCast_ediv, Int.natCast_pow]; rfl
  have h := Bits.bitAnd_mask (x := ((m / 2 ^ a : Nat) : Int)) 1 (Int.natCast_nonneg _)
  rw [e]
  have h1 : ((2 : Int) ^ 1 - 1) = 1 := by decide
  have h2 : ((2 : Int) ^ 1) = 2 := by decide
  rw [h1, h2] at h
  rw [h]
  omega
/-- the best number behind i marks -/
def Best (r : List Bool) (ps : List Nat) (i : Nat) (best : Nat) : Prop := ps.length ≤ best ∧ ∀ m, m < i → (btm m r.length).length = ps.length → flp (inz (btm m r.length)) r = flp (inz ps) r → best ≤ ps.length
theorem ln__law_least03 {K : PySem.W.Frag} {C : CA} {vs : List V} {H : Hp} {Q : VK} {E : XK} (h : sp__law_least03 K C vs H Q E) : vs.length = 1 := by
  obtain ⟨_, ⟨r, c, ps, rfl, _⟩, _⟩ := h
  rfl
theorem pu__law_least03 {K : PySem.W.Frag} {C : CA} {vs : List V} {H : Hp} {Q : VK} {E : XK} (h : sp__law_least03 K C vs H Q E) : rd__law_least03 K C { nx := fun _ H' => Q .non H', rt := Q } (start N__law_least03 vs) H := by
  obtain ⟨_, ⟨r, c, ps, rfl, hl, hc, nd, hps, hR, hn, hmin, rfl⟩, k⟩ := h
  refine body_V ?_ k
  unfold rd__law_least03
  have hpl : ps.length ≤ r.length := by
    have := nodup_len nd (s := List.range r.length) fun p hp => List.mem_range.mpr (hps p hp)
    rw [List.length_range] at this
    exact this
  have h0 := hmin 0 (Nat.zero_le _)
  have e00 : hgt (r.take 0) = 0 := rfl
  have hN := hmin r.length (Nat.le_refl _)
  rw [List.take_length] at hN
  obtain ⟨many, hmany⟩ : ∃ many : Nat, (many : Int) = (-hgt (r.take c) + 1) / 2 := ⟨((-hgt (r.take c) + 1) / 2).toNat, by omega⟩
  obtain ⟨more, hmore⟩ : ∃ more : Nat, (more : Int) = (hgt r - hgt (r.take c) + 1) / 2 := ⟨((hgt r - hgt (r.take c) + 1) / 2).toNat, by omega⟩
  have hsum : ps.length = many + more := by
    unfold tnNum pos at hn
    rw [Int.toNat_natCast] at hn
    omega
  refine ws_seq ?_
  walk_at "bn"
  refine ws_cut (fun σ s => ∃ x2 x3 x4, σ = [some (.str (T r)), some (.int (ps.length : Int)), x2, x3, x4] ∧ s = ⟨[], []⟩) ?_ ?_
  · walk_at "bm"
    refine w2_shl ⟨by omega, by omega, by decide⟩ ?_
    have epow : (1 : Int) * 2 ^ ((r.length : Int)).toNat = ((2 ^ r.length : Nat) : Int) := by
      rw [Int.one_mul, Int.toNat_natCast, Int.natCast_pow]
      rfl
    have hpow : 2 ^ r.length ≤ 256 := Nat.pow_le_pow_right (n := 2) (by decide) hl
    rw [epow]
    generalize hN2 : 2 ^ r.length = NN at hpow
    walk_at "bm"
    refine ⟨by omega, ?_⟩
    refine lp_rng (fun i σ s => ∃ (best : Nat) (x2 x3 x4 : Option V), σ = [some (.str (T r)), some (.int (best : Int)), x2, x3, x4] ∧ s = ⟨[], []⟩ ∧ Best r ps i best) ⟨r.length, none, none, none, rfl, rfl, hpl, fun m hm => absurd hm (Nat.not_lt_zero _)⟩ ?_ ?_
    · rintro i σ s hi ⟨best, x2, x3, x4, rfl, rfl, hb1, hb2⟩
      rw [show ((0 : Int) + (i : Int)) = (i : Int) by omega]
      refine wg_name ?_
      refine ws_cut (fun σ s => ∃ (a : Addr) (x4 : Option V), σ = [some (.str (T r)), some (.int (best : Int)), some (.int (i : Int)), some (.ref a), x4] ∧ s = ⟨[(a, .lst (natsV (btm i r.length)))], []⟩) ?_ ?_
      · walk_at "bm"
        refine ⟨by omega, ?_⟩
        refine cp_rng (fun a => natsV (btm i a)) (by omega) rfl (fun a ha => by unfold natsV; rw [List.length_map, List.length_map]; exact btm_len i a) ?_ ?_
        · intro D a ha
          rw [show ((0 : Int) + (a : Int)) = (a : Int) by omega]
          walk_at "bm"
          refine ⟨rfl, ?_⟩
          walk_at "bm"
          refine w2_shr (by omega) ?_
          walk_at "bm"
          refine w2_and ?_
          rw [and_bit]
          walk_at "bm"
          refine ⟨fun h => ?_, fun h => ?_⟩
          · have h' : i / 2 ^ a % 2 = 1 := by have := of_decide_eq_true h; omega
            walk_at "bm"
            refine ⟨Sub.refl _, ?_⟩
            rw [btm_succ, if_pos h', natsV_app]
            rfl
          · have h' : ¬ i / 2 ^ a % 2 = 1 := by have := of_decide_eq_false h; omega
            refine ⟨Sub.refl _, ?_⟩
            rw [btm_succ, if_neg h', List.append_nil]
        · intro D hD
          rw [Int.toNat_natCast]
          exact ⟨_, Sub.refl _, D, _, rfl, rfl⟩
      rintro σ s ⟨a, x4, rfl, rfl⟩
      have hbl : (natsV (btm i r.length)).length = (btm i r.length).length := by unfold natsV; rw [List.length_map, List.length_map]
      have keep : (best ≤ (btm i r.length).length ∨ isR (flp (inz (btm i r.length)) r) = false) → Best r ps (i + 1) best := fun hor => ⟨hb1, fun m hm h1 h2 => by
        rcases Nat.lt_succ_iff_lt_or_eq.mp hm with h | h
        · exact hb2 m h h1 h2
        · subst h
          rcases hor with h3 | h3
          · omega
          · rw [h2, hR] at h3
            cases h3⟩
      walk_at "bm"
      rw [hbl]
      refine ⟨fun h => ?_, fun h => ?_⟩
      · have h' : (btm i r.length).length < best := by have := of_decide_eq_true h; omega
        walk_at "bm"
        refine c__law_over (by omega) (by walk_at "isl") (inz_in fun p hp => btm_lt hp) ?_
        walk_at "bm"
        refine ⟨fun h3 => ?_, fun h3 => ?_⟩
        · walk_at "bm"
          rw [hbl]
          exact ⟨_, by walk_at "sub", (btm i r.length).length, _, _, _, rfl, rfl, by rw [hsum]; exact turn_least hc (btm_nodup _ _) (fun p hp => btm_lt hp) h3 hmany hmore, fun m hm h1 h2 => by
            rcases Nat.lt_succ_iff_lt_or_eq.mp hm with h4 | h4
            · exact Nat.le_trans (Nat.le_of_lt h') (hb2 m h4 h1 h2)
            · subst h4
              omega⟩
        · walk_at "bm"
          exact ⟨_, by walk_at "sub", best, _, _, _, rfl, rfl, keep (.inr h3)⟩
      · have h' : best ≤ (btm i r.length).length := by have := of_decide_eq_false h; omega
        walk_at "bm"
        exact ⟨_, by walk_at "sub", best, _, _, _, rfl, rfl, keep (.inl h')⟩
    · rintro σ s ⟨best, x2, x3, x4, rfl, rfl, hb1, hb2⟩
      obtain ⟨m, hm, h1, h2⟩ := btm_cover nd hps
      have := hb2 m (by rw [Int.toNat_natCast, ← hN2]; exact hm) h1 h2
      have e : best = ps.length := by omega
      subst e
      exact ⟨_, Sub.refl _, _, _, _, rfl, rfl⟩
  rintro σ s ⟨x2, x3, x4, rfl, rfl⟩
  walk_at "bm"
theorem c__law_least03 {K : PySem.W.Frag} {C : CA} {H0 : Hp} {s : Ld} {Q : V → Ld → Prop} {E : XK} {r : List Bool} {c : Nat} {ps : List Nat} (hl : r.length ≤ 8) (hc : c ≤ r.length) (nd : ps.Nodup) (hps : ∀ p ∈ ps, p < r.length) (hR : isR (flp (inz ps) r) = true) (hn : (ps.length : Int) = tnNum r c) (hmin : ∀ j, j ≤ r.length → hgt (r.take c) ≤ hgt (r.take j)) (q : Q (.int (ps.length : Int)) s) : WC H0 (sp__law_least03 K C) E [.str (T r)] s Q := wc_V (fun H o => ⟨r, c, ps, rfl, hl, hc, nd, hps, hR, hn, hmin, rfl⟩) q
/-- the least depth of a written row -/
theorem least_is {r : List Bool} {c : Nat} {m : Int} (hc : c ≤ r.length) (hmin : ∀ j, j ≤ r.length → hgt (r.take c) ≤ hgt (r.take j)) (h : ((dps r).all fun z => decide (m ≤ z)) = true) (h2 : m ∈ dps r) : hgt (r.take c) = m := by
  rw [List.all_eq_true] at h
  have h1 := of_decide_eq_true (h _ (mem_dps.mpr ⟨c, hc, rfl⟩))
  obtain ⟨j, hj, e⟩ := mem_dps.mp h2
  have := hmin j hj
  omega
theorem tn_is {r : List Bool} {c : Nat} {m : Int} (hc : c ≤ r.length) (hmin : ∀ j, j ≤ r.length → hgt (r.take c) ≤ hgt (r.take j)) (h : ((dps r).all fun z => decide (m ≤ z)) = true) (h2 : m ∈ dps r) : tnNum r c = (pos (-m) + 1) / 2 + (pos (hgt r - m) + 1) / 2 := by
  unfold tnNum
  rw [Int.toNat_natCast, least_is hc hmin h h2]
theorem c_turns_n {K : PySem.W.Frag} {C : CA} {H0 : Hp} {s : Ld} {Q : V → Ld → Prop} {E : XK} {r : List Bool} (m : Int) (n : Nat) (hX : Ex03 K C) (hl : r.length ≤ 40) (h0 : r.length % 2 = 0) (h1 : ((dps r).all fun z => decide (m ≤ z)) = true) (h2 : m ∈ dps r) (hn : (pos (-m) + 1) / 2 + (pos (hgt r - m) + 1) / 2 = (n : Int))
    (q : ∀ x d a (c : Nat) (ps : List Nat), ps.length = n → (natsV ps).length = n → Q (.ref x) ⟨(a, .lst (natsV ps)) :: (x, tIns C d a (c : Nat)) :: s.L, s.T⟩) : WC H0 (sp_turns K C) E [.str (T r)] s Q :=
  c_turns_ev hX hl h0 fun x d a c ps g1 g2 g3 g4 g5 g6 => by
    rw [tn_is g1 g2 h1 h2, hn] at g6
    have e : ps.length = n := by omega
    exact q x d a c ps e (by unfold natsV; rw [List.length_map, List.length_map]; exact e)
theorem ln_law03 {K : PySem.W.Frag} {C : CA} {vs : List V} {H : Hp} {Q : VK} {E : XK} (h : sp_law03 K C vs H Q E) : vs.length = 1 := by
  obtain ⟨_, ⟨a, ns, _, rfl, _⟩, _⟩ := h
  rfl
theorem pu_law03 {K : PySem.W.Frag} {C : CA} {vs : List V} {H : Hp} {Q : VK} {E : XK} (h : sp_law03 K C vs H Q E) : rd_law03 K C { nx := fun _ H' => Q .non H', rt := Q } (start N_law03 vs) H := by
  obtain ⟨_, ⟨a, ns, hX, rfl, hs, hns, rfl⟩, k⟩ := h
  refine body_V ?_ k
  unfold rd_law03
  refine ws_cut (fun σ s => ∃ w : Int, σ = [some (.ref a), some (.int w), none, none, none] ∧ s = ⟨[], []⟩) ?_ ?_
  · walk_at "bm"
    refine wsl_L (isL_old hs) fun p hp => ?_
    rw [cut_hi (by omega), ← List.map_take]
    walk_at "bm"
    refine wl_sum (by walk_at "isl") ?_
    walk_at "bm"
    exact ⟨_, by walk_at "sub", _, rfl, rfl⟩
  rintro σ s ⟨w, rfl, rfl⟩
  refine ws_cut (fun σ s => ∃ x2 x3, σ = [some (.ref a), some (.int w), x2, x3, none] ∧ s = ⟨[], []⟩) ?_ ?_
  · walk_at "bm"
    refine ⟨by decide, fun q0 hq0 => ?_⟩
    refine ⟨_, rfl, ⟨_, by walk_at "isl"⟩, ?_⟩
    refine lp_list (xs := [0, 1, 2, 3].map V.int) (n := 4) (fun i σ s => ∃ x2 x3, σ = [some (.ref a), some (.int w), x2, x3, none] ∧ s = ⟨[(q0, .lst ([0, 1, 2, 3].map V.int))], []⟩) rfl ⟨none, none, rfl, rfl⟩ (fun i σ s hi ⟨x1, x2, _, e⟩ => by rw [e]; walk_at "isl") ?_ (fun σ s ⟨x1, x2, e1, e2⟩ => ⟨⟨[], []⟩, by rw [e2]; walk_at "sub", x1, x2, e1, rfl⟩)
    rintro i y σ s hi hy ⟨x1, x2, rfl, rfl⟩
    obtain ⟨by0, hby, rfl⟩ := getI hy
    have hb3 : 0 ≤ by0 ∧ by0 ≤ 3 := by
      have : by0 ∈ ([0, 1, 2, 3] : List Int) := List.mem_of_getElem? hby
      simp at this
      omega
    refine wg_name ?_
    refine ws_seq ?_
    walk_at "bn"
    refine c__law_row (isL_old hs) hns (by omega) fun r hr _ => ?_
    walk_at "bm"
    refine c__law_row (isL_old hs) hns (by omega) fun r2 hr2 _ => ?_
    walk_at "bm"
    refine ⟨by omega, ?_⟩
    walk_at "bm"
    rw [cut_lo (by omega)]
    walk_at "bm"
    refine ⟨by simp, fun q1 hq1 => ?_⟩
    walk_at "bm"
    refine c__law_right03 (rs := [r2, r.reverse, r.drop 2, []]) hX (by omega) (by walk_at "isl") (fun u hu => ?_) ?_
    · simp only [List.mem_cons, List.not_mem_nil, or_false] at hu
      rcases hu with rfl | rfl | rfl | rfl
      · omega
      · rw [List.length_reverse]; omega
      · rw [List.length_drop]; omega
      · simp
    walk_at "bm"
    exact ⟨_, by walk_at "sub", _, _, rfl, rfl⟩
  rintro σ s ⟨x1, x2, rfl, rfl⟩
  refine ws_seq ?_
  walk_at "bn"
  refine c__law_row (isL_old hs) hns (by omega) fun r0 hr0 _ => ?_
  refine ws_seq ?_
  walk_at "bn"
  refine w2_mul (.inr (by decide)) ?_
  walk_at "bn"
  rw [cut_hi (by omega)]
  obtain ⟨r, hr⟩ : ∃ r, r = List.take ((r0.length : Int) / 2 * 2).toNat r0 := ⟨_, rfl⟩
  have hrl : r.length ≤ 8 ∧ r.length % 2 = 0 := by
    rw [hr, List.length_take]
    omega
  rw [← hr]
  walk_at "bm"
  refine c_turns_ev hX (by omega) hrl.2 fun x d b c ps g1 g2 g3 g4 g5 g6 => ?_
  walk_at "bm"
  refine wl_isiC (fun H' w => hX.t.c.ty ((own_l (by walk_at "mem")) H' w)) (kit_self _ _) ?_
  walk_at "bm"
  refine ⟨_, _, _, _, _, rfl, own_l (by walk_at "mem"), hX.t.c.cl, hX.t.np, rfl, ?_⟩
  walk_at "bm"
  refine c__law_least03 hrl.1 g1 g3 g4 g5 g6 g2 ?_
  have hbl : (natsV ps).length = ps.length := by unfold natsV; rw [List.length_map, List.length_map]
  rw [hbl]
  walk_at "bm"
  refine spl_f (by simp) ?_
  walk_at "bm"
  refine w2_repT (by decide) ?_
  walk_at "bm"
  refine w2_repT (by decide) ?_
  walk_at "bm"
  refine c_turns_n (-20) 20 hX (by decide) (by decide) (by decide +kernel) (by decide +kernel) (by decide +kernel) fun x3 d3 b3 c3 ps3 e3 e3' => ?_
  walk_at "bm"
  refine ⟨_, _, _, _, _, rfl, own_l (by walk_at "mem"), hX.t.c.cl, hX.t.np, rfl, ?_⟩
  walk_at "bm"
  rw [e3']
  refine spl_f (by decide) ?_
  walk_at "bm"
  refine w2_repT (by decide) ?_
  walk_at "bm"
  refine c_turns_n 0 20 hX (by decide) (by decide) (by decide +kernel) (by decide +kernel) (by decide +kernel) fun x4 d4 b4 c4 ps4 e4 e4' => ?_
  walk_at "bm"
  refine ⟨_, _, _, _, _, rfl, own_l (by walk_at "mem"), hX.t.c.cl, hX.t.np, rfl, ?_⟩
  walk_at "bm"
  rw [e4']
  refine spl_f (by decide) ?_
  walk_at "bm"
  refine c_turns_n (r := []) 0 0 hX (by decide) (by decide) (by decide +kernel) (by decide +kernel) (by decide +kernel) fun x5 d5 b5 c5 ps5 e5 e5' => ?_
  have e5 : ps5 = [] := List.length_eq_zero_iff.mp e5
  subst e5
  walk_at "bm"
  refine ⟨_, _, _, _, _, rfl, own_l (by walk_at "mem"), hX.t.c.cl, hX.t.np, rfl, ?_⟩
  walk_at "bm"
  refine ⟨by simp, fun p5 hp5 => ?_⟩
  refine w2_neLI (ns := []) (ms := []) (by walk_at "isl") (by walk_at "isl") ?_
  walk_at "bm"
  refine c_turns_odd (r := [false, true, true]) hX (by decide) (by decide) fun x6 d6 => ?_
  walk_at "bm"
  refine wl_isiC (fun H' w => hX.o.ty ((w.own _ (by walk_at "mem")).2)) (kit_self _ _) ?_
  walk_at "bm"
  refine c_turns_n (r := [false, true, true, true, false, true]) (-1) 3 hX (by decide) (by decide) (by decide +kernel) (by decide +kernel) (by decide +kernel) fun x7 d7 b7 c7 ps7 e7 e7' => ?_
  walk_at "bm"
  refine ⟨_, _, _, _, _, rfl, own_l (by walk_at "mem"), hX.t.c.cl, hX.t.np, rfl, ?_⟩
  walk_at "bm"
  rw [e7']
  rfl
end BM
namespace BM
open PySem L2 Evl PyProof.Rows
def top (i : Nat) : Stmt := PySem.Challenge.pw_bracketmend_k03_whole_turns.main.body.getD i (.Pass ⟨0, 0, 0, 0⟩)
abbrev s_is_whole : Stmt := top 5
abbrev s_asked_row : Stmt := top 6
theorem sc_asked_row : FnScope N_asked_row ["row"] (defScope s_asked_row) := ⟨rfl, rfl, rfl, by decide +kernel, rfl, by decide +kernel, by decide +kernel⟩
abbrev s_deepens : Stmt := top 7
theorem sc_deepens : FnScope N_deepens ["bracket"] (defScope s_deepens) := ⟨rfl, rfl, rfl, by decide +kernel, rfl, by decide +kernel, by decide +kernel⟩
abbrev s_depths_of : Stmt := top 8
theorem sc_depths_of : FnScope N_depths_of ["row"] (defScope s_depths_of) := ⟨rfl, rfl, rfl, by decide +kernel, rfl, by decide +kernel, by decide +kernel⟩
abbrev s_is_right_row : Stmt := top 9
theorem sc_is_right_row : FnScope N_is_right_row ["row"] (defScope s_is_right_row) := ⟨rfl, rfl, rfl, by decide +kernel, rfl, by decide +kernel, by decide +kernel⟩
abbrev s_flipped : Stmt := top 10
theorem sc_flipped : FnScope N_flipped ["bracket"] (defScope s_flipped) := ⟨rfl, rfl, rfl, by decide +kernel, rfl, by decide +kernel, by decide +kernel⟩
abbrev s_swapped : Stmt := top 11
abbrev s_turned : Stmt := top 12
theorem sc_turned : FnScope N_turned ["row", "places"] (defScope s_turned) := ⟨rfl, rfl, rfl, by decide +kernel, rfl, by decide +kernel, by decide +kernel⟩
abbrev s_rounded : Stmt := top 13
abbrev s_is_stretch : Stmt := top 14
abbrev s_o_shows : Stmt := inClass (top 18) 0
theorem sc_o_shows : FnScope N_o_shows ["self", "row"] (defScope s_o_shows) := ⟨rfl, rfl, rfl, by decide +kernel, rfl, by decide +kernel, by decide +kernel⟩
abbrev s_t_init : Stmt := inClass (top 20) 0
theorem sc_t_init : FnScope N_t_init ["self", "places", "cut"] (defScope s_t_init) := ⟨rfl, rfl, rfl, by decide +kernel, rfl, by decide +kernel, by decide +kernel⟩
abbrev s_t_shows : Stmt := inClass (top 20) 1
theorem sc_t_shows : FnScope N_t_shows ["self", "row"] (defScope s_t_shows) := ⟨rfl, rfl, rfl, by decide +kernel, rfl, by decide +kernel, by decide +kernel⟩
abbrev s_turns : Stmt := top 24
theorem sc_turns : FnScope N_turns ["row"] (defScope s_turns) := ⟨rfl, rfl, rfl, by decide +kernel, rfl, by decide +kernel, by decide +kernel⟩
abbrev s__law_number : Stmt := top 26
theorem sc__law_number : FnScope N__law_number ["_law_cell", "_law_at", "_law_whole"] (defScope s__law_number) := ⟨rfl, rfl, rfl, by decide +kernel, rfl, by decide +kernel, by decide +kernel⟩
abbrev s__law_row : Stmt := top 27
theorem sc__law_row : FnScope N__law_row ["_law_script", "_law_by", "_law_most", "_law_even"] (defScope s__law_row) := ⟨rfl, rfl, rfl, by decide +kernel, rfl, by decide +kernel, by decide +kernel⟩
abbrev s__law_depths : Stmt := top 28
theorem sc__law_depths : FnScope N__law_depths ["_law_row_here"] (defScope s__law_depths) := ⟨rfl, rfl, rfl, by decide +kernel, rfl, by decide +kernel, by decide +kernel⟩
abbrev s__law_good : Stmt := top 29
theorem sc__law_good : FnScope N__law_good ["_law_row_here"] (defScope s__law_good) := ⟨rfl, rfl, rfl, by decide +kernel, rfl, by decide +kernel, by decide +kernel⟩
abbrev s__law_over : Stmt := top 32
theorem sc__law_over : FnScope N__law_over ["_law_row_here", "_law_places"] (defScope s__law_over) := ⟨rfl, rfl, rfl, by decide +kernel, rfl, by decide +kernel, by decide +kernel⟩
abbrev s__law_turned : Stmt := top 33
theorem sc__law_turned : FnScope N__law_turned ["_law_row_here", "_law_places", "_law_cut"] (defScope s__law_turned) := ⟨rfl, rfl, rfl, by decide +kernel, rfl, by decide +kernel, by decide +kernel⟩
abbrev s__law_due03 : Stmt := top 37
theorem sc__law_due03 : FnScope N__law_due03 ["_law_row_here", "_law_answer"] (defScope s__law_due03) := ⟨rfl, rfl, rfl, by decide +kernel, rfl, by decide +kernel, by decide +kernel⟩
abbrev s__law_right03 : Stmt := top 38
theorem sc__law_right03 : FnScope N__law_right03 ["_law_row_here", "_law_others"] (defScope s__law_right03) := ⟨rfl, rfl, rfl, by decide +kernel, rfl, by decide +kernel, by decide +kernel⟩
abbrev s__law_least03 : Stmt := top 39
theorem sc__law_least03 : FnScope N__law_least03 ["_law_row_here"] (defScope s__law_least03) := ⟨rfl, rfl, rfl, by decide +kernel, rfl, by decide +kernel, by decide +kernel⟩
abbrev s_law03 : Stmt := top 40
theorem sc_law03 : FnScope N_law03 ["_law_script"] (defScope s_law03) := ⟨rfl, rfl, rfl, by decide +kernel, rfl, by decide +kernel, by decide +kernel⟩
structure Ads extends CA where
  f_is_whole : Addr
  d_is_whole : FuncData
  f_asked_row : Addr
  d_asked_row : FuncData
  f_deepens : Addr
  d_deepens : FuncData
  f_depths_of : Addr
  d_depths_of : FuncData
  f_is_right_row : Addr
  d_is_right_row : FuncData
  f_flipped : Addr
  d_flipped : FuncData
  f_swapped : Addr
  d_swapped : FuncData
  f_turned : Addr
  d_turned : FuncData
  f_rounded : Addr
  d_rounded : FuncData
  f_is_stretch : Addr
  d_is_stretch : FuncData
  f_o_shows : Addr
  d_o_shows : FuncData
  f_t_init : Addr
  d_t_init : FuncData
  f_t_shows : Addr
  d_t_shows : FuncData
  f_turns : Addr
  d_turns : FuncData
  f__law_number : Addr
  d__law_number : FuncData
  f__law_row : Addr
  d__law_row : FuncData
  f__law_depths : Addr
  d__law_depths : FuncData
  f__law_good : Addr
  d__law_good : FuncData
  f__law_over : Addr
  d__law_over : FuncData
  f__law_turned : Addr
  d__law_turned : FuncData
  f__law_due03 : Addr
  d__law_due03 : FuncData
  f__law_right03 : Addr
  d__law_right03 : FuncData
  f__law_least03 : Addr
  d__law_least03 : FuncData
  f_law03 : Addr
  d_law03 : FuncData
structure Txt (K : PySem.W.Frag) (mg : Str → Option Value) (A : Ads) : Prop where
  F_is_whole : Fun K "is_whole" "is_whole" s_is_whole A.f_is_whole A.d_is_whole
  g_is_whole : mg "is_whole" = some (.ref A.f_is_whole)
  b_is_whole : Binds K A.d_is_whole ["thing"] []
  F_asked_row : Fun K "asked_row" "asked_row" s_asked_row A.f_asked_row A.d_asked_row
  g_asked_row : mg "asked_row" = some (.ref A.f_asked_row)
  b_asked_row : Binds K A.d_asked_row ["row"] []
  F_deepens : Fun K "deepens" "deepens" s_deepens A.f_deepens A.d_deepens
  g_deepens : mg "deepens" = some (.ref A.f_deepens)
  b_deepens : Binds K A.d_deepens ["bracket"] []
  F_depths_of : Fun K "depths_of" "depths_of" s_depths_of A.f_depths_of A.d_depths_of
  g_depths_of : mg "depths_of" = some (.ref A.f_depths_of)
  b_depths_of : Binds K A.d_depths_of ["row"] []
  F_is_right_row : Fun K "is_right_row" "is_right_row" s_is_right_row A.f_is_right_row A.d_is_right_row
  g_is_right_row : mg "is_right_row" = some (.ref A.f_is_right_row)
  b_is_right_row : Binds K A.d_is_right_row ["row"] []
  F_flipped : Fun K "flipped" "flipped" s_flipped A.f_flipped A.d_flipped
  g_flipped : mg "flipped" = some (.ref A.f_flipped)
  b_flipped : Binds K A.d_flipped ["bracket"] []
  F_swapped : Fun K "swapped" "swapped" s_swapped A.f_swapped A.d_swapped
  g_swapped : mg "swapped" = some (.ref A.f_swapped)
  b_swapped : Binds K A.d_swapped ["row", "place"] []
  F_turned : Fun K "turned" "turned" s_turned A.f_turned A.d_turned
  g_turned : mg "turned" = some (.ref A.f_turned)
  b_turned : Binds K A.d_turned ["row", "places"] []
  F_rounded : Fun K "rounded" "rounded" s_rounded A.f_rounded A.d_rounded
  g_rounded : mg "rounded" = some (.ref A.f_rounded)
  b_rounded : Binds K A.d_rounded ["row", "first", "behind"] []
  F_is_stretch : Fun K "is_stretch" "is_stretch" s_is_stretch A.f_is_stretch A.d_is_stretch
  g_is_stretch : mg "is_stretch" = some (.ref A.f_is_stretch)
  b_is_stretch : Binds K A.d_is_stretch ["row", "thing"] []
  F_o_shows : Fun K "shows" "Odd.shows" s_o_shows A.f_o_shows A.d_o_shows
  m_o_shows : Meth K A.c_Odd "shows" A.f_o_shows
  b_o_shows : Binds K A.d_o_shows ["self", "row"] []
  F_t_init : Fun K "__init__" "Turned.__init__" s_t_init A.f_t_init A.d_t_init
  m_t_init : Meth K A.c_Turned "__init__" A.f_t_init
  b_t_init : Binds K A.d_t_init ["self", "places", "cut"] []
  F_t_shows : Fun K "shows" "Turned.shows" s_t_shows A.f_t_shows A.d_t_shows
  m_t_shows : Meth K A.c_Turned "shows" A.f_t_shows
  b_t_shows : Binds K A.d_t_shows ["self", "row"] []
  F_turns : Fun K "turns" "turns" s_turns A.f_turns A.d_turns
  g_turns : mg "turns" = some (.ref A.f_turns)
  b_turns : Binds K A.d_turns ["row"] []
  F__law_number : Fun K "_law_number" "_law_number" s__law_number A.f__law_number A.d__law_number
  g__law_number : mg "_law_number" = some (.ref A.f__law_number)
  b__law_number : Binds K A.d__law_number ["_law_cell", "_law_at", "_law_whole"] []
  F__law_row : Fun K "_law_row" "_law_row" s__law_row A.f__law_row A.d__law_row
  g__law_row : mg "_law_row" = some (.ref A.f__law_row)
  b__law_row : Binds K A.d__law_row ["_law_script", "_law_by", "_law_most", "_law_even"] []
  F__law_depths : Fun K "_law_depths" "_law_depths" s__law_depths A.f__law_depths A.d__law_depths
  g__law_depths : mg "_law_depths" = some (.ref A.f__law_depths)
  b__law_depths : Binds K A.d__law_depths ["_law_row_here"] []
  F__law_good : Fun K "_law_good" "_law_good" s__law_good A.f__law_good A.d__law_good
  g__law_good : mg "_law_good" = some (.ref A.f__law_good)
  b__law_good : Binds K A.d__law_good ["_law_row_here"] []
  F__law_over : Fun K "_law_over" "_law_over" s__law_over A.f__law_over A.d__law_over
  g__law_over : mg "_law_over" = some (.ref A.f__law_over)
  b__law_over : Binds K A.d__law_over ["_law_row_here", "_law_places"] []
  F__law_turned : Fun K "_law_turned" "_law_turned" s__law_turned A.f__law_turned A.d__law_turned
  g__law_turned : mg "_law_turned" = some (.ref A.f__law_turned)
  b__law_turned : Binds K A.d__law_turned ["_law_row_here", "_law_places", "_law_cut"] []
  F__law_due03 : Fun K "_law_due" "_law_due" s__law_due03 A.f__law_due03 A.d__law_due03
  g__law_due03 : mg "_law_due" = some (.ref A.f__law_due03)
  b__law_due03 : Binds K A.d__law_due03 ["_law_row_here", "_law_answer"] []
  F__law_right03 : Fun K "_law_right" "_law_right" s__law_right03 A.f__law_right03 A.d__law_right03
  g__law_right03 : mg "_law_right" = some (.ref A.f__law_right03)
  b__law_right03 : Binds K A.d__law_right03 ["_law_row_here", "_law_others"] []
  F__law_least03 : Fun K "_law_least" "_law_least" s__law_least03 A.f__law_least03 A.d__law_least03
  g__law_least03 : mg "_law_least" = some (.ref A.f__law_least03)
  b__law_least03 : Binds K A.d__law_least03 ["_law_row_here"] []
  F_law03 : Fun K "law" "law" s_law03 A.f_law03 A.d_law03
  g_law03 : mg "law" = some (.ref A.f_law03)
  b_law03 : Binds K A.d_law03 ["_law_script"] []
  k_Odd : Cls K A.c_Odd
  k_Turned : Cls K A.c_Turned
  mk_Turned : Mk K A.c_Turned A.f_t_init
  mk_Odd : Mk0 K A.c_Odd
  n_abs : mg "abs" = none
  n_all : mg "all" = none
  n_any : mg "any" = none
  n_bool : mg "bool" = none
  n_enumerate : mg "enumerate" = none
  n_int : mg "int" = none
  n_isinstance : mg "isinstance" = none
  n_len : mg "len" = none
  n_list : mg "list" = none
  n_max : mg "max" = none
  n_min : mg "min" = none
  n_range : mg "range" = none
  n_set : mg "set" = none
  n_str : mg "str" = none
  n_sum : mg "sum" = none
  n_tuple : mg "tuple" = none
  g_Answer : mg "Answer" = some (.ref A.c_Answer)
  g_LONGEST : ∃ t, mg "LONGEST" = some (.int 40 t)
  g_Odd : mg "Odd" = some (.ref A.c_Odd)
  g_Rounded : mg "Rounded" = some (.ref A.c_Rounded)
  g_Swapped : mg "Swapped" = some (.ref A.c_Swapped)
  g_Turned : mg "Turned" = some (.ref A.c_Turned)
  g_Uneven : mg "Uneven" = some (.ref A.c_Uneven)
theorem ok_asked_row {P : Program} {w : World} {K : PySem.W.Frag} {mg : Str → Option Value} {base : Heap} {A : Ads} (X_ : Txt K mg A) : FnOk P w K mg base CX0 1 A.f_asked_row A.d_asked_row ["row"] (sp_asked_row K A.toCA) := by
  have nd_ := sc_asked_row.nd
  refine X_.F_asked_row.ok sc_asked_row (fun vs H Q E h => ln_asked_row h) (fun cdv A_ outer s H vs Q E hr h => ⟨rd_asked_row K A.toCA, ?_, pu_asked_row h⟩)
  exact (pss_one (ps_if (PW.pt (pw_or (pt_not (pt_val (pe_callB (c_isi "str") (by rfl) X_.n_isinstance (by decide +kernel) (pa_cons (pv 0) (pa_cons (pe_bltn rfl X_.n_str (by decide +kernel) rfl) pa_nil))))) (pw_or (pt_cmpR o_gt (pe_callB c_lenT (by rfl) X_.n_len (by decide +kernel) (pa_cons (pv 0) pa_nil)) (pe_glob rfl X_.g_LONGEST.choose_spec ⟨_, rfl⟩) (nomark _)) (pw_or1 (pt_not (pt_val (pe_callB (c_all rfl) (by rfl) X_.n_all (by decide +kernel) (pa_cons (pe_lc (own := [("one", 1)]) (g := (gName 1)) (tt := tYes) rfl nd_ (pi_str (pv 0)) (blkOk_by (own := [("one", 1)]) (N := N_asked_row) (sc := defScope s_asked_row) (by decide +kernel)) (fun _ _ _ _ _ => (pg_name (i := 1) nd_ rfl (Or.inl rfl))) (fun _ _ _ _ _ => pts_nil) (fun _ _ _ _ _ => (pe_cmpR o_inT (pv 1) (pe_strT [true, false]) rfl))) pa_nil)))))))) (pss_one ps_never) pss_nil))
theorem ok_deepens {P : Program} {w : World} {K : PySem.W.Frag} {mg : Str → Option Value} {base : Heap} {A : Ads} (X_ : Txt K mg A) : FnOk P w K mg base CX0 1 A.f_deepens A.d_deepens ["bracket"] (sp_deepens K A.toCA) := by
  have nd_ := sc_deepens.nd
  refine X_.F_deepens.ok sc_deepens (fun vs H Q E h => ln_deepens h) (fun cdv A_ outer s H vs Q E hr h => ⟨rd_deepens K A.toCA, ?_, pu_deepens h⟩)
  exact (pss_one (ps_ret (pe_ifExp (pt_cmpR op_eq (pv 0) (pe_strT [true]) (nomark _)) pe_int (pe_un o_neg pe_int))))
theorem ok_depths_of {P : Program} {w : World} {K : PySem.W.Frag} {mg : Str → Option Value} {base : Heap} {A : Ads} (X_ : Txt K mg A) : FnOk P w K mg base CX0 2 A.f_depths_of A.d_depths_of ["row"] (sp_depths_of K A.toCA) := by
  have nd_ := sc_depths_of.nd
  refine X_.F_depths_of.ok sc_depths_of (fun vs H Q E h => ln_depths_of h) (fun cdv A_ outer s H vs Q E hr h => ⟨rd_depths_of K A.toCA, ?_, pu_depths_of h⟩)
  exact (pss_cons (ps_set (i := 1) nd_ rfl (Or.inl rfl) (pe_lst (pa_cons pe_int pa_nil)))
    (pss_cons (ps_for PassesOwn.never rfl (pi_str (pv 0)) (pg_name (i := 2) nd_ rfl (Or.inl rfl)) (pss_one (ps_expr (pe_bm PySem.F.plainAttrs_list PySem.F.slot_list_append PySem.F.type_list_append mt_append (pv 1) (pa_cons (pe_op o_add (pe_ix ix_list (pv 1) (pe_un o_neg pe_int) (fun _ _ => rfl)) (pe_call (ok_deepens X_) (hr.mono (by decide)) rfl X_.g_deepens X_.F_deepens.kp X_.b_deepens .nil pass0 (pa_cons (pv 2) pa_nil))) pa_nil)))))
    (pss_one (ps_ret (pv 1)))))
theorem ok_is_right_row {P : Program} {w : World} {K : PySem.W.Frag} {mg : Str → Option Value} {base : Heap} {A : Ads} (X_ : Txt K mg A) : FnOk P w K mg base CX0 3 A.f_is_right_row A.d_is_right_row ["row"] (sp_is_right_row K A.toCA) := by
  have nd_ := sc_is_right_row.nd
  refine X_.F_is_right_row.ok sc_is_right_row (fun vs H Q E h => ln_is_right_row h) (fun cdv A_ outer s H vs Q E hr h => ⟨rd_is_right_row K A.toCA, ?_, pu_is_right_row h⟩)
  exact (pss_cons (ps_set (i := 1) nd_ rfl (Or.inl rfl) (pe_call (ok_depths_of X_) (hr.mono (by decide)) rfl X_.g_depths_of X_.F_depths_of.kp X_.b_depths_of .nil pass0 (pa_cons (pv 0) pa_nil)))
    (pss_one (ps_ret (pe_and (pe_cmpR op_eq (pe_ix ix_list (pv 1) (pe_un o_neg pe_int) (fun _ _ => rfl)) pe_int (nomark _)) (pe_one (pe_cmpR op_eq (pe_callB (cr_min rfl) (by rfl) X_.n_min (by decide +kernel) (pa_cons (pv 1) pa_nil)) pe_int (nomark _)))))))
theorem ok_flipped {P : Program} {w : World} {K : PySem.W.Frag} {mg : Str → Option Value} {base : Heap} {A : Ads} (X_ : Txt K mg A) : FnOk P w K mg base CX0 1 A.f_flipped A.d_flipped ["bracket"] (sp_flipped K A.toCA) := by
  have nd_ := sc_flipped.nd
  refine X_.F_flipped.ok sc_flipped (fun vs H Q E h => ln_flipped h) (fun cdv A_ outer s H vs Q E hr h => ⟨rd_flipped K A.toCA, ?_, pu_flipped h⟩)
  exact (pss_one (ps_ret (pe_ifExp (pt_cmpR op_eq (pv 0) (pe_strT [true]) (nomark _)) (pe_strT [false]) (pe_strT [true]))))
theorem ok_turned {P : Program} {w : World} {K : PySem.W.Frag} {mg : Str → Option Value} {base : Heap} {A : Ads} (X_ : Txt K mg A) : FnOk P w K mg base CX0 2 A.f_turned A.d_turned ["row", "places"] (sp_turned K A.toCA) := by
  have nd_ := sc_turned.nd
  refine X_.F_turned.ok sc_turned (fun vs H Q E h => ln_turned h) (fun cdv A_ outer s H vs Q E hr h => ⟨rd_turned K A.toCA, ?_, pu_turned h⟩)
  exact (pss_one (ps_ret (pe_bm PySem.F.plainAttrs_str PySem.F.slot_str_join PySem.F.type_str_join m_join (pe_strT []) (pa_cons (pe_lc (own := [("at", 2), ("one", 3)]) (g := (gTup K 2 (gCons (gName 2) (gCons (gName 3) gNil)))) (tt := tYes) rfl nd_ (pi_enumT rfl X_.n_enumerate (pa_cons (pv 0) pa_nil)) (blkOk_by (own := [("at", 2), ("one", 3)]) (N := N_turned) (sc := defScope s_turned) (by decide +kernel)) (fun _ _ _ _ _ => (pg_tup rfl (pgs_cons (pg_name (i := 2) nd_ rfl (Or.inl rfl)) (pgs_cons (pg_name (i := 3) nd_ rfl (Or.inl rfl)) pgs_nil)))) (fun _ _ _ _ _ => pts_nil) (fun _ _ _ _ _ => (pe_ifExp (pt_cmpR op_in_seq (pv 2) (pv 1) (by rfl)) (pe_call (ok_flipped X_) (hr.mono (by decide)) rfl X_.g_flipped X_.F_flipped.kp X_.b_flipped .nil pass0 (pa_cons (pv 3) pa_nil)) (pv 3)))) pa_nil))))
theorem ok_o_shows {P : Program} {w : World} {K : PySem.W.Frag} {mg : Str → Option Value} {base : Heap} {A : Ads} (X_ : Txt K mg A) : FnOk P w K mg base CX0 1 A.f_o_shows A.d_o_shows ["self", "row"] (sp_o_shows K A.toCA) := by
  have nd_ := sc_o_shows.nd
  refine X_.F_o_shows.ok sc_o_shows (fun vs H Q E h => ln_o_shows h) (fun cdv A_ outer s H vs Q E hr h => ⟨rd_o_shows K A.toCA, ?_, pu_o_shows h⟩)
  exact (pss_one (ps_ret (pe_cmpR op_eq (pe_op o_mod (pe_callB c_lenT (by rfl) X_.n_len (by decide +kernel) (pa_cons (pv 1) pa_nil)) pe_int) pe_int (nomark _))))
theorem ok_t_init {P : Program} {w : World} {K : PySem.W.Frag} {mg : Str → Option Value} {base : Heap} {A : Ads} (X_ : Txt K mg A) : FnOk P w K mg base CX0 1 A.f_t_init A.d_t_init ["self", "places", "cut"] (sp_t_init K A.toCA) := by
  have nd_ := sc_t_init.nd
  refine X_.F_t_init.ok sc_t_init (fun vs H Q E h => ln_t_init h) (fun cdv A_ outer s H vs Q E hr h => ⟨rd_t_init K A.toCA, ?_, pu_t_init h⟩)
  exact (pss_cons (ps_fld (pv 0) (pe_callTy c_listOf (by rfl) X_.n_list (by decide +kernel) (pa_cons (pv 1) pa_nil)) rfl)
    (pss_one (ps_fld (pv 0) (pv 2) rfl)))
theorem ok_t_shows {P : Program} {w : World} {K : PySem.W.Frag} {mg : Str → Option Value} {base : Heap} {A : Ads} (X_ : Txt K mg A) : FnOk P w K mg base CX0 4 A.f_t_shows A.d_t_shows ["self", "row"] (sp_t_shows K A.toCA) := by
  have nd_ := sc_t_shows.nd
  refine X_.F_t_shows.ok sc_t_shows (fun vs H Q E h => ln_t_shows h) (fun cdv A_ outer s H vs Q E hr h => ⟨rd_t_shows K A.toCA, ?_, pu_t_shows h⟩)
  exact (pss_cons (ps_if (PW.pt (pw_or (pt_not (pt_val (pe_callB (c_all rfl) (by rfl) X_.n_all (by decide +kernel) (pa_cons (pe_lc (own := [("place", 5)]) (g := (gName 5)) (tt := tYes) rfl nd_ (pi_list (pe_fld (pv 0) rfl)) (blkOk_by (own := [("place", 5)]) (N := N_t_shows) (sc := defScope s_t_shows) (by decide +kernel)) (fun _ _ _ _ _ => (pg_name (i := 5) nd_ rfl (Or.inl rfl))) (fun _ _ _ _ _ => pts_nil) (fun _ _ _ _ _ => (pe_chain o_le o_lt pe_int (pv 5) (pe_callB c_lenT (by rfl) X_.n_len (by decide +kernel) (pa_cons (pv 1) pa_nil))))) pa_nil)))) (pw_or1 (pt_cmpR op_ne (pe_lenSetD rfl rfl X_.n_len rfl X_.n_set (pe_fld (pv 0) rfl)) (pe_callB c_len (by rfl) X_.n_len (by decide +kernel) (pa_cons (pe_fld (pv 0) rfl) pa_nil)) (nomark _))))) (pss_one (ps_ret pe_bl)) pss_nil)
    (pss_cons (ps_if (PW.pt (pw_or (pt_not (pt_val (pe_call (ok_is_right_row X_) (hr.mono (by decide)) rfl X_.g_is_right_row X_.F_is_right_row.kp X_.b_is_right_row .nil pass0 (pa_cons (pe_call (ok_turned X_) (hr.mono (by decide)) rfl X_.g_turned X_.F_turned.kp X_.b_turned .nil pass0 (pa_cons (pv 1) (pa_cons (pe_fld (pv 0) rfl) pa_nil))) pa_nil)))) (pw_or1 (pt_not (pt_chain o_le o_le pe_int (pe_fld (pv 0) rfl) (pe_callB c_lenT (by rfl) X_.n_len (by decide +kernel) (pa_cons (pv 1) pa_nil))))))) (pss_one (ps_ret pe_bl)) pss_nil)
    (pss_cons (ps_set (i := 2) nd_ rfl (Or.inl rfl) (pe_call (ok_depths_of X_) (hr.mono (by decide)) rfl X_.g_depths_of X_.F_depths_of.kp X_.b_depths_of .nil pass0 (pa_cons (pv 1) pa_nil)))
    (pss_cons (ps_par (i := 3) (j := 4) rfl nd_ rfl rfl (by decide) rfl rfl (pa_cons (pe_callB (c_max2 rfl) (by rfl) X_.n_max (by decide +kernel) (pa_cons pe_int (pa_cons (pe_un o_neg (pe_ix ix_list (pv 2) (pe_fld (pv 0) rfl) (fun _ _ => rfl))) pa_nil))) (pa_cons (pe_callB (c_max2 rfl) (by rfl) X_.n_max (by decide +kernel) (pa_cons pe_int (pa_cons (pe_op o_sub (pe_ix ix_list (pv 2) (pe_un o_neg pe_int) (fun _ _ => rfl)) (pe_ix ix_list (pv 2) (pe_fld (pv 0) rfl) (fun _ _ => rfl))) pa_nil))) pa_nil)) (by rfl))
    (pss_one (ps_ret (pe_cmpR op_eq (pe_callB c_len (by rfl) X_.n_len (by decide +kernel) (pa_cons (pe_fld (pv 0) rfl) pa_nil)) (pe_op o_add (pe_op o_div (pe_op o_add (pv 3) pe_int) pe_int) (pe_op o_div (pe_op o_add (pv 4) pe_int) pe_int)) (nomark _))))))))
theorem ok_turns {P : Program} {w : World} {K : PySem.W.Frag} {mg : Str → Option Value} {base : Heap} {A : Ads} (X_ : Txt K mg A) : FnOk P w K mg base CX0 4 A.f_turns A.d_turns ["row"] (sp_turns K A.toCA) := by
  have nd_ := sc_turns.nd
  refine X_.F_turns.ok sc_turns (fun vs H Q E h => ln_turns h) (fun cdv A_ outer s H vs Q E hr h => ⟨rd_turns K A.toCA, ?_, pu_turns h⟩)
  exact (pss_cons (ps_expr (pe_call (ok_asked_row X_) (hr.mono (by decide)) rfl X_.g_asked_row X_.F_asked_row.kp X_.b_asked_row .nil pass0 (pa_cons (pv 0) pa_nil)))
    (pss_cons (ps_if (pt_cmpR op_eq (pe_op o_mod (pe_callB c_lenT (by rfl) X_.n_len (by decide +kernel) (pa_cons (pv 0) pa_nil)) pe_int) pe_int (nomark _)) (pss_one (ps_ret (pe_mk0 X_.mk_Odd rfl X_.g_Odd))) pss_nil)
    (pss_cons (ps_set (i := 1) nd_ rfl (Or.inr rfl) (pe_call (ok_depths_of X_) (hr.mono (by decide)) rfl X_.g_depths_of X_.F_depths_of.kp X_.b_depths_of .nil pass0 (pa_cons (pv 0) pa_nil)))
    (pss_cons (ps_par (i := 5) (j := 6) rfl nd_ rfl rfl (by decide) rfl rfl (pa_cons (pe_un o_neg (pe_callB (cr_min rfl) (by rfl) X_.n_min (by decide +kernel) (pa_cons (pv 1) pa_nil))) (pa_cons (pe_bm PySem.F.plainAttrs_list PySem.F.slot_list_index PySem.F.type_list_index m_index (pv 1) (pa_cons (pe_callB (cr_min rfl) (by rfl) X_.n_min (by decide +kernel) (pa_cons (pv 1) pa_nil)) pa_nil)) pa_nil)) (by rfl))
    (pss_cons (ps_set (i := 2) nd_ rfl (Or.inl rfl) (pe_op o_add (pe_ix ix_list (pv 1) (pe_un o_neg pe_int) (fun _ _ => rfl)) (pv 5)))
    (pss_cons (ps_setLc (i := 3) (own := [("at", 9)]) (g := (gName 9)) (tt := (tAnd (tTest (tOp rEq (tOp aIxT (tVar 0) (tVar 9)) (tC (.str (T [false]))))) (tTest (tOp rEq (tOp (rIxL K) (tVar 1) (tOp aAdd (tVar 9) (tC (.int 1)))) (tCB (rMin K) (tCons (tSl (rSlL K) (tVar 1) tNoPart (tPart (tOp aAdd (tVar 9) (tC (.int 2))))) tNil)))))) rfl nd_ rfl rfl (sw_true rfl rfl rfl (by decide +kernel)) (pi_range1 rfl X_.n_range (pa_cons (pv 6) pa_nil)) (blkOk_by (own := [("at", 9)]) (N := N_turns) (sc := defScope s_turns) (by decide +kernel)) (fun _ _ _ _ _ => (pg_name (i := 9) nd_ rfl (Or.inl rfl))) (fun _ _ _ _ _ => (pts_one (PW.pt (pw_and (pt_cmpR op_eq (pe_ix x_T (pv 0) (pv 9) (fun _ _ => rfl)) (pe_strT [false]) (nomark _)) (pw_and1 (pt_cmpR op_eq (pe_ix ix_list (pv 1) (pe_op o_add (pv 9) pe_int) (fun _ _ => rfl)) (pe_callB (cr_min rfl) (by rfl) X_.n_min (by decide +kernel) (pa_cons (pe_slice sl_list (pv 1) po_none (po_some (pe_op o_add (pv 9) pe_int))) pa_nil)) (nomark _))))))) (fun _ _ _ _ _ => (pv 9)))
    (pss_cons (ps_setLc (i := 4) (own := [("at", 9)]) (g := (gName 9)) (tt := (tAnd (tTest (tOp rEq (tOp aIxT (tVar 0) (tVar 9)) (tC (.str (T [true]))))) (tTest (tOp rEq (tOp (rIxL K) (tVar 1) (tVar 9)) (tCB (rMin K) (tCons (tSl (rSlL K) (tVar 1) (tPart (tVar 9)) tNoPart) tNil)))))) rfl nd_ rfl rfl (sw_true rfl rfl rfl (by decide +kernel)) (pi_range2 rfl X_.n_range (pa_cons (pv 6) (pa_cons (pe_callB c_lenT (by rfl) X_.n_len (by decide +kernel) (pa_cons (pv 0) pa_nil)) pa_nil))) (blkOk_by (own := [("at", 9)]) (N := N_turns) (sc := defScope s_turns) (by decide +kernel)) (fun _ _ _ _ _ => (pg_name (i := 9) nd_ rfl (Or.inl rfl))) (fun _ _ _ _ _ => (pts_one (PW.pt (pw_and (pt_cmpR op_eq (pe_ix x_T (pv 0) (pv 9) (fun _ _ => rfl)) (pe_strT [true]) (nomark _)) (pw_and1 (pt_cmpR op_eq (pe_ix ix_list (pv 1) (pv 9) (fun _ _ => rfl)) (pe_callB (cr_min rfl) (by rfl) X_.n_min (by decide +kernel) (pa_cons (pe_slice sl_list (pv 1) (po_some (pv 9)) po_none) pa_nil)) (nomark _))))))) (fun _ _ _ _ _ => (pv 9)))
    (pss_cons (ps_par (i := 7) (j := 8) rfl nd_ rfl rfl (by decide) rfl rfl (pa_cons (pe_op o_div (pe_op o_add (pv 5) pe_int) pe_int) (pa_cons (pe_op o_div (pe_op o_add (pv 2) pe_int) pe_int) pa_nil)) (by rfl))
    (pss_one (ps_ret (pe_make X_.mk_Turned (ok_t_init X_) (hr.mono (by decide)) rfl X_.g_Turned X_.b_t_init .nil pass0 (pa_cons (pe_op op_cat (pe_slice sl_list (pv 3) po_none (po_some (pv 7))) (pe_slice sl_list (pv 4) (po_some (pe_op o_sub (pe_callB c_len (by rfl) X_.n_len (by decide +kernel) (pa_cons (pv 4) pa_nil)) (pv 8))) po_none)) (pa_cons (pv 6) pa_nil)))))))))))))
theorem ok__law_number {P : Program} {w : World} {K : PySem.W.Frag} {mg : Str → Option Value} {base : Heap} {A : Ads} (X_ : Txt K mg A) : FnOk P w K mg base CX0 1 A.f__law_number A.d__law_number ["_law_cell", "_law_at", "_law_whole"] (sp__law_number K A.toCA) := by
  have nd_ := sc__law_number.nd
  refine X_.F__law_number.ok sc__law_number (fun vs H Q E h => ln__law_number h) (fun cdv A_ outer s H vs Q E hr h => ⟨rd__law_number K A.toCA, ?_, pu__law_number h⟩)
  exact (pss_cons (ps_if (pt_cmpR o_ge (pv 0) (pe_op o_pow pe_int pe_int) (nomark _)) (pss_one (ps_ret (pe_op o_div (pv 0) (pe_op o_add pe_int (pe_op o_mod (pv 1) pe_int))))) pss_nil)
    (pss_cons (ps_set (i := 3) nd_ rfl (Or.inl rfl) (pe_op o_mod (pv 0) (pe_op o_pow pe_int pe_int)))
    (pss_cons (ps_set (i := 4) nd_ rfl (Or.inl rfl) (pe_op o_mod (pe_op o_add (pe_op o_mul (pe_op o_add (pv 3) (pe_op o_mul pe_int (pv 1))) pe_int) (pv 2)) pe_int))
    (pss_cons (ps_set (i := 5) nd_ rfl (Or.inl rfl) (pe_op o_mul (pv 4) (pe_op o_add (pe_op o_add (pv 3) (pe_op o_mul pe_int (pv 1))) pe_int)))
    (pss_one (ps_ret (pe_op o_div (pe_op o_mul (pe_op o_mul (pv 5) (pe_op o_add (pe_op o_add (pv 4) (pv 3)) pe_int)) (pe_op o_add (pe_op o_mul (pv 4) (pv 4)) pe_int)) (pe_op o_add pe_int (pv 1)))))))))
theorem ok__law_row {P : Program} {w : World} {K : PySem.W.Frag} {mg : Str → Option Value} {base : Heap} {A : Ads} (X_ : Txt K mg A) : FnOk P w K mg base CX0 2 A.f__law_row A.d__law_row ["_law_script", "_law_by", "_law_most", "_law_even"] (sp__law_row K A.toCA) := by
  have nd_ := sc__law_row.nd
  refine X_.F__law_row.ok sc__law_row (fun vs H Q E h => ln__law_row h) (fun cdv A_ outer s H vs Q E hr h => ⟨rd__law_row K A.toCA, ?_, pu__law_row h⟩)
  exact (pss_cons (ps_set (i := 4) nd_ rfl (Or.inl rfl) (pe_ifExp (pt_cmpR (op_neD hr.units) (pv 0) (pe_lst pa_nil) (nomark _)) (pe_slice sl_list (pv 0) po_none (po_some pe_int)) (pe_lst (pa_cons pe_int pa_nil))))
    (pss_cons (ps_par (i := 9) (j := 7) rfl nd_ rfl rfl (by decide) rfl rfl (pa_cons (pe_op o_add (pe_callB c_abs (by rfl) X_.n_abs (by decide +kernel) (pa_cons (pe_callB (cr_sum rfl) (by rfl) X_.n_sum (by decide +kernel) (pa_cons (pv 4) pa_nil)) pa_nil)) (pe_op o_mul pe_int (pv 1))) (pa_cons (pe_lst pa_nil) pa_nil)) (by rfl))
    (pss_cons (ps_set (i := 5) nd_ rfl (Or.inl rfl) (pe_op o_add pe_int (pe_op o_mod (pe_op o_div (pv 9) pe_int) pe_int)))
    (pss_cons (ps_for PassesOwn.never rfl (pi_range1 rfl X_.n_range (pa_cons (pe_op o_mod (pe_op o_div (pv 9) pe_int) (pe_op o_add (pv 2) pe_int)) pa_nil)) (pg_name (i := 6) nd_ rfl (Or.inl rfl)) (pss_cons (ps_set (i := 10) nd_ rfl (Or.inl rfl) (pe_op o_div (pv 6) (pv 5)))
    (pss_cons (ps_set (i := 11) nd_ rfl (Or.inl rfl) (pe_op o_add (pe_ix ix_list (pv 4) (pe_op o_mod (pe_op o_add (pv 10) (pv 1)) (pe_callB c_len (by rfl) X_.n_len (by decide +kernel) (pa_cons (pv 4) pa_nil))) (fun _ _ => rfl)) (pe_op o_div (pv 10) (pe_callB c_len (by rfl) X_.n_len (by decide +kernel) (pa_cons (pv 4) pa_nil)))))
    (pss_cons (ps_set (i := 12) nd_ rfl (Or.inl rfl) (pe_op o_div (pe_callB c_abs (by rfl) X_.n_abs (by decide +kernel) (pa_cons (pe_call (ok__law_number X_) (hr.mono (by decide)) rfl X_.g__law_number X_.F__law_number.kp X_.b__law_number .nil pass0 (pa_cons (pv 11) (pa_cons (pe_op o_add (pv 10) (pv 1)) (pa_cons (pv 9) pa_nil)))) pa_nil)) pe_int))
    (pss_cons (ps_set (i := 13) nd_ rfl (Or.inl rfl) (pe_callTy c_intB (by rfl) X_.n_int (by decide +kernel) (pa_cons (pe_or (pe_cmpR o_gt (pe_op o_mod (pv 12) pe_int) pe_int (nomark _)) (pe_one (pe_cmpR op_eq (pe_op o_mod (pv 6) pe_int) pe_int (nomark _)))) pa_nil)))
    (pss_cons (ps_set (i := 14) nd_ rfl (Or.inl rfl) (pe_tup (pa_cons (pe_op o_mod (pv 12) pe_int) (pa_cons (pe_op o_mod (pv 6) pe_int) (pa_cons (pe_op o_sub pe_int (pe_op o_mod (pv 6) pe_int)) (pa_cons (pv 13) (pa_cons (pe_callTy c_intB (by rfl) X_.n_int (by decide +kernel) (pa_cons (pe_cmpR op_eq (pe_op o_mod (pv 10) pe_int) pe_int (nomark _)) pa_nil)) pa_nil)))))))
    (pss_one (ps_expr (pe_bm PySem.F.plainAttrs_list PySem.F.slot_list_append PySem.F.type_list_append mt_append (pv 7) (pa_cons (pe_ix x_T (pe_strT [true, false]) (pe_ix ix_tup (pv 14) (pe_op o_mod (pv 9) pe_int) (fun _ _ => rfl)) (fun _ _ => rfl)) pa_nil))))))))))
    (pss_cons (ps_set (i := 7) nd_ rfl (Or.inl rfl) (pe_ifExp (pt_val (pv 3)) (pe_slice sl_list (pv 7) po_none (po_some (pe_op o_mul (pe_op o_div (pe_callB c_len (by rfl) X_.n_len (by decide +kernel) (pa_cons (pv 7) pa_nil)) pe_int) pe_int))) (pv 7)))
    (pss_cons (ps_set (i := 8) nd_ rfl (Or.inl rfl) (pe_op o_sub (pe_bm PySem.F.plainAttrs_list PySem.F.slot_list_count PySem.F.type_list_count m_count (pv 7) (pa_cons (pe_strT [true]) pa_nil)) (pe_bm PySem.F.plainAttrs_list PySem.F.slot_list_count PySem.F.type_list_count m_count (pv 7) (pa_cons (pe_strT [false]) pa_nil))))
    (pss_cons (ps_for PassesOwn.never rfl (pi_range1 rfl X_.n_range (pa_cons (pe_callB c_len (by rfl) X_.n_len (by decide +kernel) (pa_cons (pv 7) pa_nil)) pa_nil)) (pg_name (i := 6) nd_ rfl (Or.inl rfl)) (pss_cons (ps_set (i := 10) nd_ rfl (Or.inl rfl) (pe_op o_mod (pe_op o_add (pv 6) (pv 9)) (pe_callB c_len (by rfl) X_.n_len (by decide +kernel) (pa_cons (pv 7) pa_nil))))
    (pss_one (ps_if (PW.pt (pw_and (pt_val (pv 3)) (pw_and (pt_cmpR op_ne (pv 8) pe_int (nomark _)) (pw_and1 (pt_cmpR op_eq (pe_ix ix_list (pv 7) (pv 10) (fun _ _ => rfl)) (pe_ix x_T (pe_strT [true, false]) (pe_callTy c_intB (by rfl) X_.n_int (by decide +kernel) (pa_cons (pe_cmpR o_lt (pv 8) pe_int (nomark _)) pa_nil)) (fun _ _ => rfl)) (nomark _)))))) (pss_cons (ps_asg (pe_ix x_T (pe_strT [true, false]) (pe_callTy c_intB (by rfl) X_.n_int (by decide +kernel) (pa_cons (pe_cmpR o_gt (pv 8) pe_int (nomark _)) pa_nil)) (fun _ _ => rfl)) (pg_sub (pv 7) (pv 10) set_list))
    (pss_one (ps_set (i := 8) nd_ rfl (Or.inl rfl) (pe_ifExp (pt_cmpR o_gt (pv 8) pe_int (nomark _)) (pe_op o_sub (pv 8) pe_int) (pe_op o_add (pv 8) pe_int))))) pss_nil))))
    (pss_one (ps_ret (pe_bm PySem.F.plainAttrs_str PySem.F.slot_str_join PySem.F.type_str_join m_join (pe_strT []) (pa_cons (pv 7) pa_nil)))))))))))
theorem ok__law_depths {P : Program} {w : World} {K : PySem.W.Frag} {mg : Str → Option Value} {base : Heap} {A : Ads} (X_ : Txt K mg A) : FnOk P w K mg base CX0 1 A.f__law_depths A.d__law_depths ["_law_row_here"] (sp__law_depths K A.toCA) := by
  have nd_ := sc__law_depths.nd
  refine X_.F__law_depths.ok sc__law_depths (fun vs H Q E h => ln__law_depths h) (fun cdv A_ outer s H vs Q E hr h => ⟨rd__law_depths K A.toCA, ?_, pu__law_depths h⟩)
  exact (pss_cons (ps_set (i := 1) nd_ rfl (Or.inl rfl) (pe_lst (pa_cons pe_int pa_nil)))
    (pss_cons (ps_for PassesOwn.never rfl (pi_str (pv 0)) (pg_name (i := 2) nd_ rfl (Or.inl rfl)) (pss_one (ps_expr (pe_bm PySem.F.plainAttrs_list PySem.F.slot_list_append PySem.F.type_list_append mt_append (pv 1) (pa_cons (pe_op o_add (pe_ix ix_list (pv 1) (pe_un o_neg pe_int) (fun _ _ => rfl)) (pe_ifExp (pt_cmpR op_eq (pv 2) (pe_strT [true]) (nomark _)) pe_int (pe_un o_neg pe_int))) pa_nil)))))
    (pss_one (ps_ret (pv 1)))))
theorem ok__law_good {P : Program} {w : World} {K : PySem.W.Frag} {mg : Str → Option Value} {base : Heap} {A : Ads} (X_ : Txt K mg A) : FnOk P w K mg base CX0 1 A.f__law_good A.d__law_good ["_law_row_here"] (sp__law_good K A.toCA) := by
  have nd_ := sc__law_good.nd
  refine X_.F__law_good.ok sc__law_good (fun vs H Q E h => ln__law_good h) (fun cdv A_ outer s H vs Q E hr h => ⟨rd__law_good K A.toCA, ?_, pu__law_good h⟩)
  exact (pss_cons (ps_set (i := 1) nd_ rfl (Or.inl rfl) pe_int)
    (pss_cons (ps_for PassesOwn.never rfl (pi_str (pv 0)) (pg_name (i := 2) nd_ rfl (Or.inl rfl)) (pss_cons (ps_set (i := 1) nd_ rfl (Or.inl rfl) (pe_ifExp (pt_cmpR op_eq (pv 2) (pe_strT [true]) (nomark _)) (pe_op o_add (pv 1) pe_int) (pe_op o_sub (pv 1) pe_int)))
    (pss_one (ps_if (pt_cmpR o_lt (pv 1) pe_int (nomark _)) (pss_one (ps_ret pe_bl)) pss_nil))))
    (pss_one (ps_ret (pe_cmpR op_eq (pv 1) pe_int (nomark _))))))
theorem ok__law_over {P : Program} {w : World} {K : PySem.W.Frag} {mg : Str → Option Value} {base : Heap} {A : Ads} (X_ : Txt K mg A) : FnOk P w K mg base CX0 1 A.f__law_over A.d__law_over ["_law_row_here", "_law_places"] (sp__law_over K A.toCA) := by
  have nd_ := sc__law_over.nd
  refine X_.F__law_over.ok sc__law_over (fun vs H Q E h => ln__law_over h) (fun cdv A_ outer s H vs Q E hr h => ⟨rd__law_over K A.toCA, ?_, pu__law_over h⟩)
  exact (pss_cons (ps_set (i := 2) nd_ rfl (Or.inl rfl) (pe_callTy (c_listT rfl) (by rfl) X_.n_list (by decide +kernel) (pa_cons (pv 0) pa_nil)))
    (pss_cons (ps_for PassesOwn.never rfl (pi_list (pv 1)) (pg_name (i := 3) nd_ rfl (Or.inl rfl)) (pss_one (ps_asg (pe_ix x_T (pe_strT [true, false]) (pe_callTy c_intB (by rfl) X_.n_int (by decide +kernel) (pa_cons (pe_cmpR op_eq (pe_ix x_T (pv 0) (pv 3) (fun _ _ => rfl)) (pe_strT [true]) (nomark _)) pa_nil)) (fun _ _ => rfl)) (pg_sub (pv 2) (pv 3) set_list))))
    (pss_one (ps_ret (pe_bm PySem.F.plainAttrs_str PySem.F.slot_str_join PySem.F.type_str_join m_join (pe_strT []) (pa_cons (pv 2) pa_nil))))))
theorem ok__law_turned {P : Program} {w : World} {K : PySem.W.Frag} {mg : Str → Option Value} {base : Heap} {A : Ads} (X_ : Txt K mg A) : FnOk P w K mg base CX0 2 A.f__law_turned A.d__law_turned ["_law_row_here", "_law_places", "_law_cut"] (sp__law_turned K A.toCA) := by
  have nd_ := sc__law_turned.nd
  refine X_.F__law_turned.ok sc__law_turned (fun vs H Q E h => ln__law_turned h) (fun cdv A_ outer s H vs Q E hr h => ⟨rd__law_turned K A.toCA, ?_, pu__law_turned h⟩)
  exact (pss_cons (ps_if (PW.pt (pw_or (pt_cmpR o_lt (pe_lenSetD rfl rfl X_.n_len rfl X_.n_set (pv 1)) (pe_callB c_len (by rfl) X_.n_len (by decide +kernel) (pa_cons (pv 1) pa_nil)) (nomark _)) (pw_or1 (pt_val (pe_callB (c_any rfl) (by rfl) X_.n_any (by decide +kernel) (pa_cons (pe_lc (own := [("_law_place", 6)]) (g := (gName 6)) (tt := tYes) rfl nd_ (pi_list (pv 1)) (blkOk_by (own := [("_law_place", 6)]) (N := N__law_turned) (sc := defScope s__law_turned) (by decide +kernel)) (fun _ _ _ _ _ => (pg_name (i := 6) nd_ rfl (Or.inl rfl))) (fun _ _ _ _ _ => pts_nil) (fun _ _ _ _ _ => (pe_not (pe_chain o_le o_lt pe_int (pv 6) (pe_callB c_lenT (by rfl) X_.n_len (by decide +kernel) (pa_cons (pv 0) pa_nil)))))) pa_nil)))))) (pss_one (ps_ret pe_bl)) pss_nil)
    (pss_cons (ps_if (PW.pt (pw_or (pt_not (pt_val (pe_call (ok__law_good X_) (hr.mono (by decide)) rfl X_.g__law_good X_.F__law_good.kp X_.b__law_good .nil pass0 (pa_cons (pe_call (ok__law_over X_) (hr.mono (by decide)) rfl X_.g__law_over X_.F__law_over.kp X_.b__law_over .nil pass0 (pa_cons (pv 0) (pa_cons (pv 1) pa_nil))) pa_nil)))) (pw_or1 (pt_not (pt_chain o_le o_le pe_int (pv 2) (pe_callB c_lenT (by rfl) X_.n_len (by decide +kernel) (pa_cons (pv 0) pa_nil))))))) (pss_one (ps_ret pe_bl)) pss_nil)
    (pss_cons (ps_set (i := 3) nd_ rfl (Or.inl rfl) (pe_call (ok__law_depths X_) (hr.mono (by decide)) rfl X_.g__law_depths X_.F__law_depths.kp X_.b__law_depths .nil pass0 (pa_cons (pv 0) pa_nil)))
    (pss_cons (ps_par (i := 4) (j := 5) rfl nd_ rfl rfl (by decide) rfl rfl (pa_cons (pe_callB (c_max2 rfl) (by rfl) X_.n_max (by decide +kernel) (pa_cons pe_int (pa_cons (pe_un o_neg (pe_ix ix_list (pv 3) (pv 2) (fun _ _ => rfl))) pa_nil))) (pa_cons (pe_callB (c_max2 rfl) (by rfl) X_.n_max (by decide +kernel) (pa_cons pe_int (pa_cons (pe_op o_sub (pe_ix ix_list (pv 3) (pe_un o_neg pe_int) (fun _ _ => rfl)) (pe_ix ix_list (pv 3) (pv 2) (fun _ _ => rfl))) pa_nil))) pa_nil)) (by rfl))
    (pss_one (ps_ret (pe_cmpR op_eq (pe_callB c_len (by rfl) X_.n_len (by decide +kernel) (pa_cons (pv 1) pa_nil)) (pe_op o_add (pe_op o_add (pe_op o_add (pe_op o_div (pv 4) pe_int) (pe_op o_mod (pv 4) pe_int)) (pe_op o_div (pv 5) pe_int)) (pe_op o_mod (pv 5) pe_int)) (nomark _))))))))
theorem ok__law_due03 {P : Program} {w : World} {K : PySem.W.Frag} {mg : Str → Option Value} {base : Heap} {A : Ads} (X_ : Txt K mg A) : FnOk P w K mg base CX0 3 A.f__law_due03 A.d__law_due03 ["_law_row_here", "_law_answer"] (sp__law_due03 K A.toCA) := by
  have nd_ := sc__law_due03.nd
  refine X_.F__law_due03.ok sc__law_due03 (fun vs H Q E h => ln__law_due03 h) (fun cdv A_ outer s H vs Q E hr h => ⟨rd__law_due03 K A.toCA, ?_, pu__law_due03 h⟩)
  exact (pss_cons (ps_if (pt_val (pe_callB (c_isiC A.c_Odd) (by rfl) X_.n_isinstance (by decide +kernel) (pa_cons (pv 1) (pa_cons (pe_glob rfl X_.g_Odd rfl) pa_nil)))) (pss_one (ps_ret (pe_cmpR op_eq (pe_op o_mod (pe_callB c_lenT (by rfl) X_.n_len (by decide +kernel) (pa_cons (pv 0) pa_nil)) pe_int) pe_int (nomark _)))) pss_nil)
    (pss_one (ps_ret (pe_call (ok__law_turned X_) (hr.mono (by decide)) rfl X_.g__law_turned X_.F__law_turned.kp X_.b__law_turned .nil pass0 (pa_cons (pv 0) (pa_cons (pe_fld (pv 1) rfl) (pa_cons (pe_fld (pv 1) rfl) pa_nil)))))))
theorem ok__law_right03 {P : Program} {w : World} {K : PySem.W.Frag} {mg : Str → Option Value} {base : Heap} {A : Ads} (X_ : Txt K mg A) : FnOk P w K mg base CX0 5 A.f__law_right03 A.d__law_right03 ["_law_row_here", "_law_others"] (sp__law_right03 K A.toCA) := by
  have nd_ := sc__law_right03.nd
  refine X_.F__law_right03.ok sc__law_right03 (fun vs H Q E h => ln__law_right03 h) (fun cdv A_ outer s H vs Q E hr h => ⟨rd__law_right03 K A.toCA, ?_, pu__law_right03 h⟩)
  exact (pss_cons (ps_set (i := 2) nd_ rfl (Or.inl rfl) (pe_cmpR op_eq (pe_op o_mod (pe_callB c_lenT (by rfl) X_.n_len (by decide +kernel) (pa_cons (pv 0) pa_nil)) pe_int) pe_int (nomark _)))
    (pss_cons (ps_for PassesOwn.never rfl (pi_range1 rfl X_.n_range (pa_cons pe_int pa_nil)) (pg_name (i := 3) nd_ rfl (Or.inl rfl)) (pss_cons (ps_set (i := 4) nd_ rfl (Or.inl rfl) (pe_call (ok_turns X_) (hr.mono (by decide)) rfl X_.g_turns X_.F_turns.kp X_.b_turns .nil pass0 (pa_cons (pv 0) pa_nil)))
    (pss_cons (ps_if (PW.pt (pw_or (pt_not (pt_val (pe_callB (c_isiC A.c_Answer) (by rfl) X_.n_isinstance (by decide +kernel) (pa_cons (pv 4) (pa_cons (pe_glob rfl X_.g_Answer rfl) pa_nil))))) (pw_or1 (pt_val (pe_callB (c_isiC A.c_Swapped) (by rfl) X_.n_isinstance (by decide +kernel) (pa_cons (pv 4) (pa_cons (pe_glob rfl X_.g_Swapped rfl) pa_nil))))))) (pss_one (ps_ret pe_bl)) pss_nil)
    (pss_cons (ps_if (PW.pt (pw_or (pt_val (pe_callB (c_isiC A.c_Uneven) (by rfl) X_.n_isinstance (by decide +kernel) (pa_cons (pv 4) (pa_cons (pe_glob rfl X_.g_Uneven rfl) pa_nil)))) (pw_or1 (pt_val (pe_callB (c_isiC A.c_Rounded) (by rfl) X_.n_isinstance (by decide +kernel) (pa_cons (pv 4) (pa_cons (pe_glob rfl X_.g_Rounded rfl) pa_nil))))))) (pss_one (ps_ret pe_bl)) pss_nil)
    (pss_cons (ps_if (pt_cmpR (op_neD hr.units) (pe_lst (pa_cons (pe_callB (c_isiC A.c_Turned) (by rfl) X_.n_isinstance (by decide +kernel) (pa_cons (pv 4) (pa_cons (pe_glob rfl X_.g_Turned rfl) pa_nil))) (pa_cons (pe_callB (c_isiC A.c_Odd) (by rfl) X_.n_isinstance (by decide +kernel) (pa_cons (pv 4) (pa_cons (pe_glob rfl X_.g_Odd rfl) pa_nil))) pa_nil))) (pe_lst (pa_cons (pv 2) (pa_cons (pe_not (pv 2)) pa_nil))) (nomark _)) (pss_one (ps_ret pe_bl)) pss_nil)
    (pss_cons (ps_if (PW.pt (pw_or (pt_not (pt_val (pe_call (ok__law_due03 X_) (hr.mono (by decide)) rfl X_.g__law_due03 X_.F__law_due03.kp X_.b__law_due03 .nil pass0 (pa_cons (pv 0) (pa_cons (pv 4) pa_nil))))) (pw_or1 (pt_cmpR o_notB (pe_methU (pv 4) X_.k_Odd X_.m_o_shows (ok_o_shows X_) (hr.mono (by decide)) X_.b_o_shows X_.k_Turned X_.m_t_shows (ok_t_shows X_) (hr.mono (by decide)) X_.b_t_shows pass0 (pa_cons (pv 0) pa_nil)) pe_bl (nomark _))))) (pss_one (ps_ret pe_bl)) pss_nil)
    (pss_cons (ps_for PassesOwn.never rfl (pi_list (pv 1)) (pg_name (i := 5) nd_ rfl (Or.inl rfl)) (pss_one (ps_if (pt_cmpR op_ne (pe_methU (pv 4) X_.k_Odd X_.m_o_shows (ok_o_shows X_) (hr.mono (by decide)) X_.b_o_shows X_.k_Turned X_.m_t_shows (ok_t_shows X_) (hr.mono (by decide)) X_.b_t_shows pass0 (pa_cons (pv 5) pa_nil)) (pe_call (ok__law_due03 X_) (hr.mono (by decide)) rfl X_.g__law_due03 X_.F__law_due03.kp X_.b__law_due03 .nil pass0 (pa_cons (pv 5) (pa_cons (pv 4) pa_nil))) (nomark _)) (pss_one (ps_ret pe_bl)) pss_nil)))
    (pss_one (ps_if (pt_val (pv 2)) (pss_cons (ps_expr (pe_bm PySem.F.plainAttrs_list PySem.F.slot_list_append PySem.F.type_list_append mt_append (pe_fld (pv 4) rfl) (pa_cons (pe_callB c_lenT (by rfl) X_.n_len (by decide +kernel) (pa_cons (pv 0) pa_nil)) pa_nil)))
    (pss_one (ps_if (pt_cmpR o_notB (pe_methU (pv 4) X_.k_Odd X_.m_o_shows (ok_o_shows X_) (hr.mono (by decide)) X_.b_o_shows X_.k_Turned X_.m_t_shows (ok_t_shows X_) (hr.mono (by decide)) X_.b_t_shows pass0 (pa_cons (pv 0) pa_nil)) pe_bl (nomark _)) (pss_one (ps_ret pe_bl)) pss_nil))) pss_nil)))))))))
    (pss_one (ps_ret pe_bl))))
theorem ok__law_least03 {P : Program} {w : World} {K : PySem.W.Frag} {mg : Str → Option Value} {base : Heap} {A : Ads} (X_ : Txt K mg A) : FnOk P w K mg base CX0 2 A.f__law_least03 A.d__law_least03 ["_law_row_here"] (sp__law_least03 K A.toCA) := by
  have nd_ := sc__law_least03.nd
  refine X_.F__law_least03.ok sc__law_least03 (fun vs H Q E h => ln__law_least03 h) (fun cdv A_ outer s H vs Q E hr h => ⟨rd__law_least03 K A.toCA, ?_, pu__law_least03 h⟩)
  exact (pss_cons (ps_set (i := 1) nd_ rfl (Or.inl rfl) (pe_callB c_lenT (by rfl) X_.n_len (by decide +kernel) (pa_cons (pv 0) pa_nil)))
    (pss_cons (ps_for PassesOwn.never rfl (pi_range1 rfl X_.n_range (pa_cons (pe_op o_shl pe_int (pe_callB c_lenT (by rfl) X_.n_len (by decide +kernel) (pa_cons (pv 0) pa_nil))) pa_nil)) (pg_name (i := 2) nd_ rfl (Or.inr rfl)) (pss_cons (ps_setLc (i := 3) (own := [("_law_at", 4)]) (g := (gName 4)) (tt := (tTest (tOp rEq (tOp aAnd (tOp aShr (tVar 2) (tVar 4)) (tC (.int 1))) (tC (.int 1))))) rfl nd_ rfl rfl (sw_true rfl rfl rfl (by decide +kernel)) (pi_range1 rfl X_.n_range (pa_cons (pe_callB c_lenT (by rfl) X_.n_len (by decide +kernel) (pa_cons (pv 0) pa_nil)) pa_nil)) (blkOk_by (own := [("_law_at", 4)]) (N := N__law_least03) (sc := defScope s__law_least03) (by decide +kernel)) (fun _ _ _ _ _ => (pg_name (i := 4) nd_ rfl (Or.inl rfl))) (fun _ _ _ _ _ => (pts_one (pt_cmpR op_eq (pe_op o_and (pe_op o_shr (pv 2) (pv 4)) pe_int) pe_int (nomark _)))) (fun _ _ _ _ _ => (pv 4)))
    (pss_one (ps_if (PW.pt (pw_and (pt_cmpR o_lt (pe_callB c_len (by rfl) X_.n_len (by decide +kernel) (pa_cons (pv 3) pa_nil)) (pv 1) (nomark _)) (pw_and1 (pt_val (pe_call (ok__law_good X_) (hr.mono (by decide)) rfl X_.g__law_good X_.F__law_good.kp X_.b__law_good .nil pass0 (pa_cons (pe_call (ok__law_over X_) (hr.mono (by decide)) rfl X_.g__law_over X_.F__law_over.kp X_.b__law_over .nil pass0 (pa_cons (pv 0) (pa_cons (pv 3) pa_nil))) pa_nil)))))) (pss_one (ps_set (i := 1) nd_ rfl (Or.inl rfl) (pe_callB c_len (by rfl) X_.n_len (by decide +kernel) (pa_cons (pv 3) pa_nil)))) pss_nil))))
    (pss_one (ps_ret (pv 1)))))
theorem ok_law03 {P : Program} {w : World} {K : PySem.W.Frag} {mg : Str → Option Value} {base : Heap} {A : Ads} (X_ : Txt K mg A) : FnOk P w K mg base CX0 6 A.f_law03 A.d_law03 ["_law_script"] (sp_law03 K A.toCA) := by
  have nd_ := sc_law03.nd
  refine X_.F_law03.ok sc_law03 (fun vs H Q E h => ln_law03 h) (fun cdv A_ outer s H vs Q E hr h => ⟨rd_law03 K A.toCA, ?_, pu_law03 h⟩)
  exact (pss_cons (ps_set (i := 1) nd_ rfl (Or.inl rfl) (pe_callB c_abs (by rfl) X_.n_abs (by decide +kernel) (pa_cons (pe_callB (cr_sum rfl) (by rfl) X_.n_sum (by decide +kernel) (pa_cons (pe_slice sl_list (pv 0) po_none (po_some pe_int)) pa_nil)) pa_nil)))
    (pss_cons (ps_for PassesOwn.never rfl (pi_list (pe_lst (pa_cons pe_int (pa_cons pe_int (pa_cons pe_int (pa_cons pe_int pa_nil)))))) (pg_name (i := 2) nd_ rfl (Or.inl rfl)) (pss_cons (ps_set (i := 3) nd_ rfl (Or.inl rfl) (pe_call (ok__law_row X_) (hr.mono (by decide)) rfl X_.g__law_row X_.F__law_row.kp X_.b__law_row .nil pass0 (pa_cons (pv 0) (pa_cons (pv 2) (pa_cons pe_int (pa_cons (pe_cmpR op_eq (pv 2) pe_int (nomark _)) pa_nil))))))
    (pss_one (ps_if (pt_not (pt_val (pe_call (ok__law_right03 X_) (hr.mono (by decide)) rfl X_.g__law_right03 X_.F__law_right03.kp X_.b__law_right03 .nil pass0 (pa_cons (pv 3) (pa_cons (pe_lst (pa_cons (pe_call (ok__law_row X_) (hr.mono (by decide)) rfl X_.g__law_row X_.F__law_row.kp X_.b__law_row .nil pass0 (pa_cons (pv 0) (pa_cons (pe_op o_add (pv 2) pe_int) (pa_cons pe_int (pa_cons pe_bl pa_nil))))) (pa_cons (pe_revT (pv 3)) (pa_cons (pe_slice s_T (pv 3) (po_some pe_int) po_none) (pa_cons (pe_strT []) pa_nil))))) pa_nil))))) (pss_one (ps_ret pe_bl)) pss_nil))))
    (pss_cons (ps_set (i := 3) nd_ rfl (Or.inl rfl) (pe_call (ok__law_row X_) (hr.mono (by decide)) rfl X_.g__law_row X_.F__law_row.kp X_.b__law_row .nil pass0 (pa_cons (pv 0) (pa_cons pe_int (pa_cons pe_int (pa_cons (pe_cmpR op_eq (pe_op o_mod (pv 1) pe_int) pe_int (nomark _)) pa_nil))))))
    (pss_cons (ps_set (i := 3) nd_ rfl (Or.inl rfl) (pe_slice s_T (pv 3) po_none (po_some (pe_op o_mul (pe_op o_div (pe_callB c_lenT (by rfl) X_.n_len (by decide +kernel) (pa_cons (pv 3) pa_nil)) pe_int) pe_int))))
    (pss_cons (ps_set (i := 4) nd_ rfl (Or.inl rfl) (pe_call (ok_turns X_) (hr.mono (by decide)) rfl X_.g_turns X_.F_turns.kp X_.b_turns .nil pass0 (pa_cons (pv 3) pa_nil)))
    (pss_cons (ps_if (PW.pt (pw_or (pt_not (pt_val (pe_callB (c_isiC A.c_Turned) (by rfl) X_.n_isinstance (by decide +kernel) (pa_cons (pv 4) (pa_cons (pe_glob rfl X_.g_Turned rfl) pa_nil))))) (pw_or1 (pt_cmpR op_ne (pe_callB c_len (by rfl) X_.n_len (by decide +kernel) (pa_cons (pe_fld (pv 4) rfl) pa_nil)) (pe_call (ok__law_least03 X_) (hr.mono (by decide)) rfl X_.g__law_least03 X_.F__law_least03.kp X_.b__law_least03 .nil pass0 (pa_cons (pv 3) pa_nil)) (nomark _))))) (pss_one (ps_ret pe_bl)) pss_nil)
    (pss_cons (ps_if (PW.pt (pw_or (pt_cmpR op_ne (pe_callB c_len (by rfl) X_.n_len (by decide +kernel) (pa_cons (pe_fld (pe_call (ok_turns X_) (hr.mono (by decide)) rfl X_.g_turns X_.F_turns.kp X_.b_turns .nil pass0 (pa_cons (pe_op o_catT (pe_op o_repT (pe_strT [false]) pe_int) (pe_op o_repT (pe_strT [true]) pe_int)) pa_nil)) rfl) pa_nil)) pe_int (nomark _)) (pw_or (pt_cmpR op_ne (pe_callB c_len (by rfl) X_.n_len (by decide +kernel) (pa_cons (pe_fld (pe_call (ok_turns X_) (hr.mono (by decide)) rfl X_.g_turns X_.F_turns.kp X_.b_turns .nil pass0 (pa_cons (pe_op o_repT (pe_strT [true]) pe_int) pa_nil)) rfl) pa_nil)) pe_int (nomark _)) (pw_or1 (pt_cmpR (op_neD hr.units) (pe_fld (pe_call (ok_turns X_) (hr.mono (by decide)) rfl X_.g_turns X_.F_turns.kp X_.b_turns .nil pass0 (pa_cons (pe_strT []) pa_nil)) rfl) (pe_lst pa_nil) (nomark _)))))) (pss_one (ps_ret pe_bl)) pss_nil)
    (pss_one (ps_ret (pe_and (pe_callB (c_isiC A.c_Odd) (by rfl) X_.n_isinstance (by decide +kernel) (pa_cons (pe_call (ok_turns X_) (hr.mono (by decide)) rfl X_.g_turns X_.F_turns.kp X_.b_turns .nil pass0 (pa_cons (pe_strT [false, true, true]) pa_nil)) (pa_cons (pe_glob rfl X_.g_Odd rfl) pa_nil))) (pe_one (pe_cmpR op_eq (pe_callB c_len (by rfl) X_.n_len (by decide +kernel) (pa_cons (pe_fld (pe_call (ok_turns X_) (hr.mono (by decide)) rfl X_.g_turns X_.F_turns.kp X_.b_turns .nil pass0 (pa_cons (pe_strT [false, true, true, true, false, true]) pa_nil)) rfl) pa_nil)) pe_int (nomark _)))))))))))))
end BM
namespace BM
open PySem L2 Evl
/-- one def, as the top has written it -/
theorem fun_ex {K : PySem.W.Frag} {h : Heap} {mg : Str → Option Value} {x : Str} {st : Stmt} {ps : List Str} {G : Prop} (X : K.In h) (N : h.Ns mainGlobals mg) {f : Addr} {od an : Option Addr} {sl : Array (Option Value)} {oc kV dc pm cd ct : Value}
    (a : PySem.W.nsIn K mainGlobals x = some (some (.ref f))) (l : K.lookup f = some ⟨oc, od, .func (PySem.W.fnOf x x (defArgs st) (defBody st) (defScope st) .none kV dc pm an cd ct), sl⟩) (c : PySem.W.codeIn K cd x = true) (k : PySem.W.keepIn K (.ref f) = true)
    (hb : ∀ (kV doc pm : Value) (an : Option Addr) (cdv ct : Value) (us : List Value), us.length = ps.length → bindArgs (PySem.W.fnOf x x (defArgs st) (defBody st) (defScope st) .none kV doc pm an cdv ct) ⟨us, []⟩ = pure (ps.zip us))
    (go : ∀ fd : FuncData, Fun K x x st f fd → mg x = some (.ref f) → Binds K fd ps [] → G) : G :=
  go _ (fun_mk l c k) (PySem.W.mg_of X N a) ((fun_mk l c k).binds hb)
/-- one method, as the top has written it -/
theorem meth_ex {K : PySem.W.Frag} {h : Heap} {mg : Str → Option Value} {C : Addr} {x qual : Str} {st : Stmt} {ps : List Str} {G : Prop} {cn : Str} (X : K.In h) (gc : mg cn = some (.ref C)) {f : Addr} {od an : Option Addr} {sl : Array (Option Value)} {oc kV dc pm cd ct : Value}
    (a : PySem.W.findIn K (.ref C) x = some (some (.ref f))) (i : PySem.W.isFn K (.ref f) = true) (l : K.lookup f = some ⟨oc, od, .func (PySem.W.fnOf x qual (defArgs st) (defBody st) (defScope st) .none kV dc pm an cd ct), sl⟩) (c : PySem.W.codeIn K cd qual = true) (k : PySem.W.keepIn K (.ref f) = true)
    (hb : ∀ (kV doc pm : Value) (an : Option Addr) (cdv ct : Value) (us : List Value), us.length = ps.length → bindArgs (PySem.W.fnOf x qual (defArgs st) (defBody st) (defScope st) .none kV doc pm an cdv ct) ⟨us, []⟩ = pure (ps.zip us))
    (go : ∀ fd : FuncData, Fun K x qual st f fd → Meth K C x f → Binds K fd ps [] → G) : G :=
  go _ (fun_mk l c k) ⟨a, i, k⟩ ((fun_mk l c k).binds hb)
theorem cls_ex {K : PySem.W.Frag} {h : Heap} {mg : Str → Option Value} {x : Str} {G : Prop} (X : K.In h) (N : h.Ns mainGlobals mg) {c : Addr} (a : PySem.W.nsIn K mainGlobals x = some (some (.ref c))) (go : mg x = some (.ref c) → G) : G := go (PySem.W.mg_of X N a)
theorem cst_ex {K : PySem.W.Frag} {h : Heap} {mg : Str → Option Value} {x : Str} {G : Prop} (n : Int) (X : K.In h) (N : h.Ns mainGlobals mg) {v : Value} (a : PySem.W.nsIn K mainGlobals x = some (some v)) (e : ∃ t, v = .int n t) (go : (∃ t, mg x = some (.int n t)) → G) : G := by
  obtain ⟨t, rfl⟩ := e
  exact go ⟨t, PySem.W.mg_of X N a⟩
/-- the law's promise, as the row wants it -/
def spGoal (K : PySem.W.Frag) : Sp := fun vs H Q _ => ∃ (a : Addr) (ns : List Int), vs = [.ref a] ∧ SqL K H a (ns.map V.int) ∧ ns.length ≤ 63 ∧ ∀ H', Q (.bl true) H'
theorem bnd1 {K : PySem.W.Frag} {x qual y : Str} {st : Stmt} {f : Addr} {fd : FuncData} (F : Fun K x qual st f fd) (hb : ∀ (kV doc pm : Value) (an : Option Addr) (cdv ct : Value) (u : Value), bindArgs (PySem.W.fnOf x qual (defArgs st) (defBody st) (defScope st) .none kV doc pm an cdv ct) ⟨[u], []⟩ = pure [(y, u)]) (s : Shared) (u : Value) : BindsTo s fd ⟨[u], []⟩ [(y, u)] := by
  obtain ⟨oc, od, kV, doc, pm, an, cdv, ct, osl, rfl, lk, hcd⟩ := F.ex
  exact .of_eq (hb kV doc pm an cdv ct u)
end BM
namespace BM
open PySem L2 Evl PyProof.Rows
theorem fin03 {l : PySem.W.OpenLaw} {w : World} {K : PySem.W.Frag} {mg : Str → Option Value} {fa : Addr} {A : Ads} (hfa : mg "law" = some (.ref fa)) (X : Txt K mg A) (hE : Ex03 K A.toCA) :
    ∃ fd : FuncData, (∀ (s : Shared) (u : Value), BindsTo s fd ⟨[u], []⟩ [("_law_script", u)]) ∧ ∀ base : Heap, K.In base → base.Ns mainGlobals mg → FnOk l.prog w K mg base CX0 6 fa fd ["_law_script"] (spGoal K) := by
  have e := hfa.symm.trans X.g_law03
  cases e
  exact ⟨A.d_law03, fun s u => bnd1 X.F_law03 (fun _ _ _ _ _ _ _ => rfl) s u, fun base _ _ => (ok_law03 X).imp fun vs H Q E ⟨a, ns, e, hs, hl, q⟩ => ⟨.bl true, ⟨a, ns, hE, e, hs, hl, rfl⟩, fun H' _ => q H'⟩⟩
end BM
open PySem PySem.W PyProof.Rows
set_option maxRecDepth 100000 in
set_option maxHeartbeats 0 in
theorem PySem.Challenge.cw_bracketmend_k03_whole_turns_holds : PySem.Challenge.rw_bracketmend_k03_whole_turns.Holds := by
  w_on; o_law; k_head; (case hw => w_witness2)
  k_fill
  refine L2.walk_of (l := PySem.Challenge.rw_bracketmend_k03_whole_turns) (n := 63) (k := 6) (x := "_law_script") (CX := fun _ => L2.CX0) (sp := fun w => BM.spGoal _) rfl (by decide) rfl ⟨rfl, by decide, by decide⟩ (fun w h Y => PySem.W.kIn_of Y) ?F (fun _ _ a ns hl _ hS => ⟨a, ns, rfl, hS, hl, fun _ => rfl⟩) fun _ _ _ _ _ z => z
  case F =>
    intro w mg fa h KX G hmg
    refine' BM.cls_ex (x := "Answer") KX G ?a_Answer ?go_Answer
    (case a_Answer => k_is)
    case' go_Answer => intro g_Answer
    refine' BM.cls_ex (x := "Odd") KX G ?a_Odd ?go_Odd
    (case a_Odd => k_is)
    case' go_Odd => intro g_Odd
    refine' BM.cls_ex (x := "Rounded") KX G ?a_Rounded ?go_Rounded
    (case a_Rounded => k_is)
    case' go_Rounded => intro g_Rounded
    refine' BM.cls_ex (x := "Swapped") KX G ?a_Swapped ?go_Swapped
    (case a_Swapped => k_is)
    case' go_Swapped => intro g_Swapped
    refine' BM.cls_ex (x := "Turned") KX G ?a_Turned ?go_Turned
    (case a_Turned => k_is)
    case' go_Turned => intro g_Turned
    refine' BM.cls_ex (x := "Uneven") KX G ?a_Uneven ?go_Uneven
    (case a_Uneven => k_is)
    case' go_Uneven => intro g_Uneven
    refine' BM.fun_ex (x := "is_whole") (st := BM.s_is_whole) (ps := ["thing"]) KX G ?a0 ?l0 ?c0 ?k0 (fun _ _ _ _ _ _ us hl => match us, hl with | [_], _ => rfl) ?go0
    (case a0 => k_is); (case l0 => k_is); (case c0 => k_is); (case k0 => k_is)
    case' go0 => intro d_is_whole F_is_whole g_is_whole b_is_whole
    refine' BM.fun_ex (x := "asked_row") (st := BM.s_asked_row) (ps := ["row"]) KX G ?a1 ?l1 ?c1 ?k1 (fun _ _ _ _ _ _ us hl => match us, hl with | [_], _ => rfl) ?go1
    (case a1 => k_is); (case l1 => k_is); (case c1 => k_is); (case k1 => k_is)
    case' go1 => intro d_asked_row F_asked_row g_asked_row b_asked_row
    refine' BM.fun_ex (x := "deepens") (st := BM.s_deepens) (ps := ["bracket"]) KX G ?a2 ?l2 ?c2 ?k2 (fun _ _ _ _ _ _ us hl => match us, hl with | [_], _ => rfl) ?go2
    (case a2 => k_is); (case l2 => k_is); (case c2 => k_is); (case k2 => k_is)
    case' go2 => intro d_deepens F_deepens g_deepens b_deepens
    refine' BM.fun_ex (x := "depths_of") (st := BM.s_depths_of) (ps := ["row"]) KX G ?a3 ?l3 ?c3 ?k3 (fun _ _ _ _ _ _ us hl => match us, hl with | [_], _ => rfl) ?go3
    (case a3 => k_is); (case l3 => k_is); (case c3 => k_is); (case k3 => k_is)
    case' go3 => intro d_depths_of F_depths_of g_depths_of b_depths_of
    refine' BM.fun_ex (x := "is_right_row") (st := BM.s_is_right_row) (ps := ["row"]) KX G ?a4 ?l4 ?c4 ?k4 (fun _ _ _ _ _ _ us hl => match us, hl with | [_], _ => rfl) ?go4
    (case a4 => k_is); (case l4 => k_is); (case c4 => k_is); (case k4 => k_is)
    case' go4 => intro d_is_right_row F_is_right_row g_is_right_row b_is_right_row
    refine' BM.fun_ex (x := "flipped") (st := BM.s_flipped) (ps := ["bracket"]) KX G ?a5 ?l5 ?c5 ?k5 (fun _ _ _ _ _ _ us hl => match us, hl with | [_], _ => rfl) ?go5
    (case a5 => k_is); (case l5 => k_is); (case c5 => k_is); (case k5 => k_is)
    case' go5 => intro d_flipped F_flipped g_flipped b_flipped
    refine' BM.fun_ex (x := "swapped") (st := BM.s_swapped) (ps := ["row", "place"]) KX G ?a6 ?l6 ?c6 ?k6 (fun _ _ _ _ _ _ us hl => match us, hl with | [_, _], _ => rfl) ?go6
    (case a6 => k_is); (case l6 => k_is); (case c6 => k_is); (case k6 => k_is)
    case' go6 => intro d_swapped F_swapped g_swapped b_swapped
    refine' BM.fun_ex (x := "turned") (st := BM.s_turned) (ps := ["row", "places"]) KX G ?a7 ?l7 ?c7 ?k7 (fun _ _ _ _ _ _ us hl => match us, hl with | [_, _], _ => rfl) ?go7
    (case a7 => k_is); (case l7 => k_is); (case c7 => k_is); (case k7 => k_is)
    case' go7 => intro d_turned F_turned g_turned b_turned
    refine' BM.fun_ex (x := "rounded") (st := BM.s_rounded) (ps := ["row", "first", "behind"]) KX G ?a8 ?l8 ?c8 ?k8 (fun _ _ _ _ _ _ us hl => match us, hl with | [_, _, _], _ => rfl) ?go8
    (case a8 => k_is); (case l8 => k_is); (case c8 => k_is); (case k8 => k_is)
    case' go8 => intro d_rounded F_rounded g_rounded b_rounded
    refine' BM.fun_ex (x := "is_stretch") (st := BM.s_is_stretch) (ps := ["row", "thing"]) KX G ?a9 ?l9 ?c9 ?k9 (fun _ _ _ _ _ _ us hl => match us, hl with | [_, _], _ => rfl) ?go9
    (case a9 => k_is); (case l9 => k_is); (case c9 => k_is); (case k9 => k_is)
    case' go9 => intro d_is_stretch F_is_stretch g_is_stretch b_is_stretch
    refine' BM.meth_ex KX g_Odd (x := "shows") (qual := "Odd.shows") (st := BM.s_o_shows) (ps := ["self", "row"]) ?a10 ?i10 ?l10 ?c10 ?k10 (fun _ _ _ _ _ _ us hl => match us, hl with | [_, _], _ => rfl) ?go10
    (case a10 => k_is); (case i10 => k_is); (case l10 => k_is); (case c10 => k_is); (case k10 => k_is)
    case' go10 => intro d_o_shows F_o_shows m_o_shows b_o_shows
    refine' BM.meth_ex KX g_Turned (x := "__init__") (qual := "Turned.__init__") (st := BM.s_t_init) (ps := ["self", "places", "cut"]) ?a11 ?i11 ?l11 ?c11 ?k11 (fun _ _ _ _ _ _ us hl => match us, hl with | [_, _, _], _ => rfl) ?go11
    (case a11 => k_is); (case i11 => k_is); (case l11 => k_is); (case c11 => k_is); (case k11 => k_is)
    case' go11 => intro d_t_init F_t_init m_t_init b_t_init
    refine' BM.meth_ex KX g_Turned (x := "shows") (qual := "Turned.shows") (st := BM.s_t_shows) (ps := ["self", "row"]) ?a12 ?i12 ?l12 ?c12 ?k12 (fun _ _ _ _ _ _ us hl => match us, hl with | [_, _], _ => rfl) ?go12
    (case a12 => k_is); (case i12 => k_is); (case l12 => k_is); (case c12 => k_is); (case k12 => k_is)
    case' go12 => intro d_t_shows F_t_shows m_t_shows b_t_shows
    refine' BM.fun_ex (x := "turns") (st := BM.s_turns) (ps := ["row"]) KX G ?a13 ?l13 ?c13 ?k13 (fun _ _ _ _ _ _ us hl => match us, hl with | [_], _ => rfl) ?go13
    (case a13 => k_is); (case l13 => k_is); (case c13 => k_is); (case k13 => k_is)
    case' go13 => intro d_turns F_turns g_turns b_turns
    refine' BM.fun_ex (x := "_law_number") (st := BM.s__law_number) (ps := ["_law_cell", "_law_at", "_law_whole"]) KX G ?a14 ?l14 ?c14 ?k14 (fun _ _ _ _ _ _ us hl => match us, hl with | [_, _, _], _ => rfl) ?go14
    (case a14 => k_is); (case l14 => k_is); (case c14 => k_is); (case k14 => k_is)
    case' go14 => intro d__law_number F__law_number g__law_number b__law_number
    refine' BM.fun_ex (x := "_law_row") (st := BM.s__law_row) (ps := ["_law_script", "_law_by", "_law_most", "_law_even"]) KX G ?a15 ?l15 ?c15 ?k15 (fun _ _ _ _ _ _ us hl => match us, hl with | [_, _, _, _], _ => rfl) ?go15
    (case a15 => k_is); (case l15 => k_is); (case c15 => k_is); (case k15 => k_is)
    case' go15 => intro d__law_row F__law_row g__law_row b__law_row
    refine' BM.fun_ex (x := "_law_depths") (st := BM.s__law_depths) (ps := ["_law_row_here"]) KX G ?a16 ?l16 ?c16 ?k16 (fun _ _ _ _ _ _ us hl => match us, hl with | [_], _ => rfl) ?go16
    (case a16 => k_is); (case l16 => k_is); (case c16 => k_is); (case k16 => k_is)
    case' go16 => intro d__law_depths F__law_depths g__law_depths b__law_depths
    refine' BM.fun_ex (x := "_law_good") (st := BM.s__law_good) (ps := ["_law_row_here"]) KX G ?a17 ?l17 ?c17 ?k17 (fun _ _ _ _ _ _ us hl => match us, hl with | [_], _ => rfl) ?go17
    (case a17 => k_is); (case l17 => k_is); (case c17 => k_is); (case k17 => k_is)
    case' go17 => intro d__law_good F__law_good g__law_good b__law_good
    refine' BM.fun_ex (x := "_law_over") (st := BM.s__law_over) (ps := ["_law_row_here", "_law_places"]) KX G ?a18 ?l18 ?c18 ?k18 (fun _ _ _ _ _ _ us hl => match us, hl with | [_, _], _ => rfl) ?go18
    (case a18 => k_is); (case l18 => k_is); (case c18 => k_is); (case k18 => k_is)
    case' go18 => intro d__law_over F__law_over g__law_over b__law_over
    refine' BM.fun_ex (x := "_law_turned") (st := BM.s__law_turned) (ps := ["_law_row_here", "_law_places", "_law_cut"]) KX G ?a19 ?l19 ?c19 ?k19 (fun _ _ _ _ _ _ us hl => match us, hl with | [_, _, _], _ => rfl) ?go19
    (case a19 => k_is); (case l19 => k_is); (case c19 => k_is); (case k19 => k_is)
    case' go19 => intro d__law_turned F__law_turned g__law_turned b__law_turned
    refine' BM.fun_ex (x := "_law_due") (st := BM.s__law_due03) (ps := ["_law_row_here", "_law_answer"]) KX G ?a20 ?l20 ?c20 ?k20 (fun _ _ _ _ _ _ us hl => match us, hl with | [_, _], _ => rfl) ?go20
    (case a20 => k_is); (case l20 => k_is); (case c20 => k_is); (case k20 => k_is)
    case' go20 => intro d__law_due03 F__law_due03 g__law_due03 b__law_due03
    refine' BM.fun_ex (x := "_law_right") (st := BM.s__law_right03) (ps := ["_law_row_here", "_law_others"]) KX G ?a21 ?l21 ?c21 ?k21 (fun _ _ _ _ _ _ us hl => match us, hl with | [_, _], _ => rfl) ?go21
    (case a21 => k_is); (case l21 => k_is); (case c21 => k_is); (case k21 => k_is)
    case' go21 => intro d__law_right03 F__law_right03 g__law_right03 b__law_right03
    refine' BM.fun_ex (x := "_law_least") (st := BM.s__law_least03) (ps := ["_law_row_here"]) KX G ?a22 ?l22 ?c22 ?k22 (fun _ _ _ _ _ _ us hl => match us, hl with | [_], _ => rfl) ?go22
    (case a22 => k_is); (case l22 => k_is); (case c22 => k_is); (case k22 => k_is)
    case' go22 => intro d__law_least03 F__law_least03 g__law_least03 b__law_least03
    refine' BM.fun_ex (x := "law") (st := BM.s_law03) (ps := ["_law_script"]) KX G ?a23 ?l23 ?c23 ?k23 (fun _ _ _ _ _ _ us hl => match us, hl with | [_], _ => rfl) ?go23
    (case a23 => k_is); (case l23 => k_is); (case c23 => k_is); (case k23 => k_is)
    case' go23 => intro d_law03 F_law03 g_law03 b_law03
    refine' BM.cst_ex (x := "LONGEST") 40 KX G ?a_LONGEST ?e_LONGEST ?go_LONGEST
    (case a_LONGEST => k_is); (case e_LONGEST => exact ⟨_, rfl⟩)
    case' go_LONGEST => intro g_LONGEST

    refine' BM.fin03 (A := ⟨⟨0, 0, 0, 0, 0, 0, 0, 0, _, _, _, _, _, _, 0⟩, _, d_is_whole, _, d_asked_row, _, d_deepens, _, d_depths_of, _, d_is_right_row, _, d_flipped, _, d_swapped, _, d_turned, _, d_rounded, _, d_is_stretch, _, d_o_shows, _, d_t_init, _, d_t_shows, _, d_turns, _, d__law_number, _, d__law_row, _, d__law_depths, _, d__law_good, _, d__law_over, _, d__law_turned, _, d__law_due03, _, d__law_right03, _, d__law_least03, _, d_law03⟩) hmg ?X ?E
    case' X => refine' { F_is_whole := F_is_whole, g_is_whole := g_is_whole, b_is_whole := b_is_whole, F_asked_row := F_asked_row, g_asked_row := g_asked_row, b_asked_row := b_asked_row, F_deepens := F_deepens, g_deepens := g_deepens, b_deepens := b_deepens, F_depths_of := F_depths_of, g_depths_of := g_depths_of, b_depths_of := b_depths_of, F_is_right_row := F_is_right_row, g_is_right_row := g_is_right_row, b_is_right_row := b_is_right_row, F_flipped := F_flipped, g_flipped := g_flipped, b_flipped := b_flipped, F_swapped := F_swapped, g_swapped := g_swapped, b_swapped := b_swapped, F_turned := F_turned, g_turned := g_turned, b_turned := b_turned, F_rounded := F_rounded, g_rounded := g_rounded, b_rounded := b_rounded, F_is_stretch := F_is_stretch, g_is_stretch := g_is_stretch, b_is_stretch := b_is_stretch, F_o_shows := F_o_shows, m_o_shows := m_o_shows, b_o_shows := b_o_shows, F_t_init := F_t_init, m_t_init := m_t_init, b_t_init := b_t_init, F_t_shows := F_t_shows, m_t_shows := m_t_shows, b_t_shows := b_t_shows, F_turns := F_turns, g_turns := g_turns, b_turns := b_turns, F__law_number := F__law_number, g__law_number := g__law_number, b__law_number := b__law_number, F__law_row := F__law_row, g__law_row := g__law_row, b__law_row := b__law_row, F__law_depths := F__law_depths, g__law_depths := g__law_depths, b__law_depths := b__law_depths, F__law_good := F__law_good, g__law_good := g__law_good, b__law_good := b__law_good, F__law_over := F__law_over, g__law_over := g__law_over, b__law_over := b__law_over, F__law_turned := F__law_turned, g__law_turned := g__law_turned, b__law_turned := b__law_turned, F__law_due03 := F__law_due03, g__law_due03 := g__law_due03, b__law_due03 := b__law_due03, F__law_right03 := F__law_right03, g__law_right03 := g__law_right03, b__law_right03 := b__law_right03, F__law_least03 := F__law_least03, g__law_least03 := g__law_least03, b__law_least03 := b__law_least03, F_law03 := F_law03, g_law03 := g_law03, b_law03 := b_law03, k_Odd := ⟨?pg_Odd, ?hd_Odd, ?po_Odd, ?sa_Odd⟩, k_Turned := ⟨?pg_Turned, ?hd_Turned, ?po_Turned, ?sa_Turned⟩, mk_Turned := ⟨?mi_Turned, m_t_init.at_, m_t_init.fn, ?kc_Turned⟩, mk_Odd := ⟨?zm_Odd, ?zi_Odd, ?zt_Odd, ?zk_Odd⟩, n_abs := PySem.W.mg_none_of KX G ?n_abs, n_all := PySem.W.mg_none_of KX G ?n_all, n_any := PySem.W.mg_none_of KX G ?n_any, n_bool := PySem.W.mg_none_of KX G ?n_bool, n_enumerate := PySem.W.mg_none_of KX G ?n_enumerate, n_int := PySem.W.mg_none_of KX G ?n_int, n_isinstance := PySem.W.mg_none_of KX G ?n_isinstance, n_len := PySem.W.mg_none_of KX G ?n_len, n_list := PySem.W.mg_none_of KX G ?n_list, n_max := PySem.W.mg_none_of KX G ?n_max, n_min := PySem.W.mg_none_of KX G ?n_min, n_range := PySem.W.mg_none_of KX G ?n_range, n_set := PySem.W.mg_none_of KX G ?n_set, n_str := PySem.W.mg_none_of KX G ?n_str, n_sum := PySem.W.mg_none_of KX G ?n_sum, n_tuple := PySem.W.mg_none_of KX G ?n_tuple, g_Answer := g_Answer, g_LONGEST := g_LONGEST, g_Odd := g_Odd, g_Rounded := g_Rounded, g_Swapped := g_Swapped, g_Turned := g_Turned, g_Uneven := g_Uneven }
    (case n_abs => k_is)
    (case n_all => k_is)
    (case n_any => k_is)
    (case n_bool => k_is)
    (case n_enumerate => k_is)
    (case n_int => k_is)
    (case n_isinstance => k_is)
    (case n_len => k_is)
    (case n_list => k_is)
    (case n_max => k_is)
    (case n_min => k_is)
    (case n_range => k_is)
    (case n_set => k_is)
    (case n_str => k_is)
    (case n_sum => k_is)
    (case n_tuple => k_is)
    (case pg_Odd => (try dsimp only); k_is)
    (case hd_Odd => (try dsimp only); k_is)
    (case po_Odd => (try dsimp only); k_is)
    (case sa_Odd => (try dsimp only); k_is)
    (case pg_Turned => (try dsimp only); k_is)
    (case hd_Turned => (try dsimp only); k_is)
    (case po_Turned => (try dsimp only); k_is)
    (case sa_Turned => (try dsimp only); k_is)
    (case mi_Turned => (try dsimp only); k_is)
    (case kc_Turned => (try dsimp only); k_is)
    (case zm_Odd => (try dsimp only); k_is)
    (case zi_Odd => (try dsimp only); k_is)
    (case zt_Odd => (try dsimp only); k_is)
    (case zk_Odd => (try dsimp only); k_is)
    case' E => refine' ⟨⟨⟨?oc1, ?oc2, ?oc3, ?oc4⟩, ?oha, ?ohn, ?oht, ?ohm⟩, ⟨⟨⟨?tc1, ?tc2, ?tc3, ?tc4⟩, ?tha, ?thn, ?tht, ?thm⟩, ?tn0, ?tn1⟩, BM.kit_yes ⟨?q01, ?q02⟩ ?q03, BM.kit_yes ⟨?q11, ?q12⟩ ?q13, BM.kit_no ⟨?q21, ?q22⟩ ?q23 ?q24, BM.kit_no ⟨?q31, ?q32⟩ ?q33 ?q34, BM.kit_no ⟨?q41, ?q42⟩ ?q43 ?q44, BM.kit_no ⟨?q51, ?q52⟩ ?q53 ?q54, BM.kit_no ⟨?q61, ?q62⟩ ?q63 ?q64, BM.kit_no ⟨?q71, ?q72⟩ ?q73 ?q74, BM.kit_no ⟨?q81, ?q82⟩ ?q83 ?q84, BM.kit_no ⟨?q91, ?q92⟩ ?q93 ?q94⟩
    (case oc1 => (try dsimp only); k_is)
    (case oc2 => (try dsimp only); k_is)
    (case oc3 => (try dsimp only); k_is)
    (case oc4 => (try dsimp only); k_is)
    (case oha => (try dsimp only); k_is)
    (case ohn => (try dsimp only); k_is)
    (case oht => (try dsimp only); k_is)
    (case ohm => (try dsimp only); k_is)
    (case tc1 => (try dsimp only); k_is)
    (case tc2 => (try dsimp only); k_is)
    (case tc3 => (try dsimp only); k_is)
    (case tc4 => (try dsimp only); k_is)
    (case tha => (try dsimp only); k_is)
    (case thn => (try dsimp only); k_is)
    (case tht => (try dsimp only); k_is)
    (case thm => (try dsimp only); k_is)
    (case tn0 => unfold L2.NoAttr; (try dsimp only); k_is)
    (case tn1 => unfold L2.NoAttr; (try dsimp only); k_is)
    (case q01 => (try dsimp only); k_is)
    (case q02 => (try dsimp only); k_is)
    (case q03 => (try dsimp only); k_is)
    (case q11 => (try dsimp only); k_is)
    (case q12 => (try dsimp only); k_is)
    (case q13 => (try dsimp only); k_is)
    (case q21 => (try dsimp only); k_is)
    (case q22 => (try dsimp only); k_is)
    (case q23 => (try dsimp only); k_is)
    (case q24 => (try dsimp only); k_is)
    (case q31 => (try dsimp only); k_is)
    (case q32 => (try dsimp only); k_is)
    (case q33 => (try dsimp only); k_is)
    (case q34 => (try dsimp only); k_is)
    (case q41 => (try dsimp only); k_is)
    (case q42 => (try dsimp only); k_is)
    (case q43 => (try dsimp only); k_is)
    (case q44 => (try dsimp only); k_is)
    (case q51 => (try dsimp only); k_is)
    (case q52 => (try dsimp only); k_is)
    (case q53 => (try dsimp only); k_is)
    (case q54 => (try dsimp only); k_is)
    (case q61 => (try dsimp only); k_is)
    (case q62 => (try dsimp only); k_is)
    (case q63 => (try dsimp only); k_is)
    (case q64 => (try dsimp only); k_is)
    (case q71 => (try dsimp only); k_is)
    (case q72 => (try dsimp only); k_is)
    (case q73 => (try dsimp only); k_is)
    (case q74 => (try dsimp only); k_is)
    (case q81 => (try dsimp only); k_is)
    (case q82 => (try dsimp only); k_is)
    (case q83 => (try dsimp only); k_is)
    (case q84 => (try dsimp only); k_is)
    (case q91 => (try dsimp only); k_is)
    (case q92 => (try dsimp only); k_is)
    (case q93 => (try dsimp only); k_is)
    (case q94 => (try dsimp only); k_is)
