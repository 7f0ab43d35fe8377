import PyProof.Rows.All
import Wide.All
import OpenK.AllK
import Wide.FinOn
import HandS.ForMost
import HandS.Walk
import HandS.Evl
import HandS.IsInst
import HandS.Style
import HandS.Conv
import PyProof.Draws
import PyProof.EnumMake
import HandS.ForExc
import HandS.ExcIs
import HandS.SetFor
import HandS.Strs
import HandS.Zip
import HandS.Dict
import HandS.Ends
import PySem.Challenge.RW_bracketmend_k04_whole_rounds
set_option Elab.async false
set_option linter.all false
set_option maxRecDepth 100000
set_option maxHeartbeats 4000000
namespace BM
open PySem L2 Evl
/-- what a def knows of the heap beyond what it began with: own objects, tuples -/
structure Ld where
  L : List (Addr × HO)
  T : List (Addr × List V)
structure Own (H0 H : Hp) (s : Ld) : Prop where
  ex : Ex H0 H
  nd : (s.L.map (·.1)).Nodup
  own : ∀ e ∈ s.L, H0 e.1 = none ∧ H e.1 = some e.2
  tp : ∀ t ∈ s.T, H t.1 = some (.tup t.2)
theorem Own.start (H : Hp) : Own H H ⟨[], []⟩ := ⟨Ex.refl H, List.nodup_nil, (fun _ h => nomatch h), (fun _ h => nomatch h)⟩
theorem Own.ext {H0 H H' : Hp} {s : Ld} (o : Own H0 H s) (e : Ex H H') : Own H0 H' s :=
  ⟨o.ex.trans e, o.nd, fun x hx => ⟨(o.own x hx).1, e _ _ (o.own x hx).2⟩, fun t ht => e _ _ (o.tp t ht)⟩
theorem Own.new {H0 H : Hp} {s : Ld} {p : Addr} {u : HO} (o : Own H0 H s) (hp : H p = none) : Own H0 (upd H p u) ⟨(p, u) :: s.L, s.T⟩ := by
  have e : Ex H (upd H p u) := Ex.new hp
  refine ⟨o.ex.trans e, ?_, ?_, fun t ht => e _ _ (o.tp t ht)⟩
  · refine List.nodup_cons.mpr ⟨fun h => ?_, o.nd⟩
    obtain ⟨x, hx, rfl⟩ := List.mem_map.mp h
    rw [(o.own x hx).2] at hp
    cases hp
  · intro x hx
    rcases List.mem_cons.mp hx with rfl | hx
    · exact ⟨fresh_back o.ex hp, upd_same⟩
    · exact ⟨(o.own x hx).1, e _ _ (o.own x hx).2⟩
/-- a new object behind an extension -/
theorem Own.newE {H0 H H' : Hp} {s : Ld} {p : Addr} {u : HO} (o : Own H0 H s) (hp : H p = none) (e : Ex H H') (h : H' p = some u) : Own H0 H' ⟨(p, u) :: s.L, s.T⟩ := by
  refine ⟨o.ex.trans e, ?_, ?_, fun t ht => e _ _ (o.tp t ht)⟩
  · refine List.nodup_cons.mpr ⟨fun h => ?_, o.nd⟩
    obtain ⟨x, hx, rfl⟩ := List.mem_map.mp h
    rw [(o.own x hx).2] at hp
    cases hp
  · intro x hx
    rcases List.mem_cons.mp hx with rfl | hx
    · exact ⟨fresh_back o.ex hp, h⟩
    · exact ⟨(o.own x hx).1, e _ _ (o.own x hx).2⟩
theorem Own.newT {H0 H : Hp} {s : Ld} {p : Addr} {xs : List V} (o : Own H0 H s) (hp : H p = none) : Own H0 (upd H p (.tup xs)) ⟨s.L, (p, xs) :: s.T⟩ := by
  have e : Ex H (upd H p (.tup xs)) := Ex.new hp
  refine ⟨o.ex.trans e, o.nd, fun x hx => ⟨(o.own x hx).1, e _ _ (o.own x hx).2⟩, ?_⟩
  intro t ht
  rcases List.mem_cons.mp ht with rfl | ht
  · exact upd_same
  · exact e _ _ (o.tp t ht)
theorem Own.moreT {H0 H : Hp} {s : Ld} (o : Own H0 H s) {ts : List (Addr × List V)} (h : ∀ t ∈ ts, H t.1 = some (.tup t.2)) : Own H0 H ⟨s.L, ts ++ s.T⟩ :=
  ⟨o.ex, o.nd, o.own, fun t ht => by
    rcases List.mem_append.mp ht with h1 | h1
    · exact h t h1
    · exact o.tp t h1⟩
theorem Own.dropL {H0 H : Hp} {s : Ld} (o : Own H0 H s) {L : List (Addr × HO)} {T : List (Addr × List V)} (hL : L.Sublist s.L) (hT : T ⊆ s.T) : Own H0 H ⟨L, T⟩ :=
  ⟨o.ex, (hL.map (·.1)).nodup o.nd, fun e he => o.own e (hL.subset he), fun t ht => o.tp t (hT ht)⟩
/-- less is known -/
structure Sub (s0 s : Ld) : Prop where
  l : s0.L.Sublist s.L
  t : s0.T.Sublist s.T
theorem Sub.refl (s : Ld) : Sub s s := ⟨List.Sublist.refl _, List.Sublist.refl _⟩
theorem Own.sub {H0 H : Hp} {s s0 : Ld} (o : Own H0 H s) (h : Sub s0 s) : Own H0 H s0 := o.dropL h.l h.t.subset
/-- one own object changed -/
inductive Swap (p : Addr) (o o' : HO) : List (Addr × HO) → List (Addr × HO) → Prop where
  | here {L} : Swap p o o' ((p, o) :: L) ((p, o') :: L)
  | there {e L L'} : Swap p o o' L L' → Swap p o o' (e :: L) (e :: L')
theorem Swap.keys {p : Addr} {o o' : HO} {L L' : List (Addr × HO)} (h : Swap p o o' L L') : L'.map (·.1) = L.map (·.1) := by
  induction h with
  | here => rfl
  | there _ ih => rw [List.map_cons, List.map_cons, ih]
theorem Swap.mem {p : Addr} {o o' : HO} {L L' : List (Addr × HO)} (h : Swap p o o' L L') : (p, o) ∈ L := by
  induction h with
  | here => exact List.mem_cons_self
  | there _ ih => exact List.mem_cons_of_mem _ ih
theorem Swap.of_mem {p : Addr} {o o' : HO} {L L' : List (Addr × HO)} (h : Swap p o o' L L') (nd : (L.map (·.1)).Nodup) : ∀ e ∈ L', e = (p, o') ∨ (e ∈ L ∧ e.1 ≠ p) := by
  induction h with
  | @here L =>
    intro e he
    rcases List.mem_cons.mp he with rfl | he
    · exact .inl rfl
    · refine .inr ⟨List.mem_cons_of_mem _ he, fun z => ?_⟩
      rw [List.map_cons] at nd
      exact (List.nodup_cons.mp nd).1 (List.mem_map.mpr ⟨e, he, z⟩)
  | @there x L L' h ih =>
    rw [List.map_cons] at nd
    have nd' := List.nodup_cons.mp nd
    intro e he
    rcases List.mem_cons.mp he with rfl | he
    · refine .inr ⟨List.mem_cons_self, fun z => ?_⟩
      refine nd'.1 (List.mem_map.mpr ⟨(p, o), h.mem, z.symm⟩)
    · rcases ih nd'.2 e he with r | ⟨r, r'⟩
      · exact .inl r
      · exact .inr ⟨List.mem_cons_of_mem _ r, r'⟩
def NotTup : HO → Prop
  | .tup _ => False
  | _ => True
theorem Own.swap {H0 H : Hp} {s : Ld} {p : Addr} {u u' : HO} {L' : List (Addr × HO)} (o : Own H0 H s) (h : Swap p u u' s.L L') (nt : NotTup u) : Own H0 (upd H p u') ⟨L', s.T⟩ := by
  have hp := o.own _ h.mem
  refine ⟨fun a x e => ?_, by rw [h.keys]; exact o.nd, fun e he => ?_, fun t ht => ?_⟩
  · rw [upd_ne (ne_of_none e hp.1)]
    exact o.ex _ _ e
  · rcases h.of_mem o.nd e he with rfl | ⟨he, ne⟩
    · exact ⟨hp.1, upd_same⟩
    · rw [upd_ne ne]
      exact o.own e he
  · rw [upd_ne]
    · exact o.tp t ht
    · intro z
      have h1 := o.tp t ht
      rw [z, hp.2] at h1
      cases h1
      exact nt
/-! ### lists and tuples to be read -/
def IsL (K : PySem.W.Frag) (H0 : Hp) (s : Ld) (a : Addr) (xs : List V) : Prop := ∀ H, Own H0 H s → SqL K H a xs
def IsT (K : PySem.W.Frag) (H0 : Hp) (s : Ld) (a : Addr) (xs : List V) : Prop := ∀ H, Own H0 H s → SqT K H a xs
section
variable {K : PySem.W.Frag} {H0 : Hp} {s : Ld} {a : Addr} {xs : List V}
theorem isL_own (h : (a, HO.lst xs) ∈ s.L) : IsL K H0 s a xs := fun H o => sq_of (o.own _ h).2
theorem isL_old (h : SqL K H0 a xs) : IsL K H0 s a xs := fun H o => ex_l o.ex h
theorem isT_own (h : (a, xs) ∈ s.T) : IsT K H0 s a xs := fun H o => st_of (o.tp _ h)
theorem isT_old (h : SqT K H0 a xs) : IsT K H0 s a xs := fun H o => ex_t o.ex h
end
/-! ### what is asked, over the own objects -/
def WE (H0 : Hp) (t : TE) (σ : L2.St) (s : Ld) (Q : V → Ld → Prop) : Prop := ∀ H, Own H0 H s → ∀ R : VK, (∀ v H' s', Own H0 H' s' → Q v s' → R v H') → t σ H R
def WT (H0 : Hp) (t : TT) (σ : L2.St) (s : Ld) (Q : Bool → Ld → Prop) : Prop := ∀ H, Own H0 H s → ∀ R : Bool → Hp → Prop, (∀ v H' s', Own H0 H' s' → Q v s' → R v H') → t σ H R
def WA (H0 : Hp) (t : TA) (σ : L2.St) (s : Ld) (Q : List V → Ld → Prop) : Prop := ∀ H, Own H0 H s → ∀ R : List V → Hp → Prop, (∀ v H' s', Own H0 H' s' → Q v s' → R v H') → t σ H R
def WO (H0 : Hp) (t : TO) (σ : L2.St) (s : Ld) (Q : Option Int → Ld → Prop) : Prop := ∀ H, Own H0 H s → ∀ R : Option Int → Hp → Prop, (∀ v H' s', Own H0 H' s' → Q v s' → R v H') → t σ H R
def W2 (H0 : Hp) (r : R2) (x y : V) (s : Ld) (Q : V → Ld → Prop) : Prop := ∀ H, Own H0 H s → ∀ R : VK, (∀ v H' s', Own H0 H' s' → Q v s' → R v H') → r x y H R
def W1 (H0 : Hp) (r : V → Hp → VK → Prop) (x : V) (s : Ld) (Q : V → Ld → Prop) : Prop := ∀ H, Own H0 H s → ∀ R : VK, (∀ v H' s', Own H0 H' s' → Q v s' → R v H') → r x H R
def WL (H0 : Hp) (r : List V → Hp → VK → Prop) (xs : List V) (s : Ld) (Q : V → Ld → Prop) : Prop := ∀ H, Own H0 H s → ∀ R : VK, (∀ v H' s', Own H0 H' s' → Q v s' → R v H') → r xs H R
def WM (H0 : Hp) (r : V → List V → Hp → VK → Prop) (x : V) (xs : List V) (s : Ld) (Q : V → Ld → Prop) : Prop := ∀ H, Own H0 H s → ∀ R : VK, (∀ v H' s', Own H0 H' s' → Q v s' → R v H') → r x xs H R
def WSl (H0 : Hp) (r : V → Option Int → Option Int → Hp → VK → Prop) (x : V) (lo hi : Option Int) (s : Ld) (Q : V → Ld → Prop) : Prop := ∀ H, Own H0 H s → ∀ R : VK, (∀ v H' s', Own H0 H' s' → Q v s' → R v H') → r x lo hi H R
def WC (H0 : Hp) (sp : Sp) (E : XK) (vs : List V) (s : Ld) (Q : V → Ld → Prop) : Prop := ∀ H, Own H0 H s → ∀ R : VK, (∀ v H' s', Own H0 H' s' → Q v s' → R v H') → sp vs H R E
def WSet (H0 : Hp) (r : TSet) (o i v : V) (s : Ld) (Q : Ld → Prop) : Prop := ∀ H, Own H0 H s → ∀ R : Hp → Prop, (∀ H' s', Own H0 H' s' → Q s' → R H') → r o i v H R
def WG (H0 : Hp) (g : TG) (v : V) (σ : L2.St) (s : Ld) (Q : L2.St → Ld → Prop) : Prop := ∀ H, Own H0 H s → ∀ R : L2.St → Hp → Prop, (∀ σ' H' s', Own H0 H' s' → Q σ' s' → R σ' H') → g v σ H R
def WGs (H0 : Hp) (g : TGs) (vs : List V) (σ : L2.St) (s : Ld) (Q : L2.St → Ld → Prop) : Prop := ∀ H, Own H0 H s → ∀ R : L2.St → Hp → Prop, (∀ σ' H' s', Own H0 H' s' → Q σ' s' → R σ' H') → g vs σ H R
def WI (H0 : Hp) (wi : TI) (σ : L2.St) (s : Ld) (Q : It → Ld → Prop) : Prop := ∀ H, Own H0 H s → ∀ R : It → Hp → Prop, (∀ J H' s', Own H0 H' s' → Q J s' → R J H') → wi σ H R
structure Dl where
  nx : L2.St → Ld → Prop
  rt : V → Ld → Prop
  bk : L2.St → Ld → Prop := fun _ _ => False
  ct : L2.St → Ld → Prop := fun _ _ => False
structure Low (H0 : Hp) (D : Dl) (E : Ends) : Prop where
  nx : ∀ σ H s, Own H0 H s → D.nx σ s → E.nx σ H
  rt : ∀ v H s, Own H0 H s → D.rt v s → E.rt v H
  bk : ∀ σ H s, Own H0 H s → D.bk σ s → E.bk σ H
  ct : ∀ σ H s, Own H0 H s → D.ct σ s → E.ct σ H
def WS (H0 : Hp) (t : TS) (σ : L2.St) (s : Ld) (D : Dl) : Prop := ∀ H, Own H0 H s → ∀ E : Ends, Low H0 D E → t E σ H
section
variable {K : PySem.W.Frag} {H0 : Hp} {σ : L2.St} {s : Ld} {ta tb te tl : TE} {t u : TT} {tr : TA} {x y z v : V} {r : R2} {Q : V → Ld → Prop} {D : Dl} {t1 t2 : TS} {g : TG}
/-! ### values -/
theorem we_var {i : Nat} (h : σ[i]? = some (some v)) (q : Q v s) : WE H0 (tVar i) σ s Q := fun H o R k => ⟨v, h, k v H s o q⟩
theorem we_c (q : Q v s) : WE H0 (tC v) σ s Q := fun H o R k => k v H s o q
theorem we_op (h : WE H0 ta σ s fun x s1 => WE H0 tb σ s1 fun y s2 => W2 H0 r x y s2 Q) : WE H0 (tOp r ta tb) σ s Q := fun H o R k =>
  h H o _ fun x H1 s1 o1 h1 => h1 H1 o1 _ fun y H2 s2 o2 h2 => h2 H2 o2 R k
theorem we_un {r : V → Hp → VK → Prop} (h : WE H0 ta σ s fun x s1 => W1 H0 r x s1 Q) : WE H0 (tUn r ta) σ s Q := fun H o R k =>
  h H o _ fun x H1 s1 o1 h1 => h1 H1 o1 R k
theorem we_if {c : TT} (h : WT H0 c σ s fun b s1 => (b = true → WE H0 ta σ s1 Q) ∧ (b = false → WE H0 tb σ s1 Q)) : WE H0 (tIf c ta tb) σ s Q := fun H o R k =>
  h H o _ fun b H1 s1 o1 h1 => by
    cases b with
    | true => exact h1.1 rfl H1 o1 R k
    | false => exact h1.2 rfl H1 o1 R k
theorem we_and (h : WE H0 ta σ s fun x s1 => ∃ c, x = .bl c ∧ (c = true → WE H0 tb σ s1 Q) ∧ (c = false → Q (.bl false) s1)) : WE H0 (tAndV ta tb) σ s Q := fun H o R k =>
  h H o _ fun x H1 s1 o1 ⟨c, e, h1, h2⟩ => ⟨c, e, by
    cases c with
    | true => exact h1 rfl H1 o1 R k
    | false => exact k _ H1 s1 o1 (h2 rfl)⟩
theorem we_or (h : WE H0 ta σ s fun x s1 => ∃ c, x = .bl c ∧ (c = true → Q (.bl true) s1) ∧ (c = false → WE H0 tb σ s1 Q)) : WE H0 (tOrV ta tb) σ s Q := fun H o R k =>
  h H o _ fun x H1 s1 o1 ⟨c, e, h2, h1⟩ => ⟨c, e, by
    cases c with
    | true => exact k _ H1 s1 o1 (h2 rfl)
    | false => exact h1 rfl H1 o1 R k⟩
theorem we_or_val {b1 b2 : Bool} (ha : ∀ Q : V → Ld → Prop, Q (.bl b1) s → WE H0 ta σ s Q) (hb : ∀ Q : V → Ld → Prop, Q (.bl b2) s → WE H0 tb σ s Q) (q : Q (.bl (b1 || b2)) s) : WE H0 (tOrV ta tb) σ s Q :=
  we_or (ha _ ⟨b1, rfl, by
    cases b1
    · exact ⟨(fun h => nomatch h), fun _ => hb _ q⟩
    · exact ⟨fun _ => q, (fun h => nomatch h)⟩⟩)
theorem we_not (h : WE H0 ta σ s fun x s1 => ∃ c, x = .bl c ∧ Q (.bl (!c)) s1) : WE H0 (tNotV ta) σ s Q := fun H o R k =>
  h H o _ fun x H1 s1 o1 ⟨c, e, h1⟩ => ⟨c, e, k _ H1 s1 o1 h1⟩
theorem wa_nil {Q : List V → Ld → Prop} (q : Q [] s) : WA H0 tNil σ s Q := fun H o R k => k [] H s o q
theorem wa_cons {Q : List V → Ld → Prop} (h : WE H0 ta σ s fun x s1 => WA H0 tr σ s1 fun xs s2 => Q (x :: xs) s2) : WA H0 (tCons ta tr) σ s Q := fun H o R k =>
  h H o _ fun x H1 s1 o1 h1 => h1 H1 o1 _ fun xs H2 s2 o2 h2 => k _ H2 s2 o2 h2
theorem we_lst {ta : TA} (h : WA H0 ta σ s fun xs s1 => xs.length ≤ 100000 ∧ ∀ p, H0 p = none → Q (.ref p) ⟨(p, .lst xs) :: s1.L, s1.T⟩) : WE H0 (tLst ta) σ s Q := fun H o R k =>
  h H o _ fun xs H1 s1 o1 ⟨hl, h1⟩ => ⟨sz_of hl, fun p hp => k _ _ _ (o1.new hp) (h1 p (fresh_back o1.ex hp))⟩
theorem we_tup {ta : TA} (h : WA H0 ta σ s fun xs s1 => xs.length ≤ 100000 ∧ ∀ p, H0 p = none → Q (.ref p) ⟨s1.L, (p, xs) :: s1.T⟩) : WE H0 (tTup ta) σ s Q := fun H o R k =>
  h H o _ fun xs H1 s1 o1 ⟨hl, h1⟩ => ⟨sz_of hl, fun p hp => k _ _ _ (o1.newT hp) (h1 p (fresh_back o1.ex hp))⟩
theorem we_cb {r : List V → Hp → VK → Prop} {ta : TA} (h : WA H0 ta σ s fun xs s1 => WL H0 r xs s1 Q) : WE H0 (tCB r ta) σ s Q := fun H o R k =>
  h H o _ fun xs H1 s1 o1 h1 => h1 H1 o1 R k
theorem we_sl {r : V → Option Int → Option Int → Hp → VK → Prop} {tl th : TO} (h : WE H0 te σ s fun x s1 => WO H0 tl σ s1 fun l s2 => WO H0 th σ s2 fun u s3 => WSl H0 r x l u s3 Q) : WE H0 (tSl r te tl th) σ s Q := fun H o R k =>
  h H o _ fun x H1 s1 o1 h1 => h1 H1 o1 _ fun l H2 s2 o2 h2 => h2 H2 o2 _ fun u H3 s3 o3 h3 => h3 H3 o3 R k
theorem wo_none {Q : Option Int → Ld → Prop} (q : Q none s) : WO H0 tNoPart σ s Q := fun H o R k => k none H s o q
theorem wo_some {Q : Option Int → Ld → Prop} (h : WE H0 te σ s fun x s1 => ∃ i, x = .int i ∧ Q (some i) s1) : WO H0 (tPart te) σ s Q := fun H o R k =>
  h H o _ fun x H1 s1 o1 ⟨i, e, h1⟩ => ⟨i, e, k _ H1 s1 o1 h1⟩
/-! ### tests -/
theorem wt_test {Q : Bool → Ld → Prop} (h : WE H0 te σ s fun x s1 => ∃ b, x = .bl b ∧ Q b s1) : WT H0 (tTest te) σ s Q := fun H o R k =>
  h H o _ fun x H1 s1 o1 ⟨b, e, h1⟩ => ⟨b, e, k _ H1 s1 o1 h1⟩
theorem wt_B {Q : Bool → Ld → Prop} (h : WE H0 te σ s fun x s1 => ∃ b, x = .bl b ∧ Q b s1) : WT H0 (tB te) σ s Q := fun H o R k =>
  h H o _ fun x H1 s1 o1 ⟨b, e, h1⟩ => ⟨b, e, k _ H1 s1 o1 h1⟩
theorem wt_and {Q : Bool → Ld → Prop} (h : WT H0 t σ s fun b s1 => (b = true → WT H0 u σ s1 Q) ∧ (b = false → Q false s1)) : WT H0 (tAnd t u) σ s Q := fun H o R k =>
  h H o _ fun b H1 s1 o1 h1 => by
    cases b with
    | true => exact h1.1 rfl H1 o1 R k
    | false => exact k _ H1 s1 o1 (h1.2 rfl)
theorem wt_or {Q : Bool → Ld → Prop} (h : WT H0 t σ s fun b s1 => (b = true → Q true s1) ∧ (b = false → WT H0 u σ s1 Q)) : WT H0 (tOr t u) σ s Q := fun H o R k =>
  h H o _ fun b H1 s1 o1 h1 => by
    cases b with
    | true => exact k _ H1 s1 o1 (h1.1 rfl)
    | false => exact h1.2 rfl H1 o1 R k
theorem wt_not {Q : Bool → Ld → Prop} (h : WT H0 t σ s fun b s1 => Q (!b) s1) : WT H0 (tNot t) σ s Q := fun H o R k =>
  h H o _ fun b H1 s1 o1 h1 => k _ H1 s1 o1 h1
theorem we_chain {r r' : R2} {tc : TE} (h : WE H0 ta σ s fun x s1 => WE H0 tb σ s1 fun y s2 => W2 H0 r x y s2 fun z s3 => ∃ c, z = .bl c ∧ (c = true → WE H0 tc σ s3 fun w s4 => W2 H0 r' y w s4 Q) ∧ (c = false → Q (.bl false) s3)) : WE H0 (tChain r r' ta tb tc) σ s Q := fun H o R k =>
  h H o _ fun x H1 s1 o1 h1 => h1 H1 o1 _ fun y H2 s2 o2 h2 => h2 H2 o2 _ fun z H3 s3 o3 ⟨c, e, h3, h4⟩ => ⟨c, e, by
    cases c with
    | true => exact h3 rfl H3 o3 _ fun w H4 s4 o4 h5 => h5 H4 o4 R k
    | false => exact k _ H3 s3 o3 (h4 rfl)⟩
/-! ### statements -/
theorem ws_seq (h : WS H0 t1 σ s { D with nx := fun σ' s' => WS H0 t2 σ' s' D }) : WS H0 (tSeq t1 t2) σ s D := fun H o E l =>
  h H o _ ⟨fun σ' H' s' o' h' => h' H' o' E l, l.rt, l.bk, l.ct⟩
theorem ws_next (q : D.nx σ s) : WS H0 tNext σ s D := fun H o E l => l.nx σ H s o q
theorem ws_brk (q : D.bk σ s) : WS H0 tBreak σ s D := fun H o E l => l.bk σ H s o q
theorem ws_cont (q : D.ct σ s) : WS H0 tCont σ s D := fun H o E l => l.ct σ H s o q
theorem ws_drop (h : WE H0 te σ s fun _ s1 => D.nx σ s1) : WS H0 (tDrop te) σ s D := fun H o E l => h H o _ fun v H1 s1 o1 h1 => l.nx σ H1 s1 o1 h1
theorem ws_ret (h : WE H0 te σ s D.rt) : WS H0 (tRet te) σ s D := fun H o E l => h H o _ fun v H1 s1 o1 h1 => l.rt v H1 s1 o1 h1
theorem ws_if {c : TT} (h : WT H0 c σ s fun b s1 => (b = true → WS H0 t1 σ s1 D) ∧ (b = false → WS H0 t2 σ s1 D)) : WS H0 (tIfS c t1 t2) σ s D := fun H o E l =>
  h H o _ fun b H1 s1 o1 h1 => by
    cases b with
    | true => exact h1.1 rfl H1 o1 E l
    | false => exact h1.2 rfl H1 o1 E l
theorem ws_asg (h : WE H0 te σ s fun x s1 => WG H0 g x σ s1 D.nx) : WS H0 (tAsg te g) σ s D := fun H o E l =>
  h H o _ fun x H1 s1 o1 h1 => h1 H1 o1 _ fun σ' H' s' o' q => l.nx σ' H' s' o' q
theorem ws_set {i : Nat} (h : WE H0 te σ s fun x s1 => D.nx (σ.set i (some x)) s1) : WS H0 (tAsg te (gName i)) σ s D := fun H o E l =>
  h H o _ fun x H1 s1 o1 h1 => l.nx _ H1 s1 o1 h1
theorem ws_par {i j : Nat} {ta : TA} (h : WA H0 ta σ s fun vs s1 => ∃ v w, vs = [v, w] ∧ D.nx ((σ.set i (some v)).set j (some w)) s1) : WS H0 (tPar i j ta) σ s D := fun H o E l =>
  h H o _ fun vs H1 s1 o1 ⟨v, w, e, h1⟩ => ⟨v, w, e, l.nx _ H1 s1 o1 h1⟩
theorem wg_name {i : Nat} {Q : L2.St → Ld → Prop} (q : Q (σ.set i (some v)) s) : WG H0 (gName i) v σ s Q := fun H o R k => k _ H s o q
theorem wg_tup {n : Nat} {g : TGs} {a : Addr} {xs : List V} {Q : L2.St → Ld → Prop} (ht : IsT K H0 s a xs) (hn : xs.length = n) (h : WGs H0 g xs σ s Q) : WG H0 (gTup K n g) (.ref a) σ s Q := fun H o R k =>
  ⟨a, xs, rfl, ht H o, hn, h H o R k⟩
theorem wgs_nil {Q : L2.St → Ld → Prop} (q : Q σ s) : WGs H0 gNil [] σ s Q := fun H o R k => ⟨rfl, k _ H s o q⟩
theorem wgs_cons {g : TG} {gs : TGs} {vs : List V} {Q : L2.St → Ld → Prop} (h : WG H0 g v σ s fun σ1 s1 => WGs H0 gs vs σ1 s1 Q) : WGs H0 (gCons g gs) (v :: vs) σ s Q := fun H o R k =>
  ⟨v, vs, rfl, h H o _ fun σ1 H1 s1 o1 h1 => h1 H1 o1 R k⟩
theorem wg_sub {to ti : TE} {ts : TSet} {Q : L2.St → Ld → Prop} (h : WE H0 to σ s fun o s1 => WE H0 ti σ s1 fun i s2 => WSet H0 ts o i v s2 fun s3 => Q σ s3) : WG H0 (gSub to ti ts) v σ s Q := fun H o R k =>
  h H o _ fun x H1 s1 o1 h1 => h1 H1 o1 _ fun y H2 s2 o2 h2 => h2 H2 o2 _ fun H3 s3 o3 q => k _ H3 s3 o3 q
theorem spl_t {c : Bool} {A B : Prop} (hc : c = true) (h : A) : (c = true → A) ∧ (c = false → B) := ⟨fun _ => h, fun e => absurd (hc.symm.trans e) (by decide)⟩
theorem spl_f {c : Bool} {A B : Prop} (hc : c = false) (h : B) : (c = true → A) ∧ (c = false → B) := ⟨fun e => absurd (hc.symm.trans e) (by decide), fun _ => h⟩
/-! ### loops -/
theorem ws_weak {s0 : Ld} (hs : Sub s0 s) (h : WS H0 t1 σ s0 D) : WS H0 t1 σ s D := fun H o E l => h H (o.sub hs) E l
theorem ws_cut (M : L2.St → Ld → Prop) (h : WS H0 t1 σ s { D with nx := fun σ' s' => ∃ s0, Sub s0 s' ∧ M σ' s0 }) (k : ∀ σ' s', M σ' s' → WS H0 t2 σ' s' D) : WS H0 (tSeq t1 t2) σ s D := fun H o E l =>
  h H o _ ⟨(fun σ' H' s' o' ⟨s0, hs0, q⟩ => k σ' s0 q H' (o'.sub hs0) E l), l.rt, l.bk, l.ct⟩
/-- a loop's turn: what follows the body -/
def turnD (D : Dl) (J : L2.St → Ld → Prop) : Dl := { nx := fun σ' s' => ∃ s0, Sub s0 s' ∧ J σ' s0, ct := fun σ' s' => ∃ s0, Sub s0 s' ∧ J σ' s0, bk := D.nx, rt := D.rt }
def LoopOk (H0 : Hp) (J : It) (g : TG) (tb : TS) (σ : L2.St) (s : Ld) (D : Dl) : Prop := ∃ n G Y, Walk J n G Y ∧ ∃ I : Nat → L2.St → Ld → Prop, I 0 σ s ∧ (∀ i σ s H, i ≤ n → I i σ s → Own H0 H s → G H) ∧
    (∀ i x σ s H H', i < n → I i σ s → Own H0 H s → Y i H x H' → ∃ s', Own H0 H' s' ∧ WG H0 g x σ s' fun σ2 s2 => WS H0 tb σ2 s2 (turnD D (I (i + 1)))) ∧ (∀ σ s, I n σ s → D.nx σ s)
theorem ws_for {wi : TI} {tb : TS} (h : WI H0 wi σ s fun J s1 => LoopOk H0 J g tb σ s1 D) : WS H0 (tFor wi g tb) σ s D := fun H o E l => by
  refine h H o _ ?_
  rintro J H1 s1 o1 ⟨n, G, Y, w, I, h0, hG, hs, hd⟩
  refine for_it w (fun i σ H => ∃ s, Own H0 H s ∧ I i σ s) ⟨s1, o1, h0⟩ ?_ ?_ ?_
  · rintro i σ H hi ⟨s, o, q⟩
    exact hG i σ s H hi q o
  · rintro i x σ H H' hi ⟨s, o, q⟩ y
    obtain ⟨s', o', q'⟩ := hs i x σ s H H' hi q o y
    refine q' H' o' _ fun σ2 H2 s2 o2 h2 => ?_
    refine h2 H2 o2 _ ⟨fun σ' H' s' o' ⟨s0, hs0, q⟩ => ⟨s0, o'.sub hs0, q⟩, l.rt, fun σ' H' s' o' q => l.nx σ' H' s' o' q, fun σ' H' s' o' ⟨s0, hs0, q⟩ => ⟨s0, o'.sub hs0, q⟩⟩
  · rintro σ H ⟨s, o, q⟩
    exact l.nx σ H s o (hd σ s q)
def CompOk (H0 : Hp) (J : It) (g : TG) (tt : TT) (te : TE) (σ : L2.St) (vs : List Nat) (s1 : Ld) (Q : V → Ld → Prop) : Prop := ∃ n G Y, Walk J n G Y ∧ ∀ D, H0 D = none → ∃ I : Nat → Ld → Prop, I 0 ⟨(D, .lst []) :: s1.L, s1.T⟩ ∧ (∀ i s H, i ≤ n → I i s → Own H0 H s → G H) ∧
    (∀ i x s H H', i < n → I i s → Own H0 H s → Y i H x H' → ∃ s', Own H0 H' s' ∧ WG H0 g x (wipe σ vs) s' fun σ2 s2 => wipe σ2 vs = wipe σ vs ∧ WT H0 tt σ2 s2 fun b s3 =>
      (b = true → WE H0 te σ2 s3 fun y s4 => ∃ acc L' s0, Swap D (.lst acc) (.lst (acc ++ [y])) s4.L L' ∧ acc.length < 100000 ∧ Sub s0 ⟨L', s4.T⟩ ∧ I (i + 1) s0) ∧ (b = false → ∃ s0, Sub s0 s3 ∧ I (i + 1) s0)) ∧ (∀ s, I n s → Q (.ref D) s)
theorem we_lc {wi : TI} {tt : TT} {vs : List Nat} (h : WI H0 wi σ s fun J s1 => CompOk H0 J g tt te σ vs s1 Q) : WE H0 (tLc wi g tt te vs) σ s Q := fun H o R k => by
  refine h H o _ ?_
  rintro J H1 s1 o1 ⟨n, G, Y, w, h1⟩ D hD
  obtain ⟨I, h0, hG, hs, hd⟩ := h1 D (fresh_back o1.ex hD)
  refine lc_it w (fun i H => ∃ s, Own H0 H s ∧ I i s) ⟨_, o1.new hD, h0⟩ ?_ ?_ ?_
  · rintro i H hi ⟨s, o, q⟩
    exact hG i s H hi q o
  · rintro i x H H' hi ⟨s, o, q⟩ y
    obtain ⟨s', o', q'⟩ := hs i x s H H' hi q o y
    refine q' H' o' _ fun σ2 H2 s2 o2 h2 => ⟨h2.1, h2.2 H2 o2 _ fun b H3 s3 o3 h3 => ?_⟩
    cases b with
    | true =>
      rw [if_pos rfl]
      refine h3.1 rfl H3 o3 _ ?_
      rintro y H4 s4 o4 ⟨acc, L', s0, sw, hl, hs0, q⟩
      exact ⟨acc, (o4.own _ sw.mem).2, sz_lt hl, s0, (o4.swap sw trivial).sub hs0, q⟩
    | false =>
      rw [if_neg Bool.false_ne_true]
      obtain ⟨s0, hs0, q⟩ := h3.2 rfl
      exact ⟨s0, o3.sub hs0, q⟩
  · rintro H ⟨s, o, q⟩
    exact k _ H s o (hd s q)
end
end BM
namespace BM
open PySem L2 Evl
/-! ### rows as lists of truths -/
def B (b : Bool) : Nat := if b then 40 else 41
def T (r : List Bool) : Str := ⟨(r.map B).toArray⟩
theorem T_len (r : List Bool) : (T r).length = r.length := by
  show (r.map B).toArray.size = _
  simp
theorem T_list (r : List Bool) : (T r).cps.toList = r.map B := by
  show (r.map B).toArray.toList = _
  simp
theorem B_inj {a b : Bool} (h : B a = B b) : a = b := by
  cases a <;> cases b <;> first | rfl | (exact absurd h (by decide))
theorem T_inj {r u : List Bool} (h : T r = T u) : r = u := by
  have h1 : (T r).cps.toList = (T u).cps.toList := by rw [h]
  rw [T_list, T_list] at h1
  induction r generalizing u with
  | nil =>
    cases u with
    | nil => rfl
    | cons b u => simp at h1
  | cons a r ih =>
    cases u with
    | nil => simp at h1
    | cons b u =>
      simp only [List.map_cons, List.cons.injEq] at h1
      rw [B_inj h1.1]
      have h2 : T r = T u := by
        unfold T
        rw [h1.2]
      rw [ih h2 h1.2]
theorem T_eq {r u : List Bool} : (T r = T u) ↔ r = u := ⟨T_inj, fun h => by rw [h]⟩
theorem tV_eq {r u : List Bool} : (V.str (T r) = V.str (T u)) ↔ r = u := ⟨fun h => T_inj (V.str.inj h), fun h => by rw [h]⟩
theorem T_app (r u : List Bool) : T r ++ T u = T (r ++ u) := by
  apply TL.ext_tl
  rw [TL.tl_append]
  show (T r).cps.toList ++ (T u).cps.toList = (T (r ++ u)).cps.toList
  rw [T_list, T_list, T_list, List.map_append]
/-! ### constants -/
section
variable {X : Cx}
theorem pe_strT (r : List Bool) {x : Str} {j pos} (h : x = T r := by rfl) : PE X (.Constant (.str x) j pos) (tC (.str (T r))) := by
  rw [← h]
  exact pe_str
end
/-! ### operators: named readings -/
def aAdd : R2 := rI0 fun i j => .int (i + j)
def aSub : R2 := rI0 fun i j => .int (i - j)
def aMul : R2 := rI CMul fun i j => .int (i * j)
def aDiv : R2 := rI CDiv fun i j => .int (i / j)
def aMod : R2 := rI (fun _ j => 0 < j) fun i j => .int (i % j)
def aPow : R2 := rI CPow fun i j => .int (i ^ j.toNat)
def aLt : R2 := rI0 fun i j => .bl (decide (i < j))
def aLe : R2 := rI0 fun i j => .bl (decide (i ≤ j))
def aGt : R2 := rI0 fun i j => .bl (decide (j < i))
def aGe : R2 := rI0 fun i j => .bl (decide (j ≤ i))
def aCatT : R2 := fun x y H Q => ∃ r u : List Bool, x = .str (T r) ∧ y = .str (T u) ∧ r.length + u.length ≤ 100000 ∧ Q (.str (T (r ++ u))) H
def aIxT : R2 := fun x y H Q => ∃ (r : List Bool) (i : Int) (b : Bool), x = .str (T r) ∧ y = .int i ∧ r.length ≤ 100000 ∧ atI r i = some b ∧ Q (.str (T [b])) H
def aInT : R2 := fun x y H Q => ∃ (b : Bool) (r : List Bool), x = .str (T [b]) ∧ y = .str (T r) ∧ Q (.bl (decide (b ∈ r))) H
def aIsN : R2 := fun x y H Q => y = .non ∧ Q (.bl (decide (x = .non))) H
def aNotN : R2 := fun x y H Q => y = .non ∧ Q (.bl (!decide (x = .non))) H
def aIsB : R2 := fun x y H Q => ∃ a b : Bool, x = .bl a ∧ y = .bl b ∧ Q (.bl (decide (a = b))) H
def aNeg : V → Hp → VK → Prop := rU fun i => .int (-i)
def aLenL (K : PySem.W.Frag) : List V → Hp → VK → Prop := fun xs H Q => ∃ p ys, xs = [.ref p] ∧ (SqL K H p ys ∨ SqT K H p ys) ∧ Q (.int ys.length) H
def aLenT : List V → Hp → VK → Prop := fun xs H Q => ∃ r : List Bool, xs = [.str (T r)] ∧ r.length ≤ 100000 ∧ Q (.int r.length) H
def aAbs : List V → Hp → VK → Prop := fun xs H Q => ∃ i, xs = [.int i] ∧ Q (.int (if i < 0 then -i else i)) H
def aMax2 : List V → Hp → VK → Prop := fun xs H Q => ∃ i j, xs = [.int i, .int j] ∧ Q (.int (if j > i then j else i)) H
def aMin2 : List V → Hp → VK → Prop := fun xs H Q => ∃ i j, xs = [.int i, .int j] ∧ Q (.int (if j < i then j else i)) H
def aIntB : List V → Hp → VK → Prop := fun xs H Q => ∃ k : Bool, xs = [.bl k] ∧ Q (.int (if k then 1 else 0)) H
def aListOf (K : PySem.W.Frag) : List V → Hp → VK → Prop := fun xs H Q => ∃ p ys, xs = [.ref p] ∧ (SqL K H p ys ∨ SqT K H p ys) ∧ ∀ l, H l = none → Q (.ref l) (upd H l (.lst ys))
def aAll (K : PySem.W.Frag) : List V → Hp → VK → Prop := fun vs H Q => ∃ (a : Addr) (bs : List Bool), vs = [V.ref a] ∧ SqL K H a (bs.map V.bl) ∧ Q (.bl (bs.all id)) H
def aJoin (K : PySem.W.Frag) : V → List V → Hp → VK → Prop := fun x xs H Q => ∃ (p : Addr) (rs : List (List Bool)), x = .str (T []) ∧ xs = [.ref p] ∧ SqL K H p (rs.map fun r => .str (T r)) ∧ (rs.map (·.length)).sum ≤ 100000 ∧ Q (.str (T rs.flatten)) H
def cutL {α : Type} (xs : List α) (lo hi : Option Int) : List α := (xs.drop (HT.sIx xs.length 0 lo)).take (HT.sIx xs.length xs.length hi - HT.sIx xs.length 0 lo)
def aSlT : V → Option Int → Option Int → Hp → VK → Prop := fun x lo hi H Q => ∃ r : List Bool, x = .str (T r) ∧ r.length ≤ 100000 ∧ Q (.str (T (cutL r lo hi))) H
def aIsi (K : PySem.W.Frag) (u : String) : List V → Hp → VK → Prop := fun xs H Q => ∃ (x c : V) (t : Value) (b : Bool), xs = [x, c] ∧ c = .ty u ∧ TyX K H x t ∧ PySem.W.kitOne K t (.type u) = some b ∧ Q (.bl b) H
section
variable {X : Cx}
theorem o_add : OpR X (binaryOp .Add) aAdd := op_add
theorem o_sub : OpR X (binaryOp .Sub) aSub := op_sub
theorem o_mul : OpR X (binaryOp .Mult) aMul := op_mul
theorem o_div : OpR X (binaryOp .FloorDiv) aDiv := op_fdiv
theorem o_mod : OpR X (binaryOp .Mod) aMod := op_mod
theorem o_pow : OpR X (binaryOp .Pow) aPow := op_pow
theorem o_lt : OpR X (compareOp .Lt) aLt := op_lt
theorem o_le : OpR X (compareOp .LtE) aLe := op_le
theorem o_gt : OpR X (compareOp .Gt) aGt := op_gt
theorem o_ge : OpR X (compareOp .GtE) aGe := op_ge
theorem o_isN : OpR X (compareOp .Is) aIsN := op_isN
theorem o_notN : OpR X (compareOp .IsNot) aNotN := op_notN
theorem o_neg : UnR X (unaryOp .USub) aNeg := un_neg
theorem OpR.imp {f : Value → Value → Sem Value} {r r' : R2} (h : OpR X f r) (i : ∀ x y H Q, r' x y H Q → r x y H Q) : OpR X f r' := fun pins s σ H x y v u Q I rx ry q => h pins s σ H x y v u Q I rx ry (i x y H Q q)
theorem IxR.imp {r r' : R2} (h : IxR X r) (i : ∀ x y H Q, r' x y H Q → r x y H Q) : IxR X r' := fun a b pins s σ H x y v u Q I rx ry q => h a b pins s σ H x y v u Q I rx ry (i x y H Q q)
theorem CallR.imp {f : Value} {r r' : List V → Hp → VK → Prop} (h : CallR X f r) (i : ∀ x H Q, r' x H Q → r x H Q) : CallR X f r' := fun pins s σ H xs us Q I rx q => h pins s σ H xs us Q I rx (i xs H Q q)
theorem MtR.imp {id : String} {r r' : V → List V → Hp → VK → Prop} (h : MtR X id r) (i : ∀ x y H Q, r' x y H Q → r x y H Q) : MtR X id r' := fun pins s σ H x xs v us Q I rx ry q => h pins s σ H x xs v us Q I rx ry (i x xs H Q q)
theorem SlR.imp {r r' : V → Option Int → Option Int → Hp → VK → Prop} (h : SlR X r) (i : ∀ x lo hi H Q, r' x lo hi H Q → r x lo hi H Q) : SlR X r' := fun pins s σ H x v vl vu lo hi sl Q I rx hs pl pu q => h pins s σ H x v vl vu lo hi sl Q I rx hs pl pu (i x lo hi H Q q)
theorem o_catT : OpR X (binaryOp .Add) aCatT := OpR.imp op_add_str fun x y H Q ⟨r, u, e1, e2, hl, q⟩ => ⟨T r, T u, e1, e2, by rw [T_len, T_len]; exact sz_of hl, by rw [T_app]; exact q⟩
theorem x_T : IxR X aIxT := IxR.imp ix_str fun x y H Q ⟨r, i, b, e1, e2, hl, ha, q⟩ => ⟨T r, i, B b, e1, e2, by rw [T_len]; exact sz_of hl, by
  rw [T_list]
  unfold atI at ha ⊢
  rw [List.length_map]
  cases h : ixN r.length i with
  | none => rw [h] at ha; cases ha
  | some j =>
    rw [h] at ha
    show (r.map B)[j]? = _
    have ha' : r[j]? = some b := ha
    rw [List.getElem?_map, ha'] <;> rfl, q⟩
theorem o_inT : OpR X (compareOp .In) aInT := OpR.imp op_in_sign fun x y H Q ⟨b, r, e1, e2, q⟩ => ⟨B b, T r, e1, e2, by
  have e : decide (B b ∈ (T r).cps.toList) = decide (b ∈ r) := by
    rw [T_list]
    apply decide_eq_decide.mpr
    rw [List.mem_map]
    exact ⟨fun ⟨a, h, e⟩ => B_inj e ▸ h, fun h => ⟨b, h, rfl⟩⟩
  rw [e]
  exact q⟩
theorem c_len : CallR X (.builtin "len") (aLenL X.K) := call_len_seq
theorem c_lenT : CallR X (.builtin "len") aLenT := CallR.imp call_len_str fun xs H Q ⟨r, e, hl, q⟩ => ⟨T r, e, by rw [T_len]; exact sz_of hl, by rw [T_len]; exact q⟩
theorem c_abs : CallR X (.builtin "abs") aAbs := call_abs
theorem c_intB : CallR X (.type "int") aIntB := CallR.imp call_int1 fun xs H Q q => Or.inr q
theorem c_listOf : CallR X (.type "list") (aListOf X.K) := call_list_of
theorem c_all (hc : X.calm = true) : CallR X (.builtin "all") (aAll X.K) := cr_all hc
theorem T_join : ∀ rs : List (List Bool), Txt.join (T []) (rs.map T) = T rs.flatten := by
  intro rs
  rw [TL.join_eq]
  apply TL.ext_tl
  rw [TL.tl_join]
  show TL.joinL (T []).cps.toList ((rs.map T).map fun x => x.cps.toList) = (T rs.flatten).cps.toList
  rw [T_list, T_list]
  have e : ((rs.map T).map fun x => x.cps.toList) = rs.map fun r => r.map B := by
    rw [List.map_map]
    apply List.map_congr_left
    intro r _
    exact T_list r
  rw [e]
  clear e
  induction rs with
  | nil => rfl
  | cons r rs ih =>
    cases rs with
    | nil => simp [TL.joinL]
    | cons u rs =>
      rw [List.flatten_cons, List.map_append, ← ih]
      rfl
theorem m_join : MtR X "str.join" (aJoin X.K) := MtR.imp mt_join fun x xs H Q ⟨p, rs, e1, e2, h, hl, q⟩ => ⟨T [], p, rs.map T, e1, e2, Or.inl (by rw [List.map_map]; exact h), by
  rw [T_len, List.map_map]
  have e : (rs.map ((fun x => x.length) ∘ T)) = rs.map (·.length) := by
    apply List.map_congr_left
    intro r _
    exact T_len r
  rw [e]
  simp only [List.length_nil, Nat.mul_zero, Nat.add_zero]
  exact Nat.le_trans hl (by decide), by rw [T_join]; exact q⟩
theorem T_cut (r : List Bool) (lo hi : Option Int) : cutS (T r) lo hi = T (cutL r lo hi) := by
  unfold cutS cutL
  rw [T_list, T_len, ← List.map_drop, ← List.map_take]
  rfl
theorem s_T : SlR X aSlT := SlR.imp sl_str fun x lo hi H Q ⟨r, e, hl, q⟩ => ⟨T r, e, by rw [T_len]; exact sz_of hl, by rw [T_cut]; exact q⟩
theorem c_isi (u : String) : CallR X (.builtin "isinstance") (aIsi X.K u) := CallR.imp call_isi fun xs H Q ⟨x, c, t, b, e, ec, ty, k, q⟩ => ⟨x, c, t, .type u, b, e, by rw [ec]; exact .ty u, ty, k, q⟩
end
end BM
namespace BM
open PySem L2 Evl
section
variable {K : PySem.W.Frag} {H0 : Hp} {σ : L2.St} {s : Ld} {ta tb te tl : TE} {t u : TT} {tr : TA} {x y z v : V} {r : R2} {Q : V → Ld → Prop} {D : Dl} {t1 t2 : TS} {g : TG} {i j : Int}
theorem w2_add (q : Q (.int (i + j)) s) : W2 H0 aAdd (.int i) (.int j) s Q := fun H o R k => ⟨i, j, rfl, rfl, k _ H s o q⟩
theorem w2_sub (q : Q (.int (i - j)) s) : W2 H0 aSub (.int i) (.int j) s Q := fun H o R k => ⟨i, j, rfl, rfl, k _ H s o q⟩
theorem w2_mul (h : CMul i j) (q : Q (.int (i * j)) s) : W2 H0 aMul (.int i) (.int j) s Q := fun H o R k => ⟨i, j, rfl, rfl, h, k _ H s o q⟩
theorem w2_div (h : 0 < j ∧ j < 1073741824) (q : Q (.int (i / j)) s) : W2 H0 aDiv (.int i) (.int j) s Q := fun H o R k => ⟨i, j, rfl, rfl, h, k _ H s o q⟩
theorem w2_mod (h : 0 < j) (q : Q (.int (i % j)) s) : W2 H0 aMod (.int i) (.int j) s Q := fun H o R k => ⟨i, j, rfl, rfl, h, k _ H s o q⟩
theorem w2_pow (h : CPow i j) (q : Q (.int (i ^ j.toNat)) s) : W2 H0 aPow (.int i) (.int j) s Q := fun H o R k => ⟨i, j, rfl, rfl, h, k _ H s o q⟩
theorem w2_lt (q : Q (.bl (decide (i < j))) s) : W2 H0 aLt (.int i) (.int j) s Q := fun H o R k => ⟨i, j, rfl, rfl, k _ H s o q⟩
theorem w2_le (q : Q (.bl (decide (i ≤ j))) s) : W2 H0 aLe (.int i) (.int j) s Q := fun H o R k => ⟨i, j, rfl, rfl, k _ H s o q⟩
theorem w2_gt (q : Q (.bl (decide (j < i))) s) : W2 H0 aGt (.int i) (.int j) s Q := fun H o R k => ⟨i, j, rfl, rfl, k _ H s o q⟩
theorem w2_ge (q : Q (.bl (decide (j ≤ i))) s) : W2 H0 aGe (.int i) (.int j) s Q := fun H o R k => ⟨i, j, rfl, rfl, k _ H s o q⟩
theorem w2_eqI (q : Q (.bl (decide (i = j))) s) : W2 H0 rEq (.int i) (.int j) s Q := fun H o R k => ⟨rfl, k _ H s o (by
  have e : decide (V.int i = V.int j) = decide (i = j) := decide_eq_decide.mpr ⟨fun h => V.int.inj h, fun h => by rw [h]⟩
  rw [e]; exact q)⟩
theorem w2_neI (q : Q (.bl (!decide (i = j))) s) : W2 H0 rNe (.int i) (.int j) s Q := fun H o R k => ⟨rfl, k _ H s o (by
  have e : decide (V.int i = V.int j) = decide (i = j) := decide_eq_decide.mpr ⟨fun h => V.int.inj h, fun h => by rw [h]⟩
  rw [e]; exact q)⟩
theorem w2_eqB {a b : Bool} (q : Q (.bl (decide (a = b))) s) : W2 H0 rEq (.bl a) (.bl b) s Q := fun H o R k => ⟨rfl, k _ H s o (by
  have e : decide (V.bl a = V.bl b) = decide (a = b) := decide_eq_decide.mpr ⟨fun h => V.bl.inj h, fun h => by rw [h]⟩
  rw [e]; exact q)⟩
theorem w2_neB {a b : Bool} (q : Q (.bl (!decide (a = b))) s) : W2 H0 rNe (.bl a) (.bl b) s Q := fun H o R k => ⟨rfl, k _ H s o (by
  have e : decide (V.bl a = V.bl b) = decide (a = b) := decide_eq_decide.mpr ⟨fun h => V.bl.inj h, fun h => by rw [h]⟩
  rw [e]; exact q)⟩
theorem w2_eqT {a b : List Bool} (q : Q (.bl (decide (a = b))) s) : W2 H0 rEq (.str (T a)) (.str (T b)) s Q := fun H o R k => ⟨rfl, k _ H s o (by
  have e : decide (V.str (T a) = V.str (T b)) = decide (a = b) := decide_eq_decide.mpr tV_eq
  rw [e]; exact q)⟩
theorem w2_neT {a b : List Bool} (q : Q (.bl (!decide (a = b))) s) : W2 H0 rNe (.str (T a)) (.str (T b)) s Q := fun H o R k => ⟨rfl, k _ H s o (by
  have e : decide (V.str (T a) = V.str (T b)) = decide (a = b) := decide_eq_decide.mpr tV_eq
  rw [e]; exact q)⟩
theorem w2_isN (q : Q (.bl (decide (x = .non))) s) : W2 H0 aIsN x .non s Q := fun H o R k => ⟨rfl, k _ H s o q⟩
theorem w2_notN (q : Q (.bl (!decide (x = .non))) s) : W2 H0 aNotN x .non s Q := fun H o R k => ⟨rfl, k _ H s o q⟩
theorem w2_isB {a b : Bool} (q : Q (.bl (decide (a = b))) s) : W2 H0 aIsB (.bl a) (.bl b) s Q := fun H o R k => ⟨a, b, rfl, rfl, k _ H s o q⟩
theorem w2_catT {a b : List Bool} (h : a.length + b.length ≤ 100000) (q : Q (.str (T (a ++ b))) s) : W2 H0 aCatT (.str (T a)) (.str (T b)) s Q := fun H o R k => ⟨a, b, rfl, rfl, h, k _ H s o q⟩
theorem w2_ixT {a : List Bool} {b : Bool} (hl : a.length ≤ 100000) (h : atI a i = some b) (q : Q (.str (T [b])) s) : W2 H0 aIxT (.str (T a)) (.int i) s Q := fun H o R k => ⟨a, i, b, rfl, rfl, hl, h, k _ H s o q⟩
theorem w2_inT {a : List Bool} {b : Bool} (q : Q (.bl (decide (b ∈ a))) s) : W2 H0 aInT (.str (T [b])) (.str (T a)) s Q := fun H o R k => ⟨b, a, rfl, rfl, k _ H s o q⟩
theorem w2_ixL {p : Addr} {xs : List V} (hx : IsL K H0 s p xs) (h : atI xs i = some v) (q : Q v s) : W2 H0 (rIxL K) (.ref p) (.int i) s Q := fun H o R k => ⟨p, xs, i, v, rfl, rfl, hx H o, h, k _ H s o q⟩
theorem w2_ixU {p : Addr} {xs : List V} (hx : IsT K H0 s p xs) (h : atI xs i = some v) (q : Q v s) : W2 H0 (rIxT K) (.ref p) (.int i) s Q := fun H o R k => ⟨p, xs, i, v, rfl, rfl, hx H o, h, k _ H s o q⟩
theorem w2_inU {p : Addr} {xs : List V} (hx : IsT K H0 s p xs) (h1 : flatV x = true) (h2 : xs.all flatV = true) (q : Q (.bl (inV x xs)) s) : W2 H0 (rIn K false) x (.ref p) s Q := fun H o R k => ⟨p, xs, rfl, Or.inr (hx H o), h1, h2, k _ H s o q⟩
theorem w1_neg (q : Q (.int (-i)) s) : W1 H0 aNeg (.int i) s Q := fun H o R k => ⟨i, rfl, k _ H s o q⟩
/-! calls of built-ins -/
theorem wl_len {p : Addr} {xs : List V} (hx : IsL K H0 s p xs) (q : Q (.int (xs.length : Int)) s) : WL H0 (aLenL K) [.ref p] s Q := fun H o R k => ⟨p, xs, rfl, Or.inl (hx H o), k _ H s o q⟩
theorem wl_lenU {p : Addr} {xs : List V} (hx : IsT K H0 s p xs) (q : Q (.int (xs.length : Int)) s) : WL H0 (aLenL K) [.ref p] s Q := fun H o R k => ⟨p, xs, rfl, Or.inr (hx H o), k _ H s o q⟩
theorem wl_lenT {a : List Bool} (hl : a.length ≤ 100000) (q : Q (.int (a.length : Int)) s) : WL H0 aLenT [.str (T a)] s Q := fun H o R k => ⟨a, rfl, hl, k _ H s o q⟩
theorem wl_abs (q : Q (.int (if i < 0 then -i else i)) s) : WL H0 aAbs [.int i] s Q := fun H o R k => ⟨i, rfl, k _ H s o q⟩
theorem wl_max2 (q : Q (.int (if j > i then j else i)) s) : WL H0 aMax2 [.int i, .int j] s Q := fun H o R k => ⟨i, j, rfl, k _ H s o q⟩
theorem wl_min2 (q : Q (.int (if j < i then j else i)) s) : WL H0 aMin2 [.int i, .int j] s Q := fun H o R k => ⟨i, j, rfl, k _ H s o q⟩
theorem wl_intB {b : Bool} (q : Q (.int (if b then 1 else 0)) s) : WL H0 aIntB [.bl b] s Q := fun H o R k => ⟨b, rfl, k _ H s o q⟩
theorem wl_listOf {p : Addr} {xs : List V} (hx : IsL K H0 s p xs) (q : ∀ l, H0 l = none → Q (.ref l) ⟨(l, .lst xs) :: s.L, s.T⟩) : WL H0 (aListOf K) [.ref p] s Q := fun H o R k => ⟨p, xs, rfl, Or.inl (hx H o), fun l hl => k _ _ _ (o.new hl) (q l (fresh_back o.ex hl))⟩
theorem wl_all {p : Addr} {bs : List Bool} (hx : IsL K H0 s p (bs.map V.bl)) (q : Q (.bl (bs.all id)) s) : WL H0 (aAll K) [.ref p] s Q := fun H o R k => ⟨p, bs, rfl, hx H o, k _ H s o q⟩
theorem wl_sum {p : Addr} {ns : List Int} (hx : IsL K H0 s p (ns.map V.int)) (q : Q (.int ns.sum) s) : WL H0 (rSum K) [.ref p] s Q := fun H o R k => ⟨p, ns, rfl, hx H o, k _ H s o q⟩
theorem wl_max {p : Addr} {ns : List Int} (hx : IsL K H0 s p (ns.map V.int)) (hn : 0 < ns.length) (q : ∀ m, m ∈ ns → (∀ y, y ∈ ns → y ≤ m) → Q (.int m) s) : WL H0 (rMax K) [.ref p] s Q := fun H o R k => ⟨p, ns, rfl, hx H o, hn, fun m h1 h2 => k _ H s o (q m h1 h2)⟩
theorem wl_min {p : Addr} {ns : List Int} (hx : IsL K H0 s p (ns.map V.int)) (hn : 0 < ns.length) (q : ∀ m, m ∈ ns → (∀ y, y ∈ ns → m ≤ y) → Q (.int m) s) : WL H0 (rMin K) [.ref p] s Q := fun H o R k => ⟨p, ns, rfl, hx H o, hn, fun m h1 h2 => k _ H s o (q m h1 h2)⟩
theorem wl_isi {c : String} {tv : Value} {b : Bool} (ty : ∀ H, Own H0 H s → TyX K H x tv) (hk : PySem.W.kitOne K tv (.type c) = some b) (q : Q (.bl b) s) : WL H0 (aIsi K c) [x, .ty c] s Q := fun H o R k => ⟨x, .ty c, tv, b, rfl, rfl, ty H o, hk, k _ H s o q⟩
/-! methods -/
theorem we_bm {T : String} {r : V → List V → Hp → VK → Prop} {to : TE} (h : WE H0 to σ s fun x s1 => (∀ H, Own H0 H s1 → tyV K T x H) ∧ WA H0 tr σ s1 fun xs s2 => WM H0 r x xs s2 Q) : WE H0 (tBM K T r to tr) σ s Q := fun H o R k =>
  h H o _ fun x H1 s1 o1 ⟨ty, h1⟩ => ⟨ty H1 o1, h1 H1 o1 _ fun xs H2 s2 o2 h2 => h2 H2 o2 R k⟩
theorem we_bm0 {T : String} {r : V → List V → Hp → VK → Prop} {to : TE} (h : WE H0 to σ s fun x s1 => (∀ H, Own H0 H s1 → tyV K T x H) ∧ WM H0 r x [] s1 Q) : WE H0 (tBM0 K T r to) σ s Q := fun H o R k =>
  h H o _ fun x H1 s1 o1 ⟨ty, h1⟩ => ⟨ty H1 o1, h1 H1 o1 R k⟩
theorem ty_L {p : Addr} {xs : List V} (hx : IsL K H0 s p xs) : ∀ H, Own H0 H s → tyV K "list" (.ref p) H := fun H o => Or.inl ⟨rfl, xs, hx H o⟩
theorem ty_S {a : Str} : ∀ H, Own H0 H s → tyV K "str" (.str a) H := fun H o => rfl
theorem wm_append {p : Addr} {xs : List V} {L' : List (Addr × HO)} (sw : Swap p (.lst xs) (.lst (xs ++ [v])) s.L L') (hl : xs.length < 100000) (q : Q .non ⟨L', s.T⟩) : WM H0 rAppend (.ref p) [v] s Q := fun H o R k =>
  ⟨p, xs, v, rfl, rfl, (o.own _ sw.mem).2, sz_lt hl, k _ _ _ (o.swap sw trivial) q⟩
theorem wm_join {p : Addr} {rs : List (List Bool)} (hx : IsL K H0 s p (rs.map fun r => .str (T r))) (hl : (rs.map (·.length)).sum ≤ 100000) (q : Q (.str (T rs.flatten)) s) : WM H0 (aJoin K) (.str (T [])) [.ref p] s Q := fun H o R k =>
  ⟨p, rs, rfl, rfl, hx H o, hl, k _ H s o q⟩
theorem wset_list {p : Addr} {xs : List V} {j : Nat} {L' : List (Addr × HO)} {Q : Ld → Prop} (hj : ixN xs.length i = some j) (sw : Swap p (.lst xs) (.lst (xs.set j v)) s.L L') (q : Q ⟨L', s.T⟩) : WSet H0 rSetL (.ref p) (.int i) v s Q := fun H o R k =>
  ⟨p, xs, i, j, rfl, rfl, (o.own _ sw.mem).2, hj, k _ _ (o.swap sw trivial) q⟩
/-! slices, lists joined -/
theorem wsl_T {a : List Bool} {lo hi : Option Int} (hl : a.length ≤ 100000) (q : Q (.str (T (cutL a lo hi))) s) : WSl H0 aSlT (.str (T a)) lo hi s Q := fun H o R k => ⟨a, rfl, hl, k _ H s o q⟩
theorem wsl_L {p : Addr} {xs : List V} {lo hi : Option Int} (hx : IsL K H0 s p xs) (q : ∀ l, H0 l = none → Q (.ref l) ⟨(l, .lst (cutL xs lo hi)) :: s.L, s.T⟩) : WSl H0 (rSlL K) (.ref p) lo hi s Q := fun H o R k => ⟨p, xs, rfl, hx H o, fun l hl => k _ _ _ (o.new hl) (q l (fresh_back o.ex hl))⟩
/-! ### own defs: promises of two shapes -/
def spV (R : List V → Hp → V → Prop) : Sp := fun vs H Q _ => ∃ v, R vs H v ∧ ∀ H', Ex H H' → Q v H'
def spL (R : List V → Hp → List V → Prop) : Sp := fun vs H Q _ => ∃ xs, R vs H xs ∧ ∀ p H', H p = none → Ex H H' → H' p = some (.lst xs) → Q (.ref p) H'
theorem wc_V {R : List V → Hp → V → Prop} {E : XK} {vs : List V} (h : ∀ H, Own H0 H s → R vs H v) (q : Q v s) : WC H0 (spV R) E vs s Q := fun H o R' k => ⟨v, h H o, fun H' e => k _ _ _ (o.ext e) q⟩
theorem wc_L {R : List V → Hp → List V → Prop} {E : XK} {vs xs : List V} (h : ∀ H, Own H0 H s → R vs H xs) (q : ∀ p, H0 p = none → Q (.ref p) ⟨(p, .lst xs) :: s.L, s.T⟩) : WC H0 (spL R) E vs s Q := fun H o R' k =>
  ⟨xs, h H o, fun p H' hp e hx => k _ _ _ (o.newE hp e hx) (q p (fresh_back o.ex hp))⟩
/-! ### a def's body -/
def retV (v : V) : Dl := { nx := fun _ _ => v = .non, rt := fun u _ => u = v }
def retL (xs : List V) : Dl := { nx := fun _ _ => False, rt := fun u s => ∃ p, u = .ref p ∧ (p, HO.lst xs) ∈ s.L }
theorem body_V {H : Hp} {t : TS} {N : List Str} {vs : List V} {Q : VK} (h : WS H t (start N vs) ⟨[], []⟩ (retV v)) (k : ∀ H', Ex H H' → Q v H') : t { nx := fun _ H' => Q .non H', rt := Q } (start N vs) H :=
  h H (Own.start H) _ ⟨fun σ H' s o e => by
    have e' : v = .non := e
    rw [← e']
    exact k H' o.ex, fun u H' s o e => by
    have e' : u = v := e
    rw [e']
    exact k H' o.ex, (fun _ _ _ _ q => q.elim), (fun _ _ _ _ q => q.elim)⟩
theorem body_L {H : Hp} {t : TS} {N : List Str} {vs xs : List V} {Q : VK} (h : WS H t (start N vs) ⟨[], []⟩ (retL xs)) (k : ∀ p H', H p = none → Ex H H' → H' p = some (.lst xs) → Q (.ref p) H') : t { nx := fun _ H' => Q .non H', rt := Q } (start N vs) H :=
  h H (Own.start H) _ ⟨(fun _ _ _ _ q => q.elim), fun u H' s o ⟨p, e, m⟩ => by
    rw [e]
    exact k p H' (o.own _ m).1 o.ex (o.own _ m).2, (fun _ _ _ _ q => q.elim), (fun _ _ _ _ q => q.elim)⟩
/-! ### what is walked -/
theorem wi_list {R : It → Ld → Prop} (h : WE H0 tl σ s fun x s1 => ∃ a, x = .ref a ∧ (∃ xs, IsL K H0 s1 a xs) ∧ R (Itl K a) s1) : WI H0 (iList K tl) σ s R := fun H o R' k =>
  h H o _ fun x H1 s1 o1 ⟨a, e, ⟨xs, hx⟩, q⟩ => ⟨a, e, ⟨xs, hx H1 o1⟩, k _ H1 s1 o1 q⟩
theorem wi_tup {R : It → Ld → Prop} (h : WE H0 tl σ s fun x s1 => ∃ a, x = .ref a ∧ (∃ xs, IsT K H0 s1 a xs) ∧ R (Itt K a) s1) : WI H0 (iTup K tl) σ s R := fun H o R' k =>
  h H o _ fun x H1 s1 o1 ⟨a, e, ⟨xs, hx⟩, q⟩ => ⟨a, e, ⟨xs, hx H1 o1⟩, k _ H1 s1 o1 q⟩
theorem wi_T {R : It → Ld → Prop} (h : WE H0 te σ s fun x s1 => ∃ r, x = .str (T r) ∧ R (Its (T r)) s1) : WI H0 (iStr te) σ s R := fun H o R' k =>
  h H o _ fun x H1 s1 o1 ⟨r, e, q⟩ => ⟨T r, e, k _ H1 s1 o1 q⟩
theorem we_call0 {sp : Sp} {E : XK} {ta : TA} (h : WA H0 ta σ s fun xs s1 => WC H0 sp E xs s1 Q) : WE H0 (tCall sp [] E ta) σ s Q := fun H o R k =>
  h H o _ fun xs H1 s1 o1 h1 => by
    show sp (xs ++ []) H1 R E
    rw [List.append_nil]
    exact h1 H1 o1 R k
theorem wi_rng1 {R : It → Ld → Prop} (h : WA H0 tr σ s fun xs s1 => ∃ n : Int, xs = [.int n] ∧ (n ≤ 1000000 ∧ -1000000 ≤ n) ∧ R (Itr 0 n.toNat) s1) : WI H0 (iRng1 tr) σ s R := fun H o R' k =>
  h H o _ fun x H1 s1 o1 ⟨n, e, h1, q⟩ => ⟨n, e, by omega, by omega, k _ H1 s1 o1 q⟩
theorem wi_rng2 {R : It → Ld → Prop} (h : WA H0 tr σ s fun xs s1 => ∃ m n : Int, xs = [.int m, .int n] ∧ (n ≤ 1000000 ∧ -1000000 ≤ n ∧ m ≤ 1000000 ∧ -1000000 ≤ m) ∧ R (Itr m (n - m).toNat) s1) : WI H0 (iRng2 tr) σ s R := fun H o R' k =>
  h H o _ fun x H1 s1 o1 ⟨m, n, e, h1, q⟩ => ⟨m, n, e, by omega, k _ H1 s1 o1 q⟩
theorem wi_rng3 {R : It → Ld → Prop} (h : WA H0 tr σ s fun xs s1 => ∃ (i j c : Int) (n : Nat), xs = [.int i, .int j, .int c] ∧ RgC i j c n ∧ R (Itc i c n) s1) : WI H0 (iRng3 tr) σ s R := fun H o R' k =>
  h H o _ fun x H1 s1 o1 ⟨i, j, c, n, e, h1, q⟩ => ⟨i, j, c, n, e, h1, k _ H1 s1 o1 q⟩
theorem wi_enum {R : It → Ld → Prop} (h : WA H0 tr σ s fun xs s1 => ∃ a ys, xs = [.ref a] ∧ IsL K H0 s1 a ys ∧ R (Ite K a) s1) : WI H0 (iEnum K tr) σ s R := fun H o R' k =>
  h H o _ fun x H1 s1 o1 ⟨a, ys, e, h1, q⟩ => ⟨a, ys, e, h1 H1 o1, k _ H1 s1 o1 q⟩
theorem wi_zip {R : It → Ld → Prop} (h : WA H0 tr σ s fun xs s1 => ∃ a b ys zs, xs = [.ref a, .ref b] ∧ IsL K H0 s1 a ys ∧ IsL K H0 s1 b zs ∧ R (Itz K a b) s1) : WI H0 (iZip K tr) σ s R := fun H o R' k =>
  h H o _ fun x H1 s1 o1 ⟨a, b, ys, zs, e, h1, h2, q⟩ => ⟨a, b, ys, zs, e, h1 H1 o1, h2 H1 o1, k _ H1 s1 o1 q⟩
theorem T_at {r : List Bool} {i c : Nat} (h : (T r).cps[i]? = some c) : ∃ b, r[i]? = some b ∧ c = B b := by
  have hc' : (T r).cps.toList[i]? = some c := by rw [Array.getElem?_toList]; exact h
  rw [T_list, List.getElem?_map] at hc'
  cases h : r[i]? with
  | none => rw [h] at hc'; cases hc'
  | some b =>
    rw [h] at hc'
    exact ⟨b, rfl, (Option.some.inj hc').symm⟩
/-- the loop's part, for each thing walked: what it gives and what stays -/
theorem lp_list {a : Addr} {xs : List V} {n : Nat} (I : Nat → L2.St → Ld → Prop) (hn : xs.length = n) (h0 : I 0 σ s) (hI : ∀ i σ s, i ≤ n → I i σ s → IsL K H0 s a xs)
    (hs : ∀ i x σ s, i < n → xs[i]? = some x → I i σ s → WG H0 g x σ s fun σ2 s2 => WS H0 t1 σ2 s2 (turnD D (I (i + 1)))) (hd : ∀ σ s, I n σ s → D.nx σ s) : LoopOk H0 (Itl K a) g t1 σ s D := by
  subst hn
  exact ⟨xs.length, _, _, walk_list (xs := xs), I, h0, fun i σ s H hi q o => hI i σ s hi q H o, fun i x σ s H H' hi q o ⟨e, hx⟩ => ⟨s, by rw [e]; exact o, hs i x σ s hi hx q⟩, hd⟩
theorem lp_T {r : List Bool} {n : Nat} (I : Nat → L2.St → Ld → Prop) (hn : r.length = n) (h0 : I 0 σ s)
    (hs : ∀ i b σ s, i < n → r[i]? = some b → I i σ s → WG H0 g (.str (T [b])) σ s fun σ2 s2 => WS H0 t1 σ2 s2 (turnD D (I (i + 1)))) (hd : ∀ σ s, I n σ s → D.nx σ s) : LoopOk H0 (Its (T r)) g t1 σ s D := by
  have e : (T r).cps.size = n := by rw [← hn]; exact T_len r
  subst e
  refine ⟨_, _, _, walk_str (z := T r), I, h0, fun i σ s H hi q o => trivial, fun i x σ s H H' hi q o ⟨e, c, hc, ex⟩ => ⟨s, by rw [e]; exact o, ?_⟩, hd⟩
  obtain ⟨b, h, rfl⟩ := T_at hc
  rw [ex]
  exact hs i b σ s hi h q
theorem lp_rng {lo : Int} {m : Nat} (I : Nat → L2.St → Ld → Prop) (h0 : I 0 σ s)
    (hs : ∀ i σ s, i < m → I i σ s → WG H0 g (.int (lo + (i : Int))) σ s fun σ2 s2 => WS H0 t1 σ2 s2 (turnD D (I (i + 1)))) (hd : ∀ σ s, I m σ s → D.nx σ s) : LoopOk H0 (Itr lo m) g t1 σ s D :=
  ⟨m, _, _, walk_range, I, h0, fun i σ s H hi q o => trivial, fun i x σ s H H' hi q o ⟨e, ex⟩ => ⟨s, by rw [e]; exact o, by rw [ex]; exact hs i σ s hi q⟩, hd⟩
/-! comprehensions: F i is the list behind i items -/
theorem cp_core {J : It} {n : Nat} {G : Hp → Prop} {Y : Nat → Hp → V → Hp → Prop} {tt : TT} {vs : List Nat} (w : Walk J n G Y) (hn : n ≤ 90000) (F : Nat → List V) (hF0 : F 0 = []) (hFl : ∀ i, i ≤ n → (F i).length ≤ i)
    (hG : ∀ D x H, Own H0 H ⟨(D, .lst x) :: s.L, s.T⟩ → G H)
    (hs : ∀ D i x H H', i < n → Own H0 H ⟨(D, .lst (F i)) :: s.L, s.T⟩ → Y i H x H' → ∃ s', Own H0 H' s' ∧ WG H0 g x (wipe σ vs) s' fun σ2 s2 => wipe σ2 vs = wipe σ vs ∧ WT H0 tt σ2 s2 fun b s3 =>
      (b = true → WE H0 te σ2 s3 fun y s4 => Sub ⟨(D, .lst (F i)) :: s.L, s.T⟩ s4 ∧ F (i + 1) = F i ++ [y]) ∧ (b = false → Sub ⟨(D, .lst (F i)) :: s.L, s.T⟩ s3 ∧ F (i + 1) = F i)) (hq : ∀ D, H0 D = none → Q (.ref D) ⟨(D, .lst (F n)) :: s.L, s.T⟩) : CompOk H0 J g tt te σ vs s Q := by
  refine ⟨n, G, Y, w, fun D hD => ⟨fun i s' => s' = ⟨(D, .lst (F i)) :: s.L, s.T⟩, (by show (⟨(D, .lst []) :: s.L, s.T⟩ : Ld) = ⟨(D, .lst (F 0)) :: s.L, s.T⟩; rw [hF0]), fun i s' H hi e o => ?_, fun i x s' H H' hi e o y => ?_, fun s' e => by rw [e]; exact hq D hD⟩⟩
  · rw [e] at o
    exact hG D _ H o
  · rw [e] at o
    obtain ⟨s2, o2, h2⟩ := hs D i x H H' hi o y
    refine ⟨s2, o2, fun H3 o3 R k => h2 H3 o3 R fun σ3 H4 s4 o4 h4 => k _ H4 s4 o4 ⟨h4.1, fun H5 o5 R5 k5 => h4.2 H5 o5 R5 fun b H6 s6 o6 h6 => k5 b H6 s6 o6 ⟨fun hb => ?_, fun hb => ?_⟩⟩⟩
    · refine fun H7 o7 R7 k7 => h6.1 hb H7 o7 R7 fun y H8 s8 o8 h8 => k7 y H8 s8 o8 ?_
      obtain ⟨hsub, he⟩ := h8
      obtain ⟨L8, sw, hs8⟩ : ∃ L', Swap D (.lst (F i)) (.lst (F i ++ [y])) s8.L L' ∧ List.Sublist ((D, HO.lst (F i ++ [y])) :: s.L) L' := by
        have aux : ∀ (L M : List (Addr × HO)), List.Sublist ((D, HO.lst (F i)) :: L) M → ∃ L', Swap D (.lst (F i)) (.lst (F i ++ [y])) M L' ∧ List.Sublist ((D, HO.lst (F i ++ [y])) :: L) L' := by
          intro L M h
          generalize hx : ((D, HO.lst (F i)) :: L) = X at h
          induction h with
          | slnil => cases hx
          | cons a h ih =>
            obtain ⟨L', h1, h2⟩ := ih hx
            exact ⟨_, .there h1, .cons _ h2⟩
          | cons_cons a h ih =>
            cases hx
            exact ⟨_, .here, .cons_cons _ h⟩
        exact aux s.L s8.L hsub.l
      exact ⟨F i, L8, ⟨(D, .lst (F (i + 1))) :: s.L, s.T⟩, sw, Nat.lt_of_le_of_lt (hFl i (Nat.le_of_lt hi)) (by omega), ⟨by rw [he]; exact hs8, hsub.t⟩, rfl⟩
    · obtain ⟨hsub, he⟩ := h6.2 hb
      exact ⟨_, hsub, (by show (⟨(D, .lst (F i)) :: s.L, s.T⟩ : Ld) = ⟨(D, .lst (F (i + 1))) :: s.L, s.T⟩; rw [he])⟩
theorem cp_list {a : Addr} {xs : List V} {tt : TT} {vs : List Nat} (F : Nat → List V) (hx : IsL K H0 s a xs) (hn : xs.length ≤ 90000) (hF0 : F 0 = []) (hFl : ∀ i, i ≤ xs.length → (F i).length ≤ i)
    (hs : ∀ D i x, i < xs.length → xs[i]? = some x → WG H0 g x (wipe σ vs) ⟨(D, .lst (F i)) :: s.L, s.T⟩ fun σ2 s2 => wipe σ2 vs = wipe σ vs ∧ WT H0 tt σ2 s2 fun b s3 =>
      (b = true → WE H0 te σ2 s3 fun y s4 => Sub ⟨(D, .lst (F i)) :: s.L, s.T⟩ s4 ∧ F (i + 1) = F i ++ [y]) ∧ (b = false → Sub ⟨(D, .lst (F i)) :: s.L, s.T⟩ s3 ∧ F (i + 1) = F i)) (hq : ∀ D, H0 D = none → Q (.ref D) ⟨(D, .lst (F xs.length)) :: s.L, s.T⟩) : CompOk H0 (Itl K a) g tt te σ vs s Q :=
  cp_core (walk_list (xs := xs)) hn F hF0 hFl (fun D x H o => hx H (o.dropL (.cons _ (.refl _)) fun _ h => h)) (fun D i x H H' hi o ⟨e, h⟩ => ⟨⟨(D, .lst (F i)) :: s.L, s.T⟩, by rw [e]; exact o, hs D i x hi h⟩) hq
theorem cp_tup {a : Addr} {xs : List V} {tt : TT} {vs : List Nat} (F : Nat → List V) (hx : IsT K H0 s a xs) (hn : xs.length ≤ 90000) (hF0 : F 0 = []) (hFl : ∀ i, i ≤ xs.length → (F i).length ≤ i)
    (hs : ∀ D i x, i < xs.length → xs[i]? = some x → WG H0 g x (wipe σ vs) ⟨(D, .lst (F i)) :: s.L, s.T⟩ fun σ2 s2 => wipe σ2 vs = wipe σ vs ∧ WT H0 tt σ2 s2 fun b s3 =>
      (b = true → WE H0 te σ2 s3 fun y s4 => Sub ⟨(D, .lst (F i)) :: s.L, s.T⟩ s4 ∧ F (i + 1) = F i ++ [y]) ∧ (b = false → Sub ⟨(D, .lst (F i)) :: s.L, s.T⟩ s3 ∧ F (i + 1) = F i)) (hq : ∀ D, H0 D = none → Q (.ref D) ⟨(D, .lst (F xs.length)) :: s.L, s.T⟩) : CompOk H0 (Itt K a) g tt te σ vs s Q :=
  cp_core (walk_tup (xs := xs)) hn F hF0 hFl (fun D x H o => hx H (o.dropL (.cons _ (.refl _)) fun _ h => h)) (fun D i x H H' hi o ⟨e, h⟩ => ⟨⟨(D, .lst (F i)) :: s.L, s.T⟩, by rw [e]; exact o, hs D i x hi h⟩) hq
theorem cp_T {r : List Bool} {tt : TT} {vs : List Nat} (F : Nat → List V) (hn : r.length ≤ 90000) (hF0 : F 0 = []) (hFl : ∀ i, i ≤ r.length → (F i).length ≤ i)
    (hs : ∀ D i b, i < r.length → r[i]? = some b → WG H0 g (.str (T [b])) (wipe σ vs) ⟨(D, .lst (F i)) :: s.L, s.T⟩ fun σ2 s2 => wipe σ2 vs = wipe σ vs ∧ WT H0 tt σ2 s2 fun b s3 =>
      (b = true → WE H0 te σ2 s3 fun y s4 => Sub ⟨(D, .lst (F i)) :: s.L, s.T⟩ s4 ∧ F (i + 1) = F i ++ [y]) ∧ (b = false → Sub ⟨(D, .lst (F i)) :: s.L, s.T⟩ s3 ∧ F (i + 1) = F i)) (hq : ∀ D, H0 D = none → Q (.ref D) ⟨(D, .lst (F r.length)) :: s.L, s.T⟩) : CompOk H0 (Its (T r)) g tt te σ vs s Q := by
  have e : (T r).cps.size = r.length := T_len r
  refine cp_core (n := r.length) (e ▸ walk_str (z := T r)) hn F hF0 hFl (fun D x H o => trivial) (fun D i x H H' hi o ⟨e, c, hc, ex⟩ => ⟨⟨(D, .lst (F i)) :: s.L, s.T⟩, by rw [e]; exact o, ?_⟩) hq
  obtain ⟨b, h, rfl⟩ := T_at hc
  rw [ex]
  exact hs D i b hi h
theorem cp_rngC {lo c : Int} {m : Nat} {tt : TT} {vs : List Nat} (F : Nat → List V) (hn : m ≤ 90000) (hF0 : F 0 = []) (hFl : ∀ i, i ≤ m → (F i).length ≤ i)
    (hs : ∀ D i, i < m → WG H0 g (.int (lo + (i : Int) * c)) (wipe σ vs) ⟨(D, .lst (F i)) :: s.L, s.T⟩ fun σ2 s2 => wipe σ2 vs = wipe σ vs ∧ WT H0 tt σ2 s2 fun b s3 =>
      (b = true → WE H0 te σ2 s3 fun y s4 => Sub ⟨(D, .lst (F i)) :: s.L, s.T⟩ s4 ∧ F (i + 1) = F i ++ [y]) ∧ (b = false → Sub ⟨(D, .lst (F i)) :: s.L, s.T⟩ s3 ∧ F (i + 1) = F i)) (hq : ∀ D, H0 D = none → Q (.ref D) ⟨(D, .lst (F m)) :: s.L, s.T⟩) : CompOk H0 (Itc lo c m) g tt te σ vs s Q :=
  cp_core walk_rangeC hn F hF0 hFl (fun D x H o => trivial) (fun D i x H H' hi o ⟨e, ex⟩ => ⟨⟨(D, .lst (F i)) :: s.L, s.T⟩, by rw [e]; exact o, by rw [ex]; exact hs D i hi⟩) hq
theorem cp_enum {a : Addr} {xs : List V} {tt : TT} {vs : List Nat} (F : Nat → List V) (hx : IsL K H0 s a xs) (hn : xs.length ≤ 90000) (hF0 : F 0 = []) (hFl : ∀ i, i ≤ xs.length → (F i).length ≤ i)
    (hs : ∀ D i x p, i < xs.length → xs[i]? = some x → WG H0 g (.ref p) (wipe σ vs) ⟨(D, .lst (F i)) :: s.L, (p, [.int (i : Int), x]) :: s.T⟩ fun σ2 s2 => wipe σ2 vs = wipe σ vs ∧ WT H0 tt σ2 s2 fun b s3 =>
      (b = true → WE H0 te σ2 s3 fun y s4 => Sub ⟨(D, .lst (F i)) :: s.L, s.T⟩ s4 ∧ F (i + 1) = F i ++ [y]) ∧ (b = false → Sub ⟨(D, .lst (F i)) :: s.L, s.T⟩ s3 ∧ F (i + 1) = F i)) (hq : ∀ D, H0 D = none → Q (.ref D) ⟨(D, .lst (F xs.length)) :: s.L, s.T⟩) : CompOk H0 (Ite K a) g tt te σ vs s Q :=
  cp_core (walk_enum (xs := xs)) hn F hF0 hFl (fun D x H o => hx H (o.dropL (.cons _ (.refl _)) fun _ h => h)) (fun D i v H H' hi o ⟨p, x, y, ev, hp, e, hx, hy⟩ => ⟨⟨(D, .lst (F i)) :: s.L, (p, [.int (i : Int), y]) :: s.T⟩, by
    have ex : V.int (i : Nat) = x := Option.some.inj hx
    rw [e, ← ex]
    exact o.newT hp, by rw [ev]; exact hs D i y p hi hy⟩) hq
end
end BM
namespace BM
open PySem L2 Evl PyProof.Rows
/-! ### enumerate(text) -/
def IteT (x : Str) : It := ⟨fun i _ => i < x.cps.size, fun i H v H' => ∃ T c, v = .ref T ∧ H T = none ∧ H' = upd H T (.tup [.int (i : Nat), .str ⟨#[c]⟩]) ∧ x.cps[i]? = some c, fun i _ => x.cps.size ≤ i⟩
def iEnumT (ta : TA) : TI := fun σ H R => ta σ H fun vs H1 => ∃ r : List Bool, vs = [.str (T r)] ∧ R (IteT (T r)) H1
/-! ### a < b < c < d -/
def tChain3 (r1 r2 r3 : R2) (ta tb tc td : TE) : TE := fun σ H Q => ta σ H fun x H1 => tb σ H1 fun y H2 => r1 x y H2 fun z H3 => ∃ k, z = .bl k ∧
  (if k = true then tc σ H3 fun w' H4 => r2 y w' H4 fun z2 H5 => ∃ k2, z2 = .bl k2 ∧ (if k2 = true then td σ H5 fun w2 H6 => r3 w' w2 H6 Q else Q (.bl false) H5) else Q (.bl false) H3)
section
variable {X : Cx} {a b c d : Expr} {ta tb tc td : TE} {pos : Pos}
theorem pe_chain3 {o1 o2 o3 : CmpOp} {r1 r2 r3 : R2} (h1 : OpR X (compareOp o1) r1) (h2 : OpR X (compareOp o2) r2) (h3 : OpR X (compareOp o3) r3) (ha : PE X a ta) (hb : PE X b tb) (hc : PE X c tc) (hd : PE X d td)
    (hm : lastMarks [o1, o2, o3] [b, c, d] = false := by with_unfolding_all rfl) : PE X (.Compare a [o1, o2, o3] [b, c, d] pos) (tChain3 r1 r2 r3 ta tb tc td) := by
  refine ⟨fun pins s σ H Q I h => ?_⟩
  refine Compare_chain (thn (ha.run pins s σ H _ I h) fun v s1 ⟨x, H1, I1, e1, q1⟩ => chain_link (thn (hb.run pins s1 σ H1 _ I1 q1) fun u s2 ⟨y, H2, I2, e2, q2⟩ =>
    thn (h1 pins s2 σ H2 x y v u _ I2 e1 e2 q2) fun d1 s3 ⟨z, H3, I3, e3, k, e, q3⟩ => ?_)) hm
  subst e
  cases e3
  refine wpAny_truthy_bool ?_
  cases k with
  | false => exact ite_ff ⟨.bl false, H3, I3, rfl, q3⟩
  | true =>
    refine ite_tt (chain_link (thn (hc.run pins s3 σ H3 _ I3 q3) fun w' s4 ⟨z', H4, I4, e4, q4⟩ => thn (h2 pins s4 σ H4 y z' u w' _ I4 e2 e4 q4) fun d2 s5 ⟨z2, H5, I5, e5, k2, ek, q5⟩ => ?_))
    subst ek
    cases e5
    refine wpAny_truthy_bool ?_
    cases k2 with
    | false => exact ite_ff ⟨.bl false, H5, I5, rfl, q5⟩
    | true => exact ite_tt (chain_last (thn (hd.run pins s5 σ H5 _ I5 q5) fun w2 s6 ⟨z3, H6, I6, e6, q6⟩ => h3 pins s6 σ H6 z' z3 w' w2 Q I6 e4 e6 q6))
theorem pt_chain3 {o1 o2 o3 : CmpOp} {r1 r2 r3 : R2} (h1 : OpR X (compareOp o1) r1) (h2 : OpR X (compareOp o2) r2) (h3 : OpR X (compareOp o3) r3) (ha : PE X a ta) (hb : PE X b tb) (hc : PE X c tc) (hd : PE X d td)
    (hm : lastMarks [o1, o2, o3] [b, c, d] = false := by with_unfolding_all rfl) : PT X (.Compare a [o1, o2, o3] [b, c, d] pos) (tTest (tChain3 r1 r2 r3 ta tb tc td)) := by
  refine ⟨fun pins s σ H Q I h => ?_⟩
  refine isTrue_chain (thn (ha.run pins s σ H _ I h) fun v s1 ⟨x, H1, I1, e1, q1⟩ => test_link (thn (hb.run pins s1 σ H1 _ I1 q1) fun u s2 ⟨y, H2, I2, e2, q2⟩ =>
    thn (h1 pins s2 σ H2 x y v u _ I2 e1 e2 q2) fun d1 s3 ⟨z, H3, I3, e3, k, e, q3⟩ => ?_)) hm
  subst e
  cases e3
  refine wpAny_truthy_bool ?_
  cases k with
  | false =>
    obtain ⟨k', e', q'⟩ := q3
    cases e'
    exact ite_ff ⟨H3, I3, q'⟩
  | true =>
    refine ite_tt (test_link (thn (hc.run pins s3 σ H3 _ I3 q3) fun w' s4 ⟨z', H4, I4, e4, q4⟩ => thn (h2 pins s4 σ H4 y z' u w' _ I4 e2 e4 q4) fun d2 s5 ⟨z2, H5, I5, e5, k2, ek, q5⟩ => ?_))
    subst ek
    cases e5
    refine wpAny_truthy_bool ?_
    cases k2 with
    | false =>
      obtain ⟨k', e', q'⟩ := q5
      cases e'
      exact ite_ff ⟨H5, I5, q'⟩
    | true =>
      refine ite_tt (test_last (thn (hd.run pins s5 σ H5 _ I5 q5) fun w2 s6 ⟨z3, H6, I6, e6, q6⟩ => thn (h3 pins s6 σ H6 z' z3 w' w2 _ I6 e4 e6 q6) fun d' s7 ⟨z4, H7, I7, e7, k3, ek3, q7⟩ => ?_))
      subst ek3
      cases e7
      exact wpAny_truthy_bool ⟨H7, I7, q7⟩
end
/-! ### text[::-1] -/
def tRevT (te : TE) : TE := fun σ H Q => te σ H fun x H1 => ∃ r : List Bool, x = .str (T r) ∧ r.length ≤ 100000 ∧ Q (.str (T r.reverse)) H1
theorem rev_picked (x : Str) (k : Tok) : ((slicePicked x none none (some (-1, k))).filterMap (x.cps[·]?)) = x.cps.toList.reverse := by
  have e0 : slicePicked x none none (some (-1, k)) = (List.range x.length).map fun i => x.length - 1 - i := by
    unfold slicePicked Builtin.Str.strSliceIndices sliceRange
    simp only [Option.map_none, Option.map_some, Option.getD_some]
    have h1 : ¬ ((-1 : Int) > 0) := by decide
    simp only [if_neg h1]
    by_cases hz : x.length = 0
    · rw [hz]
      rfl
    · have h2 : ((x.length : Int) - 1 > -1) := by omega
      rw [if_pos h2]
      have h3 : (((x.length : Int) - 1 - -1 - -1 - 1) / - -1).toNat = x.length := by
        have h4 : ((x.length : Int) - 1 - -1 - -1 - 1) = (x.length : Int) := by omega
        have h5 : (- -1 : Int) = 1 := by decide
        rw [h4, h5, Int.ediv_one]
        rfl
      rw [h3]
      apply List.map_congr_left
      intro i hi
      have := List.mem_range.mp hi
      omega
  rw [e0, List.filterMap_map]
  have e1 : ∀ n, n ≤ x.length → (List.range n).filterMap ((fun i => x.cps[i]?) ∘ fun i => x.length - 1 - i) = x.cps.toList.reverse.take n := by
    intro n
    induction n with
    | zero => intro _; rfl
    | succ n ih =>
      intro h
      rw [List.range_succ, List.filterMap_append, ih (by omega)]
      have hl : x.cps.toList.reverse.length = x.length := by simp [Str.length]
      have hn : n < x.cps.toList.reverse.length := by omega
      rw [List.take_succ, List.getElem?_eq_getElem hn]
      have h3 : x.length - 1 - n < x.cps.size := by show _ < x.length; omega
      have h4 : x.cps[x.length - 1 - n]? = some (x.cps.toList.reverse[n]) := by
        rw [List.getElem_reverse]
        rw [Array.getElem?_eq_getElem h3]
        simp [Str.length]
      simp only [List.filterMap_cons, List.filterMap_nil, Function.comp, h4]
      rfl
  rw [e1 _ (Nat.le_refl _)]
  apply List.take_of_length_le
  simp [Str.length]
section
variable {X : Cx} {e : Expr} {te : TE} {k : Nat} {p1 p2 p3 pos : Pos}
theorem pe_revT (he : PE X e te) : PE X (.Subscript e (.Slice none none (some (.UnaryOp .USub (.Constant (.int 1) k p1) p2)) p3) pos) (tRevT te) := by
  refine ⟨fun pins s σ H Q I h => ?_⟩
  refine Subscript_ (thn (he.run pins s σ H _ I h) fun v s1 ⟨x, H1, I1, r1, q1⟩ => ?_)
  obtain ⟨r, ex, hl, q⟩ := q1
  subst ex
  obtain ⟨tx, rfl⟩ := r1
  have hst : PO X (some (.UnaryOp .USub (.Constant (.int 1) k p1) p2)) (tPart (tUn (rU fun i => .int (-i)) (tC (.int 1)))) := po_some (pe_un un_neg pe_int)
  refine wpAny_Slice (thn (po_none.run pins s1 σ H1 (fun o H2 => o = none ∧ H2 = H1) I1 ⟨rfl, rfl⟩) fun vl s2 ⟨l, H2, I2, pl, el, e2⟩ => ?_)
  subst el e2
  refine thn (po_none.run pins s2 σ H2 (fun o H3 => o = none ∧ H3 = H2) I2 ⟨rfl, rfl⟩) fun vu s3 ⟨u, H3, I3, pu, eu, e3⟩ => ?_
  subst eu e3
  refine thn (hst.run pins s3 σ H3 (fun o H4 => o = some (-1) ∧ H4 = H3) I3 ⟨1, rfl, -1, rfl, rfl, rfl⟩) fun vs s4 ⟨o, H4, I4, ps, eo, e4⟩ => ?_
  subst eo e4
  have I5 : Inv X pins σ H4 { s4 with heap := s4.heap.push { cls := .type "slice", data := .fields #[vl, vu, vs] } } := I4.kept (t' := s4.toks) fun b ob q => Heap.get?_push_of_some _ q
  obtain ⟨l1, hl1, hl2⟩ := IsPart.raw pl
  obtain ⟨u1, hu1, hu2⟩ := IsPart.raw pu
  obtain ⟨s1', hs1, hs2⟩ := IsPart.raw ps
  obtain rfl : l1 = none := by cases l1 with | none => rfl | some z => cases hl2
  obtain rfl : u1 = none := by cases u1 with | none => rfl | some z => cases hu2
  obtain ⟨kk, rfl⟩ : ∃ kk, s1' = some (-1, kk) := by
    cases s1' with
    | none => cases hs2
    | some z =>
      obtain ⟨z1, z2⟩ := z
      have : z1 = -1 := Option.some.inj hs2
      exact ⟨z2, by rw [this]⟩
  have hsl : (s4.heap.push { cls := .type "slice", data := .fields #[vl, vu, vs] }).IsSlice s4.heap.objs.size none none (some (-1, kk)) := by
    rw [hl1, hu1, hs1]
    exact ⟨_, Heap.get?_push_size _ rfl, rfl, rfl⟩
  show wpAny (model X.prog X.w) X.A (subscriptTail e (.Slice none none (some (.UnaryOp .USub (.Constant (.int 1) k p1) p2)) p3) (.str (T r) tx) (.ref s4.heap.objs.size)) (EP X pins σ Q) X.xe { s4 with heap := s4.heap.push { cls := .type "slice", data := .fields #[vl, vu, vs] } }
  refine tail_any (ops := [.ref s4.heap.objs.size, .str (T r) tx]) (typeIs_str _ _ _) F.slot_str_getitem.lookup ?_ (by with_unfolding_all rfl)
  refine wpAny_getItem_str_slice (l := none) (u := none) (st := some (-1, kk)) hsl (by rfl) ?_
  unfold sliceMade
  rw [if_neg (by simp)]
  have er : (⟨((slicePicked (T r) none none (some (-1, kk))).filterMap ((T r).cps[·]?)).toArray⟩ : Str) = T r.reverse := by
    rw [rev_picked, T_list, ← List.map_reverse]
    rfl
  rw [er]
  refine ⟨by rw [T_len, List.length_reverse]; exact sz_of hl, .str (T r.reverse), H4, ?_, ⟨_, rfl⟩, q⟩
  exact I5.tok _
end
/-! ### list(text) -/
/-! ### xs.count(y) -/
def aCount (K : PySem.W.Frag) : V → List V → Hp → VK → Prop := fun x xs H Q => ∃ (p : Addr) (ys : List V) (y : V), x = .ref p ∧ xs = [y] ∧ SqL K H p ys ∧ flatV y = true ∧ ys.all flatV = true ∧ Q (.int ((ys.countP fun z => eqV z y : Nat) : Int)) H
theorem count_eqU {x : V} : ∀ {xs : List V} {us : List Value}, Vals xs us → xs.all flatV = true → us.countP (eqU x) = xs.countP fun y => eqV y x
  | _, _, .nil, _ => rfl
  | y :: xs, u :: us, .cons r t, f => by
    rw [List.all_cons, Bool.and_eq_true] at f
    rw [List.countP_cons, List.countP_cons, eqU_of r f.1, count_eqU t f.2]
theorem m_count {X : Cx} : MtR X "list.count" (aCount X.K) := by
  intro pins s σ H x xs v us Q I rx rxs h
  obtain ⟨p, ys, y, rfl, rfl, hs, fy, fa, q⟩ := h
  cases rx
  obtain ⟨u, rfl, ru⟩ := rxs.one
  obtain ⟨its, rv, ⟨⟨cls, dd, data, sl⟩, n, ho, hc, hdn, hd⟩, hlen⟩ := I.list hs
  simp only at hc hd
  subst hc hd
  refine call_meets PySem.F.slot_list_count ⟨_, ho, rfl⟩ PySem.F.entry_list_count (PySem.F.args_list_count_2 _ _)
    (SeqAt.list_countAt p its.toArray n dd sl u (eqU y)) ⟨ho, fun z hz => mem_eqAt ru fy rv fa z (by simpa using hz), ?_⟩
  refine ⟨.int ((ys.countP fun z => eqV z y : Nat) : Int), H, I.tok _, ⟨s.toks, ?_⟩, q⟩
  show Value.int ((its.toArray.toList.countP (eqU y) : Nat) : Int) s.toks = _
  rw [show its.toArray.toList = its from rfl, count_eqU rv fa]
/-! ### == of data -/
def DpL (K : PySem.W.Frag) (H0 : Hp) (s : Ld) (v : V) (d : PyData) : Prop := ∀ H, Own H0 H s → Dp K H v d
theorem dpAll_map {K : PySem.W.Frag} {H : Hp} {α : Type} {f : α → V} {g : α → PyData} (h : ∀ a, Dp K H (f a) (g a)) : ∀ xs : List α, DpAll K H (xs.map f) (xs.map g)
  | [] => .nil
  | a :: xs => .cons (h a) (dpAll_map h xs)
theorem eqvAll_map {α : Type} [DecidableEq α] {g : α → PyData} (h : ∀ a b, PyData.eqv (g a) (g b) = decide (a = b)) : ∀ xs ys : List α, PyData.eqvAll (xs.map g) (ys.map g) = decide (xs = ys)
  | [], [] => by simp [PyData.eqvAll]
  | [], y :: ys => by simp [PyData.eqvAll]
  | x :: xs, [] => by simp [PyData.eqvAll]
  | x :: xs, y :: ys => by
    simp only [List.map_cons, PyData.eqvAll, h, eqvAll_map h xs ys, List.cons.injEq]
    by_cases e : x = y <;> simp [e]
theorem eqv_intD (a b : Int) : PyData.eqv (.int a) (.int b) = decide (a = b) := by
  simp only [PyData.eqv]
  by_cases e : a = b
  · subst e; simp
  · simp [e]
theorem eqv_blD (a b : Bool) : PyData.eqv (.bool a) (.bool b) = decide (a = b) := by
  simp only [PyData.eqv]
  cases a <;> cases b <;> rfl
def pairD (p : Int × Int) : PyData := .tuple [.int p.1, .int p.2]
theorem eqv_pairD (a b : Int × Int) : PyData.eqv (pairD a) (pairD b) = decide (a = b) := by
  obtain ⟨a1, a2⟩ := a
  obtain ⟨b1, b2⟩ := b
  simp only [pairD, PyData.eqv, PyData.eqvAll, Prod.mk.injEq]
  by_cases e1 : a1 = b1 <;> by_cases e2 : a2 = b2 <;> simp [e1, e2]
theorem all_canLay {α : Type} {g : α → PyData} (h : ∀ a, (g a).canLay0 = true) : ∀ xs : List α, PyData.canLayAll0 (xs.map g) = true
  | [] => rfl
  | a :: xs => by simp [PyData.canLayAll0, h a, all_canLay h xs]
theorem all_depth {α : Type} {g : α → PyData} {k : Nat} (h : ∀ a, (g a).depth ≤ k) : ∀ xs : List α, PyData.depthAll (xs.map g) ≤ k
  | [] => by simp [PyData.depthAll]
  | a :: xs => by
    have := h a
    have := all_depth h xs
    simp only [List.map_cons, PyData.depthAll]
    omega
theorem shaped_map {α : Type} {g : α → PyData} {k : Nat} (h : ∀ a, (g a).canLay0 = true) (hd : ∀ a, (g a).depth ≤ k) (hk : k ≤ 60) (xs : List α) : SeqAt.shaped (.list (xs.map g)) = true := by
  unfold SeqAt.shaped
  have h1 : PyData.canLay0 (.list (xs.map g)) = true := by
    simp only [PyData.canLay0]
    exact all_canLay h xs
  have h2 := all_depth hd xs
  have h3 : PyData.depth (.list (xs.map g)) ≤ 64 := by
    simp only [PyData.depth]
    omega
  simp [h1, h3]
section
variable {K : PySem.W.Frag} {H0 : Hp} {s : Ld} {Q : V → Ld → Prop} {x y : V}
theorem w2_eqD {d e : PyData} {b : Bool} (h1 : DpL K H0 s x d) (h2 : DpL K H0 s y e) (s1 : SeqAt.shaped d = true) (s2 : SeqAt.shaped e = true) (hb : PyData.eqv d e = b) (q : Q (.bl b) s) : W2 H0 (rEqD K) x y s Q := fun H o R k => ⟨d, e, h1 H o, h2 H o, s1, s2, k _ H s o (by rw [hb]; exact q)⟩
theorem w2_neD {d e : PyData} {b : Bool} (h1 : DpL K H0 s x d) (h2 : DpL K H0 s y e) (s1 : SeqAt.shaped d = true) (s2 : SeqAt.shaped e = true) (hb : PyData.eqv d e = b) (q : Q (.bl (!b)) s) : W2 H0 (rNeD K) x y s Q := fun H o R k => ⟨d, e, h1 H o, h2 H o, s1, s2, k _ H s o (by rw [hb]; exact q)⟩
/-- a list of pairs -/
def PairsIn (K : PySem.W.Frag) (H : Hp) (xs : List V) (ps : List (Int × Int)) : Prop := Paired (fun x (p : Int × Int) => ∃ t, x = V.ref t ∧ SqT K H t [.int p.1, .int p.2]) xs ps
theorem PairsIn.mono {H H' : Hp} {xs : List V} {ps : List (Int × Int)} (h : PairsIn K H xs ps) (e : Ex H H') : PairsIn K H' xs ps := Paired.mapP h fun a b ⟨t, h1, h2⟩ => ⟨t, h1, ex_t e h2⟩
theorem dp_pairs {H : Hp} {a : Addr} {xs : List V} {ps : List (Int × Int)} (h : SqL K H a xs) (hp : PairsIn K H xs ps) : Dp K H (.ref a) (.list (ps.map pairD)) := by
  refine .lst h ?_
  clear h
  induction hp with
  | nil => exact .nil
  | cons r t ih =>
    obtain ⟨t, rfl, ht⟩ := r
    exact .cons (.tup ht (.cons (.int _) (.cons (.int _) .nil))) ih
variable {a b : Addr}
theorem dl_ints {ns : List Int} (h : IsL K H0 s a (ns.map V.int)) : DpL K H0 s (.ref a) (.list (ns.map PyData.int)) := fun H o => .lst (h H o) (dpAll_map (fun i => .int i) ns)
theorem dl_bls {ns : List Bool} (h : IsL K H0 s a (ns.map V.bl)) : DpL K H0 s (.ref a) (.list (ns.map PyData.bool)) := fun H o => .lst (h H o) (dpAll_map (fun i => .bl i) ns)
theorem w2_neLI {ns ms : List Int} (h1 : IsL K H0 s a (ns.map V.int)) (h2 : IsL K H0 s b (ms.map V.int)) (q : Q (.bl (!decide (ns = ms))) s) : W2 H0 (rNeD K) (.ref a) (.ref b) s Q :=
  w2_neD (dl_ints h1) (dl_ints h2) (shaped_map (k := 10) (fun _ => rfl) (fun _ => by simp [PyData.depth]) (by decide) _) (shaped_map (k := 10) (fun _ => rfl) (fun _ => by simp [PyData.depth]) (by decide) _) (by simp only [PyData.eqv]; exact eqvAll_map eqv_intD ns ms) q
theorem w2_neLB {ns ms : List Bool} (h1 : IsL K H0 s a (ns.map V.bl)) (h2 : IsL K H0 s b (ms.map V.bl)) (q : Q (.bl (!decide (ns = ms))) s) : W2 H0 (rNeD K) (.ref a) (.ref b) s Q :=
  w2_neD (dl_bls h1) (dl_bls h2) (shaped_map (k := 10) (fun _ => rfl) (fun _ => by simp [PyData.depth]) (by decide) _) (shaped_map (k := 10) (fun _ => rfl) (fun _ => by simp [PyData.depth]) (by decide) _) (by simp only [PyData.eqv]; exact eqvAll_map eqv_blD ns ms) q
theorem w2_neLP {ns ms : List (Int × Int)} {xs ys : List V} (h1 : IsL K H0 s a xs) (p1 : ∀ H, Own H0 H s → PairsIn K H xs ns) (h2 : IsL K H0 s b ys) (p2 : ∀ H, Own H0 H s → PairsIn K H ys ms) (q : Q (.bl (!decide (ns = ms))) s) : W2 H0 (rNeD K) (.ref a) (.ref b) s Q :=
  w2_neD (fun H o => dp_pairs (h1 H o) (p1 H o)) (fun H o => dp_pairs (h2 H o) (p2 H o)) (shaped_map (k := 10) (fun r => rfl) (fun _ => by simp [pairD, PyData.depth, PyData.depthAll]) (by decide) _) (shaped_map (k := 10) (fun r => rfl) (fun _ => by simp [pairD, PyData.depth, PyData.depthAll]) (by decide) _) (by simp only [PyData.eqv]; exact eqvAll_map eqv_pairD ns ms) q
theorem w2_eqLP {ns ms : List (Int × Int)} {xs ys : List V} (h1 : IsL K H0 s a xs) (p1 : ∀ H, Own H0 H s → PairsIn K H xs ns) (h2 : IsL K H0 s b ys) (p2 : ∀ H, Own H0 H s → PairsIn K H ys ms) (q : Q (.bl (decide (ns = ms))) s) : W2 H0 (rEqD K) (.ref a) (.ref b) s Q :=
  w2_eqD (fun H o => dp_pairs (h1 H o) (p1 H o)) (fun H o => dp_pairs (h2 H o) (p2 H o)) (shaped_map (k := 10) (fun r => rfl) (fun _ => by simp [pairD, PyData.depth, PyData.depthAll]) (by decide) _) (shaped_map (k := 10) (fun r => rfl) (fun _ => by simp [pairD, PyData.depth, PyData.depthAll]) (by decide) _) (by simp only [PyData.eqv]; exact eqvAll_map eqv_pairD ns ms) q
end
section
variable {K : PySem.W.Frag} {H0 : Hp} {σ : L2.St} {s : Ld} {ta tb te tl tc td : TE} {t u : TT} {tr : TA} {x y z v : V} {r : R2} {Q : V → Ld → Prop} {D : Dl} {t1 t2 : TS} {g : TG} {i j : Int}
theorem we_chain3 {r1 r2 r3 : R2} (h : WE H0 ta σ s fun x s1 => WE H0 tb σ s1 fun y s2 => W2 H0 r1 x y s2 fun z s3 => ∃ c, z = .bl c ∧ (c = true → WE H0 tc σ s3 fun w s4 => W2 H0 r2 y w s4 fun z2 s5 => ∃ c2, z2 = .bl c2 ∧ (c2 = true → WE H0 td σ s5 fun w2 s6 => W2 H0 r3 w w2 s6 Q) ∧ (c2 = false → Q (.bl false) s5)) ∧ (c = false → Q (.bl false) s3)) : WE H0 (tChain3 r1 r2 r3 ta tb tc td) σ s Q := fun H o R k =>
  h H o _ fun x H1 s1 o1 h1 => h1 H1 o1 _ fun y H2 s2 o2 h2 => h2 H2 o2 _ fun z H3 s3 o3 ⟨c, e, h3, h4⟩ => ⟨c, e, by
    cases c with
    | false => exact k _ H3 s3 o3 (h4 rfl)
    | true => exact h3 rfl H3 o3 _ fun w H4 s4 o4 h5 => h5 H4 o4 _ fun z2 H5 s5 o5 ⟨c2, e2, h6, h7⟩ => ⟨c2, e2, by
        cases c2 with
        | false => exact k _ H5 s5 o5 (h7 rfl)
        | true => exact h6 rfl H5 o5 _ fun w2 H6 s6 o6 h8 => h8 H6 o6 R k⟩⟩
theorem we_revT (h : WE H0 te σ s fun x s1 => ∃ r : List Bool, x = .str (T r) ∧ r.length ≤ 100000 ∧ Q (.str (T r.reverse)) s1) : WE H0 (tRevT te) σ s Q := fun H o R k =>
  h H o _ fun x H1 s1 o1 ⟨r, e, hl, q⟩ => ⟨r, e, hl, k _ H1 s1 o1 q⟩
theorem we_revL (h : WE H0 te σ s fun x s1 => ∃ a xs, x = .ref a ∧ IsL K H0 s1 a xs ∧ ∀ p, H0 p = none → Q (.ref p) ⟨(p, .lst xs.reverse) :: s1.L, s1.T⟩) : WE H0 (tRevL K te) σ s Q := fun H o R k =>
  h H o _ fun x H1 s1 o1 ⟨a, xs, e, hx, q⟩ => ⟨a, xs, e, hx H1 o1, fun p hp => k _ _ _ (o1.new hp) (q p (fresh_back o1.ex hp))⟩
theorem wm_count {p : Addr} {ys : List V} (hx : IsL K H0 s p ys) (h1 : flatV y = true) (h2 : ys.all flatV = true) (q : Q (.int ((ys.countP fun z => eqV z y : Nat) : Int)) s) : WM H0 (aCount K) (.ref p) [y] s Q := fun H o R k => ⟨p, ys, y, rfl, rfl, hx H o, h1, h2, k _ H s o q⟩
theorem wi_enumT {R : It → Ld → Prop} (h : WA H0 tr σ s fun xs s1 => ∃ r : List Bool, xs = [.str (T r)] ∧ R (IteT (T r)) s1) : WI H0 (iEnumT tr) σ s R := fun H o R' k =>
  h H o _ fun x H1 s1 o1 ⟨r, e, q⟩ => ⟨r, e, k _ H1 s1 o1 q⟩
theorem wt_yes {Q : Bool → Ld → Prop} (q : Q true s) : WT H0 tYes σ s Q := fun H o R k => k true H s o q
end
end BM
/-! rows as lists of truths: depths, right, deeds -/
namespace BM
def sg (b : Bool) : Int := if b then 1 else -1
def hgt : List Bool → Int
  | [] => 0
  | b :: r => sg b + hgt r
theorem hgt_app : ∀ r u : List Bool, hgt (r ++ u) = hgt r + hgt u
  | [], u => by simp [hgt]
  | b :: r, u => by simp only [List.cons_append, hgt, hgt_app r u]; omega
def dps (r : List Bool) : List Int := (List.range (r.length + 1)).map fun j => hgt (r.take j)
theorem dps_len (r : List Bool) : (dps r).length = r.length + 1 := by simp [dps]
theorem dps_snoc (r : List Bool) (b : Bool) : dps (r ++ [b]) = dps r ++ [hgt r + sg b] := by
  unfold dps
  rw [List.length_append, List.range_succ, List.map_append]
  congr 1
  · have e : r.length + [b].length = r.length + 1 := rfl
    rw [e]
    apply List.map_congr_left
    intro j hj
    have := List.mem_range.mp hj
    rw [List.take_append_of_le_length (by omega)]
  · simp only [List.length_cons, List.length_nil, List.map_cons, List.map_nil]
    rw [List.take_of_length_le (by simp), hgt_app]
    simp [hgt]
theorem dps_get {r : List Bool} {j : Nat} (h : j ≤ r.length) : (dps r)[j]? = some (hgt (r.take j)) := by
  unfold dps
  rw [List.getElem?_map, List.getElem?_range (by omega)]
  rfl
theorem dps_last (r : List Bool) : (dps r)[r.length]? = some (hgt r) := by rw [dps_get (Nat.le_refl _), List.take_length]
theorem mem_dps {r : List Bool} {z : Int} : z ∈ dps r ↔ ∃ j, j ≤ r.length ∧ z = hgt (r.take j) := by
  unfold dps
  simp only [List.mem_map, List.mem_range]
  constructor
  · rintro ⟨j, h, rfl⟩
    exact ⟨j, by omega, rfl⟩
  · rintro ⟨j, h, rfl⟩
    exact ⟨j, by omega, rfl⟩
theorem take_snoc {α : Type} {l : List α} {i : Nat} {x : α} (h : l[i]? = some x) : l.take (i + 1) = l.take i ++ [x] := by
  rw [List.take_succ, h]
  rfl
/-- right -/
def isR (r : List Bool) : Bool := decide (hgt r = 0) && (dps r).all fun z => decide (0 ≤ z)
theorem isR_iff {r : List Bool} : isR r = true ↔ hgt r = 0 ∧ ∀ j, j ≤ r.length → 0 ≤ hgt (r.take j) := by
  unfold isR
  simp only [Bool.and_eq_true, decide_eq_true_eq, List.all_eq_true]
  constructor
  · rintro ⟨h1, h2⟩
    exact ⟨h1, fun j hj => h2 _ (mem_dps.mpr ⟨j, hj, rfl⟩)⟩
  · rintro ⟨h1, h2⟩
    refine ⟨h1, fun z hz => ?_⟩
    obtain ⟨j, hj, rfl⟩ := mem_dps.mp hz
    exact h2 j hj
def flp (ps : List Int) (r : List Bool) : List Bool := r.mapIdx fun i b => if ((i : Int) ∈ ps) then !b else b
theorem flp_len (ps : List Int) (r : List Bool) : (flp ps r).length = r.length := by simp [flp]
def rnd (r : List Bool) (f b : Nat) : List Bool := r.take f ++ ((r.drop f).take (b - f)).reverse ++ r.drop b
theorem rnd_len {r : List Bool} {f b : Nat} (h : f ≤ b) (h2 : b ≤ r.length) : (rnd r f b).length = r.length := by
  unfold rnd
  simp
  omega
def rnAll (r : List Bool) (ps : List (Int × Int)) : List Bool := ps.foldl (fun u p => rnd u p.1.toNat p.2.toNat) r
def stOk (n : Nat) (p : Int × Int) : Prop := 0 ≤ p.1 ∧ p.1 < p.2 ∧ p.2 ≤ (n : Int)
instance (n : Nat) (p : Int × Int) : Decidable (stOk n p) := by unfold stOk; infer_instance
theorem rnAll_len : ∀ (ps : List (Int × Int)) (r : List Bool), (∀ p ∈ ps, stOk r.length p) → (rnAll r ps).length = r.length
  | [], r, _ => rfl
  | p :: ps, r, h => by
    have hp := h p List.mem_cons_self
    unfold stOk at hp
    have e : (rnd r p.1.toNat p.2.toNat).length = r.length := rnd_len (by omega) (by omega)
    show (rnAll (rnd r p.1.toNat p.2.toNat) ps).length = _
    rw [rnAll_len ps _ (fun q hq => by rw [e]; exact h q (List.mem_cons_of_mem _ hq)), e]
end BM
namespace BM
open PySem L2 Evl
/-- where the classes stand -/
structure CA where
  c_BracketError : Addr
  c_BadRow : Addr
  c_BadPlaces : Addr
  c_BadStretches : Addr
  c_BadNumber : Addr
  c_BadBracket : Addr
  c_NotSo : Addr
  c_TooMany : Addr
  c_Answer : Addr
  c_Uneven : Addr
  c_Odd : Addr
  c_Swapped : Addr
  c_Turned : Addr
  c_Rounded : Addr
  c_Growing : Addr
/-- a value is handed back that is so; all else stays -/
def spP (pre : List V → Hp → Prop) (post : List V → V → Prop) : Sp := fun vs H Q _ => pre vs H ∧ ∀ v H', post vs v → Ex H H' → Q v H'
theorem wc_P {H0 : Hp} {s : Ld} {Q : V → Ld → Prop} {pre : List V → Hp → Prop} {post : List V → V → Prop} {E : XK} {vs : List V} (h : ∀ H, Own H0 H s → pre vs H) (q : ∀ v, post vs v → Q v s) : WC H0 (spP pre post) E vs s Q := fun H o R' k => ⟨h H o, fun v H' p e => k _ _ _ (o.ext e) (q v p)⟩
theorem body_P {H : Hp} {t : TS} {N : List Str} {vs : List V} {Q : VK} {P : V → Prop} (h : WS H t (start N vs) ⟨[], []⟩ { nx := fun _ _ => P .non, rt := fun u _ => P u }) (k : ∀ v H', P v → Ex H H' → Q v H') : t { nx := fun _ H' => Q .non H', rt := Q } (start N vs) H :=
  h H (Own.start H) _ ⟨(fun σ H' s o e => k _ H' e o.ex), (fun u H' s o e => k u H' e o.ex), (fun _ _ _ _ q => q.elim), (fun _ _ _ _ q => q.elim)⟩
section
def Pairs (K : PySem.W.Frag) (H : Hp) (a : Addr) (ps : List (Int × Int)) : Prop := ∃ xs, SqL K H a xs ∧ PairsIn K H xs ps
def sp_is_whole (K : PySem.W.Frag) (C : CA) : Sp := fun vs H Q _ => ∃ x t b1 b2, vs = [x] ∧ TyX K H x t ∧ PySem.W.kitOne K t (.type "int") = some b1 ∧ PySem.W.kitOne K t (.type "bool") = some b2 ∧ ∀ H', Ex H H' → Q (.bl (b1 && !b2)) H'
def sp_asked_row (K : PySem.W.Frag) (C : CA) : Sp := spV fun vs H v => ∃ r : List Bool, vs = [.str (T r)] ∧ r.length ≤ 40 ∧ v = .non
def sp_deepens (K : PySem.W.Frag) (C : CA) : Sp := spV fun vs H v => ∃ b : Bool, vs = [.str (T [b])] ∧ v = .int (sg b)
def sp_depths_of (K : PySem.W.Frag) (C : CA) : Sp := spL fun vs H xs => ∃ r : List Bool, vs = [.str (T r)] ∧ r.length ≤ 1000 ∧ xs = (dps r).map V.int
def sp_is_right_row (K : PySem.W.Frag) (C : CA) : Sp := spV fun vs H v => ∃ r : List Bool, vs = [.str (T r)] ∧ r.length ≤ 1000 ∧ v = .bl (isR r)
def sp_flipped (K : PySem.W.Frag) (C : CA) : Sp := spV fun vs H v => ∃ b : Bool, vs = [.str (T [b])] ∧ v = .str (T [!b])
def sp_rounded (K : PySem.W.Frag) (C : CA) : Sp := spV fun vs H v => ∃ (r : List Bool) (f b : Int), vs = [.str (T r), .int f, .int b] ∧ r.length ≤ 1000 ∧ stOk r.length (f, b) ∧ v = .str (T (rnd r f.toNat b.toNat))
def sp_depths (K : PySem.W.Frag) (C : CA) : Sp := spL fun vs H xs => ∃ r : List Bool, vs = [.str (T r)] ∧ r.length ≤ 40 ∧ xs = (dps r).map V.int
def sp_is_right (K : PySem.W.Frag) (C : CA) : Sp := spV fun vs H v => ∃ r : List Bool, vs = [.str (T r)] ∧ r.length ≤ 40 ∧ v = .bl (isR r)
def sp_is_stretch (K : PySem.W.Frag) (C : CA) : Sp := spV fun vs H v => ∃ (r : List Bool) (t : Addr) (p : Int × Int), vs = [.str (T r), .ref t] ∧ r.length ≤ 1000 ∧ H t = some (.tup [.int p.1, .int p.2]) ∧ v = .bl (decide (stOk r.length p))
/-! the law's own -/
def sp__law_number (K : PySem.W.Frag) (C : CA) : Sp := spP (fun vs H => ∃ c a w : Int, vs = [.int c, .int a, .int w] ∧ 0 ≤ a ∧ a ≤ 1000000) fun vs v => ∃ n : Int, v = .int n
def sp__law_row (K : PySem.W.Frag) (C : CA) : Sp := spP (fun vs H => ∃ (a : Addr) (ns : List Int) (k m : Int) (e : Bool), vs = [.ref a, .int k, .int m, .bl e] ∧ SqL K H a (ns.map V.int) ∧ ns.length ≤ 63 ∧ 0 ≤ k ∧ k ≤ 1000 ∧ 0 ≤ m ∧ m ≤ 40)
  fun vs v => ∃ (a : Addr) (k m : Int) (e : Bool) (r : List Bool), vs = [.ref a, .int k, .int m, .bl e] ∧ v = .str (T r) ∧ (r.length : Int) ≤ m ∧ (e = true → hgt r = 0)
def sp__law_depths (K : PySem.W.Frag) (C : CA) : Sp := spL fun vs H xs => ∃ r : List Bool, vs = [.str (T r)] ∧ r.length ≤ 1000 ∧ xs = (dps r).map V.int
def sp__law_good (K : PySem.W.Frag) (C : CA) : Sp := spV fun vs H v => ∃ r : List Bool, vs = [.str (T r)] ∧ r.length ≤ 1000 ∧ v = .bl (isR r)
def sp__law_round (K : PySem.W.Frag) (C : CA) : Sp := spV fun vs H v => ∃ (r : List Bool) (a : Addr) (ps : List (Int × Int)), vs = [.str (T r), .ref a] ∧ r.length ≤ 1000 ∧ Pairs K H a ps ∧ v = if (∀ p ∈ ps, stOk r.length p) then .str (T (rnAll r ps)) else .non
end
end BM
namespace BM
open PySem L2 Evl PyProof.Rows
def N_is_whole : List Str := ["thing"]
def rd_is_whole (K : PySem.W.Frag) (C_ : CA) : TS :=
    (tRet (tAndV (tCB (aIsi K "int") (tCons (tVar 0) (tCons (tC (.ty "int")) tNil))) (tNotV (tCB (aIsi K "bool") (tCons (tVar 0) (tCons (tC (.ty "bool")) tNil))))))
def N_asked_row : List Str := ["row", "one"]
def rd_asked_row (K : PySem.W.Frag) (C_ : CA) : TS :=
    (tIfS (tOr (tNot (tB (tCB (aIsi K "str") (tCons (tVar 0) (tCons (tC (.ty "str")) tNil))))) (tOr (tTest (tOp aGt (tCB aLenT (tCons (tVar 0) tNil)) (tC (.int 40)))) (tNot (tB (tCB (aAll K) (tCons (tLc (iStr (tVar 0)) (gName 1) tYes (tOp aInT (tVar 1) (tC (.str (T [true, false])))) [1]) tNil)))))) tNever tNext)
def N_deepens : List Str := ["bracket"]
def rd_deepens (K : PySem.W.Frag) (C_ : CA) : TS :=
    (tRet (tIf (tTest (tOp rEq (tVar 0) (tC (.str (T [true]))))) (tC (.int 1)) (tUn aNeg (tC (.int 1)))))
def N_depths_of : List Str := ["row", "found", "bracket"]
def rd_depths_of (K : PySem.W.Frag) (C_ : CA) : TS :=
    (tSeq (tAsg (tLst (tCons (tC (.int 0)) tNil)) (gName 1))
    (tSeq (tFor (iStr (tVar 0)) (gName 2) (tDrop (tBM K "list" rAppend (tVar 1) (tCons (tOp aAdd (tOp (rIxL K) (tVar 1) (tUn aNeg (tC (.int 1)))) (tCall (sp_deepens K C_) [] E0 (tCons (tVar 2) tNil))) tNil))))
    (tRet (tVar 1))))
def N_is_right_row : List Str := ["row", "found"]
def rd_is_right_row (K : PySem.W.Frag) (C_ : CA) : TS :=
    (tSeq (tAsg (tCall (sp_depths_of K C_) [] E0 (tCons (tVar 0) tNil)) (gName 1))
    (tRet (tAndV (tOp rEq (tOp (rIxL K) (tVar 1) (tUn aNeg (tC (.int 1)))) (tC (.int 0))) (tOp rEq (tCB (rMin K) (tCons (tVar 1) tNil)) (tC (.int 0))))))
def N_rounded : List Str := ["row", "first", "behind"]
def rd_rounded (K : PySem.W.Frag) (C_ : CA) : TS :=
    (tRet (tOp aCatT (tOp aCatT (tSl aSlT (tVar 0) tNoPart (tPart (tVar 1))) (tRevT (tSl aSlT (tVar 0) (tPart (tVar 1)) (tPart (tVar 2))))) (tSl aSlT (tVar 0) (tPart (tVar 2)) tNoPart)))
def N_is_stretch : List Str := ["row", "thing", "one"]
def rd_is_stretch (K : PySem.W.Frag) (C_ : CA) : TS :=
    (tSeq (tIfS (tOr (tNot (tB (tCB (aIsi K "tuple") (tCons (tVar 1) (tCons (tC (.ty "tuple")) tNil))))) (tOr (tTest (tOp rNe (tCB (aLenL K) (tCons (tVar 1) tNil)) (tC (.int 2)))) (tNot (tB (tCB (aAll K) (tCons (tLc (iTup K (tVar 1)) (gName 2) tYes (tCall (sp_is_whole K C_) [] E0 (tCons (tVar 2) tNil)) [2]) tNil)))))) (tRet (tC (.bl false))) tNext)
    (tRet (tChain3 aLe aLt aLe (tC (.int 0)) (tOp (rIxT K) (tVar 1) (tC (.int 0))) (tOp (rIxT K) (tVar 1) (tC (.int 1))) (tCB aLenT (tCons (tVar 0) tNil)))))
def N__law_number : List Str := ["_law_cell", "_law_at", "_law_whole", "_law_small", "_law_blend", "_law_more"]
def rd__law_number (K : PySem.W.Frag) (C_ : CA) : TS :=
    (tSeq (tIfS (tTest (tOp aGe (tVar 0) (tOp aPow (tC (.int 10)) (tC (.int 18))))) (tRet (tOp aDiv (tVar 0) (tOp aAdd (tC (.int 1)) (tOp aMod (tVar 1) (tC (.int 7)))))) tNext)
    (tSeq (tAsg (tOp aMod (tVar 0) (tOp aPow (tC (.int 10)) (tC (.int 18)))) (gName 3))
    (tSeq (tAsg (tOp aMod (tOp aAdd (tOp aMul (tOp aAdd (tVar 3) (tOp aMul (tC (.int 977)) (tVar 1))) (tC (.int 48271))) (tVar 2)) (tC (.int 2147483647))) (gName 4))
    (tSeq (tAsg (tOp aMul (tVar 4) (tOp aAdd (tOp aAdd (tVar 3) (tOp aMul (tC (.int 31)) (tVar 1))) (tC (.int 7)))) (gName 5))
    (tRet (tOp aDiv (tOp aMul (tOp aMul (tVar 5) (tOp aAdd (tOp aAdd (tVar 4) (tVar 3)) (tC (.int 5)))) (tOp aAdd (tOp aMul (tVar 4) (tVar 4)) (tC (.int 11)))) (tOp aAdd (tC (.int 1009)) (tVar 1))))))))
def N__law_row : List Str := ["_law_script", "_law_by", "_law_most", "_law_even", "_law_cells", "_law_wide", "_law_at", "_law_found", "_law_more", "_law_whole", "_law_spot", "_law_cell", "_law_number_here", "_law_mixed", "_law_kinds"]
def rd__law_row (K : PySem.W.Frag) (C_ : CA) : TS :=
    (tSeq (tAsg (tIf (tTest (tOp (rNeD K) (tVar 0) (tLst tNil))) (tSl (rSlL K) (tVar 0) tNoPart (tPart (tC (.int 63)))) (tLst (tCons (tC (.int 5)) tNil))) (gName 4))
    (tSeq (tPar 9 7 (tCons (tOp aAdd (tCB aAbs (tCons (tCB (rSum K) (tCons (tVar 4) tNil)) tNil)) (tOp aMul (tC (.int 7)) (tVar 1))) (tCons (tLst tNil) tNil)))
    (tSeq (tAsg (tOp aAdd (tC (.int 1)) (tOp aMod (tOp aDiv (tVar 9) (tC (.int 5))) (tC (.int 6)))) (gName 5))
    (tSeq (tFor (iRng1 (tCons (tOp aMod (tOp aDiv (tVar 9) (tC (.int 30))) (tOp aAdd (tVar 2) (tC (.int 1)))) tNil)) (gName 6) (tSeq (tAsg (tOp aDiv (tVar 6) (tVar 5)) (gName 10))
    (tSeq (tAsg (tOp aAdd (tOp (rIxL K) (tVar 4) (tOp aMod (tOp aAdd (tVar 10) (tVar 1)) (tCB (aLenL K) (tCons (tVar 4) tNil)))) (tOp aDiv (tVar 10) (tCB (aLenL K) (tCons (tVar 4) tNil)))) (gName 11))
    (tSeq (tAsg (tOp aDiv (tCB aAbs (tCons (tCall (sp__law_number K C_) [] E0 (tCons (tVar 11) (tCons (tOp aAdd (tVar 10) (tVar 1)) (tCons (tVar 9) tNil)))) tNil)) (tC (.int 3))) (gName 12))
    (tSeq (tAsg (tCB aIntB (tCons (tOrV (tOp aGt (tOp aMod (tVar 12) (tC (.int 3))) (tC (.int 0))) (tOp rEq (tOp aMod (tVar 6) (tC (.int 2))) (tC (.int 0)))) tNil)) (gName 13))
    (tSeq (tAsg (tTup (tCons (tOp aMod (tVar 12) (tC (.int 2))) (tCons (tOp aMod (tVar 6) (tC (.int 2))) (tCons (tOp aSub (tC (.int 1)) (tOp aMod (tVar 6) (tC (.int 2)))) (tCons (tVar 13) (tCons (tCB aIntB (tCons (tOp rEq (tOp aMod (tVar 10) (tC (.int 2))) (tC (.int 0))) tNil)) tNil)))))) (gName 14))
    (tDrop (tBM K "list" rAppend (tVar 7) (tCons (tOp aIxT (tC (.str (T [true, false]))) (tOp (rIxT K) (tVar 14) (tOp aMod (tVar 9) (tC (.int 5))))) tNil)))))))))
    (tSeq (tAsg (tIf (tB (tVar 3)) (tSl (rSlL K) (tVar 7) tNoPart (tPart (tOp aMul (tOp aDiv (tCB (aLenL K) (tCons (tVar 7) tNil)) (tC (.int 2))) (tC (.int 2))))) (tVar 7)) (gName 7))
    (tSeq (tAsg (tOp aSub (tBM K "list" (aCount K) (tVar 7) (tCons (tC (.str (T [true]))) tNil)) (tBM K "list" (aCount K) (tVar 7) (tCons (tC (.str (T [false]))) tNil))) (gName 8))
    (tSeq (tFor (iRng1 (tCons (tCB (aLenL K) (tCons (tVar 7) tNil)) tNil)) (gName 6) (tSeq (tAsg (tOp aMod (tOp aAdd (tVar 6) (tVar 9)) (tCB (aLenL K) (tCons (tVar 7) tNil))) (gName 10))
    (tIfS (tAnd (tB (tVar 3)) (tAnd (tTest (tOp rNe (tVar 8) (tC (.int 0)))) (tTest (tOp rEq (tOp (rIxL K) (tVar 7) (tVar 10)) (tOp aIxT (tC (.str (T [true, false]))) (tCB aIntB (tCons (tOp aLt (tVar 8) (tC (.int 0))) tNil))))))) (tSeq (tAsg (tOp aIxT (tC (.str (T [true, false]))) (tCB aIntB (tCons (tOp aGt (tVar 8) (tC (.int 0))) tNil))) (gSub (tVar 7) (tVar 10) rSetL))
    (tAsg (tIf (tTest (tOp aGt (tVar 8) (tC (.int 0)))) (tOp aSub (tVar 8) (tC (.int 2))) (tOp aAdd (tVar 8) (tC (.int 2)))) (gName 8))) tNext)))
    (tRet (tBM K "str" (aJoin K) (tC (.str (T []))) (tCons (tVar 7) tNil))))))))))
def N__law_depths : List Str := ["_law_row_here", "_law_found", "_law_bracket"]
def rd__law_depths (K : PySem.W.Frag) (C_ : CA) : TS :=
    (tSeq (tAsg (tLst (tCons (tC (.int 0)) tNil)) (gName 1))
    (tSeq (tFor (iStr (tVar 0)) (gName 2) (tDrop (tBM K "list" rAppend (tVar 1) (tCons (tOp aAdd (tOp (rIxL K) (tVar 1) (tUn aNeg (tC (.int 1)))) (tIf (tTest (tOp rEq (tVar 2) (tC (.str (T [true]))))) (tC (.int 1)) (tUn aNeg (tC (.int 1))))) tNil))))
    (tRet (tVar 1))))
def N__law_good : List Str := ["_law_row_here", "_law_stack", "_law_bracket"]
def rd__law_good (K : PySem.W.Frag) (C_ : CA) : TS :=
    (tSeq (tAsg (tC (.int 0)) (gName 1))
    (tSeq (tFor (iStr (tVar 0)) (gName 2) (tSeq (tAsg (tIf (tTest (tOp rEq (tVar 2) (tC (.str (T [true]))))) (tOp aAdd (tVar 1) (tC (.int 1))) (tOp aSub (tVar 1) (tC (.int 1)))) (gName 1))
    (tIfS (tTest (tOp aLt (tVar 1) (tC (.int 0)))) (tRet (tC (.bl false))) tNext)))
    (tRet (tOp rEq (tVar 1) (tC (.int 0))))))
def N__law_round : List Str := ["_law_row_here", "_law_stretches", "_law_first", "_law_behind", "_law_part", "_law_at"]
def rd__law_round (K : PySem.W.Frag) (C_ : CA) : TS :=
    (tSeq (tFor (iList K (tVar 1)) (gTup K 2 (gCons (gName 2) (gCons (gName 3) gNil))) (tSeq (tIfS (tNot (tTest (tChain3 aLe aLt aLe (tC (.int 0)) (tVar 2) (tVar 3) (tCB aLenT (tCons (tVar 0) tNil))))) (tRet (tC .non)) tNext)
    (tSeq (tAsg (tLc (iRng3 (tCons (tOp aSub (tVar 3) (tC (.int 1))) (tCons (tOp aSub (tVar 2) (tC (.int 1))) (tCons (tUn aNeg (tC (.int 1))) tNil)))) (gName 5) tYes (tOp aIxT (tVar 0) (tVar 5)) [5]) (gName 4))
    (tAsg (tOp aCatT (tOp aCatT (tSl aSlT (tVar 0) tNoPart (tPart (tVar 2))) (tBM K "str" (aJoin K) (tC (.str (T []))) (tCons (tVar 4) tNil))) (tSl aSlT (tVar 0) (tPart (tVar 3)) tNoPart)) (gName 0)))))
    (tRet (tVar 0)))
end BM
namespace BM
open PySem L2 Evl
local macro_rules | `(tactic| walk_at "mem") => `(tactic| first | exact List.mem_cons_self | (refine List.mem_cons_of_mem _ ?_; walk_at "mem"))
local macro_rules | `(tactic| walk_at "swap") => `(tactic| first | exact Swap.here | (refine Swap.there ?_; walk_at "swap"))
local macro_rules | `(tactic| walk_at "subl") => `(tactic| first | exact List.Sublist.refl _ | exact List.nil_sublist _ | (refine List.Sublist.cons_cons _ ?_; walk_at "subl") | (refine List.Sublist.cons _ ?_; walk_at "subl"))
local macro_rules | `(tactic| walk_at "sub") => `(tactic| first | exact Sub.refl _ | (refine ⟨?_, ?_⟩ <;> walk_at "subl"))
local macro_rules | `(tactic| walk_at "isl") => `(tactic| first | exact isL_own (by walk_at "mem") | exact isL_old (by assumption) | assumption)
local macro_rules | `(tactic| walk_at "ist") => `(tactic| first | exact isT_own (by walk_at "mem") | exact isT_old (by assumption) | assumption)
local macro_rules | `(tactic| walk_at "len") => `(tactic| first | omega | decide | (simp only [List.length_map, List.length_take, List.length_drop, List.length_append, List.length_cons, List.length_nil, List.length_reverse, dps_len, flp_len]; omega) | (simp [dps_len, flp_len]; omega) | simp)
local macro_rules | `(tactic| walk_at "b0") => `(tactic| first
  | with_reducible refine' ws_set ?_
  | with_reducible refine' ws_par ?_
  | with_reducible refine' ws_asg ?_
  | with_reducible refine' ws_drop ?_
  | with_reducible refine' ws_ret ?_
  | with_reducible refine' ws_if ?_
  | with_reducible refine' ws_next ?_
  | with_reducible refine' ws_brk ?_
  | with_reducible refine' ws_cont ?_
  | ((with_reducible refine' we_var ?hv ?_); case hv => rfl)
  | with_reducible refine' we_c ?_
  | with_reducible refine' we_op ?_
  | with_reducible refine' we_un ?_
  | with_reducible refine' we_if ?_
  | with_reducible refine' we_and ?_
  | with_reducible refine' we_or ?_
  | with_reducible refine' we_not ?_
  | with_reducible refine' wa_nil ?_
  | with_reducible refine' wa_cons ?_
  | (with_reducible refine' we_lst ?_)
  | (with_reducible refine' we_tup ?_)
  | with_reducible refine' we_cb ?_
  | with_reducible refine' we_call0 ?_
  | with_reducible refine' we_sl ?_
  | with_reducible refine' wo_none ?_
  | (with_reducible refine' wo_some ?_)
  | with_reducible refine' wt_test ?_
  | with_reducible refine' wt_B ?_
  | with_reducible refine' wt_and ?_
  | with_reducible refine' wt_or ?_
  | with_reducible refine' wt_not ?_
  | with_reducible refine' wt_yes ?_
  | with_reducible refine' we_chain ?_
  | with_reducible refine' we_chain3 ?_
  | with_reducible refine' we_revT ?_
  | with_reducible refine' we_revL ?_
  | with_reducible refine' we_bm ?_
  | with_reducible refine' we_bm0 ?_
  | with_reducible refine' ws_for ?_
  | with_reducible refine' we_lc ?_
  | with_reducible refine' wi_list ?_
  | with_reducible refine' wi_tup ?_
  | with_reducible refine' wi_T ?_
  | with_reducible refine' wi_rng1 ?_
  | with_reducible refine' wi_rng2 ?_
  | with_reducible refine' wi_rng3 ?_
  | with_reducible refine' wi_enum ?_
  | with_reducible refine' wi_enumT ?_
  | with_reducible refine' wi_zip ?_
  | with_reducible refine' wg_name ?_
  | with_reducible refine' wg_sub ?_
  | with_reducible refine' wgs_nil ?_
  | with_reducible refine' wgs_cons ?_
  | ((with_reducible refine' wg_tup ?ht ?hn ?_); (case ht => walk_at "ist"); (case hn => rfl))
  | with_reducible refine' w2_add ?_
  | with_reducible refine' w2_sub ?_
  | with_reducible refine' w2_lt ?_
  | with_reducible refine' w2_le ?_
  | with_reducible refine' w2_gt ?_
  | with_reducible refine' w2_ge ?_
  | with_reducible refine' w2_eqI ?_
  | with_reducible refine' w2_neI ?_
  | with_reducible refine' w2_eqT ?_
  | with_reducible refine' w2_neT ?_
  | with_reducible refine' w2_eqB ?_
  | with_reducible refine' w2_neB ?_
  | with_reducible refine' w2_isN ?_
  | with_reducible refine' w2_notN ?_
  | with_reducible refine' w2_isB ?_
  | with_reducible refine' w2_inT ?_
  | with_reducible refine' w1_neg ?_
  | with_reducible refine' wl_abs ?_
  | with_reducible refine' wl_max2 ?_
  | with_reducible refine' wl_min2 ?_
  | with_reducible refine' wl_intB ?_
  | ((with_reducible refine' w2_div ?h ?_); case h => first | omega | (constructor <;> omega))
  | ((with_reducible refine' w2_mod ?h ?_); case h => omega)
  | ((with_reducible refine' w2_catT ?h ?_); case h => walk_at "len")
  | ((with_reducible refine' wsl_T ?h ?_); case h => walk_at "len")
  | ((with_reducible refine' wl_lenT ?h ?_); case h => walk_at "len")
  | ((with_reducible refine' wl_len ?h ?_); case h => walk_at "isl")
  | ((with_reducible refine' wl_len ?h ?_); case h => walk_at "isl")
  | ((with_reducible refine' wm_append ?sw ?hl ?_); (case sw => walk_at "swap"); (case hl => walk_at "len")))
local macro_rules | `(tactic| walk_at "b1") => `(tactic| first | with_reducible refine' ws_seq ?_ | walk_at "b0")
local macro_rules | `(tactic| walk_at "bx") => `(tactic| first
  | refine ⟨_, rfl, ?_⟩
  | refine ⟨_, _, rfl, ?_⟩
  | refine ⟨ty_L (by walk_at "isl"), ?_⟩
  | refine ⟨ty_S, ?_⟩
  | refine spl_t (by rfl) ?_
  | refine spl_f (by rfl) ?_
  | exact rfl)
local macro_rules | `(tactic| walk_at "bm") => `(tactic| repeat (first | walk_at "b1" | walk_at "bx"))
local macro_rules | `(tactic| walk_at "bn") => `(tactic| repeat (first | walk_at "b0" | walk_at "bx"))
theorem atI_m1 {α : Type} {xs : List α} {v : α} (h : xs[xs.length - 1]? = some v) : atI xs (-1) = some v := by
  unfold atI ixN
  have hl : xs.length - 1 < xs.length := (List.getElem?_eq_some_iff.mp h).1
  rw [if_neg (by decide), if_pos (by omega)]
  have e : ((-1 : Int) + (xs.length : Int)).toNat = xs.length - 1 := by omega
  rw [e]
  exact h
theorem dps_m1 (r : List Bool) : atI ((dps r).map V.int) (-1) = some (.int (hgt r)) := by
  apply atI_m1
  rw [List.length_map, dps_len, List.getElem?_map]
  have : r.length + 1 - 1 = r.length := by omega
  rw [this, dps_last]
  rfl
theorem atI_of {α : Type} {xs : List α} {v : α} {i : Int} (h0 : 0 ≤ i) (h : xs[i.toNat]? = some v) : atI xs i = some v := by
  have e : i = (i.toNat : Int) := by omega
  rw [e]
  exact atI_nat h
theorem tyX_mono {K : PySem.W.Frag} {H H' : Hp} {x : V} {t : Value} (e : Ex H H') (h : TyX K H x t) : TyX K H' x t := by
  cases h with
  | base h =>
    cases h with
    | non => exact .base .non
    | bl b => exact .base (.bl b)
    | int i => exact .base (.int i)
    | str z => exact .base (.str z)
    | flt z => exact .base (.flt z)
    | lst h => exact .base (.lst (e _ _ h))
    | frz h => exact .base (.frz (e _ _ h))
    | tup h => exact .base (.tup (e _ _ h))
    | dK h => exact .base (.dK (e _ _ h))
    | dT h => exact .base (.dT (e _ _ h))
    | ins h cl ha hn ht hm => exact .base (.ins (e _ _ h) cl ha hn ht hm)
  | byt b => exact .byt b
  | set h => exact .set (e _ _ h)
  | kList h c => exact .kList h c
  | kTuple h c => exact .kTuple h c
  | kDict h c => exact .kDict h c
  | fTuple h => exact .fTuple (e _ _ h)
  | fDict h => exact .fDict (e _ _ h)
theorem ln_deepens {K : PySem.W.Frag} {C : CA} {vs : List V} {H : Hp} {Q : VK} {E : XK} (h : sp_deepens K C vs H Q E) : vs.length = 1 := by
  obtain ⟨v, ⟨b, rfl, _⟩, _⟩ := h
  rfl
theorem c_deepens {K : PySem.W.Frag} {C : CA} {H0 : Hp} {s : Ld} {Q : V → Ld → Prop} {E : XK} {b : Bool} (q : Q (.int (sg b)) s) : WC H0 (sp_deepens K C) E [.str (T [b])] s Q := wc_V (fun H o => ⟨b, rfl, rfl⟩) q
theorem pu_deepens {K : PySem.W.Frag} {C : CA} {vs : List V} {H : Hp} {Q : VK} {E : XK} (h : sp_deepens K C vs H Q E) : rd_deepens K C { nx := fun _ H' => Q .non H', rt := Q } (start N_deepens vs) H := by
  obtain ⟨v, ⟨b, rfl, rfl⟩, k⟩ := h
  refine body_V ?_ k
  unfold rd_deepens
  walk_at "bm"
  cases b
  · refine ⟨fun hc => absurd hc (by decide), fun hc => ?_⟩
    walk_at "bm"
  · refine ⟨fun hc => ?_, fun hc => absurd hc (by decide)⟩
    walk_at "bm"
local macro_rules | `(tactic| walk_at "b0") => `(tactic| with_reducible refine' c_deepens ?_)
theorem ln_depths_of {K : PySem.W.Frag} {C : CA} {vs : List V} {H : Hp} {Q : VK} {E : XK} (h : sp_depths_of K C vs H Q E) : vs.length = 1 := by
  obtain ⟨v, ⟨b, rfl, _⟩, _⟩ := h
  rfl
theorem pu_depths_of {K : PySem.W.Frag} {C : CA} {vs : List V} {H : Hp} {Q : VK} {E : XK} (h : sp_depths_of K C vs H Q E) : rd_depths_of K C { nx := fun _ H' => Q .non H', rt := Q } (start N_depths_of vs) H := by
  obtain ⟨v, ⟨r, rfl, hl, rfl⟩, k⟩ := h
  refine body_L ?_ k
  unfold rd_depths_of
  walk_at "bm"
  refine ⟨by decide, fun p hp => ?_⟩
  walk_at "bm"
  refine lp_T (fun i σ s => ∃ b, σ = [some (.str (T r)), some (.ref p), b] ∧ s = ⟨[(p, .lst ((dps (r.take i)).map V.int))], []⟩) rfl ⟨none, rfl, rfl⟩ ?_ ?_
  · rintro i b σ s hi hb ⟨b0, rfl, rfl⟩
    walk_at "bm"
    refine w2_ixL (by walk_at "isl") (dps_m1 _) ?_
    walk_at "bm"
    refine ⟨_, Sub.refl _, _, rfl, ?_⟩
    rw [take_snoc hb, dps_snoc, List.map_append]
    rfl
  · rintro σ s ⟨b0, rfl, rfl⟩
    walk_at "bm"
    rw [List.take_length]
    exact List.mem_cons_self
theorem c_depths_of {K : PySem.W.Frag} {C : CA} {H0 : Hp} {s : Ld} {Q : V → Ld → Prop} {E : XK} {r : List Bool} (hl : r.length ≤ 1000) (q : ∀ p, H0 p = none → Q (.ref p) ⟨(p, .lst ((dps r).map V.int)) :: s.L, s.T⟩) : WC H0 (sp_depths_of K C) E [.str (T r)] s Q := wc_L (fun H o => ⟨r, rfl, hl, rfl⟩) q
local macro_rules | `(tactic| walk_at "b0") => `(tactic| ((with_reducible refine' c_depths_of ?hl ?_); (case hl => walk_at "len")))
/-- is_whole of an int -/
theorem ln_is_whole {K : PySem.W.Frag} {C : CA} {vs : List V} {H : Hp} {Q : VK} {E : XK} (h : sp_is_whole K C vs H Q E) : vs.length = 1 := by
  obtain ⟨x, t, b1, b2, rfl, _⟩ := h
  rfl
theorem pu_is_whole {K : PySem.W.Frag} {C : CA} {vs : List V} {H : Hp} {Q : VK} {E : XK} (h : sp_is_whole K C vs H Q E) : rd_is_whole K C { nx := fun _ H' => Q .non H', rt := Q } (start N_is_whole vs) H := by
  obtain ⟨x, t, b1, b2, rfl, ty, h1, h2, k⟩ := h
  refine body_V (v := .bl (b1 && !b2)) ?_ k
  unfold rd_is_whole
  walk_at "bm"
  refine wl_isi (tv := t) (b := b1) ?_ h1 ?_
  · intro H' o
    exact tyX_mono o.ex ty
  refine ⟨_, rfl, fun hc => ?_, fun hc => ?_⟩
  · walk_at "bm"
    refine wl_isi (tv := t) (b := b2) ?_ h2 ?_
    · intro H' o
      exact tyX_mono o.ex ty
    refine ⟨_, rfl, ?_⟩
    rw [hc]
    rfl
  · rw [hc]
    rfl
theorem c_is_wholeI {K : PySem.W.Frag} {C : CA} {H0 : Hp} {s : Ld} {Q : V → Ld → Prop} {E : XK} {i : Int} (q : Q (.bl true) s) : WC H0 (sp_is_whole K C) E [.int i] s Q := fun H o R k =>
  ⟨.int i, _, true, false, rfl, .base (.int i), kit_ty (by decide +kernel), kit_ty (by decide +kernel), fun H' e => k _ _ _ (o.ext e) q⟩
local macro_rules | `(tactic| walk_at "b0") => `(tactic| with_reducible refine' c_is_wholeI ?_)
theorem c_flipped {K : PySem.W.Frag} {C : CA} {H0 : Hp} {s : Ld} {Q : V → Ld → Prop} {E : XK} {b : Bool} (q : Q (.str (T [!b])) s) : WC H0 (sp_flipped K C) E [.str (T [b])] s Q := wc_V (fun H o => ⟨b, rfl, rfl⟩) q
local macro_rules | `(tactic| walk_at "b0") => `(tactic| with_reducible refine' c_flipped ?_)
theorem ln_is_right_row {K : PySem.W.Frag} {C : CA} {vs : List V} {H : Hp} {Q : VK} {E : XK} (h : sp_is_right_row K C vs H Q E) : vs.length = 1 := by
  obtain ⟨v, ⟨b, rfl, _⟩, _⟩ := h
  rfl
theorem min_dps {r : List Bool} {m : Int} (h1 : m ∈ dps r) (h2 : ∀ y, y ∈ dps r → m ≤ y) (hz : hgt r = 0) : decide (m = 0) = (dps r).all fun z => decide (0 ≤ z) := by
  have h0 : (0 : Int) ∈ dps r := mem_dps.mpr ⟨0, Nat.zero_le _, rfl⟩
  have h3 := h2 0 h0
  by_cases e : m = 0
  · subst e
    rw [decide_eq_true rfl]
    symm
    rw [List.all_eq_true]
    intro z hz
    exact decide_eq_true (h2 z hz)
  · rw [decide_eq_false e]
    symm
    rw [List.all_eq_false]
    exact ⟨m, h1, by simp; omega⟩
theorem pu_is_right_row {K : PySem.W.Frag} {C : CA} {vs : List V} {H : Hp} {Q : VK} {E : XK} (h : sp_is_right_row K C vs H Q E) : rd_is_right_row K C { nx := fun _ H' => Q .non H', rt := Q } (start N_is_right_row vs) H := by
  obtain ⟨v, ⟨r, rfl, hl, rfl⟩, k⟩ := h
  refine body_V ?_ k
  unfold rd_is_right_row
  walk_at "bm"
  intro p hp
  walk_at "bm"
  refine w2_ixL (by walk_at "isl") (dps_m1 _) ?_
  walk_at "bm"
  refine ⟨fun hc => ?_, fun hc => ?_⟩
  · walk_at "bm"
    refine wl_min (by walk_at "isl") (by rw [dps_len]; omega) fun m h1 h2 => ?_
    walk_at "bm"
    have hz : hgt r = 0 := of_decide_eq_true hc
    show V.bl _ = V.bl _
    unfold isR
    rw [hc, min_dps h1 h2 hz]
    rfl
  · show V.bl _ = V.bl _
    unfold isR
    rw [hc]
    rfl
theorem c_is_right_row {K : PySem.W.Frag} {C : CA} {H0 : Hp} {s : Ld} {Q : V → Ld → Prop} {E : XK} {r : List Bool} (hl : r.length ≤ 1000) (q : Q (.bl (isR r)) s) : WC H0 (sp_is_right_row K C) E [.str (T r)] s Q := wc_V (fun H o => ⟨r, rfl, hl, rfl⟩) q
local macro_rules | `(tactic| walk_at "b0") => `(tactic| ((with_reducible refine' c_is_right_row ?hl ?_); (case hl => walk_at "len")))
end BM
namespace BM
open PySem L2 Evl
local macro_rules | `(tactic| walk_at "mem") => `(tactic| first | exact List.mem_cons_self | (refine List.mem_cons_of_mem _ ?_; walk_at "mem"))
local macro_rules | `(tactic| walk_at "swap") => `(tactic| first | exact Swap.here | (refine Swap.there ?_; walk_at "swap"))
local macro_rules | `(tactic| walk_at "subl") => `(tactic| first | exact List.Sublist.refl _ | exact List.nil_sublist _ | (refine List.Sublist.cons_cons _ ?_; walk_at "subl") | (refine List.Sublist.cons _ ?_; walk_at "subl"))
local macro_rules | `(tactic| walk_at "sub") => `(tactic| first | exact Sub.refl _ | (refine ⟨?_, ?_⟩ <;> walk_at "subl"))
local macro_rules | `(tactic| walk_at "isl") => `(tactic| first | exact isL_own (by walk_at "mem") | exact isL_old (by assumption) | assumption)
local macro_rules | `(tactic| walk_at "ist") => `(tactic| first | exact isT_own (by walk_at "mem") | exact isT_old (by assumption) | assumption)
local macro_rules | `(tactic| walk_at "len") => `(tactic| first | omega | decide | (simp only [List.length_map, List.length_take, List.length_drop, List.length_append, List.length_cons, List.length_nil, List.length_reverse, dps_len, flp_len]; omega) | (simp [dps_len, flp_len]; omega) | simp)
local macro_rules | `(tactic| walk_at "b0") => `(tactic| first
  | with_reducible refine' ws_set ?_
  | with_reducible refine' ws_par ?_
  | with_reducible refine' ws_asg ?_
  | with_reducible refine' ws_drop ?_
  | with_reducible refine' ws_ret ?_
  | with_reducible refine' ws_if ?_
  | with_reducible refine' ws_next ?_
  | with_reducible refine' ws_brk ?_
  | with_reducible refine' ws_cont ?_
  | ((with_reducible refine' we_var ?hv ?_); case hv => rfl)
  | with_reducible refine' we_c ?_
  | with_reducible refine' we_op ?_
  | with_reducible refine' we_un ?_
  | with_reducible refine' we_if ?_
  | with_reducible refine' we_and ?_
  | with_reducible refine' we_or ?_
  | with_reducible refine' we_not ?_
  | with_reducible refine' wa_nil ?_
  | with_reducible refine' wa_cons ?_
  | (with_reducible refine' we_lst ?_)
  | (with_reducible refine' we_tup ?_)
  | with_reducible refine' we_cb ?_
  | with_reducible refine' we_call0 ?_
  | with_reducible refine' we_sl ?_
  | with_reducible refine' wo_none ?_
  | (with_reducible refine' wo_some ?_)
  | with_reducible refine' wt_test ?_
  | with_reducible refine' wt_B ?_
  | with_reducible refine' wt_and ?_
  | with_reducible refine' wt_or ?_
  | with_reducible refine' wt_not ?_
  | with_reducible refine' wt_yes ?_
  | with_reducible refine' we_chain ?_
  | with_reducible refine' we_chain3 ?_
  | with_reducible refine' we_revT ?_
  | with_reducible refine' we_revL ?_
  | with_reducible refine' we_bm ?_
  | with_reducible refine' we_bm0 ?_
  | with_reducible refine' ws_for ?_
  | with_reducible refine' we_lc ?_
  | with_reducible refine' wi_list ?_
  | with_reducible refine' wi_tup ?_
  | with_reducible refine' wi_T ?_
  | with_reducible refine' wi_rng1 ?_
  | with_reducible refine' wi_rng2 ?_
  | with_reducible refine' wi_rng3 ?_
  | with_reducible refine' wi_enum ?_
  | with_reducible refine' wi_enumT ?_
  | with_reducible refine' wi_zip ?_
  | with_reducible refine' wg_name ?_
  | with_reducible refine' wg_sub ?_
  | with_reducible refine' wgs_nil ?_
  | with_reducible refine' wgs_cons ?_
  | ((with_reducible refine' wg_tup ?ht ?hn ?_); (case ht => walk_at "ist"); (case hn => rfl))
  | with_reducible refine' w2_add ?_
  | with_reducible refine' w2_sub ?_
  | with_reducible refine' w2_lt ?_
  | with_reducible refine' w2_le ?_
  | with_reducible refine' w2_gt ?_
  | with_reducible refine' w2_ge ?_
  | with_reducible refine' w2_eqI ?_
  | with_reducible refine' w2_neI ?_
  | with_reducible refine' w2_eqT ?_
  | with_reducible refine' w2_neT ?_
  | with_reducible refine' w2_eqB ?_
  | with_reducible refine' w2_neB ?_
  | with_reducible refine' w2_isN ?_
  | with_reducible refine' w2_notN ?_
  | with_reducible refine' w2_isB ?_
  | with_reducible refine' w2_inT ?_
  | with_reducible refine' w1_neg ?_
  | with_reducible refine' wl_abs ?_
  | with_reducible refine' wl_max2 ?_
  | with_reducible refine' wl_min2 ?_
  | with_reducible refine' wl_intB ?_
  | ((with_reducible refine' w2_div ?h ?_); case h => first | omega | (constructor <;> omega))
  | ((with_reducible refine' w2_mod ?h ?_); case h => omega)
  | ((with_reducible refine' w2_catT ?h ?_); case h => walk_at "len")
  | ((with_reducible refine' wsl_T ?h ?_); case h => walk_at "len")
  | ((with_reducible refine' wl_lenT ?h ?_); case h => walk_at "len")
  | ((with_reducible refine' wl_len ?h ?_); case h => walk_at "isl")
  | ((with_reducible refine' wl_len ?h ?_); case h => walk_at "isl")
  | ((with_reducible refine' wm_append ?sw ?hl ?_); (case sw => walk_at "swap"); (case hl => walk_at "len")))
local macro_rules | `(tactic| walk_at "b1") => `(tactic| first | with_reducible refine' ws_seq ?_ | walk_at "b0")
local macro_rules | `(tactic| walk_at "bx") => `(tactic| first
  | refine ⟨_, rfl, ?_⟩
  | refine ⟨_, _, rfl, ?_⟩
  | refine ⟨ty_L (by walk_at "isl"), ?_⟩
  | refine ⟨ty_S, ?_⟩
  | refine spl_t (by rfl) ?_
  | refine spl_f (by rfl) ?_
  | exact rfl)
local macro_rules | `(tactic| walk_at "bm") => `(tactic| repeat (first | walk_at "b1" | walk_at "bx"))
local macro_rules | `(tactic| walk_at "bn") => `(tactic| repeat (first | walk_at "b0" | walk_at "bx"))
local macro_rules | `(tactic| walk_at "b0") => `(tactic| with_reducible refine' c_deepens ?_)
local macro_rules | `(tactic| walk_at "b0") => `(tactic| ((with_reducible refine' c_depths_of ?hl ?_); (case hl => walk_at "len")))
local macro_rules | `(tactic| walk_at "b0") => `(tactic| with_reducible refine' c_is_wholeI ?_)
local macro_rules | `(tactic| walk_at "b0") => `(tactic| with_reducible refine' c_flipped ?_)
local macro_rules | `(tactic| walk_at "b0") => `(tactic| ((with_reducible refine' c_is_right_row ?hl ?_); (case hl => walk_at "len")))
theorem sIx_some {n d : Nat} {v : Int} (h : 0 ≤ v) : HT.sIx n d (some v) = min v.toNat n := by
  unfold HT.sIx
  simp only
  rw [if_neg (by omega)]
theorem cut_hi {α : Type} {r : List α} {p : Int} (h : 0 ≤ p) : cutL r none (some p) = r.take p.toNat := by
  unfold cutL
  rw [sIx_some h, HT.sIx_none, List.drop_zero, Nat.sub_zero]
  rcases Nat.le_total p.toNat r.length with h1 | h1
  · rw [Nat.min_eq_left h1]
  · rw [Nat.min_eq_right h1, List.take_of_length_le h1, List.take_of_length_le (Nat.le_refl _)]
theorem cut_lo {α : Type} {r : List α} {p : Int} (h : 0 ≤ p) : cutL r (some p) none = r.drop p.toNat := by
  unfold cutL
  rw [sIx_some h, HT.sIx_none, List.take_of_length_le (by simp)]
  rcases Nat.le_total p.toNat r.length with h1 | h1
  · rw [Nat.min_eq_left h1]
  · rw [Nat.min_eq_right h1, List.drop_of_length_le h1, List.drop_of_length_le (Nat.le_refl _)]
theorem cut_both {α : Type} {r : List α} {f b : Int} (h : 0 ≤ f) (h1 : f ≤ b) (h2 : b ≤ r.length) : cutL r (some f) (some b) = (r.drop f.toNat).take (b.toNat - f.toNat) := by
  unfold cutL
  rw [sIx_some h, sIx_some (by omega), Nat.min_eq_left (by omega), Nat.min_eq_left (by omega)]
theorem get_some {α : Type} {r : List α} {i : Nat} (h : i < r.length) : ∃ x, r[i]? = some x := ⟨r[i], List.getElem?_eq_getElem h⟩
theorem ln_rounded {K : PySem.W.Frag} {C : CA} {vs : List V} {H : Hp} {Q : VK} {E : XK} (h : sp_rounded K C vs H Q E) : vs.length = 3 := by
  obtain ⟨v, ⟨b, p, q, rfl, _⟩, _⟩ := h
  rfl
theorem pu_rounded {K : PySem.W.Frag} {C : CA} {vs : List V} {H : Hp} {Q : VK} {E : XK} (h : sp_rounded K C vs H Q E) : rd_rounded K C { nx := fun _ H' => Q .non H', rt := Q } (start N_rounded vs) H := by
  obtain ⟨v, ⟨r, f, b, rfl, hl, ⟨h0, h1, h2⟩, rfl⟩, k⟩ := h
  simp only at h0 h1 h2
  refine body_V ?_ k
  unfold rd_rounded
  walk_at "bm"
  rw [cut_hi h0]
  walk_at "bm"
  rw [cut_both h0 (by omega) h2]
  refine ⟨by walk_at "len", ?_⟩
  walk_at "bm"
  rw [cut_lo (by omega)]
  walk_at "bm"
theorem c_rounded {K : PySem.W.Frag} {C : CA} {H0 : Hp} {s : Ld} {Q : V → Ld → Prop} {E : XK} {r : List Bool} {f b : Int} (hl : r.length ≤ 1000) (h0 : stOk r.length (f, b)) (q : Q (.str (T (rnd r f.toNat b.toNat))) s) : WC H0 (sp_rounded K C) E [.str (T r), .int f, .int b] s Q := wc_V (fun H o => ⟨r, f, b, rfl, hl, h0, rfl⟩) q
theorem ln_asked_row {K : PySem.W.Frag} {C : CA} {vs : List V} {H : Hp} {Q : VK} {E : XK} (h : sp_asked_row K C vs H Q E) : vs.length = 1 := by
  obtain ⟨v, ⟨b, rfl, _⟩, _⟩ := h
  rfl
theorem mem_tf (b : Bool) : decide (b ∈ [true, false]) = true := by cases b <;> decide
theorem rep_true (n : Nat) : (List.replicate n true).all id = true := by
  rw [List.all_eq_true]
  intro x hx
  exact (List.eq_of_mem_replicate hx)
theorem rep_map {α : Type} (x : α) (n : Nat) {β : Type} (f : α → β) : (List.replicate n x).map f = List.replicate n (f x) := List.map_replicate
theorem pu_asked_row {K : PySem.W.Frag} {C : CA} {vs : List V} {H : Hp} {Q : VK} {E : XK} (h : sp_asked_row K C vs H Q E) : rd_asked_row K C { nx := fun _ H' => Q .non H', rt := Q } (start N_asked_row vs) H := by
  obtain ⟨v, ⟨r, rfl, hl, rfl⟩, k⟩ := h
  refine body_V ?_ k
  unfold rd_asked_row
  walk_at "bm"
  refine wl_isi (tv := .type "str") (b := true) (fun H' o => .base (.str _)) (kit_ty (by decide +kernel)) ?_
  walk_at "bm"
  refine ⟨fun hc => absurd (of_decide_eq_true hc) (by omega), fun _ => ?_⟩
  walk_at "bm"
  refine cp_T (fun i => List.replicate i (.bl true)) (by omega) rfl (fun i _ => by simp) ?_ ?_
  · intro D i b hi hb
    walk_at "bm"
    refine ⟨rfl, ?_⟩
    walk_at "bm"
    refine ⟨Sub.refl _, ?_⟩
    rw [mem_tf, List.replicate_succ']
  · intro D hD
    walk_at "bm"
    refine wl_all (bs := List.replicate r.length true) (by rw [rep_map]; walk_at "isl") ?_
    walk_at "bm"
    rw [rep_true]
    walk_at "bm"
theorem c_asked_row {K : PySem.W.Frag} {C : CA} {H0 : Hp} {s : Ld} {Q : V → Ld → Prop} {E : XK} {r : List Bool} (hl : r.length ≤ 40) (q : Q .non s) : WC H0 (sp_asked_row K C) E [.str (T r)] s Q := wc_V (fun H o => ⟨r, rfl, hl, rfl⟩) q
local macro_rules | `(tactic| walk_at "b0") => `(tactic| ((with_reducible refine' c_asked_row ?hl ?_); (case hl => walk_at "len")))
theorem c_depths {K : PySem.W.Frag} {C : CA} {H0 : Hp} {s : Ld} {Q : V → Ld → Prop} {E : XK} {r : List Bool} (hl : r.length ≤ 40) (q : ∀ p, H0 p = none → Q (.ref p) ⟨(p, .lst ((dps r).map V.int)) :: s.L, s.T⟩) : WC H0 (sp_depths K C) E [.str (T r)] s Q := wc_L (fun H o => ⟨r, rfl, hl, rfl⟩) q
local macro_rules | `(tactic| walk_at "b0") => `(tactic| ((with_reducible refine' c_depths ?hl ?_); (case hl => walk_at "len")))
theorem c_is_right {K : PySem.W.Frag} {C : CA} {H0 : Hp} {s : Ld} {Q : V → Ld → Prop} {E : XK} {r : List Bool} (hl : r.length ≤ 40) (q : Q (.bl (isR r)) s) : WC H0 (sp_is_right K C) E [.str (T r)] s Q := wc_V (fun H o => ⟨r, rfl, hl, rfl⟩) q
local macro_rules | `(tactic| walk_at "b0") => `(tactic| ((with_reducible refine' c_is_right ?hl ?_); (case hl => walk_at "len")))
theorem flat_one (r : List Bool) : (r.map fun b => [b]).flatten = r := by
  induction r with
  | nil => rfl
  | cons b r ih => rw [List.map_cons, List.flatten_cons, ih]; rfl
theorem sum_one (r : List Bool) : ((r.map fun b => [b]).map (·.length)).sum = r.length := by
  induction r with
  | nil => rfl
  | cons b r ih =>
    rw [List.map_cons, List.map_cons, List.sum_cons, ih]
    simp
    omega
theorem ones_map (r : List Bool) : (r.map fun b => V.str (T [b])) = (r.map fun b => [b]).map fun u => V.str (T u) := by
  rw [List.map_map]
  rfl
theorem wm_join1 {K : PySem.W.Frag} {H0 : Hp} {s : Ld} {Q : V → Ld → Prop} {p : Addr} {r : List Bool} (hx : IsL K H0 s p (r.map fun b => .str (T [b]))) (hl : r.length ≤ 100000) (q : Q (.str (T r)) s) : WM H0 (aJoin K) (.str (T [])) [.ref p] s Q :=
  wm_join (rs := r.map fun b => [b]) (by rw [← ones_map]; exact hx) (by rw [sum_one]; exact hl) (by rw [flat_one]; exact q)
end BM
namespace BM
open PySem L2 Evl
local macro_rules | `(tactic| walk_at "mem") => `(tactic| first | exact List.mem_cons_self | (refine List.mem_cons_of_mem _ ?_; walk_at "mem"))
local macro_rules | `(tactic| walk_at "swap") => `(tactic| first | exact Swap.here | (refine Swap.there ?_; walk_at "swap"))
local macro_rules | `(tactic| walk_at "subl") => `(tactic| first | exact List.Sublist.refl _ | exact List.nil_sublist _ | (refine List.Sublist.cons_cons _ ?_; walk_at "subl") | (refine List.Sublist.cons _ ?_; walk_at "subl"))
local macro_rules | `(tactic| walk_at "sub") => `(tactic| first | exact Sub.refl _ | (refine ⟨?_, ?_⟩ <;> walk_at "subl"))
local macro_rules | `(tactic| walk_at "isl") => `(tactic| first | exact isL_own (by walk_at "mem") | exact isL_old (by assumption) | assumption)
local macro_rules | `(tactic| walk_at "ist") => `(tactic| first | exact isT_own (by walk_at "mem") | exact isT_old (by assumption) | assumption)
local macro_rules | `(tactic| walk_at "len") => `(tactic| first | omega | decide | (simp only [List.length_map, List.length_take, List.length_drop, List.length_append, List.length_cons, List.length_nil, List.length_reverse, dps_len, flp_len]; omega) | (simp [dps_len, flp_len]; omega) | simp)
local macro_rules | `(tactic| walk_at "b0") => `(tactic| first
  | with_reducible refine' ws_set ?_
  | with_reducible refine' ws_par ?_
  | with_reducible refine' ws_asg ?_
  | with_reducible refine' ws_drop ?_
  | with_reducible refine' ws_ret ?_
  | with_reducible refine' ws_if ?_
  | with_reducible refine' ws_next ?_
  | with_reducible refine' ws_brk ?_
  | with_reducible refine' ws_cont ?_
  | ((with_reducible refine' we_var ?hv ?_); case hv => rfl)
  | with_reducible refine' we_c ?_
  | with_reducible refine' we_op ?_
  | with_reducible refine' we_un ?_
  | with_reducible refine' we_if ?_
  | with_reducible refine' we_and ?_
  | with_reducible refine' we_or ?_
  | with_reducible refine' we_not ?_
  | with_reducible refine' wa_nil ?_
  | with_reducible refine' wa_cons ?_
  | (with_reducible refine' we_lst ?_)
  | (with_reducible refine' we_tup ?_)
  | with_reducible refine' we_cb ?_
  | with_reducible refine' we_call0 ?_
  | with_reducible refine' we_sl ?_
  | with_reducible refine' wo_none ?_
  | (with_reducible refine' wo_some ?_)
  | with_reducible refine' wt_test ?_
  | with_reducible refine' wt_B ?_
  | with_reducible refine' wt_and ?_
  | with_reducible refine' wt_or ?_
  | with_reducible refine' wt_not ?_
  | with_reducible refine' wt_yes ?_
  | with_reducible refine' we_chain ?_
  | with_reducible refine' we_chain3 ?_
  | with_reducible refine' we_revT ?_
  | with_reducible refine' we_revL ?_
  | with_reducible refine' we_bm ?_
  | with_reducible refine' we_bm0 ?_
  | with_reducible refine' ws_for ?_
  | with_reducible refine' we_lc ?_
  | with_reducible refine' wi_list ?_
  | with_reducible refine' wi_tup ?_
  | with_reducible refine' wi_T ?_
  | with_reducible refine' wi_rng1 ?_
  | with_reducible refine' wi_rng2 ?_
  | with_reducible refine' wi_rng3 ?_
  | with_reducible refine' wi_enum ?_
  | with_reducible refine' wi_enumT ?_
  | with_reducible refine' wi_zip ?_
  | with_reducible refine' wg_name ?_
  | with_reducible refine' wg_sub ?_
  | with_reducible refine' wgs_nil ?_
  | with_reducible refine' wgs_cons ?_
  | ((with_reducible refine' wg_tup ?ht ?hn ?_); (case ht => walk_at "ist"); (case hn => rfl))
  | with_reducible refine' w2_add ?_
  | with_reducible refine' w2_sub ?_
  | with_reducible refine' w2_lt ?_
  | with_reducible refine' w2_le ?_
  | with_reducible refine' w2_gt ?_
  | with_reducible refine' w2_ge ?_
  | with_reducible refine' w2_eqI ?_
  | with_reducible refine' w2_neI ?_
  | with_reducible refine' w2_eqT ?_
  | with_reducible refine' w2_neT ?_
  | with_reducible refine' w2_eqB ?_
  | with_reducible refine' w2_neB ?_
  | with_reducible refine' w2_isN ?_
  | with_reducible refine' w2_notN ?_
  | with_reducible refine' w2_isB ?_
  | with_reducible refine' w2_inT ?_
  | with_reducible refine' w1_neg ?_
  | with_reducible refine' wl_abs ?_
  | with_reducible refine' wl_max2 ?_
  | with_reducible refine' wl_min2 ?_
  | with_reducible refine' wl_intB ?_
  | ((with_reducible refine' w2_div ?h ?_); case h => first | omega | (constructor <;> omega))
  | ((with_reducible refine' w2_mod ?h ?_); case h => omega)
  | ((with_reducible refine' w2_catT ?h ?_); case h => walk_at "len")
  | ((with_reducible refine' wsl_T ?h ?_); case h => walk_at "len")
  | ((with_reducible refine' wl_lenT ?h ?_); case h => walk_at "len")
  | ((with_reducible refine' wl_len ?h ?_); case h => walk_at "isl")
  | ((with_reducible refine' wl_len ?h ?_); case h => walk_at "isl")
  | ((with_reducible refine' wm_append ?sw ?hl ?_); (case sw => walk_at "swap"); (case hl => walk_at "len")))
local macro_rules | `(tactic| walk_at "b1") => `(tactic| first | with_reducible refine' ws_seq ?_ | walk_at "b0")
local macro_rules | `(tactic| walk_at "bx") => `(tactic| first
  | refine ⟨_, rfl, ?_⟩
  | refine ⟨_, _, rfl, ?_⟩
  | refine ⟨ty_L (by walk_at "isl"), ?_⟩
  | refine ⟨ty_S, ?_⟩
  | refine spl_t (by rfl) ?_
  | refine spl_f (by rfl) ?_
  | exact rfl)
local macro_rules | `(tactic| walk_at "bm") => `(tactic| repeat (first | walk_at "b1" | walk_at "bx"))
local macro_rules | `(tactic| walk_at "bn") => `(tactic| repeat (first | walk_at "b0" | walk_at "bx"))
local macro_rules | `(tactic| walk_at "b0") => `(tactic| with_reducible refine' c_deepens ?_)
local macro_rules | `(tactic| walk_at "b0") => `(tactic| ((with_reducible refine' c_depths_of ?hl ?_); (case hl => walk_at "len")))
local macro_rules | `(tactic| walk_at "b0") => `(tactic| with_reducible refine' c_is_wholeI ?_)
local macro_rules | `(tactic| walk_at "b0") => `(tactic| with_reducible refine' c_flipped ?_)
local macro_rules | `(tactic| walk_at "b0") => `(tactic| ((with_reducible refine' c_is_right_row ?hl ?_); (case hl => walk_at "len")))
local macro_rules | `(tactic| walk_at "b0") => `(tactic| ((with_reducible refine' c_asked_row ?hl ?_); (case hl => walk_at "len")))
local macro_rules | `(tactic| walk_at "b0") => `(tactic| ((with_reducible refine' c_depths ?hl ?_); (case hl => walk_at "len")))
local macro_rules | `(tactic| walk_at "b0") => `(tactic| ((with_reducible refine' c_is_right ?hl ?_); (case hl => walk_at "len")))
theorem getI {ps : List Int} {i : Nat} {y : V} (hy : (ps.map V.int)[i]? = some y) : ∃ z, ps[i]? = some z ∧ y = V.int z := by
  rw [List.getElem?_map] at hy
  cases e : ps[i]? with
  | none => rw [e] at hy; cases hy
  | some z => rw [e] at hy; exact ⟨z, rfl, (Option.some.inj hy).symm⟩
theorem ln_is_stretch {K : PySem.W.Frag} {C : CA} {vs : List V} {H : Hp} {Q : VK} {E : XK} (h : sp_is_stretch K C vs H Q E) : vs.length = 2 := by
  obtain ⟨v, ⟨x, a, ps, rfl, _⟩, _⟩ := h
  rfl
theorem stOk_eq (n : Nat) (p : Int × Int) : decide (stOk n p) = (decide (0 ≤ p.1) && (decide (p.1 < p.2) && decide (p.2 ≤ (n : Int)))) := by
  unfold stOk
  by_cases h1 : 0 ≤ p.1 <;> by_cases h2 : p.1 < p.2 <;> by_cases h3 : p.2 ≤ (n : Int) <;> simp [h1, h2, h3]
theorem pu_is_stretch {K : PySem.W.Frag} {C : CA} {vs : List V} {H : Hp} {Q : VK} {E : XK} (h : sp_is_stretch K C vs H Q E) : rd_is_stretch K C { nx := fun _ H' => Q .non H', rt := Q } (start N_is_stretch vs) H := by
  obtain ⟨v, ⟨r, t, p, rfl, hl, ht, rfl⟩, k⟩ := h
  have hs : SqT K H t [.int p.1, .int p.2] := st_of ht
  refine body_V ?_ k
  unfold rd_is_stretch
  walk_at "bm"
  refine wl_isi (tv := .type "tuple") (b := true) (fun H' o => .base (.tup (o.ex _ _ ht))) (kit_ty (by decide +kernel)) ?_
  walk_at "bm"
  refine wl_lenU (isT_old hs) ?_
  walk_at "bm"
  refine ⟨⟨_, isT_old hs⟩, ?_⟩
  refine cp_tup (xs := [.int p.1, .int p.2]) (fun i => List.replicate i (.bl true)) (isT_old hs) (by simp) rfl (fun i _ => by simp) ?_ ?_
  · intro D i y hi hy
    have hy' : ∃ z, y = V.int z := by
      rcases i with _ | _ | i
      · exact ⟨_, (Option.some.inj hy).symm⟩
      · exact ⟨_, (Option.some.inj hy).symm⟩
      · simp at hi
        omega
    obtain ⟨z, rfl⟩ := hy'
    walk_at "bm"
    refine ⟨rfl, ?_⟩
    walk_at "bm"
    refine ⟨Sub.refl _, ?_⟩
    rw [List.replicate_succ']
  · intro D hD
    walk_at "bm"
    refine wl_all (bs := List.replicate 2 true) (by rw [rep_map]; walk_at "isl") ?_
    walk_at "bm"
    refine w2_ixU (v := .int p.1) (isT_old hs) (atI_of (by omega) rfl) ?_
    walk_at "bm"
    have e := stOk_eq r.length p
    refine ⟨fun h1 => ?_, fun h1 => ?_⟩
    · walk_at "bm"
      refine w2_ixU (v := .int p.2) (isT_old hs) (atI_of (by omega) rfl) ?_
      walk_at "bm"
      refine ⟨fun h2 => ?_, fun h2 => ?_⟩
      · walk_at "bm"
        rw [e, h1, h2]
        rfl
      · rw [e, h1, h2]
        rfl
    · rw [e, h1]
      rfl
theorem c_is_stretch {K : PySem.W.Frag} {C : CA} {H0 : Hp} {s : Ld} {Q : V → Ld → Prop} {E : XK} {r : List Bool} {t : Addr} {p : Int × Int} (hl : r.length ≤ 1000) (ht : ∀ H, Own H0 H s → H t = some (.tup [.int p.1, .int p.2])) (q : Q (.bl (decide (stOk r.length p))) s) : WC H0 (sp_is_stretch K C) E [.str (T r), .ref t] s Q :=
  wc_V (fun H o => ⟨r, t, p, rfl, hl, ht H o, rfl⟩) q
theorem pairs_get {F : V → (Int × Int) → Prop} {xs : List V} {ps : List (Int × Int)} (h : Paired F xs ps) : ∀ {i : Nat} {x : V}, xs[i]? = some x → ∃ p, ps[i]? = some p ∧ F x p := by
  induction h with
  | nil => intro i x e; simp at e
  | cons r t ih =>
    intro i x e
    cases i with
    | zero =>
      cases e
      exact ⟨_, rfl, r⟩
    | succ i => exact ih (i := i) (by simpa using e)
theorem rnAll_snoc {ps : List (Int × Int)} {r : List Bool} {i : Nat} {p : Int × Int} (hp : ps[i]? = some p) : rnAll r (ps.take (i + 1)) = rnd (rnAll r (ps.take i)) p.1.toNat p.2.toNat := by
  rw [take_snoc hp]
  unfold rnAll
  rw [List.foldl_append]
  rfl
end BM
/-! how a law's row is made even -/
namespace BM
theorem hgt_count (r : List Bool) : hgt r = (r.count true : Int) - (r.count false : Int) := by
  induction r with
  | nil => simp [hgt]
  | cons b r ih =>
    simp only [hgt, ih, List.count_cons]
    cases b <;> simp [sg] <;> omega
theorem hgt_set {r : List Bool} {j : Nat} {a : Bool} (h : r[j]? = some a) (b : Bool) : hgt (r.set j b) = hgt r - sg a + sg b := by
  induction r generalizing j with
  | nil => simp at h
  | cons c r ih =>
    cases j with
    | zero =>
      have e : c = a := by simpa using h
      subst e
      simp only [List.set_cons_zero, hgt]
      omega
    | succ j =>
      have h' : r[j]? = some a := by simpa using h
      simp only [List.set_cons_succ, hgt, ih h']
      omega
theorem hgt_all {r : List Bool} {b : Bool} (h : ∀ x ∈ r, x = b) : hgt r = sg b * r.length := by
  induction r with
  | nil => simp [hgt]
  | cons c r ih =>
    have h1 := h c List.mem_cons_self
    have h2 := ih fun x hx => h x (List.mem_cons_of_mem _ hx)
    simp only [hgt, h2, h1, List.length_cons]
    cases b <;> simp [sg] <;> omega
theorem hgt_par (r : List Bool) : (hgt r + r.length) % 2 = 0 := by
  induction r with
  | nil => simp [hgt]
  | cons c r ih =>
    simp only [hgt, List.length_cons]
    cases c <;> simp [sg] <;> omega
/-- what holds behind i turns of the evening loop -/
structure EvenUp (w : Int) (n i : Nat) (r : List Bool) (m : Int) : Prop where
  len : r.length = n
  hg : hgt r = m
  par : n % 2 = 0
  vis : m = 0 ∨ (0 < m ∧ ∀ j, j < i → r[(((j : Int) + w) % (n : Int)).toNat]? = some false) ∨ (m < 0 ∧ ∀ j, j < i → r[(((j : Int) + w) % (n : Int)).toNat]? = some true)
theorem EvenUp.start {w : Int} {r : List Bool} (hp : r.length % 2 = 0) : EvenUp w r.length 0 r (hgt r) :=
  ⟨rfl, rfl, hp, by
    rcases Int.lt_trichotomy (hgt r) 0 with h | h | h
    · exact .inr (.inr ⟨h, fun j hj => absurd hj (Nat.not_lt_zero _)⟩)
    · exact .inl h
    · exact .inr (.inl ⟨h, fun j hj => absurd hj (Nat.not_lt_zero _)⟩)⟩
theorem set_get {r : List Bool} {j k : Nat} {b : Bool} (hj : j < r.length) (h : r[k]? = some b) : (r.set j b)[k]? = some b := by
  by_cases e : j = k
  · subst e
    rw [List.getElem?_set_self hj]
  · rw [List.getElem?_set_ne e]
    exact h
theorem EvenUp.turn {w m : Int} {n i : Nat} {r : List Bool} {a : Bool} (E : EvenUp w n i r m) (hm : m ≠ 0) (h : r[(((i : Int) + w) % (n : Int)).toNat]? = some a) (ha : a = decide (0 < m)) :
    EvenUp w n (i + 1) (r.set (((i : Int) + w) % (n : Int)).toNat (!a)) (if 0 < m then m - 2 else m + 2) := by
  have hj : (((i : Int) + w) % (n : Int)).toNat < r.length := (List.getElem?_eq_some_iff.mp h).1
  have hg := hgt_set h (!a)
  have hpar := hgt_par r
  have e1 := E.hg
  have e2 := E.len
  have e3 := E.par
  refine ⟨by rw [List.length_set]; exact E.len, ?_, E.par, ?_⟩
  · rw [hg, E.hg, ha]
    by_cases h0 : 0 < m
    · simp [h0, sg]; omega
    · simp [h0, sg]; omega
  · rcases E.vis with v | ⟨v, hv⟩ | ⟨v, hv⟩
    · exact absurd v hm
    · have ea : a = true := by rw [ha]; exact decide_eq_true v
      subst ea
      rw [if_pos v]
      by_cases h2 : m - 2 = 0
      · exact .inl h2
      · refine .inr (.inl ⟨by omega, fun j hj' => ?_⟩)
        rcases Nat.lt_succ_iff_lt_or_eq.mp hj' with h3 | h3
        · exact set_get hj (hv j h3)
        · subst h3
          exact List.getElem?_set_self hj
    · have ea : a = false := by rw [ha]; exact decide_eq_false (by omega)
      subst ea
      rw [if_neg (by omega)]
      by_cases h2 : m + 2 = 0
      · exact .inl h2
      · refine .inr (.inr ⟨by omega, fun j hj' => ?_⟩)
        rcases Nat.lt_succ_iff_lt_or_eq.mp hj' with h3 | h3
        · exact set_get hj (hv j h3)
        · subst h3
          exact List.getElem?_set_self hj
theorem EvenUp.stay {w m : Int} {n i : Nat} {r : List Bool} {a : Bool} (E : EvenUp w n i r m) (h : r[(((i : Int) + w) % (n : Int)).toNat]? = some a) (ha : m ≠ 0 → a ≠ decide (0 < m)) : EvenUp w n (i + 1) r m := by
  refine ⟨E.len, E.hg, E.par, ?_⟩
  rcases E.vis with v | ⟨v, hv⟩ | ⟨v, hv⟩
  · exact .inl v
  · refine .inr (.inl ⟨v, fun j hj => ?_⟩)
    rcases Nat.lt_succ_iff_lt_or_eq.mp hj with h3 | h3
    · exact hv j h3
    · subst h3
      rw [h]
      have := ha (by omega)
      rw [decide_eq_true v] at this
      cases a
      · rfl
      · exact absurd rfl this
  · refine .inr (.inr ⟨v, fun j hj => ?_⟩)
    rcases Nat.lt_succ_iff_lt_or_eq.mp hj with h3 | h3
    · exact hv j h3
    · subst h3
      rw [h]
      have := ha (by omega)
      rw [decide_eq_false (by omega)] at this
      cases a
      · exact absurd rfl this
      · rfl
theorem EvenUp.done {w m : Int} {n : Nat} {r : List Bool} (E : EvenUp w n n r m) : hgt r = 0 := by
  have hall : ∀ b, (∀ j, j < n → r[(((j : Int) + w) % (n : Int)).toNat]? = some b) → ∀ x ∈ r, x = b := by
    intro b hb x hx
    obtain ⟨k, hk, e⟩ := List.getElem_of_mem hx
    have hn : 0 < n := by rw [← E.len]; omega
    have hlen := E.len
    have h1 := Int.emod_nonneg ((k : Int) - w) (b := (n : Int)) (by omega)
    have h2 := Int.emod_lt_of_pos ((k : Int) - w) (b := (n : Int)) (by omega)
    have h3 := hb (((k : Int) - w) % (n : Int)).toNat (by omega)
    have h4 : ((((((k : Int) - w) % (n : Int)).toNat : Nat) : Int) + w) % (n : Int) = (k : Int) := by
      rw [Int.toNat_of_nonneg h1, Int.emod_add_emod]
      have : (k : Int) - w + w = k := by omega
      rw [this]
      exact Int.emod_eq_of_lt (by omega) (by omega)
    rw [h4, Int.toNat_natCast, List.getElem?_eq_getElem hk, e] at h3
    exact Option.some.inj h3
  have e1 := E.hg
  rcases E.vis with v | ⟨v, hv⟩ | ⟨v, hv⟩
  · omega
  · have := hgt_all (hall false hv)
    simp [sg] at this
    omega
  · have := hgt_all (hall true hv)
    simp [sg] at this
    omega
end BM
namespace BM
open PySem L2 Evl
local macro_rules | `(tactic| walk_at "mem") => `(tactic| first | exact List.mem_cons_self | (refine List.mem_cons_of_mem _ ?_; walk_at "mem"))
local macro_rules | `(tactic| walk_at "swap") => `(tactic| first | exact Swap.here | (refine Swap.there ?_; walk_at "swap"))
local macro_rules | `(tactic| walk_at "subl") => `(tactic| first | exact List.Sublist.refl _ | exact List.nil_sublist _ | (refine List.Sublist.cons_cons _ ?_; walk_at "subl") | (refine List.Sublist.cons _ ?_; walk_at "subl"))
local macro_rules | `(tactic| walk_at "sub") => `(tactic| first | exact Sub.refl _ | (refine ⟨?_, ?_⟩ <;> walk_at "subl"))
local macro_rules | `(tactic| walk_at "isl") => `(tactic| first | exact isL_own (by walk_at "mem") | exact isL_old (by assumption) | assumption)
local macro_rules | `(tactic| walk_at "ist") => `(tactic| first | exact isT_own (by walk_at "mem") | exact isT_old (by assumption) | assumption)
local macro_rules | `(tactic| walk_at "len") => `(tactic| first | omega | decide | (simp only [List.length_map, List.length_take, List.length_drop, List.length_append, List.length_cons, List.length_nil, List.length_reverse, dps_len, flp_len]; omega) | (simp [dps_len, flp_len]; omega) | simp)
local macro_rules | `(tactic| walk_at "b0") => `(tactic| first
  | with_reducible refine' ws_set ?_
  | with_reducible refine' ws_par ?_
  | with_reducible refine' ws_asg ?_
  | with_reducible refine' ws_drop ?_
  | with_reducible refine' ws_ret ?_
  | with_reducible refine' ws_if ?_
  | with_reducible refine' ws_next ?_
  | with_reducible refine' ws_brk ?_
  | with_reducible refine' ws_cont ?_
  | ((with_reducible refine' we_var ?hv ?_); case hv => rfl)
  | with_reducible refine' we_c ?_
  | with_reducible refine' we_op ?_
  | with_reducible refine' we_un ?_
  | with_reducible refine' we_if ?_
  | with_reducible refine' we_and ?_
  | with_reducible refine' we_or ?_
  | with_reducible refine' we_not ?_
  | with_reducible refine' wa_nil ?_
  | with_reducible refine' wa_cons ?_
  | (with_reducible refine' we_lst ?_)
  | (with_reducible refine' we_tup ?_)
  | with_reducible refine' we_cb ?_
  | with_reducible refine' we_call0 ?_
  | with_reducible refine' we_sl ?_
  | with_reducible refine' wo_none ?_
  | (with_reducible refine' wo_some ?_)
  | with_reducible refine' wt_test ?_
  | with_reducible refine' wt_B ?_
  | with_reducible refine' wt_and ?_
  | with_reducible refine' wt_or ?_
  | with_reducible refine' wt_not ?_
  | with_reducible refine' wt_yes ?_
  | with_reducible refine' we_chain ?_
  | with_reducible refine' we_chain3 ?_
  | with_reducible refine' we_revT ?_
  | with_reducible refine' we_revL ?_
  | with_reducible refine' we_bm ?_
  | with_reducible refine' we_bm0 ?_
  | with_reducible refine' ws_for ?_
  | with_reducible refine' we_lc ?_
  | with_reducible refine' wi_list ?_
  | with_reducible refine' wi_tup ?_
  | with_reducible refine' wi_T ?_
  | with_reducible refine' wi_rng1 ?_
  | with_reducible refine' wi_rng2 ?_
  | with_reducible refine' wi_rng3 ?_
  | with_reducible refine' wi_enum ?_
  | with_reducible refine' wi_enumT ?_
  | with_reducible refine' wi_zip ?_
  | with_reducible refine' wg_name ?_
  | with_reducible refine' wg_sub ?_
  | with_reducible refine' wgs_nil ?_
  | with_reducible refine' wgs_cons ?_
  | ((with_reducible refine' wg_tup ?ht ?hn ?_); (case ht => walk_at "ist"); (case hn => rfl))
  | with_reducible refine' w2_add ?_
  | with_reducible refine' w2_sub ?_
  | with_reducible refine' w2_lt ?_
  | with_reducible refine' w2_le ?_
  | with_reducible refine' w2_gt ?_
  | with_reducible refine' w2_ge ?_
  | with_reducible refine' w2_eqI ?_
  | with_reducible refine' w2_neI ?_
  | with_reducible refine' w2_eqT ?_
  | with_reducible refine' w2_neT ?_
  | with_reducible refine' w2_eqB ?_
  | with_reducible refine' w2_neB ?_
  | with_reducible refine' w2_isN ?_
  | with_reducible refine' w2_notN ?_
  | with_reducible refine' w2_isB ?_
  | with_reducible refine' w2_inT ?_
  | with_reducible refine' w1_neg ?_
  | with_reducible refine' wl_abs ?_
  | with_reducible refine' wl_max2 ?_
  | with_reducible refine' wl_min2 ?_
  | with_reducible refine' wl_intB ?_
  | ((with_reducible refine' w2_div ?h ?_); case h => first | omega | (constructor <;> omega))
  | ((with_reducible refine' w2_mod ?h ?_); case h => omega)
  | ((with_reducible refine' w2_catT ?h ?_); case h => walk_at "len")
  | ((with_reducible refine' wsl_T ?h ?_); case h => walk_at "len")
  | ((with_reducible refine' wl_lenT ?h ?_); case h => walk_at "len")
  | ((with_reducible refine' wl_len ?h ?_); case h => walk_at "isl")
  | ((with_reducible refine' wl_len ?h ?_); case h => walk_at "isl")
  | ((with_reducible refine' wm_append ?sw ?hl ?_); (case sw => walk_at "swap"); (case hl => walk_at "len")))
local macro_rules | `(tactic| walk_at "b1") => `(tactic| first | with_reducible refine' ws_seq ?_ | walk_at "b0")
local macro_rules | `(tactic| walk_at "bx") => `(tactic| first
  | refine ⟨_, rfl, ?_⟩
  | refine ⟨_, _, rfl, ?_⟩
  | refine ⟨ty_L (by walk_at "isl"), ?_⟩
  | refine ⟨ty_S, ?_⟩
  | refine spl_t (by rfl) ?_
  | refine spl_f (by rfl) ?_
  | exact rfl)
local macro_rules | `(tactic| walk_at "bm") => `(tactic| repeat (first | walk_at "b1" | walk_at "bx"))
local macro_rules | `(tactic| walk_at "bn") => `(tactic| repeat (first | walk_at "b0" | walk_at "bx"))
local macro_rules | `(tactic| walk_at "b0") => `(tactic| with_reducible refine' c_deepens ?_)
local macro_rules | `(tactic| walk_at "b0") => `(tactic| ((with_reducible refine' c_depths_of ?hl ?_); (case hl => walk_at "len")))
local macro_rules | `(tactic| walk_at "b0") => `(tactic| with_reducible refine' c_is_wholeI ?_)
local macro_rules | `(tactic| walk_at "b0") => `(tactic| with_reducible refine' c_flipped ?_)
local macro_rules | `(tactic| walk_at "b0") => `(tactic| ((with_reducible refine' c_is_right_row ?hl ?_); (case hl => walk_at "len")))
local macro_rules | `(tactic| walk_at "b0") => `(tactic| ((with_reducible refine' c_asked_row ?hl ?_); (case hl => walk_at "len")))
local macro_rules | `(tactic| walk_at "b0") => `(tactic| ((with_reducible refine' c_depths ?hl ?_); (case hl => walk_at "len")))
local macro_rules | `(tactic| walk_at "b0") => `(tactic| ((with_reducible refine' c_is_right ?hl ?_); (case hl => walk_at "len")))
theorem cmul_l {i j : Int} (h1 : -18446744073709551616 < i) (h2 : i < 18446744073709551616) : CMul i j := Or.inl ⟨by omega, by omega⟩
theorem cmul_r {i j : Int} (h1 : -18446744073709551616 < j) (h2 : j < 18446744073709551616) : CMul i j := Or.inr ⟨by omega, by omega⟩
theorem ln__law_number {K : PySem.W.Frag} {C : CA} {vs : List V} {H : Hp} {Q : VK} {E : XK} (h : sp__law_number K C vs H Q E) : vs.length = 3 := by
  obtain ⟨⟨c, a, w, rfl, _⟩, _⟩ := h
  rfl
theorem pu__law_number {K : PySem.W.Frag} {C : CA} {vs : List V} {H : Hp} {Q : VK} {E : XK} (h : sp__law_number K C vs H Q E) : rd__law_number K C { nx := fun _ H' => Q .non H', rt := Q } (start N__law_number vs) H := by
  obtain ⟨⟨c, a, w, rfl, h0, h1⟩, k⟩ := h
  refine body_P (P := fun v => ∃ n : Int, v = .int n) ?_ k
  have ep : (10 : Int) ^ (18 : Int).toNat = 1000000000000000000 := by decide
  have cp : CPow 10 18 := ⟨by decide, by decide, by decide⟩
  unfold rd__law_number
  walk_at "bm"
  refine w2_pow cp ?_
  rw [ep]
  walk_at "bm"
  refine ⟨fun _ => ?_, fun _ => ?_⟩
  · walk_at "bm"
    exact ⟨_, rfl⟩
  · walk_at "bm"
    refine w2_pow cp ?_
    rw [ep]
    walk_at "bm"
    generalize hs : c % 1000000000000000000 = sm
    walk_at "bm"
    refine w2_mul (cmul_l (by decide) (by decide)) ?_
    walk_at "bm"
    refine w2_mul (cmul_r (by decide) (by decide)) ?_
    walk_at "bm"
    generalize hb : ((sm + 977 * a) * 48271 + w) % 2147483647 = b
    walk_at "bm"
    refine w2_mul (cmul_l (by decide) (by decide)) ?_
    walk_at "bm"
    refine w2_mul (cmul_l (by omega) (by omega)) ?_
    walk_at "bm"
    refine w2_mul (cmul_r (by omega) (by omega)) ?_
    walk_at "bm"
    refine w2_mul (cmul_l (by omega) (by omega)) ?_
    walk_at "bm"
    have hbb : b * b < 4611686014132420610 := by
      have h2 : b * b ≤ 2147483646 * 2147483646 := Int.mul_le_mul (by omega) (by omega) (by omega) (by decide)
      omega
    have hb0 : 0 ≤ b * b := Int.mul_nonneg (by omega) (by omega)
    refine w2_mul (cmul_r (by omega) (by omega)) ?_
    walk_at "bm"
    exact ⟨_, rfl⟩
theorem c__law_number {K : PySem.W.Frag} {C : CA} {H0 : Hp} {s : Ld} {Q : V → Ld → Prop} {E : XK} {c a w : Int} (h0 : 0 ≤ a ∧ a ≤ 1000000) (q : ∀ n : Int, Q (.int n) s) : WC H0 (sp__law_number K C) E [.int c, .int a, .int w] s Q :=
  wc_P (fun H o => ⟨c, a, w, rfl, h0.1, h0.2⟩) (fun v ⟨n, e⟩ => by rw [e]; exact q n)
theorem ln__law_depths {K : PySem.W.Frag} {C : CA} {vs : List V} {H : Hp} {Q : VK} {E : XK} (h : sp__law_depths K C vs H Q E) : vs.length = 1 := by
  obtain ⟨v, ⟨b, rfl, _⟩, _⟩ := h
  rfl
theorem pu__law_depths {K : PySem.W.Frag} {C : CA} {vs : List V} {H : Hp} {Q : VK} {E : XK} (h : sp__law_depths K C vs H Q E) : rd__law_depths K C { nx := fun _ H' => Q .non H', rt := Q } (start N__law_depths vs) H := by
  obtain ⟨v, ⟨r, rfl, hl, rfl⟩, k⟩ := h
  refine body_L ?_ k
  unfold rd__law_depths
  walk_at "bm"
  refine ⟨by decide, fun p hp => ?_⟩
  walk_at "bm"
  refine lp_T (fun i σ s => ∃ b, σ = [some (.str (T r)), some (.ref p), b] ∧ s = ⟨[(p, .lst ((dps (r.take i)).map V.int))], []⟩) rfl ⟨none, rfl, rfl⟩ ?_ ?_
  · rintro i b σ s hi hb ⟨b0, rfl, rfl⟩
    have e : (p, HO.lst ((dps (r.take i)).map V.int ++ [.int (hgt (r.take i) + sg b)])) = (p, HO.lst ((dps (r.take (i + 1))).map V.int)) := by
      rw [take_snoc hb, dps_snoc, List.map_append]
      rfl
    walk_at "bm"
    refine w2_ixL (by walk_at "isl") (dps_m1 _) ?_
    walk_at "bm"
    cases b
    · refine ⟨fun hc => absurd hc (by decide), fun hc => ?_⟩
      walk_at "bm"
      refine ⟨_, Sub.refl _, _, rfl, ?_⟩
      rw [← e]
      rfl
    · refine ⟨fun hc => ?_, fun hc => absurd hc (by decide)⟩
      walk_at "bm"
      refine ⟨_, Sub.refl _, _, rfl, ?_⟩
      rw [← e]
      rfl
  · rintro σ s ⟨b0, rfl, rfl⟩
    walk_at "bm"
    rw [List.take_length]
    exact List.mem_cons_self
theorem c__law_depths {K : PySem.W.Frag} {C : CA} {H0 : Hp} {s : Ld} {Q : V → Ld → Prop} {E : XK} {r : List Bool} (hl : r.length ≤ 1000) (q : ∀ p, H0 p = none → Q (.ref p) ⟨(p, .lst ((dps r).map V.int)) :: s.L, s.T⟩) : WC H0 (sp__law_depths K C) E [.str (T r)] s Q := wc_L (fun H o => ⟨r, rfl, hl, rfl⟩) q
local macro_rules | `(tactic| walk_at "b0") => `(tactic| ((with_reducible refine' c__law_depths ?hl ?_); (case hl => walk_at "len")))
theorem ln__law_good {K : PySem.W.Frag} {C : CA} {vs : List V} {H : Hp} {Q : VK} {E : XK} (h : sp__law_good K C vs H Q E) : vs.length = 1 := by
  obtain ⟨v, ⟨b, rfl, _⟩, _⟩ := h
  rfl
theorem isR_bad {r : List Bool} {i : Nat} (hi : i ≤ r.length) (h : hgt (r.take i) < 0) : isR r = false := by
  cases e : isR r with
  | false => rfl
  | true =>
    have := (isR_iff.mp e).2 i hi
    omega
theorem pu__law_good {K : PySem.W.Frag} {C : CA} {vs : List V} {H : Hp} {Q : VK} {E : XK} (h : sp__law_good K C vs H Q E) : rd__law_good K C { nx := fun _ H' => Q .non H', rt := Q } (start N__law_good vs) H := by
  obtain ⟨v, ⟨r, rfl, hl, rfl⟩, k⟩ := h
  refine body_V ?_ k
  unfold rd__law_good
  walk_at "bm"
  refine lp_T (fun i σ s => ∃ b, σ = [some (.str (T r)), some (.int (hgt (r.take i))), b] ∧ s = ⟨[], []⟩ ∧ ∀ j, j ≤ i → 0 ≤ hgt (r.take j)) rfl ⟨none, rfl, rfl, fun j hj => by rw [show j = 0 by omega]; exact Int.le_refl 0⟩ ?_ ?_
  · rintro i b σ s hi hb ⟨b0, rfl, rfl, hn⟩
    have e : hgt (r.take (i + 1)) = hgt (r.take i) + sg b := by rw [take_snoc hb, hgt_app]; simp [hgt]
    have fin : ∀ z : Int, z = hgt (r.take (i + 1)) → (decide (z < 0) = true → WS H (tRet (tC (V.bl false))) [some (.str (T r)), some (.int z), some (.str (T [b]))] ⟨[], []⟩ (turnD { nx := fun σ' s' => WS H (tRet (tOp rEq (tVar 1) (tC (V.int 0)))) σ' s' (retV (.bl (isR r))), rt := (retV (.bl (isR r))).rt, bk := (retV (.bl (isR r))).bk, ct := (retV (.bl (isR r))).ct } fun σ s => ∃ b, σ = [some (.str (T r)), some (.int (hgt (r.take (i + 1)))), b] ∧ s = ⟨[], []⟩ ∧ ∀ j, j ≤ i + 1 → 0 ≤ hgt (r.take j))) ∧
        (decide (z < 0) = false → WS H tNext [some (.str (T r)), some (.int z), some (.str (T [b]))] ⟨[], []⟩ (turnD { nx := fun σ' s' => WS H (tRet (tOp rEq (tVar 1) (tC (V.int 0)))) σ' s' (retV (.bl (isR r))), rt := (retV (.bl (isR r))).rt, bk := (retV (.bl (isR r))).bk, ct := (retV (.bl (isR r))).ct } fun σ s => ∃ b, σ = [some (.str (T r)), some (.int (hgt (r.take (i + 1)))), b] ∧ s = ⟨[], []⟩ ∧ ∀ j, j ≤ i + 1 → 0 ≤ hgt (r.take j))) := by
      rintro z rfl
      refine ⟨fun hc => ?_, fun hc => ?_⟩
      · walk_at "bm"
        show V.bl false = V.bl (isR r)
        rw [isR_bad (i := i + 1) (by omega) (of_decide_eq_true hc)]
      · walk_at "bm"
        refine ⟨_, Sub.refl _, _, rfl, rfl, fun j hj => ?_⟩
        rcases Nat.lt_succ_iff_lt_or_eq.mp (Nat.lt_succ_of_le hj) with h1 | h1
        · exact hn j (by omega)
        · rw [h1]
          have := of_decide_eq_false hc
          omega
    walk_at "bm"
    cases b
    · refine ⟨fun hc => absurd hc (by decide), fun hc => ?_⟩
      walk_at "bm"
      exact fin _ (by rw [e]; simp [sg]; omega)
    · refine ⟨fun hc => ?_, fun hc => absurd hc (by decide)⟩
      walk_at "bm"
      exact fin _ (by rw [e]; simp [sg])
  · rintro σ s ⟨b0, rfl, rfl, hn⟩
    walk_at "bm"
    rw [List.take_length]
    show V.bl _ = V.bl _
    congr 1
    unfold isR
    have : ((dps r).all fun z => decide (0 ≤ z)) = true := by
      rw [List.all_eq_true]
      intro z hz
      obtain ⟨j, hj, rfl⟩ := mem_dps.mp hz
      exact decide_eq_true (hn j hj)
    rw [this, Bool.and_true]
theorem c__law_good {K : PySem.W.Frag} {C : CA} {H0 : Hp} {s : Ld} {Q : V → Ld → Prop} {E : XK} {r : List Bool} (hl : r.length ≤ 1000) (q : Q (.bl (isR r)) s) : WC H0 (sp__law_good K C) E [.str (T r)] s Q := wc_V (fun H o => ⟨r, rfl, hl, rfl⟩) q
local macro_rules | `(tactic| walk_at "b0") => `(tactic| ((with_reducible refine' c__law_good ?hl ?_); (case hl => walk_at "len")))
end BM
namespace BM
open PySem L2 Evl
local macro_rules | `(tactic| walk_at "mem") => `(tactic| first | exact List.mem_cons_self | (refine List.mem_cons_of_mem _ ?_; walk_at "mem"))
local macro_rules | `(tactic| walk_at "swap") => `(tactic| first | exact Swap.here | (refine Swap.there ?_; walk_at "swap"))
local macro_rules | `(tactic| walk_at "subl") => `(tactic| first | exact List.Sublist.refl _ | exact List.nil_sublist _ | (refine List.Sublist.cons_cons _ ?_; walk_at "subl") | (refine List.Sublist.cons _ ?_; walk_at "subl"))
local macro_rules | `(tactic| walk_at "sub") => `(tactic| first | exact Sub.refl _ | (refine ⟨?_, ?_⟩ <;> walk_at "subl"))
local macro_rules | `(tactic| walk_at "isl") => `(tactic| first | exact isL_own (by walk_at "mem") | exact isL_old (by assumption) | assumption)
local macro_rules | `(tactic| walk_at "ist") => `(tactic| first | exact isT_own (by walk_at "mem") | exact isT_old (by assumption) | assumption)
local macro_rules | `(tactic| walk_at "len") => `(tactic| first | omega | decide | (simp only [List.length_map, List.length_take, List.length_drop, List.length_append, List.length_cons, List.length_nil, List.length_reverse, dps_len, flp_len]; omega) | (simp [dps_len, flp_len]; omega) | simp)
local macro_rules | `(tactic| walk_at "b0") => `(tactic| first
  | with_reducible refine' ws_set ?_
  | with_reducible refine' ws_par ?_
  | with_reducible refine' ws_asg ?_
  | with_reducible refine' ws_drop ?_
  | with_reducible refine' ws_ret ?_
  | with_reducible refine' ws_if ?_
  | with_reducible refine' ws_next ?_
  | with_reducible refine' ws_brk ?_
  | with_reducible refine' ws_cont ?_
  | ((with_reducible refine' we_var ?hv ?_); case hv => rfl)
  | with_reducible refine' we_c ?_
  | with_reducible refine' we_op ?_
  | with_reducible refine' we_un ?_
  | with_reducible refine' we_if ?_
  | with_reducible refine' we_and ?_
  | with_reducible refine' we_or ?_
  | with_reducible refine' we_not ?_
  | with_reducible refine' wa_nil ?_
  | with_reducible refine' wa_cons ?_
  | (with_reducible refine' we_lst ?_)
  | (with_reducible refine' we_tup ?_)
  | with_reducible refine' we_cb ?_
  | with_reducible refine' we_call0 ?_
  | with_reducible refine' we_sl ?_
  | with_reducible refine' wo_none ?_
  | (with_reducible refine' wo_some ?_)
  | with_reducible refine' wt_test ?_
  | with_reducible refine' wt_B ?_
  | with_reducible refine' wt_and ?_
  | with_reducible refine' wt_or ?_
  | with_reducible refine' wt_not ?_
  | with_reducible refine' wt_yes ?_
  | with_reducible refine' we_chain ?_
  | with_reducible refine' we_chain3 ?_
  | with_reducible refine' we_revT ?_
  | with_reducible refine' we_revL ?_
  | with_reducible refine' we_bm ?_
  | with_reducible refine' we_bm0 ?_
  | with_reducible refine' ws_for ?_
  | with_reducible refine' we_lc ?_
  | with_reducible refine' wi_list ?_
  | with_reducible refine' wi_tup ?_
  | with_reducible refine' wi_T ?_
  | with_reducible refine' wi_rng1 ?_
  | with_reducible refine' wi_rng2 ?_
  | with_reducible refine' wi_rng3 ?_
  | with_reducible refine' wi_enum ?_
  | with_reducible refine' wi_enumT ?_
  | with_reducible refine' wi_zip ?_
  | with_reducible refine' wg_name ?_
  | with_reducible refine' wg_sub ?_
  | with_reducible refine' wgs_nil ?_
  | with_reducible refine' wgs_cons ?_
  | ((with_reducible refine' wg_tup ?ht ?hn ?_); (case ht => walk_at "ist"); (case hn => rfl))
  | with_reducible refine' w2_add ?_
  | with_reducible refine' w2_sub ?_
  | with_reducible refine' w2_lt ?_
  | with_reducible refine' w2_le ?_
  | with_reducible refine' w2_gt ?_
  | with_reducible refine' w2_ge ?_
  | with_reducible refine' w2_eqI ?_
  | with_reducible refine' w2_neI ?_
  | with_reducible refine' w2_eqT ?_
  | with_reducible refine' w2_neT ?_
  | with_reducible refine' w2_eqB ?_
  | with_reducible refine' w2_neB ?_
  | with_reducible refine' w2_isN ?_
  | with_reducible refine' w2_notN ?_
  | with_reducible refine' w2_isB ?_
  | with_reducible refine' w2_inT ?_
  | with_reducible refine' w1_neg ?_
  | with_reducible refine' wl_abs ?_
  | with_reducible refine' wl_max2 ?_
  | with_reducible refine' wl_min2 ?_
  | with_reducible refine' wl_intB ?_
  | ((with_reducible refine' w2_div ?h ?_); case h => first | omega | (constructor <;> omega))
  | ((with_reducible refine' w2_mod ?h ?_); case h => omega)
  | ((with_reducible refine' w2_catT ?h ?_); case h => walk_at "len")
  | ((with_reducible refine' wsl_T ?h ?_); case h => walk_at "len")
  | ((with_reducible refine' wl_lenT ?h ?_); case h => walk_at "len")
  | ((with_reducible refine' wl_len ?h ?_); case h => walk_at "isl")
  | ((with_reducible refine' wl_len ?h ?_); case h => walk_at "isl")
  | ((with_reducible refine' wm_append ?sw ?hl ?_); (case sw => walk_at "swap"); (case hl => walk_at "len")))
local macro_rules | `(tactic| walk_at "b1") => `(tactic| first | with_reducible refine' ws_seq ?_ | walk_at "b0")
local macro_rules | `(tactic| walk_at "bx") => `(tactic| first
  | refine ⟨_, rfl, ?_⟩
  | refine ⟨_, _, rfl, ?_⟩
  | refine ⟨ty_L (by walk_at "isl"), ?_⟩
  | refine ⟨ty_S, ?_⟩
  | refine spl_t (by rfl) ?_
  | refine spl_f (by rfl) ?_
  | exact rfl)
local macro_rules | `(tactic| walk_at "bm") => `(tactic| repeat (first | walk_at "b1" | walk_at "bx"))
local macro_rules | `(tactic| walk_at "bn") => `(tactic| repeat (first | walk_at "b0" | walk_at "bx"))
local macro_rules | `(tactic| walk_at "b0") => `(tactic| with_reducible refine' c_deepens ?_)
local macro_rules | `(tactic| walk_at "b0") => `(tactic| ((with_reducible refine' c_depths_of ?hl ?_); (case hl => walk_at "len")))
local macro_rules | `(tactic| walk_at "b0") => `(tactic| with_reducible refine' c_is_wholeI ?_)
local macro_rules | `(tactic| walk_at "b0") => `(tactic| with_reducible refine' c_flipped ?_)
local macro_rules | `(tactic| walk_at "b0") => `(tactic| ((with_reducible refine' c_is_right_row ?hl ?_); (case hl => walk_at "len")))
local macro_rules | `(tactic| walk_at "b0") => `(tactic| ((with_reducible refine' c_asked_row ?hl ?_); (case hl => walk_at "len")))
local macro_rules | `(tactic| walk_at "b0") => `(tactic| ((with_reducible refine' c_depths ?hl ?_); (case hl => walk_at "len")))
local macro_rules | `(tactic| walk_at "b0") => `(tactic| ((with_reducible refine' c_is_right ?hl ?_); (case hl => walk_at "len")))
local macro_rules | `(tactic| walk_at "b0") => `(tactic| ((with_reducible refine' c__law_depths ?hl ?_); (case hl => walk_at "len")))
local macro_rules | `(tactic| walk_at "b0") => `(tactic| ((with_reducible refine' c__law_good ?hl ?_); (case hl => walk_at "len")))
theorem mapset {α β : Type} (f : α → β) (l : List α) (j : Nat) (a : α) : (l.map f).set j (f a) = (l.set j a).map f := by rw [List.map_set]
theorem ixN_of {n : Nat} {i : Int} (h0 : 0 ≤ i) (h1 : i < n) : ixN n i = some i.toNat := by
  unfold ixN
  rw [if_pos h0, if_pos h1]
theorem ln__law_round {K : PySem.W.Frag} {C : CA} {vs : List V} {H : Hp} {Q : VK} {E : XK} (h : sp__law_round K C vs H Q E) : vs.length = 2 := by
  obtain ⟨v, ⟨b, p, q, rfl, _⟩, _⟩ := h
  rfl
theorem rev_get {α : Type} {l : List α} {i : Nat} (h : i < l.length) : l.reverse[i]? = l[l.length - 1 - i]? := by
  rw [List.getElem?_reverse h]
theorem pu__law_round {K : PySem.W.Frag} {C : CA} {vs : List V} {H : Hp} {Q : VK} {E : XK} (h : sp__law_round K C vs H Q E) : rd__law_round K C { nx := fun _ H' => Q .non H', rt := Q } (start N__law_round vs) H := by
  obtain ⟨v, ⟨r, a, ps, rfl, hl, ⟨xs, hs, hp⟩, rfl⟩, k⟩ := h
  have hlen : xs.length = ps.length := Paired.length hp
  refine body_V ?_ k
  unfold rd__law_round
  walk_at "bm"
  refine ⟨⟨_, isL_old hs⟩, ?_⟩
  refine lp_list (xs := xs) (fun i σ s => ∃ b c d e, σ = [some (.str (T (rnAll r (ps.take i)))), some (.ref a), b, c, d, e] ∧ s = ⟨[], []⟩ ∧ ∀ p ∈ ps.take i, stOk r.length p) rfl ⟨none, none, none, none, rfl, rfl, fun p hp => by simp at hp⟩ (fun i σ s hi _ => isL_old hs) ?_ ?_
  · rintro i y σ s hi hy ⟨b, c, d, e, rfl, rfl, hok⟩
    obtain ⟨p, hpi, t, rfl, htt⟩ := pairs_get hp hy
    have hl2 : (rnAll r (ps.take i)).length = r.length := rnAll_len _ _ hok
    have hse := stOk_eq r.length p
    generalize hu : rnAll r (ps.take i) = u at hl2 ⊢
    walk_at "bm"
    refine ⟨fun h1 => ?_, fun h1 => ?_⟩
    · walk_at "bm"
      refine ⟨fun h2 => ?_, fun h2 => ?_⟩
      · walk_at "bm"
        refine ⟨fun h3 => ?_, fun h3 => ?_⟩
        · walk_at "bm"
          have h3' : ¬ p.2 ≤ (u.length : Int) := by simpa using h3
          show _ = _
          rw [if_neg]
          intro hall
          have := hall p (List.mem_of_getElem? hpi)
          unfold stOk at this
          omega
        · have h1' := of_decide_eq_true h1
          have h2' := of_decide_eq_true h2
          have h3' : p.2 ≤ (u.length : Int) := by simpa using h3
          have hst : stOk r.length p := ⟨h1', h2', by omega⟩
          have hlp : ((u.drop p.1.toNat).take (p.2.toNat - p.1.toNat)).reverse.length = p.2.toNat - p.1.toNat := by simp; omega
          walk_at "bm"
          refine ⟨_, _, _, p.2.toNat - p.1.toNat, rfl, ?_, ?_⟩
          · have := RgC.neg (i := p.2 - 1) (j := p.1 - 1) (by omega) (by omega) (by omega) (by omega)
            rw [show (p.2 - 1 - (p.1 - 1)).toNat = p.2.toNat - p.1.toNat by omega] at this
            exact this
          refine cp_rngC (fun j => ((((u.drop p.1.toNat).take (p.2.toNat - p.1.toNat)).reverse).take j).map fun b => .str (T [b])) (by omega) rfl (fun j hj => by simp; omega) ?_ ?_
          · intro D j hj
            obtain ⟨z, hz⟩ := get_some (r := u) (i := p.2.toNat - 1 - j) (by omega)
            have hg : ((u.drop p.1.toNat).take (p.2.toNat - p.1.toNat)).reverse[j]? = some z := by
              rw [rev_get (by simp at hlp ⊢; omega)]
              have : ((u.drop p.1.toNat).take (p.2.toNat - p.1.toNat)).length = p.2.toNat - p.1.toNat := by simpa using hlp
              rw [this, List.getElem?_take, if_pos (by omega), List.getElem?_drop]
              rw [← hz]
              congr 1
              omega
            walk_at "bm"
            refine ⟨rfl, ?_⟩
            walk_at "bm"
            refine w2_ixT (b := z) (by omega) (atI_of (by omega) (by rw [← hz]; congr 1; omega)) ?_
            refine ⟨Sub.refl _, ?_⟩
            rw [take_snoc hg, List.map_append]
            rfl
          · intro D hD
            rw [List.take_of_length_le (Nat.le_of_eq hlp)]
            walk_at "bm"
            rw [cut_hi h1']
            walk_at "bm"
            refine wm_join1 (by walk_at "isl") (by rw [hlp]; omega) ?_
            walk_at "bm"
            rw [cut_lo (by omega)]
            walk_at "bm"
            refine ⟨⟨[], []⟩, by walk_at "sub", some (.int p.1), some (.int p.2), some (.ref D), e, ?_, rfl, ?_⟩
            · rw [rnAll_snoc hpi, hu]
              rfl
            · intro q hq
              rw [take_snoc hpi] at hq
              rcases List.mem_append.mp hq with h | h
              · exact hok q h
              · rw [List.mem_singleton.mp h]
                exact hst
      · walk_at "bm"
        have h2' := of_decide_eq_false h2
        show _ = _
        rw [if_neg]
        intro hall
        have := hall p (List.mem_of_getElem? hpi)
        unfold stOk at this
        omega
    · walk_at "bm"
      have h1' := of_decide_eq_false h1
      show _ = _
      rw [if_neg]
      intro hall
      have := hall p (List.mem_of_getElem? hpi)
      unfold stOk at this
      omega
  · rintro σ s ⟨b, c, d, e, rfl, rfl, hok⟩
    rw [hlen, List.take_length] at hok
    rw [hlen, List.take_length]
    walk_at "bm"
    show _ = _
    rw [if_pos hok]
theorem c__law_round {K : PySem.W.Frag} {C : CA} {H0 : Hp} {s : Ld} {Q : V → Ld → Prop} {E : XK} {r : List Bool} {a : Addr} {ps : List (Int × Int)} (hl : r.length ≤ 1000) (hx : ∀ H, Own H0 H s → Pairs K H a ps) (q : Q (if (∀ p ∈ ps, stOk r.length p) then .str (T (rnAll r ps)) else .non) s) : WC H0 (sp__law_round K C) E [.str (T r), .ref a] s Q := wc_V (fun H o => ⟨r, a, ps, rfl, hl, hx H o, rfl⟩) q
end BM
namespace BM
open PySem L2 Evl
local macro_rules | `(tactic| walk_at "mem") => `(tactic| first | exact List.mem_cons_self | (refine List.mem_cons_of_mem _ ?_; walk_at "mem"))
local macro_rules | `(tactic| walk_at "swap") => `(tactic| first | exact Swap.here | (refine Swap.there ?_; walk_at "swap"))
local macro_rules | `(tactic| walk_at "subl") => `(tactic| first | exact List.Sublist.refl _ | exact List.nil_sublist _ | (refine List.Sublist.cons_cons _ ?_; walk_at "subl") | (refine List.Sublist.cons _ ?_; walk_at "subl"))
local macro_rules | `(tactic| walk_at "sub") => `(tactic| first | exact Sub.refl _ | (refine ⟨?_, ?_⟩ <;> walk_at "subl"))
local macro_rules | `(tactic| walk_at "isl") => `(tactic| first | exact isL_own (by walk_at "mem") | exact isL_old (by assumption) | assumption)
local macro_rules | `(tactic| walk_at "ist") => `(tactic| first | exact isT_own (by walk_at "mem") | exact isT_old (by assumption) | assumption)
local macro_rules | `(tactic| walk_at "len") => `(tactic| first | omega | decide | (simp only [List.length_map, List.length_take, List.length_drop, List.length_append, List.length_cons, List.length_nil, List.length_reverse, dps_len, flp_len]; omega) | (simp [dps_len, flp_len]; omega) | simp)
local macro_rules | `(tactic| walk_at "b0") => `(tactic| first
  | with_reducible refine' ws_set ?_
  | with_reducible refine' ws_par ?_
  | with_reducible refine' ws_asg ?_
  | with_reducible refine' ws_drop ?_
  | with_reducible refine' ws_ret ?_
  | with_reducible refine' ws_if ?_
  | with_reducible refine' ws_next ?_
  | with_reducible refine' ws_brk ?_
  | with_reducible refine' ws_cont ?_
  | ((with_reducible refine' we_var ?hv ?_); case hv => rfl)
  | with_reducible refine' we_c ?_
  | with_reducible refine' we_op ?_
  | with_reducible refine' we_un ?_
  | with_reducible refine' we_if ?_
  | with_reducible refine' we_and ?_
  | with_reducible refine' we_or ?_
  | with_reducible refine' we_not ?_
  | with_reducible refine' wa_nil ?_
  | with_reducible refine' wa_cons ?_
  | (with_reducible refine' we_lst ?_)
  | (with_reducible refine' we_tup ?_)
  | with_reducible refine' we_cb ?_
  | with_reducible refine' we_call0 ?_
  | with_reducible refine' we_sl ?_
  | with_reducible refine' wo_none ?_
  | (with_reducible refine' wo_some ?_)
  | with_reducible refine' wt_test ?_
  | with_reducible refine' wt_B ?_
  | with_reducible refine' wt_and ?_
  | with_reducible refine' wt_or ?_
  | with_reducible refine' wt_not ?_
  | with_reducible refine' wt_yes ?_
  | with_reducible refine' we_chain ?_
  | with_reducible refine' we_chain3 ?_
  | with_reducible refine' we_revT ?_
  | with_reducible refine' we_revL ?_
  | with_reducible refine' we_bm ?_
  | with_reducible refine' we_bm0 ?_
  | with_reducible refine' ws_for ?_
  | with_reducible refine' we_lc ?_
  | with_reducible refine' wi_list ?_
  | with_reducible refine' wi_tup ?_
  | with_reducible refine' wi_T ?_
  | with_reducible refine' wi_rng1 ?_
  | with_reducible refine' wi_rng2 ?_
  | with_reducible refine' wi_rng3 ?_
  | with_reducible refine' wi_enum ?_
  | with_reducible refine' wi_enumT ?_
  | with_reducible refine' wi_zip ?_
  | with_reducible refine' wg_name ?_
  | with_reducible refine' wg_sub ?_
  | with_reducible refine' wgs_nil ?_
  | with_reducible refine' wgs_cons ?_
  | ((with_reducible refine' wg_tup ?ht ?hn ?_); (case ht => walk_at "ist"); (case hn => rfl))
  | with_reducible refine' w2_add ?_
  | with_reducible refine' w2_sub ?_
  | with_reducible refine' w2_lt ?_
  | with_reducible refine' w2_le ?_
  | with_reducible refine' w2_gt ?_
  | with_reducible refine' w2_ge ?_
  | with_reducible refine' w2_eqI ?_
  | with_reducible refine' w2_neI ?_
  | with_reducible refine' w2_eqT ?_
  | with_reducible refine' w2_neT ?_
  | with_reducible refine' w2_eqB ?_
  | with_reducible refine' w2_neB ?_
  | with_reducible refine' w2_isN ?_
  | with_reducible refine' w2_notN ?_
  | with_reducible refine' w2_isB ?_
  | with_reducible refine' w2_inT ?_
  | with_reducible refine' w1_neg ?_
  | with_reducible refine' wl_abs ?_
  | with_reducible refine' wl_max2 ?_
  | with_reducible refine' wl_min2 ?_
  | with_reducible refine' wl_intB ?_
  | ((with_reducible refine' w2_div ?h ?_); case h => first | omega | (constructor <;> omega))
  | ((with_reducible refine' w2_mod ?h ?_); case h => omega)
  | ((with_reducible refine' w2_catT ?h ?_); case h => walk_at "len")
  | ((with_reducible refine' wsl_T ?h ?_); case h => walk_at "len")
  | ((with_reducible refine' wl_lenT ?h ?_); case h => walk_at "len")
  | ((with_reducible refine' wl_len ?h ?_); case h => walk_at "isl")
  | ((with_reducible refine' wl_len ?h ?_); case h => walk_at "isl")
  | ((with_reducible refine' wm_append ?sw ?hl ?_); (case sw => walk_at "swap"); (case hl => walk_at "len")))
local macro_rules | `(tactic| walk_at "b1") => `(tactic| first | with_reducible refine' ws_seq ?_ | walk_at "b0")
local macro_rules | `(tactic| walk_at "bx") => `(tactic| first
  | refine ⟨_, rfl, ?_⟩
  | refine ⟨_, _, rfl, ?_⟩
  | refine ⟨ty_L (by walk_at "isl"), ?_⟩
  | refine ⟨ty_S, ?_⟩
  | refine spl_t (by rfl) ?_
  | refine spl_f (by rfl) ?_
  | exact rfl)
local macro_rules | `(tactic| walk_at "bm") => `(tactic| repeat (first | walk_at "b1" | walk_at "bx"))
local macro_rules | `(tactic| walk_at "bn") => `(tactic| repeat (first | walk_at "b0" | walk_at "bx"))
local macro_rules | `(tactic| walk_at "b0") => `(tactic| with_reducible refine' c_deepens ?_)
local macro_rules | `(tactic| walk_at "b0") => `(tactic| ((with_reducible refine' c_depths_of ?hl ?_); (case hl => walk_at "len")))
local macro_rules | `(tactic| walk_at "b0") => `(tactic| with_reducible refine' c_is_wholeI ?_)
local macro_rules | `(tactic| walk_at "b0") => `(tactic| with_reducible refine' c_flipped ?_)
local macro_rules | `(tactic| walk_at "b0") => `(tactic| ((with_reducible refine' c_is_right_row ?hl ?_); (case hl => walk_at "len")))
local macro_rules | `(tactic| walk_at "b0") => `(tactic| ((with_reducible refine' c_asked_row ?hl ?_); (case hl => walk_at "len")))
local macro_rules | `(tactic| walk_at "b0") => `(tactic| ((with_reducible refine' c_depths ?hl ?_); (case hl => walk_at "len")))
local macro_rules | `(tactic| walk_at "b0") => `(tactic| ((with_reducible refine' c_is_right ?hl ?_); (case hl => walk_at "len")))
local macro_rules | `(tactic| walk_at "b0") => `(tactic| ((with_reducible refine' c__law_depths ?hl ?_); (case hl => walk_at "len")))
local macro_rules | `(tactic| walk_at "b0") => `(tactic| ((with_reducible refine' c__law_good ?hl ?_); (case hl => walk_at "len")))
theorem ln__law_row {K : PySem.W.Frag} {C : CA} {vs : List V} {H : Hp} {Q : VK} {E : XK} (h : sp__law_row K C vs H Q E) : vs.length = 4 := by
  obtain ⟨⟨a, ns, k, m, e, rfl, _⟩, _⟩ := h
  rfl
abbrev ch (b : Bool) : V := .str (T [b])
theorem flat_ch (r : List Bool) : (r.map ch).all flatV = true := by
  rw [List.all_map, List.all_eq_true]
  intro x _
  rfl
theorem count_ch (r : List Bool) (b : Bool) : (r.map ch).countP (fun z => eqV z (ch b)) = r.count b := by
  rw [List.countP_map]
  unfold List.count
  apply List.countP_congr
  intro c _
  show (T [c] == T [b]) = true ↔ (c == b) = true
  simp only [beq_iff_eq, T_eq, List.cons.injEq, and_true]
theorem atI_small {z : Int} (h : z = 0 ∨ z = 1) : ∃ b, atI [true, false] z = some b := by
  rcases h with rfl | rfl
  · exact ⟨true, rfl⟩
  · exact ⟨false, rfl⟩
theorem five_at {w a b c d e : Int} (ha : a = 0 ∨ a = 1) (hb : b = 0 ∨ b = 1) (hc : c = 0 ∨ c = 1) (hd : d = 0 ∨ d = 1) (he : e = 0 ∨ e = 1) : ∃ z : Int, (z = 0 ∨ z = 1) ∧ atI [V.int a, .int b, .int c, .int d, .int e] (w % 5) = some (.int z) := by
  have h : w % 5 = 0 ∨ w % 5 = 1 ∨ w % 5 = 2 ∨ w % 5 = 3 ∨ w % 5 = 4 := by omega
  rcases h with h | h | h | h | h <;> rw [h]
  · exact ⟨a, ha, rfl⟩
  · exact ⟨b, hb, rfl⟩
  · exact ⟨c, hc, rfl⟩
  · exact ⟨d, hd, rfl⟩
  · exact ⟨e, he, rfl⟩
theorem int01 {p : Prop} [Decidable p] : ((if decide p = true then (1 : Int) else 0) = 0) ∨ ((if decide p = true then (1 : Int) else 0) = 1) := by
  by_cases h : p
  · exact .inr (by simp [h])
  · exact .inl (by simp [h])
/-- where the row's making stands -/
def LRow (a p q : Addr) (k m wd W : Int) (e : Bool) (cs : List Int) (P : List Bool → Option V → Prop) (σ : L2.St) (s : Ld) : Prop :=
  ∃ (x6 x8 x10 x11 x12 x13 x14 : Option V) (r : List Bool), σ = [some (.ref a), some (.int k), some (.int m), some (.bl e), some (.ref p), some (.int wd), x6, some (.ref q), x8, some (.int W), x10, x11, x12, x13, x14] ∧ s = ⟨[(q, .lst (r.map ch)), (p, .lst (cs.map V.int))], []⟩ ∧ P r x8
theorem pu__law_row {K : PySem.W.Frag} {C : CA} {vs : List V} {H : Hp} {Q : VK} {E : XK} (h : sp__law_row K C vs H Q E) : rd__law_row K C { nx := fun _ H' => Q .non H', rt := Q } (start N__law_row vs) H := by
  obtain ⟨⟨a, ns, k, m, e, rfl, hs, hns, hk0, hk1, hm0, hm1⟩, kk⟩ := h
  refine body_P (P := fun v => ∃ r : List Bool, v = .str (T r) ∧ (r.length : Int) ≤ m ∧ (e = true → hgt r = 0)) ?_ (fun v H' ⟨r, h1, h2, h3⟩ x => kk v H' ⟨a, k, m, e, r, rfl, h1, h2, h3⟩ x)
  unfold rd__law_row
  refine ws_cut (fun σ s => ∃ (p : Addr) (cs : List Int), σ = [some (.ref a), some (.int k), some (.int m), some (.bl e), some (.ref p), none, none, none, none, none, none, none, none, none, none] ∧ s = ⟨[(p, .lst (cs.map V.int))], []⟩ ∧ 0 < cs.length ∧ cs.length ≤ 63) ?_ ?_
  · walk_at "bm"
    refine ⟨by decide, fun p0 hp0 => ?_⟩
    refine w2_neLI (ns := ns) (ms := []) (isL_old hs) (by walk_at "isl") ?_
    walk_at "bm"
    refine ⟨fun hc => ?_, fun hc => ?_⟩
    · walk_at "bm"
      refine wsl_L (isL_old hs) fun p hp => ?_
      refine ⟨⟨[(p, .lst (ns.map V.int))], []⟩, ?_, p, ns, rfl, rfl, ?_, hns⟩
      · rw [cut_hi (by omega), List.take_of_length_le (by rw [List.length_map]; omega)]
        walk_at "sub"
      · cases ns with
        | nil => simp at hc
        | cons x y => simp
    · walk_at "bm"
      refine ⟨by decide, fun p hp => ?_⟩
      exact ⟨⟨[(p, .lst ([5].map V.int))], []⟩, by walk_at "sub", p, [5], rfl, rfl, by decide, by decide⟩
  · rintro σ s ⟨p, cs, rfl, rfl, hc0, hc1⟩
    have hcl : (cs.map V.int).length = cs.length := List.length_map ..
    walk_at "bm"
    refine wl_sum (by walk_at "isl") ?_
    walk_at "bm"
    refine w2_mul (cmul_l (by decide) (by decide)) ?_
    walk_at "bm"
    refine ⟨by decide, fun q hq => ?_⟩
    walk_at "bn"
    obtain ⟨W, hW, hW0⟩ : ∃ W : Int, (if cs.sum < 0 then -cs.sum else cs.sum) + 7 * k = W ∧ 0 ≤ W := ⟨_, rfl, by split <;> omega⟩
    rw [hW]
    refine ws_seq ?_
    walk_at "bn"
    obtain ⟨wd, hwd, hwd0⟩ : ∃ wd : Int, 1 + W / 5 % 6 = wd ∧ 1 ≤ wd ∧ wd ≤ 6 := ⟨_, rfl, by omega⟩
    rw [hwd]
    refine ws_cut (LRow a p q k m wd W e cs fun r _ => (r.length : Int) ≤ m) ?_ ?_
    · have hb1 : W / 30 % (m + 1) < m + 1 := Int.emod_lt_of_pos _ (by omega)
      have hb0 : 0 ≤ W / 30 % (m + 1) := Int.emod_nonneg _ (by omega)
      walk_at "bm"
      refine ⟨by omega, ?_⟩
      refine lp_rng (fun i => LRow a p q k m wd W e cs fun r _ => r.length = i) ⟨none, none, none, none, none, none, none, [], rfl, rfl, rfl⟩ ?_ ?_
      · rintro i σ s hi ⟨x6, x8, x10, x11, x12, x13, x14, r, rfl, rfl, hr⟩
        have hiz : (i : Int) ≤ 40 := by omega
        refine wg_name ?_
        refine ws_seq ?_
        walk_at "bn"
        obtain ⟨sp, hsp, hsp0, hsp1⟩ : ∃ sp : Int, (0 + (i : Int)) / wd = sp ∧ 0 ≤ sp ∧ sp ≤ 40 := ⟨_, rfl, Int.ediv_nonneg (by omega) (by omega), by
          have := Int.ediv_le_self (a := (0 + (i : Int))) wd (by omega)
          omega⟩
        rw [hsp]
        walk_at "bm"
        have hm1' := Int.emod_nonneg (sp + k) (b := ((cs.map V.int).length : Int)) (by omega)
        have hm2' := Int.emod_lt_of_pos (sp + k) (b := ((cs.map V.int).length : Int)) (by omega)
        obtain ⟨z, hz⟩ := get_some (r := cs) (i := ((sp + k) % ((cs.map V.int).length : Int)).toNat) (by omega)
        refine w2_ixL (v := .int z) (by walk_at "isl") (atI_of hm1' (by rw [List.getElem?_map, hz]; rfl)) ?_
        walk_at "bm"
        refine c__law_number (by omega) fun n => ?_
        walk_at "bn"
        generalize hnh : (if n < 0 then -n else n) / 3 = nh
        refine ws_seq (ws_set (we_cb (wa_cons (we_or_val (b1 := decide (0 < nh % 3)) (b2 := decide ((0 + (i : Int)) % 2 = 0)) (fun Q q => by walk_at "bm"; exact q) (fun Q q => by walk_at "bm"; exact q) ?_))))
        walk_at "bn"
        obtain ⟨mx, hmx, hmx01⟩ : ∃ mx : Int, (if (decide (0 < nh % 3) || decide ((0 + (i : Int)) % 2 = 0)) = true then (1 : Int) else 0) = mx ∧ (mx = 0 ∨ mx = 1) := ⟨_, rfl, by split <;> simp⟩
        rw [hmx]
        walk_at "bm"
        refine ⟨by simp, fun tt htt => ?_⟩
        walk_at "bm"
        obtain ⟨y, hy, hat⟩ := five_at (w := W) (a := nh % 2) (b := (0 + (i : Int)) % 2) (c := 1 - (0 + (i : Int)) % 2) (d := mx) (e := if decide (sp % 2 = 0) = true then 1 else 0) (by omega) (by omega) (by omega) hmx01 int01
        refine w2_ixU (v := .int y) (by walk_at "ist") hat ?_
        obtain ⟨b, hb⟩ := atI_small hy
        refine w2_ixT (b := b) (by simp) hb ?_
        walk_at "bm"
        refine ⟨⟨[(q, .lst (r.map ch ++ [ch b])), (p, .lst (cs.map V.int))], []⟩, by walk_at "sub", some (.int (0 + (i : Int))), x8, some (.int sp), some (.int (z + sp / ((cs.map V.int).length : Int))), some (.int nh), some (.int mx), some (.ref tt), r ++ [b], rfl, ?_, by simp [hr]⟩
        rw [List.map_append]
        rfl
      · rintro σ s ⟨x6, x8, x10, x11, x12, x13, x14, r, rfl, rfl, hr⟩
        exact ⟨_, Sub.refl _, x6, x8, x10, x11, x12, x13, x14, r, rfl, rfl, by omega⟩
    · rintro σ s ⟨x6, x8, x10, x11, x12, x13, x14, r, rfl, rfl, hr⟩
      refine ws_cut (fun σ s => ∃ (q : Addr), LRow a p q k m wd W e cs (fun r _ => (r.length : Int) ≤ m ∧ (e = true → r.length % 2 = 0)) σ s) ?_ ?_
      · walk_at "bm"
        refine ⟨fun he => ?_, fun he => ?_⟩
        · walk_at "bm"
          refine w2_mul (cmul_r (by decide) (by decide)) ?_
          walk_at "bm"
          refine wsl_L (by walk_at "isl") fun q2 hq2 => ?_
          refine ⟨⟨[(q2, .lst ((r.take (r.length / 2 * 2)).map ch)), (p, .lst (cs.map V.int))], []⟩, ?_, q2, x6, x8, x10, x11, x12, x13, x14, r.take (r.length / 2 * 2), rfl, rfl, by simp; omega, fun _ => by simp; omega⟩
          rw [cut_hi (by omega), List.length_map, show ((r.length : Int) / 2 * 2).toNat = r.length / 2 * 2 by omega, List.map_take]
          walk_at "sub"
        · walk_at "bm"
          exact ⟨_, Sub.refl _, q, x6, x8, x10, x11, x12, x13, x14, r, rfl, rfl, hr, fun h => by rw [he] at h; cases h⟩
      · rintro σ s ⟨q, x6, x8, x10, x11, x12, x13, x14, r, rfl, rfl, hr, hev⟩
        have hrl : (r.map ch).length = r.length := List.length_map ..
        walk_at "bm"
        refine wm_count (by walk_at "isl") rfl (flat_ch r) ?_
        walk_at "bm"
        refine wm_count (by walk_at "isl") rfl (flat_ch r) ?_
        rw [count_ch r true, count_ch r false]
        refine w2_sub ?_
        rw [← hgt_count]
        walk_at "bm"
        refine ⟨by omega, ?_⟩
        refine lp_rng (fun i => LRow a p q k m wd W e cs fun r' x8 => r'.length = r.length ∧ (if e = true then ∃ mo, x8 = some (.int mo) ∧ EvenUp W r.length i r' mo else ∃ mo, x8 = some (.int mo))) ⟨x6, some (.int (hgt r)), x10, x11, x12, x13, x14, r, rfl, rfl, rfl, ?_⟩ ?_ ?_
        · cases e with
          | true => exact ⟨_, rfl, EvenUp.start (hev rfl)⟩
          | false => exact ⟨_, rfl⟩
        · rintro i σ s hi ⟨x6, x8, x10, x11, x12, x13, x14, r', rfl, rfl, hr', hx⟩
          rw [hrl] at hi
          have hrl' : (r'.map ch).length = r'.length := List.length_map ..
          obtain ⟨mo, rfl⟩ : ∃ mo, x8 = some (.int mo) := by
            cases e with
            | true => obtain ⟨mo, h, _⟩ := hx; exact ⟨mo, h⟩
            | false => exact hx
          walk_at "bm"
          have hm1' := Int.emod_nonneg (0 + (i : Int) + W) (b := ((r'.map ch).length : Int)) (by omega)
          have hm2' := Int.emod_lt_of_pos (0 + (i : Int) + W) (b := ((r'.map ch).length : Int)) (by omega)
          have hsp : (0 + (i : Int) + W) % ((r'.map ch).length : Int) = ((i : Int) + W) % (r.length : Int) := by
            rw [hrl', hr', show (0 + (i : Int) + W) = (i : Int) + W by omega]
          obtain ⟨y, hy⟩ := get_some (r := r') (i := ((0 + (i : Int) + W) % ((r'.map ch).length : Int)).toNat) (by omega)
          have hy2 : r'[(((i : Int) + W) % (r.length : Int)).toNat]? = some y := by rw [← hsp]; exact hy
          cases e with
          | false =>
            walk_at "bm"
            exact ⟨_, Sub.refl _, _, _, _, x11, x12, x13, x14, r', rfl, rfl, hr', mo, rfl⟩
          | true =>
            obtain ⟨mo', hmo, EU⟩ := hx
            cases hmo
            walk_at "bm"
            refine ⟨fun hne => ?_, fun hne => ?_⟩
            · have hne' : mo ≠ 0 := by simpa using hne
              walk_at "bm"
              refine w2_ixL (v := ch y) (by walk_at "isl") (atI_of hm1' (by rw [List.getElem?_map, hy]; rfl)) ?_
              walk_at "bm"
              have hd : atI [true, false] (if decide (mo < 0) = true then 1 else 0) = some (decide (0 < mo)) := by
                by_cases h : mo < 0
                · simp [h, show ¬ 0 < mo by omega]
                  rfl
                · simp [h, show 0 < mo by omega]
                  rfl
              refine w2_ixT (b := decide (0 < mo)) (by simp) hd ?_
              walk_at "bm"
              refine ⟨fun hyc => ?_, fun hyc => ?_⟩
              · have hya : y = decide (0 < mo) := by simpa using hyc
                have EU2 := EU.turn hne' hy2 hya
                walk_at "bm"
                have hd2 : atI [true, false] (if decide (0 < mo) = true then 1 else 0) = some (!y) := by
                  rw [hya]
                  by_cases h : 0 < mo
                  · simp [h]
                    rfl
                  · simp [h]
                    rfl
                refine w2_ixT (b := !y) (by simp) hd2 ?_
                walk_at "bm"
                refine wset_list (xs := r'.map ch) (j := ((0 + (i : Int) + W) % ((r'.map ch).length : Int)).toNat) (ixN_of hm1' hm2') (by walk_at "swap") ?_
                walk_at "bm"
                have fin : ∀ mo2, mo2 = (if 0 < mo then mo - 2 else mo + 2) → ∃ s0, Sub s0 ⟨[(q, HO.lst ((r'.map ch).set ((0 + (i : Int) + W) % ((r'.map ch).length : Int)).toNat (ch (!y)))), (p, .lst (cs.map V.int))], []⟩ ∧ LRow a p q k m wd W true cs (fun r' x8 => r'.length = r.length ∧ (if true = true then ∃ mo, x8 = some (.int mo) ∧ EvenUp W r.length (i + 1) r' mo else ∃ mo, x8 = some (.int mo))) [some (.ref a), some (.int k), some (.int m), some (.bl true), some (.ref p), some (.int wd), some (.int (0 + (i : Int))), some (.ref q), some (.int mo2), some (.int W), some (.int ((0 + (i : Int) + W) % ((r'.map ch).length : Int))), x11, x12, x13, x14] s0 := by
                  rintro mo2 rfl
                  refine ⟨_, Sub.refl _, _, _, _, x11, x12, x13, x14, r'.set (((i : Int) + W) % (r.length : Int)).toNat (!y), rfl, ?_, by rw [List.length_set]; exact hr', _, rfl, EU2⟩
                  rw [mapset ch, hsp]
                refine ⟨fun h => ?_, fun h => ?_⟩
                · walk_at "bm"
                  exact fin _ (by rw [if_pos (of_decide_eq_true h)])
                · walk_at "bm"
                  exact fin _ (by rw [if_neg (of_decide_eq_false h)])
              · have hya : y ≠ decide (0 < mo) := by simpa using hyc
                walk_at "bm"
                exact ⟨_, Sub.refl _, _, _, _, x11, x12, x13, x14, r', rfl, rfl, hr', mo, rfl, EU.stay hy2 fun _ => hya⟩
            · have hne' : mo = 0 := by simpa using hne
              walk_at "bm"
              exact ⟨_, Sub.refl _, _, _, _, x11, x12, x13, x14, r', rfl, rfl, hr', mo, rfl, EU.stay hy2 fun h => absurd hne' h⟩
        · rintro σ s ⟨x6, x8, x10, x11, x12, x13, x14, r', rfl, rfl, hr', hx⟩
          walk_at "bm"
          refine wm_join1 (by walk_at "isl") (by omega) ?_
          refine ⟨r', rfl, by omega, fun he => ?_⟩
          subst he
          obtain ⟨mo, _, EU⟩ := hx
          rw [hrl] at EU
          exact EU.done
theorem c__law_row {K : PySem.W.Frag} {C : CA} {H0 : Hp} {s : Ld} {Q : V → Ld → Prop} {E : XK} {a : Addr} {ns : List Int} {k m : Int} {e : Bool} (hx : IsL K H0 s a (ns.map V.int)) (hn : ns.length ≤ 63) (hk : 0 ≤ k ∧ k ≤ 1000 ∧ 0 ≤ m ∧ m ≤ 40) (q : ∀ r : List Bool, (r.length : Int) ≤ m → (e = true → hgt r = 0) → Q (.str (T r)) s) : WC H0 (sp__law_row K C) E [.ref a, .int k, .int m, .bl e] s Q :=
  wc_P (fun H o => ⟨a, ns, k, m, e, rfl, hx H o, hn, hk.1, hk.2.1, hk.2.2.1, hk.2.2.2⟩) (fun v ⟨a', k', m', e', r, h1, h2, h3, h4⟩ => by
    cases h1
    rw [h2]
    exact q r h3 h4)
end BM
namespace BM
open PySem L2 Evl
theorem kit_self (K : PySem.W.Frag) (D : Addr) : PySem.W.kitOne K (.ref D) (.ref D) = some true := by
  unfold PySem.W.kitOne
  rw [if_pos (by simp)]
/-- an own class as it stands -/
structure ClsK (K : PySem.W.Frag) (C : Addr) : Prop where
  hd : PySem.W.hasDictIn K C = true
  ty : PySem.W.typeIn K (.ref C) = some (.type "type")
theorem kitCls_of {K : PySem.W.Frag} {D c : Addr} {b : Bool} (hc : ClsK K c) (h : PySem.W.subIn K (.ref D) (.ref c) = some b) : PySem.W.kitCls K (.ref D) (.ref c) = some b := by
  obtain ⟨cd, e, _⟩ := PySem.W.any_some hc.hd
  unfold PySem.W.kitCls
  have e2 : ((PySem.W.clsIn K c).isSome && PySem.W.typeIn K (.ref c) == some (.type "type")) = true := by rw [e, hc.ty] <;> rfl
  show (if ((PySem.W.clsIn K c).isSome && PySem.W.typeIn K (.ref c) == some (.type "type")) = true then PySem.W.subIn K (.ref D) (.ref c) else none) = some b
  rw [if_pos e2]
  exact h
theorem kit_no {K : PySem.W.Frag} {D c : Addr} (hc : ClsK K c) (h : PySem.W.subIn K (.ref D) (.ref c) = some false) (hs : PySem.W.subIn K (.ref c) (.ref c) = some true) : PySem.W.kitOne K (.ref D) (.ref c) = some false := by
  unfold PySem.W.kitOne
  rw [if_neg]
  · exact kitCls_of hc h
  · intro e
    have e' : (Value.ref D) = Value.ref c := by simpa using e
    cases e'
    rw [h] at hs
    cases hs
theorem kit_yes {K : PySem.W.Frag} {D c : Addr} (hc : ClsK K c) (h : PySem.W.subIn K (.ref D) (.ref c) = some true) : PySem.W.kitOne K (.ref D) (.ref c) = some true := by
  unfold PySem.W.kitOne
  split
  · rfl
  · exact kitCls_of hc h
end BM
namespace BM
open PySem L2 Evl
def aNotB : R2 := fun x y H Q => ∃ a b : Bool, x = .bl a ∧ y = .bl b ∧ Q (.bl (!decide (a = b))) H
section
variable {X : Cx}
theorem o_notB : OpR X (compareOp .IsNot) aNotB := OpR.imp op_notBl fun x y H Q ⟨a, b, e1, e2, q⟩ => ⟨a, b, e1, e2, by first | exact q | (have e : (!decide (a = b)) = (a != b) := (by cases a <;> cases b <;> rfl); rw [← e]; exact q) | (have e : (!decide (a = b)) = (!(a == b)) := (by cases a <;> cases b <;> rfl); rw [← e]; exact q)⟩
end
section
variable {K : PySem.W.Frag} {H0 : Hp} {σ : L2.St} {s : Ld} {Q : V → Ld → Prop} {t : TT}
theorem w2_notB {a b : Bool} (q : Q (.bl (!decide (a = b))) s) : W2 H0 aNotB (.bl a) (.bl b) s Q := fun H o R k => ⟨a, b, rfl, rfl, k _ H s o q⟩
end
end BM
namespace BM
open PySem L2 Evl
local macro_rules | `(tactic| walk_at "mem") => `(tactic| first | exact List.mem_cons_self | (refine List.mem_cons_of_mem _ ?_; walk_at "mem"))
local macro_rules | `(tactic| walk_at "swap") => `(tactic| first | exact Swap.here | (refine Swap.there ?_; walk_at "swap"))
local macro_rules | `(tactic| walk_at "subl") => `(tactic| first | exact List.Sublist.refl _ | exact List.nil_sublist _ | (refine List.Sublist.cons_cons _ ?_; walk_at "subl") | (refine List.Sublist.cons _ ?_; walk_at "subl"))
local macro_rules | `(tactic| walk_at "sub") => `(tactic| first | exact Sub.refl _ | (refine ⟨?_, ?_⟩ <;> walk_at "subl"))
local macro_rules | `(tactic| walk_at "isl") => `(tactic| first | exact isL_own (by walk_at "mem") | exact isL_old (by assumption) | assumption)
local macro_rules | `(tactic| walk_at "ist") => `(tactic| first | exact isT_own (by walk_at "mem") | exact isT_old (by assumption) | assumption)
local macro_rules | `(tactic| walk_at "len") => `(tactic| first | omega | decide | (simp only [List.length_map, List.length_take, List.length_drop, List.length_append, List.length_cons, List.length_nil, List.length_reverse, dps_len, flp_len]; omega) | (simp [dps_len, flp_len]; omega) | simp)
local macro_rules | `(tactic| walk_at "b0") => `(tactic| first
  | with_reducible refine' ws_set ?_
  | with_reducible refine' ws_par ?_
  | with_reducible refine' ws_asg ?_
  | with_reducible refine' ws_drop ?_
  | with_reducible refine' ws_ret ?_
  | with_reducible refine' ws_if ?_
  | with_reducible refine' ws_next ?_
  | with_reducible refine' ws_brk ?_
  | with_reducible refine' ws_cont ?_
  | ((with_reducible refine' we_var ?hv ?_); case hv => rfl)
  | with_reducible refine' we_c ?_
  | with_reducible refine' we_op ?_
  | with_reducible refine' we_un ?_
  | with_reducible refine' we_if ?_
  | with_reducible refine' we_and ?_
  | with_reducible refine' we_or ?_
  | with_reducible refine' we_not ?_
  | with_reducible refine' wa_nil ?_
  | with_reducible refine' wa_cons ?_
  | (with_reducible refine' we_lst ?_)
  | (with_reducible refine' we_tup ?_)
  | with_reducible refine' we_cb ?_
  | with_reducible refine' we_call0 ?_
  | with_reducible refine' we_sl ?_
  | with_reducible refine' wo_none ?_
  | (with_reducible refine' wo_some ?_)
  | with_reducible refine' wt_test ?_
  | with_reducible refine' wt_B ?_
  | with_reducible refine' wt_and ?_
  | with_reducible refine' wt_or ?_
  | with_reducible refine' wt_not ?_
  | with_reducible refine' wt_yes ?_
  | with_reducible refine' we_chain ?_
  | with_reducible refine' we_chain3 ?_
  | with_reducible refine' we_revT ?_
  | with_reducible refine' we_revL ?_
  | with_reducible refine' we_bm ?_
  | with_reducible refine' we_bm0 ?_
  | with_reducible refine' ws_for ?_
  | with_reducible refine' we_lc ?_
  | with_reducible refine' wi_list ?_
  | with_reducible refine' wi_tup ?_
  | with_reducible refine' wi_T ?_
  | with_reducible refine' wi_rng1 ?_
  | with_reducible refine' wi_rng2 ?_
  | with_reducible refine' wi_rng3 ?_
  | with_reducible refine' wi_enum ?_
  | with_reducible refine' wi_enumT ?_
  | with_reducible refine' wi_zip ?_
  | with_reducible refine' wg_name ?_
  | with_reducible refine' wg_sub ?_
  | with_reducible refine' wgs_nil ?_
  | with_reducible refine' wgs_cons ?_
  | ((with_reducible refine' wg_tup ?ht ?hn ?_); (case ht => walk_at "ist"); (case hn => rfl))
  | with_reducible refine' w2_add ?_
  | with_reducible refine' w2_sub ?_
  | with_reducible refine' w2_lt ?_
  | with_reducible refine' w2_le ?_
  | with_reducible refine' w2_gt ?_
  | with_reducible refine' w2_ge ?_
  | with_reducible refine' w2_eqI ?_
  | with_reducible refine' w2_neI ?_
  | with_reducible refine' w2_eqT ?_
  | with_reducible refine' w2_neT ?_
  | with_reducible refine' w2_eqB ?_
  | with_reducible refine' w2_neB ?_
  | with_reducible refine' w2_isN ?_
  | with_reducible refine' w2_notN ?_
  | with_reducible refine' w2_isB ?_
  | with_reducible refine' w2_inT ?_
  | with_reducible refine' w1_neg ?_
  | with_reducible refine' wl_abs ?_
  | with_reducible refine' wl_max2 ?_
  | with_reducible refine' wl_min2 ?_
  | with_reducible refine' wl_intB ?_
  | ((with_reducible refine' w2_div ?h ?_); case h => first | omega | (constructor <;> omega))
  | ((with_reducible refine' w2_mod ?h ?_); case h => omega)
  | ((with_reducible refine' w2_catT ?h ?_); case h => walk_at "len")
  | ((with_reducible refine' wsl_T ?h ?_); case h => walk_at "len")
  | ((with_reducible refine' wl_lenT ?h ?_); case h => walk_at "len")
  | ((with_reducible refine' wl_len ?h ?_); case h => walk_at "isl")
  | ((with_reducible refine' wl_len ?h ?_); case h => walk_at "isl")
  | ((with_reducible refine' wm_append ?sw ?hl ?_); (case sw => walk_at "swap"); (case hl => walk_at "len")))
local macro_rules | `(tactic| walk_at "b1") => `(tactic| first | with_reducible refine' ws_seq ?_ | walk_at "b0")
local macro_rules | `(tactic| walk_at "bx") => `(tactic| first
  | refine ⟨_, rfl, ?_⟩
  | refine ⟨_, _, rfl, ?_⟩
  | refine ⟨ty_L (by walk_at "isl"), ?_⟩
  | refine ⟨ty_S, ?_⟩
  | refine spl_t (by rfl) ?_
  | refine spl_f (by rfl) ?_
  | exact rfl)
local macro_rules | `(tactic| walk_at "bm") => `(tactic| repeat (first | walk_at "b1" | walk_at "bx"))
local macro_rules | `(tactic| walk_at "bn") => `(tactic| repeat (first | walk_at "b0" | walk_at "bx"))
local macro_rules | `(tactic| walk_at "b0") => `(tactic| with_reducible refine' c_deepens ?_)
local macro_rules | `(tactic| walk_at "b0") => `(tactic| ((with_reducible refine' c_depths_of ?hl ?_); (case hl => walk_at "len")))
local macro_rules | `(tactic| walk_at "b0") => `(tactic| with_reducible refine' c_is_wholeI ?_)
local macro_rules | `(tactic| walk_at "b0") => `(tactic| with_reducible refine' c_flipped ?_)
local macro_rules | `(tactic| walk_at "b0") => `(tactic| ((with_reducible refine' c_is_right_row ?hl ?_); (case hl => walk_at "len")))
local macro_rules | `(tactic| walk_at "b0") => `(tactic| ((with_reducible refine' c_asked_row ?hl ?_); (case hl => walk_at "len")))
local macro_rules | `(tactic| walk_at "b0") => `(tactic| ((with_reducible refine' c_depths ?hl ?_); (case hl => walk_at "len")))
local macro_rules | `(tactic| walk_at "b0") => `(tactic| ((with_reducible refine' c_is_right ?hl ?_); (case hl => walk_at "len")))
local macro_rules | `(tactic| walk_at "b0") => `(tactic| ((with_reducible refine' c__law_depths ?hl ?_); (case hl => walk_at "len")))
local macro_rules | `(tactic| walk_at "b0") => `(tactic| ((with_reducible refine' c__law_good ?hl ?_); (case hl => walk_at "len")))
end BM
namespace BM
open PySem L2 Evl
local macro_rules | `(tactic| walk_at "mem") => `(tactic| first | exact List.mem_cons_self | (refine List.mem_cons_of_mem _ ?_; walk_at "mem"))
local macro_rules | `(tactic| walk_at "swap") => `(tactic| first | exact Swap.here | (refine Swap.there ?_; walk_at "swap"))
local macro_rules | `(tactic| walk_at "subl") => `(tactic| first | exact List.Sublist.refl _ | exact List.nil_sublist _ | (refine List.Sublist.cons_cons _ ?_; walk_at "subl") | (refine List.Sublist.cons _ ?_; walk_at "subl"))
local macro_rules | `(tactic| walk_at "sub") => `(tactic| first | exact Sub.refl _ | (refine ⟨?_, ?_⟩ <;> walk_at "subl"))
local macro_rules | `(tactic| walk_at "isl") => `(tactic| first | exact isL_own (by walk_at "mem") | exact isL_old (by assumption) | assumption)
local macro_rules | `(tactic| walk_at "ist") => `(tactic| first | exact isT_own (by walk_at "mem") | exact isT_old (by assumption) | assumption)
local macro_rules | `(tactic| walk_at "len") => `(tactic| first | omega | decide | (simp only [List.length_map, List.length_take, List.length_drop, List.length_append, List.length_cons, List.length_nil, List.length_reverse, dps_len, flp_len]; omega) | (simp [dps_len, flp_len]; omega) | simp)
local macro_rules | `(tactic| walk_at "b0") => `(tactic| first
  | with_reducible refine' ws_set ?_
  | with_reducible refine' ws_par ?_
  | with_reducible refine' ws_asg ?_
  | with_reducible refine' ws_drop ?_
  | with_reducible refine' ws_ret ?_
  | with_reducible refine' ws_if ?_
  | with_reducible refine' ws_next ?_
  | with_reducible refine' ws_brk ?_
  | with_reducible refine' ws_cont ?_
  | ((with_reducible refine' we_var ?hv ?_); case hv => rfl)
  | with_reducible refine' we_c ?_
  | with_reducible refine' we_op ?_
  | with_reducible refine' we_un ?_
  | with_reducible refine' we_if ?_
  | with_reducible refine' we_and ?_
  | with_reducible refine' we_or ?_
  | with_reducible refine' we_not ?_
  | with_reducible refine' wa_nil ?_
  | with_reducible refine' wa_cons ?_
  | (with_reducible refine' we_lst ?_)
  | (with_reducible refine' we_tup ?_)
  | with_reducible refine' we_cb ?_
  | with_reducible refine' we_call0 ?_
  | with_reducible refine' we_sl ?_
  | with_reducible refine' wo_none ?_
  | (with_reducible refine' wo_some ?_)
  | with_reducible refine' wt_test ?_
  | with_reducible refine' wt_B ?_
  | with_reducible refine' wt_and ?_
  | with_reducible refine' wt_or ?_
  | with_reducible refine' wt_not ?_
  | with_reducible refine' wt_yes ?_
  | with_reducible refine' we_chain ?_
  | with_reducible refine' we_chain3 ?_
  | with_reducible refine' we_revT ?_
  | with_reducible refine' we_revL ?_
  | with_reducible refine' we_bm ?_
  | with_reducible refine' we_bm0 ?_
  | with_reducible refine' ws_for ?_
  | with_reducible refine' we_lc ?_
  | with_reducible refine' wi_list ?_
  | with_reducible refine' wi_tup ?_
  | with_reducible refine' wi_T ?_
  | with_reducible refine' wi_rng1 ?_
  | with_reducible refine' wi_rng2 ?_
  | with_reducible refine' wi_rng3 ?_
  | with_reducible refine' wi_enum ?_
  | with_reducible refine' wi_enumT ?_
  | with_reducible refine' wi_zip ?_
  | with_reducible refine' wg_name ?_
  | with_reducible refine' wg_sub ?_
  | with_reducible refine' wgs_nil ?_
  | with_reducible refine' wgs_cons ?_
  | ((with_reducible refine' wg_tup ?ht ?hn ?_); (case ht => walk_at "ist"); (case hn => rfl))
  | with_reducible refine' w2_add ?_
  | with_reducible refine' w2_sub ?_
  | with_reducible refine' w2_lt ?_
  | with_reducible refine' w2_le ?_
  | with_reducible refine' w2_gt ?_
  | with_reducible refine' w2_ge ?_
  | with_reducible refine' w2_eqI ?_
  | with_reducible refine' w2_neI ?_
  | with_reducible refine' w2_eqT ?_
  | with_reducible refine' w2_neT ?_
  | with_reducible refine' w2_eqB ?_
  | with_reducible refine' w2_neB ?_
  | with_reducible refine' w2_isN ?_
  | with_reducible refine' w2_notN ?_
  | with_reducible refine' w2_isB ?_
  | with_reducible refine' w2_inT ?_
  | with_reducible refine' w1_neg ?_
  | with_reducible refine' wl_abs ?_
  | with_reducible refine' wl_max2 ?_
  | with_reducible refine' wl_min2 ?_
  | with_reducible refine' wl_intB ?_
  | ((with_reducible refine' w2_div ?h ?_); case h => first | omega | (constructor <;> omega))
  | ((with_reducible refine' w2_mod ?h ?_); case h => omega)
  | ((with_reducible refine' w2_catT ?h ?_); case h => walk_at "len")
  | ((with_reducible refine' wsl_T ?h ?_); case h => walk_at "len")
  | ((with_reducible refine' wl_lenT ?h ?_); case h => walk_at "len")
  | ((with_reducible refine' wl_len ?h ?_); case h => walk_at "isl")
  | ((with_reducible refine' wl_len ?h ?_); case h => walk_at "isl")
  | ((with_reducible refine' wm_append ?sw ?hl ?_); (case sw => walk_at "swap"); (case hl => walk_at "len")))
local macro_rules | `(tactic| walk_at "b1") => `(tactic| first | with_reducible refine' ws_seq ?_ | walk_at "b0")
local macro_rules | `(tactic| walk_at "bx") => `(tactic| first
  | refine ⟨_, rfl, ?_⟩
  | refine ⟨_, _, rfl, ?_⟩
  | refine ⟨ty_L (by walk_at "isl"), ?_⟩
  | refine ⟨ty_S, ?_⟩
  | refine spl_t (by rfl) ?_
  | refine spl_f (by rfl) ?_
  | exact rfl)
local macro_rules | `(tactic| walk_at "bm") => `(tactic| repeat (first | walk_at "b1" | walk_at "bx"))
local macro_rules | `(tactic| walk_at "bn") => `(tactic| repeat (first | walk_at "b0" | walk_at "bx"))
local macro_rules | `(tactic| walk_at "b0") => `(tactic| with_reducible refine' c_deepens ?_)
local macro_rules | `(tactic| walk_at "b0") => `(tactic| ((with_reducible refine' c_depths_of ?hl ?_); (case hl => walk_at "len")))
local macro_rules | `(tactic| walk_at "b0") => `(tactic| with_reducible refine' c_is_wholeI ?_)
local macro_rules | `(tactic| walk_at "b0") => `(tactic| with_reducible refine' c_flipped ?_)
local macro_rules | `(tactic| walk_at "b0") => `(tactic| ((with_reducible refine' c_is_right_row ?hl ?_); (case hl => walk_at "len")))
local macro_rules | `(tactic| walk_at "b0") => `(tactic| ((with_reducible refine' c_asked_row ?hl ?_); (case hl => walk_at "len")))
local macro_rules | `(tactic| walk_at "b0") => `(tactic| ((with_reducible refine' c_depths ?hl ?_); (case hl => walk_at "len")))
local macro_rules | `(tactic| walk_at "b0") => `(tactic| ((with_reducible refine' c_is_right ?hl ?_); (case hl => walk_at "len")))
local macro_rules | `(tactic| walk_at "b0") => `(tactic| ((with_reducible refine' c__law_depths ?hl ?_); (case hl => walk_at "len")))
local macro_rules | `(tactic| walk_at "b0") => `(tactic| ((with_reducible refine' c__law_good ?hl ?_); (case hl => walk_at "len")))
local macro_rules | `(tactic| walk_at "b0") => `(tactic| ((with_reducible refine' wl_listOf ?hx ?_); (case hx => walk_at "isl")))
local macro_rules | `(tactic| walk_at "b0") => `(tactic| with_reducible refine' w2_notB ?_)
theorem own_l {H0 : Hp} {s : Ld} {p : Addr} {o : HO} (h : (p, o) ∈ s.L) : ∀ H, Own H0 H s → H p = some o := fun H w => (w.own _ h).2
local macro_rules | `(tactic| walk_at "own") => `(tactic| exact own_l (by walk_at "mem"))
end BM
namespace BM
open PySem L2 Evl
local macro_rules | `(tactic| walk_at "mem") => `(tactic| first | exact List.mem_cons_self | (refine List.mem_cons_of_mem _ ?_; walk_at "mem"))
local macro_rules | `(tactic| walk_at "swap") => `(tactic| first | exact Swap.here | (apply Swap.there; walk_at "swap"))
local macro_rules | `(tactic| walk_at "subl") => `(tactic| first | exact List.Sublist.refl _ | exact List.nil_sublist _ | (refine List.Sublist.cons_cons _ ?_; walk_at "subl") | (refine List.Sublist.cons _ ?_; walk_at "subl"))
local macro_rules | `(tactic| walk_at "sub") => `(tactic| first | exact Sub.refl _ | (refine ⟨?_, ?_⟩ <;> walk_at "subl"))
local macro_rules | `(tactic| walk_at "isl") => `(tactic| first | exact isL_own (by walk_at "mem") | exact isL_old (by assumption) | assumption)
local macro_rules | `(tactic| walk_at "ist") => `(tactic| first | exact isT_own (by walk_at "mem") | exact isT_old (by assumption) | assumption)
local macro_rules | `(tactic| walk_at "len") => `(tactic| first | omega | decide | (simp only [List.length_map, List.length_take, List.length_drop, List.length_append, List.length_cons, List.length_nil, List.length_reverse, dps_len, flp_len]; omega) | (simp [dps_len, flp_len]; omega) | simp)
local macro_rules | `(tactic| walk_at "b0") => `(tactic| first
  | with_reducible refine' ws_set ?_
  | with_reducible refine' ws_par ?_
  | with_reducible refine' ws_asg ?_
  | with_reducible refine' ws_drop ?_
  | with_reducible refine' ws_ret ?_
  | with_reducible refine' ws_if ?_
  | with_reducible refine' ws_next ?_
  | with_reducible refine' ws_brk ?_
  | with_reducible refine' ws_cont ?_
  | ((with_reducible refine' we_var ?hv ?_); case hv => rfl)
  | with_reducible refine' we_c ?_
  | with_reducible refine' we_op ?_
  | with_reducible refine' we_un ?_
  | with_reducible refine' we_if ?_
  | with_reducible refine' we_and ?_
  | with_reducible refine' we_or ?_
  | with_reducible refine' we_not ?_
  | with_reducible refine' wa_nil ?_
  | with_reducible refine' wa_cons ?_
  | (with_reducible refine' we_lst ?_)
  | (with_reducible refine' we_tup ?_)
  | with_reducible refine' we_cb ?_
  | with_reducible refine' we_call0 ?_
  | with_reducible refine' we_sl ?_
  | with_reducible refine' wo_none ?_
  | (with_reducible refine' wo_some ?_)
  | with_reducible refine' wt_test ?_
  | with_reducible refine' wt_B ?_
  | with_reducible refine' wt_and ?_
  | with_reducible refine' wt_or ?_
  | with_reducible refine' wt_not ?_
  | with_reducible refine' wt_yes ?_
  | with_reducible refine' we_chain ?_
  | with_reducible refine' we_chain3 ?_
  | with_reducible refine' we_revT ?_
  | with_reducible refine' we_revL ?_
  | with_reducible refine' we_bm ?_
  | with_reducible refine' we_bm0 ?_
  | with_reducible refine' ws_for ?_
  | with_reducible refine' we_lc ?_
  | with_reducible refine' wi_list ?_
  | with_reducible refine' wi_tup ?_
  | with_reducible refine' wi_T ?_
  | with_reducible refine' wi_rng1 ?_
  | with_reducible refine' wi_rng2 ?_
  | with_reducible refine' wi_rng3 ?_
  | with_reducible refine' wi_enum ?_
  | with_reducible refine' wi_enumT ?_
  | with_reducible refine' wi_zip ?_
  | with_reducible refine' wg_name ?_
  | with_reducible refine' wg_sub ?_
  | with_reducible refine' wgs_nil ?_
  | with_reducible refine' wgs_cons ?_
  | ((with_reducible refine' wg_tup ?ht ?hn ?_); (case ht => walk_at "ist"); (case hn => rfl))
  | with_reducible refine' w2_add ?_
  | with_reducible refine' w2_sub ?_
  | with_reducible refine' w2_lt ?_
  | with_reducible refine' w2_le ?_
  | with_reducible refine' w2_gt ?_
  | with_reducible refine' w2_ge ?_
  | with_reducible refine' w2_eqI ?_
  | with_reducible refine' w2_neI ?_
  | with_reducible refine' w2_eqT ?_
  | with_reducible refine' w2_neT ?_
  | with_reducible refine' w2_eqB ?_
  | with_reducible refine' w2_neB ?_
  | with_reducible refine' w2_isN ?_
  | with_reducible refine' w2_notN ?_
  | with_reducible refine' w2_isB ?_
  | with_reducible refine' w2_inT ?_
  | with_reducible refine' w1_neg ?_
  | with_reducible refine' wl_abs ?_
  | with_reducible refine' wl_max2 ?_
  | with_reducible refine' wl_min2 ?_
  | with_reducible refine' wl_intB ?_
  | ((with_reducible refine' w2_div ?h ?_); case h => first | omega | (constructor <;> omega))
  | ((with_reducible refine' w2_mod ?h ?_); case h => omega)
  | ((with_reducible refine' w2_catT ?h ?_); case h => walk_at "len")
  | ((with_reducible refine' wsl_T ?h ?_); case h => walk_at "len")
  | ((with_reducible refine' wl_lenT ?h ?_); case h => walk_at "len")
  | ((with_reducible refine' wl_len ?h ?_); case h => walk_at "isl")
  | ((with_reducible refine' wl_len ?h ?_); case h => walk_at "isl")
  | ((with_reducible refine' wm_append ?sw ?hl ?_); (case sw => walk_at "swap"); (case hl => walk_at "len")))
local macro_rules | `(tactic| walk_at "b1") => `(tactic| first | with_reducible refine' ws_seq ?_ | walk_at "b0")
local macro_rules | `(tactic| walk_at "bx") => `(tactic| first
  | refine ⟨_, rfl, ?_⟩
  | refine ⟨_, _, rfl, ?_⟩
  | refine ⟨ty_L (by walk_at "isl"), ?_⟩
  | refine ⟨ty_S, ?_⟩
  | refine spl_t (by rfl) ?_
  | refine spl_f (by rfl) ?_
  | exact rfl)
local macro_rules | `(tactic| walk_at "bm") => `(tactic| repeat (first | walk_at "b1" | walk_at "bx"))
local macro_rules | `(tactic| walk_at "bn") => `(tactic| repeat (first | walk_at "b0" | walk_at "bx"))
local macro_rules | `(tactic| walk_at "b0") => `(tactic| with_reducible refine' c_deepens ?_)
local macro_rules | `(tactic| walk_at "b0") => `(tactic| ((with_reducible refine' c_depths_of ?hl ?_); (case hl => walk_at "len")))
local macro_rules | `(tactic| walk_at "b0") => `(tactic| with_reducible refine' c_is_wholeI ?_)
local macro_rules | `(tactic| walk_at "b0") => `(tactic| with_reducible refine' c_flipped ?_)
local macro_rules | `(tactic| walk_at "b0") => `(tactic| ((with_reducible refine' c_is_right_row ?hl ?_); (case hl => walk_at "len")))
local macro_rules | `(tactic| walk_at "b0") => `(tactic| ((with_reducible refine' c_asked_row ?hl ?_); (case hl => walk_at "len")))
local macro_rules | `(tactic| walk_at "b0") => `(tactic| ((with_reducible refine' c_depths ?hl ?_); (case hl => walk_at "len")))
local macro_rules | `(tactic| walk_at "b0") => `(tactic| ((with_reducible refine' c_is_right ?hl ?_); (case hl => walk_at "len")))
local macro_rules | `(tactic| walk_at "b0") => `(tactic| ((with_reducible refine' c__law_depths ?hl ?_); (case hl => walk_at "len")))
local macro_rules | `(tactic| walk_at "b0") => `(tactic| ((with_reducible refine' c__law_good ?hl ?_); (case hl => walk_at "len")))
local macro_rules | `(tactic| walk_at "b0") => `(tactic| ((with_reducible refine' wl_listOf ?hx ?_); (case hx => walk_at "isl")))
local macro_rules | `(tactic| walk_at "b0") => `(tactic| with_reducible refine' w2_notB ?_)
local macro_rules | `(tactic| walk_at "own") => `(tactic| exact own_l (by walk_at "mem"))
theorem Paired.one {α β : Type} {R : α → β → Prop} {xs : List α} {ys : List β} (h : Paired R xs ys) {x : α} {y : β} (r : R x y) : Paired R (xs ++ [x]) (ys ++ [y]) := by
  induction h with
  | nil => exact .cons r .nil
  | cons a t ih => exact .cons a ih
theorem Paired.len {α β : Type} {R : α → β → Prop} {xs : List α} {ys : List β} (h : Paired R xs ys) : xs.length = ys.length := by
  induction h with
  | nil => rfl
  | cons a t ih => rw [List.length_cons, List.length_cons, ih]
end BM
namespace BM
open PySem PySem.Spec PyProof.Rows L2 Evl
/-! ### methods in a try's body -/
/-! ### objects in the ledger -/
def del (g : Addr) (H : Hp) : Hp := fun a => if a = g then none else H a
theorem del_same {g : Addr} {H : Hp} : del g H g = none := if_pos rfl
theorem del_ne {g a : Addr} {H : Hp} (h : a ≠ g) : del g H a = H a := if_neg h
theorem own_del {H : Hp} {g : Addr} {o : HO} (h : H g = some o) : Own (del g H) H ⟨[(g, o)], []⟩ := by
  refine ⟨fun a u hu => ?_, List.nodup_cons.mpr ⟨by simp, List.nodup_nil⟩, fun e he => ?_, fun t ht => nomatch ht⟩
  · by_cases ha : a = g
    · rw [ha, del_same] at hu
      cases hu
    · rw [del_ne ha] at hu
      exact hu
  · rw [List.mem_singleton.mp he]
    exact ⟨del_same, h⟩
theorem own_after {H0 H H' : Hp} {s : Ld} {g : Addr} {o o' : HO} {L' : List (Addr × HO)} (w : Own H0 H s) (sw : Swap g o o' s.L L') (nt : NotTup o) (e : Ex (del g H) H') (h : H' g = some o') : Own H0 H' ⟨L', s.T⟩ := by
  have hg := w.own _ sw.mem
  have keep : ∀ a u, a ≠ g → H a = some u → H' a = some u := fun a u ha hu => e _ _ (by rw [del_ne ha]; exact hu)
  refine ⟨fun a u hu => keep a u (fun x => ?_) (w.ex _ _ hu), by rw [sw.keys]; exact w.nd, fun x hx => ?_, fun t ht => keep _ _ (fun z => ?_) (w.tp t ht)⟩
  · rw [x, hg.1] at hu
    cases hu
  · rcases sw.of_mem w.nd x hx with rfl | ⟨h1, h2⟩
    · exact ⟨hg.1, h⟩
    · exact ⟨(w.own x h1).1, keep _ _ h2 (w.own x h1).2⟩
  · have := w.tp t ht
    rw [z, hg.2] at this
    cases this
    exact nt
section
variable {K : PySem.W.Frag} {H0 : Hp} {σ : L2.St} {s : Ld} {ta : TA} {te tv : TE} {Q : V → Ld → Prop} {D : Dl} {f m : Str} {E : XK} {C : Addr} {sp : Sp} {vs : List V}
theorem we_fld (h : WE H0 te σ s fun x s1 => ∃ a C dx fs v, x = .ref a ∧ (∀ H, Own H0 H s1 → H a = some (.ins C dx fs)) ∧ Cls K C ∧ NoAttr K C f ∧ fs.lookup f = some v ∧ Q v s1) : WE H0 (tFld K te f) σ s Q := fun H o R k =>
  h H o _ fun x H1 s1 o1 ⟨a, C, dx, fs, v, e, ha, hc, hn, hl, q⟩ => ⟨a, C, dx, fs, v, e, ha H1 o1, hc, hn, hl, k _ _ _ o1 q⟩
theorem ws_fld (h : WE H0 tv σ s fun y s1 => WE H0 te σ s1 fun x s2 => ∃ a C dx fs L', x = .ref a ∧ Swap a (.ins C dx fs) (.ins C dx (putF f y fs)) s2.L L' ∧ Cls K C ∧ NoAttr K C f ∧ fs.length < 1000 ∧ D.nx σ ⟨L', s2.T⟩) : WS H0 (sFld K te tv f) σ s D := fun H o E l =>
  h H o _ fun y H1 s1 o1 h1 => h1 H1 o1 _ fun x H2 s2 o2 ⟨a, C, dx, fs, L', e, sw, hc, hn, hl, q⟩ => ⟨a, C, dx, fs, e, (o2.own _ sw.mem).2, hc, hn, hl, l.nx _ _ _ (o2.swap sw trivial) q⟩
theorem we_meth {dvs : List V} (h : WE H0 te σ s fun x s1 => ∃ a dx fs, x = .ref a ∧ (∀ H, Own H0 H s1 → H a = some (.ins C dx fs)) ∧ fs.lookup m = none ∧ WA H0 ta σ s1 fun vs s2 => WC H0 sp E (x :: (vs ++ dvs)) s2 Q) : WE H0 (tMeth C m sp dvs E te ta) σ s Q := fun H o R k =>
  h H o _ fun x H1 s1 o1 ⟨a, dx, fs, e, ha, hl, h1⟩ => ⟨a, dx, fs, e, ha H1 o1, hl, h1 H1 o1 _ fun vs H2 s2 o2 h2 => h2 H2 o2 R k⟩
theorem we_make {dvs : List V} (h : WA H0 ta σ s fun vs s1 => ∀ x dx, H0 x = none → H0 dx = none → dx ≠ x → WC H0 sp E (.ref x :: (vs ++ dvs)) ⟨(x, .ins C dx []) :: (dx, .own x) :: s1.L, s1.T⟩ fun v s2 => v = .non ∧ Q (.ref x) s2) : WE H0 (tMake C sp dvs E ta) σ s Q := fun H o R k =>
  h H o _ fun vs H1 s1 o1 h1 => fun x dx hx hdx hne => by
    have o2 := o1.new (u := .own x) hdx
    have hx2 : (upd H1 dx (.own x)) x = none := by rw [upd_ne hne.symm]; exact hx
    exact h1 x dx (fresh_back o1.ex hx) (fresh_back o1.ex hdx) hne _ (o2.new (u := .ins C dx []) hx2) _ fun v H2 s2 o3 ⟨e, q⟩ => ⟨e, k _ _ _ o3 q⟩
end
/-- a promise that changes the object g alone -/
def chg (g : Addr) (o' : HO) (v : V) (H : Hp) (Q : VK) : Prop := ∀ H', Ex (del g H) H' → H' g = some o' → Q v H'
/-- a promise of a new tuple -/
def spU (R : List V → Hp → List V → Prop) : Sp := fun vs H Q _ => ∃ xs, R vs H xs ∧ ∀ p H', Ex H H' → H' p = some (.tup xs) → Q (.ref p) H'
theorem wc_U {H0 : Hp} {s : Ld} {Q : V → Ld → Prop} {R : List V → Hp → List V → Prop} {E : XK} {vs xs : List V} (h : ∀ H, Own H0 H s → R vs H xs) (q : ∀ p, Q (.ref p) ⟨s.L, (p, xs) :: s.T⟩) : WC H0 (spU R) E vs s Q := fun H o R' k =>
  ⟨xs, h H o, fun p H' e hp => k _ _ _ (by
    have o2 := (o.ext e).moreT (ts := [(p, xs)]) (fun t ht => by rw [List.mem_singleton.mp ht]; exact hp)
    exact o2) (q p)⟩
def retU (xs : List V) : Dl := { nx := fun _ _ => False, rt := fun u s => ∃ p, u = .ref p ∧ (p, xs) ∈ s.T }
theorem body_U {H : Hp} {t : TS} {N : List Str} {vs xs : List V} {Q : VK} (h : WS H t (start N vs) ⟨[], []⟩ (retU xs)) (k : ∀ p H', Ex H H' → H' p = some (.tup xs) → Q (.ref p) H') : t { nx := fun _ H' => Q .non H', rt := Q } (start N vs) H :=
  h H (Own.start H) _ ⟨(fun _ _ _ _ q => q.elim), fun u H' s o ⟨p, e, m⟩ => by
    rw [e]
    exact k p H' o.ex (o.tp _ m), (fun _ _ _ _ q => q.elim), (fun _ _ _ _ q => q.elim)⟩
/-- a body that changes the object g -/
def retG (g : Addr) (o' : HO) (v : V) : Dl := { nx := fun _ s => v = .non ∧ (g, o') ∈ s.L, rt := fun u s => u = v ∧ (g, o') ∈ s.L }
theorem body_G {H : Hp} {t : TS} {N : List Str} {vs : List V} {Q : VK} {g : Addr} {o o' : HO} {v : V} (ho : H g = some o) (h : WS (del g H) t (start N vs) ⟨[(g, o)], []⟩ (retG g o' v)) (k : chg g o' v H Q) : t { nx := fun _ H' => Q .non H', rt := Q } (start N vs) H :=
  h H (own_del ho) _ ⟨fun _ H' s w ⟨e, m⟩ => by
    rw [← e]
    exact k H' w.ex (w.own _ m).2, fun u H' s w ⟨e, m⟩ => by
    rw [e]
    exact k H' w.ex (w.own _ m).2, (fun _ _ _ _ q => q.elim), (fun _ _ _ _ q => q.elim)⟩
end BM
namespace BM
/-! ### what a row lacks -/
def lkS (p : Int × Int) (b : Bool) : Int × Int := if b then (p.1, p.2 + 1) else if p.2 > 0 then (p.1, p.2 - 1) else (p.1 + 1, p.2)
def lk (r : List Bool) : Int × Int := r.foldl lkS (0, 0)
/-! ### the longest right stretch -/
def stp (r : List Bool) (f : Nat) (best : Int × Int) (b : Nat) : Int × Int := if b ≤ r.length ∧ isR ((r.drop f).take (b - f)) = true ∧ best.2 - best.1 < (b : Int) - (f : Int) then ((f : Int), (b : Int)) else best
def inn (r : List Bool) (f : Nat) (best : Int × Int) : Nat → Int × Int
  | 0 => best
  | k + 1 => stp r f (inn r f best k) (f + (k + 1))
end BM
namespace BM
open PySem L2 Evl
/-- the class Growing as it stands -/
structure Grw (K : PySem.W.Frag) (C : CA) : Prop where
  cl : Cls K C.c_Growing
  nr : NoAttr K C.c_Growing "row"
def pairV (p : Int × Int) : List V := [.int p.1, .int p.2]
end BM
namespace BM
open PySem L2 Evl
local macro_rules | `(tactic| walk_at "mem") => `(tactic| first | exact List.mem_cons_self | (refine List.mem_cons_of_mem _ ?_; walk_at "mem"))
local macro_rules | `(tactic| walk_at "swap") => `(tactic| first | exact Swap.here | (apply Swap.there; walk_at "swap"))
local macro_rules | `(tactic| walk_at "subl") => `(tactic| first | exact List.Sublist.refl _ | exact List.nil_sublist _ | (refine List.Sublist.cons_cons _ ?_; walk_at "subl") | (refine List.Sublist.cons _ ?_; walk_at "subl"))
local macro_rules | `(tactic| walk_at "sub") => `(tactic| first | exact Sub.refl _ | (refine ⟨?_, ?_⟩ <;> walk_at "subl"))
local macro_rules | `(tactic| walk_at "isl") => `(tactic| first | exact isL_own (by walk_at "mem") | exact isL_old (by assumption) | assumption)
local macro_rules | `(tactic| walk_at "ist") => `(tactic| first | exact isT_own (by walk_at "mem") | exact isT_old (by assumption) | assumption)
local macro_rules | `(tactic| walk_at "len") => `(tactic| first | omega | decide | (simp only [List.length_map, List.length_take, List.length_drop, List.length_append, List.length_cons, List.length_nil, List.length_reverse, dps_len, flp_len]; omega) | (simp [dps_len, flp_len]; omega) | simp)
local macro_rules | `(tactic| walk_at "b0") => `(tactic| first
  | with_reducible refine' ws_set ?_
  | with_reducible refine' ws_par ?_
  | with_reducible refine' ws_asg ?_
  | with_reducible refine' ws_drop ?_
  | with_reducible refine' ws_ret ?_
  | with_reducible refine' ws_if ?_
  | with_reducible refine' ws_next ?_
  | with_reducible refine' ws_brk ?_
  | with_reducible refine' ws_cont ?_
  | ((with_reducible refine' we_var ?hv ?_); case hv => rfl)
  | with_reducible refine' we_c ?_
  | with_reducible refine' we_op ?_
  | with_reducible refine' we_un ?_
  | with_reducible refine' we_if ?_
  | with_reducible refine' we_and ?_
  | with_reducible refine' we_or ?_
  | with_reducible refine' we_not ?_
  | with_reducible refine' wa_nil ?_
  | with_reducible refine' wa_cons ?_
  | (with_reducible refine' we_lst ?_)
  | (with_reducible refine' we_tup ?_)
  | with_reducible refine' we_cb ?_
  | with_reducible refine' we_call0 ?_
  | with_reducible refine' we_sl ?_
  | with_reducible refine' wo_none ?_
  | (with_reducible refine' wo_some ?_)
  | with_reducible refine' wt_test ?_
  | with_reducible refine' wt_B ?_
  | with_reducible refine' wt_and ?_
  | with_reducible refine' wt_or ?_
  | with_reducible refine' wt_not ?_
  | with_reducible refine' wt_yes ?_
  | with_reducible refine' we_chain ?_
  | with_reducible refine' we_chain3 ?_
  | with_reducible refine' we_revT ?_
  | with_reducible refine' we_revL ?_
  | with_reducible refine' we_bm ?_
  | with_reducible refine' we_bm0 ?_
  | with_reducible refine' ws_for ?_
  | with_reducible refine' we_lc ?_
  | with_reducible refine' wi_list ?_
  | with_reducible refine' wi_tup ?_
  | with_reducible refine' wi_T ?_
  | with_reducible refine' wi_rng1 ?_
  | with_reducible refine' wi_rng2 ?_
  | with_reducible refine' wi_rng3 ?_
  | with_reducible refine' wi_enum ?_
  | with_reducible refine' wi_enumT ?_
  | with_reducible refine' wi_zip ?_
  | with_reducible refine' wg_name ?_
  | with_reducible refine' wg_sub ?_
  | with_reducible refine' wgs_nil ?_
  | with_reducible refine' wgs_cons ?_
  | ((with_reducible refine' wg_tup ?ht ?hn ?_); (case ht => walk_at "ist"); (case hn => rfl))
  | with_reducible refine' w2_add ?_
  | with_reducible refine' w2_sub ?_
  | with_reducible refine' w2_lt ?_
  | with_reducible refine' w2_le ?_
  | with_reducible refine' w2_gt ?_
  | with_reducible refine' w2_ge ?_
  | with_reducible refine' w2_eqI ?_
  | with_reducible refine' w2_neI ?_
  | with_reducible refine' w2_eqT ?_
  | with_reducible refine' w2_neT ?_
  | with_reducible refine' w2_eqB ?_
  | with_reducible refine' w2_neB ?_
  | with_reducible refine' w2_isN ?_
  | with_reducible refine' w2_notN ?_
  | with_reducible refine' w2_isB ?_
  | with_reducible refine' w2_inT ?_
  | with_reducible refine' w1_neg ?_
  | with_reducible refine' wl_abs ?_
  | with_reducible refine' wl_max2 ?_
  | with_reducible refine' wl_min2 ?_
  | with_reducible refine' wl_intB ?_
  | ((with_reducible refine' w2_div ?h ?_); case h => first | omega | (constructor <;> omega))
  | ((with_reducible refine' w2_mod ?h ?_); case h => omega)
  | ((with_reducible refine' w2_catT ?h ?_); case h => walk_at "len")
  | ((with_reducible refine' wsl_T ?h ?_); case h => walk_at "len")
  | ((with_reducible refine' wl_lenT ?h ?_); case h => walk_at "len")
  | ((with_reducible refine' wl_len ?h ?_); case h => walk_at "isl")
  | ((with_reducible refine' wl_len ?h ?_); case h => walk_at "isl")
  | ((with_reducible refine' wm_append ?sw ?hl ?_); (case sw => walk_at "swap"); (case hl => walk_at "len")))
local macro_rules | `(tactic| walk_at "b1") => `(tactic| first | with_reducible refine' ws_seq ?_ | walk_at "b0")
local macro_rules | `(tactic| walk_at "bx") => `(tactic| first
  | refine ⟨_, rfl, ?_⟩
  | refine ⟨_, _, rfl, ?_⟩
  | refine ⟨ty_L (by walk_at "isl"), ?_⟩
  | refine ⟨ty_S, ?_⟩
  | refine spl_t (by rfl) ?_
  | refine spl_f (by rfl) ?_
  | exact rfl)
local macro_rules | `(tactic| walk_at "bm") => `(tactic| repeat (first | walk_at "b1" | walk_at "bx"))
local macro_rules | `(tactic| walk_at "bn") => `(tactic| repeat (first | walk_at "b0" | walk_at "bx"))
local macro_rules | `(tactic| walk_at "b0") => `(tactic| with_reducible refine' c_deepens ?_)
local macro_rules | `(tactic| walk_at "b0") => `(tactic| ((with_reducible refine' c_depths_of ?hl ?_); (case hl => walk_at "len")))
local macro_rules | `(tactic| walk_at "b0") => `(tactic| with_reducible refine' c_is_wholeI ?_)
local macro_rules | `(tactic| walk_at "b0") => `(tactic| with_reducible refine' c_flipped ?_)
local macro_rules | `(tactic| walk_at "b0") => `(tactic| ((with_reducible refine' c_is_right_row ?hl ?_); (case hl => walk_at "len")))
local macro_rules | `(tactic| walk_at "b0") => `(tactic| ((with_reducible refine' c_asked_row ?hl ?_); (case hl => walk_at "len")))
local macro_rules | `(tactic| walk_at "b0") => `(tactic| ((with_reducible refine' c_depths ?hl ?_); (case hl => walk_at "len")))
local macro_rules | `(tactic| walk_at "b0") => `(tactic| ((with_reducible refine' c_is_right ?hl ?_); (case hl => walk_at "len")))
local macro_rules | `(tactic| walk_at "b0") => `(tactic| ((with_reducible refine' c__law_depths ?hl ?_); (case hl => walk_at "len")))
local macro_rules | `(tactic| walk_at "b0") => `(tactic| ((with_reducible refine' c__law_good ?hl ?_); (case hl => walk_at "len")))
local macro_rules | `(tactic| walk_at "b0") => `(tactic| ((with_reducible refine' wl_listOf ?hx ?_); (case hx => walk_at "isl")))
local macro_rules | `(tactic| walk_at "b0") => `(tactic| with_reducible refine' w2_notB ?_)
local macro_rules | `(tactic| walk_at "own") => `(tactic| exact own_l (by walk_at "mem"))
local macro_rules | `(tactic| walk_at "b0") => `(tactic| with_reducible refine' we_fld ?_)
local macro_rules | `(tactic| walk_at "b0") => `(tactic| refine ⟨_, _, _, _, _, rfl, own_l (by walk_at "mem"), Grw.cl (by assumption), Grw.nr (by assumption), by rfl, ?_⟩)
local macro_rules | `(tactic| walk_at "b0") => `(tactic| refine ⟨_, _, _, _, _, rfl, fun H' o => o.ex _ _ (by assumption), Grw.cl (by assumption), Grw.nr (by assumption), by rfl, ?_⟩)
end BM
namespace BM
open PySem L2 Evl
local macro_rules | `(tactic| walk_at "mem") => `(tactic| first | exact List.mem_cons_self | (refine List.mem_cons_of_mem _ ?_; walk_at "mem"))
local macro_rules | `(tactic| walk_at "swap") => `(tactic| first | exact Swap.here | (apply Swap.there; walk_at "swap"))
local macro_rules | `(tactic| walk_at "subl") => `(tactic| first | exact List.Sublist.refl _ | exact List.nil_sublist _ | (refine List.Sublist.cons_cons _ ?_; walk_at "subl") | (refine List.Sublist.cons _ ?_; walk_at "subl"))
local macro_rules | `(tactic| walk_at "sub") => `(tactic| first | exact Sub.refl _ | (refine ⟨?_, ?_⟩ <;> walk_at "subl"))
local macro_rules | `(tactic| walk_at "isl") => `(tactic| first | exact isL_own (by walk_at "mem") | exact isL_old (by assumption) | assumption)
local macro_rules | `(tactic| walk_at "ist") => `(tactic| first | exact isT_own (by walk_at "mem") | exact isT_old (by assumption) | assumption)
local macro_rules | `(tactic| walk_at "len") => `(tactic| first | omega | decide | (simp only [List.length_map, List.length_take, List.length_drop, List.length_append, List.length_cons, List.length_nil, List.length_reverse, dps_len, flp_len]; omega) | (simp [dps_len, flp_len]; omega) | simp)
local macro_rules | `(tactic| walk_at "b0") => `(tactic| first
  | with_reducible refine' ws_set ?_
  | with_reducible refine' ws_par ?_
  | with_reducible refine' ws_asg ?_
  | with_reducible refine' ws_drop ?_
  | with_reducible refine' ws_ret ?_
  | with_reducible refine' ws_if ?_
  | with_reducible refine' ws_next ?_
  | with_reducible refine' ws_brk ?_
  | with_reducible refine' ws_cont ?_
  | ((with_reducible refine' we_var ?hv ?_); case hv => rfl)
  | with_reducible refine' we_c ?_
  | with_reducible refine' we_op ?_
  | with_reducible refine' we_un ?_
  | with_reducible refine' we_if ?_
  | with_reducible refine' we_and ?_
  | with_reducible refine' we_or ?_
  | with_reducible refine' we_not ?_
  | with_reducible refine' wa_nil ?_
  | with_reducible refine' wa_cons ?_
  | (with_reducible refine' we_lst ?_)
  | (with_reducible refine' we_tup ?_)
  | with_reducible refine' we_cb ?_
  | with_reducible refine' we_call0 ?_
  | with_reducible refine' we_sl ?_
  | with_reducible refine' wo_none ?_
  | (with_reducible refine' wo_some ?_)
  | with_reducible refine' wt_test ?_
  | with_reducible refine' wt_B ?_
  | with_reducible refine' wt_and ?_
  | with_reducible refine' wt_or ?_
  | with_reducible refine' wt_not ?_
  | with_reducible refine' wt_yes ?_
  | with_reducible refine' we_chain ?_
  | with_reducible refine' we_chain3 ?_
  | with_reducible refine' we_revT ?_
  | with_reducible refine' we_revL ?_
  | with_reducible refine' we_bm ?_
  | with_reducible refine' we_bm0 ?_
  | with_reducible refine' ws_for ?_
  | with_reducible refine' we_lc ?_
  | with_reducible refine' wi_list ?_
  | with_reducible refine' wi_tup ?_
  | with_reducible refine' wi_T ?_
  | with_reducible refine' wi_rng1 ?_
  | with_reducible refine' wi_rng2 ?_
  | with_reducible refine' wi_rng3 ?_
  | with_reducible refine' wi_enum ?_
  | with_reducible refine' wi_enumT ?_
  | with_reducible refine' wi_zip ?_
  | with_reducible refine' wg_name ?_
  | with_reducible refine' wg_sub ?_
  | with_reducible refine' wgs_nil ?_
  | with_reducible refine' wgs_cons ?_
  | ((with_reducible refine' wg_tup ?ht ?hn ?_); (case ht => walk_at "ist"); (case hn => rfl))
  | with_reducible refine' w2_add ?_
  | with_reducible refine' w2_sub ?_
  | with_reducible refine' w2_lt ?_
  | with_reducible refine' w2_le ?_
  | with_reducible refine' w2_gt ?_
  | with_reducible refine' w2_ge ?_
  | with_reducible refine' w2_eqI ?_
  | with_reducible refine' w2_neI ?_
  | with_reducible refine' w2_eqT ?_
  | with_reducible refine' w2_neT ?_
  | with_reducible refine' w2_eqB ?_
  | with_reducible refine' w2_neB ?_
  | with_reducible refine' w2_isN ?_
  | with_reducible refine' w2_notN ?_
  | with_reducible refine' w2_isB ?_
  | with_reducible refine' w2_inT ?_
  | with_reducible refine' w1_neg ?_
  | with_reducible refine' wl_abs ?_
  | with_reducible refine' wl_max2 ?_
  | with_reducible refine' wl_min2 ?_
  | with_reducible refine' wl_intB ?_
  | ((with_reducible refine' w2_div ?h ?_); case h => first | omega | (constructor <;> omega))
  | ((with_reducible refine' w2_mod ?h ?_); case h => omega)
  | ((with_reducible refine' w2_catT ?h ?_); case h => walk_at "len")
  | ((with_reducible refine' wsl_T ?h ?_); case h => walk_at "len")
  | ((with_reducible refine' wl_lenT ?h ?_); case h => walk_at "len")
  | ((with_reducible refine' wl_len ?h ?_); case h => walk_at "isl")
  | ((with_reducible refine' wl_len ?h ?_); case h => walk_at "isl")
  | ((with_reducible refine' wm_append ?sw ?hl ?_); (case sw => walk_at "swap"); (case hl => walk_at "len")))
local macro_rules | `(tactic| walk_at "b1") => `(tactic| first | with_reducible refine' ws_seq ?_ | walk_at "b0")
local macro_rules | `(tactic| walk_at "bx") => `(tactic| first
  | refine ⟨_, rfl, ?_⟩
  | refine ⟨_, _, rfl, ?_⟩
  | refine ⟨ty_L (by walk_at "isl"), ?_⟩
  | refine ⟨ty_S, ?_⟩
  | refine spl_t (by rfl) ?_
  | refine spl_f (by rfl) ?_
  | exact rfl)
local macro_rules | `(tactic| walk_at "bm") => `(tactic| repeat (first | walk_at "b1" | walk_at "bx"))
local macro_rules | `(tactic| walk_at "bn") => `(tactic| repeat (first | walk_at "b0" | walk_at "bx"))
local macro_rules | `(tactic| walk_at "b0") => `(tactic| with_reducible refine' c_deepens ?_)
local macro_rules | `(tactic| walk_at "b0") => `(tactic| ((with_reducible refine' c_depths_of ?hl ?_); (case hl => walk_at "len")))
local macro_rules | `(tactic| walk_at "b0") => `(tactic| with_reducible refine' c_is_wholeI ?_)
local macro_rules | `(tactic| walk_at "b0") => `(tactic| with_reducible refine' c_flipped ?_)
local macro_rules | `(tactic| walk_at "b0") => `(tactic| ((with_reducible refine' c_is_right_row ?hl ?_); (case hl => walk_at "len")))
local macro_rules | `(tactic| walk_at "b0") => `(tactic| ((with_reducible refine' c_asked_row ?hl ?_); (case hl => walk_at "len")))
local macro_rules | `(tactic| walk_at "b0") => `(tactic| ((with_reducible refine' c_depths ?hl ?_); (case hl => walk_at "len")))
local macro_rules | `(tactic| walk_at "b0") => `(tactic| ((with_reducible refine' c_is_right ?hl ?_); (case hl => walk_at "len")))
local macro_rules | `(tactic| walk_at "b0") => `(tactic| ((with_reducible refine' c__law_depths ?hl ?_); (case hl => walk_at "len")))
local macro_rules | `(tactic| walk_at "b0") => `(tactic| ((with_reducible refine' c__law_good ?hl ?_); (case hl => walk_at "len")))
local macro_rules | `(tactic| walk_at "b0") => `(tactic| ((with_reducible refine' wl_listOf ?hx ?_); (case hx => walk_at "isl")))
local macro_rules | `(tactic| walk_at "b0") => `(tactic| with_reducible refine' w2_notB ?_)
local macro_rules | `(tactic| walk_at "own") => `(tactic| exact own_l (by walk_at "mem"))
local macro_rules | `(tactic| walk_at "b0") => `(tactic| with_reducible refine' we_fld ?_)
local macro_rules | `(tactic| walk_at "b0") => `(tactic| refine ⟨_, _, _, _, _, rfl, own_l (by walk_at "mem"), Grw.cl (by assumption), Grw.nr (by assumption), by rfl, ?_⟩)
local macro_rules | `(tactic| walk_at "b0") => `(tactic| refine ⟨_, _, _, _, _, rfl, fun H' o => o.ex _ _ (by assumption), Grw.cl (by assumption), Grw.nr (by assumption), by rfl, ?_⟩)
end BM
namespace BM
open PySem L2 Evl
local macro_rules | `(tactic| walk_at "mem") => `(tactic| first | exact List.mem_cons_self | (refine List.mem_cons_of_mem _ ?_; walk_at "mem"))
local macro_rules | `(tactic| walk_at "swap") => `(tactic| first | exact Swap.here | (apply Swap.there; walk_at "swap"))
local macro_rules | `(tactic| walk_at "subl") => `(tactic| first | exact List.Sublist.refl _ | exact List.nil_sublist _ | (refine List.Sublist.cons_cons _ ?_; walk_at "subl") | (refine List.Sublist.cons _ ?_; walk_at "subl"))
local macro_rules | `(tactic| walk_at "sub") => `(tactic| first | exact Sub.refl _ | (refine ⟨?_, ?_⟩ <;> walk_at "subl"))
local macro_rules | `(tactic| walk_at "isl") => `(tactic| first | exact isL_own (by walk_at "mem") | exact isL_old (by assumption) | assumption)
local macro_rules | `(tactic| walk_at "ist") => `(tactic| first | exact isT_own (by walk_at "mem") | exact isT_old (by assumption) | assumption)
local macro_rules | `(tactic| walk_at "len") => `(tactic| first | omega | decide | (simp only [List.length_map, List.length_take, List.length_drop, List.length_append, List.length_cons, List.length_nil, List.length_reverse, dps_len, flp_len]; omega) | (simp [dps_len, flp_len]; omega) | simp)
local macro_rules | `(tactic| walk_at "b0") => `(tactic| first
  | with_reducible refine' ws_set ?_
  | with_reducible refine' ws_par ?_
  | with_reducible refine' ws_asg ?_
  | with_reducible refine' ws_drop ?_
  | with_reducible refine' ws_ret ?_
  | with_reducible refine' ws_if ?_
  | with_reducible refine' ws_next ?_
  | with_reducible refine' ws_brk ?_
  | with_reducible refine' ws_cont ?_
  | ((with_reducible refine' we_var ?hv ?_); case hv => rfl)
  | with_reducible refine' we_c ?_
  | with_reducible refine' we_op ?_
  | with_reducible refine' we_un ?_
  | with_reducible refine' we_if ?_
  | with_reducible refine' we_and ?_
  | with_reducible refine' we_or ?_
  | with_reducible refine' we_not ?_
  | with_reducible refine' wa_nil ?_
  | with_reducible refine' wa_cons ?_
  | (with_reducible refine' we_lst ?_)
  | (with_reducible refine' we_tup ?_)
  | with_reducible refine' we_cb ?_
  | with_reducible refine' we_call0 ?_
  | with_reducible refine' we_sl ?_
  | with_reducible refine' wo_none ?_
  | (with_reducible refine' wo_some ?_)
  | with_reducible refine' wt_test ?_
  | with_reducible refine' wt_B ?_
  | with_reducible refine' wt_and ?_
  | with_reducible refine' wt_or ?_
  | with_reducible refine' wt_not ?_
  | with_reducible refine' wt_yes ?_
  | with_reducible refine' we_chain ?_
  | with_reducible refine' we_chain3 ?_
  | with_reducible refine' we_revT ?_
  | with_reducible refine' we_revL ?_
  | with_reducible refine' we_bm ?_
  | with_reducible refine' we_bm0 ?_
  | with_reducible refine' ws_for ?_
  | with_reducible refine' we_lc ?_
  | with_reducible refine' wi_list ?_
  | with_reducible refine' wi_tup ?_
  | with_reducible refine' wi_T ?_
  | with_reducible refine' wi_rng1 ?_
  | with_reducible refine' wi_rng2 ?_
  | with_reducible refine' wi_rng3 ?_
  | with_reducible refine' wi_enum ?_
  | with_reducible refine' wi_enumT ?_
  | with_reducible refine' wi_zip ?_
  | with_reducible refine' wg_name ?_
  | with_reducible refine' wg_sub ?_
  | with_reducible refine' wgs_nil ?_
  | with_reducible refine' wgs_cons ?_
  | ((with_reducible refine' wg_tup ?ht ?hn ?_); (case ht => walk_at "ist"); (case hn => rfl))
  | with_reducible refine' w2_add ?_
  | with_reducible refine' w2_sub ?_
  | with_reducible refine' w2_lt ?_
  | with_reducible refine' w2_le ?_
  | with_reducible refine' w2_gt ?_
  | with_reducible refine' w2_ge ?_
  | with_reducible refine' w2_eqI ?_
  | with_reducible refine' w2_neI ?_
  | with_reducible refine' w2_eqT ?_
  | with_reducible refine' w2_neT ?_
  | with_reducible refine' w2_eqB ?_
  | with_reducible refine' w2_neB ?_
  | with_reducible refine' w2_isN ?_
  | with_reducible refine' w2_notN ?_
  | with_reducible refine' w2_isB ?_
  | with_reducible refine' w2_inT ?_
  | with_reducible refine' w1_neg ?_
  | with_reducible refine' wl_abs ?_
  | with_reducible refine' wl_max2 ?_
  | with_reducible refine' wl_min2 ?_
  | with_reducible refine' wl_intB ?_
  | ((with_reducible refine' w2_div ?h ?_); case h => first | omega | (constructor <;> omega))
  | ((with_reducible refine' w2_mod ?h ?_); case h => omega)
  | ((with_reducible refine' w2_catT ?h ?_); case h => walk_at "len")
  | ((with_reducible refine' wsl_T ?h ?_); case h => walk_at "len")
  | ((with_reducible refine' wl_lenT ?h ?_); case h => walk_at "len")
  | ((with_reducible refine' wl_len ?h ?_); case h => walk_at "isl")
  | ((with_reducible refine' wl_len ?h ?_); case h => walk_at "isl")
  | ((with_reducible refine' wm_append ?sw ?hl ?_); (case sw => walk_at "swap"); (case hl => walk_at "len")))
local macro_rules | `(tactic| walk_at "b1") => `(tactic| first | with_reducible refine' ws_seq ?_ | walk_at "b0")
local macro_rules | `(tactic| walk_at "bx") => `(tactic| first
  | refine ⟨_, rfl, ?_⟩
  | refine ⟨_, _, rfl, ?_⟩
  | refine ⟨ty_L (by walk_at "isl"), ?_⟩
  | refine ⟨ty_S, ?_⟩
  | refine spl_t (by rfl) ?_
  | refine spl_f (by rfl) ?_
  | exact rfl)
local macro_rules | `(tactic| walk_at "bm") => `(tactic| repeat (first | walk_at "b1" | walk_at "bx"))
local macro_rules | `(tactic| walk_at "bn") => `(tactic| repeat (first | walk_at "b0" | walk_at "bx"))
local macro_rules | `(tactic| walk_at "b0") => `(tactic| with_reducible refine' c_deepens ?_)
local macro_rules | `(tactic| walk_at "b0") => `(tactic| ((with_reducible refine' c_depths_of ?hl ?_); (case hl => walk_at "len")))
local macro_rules | `(tactic| walk_at "b0") => `(tactic| with_reducible refine' c_is_wholeI ?_)
local macro_rules | `(tactic| walk_at "b0") => `(tactic| with_reducible refine' c_flipped ?_)
local macro_rules | `(tactic| walk_at "b0") => `(tactic| ((with_reducible refine' c_is_right_row ?hl ?_); (case hl => walk_at "len")))
local macro_rules | `(tactic| walk_at "b0") => `(tactic| ((with_reducible refine' c_asked_row ?hl ?_); (case hl => walk_at "len")))
local macro_rules | `(tactic| walk_at "b0") => `(tactic| ((with_reducible refine' c_depths ?hl ?_); (case hl => walk_at "len")))
local macro_rules | `(tactic| walk_at "b0") => `(tactic| ((with_reducible refine' c_is_right ?hl ?_); (case hl => walk_at "len")))
local macro_rules | `(tactic| walk_at "b0") => `(tactic| ((with_reducible refine' c__law_depths ?hl ?_); (case hl => walk_at "len")))
local macro_rules | `(tactic| walk_at "b0") => `(tactic| ((with_reducible refine' c__law_good ?hl ?_); (case hl => walk_at "len")))
local macro_rules | `(tactic| walk_at "b0") => `(tactic| ((with_reducible refine' wl_listOf ?hx ?_); (case hx => walk_at "isl")))
local macro_rules | `(tactic| walk_at "b0") => `(tactic| with_reducible refine' w2_notB ?_)
local macro_rules | `(tactic| walk_at "own") => `(tactic| exact own_l (by walk_at "mem"))
local macro_rules | `(tactic| walk_at "b0") => `(tactic| with_reducible refine' we_fld ?_)
local macro_rules | `(tactic| walk_at "b0") => `(tactic| refine ⟨_, _, _, _, _, rfl, own_l (by walk_at "mem"), Grw.cl (by assumption), Grw.nr (by assumption), by rfl, ?_⟩)
local macro_rules | `(tactic| walk_at "b0") => `(tactic| refine ⟨_, _, _, _, _, rfl, fun H' o => o.ex _ _ (by assumption), Grw.cl (by assumption), Grw.nr (by assumption), by rfl, ?_⟩)
local macro_rules | `(tactic| walk_at "b0") => `(tactic| with_reducible refine' we_meth ?_)
local macro_rules | `(tactic| walk_at "b0") => `(tactic| refine ⟨_, _, _, rfl, own_l (by walk_at "mem"), by rfl, ?_⟩)
local macro_rules | `(tactic| walk_at "b0") => `(tactic| refine ⟨_, _, _, rfl, fun H' o => o.ex _ _ (by assumption), by rfl, ?_⟩)
local macro_rules | `(tactic| walk_at "gown") => `(tactic| first | exact own_l (by walk_at "mem") | exact fun H' o => o.ex _ _ (by assumption))
/-! the ask -/
end BM
namespace BM
open PySem L2 Evl
local macro_rules | `(tactic| walk_at "mem") => `(tactic| first | exact List.mem_cons_self | (refine List.mem_cons_of_mem _ ?_; walk_at "mem"))
local macro_rules | `(tactic| walk_at "swap") => `(tactic| first | exact Swap.here | (apply Swap.there; walk_at "swap"))
local macro_rules | `(tactic| walk_at "subl") => `(tactic| first | exact List.Sublist.refl _ | exact List.nil_sublist _ | (refine List.Sublist.cons_cons _ ?_; walk_at "subl") | (refine List.Sublist.cons _ ?_; walk_at "subl"))
local macro_rules | `(tactic| walk_at "sub") => `(tactic| first | exact Sub.refl _ | (refine ⟨?_, ?_⟩ <;> walk_at "subl"))
local macro_rules | `(tactic| walk_at "isl") => `(tactic| first | exact isL_own (by walk_at "mem") | exact isL_old (by assumption) | assumption)
local macro_rules | `(tactic| walk_at "ist") => `(tactic| first | exact isT_own (by walk_at "mem") | exact isT_old (by assumption) | assumption)
local macro_rules | `(tactic| walk_at "len") => `(tactic| first | omega | decide | (simp only [List.length_map, List.length_take, List.length_drop, List.length_append, List.length_cons, List.length_nil, List.length_reverse, dps_len, flp_len]; omega) | (simp [dps_len, flp_len]; omega) | simp)
local macro_rules | `(tactic| walk_at "b0") => `(tactic| first
  | with_reducible refine' ws_set ?_
  | with_reducible refine' ws_par ?_
  | with_reducible refine' ws_asg ?_
  | with_reducible refine' ws_drop ?_
  | with_reducible refine' ws_ret ?_
  | with_reducible refine' ws_if ?_
  | with_reducible refine' ws_next ?_
  | with_reducible refine' ws_brk ?_
  | with_reducible refine' ws_cont ?_
  | ((with_reducible refine' we_var ?hv ?_); case hv => rfl)
  | with_reducible refine' we_c ?_
  | with_reducible refine' we_op ?_
  | with_reducible refine' we_un ?_
  | with_reducible refine' we_if ?_
  | with_reducible refine' we_and ?_
  | with_reducible refine' we_or ?_
  | with_reducible refine' we_not ?_
  | with_reducible refine' wa_nil ?_
  | with_reducible refine' wa_cons ?_
  | (with_reducible refine' we_lst ?_)
  | (with_reducible refine' we_tup ?_)
  | with_reducible refine' we_cb ?_
  | with_reducible refine' we_call0 ?_
  | with_reducible refine' we_sl ?_
  | with_reducible refine' wo_none ?_
  | (with_reducible refine' wo_some ?_)
  | with_reducible refine' wt_test ?_
  | with_reducible refine' wt_B ?_
  | with_reducible refine' wt_and ?_
  | with_reducible refine' wt_or ?_
  | with_reducible refine' wt_not ?_
  | with_reducible refine' wt_yes ?_
  | with_reducible refine' we_chain ?_
  | with_reducible refine' we_chain3 ?_
  | with_reducible refine' we_revT ?_
  | with_reducible refine' we_revL ?_
  | with_reducible refine' we_bm ?_
  | with_reducible refine' we_bm0 ?_
  | with_reducible refine' ws_for ?_
  | with_reducible refine' we_lc ?_
  | with_reducible refine' wi_list ?_
  | with_reducible refine' wi_tup ?_
  | with_reducible refine' wi_T ?_
  | with_reducible refine' wi_rng1 ?_
  | with_reducible refine' wi_rng2 ?_
  | with_reducible refine' wi_rng3 ?_
  | with_reducible refine' wi_enum ?_
  | with_reducible refine' wi_enumT ?_
  | with_reducible refine' wi_zip ?_
  | with_reducible refine' wg_name ?_
  | with_reducible refine' wg_sub ?_
  | with_reducible refine' wgs_nil ?_
  | with_reducible refine' wgs_cons ?_
  | ((with_reducible refine' wg_tup ?ht ?hn ?_); (case ht => walk_at "ist"); (case hn => rfl))
  | with_reducible refine' w2_add ?_
  | with_reducible refine' w2_sub ?_
  | with_reducible refine' w2_lt ?_
  | with_reducible refine' w2_le ?_
  | with_reducible refine' w2_gt ?_
  | with_reducible refine' w2_ge ?_
  | with_reducible refine' w2_eqI ?_
  | with_reducible refine' w2_neI ?_
  | with_reducible refine' w2_eqT ?_
  | with_reducible refine' w2_neT ?_
  | with_reducible refine' w2_eqB ?_
  | with_reducible refine' w2_neB ?_
  | with_reducible refine' w2_isN ?_
  | with_reducible refine' w2_notN ?_
  | with_reducible refine' w2_isB ?_
  | with_reducible refine' w2_inT ?_
  | with_reducible refine' w1_neg ?_
  | with_reducible refine' wl_abs ?_
  | with_reducible refine' wl_max2 ?_
  | with_reducible refine' wl_min2 ?_
  | with_reducible refine' wl_intB ?_
  | ((with_reducible refine' w2_div ?h ?_); case h => first | omega | (constructor <;> omega))
  | ((with_reducible refine' w2_mod ?h ?_); case h => omega)
  | ((with_reducible refine' w2_catT ?h ?_); case h => walk_at "len")
  | ((with_reducible refine' wsl_T ?h ?_); case h => walk_at "len")
  | ((with_reducible refine' wl_lenT ?h ?_); case h => walk_at "len")
  | ((with_reducible refine' wl_len ?h ?_); case h => walk_at "isl")
  | ((with_reducible refine' wl_len ?h ?_); case h => walk_at "isl")
  | ((with_reducible refine' wm_append ?sw ?hl ?_); (case sw => walk_at "swap"); (case hl => walk_at "len")))
local macro_rules | `(tactic| walk_at "b1") => `(tactic| first | with_reducible refine' ws_seq ?_ | walk_at "b0")
local macro_rules | `(tactic| walk_at "bx") => `(tactic| first
  | refine ⟨_, rfl, ?_⟩
  | refine ⟨_, _, rfl, ?_⟩
  | refine ⟨ty_L (by walk_at "isl"), ?_⟩
  | refine ⟨ty_S, ?_⟩
  | refine spl_t (by rfl) ?_
  | refine spl_f (by rfl) ?_
  | exact rfl)
local macro_rules | `(tactic| walk_at "bm") => `(tactic| repeat (first | walk_at "b1" | walk_at "bx"))
local macro_rules | `(tactic| walk_at "bn") => `(tactic| repeat (first | walk_at "b0" | walk_at "bx"))
local macro_rules | `(tactic| walk_at "b0") => `(tactic| with_reducible refine' c_deepens ?_)
local macro_rules | `(tactic| walk_at "b0") => `(tactic| ((with_reducible refine' c_depths_of ?hl ?_); (case hl => walk_at "len")))
local macro_rules | `(tactic| walk_at "b0") => `(tactic| with_reducible refine' c_is_wholeI ?_)
local macro_rules | `(tactic| walk_at "b0") => `(tactic| with_reducible refine' c_flipped ?_)
local macro_rules | `(tactic| walk_at "b0") => `(tactic| ((with_reducible refine' c_is_right_row ?hl ?_); (case hl => walk_at "len")))
local macro_rules | `(tactic| walk_at "b0") => `(tactic| ((with_reducible refine' c_asked_row ?hl ?_); (case hl => walk_at "len")))
local macro_rules | `(tactic| walk_at "b0") => `(tactic| ((with_reducible refine' c_depths ?hl ?_); (case hl => walk_at "len")))
local macro_rules | `(tactic| walk_at "b0") => `(tactic| ((with_reducible refine' c_is_right ?hl ?_); (case hl => walk_at "len")))
local macro_rules | `(tactic| walk_at "b0") => `(tactic| ((with_reducible refine' c__law_depths ?hl ?_); (case hl => walk_at "len")))
local macro_rules | `(tactic| walk_at "b0") => `(tactic| ((with_reducible refine' c__law_good ?hl ?_); (case hl => walk_at "len")))
local macro_rules | `(tactic| walk_at "b0") => `(tactic| ((with_reducible refine' wl_listOf ?hx ?_); (case hx => walk_at "isl")))
local macro_rules | `(tactic| walk_at "b0") => `(tactic| with_reducible refine' w2_notB ?_)
local macro_rules | `(tactic| walk_at "own") => `(tactic| exact own_l (by walk_at "mem"))
local macro_rules | `(tactic| walk_at "b0") => `(tactic| with_reducible refine' we_fld ?_)
local macro_rules | `(tactic| walk_at "b0") => `(tactic| refine ⟨_, _, _, _, _, rfl, own_l (by walk_at "mem"), Grw.cl (by assumption), Grw.nr (by assumption), by rfl, ?_⟩)
local macro_rules | `(tactic| walk_at "b0") => `(tactic| refine ⟨_, _, _, _, _, rfl, fun H' o => o.ex _ _ (by assumption), Grw.cl (by assumption), Grw.nr (by assumption), by rfl, ?_⟩)
local macro_rules | `(tactic| walk_at "b0") => `(tactic| with_reducible refine' we_meth ?_)
local macro_rules | `(tactic| walk_at "b0") => `(tactic| refine ⟨_, _, _, rfl, own_l (by walk_at "mem"), by rfl, ?_⟩)
local macro_rules | `(tactic| walk_at "b0") => `(tactic| refine ⟨_, _, _, rfl, fun H' o => o.ex _ _ (by assumption), by rfl, ?_⟩)
local macro_rules | `(tactic| walk_at "gown") => `(tactic| first | exact own_l (by walk_at "mem") | exact fun H' o => o.ex _ _ (by assumption))
end BM
namespace BM
open PySem PySem.Spec PyProof.Rows L2 Evl
/-! ### counting signs, the place of a number -/
theorem cnt_T (b : Bool) : ∀ r : List Bool, cnt (B b) (r.map B) = (r.count b : Int)
  | [] => rfl
  | a :: r => by
    rw [List.map_cons, cnt_cons, cnt_T b r, List.count_cons]
    by_cases e : a = b
    · subst e
      simp
      omega
    · have e2 : ¬ B a = B b := fun h => e (B_inj h)
      simp [e, e2]
theorem count_T (r : List Bool) (b : Bool) : Txt.count (T r) (T [b]) = (r.count b : Int) := by
  rw [← cnt_T b r, ← T_list]
  exact count_cnt (T r) (B b)
def aCountT : V → List V → Hp → VK → Prop := fun x xs H Q => ∃ (r : List Bool) (b : Bool), x = .str (T r) ∧ xs = [.str (T [b])] ∧ Q (.int (r.count b : Int)) H
def aIndex (K : PySem.W.Frag) : V → List V → Hp → VK → Prop := fun x xs H Q => ∃ (a : Addr) (ns : List Int) (n : Int) (j : Nat), x = .ref a ∧ xs = [.int n] ∧ SqL K H a (ns.map V.int) ∧ ns[j]? = some n ∧ (∀ m, m < j → ns[m]? ≠ some n) ∧ Q (.int (j : Int)) H
def aIsiC (K : PySem.W.Frag) (c : Addr) : List V → Hp → VK → Prop := fun xs H Q => ∃ (x : V) (t : Value) (b : Bool), xs = [x, .ref c] ∧ TyX K H x t ∧ PySem.W.kitOne K t (.ref c) = some b ∧ Q (.bl b) H
section
variable {X : Cx}
theorem m_countT : MtR X "str.count" aCountT := MtR.imp mt_count fun x xs H Q ⟨r, b, e1, e2, q⟩ => ⟨T r, T [b], e1, e2, by rw [count_T]; exact q⟩
theorem m_index : MtR X "list.index" (aIndex X.K) := MtR.imp mt_index fun x xs H Q ⟨a, ns, n, j, e1, e2, hs, hj, hn, q⟩ => ⟨a, ns.map V.int, .int n, j, .int n, e1, e2, hs, rfl, by rw [List.all_map, List.all_eq_true]; exact fun _ _ => rfl, by rw [List.getElem?_map, hj]; rfl, by show (n == n) = true; simp, fun m z hm hz => by
  rw [List.getElem?_map] at hz
  cases e : ns[m]? with
  | none => rw [e] at hz; cases hz
  | some k =>
    rw [e] at hz
    cases hz
    show (k == n) = false
    have : k ≠ n := fun h => hn m hm (by rw [e, h])
    simpa using this, q⟩
theorem c_isiC (c : Addr) : CallR X (.builtin "isinstance") (aIsiC X.K c) := CallR.imp call_isi fun xs H Q ⟨x, t, b, e, ty, k, q⟩ => ⟨x, .ref c, t, .ref c, b, e, .own c, ty, k, q⟩
end
section
variable {K : PySem.W.Frag} {H0 : Hp} {σ : L2.St} {s : Ld} {Q : V → Ld → Prop} {x : V}
theorem wm_countT {r : List Bool} {b : Bool} (q : Q (.int (r.count b : Int)) s) : WM H0 aCountT (.str (T r)) [.str (T [b])] s Q := fun H o R k => ⟨r, b, rfl, rfl, k _ H s o q⟩
theorem wm_index {a : Addr} {ns : List Int} {n : Int} {j : Nat} (hx : IsL K H0 s a (ns.map V.int)) (hj : ns[j]? = some n) (hn : ∀ m, m < j → ns[m]? ≠ some n) (q : Q (.int (j : Int)) s) : WM H0 (aIndex K) (.ref a) [.int n] s Q := fun H o R k => ⟨a, ns, n, j, rfl, rfl, hx H o, hj, hn, k _ H s o q⟩
theorem wl_isiC {c : Addr} {t : Value} {b : Bool} (ty : ∀ H, Own H0 H s → TyX K H x t) (hk : PySem.W.kitOne K t (.ref c) = some b) (q : Q (.bl b) s) : WL H0 (aIsiC K c) [x, .ref c] s Q := fun H o R k => ⟨x, t, b, rfl, ty H o, hk, k _ H s o q⟩
end
/-- a class of answers as it stands -/
structure Anc (K : PySem.W.Frag) (C : Addr) : Prop where
  cl : Cls K C
  ha : PySem.W.findIn K (.ref C) "__class__" = some (some (.builtin "object.__class__"))
  hn : PySem.W.specialIn K (.builtin "object.__class__") "__get__" = some (some (.builtin "getset_descriptor.__get__"))
  ht : PySem.W.takesIn K (.builtin "object.__class__") = some true
  hm : PySem.W.mroIn K C (.type "object") = some true
theorem Anc.ty {K : PySem.W.Frag} {C a dx : Addr} {H : Hp} {fs : List (Str × V)} (h : Anc K C) (e : H a = some (.ins C dx fs)) : TyX K H (.ref a) (.ref C) := .base (.ins e h.cl h.ha h.hn h.ht h.hm)
/-! ### a method of one of two classes -/
section
variable {X : Cx} {CX : CXT} {k1 k2 : Nat} {f1 f2 C1 C2 : Addr} {fd1 fd2 : FuncData} {ps1 ps2 : List Str} {sp1 sp2 : Sp} {E : XK} {m : Str} {pos apos : Pos} {e o : Expr} {es : List Expr} {ta : TE} {t : TA}
def tMethU (C1 C2 : Addr) (m : Str) (sp1 sp2 : Sp) (E : XK) (ta : TE) (t : TA) : TE := fun σ H Q => ta σ H fun x H1 => ∃ a C dx fs, x = .ref a ∧ H1 a = some (.ins C dx fs) ∧ fs.lookup m = none ∧ ((C = C1 ∧ t σ H1 fun vs H2 => sp1 (x :: vs) H2 Q E) ∨ (C = C2 ∧ t σ H1 fun vs H2 => sp2 (x :: vs) H2 Q E))
theorem pe_methU {pl : Sem Bool} (he : PE X o ta) (c1 : Cls X.K C1) (m1 : Meth X.K C1 m f1) (F1 : FnOk X.prog X.w X.K X.mg X.base CX k1 f1 fd1 ps1 sp1) (hr1 : Room k1 X.A) (b1 : Binds X.K fd1 ps1 []) (c2 : Cls X.K C2) (m2 : Meth X.K C2 m f2) (F2 : FnOk X.prog X.w X.K X.mg X.base CX k2 f2 fd2 ps2 sp2) (hr2 : Room k2 X.A) (b2 : Binds X.K fd2 ps2 []) (hx : Passes CX X E) (ha : PA X (e :: es) t)
    (h1 : starEach (e :: es) X.env = (false, eval e X.env) :: starEach es X.env := by rfl) (h2 : (backTo pos (starEach es X.env)).any (·.1) = false := by rfl)
    (h3 : eval (.Call (.Attribute o m apos) (e :: es) [] pos) X.env = (eval o X.env >>= fun ov => standAt apos.atName >>= fun _ => holding [ov] (getMethod ov m pl) >>= fun (f, first) => callWith pos f first (backTo pos (starEach (e :: es) X.env)) (backToKw pos (keywordEach [] X.env))) := by rfl) :
    PE X (.Call (.Attribute o m apos) (e :: es) [] pos) (tMethU C1 C2 m sp1 sp2 E ta t) := by
  refine ⟨fun pins s σ H Q I h => PySem.W.methodCall_KW (pl := pl) (L2.thn (he.run pins s σ H _ I h) fun u s1 ⟨x, H1, I1, rx, a, C, dx, fs, ex, ea, l, q⟩ => ?_) h3⟩
  cases ex
  cases (show u = Value.ref a from rx)
  rcases q with ⟨rfl, q⟩ | ⟨rfl, q⟩
  · refine getmeth_ok I1 ea c1 m1 l (PySem.W.callWith_K (first := [.ref a]) (h₀ := X.base) I.ok.mod.kin m1.kp (L2.thn (ha.run pos pins s1 σ H1 _ I1 q) fun us s2 ⟨vs, H2, I2, r, q2⟩ => ⟨I2.kIn, ?_⟩) h1 h2)
    exact run_fn (us := .ref a :: us) (vs := .ref a :: vs) (dvs := []) F1 hr1 b1 .nil hx I2 (.cons rfl r) (by rw [List.append_nil]; exact q2)
  · refine getmeth_ok I1 ea c2 m2 l (PySem.W.callWith_K (first := [.ref a]) (h₀ := X.base) I.ok.mod.kin m2.kp (L2.thn (ha.run pos pins s1 σ H1 _ I1 q) fun us s2 ⟨vs, H2, I2, r, q2⟩ => ⟨I2.kIn, ?_⟩) h1 h2)
    exact run_fn (us := .ref a :: us) (vs := .ref a :: vs) (dvs := []) F2 hr2 b2 .nil hx I2 (.cons rfl r) (by rw [List.append_nil]; exact q2)
end
section
variable {K : PySem.W.Frag} {H0 : Hp} {σ : L2.St} {s : Ld} {ta : TA} {te : TE} {Q : V → Ld → Prop} {m : Str} {E : XK} {C1 C2 : Addr} {sp1 sp2 : Sp}
theorem we_methU (h : WE H0 te σ s fun x s1 => ∃ a C dx fs, x = .ref a ∧ (∀ H, Own H0 H s1 → H a = some (.ins C dx fs)) ∧ fs.lookup m = none ∧ ((C = C1 ∧ WA H0 ta σ s1 fun vs s2 => WC H0 sp1 E (x :: vs) s2 Q) ∨ (C = C2 ∧ WA H0 ta σ s1 fun vs s2 => WC H0 sp2 E (x :: vs) s2 Q))) : WE H0 (tMethU C1 C2 m sp1 sp2 E te ta) σ s Q := fun H o R k =>
  h H o _ fun x H1 s1 o1 ⟨a, C, dx, fs, e, ha, hl, h1⟩ => ⟨a, C, dx, fs, e, ha H1 o1, hl, h1.imp (fun ⟨e, h1⟩ => ⟨e, h1 H1 o1 _ fun vs H2 s2 o2 h2 => h2 H2 o2 R k⟩) (fun ⟨e, h1⟩ => ⟨e, h1 H1 o1 _ fun vs H2 s2 o2 h2 => h2 H2 o2 R k⟩)⟩
end
end BM
namespace BM
open PySem L2 Evl
abbrev uIns (C : CA) (d : Addr) (z : Int) : HO := .ins C.c_Uneven d [("depth", .int z)]
structure UnC (K : PySem.W.Frag) (C : CA) : Prop where
  c : Anc K C.c_Uneven
  n : NoAttr K C.c_Uneven "depth"
def unSh (r : List Bool) (z : Int) : Bool := decide (z ≠ 0) && decide (hgt r = z)
def sp_u_init (K : PySem.W.Frag) (C : CA) : Sp := fun vs H Q _ => ∃ (x d : Addr) (z : Int), UnC K C ∧ vs = [.ref x, .int z] ∧ H x = some (.ins C.c_Uneven d []) ∧ chg x (uIns C d z) .non H Q
def sp_u_shows (K : PySem.W.Frag) (C : CA) : Sp := spV fun vs H v => ∃ (g d : Addr) (z : Int) (r : List Bool), UnC K C ∧ vs = [.ref g, .str (T r)] ∧ H g = some (uIns C d z) ∧ r.length ≤ 1000 ∧ v = .bl (unSh r z)
def sp__law_uneven (K : PySem.W.Frag) (C : CA) : Sp := spV fun vs H v => ∃ (r : List Bool) (z : Int), vs = [.str (T r), .int z] ∧ r.length ≤ 1000 ∧ v = .bl (unSh r z)
end BM
namespace BM
open PySem L2 Evl
def N_u_init : List Str := ["self", "depth"]
def rd_u_init (K : PySem.W.Frag) (C_ : CA) : TS :=
    (sFld K (tVar 0) (tVar 1) "depth")
def N_u_shows : List Str := ["self", "row"]
def rd_u_shows (K : PySem.W.Frag) (C_ : CA) : TS :=
    (tRet (tAndV (tOp rNe (tFld K (tVar 0) "depth") (tC (.int 0))) (tOp rEq (tOp (rIxL K) (tCall (sp_depths_of K C_) [] E0 (tCons (tVar 1) tNil)) (tUn aNeg (tC (.int 1)))) (tFld K (tVar 0) "depth"))))
def N__law_uneven : List Str := ["_law_row_here", "_law_depth"]
def rd__law_uneven (K : PySem.W.Frag) (C_ : CA) : TS :=
    (tRet (tAndV (tOp rNe (tVar 1) (tC (.int 0))) (tOp rEq (tOp aSub (tBM K "str" aCountT (tVar 0) (tCons (tC (.str (T [true]))) tNil)) (tBM K "str" aCountT (tVar 0) (tCons (tC (.str (T [false]))) tNil))) (tVar 1))))
end BM
namespace BM
open PySem L2 Evl
local macro_rules | `(tactic| walk_at "mem") => `(tactic| first | exact List.mem_cons_self | (refine List.mem_cons_of_mem _ ?_; walk_at "mem"))
local macro_rules | `(tactic| walk_at "swap") => `(tactic| first | exact Swap.here | (apply Swap.there; walk_at "swap"))
local macro_rules | `(tactic| walk_at "subl") => `(tactic| first | exact List.Sublist.refl _ | exact List.nil_sublist _ | (refine List.Sublist.cons_cons _ ?_; walk_at "subl") | (refine List.Sublist.cons _ ?_; walk_at "subl"))
local macro_rules | `(tactic| walk_at "sub") => `(tactic| first | exact Sub.refl _ | (refine ⟨?_, ?_⟩ <;> walk_at "subl"))
local macro_rules | `(tactic| walk_at "isl") => `(tactic| first | exact isL_own (by walk_at "mem") | exact isL_old (by assumption) | assumption)
local macro_rules | `(tactic| walk_at "ist") => `(tactic| first | exact isT_own (by walk_at "mem") | exact isT_old (by assumption) | assumption)
local macro_rules | `(tactic| walk_at "len") => `(tactic| first | omega | decide | (simp only [List.length_map, List.length_take, List.length_drop, List.length_append, List.length_cons, List.length_nil, List.length_reverse, dps_len, flp_len]; omega) | (simp [dps_len, flp_len]; omega) | simp)
local macro_rules | `(tactic| walk_at "b0") => `(tactic| first
  | with_reducible refine' ws_set ?_
  | with_reducible refine' ws_par ?_
  | with_reducible refine' ws_asg ?_
  | with_reducible refine' ws_drop ?_
  | with_reducible refine' ws_ret ?_
  | with_reducible refine' ws_if ?_
  | with_reducible refine' ws_next ?_
  | with_reducible refine' ws_brk ?_
  | with_reducible refine' ws_cont ?_
  | ((with_reducible refine' we_var ?hv ?_); case hv => rfl)
  | with_reducible refine' we_c ?_
  | with_reducible refine' we_op ?_
  | with_reducible refine' we_un ?_
  | with_reducible refine' we_if ?_
  | with_reducible refine' we_and ?_
  | with_reducible refine' we_or ?_
  | with_reducible refine' we_not ?_
  | with_reducible refine' wa_nil ?_
  | with_reducible refine' wa_cons ?_
  | (with_reducible refine' we_lst ?_)
  | (with_reducible refine' we_tup ?_)
  | with_reducible refine' we_cb ?_
  | with_reducible refine' we_call0 ?_
  | with_reducible refine' we_sl ?_
  | with_reducible refine' wo_none ?_
  | (with_reducible refine' wo_some ?_)
  | with_reducible refine' wt_test ?_
  | with_reducible refine' wt_B ?_
  | with_reducible refine' wt_and ?_
  | with_reducible refine' wt_or ?_
  | with_reducible refine' wt_not ?_
  | with_reducible refine' wt_yes ?_
  | with_reducible refine' we_chain ?_
  | with_reducible refine' we_chain3 ?_
  | with_reducible refine' we_revT ?_
  | with_reducible refine' we_revL ?_
  | with_reducible refine' we_bm ?_
  | with_reducible refine' we_bm0 ?_
  | with_reducible refine' ws_for ?_
  | with_reducible refine' we_lc ?_
  | with_reducible refine' wi_list ?_
  | with_reducible refine' wi_tup ?_
  | with_reducible refine' wi_T ?_
  | with_reducible refine' wi_rng1 ?_
  | with_reducible refine' wi_rng2 ?_
  | with_reducible refine' wi_rng3 ?_
  | with_reducible refine' wi_enum ?_
  | with_reducible refine' wi_enumT ?_
  | with_reducible refine' wi_zip ?_
  | with_reducible refine' wg_name ?_
  | with_reducible refine' wg_sub ?_
  | with_reducible refine' wgs_nil ?_
  | with_reducible refine' wgs_cons ?_
  | ((with_reducible refine' wg_tup ?ht ?hn ?_); (case ht => walk_at "ist"); (case hn => rfl))
  | with_reducible refine' w2_add ?_
  | with_reducible refine' w2_sub ?_
  | with_reducible refine' w2_lt ?_
  | with_reducible refine' w2_le ?_
  | with_reducible refine' w2_gt ?_
  | with_reducible refine' w2_ge ?_
  | with_reducible refine' w2_eqI ?_
  | with_reducible refine' w2_neI ?_
  | with_reducible refine' w2_eqT ?_
  | with_reducible refine' w2_neT ?_
  | with_reducible refine' w2_eqB ?_
  | with_reducible refine' w2_neB ?_
  | with_reducible refine' w2_isN ?_
  | with_reducible refine' w2_notN ?_
  | with_reducible refine' w2_isB ?_
  | with_reducible refine' w2_inT ?_
  | with_reducible refine' w1_neg ?_
  | with_reducible refine' wl_abs ?_
  | with_reducible refine' wl_max2 ?_
  | with_reducible refine' wl_min2 ?_
  | with_reducible refine' wl_intB ?_
  | ((with_reducible refine' w2_div ?h ?_); case h => first | omega | (constructor <;> omega))
  | ((with_reducible refine' w2_mod ?h ?_); case h => omega)
  | ((with_reducible refine' w2_catT ?h ?_); case h => walk_at "len")
  | ((with_reducible refine' wsl_T ?h ?_); case h => walk_at "len")
  | ((with_reducible refine' wl_lenT ?h ?_); case h => walk_at "len")
  | ((with_reducible refine' wl_len ?h ?_); case h => walk_at "isl")
  | ((with_reducible refine' wl_len ?h ?_); case h => walk_at "isl")
  | ((with_reducible refine' wm_append ?sw ?hl ?_); (case sw => walk_at "swap"); (case hl => walk_at "len")))
local macro_rules | `(tactic| walk_at "b1") => `(tactic| first | with_reducible refine' ws_seq ?_ | walk_at "b0")
local macro_rules | `(tactic| walk_at "bx") => `(tactic| first
  | refine ⟨_, rfl, ?_⟩
  | refine ⟨_, _, rfl, ?_⟩
  | refine ⟨ty_L (by walk_at "isl"), ?_⟩
  | refine ⟨ty_S, ?_⟩
  | refine spl_t (by rfl) ?_
  | refine spl_f (by rfl) ?_
  | exact rfl)
local macro_rules | `(tactic| walk_at "bm") => `(tactic| repeat (first | walk_at "b1" | walk_at "bx"))
local macro_rules | `(tactic| walk_at "bn") => `(tactic| repeat (first | walk_at "b0" | walk_at "bx"))
local macro_rules | `(tactic| walk_at "b0") => `(tactic| with_reducible refine' c_deepens ?_)
local macro_rules | `(tactic| walk_at "b0") => `(tactic| ((with_reducible refine' c_depths_of ?hl ?_); (case hl => walk_at "len")))
local macro_rules | `(tactic| walk_at "b0") => `(tactic| with_reducible refine' c_is_wholeI ?_)
local macro_rules | `(tactic| walk_at "b0") => `(tactic| with_reducible refine' c_flipped ?_)
local macro_rules | `(tactic| walk_at "b0") => `(tactic| ((with_reducible refine' c_is_right_row ?hl ?_); (case hl => walk_at "len")))
local macro_rules | `(tactic| walk_at "b0") => `(tactic| ((with_reducible refine' c_asked_row ?hl ?_); (case hl => walk_at "len")))
local macro_rules | `(tactic| walk_at "b0") => `(tactic| ((with_reducible refine' c_depths ?hl ?_); (case hl => walk_at "len")))
local macro_rules | `(tactic| walk_at "b0") => `(tactic| ((with_reducible refine' c_is_right ?hl ?_); (case hl => walk_at "len")))
local macro_rules | `(tactic| walk_at "b0") => `(tactic| ((with_reducible refine' c__law_depths ?hl ?_); (case hl => walk_at "len")))
local macro_rules | `(tactic| walk_at "b0") => `(tactic| ((with_reducible refine' c__law_good ?hl ?_); (case hl => walk_at "len")))
local macro_rules | `(tactic| walk_at "b0") => `(tactic| ((with_reducible refine' wl_listOf ?hx ?_); (case hx => walk_at "isl")))
local macro_rules | `(tactic| walk_at "b0") => `(tactic| with_reducible refine' w2_notB ?_)
local macro_rules | `(tactic| walk_at "own") => `(tactic| exact own_l (by walk_at "mem"))
local macro_rules | `(tactic| walk_at "b0") => `(tactic| with_reducible refine' we_fld ?_)
local macro_rules | `(tactic| walk_at "b0") => `(tactic| refine ⟨_, _, _, _, _, rfl, own_l (by walk_at "mem"), Grw.cl (by assumption), Grw.nr (by assumption), by rfl, ?_⟩)
local macro_rules | `(tactic| walk_at "b0") => `(tactic| refine ⟨_, _, _, _, _, rfl, fun H' o => o.ex _ _ (by assumption), Grw.cl (by assumption), Grw.nr (by assumption), by rfl, ?_⟩)
local macro_rules | `(tactic| walk_at "b0") => `(tactic| with_reducible refine' we_meth ?_)
local macro_rules | `(tactic| walk_at "b0") => `(tactic| refine ⟨_, _, _, rfl, own_l (by walk_at "mem"), by rfl, ?_⟩)
local macro_rules | `(tactic| walk_at "b0") => `(tactic| refine ⟨_, _, _, rfl, fun H' o => o.ex _ _ (by assumption), by rfl, ?_⟩)
local macro_rules | `(tactic| walk_at "gown") => `(tactic| first | exact own_l (by walk_at "mem") | exact fun H' o => o.ex _ _ (by assumption))
local macro_rules | `(tactic| walk_at "b0") => `(tactic| with_reducible refine' wm_countT ?_)
theorem own_add {H0 H : Hp} {s : Ld} {p : Addr} {u : HO} (w : Own H0 H s) (h0 : H0 p = none) (hk : p ∉ s.L.map (·.1)) (h : H p = some u) : Own H0 H ⟨(p, u) :: s.L, s.T⟩ :=
  ⟨w.ex, List.nodup_cons.mpr ⟨hk, w.nd⟩, fun e he => by
    rcases List.mem_cons.mp he with rfl | h1
    · exact ⟨h0, h⟩
    · exact w.own e h1, w.tp⟩
theorem own_key {H0 H : Hp} {s : Ld} {p : Addr} (w : Own H0 H s) (hp : H p = none) : p ∉ s.L.map (·.1) := fun h => by
  obtain ⟨e, he, ee⟩ := List.mem_map.mp h
  have := (w.own e he).2
  rw [ee, hp] at this
  cases this
theorem sq_del {K : PySem.W.Frag} {H : Hp} {x a : Addr} {xs : List V} (h : a ≠ x) (hs : SqL K H a xs) : SqL K (del x H) a xs := by
  unfold SqL Rd at hs ⊢
  rw [del_ne h]
  exact hs
theorem ln_u_init {K : PySem.W.Frag} {C : CA} {vs : List V} {H : Hp} {Q : VK} {E : XK} (h : sp_u_init K C vs H Q E) : vs.length = 2 := by
  obtain ⟨x, d, z, _, rfl, _⟩ := h
  rfl
theorem pu_u_init {K : PySem.W.Frag} {C : CA} {vs : List V} {H : Hp} {Q : VK} {E : XK} (h : sp_u_init K C vs H Q E) : rd_u_init K C { nx := fun _ H' => Q .non H', rt := Q } (start N_u_init vs) H := by
  obtain ⟨x, d, z, hU, rfl, hx, k⟩ := h
  refine body_G hx ?_ k
  unfold rd_u_init
  refine ws_fld ?_
  walk_at "bm"
  exact ⟨x, _, d, [], _, rfl, Swap.here, hU.c.cl, hU.n, by decide, rfl, List.mem_cons_self⟩
theorem ln_u_shows {K : PySem.W.Frag} {C : CA} {vs : List V} {H : Hp} {Q : VK} {E : XK} (h : sp_u_shows K C vs H Q E) : vs.length = 2 := by
  obtain ⟨_, ⟨x, d, z, r, _, rfl, _⟩, _⟩ := h
  rfl
theorem pu_u_shows {K : PySem.W.Frag} {C : CA} {vs : List V} {H : Hp} {Q : VK} {E : XK} (h : sp_u_shows K C vs H Q E) : rd_u_shows K C { nx := fun _ H' => Q .non H', rt := Q } (start N_u_shows vs) H := by
  obtain ⟨_, ⟨g, d, z, r, hU, rfl, hg, hl, rfl⟩, k⟩ := h
  refine body_V ?_ k
  unfold rd_u_shows
  walk_at "bm"
  refine ⟨_, _, _, _, _, rfl, fun H' o => o.ex _ _ hg, hU.c.cl, hU.n, rfl, ?_⟩
  walk_at "bm"
  refine ⟨fun h => ?_, fun h => ?_⟩
  · walk_at "bm"
    intro f hf
    walk_at "bm"
    refine w2_ixL (by walk_at "isl") (dps_m1 _) ?_
    walk_at "bm"
    refine ⟨_, _, _, _, _, rfl, fun H' o => o.ex _ _ hg, hU.c.cl, hU.n, rfl, ?_⟩
    walk_at "bm"
    show V.bl _ = V.bl _
    unfold unSh
    have h' : z ≠ 0 := by simpa using h
    simp [h']
  · have h' : z = 0 := by simpa using h
    show V.bl _ = V.bl _
    unfold unSh
    simp [h']
theorem c_u_shows {K : PySem.W.Frag} {C : CA} {H0 : Hp} {s : Ld} {Q : V → Ld → Prop} {E : XK} {g d : Addr} {z : Int} {r : List Bool} (hU : UnC K C) (hg : ∀ H, Own H0 H s → H g = some (uIns C d z)) (hl : r.length ≤ 1000) (q : Q (.bl (unSh r z)) s) : WC H0 (sp_u_shows K C) E [.ref g, .str (T r)] s Q := wc_V (fun H o => ⟨g, d, z, r, hU, rfl, hg H o, hl, rfl⟩) q
theorem ln__law_uneven {K : PySem.W.Frag} {C : CA} {vs : List V} {H : Hp} {Q : VK} {E : XK} (h : sp__law_uneven K C vs H Q E) : vs.length = 2 := by
  obtain ⟨_, ⟨r, z, rfl, _⟩, _⟩ := h
  rfl
theorem pu__law_uneven {K : PySem.W.Frag} {C : CA} {vs : List V} {H : Hp} {Q : VK} {E : XK} (h : sp__law_uneven K C vs H Q E) : rd__law_uneven K C { nx := fun _ H' => Q .non H', rt := Q } (start N__law_uneven vs) H := by
  obtain ⟨_, ⟨r, z, rfl, hl, rfl⟩, k⟩ := h
  refine body_V ?_ k
  unfold rd__law_uneven
  walk_at "bm"
  refine ⟨fun h => ?_, fun h => ?_⟩
  · walk_at "bm"
    show V.bl _ = V.bl _
    unfold unSh
    have h' : z ≠ 0 := by simpa using h
    rw [hgt_count]
    simp [h']
  · have h' : z = 0 := by simpa using h
    show V.bl _ = V.bl _
    unfold unSh
    simp [h']
theorem c__law_uneven {K : PySem.W.Frag} {C : CA} {H0 : Hp} {s : Ld} {Q : V → Ld → Prop} {E : XK} {z : Int} {r : List Bool} (hl : r.length ≤ 1000) (q : Q (.bl (unSh r z)) s) : WC H0 (sp__law_uneven K C) E [.str (T r), .int z] s Q := wc_V (fun H o => ⟨r, z, rfl, hl, rfl⟩) q
end BM
namespace BM
open PySem L2 Evl
local macro_rules | `(tactic| walk_at "mem") => `(tactic| first | exact List.mem_cons_self | (refine List.mem_cons_of_mem _ ?_; walk_at "mem"))
local macro_rules | `(tactic| walk_at "swap") => `(tactic| first | exact Swap.here | (apply Swap.there; walk_at "swap"))
local macro_rules | `(tactic| walk_at "subl") => `(tactic| first | exact List.Sublist.refl _ | exact List.nil_sublist _ | (refine List.Sublist.cons_cons _ ?_; walk_at "subl") | (refine List.Sublist.cons _ ?_; walk_at "subl"))
local macro_rules | `(tactic| walk_at "sub") => `(tactic| first | exact Sub.refl _ | (refine ⟨?_, ?_⟩ <;> walk_at "subl"))
local macro_rules | `(tactic| walk_at "isl") => `(tactic| first | exact isL_own (by walk_at "mem") | exact isL_old (by assumption) | assumption)
local macro_rules | `(tactic| walk_at "ist") => `(tactic| first | exact isT_own (by walk_at "mem") | exact isT_old (by assumption) | assumption)
local macro_rules | `(tactic| walk_at "len") => `(tactic| first | omega | decide | (simp only [List.length_map, List.length_take, List.length_drop, List.length_append, List.length_cons, List.length_nil, List.length_reverse, dps_len, flp_len]; omega) | (simp [dps_len, flp_len]; omega) | simp)
local macro_rules | `(tactic| walk_at "b0") => `(tactic| first
  | with_reducible refine' ws_set ?_
  | with_reducible refine' ws_par ?_
  | with_reducible refine' ws_asg ?_
  | with_reducible refine' ws_drop ?_
  | with_reducible refine' ws_ret ?_
  | with_reducible refine' ws_if ?_
  | with_reducible refine' ws_next ?_
  | with_reducible refine' ws_brk ?_
  | with_reducible refine' ws_cont ?_
  | ((with_reducible refine' we_var ?hv ?_); case hv => rfl)
  | with_reducible refine' we_c ?_
  | with_reducible refine' we_op ?_
  | with_reducible refine' we_un ?_
  | with_reducible refine' we_if ?_
  | with_reducible refine' we_and ?_
  | with_reducible refine' we_or ?_
  | with_reducible refine' we_not ?_
  | with_reducible refine' wa_nil ?_
  | with_reducible refine' wa_cons ?_
  | (with_reducible refine' we_lst ?_)
  | (with_reducible refine' we_tup ?_)
  | with_reducible refine' we_cb ?_
  | with_reducible refine' we_call0 ?_
  | with_reducible refine' we_sl ?_
  | with_reducible refine' wo_none ?_
  | (with_reducible refine' wo_some ?_)
  | with_reducible refine' wt_test ?_
  | with_reducible refine' wt_B ?_
  | with_reducible refine' wt_and ?_
  | with_reducible refine' wt_or ?_
  | with_reducible refine' wt_not ?_
  | with_reducible refine' wt_yes ?_
  | with_reducible refine' we_chain ?_
  | with_reducible refine' we_chain3 ?_
  | with_reducible refine' we_revT ?_
  | with_reducible refine' we_revL ?_
  | with_reducible refine' we_bm ?_
  | with_reducible refine' we_bm0 ?_
  | with_reducible refine' ws_for ?_
  | with_reducible refine' we_lc ?_
  | with_reducible refine' wi_list ?_
  | with_reducible refine' wi_tup ?_
  | with_reducible refine' wi_T ?_
  | with_reducible refine' wi_rng1 ?_
  | with_reducible refine' wi_rng2 ?_
  | with_reducible refine' wi_rng3 ?_
  | with_reducible refine' wi_enum ?_
  | with_reducible refine' wi_enumT ?_
  | with_reducible refine' wi_zip ?_
  | with_reducible refine' wg_name ?_
  | with_reducible refine' wg_sub ?_
  | with_reducible refine' wgs_nil ?_
  | with_reducible refine' wgs_cons ?_
  | ((with_reducible refine' wg_tup ?ht ?hn ?_); (case ht => walk_at "ist"); (case hn => rfl))
  | with_reducible refine' w2_add ?_
  | with_reducible refine' w2_sub ?_
  | with_reducible refine' w2_lt ?_
  | with_reducible refine' w2_le ?_
  | with_reducible refine' w2_gt ?_
  | with_reducible refine' w2_ge ?_
  | with_reducible refine' w2_eqI ?_
  | with_reducible refine' w2_neI ?_
  | with_reducible refine' w2_eqT ?_
  | with_reducible refine' w2_neT ?_
  | with_reducible refine' w2_eqB ?_
  | with_reducible refine' w2_neB ?_
  | with_reducible refine' w2_isN ?_
  | with_reducible refine' w2_notN ?_
  | with_reducible refine' w2_isB ?_
  | with_reducible refine' w2_inT ?_
  | with_reducible refine' w1_neg ?_
  | with_reducible refine' wl_abs ?_
  | with_reducible refine' wl_max2 ?_
  | with_reducible refine' wl_min2 ?_
  | with_reducible refine' wl_intB ?_
  | ((with_reducible refine' w2_div ?h ?_); case h => first | omega | (constructor <;> omega))
  | ((with_reducible refine' w2_mod ?h ?_); case h => omega)
  | ((with_reducible refine' w2_catT ?h ?_); case h => walk_at "len")
  | ((with_reducible refine' wsl_T ?h ?_); case h => walk_at "len")
  | ((with_reducible refine' wl_lenT ?h ?_); case h => walk_at "len")
  | ((with_reducible refine' wl_len ?h ?_); case h => walk_at "isl")
  | ((with_reducible refine' wl_len ?h ?_); case h => walk_at "isl")
  | ((with_reducible refine' wm_append ?sw ?hl ?_); (case sw => walk_at "swap"); (case hl => walk_at "len")))
local macro_rules | `(tactic| walk_at "b1") => `(tactic| first | with_reducible refine' ws_seq ?_ | walk_at "b0")
local macro_rules | `(tactic| walk_at "bx") => `(tactic| first
  | refine ⟨_, rfl, ?_⟩
  | refine ⟨_, _, rfl, ?_⟩
  | refine ⟨ty_L (by walk_at "isl"), ?_⟩
  | refine ⟨ty_S, ?_⟩
  | refine spl_t (by rfl) ?_
  | refine spl_f (by rfl) ?_
  | exact rfl)
local macro_rules | `(tactic| walk_at "bm") => `(tactic| repeat (first | walk_at "b1" | walk_at "bx"))
local macro_rules | `(tactic| walk_at "bn") => `(tactic| repeat (first | walk_at "b0" | walk_at "bx"))
local macro_rules | `(tactic| walk_at "b0") => `(tactic| with_reducible refine' c_deepens ?_)
local macro_rules | `(tactic| walk_at "b0") => `(tactic| ((with_reducible refine' c_depths_of ?hl ?_); (case hl => walk_at "len")))
local macro_rules | `(tactic| walk_at "b0") => `(tactic| with_reducible refine' c_is_wholeI ?_)
local macro_rules | `(tactic| walk_at "b0") => `(tactic| with_reducible refine' c_flipped ?_)
local macro_rules | `(tactic| walk_at "b0") => `(tactic| ((with_reducible refine' c_is_right_row ?hl ?_); (case hl => walk_at "len")))
local macro_rules | `(tactic| walk_at "b0") => `(tactic| ((with_reducible refine' c_asked_row ?hl ?_); (case hl => walk_at "len")))
local macro_rules | `(tactic| walk_at "b0") => `(tactic| ((with_reducible refine' c_depths ?hl ?_); (case hl => walk_at "len")))
local macro_rules | `(tactic| walk_at "b0") => `(tactic| ((with_reducible refine' c_is_right ?hl ?_); (case hl => walk_at "len")))
local macro_rules | `(tactic| walk_at "b0") => `(tactic| ((with_reducible refine' c__law_depths ?hl ?_); (case hl => walk_at "len")))
local macro_rules | `(tactic| walk_at "b0") => `(tactic| ((with_reducible refine' c__law_good ?hl ?_); (case hl => walk_at "len")))
local macro_rules | `(tactic| walk_at "b0") => `(tactic| ((with_reducible refine' wl_listOf ?hx ?_); (case hx => walk_at "isl")))
local macro_rules | `(tactic| walk_at "b0") => `(tactic| with_reducible refine' w2_notB ?_)
local macro_rules | `(tactic| walk_at "own") => `(tactic| exact own_l (by walk_at "mem"))
local macro_rules | `(tactic| walk_at "b0") => `(tactic| with_reducible refine' we_fld ?_)
local macro_rules | `(tactic| walk_at "b0") => `(tactic| refine ⟨_, _, _, _, _, rfl, own_l (by walk_at "mem"), Grw.cl (by assumption), Grw.nr (by assumption), by rfl, ?_⟩)
local macro_rules | `(tactic| walk_at "b0") => `(tactic| refine ⟨_, _, _, _, _, rfl, fun H' o => o.ex _ _ (by assumption), Grw.cl (by assumption), Grw.nr (by assumption), by rfl, ?_⟩)
local macro_rules | `(tactic| walk_at "b0") => `(tactic| with_reducible refine' we_meth ?_)
local macro_rules | `(tactic| walk_at "b0") => `(tactic| refine ⟨_, _, _, rfl, own_l (by walk_at "mem"), by rfl, ?_⟩)
local macro_rules | `(tactic| walk_at "b0") => `(tactic| refine ⟨_, _, _, rfl, fun H' o => o.ex _ _ (by assumption), by rfl, ?_⟩)
local macro_rules | `(tactic| walk_at "gown") => `(tactic| first | exact own_l (by walk_at "mem") | exact fun H' o => o.ex _ _ (by assumption))
local macro_rules | `(tactic| walk_at "b0") => `(tactic| with_reducible refine' wm_countT ?_)
end BM
namespace BM
open PySem L2 Evl
local macro_rules | `(tactic| walk_at "mem") => `(tactic| first | exact List.mem_cons_self | (refine List.mem_cons_of_mem _ ?_; walk_at "mem"))
local macro_rules | `(tactic| walk_at "swap") => `(tactic| first | exact Swap.here | (apply Swap.there; walk_at "swap"))
local macro_rules | `(tactic| walk_at "subl") => `(tactic| first | exact List.Sublist.refl _ | exact List.nil_sublist _ | (refine List.Sublist.cons_cons _ ?_; walk_at "subl") | (refine List.Sublist.cons _ ?_; walk_at "subl"))
local macro_rules | `(tactic| walk_at "sub") => `(tactic| first | exact Sub.refl _ | (refine ⟨?_, ?_⟩ <;> walk_at "subl"))
local macro_rules | `(tactic| walk_at "isl") => `(tactic| first | exact isL_own (by walk_at "mem") | exact isL_old (by assumption) | assumption)
local macro_rules | `(tactic| walk_at "ist") => `(tactic| first | exact isT_own (by walk_at "mem") | exact isT_old (by assumption) | assumption)
local macro_rules | `(tactic| walk_at "len") => `(tactic| first | omega | decide | (simp only [List.length_map, List.length_take, List.length_drop, List.length_append, List.length_cons, List.length_nil, List.length_reverse, dps_len, flp_len]; omega) | (simp [dps_len, flp_len]; omega) | simp)
local macro_rules | `(tactic| walk_at "b0") => `(tactic| first
  | with_reducible refine' ws_set ?_
  | with_reducible refine' ws_par ?_
  | with_reducible refine' ws_asg ?_
  | with_reducible refine' ws_drop ?_
  | with_reducible refine' ws_ret ?_
  | with_reducible refine' ws_if ?_
  | with_reducible refine' ws_next ?_
  | with_reducible refine' ws_brk ?_
  | with_reducible refine' ws_cont ?_
  | ((with_reducible refine' we_var ?hv ?_); case hv => rfl)
  | with_reducible refine' we_c ?_
  | with_reducible refine' we_op ?_
  | with_reducible refine' we_un ?_
  | with_reducible refine' we_if ?_
  | with_reducible refine' we_and ?_
  | with_reducible refine' we_or ?_
  | with_reducible refine' we_not ?_
  | with_reducible refine' wa_nil ?_
  | with_reducible refine' wa_cons ?_
  | (with_reducible refine' we_lst ?_)
  | (with_reducible refine' we_tup ?_)
  | with_reducible refine' we_cb ?_
  | with_reducible refine' we_call0 ?_
  | with_reducible refine' we_sl ?_
  | with_reducible refine' wo_none ?_
  | (with_reducible refine' wo_some ?_)
  | with_reducible refine' wt_test ?_
  | with_reducible refine' wt_B ?_
  | with_reducible refine' wt_and ?_
  | with_reducible refine' wt_or ?_
  | with_reducible refine' wt_not ?_
  | with_reducible refine' wt_yes ?_
  | with_reducible refine' we_chain ?_
  | with_reducible refine' we_chain3 ?_
  | with_reducible refine' we_revT ?_
  | with_reducible refine' we_revL ?_
  | with_reducible refine' we_bm ?_
  | with_reducible refine' we_bm0 ?_
  | with_reducible refine' ws_for ?_
  | with_reducible refine' we_lc ?_
  | with_reducible refine' wi_list ?_
  | with_reducible refine' wi_tup ?_
  | with_reducible refine' wi_T ?_
  | with_reducible refine' wi_rng1 ?_
  | with_reducible refine' wi_rng2 ?_
  | with_reducible refine' wi_rng3 ?_
  | with_reducible refine' wi_enum ?_
  | with_reducible refine' wi_enumT ?_
  | with_reducible refine' wi_zip ?_
  | with_reducible refine' wg_name ?_
  | with_reducible refine' wg_sub ?_
  | with_reducible refine' wgs_nil ?_
  | with_reducible refine' wgs_cons ?_
  | ((with_reducible refine' wg_tup ?ht ?hn ?_); (case ht => walk_at "ist"); (case hn => rfl))
  | with_reducible refine' w2_add ?_
  | with_reducible refine' w2_sub ?_
  | with_reducible refine' w2_lt ?_
  | with_reducible refine' w2_le ?_
  | with_reducible refine' w2_gt ?_
  | with_reducible refine' w2_ge ?_
  | with_reducible refine' w2_eqI ?_
  | with_reducible refine' w2_neI ?_
  | with_reducible refine' w2_eqT ?_
  | with_reducible refine' w2_neT ?_
  | with_reducible refine' w2_eqB ?_
  | with_reducible refine' w2_neB ?_
  | with_reducible refine' w2_isN ?_
  | with_reducible refine' w2_notN ?_
  | with_reducible refine' w2_isB ?_
  | with_reducible refine' w2_inT ?_
  | with_reducible refine' w1_neg ?_
  | with_reducible refine' wl_abs ?_
  | with_reducible refine' wl_max2 ?_
  | with_reducible refine' wl_min2 ?_
  | with_reducible refine' wl_intB ?_
  | ((with_reducible refine' w2_div ?h ?_); case h => first | omega | (constructor <;> omega))
  | ((with_reducible refine' w2_mod ?h ?_); case h => omega)
  | ((with_reducible refine' w2_catT ?h ?_); case h => walk_at "len")
  | ((with_reducible refine' wsl_T ?h ?_); case h => walk_at "len")
  | ((with_reducible refine' wl_lenT ?h ?_); case h => walk_at "len")
  | ((with_reducible refine' wl_len ?h ?_); case h => walk_at "isl")
  | ((with_reducible refine' wl_len ?h ?_); case h => walk_at "isl")
  | ((with_reducible refine' wm_append ?sw ?hl ?_); (case sw => walk_at "swap"); (case hl => walk_at "len")))
local macro_rules | `(tactic| walk_at "b1") => `(tactic| first | with_reducible refine' ws_seq ?_ | walk_at "b0")
local macro_rules | `(tactic| walk_at "bx") => `(tactic| first
  | refine ⟨_, rfl, ?_⟩
  | refine ⟨_, _, rfl, ?_⟩
  | refine ⟨ty_L (by walk_at "isl"), ?_⟩
  | refine ⟨ty_S, ?_⟩
  | refine spl_t (by rfl) ?_
  | refine spl_f (by rfl) ?_
  | exact rfl)
local macro_rules | `(tactic| walk_at "bm") => `(tactic| repeat (first | walk_at "b1" | walk_at "bx"))
local macro_rules | `(tactic| walk_at "bn") => `(tactic| repeat (first | walk_at "b0" | walk_at "bx"))
local macro_rules | `(tactic| walk_at "b0") => `(tactic| with_reducible refine' c_deepens ?_)
local macro_rules | `(tactic| walk_at "b0") => `(tactic| ((with_reducible refine' c_depths_of ?hl ?_); (case hl => walk_at "len")))
local macro_rules | `(tactic| walk_at "b0") => `(tactic| with_reducible refine' c_is_wholeI ?_)
local macro_rules | `(tactic| walk_at "b0") => `(tactic| with_reducible refine' c_flipped ?_)
local macro_rules | `(tactic| walk_at "b0") => `(tactic| ((with_reducible refine' c_is_right_row ?hl ?_); (case hl => walk_at "len")))
local macro_rules | `(tactic| walk_at "b0") => `(tactic| ((with_reducible refine' c_asked_row ?hl ?_); (case hl => walk_at "len")))
local macro_rules | `(tactic| walk_at "b0") => `(tactic| ((with_reducible refine' c_depths ?hl ?_); (case hl => walk_at "len")))
local macro_rules | `(tactic| walk_at "b0") => `(tactic| ((with_reducible refine' c_is_right ?hl ?_); (case hl => walk_at "len")))
local macro_rules | `(tactic| walk_at "b0") => `(tactic| ((with_reducible refine' c__law_depths ?hl ?_); (case hl => walk_at "len")))
local macro_rules | `(tactic| walk_at "b0") => `(tactic| ((with_reducible refine' c__law_good ?hl ?_); (case hl => walk_at "len")))
local macro_rules | `(tactic| walk_at "b0") => `(tactic| ((with_reducible refine' wl_listOf ?hx ?_); (case hx => walk_at "isl")))
local macro_rules | `(tactic| walk_at "b0") => `(tactic| with_reducible refine' w2_notB ?_)
local macro_rules | `(tactic| walk_at "own") => `(tactic| exact own_l (by walk_at "mem"))
local macro_rules | `(tactic| walk_at "b0") => `(tactic| with_reducible refine' we_fld ?_)
local macro_rules | `(tactic| walk_at "b0") => `(tactic| refine ⟨_, _, _, _, _, rfl, own_l (by walk_at "mem"), Grw.cl (by assumption), Grw.nr (by assumption), by rfl, ?_⟩)
local macro_rules | `(tactic| walk_at "b0") => `(tactic| refine ⟨_, _, _, _, _, rfl, fun H' o => o.ex _ _ (by assumption), Grw.cl (by assumption), Grw.nr (by assumption), by rfl, ?_⟩)
local macro_rules | `(tactic| walk_at "b0") => `(tactic| with_reducible refine' we_meth ?_)
local macro_rules | `(tactic| walk_at "b0") => `(tactic| refine ⟨_, _, _, rfl, own_l (by walk_at "mem"), by rfl, ?_⟩)
local macro_rules | `(tactic| walk_at "b0") => `(tactic| refine ⟨_, _, _, rfl, fun H' o => o.ex _ _ (by assumption), by rfl, ?_⟩)
local macro_rules | `(tactic| walk_at "gown") => `(tactic| first | exact own_l (by walk_at "mem") | exact fun H' o => o.ex _ _ (by assumption))
local macro_rules | `(tactic| walk_at "b0") => `(tactic| with_reducible refine' wm_countT ?_)
local macro_rules | `(tactic| walk_at "b0") => `(tactic| with_reducible refine' we_methU ?_)
theorem body_K {H : Hp} {t : TS} {N : List Str} {vs : List V} {Q : VK} {P : V → Ld → Prop} (h : WS H t (start N vs) ⟨[], []⟩ { nx := fun _ _ => False, rt := P }) (k : ∀ v H' s, Own H H' s → P v s → Q v H') : t { nx := fun _ H' => Q .non H', rt := Q } (start N vs) H :=
  h H (Own.start H) _ ⟨(fun _ _ _ _ q => q.elim), fun u H' s o q => k u H' s o q, (fun _ _ _ _ q => q.elim), (fun _ _ _ _ q => q.elim)⟩
theorem c_u_init {K : PySem.W.Frag} {C : CA} {H0 : Hp} {s : Ld} {Q : V → Ld → Prop} {E : XK} {x d : Addr} {z : Int} {L' : List (Addr × HO)} (hU : UnC K C) (sw : Swap x (.ins C.c_Uneven d []) (uIns C d z) s.L L') (q : Q .non ⟨L', s.T⟩) : WC H0 (sp_u_init K C) E [.ref x, .int z] s Q := fun H o R k =>
  ⟨x, d, z, hU, rfl, (o.own _ sw.mem).2, fun H' e h => k _ _ _ (own_after o sw trivial e h) q⟩
theorem we_uneven {K : PySem.W.Frag} {C : CA} {H0 : Hp} {σ : L2.St} {s : Ld} {Q : V → Ld → Prop} {E : XK} {ta : TA} (hU : UnC K C) (h : WA H0 ta σ s fun vs s1 => ∃ z, vs = [.int z] ∧ ∀ x dx, H0 x = none → Q (.ref x) ⟨(x, uIns C dx z) :: (dx, .own x) :: s1.L, s1.T⟩) : WE H0 (tMake C.c_Uneven (sp_u_init K C) [] E ta) σ s Q :=
  we_make fun H o R k => h H o R fun vs H1 s1 o1 ⟨z, e, q⟩ => k _ _ _ o1 fun x dx hx hdx hne => by
    subst e
    exact c_u_init hU Swap.here ⟨rfl, q x dx hx⟩
theorem first_of {ns : List Int} {m : Int} (h : m ∈ ns) : ∃ j : Nat, ns[j]? = some m ∧ ∀ i : Nat, i < j → ns[i]? ≠ some m := by
  induction ns with
  | nil => cases h
  | cons a ns ih =>
    by_cases e : a = m
    · exact ⟨0, by rw [e]; rfl, fun i hi => absurd hi (Nat.not_lt_zero _)⟩
    · obtain ⟨j, h1, h2⟩ := ih ((List.mem_cons.mp h).resolve_left fun e2 => e e2.symm)
      refine ⟨j + 1, h1, fun i hi => ?_⟩
      cases i with
      | zero => exact fun e2 => e (Option.some.inj e2)
      | succ i => exact h2 i (by omega)
end BM
namespace BM
open PySem L2 Evl
local macro_rules | `(tactic| walk_at "mem") => `(tactic| first | exact List.mem_cons_self | (refine List.mem_cons_of_mem _ ?_; walk_at "mem"))
local macro_rules | `(tactic| walk_at "swap") => `(tactic| first | exact Swap.here | (apply Swap.there; walk_at "swap"))
local macro_rules | `(tactic| walk_at "subl") => `(tactic| first | exact List.Sublist.refl _ | exact List.nil_sublist _ | (refine List.Sublist.cons_cons _ ?_; walk_at "subl") | (refine List.Sublist.cons _ ?_; walk_at "subl"))
local macro_rules | `(tactic| walk_at "sub") => `(tactic| first | exact Sub.refl _ | (refine ⟨?_, ?_⟩ <;> walk_at "subl"))
local macro_rules | `(tactic| walk_at "isl") => `(tactic| first | exact isL_own (by walk_at "mem") | exact isL_old (by assumption) | assumption)
local macro_rules | `(tactic| walk_at "ist") => `(tactic| first | exact isT_own (by walk_at "mem") | exact isT_old (by assumption) | assumption)
local macro_rules | `(tactic| walk_at "len") => `(tactic| first | omega | decide | (simp only [List.length_map, List.length_take, List.length_drop, List.length_append, List.length_cons, List.length_nil, List.length_reverse, dps_len, flp_len]; omega) | (simp [dps_len, flp_len]; omega) | simp)
local macro_rules | `(tactic| walk_at "b0") => `(tactic| first
  | with_reducible refine' ws_set ?_
  | with_reducible refine' ws_par ?_
  | with_reducible refine' ws_asg ?_
  | with_reducible refine' ws_drop ?_
  | with_reducible refine' ws_ret ?_
  | with_reducible refine' ws_if ?_
  | with_reducible refine' ws_next ?_
  | with_reducible refine' ws_brk ?_
  | with_reducible refine' ws_cont ?_
  | ((with_reducible refine' we_var ?hv ?_); case hv => rfl)
  | with_reducible refine' we_c ?_
  | with_reducible refine' we_op ?_
  | with_reducible refine' we_un ?_
  | with_reducible refine' we_if ?_
  | with_reducible refine' we_and ?_
  | with_reducible refine' we_or ?_
  | with_reducible refine' we_not ?_
  | with_reducible refine' wa_nil ?_
  | with_reducible refine' wa_cons ?_
  | (with_reducible refine' we_lst ?_)
  | (with_reducible refine' we_tup ?_)
  | with_reducible refine' we_cb ?_
  | with_reducible refine' we_call0 ?_
  | with_reducible refine' we_sl ?_
  | with_reducible refine' wo_none ?_
  | (with_reducible refine' wo_some ?_)
  | with_reducible refine' wt_test ?_
  | with_reducible refine' wt_B ?_
  | with_reducible refine' wt_and ?_
  | with_reducible refine' wt_or ?_
  | with_reducible refine' wt_not ?_
  | with_reducible refine' wt_yes ?_
  | with_reducible refine' we_chain ?_
  | with_reducible refine' we_chain3 ?_
  | with_reducible refine' we_revT ?_
  | with_reducible refine' we_revL ?_
  | with_reducible refine' we_bm ?_
  | with_reducible refine' we_bm0 ?_
  | with_reducible refine' ws_for ?_
  | with_reducible refine' we_lc ?_
  | with_reducible refine' wi_list ?_
  | with_reducible refine' wi_tup ?_
  | with_reducible refine' wi_T ?_
  | with_reducible refine' wi_rng1 ?_
  | with_reducible refine' wi_rng2 ?_
  | with_reducible refine' wi_rng3 ?_
  | with_reducible refine' wi_enum ?_
  | with_reducible refine' wi_enumT ?_
  | with_reducible refine' wi_zip ?_
  | with_reducible refine' wg_name ?_
  | with_reducible refine' wg_sub ?_
  | with_reducible refine' wgs_nil ?_
  | with_reducible refine' wgs_cons ?_
  | ((with_reducible refine' wg_tup ?ht ?hn ?_); (case ht => walk_at "ist"); (case hn => rfl))
  | with_reducible refine' w2_add ?_
  | with_reducible refine' w2_sub ?_
  | with_reducible refine' w2_lt ?_
  | with_reducible refine' w2_le ?_
  | with_reducible refine' w2_gt ?_
  | with_reducible refine' w2_ge ?_
  | with_reducible refine' w2_eqI ?_
  | with_reducible refine' w2_neI ?_
  | with_reducible refine' w2_eqT ?_
  | with_reducible refine' w2_neT ?_
  | with_reducible refine' w2_eqB ?_
  | with_reducible refine' w2_neB ?_
  | with_reducible refine' w2_isN ?_
  | with_reducible refine' w2_notN ?_
  | with_reducible refine' w2_isB ?_
  | with_reducible refine' w2_inT ?_
  | with_reducible refine' w1_neg ?_
  | with_reducible refine' wl_abs ?_
  | with_reducible refine' wl_max2 ?_
  | with_reducible refine' wl_min2 ?_
  | with_reducible refine' wl_intB ?_
  | ((with_reducible refine' w2_div ?h ?_); case h => first | omega | (constructor <;> omega))
  | ((with_reducible refine' w2_mod ?h ?_); case h => omega)
  | ((with_reducible refine' w2_catT ?h ?_); case h => walk_at "len")
  | ((with_reducible refine' wsl_T ?h ?_); case h => walk_at "len")
  | ((with_reducible refine' wl_lenT ?h ?_); case h => walk_at "len")
  | ((with_reducible refine' wl_len ?h ?_); case h => walk_at "isl")
  | ((with_reducible refine' wl_len ?h ?_); case h => walk_at "isl")
  | ((with_reducible refine' wm_append ?sw ?hl ?_); (case sw => walk_at "swap"); (case hl => walk_at "len")))
local macro_rules | `(tactic| walk_at "b1") => `(tactic| first | with_reducible refine' ws_seq ?_ | walk_at "b0")
local macro_rules | `(tactic| walk_at "bx") => `(tactic| first
  | refine ⟨_, rfl, ?_⟩
  | refine ⟨_, _, rfl, ?_⟩
  | refine ⟨ty_L (by walk_at "isl"), ?_⟩
  | refine ⟨ty_S, ?_⟩
  | refine spl_t (by rfl) ?_
  | refine spl_f (by rfl) ?_
  | exact rfl)
local macro_rules | `(tactic| walk_at "bm") => `(tactic| repeat (first | walk_at "b1" | walk_at "bx"))
local macro_rules | `(tactic| walk_at "bn") => `(tactic| repeat (first | walk_at "b0" | walk_at "bx"))
local macro_rules | `(tactic| walk_at "b0") => `(tactic| with_reducible refine' c_deepens ?_)
local macro_rules | `(tactic| walk_at "b0") => `(tactic| ((with_reducible refine' c_depths_of ?hl ?_); (case hl => walk_at "len")))
local macro_rules | `(tactic| walk_at "b0") => `(tactic| with_reducible refine' c_is_wholeI ?_)
local macro_rules | `(tactic| walk_at "b0") => `(tactic| with_reducible refine' c_flipped ?_)
local macro_rules | `(tactic| walk_at "b0") => `(tactic| ((with_reducible refine' c_is_right_row ?hl ?_); (case hl => walk_at "len")))
local macro_rules | `(tactic| walk_at "b0") => `(tactic| ((with_reducible refine' c_asked_row ?hl ?_); (case hl => walk_at "len")))
local macro_rules | `(tactic| walk_at "b0") => `(tactic| ((with_reducible refine' c_depths ?hl ?_); (case hl => walk_at "len")))
local macro_rules | `(tactic| walk_at "b0") => `(tactic| ((with_reducible refine' c_is_right ?hl ?_); (case hl => walk_at "len")))
local macro_rules | `(tactic| walk_at "b0") => `(tactic| ((with_reducible refine' c__law_depths ?hl ?_); (case hl => walk_at "len")))
local macro_rules | `(tactic| walk_at "b0") => `(tactic| ((with_reducible refine' c__law_good ?hl ?_); (case hl => walk_at "len")))
local macro_rules | `(tactic| walk_at "b0") => `(tactic| ((with_reducible refine' wl_listOf ?hx ?_); (case hx => walk_at "isl")))
local macro_rules | `(tactic| walk_at "b0") => `(tactic| with_reducible refine' w2_notB ?_)
local macro_rules | `(tactic| walk_at "own") => `(tactic| exact own_l (by walk_at "mem"))
local macro_rules | `(tactic| walk_at "b0") => `(tactic| with_reducible refine' we_fld ?_)
local macro_rules | `(tactic| walk_at "b0") => `(tactic| refine ⟨_, _, _, _, _, rfl, own_l (by walk_at "mem"), Grw.cl (by assumption), Grw.nr (by assumption), by rfl, ?_⟩)
local macro_rules | `(tactic| walk_at "b0") => `(tactic| refine ⟨_, _, _, _, _, rfl, fun H' o => o.ex _ _ (by assumption), Grw.cl (by assumption), Grw.nr (by assumption), by rfl, ?_⟩)
local macro_rules | `(tactic| walk_at "b0") => `(tactic| with_reducible refine' we_meth ?_)
local macro_rules | `(tactic| walk_at "b0") => `(tactic| refine ⟨_, _, _, rfl, own_l (by walk_at "mem"), by rfl, ?_⟩)
local macro_rules | `(tactic| walk_at "b0") => `(tactic| refine ⟨_, _, _, rfl, fun H' o => o.ex _ _ (by assumption), by rfl, ?_⟩)
local macro_rules | `(tactic| walk_at "gown") => `(tactic| first | exact own_l (by walk_at "mem") | exact fun H' o => o.ex _ _ (by assumption))
local macro_rules | `(tactic| walk_at "b0") => `(tactic| with_reducible refine' wm_countT ?_)
local macro_rules | `(tactic| walk_at "b0") => `(tactic| with_reducible refine' we_methU ?_)
theorem unSh_self {r : List Bool} (h : hgt r ≠ 0) : unSh r (hgt r) = true := by
  unfold unSh
  simp [h]
theorem getR {rs : List (List Bool)} {i : Nat} {y : V} (hy : (rs.map fun r => V.str (T r))[i]? = some y) : ∃ z, rs[i]? = some z ∧ y = V.str (T z) := by
  rw [List.getElem?_map] at hy
  cases e : rs[i]? with
  | none => rw [e] at hy; cases hy
  | some z => rw [e] at hy; exact ⟨z, rfl, (Option.some.inj hy).symm⟩
end BM
namespace BM
/-! ### stretches turned round: depths -/
theorem hgt_rev (r : List Bool) : hgt r.reverse = hgt r := by
  induction r with
  | nil => rfl
  | cons b r ih =>
    rw [List.reverse_cons, hgt_app, ih]
    simp only [hgt]
    omega
theorem hgt_cut (r : List Bool) (f i : Nat) : hgt ((r.drop f).take i) = hgt (r.take (f + i)) - hgt (r.take f) := by
  rw [List.take_add, hgt_app]
  omega
theorem rnd_lo {r : List Bool} {f b j : Nat} (hf : f ≤ b) (hb : b ≤ r.length) (h : j ≤ f) : hgt ((rnd r f b).take j) = hgt (r.take j) := by
  unfold rnd
  rw [List.append_assoc, List.take_append_of_le_length (by rw [List.length_take]; omega), List.take_take, Nat.min_eq_left h]
theorem rnd_mid {r : List Bool} {f b j : Nat} (hf : f ≤ j) (hj : j ≤ b) (hb : b ≤ r.length) : hgt ((rnd r f b).take j) = hgt (r.take f) + hgt (r.take b) - hgt (r.take (f + b - j)) := by
  have e1 : (r.take f).length = f := by rw [List.length_take]; omega
  have e2 : (((r.drop f).take (b - f)).reverse).length = b - f := by rw [List.length_reverse, List.length_take, List.length_drop]; omega
  have e3 : ((r.drop f).take (b - f)).length = b - f := by rw [List.length_take, List.length_drop]; omega
  unfold rnd
  rw [List.append_assoc, List.take_append, e1, List.take_of_length_le (by omega), hgt_app, List.take_append_of_le_length (by omega), List.take_reverse, e3, hgt_rev]
  have h1 : hgt ((r.drop f).take (b - f)) = hgt (((r.drop f).take (b - f)).take (b - f - (j - f))) + hgt (((r.drop f).take (b - f)).drop (b - f - (j - f))) := by
    rw [← hgt_app, List.take_append_drop]
  have h2 := hgt_cut r f (b - f)
  rw [List.take_take, Nat.min_eq_left (by omega)] at h1
  have h3 := hgt_cut r f (b - f - (j - f))
  rw [show f + (b - f) = b by omega] at h2
  rw [show f + (b - f - (j - f)) = f + b - j by omega] at h3
  omega
theorem rnd_hi {r : List Bool} {f b j : Nat} (hf : f ≤ b) (hb : b ≤ r.length) (h : b ≤ j) : hgt ((rnd r f b).take j) = hgt (r.take j) := by
  have e1 : (r.take f).length = f := by rw [List.length_take]; omega
  have e2 : (((r.drop f).take (b - f)).reverse).length = b - f := by rw [List.length_reverse, List.length_take, List.length_drop]; omega
  have e4 : (r.take f ++ ((r.drop f).take (b - f)).reverse).length = b := by rw [List.length_append, e1, e2]; omega
  unfold rnd
  rw [List.take_append, e4, List.take_of_length_le (by omega), hgt_app, hgt_app, hgt_rev, hgt_cut, hgt_cut]
  rw [show f + (b - f) = b by omega, show b + (j - b) = j by omega]
  omega
theorem rnd_hgt {r : List Bool} {f b : Nat} (hf : f ≤ b) (hb : b ≤ r.length) : hgt (rnd r f b) = hgt r := by
  have := rnd_hi (j := r.length) hf hb hb
  rw [List.take_length, List.take_of_length_le (by rw [rnd_len hf hb]; exact Nat.le_refl _)] at this
  exact this
theorem rnAll_hgt : ∀ (ps : List (Int × Int)) (r : List Bool), (∀ p ∈ ps, stOk r.length p) → hgt (rnAll r ps) = hgt r
  | [], r, _ => rfl
  | p :: ps, r, h => by
    have hp := h p List.mem_cons_self
    unfold stOk at hp
    have e : (rnd r p.1.toNat p.2.toNat).length = r.length := rnd_len (by omega) (by omega)
    show hgt (rnAll (rnd r p.1.toNat p.2.toNat) ps) = _
    rw [rnAll_hgt ps _ (fun q hq => by rw [e]; exact h q (List.mem_cons_of_mem _ hq))]
    exact rnd_hgt (by omega) (by omega)
/-- the greatest -/
def mxi (xs : List Int) : Int := xs.max?.getD 0
theorem mxi_of {xs : List Int} {m : Int} (h1 : m ∈ xs) (h2 : ∀ y ∈ xs, y ≤ m) : m = mxi xs := by
  unfold mxi
  rw [List.max?_eq_some_iff.mpr ⟨h1, h2⟩]
  rfl
theorem mxi_spec {xs : List Int} (h : xs ≠ []) : mxi xs ∈ xs ∧ ∀ y ∈ xs, y ≤ mxi xs := by
  unfold mxi
  cases e : xs.max? with
  | none => exact absurd (List.max?_eq_none_iff.mp e) h
  | some m => exact List.max?_eq_some_iff.mp e
/-- the places with a depth below nothing -/
def blw (r : List Bool) : List Nat := (List.range (r.length + 1)).filter fun j => decide (hgt (r.take j) < 0)
def bf (r : List Bool) : Nat := (blw r).headD 0
def bl (r : List Bool) : Nat := (blw r).getLastD 0
theorem mem_blw {r : List Bool} {j : Nat} : j ∈ blw r ↔ j ≤ r.length ∧ hgt (r.take j) < 0 := by
  unfold blw
  rw [List.mem_filter, List.mem_range, decide_eq_true_eq]
  omega
theorem blw_sorted (r : List Bool) : (blw r).Pairwise (· < ·) := List.Pairwise.sublist List.filter_sublist List.pairwise_lt_range
theorem first_le : ∀ {l : List Nat}, l.Pairwise (· < ·) → ∀ x ∈ l, l.headD 0 ≤ x
  | a :: l, h, x, hx => by
    rcases List.mem_cons.mp hx with rfl | hx
    · exact Nat.le_refl _
    · exact Nat.le_of_lt ((List.pairwise_cons.mp h).1 x hx)
theorem last_ge : ∀ {l : List Nat}, l.Pairwise (· < ·) → ∀ x ∈ l, x ≤ l.getLastD 0
  | [a], h, x, hx => by
    rw [List.mem_singleton.mp hx]
    exact Nat.le_refl _
  | a :: b :: l, h, x, hx => by
    have ih := last_ge (List.pairwise_cons.mp h).2
    have e : (a :: b :: l).getLastD 0 = (b :: l).getLastD 0 := by simp [List.getLastD]
    rw [e]
    rcases List.mem_cons.mp hx with rfl | hx
    · exact Nat.le_trans (Nat.le_of_lt ((List.pairwise_cons.mp h).1 b List.mem_cons_self)) (ih b List.mem_cons_self)
    · exact ih x hx
structure Blw (r : List Bool) (f l : Nat) : Prop where
  le : f ≤ l
  ll : l ≤ r.length
  hf : hgt (r.take f) < 0
  hl : hgt (r.take l) < 0
  lo : ∀ j, j < f → 0 ≤ hgt (r.take j)
  hi : ∀ j, j ≤ r.length → l < j → 0 ≤ hgt (r.take j)
theorem blw_law {r : List Bool} (h : blw r ≠ []) : Blw r (bf r) (bl r) := by
  have m1 : bf r ∈ blw r := by
    unfold bf
    cases e : blw r with
    | nil => exact absurd e h
    | cons a l => exact List.mem_cons_self
  have m2 : bl r ∈ blw r := by
    unfold bl
    rw [List.getLastD_eq_getLast?, List.getLast?_eq_some_getLast h]
    exact List.getLast_mem h
  have f1 := mem_blw.mp m1
  have f2 := mem_blw.mp m2
  refine ⟨first_le (blw_sorted r) _ m2, f2.1, f1.2, f2.2, fun j hj => ?_, fun j hl hj => ?_⟩
  · refine Int.not_lt.mp fun hn => ?_
    have := first_le (blw_sorted r) j (mem_blw.mpr ⟨by omega, hn⟩)
    unfold bf at hj
    omega
  · refine Int.not_lt.mp fun hn => ?_
    have := last_ge (blw_sorted r) j (mem_blw.mpr ⟨by omega, hn⟩)
    unfold bl at hj
    omega
theorem blw_some {r : List Bool} (h0 : hgt r = 0) (h : isR r = false) : blw r ≠ [] := by
  intro e
  have : isR r = true := isR_iff.mpr ⟨h0, fun j hj => Int.not_lt.mp fun hn => by
    have := mem_blw.mpr ⟨hj, hn⟩
    rw [e] at this
    cases this⟩
  rw [this] at h
  cases h
/-- greatest depth up to the first, from the last -/
def mxA (r : List Bool) : Int := mxi ((dps r).take (bf r + 1))
def mxB (r : List Bool) : Int := mxi ((dps r).drop (bl r))
theorem dps_take_mem {r : List Bool} {n : Nat} (hn : n ≤ r.length) {z : Int} : z ∈ (dps r).take (n + 1) ↔ ∃ j, j ≤ n ∧ z = hgt (r.take j) := by
  rw [List.mem_iff_getElem?]
  constructor
  · rintro ⟨j, hj⟩
    rw [List.getElem?_take] at hj
    split at hj
    · rename_i h
      rw [dps_get (by omega)] at hj
      exact ⟨j, by omega, (Option.some.inj hj).symm⟩
    · cases hj
  · rintro ⟨j, hj, rfl⟩
    exact ⟨j, by rw [List.getElem?_take, if_pos (by omega), dps_get (by omega)]⟩
theorem dps_drop_mem {r : List Bool} {n : Nat} (hn : n ≤ r.length) {z : Int} : z ∈ (dps r).drop n ↔ ∃ j, n ≤ j ∧ j ≤ r.length ∧ z = hgt (r.take j) := by
  rw [List.mem_iff_getElem?]
  constructor
  · rintro ⟨j, hj⟩
    rw [List.getElem?_drop] at hj
    have hl : n + j < (dps r).length := (List.getElem?_eq_some_iff.mp hj).1
    rw [dps_len] at hl
    rw [dps_get (by omega)] at hj
    exact ⟨n + j, by omega, by omega, (Option.some.inj hj).symm⟩
  · rintro ⟨j, h1, h2, rfl⟩
    exact ⟨j - n, by rw [List.getElem?_drop, show n + (j - n) = j by omega, dps_get h2]⟩
theorem mxA_spec {r : List Bool} (B : Blw r (bf r) (bl r)) : (∃ j, j ≤ bf r ∧ mxA r = hgt (r.take j)) ∧ ∀ j, j ≤ bf r → hgt (r.take j) ≤ mxA r := by
  have hl : bf r ≤ r.length := Nat.le_trans B.le B.ll
  have hne : (dps r).take (bf r + 1) ≠ [] := fun e => by
    have := congrArg List.length e
    rw [List.length_take, dps_len, List.length_nil] at this
    omega
  obtain ⟨h1, h2⟩ := mxi_spec hne
  exact ⟨(dps_take_mem hl).mp h1, fun j hj => h2 _ ((dps_take_mem hl).mpr ⟨j, hj, rfl⟩)⟩
theorem mxB_spec {r : List Bool} (B : Blw r (bf r) (bl r)) : (∃ j, bl r ≤ j ∧ j ≤ r.length ∧ mxB r = hgt (r.take j)) ∧ ∀ j, bl r ≤ j → j ≤ r.length → hgt (r.take j) ≤ mxB r := by
  have hl := B.ll
  have hne : (dps r).drop (bl r) ≠ [] := fun e => by
    have := congrArg List.length e
    rw [List.length_drop, dps_len] at this
    simp at this
    omega
  obtain ⟨h1, h2⟩ := mxi_spec hne
  exact ⟨(dps_drop_mem hl).mp h1, fun j h3 h4 => h2 _ ((dps_drop_mem hl).mpr ⟨j, h3, h4, rfl⟩)⟩
/-- whether stretches and a top are as told -/
def rnTop (r : List Bool) : Option Int → Bool
  | none => false
  | some z => decide ((bf r : Int) ≤ z ∧ z ≤ (bl r : Int)) && decide (mxA r + mxB r < hgt (r.take z.toNat))
def rnSh (r : List Bool) (ps : List (Int × Int)) (t : Option Int) : Bool :=
  if (∀ p ∈ ps, stOk r.length p) ∧ ps.length ≤ 2 then
    isR (rnAll r ps) && (if ps.length = 0 then t.isNone else (!isR r && (if ps.length = 1 then t.isNone else rnTop r t)))
  else false
theorem rnSh_none {r : List Bool} (h : isR r = true) : rnSh r [] none = true := by
  unfold rnSh
  rw [if_pos ⟨(fun p hp => by cases hp), by simp⟩]
  show (isR r && _) = true
  rw [h]
  rfl
theorem rn_two {r : List Bool} {f b : Nat} (h0 : hgt r = 0) (hf : f < b) (hb : b ≤ r.length) (lo : ∀ j, j < f → 0 ≤ hgt (r.take j)) (hi : ∀ j, j ≤ r.length → b < j → 0 ≤ hgt (r.take j)) (mid : ∀ k, f ≤ k → k ≤ b → hgt (r.take k) ≤ hgt (r.take f) + hgt (r.take b)) : isR (rnd r f b) = true := by
  refine isR_iff.mpr ⟨by rw [rnd_hgt (by omega) hb, h0], fun j hj => ?_⟩
  rw [rnd_len (by omega) hb] at hj
  rcases Nat.lt_or_ge j f with h1 | h1
  · rw [rnd_lo (by omega) hb (by omega)]
    exact lo j h1
  · rcases Nat.lt_or_ge b j with h2 | h2
    · rw [rnd_hi (by omega) hb (by omega)]
      exact hi j hj h2
    · rw [rnd_mid h1 h2 hb]
      have := mid (f + b - j) (by omega) (by omega)
      omega
/-- one stretch from a greatest depth up to the first to one from the last on -/
structure OneTwo (r : List Bool) (one two : Nat) : Prop where
  l1 : one < bf r
  l2 : bl r < two
  l3 : two ≤ r.length
  e1 : hgt (r.take one) = mxA r
  e2 : hgt (r.take two) = mxB r
theorem oneTwo_of {r : List Bool} (h0 : hgt r = 0) (B : Blw r (bf r) (bl r)) {one two : Nat} (l1 : one ≤ bf r) (l2 : bl r ≤ two) (l3 : two ≤ r.length) (e1 : hgt (r.take one) = mxA r) (e2 : hgt (r.take two) = mxB r) : OneTwo r one two := by
  have a := (mxA_spec B).2 0 (Nat.zero_le _)
  have b := (mxB_spec B).2 r.length B.ll (Nat.le_refl _)
  have z0 : hgt (r.take 0) = 0 := rfl
  rw [List.take_length, h0] at b
  have h1 := B.hf
  have h2 := B.hl
  refine ⟨Nat.lt_of_le_of_ne l1 fun e => ?_, Nat.lt_of_le_of_ne l2 fun e => ?_, l3, e1, e2⟩
  · rw [← e] at h1
    omega
  · rw [e] at h2
    omega
theorem rnSh_one {r : List Bool} (h0 : hgt r = 0) (hR : isR r = false) {one two : Nat} (O : OneTwo r one two) (hm : ∀ k, one ≤ k → k ≤ two → hgt (r.take k) ≤ hgt (r.take one) + hgt (r.take two)) : rnSh r [((one : Nat), (two : Nat))] none = true := by
  have B := blw_law (blw_some h0 hR)
  have l := B.le
  have l1 := O.l1
  have l2 := O.l2
  have l3 := O.l3
  unfold rnSh
  rw [if_pos ⟨(fun p hp => by rw [List.mem_singleton.mp hp]; exact ⟨by omega, by show (one : Int) < (two : Int); omega, by show (two : Int) ≤ _; omega⟩), by simp⟩]
  show (isR (rnd r one two) && (!isR r && true)) = true
  rw [hR, rn_two h0 (by omega) l3 (fun j hj => B.lo j (by omega)) (fun j hj hl => B.hi j hj (by omega)) hm]
  rfl
theorem rnSh_two {r : List Bool} (h0 : hgt r = 0) (hR : isR r = false) {most top : Nat} (hm : most ≤ r.length) (hmax : ∀ j, j ≤ r.length → hgt (r.take j) ≤ hgt (r.take most)) (t1 : bf r ≤ top) (t2 : top ≤ bl r) (t3 : mxA r + mxB r < hgt (r.take top)) :
    0 < most ∧ most < r.length ∧ rnSh r [(0, (most : Nat)), ((most : Nat), (r.length : Nat))] (some (top : Nat)) = true := by
  have B := blw_law (blw_some h0 hR)
  have a := (mxA_spec B).2 0 (Nat.zero_le _)
  have b := (mxB_spec B).2 r.length B.ll (Nat.le_refl _)
  have z0 : hgt (r.take 0) = 0 := rfl
  rw [List.take_length, h0] at b
  have c := hmax top (by have := B.ll; omega)
  have m0 : 0 < most := by
    rcases Nat.eq_zero_or_pos most with e | e
    · subst e; omega
    · exact e
  have ml : most < r.length := by
    rcases Nat.lt_or_eq_of_le hm with e | e
    · exact e
    · subst e; rw [List.take_length, h0] at c; omega
  refine ⟨m0, ml, ?_⟩
  unfold rnSh
  rw [if_pos ⟨(fun p hp => by
    rcases List.mem_cons.mp hp with rfl | hp
    · exact ⟨Int.le_refl _, by show (0 : Int) < (most : Int); omega, by show (most : Int) ≤ _; omega⟩
    · rw [List.mem_singleton.mp hp]
      exact ⟨by show (0 : Int) ≤ (most : Int); omega, by show (most : Int) < (r.length : Int); omega, Int.le_refl _⟩), by simp⟩]
  show (isR (rnd (rnd r 0 most) most r.length) && (!isR r && (decide ((bf r : Int) ≤ (top : Int) ∧ (top : Int) ≤ (bl r : Int)) && decide (mxA r + mxB r < hgt (r.take ((top : Int).toNat)))))) = true
  rw [hR, Int.toNat_natCast, decide_eq_true t3, decide_eq_true ⟨by omega, by omega⟩]
  have l1 : (rnd r 0 most).length = r.length := rnd_len (Nat.zero_le _) hm
  have hh : hgt (rnd r 0 most) = 0 := by rw [rnd_hgt (Nat.zero_le _) hm, h0]
  have h2 : isR (rnd (rnd r 0 most) most r.length) = true := by
    refine rn_two hh ml (by omega) (fun j hj => ?_) (fun j hj hl => by omega) (fun k h1 h2 => ?_)
    · rw [rnd_mid (Nat.zero_le _) (by omega) hm, z0]
      have := hmax (0 + most - j) (by omega)
      omega
    · rw [rnd_hi (Nat.zero_le _) hm h1, rnd_hi (Nat.zero_le _) hm (Nat.le_refl _), rnd_hi (Nat.zero_le _) hm hm, List.take_length, h0]
      have := hmax k h2
      omega
  rw [h2]
  rfl
/-- no one stretch -/
theorem rn_no_one {r : List Bool} (h0 : hgt r = 0) (hR : isR r = false) {top : Nat} (t1 : bf r ≤ top) (t2 : top ≤ bl r) (t3 : mxA r + mxB r < hgt (r.take top)) {f b : Nat} (hf : f ≤ b) (hb : b ≤ r.length) : isR (rnd r f b) = false := by
  cases e : isR (rnd r f b) with
  | false => rfl
  | true =>
    exfalso
    obtain ⟨_, hz⟩ := isR_iff.mp e
    rw [rnd_len hf hb] at hz
    have B := blw_law (blw_some h0 hR)
    have le := B.le
    have ll := B.ll
    have f1 : f < bf r := by
      refine Nat.not_le.mp fun hn => ?_
      have := hz (bf r) (by omega)
      rw [rnd_lo hf hb hn] at this
      have := B.hf
      omega
    have b1 : bl r < b := by
      refine Nat.not_le.mp fun hn => ?_
      have := hz (bl r) (by omega)
      rw [rnd_hi hf hb hn] at this
      have := B.hl
      omega
    have := hz (f + b - top) (by omega)
    rw [rnd_mid (by omega) (by omega) hb, show f + b - (f + b - top) = top by omega] at this
    have a := (mxA_spec B).2 f (by omega)
    have c := (mxB_spec B).2 b (by omega) hb
    omega
/-- the greatest depth from the first to the last -/
def mid (r : List Bool) : Int := mxi (((dps r).drop (bf r)).take (bl r + 1 - bf r))
theorem dps_mid_mem {r : List Bool} {a b : Nat} (hab : a ≤ b) (hb : b ≤ r.length) {z : Int} : z ∈ ((dps r).drop a).take (b + 1 - a) ↔ ∃ j, a ≤ j ∧ j ≤ b ∧ z = hgt (r.take j) := by
  rw [List.mem_iff_getElem?]
  constructor
  · rintro ⟨j, hj⟩
    rw [List.getElem?_take] at hj
    split at hj
    · rename_i h
      rw [List.getElem?_drop, dps_get (by omega)] at hj
      exact ⟨a + j, by omega, by omega, (Option.some.inj hj).symm⟩
    · cases hj
  · rintro ⟨j, h1, h2, rfl⟩
    exact ⟨j - a, by rw [List.getElem?_take, if_pos (by omega), List.getElem?_drop, show a + (j - a) = j by omega, dps_get (by omega)]⟩
theorem mid_spec {r : List Bool} (B : Blw r (bf r) (bl r)) : (∃ j, bf r ≤ j ∧ j ≤ bl r ∧ mid r = hgt (r.take j)) ∧ ∀ j, bf r ≤ j → j ≤ bl r → hgt (r.take j) ≤ mid r := by
  have h := B.le
  have hl := B.ll
  have hne : ((dps r).drop (bf r)).take (bl r + 1 - bf r) ≠ [] := fun e => by
    have := congrArg List.length e
    rw [List.length_take, List.length_drop, dps_len, List.length_nil] at this
    omega
  obtain ⟨h1, h2⟩ := mxi_spec hne
  exact ⟨(dps_mid_mem h hl).mp h1, fun j h3 h4 => h2 _ ((dps_mid_mem h hl).mpr ⟨j, h3, h4, rfl⟩)⟩
/-- how many stretches -/
def rk (r : List Bool) : Nat := if isR r = true then 0 else if mid r ≤ mxA r + mxB r then 1 else 2
theorem mx_nn {r : List Bool} (h0 : hgt r = 0) (B : Blw r (bf r) (bl r)) : 0 ≤ mxA r ∧ 0 ≤ mxB r := by
  have a := (mxA_spec B).2 0 (Nat.zero_le _)
  have b := (mxB_spec B).2 r.length B.ll (Nat.le_refl _)
  have z0 : hgt (r.take 0) = 0 := rfl
  rw [List.take_length, h0] at b
  omega
theorem one_ok {r : List Bool} (h0 : hgt r = 0) (B : Blw r (bf r) (bl r)) {one two : Nat} (O : OneTwo r one two) (hm : mid r ≤ mxA r + mxB r) : ∀ k, one ≤ k → k ≤ two → hgt (r.take k) ≤ hgt (r.take one) + hgt (r.take two) := fun k h1 h2 => by
  rw [O.e1, O.e2]
  have n := mx_nn h0 B
  have l3 := O.l3
  rcases Nat.le_total k (bf r) with h | h
  · have := (mxA_spec B).2 k h
    omega
  · rcases Nat.le_total k (bl r) with h3 | h3
    · have := (mid_spec B).2 k h h3
      omega
    · have := (mxB_spec B).2 k h3 (by omega)
      omega
theorem one_not {r : List Bool} (B : Blw r (bf r) (bl r)) {one two : Nat} (O : OneTwo r one two) (hm : ∀ k, one ≤ k → k ≤ two → hgt (r.take k) ≤ hgt (r.take one) + hgt (r.take two)) : mid r ≤ mxA r + mxB r := by
  rw [O.e1, O.e2] at hm
  obtain ⟨j, h1, h2, e⟩ := (mid_spec B).1
  rw [e]
  have := O.l1
  have := O.l2
  exact hm j (by omega) (by omega)
theorem oneTwo_ex {r : List Bool} (h0 : hgt r = 0) (B : Blw r (bf r) (bl r)) : ∃ one two, OneTwo r one two := by
  obtain ⟨a, ha, ea⟩ := (mxA_spec B).1
  obtain ⟨b, hb, hbl, eb⟩ := (mxB_spec B).1
  exact ⟨a, b, oneTwo_of h0 B ha hb hbl ea.symm eb.symm⟩
theorem rk_le {r : List Bool} : rk r ≤ 2 := by
  unfold rk
  split
  · omega
  · split <;> omega
theorem rk_zero {r : List Bool} : rk r = 0 ↔ isR r = true := by
  unfold rk
  split
  · simp [*]
  · split <;> simp [*]
theorem rk_one {r : List Bool} (h0 : hgt r = 0) (h : rk r = 1) : ∃ f b : Nat, f + 2 ≤ b ∧ b ≤ r.length ∧ isR (rnd r f b) = true := by
  have hR : isR r = false := by
    cases e : isR r with
    | false => rfl
    | true => rw [rk_zero.mpr e] at h; cases h
  have hm : mid r ≤ mxA r + mxB r := by
    unfold rk at h
    rw [hR] at h
    simp at h
    exact h
  have B := blw_law (blw_some h0 hR)
  obtain ⟨f, b, O⟩ := oneTwo_ex h0 B
  have := O.l1
  have := O.l2
  have := O.l3
  have := B.le
  exact ⟨f, b, by omega, O.l3, rn_two h0 (by omega) O.l3 (fun j hj => B.lo j (by omega)) (fun j hj hl => B.hi j hj (by omega)) (one_ok h0 B O hm)⟩
theorem rk_two {r : List Bool} (h0 : hgt r = 0) (h : rk r = 2) {f b : Nat} (hf : f ≤ b) (hb : b ≤ r.length) : isR (rnd r f b) = false := by
  have hR : isR r = false := by
    cases e : isR r with
    | false => rfl
    | true => rw [rk_zero.mpr e] at h; cases h
  have hm : mxA r + mxB r < mid r := by
    unfold rk at h
    rw [hR] at h
    simp at h
    exact h
  have B := blw_law (blw_some h0 hR)
  obtain ⟨j, h1, h2, e⟩ := (mid_spec B).1
  rw [e] at hm
  exact rn_no_one h0 hR h1 h2 hm hf hb
end BM
namespace BM
open PySem L2 Evl
def tpV : Option Int → V
  | none => .non
  | some z => .int z
abbrev rIns (C : CA) (d a : Addr) (t : Option Int) : HO := .ins C.c_Rounded d [("stretches", .ref a), ("top", tpV t)]
structure RnC (K : PySem.W.Frag) (C : CA) : Prop where
  c : Anc K C.c_Rounded
  ns : NoAttr K C.c_Rounded "stretches"
  nt : NoAttr K C.c_Rounded "top"
structure Ex04 (K : PySem.W.Frag) (C : CA) : Prop where
  u : UnC K C
  r : RnC K C
  ua : PySem.W.kitOne K (.ref C.c_Uneven) (.ref C.c_Answer) = some true
  ra : PySem.W.kitOne K (.ref C.c_Rounded) (.ref C.c_Answer) = some true
  ut : PySem.W.kitOne K (.ref C.c_Uneven) (.ref C.c_Turned) = some false
  rt : PySem.W.kitOne K (.ref C.c_Rounded) (.ref C.c_Turned) = some false
  uo : PySem.W.kitOne K (.ref C.c_Uneven) (.ref C.c_Odd) = some false
  ro : PySem.W.kitOne K (.ref C.c_Rounded) (.ref C.c_Odd) = some false
  us : PySem.W.kitOne K (.ref C.c_Uneven) (.ref C.c_Swapped) = some false
  rs : PySem.W.kitOne K (.ref C.c_Rounded) (.ref C.c_Swapped) = some false
  ur : PySem.W.kitOne K (.ref C.c_Uneven) (.ref C.c_Rounded) = some false
  ru : PySem.W.kitOne K (.ref C.c_Rounded) (.ref C.c_Uneven) = some false
/-- pairs, each a tuple that is tracked -/
def PrT (H : Hp) (xs : List V) (ps : List (Int × Int)) : Prop := Paired (fun x (p : Int × Int) => ∃ t, x = V.ref t ∧ H t = some (.tup [.int p.1, .int p.2])) xs ps
theorem PrT.ex {H H' : Hp} (e : Ex H H') {xs : List V} {ps : List (Int × Int)} (h : PrT H xs ps) : PrT H' xs ps := Paired.mapP h fun a b ⟨t, h1, h2⟩ => ⟨t, h1, e _ _ h2⟩
theorem PrT.inn {K : PySem.W.Frag} {H : Hp} {xs : List V} {ps : List (Int × Int)} (h : PrT H xs ps) : PairsIn K H xs ps := Paired.mapP h fun a b ⟨t, h1, h2⟩ => ⟨t, h1, st_of h2⟩
theorem PrT.app {H : Hp} {xs ys : List V} {ps qs : List (Int × Int)} (h1 : PrT H xs ps) (h2 : PrT H ys qs) : PrT H (xs ++ ys) (ps ++ qs) := by
  unfold PrT at h1 h2 ⊢
  induction h1 with
  | nil => exact h2
  | cons r t ih => exact .cons r ih
/-- told pairs: where each stands -/
abbrev refs (ts : List (Addr × Int × Int)) : List V := ts.map fun u => V.ref u.1
abbrev prs (ts : List (Addr × Int × Int)) : List (Int × Int) := ts.map (·.2)
abbrev tps (ts : List (Addr × Int × Int)) : List (Addr × List V) := ts.map fun u => (u.1, pairV u.2)
theorem prT_of {H : Hp} {ts : List (Addr × Int × Int)} (h : ∀ u ∈ ts, H u.1 = some (.tup (pairV u.2))) : PrT H (refs ts) (prs ts) := by
  induction ts with
  | nil => exact .nil
  | cons u ts ih => exact .cons ⟨u.1, rfl, h u List.mem_cons_self⟩ (ih fun w hw => h w (List.mem_cons_of_mem _ hw))
theorem prT_own {H0 : Hp} {s : Ld} {ts : List (Addr × Int × Int)} (h : tps ts ⊆ s.T) : ∀ H, Own H0 H s → PrT H (refs ts) (prs ts) := fun H o => prT_of fun u hu => o.tp (u.1, pairV u.2) (h (List.mem_map.mpr ⟨u, hu, rfl⟩))
def sp_below (K : PySem.W.Frag) (C : CA) : Sp := spU fun vs H xs => ∃ r : List Bool, vs = [.str (T r)] ∧ r.length ≤ 1000 ∧ blw r ≠ [] ∧ xs = pairV ((bf r : Int), (bl r : Int))
def sp_r_init (K : PySem.W.Frag) (C : CA) : Sp := fun vs H Q _ => ∃ (x d a : Addr) (xs : List V) (t : Option Int), RnC K C ∧ vs = [.ref x, .ref a, tpV t] ∧ H x = some (.ins C.c_Rounded d []) ∧ SqL K H a xs ∧ a ≠ x ∧
  ∀ H' a2, Ex (del x H) H' → del x H a2 = none → [a2, x].Nodup → H' x = some (rIns C d a2 t) → H' a2 = some (.lst xs) → Q .non H'
def sp_r_shows (K : PySem.W.Frag) (C : CA) : Sp := spV fun vs H v => ∃ (g d a : Addr) (xs : List V) (ps : List (Int × Int)) (t : Option Int) (r : List Bool), RnC K C ∧ vs = [.ref g, .str (T r)] ∧ H g = some (rIns C d a t) ∧ SqL K H a xs ∧ PrT H xs ps ∧ ps.length ≤ 5000 ∧ r.length ≤ 1000 ∧ v = .bl (rnSh r ps t)
def sp__law_rounded (K : PySem.W.Frag) (C : CA) : Sp := spV fun vs H v => ∃ (r : List Bool) (a : Addr) (xs : List V) (ps : List (Int × Int)) (t : Option Int), vs = [.str (T r), .ref a, tpV t] ∧ SqL K H a xs ∧ PrT H xs ps ∧ ps.length ≤ 5000 ∧ r.length ≤ 1000 ∧ v = .bl (rnSh r ps t)
def RnAns (K : PySem.W.Frag) (C : CA) (H : Hp) (x : Addr) (f : List Bool → Bool) : Prop := (∃ d z, H x = some (uIns C d z) ∧ f = fun r => unSh r z) ∨ (∃ d a t xs ps, H x = some (rIns C d a t) ∧ SqL K H a xs ∧ PrT H xs ps ∧ ps.length ≤ 5000 ∧ f = fun r => rnSh r ps t)
def sp_rounds (K : PySem.W.Frag) (C : CA) : Sp := fun vs H Q _ => ∃ r : List Bool, Ex04 K C ∧ vs = [.str (T r)] ∧ r.length ≤ 40 ∧
  (hgt r ≠ 0 → ∀ H' x d, Ex H H' → H x = none → H' x = some (uIns C d (hgt r)) → Q (.ref x) H') ∧
  (hgt r = 0 → ∀ H' x d a ts t, Ex H H' → H x = none → H a = none → [a, x].Nodup → H' x = some (rIns C d a t) → H' a = some (.lst (refs ts)) → (∀ u ∈ ts, H' u.1 = some (.tup (pairV u.2))) → rnSh r (prs ts) t = true → ts.length = rk r → Q (.ref x) H')
def sp__law_due04 (K : PySem.W.Frag) (C : CA) : Sp := spV fun vs H v => ∃ (r : List Bool) (x : Addr) (f : List Bool → Bool), Ex04 K C ∧ vs = [.str (T r), .ref x] ∧ r.length ≤ 1000 ∧ RnAns K C H x f ∧ v = .bl (f r)
def sp__law_right04 (K : PySem.W.Frag) (C : CA) : Sp := spV fun vs H v => ∃ (r : List Bool) (b : Addr) (rs : List (List Bool)), Ex04 K C ∧ vs = [.str (T r), .ref b] ∧ r.length ≤ 40 ∧ SqL K H b (rs.map fun r => .str (T r)) ∧ (∀ u ∈ rs, u.length ≤ 1000) ∧ v = .bl true
def sp__law_least04 (K : PySem.W.Frag) (C : CA) : Sp := spV fun vs H v => ∃ r : List Bool, vs = [.str (T r)] ∧ r.length ≤ 14 ∧ hgt r = 0 ∧ v = .int (rk r : Nat)
def sp_law04 (K : PySem.W.Frag) (C : CA) : Sp := spV fun vs H v => ∃ (a : Addr) (ns : List Int), Ex04 K C ∧ vs = [.ref a] ∧ SqL K H a (ns.map V.int) ∧ ns.length ≤ 63 ∧ v = .bl true
end BM
namespace BM
open PySem L2 Evl
def N_below : List Str := ["row", "found", "at", "depth"]
def rd_below (K : PySem.W.Frag) (C_ : CA) : TS :=
    (tSeq (tAsg (tLc (iEnum K (tCons (tCall (sp_depths_of K C_) [] E0 (tCons (tVar 0) tNil)) tNil)) (gTup K 2 (gCons (gName 2) (gCons (gName 3) gNil))) (tTest (tOp aLt (tVar 3) (tC (.int 0)))) (tVar 2) [2, 3]) (gName 1))
    (tRet (tTup (tCons (tOp (rIxL K) (tVar 1) (tC (.int 0))) (tCons (tOp (rIxL K) (tVar 1) (tUn aNeg (tC (.int 1)))) tNil)))))
def N_r_init : List Str := ["self", "stretches", "top"]
def rd_r_init (K : PySem.W.Frag) (C_ : CA) : TS :=
    (tSeq (sFld K (tVar 0) (tCB (aListOf K) (tCons (tVar 1) tNil)) "stretches")
    (sFld K (tVar 0) (tVar 2) "top"))
def N_r_shows : List Str := ["self", "row", "now", "found", "first", "behind", "last", "one"]
def rd_r_shows (K : PySem.W.Frag) (C_ : CA) : TS :=
    (tSeq (tPar 2 3 (tCons (tVar 1) (tCons (tCall (sp_depths_of K C_) [] E0 (tCons (tVar 1) tNil)) tNil)))
    (tSeq (tIfS (tOr (tNot (tB (tCB (aAll K) (tCons (tLc (iList K (tFld K (tVar 0) "stretches")) (gName 7) tYes (tCall (sp_is_stretch K C_) [] E0 (tCons (tVar 1) (tCons (tVar 7) tNil))) [7]) tNil)))) (tTest (tOp aGt (tCB (aLenL K) (tCons (tFld K (tVar 0) "stretches") tNil)) (tC (.int 2))))) (tRet (tC (.bl false))) tNext)
    (tSeq (tFor (iList K (tFld K (tVar 0) "stretches")) (gTup K 2 (gCons (gName 4) (gCons (gName 5) gNil))) (tAsg (tCall (sp_rounded K C_) [] E0 (tCons (tVar 2) (tCons (tVar 4) (tCons (tVar 5) tNil)))) (gName 2)))
    (tSeq (tIfS (tNot (tB (tCall (sp_is_right_row K C_) [] E0 (tCons (tVar 2) tNil)))) (tRet (tC (.bl false))) tNext)
    (tSeq (tIfS (tTest (tOp rEq (tCB (aLenL K) (tCons (tFld K (tVar 0) "stretches") tNil)) (tC (.int 0)))) (tRet (tOp aIsN (tFld K (tVar 0) "top") (tC .non))) tNext)
    (tSeq (tIfS (tB (tCall (sp_is_right_row K C_) [] E0 (tCons (tVar 1) tNil))) (tRet (tC (.bl false))) tNext)
    (tSeq (tIfS (tTest (tOp rEq (tCB (aLenL K) (tCons (tFld K (tVar 0) "stretches") tNil)) (tC (.int 1)))) (tRet (tOp aIsN (tFld K (tVar 0) "top") (tC .non))) tNext)
    (tSeq (tAsg (tCall (sp_below K C_) [] E0 (tCons (tVar 1) tNil)) (gTup K 2 (gCons (gName 4) (gCons (gName 6) gNil))))
    (tSeq (tIfS (tOr (tTest (tOp aIsN (tFld K (tVar 0) "top") (tC .non))) (tNot (tTest (tChain aLe aLe (tVar 4) (tFld K (tVar 0) "top") (tVar 6))))) (tRet (tC (.bl false))) tNext)
    (tRet (tOp aGt (tOp (rIxL K) (tVar 3) (tFld K (tVar 0) "top")) (tOp aAdd (tCB (rMax K) (tCons (tSl (rSlL K) (tVar 3) tNoPart (tPart (tOp aAdd (tVar 4) (tC (.int 1))))) tNil)) (tCB (rMax K) (tCons (tSl (rSlL K) (tVar 3) (tPart (tVar 6)) tNoPart) tNil))))))))))))))
def N_rounds : List Str := ["row", "found", "one", "two", "most", "first", "last"]
def rd_rounds (K : PySem.W.Frag) (C_ : CA) : TS :=
    (tSeq (tDrop (tCall (sp_asked_row K C_) [] E0 (tCons (tVar 0) tNil)))
    (tSeq (tAsg (tCall (sp_depths_of K C_) [] E0 (tCons (tVar 0) tNil)) (gName 1))
    (tSeq (tIfS (tTest (tOp rNe (tOp (rIxL K) (tVar 1) (tUn aNeg (tC (.int 1)))) (tC (.int 0)))) (tRet (tMake C_.c_Uneven (sp_u_init K C_) [] E0 (tCons (tOp (rIxL K) (tVar 1) (tUn aNeg (tC (.int 1)))) tNil))) tNext)
    (tSeq (tIfS (tB (tCall (sp_is_right_row K C_) [] E0 (tCons (tVar 0) tNil))) (tRet (tMake C_.c_Rounded (sp_r_init K C_) [] E0 (tCons (tLst tNil) (tCons (tC .non) tNil)))) tNext)
    (tSeq (tAsg (tCall (sp_below K C_) [] E0 (tCons (tVar 0) tNil)) (gTup K 2 (gCons (gName 5) (gCons (gName 6) gNil))))
    (tSeq (tAsg (tBM K "list" (aIndex K) (tVar 1) (tCons (tCB (rMax K) (tCons (tSl (rSlL K) (tVar 1) tNoPart (tPart (tOp aAdd (tVar 5) (tC (.int 1))))) tNil)) tNil)) (gName 2))
    (tSeq (tAsg (tOp aAdd (tVar 6) (tBM K "list" (aIndex K) (tSl (rSlL K) (tVar 1) (tPart (tVar 6)) tNoPart) (tCons (tCB (rMax K) (tCons (tSl (rSlL K) (tVar 1) (tPart (tVar 6)) tNoPart) tNil)) tNil))) (gName 3))
    (tSeq (tIfS (tTest (tOp aLe (tCB (rMax K) (tCons (tSl (rSlL K) (tVar 1) (tPart (tVar 2)) (tPart (tOp aAdd (tVar 3) (tC (.int 1))))) tNil)) (tOp aAdd (tOp (rIxL K) (tVar 1) (tVar 2)) (tOp (rIxL K) (tVar 1) (tVar 3))))) (tRet (tMake C_.c_Rounded (sp_r_init K C_) [] E0 (tCons (tLst (tCons (tTup (tCons (tVar 2) (tCons (tVar 3) tNil))) tNil)) (tCons (tC .non) tNil)))) tNext)
    (tSeq (tAsg (tBM K "list" (aIndex K) (tVar 1) (tCons (tCB (rMax K) (tCons (tVar 1) tNil)) tNil)) (gName 4))
    (tRet (tMake C_.c_Rounded (sp_r_init K C_) [] E0 (tCons (tLst (tCons (tTup (tCons (tC (.int 0)) (tCons (tVar 4) tNil))) (tCons (tTup (tCons (tVar 4) (tCons (tCB aLenT (tCons (tVar 0) tNil)) tNil))) tNil))) (tCons (tOp aAdd (tVar 5) (tBM K "list" (aIndex K) (tSl (rSlL K) (tVar 1) (tPart (tVar 5)) (tPart (tOp aAdd (tVar 6) (tC (.int 1))))) (tCons (tCB (rMax K) (tCons (tSl (rSlL K) (tVar 1) (tPart (tVar 5)) (tPart (tOp aAdd (tVar 6) (tC (.int 1))))) tNil)) tNil))) tNil)))))))))))))
def N__law_rounded : List Str := ["_law_row_here", "_law_stretches", "_law_top", "_law_now", "_law_found", "_law_low", "_law_at", "_law_depth"]
def rd__law_rounded (K : PySem.W.Frag) (C_ : CA) : TS :=
    (tSeq (tIfS (tTest (tOp aGt (tCB (aLenL K) (tCons (tVar 1) tNil)) (tC (.int 2)))) (tRet (tC (.bl false))) tNext)
    (tSeq (tAsg (tCall (sp__law_round K C_) [] E0 (tCons (tVar 0) (tCons (tVar 1) tNil))) (gName 3))
    (tSeq (tIfS (tOr (tTest (tOp aIsN (tVar 3) (tC .non))) (tOr (tNot (tB (tCall (sp__law_good K C_) [] E0 (tCons (tVar 3) tNil)))) (tAnd (tTest (tOp (rNeD K) (tVar 1) (tLst tNil))) (tB (tCall (sp__law_good K C_) [] E0 (tCons (tVar 0) tNil)))))) (tRet (tC (.bl false))) tNext)
    (tSeq (tIfS (tTest (tOp aLt (tCB (aLenL K) (tCons (tVar 1) tNil)) (tC (.int 2)))) (tRet (tOp aIsN (tVar 2) (tC .non))) tNext)
    (tSeq (tAsg (tCall (sp__law_depths K C_) [] E0 (tCons (tVar 0) tNil)) (gName 4))
    (tSeq (tAsg (tLc (iEnum K (tCons (tVar 4) tNil)) (gTup K 2 (gCons (gName 6) (gCons (gName 7) gNil))) (tTest (tOp aLt (tVar 7) (tC (.int 0)))) (tVar 6) [6, 7]) (gName 5))
    (tSeq (tIfS (tOr (tTest (tOp aIsN (tVar 2) (tC .non))) (tNot (tTest (tChain aLe aLe (tOp (rIxL K) (tVar 5) (tC (.int 0))) (tVar 2) (tOp (rIxL K) (tVar 5) (tUn aNeg (tC (.int 1)))))))) (tRet (tC (.bl false))) tNext)
    (tRet (tOp aGt (tOp (rIxL K) (tVar 4) (tVar 2)) (tOp aAdd (tCB (rMax K) (tCons (tSl (rSlL K) (tVar 4) tNoPart (tPart (tOp aAdd (tOp (rIxL K) (tVar 5) (tC (.int 0))) (tC (.int 1))))) tNil)) (tCB (rMax K) (tCons (tSl (rSlL K) (tVar 4) (tPart (tOp (rIxL K) (tVar 5) (tUn aNeg (tC (.int 1))))) tNoPart) tNil))))))))))))
def N__law_due04 : List Str := ["_law_row_here", "_law_answer"]
def rd__law_due04 (K : PySem.W.Frag) (C_ : CA) : TS :=
    (tSeq (tIfS (tB (tCB (aIsiC K C_.c_Uneven) (tCons (tVar 1) (tCons (tC (.ref C_.c_Uneven)) tNil)))) (tRet (tCall (sp__law_uneven K C_) [] E0 (tCons (tVar 0) (tCons (tFld K (tVar 1) "depth") tNil)))) tNext)
    (tRet (tCall (sp__law_rounded K C_) [] E0 (tCons (tVar 0) (tCons (tFld K (tVar 1) "stretches") (tCons (tFld K (tVar 1) "top") tNil))))))
def N__law_right04 : List Str := ["_law_row_here", "_law_others", "_law_even", "_law_again", "_law_answer", "_law_other"]
def rd__law_right04 (K : PySem.W.Frag) (C_ : CA) : TS :=
    (tSeq (tAsg (tOp rEq (tBM K "str" aCountT (tVar 0) (tCons (tC (.str (T [true]))) tNil)) (tBM K "str" aCountT (tVar 0) (tCons (tC (.str (T [false]))) tNil))) (gName 2))
    (tSeq (tFor (iRng1 (tCons (tC (.int 2)) tNil)) (gName 3) (tSeq (tAsg (tCall (sp_rounds K C_) [] E0 (tCons (tVar 0) tNil)) (gName 4))
    (tSeq (tIfS (tOr (tNot (tB (tCB (aIsiC K C_.c_Answer) (tCons (tVar 4) (tCons (tC (.ref C_.c_Answer)) tNil))))) (tB (tCB (aIsiC K C_.c_Turned) (tCons (tVar 4) (tCons (tC (.ref C_.c_Turned)) tNil))))) (tRet (tC (.bl false))) tNext)
    (tSeq (tIfS (tOr (tB (tCB (aIsiC K C_.c_Odd) (tCons (tVar 4) (tCons (tC (.ref C_.c_Odd)) tNil)))) (tB (tCB (aIsiC K C_.c_Swapped) (tCons (tVar 4) (tCons (tC (.ref C_.c_Swapped)) tNil))))) (tRet (tC (.bl false))) tNext)
    (tSeq (tIfS (tTest (tOp (rNeD K) (tLst (tCons (tCB (aIsiC K C_.c_Rounded) (tCons (tVar 4) (tCons (tC (.ref C_.c_Rounded)) tNil))) (tCons (tCB (aIsiC K C_.c_Uneven) (tCons (tVar 4) (tCons (tC (.ref C_.c_Uneven)) tNil))) tNil))) (tLst (tCons (tVar 2) (tCons (tNotV (tVar 2)) tNil))))) (tRet (tC (.bl false))) tNext)
    (tSeq (tIfS (tOr (tNot (tB (tCall (sp__law_due04 K C_) [] E0 (tCons (tVar 0) (tCons (tVar 4) tNil))))) (tTest (tOp aNotB (tMethU C_.c_Uneven C_.c_Rounded "shows" (sp_u_shows K C_) (sp_r_shows K C_) E0 (tVar 4) (tCons (tVar 0) tNil)) (tC (.bl true))))) (tRet (tC (.bl false))) tNext)
    (tSeq (tFor (iList K (tVar 1)) (gName 5) (tIfS (tTest (tOp rNe (tMethU C_.c_Uneven C_.c_Rounded "shows" (sp_u_shows K C_) (sp_r_shows K C_) E0 (tVar 4) (tCons (tVar 5) tNil)) (tCall (sp__law_due04 K C_) [] E0 (tCons (tVar 5) (tCons (tVar 4) tNil))))) (tRet (tC (.bl false))) tNext))
    (tIfS (tB (tVar 2)) (tSeq (tDrop (tBM K "list" rAppend (tFld K (tVar 4) "stretches") (tCons (tTup (tCons (tC (.int 0)) (tCons (tOp aAdd (tCB aLenT (tCons (tVar 0) tNil)) (tC (.int 1))) tNil))) tNil)))
    (tIfS (tTest (tOp aNotB (tMethU C_.c_Uneven C_.c_Rounded "shows" (sp_u_shows K C_) (sp_r_shows K C_) E0 (tVar 4) (tCons (tVar 0) tNil)) (tC (.bl false)))) (tRet (tC (.bl false))) tNext)) tNext))))))))
    (tRet (tC (.bl true)))))
def N__law_least04 : List Str := ["_law_row_here", "_law_first", "_law_behind"]
def rd__law_least04 (K : PySem.W.Frag) (C_ : CA) : TS :=
    (tSeq (tIfS (tB (tCall (sp__law_good K C_) [] E0 (tCons (tVar 0) tNil))) (tRet (tC (.int 0))) tNext)
    (tSeq (tFor (iRng1 (tCons (tCB aLenT (tCons (tVar 0) tNil)) tNil)) (gName 1) (tFor (iRng2 (tCons (tOp aAdd (tVar 1) (tC (.int 2))) (tCons (tOp aAdd (tCB aLenT (tCons (tVar 0) tNil)) (tC (.int 1))) tNil))) (gName 2) (tIfS (tB (tCall (sp__law_good K C_) [] E0 (tCons (tCall (sp__law_round K C_) [] E0 (tCons (tVar 0) (tCons (tLst (tCons (tTup (tCons (tVar 1) (tCons (tVar 2) tNil))) tNil)) tNil))) tNil))) (tRet (tC (.int 1))) tNext)))
    (tRet (tC (.int 2)))))
def N_law04 : List Str := ["_law_script", "_law_by", "_law_row_here", "_law_told"]
def rd_law04 (K : PySem.W.Frag) (C_ : CA) : TS :=
    (tSeq (tFor (iList K (tLst (tCons (tC (.int 0)) (tCons (tC (.int 1)) (tCons (tC (.int 2)) (tCons (tC (.int 3)) tNil)))))) (gName 1) (tSeq (tAsg (tCall (sp__law_row K C_) [] E0 (tCons (tVar 0) (tCons (tVar 1) (tCons (tC (.int 40)) (tCons (tOp aLt (tVar 1) (tC (.int 3))) tNil))))) (gName 2))
    (tSeq (tIfS (tNot (tB (tCall (sp__law_right04 K C_) [] E0 (tCons (tVar 2) (tCons (tLst (tCons (tCall (sp__law_row K C_) [] E0 (tCons (tVar 0) (tCons (tOp aAdd (tVar 1) (tC (.int 4))) (tCons (tC (.int 40)) (tCons (tC (.bl true)) tNil))))) (tCons (tRevT (tVar 2)) (tCons (tSl aSlT (tVar 2) (tPart (tC (.int 2))) tNoPart) (tCons (tC (.str (T []))) tNil))))) tNil))))) (tRet (tC (.bl false))) tNext)
    (tSeq (tAsg (tCall (sp__law_row K C_) [] E0 (tCons (tVar 0) (tCons (tOp aAdd (tVar 1) (tC (.int 8))) (tCons (tC (.int 14)) (tCons (tC (.bl true)) tNil))))) (gName 2))
    (tSeq (tAsg (tCall (sp_rounds K C_) [] E0 (tCons (tVar 2) tNil)) (gName 3))
    (tIfS (tOr (tNot (tB (tCB (aIsiC K C_.c_Rounded) (tCons (tVar 3) (tCons (tC (.ref C_.c_Rounded)) tNil))))) (tTest (tOp rNe (tCB (aLenL K) (tCons (tFld K (tVar 3) "stretches") tNil)) (tCall (sp__law_least04 K C_) [] E0 (tCons (tVar 2) tNil))))) (tRet (tC (.bl false))) tNext))))))
    (tSeq (tIfS (tTest (tOp rNe (tCB (aLenL K) (tCons (tFld K (tCall (sp_rounds K C_) [] E0 (tCons (tOp aCatT (tC (.str (T [true, false, true, false, true, false]))) (tC (.str (T [false, true, true, true, false, false, false, true])))) tNil)) "stretches") tNil)) (tC (.int 2)))) (tRet (tC (.bl false))) tNext)
    (tSeq (tIfS (tOr (tTest (tOp rNe (tCB (aLenL K) (tCons (tFld K (tCall (sp_rounds K C_) [] E0 (tCons (tC (.str (T [false, true]))) tNil)) "stretches") tNil)) (tC (.int 1)))) (tOr (tTest (tOp rNe (tCB (aLenL K) (tCons (tFld K (tCall (sp_rounds K C_) [] E0 (tCons (tC (.str (T [false, true, true, true, false, false, false, true]))) tNil)) "stretches") tNil)) (tC (.int 2)))) (tTest (tOp aNotN (tFld K (tCall (sp_rounds K C_) [] E0 (tCons (tC (.str (T [true, false]))) tNil)) "top") (tC .non))))) (tRet (tC (.bl false))) tNext)
    (tRet (tAndV (tOp rEq (tFld K (tCall (sp_rounds K C_) [] E0 (tCons (tC (.str (T [false, false, false]))) tNil)) "depth") (tUn aNeg (tC (.int 3)))) (tAndV (tOp (rIn K false) (tFld K (tCall (sp_rounds K C_) [] E0 (tCons (tC (.str (T [false, true, true, true, false, false, false, true]))) tNil)) "top") (tTup (tCons (tC (.int 3)) (tCons (tC (.int 4)) (tCons (tC (.int 5)) tNil))))) (tOp (rEqD K) (tFld K (tCall (sp_rounds K C_) [] E0 (tCons (tC (.str (T []))) tNil)) "stretches") (tLst tNil))))))))
end BM
namespace BM
open PySem L2 Evl
local macro_rules | `(tactic| walk_at "mem") => `(tactic| first | exact List.mem_cons_self | (refine List.mem_cons_of_mem _ ?_; walk_at "mem"))
local macro_rules | `(tactic| walk_at "swap") => `(tactic| first | exact Swap.here | (apply Swap.there; walk_at "swap"))
local macro_rules | `(tactic| walk_at "subl") => `(tactic| first | exact List.Sublist.refl _ | exact List.nil_sublist _ | (refine List.Sublist.cons_cons _ ?_; walk_at "subl") | (refine List.Sublist.cons _ ?_; walk_at "subl"))
local macro_rules | `(tactic| walk_at "sub") => `(tactic| first | exact Sub.refl _ | (refine ⟨?_, ?_⟩ <;> walk_at "subl"))
local macro_rules | `(tactic| walk_at "isl") => `(tactic| first | exact isL_own (by walk_at "mem") | exact isL_old (by assumption) | assumption)
local macro_rules | `(tactic| walk_at "ist") => `(tactic| first | exact isT_own (by walk_at "mem") | exact isT_old (by assumption) | assumption)
local macro_rules | `(tactic| walk_at "len") => `(tactic| first | omega | decide | (simp only [List.length_map, List.length_take, List.length_drop, List.length_append, List.length_cons, List.length_nil, List.length_reverse, dps_len, flp_len]; omega) | (simp [dps_len, flp_len]; omega) | simp)
local macro_rules | `(tactic| walk_at "b0") => `(tactic| first
  | with_reducible refine' ws_set ?_
  | with_reducible refine' ws_par ?_
  | with_reducible refine' ws_asg ?_
  | with_reducible refine' ws_drop ?_
  | with_reducible refine' ws_ret ?_
  | with_reducible refine' ws_if ?_
  | with_reducible refine' ws_next ?_
  | with_reducible refine' ws_brk ?_
  | with_reducible refine' ws_cont ?_
  | ((with_reducible refine' we_var ?hv ?_); case hv => rfl)
  | with_reducible refine' we_c ?_
  | with_reducible refine' we_op ?_
  | with_reducible refine' we_un ?_
  | with_reducible refine' we_if ?_
  | with_reducible refine' we_and ?_
  | with_reducible refine' we_or ?_
  | with_reducible refine' we_not ?_
  | with_reducible refine' wa_nil ?_
  | with_reducible refine' wa_cons ?_
  | (with_reducible refine' we_lst ?_)
  | (with_reducible refine' we_tup ?_)
  | with_reducible refine' we_cb ?_
  | with_reducible refine' we_call0 ?_
  | with_reducible refine' we_sl ?_
  | with_reducible refine' wo_none ?_
  | (with_reducible refine' wo_some ?_)
  | with_reducible refine' wt_test ?_
  | with_reducible refine' wt_B ?_
  | with_reducible refine' wt_and ?_
  | with_reducible refine' wt_or ?_
  | with_reducible refine' wt_not ?_
  | with_reducible refine' wt_yes ?_
  | with_reducible refine' we_chain ?_
  | with_reducible refine' we_chain3 ?_
  | with_reducible refine' we_revT ?_
  | with_reducible refine' we_revL ?_
  | with_reducible refine' we_bm ?_
  | with_reducible refine' we_bm0 ?_
  | with_reducible refine' ws_for ?_
  | with_reducible refine' we_lc ?_
  | with_reducible refine' wi_list ?_
  | with_reducible refine' wi_tup ?_
  | with_reducible refine' wi_T ?_
  | with_reducible refine' wi_rng1 ?_
  | with_reducible refine' wi_rng2 ?_
  | with_reducible refine' wi_rng3 ?_
  | with_reducible refine' wi_enum ?_
  | with_reducible refine' wi_enumT ?_
  | with_reducible refine' wi_zip ?_
  | with_reducible refine' wg_name ?_
  | with_reducible refine' wg_sub ?_
  | with_reducible refine' wgs_nil ?_
  | with_reducible refine' wgs_cons ?_
  | ((with_reducible refine' wg_tup ?ht ?hn ?_); (case ht => walk_at "ist"); (case hn => rfl))
  | with_reducible refine' w2_add ?_
  | with_reducible refine' w2_sub ?_
  | with_reducible refine' w2_lt ?_
  | with_reducible refine' w2_le ?_
  | with_reducible refine' w2_gt ?_
  | with_reducible refine' w2_ge ?_
  | with_reducible refine' w2_eqI ?_
  | with_reducible refine' w2_neI ?_
  | with_reducible refine' w2_eqT ?_
  | with_reducible refine' w2_neT ?_
  | with_reducible refine' w2_eqB ?_
  | with_reducible refine' w2_neB ?_
  | with_reducible refine' w2_isN ?_
  | with_reducible refine' w2_notN ?_
  | with_reducible refine' w2_isB ?_
  | with_reducible refine' w2_inT ?_
  | with_reducible refine' w1_neg ?_
  | with_reducible refine' wl_abs ?_
  | with_reducible refine' wl_max2 ?_
  | with_reducible refine' wl_min2 ?_
  | with_reducible refine' wl_intB ?_
  | ((with_reducible refine' w2_div ?h ?_); case h => first | omega | (constructor <;> omega))
  | ((with_reducible refine' w2_mod ?h ?_); case h => omega)
  | ((with_reducible refine' w2_catT ?h ?_); case h => walk_at "len")
  | ((with_reducible refine' wsl_T ?h ?_); case h => walk_at "len")
  | ((with_reducible refine' wl_lenT ?h ?_); case h => walk_at "len")
  | ((with_reducible refine' wl_len ?h ?_); case h => walk_at "isl")
  | ((with_reducible refine' wl_len ?h ?_); case h => walk_at "isl")
  | ((with_reducible refine' wm_append ?sw ?hl ?_); (case sw => walk_at "swap"); (case hl => walk_at "len")))
local macro_rules | `(tactic| walk_at "b1") => `(tactic| first | with_reducible refine' ws_seq ?_ | walk_at "b0")
local macro_rules | `(tactic| walk_at "bx") => `(tactic| first
  | refine ⟨_, rfl, ?_⟩
  | refine ⟨_, _, rfl, ?_⟩
  | refine ⟨ty_L (by walk_at "isl"), ?_⟩
  | refine ⟨ty_S, ?_⟩
  | refine spl_t (by rfl) ?_
  | refine spl_f (by rfl) ?_
  | exact rfl)
local macro_rules | `(tactic| walk_at "bm") => `(tactic| repeat (first | walk_at "b1" | walk_at "bx"))
local macro_rules | `(tactic| walk_at "bn") => `(tactic| repeat (first | walk_at "b0" | walk_at "bx"))
local macro_rules | `(tactic| walk_at "b0") => `(tactic| with_reducible refine' c_deepens ?_)
local macro_rules | `(tactic| walk_at "b0") => `(tactic| ((with_reducible refine' c_depths_of ?hl ?_); (case hl => walk_at "len")))
local macro_rules | `(tactic| walk_at "b0") => `(tactic| with_reducible refine' c_is_wholeI ?_)
local macro_rules | `(tactic| walk_at "b0") => `(tactic| with_reducible refine' c_flipped ?_)
local macro_rules | `(tactic| walk_at "b0") => `(tactic| ((with_reducible refine' c_is_right_row ?hl ?_); (case hl => walk_at "len")))
local macro_rules | `(tactic| walk_at "b0") => `(tactic| ((with_reducible refine' c_asked_row ?hl ?_); (case hl => walk_at "len")))
local macro_rules | `(tactic| walk_at "b0") => `(tactic| ((with_reducible refine' c_depths ?hl ?_); (case hl => walk_at "len")))
local macro_rules | `(tactic| walk_at "b0") => `(tactic| ((with_reducible refine' c_is_right ?hl ?_); (case hl => walk_at "len")))
local macro_rules | `(tactic| walk_at "b0") => `(tactic| ((with_reducible refine' c__law_depths ?hl ?_); (case hl => walk_at "len")))
local macro_rules | `(tactic| walk_at "b0") => `(tactic| ((with_reducible refine' c__law_good ?hl ?_); (case hl => walk_at "len")))
local macro_rules | `(tactic| walk_at "b0") => `(tactic| ((with_reducible refine' wl_listOf ?hx ?_); (case hx => walk_at "isl")))
local macro_rules | `(tactic| walk_at "b0") => `(tactic| with_reducible refine' w2_notB ?_)
local macro_rules | `(tactic| walk_at "own") => `(tactic| exact own_l (by walk_at "mem"))
local macro_rules | `(tactic| walk_at "b0") => `(tactic| with_reducible refine' we_fld ?_)
local macro_rules | `(tactic| walk_at "b0") => `(tactic| refine ⟨_, _, _, _, _, rfl, own_l (by walk_at "mem"), Grw.cl (by assumption), Grw.nr (by assumption), by rfl, ?_⟩)
local macro_rules | `(tactic| walk_at "b0") => `(tactic| refine ⟨_, _, _, _, _, rfl, fun H' o => o.ex _ _ (by assumption), Grw.cl (by assumption), Grw.nr (by assumption), by rfl, ?_⟩)
local macro_rules | `(tactic| walk_at "b0") => `(tactic| with_reducible refine' we_meth ?_)
local macro_rules | `(tactic| walk_at "b0") => `(tactic| refine ⟨_, _, _, rfl, own_l (by walk_at "mem"), by rfl, ?_⟩)
local macro_rules | `(tactic| walk_at "b0") => `(tactic| refine ⟨_, _, _, rfl, fun H' o => o.ex _ _ (by assumption), by rfl, ?_⟩)
local macro_rules | `(tactic| walk_at "gown") => `(tactic| first | exact own_l (by walk_at "mem") | exact fun H' o => o.ex _ _ (by assumption))
local macro_rules | `(tactic| walk_at "b0") => `(tactic| with_reducible refine' wm_countT ?_)
local macro_rules | `(tactic| walk_at "b0") => `(tactic| with_reducible refine' we_methU ?_)
abbrev ntV (ps : List Nat) : List V := ps.map fun (p : Nat) => V.int (p : Int)
def bwi (r : List Bool) (i : Nat) : List Nat := (List.range i).filter fun j => decide (hgt (r.take j) < 0)
theorem bwi_succ (r : List Bool) (i : Nat) : ntV (bwi r (i + 1)) = ntV (bwi r i) ++ if hgt (r.take i) < 0 then [V.int (i : Int)] else [] := by
  unfold bwi ntV
  rw [List.range_succ, List.filter_append, List.map_append]
  congr 1
  simp only [List.filter_cons, List.filter_nil]
  by_cases h : hgt (r.take i) < 0 <;> simp [h]
theorem bwi_len (r : List Bool) (i : Nat) : (ntV (bwi r i)).length ≤ i := by
  unfold bwi ntV
  rw [List.length_map]
  exact Nat.le_trans (List.length_filter_le _ _) (by rw [List.length_range]; exact Nat.le_refl _)
theorem at_first {l : List Nat} (h : l ≠ []) : atI (ntV l) 0 = some (.int ((l.headD 0 : Nat) : Int)) := by
  cases l with
  | nil => exact absurd rfl h
  | cons a l => exact atI_of (by decide) rfl
theorem at_last {l : List Nat} (h : l ≠ []) : atI (ntV l) (-1) = some (.int ((l.getLastD 0 : Nat) : Int)) := by
  apply atI_m1
  rw [List.length_map, List.getElem?_map, ← List.getLast?_eq_getElem?, List.getLastD_eq_getLast?, List.getLast?_eq_some_getLast h]
  rfl
theorem blw_cp {K : PySem.W.Frag} {H0 : Hp} {σ : L2.St} {s : Ld} {Q : V → Ld → Prop} {f : Addr} {r : List Bool} {vs : List Nat} {te : TE} {tt : TT} {g : TG} (hf : (f, HO.lst ((dps r).map V.int)) ∈ s.L) (hl : r.length ≤ 1000)
    (hg : ∀ (D : Addr) (k : Nat) (p : Addr), k ≤ r.length → WG H0 g (.ref p) (wipe σ vs) ⟨(D, .lst (ntV (bwi r k))) :: s.L, (p, [.int (k : Int), .int (hgt (r.take k))]) :: s.T⟩ fun σ2 s2 => wipe σ2 vs = wipe σ vs ∧ WT H0 tt σ2 s2 fun b s3 => b = decide (hgt (r.take k) < 0) ∧ Sub ⟨(D, .lst (ntV (bwi r k))) :: s.L, s.T⟩ s3 ∧ (b = true → WE H0 te σ2 s3 fun y s4 => y = V.int (k : Int) ∧ Sub ⟨(D, .lst (ntV (bwi r k))) :: s.L, s.T⟩ s4))
    (q : ∀ D, H0 D = none → Q (.ref D) ⟨(D, .lst (ntV (blw r))) :: s.L, s.T⟩) : CompOk H0 (Ite K f) g tt te σ vs s Q := by
  refine cp_enum (xs := (dps r).map V.int) (fun i => ntV (bwi r i)) (isL_own hf) (by rw [List.length_map, dps_len]; omega) rfl (fun i hi => bwi_len r i) ?_ ?_
  · intro D i y p hi hy
    obtain ⟨z, hz, rfl⟩ := getI hy
    rw [List.length_map, dps_len] at hi
    rw [dps_get (by omega)] at hz
    cases hz
    refine fun H o R k => hg D i p (by omega) H o R fun σ2 H2 s2 o2 ⟨e, h2⟩ => k σ2 H2 s2 o2 ⟨e, fun H3 o3 R3 k3 => h2 H3 o3 R3 fun b H4 s4 o4 ⟨eb, hs, h4⟩ => k3 b H4 s4 o4 ⟨fun hb => ?_, fun hb => ?_⟩⟩
    · refine fun H5 o5 R5 k5 => h4 hb H5 o5 R5 fun y H6 s6 o6 ⟨ey, hs6⟩ => k5 y H6 s6 o6 ⟨hs6, ?_⟩
      rw [eb] at hb
      rw [bwi_succ, if_pos (of_decide_eq_true hb), ey]
    · refine ⟨hs, ?_⟩
      rw [eb] at hb
      rw [bwi_succ, if_neg (of_decide_eq_false hb), List.append_nil]
  · intro D hD
    rw [List.length_map, dps_len]
    exact q D hD
theorem ln_below {K : PySem.W.Frag} {C : CA} {vs : List V} {H : Hp} {Q : VK} {E : XK} (h : sp_below K C vs H Q E) : vs.length = 1 := by
  obtain ⟨_, ⟨r, rfl, _⟩, _⟩ := h
  rfl
theorem pu_below {K : PySem.W.Frag} {C : CA} {vs : List V} {H : Hp} {Q : VK} {E : XK} (h : sp_below K C vs H Q E) : rd_below K C { nx := fun _ H' => Q .non H', rt := Q } (start N_below vs) H := by
  obtain ⟨_, ⟨r, rfl, hl, hb, rfl⟩, k⟩ := h
  refine body_U ?_ k
  unfold rd_below
  refine ws_seq ?_
  walk_at "bn"
  intro f hf
  walk_at "bn"
  refine ⟨f, _, rfl, by walk_at "isl", ?_⟩
  refine blw_cp (r := r) (by walk_at "mem") hl ?_ ?_
  · intro D i p hi
    walk_at "bm"
    refine ⟨rfl, ?_⟩
    walk_at "bm"
    refine ⟨rfl, by walk_at "sub", fun h => ?_⟩
    walk_at "bm"
    exact ⟨rfl, by walk_at "sub"⟩
  intro a ha
  walk_at "bm"
  refine w2_ixL (by walk_at "isl") (at_first hb) ?_
  walk_at "bm"
  refine w2_ixL (by walk_at "isl") (at_last hb) ?_
  walk_at "bm"
  exact ⟨by simp, fun p hp => ⟨p, rfl, List.mem_cons_self⟩⟩
theorem c_below {K : PySem.W.Frag} {C : CA} {H0 : Hp} {s : Ld} {Q : V → Ld → Prop} {E : XK} {r : List Bool} (hl : r.length ≤ 1000) (hb : blw r ≠ []) (q : ∀ p, Q (.ref p) ⟨s.L, (p, [.int (bf r : Int), .int (bl r : Int)]) :: s.T⟩) : WC H0 (sp_below K C) E [.str (T r)] s Q := wc_U (fun H o => ⟨r, rfl, hl, hb, rfl⟩) q
theorem ln_r_init {K : PySem.W.Frag} {C : CA} {vs : List V} {H : Hp} {Q : VK} {E : XK} (h : sp_r_init K C vs H Q E) : vs.length = 3 := by
  obtain ⟨x, d, a, xs, t, _, rfl, _⟩ := h
  rfl
theorem pu_r_init {K : PySem.W.Frag} {C : CA} {vs : List V} {H : Hp} {Q : VK} {E : XK} (h : sp_r_init K C vs H Q E) : rd_r_init K C { nx := fun _ H' => Q .non H', rt := Q } (start N_r_init vs) H := by
  obtain ⟨x, d, a, xs, t, hT, rfl, hx, ha, hax, k⟩ := h
  have ha' : SqL K (del x H) a xs := sq_del hax ha
  have h1 : WS (del x H) (rd_r_init K C) (start N_r_init [.ref x, .ref a, tpV t]) ⟨[(x, .ins C.c_Rounded d [])], []⟩ { nx := fun _ s => ∃ a2, Sub ⟨[(a2, .lst xs), (x, rIns C d a2 t)], []⟩ s, rt := fun _ _ => False } := by
    unfold rd_r_init
    refine ws_seq (ws_fld ?_)
    walk_at "bm"
    intro a2 ha2
    walk_at "bm"
    refine ⟨x, _, d, [], _, rfl, Swap.there Swap.here, hT.c.cl, hT.ns, by decide, ?_⟩
    refine ws_fld ?_
    walk_at "bm"
    refine ⟨x, _, d, _, _, rfl, Swap.there Swap.here, hT.c.cl, hT.nt, by show 1 < 1000; decide, ?_⟩
    exact ⟨a2, Sub.refl _⟩
  refine h1 H (own_del hx) _ ⟨fun σ H' s w ⟨a2, hs⟩ => ?_, (fun _ _ _ _ q => q.elim), (fun _ _ _ _ q => q.elim), (fun _ _ _ _ q => q.elim)⟩
  have w2 := w.sub hs
  have nd : [a2, x].Nodup := w2.nd
  have ma := w2.own (a2, .lst xs) List.mem_cons_self
  exact k H' a2 w.ex ma.1 nd (w2.own (x, rIns C d a2 t) (List.mem_cons_of_mem _ List.mem_cons_self)).2 ma.2
theorem c_r_init {K : PySem.W.Frag} {C : CA} {H0 : Hp} {Q : V → Ld → Prop} {E : XK} {x d a : Addr} {xs : List V} {t : Option Int} {L : List (Addr × HO)} {T : List (Addr × List V)} (hT : RnC K C) (ha : (a, HO.lst xs) ∈ L) (q : ∀ a2, H0 a2 = none → Q .non ⟨(a2, .lst xs) :: (x, rIns C d a2 t) :: L, T⟩) : WC H0 (sp_r_init K C) E [.ref x, .ref a, tpV t] ⟨(x, .ins C.c_Rounded d []) :: L, T⟩ Q := fun H o R k => by
  have hk : x ∉ L.map (·.1) := (List.nodup_cons.mp o.nd).1
  have hax : a ≠ x := fun e => hk (List.mem_map.mpr ⟨_, ha, e⟩)
  refine ⟨x, d, a, xs, t, hT, rfl, (o.own _ List.mem_cons_self).2, sq_of (o.own _ (List.mem_cons_of_mem _ ha)).2, hax, fun H' a2 e h1 nd hx h3 => ?_⟩
  have a2x : a2 ≠ x := fun e => (List.nodup_cons.mp nd).1 (by rw [e]; exact List.mem_cons_self)
  rw [del_ne a2x] at h1
  have w1 := own_after o (Swap.here (o := .ins C.c_Rounded d []) (o' := rIns C d a2 t)) trivial e hx
  have w2 := own_add w1 (fresh_back o.ex h1) (show a2 ∉ x :: L.map (·.1) from own_key o h1) h3
  exact k _ _ _ w2 (q a2 (fresh_back o.ex h1))
theorem we_rounded {K : PySem.W.Frag} {C : CA} {H0 : Hp} {σ : L2.St} {s : Ld} {Q : V → Ld → Prop} {E : XK} {ta : TA} (hT : RnC K C) (h : WA H0 ta σ s fun vs s1 => ∃ (a : Addr) (xs : List V) (t : Option Int), vs = [.ref a, tpV t] ∧ (a, HO.lst xs) ∈ s1.L ∧ ∀ x dx a2, H0 x = none → H0 a2 = none → Q (.ref x) ⟨(a2, .lst xs) :: (x, rIns C dx a2 t) :: (dx, .own x) :: s1.L, s1.T⟩) : WE H0 (tMake C.c_Rounded (sp_r_init K C) [] E ta) σ s Q :=
  we_make fun H o R k => h H o R fun vs H1 s1 o1 ⟨a, xs, t, e, ma, q⟩ => k _ _ _ o1 fun x dx hx hdx hne => by
    subst e
    exact c_r_init hT (List.mem_cons_of_mem _ ma) fun a2 h1 => ⟨rfl, q x dx a2 hx h1⟩
theorem rnSh_eq {r : List Bool} {ps : List (Int × Int)} {t : Option Int} (h1 : ∀ p ∈ ps, stOk r.length p) (h2 : ps.length ≤ 2) : rnSh r ps t = (isR (rnAll r ps) && (if ps.length = 0 then t.isNone else (!isR r && (if ps.length = 1 then t.isNone else rnTop r t)))) := if_pos ⟨h1, h2⟩
theorem rnSh_bad {r : List Bool} {ps : List (Int × Int)} {t : Option Int} (h : ¬ ((∀ p ∈ ps, stOk r.length p) ∧ ps.length ≤ 2)) : rnSh r ps t = false := if_neg h
theorem tpV_non {t : Option Int} : decide (tpV t = .non) = t.isNone := by
  cases t with
  | none => rfl
  | some z => exact decide_eq_false (fun h => nomatch h)
theorem atI_dps4 {r : List Bool} {z : Int} (h0 : 0 ≤ z) (h1 : z ≤ (r.length : Int)) : atI ((dps r).map V.int) z = some (.int (hgt (r.take z.toNat))) := atI_of h0 (by rw [List.getElem?_map, dps_get (by omega)]; rfl)
end BM
namespace BM
open PySem L2 Evl
local macro_rules | `(tactic| walk_at "mem") => `(tactic| first | exact List.mem_cons_self | (refine List.mem_cons_of_mem _ ?_; walk_at "mem"))
local macro_rules | `(tactic| walk_at "swap") => `(tactic| first | exact Swap.here | (apply Swap.there; walk_at "swap"))
local macro_rules | `(tactic| walk_at "subl") => `(tactic| first | exact List.Sublist.refl _ | exact List.nil_sublist _ | (refine List.Sublist.cons_cons _ ?_; walk_at "subl") | (refine List.Sublist.cons _ ?_; walk_at "subl"))
local macro_rules | `(tactic| walk_at "sub") => `(tactic| first | exact Sub.refl _ | (refine ⟨?_, ?_⟩ <;> walk_at "subl"))
local macro_rules | `(tactic| walk_at "isl") => `(tactic| first | exact isL_own (by walk_at "mem") | exact isL_old (by assumption) | assumption)
local macro_rules | `(tactic| walk_at "ist") => `(tactic| first | exact isT_own (by walk_at "mem") | exact isT_old (by assumption) | assumption)
local macro_rules | `(tactic| walk_at "len") => `(tactic| first | omega | decide | (simp only [List.length_map, List.length_take, List.length_drop, List.length_append, List.length_cons, List.length_nil, List.length_reverse, dps_len, flp_len]; omega) | (simp [dps_len, flp_len]; omega) | simp)
local macro_rules | `(tactic| walk_at "b0") => `(tactic| first
  | with_reducible refine' ws_set ?_
  | with_reducible refine' ws_par ?_
  | with_reducible refine' ws_asg ?_
  | with_reducible refine' ws_drop ?_
  | with_reducible refine' ws_ret ?_
  | with_reducible refine' ws_if ?_
  | with_reducible refine' ws_next ?_
  | with_reducible refine' ws_brk ?_
  | with_reducible refine' ws_cont ?_
  | ((with_reducible refine' we_var ?hv ?_); case hv => rfl)
  | with_reducible refine' we_c ?_
  | with_reducible refine' we_op ?_
  | with_reducible refine' we_un ?_
  | with_reducible refine' we_if ?_
  | with_reducible refine' we_and ?_
  | with_reducible refine' we_or ?_
  | with_reducible refine' we_not ?_
  | with_reducible refine' wa_nil ?_
  | with_reducible refine' wa_cons ?_
  | (with_reducible refine' we_lst ?_)
  | (with_reducible refine' we_tup ?_)
  | with_reducible refine' we_cb ?_
  | with_reducible refine' we_call0 ?_
  | with_reducible refine' we_sl ?_
  | with_reducible refine' wo_none ?_
  | (with_reducible refine' wo_some ?_)
  | with_reducible refine' wt_test ?_
  | with_reducible refine' wt_B ?_
  | with_reducible refine' wt_and ?_
  | with_reducible refine' wt_or ?_
  | with_reducible refine' wt_not ?_
  | with_reducible refine' wt_yes ?_
  | with_reducible refine' we_chain ?_
  | with_reducible refine' we_chain3 ?_
  | with_reducible refine' we_revT ?_
  | with_reducible refine' we_revL ?_
  | with_reducible refine' we_bm ?_
  | with_reducible refine' we_bm0 ?_
  | with_reducible refine' ws_for ?_
  | with_reducible refine' we_lc ?_
  | with_reducible refine' wi_list ?_
  | with_reducible refine' wi_tup ?_
  | with_reducible refine' wi_T ?_
  | with_reducible refine' wi_rng1 ?_
  | with_reducible refine' wi_rng2 ?_
  | with_reducible refine' wi_rng3 ?_
  | with_reducible refine' wi_enum ?_
  | with_reducible refine' wi_enumT ?_
  | with_reducible refine' wi_zip ?_
  | with_reducible refine' wg_name ?_
  | with_reducible refine' wg_sub ?_
  | with_reducible refine' wgs_nil ?_
  | with_reducible refine' wgs_cons ?_
  | ((with_reducible refine' wg_tup ?ht ?hn ?_); (case ht => walk_at "ist"); (case hn => rfl))
  | with_reducible refine' w2_add ?_
  | with_reducible refine' w2_sub ?_
  | with_reducible refine' w2_lt ?_
  | with_reducible refine' w2_le ?_
  | with_reducible refine' w2_gt ?_
  | with_reducible refine' w2_ge ?_
  | with_reducible refine' w2_eqI ?_
  | with_reducible refine' w2_neI ?_
  | with_reducible refine' w2_eqT ?_
  | with_reducible refine' w2_neT ?_
  | with_reducible refine' w2_eqB ?_
  | with_reducible refine' w2_neB ?_
  | with_reducible refine' w2_isN ?_
  | with_reducible refine' w2_notN ?_
  | with_reducible refine' w2_isB ?_
  | with_reducible refine' w2_inT ?_
  | with_reducible refine' w1_neg ?_
  | with_reducible refine' wl_abs ?_
  | with_reducible refine' wl_max2 ?_
  | with_reducible refine' wl_min2 ?_
  | with_reducible refine' wl_intB ?_
  | ((with_reducible refine' w2_div ?h ?_); case h => first | omega | (constructor <;> omega))
  | ((with_reducible refine' w2_mod ?h ?_); case h => omega)
  | ((with_reducible refine' w2_catT ?h ?_); case h => walk_at "len")
  | ((with_reducible refine' wsl_T ?h ?_); case h => walk_at "len")
  | ((with_reducible refine' wl_lenT ?h ?_); case h => walk_at "len")
  | ((with_reducible refine' wl_len ?h ?_); case h => walk_at "isl")
  | ((with_reducible refine' wl_len ?h ?_); case h => walk_at "isl")
  | ((with_reducible refine' wm_append ?sw ?hl ?_); (case sw => walk_at "swap"); (case hl => walk_at "len")))
local macro_rules | `(tactic| walk_at "b1") => `(tactic| first | with_reducible refine' ws_seq ?_ | walk_at "b0")
local macro_rules | `(tactic| walk_at "bx") => `(tactic| first
  | refine ⟨_, rfl, ?_⟩
  | refine ⟨_, _, rfl, ?_⟩
  | refine ⟨ty_L (by walk_at "isl"), ?_⟩
  | refine ⟨ty_S, ?_⟩
  | refine spl_t (by rfl) ?_
  | refine spl_f (by rfl) ?_
  | exact rfl)
local macro_rules | `(tactic| walk_at "bm") => `(tactic| repeat (first | walk_at "b1" | walk_at "bx"))
local macro_rules | `(tactic| walk_at "bn") => `(tactic| repeat (first | walk_at "b0" | walk_at "bx"))
local macro_rules | `(tactic| walk_at "b0") => `(tactic| with_reducible refine' c_deepens ?_)
local macro_rules | `(tactic| walk_at "b0") => `(tactic| ((with_reducible refine' c_depths_of ?hl ?_); (case hl => walk_at "len")))
local macro_rules | `(tactic| walk_at "b0") => `(tactic| with_reducible refine' c_is_wholeI ?_)
local macro_rules | `(tactic| walk_at "b0") => `(tactic| with_reducible refine' c_flipped ?_)
local macro_rules | `(tactic| walk_at "b0") => `(tactic| ((with_reducible refine' c_is_right_row ?hl ?_); (case hl => walk_at "len")))
local macro_rules | `(tactic| walk_at "b0") => `(tactic| ((with_reducible refine' c_asked_row ?hl ?_); (case hl => walk_at "len")))
local macro_rules | `(tactic| walk_at "b0") => `(tactic| ((with_reducible refine' c_depths ?hl ?_); (case hl => walk_at "len")))
local macro_rules | `(tactic| walk_at "b0") => `(tactic| ((with_reducible refine' c_is_right ?hl ?_); (case hl => walk_at "len")))
local macro_rules | `(tactic| walk_at "b0") => `(tactic| ((with_reducible refine' c__law_depths ?hl ?_); (case hl => walk_at "len")))
local macro_rules | `(tactic| walk_at "b0") => `(tactic| ((with_reducible refine' c__law_good ?hl ?_); (case hl => walk_at "len")))
local macro_rules | `(tactic| walk_at "b0") => `(tactic| ((with_reducible refine' wl_listOf ?hx ?_); (case hx => walk_at "isl")))
local macro_rules | `(tactic| walk_at "b0") => `(tactic| with_reducible refine' w2_notB ?_)
local macro_rules | `(tactic| walk_at "own") => `(tactic| exact own_l (by walk_at "mem"))
local macro_rules | `(tactic| walk_at "b0") => `(tactic| with_reducible refine' we_fld ?_)
local macro_rules | `(tactic| walk_at "b0") => `(tactic| refine ⟨_, _, _, _, _, rfl, own_l (by walk_at "mem"), Grw.cl (by assumption), Grw.nr (by assumption), by rfl, ?_⟩)
local macro_rules | `(tactic| walk_at "b0") => `(tactic| refine ⟨_, _, _, _, _, rfl, fun H' o => o.ex _ _ (by assumption), Grw.cl (by assumption), Grw.nr (by assumption), by rfl, ?_⟩)
local macro_rules | `(tactic| walk_at "b0") => `(tactic| with_reducible refine' we_meth ?_)
local macro_rules | `(tactic| walk_at "b0") => `(tactic| refine ⟨_, _, _, rfl, own_l (by walk_at "mem"), by rfl, ?_⟩)
local macro_rules | `(tactic| walk_at "b0") => `(tactic| refine ⟨_, _, _, rfl, fun H' o => o.ex _ _ (by assumption), by rfl, ?_⟩)
local macro_rules | `(tactic| walk_at "gown") => `(tactic| first | exact own_l (by walk_at "mem") | exact fun H' o => o.ex _ _ (by assumption))
local macro_rules | `(tactic| walk_at "b0") => `(tactic| with_reducible refine' wm_countT ?_)
local macro_rules | `(tactic| walk_at "b0") => `(tactic| with_reducible refine' we_methU ?_)
theorem dec_st {n : Nat} {ps : List (Int × Int)} : (ps.map fun p => decide (stOk n p)).all id = decide (∀ p ∈ ps, stOk n p) := by
  rw [Bool.eq_iff_iff, decide_eq_true_eq, List.all_map, List.all_eq_true]
  exact ⟨fun h p hp => of_decide_eq_true (h p hp), fun h p hp => decide_eq_true (h p hp)⟩
theorem not_dec {p : Prop} [Decidable p] (h : decide p = false) : ¬ p := of_decide_eq_false h
theorem rnTop_some (r : List Bool) (z : Int) : rnTop r (some z) = (decide ((bf r : Int) ≤ z ∧ z ≤ (bl r : Int)) && decide (mxA r + mxB r < hgt (r.take z.toNat))) := rfl
theorem ln_r_shows {K : PySem.W.Frag} {C : CA} {vs : List V} {H : Hp} {Q : VK} {E : XK} (h : sp_r_shows K C vs H Q E) : vs.length = 2 := by
  obtain ⟨_, ⟨g, d, a, xs, ps, t, r, _, rfl, _⟩, _⟩ := h
  rfl
theorem rn_nb {r : List Bool} {ps : List (Int × Int)} (h1 : ∀ p ∈ ps, stOk r.length p) (h2 : isR (rnAll r ps) = true) (h3 : isR r = false) : blw r ≠ [] := by
  have h := (isR_iff.mp h2).1
  rw [rnAll_hgt ps r h1] at h
  exact blw_some h h3
theorem pu_r_shows {K : PySem.W.Frag} {C : CA} {vs : List V} {H : Hp} {Q : VK} {E : XK} (h : sp_r_shows K C vs H Q E) : rd_r_shows K C { nx := fun _ H' => Q .non H', rt := Q } (start N_r_shows vs) H := by
  obtain ⟨_, ⟨g, d, a, xs, ps, t, r, hR, rfl, hg, ha, hp, hps, hl, rfl⟩, k⟩ := h
  have hlen : xs.length = ps.length := Paired.length hp
  refine body_V ?_ k
  unfold rd_r_shows
  refine ws_cut (fun σ s => ∃ f, σ = [some (.ref g), some (.str (T r)), some (.str (T r)), some (.ref f), none, none, none, none] ∧ s = ⟨[(f, .lst ((dps r).map V.int))], []⟩) ?_ ?_
  · walk_at "bm"
    intro f hf
    walk_at "bm"
    exact ⟨_, Sub.refl _, f, rfl, rfl⟩
  rintro σ s ⟨f, rfl, rfl⟩
  refine ws_cut (fun σ s => σ = [some (.ref g), some (.str (T r)), some (.str (T r)), some (.ref f), none, none, none, none] ∧ s = ⟨[(f, .lst ((dps r).map V.int))], []⟩ ∧ (∀ p ∈ ps, stOk r.length p) ∧ ps.length ≤ 2) ?_ ?_
  · walk_at "bm"
    refine ⟨_, _, _, _, _, rfl, fun H' o => o.ex _ _ hg, hR.c.cl, hR.ns, rfl, ?_⟩
    refine ⟨_, rfl, ⟨_, isL_old ha⟩, ?_⟩
    refine cp_list (xs := xs) (fun i => ((ps.take i).map fun p => decide (stOk r.length p)).map V.bl) (isL_old ha) (by omega) rfl (fun i hi => by rw [List.length_map, List.length_map, List.length_take]; omega) ?_ ?_
    · intro D i y hi hy
      obtain ⟨p, hpi, t', rfl, ht⟩ := pairs_get hp hy
      walk_at "bm"
      refine ⟨rfl, ?_⟩
      walk_at "bm"
      refine c_is_stretch (p := p) (by omega) (fun H' o => o.ex _ _ ht) ?_
      refine ⟨Sub.refl _, ?_⟩
      rw [take_snoc hpi, List.map_append, List.map_append]
      rfl
    intro D hD
    rw [hlen, List.take_length]
    walk_at "bm"
    refine wl_all (bs := ps.map fun p => decide (stOk r.length p)) (by walk_at "isl") ?_
    rw [dec_st]
    walk_at "bm"
    refine ⟨fun h => ?_, fun h => ?_⟩
    · walk_at "bm"
      have h' : ¬ ∀ p ∈ ps, stOk r.length p := fun hh => by rw [decide_eq_true hh] at h; cases h
      show V.bl _ = V.bl _
      rw [rnSh_bad fun hh => h' hh.1]
    · have h' : ∀ p ∈ ps, stOk r.length p := by
        cases e : decide (∀ p ∈ ps, stOk r.length p) with
        | true => exact of_decide_eq_true e
        | false => rw [e] at h; cases h
      walk_at "bm"
      refine ⟨_, _, _, _, _, rfl, fun H' o => o.ex _ _ hg, hR.c.cl, hR.ns, rfl, ?_⟩
      walk_at "bm"
      refine ⟨fun h2 => ?_, fun h2 => ?_⟩
      · walk_at "bm"
        have h2' := of_decide_eq_true h2
        show V.bl _ = V.bl _
        rw [rnSh_bad fun hh => by omega]
      · walk_at "bm"
        have h2' := of_decide_eq_false h2
        exact ⟨_, by walk_at "sub", rfl, rfl, h', by omega⟩
  rintro σ s ⟨rfl, rfl, h1, h2⟩
  rw [rnSh_eq h1 h2]
  refine ws_cut (fun σ s => ∃ x4 x5, σ = [some (.ref g), some (.str (T r)), some (.str (T (rnAll r ps))), some (.ref f), x4, x5, none, none] ∧ s = ⟨[(f, .lst ((dps r).map V.int))], []⟩) ?_ ?_
  · walk_at "bm"
    refine ⟨_, _, _, _, _, rfl, fun H' o => o.ex _ _ hg, hR.c.cl, hR.ns, rfl, ?_⟩
    refine ⟨_, rfl, ⟨_, isL_old ha⟩, ?_⟩
    refine lp_list (xs := xs) (fun i σ s => ∃ x4 x5, σ = [some (.ref g), some (.str (T r)), some (.str (T (rnAll r (ps.take i)))), some (.ref f), x4, x5, none, none] ∧ s = ⟨[(f, .lst ((dps r).map V.int))], []⟩) rfl ⟨none, none, rfl, rfl⟩ (fun i σ s hi _ => isL_old ha) ?_ ?_
    · rintro i y σ s hi hy ⟨x4, x5, rfl, rfl⟩
      obtain ⟨p, hpi, t', rfl, ht⟩ := pairs_get hp hy
      have hst := h1 p (List.mem_of_getElem? hpi)
      have hl2 : (rnAll r (ps.take i)).length = r.length := rnAll_len _ _ fun q hq => h1 q (List.mem_of_mem_take hq)
      have htt : SqT K H t' [.int p.1, .int p.2] := st_of ht
      walk_at "bm"
      refine c_rounded (by omega) (by rw [hl2]; exact hst) ?_
      refine ⟨_, Sub.refl _, some (.int p.1), some (.int p.2), ?_, rfl⟩
      rw [rnAll_snoc hpi]
      rfl
    · rintro σ s ⟨x4, x5, rfl, rfl⟩
      rw [hlen, List.take_length]
      exact ⟨_, Sub.refl _, _, _, rfl, rfl⟩
  rintro σ s ⟨x4, x5, rfl, rfl⟩
  have hl2 : (rnAll r ps).length = r.length := rnAll_len _ _ h1
  refine ws_seq ?_
  refine ws_if (wt_not ?_)
  walk_at "bm"
  refine ⟨fun h3 => ?_, fun h3 => ?_⟩
  · have h3' : isR (rnAll r ps) = false := by simpa using h3
    walk_at "bm"
    show V.bl _ = V.bl _
    rw [h3']
    rfl
  have h3' : isR (rnAll r ps) = true := by simpa using h3
  rw [h3', Bool.true_and]
  walk_at "bn"
  refine ws_seq ?_
  walk_at "bn"
  refine ⟨_, _, _, _, _, rfl, fun H' o => o.ex _ _ hg, hR.c.cl, hR.ns, rfl, ?_⟩
  walk_at "bn"
  refine ⟨fun h4 => ?_, fun h4 => ?_⟩
  · have h4' : ps.length = 0 := by have := of_decide_eq_true h4; omega
    walk_at "bm"
    refine ⟨_, _, _, _, _, rfl, fun H' o => o.ex _ _ hg, hR.c.cl, hR.nt, rfl, ?_⟩
    walk_at "bm"
    show V.bl _ = V.bl _
    rw [if_pos h4', tpV_non]
  have h4' : ¬ ps.length = 0 := by have := of_decide_eq_false h4; omega
  rw [if_neg h4']
  walk_at "bn"
  refine ws_seq ?_
  walk_at "bn"
  refine ⟨fun h5 => ?_, fun h5 => ?_⟩
  · walk_at "bm"
    show V.bl _ = V.bl _
    rw [h5]
    rfl
  rw [h5, Bool.not_false, Bool.true_and]
  walk_at "bn"
  refine ws_seq ?_
  walk_at "bn"
  refine ⟨_, _, _, _, _, rfl, fun H' o => o.ex _ _ hg, hR.c.cl, hR.ns, rfl, ?_⟩
  walk_at "bn"
  refine ⟨fun h6 => ?_, fun h6 => ?_⟩
  · have h6' : ps.length = 1 := by have := of_decide_eq_true h6; omega
    walk_at "bm"
    refine ⟨_, _, _, _, _, rfl, fun H' o => o.ex _ _ hg, hR.c.cl, hR.nt, rfl, ?_⟩
    walk_at "bm"
    show V.bl _ = V.bl _
    rw [if_pos h6', tpV_non]
  have h6' : ¬ ps.length = 1 := by have := of_decide_eq_false h6; omega
  rw [if_neg h6']
  have hb := rn_nb h1 h3' h5
  have B := blw_law hb
  have hble := B.le
  have hbll := B.ll
  walk_at "bn"
  refine ws_seq ?_
  walk_at "bn"
  refine c_below (by omega) hb fun p => ?_
  walk_at "bn"
  refine ws_seq ?_
  walk_at "bn"
  refine ⟨_, _, _, _, _, rfl, fun H' o => o.ex _ _ hg, hR.c.cl, hR.nt, rfl, ?_⟩
  cases t with
  | none =>
    walk_at "bm"
  | some z =>
    walk_at "bn"
    refine ⟨_, _, _, _, V.int z, rfl, fun H' o => o.ex _ _ hg, hR.c.cl, hR.nt, rfl, ?_⟩
    walk_at "bn"
    refine ⟨fun h7 => ?_, fun h7 => ?_⟩
    · have h7' := of_decide_eq_true h7
      walk_at "bn"
      refine ⟨fun h8 => ?_, fun h8 => ?_⟩
      · have h8' : ¬ z ≤ (bl r : Int) := by simpa using h8
        walk_at "bm"
        show V.bl _ = V.bl _
        rw [rnTop_some]
        rw [decide_eq_false (fun hh => h8' hh.2)]
        rfl
      have h8' : z ≤ (bl r : Int) := by simpa using h8
      walk_at "bn"
      refine ⟨_, _, _, _, V.int z, rfl, fun H' o => o.ex _ _ hg, hR.c.cl, hR.nt, rfl, ?_⟩
      refine w2_ixL (by walk_at "isl") (atI_dps4 (by omega) (by omega)) ?_
      walk_at "bn"
      refine wsl_L (by walk_at "isl") fun p1 hp1 => ?_
      rw [cut_hi (by omega), show ((bf r : Int) + 1).toNat = bf r + 1 by omega, ← List.map_take]
      walk_at "bn"
      refine wl_max (by walk_at "isl") (by rw [List.length_take, dps_len]; omega) fun m1 m1a m1b => ?_
      have e1 : m1 = mxA r := mxi_of m1a m1b
      subst e1
      walk_at "bn"
      refine wsl_L (by walk_at "isl") fun p2 hp2 => ?_
      rw [cut_lo (by omega), Int.toNat_natCast, ← List.map_drop]
      walk_at "bn"
      refine wl_max (by walk_at "isl") (by rw [List.length_drop, dps_len]; omega) fun m2 m2a m2b => ?_
      have e2 : m2 = mxB r := mxi_of m2a m2b
      subst e2
      walk_at "bm"
      show V.bl _ = V.bl _
      rw [rnTop_some]
      rw [decide_eq_true (show (bf r : Int) ≤ z ∧ z ≤ (bl r : Int) from ⟨h7', h8'⟩)]
      rfl
    · have h7' := of_decide_eq_false h7
      walk_at "bm"
      show V.bl _ = V.bl _
      rw [rnTop_some]
      rw [decide_eq_false (fun hh => h7' hh.1)]
      rfl
theorem c_r_shows {K : PySem.W.Frag} {C : CA} {H0 : Hp} {s : Ld} {Q : V → Ld → Prop} {E : XK} {g d a : Addr} {xs : List V} {ps : List (Int × Int)} {t : Option Int} {r : List Bool} (hR : RnC K C) (hg : ∀ H, Own H0 H s → H g = some (rIns C d a t)) (ha : IsL K H0 s a xs) (hp : ∀ H, Own H0 H s → PrT H xs ps) (hps : ps.length ≤ 5000) (hl : r.length ≤ 1000) (q : Q (.bl (rnSh r ps t)) s) : WC H0 (sp_r_shows K C) E [.ref g, .str (T r)] s Q := wc_V (fun H o => ⟨g, d, a, xs, ps, t, r, hR, rfl, hg H o, ha H o, hp H o, hps, hl, rfl⟩) q
end BM
namespace BM
open PySem L2 Evl
local macro_rules | `(tactic| walk_at "mem") => `(tactic| first | exact List.mem_cons_self | (refine List.mem_cons_of_mem _ ?_; walk_at "mem"))
local macro_rules | `(tactic| walk_at "swap") => `(tactic| first | exact Swap.here | (apply Swap.there; walk_at "swap"))
local macro_rules | `(tactic| walk_at "subl") => `(tactic| first | exact List.Sublist.refl _ | exact List.nil_sublist _ | (refine List.Sublist.cons_cons _ ?_; walk_at "subl") | (refine List.Sublist.cons _ ?_; walk_at "subl"))
local macro_rules | `(tactic| walk_at "sub") => `(tactic| first | exact Sub.refl _ | (refine ⟨?_, ?_⟩ <;> walk_at "subl"))
local macro_rules | `(tactic| walk_at "isl") => `(tactic| first | exact isL_own (by walk_at "mem") | exact isL_old (by assumption) | assumption)
local macro_rules | `(tactic| walk_at "ist") => `(tactic| first | exact isT_own (by walk_at "mem") | exact isT_old (by assumption) | assumption)
local macro_rules | `(tactic| walk_at "len") => `(tactic| first | omega | decide | (simp only [List.length_map, List.length_take, List.length_drop, List.length_append, List.length_cons, List.length_nil, List.length_reverse, dps_len, flp_len]; omega) | (simp [dps_len, flp_len]; omega) | simp)
local macro_rules | `(tactic| walk_at "b0") => `(tactic| first
  | with_reducible refine' ws_set ?_
  | with_reducible refine' ws_par ?_
  | with_reducible refine' ws_asg ?_
  | with_reducible refine' ws_drop ?_
  | with_reducible refine' ws_ret ?_
  | with_reducible refine' ws_if ?_
  | with_reducible refine' ws_next ?_
  | with_reducible refine' ws_brk ?_
  | with_reducible refine' ws_cont ?_
  | ((with_reducible refine' we_var ?hv ?_); case hv => rfl)
  | with_reducible refine' we_c ?_
  | with_reducible refine' we_op ?_
  | with_reducible refine' we_un ?_
  | with_reducible refine' we_if ?_
  | with_reducible refine' we_and ?_
  | with_reducible refine' we_or ?_
  | with_reducible refine' we_not ?_
  | with_reducible refine' wa_nil ?_
  | with_reducible refine' wa_cons ?_
  | (with_reducible refine' we_lst ?_)
  | (with_reducible refine' we_tup ?_)
  | with_reducible refine' we_cb ?_
  | with_reducible refine' we_call0 ?_
  | with_reducible refine' we_sl ?_
  | with_reducible refine' wo_none ?_
  | (with_reducible refine' wo_some ?_)
  | with_reducible refine' wt_test ?_
  | with_reducible refine' wt_B ?_
  | with_reducible refine' wt_and ?_
  | with_reducible refine' wt_or ?_
  | with_reducible refine' wt_not ?_
  | with_reducible refine' wt_yes ?_
  | with_reducible refine' we_chain ?_
  | with_reducible refine' we_chain3 ?_
  | with_reducible refine' we_revT ?_
  | with_reducible refine' we_revL ?_
  | with_reducible refine' we_bm ?_
  | with_reducible refine' we_bm0 ?_
  | with_reducible refine' ws_for ?_
  | with_reducible refine' we_lc ?_
  | with_reducible refine' wi_list ?_
  | with_reducible refine' wi_tup ?_
  | with_reducible refine' wi_T ?_
  | with_reducible refine' wi_rng1 ?_
  | with_reducible refine' wi_rng2 ?_
  | with_reducible refine' wi_rng3 ?_
  | with_reducible refine' wi_enum ?_
  | with_reducible refine' wi_enumT ?_
  | with_reducible refine' wi_zip ?_
  | with_reducible refine' wg_name ?_
  | with_reducible refine' wg_sub ?_
  | with_reducible refine' wgs_nil ?_
  | with_reducible refine' wgs_cons ?_
  | ((with_reducible refine' wg_tup ?ht ?hn ?_); (case ht => walk_at "ist"); (case hn => rfl))
  | with_reducible refine' w2_add ?_
  | with_reducible refine' w2_sub ?_
  | with_reducible refine' w2_lt ?_
  | with_reducible refine' w2_le ?_
  | with_reducible refine' w2_gt ?_
  | with_reducible refine' w2_ge ?_
  | with_reducible refine' w2_eqI ?_
  | with_reducible refine' w2_neI ?_
  | with_reducible refine' w2_eqT ?_
  | with_reducible refine' w2_neT ?_
  | with_reducible refine' w2_eqB ?_
  | with_reducible refine' w2_neB ?_
  | with_reducible refine' w2_isN ?_
  | with_reducible refine' w2_notN ?_
  | with_reducible refine' w2_isB ?_
  | with_reducible refine' w2_inT ?_
  | with_reducible refine' w1_neg ?_
  | with_reducible refine' wl_abs ?_
  | with_reducible refine' wl_max2 ?_
  | with_reducible refine' wl_min2 ?_
  | with_reducible refine' wl_intB ?_
  | ((with_reducible refine' w2_div ?h ?_); case h => first | omega | (constructor <;> omega))
  | ((with_reducible refine' w2_mod ?h ?_); case h => omega)
  | ((with_reducible refine' w2_catT ?h ?_); case h => walk_at "len")
  | ((with_reducible refine' wsl_T ?h ?_); case h => walk_at "len")
  | ((with_reducible refine' wl_lenT ?h ?_); case h => walk_at "len")
  | ((with_reducible refine' wl_len ?h ?_); case h => walk_at "isl")
  | ((with_reducible refine' wl_len ?h ?_); case h => walk_at "isl")
  | ((with_reducible refine' wm_append ?sw ?hl ?_); (case sw => walk_at "swap"); (case hl => walk_at "len")))
local macro_rules | `(tactic| walk_at "b1") => `(tactic| first | with_reducible refine' ws_seq ?_ | walk_at "b0")
local macro_rules | `(tactic| walk_at "bx") => `(tactic| first
  | refine ⟨_, rfl, ?_⟩
  | refine ⟨_, _, rfl, ?_⟩
  | refine ⟨ty_L (by walk_at "isl"), ?_⟩
  | refine ⟨ty_S, ?_⟩
  | refine spl_t (by rfl) ?_
  | refine spl_f (by rfl) ?_
  | exact rfl)
local macro_rules | `(tactic| walk_at "bm") => `(tactic| repeat (first | walk_at "b1" | walk_at "bx"))
local macro_rules | `(tactic| walk_at "bn") => `(tactic| repeat (first | walk_at "b0" | walk_at "bx"))
local macro_rules | `(tactic| walk_at "b0") => `(tactic| with_reducible refine' c_deepens ?_)
local macro_rules | `(tactic| walk_at "b0") => `(tactic| ((with_reducible refine' c_depths_of ?hl ?_); (case hl => walk_at "len")))
local macro_rules | `(tactic| walk_at "b0") => `(tactic| with_reducible refine' c_is_wholeI ?_)
local macro_rules | `(tactic| walk_at "b0") => `(tactic| with_reducible refine' c_flipped ?_)
local macro_rules | `(tactic| walk_at "b0") => `(tactic| ((with_reducible refine' c_is_right_row ?hl ?_); (case hl => walk_at "len")))
local macro_rules | `(tactic| walk_at "b0") => `(tactic| ((with_reducible refine' c_asked_row ?hl ?_); (case hl => walk_at "len")))
local macro_rules | `(tactic| walk_at "b0") => `(tactic| ((with_reducible refine' c_depths ?hl ?_); (case hl => walk_at "len")))
local macro_rules | `(tactic| walk_at "b0") => `(tactic| ((with_reducible refine' c_is_right ?hl ?_); (case hl => walk_at "len")))
local macro_rules | `(tactic| walk_at "b0") => `(tactic| ((with_reducible refine' c__law_depths ?hl ?_); (case hl => walk_at "len")))
local macro_rules | `(tactic| walk_at "b0") => `(tactic| ((with_reducible refine' c__law_good ?hl ?_); (case hl => walk_at "len")))
local macro_rules | `(tactic| walk_at "b0") => `(tactic| ((with_reducible refine' wl_listOf ?hx ?_); (case hx => walk_at "isl")))
local macro_rules | `(tactic| walk_at "b0") => `(tactic| with_reducible refine' w2_notB ?_)
local macro_rules | `(tactic| walk_at "own") => `(tactic| exact own_l (by walk_at "mem"))
local macro_rules | `(tactic| walk_at "b0") => `(tactic| with_reducible refine' we_fld ?_)
local macro_rules | `(tactic| walk_at "b0") => `(tactic| refine ⟨_, _, _, _, _, rfl, own_l (by walk_at "mem"), Grw.cl (by assumption), Grw.nr (by assumption), by rfl, ?_⟩)
local macro_rules | `(tactic| walk_at "b0") => `(tactic| refine ⟨_, _, _, _, _, rfl, fun H' o => o.ex _ _ (by assumption), Grw.cl (by assumption), Grw.nr (by assumption), by rfl, ?_⟩)
local macro_rules | `(tactic| walk_at "b0") => `(tactic| with_reducible refine' we_meth ?_)
local macro_rules | `(tactic| walk_at "b0") => `(tactic| refine ⟨_, _, _, rfl, own_l (by walk_at "mem"), by rfl, ?_⟩)
local macro_rules | `(tactic| walk_at "b0") => `(tactic| refine ⟨_, _, _, rfl, fun H' o => o.ex _ _ (by assumption), by rfl, ?_⟩)
local macro_rules | `(tactic| walk_at "gown") => `(tactic| first | exact own_l (by walk_at "mem") | exact fun H' o => o.ex _ _ (by assumption))
local macro_rules | `(tactic| walk_at "b0") => `(tactic| with_reducible refine' wm_countT ?_)
local macro_rules | `(tactic| walk_at "b0") => `(tactic| with_reducible refine' we_methU ?_)
theorem at_bf {r : List Bool} (h : blw r ≠ []) : atI (ntV (blw r)) 0 = some (.int ((bf r : Nat) : Int)) := at_first h
theorem at_bl {r : List Bool} (h : blw r ≠ []) : atI (ntV (blw r)) (-1) = some (.int ((bl r : Nat) : Int)) := at_last h
theorem ln__law_rounded {K : PySem.W.Frag} {C : CA} {vs : List V} {H : Hp} {Q : VK} {E : XK} (h : sp__law_rounded K C vs H Q E) : vs.length = 3 := by
  obtain ⟨_, ⟨r, a, xs, ps, t, rfl, _⟩, _⟩ := h
  rfl
theorem pu__law_rounded {K : PySem.W.Frag} {C : CA} {vs : List V} {H : Hp} {Q : VK} {E : XK} (h : sp__law_rounded K C vs H Q E) : rd__law_rounded K C { nx := fun _ H' => Q .non H', rt := Q } (start N__law_rounded vs) H := by
  obtain ⟨_, ⟨r, a, xs, ps, t, rfl, ha, hp, hps, hl, rfl⟩, k⟩ := h
  have hlen : xs.length = ps.length := Paired.length hp
  refine body_V ?_ k
  unfold rd__law_rounded
  refine ws_seq ?_
  walk_at "bn"
  refine ⟨fun h2 => ?_, fun h2 => ?_⟩
  · have h2' := of_decide_eq_true h2
    walk_at "bm"
    show V.bl _ = V.bl _
    rw [rnSh_bad fun hh => by omega]
  have h2' : ps.length ≤ 2 := by have := of_decide_eq_false h2; omega
  walk_at "bn"
  refine ws_seq ?_
  walk_at "bn"
  refine c__law_round hl (fun H' o => ⟨xs, isL_old ha H' o, (hp.ex o.ex).inn⟩) ?_
  by_cases h1 : ∀ p ∈ ps, stOk r.length p
  · rw [if_pos h1, rnSh_eq h1 h2']
    have hl2 : (rnAll r ps).length = r.length := rnAll_len _ _ h1
    walk_at "bn"
    refine ws_cut (fun σ s => σ = [some (.str (T r)), some (.ref a), some (tpV t), some (.str (T (rnAll r ps))), none, none, none, none] ∧ s = ⟨[], []⟩ ∧ isR (rnAll r ps) = true ∧ (ps.length = 0 ∨ isR r = false)) ?_ ?_
    · walk_at "bn"
      refine ⟨fun h3 => ?_, fun h3 => ?_⟩
      · have h3' : isR (rnAll r ps) = false := by simpa using h3
        walk_at "bm"
        show V.bl _ = V.bl _
        rw [h3']
        rfl
      have h3' : isR (rnAll r ps) = true := by simpa using h3
      walk_at "bn"
      refine ⟨by simp, fun q hq => ?_⟩
      refine w2_neLP (ns := ps) (ms := []) (isL_old ha) (fun H' o => (hp.ex o.ex).inn) (ys := []) (by walk_at "isl") (fun H' o => .nil) ?_
      walk_at "bn"
      refine ⟨fun h4 => ?_, fun h4 => ?_⟩
      · have h4' : ps ≠ [] := by simpa using h4
        have h4'' : ¬ ps.length = 0 := fun e => h4' (List.length_eq_zero_iff.mp e)
        walk_at "bn"
        refine ⟨fun h5 => ?_, fun h5 => ?_⟩
        · walk_at "bm"
          show V.bl _ = V.bl _
          rw [if_neg h4'', h5, h3']
          rfl
        · walk_at "bm"
          exact ⟨_, by walk_at "sub", rfl, rfl, h3', .inr h5⟩
      · have h4' : ps = [] := by simpa using h4
        walk_at "bm"
        exact ⟨_, by walk_at "sub", rfl, rfl, h3', .inl (by rw [h4']; rfl)⟩
    rintro σ s ⟨rfl, rfl, h3, h4⟩
    rw [h3, Bool.true_and]
    refine ws_seq ?_
    walk_at "bn"
    refine ⟨fun h5 => ?_, fun h5 => ?_⟩
    · have h5' : ps.length < 2 := by have := of_decide_eq_true h5; omega
      walk_at "bm"
      show V.bl _ = V.bl _
      rw [tpV_non]
      by_cases h6 : ps.length = 0
      · rw [if_pos h6]
      · rw [if_neg h6]
        rcases h4 with h4 | h4
        · exact absurd h4 h6
        · rw [h4, if_pos (by omega)]
          rfl
    have h5' : ps.length = 2 := by have := of_decide_eq_false h5; omega
    have h6 : isR r = false := by
      rcases h4 with h4 | h4
      · omega
      · exact h4
    rw [if_neg (by omega), if_neg (by omega), h6, Bool.not_false, Bool.true_and]
    have hb := rn_nb h1 h3 h6
    have B := blw_law hb
    have hble := B.le
    have hbll := B.ll
    walk_at "bn"
    refine ws_seq ?_
    walk_at "bn"
    intro f hf
    walk_at "bn"
    refine ws_seq ?_
    walk_at "bn"
    refine ⟨f, _, rfl, by walk_at "isl", ?_⟩
    refine blw_cp (r := r) (by walk_at "mem") hl ?_ ?_
    · intro D i p hi
      walk_at "bm"
      refine ⟨rfl, ?_⟩
      walk_at "bm"
      refine ⟨rfl, by walk_at "sub", fun h => ?_⟩
      walk_at "bm"
      exact ⟨rfl, by walk_at "sub"⟩
    intro w hw
    walk_at "bn"
    refine ws_seq ?_
    cases t with
    | none =>
      show WS _ _ [some (.str (T r)), some (.ref a), some .non, some (.str (T (rnAll r ps))), some (.ref f), some (.ref w), none, none] _ _
      walk_at "bm"
    | some z =>
      show WS _ _ [some (.str (T r)), some (.ref a), some (.int z), some (.str (T (rnAll r ps))), some (.ref f), some (.ref w), none, none] _ _
      walk_at "bn"
      refine w2_ixL (by walk_at "isl") (at_bf hb) ?_
      walk_at "bn"
      refine ⟨fun h7 => ?_, fun h7 => ?_⟩
      · have h7' := of_decide_eq_true h7
        walk_at "bn"
        refine w2_ixL (by walk_at "isl") (at_bl hb) ?_
        walk_at "bn"
        refine ⟨fun h8 => ?_, fun h8 => ?_⟩
        · have h8' : ¬ z ≤ (bl r : Int) := fun hh => by rw [decide_eq_true hh] at h8; cases h8
          walk_at "bm"
          show V.bl _ = V.bl _
          rw [rnTop_some, decide_eq_false (fun hh => h8' hh.2)]
          rfl
        have h8' : z ≤ (bl r : Int) := by
          refine Classical.byContradiction fun hh => ?_
          rw [decide_eq_false hh] at h8
          cases h8
        have h7'' : (bf r : Int) ≤ z := h7'
        walk_at "bn"
        refine w2_ixL (by walk_at "isl") (atI_dps4 (by omega) (by omega)) ?_
        walk_at "bn"
        refine w2_ixL (by walk_at "isl") (at_bf hb) ?_
        walk_at "bn"
        refine wsl_L (by walk_at "isl") fun p1 hp1 => ?_
        rw [cut_hi (by omega), show ((bf r : Int) + 1).toNat = bf r + 1 by omega, ← List.map_take]
        walk_at "bn"
        refine wl_max (by walk_at "isl") (by rw [List.length_take, dps_len]; omega) fun m1 m1a m1b => ?_
        have e1 : m1 = mxA r := mxi_of m1a m1b
        subst e1
        walk_at "bn"
        refine w2_ixL (by walk_at "isl") (at_bl hb) ?_
        walk_at "bn"
        refine wsl_L (by walk_at "isl") fun p2 hp2 => ?_
        rw [cut_lo (by omega), Int.toNat_natCast, ← List.map_drop]
        walk_at "bn"
        refine wl_max (by walk_at "isl") (by rw [List.length_drop, dps_len]; omega) fun m2 m2a m2b => ?_
        have e2 : m2 = mxB r := mxi_of m2a m2b
        subst e2
        walk_at "bm"
        show V.bl _ = V.bl _
        rw [rnTop_some, decide_eq_true (show (bf r : Int) ≤ z ∧ z ≤ (bl r : Int) from ⟨h7'', h8'⟩)]
        rfl
      · have h7' : ¬ (bf r : Int) ≤ z := not_dec h7
        walk_at "bm"
        show V.bl _ = V.bl _
        rw [rnTop_some, decide_eq_false (fun hh => h7' hh.1)]
        rfl
  · rw [if_neg h1, rnSh_bad (fun hh => h1 hh.1)]
    walk_at "bm"
theorem c__law_rounded {K : PySem.W.Frag} {C : CA} {H0 : Hp} {s : Ld} {Q : V → Ld → Prop} {E : XK} {a : Addr} {xs : List V} {ps : List (Int × Int)} {t : Option Int} {r : List Bool} (ha : IsL K H0 s a xs) (hp : ∀ H, Own H0 H s → PrT H xs ps) (hps : ps.length ≤ 5000) (hl : r.length ≤ 1000) (q : Q (.bl (rnSh r ps t)) s) : WC H0 (sp__law_rounded K C) E [.str (T r), .ref a, tpV t] s Q := wc_V (fun H o => ⟨r, a, xs, ps, t, rfl, ha H o, hp H o, hps, hl, rfl⟩) q
theorem ln__law_due04 {K : PySem.W.Frag} {C : CA} {vs : List V} {H : Hp} {Q : VK} {E : XK} (h : sp__law_due04 K C vs H Q E) : vs.length = 2 := by
  obtain ⟨_, ⟨r, x, f, _, rfl, _⟩, _⟩ := h
  rfl
theorem pu__law_due04 {K : PySem.W.Frag} {C : CA} {vs : List V} {H : Hp} {Q : VK} {E : XK} (h : sp__law_due04 K C vs H Q E) : rd__law_due04 K C { nx := fun _ H' => Q .non H', rt := Q } (start N__law_due04 vs) H := by
  obtain ⟨_, ⟨r, x, f, hX, rfl, hl, hA, rfl⟩, k⟩ := h
  refine body_V ?_ k
  unfold rd__law_due04
  rcases hA with ⟨d, z, hx, rfl⟩ | ⟨d, a, t, xs, ps, hx, ha, hp, hps, rfl⟩
  · walk_at "bm"
    refine wl_isiC (fun H' o => hX.u.c.ty (o.ex _ _ hx)) (kit_self _ _) ?_
    walk_at "bm"
    refine ⟨_, _, _, _, _, rfl, fun H' o => o.ex _ _ hx, hX.u.c.cl, hX.u.n, rfl, ?_⟩
    walk_at "bm"
    refine c__law_uneven hl ?_
    rfl
  · walk_at "bm"
    refine wl_isiC (fun H' o => hX.r.c.ty (o.ex _ _ hx)) hX.ru ?_
    walk_at "bm"
    refine ⟨_, _, _, _, _, rfl, fun H' o => o.ex _ _ hx, hX.r.c.cl, hX.r.ns, rfl, ?_⟩
    walk_at "bm"
    refine ⟨_, _, _, _, _, rfl, fun H' o => o.ex _ _ hx, hX.r.c.cl, hX.r.nt, rfl, ?_⟩
    walk_at "bm"
    refine c__law_rounded (isL_old ha) (fun H' o => hp.ex o.ex) hps hl ?_
    rfl
theorem c__law_due04 {K : PySem.W.Frag} {C : CA} {H0 : Hp} {s : Ld} {Q : V → Ld → Prop} {E : XK} {r : List Bool} {x : Addr} {f : List Bool → Bool} (hX : Ex04 K C) (hl : r.length ≤ 1000) (hA : ∀ H, Own H0 H s → RnAns K C H x f) (q : Q (.bl (f r)) s) : WC H0 (sp__law_due04 K C) E [.str (T r), .ref x] s Q := wc_V (fun H o => ⟨r, x, f, hX, rfl, hl, hA H o, rfl⟩) q
end BM
namespace BM
open PySem L2 Evl
local macro_rules | `(tactic| walk_at "mem") => `(tactic| first | exact List.mem_cons_self | (refine List.mem_cons_of_mem _ ?_; walk_at "mem"))
local macro_rules | `(tactic| walk_at "swap") => `(tactic| first | exact Swap.here | (apply Swap.there; walk_at "swap"))
local macro_rules | `(tactic| walk_at "subl") => `(tactic| first | exact List.Sublist.refl _ | exact List.nil_sublist _ | (refine List.Sublist.cons_cons _ ?_; walk_at "subl") | (refine List.Sublist.cons _ ?_; walk_at "subl"))
local macro_rules | `(tactic| walk_at "sub") => `(tactic| first | exact Sub.refl _ | (refine ⟨?_, ?_⟩ <;> walk_at "subl"))
local macro_rules | `(tactic| walk_at "isl") => `(tactic| first | exact isL_own (by walk_at "mem") | exact isL_old (by assumption) | assumption)
local macro_rules | `(tactic| walk_at "ist") => `(tactic| first | exact isT_own (by walk_at "mem") | exact isT_old (by assumption) | assumption)
local macro_rules | `(tactic| walk_at "len") => `(tactic| first | omega | decide | (simp only [List.length_map, List.length_take, List.length_drop, List.length_append, List.length_cons, List.length_nil, List.length_reverse, dps_len, flp_len]; omega) | (simp [dps_len, flp_len]; omega) | simp)
local macro_rules | `(tactic| walk_at "b0") => `(tactic| first
  | with_reducible refine' ws_set ?_
  | with_reducible refine' ws_par ?_
  | with_reducible refine' ws_asg ?_
  | with_reducible refine' ws_drop ?_
  | with_reducible refine' ws_ret ?_
  | with_reducible refine' ws_if ?_
  | with_reducible refine' ws_next ?_
  | with_reducible refine' ws_brk ?_
  | with_reducible refine' ws_cont ?_
  | ((with_reducible refine' we_var ?hv ?_); case hv => rfl)
  | with_reducible refine' we_c ?_
  | with_reducible refine' we_op ?_
  | with_reducible refine' we_un ?_
  | with_reducible refine' we_if ?_
  | with_reducible refine' we_and ?_
  | with_reducible refine' we_or ?_
  | with_reducible refine' we_not ?_
  | with_reducible refine' wa_nil ?_
  | with_reducible refine' wa_cons ?_
  | (with_reducible refine' we_lst ?_)
  | (with_reducible refine' we_tup ?_)
  | with_reducible refine' we_cb ?_
  | with_reducible refine' we_call0 ?_
  | with_reducible refine' we_sl ?_
  | with_reducible refine' wo_none ?_
  | (with_reducible refine' wo_some ?_)
  | with_reducible refine' wt_test ?_
  | with_reducible refine' wt_B ?_
  | with_reducible refine' wt_and ?_
  | with_reducible refine' wt_or ?_
  | with_reducible refine' wt_not ?_
  | with_reducible refine' wt_yes ?_
  | with_reducible refine' we_chain ?_
  | with_reducible refine' we_chain3 ?_
  | with_reducible refine' we_revT ?_
  | with_reducible refine' we_revL ?_
  | with_reducible refine' we_bm ?_
  | with_reducible refine' we_bm0 ?_
  | with_reducible refine' ws_for ?_
  | with_reducible refine' we_lc ?_
  | with_reducible refine' wi_list ?_
  | with_reducible refine' wi_tup ?_
  | with_reducible refine' wi_T ?_
  | with_reducible refine' wi_rng1 ?_
  | with_reducible refine' wi_rng2 ?_
  | with_reducible refine' wi_rng3 ?_
  | with_reducible refine' wi_enum ?_
  | with_reducible refine' wi_enumT ?_
  | with_reducible refine' wi_zip ?_
  | with_reducible refine' wg_name ?_
  | with_reducible refine' wg_sub ?_
  | with_reducible refine' wgs_nil ?_
  | with_reducible refine' wgs_cons ?_
  | ((with_reducible refine' wg_tup ?ht ?hn ?_); (case ht => walk_at "ist"); (case hn => rfl))
  | with_reducible refine' w2_add ?_
  | with_reducible refine' w2_sub ?_
  | with_reducible refine' w2_lt ?_
  | with_reducible refine' w2_le ?_
  | with_reducible refine' w2_gt ?_
  | with_reducible refine' w2_ge ?_
  | with_reducible refine' w2_eqI ?_
  | with_reducible refine' w2_neI ?_
  | with_reducible refine' w2_eqT ?_
  | with_reducible refine' w2_neT ?_
  | with_reducible refine' w2_eqB ?_
  | with_reducible refine' w2_neB ?_
  | with_reducible refine' w2_isN ?_
  | with_reducible refine' w2_notN ?_
  | with_reducible refine' w2_isB ?_
  | with_reducible refine' w2_inT ?_
  | with_reducible refine' w1_neg ?_
  | with_reducible refine' wl_abs ?_
  | with_reducible refine' wl_max2 ?_
  | with_reducible refine' wl_min2 ?_
  | with_reducible refine' wl_intB ?_
  | ((with_reducible refine' w2_div ?h ?_); case h => first | omega | (constructor <;> omega))
  | ((with_reducible refine' w2_mod ?h ?_); case h => omega)
  | ((with_reducible refine' w2_catT ?h ?_); case h => walk_at "len")
  | ((with_reducible refine' wsl_T ?h ?_); case h => walk_at "len")
  | ((with_reducible refine' wl_lenT ?h ?_); case h => walk_at "len")
  | ((with_reducible refine' wl_len ?h ?_); case h => walk_at "isl")
  | ((with_reducible refine' wl_len ?h ?_); case h => walk_at "isl")
  | ((with_reducible refine' wm_append ?sw ?hl ?_); (case sw => walk_at "swap"); (case hl => walk_at "len")))
local macro_rules | `(tactic| walk_at "b1") => `(tactic| first | with_reducible refine' ws_seq ?_ | walk_at "b0")
local macro_rules | `(tactic| walk_at "bx") => `(tactic| first
  | refine ⟨_, rfl, ?_⟩
  | refine ⟨_, _, rfl, ?_⟩
  | refine ⟨ty_L (by walk_at "isl"), ?_⟩
  | refine ⟨ty_S, ?_⟩
  | refine spl_t (by rfl) ?_
  | refine spl_f (by rfl) ?_
  | exact rfl)
local macro_rules | `(tactic| walk_at "bm") => `(tactic| repeat (first | walk_at "b1" | walk_at "bx"))
local macro_rules | `(tactic| walk_at "bn") => `(tactic| repeat (first | walk_at "b0" | walk_at "bx"))
local macro_rules | `(tactic| walk_at "b0") => `(tactic| with_reducible refine' c_deepens ?_)
local macro_rules | `(tactic| walk_at "b0") => `(tactic| ((with_reducible refine' c_depths_of ?hl ?_); (case hl => walk_at "len")))
local macro_rules | `(tactic| walk_at "b0") => `(tactic| with_reducible refine' c_is_wholeI ?_)
local macro_rules | `(tactic| walk_at "b0") => `(tactic| with_reducible refine' c_flipped ?_)
local macro_rules | `(tactic| walk_at "b0") => `(tactic| ((with_reducible refine' c_is_right_row ?hl ?_); (case hl => walk_at "len")))
local macro_rules | `(tactic| walk_at "b0") => `(tactic| ((with_reducible refine' c_asked_row ?hl ?_); (case hl => walk_at "len")))
local macro_rules | `(tactic| walk_at "b0") => `(tactic| ((with_reducible refine' c_depths ?hl ?_); (case hl => walk_at "len")))
local macro_rules | `(tactic| walk_at "b0") => `(tactic| ((with_reducible refine' c_is_right ?hl ?_); (case hl => walk_at "len")))
local macro_rules | `(tactic| walk_at "b0") => `(tactic| ((with_reducible refine' c__law_depths ?hl ?_); (case hl => walk_at "len")))
local macro_rules | `(tactic| walk_at "b0") => `(tactic| ((with_reducible refine' c__law_good ?hl ?_); (case hl => walk_at "len")))
local macro_rules | `(tactic| walk_at "b0") => `(tactic| ((with_reducible refine' wl_listOf ?hx ?_); (case hx => walk_at "isl")))
local macro_rules | `(tactic| walk_at "b0") => `(tactic| with_reducible refine' w2_notB ?_)
local macro_rules | `(tactic| walk_at "own") => `(tactic| exact own_l (by walk_at "mem"))
local macro_rules | `(tactic| walk_at "b0") => `(tactic| with_reducible refine' we_fld ?_)
local macro_rules | `(tactic| walk_at "b0") => `(tactic| refine ⟨_, _, _, _, _, rfl, own_l (by walk_at "mem"), Grw.cl (by assumption), Grw.nr (by assumption), by rfl, ?_⟩)
local macro_rules | `(tactic| walk_at "b0") => `(tactic| refine ⟨_, _, _, _, _, rfl, fun H' o => o.ex _ _ (by assumption), Grw.cl (by assumption), Grw.nr (by assumption), by rfl, ?_⟩)
local macro_rules | `(tactic| walk_at "b0") => `(tactic| with_reducible refine' we_meth ?_)
local macro_rules | `(tactic| walk_at "b0") => `(tactic| refine ⟨_, _, _, rfl, own_l (by walk_at "mem"), by rfl, ?_⟩)
local macro_rules | `(tactic| walk_at "b0") => `(tactic| refine ⟨_, _, _, rfl, fun H' o => o.ex _ _ (by assumption), by rfl, ?_⟩)
local macro_rules | `(tactic| walk_at "gown") => `(tactic| first | exact own_l (by walk_at "mem") | exact fun H' o => o.ex _ _ (by assumption))
local macro_rules | `(tactic| walk_at "b0") => `(tactic| with_reducible refine' wm_countT ?_)
local macro_rules | `(tactic| walk_at "b0") => `(tactic| with_reducible refine' we_methU ?_)
theorem ln_rounds {K : PySem.W.Frag} {C : CA} {vs : List V} {H : Hp} {Q : VK} {E : XK} (h : sp_rounds K C vs H Q E) : vs.length = 1 := by
  obtain ⟨r, _, rfl, _⟩ := h
  rfl
theorem pu_rounds {K : PySem.W.Frag} {C : CA} {vs : List V} {H : Hp} {Q : VK} {E : XK} (h : sp_rounds K C vs H Q E) : rd_rounds K C { nx := fun _ H' => Q .non H', rt := Q } (start N_rounds vs) H := by
  obtain ⟨r, hX, rfl, hl, k1, k2⟩ := h
  refine body_K (P := fun v s => (hgt r ≠ 0 ∧ ∃ x d, v = .ref x ∧ (x, uIns C d (hgt r)) ∈ s.L) ∨ (hgt r = 0 ∧ ∃ (x d a : Addr) (ts : List (Addr × Int × Int)) (t : Option Int), v = .ref x ∧ Sub ⟨[(a, .lst (refs ts)), (x, rIns C d a t)], []⟩ s ∧ tps ts ⊆ s.T ∧ rnSh r (prs ts) t = true ∧ ts.length = rk r)) ?_ ?_
  · unfold rd_rounds
    refine ws_seq ?_
    walk_at "bn"
    refine ws_seq ?_
    walk_at "bn"
    intro f hf
    walk_at "bn"
    refine ws_seq ?_
    walk_at "bn"
    refine w2_ixL (by walk_at "isl") (dps_m1 _) ?_
    walk_at "bn"
    refine ⟨fun h => ?_, fun h => ?_⟩
    · have h' : hgt r ≠ 0 := by simpa using h
      walk_at "bn"
      refine we_uneven hX.u ?_
      walk_at "bm"
      refine w2_ixL (by walk_at "isl") (dps_m1 _) ?_
      walk_at "bm"
      intro x dx hx
      exact .inl ⟨h', x, dx, rfl, List.mem_cons_self⟩
    have h0 : hgt r = 0 := by simpa using h
    walk_at "bn"
    refine ws_seq ?_
    walk_at "bn"
    refine ⟨fun h3 => ?_, fun h3 => ?_⟩
    · walk_at "bn"
      refine we_rounded hX.r ?_
      walk_at "bn"
      refine ⟨by simp, fun q hq => ?_⟩
      walk_at "bn"
      exact ⟨q, [], none, rfl, by walk_at "mem", fun x dx a2 hx ha2 => .inr ⟨h0, x, dx, a2, [], none, rfl, by walk_at "sub", List.nil_subset _, rnSh_none h3, (rk_zero.mpr h3).symm⟩⟩
    have hb := blw_some h0 h3
    have B := blw_law hb
    have hle := B.le
    have hll := B.ll
    have nn := mx_nn h0 B
    walk_at "bn"
    refine ws_seq ?_
    walk_at "bn"
    refine c_below (by omega) hb fun p => ?_
    walk_at "bn"
    refine ws_weak (s0 := ⟨[(f, .lst ((dps r).map V.int))], []⟩) (by walk_at "sub") ?_
    refine ws_cut (fun σ s => ∃ one : Nat, σ = [some (.str (T r)), some (.ref f), some (.int (one : Int)), none, none, some (.int (bf r : Int)), some (.int (bl r : Int))] ∧ s = ⟨[(f, .lst ((dps r).map V.int))], []⟩ ∧ one ≤ bf r ∧ hgt (r.take one) = mxA r) ?_ ?_
    · walk_at "bn"
      refine wsl_L (by walk_at "isl") fun p1 hp1 => ?_
      rw [cut_hi (by omega), show ((bf r : Int) + 1).toNat = bf r + 1 by omega, ← List.map_take]
      walk_at "bn"
      refine wl_max (by walk_at "isl") (by rw [List.length_take, dps_len]; omega) fun m1 m1a m1b => ?_
      have e1 : m1 = mxA r := mxi_of m1a m1b
      obtain ⟨j, hj, hfirst⟩ := first_of (List.mem_of_mem_take m1a)
      have hjl : j ≤ r.length := by
        have := (List.getElem?_eq_some_iff.mp hj).1
        rw [dps_len] at this
        omega
      have ej : hgt (r.take j) = m1 := by
        rw [dps_get hjl] at hj
        exact Option.some.inj hj
      have hjb : j ≤ bf r := by
        obtain ⟨i, hi, e⟩ := (dps_take_mem (show bf r ≤ r.length by omega)).mp m1a
        refine Nat.not_lt.mp fun hlt => ?_
        refine hfirst i (by omega) ?_
        rw [dps_get (by omega), e]
      walk_at "bn"
      refine wm_index (by walk_at "isl") hj hfirst ?_
      walk_at "bn"
      exact ⟨_, by walk_at "sub", j, rfl, rfl, hjb, by rw [ej, e1]⟩
    rintro σ s ⟨one, rfl, rfl, o1, o2⟩
    refine ws_cut (fun σ s => ∃ two : Nat, σ = [some (.str (T r)), some (.ref f), some (.int (one : Int)), some (.int (two : Int)), none, some (.int (bf r : Int)), some (.int (bl r : Int))] ∧ s = ⟨[(f, .lst ((dps r).map V.int))], []⟩ ∧ bl r ≤ two ∧ two ≤ r.length ∧ hgt (r.take two) = mxB r) ?_ ?_
    · walk_at "bn"
      refine wsl_L (by walk_at "isl") fun p1 hp1 => ?_
      rw [cut_lo (by omega), Int.toNat_natCast, ← List.map_drop]
      walk_at "bn"
      refine wsl_L (by walk_at "isl") fun p2 hp2 => ?_
      rw [cut_lo (by omega), Int.toNat_natCast, ← List.map_drop]
      walk_at "bn"
      refine wl_max (by walk_at "isl") (by rw [List.length_drop, dps_len]; omega) fun m1 m1a m1b => ?_
      have e1 : m1 = mxB r := mxi_of m1a m1b
      obtain ⟨j, hj, hfirst⟩ := first_of m1a
      have hjl : bl r + j ≤ r.length := by
        have := (List.getElem?_eq_some_iff.mp hj).1
        rw [List.length_drop, dps_len] at this
        omega
      have ej : hgt (r.take (bl r + j)) = m1 := by
        rw [List.getElem?_drop, dps_get hjl] at hj
        exact Option.some.inj hj
      walk_at "bn"
      refine wm_index (by walk_at "isl") hj hfirst ?_
      walk_at "bn"
      exact ⟨_, by walk_at "sub", bl r + j, by rw [Int.natCast_add]; rfl, rfl, by omega, hjl, by rw [ej, e1]⟩
    rintro σ s ⟨two, rfl, rfl, t1, t2, t3⟩
    have O := oneTwo_of h0 B o1 t1 t2 o2 t3
    have ol1 := O.l1
    have ol2 := O.l2
    refine ws_seq ?_
    walk_at "bn"
    refine wsl_L (by walk_at "isl") fun p1 hp1 => ?_
    rw [cut_both (by omega) (by omega) (by rw [List.length_map, dps_len]; omega), show ((two : Int) + 1).toNat - (one : Int).toNat = two + 1 - one by omega, Int.toNat_natCast, ← List.map_drop, ← List.map_take]
    walk_at "bn"
    refine wl_max (by walk_at "isl") (by rw [List.length_take, List.length_drop, dps_len]; omega) fun m ma mb => ?_
    walk_at "bn"
    refine w2_ixL (by walk_at "isl") (atI_dps4 (by omega) (by omega)) ?_
    walk_at "bn"
    refine w2_ixL (by walk_at "isl") (atI_dps4 (by omega) (by omega)) ?_
    rw [Int.toNat_natCast, Int.toNat_natCast]
    walk_at "bn"
    refine ⟨fun h4 => ?_, fun h4 => ?_⟩
    · have h4' := of_decide_eq_true h4
      have hm : ∀ k, one ≤ k → k ≤ two → hgt (r.take k) ≤ hgt (r.take one) + hgt (r.take two) := fun k hk1 hk2 => Int.le_trans (mb _ ((dps_mid_mem (by omega) t2).mpr ⟨k, hk1, hk2, rfl⟩)) h4'
      walk_at "bn"
      refine we_rounded hX.r ?_
      walk_at "bn"
      refine ⟨by simp, fun p2 hp2 => ?_⟩
      walk_at "bn"
      refine ⟨by simp, fun q hq => ?_⟩
      walk_at "bn"
      exact ⟨q, refs [(p2, ((one : Int), (two : Int)))], none, rfl, by walk_at "mem", fun x dx a2 hx ha2 => .inr ⟨h0, x, dx, a2, [(p2, ((one : Int), (two : Int)))], none, rfl, by walk_at "sub", List.cons_subset.mpr ⟨List.mem_cons_self, List.nil_subset _⟩, rnSh_one h0 h3 O hm, by unfold rk; rw [h3, if_neg (by decide), if_pos (one_not B O hm)]; rfl⟩⟩
    have h4' : mxA r + mxB r < m := by
      have := of_decide_eq_false h4
      rw [o2, t3] at this
      omega
    obtain ⟨km, hk1, hk2, hke⟩ := (dps_mid_mem (by omega) t2).mp ma
    have hkb : bf r ≤ km ∧ km ≤ bl r := by
      refine ⟨Nat.not_lt.mp fun hh => ?_, Nat.not_lt.mp fun hh => ?_⟩
      · have := (mxA_spec B).2 km (by omega)
        omega
      · have := (mxB_spec B).2 km (by omega) (by omega)
        omega
    have hmid : mxA r + mxB r < mid r := by
      have := (mid_spec B).2 km hkb.1 hkb.2
      omega
    walk_at "bn"
    refine ws_cut (fun σ s => ∃ most : Nat, σ = [some (.str (T r)), some (.ref f), some (.int (one : Int)), some (.int (two : Int)), some (.int (most : Int)), some (.int (bf r : Int)), some (.int (bl r : Int))] ∧ s = ⟨[(f, .lst ((dps r).map V.int))], []⟩ ∧ most ≤ r.length ∧ ∀ j, j ≤ r.length → hgt (r.take j) ≤ hgt (r.take most)) ?_ ?_
    · walk_at "bn"
      refine wl_max (by walk_at "isl") (by rw [dps_len]; omega) fun m1 m1a m1b => ?_
      obtain ⟨j, hj, hfirst⟩ := first_of m1a
      have hjl : j ≤ r.length := by
        have := (List.getElem?_eq_some_iff.mp hj).1
        rw [dps_len] at this
        omega
      have ej : hgt (r.take j) = m1 := by
        rw [dps_get hjl] at hj
        exact Option.some.inj hj
      walk_at "bn"
      refine wm_index (by walk_at "isl") hj hfirst ?_
      walk_at "bn"
      exact ⟨_, by walk_at "sub", j, rfl, rfl, hjl, fun i hi => by rw [ej]; exact m1b _ (mem_dps.mpr ⟨i, hi, rfl⟩)⟩
    rintro σ s ⟨most, rfl, rfl, hmo, hmax⟩
    walk_at "bn"
    refine we_rounded hX.r ?_
    walk_at "bn"
    refine ⟨by simp, fun p2 hp2 => ?_⟩
    walk_at "bn"
    refine ⟨by simp, fun p3 hp3 => ?_⟩
    walk_at "bn"
    refine ⟨by simp, fun q hq => ?_⟩
    walk_at "bn"
    refine wsl_L (by walk_at "isl") fun p4 hp4 => ?_
    rw [cut_both (by omega) (by omega) (by rw [List.length_map, dps_len]; omega), show ((bl r : Int) + 1).toNat - (bf r : Int).toNat = bl r + 1 - bf r by omega, Int.toNat_natCast, ← List.map_drop, ← List.map_take]
    walk_at "bn"
    refine wsl_L (by walk_at "isl") fun p5 hp5 => ?_
    rw [cut_both (by omega) (by omega) (by rw [List.length_map, dps_len]; omega), show ((bl r : Int) + 1).toNat - (bf r : Int).toNat = bl r + 1 - bf r by omega, Int.toNat_natCast, ← List.map_drop, ← List.map_take]
    walk_at "bn"
    refine wl_max (by walk_at "isl") (by rw [List.length_take, List.length_drop, dps_len]; omega) fun mm mma mmb => ?_
    have emm : mm = mid r := mxi_of mma mmb
    obtain ⟨j, hj, hfirst⟩ := first_of mma
    have hjl : j < bl r + 1 - bf r ∧ bf r + j ≤ r.length := by
      have := (List.getElem?_eq_some_iff.mp hj).1
      rw [List.length_take, List.length_drop, dps_len] at this
      omega
    have ej : hgt (r.take (bf r + j)) = mm := by
      rw [List.getElem?_take, if_pos hjl.1, List.getElem?_drop, dps_get hjl.2] at hj
      exact Option.some.inj hj
    obtain ⟨r1, r2, r3⟩ := rnSh_two h0 h3 hmo hmax (top := bf r + j) (by omega) (by omega) (by rw [ej, emm]; exact hmid)
    walk_at "bn"
    refine wm_index (by walk_at "isl") hj hfirst ?_
    walk_at "bn"
    exact ⟨q, refs [(p2, ((0 : Int), (most : Int))), (p3, ((most : Int), (r.length : Int)))], some ((bf r + j : Nat) : Int), by rw [Int.natCast_add]; rfl, by walk_at "mem", fun x dx a2 hx ha2 => .inr ⟨h0, x, dx, a2, [(p2, ((0 : Int), (most : Int))), (p3, ((most : Int), (r.length : Int)))], _, rfl, by walk_at "sub", List.cons_subset.mpr ⟨List.mem_cons_of_mem _ List.mem_cons_self, List.cons_subset.mpr ⟨List.mem_cons_self, List.nil_subset _⟩⟩, r3, by unfold rk; rw [h3, if_neg (by decide), if_neg (by omega)]; rfl⟩⟩
  · rintro v H' s w (⟨h0, x, d, rfl, m⟩ | ⟨h0, x, d, a, ts, t, rfl, hs, hT, h1, h2⟩)
    · exact k1 h0 H' x d w.ex (w.own _ m).1 (w.own _ m).2
    · have w2 := w.sub hs
      have nd : [a, x].Nodup := w2.nd
      have ma := w2.own (a, .lst (refs ts)) List.mem_cons_self
      have mx := w2.own (x, rIns C d a t) (List.mem_cons_of_mem _ List.mem_cons_self)
      exact k2 h0 H' x d a ts t w.ex mx.1 ma.1 nd mx.2 ma.2 (fun u hu => w.tp (u.1, pairV u.2) (hT (List.mem_map.mpr ⟨u, hu, rfl⟩))) h1 h2
end BM
namespace BM
open PySem L2 Evl
local macro_rules | `(tactic| walk_at "mem") => `(tactic| first | exact List.mem_cons_self | (refine List.mem_cons_of_mem _ ?_; walk_at "mem"))
local macro_rules | `(tactic| walk_at "swap") => `(tactic| first | exact Swap.here | (apply Swap.there; walk_at "swap"))
local macro_rules | `(tactic| walk_at "subl") => `(tactic| first | exact List.Sublist.refl _ | exact List.nil_sublist _ | (refine List.Sublist.cons_cons _ ?_; walk_at "subl") | (refine List.Sublist.cons _ ?_; walk_at "subl"))
local macro_rules | `(tactic| walk_at "sub") => `(tactic| first | exact Sub.refl _ | (refine ⟨?_, ?_⟩ <;> walk_at "subl"))
local macro_rules | `(tactic| walk_at "isl") => `(tactic| first | exact isL_own (by walk_at "mem") | exact isL_old (by assumption) | assumption)
local macro_rules | `(tactic| walk_at "ist") => `(tactic| first | exact isT_own (by walk_at "mem") | exact isT_old (by assumption) | assumption)
local macro_rules | `(tactic| walk_at "len") => `(tactic| first | omega | decide | (simp only [List.length_map, List.length_take, List.length_drop, List.length_append, List.length_cons, List.length_nil, List.length_reverse, dps_len, flp_len]; omega) | (simp [dps_len, flp_len]; omega) | simp)
local macro_rules | `(tactic| walk_at "b0") => `(tactic| first
  | with_reducible refine' ws_set ?_
  | with_reducible refine' ws_par ?_
  | with_reducible refine' ws_asg ?_
  | with_reducible refine' ws_drop ?_
  | with_reducible refine' ws_ret ?_
  | with_reducible refine' ws_if ?_
  | with_reducible refine' ws_next ?_
  | with_reducible refine' ws_brk ?_
  | with_reducible refine' ws_cont ?_
  | ((with_reducible refine' we_var ?hv ?_); case hv => rfl)
  | with_reducible refine' we_c ?_
  | with_reducible refine' we_op ?_
  | with_reducible refine' we_un ?_
  | with_reducible refine' we_if ?_
  | with_reducible refine' we_and ?_
  | with_reducible refine' we_or ?_
  | with_reducible refine' we_not ?_
  | with_reducible refine' wa_nil ?_
  | with_reducible refine' wa_cons ?_
  | (with_reducible refine' we_lst ?_)
  | (with_reducible refine' we_tup ?_)
  | with_reducible refine' we_cb ?_
  | with_reducible refine' we_call0 ?_
  | with_reducible refine' we_sl ?_
  | with_reducible refine' wo_none ?_
  | (with_reducible refine' wo_some ?_)
  | with_reducible refine' wt_test ?_
  | with_reducible refine' wt_B ?_
  | with_reducible refine' wt_and ?_
  | with_reducible refine' wt_or ?_
  | with_reducible refine' wt_not ?_
  | with_reducible refine' wt_yes ?_
  | with_reducible refine' we_chain ?_
  | with_reducible refine' we_chain3 ?_
  | with_reducible refine' we_revT ?_
  | with_reducible refine' we_revL ?_
  | with_reducible refine' we_bm ?_
  | with_reducible refine' we_bm0 ?_
  | with_reducible refine' ws_for ?_
  | with_reducible refine' we_lc ?_
  | with_reducible refine' wi_list ?_
  | with_reducible refine' wi_tup ?_
  | with_reducible refine' wi_T ?_
  | with_reducible refine' wi_rng1 ?_
  | with_reducible refine' wi_rng2 ?_
  | with_reducible refine' wi_rng3 ?_
  | with_reducible refine' wi_enum ?_
  | with_reducible refine' wi_enumT ?_
  | with_reducible refine' wi_zip ?_
  | with_reducible refine' wg_name ?_
  | with_reducible refine' wg_sub ?_
  | with_reducible refine' wgs_nil ?_
  | with_reducible refine' wgs_cons ?_
  | ((with_reducible refine' wg_tup ?ht ?hn ?_); (case ht => walk_at "ist"); (case hn => rfl))
  | with_reducible refine' w2_add ?_
  | with_reducible refine' w2_sub ?_
  | with_reducible refine' w2_lt ?_
  | with_reducible refine' w2_le ?_
  | with_reducible refine' w2_gt ?_
  | with_reducible refine' w2_ge ?_
  | with_reducible refine' w2_eqI ?_
  | with_reducible refine' w2_neI ?_
  | with_reducible refine' w2_eqT ?_
  | with_reducible refine' w2_neT ?_
  | with_reducible refine' w2_eqB ?_
  | with_reducible refine' w2_neB ?_
  | with_reducible refine' w2_isN ?_
  | with_reducible refine' w2_notN ?_
  | with_reducible refine' w2_isB ?_
  | with_reducible refine' w2_inT ?_
  | with_reducible refine' w1_neg ?_
  | with_reducible refine' wl_abs ?_
  | with_reducible refine' wl_max2 ?_
  | with_reducible refine' wl_min2 ?_
  | with_reducible refine' wl_intB ?_
  | ((with_reducible refine' w2_div ?h ?_); case h => first | omega | (constructor <;> omega))
  | ((with_reducible refine' w2_mod ?h ?_); case h => omega)
  | ((with_reducible refine' w2_catT ?h ?_); case h => walk_at "len")
  | ((with_reducible refine' wsl_T ?h ?_); case h => walk_at "len")
  | ((with_reducible refine' wl_lenT ?h ?_); case h => walk_at "len")
  | ((with_reducible refine' wl_len ?h ?_); case h => walk_at "isl")
  | ((with_reducible refine' wl_len ?h ?_); case h => walk_at "isl")
  | ((with_reducible refine' wm_append ?sw ?hl ?_); (case sw => walk_at "swap"); (case hl => walk_at "len")))
local macro_rules | `(tactic| walk_at "b1") => `(tactic| first | with_reducible refine' ws_seq ?_ | walk_at "b0")
local macro_rules | `(tactic| walk_at "bx") => `(tactic| first
  | refine ⟨_, rfl, ?_⟩
  | refine ⟨_, _, rfl, ?_⟩
  | refine ⟨ty_L (by walk_at "isl"), ?_⟩
  | refine ⟨ty_S, ?_⟩
  | refine spl_t (by rfl) ?_
  | refine spl_f (by rfl) ?_
  | exact rfl)
local macro_rules | `(tactic| walk_at "bm") => `(tactic| repeat (first | walk_at "b1" | walk_at "bx"))
local macro_rules | `(tactic| walk_at "bn") => `(tactic| repeat (first | walk_at "b0" | walk_at "bx"))
local macro_rules | `(tactic| walk_at "b0") => `(tactic| with_reducible refine' c_deepens ?_)
local macro_rules | `(tactic| walk_at "b0") => `(tactic| ((with_reducible refine' c_depths_of ?hl ?_); (case hl => walk_at "len")))
local macro_rules | `(tactic| walk_at "b0") => `(tactic| with_reducible refine' c_is_wholeI ?_)
local macro_rules | `(tactic| walk_at "b0") => `(tactic| with_reducible refine' c_flipped ?_)
local macro_rules | `(tactic| walk_at "b0") => `(tactic| ((with_reducible refine' c_is_right_row ?hl ?_); (case hl => walk_at "len")))
local macro_rules | `(tactic| walk_at "b0") => `(tactic| ((with_reducible refine' c_asked_row ?hl ?_); (case hl => walk_at "len")))
local macro_rules | `(tactic| walk_at "b0") => `(tactic| ((with_reducible refine' c_depths ?hl ?_); (case hl => walk_at "len")))
local macro_rules | `(tactic| walk_at "b0") => `(tactic| ((with_reducible refine' c_is_right ?hl ?_); (case hl => walk_at "len")))
local macro_rules | `(tactic| walk_at "b0") => `(tactic| ((with_reducible refine' c__law_depths ?hl ?_); (case hl => walk_at "len")))
local macro_rules | `(tactic| walk_at "b0") => `(tactic| ((with_reducible refine' c__law_good ?hl ?_); (case hl => walk_at "len")))
local macro_rules | `(tactic| walk_at "b0") => `(tactic| ((with_reducible refine' wl_listOf ?hx ?_); (case hx => walk_at "isl")))
local macro_rules | `(tactic| walk_at "b0") => `(tactic| with_reducible refine' w2_notB ?_)
local macro_rules | `(tactic| walk_at "own") => `(tactic| exact own_l (by walk_at "mem"))
local macro_rules | `(tactic| walk_at "b0") => `(tactic| with_reducible refine' we_fld ?_)
local macro_rules | `(tactic| walk_at "b0") => `(tactic| refine ⟨_, _, _, _, _, rfl, own_l (by walk_at "mem"), Grw.cl (by assumption), Grw.nr (by assumption), by rfl, ?_⟩)
local macro_rules | `(tactic| walk_at "b0") => `(tactic| refine ⟨_, _, _, _, _, rfl, fun H' o => o.ex _ _ (by assumption), Grw.cl (by assumption), Grw.nr (by assumption), by rfl, ?_⟩)
local macro_rules | `(tactic| walk_at "b0") => `(tactic| with_reducible refine' we_meth ?_)
local macro_rules | `(tactic| walk_at "b0") => `(tactic| refine ⟨_, _, _, rfl, own_l (by walk_at "mem"), by rfl, ?_⟩)
local macro_rules | `(tactic| walk_at "b0") => `(tactic| refine ⟨_, _, _, rfl, fun H' o => o.ex _ _ (by assumption), by rfl, ?_⟩)
local macro_rules | `(tactic| walk_at "gown") => `(tactic| first | exact own_l (by walk_at "mem") | exact fun H' o => o.ex _ _ (by assumption))
local macro_rules | `(tactic| walk_at "b0") => `(tactic| with_reducible refine' wm_countT ?_)
local macro_rules | `(tactic| walk_at "b0") => `(tactic| with_reducible refine' we_methU ?_)
theorem c_rounds_un {K : PySem.W.Frag} {C : CA} {H0 : Hp} {s : Ld} {Q : V → Ld → Prop} {E : XK} {r : List Bool} (hX : Ex04 K C) (hl : r.length ≤ 40) (h0 : hgt r ≠ 0) (q : ∀ x d, Q (.ref x) ⟨(x, uIns C d (hgt r)) :: s.L, s.T⟩) : WC H0 (sp_rounds K C) E [.str (T r)] s Q := fun H o R k =>
  ⟨r, hX, rfl, hl, fun _ H' x d e hx h => k _ _ _ (own_add (o.ext e) (fresh_back o.ex hx) (own_key o hx) h) (q x d), fun h => absurd h h0⟩
theorem c_rounds_ev {K : PySem.W.Frag} {C : CA} {H0 : Hp} {s : Ld} {Q : V → Ld → Prop} {E : XK} {r : List Bool} (hX : Ex04 K C) (hl : r.length ≤ 40) (h0 : hgt r = 0) (q : ∀ x d a ts t, rnSh r (prs ts) t = true → ts.length = rk r → Q (.ref x) ⟨(a, .lst (refs ts)) :: (x, rIns C d a t) :: s.L, tps ts ++ s.T⟩) : WC H0 (sp_rounds K C) E [.str (T r)] s Q := fun H o R k =>
  ⟨r, hX, rfl, hl, fun h => absurd h0 h, fun _ H' x d a ts t e hx ha nd h1 h2 ht h3 h4 => by
    have na : a ∉ [x] := (List.nodup_cons.mp nd).1
    have w1 := own_add (o.ext e) (fresh_back o.ex hx) (own_key o hx) h1
    have w2 := own_add w1 (fresh_back o.ex ha) (fun hm => by
      rcases List.mem_cons.mp hm with z | hm
      · exact na (by rw [z]; exact List.mem_cons_self)
      · exact own_key o ha hm) h2
    have w3 := w2.moreT (ts := tps ts) fun u hu => by
      obtain ⟨v, hv, rfl⟩ := List.mem_map.mp hu
      exact ht v hv
    exact k _ _ _ w3 (q x d a ts t h3 h4)⟩
theorem rnSh_out {r : List Bool} {ps : List (Int × Int)} {t : Option Int} : rnSh r (ps ++ [(0, (r.length : Int) + 1)]) t = false := by
  rw [rnSh_bad]
  rintro ⟨h, _⟩
  have := (h (0, (r.length : Int) + 1) (List.mem_append_right _ List.mem_cons_self)).2.2
  simp only at this
  omega
theorem ln__law_right04 {K : PySem.W.Frag} {C : CA} {vs : List V} {H : Hp} {Q : VK} {E : XK} (h : sp__law_right04 K C vs H Q E) : vs.length = 2 := by
  obtain ⟨_, ⟨r, b, rs, _, rfl, _⟩, _⟩ := h
  rfl
local macro_rules | `(tactic| walk_at "tsub") => `(tactic| first | exact fun _ m => List.mem_append_left _ m | exact fun _ m => m | (refine List.Subset.trans ?_ (List.subset_cons_self _ _); walk_at "tsub"))
theorem pu__law_right04 {K : PySem.W.Frag} {C : CA} {vs : List V} {H : Hp} {Q : VK} {E : XK} (h : sp__law_right04 K C vs H Q E) : rd__law_right04 K C { nx := fun _ H' => Q .non H', rt := Q } (start N__law_right04 vs) H := by
  obtain ⟨_, ⟨r, o, rs, hX, rfl, hl, ho, hrs, rfl⟩, k⟩ := h
  refine body_V ?_ k
  unfold rd__law_right04
  obtain ⟨ev, hev⟩ : ∃ ev : Bool, decide ((r.count true : Int) = (r.count false : Int)) = ev := ⟨_, rfl⟩
  have hgv : decide (hgt r = 0) = ev := by
    rw [← hev, hgt_count]
    exact decide_eq_decide.mpr (by omega)
  refine ws_cut (fun σ s => σ = [some (.str (T r)), some (.ref o), some (.bl ev), none, none, none] ∧ s = ⟨[], []⟩) ?_ ?_
  · walk_at "bm"
    rw [hev]
    exact ⟨_, Sub.refl _, rfl, rfl⟩
  rintro σ s ⟨rfl, rfl⟩
  refine ws_cut (fun σ s => ∃ x3 x4 x5, σ = [some (.str (T r)), some (.ref o), some (.bl ev), x3, x4, x5] ∧ s = ⟨[], []⟩) ?_ ?_
  · walk_at "bm"
    refine ⟨by decide, ?_⟩
    refine lp_rng (fun i σ s => ∃ x3 x4 x5, σ = [some (.str (T r)), some (.ref o), some (.bl ev), x3, x4, x5] ∧ s = ⟨[], []⟩) ⟨none, none, none, rfl, rfl⟩ ?_ (fun σ s ⟨x3, x4, x5, e1, e2⟩ => ⟨_, Sub.refl _, x3, x4, x5, e1, e2⟩)
    rintro i σ s hi ⟨x3, x4, x5, rfl, rfl⟩
    refine wg_name ?_
    by_cases h0 : hgt r = 0
    · have evt : ev = true := by rw [← hgv, decide_eq_true h0]
      subst evt
      refine ws_seq ?_
      walk_at "bn"
      refine c_rounds_ev hX hl h0 fun x d a ts t hsh hrk => ?_
      have hts : ts.length ≤ 2 := by rw [hrk]; exact rk_le
      have hpl : (prs ts).length ≤ 5000 := by rw [List.length_map]; omega
      walk_at "bn"
      have hty : ∀ {s : Ld}, (x, rIns C d a t) ∈ s.L → ∀ H', Own H H' s → TyX K H' (.ref x) (.ref C.c_Rounded) := fun h H' w => hX.r.c.ty (w.own _ h).2
      have hA : ∀ {s : Ld}, Sub ⟨[(a, .lst (refs ts)), (x, rIns C d a t)], tps ts ++ []⟩ s → ∀ H', Own H H' s → RnAns K C H' x (fun r' => rnSh r' (prs ts) t) := fun {s} hs H' w => .inr ⟨d, a, t, refs ts, prs ts, own_l (by walk_at "mem") H' (w.sub hs), sq_of (own_l (by walk_at "mem") H' (w.sub hs)), prT_own (s := ⟨[(a, .lst (refs ts)), (x, rIns C d a t)], tps ts ++ []⟩) (by walk_at "tsub") H' (w.sub hs), hpl, rfl⟩
      walk_at "bm"
      refine wl_isiC (hty (by walk_at "mem")) hX.ra ?_
      walk_at "bm"
      refine wl_isiC (hty (by walk_at "mem")) hX.rt ?_
      walk_at "bm"
      refine wl_isiC (hty (by walk_at "mem")) hX.ro ?_
      walk_at "bm"
      refine wl_isiC (hty (by walk_at "mem")) hX.rs ?_
      walk_at "bm"
      refine wl_isiC (hty (by walk_at "mem")) (kit_self _ _) ?_
      walk_at "bm"
      refine wl_isiC (hty (by walk_at "mem")) hX.ru ?_
      walk_at "bm"
      refine ⟨by simp, fun p1 hp1 => ?_⟩
      walk_at "bm"
      refine ⟨by simp, fun p2 hp2 => ?_⟩
      refine w2_neLB (ns := [true, false]) (ms := [true, false]) (by walk_at "isl") (by walk_at "isl") ?_
      walk_at "bm"
      refine c__law_due04 hX (by omega) (hA (by walk_at "sub")) ?_
      rw [hsh]
      walk_at "bm"
      refine ⟨x, _, d, _, rfl, own_l (by walk_at "mem"), by rfl, .inr ⟨rfl, ?_⟩⟩
      walk_at "bm"
      refine c_r_shows hX.r (d := d) (a := a) (xs := refs ts) (ps := prs ts) (t := t) (own_l (by walk_at "mem")) (by walk_at "isl") (prT_own (by walk_at "tsub")) hpl (by omega) ?_
      rw [hsh]
      walk_at "bn"
      refine ws_weak (s0 := ⟨[(a, .lst (refs ts)), (x, rIns C d a t)], tps ts ++ []⟩) (by walk_at "sub") ?_
      refine ws_cut (fun σ s => ∃ x5, σ = [some (.str (T r)), some (.ref o), some (.bl true), some (.int (0 + (i : Int))), some (.ref x), x5] ∧ s = ⟨[(a, .lst (refs ts)), (x, rIns C d a t)], tps ts ++ []⟩) ?_ ?_
      · walk_at "bm"
        refine ⟨⟨_, isL_old ho⟩, ?_⟩
        refine lp_list (xs := rs.map fun r => .str (T r)) (n := rs.length) (fun j σ s => ∃ x5, σ = [some (.str (T r)), some (.ref o), some (.bl true), some (.int (0 + (i : Int))), some (.ref x), x5] ∧ s = ⟨[(a, .lst (refs ts)), (x, rIns C d a t)], tps ts ++ []⟩) (by simp) ⟨x5, rfl, rfl⟩ (fun _ _ _ _ _ => isL_old ho) ?_ (fun σ s ⟨x5, e1, e2⟩ => ⟨_, Sub.refl _, x5, e1, e2⟩)
        rintro j y σ s hj hy ⟨x5, rfl, rfl⟩
        obtain ⟨z, hz, rfl⟩ := getR hy
        have hzl := hrs z (List.mem_of_getElem? hz)
        refine wg_name ?_
        walk_at "bm"
        refine ⟨x, _, d, _, rfl, own_l (by walk_at "mem"), by rfl, .inr ⟨rfl, ?_⟩⟩
        walk_at "bm"
        refine c_r_shows hX.r (d := d) (a := a) (xs := refs ts) (ps := prs ts) (t := t) (own_l (by walk_at "mem")) (by walk_at "isl") (prT_own (by walk_at "tsub")) hpl hzl ?_
        walk_at "bm"
        refine c__law_due04 hX hzl (hA (by walk_at "sub")) ?_
        walk_at "bm"
        refine spl_f (by simp) ?_
        walk_at "bm"
        exact ⟨_, Sub.refl _, _, rfl, rfl⟩
      rintro σ s ⟨x5, rfl, rfl⟩
      walk_at "bm"
      refine ⟨_, _, _, _, _, rfl, own_l (by walk_at "mem"), hX.r.c.cl, hX.r.ns, rfl, ?_⟩
      walk_at "bm"
      refine ⟨by simp, fun p hp => ?_⟩
      walk_at "bm"
      refine ⟨x, _, d, _, rfl, own_l (by walk_at "mem"), by rfl, .inr ⟨rfl, ?_⟩⟩
      walk_at "bm"
      refine c_r_shows hX.r (d := d) (a := a) (xs := refs ts ++ [.ref p]) (ps := prs ts ++ [(0, (r.length : Int) + 1)]) (t := t) (own_l (by walk_at "mem")) (by walk_at "isl") (fun H' w => PrT.app (prT_own (by walk_at "tsub") H' w) (.cons ⟨p, rfl, w.tp _ List.mem_cons_self⟩ .nil)) (by rw [List.length_append, List.length_map]; show _ + 1 ≤ 5000; omega) (by omega) ?_
      rw [rnSh_out]
      walk_at "bm"
      exact ⟨_, by walk_at "sub", _, _, _, rfl, rfl⟩
    · have evt : ev = false := by rw [← hgv, decide_eq_false h0]
      subst evt
      refine ws_seq ?_
      walk_at "bn"
      refine c_rounds_un hX hl h0 fun x d => ?_
      walk_at "bn"
      have hty : ∀ {s : Ld}, (x, uIns C d (hgt r)) ∈ s.L → ∀ H', Own H H' s → TyX K H' (.ref x) (.ref C.c_Uneven) := fun h H' w => hX.u.c.ty (w.own _ h).2
      have hA : ∀ {s : Ld}, Sub ⟨[(x, uIns C d (hgt r))], []⟩ s → ∀ H', Own H H' s → RnAns K C H' x (fun r' => unSh r' (hgt r)) := fun {s} hs H' w => .inl ⟨d, _, own_l (by walk_at "mem") H' (w.sub hs), rfl⟩
      walk_at "bm"
      refine wl_isiC (hty (by walk_at "mem")) hX.ua ?_
      walk_at "bm"
      refine wl_isiC (hty (by walk_at "mem")) hX.ut ?_
      walk_at "bm"
      refine wl_isiC (hty (by walk_at "mem")) hX.uo ?_
      walk_at "bm"
      refine wl_isiC (hty (by walk_at "mem")) hX.us ?_
      walk_at "bm"
      refine wl_isiC (hty (by walk_at "mem")) hX.ur ?_
      walk_at "bm"
      refine wl_isiC (hty (by walk_at "mem")) (kit_self _ _) ?_
      walk_at "bm"
      refine ⟨by simp, fun p1 hp1 => ?_⟩
      walk_at "bm"
      refine ⟨by simp, fun p2 hp2 => ?_⟩
      refine w2_neLB (ns := [false, true]) (ms := [false, true]) (by walk_at "isl") (by walk_at "isl") ?_
      walk_at "bm"
      refine c__law_due04 hX (by omega) (hA (by walk_at "sub")) ?_
      rw [unSh_self h0]
      walk_at "bm"
      refine ⟨x, _, d, _, rfl, own_l (by walk_at "mem"), by rfl, .inl ⟨rfl, ?_⟩⟩
      walk_at "bm"
      refine c_u_shows hX.u (d := d) (z := hgt r) (own_l (by walk_at "mem")) (by omega) ?_
      rw [unSh_self h0]
      walk_at "bn"
      refine ws_weak (s0 := ⟨[(x, uIns C d (hgt r))], []⟩) (by walk_at "sub") ?_
      refine ws_cut (fun σ s => ∃ x5, σ = [some (.str (T r)), some (.ref o), some (.bl false), some (.int (0 + (i : Int))), some (.ref x), x5] ∧ s = ⟨[(x, uIns C d (hgt r))], []⟩) ?_ ?_
      · walk_at "bm"
        refine ⟨⟨_, isL_old ho⟩, ?_⟩
        refine lp_list (xs := rs.map fun r => .str (T r)) (n := rs.length) (fun j σ s => ∃ x5, σ = [some (.str (T r)), some (.ref o), some (.bl false), some (.int (0 + (i : Int))), some (.ref x), x5] ∧ s = ⟨[(x, uIns C d (hgt r))], []⟩) (by simp) ⟨x5, rfl, rfl⟩ (fun _ _ _ _ _ => isL_old ho) ?_ (fun σ s ⟨x5, e1, e2⟩ => ⟨_, Sub.refl _, x5, e1, e2⟩)
        rintro j y σ s hj hy ⟨x5, rfl, rfl⟩
        obtain ⟨z, hz, rfl⟩ := getR hy
        have hzl := hrs z (List.mem_of_getElem? hz)
        refine wg_name ?_
        walk_at "bm"
        refine ⟨x, _, d, _, rfl, own_l (by walk_at "mem"), by rfl, .inl ⟨rfl, ?_⟩⟩
        walk_at "bm"
        refine c_u_shows hX.u (d := d) (z := hgt r) (own_l (by walk_at "mem")) hzl ?_
        walk_at "bm"
        refine c__law_due04 hX hzl (hA (by walk_at "sub")) ?_
        walk_at "bm"
        refine spl_f (by simp) ?_
        walk_at "bm"
        exact ⟨_, Sub.refl _, _, rfl, rfl⟩
      rintro σ s ⟨x5, rfl, rfl⟩
      walk_at "bm"
      exact ⟨_, by walk_at "sub", _, _, _, rfl, rfl⟩
  rintro σ s ⟨x3, x4, x5, rfl, rfl⟩
  walk_at "bm"
theorem c__law_right04 {K : PySem.W.Frag} {C : CA} {H0 : Hp} {s : Ld} {Q : V → Ld → Prop} {E : XK} {r : List Bool} {b : Addr} {rs : List (List Bool)} (hX : Ex04 K C) (hl : r.length ≤ 40) (hb : IsL K H0 s b (rs.map fun r => .str (T r))) (hrs : ∀ u ∈ rs, u.length ≤ 1000) (q : Q (.bl true) s) : WC H0 (sp__law_right04 K C) E [.str (T r), .ref b] s Q := wc_V (fun H o => ⟨r, b, rs, hX, rfl, hl, hb H o, hrs, rfl⟩) q
end BM
namespace BM
open PySem L2 Evl
local macro_rules | `(tactic| walk_at "mem") => `(tactic| first | exact List.mem_cons_self | (refine List.mem_cons_of_mem _ ?_; walk_at "mem"))
local macro_rules | `(tactic| walk_at "swap") => `(tactic| first | exact Swap.here | (apply Swap.there; walk_at "swap"))
local macro_rules | `(tactic| walk_at "subl") => `(tactic| first | exact List.Sublist.refl _ | exact List.nil_sublist _ | (refine List.Sublist.cons_cons _ ?_; walk_at "subl") | (refine List.Sublist.cons _ ?_; walk_at "subl"))
local macro_rules | `(tactic| walk_at "sub") => `(tactic| first | exact Sub.refl _ | (refine ⟨?_, ?_⟩ <;> walk_at "subl"))
local macro_rules | `(tactic| walk_at "isl") => `(tactic| first | exact isL_own (by walk_at "mem") | exact isL_old (by assumption) | assumption)
local macro_rules | `(tactic| walk_at "ist") => `(tactic| first | exact isT_own (by walk_at "mem") | exact isT_old (by assumption) | assumption)
local macro_rules | `(tactic| walk_at "len") => `(tactic| first | omega | decide | (simp only [List.length_map, List.length_take, List.length_drop, List.length_append, List.length_cons, List.length_nil, List.length_reverse, dps_len, flp_len]; omega) | (simp [dps_len, flp_len]; omega) | simp)
local macro_rules | `(tactic| walk_at "b0") => `(tactic| first
  | with_reducible refine' ws_set ?_
  | with_reducible refine' ws_par ?_
  | with_reducible refine' ws_asg ?_
  | with_reducible refine' ws_drop ?_
  | with_reducible refine' ws_ret ?_
  | with_reducible refine' ws_if ?_
  | with_reducible refine' ws_next ?_
  | with_reducible refine' ws_brk ?_
  | with_reducible refine' ws_cont ?_
  | ((with_reducible refine' we_var ?hv ?_); case hv => rfl)
  | with_reducible refine' we_c ?_
  | with_reducible refine' we_op ?_
  | with_reducible refine' we_un ?_
  | with_reducible refine' we_if ?_
  | with_reducible refine' we_and ?_
  | with_reducible refine' we_or ?_
  | with_reducible refine' we_not ?_
  | with_reducible refine' wa_nil ?_
  | with_reducible refine' wa_cons ?_
  | (with_reducible refine' we_lst ?_)
  | (with_reducible refine' we_tup ?_)
  | with_reducible refine' we_cb ?_
  | with_reducible refine' we_call0 ?_
  | with_reducible refine' we_sl ?_
  | with_reducible refine' wo_none ?_
  | (with_reducible refine' wo_some ?_)
  | with_reducible refine' wt_test ?_
  | with_reducible refine' wt_B ?_
  | with_reducible refine' wt_and ?_
  | with_reducible refine' wt_or ?_
  | with_reducible refine' wt_not ?_
  | with_reducible refine' wt_yes ?_
  | with_reducible refine' we_chain ?_
  | with_reducible refine' we_chain3 ?_
  | with_reducible refine' we_revT ?_
  | with_reducible refine' we_revL ?_
  | with_reducible refine' we_bm ?_
  | with_reducible refine' we_bm0 ?_
  | with_reducible refine' ws_for ?_
  | with_reducible refine' we_lc ?_
  | with_reducible refine' wi_list ?_
  | with_reducible refine' wi_tup ?_
  | with_reducible refine' wi_T ?_
  | with_reducible refine' wi_rng1 ?_
  | with_reducible refine' wi_rng2 ?_
  | with_reducible refine' wi_rng3 ?_
  | with_reducible refine' wi_enum ?_
  | with_reducible refine' wi_enumT ?_
  | with_reducible refine' wi_zip ?_
  | with_reducible refine' wg_name ?_
  | with_reducible refine' wg_sub ?_
  | with_reducible refine' wgs_nil ?_
  | with_reducible refine' wgs_cons ?_
  | ((with_reducible refine' wg_tup ?ht ?hn ?_); (case ht => walk_at "ist"); (case hn => rfl))
  | with_reducible refine' w2_add ?_
  | with_reducible refine' w2_sub ?_
  | with_reducible refine' w2_lt ?_
  | with_reducible refine' w2_le ?_
  | with_reducible refine' w2_gt ?_
  | with_reducible refine' w2_ge ?_
  | with_reducible refine' w2_eqI ?_
  | with_reducible refine' w2_neI ?_
  | with_reducible refine' w2_eqT ?_
  | with_reducible refine' w2_neT ?_
  | with_reducible refine' w2_eqB ?_
  | with_reducible refine' w2_neB ?_
  | with_reducible refine' w2_isN ?_
  | with_reducible refine' w2_notN ?_
  | with_reducible refine' w2_isB ?_
  | with_reducible refine' w2_inT ?_
  | with_reducible refine' w1_neg ?_
  | with_reducible refine' wl_abs ?_
  | with_reducible refine' wl_max2 ?_
  | with_reducible refine' wl_min2 ?_
  | with_reducible refine' wl_intB ?_
  | ((with_reducible refine' w2_div ?h ?_); case h => first | omega | (constructor <;> omega))
  | ((with_reducible refine' w2_mod ?h ?_); case h => omega)
  | ((with_reducible refine' w2_catT ?h ?_); case h => walk_at "len")
  | ((with_reducible refine' wsl_T ?h ?_); case h => walk_at "len")
  | ((with_reducible refine' wl_lenT ?h ?_); case h => walk_at "len")
  | ((with_reducible refine' wl_len ?h ?_); case h => walk_at "isl")
  | ((with_reducible refine' wl_len ?h ?_); case h => walk_at "isl")
  | ((with_reducible refine' wm_append ?sw ?hl ?_); (case sw => walk_at "swap"); (case hl => walk_at "len")))
local macro_rules | `(tactic| walk_at "b1") => `(tactic| first | with_reducible refine' ws_seq ?_ | walk_at "b0")
local macro_rules | `(tactic| walk_at "bx") => `(tactic| first
  | refine ⟨_, rfl, ?_⟩
  | refine ⟨_, _, rfl, ?_⟩
  | refine ⟨ty_L (by walk_at "isl"), ?_⟩
  | refine ⟨ty_S, ?_⟩
  | refine spl_t (by rfl) ?_
  | refine spl_f (by rfl) ?_
  | exact rfl)
local macro_rules | `(tactic| walk_at "bm") => `(tactic| repeat (first | walk_at "b1" | walk_at "bx"))
local macro_rules | `(tactic| walk_at "bn") => `(tactic| repeat (first | walk_at "b0" | walk_at "bx"))
local macro_rules | `(tactic| walk_at "b0") => `(tactic| with_reducible refine' c_deepens ?_)
local macro_rules | `(tactic| walk_at "b0") => `(tactic| ((with_reducible refine' c_depths_of ?hl ?_); (case hl => walk_at "len")))
local macro_rules | `(tactic| walk_at "b0") => `(tactic| with_reducible refine' c_is_wholeI ?_)
local macro_rules | `(tactic| walk_at "b0") => `(tactic| with_reducible refine' c_flipped ?_)
local macro_rules | `(tactic| walk_at "b0") => `(tactic| ((with_reducible refine' c_is_right_row ?hl ?_); (case hl => walk_at "len")))
local macro_rules | `(tactic| walk_at "b0") => `(tactic| ((with_reducible refine' c_asked_row ?hl ?_); (case hl => walk_at "len")))
local macro_rules | `(tactic| walk_at "b0") => `(tactic| ((with_reducible refine' c_depths ?hl ?_); (case hl => walk_at "len")))
local macro_rules | `(tactic| walk_at "b0") => `(tactic| ((with_reducible refine' c_is_right ?hl ?_); (case hl => walk_at "len")))
local macro_rules | `(tactic| walk_at "b0") => `(tactic| ((with_reducible refine' c__law_depths ?hl ?_); (case hl => walk_at "len")))
local macro_rules | `(tactic| walk_at "b0") => `(tactic| ((with_reducible refine' c__law_good ?hl ?_); (case hl => walk_at "len")))
local macro_rules | `(tactic| walk_at "b0") => `(tactic| ((with_reducible refine' wl_listOf ?hx ?_); (case hx => walk_at "isl")))
local macro_rules | `(tactic| walk_at "b0") => `(tactic| with_reducible refine' w2_notB ?_)
local macro_rules | `(tactic| walk_at "own") => `(tactic| exact own_l (by walk_at "mem"))
local macro_rules | `(tactic| walk_at "b0") => `(tactic| with_reducible refine' we_fld ?_)
local macro_rules | `(tactic| walk_at "b0") => `(tactic| refine ⟨_, _, _, _, _, rfl, own_l (by walk_at "mem"), Grw.cl (by assumption), Grw.nr (by assumption), by rfl, ?_⟩)
local macro_rules | `(tactic| walk_at "b0") => `(tactic| refine ⟨_, _, _, _, _, rfl, fun H' o => o.ex _ _ (by assumption), Grw.cl (by assumption), Grw.nr (by assumption), by rfl, ?_⟩)
local macro_rules | `(tactic| walk_at "b0") => `(tactic| with_reducible refine' we_meth ?_)
local macro_rules | `(tactic| walk_at "b0") => `(tactic| refine ⟨_, _, _, rfl, own_l (by walk_at "mem"), by rfl, ?_⟩)
local macro_rules | `(tactic| walk_at "b0") => `(tactic| refine ⟨_, _, _, rfl, fun H' o => o.ex _ _ (by assumption), by rfl, ?_⟩)
local macro_rules | `(tactic| walk_at "gown") => `(tactic| first | exact own_l (by walk_at "mem") | exact fun H' o => o.ex _ _ (by assumption))
local macro_rules | `(tactic| walk_at "b0") => `(tactic| with_reducible refine' wm_countT ?_)
local macro_rules | `(tactic| walk_at "b0") => `(tactic| with_reducible refine' we_methU ?_)
theorem rn_told {r : List Bool} {ps : List (Int × Int)} {t : Option Int} (h : rnSh r ps t = true) : (ps.length < 2 → t = none) ∧ (ps.length = 2 → rnTop r t = true) := by
  unfold rnSh at h
  split at h
  · rename_i hh
    rw [Bool.and_eq_true] at h
    have h2 := h.2
    by_cases e0 : ps.length = 0
    · rw [if_pos e0] at h2
      exact ⟨fun _ => Option.isNone_iff_eq_none.mp h2, fun e => by omega⟩
    · rw [if_neg e0, Bool.and_eq_true] at h2
      by_cases e1 : ps.length = 1
      · rw [if_pos e1] at h2
        exact ⟨fun _ => Option.isNone_iff_eq_none.mp h2.2, fun e => by omega⟩
      · rw [if_neg e1] at h2
        exact ⟨fun e => by omega, fun _ => h2.2⟩
  · cases h
theorem c_rounds_n {K : PySem.W.Frag} {C : CA} {H0 : Hp} {s : Ld} {Q : V → Ld → Prop} {E : XK} {r : List Bool} (n : Nat) (P : Option Int → Prop) (hX : Ex04 K C) (hl : r.length ≤ 40) (h0 : hgt r = 0) (hn : rk r = n) (hP : ∀ t, (n < 2 → t = none) → (n = 2 → rnTop r t = true) → P t)
    (q : ∀ x d a ts t, ts.length = n → P t → Q (.ref x) ⟨(a, .lst (refs ts)) :: (x, rIns C d a t) :: s.L, tps ts ++ s.T⟩) : WC H0 (sp_rounds K C) E [.str (T r)] s Q :=
  c_rounds_ev hX hl h0 fun x d a ts t h1 h2 => by
    have e : (prs ts).length = n := by rw [List.length_map, h2, hn]
    have h3 := rn_told h1
    rw [e] at h3
    exact q x d a ts t (h2.trans hn) (hP t h3.1 h3.2)
theorem ln__law_least04 {K : PySem.W.Frag} {C : CA} {vs : List V} {H : Hp} {Q : VK} {E : XK} (h : sp__law_least04 K C vs H Q E) : vs.length = 1 := by
  obtain ⟨_, ⟨r, rfl, _⟩, _⟩ := h
  rfl
theorem pu__law_least04 {K : PySem.W.Frag} {C : CA} {vs : List V} {H : Hp} {Q : VK} {E : XK} (h : sp__law_least04 K C vs H Q E) : rd__law_least04 K C { nx := fun _ H' => Q .non H', rt := Q } (start N__law_least04 vs) H := by
  obtain ⟨_, ⟨r, rfl, hl, h0, rfl⟩, k⟩ := h
  refine body_V ?_ k
  unfold rd__law_least04
  refine ws_seq ?_
  walk_at "bn"
  refine ⟨fun h1 => ?_, fun h1 => ?_⟩
  · walk_at "bn"
    show V.int 0 = V.int _
    rw [rk_zero.mpr h1]
    rfl
  have hk0 : rk r ≠ 0 := fun e => by rw [rk_zero.mp e] at h1; cases h1
  have hk2 := rk_le (r := r)
  walk_at "bn"
  refine ws_cut (fun σ s => ∃ x1 x2, σ = [some (.str (T r)), x1, x2] ∧ s = ⟨[], []⟩ ∧ ∀ f b : Nat, f < r.length → f + 2 ≤ b → b ≤ r.length → isR (rnd r f b) = false) ?_ ?_
  · walk_at "bm"
    refine ⟨by omega, ?_⟩
    refine lp_rng (fun i σ s => ∃ x1 x2, σ = [some (.str (T r)), x1, x2] ∧ s = ⟨[], []⟩ ∧ ∀ f b : Nat, f < i → f + 2 ≤ b → b ≤ r.length → isR (rnd r f b) = false) ⟨none, none, rfl, rfl, fun f b h => absurd h (Nat.not_lt_zero _)⟩ ?_ (fun σ s ⟨x1, x2, e1, e2, e3⟩ => ⟨_, Sub.refl _, x1, x2, e1, e2, by rw [Int.toNat_natCast] at e3; exact e3⟩)
    rintro i σ s hi ⟨x1, x2, rfl, rfl, hI⟩
    rw [show ((0 : Int) + (i : Int)) = (i : Int) by omega]
    have hi' : i < r.length := by omega
    refine wg_name ?_
    walk_at "bm"
    refine ⟨by omega, ?_⟩
    refine lp_rng (fun j σ s => ∃ x2, σ = [some (.str (T r)), some (.int (i : Int)), x2] ∧ s = ⟨[], []⟩ ∧ ∀ b : Nat, i + 2 ≤ b → b < i + 2 + j → isR (rnd r i b) = false) ⟨x2, rfl, rfl, fun b h h2 => by omega⟩ ?_ ?_
    · rintro j σ s hj ⟨x2, rfl, rfl, hJ⟩
      rw [show ((i : Int) + 2 + (j : Int)) = ((i + 2 + j : Nat) : Int) by omega]
      have hb : i + 2 + j ≤ r.length := by omega
      refine wg_name ?_
      walk_at "bn"
      refine ⟨by simp, fun p hp => ?_⟩
      walk_at "bn"
      refine ⟨by simp, fun q hq => ?_⟩
      walk_at "bn"
      refine c__law_round (ps := [((i : Int), ((i + 2 + j : Nat) : Int))]) (by omega) (fun H' o => ⟨[.ref p], isL_own (by walk_at "mem") H' o, .cons ⟨p, rfl, st_of (o.tp _ List.mem_cons_self)⟩ .nil⟩) ?_
      rw [if_pos (fun z hz => by rw [List.mem_singleton.mp hz]; exact ⟨by omega, by show (i : Int) < ((i + 2 + j : Nat) : Int); omega, by show ((i + 2 + j : Nat) : Int) ≤ _; omega⟩)]
      have er : rnAll r [((i : Int), ((i + 2 + j : Nat) : Int))] = rnd r i (i + 2 + j) := rfl
      rw [er]
      have hrl : (rnd r i (i + 2 + j)).length = r.length := rnd_len (by omega) hb
      walk_at "bn"
      refine ⟨fun h2 => ?_, fun h2 => ?_⟩
      · walk_at "bn"
        have hk : rk r ≠ 2 := fun e => by rw [rk_two h0 e (by omega) hb] at h2; cases h2
        show V.int 1 = V.int _
        rw [show rk r = 1 by omega]
        rfl
      · walk_at "bm"
        refine ⟨_, by walk_at "sub", _, rfl, rfl, fun b h3 h4 => ?_⟩
        rcases Nat.lt_or_ge b (i + 2 + j) with h | h
        · exact hJ b h3 h
        · rw [show b = i + 2 + j by omega]
          exact h2
    · rintro σ s ⟨x2, rfl, rfl, hJ⟩
      refine ⟨_, Sub.refl _, _, _, rfl, rfl, fun f b h3 h4 h5 => ?_⟩
      rcases Nat.lt_or_ge f i with h | h
      · exact hI f b h h4 h5
      · have e : f = i := by omega
        subst e
        exact hJ b h4 (by omega)
  rintro σ s ⟨x1, x2, rfl, rfl, hall⟩
  walk_at "bn"
  have hk : rk r ≠ 1 := fun e => by
    obtain ⟨f, b, g1, g2, g3⟩ := rk_one h0 e
    rw [hall f b (by omega) g1 g2] at g3
    cases g3
  show V.int 2 = V.int _
  rw [show rk r = 2 by omega]
  rfl
theorem c__law_least04 {K : PySem.W.Frag} {C : CA} {H0 : Hp} {s : Ld} {Q : V → Ld → Prop} {E : XK} {r : List Bool} (hl : r.length ≤ 14) (h0 : hgt r = 0) (q : Q (.int ((rk r : Nat) : Int)) s) : WC H0 (sp__law_least04 K C) E [.str (T r)] s Q := wc_V (fun H o => ⟨r, rfl, hl, h0, rfl⟩) q
theorem top345 {t : Option Int} (h : rnTop [false, true, true, true, false, false, false, true] t = true) : t = some 3 ∨ t = some 4 ∨ t = some 5 := by
  cases t with
  | none => cases h
  | some z =>
    rw [rnTop_some, Bool.and_eq_true] at h
    have h1 := of_decide_eq_true h.1
    have e1 : bf [false, true, true, true, false, false, false, true] = 1 := by decide +kernel
    have e2 : bl [false, true, true, true, false, false, false, true] = 7 := by decide +kernel
    rw [e1, e2] at h1
    have hz : z = 1 ∨ z = 2 ∨ z = 3 ∨ z = 4 ∨ z = 5 ∨ z = 6 ∨ z = 7 := by omega
    rcases hz with rfl | rfl | rfl | rfl | rfl | rfl | rfl
    · exact absurd h.2 (by decide +kernel)
    · exact absurd h.2 (by decide +kernel)
    · exact .inl rfl
    · exact .inr (.inl rfl)
    · exact .inr (.inr rfl)
    · exact absurd h.2 (by decide +kernel)
    · exact absurd h.2 (by decide +kernel)
theorem ln_law04 {K : PySem.W.Frag} {C : CA} {vs : List V} {H : Hp} {Q : VK} {E : XK} (h : sp_law04 K C vs H Q E) : vs.length = 1 := by
  obtain ⟨_, ⟨a, ns, _, rfl, _⟩, _⟩ := h
  rfl
theorem pu_law04 {K : PySem.W.Frag} {C : CA} {vs : List V} {H : Hp} {Q : VK} {E : XK} (h : sp_law04 K C vs H Q E) : rd_law04 K C { nx := fun _ H' => Q .non H', rt := Q } (start N_law04 vs) H := by
  obtain ⟨_, ⟨a, ns, hX, rfl, hs, hns, rfl⟩, k⟩ := h
  refine body_V ?_ k
  unfold rd_law04
  refine ws_cut (fun σ s => ∃ x1 x2 x3, σ = [some (.ref a), x1, x2, x3] ∧ s = ⟨[], []⟩) ?_ ?_
  · walk_at "bm"
    refine ⟨by decide, fun q0 hq0 => ?_⟩
    refine ⟨_, rfl, ⟨_, by walk_at "isl"⟩, ?_⟩
    refine lp_list (xs := [0, 1, 2, 3].map V.int) (n := 4) (fun i σ s => ∃ x1 x2 x3, σ = [some (.ref a), x1, x2, x3] ∧ s = ⟨[(q0, .lst ([0, 1, 2, 3].map V.int))], []⟩) rfl ⟨none, none, none, rfl, rfl⟩ (fun i σ s hi ⟨x1, x2, x3, _, e⟩ => by rw [e]; walk_at "isl") ?_ (fun σ s ⟨x1, x2, x3, e1, e2⟩ => ⟨⟨[], []⟩, by rw [e2]; walk_at "sub", x1, x2, x3, e1, rfl⟩)
    rintro i y σ s hi hy ⟨x1, x2, x3, rfl, rfl⟩
    obtain ⟨by0, hby, rfl⟩ := getI hy
    have hb3 : 0 ≤ by0 ∧ by0 ≤ 3 := by
      have : by0 ∈ ([0, 1, 2, 3] : List Int) := List.mem_of_getElem? hby
      simp at this
      omega
    refine wg_name ?_
    refine ws_seq ?_
    walk_at "bn"
    refine c__law_row (isL_old hs) hns (by omega) fun r hr _ => ?_
    refine ws_cut (fun σ s => ∃ x2 x3, σ = [some (.ref a), some (.int by0), x2, x3] ∧ s = ⟨[(q0, .lst ([0, 1, 2, 3].map V.int))], []⟩) ?_ ?_
    · walk_at "bm"
      refine c__law_row (isL_old hs) hns (by omega) fun r2 hr2 _ => ?_
      walk_at "bm"
      refine ⟨by omega, ?_⟩
      walk_at "bm"
      rw [cut_lo (by omega)]
      walk_at "bm"
      refine ⟨by simp, fun q1 hq1 => ?_⟩
      walk_at "bm"
      refine c__law_right04 (rs := [r2, r.reverse, r.drop 2, []]) hX (by omega) (by walk_at "isl") (fun u hu => ?_) ?_
      · simp only [List.mem_cons, List.not_mem_nil, or_false] at hu
        rcases hu with rfl | rfl | rfl | rfl
        · omega
        · rw [List.length_reverse]; omega
        · rw [List.length_drop]; omega
        · simp
      walk_at "bm"
      exact ⟨_, by walk_at "sub", _, _, rfl, rfl⟩
    rintro σ s ⟨x2, x3, rfl, rfl⟩
    refine ws_seq ?_
    walk_at "bn"
    refine c__law_row (isL_old hs) hns (by omega) fun r hr hev => ?_
    have h0 := hev rfl
    walk_at "bm"
    refine c_rounds_ev hX (by omega) h0 fun x d b ts t _ hrk => ?_
    walk_at "bm"
    refine wl_isiC (fun H' w => hX.r.c.ty ((own_l (by walk_at "mem")) H' w)) (kit_self _ _) ?_
    walk_at "bm"
    refine ⟨_, _, _, _, _, rfl, own_l (by walk_at "mem"), hX.r.c.cl, hX.r.ns, rfl, ?_⟩
    walk_at "bm"
    refine c__law_least04 (by omega) h0 ?_
    rw [List.length_map, hrk]
    walk_at "bm"
    refine spl_f (by simp) ?_
    walk_at "bm"
    exact ⟨_, by walk_at "sub", _, _, _, rfl, rfl⟩
  rintro σ s ⟨x1, x2, x3, rfl, rfl⟩
  refine ws_seq ?_
  walk_at "bn"
  refine c_rounds_n 2 (fun _ => True) hX (by decide) (by decide) (by decide +kernel) (fun _ _ _ => trivial) fun x d b ts t e1 _ => ?_
  walk_at "bm"
  refine ⟨_, _, _, _, _, rfl, own_l (by walk_at "mem"), hX.r.c.cl, hX.r.ns, rfl, ?_⟩
  walk_at "bm"
  rw [List.length_map, e1]
  refine spl_f (by decide) ?_
  walk_at "bm"
  refine c_rounds_n (r := [false, true]) 1 (fun _ => True) hX (by decide) (by decide) (by decide +kernel) (fun _ _ _ => trivial) fun x3 d3 b3 ts3 t3 e3 _ => ?_
  walk_at "bm"
  refine ⟨_, _, _, _, _, rfl, own_l (by walk_at "mem"), hX.r.c.cl, hX.r.ns, rfl, ?_⟩
  walk_at "bm"
  rw [List.length_map, e3]
  refine spl_f (by decide) ?_
  walk_at "bm"
  refine c_rounds_n (r := [false, true, true, true, false, false, false, true]) 2 (fun _ => True) hX (by decide) (by decide) (by decide +kernel) (fun _ _ _ => trivial) fun x4 d4 b4 ts4 t4 e4 _ => ?_
  walk_at "bm"
  refine ⟨_, _, _, _, _, rfl, own_l (by walk_at "mem"), hX.r.c.cl, hX.r.ns, rfl, ?_⟩
  walk_at "bm"
  rw [List.length_map, e4]
  refine spl_f (by decide) ?_
  walk_at "bm"
  refine c_rounds_n (r := [true, false]) 0 (fun t => t = none) hX (by decide) (by decide) (by decide +kernel) (fun t h _ => h (by decide)) fun x5 d5 b5 ts5 t5 e5 p5 => ?_
  subst p5
  walk_at "bm"
  refine ⟨_, _, _, _, V.non, rfl, own_l (by walk_at "mem"), hX.r.c.cl, hX.r.nt, rfl, ?_⟩
  walk_at "bm"
  refine c_rounds_un (r := [false, false, false]) hX (by decide) (by decide) fun x6 d6 => ?_
  walk_at "bm"
  refine ⟨_, _, _, _, _, rfl, own_l (by walk_at "mem"), hX.u.c.cl, hX.u.n, rfl, ?_⟩
  walk_at "bm"
  refine c_rounds_n (r := [false, true, true, true, false, false, false, true]) 2 (fun t => ∃ z, t = some z ∧ (z = 3 ∨ z = 4 ∨ z = 5)) hX (by decide) (by decide) (by decide +kernel) (fun t _ h => by
    rcases top345 (h rfl) with rfl | rfl | rfl
    · exact ⟨3, rfl, .inl rfl⟩
    · exact ⟨4, rfl, .inr (.inl rfl)⟩
    · exact ⟨5, rfl, .inr (.inr rfl)⟩) fun x7 d7 b7 ts7 t7 e7 ⟨z7, ht7, hz7⟩ => ?_
  subst ht7
  walk_at "bm"
  refine ⟨_, _, _, _, V.int z7, rfl, own_l (by walk_at "mem"), hX.r.c.cl, hX.r.nt, rfl, ?_⟩
  walk_at "bm"
  refine ⟨by simp, fun p7 hp7 => ?_⟩
  refine w2_inU (by walk_at "ist") rfl rfl ?_
  have hin : inV (V.int z7) [V.int 3, V.int 4, V.int 5] = true := by
    rcases hz7 with rfl | rfl | rfl <;> rfl
  rw [hin]
  walk_at "bm"
  refine c_rounds_n (r := []) 0 (fun _ => True) hX (by decide) (by decide) (by decide +kernel) (fun _ _ _ => trivial) fun x8 d8 b8 ts8 t8 e8 _ => ?_
  have e8' : ts8 = [] := List.length_eq_zero_iff.mp e8
  subst e8'
  walk_at "bm"
  refine ⟨_, _, _, _, _, rfl, own_l (by walk_at "mem"), hX.r.c.cl, hX.r.ns, rfl, ?_⟩
  walk_at "bm"
  refine ⟨by simp, fun p8 hp8 => ?_⟩
  refine w2_eqLP (ns := []) (ms := []) (xs := []) (ys := []) (by walk_at "isl") (fun H' o => .nil) (by walk_at "isl") (fun H' o => .nil) ?_
  rfl
end BM
namespace BM
open PySem L2 Evl PyProof.Rows
def top (i : Nat) : Stmt := PySem.Challenge.pw_bracketmend_k04_whole_rounds.main.body.getD i (.Pass ⟨0, 0, 0, 0⟩)
abbrev s_is_whole : Stmt := top 5
theorem sc_is_whole : FnScope N_is_whole ["thing"] (defScope s_is_whole) := ⟨rfl, rfl, rfl, by decide +kernel, rfl, by decide +kernel, by decide +kernel⟩
abbrev s_asked_row : Stmt := top 6
theorem sc_asked_row : FnScope N_asked_row ["row"] (defScope s_asked_row) := ⟨rfl, rfl, rfl, by decide +kernel, rfl, by decide +kernel, by decide +kernel⟩
abbrev s_deepens : Stmt := top 7
theorem sc_deepens : FnScope N_deepens ["bracket"] (defScope s_deepens) := ⟨rfl, rfl, rfl, by decide +kernel, rfl, by decide +kernel, by decide +kernel⟩
abbrev s_depths_of : Stmt := top 8
theorem sc_depths_of : FnScope N_depths_of ["row"] (defScope s_depths_of) := ⟨rfl, rfl, rfl, by decide +kernel, rfl, by decide +kernel, by decide +kernel⟩
abbrev s_is_right_row : Stmt := top 9
theorem sc_is_right_row : FnScope N_is_right_row ["row"] (defScope s_is_right_row) := ⟨rfl, rfl, rfl, by decide +kernel, rfl, by decide +kernel, by decide +kernel⟩
abbrev s_flipped : Stmt := top 10
abbrev s_swapped : Stmt := top 11
abbrev s_turned : Stmt := top 12
abbrev s_rounded : Stmt := top 13
theorem sc_rounded : FnScope N_rounded ["row", "first", "behind"] (defScope s_rounded) := ⟨rfl, rfl, rfl, by decide +kernel, rfl, by decide +kernel, by decide +kernel⟩
abbrev s_is_stretch : Stmt := top 14
theorem sc_is_stretch : FnScope N_is_stretch ["row", "thing"] (defScope s_is_stretch) := ⟨rfl, rfl, rfl, by decide +kernel, rfl, by decide +kernel, by decide +kernel⟩
abbrev s_u_init : Stmt := inClass (top 17) 0
theorem sc_u_init : FnScope N_u_init ["self", "depth"] (defScope s_u_init) := ⟨rfl, rfl, rfl, by decide +kernel, rfl, by decide +kernel, by decide +kernel⟩
abbrev s_u_shows : Stmt := inClass (top 17) 1
theorem sc_u_shows : FnScope N_u_shows ["self", "row"] (defScope s_u_shows) := ⟨rfl, rfl, rfl, by decide +kernel, rfl, by decide +kernel, by decide +kernel⟩
abbrev s_below : Stmt := top 21
theorem sc_below : FnScope N_below ["row"] (defScope s_below) := ⟨rfl, rfl, rfl, by decide +kernel, rfl, by decide +kernel, by decide +kernel⟩
abbrev s_r_init : Stmt := inClass (top 22) 0
theorem sc_r_init : FnScope N_r_init ["self", "stretches", "top"] (defScope s_r_init) := ⟨rfl, rfl, rfl, by decide +kernel, rfl, by decide +kernel, by decide +kernel⟩
abbrev s_r_shows : Stmt := inClass (top 22) 1
theorem sc_r_shows : FnScope N_r_shows ["self", "row"] (defScope s_r_shows) := ⟨rfl, rfl, rfl, by decide +kernel, rfl, by decide +kernel, by decide +kernel⟩
abbrev s_rounds : Stmt := top 24
theorem sc_rounds : FnScope N_rounds ["row"] (defScope s_rounds) := ⟨rfl, rfl, rfl, by decide +kernel, rfl, by decide +kernel, by decide +kernel⟩
abbrev s__law_number : Stmt := top 26
theorem sc__law_number : FnScope N__law_number ["_law_cell", "_law_at", "_law_whole"] (defScope s__law_number) := ⟨rfl, rfl, rfl, by decide +kernel, rfl, by decide +kernel, by decide +kernel⟩
abbrev s__law_row : Stmt := top 27
theorem sc__law_row : FnScope N__law_row ["_law_script", "_law_by", "_law_most", "_law_even"] (defScope s__law_row) := ⟨rfl, rfl, rfl, by decide +kernel, rfl, by decide +kernel, by decide +kernel⟩
abbrev s__law_depths : Stmt := top 28
theorem sc__law_depths : FnScope N__law_depths ["_law_row_here"] (defScope s__law_depths) := ⟨rfl, rfl, rfl, by decide +kernel, rfl, by decide +kernel, by decide +kernel⟩
abbrev s__law_good : Stmt := top 29
theorem sc__law_good : FnScope N__law_good ["_law_row_here"] (defScope s__law_good) := ⟨rfl, rfl, rfl, by decide +kernel, rfl, by decide +kernel, by decide +kernel⟩
abbrev s__law_round : Stmt := top 34
theorem sc__law_round : FnScope N__law_round ["_law_row_here", "_law_stretches"] (defScope s__law_round) := ⟨rfl, rfl, rfl, by decide +kernel, rfl, by decide +kernel, by decide +kernel⟩
abbrev s__law_rounded : Stmt := top 35
theorem sc__law_rounded : FnScope N__law_rounded ["_law_row_here", "_law_stretches", "_law_top"] (defScope s__law_rounded) := ⟨rfl, rfl, rfl, by decide +kernel, rfl, by decide +kernel, by decide +kernel⟩
abbrev s__law_uneven : Stmt := top 36
theorem sc__law_uneven : FnScope N__law_uneven ["_law_row_here", "_law_depth"] (defScope s__law_uneven) := ⟨rfl, rfl, rfl, by decide +kernel, rfl, by decide +kernel, by decide +kernel⟩
abbrev s__law_due04 : Stmt := top 37
theorem sc__law_due04 : FnScope N__law_due04 ["_law_row_here", "_law_answer"] (defScope s__law_due04) := ⟨rfl, rfl, rfl, by decide +kernel, rfl, by decide +kernel, by decide +kernel⟩
abbrev s__law_right04 : Stmt := top 38
theorem sc__law_right04 : FnScope N__law_right04 ["_law_row_here", "_law_others"] (defScope s__law_right04) := ⟨rfl, rfl, rfl, by decide +kernel, rfl, by decide +kernel, by decide +kernel⟩
abbrev s__law_least04 : Stmt := top 39
theorem sc__law_least04 : FnScope N__law_least04 ["_law_row_here"] (defScope s__law_least04) := ⟨rfl, rfl, rfl, by decide +kernel, rfl, by decide +kernel, by decide +kernel⟩
abbrev s_law04 : Stmt := top 40
theorem sc_law04 : FnScope N_law04 ["_law_script"] (defScope s_law04) := ⟨rfl, rfl, rfl, by decide +kernel, rfl, by decide +kernel, by decide +kernel⟩
structure Ads extends CA where
  f_is_whole : Addr
  d_is_whole : FuncData
  f_asked_row : Addr
  d_asked_row : FuncData
  f_deepens : Addr
  d_deepens : FuncData
  f_depths_of : Addr
  d_depths_of : FuncData
  f_is_right_row : Addr
  d_is_right_row : FuncData
  f_flipped : Addr
  d_flipped : FuncData
  f_swapped : Addr
  d_swapped : FuncData
  f_turned : Addr
  d_turned : FuncData
  f_rounded : Addr
  d_rounded : FuncData
  f_is_stretch : Addr
  d_is_stretch : FuncData
  f_u_init : Addr
  d_u_init : FuncData
  f_u_shows : Addr
  d_u_shows : FuncData
  f_below : Addr
  d_below : FuncData
  f_r_init : Addr
  d_r_init : FuncData
  f_r_shows : Addr
  d_r_shows : FuncData
  f_rounds : Addr
  d_rounds : FuncData
  f__law_number : Addr
  d__law_number : FuncData
  f__law_row : Addr
  d__law_row : FuncData
  f__law_depths : Addr
  d__law_depths : FuncData
  f__law_good : Addr
  d__law_good : FuncData
  f__law_round : Addr
  d__law_round : FuncData
  f__law_rounded : Addr
  d__law_rounded : FuncData
  f__law_uneven : Addr
  d__law_uneven : FuncData
  f__law_due04 : Addr
  d__law_due04 : FuncData
  f__law_right04 : Addr
  d__law_right04 : FuncData
  f__law_least04 : Addr
  d__law_least04 : FuncData
  f_law04 : Addr
  d_law04 : FuncData
structure Txt (K : PySem.W.Frag) (mg : Str → Option Value) (A : Ads) : Prop where
  F_is_whole : Fun K "is_whole" "is_whole" s_is_whole A.f_is_whole A.d_is_whole
  g_is_whole : mg "is_whole" = some (.ref A.f_is_whole)
  b_is_whole : Binds K A.d_is_whole ["thing"] []
  F_asked_row : Fun K "asked_row" "asked_row" s_asked_row A.f_asked_row A.d_asked_row
  g_asked_row : mg "asked_row" = some (.ref A.f_asked_row)
  b_asked_row : Binds K A.d_asked_row ["row"] []
  F_deepens : Fun K "deepens" "deepens" s_deepens A.f_deepens A.d_deepens
  g_deepens : mg "deepens" = some (.ref A.f_deepens)
  b_deepens : Binds K A.d_deepens ["bracket"] []
  F_depths_of : Fun K "depths_of" "depths_of" s_depths_of A.f_depths_of A.d_depths_of
  g_depths_of : mg "depths_of" = some (.ref A.f_depths_of)
  b_depths_of : Binds K A.d_depths_of ["row"] []
  F_is_right_row : Fun K "is_right_row" "is_right_row" s_is_right_row A.f_is_right_row A.d_is_right_row
  g_is_right_row : mg "is_right_row" = some (.ref A.f_is_right_row)
  b_is_right_row : Binds K A.d_is_right_row ["row"] []
  F_flipped : Fun K "flipped" "flipped" s_flipped A.f_flipped A.d_flipped
  g_flipped : mg "flipped" = some (.ref A.f_flipped)
  b_flipped : Binds K A.d_flipped ["bracket"] []
  F_swapped : Fun K "swapped" "swapped" s_swapped A.f_swapped A.d_swapped
  g_swapped : mg "swapped" = some (.ref A.f_swapped)
  b_swapped : Binds K A.d_swapped ["row", "place"] []
  F_turned : Fun K "turned" "turned" s_turned A.f_turned A.d_turned
  g_turned : mg "turned" = some (.ref A.f_turned)
  b_turned : Binds K A.d_turned ["row", "places"] []
  F_rounded : Fun K "rounded" "rounded" s_rounded A.f_rounded A.d_rounded
  g_rounded : mg "rounded" = some (.ref A.f_rounded)
  b_rounded : Binds K A.d_rounded ["row", "first", "behind"] []
  F_is_stretch : Fun K "is_stretch" "is_stretch" s_is_stretch A.f_is_stretch A.d_is_stretch
  g_is_stretch : mg "is_stretch" = some (.ref A.f_is_stretch)
  b_is_stretch : Binds K A.d_is_stretch ["row", "thing"] []
  F_u_init : Fun K "__init__" "Uneven.__init__" s_u_init A.f_u_init A.d_u_init
  m_u_init : Meth K A.c_Uneven "__init__" A.f_u_init
  b_u_init : Binds K A.d_u_init ["self", "depth"] []
  F_u_shows : Fun K "shows" "Uneven.shows" s_u_shows A.f_u_shows A.d_u_shows
  m_u_shows : Meth K A.c_Uneven "shows" A.f_u_shows
  b_u_shows : Binds K A.d_u_shows ["self", "row"] []
  F_below : Fun K "below" "below" s_below A.f_below A.d_below
  g_below : mg "below" = some (.ref A.f_below)
  b_below : Binds K A.d_below ["row"] []
  F_r_init : Fun K "__init__" "Rounded.__init__" s_r_init A.f_r_init A.d_r_init
  m_r_init : Meth K A.c_Rounded "__init__" A.f_r_init
  b_r_init : Binds K A.d_r_init ["self", "stretches", "top"] []
  F_r_shows : Fun K "shows" "Rounded.shows" s_r_shows A.f_r_shows A.d_r_shows
  m_r_shows : Meth K A.c_Rounded "shows" A.f_r_shows
  b_r_shows : Binds K A.d_r_shows ["self", "row"] []
  F_rounds : Fun K "rounds" "rounds" s_rounds A.f_rounds A.d_rounds
  g_rounds : mg "rounds" = some (.ref A.f_rounds)
  b_rounds : Binds K A.d_rounds ["row"] []
  F__law_number : Fun K "_law_number" "_law_number" s__law_number A.f__law_number A.d__law_number
  g__law_number : mg "_law_number" = some (.ref A.f__law_number)
  b__law_number : Binds K A.d__law_number ["_law_cell", "_law_at", "_law_whole"] []
  F__law_row : Fun K "_law_row" "_law_row" s__law_row A.f__law_row A.d__law_row
  g__law_row : mg "_law_row" = some (.ref A.f__law_row)
  b__law_row : Binds K A.d__law_row ["_law_script", "_law_by", "_law_most", "_law_even"] []
  F__law_depths : Fun K "_law_depths" "_law_depths" s__law_depths A.f__law_depths A.d__law_depths
  g__law_depths : mg "_law_depths" = some (.ref A.f__law_depths)
  b__law_depths : Binds K A.d__law_depths ["_law_row_here"] []
  F__law_good : Fun K "_law_good" "_law_good" s__law_good A.f__law_good A.d__law_good
  g__law_good : mg "_law_good" = some (.ref A.f__law_good)
  b__law_good : Binds K A.d__law_good ["_law_row_here"] []
  F__law_round : Fun K "_law_round" "_law_round" s__law_round A.f__law_round A.d__law_round
  g__law_round : mg "_law_round" = some (.ref A.f__law_round)
  b__law_round : Binds K A.d__law_round ["_law_row_here", "_law_stretches"] []
  F__law_rounded : Fun K "_law_rounded" "_law_rounded" s__law_rounded A.f__law_rounded A.d__law_rounded
  g__law_rounded : mg "_law_rounded" = some (.ref A.f__law_rounded)
  b__law_rounded : Binds K A.d__law_rounded ["_law_row_here", "_law_stretches", "_law_top"] []
  F__law_uneven : Fun K "_law_uneven" "_law_uneven" s__law_uneven A.f__law_uneven A.d__law_uneven
  g__law_uneven : mg "_law_uneven" = some (.ref A.f__law_uneven)
  b__law_uneven : Binds K A.d__law_uneven ["_law_row_here", "_law_depth"] []
  F__law_due04 : Fun K "_law_due" "_law_due" s__law_due04 A.f__law_due04 A.d__law_due04
  g__law_due04 : mg "_law_due" = some (.ref A.f__law_due04)
  b__law_due04 : Binds K A.d__law_due04 ["_law_row_here", "_law_answer"] []
  F__law_right04 : Fun K "_law_right" "_law_right" s__law_right04 A.f__law_right04 A.d__law_right04
  g__law_right04 : mg "_law_right" = some (.ref A.f__law_right04)
  b__law_right04 : Binds K A.d__law_right04 ["_law_row_here", "_law_others"] []
  F__law_least04 : Fun K "_law_least" "_law_least" s__law_least04 A.f__law_least04 A.d__law_least04
  g__law_least04 : mg "_law_least" = some (.ref A.f__law_least04)
  b__law_least04 : Binds K A.d__law_least04 ["_law_row_here"] []
  F_law04 : Fun K "law" "law" s_law04 A.f_law04 A.d_law04
  g_law04 : mg "law" = some (.ref A.f_law04)
  b_law04 : Binds K A.d_law04 ["_law_script"] []
  k_Rounded : Cls K A.c_Rounded
  mk_Rounded : Mk K A.c_Rounded A.f_r_init
  k_Uneven : Cls K A.c_Uneven
  mk_Uneven : Mk K A.c_Uneven A.f_u_init
  n_abs : mg "abs" = none
  n_all : mg "all" = none
  n_bool : mg "bool" = none
  n_enumerate : mg "enumerate" = none
  n_int : mg "int" = none
  n_isinstance : mg "isinstance" = none
  n_len : mg "len" = none
  n_list : mg "list" = none
  n_max : mg "max" = none
  n_min : mg "min" = none
  n_range : mg "range" = none
  n_str : mg "str" = none
  n_sum : mg "sum" = none
  n_tuple : mg "tuple" = none
  g_Answer : mg "Answer" = some (.ref A.c_Answer)
  g_LONGEST : ∃ t, mg "LONGEST" = some (.int 40 t)
  g_Odd : mg "Odd" = some (.ref A.c_Odd)
  g_Rounded : mg "Rounded" = some (.ref A.c_Rounded)
  g_Swapped : mg "Swapped" = some (.ref A.c_Swapped)
  g_Turned : mg "Turned" = some (.ref A.c_Turned)
  g_Uneven : mg "Uneven" = some (.ref A.c_Uneven)
theorem ok_is_whole {P : Program} {w : World} {K : PySem.W.Frag} {mg : Str → Option Value} {base : Heap} {A : Ads} (X_ : Txt K mg A) : FnOk P w K mg base CX0 1 A.f_is_whole A.d_is_whole ["thing"] (sp_is_whole K A.toCA) := by
  have nd_ := sc_is_whole.nd
  refine X_.F_is_whole.ok sc_is_whole (fun vs H Q E h => ln_is_whole h) (fun cdv A_ outer s H vs Q E hr h => ⟨rd_is_whole K A.toCA, ?_, pu_is_whole h⟩)
  exact (pss_one (ps_ret (pe_and (pe_callB (c_isi "int") (by rfl) X_.n_isinstance (by decide +kernel) (pa_cons (pv 0) (pa_cons (pe_bltn rfl X_.n_int (by decide +kernel) rfl) pa_nil))) (pe_one (pe_not (pe_callB (c_isi "bool") (by rfl) X_.n_isinstance (by decide +kernel) (pa_cons (pv 0) (pa_cons (pe_bltn rfl X_.n_bool (by decide +kernel) rfl) pa_nil))))))))
theorem ok_asked_row {P : Program} {w : World} {K : PySem.W.Frag} {mg : Str → Option Value} {base : Heap} {A : Ads} (X_ : Txt K mg A) : FnOk P w K mg base CX0 1 A.f_asked_row A.d_asked_row ["row"] (sp_asked_row K A.toCA) := by
  have nd_ := sc_asked_row.nd
  refine X_.F_asked_row.ok sc_asked_row (fun vs H Q E h => ln_asked_row h) (fun cdv A_ outer s H vs Q E hr h => ⟨rd_asked_row K A.toCA, ?_, pu_asked_row h⟩)
  exact (pss_one (ps_if (PW.pt (pw_or (pt_not (pt_val (pe_callB (c_isi "str") (by rfl) X_.n_isinstance (by decide +kernel) (pa_cons (pv 0) (pa_cons (pe_bltn rfl X_.n_str (by decide +kernel) rfl) pa_nil))))) (pw_or (pt_cmpR o_gt (pe_callB c_lenT (by rfl) X_.n_len (by decide +kernel) (pa_cons (pv 0) pa_nil)) (pe_glob rfl X_.g_LONGEST.choose_spec ⟨_, rfl⟩) (nomark _)) (pw_or1 (pt_not (pt_val (pe_callB (c_all rfl) (by rfl) X_.n_all (by decide +kernel) (pa_cons (pe_lc (own := [("one", 1)]) (g := (gName 1)) (tt := tYes) rfl nd_ (pi_str (pv 0)) (blkOk_by (own := [("one", 1)]) (N := N_asked_row) (sc := defScope s_asked_row) (by decide +kernel)) (fun _ _ _ _ _ => (pg_name (i := 1) nd_ rfl (Or.inl rfl))) (fun _ _ _ _ _ => pts_nil) (fun _ _ _ _ _ => (pe_cmpR o_inT (pv 1) (pe_strT [true, false]) rfl))) pa_nil)))))))) (pss_one ps_never) pss_nil))
theorem ok_deepens {P : Program} {w : World} {K : PySem.W.Frag} {mg : Str → Option Value} {base : Heap} {A : Ads} (X_ : Txt K mg A) : FnOk P w K mg base CX0 1 A.f_deepens A.d_deepens ["bracket"] (sp_deepens K A.toCA) := by
  have nd_ := sc_deepens.nd
  refine X_.F_deepens.ok sc_deepens (fun vs H Q E h => ln_deepens h) (fun cdv A_ outer s H vs Q E hr h => ⟨rd_deepens K A.toCA, ?_, pu_deepens h⟩)
  exact (pss_one (ps_ret (pe_ifExp (pt_cmpR op_eq (pv 0) (pe_strT [true]) (nomark _)) pe_int (pe_un o_neg pe_int))))
theorem ok_depths_of {P : Program} {w : World} {K : PySem.W.Frag} {mg : Str → Option Value} {base : Heap} {A : Ads} (X_ : Txt K mg A) : FnOk P w K mg base CX0 2 A.f_depths_of A.d_depths_of ["row"] (sp_depths_of K A.toCA) := by
  have nd_ := sc_depths_of.nd
  refine X_.F_depths_of.ok sc_depths_of (fun vs H Q E h => ln_depths_of h) (fun cdv A_ outer s H vs Q E hr h => ⟨rd_depths_of K A.toCA, ?_, pu_depths_of h⟩)
  exact (pss_cons (ps_set (i := 1) nd_ rfl (Or.inl rfl) (pe_lst (pa_cons pe_int pa_nil)))
    (pss_cons (ps_for PassesOwn.never rfl (pi_str (pv 0)) (pg_name (i := 2) nd_ rfl (Or.inl rfl)) (pss_one (ps_expr (pe_bm PySem.F.plainAttrs_list PySem.F.slot_list_append PySem.F.type_list_append mt_append (pv 1) (pa_cons (pe_op o_add (pe_ix ix_list (pv 1) (pe_un o_neg pe_int) (fun _ _ => rfl)) (pe_call (ok_deepens X_) (hr.mono (by decide)) rfl X_.g_deepens X_.F_deepens.kp X_.b_deepens .nil pass0 (pa_cons (pv 2) pa_nil))) pa_nil)))))
    (pss_one (ps_ret (pv 1)))))
theorem ok_is_right_row {P : Program} {w : World} {K : PySem.W.Frag} {mg : Str → Option Value} {base : Heap} {A : Ads} (X_ : Txt K mg A) : FnOk P w K mg base CX0 3 A.f_is_right_row A.d_is_right_row ["row"] (sp_is_right_row K A.toCA) := by
  have nd_ := sc_is_right_row.nd
  refine X_.F_is_right_row.ok sc_is_right_row (fun vs H Q E h => ln_is_right_row h) (fun cdv A_ outer s H vs Q E hr h => ⟨rd_is_right_row K A.toCA, ?_, pu_is_right_row h⟩)
  exact (pss_cons (ps_set (i := 1) nd_ rfl (Or.inl rfl) (pe_call (ok_depths_of X_) (hr.mono (by decide)) rfl X_.g_depths_of X_.F_depths_of.kp X_.b_depths_of .nil pass0 (pa_cons (pv 0) pa_nil)))
    (pss_one (ps_ret (pe_and (pe_cmpR op_eq (pe_ix ix_list (pv 1) (pe_un o_neg pe_int) (fun _ _ => rfl)) pe_int (nomark _)) (pe_one (pe_cmpR op_eq (pe_callB (cr_min rfl) (by rfl) X_.n_min (by decide +kernel) (pa_cons (pv 1) pa_nil)) pe_int (nomark _)))))))
theorem ok_rounded {P : Program} {w : World} {K : PySem.W.Frag} {mg : Str → Option Value} {base : Heap} {A : Ads} (X_ : Txt K mg A) : FnOk P w K mg base CX0 1 A.f_rounded A.d_rounded ["row", "first", "behind"] (sp_rounded K A.toCA) := by
  have nd_ := sc_rounded.nd
  refine X_.F_rounded.ok sc_rounded (fun vs H Q E h => ln_rounded h) (fun cdv A_ outer s H vs Q E hr h => ⟨rd_rounded K A.toCA, ?_, pu_rounded h⟩)
  exact (pss_one (ps_ret (pe_op o_catT (pe_op o_catT (pe_slice s_T (pv 0) po_none (po_some (pv 1))) (pe_revT (pe_slice s_T (pv 0) (po_some (pv 1)) (po_some (pv 2))))) (pe_slice s_T (pv 0) (po_some (pv 2)) po_none))))
theorem ok_is_stretch {P : Program} {w : World} {K : PySem.W.Frag} {mg : Str → Option Value} {base : Heap} {A : Ads} (X_ : Txt K mg A) : FnOk P w K mg base CX0 2 A.f_is_stretch A.d_is_stretch ["row", "thing"] (sp_is_stretch K A.toCA) := by
  have nd_ := sc_is_stretch.nd
  refine X_.F_is_stretch.ok sc_is_stretch (fun vs H Q E h => ln_is_stretch h) (fun cdv A_ outer s H vs Q E hr h => ⟨rd_is_stretch K A.toCA, ?_, pu_is_stretch h⟩)
  exact (pss_cons (ps_if (PW.pt (pw_or (pt_not (pt_val (pe_callB (c_isi "tuple") (by rfl) X_.n_isinstance (by decide +kernel) (pa_cons (pv 1) (pa_cons (pe_bltn rfl X_.n_tuple (by decide +kernel) rfl) pa_nil))))) (pw_or (pt_cmpR op_ne (pe_callB c_len (by rfl) X_.n_len (by decide +kernel) (pa_cons (pv 1) pa_nil)) pe_int (nomark _)) (pw_or1 (pt_not (pt_val (pe_callB (c_all rfl) (by rfl) X_.n_all (by decide +kernel) (pa_cons (pe_lc (own := [("one", 2)]) (g := (gName 2)) (tt := tYes) rfl nd_ (pi_tup (pv 1)) (blkOk_by (own := [("one", 2)]) (N := N_is_stretch) (sc := defScope s_is_stretch) (by decide +kernel)) (fun _ _ _ _ _ => (pg_name (i := 2) nd_ rfl (Or.inl rfl))) (fun _ _ _ _ _ => pts_nil) (fun _ _ _ _ _ => (pe_call (ok_is_whole X_) (hr.mono (by decide)) rfl X_.g_is_whole X_.F_is_whole.kp X_.b_is_whole .nil pass0 (pa_cons (pv 2) pa_nil)))) pa_nil)))))))) (pss_one (ps_ret pe_bl)) pss_nil)
    (pss_one (ps_ret (pe_chain3 o_le o_lt o_le pe_int (pe_ix ix_tup (pv 1) pe_int (fun _ _ => rfl)) (pe_ix ix_tup (pv 1) pe_int (fun _ _ => rfl)) (pe_callB c_lenT (by rfl) X_.n_len (by decide +kernel) (pa_cons (pv 0) pa_nil))))))
theorem ok_u_init {P : Program} {w : World} {K : PySem.W.Frag} {mg : Str → Option Value} {base : Heap} {A : Ads} (X_ : Txt K mg A) : FnOk P w K mg base CX0 1 A.f_u_init A.d_u_init ["self", "depth"] (sp_u_init K A.toCA) := by
  have nd_ := sc_u_init.nd
  refine X_.F_u_init.ok sc_u_init (fun vs H Q E h => ln_u_init h) (fun cdv A_ outer s H vs Q E hr h => ⟨rd_u_init K A.toCA, ?_, pu_u_init h⟩)
  exact (pss_one (ps_fld (pv 0) (pv 1) rfl))
theorem ok_u_shows {P : Program} {w : World} {K : PySem.W.Frag} {mg : Str → Option Value} {base : Heap} {A : Ads} (X_ : Txt K mg A) : FnOk P w K mg base CX0 3 A.f_u_shows A.d_u_shows ["self", "row"] (sp_u_shows K A.toCA) := by
  have nd_ := sc_u_shows.nd
  refine X_.F_u_shows.ok sc_u_shows (fun vs H Q E h => ln_u_shows h) (fun cdv A_ outer s H vs Q E hr h => ⟨rd_u_shows K A.toCA, ?_, pu_u_shows h⟩)
  exact (pss_one (ps_ret (pe_and (pe_cmpR op_ne (pe_fld (pv 0) rfl) pe_int (nomark _)) (pe_one (pe_cmpR op_eq (pe_ix ix_list (pe_call (ok_depths_of X_) (hr.mono (by decide)) rfl X_.g_depths_of X_.F_depths_of.kp X_.b_depths_of .nil pass0 (pa_cons (pv 1) pa_nil)) (pe_un o_neg pe_int) (fun _ _ => rfl)) (pe_fld (pv 0) rfl) (nomark _))))))
theorem ok_below {P : Program} {w : World} {K : PySem.W.Frag} {mg : Str → Option Value} {base : Heap} {A : Ads} (X_ : Txt K mg A) : FnOk P w K mg base CX0 3 A.f_below A.d_below ["row"] (sp_below K A.toCA) := by
  have nd_ := sc_below.nd
  refine X_.F_below.ok sc_below (fun vs H Q E h => ln_below h) (fun cdv A_ outer s H vs Q E hr h => ⟨rd_below K A.toCA, ?_, pu_below h⟩)
  exact (pss_cons (ps_setLc (i := 1) (own := [("at", 2), ("depth", 3)]) (g := (gTup K 2 (gCons (gName 2) (gCons (gName 3) gNil)))) (tt := (tTest (tOp aLt (tVar 3) (tC (.int 0))))) rfl nd_ rfl rfl (sw_true rfl rfl rfl (by decide +kernel)) (pi_enum rfl X_.n_enumerate (pa_cons (pe_call (ok_depths_of X_) (hr.mono (by decide)) rfl X_.g_depths_of X_.F_depths_of.kp X_.b_depths_of .nil pass0 (pa_cons (pv 0) pa_nil)) pa_nil)) (blkOk_by (own := [("at", 2), ("depth", 3)]) (N := N_below) (sc := defScope s_below) (by decide +kernel)) (fun _ _ _ _ _ => (pg_tup rfl (pgs_cons (pg_name (i := 2) nd_ rfl (Or.inl rfl)) (pgs_cons (pg_name (i := 3) nd_ rfl (Or.inl rfl)) pgs_nil)))) (fun _ _ _ _ _ => (pts_one (pt_cmpR o_lt (pv 3) pe_int (nomark _)))) (fun _ _ _ _ _ => (pv 2)))
    (pss_one (ps_ret (pe_tup (pa_cons (pe_ix ix_list (pv 1) pe_int (fun _ _ => rfl)) (pa_cons (pe_ix ix_list (pv 1) (pe_un o_neg pe_int) (fun _ _ => rfl)) pa_nil))))))
theorem ok_r_init {P : Program} {w : World} {K : PySem.W.Frag} {mg : Str → Option Value} {base : Heap} {A : Ads} (X_ : Txt K mg A) : FnOk P w K mg base CX0 1 A.f_r_init A.d_r_init ["self", "stretches", "top"] (sp_r_init K A.toCA) := by
  have nd_ := sc_r_init.nd
  refine X_.F_r_init.ok sc_r_init (fun vs H Q E h => ln_r_init h) (fun cdv A_ outer s H vs Q E hr h => ⟨rd_r_init K A.toCA, ?_, pu_r_init h⟩)
  exact (pss_cons (ps_fld (pv 0) (pe_callTy c_listOf (by rfl) X_.n_list (by decide +kernel) (pa_cons (pv 1) pa_nil)) rfl)
    (pss_one (ps_fld (pv 0) (pv 2) rfl)))
theorem ok_r_shows {P : Program} {w : World} {K : PySem.W.Frag} {mg : Str → Option Value} {base : Heap} {A : Ads} (X_ : Txt K mg A) : FnOk P w K mg base CX0 4 A.f_r_shows A.d_r_shows ["self", "row"] (sp_r_shows K A.toCA) := by
  have nd_ := sc_r_shows.nd
  refine X_.F_r_shows.ok sc_r_shows (fun vs H Q E h => ln_r_shows h) (fun cdv A_ outer s H vs Q E hr h => ⟨rd_r_shows K A.toCA, ?_, pu_r_shows h⟩)
  exact (pss_cons (ps_par (i := 2) (j := 3) rfl nd_ rfl rfl (by decide) rfl rfl (pa_cons (pv 1) (pa_cons (pe_call (ok_depths_of X_) (hr.mono (by decide)) rfl X_.g_depths_of X_.F_depths_of.kp X_.b_depths_of .nil pass0 (pa_cons (pv 1) pa_nil)) pa_nil)) (by rfl))
    (pss_cons (ps_if (PW.pt (pw_or (pt_not (pt_val (pe_callB (c_all rfl) (by rfl) X_.n_all (by decide +kernel) (pa_cons (pe_lc (own := [("one", 7)]) (g := (gName 7)) (tt := tYes) rfl nd_ (pi_list (pe_fld (pv 0) rfl)) (blkOk_by (own := [("one", 7)]) (N := N_r_shows) (sc := defScope s_r_shows) (by decide +kernel)) (fun _ _ _ _ _ => (pg_name (i := 7) nd_ rfl (Or.inl rfl))) (fun _ _ _ _ _ => pts_nil) (fun _ _ _ _ _ => (pe_call (ok_is_stretch X_) (hr.mono (by decide)) rfl X_.g_is_stretch X_.F_is_stretch.kp X_.b_is_stretch .nil pass0 (pa_cons (pv 1) (pa_cons (pv 7) pa_nil))))) pa_nil)))) (pw_or1 (pt_cmpR o_gt (pe_callB c_len (by rfl) X_.n_len (by decide +kernel) (pa_cons (pe_fld (pv 0) rfl) pa_nil)) pe_int (nomark _))))) (pss_one (ps_ret pe_bl)) pss_nil)
    (pss_cons (ps_for PassesOwn.never rfl (pi_list (pe_fld (pv 0) rfl)) (pg_tup rfl (pgs_cons (pg_name (i := 4) nd_ rfl (Or.inl rfl)) (pgs_cons (pg_name (i := 5) nd_ rfl (Or.inl rfl)) pgs_nil))) (pss_one (ps_set (i := 2) nd_ rfl (Or.inl rfl) (pe_call (ok_rounded X_) (hr.mono (by decide)) rfl X_.g_rounded X_.F_rounded.kp X_.b_rounded .nil pass0 (pa_cons (pv 2) (pa_cons (pv 4) (pa_cons (pv 5) pa_nil)))))))
    (pss_cons (ps_if (pt_not (pt_val (pe_call (ok_is_right_row X_) (hr.mono (by decide)) rfl X_.g_is_right_row X_.F_is_right_row.kp X_.b_is_right_row .nil pass0 (pa_cons (pv 2) pa_nil)))) (pss_one (ps_ret pe_bl)) pss_nil)
    (pss_cons (ps_if (pt_cmpR op_eq (pe_callB c_len (by rfl) X_.n_len (by decide +kernel) (pa_cons (pe_fld (pv 0) rfl) pa_nil)) pe_int (nomark _)) (pss_one (ps_ret (pe_cmpR o_isN (pe_fld (pv 0) rfl) pe_non (nomark _)))) pss_nil)
    (pss_cons (ps_if (pt_val (pe_call (ok_is_right_row X_) (hr.mono (by decide)) rfl X_.g_is_right_row X_.F_is_right_row.kp X_.b_is_right_row .nil pass0 (pa_cons (pv 1) pa_nil))) (pss_one (ps_ret pe_bl)) pss_nil)
    (pss_cons (ps_if (pt_cmpR op_eq (pe_callB c_len (by rfl) X_.n_len (by decide +kernel) (pa_cons (pe_fld (pv 0) rfl) pa_nil)) pe_int (nomark _)) (pss_one (ps_ret (pe_cmpR o_isN (pe_fld (pv 0) rfl) pe_non (nomark _)))) pss_nil)
    (pss_cons (ps_asg (pe_call (ok_below X_) (hr.mono (by decide)) rfl X_.g_below X_.F_below.kp X_.b_below .nil pass0 (pa_cons (pv 1) pa_nil)) (pg_tup rfl (pgs_cons (pg_name (i := 4) nd_ rfl (Or.inl rfl)) (pgs_cons (pg_name (i := 6) nd_ rfl (Or.inl rfl)) pgs_nil))))
    (pss_cons (ps_if (PW.pt (pw_or (pt_cmpR o_isN (pe_fld (pv 0) rfl) pe_non (nomark _)) (pw_or1 (pt_not (pt_chain o_le o_le (pv 4) (pe_fld (pv 0) rfl) (pv 6)))))) (pss_one (ps_ret pe_bl)) pss_nil)
    (pss_one (ps_ret (pe_cmpR o_gt (pe_ix ix_list (pv 3) (pe_fld (pv 0) rfl) (fun _ _ => rfl)) (pe_op o_add (pe_callB (cr_max rfl) (by rfl) X_.n_max (by decide +kernel) (pa_cons (pe_slice sl_list (pv 3) po_none (po_some (pe_op o_add (pv 4) pe_int))) pa_nil)) (pe_callB (cr_max rfl) (by rfl) X_.n_max (by decide +kernel) (pa_cons (pe_slice sl_list (pv 3) (po_some (pv 6)) po_none) pa_nil))) (nomark _)))))))))))))
theorem ok_rounds {P : Program} {w : World} {K : PySem.W.Frag} {mg : Str → Option Value} {base : Heap} {A : Ads} (X_ : Txt K mg A) : FnOk P w K mg base CX0 5 A.f_rounds A.d_rounds ["row"] (sp_rounds K A.toCA) := by
  have nd_ := sc_rounds.nd
  refine X_.F_rounds.ok sc_rounds (fun vs H Q E h => ln_rounds h) (fun cdv A_ outer s H vs Q E hr h => ⟨rd_rounds K A.toCA, ?_, pu_rounds h⟩)
  exact (pss_cons (ps_expr (pe_call (ok_asked_row X_) (hr.mono (by decide)) rfl X_.g_asked_row X_.F_asked_row.kp X_.b_asked_row .nil pass0 (pa_cons (pv 0) pa_nil)))
    (pss_cons (ps_set (i := 1) nd_ rfl (Or.inl rfl) (pe_call (ok_depths_of X_) (hr.mono (by decide)) rfl X_.g_depths_of X_.F_depths_of.kp X_.b_depths_of .nil pass0 (pa_cons (pv 0) pa_nil)))
    (pss_cons (ps_if (pt_cmpR op_ne (pe_ix ix_list (pv 1) (pe_un o_neg pe_int) (fun _ _ => rfl)) pe_int (nomark _)) (pss_one (ps_ret (pe_make X_.mk_Uneven (ok_u_init X_) (hr.mono (by decide)) rfl X_.g_Uneven X_.b_u_init .nil pass0 (pa_cons (pe_ix ix_list (pv 1) (pe_un o_neg pe_int) (fun _ _ => rfl)) pa_nil)))) pss_nil)
    (pss_cons (ps_if (pt_val (pe_call (ok_is_right_row X_) (hr.mono (by decide)) rfl X_.g_is_right_row X_.F_is_right_row.kp X_.b_is_right_row .nil pass0 (pa_cons (pv 0) pa_nil))) (pss_one (ps_ret (pe_make X_.mk_Rounded (ok_r_init X_) (hr.mono (by decide)) rfl X_.g_Rounded X_.b_r_init .nil pass0 (pa_cons (pe_lst pa_nil) (pa_cons pe_non pa_nil))))) pss_nil)
    (pss_cons (ps_asg (pe_call (ok_below X_) (hr.mono (by decide)) rfl X_.g_below X_.F_below.kp X_.b_below .nil pass0 (pa_cons (pv 0) pa_nil)) (pg_tup rfl (pgs_cons (pg_name (i := 5) nd_ rfl (Or.inl rfl)) (pgs_cons (pg_name (i := 6) nd_ rfl (Or.inl rfl)) pgs_nil))))
    (pss_cons (ps_set (i := 2) nd_ rfl (Or.inl rfl) (pe_bm PySem.F.plainAttrs_list PySem.F.slot_list_index PySem.F.type_list_index m_index (pv 1) (pa_cons (pe_callB (cr_max rfl) (by rfl) X_.n_max (by decide +kernel) (pa_cons (pe_slice sl_list (pv 1) po_none (po_some (pe_op o_add (pv 5) pe_int))) pa_nil)) pa_nil)))
    (pss_cons (ps_set (i := 3) nd_ rfl (Or.inl rfl) (pe_op o_add (pv 6) (pe_bm PySem.F.plainAttrs_list PySem.F.slot_list_index PySem.F.type_list_index m_index (pe_slice sl_list (pv 1) (po_some (pv 6)) po_none) (pa_cons (pe_callB (cr_max rfl) (by rfl) X_.n_max (by decide +kernel) (pa_cons (pe_slice sl_list (pv 1) (po_some (pv 6)) po_none) pa_nil)) pa_nil))))
    (pss_cons (ps_if (pt_cmpR o_le (pe_callB (cr_max rfl) (by rfl) X_.n_max (by decide +kernel) (pa_cons (pe_slice sl_list (pv 1) (po_some (pv 2)) (po_some (pe_op o_add (pv 3) pe_int))) pa_nil)) (pe_op o_add (pe_ix ix_list (pv 1) (pv 2) (fun _ _ => rfl)) (pe_ix ix_list (pv 1) (pv 3) (fun _ _ => rfl))) (nomark _)) (pss_one (ps_ret (pe_make X_.mk_Rounded (ok_r_init X_) (hr.mono (by decide)) rfl X_.g_Rounded X_.b_r_init .nil pass0 (pa_cons (pe_lst (pa_cons (pe_tup (pa_cons (pv 2) (pa_cons (pv 3) pa_nil))) pa_nil)) (pa_cons pe_non pa_nil))))) pss_nil)
    (pss_cons (ps_set (i := 4) nd_ rfl (Or.inl rfl) (pe_bm PySem.F.plainAttrs_list PySem.F.slot_list_index PySem.F.type_list_index m_index (pv 1) (pa_cons (pe_callB (cr_max rfl) (by rfl) X_.n_max (by decide +kernel) (pa_cons (pv 1) pa_nil)) pa_nil)))
    (pss_one (ps_ret (pe_make X_.mk_Rounded (ok_r_init X_) (hr.mono (by decide)) rfl X_.g_Rounded X_.b_r_init .nil pass0 (pa_cons (pe_lst (pa_cons (pe_tup (pa_cons pe_int (pa_cons (pv 4) pa_nil))) (pa_cons (pe_tup (pa_cons (pv 4) (pa_cons (pe_callB c_lenT (by rfl) X_.n_len (by decide +kernel) (pa_cons (pv 0) pa_nil)) pa_nil))) pa_nil))) (pa_cons (pe_op o_add (pv 5) (pe_bm PySem.F.plainAttrs_list PySem.F.slot_list_index PySem.F.type_list_index m_index (pe_slice sl_list (pv 1) (po_some (pv 5)) (po_some (pe_op o_add (pv 6) pe_int))) (pa_cons (pe_callB (cr_max rfl) (by rfl) X_.n_max (by decide +kernel) (pa_cons (pe_slice sl_list (pv 1) (po_some (pv 5)) (po_some (pe_op o_add (pv 6) pe_int))) pa_nil)) pa_nil))) pa_nil))))))))))))))
theorem ok__law_number {P : Program} {w : World} {K : PySem.W.Frag} {mg : Str → Option Value} {base : Heap} {A : Ads} (X_ : Txt K mg A) : FnOk P w K mg base CX0 1 A.f__law_number A.d__law_number ["_law_cell", "_law_at", "_law_whole"] (sp__law_number K A.toCA) := by
  have nd_ := sc__law_number.nd
  refine X_.F__law_number.ok sc__law_number (fun vs H Q E h => ln__law_number h) (fun cdv A_ outer s H vs Q E hr h => ⟨rd__law_number K A.toCA, ?_, pu__law_number h⟩)
  exact (pss_cons (ps_if (pt_cmpR o_ge (pv 0) (pe_op o_pow pe_int pe_int) (nomark _)) (pss_one (ps_ret (pe_op o_div (pv 0) (pe_op o_add pe_int (pe_op o_mod (pv 1) pe_int))))) pss_nil)
    (pss_cons (ps_set (i := 3) nd_ rfl (Or.inl rfl) (pe_op o_mod (pv 0) (pe_op o_pow pe_int pe_int)))
    (pss_cons (ps_set (i := 4) nd_ rfl (Or.inl rfl) (pe_op o_mod (pe_op o_add (pe_op o_mul (pe_op o_add (pv 3) (pe_op o_mul pe_int (pv 1))) pe_int) (pv 2)) pe_int))
    (pss_cons (ps_set (i := 5) nd_ rfl (Or.inl rfl) (pe_op o_mul (pv 4) (pe_op o_add (pe_op o_add (pv 3) (pe_op o_mul pe_int (pv 1))) pe_int)))
    (pss_one (ps_ret (pe_op o_div (pe_op o_mul (pe_op o_mul (pv 5) (pe_op o_add (pe_op o_add (pv 4) (pv 3)) pe_int)) (pe_op o_add (pe_op o_mul (pv 4) (pv 4)) pe_int)) (pe_op o_add pe_int (pv 1)))))))))
theorem ok__law_row {P : Program} {w : World} {K : PySem.W.Frag} {mg : Str → Option Value} {base : Heap} {A : Ads} (X_ : Txt K mg A) : FnOk P w K mg base CX0 2 A.f__law_row A.d__law_row ["_law_script", "_law_by", "_law_most", "_law_even"] (sp__law_row K A.toCA) := by
  have nd_ := sc__law_row.nd
  refine X_.F__law_row.ok sc__law_row (fun vs H Q E h => ln__law_row h) (fun cdv A_ outer s H vs Q E hr h => ⟨rd__law_row K A.toCA, ?_, pu__law_row h⟩)
  exact (pss_cons (ps_set (i := 4) nd_ rfl (Or.inl rfl) (pe_ifExp (pt_cmpR (op_neD hr.units) (pv 0) (pe_lst pa_nil) (nomark _)) (pe_slice sl_list (pv 0) po_none (po_some pe_int)) (pe_lst (pa_cons pe_int pa_nil))))
    (pss_cons (ps_par (i := 9) (j := 7) rfl nd_ rfl rfl (by decide) rfl rfl (pa_cons (pe_op o_add (pe_callB c_abs (by rfl) X_.n_abs (by decide +kernel) (pa_cons (pe_callB (cr_sum rfl) (by rfl) X_.n_sum (by decide +kernel) (pa_cons (pv 4) pa_nil)) pa_nil)) (pe_op o_mul pe_int (pv 1))) (pa_cons (pe_lst pa_nil) pa_nil)) (by rfl))
    (pss_cons (ps_set (i := 5) nd_ rfl (Or.inl rfl) (pe_op o_add pe_int (pe_op o_mod (pe_op o_div (pv 9) pe_int) pe_int)))
    (pss_cons (ps_for PassesOwn.never rfl (pi_range1 rfl X_.n_range (pa_cons (pe_op o_mod (pe_op o_div (pv 9) pe_int) (pe_op o_add (pv 2) pe_int)) pa_nil)) (pg_name (i := 6) nd_ rfl (Or.inl rfl)) (pss_cons (ps_set (i := 10) nd_ rfl (Or.inl rfl) (pe_op o_div (pv 6) (pv 5)))
    (pss_cons (ps_set (i := 11) nd_ rfl (Or.inl rfl) (pe_op o_add (pe_ix ix_list (pv 4) (pe_op o_mod (pe_op o_add (pv 10) (pv 1)) (pe_callB c_len (by rfl) X_.n_len (by decide +kernel) (pa_cons (pv 4) pa_nil))) (fun _ _ => rfl)) (pe_op o_div (pv 10) (pe_callB c_len (by rfl) X_.n_len (by decide +kernel) (pa_cons (pv 4) pa_nil)))))
    (pss_cons (ps_set (i := 12) nd_ rfl (Or.inl rfl) (pe_op o_div (pe_callB c_abs (by rfl) X_.n_abs (by decide +kernel) (pa_cons (pe_call (ok__law_number X_) (hr.mono (by decide)) rfl X_.g__law_number X_.F__law_number.kp X_.b__law_number .nil pass0 (pa_cons (pv 11) (pa_cons (pe_op o_add (pv 10) (pv 1)) (pa_cons (pv 9) pa_nil)))) pa_nil)) pe_int))
    (pss_cons (ps_set (i := 13) nd_ rfl (Or.inl rfl) (pe_callTy c_intB (by rfl) X_.n_int (by decide +kernel) (pa_cons (pe_or (pe_cmpR o_gt (pe_op o_mod (pv 12) pe_int) pe_int (nomark _)) (pe_one (pe_cmpR op_eq (pe_op o_mod (pv 6) pe_int) pe_int (nomark _)))) pa_nil)))
    (pss_cons (ps_set (i := 14) nd_ rfl (Or.inl rfl) (pe_tup (pa_cons (pe_op o_mod (pv 12) pe_int) (pa_cons (pe_op o_mod (pv 6) pe_int) (pa_cons (pe_op o_sub pe_int (pe_op o_mod (pv 6) pe_int)) (pa_cons (pv 13) (pa_cons (pe_callTy c_intB (by rfl) X_.n_int (by decide +kernel) (pa_cons (pe_cmpR op_eq (pe_op o_mod (pv 10) pe_int) pe_int (nomark _)) pa_nil)) pa_nil)))))))
    (pss_one (ps_expr (pe_bm PySem.F.plainAttrs_list PySem.F.slot_list_append PySem.F.type_list_append mt_append (pv 7) (pa_cons (pe_ix x_T (pe_strT [true, false]) (pe_ix ix_tup (pv 14) (pe_op o_mod (pv 9) pe_int) (fun _ _ => rfl)) (fun _ _ => rfl)) pa_nil))))))))))
    (pss_cons (ps_set (i := 7) nd_ rfl (Or.inl rfl) (pe_ifExp (pt_val (pv 3)) (pe_slice sl_list (pv 7) po_none (po_some (pe_op o_mul (pe_op o_div (pe_callB c_len (by rfl) X_.n_len (by decide +kernel) (pa_cons (pv 7) pa_nil)) pe_int) pe_int))) (pv 7)))
    (pss_cons (ps_set (i := 8) nd_ rfl (Or.inl rfl) (pe_op o_sub (pe_bm PySem.F.plainAttrs_list PySem.F.slot_list_count PySem.F.type_list_count m_count (pv 7) (pa_cons (pe_strT [true]) pa_nil)) (pe_bm PySem.F.plainAttrs_list PySem.F.slot_list_count PySem.F.type_list_count m_count (pv 7) (pa_cons (pe_strT [false]) pa_nil))))
    (pss_cons (ps_for PassesOwn.never rfl (pi_range1 rfl X_.n_range (pa_cons (pe_callB c_len (by rfl) X_.n_len (by decide +kernel) (pa_cons (pv 7) pa_nil)) pa_nil)) (pg_name (i := 6) nd_ rfl (Or.inl rfl)) (pss_cons (ps_set (i := 10) nd_ rfl (Or.inl rfl) (pe_op o_mod (pe_op o_add (pv 6) (pv 9)) (pe_callB c_len (by rfl) X_.n_len (by decide +kernel) (pa_cons (pv 7) pa_nil))))
    (pss_one (ps_if (PW.pt (pw_and (pt_val (pv 3)) (pw_and (pt_cmpR op_ne (pv 8) pe_int (nomark _)) (pw_and1 (pt_cmpR op_eq (pe_ix ix_list (pv 7) (pv 10) (fun _ _ => rfl)) (pe_ix x_T (pe_strT [true, false]) (pe_callTy c_intB (by rfl) X_.n_int (by decide +kernel) (pa_cons (pe_cmpR o_lt (pv 8) pe_int (nomark _)) pa_nil)) (fun _ _ => rfl)) (nomark _)))))) (pss_cons (ps_asg (pe_ix x_T (pe_strT [true, false]) (pe_callTy c_intB (by rfl) X_.n_int (by decide +kernel) (pa_cons (pe_cmpR o_gt (pv 8) pe_int (nomark _)) pa_nil)) (fun _ _ => rfl)) (pg_sub (pv 7) (pv 10) set_list))
    (pss_one (ps_set (i := 8) nd_ rfl (Or.inl rfl) (pe_ifExp (pt_cmpR o_gt (pv 8) pe_int (nomark _)) (pe_op o_sub (pv 8) pe_int) (pe_op o_add (pv 8) pe_int))))) pss_nil))))
    (pss_one (ps_ret (pe_bm PySem.F.plainAttrs_str PySem.F.slot_str_join PySem.F.type_str_join m_join (pe_strT []) (pa_cons (pv 7) pa_nil)))))))))))
theorem ok__law_depths {P : Program} {w : World} {K : PySem.W.Frag} {mg : Str → Option Value} {base : Heap} {A : Ads} (X_ : Txt K mg A) : FnOk P w K mg base CX0 1 A.f__law_depths A.d__law_depths ["_law_row_here"] (sp__law_depths K A.toCA) := by
  have nd_ := sc__law_depths.nd
  refine X_.F__law_depths.ok sc__law_depths (fun vs H Q E h => ln__law_depths h) (fun cdv A_ outer s H vs Q E hr h => ⟨rd__law_depths K A.toCA, ?_, pu__law_depths h⟩)
  exact (pss_cons (ps_set (i := 1) nd_ rfl (Or.inl rfl) (pe_lst (pa_cons pe_int pa_nil)))
    (pss_cons (ps_for PassesOwn.never rfl (pi_str (pv 0)) (pg_name (i := 2) nd_ rfl (Or.inl rfl)) (pss_one (ps_expr (pe_bm PySem.F.plainAttrs_list PySem.F.slot_list_append PySem.F.type_list_append mt_append (pv 1) (pa_cons (pe_op o_add (pe_ix ix_list (pv 1) (pe_un o_neg pe_int) (fun _ _ => rfl)) (pe_ifExp (pt_cmpR op_eq (pv 2) (pe_strT [true]) (nomark _)) pe_int (pe_un o_neg pe_int))) pa_nil)))))
    (pss_one (ps_ret (pv 1)))))
theorem ok__law_good {P : Program} {w : World} {K : PySem.W.Frag} {mg : Str → Option Value} {base : Heap} {A : Ads} (X_ : Txt K mg A) : FnOk P w K mg base CX0 1 A.f__law_good A.d__law_good ["_law_row_here"] (sp__law_good K A.toCA) := by
  have nd_ := sc__law_good.nd
  refine X_.F__law_good.ok sc__law_good (fun vs H Q E h => ln__law_good h) (fun cdv A_ outer s H vs Q E hr h => ⟨rd__law_good K A.toCA, ?_, pu__law_good h⟩)
  exact (pss_cons (ps_set (i := 1) nd_ rfl (Or.inl rfl) pe_int)
    (pss_cons (ps_for PassesOwn.never rfl (pi_str (pv 0)) (pg_name (i := 2) nd_ rfl (Or.inl rfl)) (pss_cons (ps_set (i := 1) nd_ rfl (Or.inl rfl) (pe_ifExp (pt_cmpR op_eq (pv 2) (pe_strT [true]) (nomark _)) (pe_op o_add (pv 1) pe_int) (pe_op o_sub (pv 1) pe_int)))
    (pss_one (ps_if (pt_cmpR o_lt (pv 1) pe_int (nomark _)) (pss_one (ps_ret pe_bl)) pss_nil))))
    (pss_one (ps_ret (pe_cmpR op_eq (pv 1) pe_int (nomark _))))))
theorem ok__law_round {P : Program} {w : World} {K : PySem.W.Frag} {mg : Str → Option Value} {base : Heap} {A : Ads} (X_ : Txt K mg A) : FnOk P w K mg base CX0 1 A.f__law_round A.d__law_round ["_law_row_here", "_law_stretches"] (sp__law_round K A.toCA) := by
  have nd_ := sc__law_round.nd
  refine X_.F__law_round.ok sc__law_round (fun vs H Q E h => ln__law_round h) (fun cdv A_ outer s H vs Q E hr h => ⟨rd__law_round K A.toCA, ?_, pu__law_round h⟩)
  exact (pss_cons (ps_for PassesOwn.never rfl (pi_list (pv 1)) (pg_tup rfl (pgs_cons (pg_name (i := 2) nd_ rfl (Or.inl rfl)) (pgs_cons (pg_name (i := 3) nd_ rfl (Or.inl rfl)) pgs_nil))) (pss_cons (ps_if (pt_not (pt_chain3 o_le o_lt o_le pe_int (pv 2) (pv 3) (pe_callB c_lenT (by rfl) X_.n_len (by decide +kernel) (pa_cons (pv 0) pa_nil)))) (pss_one (ps_ret pe_non)) pss_nil)
    (pss_cons (ps_setLc (i := 4) (own := [("_law_at", 5)]) (g := (gName 5)) (tt := tYes) rfl nd_ rfl rfl (sw_true rfl rfl rfl (by decide +kernel)) (pi_range3 rfl X_.n_range (pa_cons (pe_op o_sub (pv 3) pe_int) (pa_cons (pe_op o_sub (pv 2) pe_int) (pa_cons (pe_un o_neg pe_int) pa_nil)))) (blkOk_by (own := [("_law_at", 5)]) (N := N__law_round) (sc := defScope s__law_round) (by decide +kernel)) (fun _ _ _ _ _ => (pg_name (i := 5) nd_ rfl (Or.inl rfl))) (fun _ _ _ _ _ => pts_nil) (fun _ _ _ _ _ => (pe_ix x_T (pv 0) (pv 5) (fun _ _ => rfl))))
    (pss_one (ps_set (i := 0) nd_ rfl (Or.inr rfl) (pe_op o_catT (pe_op o_catT (pe_slice s_T (pv 0) po_none (po_some (pv 2))) (pe_bm PySem.F.plainAttrs_str PySem.F.slot_str_join PySem.F.type_str_join m_join (pe_strT []) (pa_cons (pv 4) pa_nil))) (pe_slice s_T (pv 0) (po_some (pv 3)) po_none)))))))
    (pss_one (ps_ret (pv 0))))
theorem ok__law_rounded {P : Program} {w : World} {K : PySem.W.Frag} {mg : Str → Option Value} {base : Heap} {A : Ads} (X_ : Txt K mg A) : FnOk P w K mg base CX0 2 A.f__law_rounded A.d__law_rounded ["_law_row_here", "_law_stretches", "_law_top"] (sp__law_rounded K A.toCA) := by
  have nd_ := sc__law_rounded.nd
  refine X_.F__law_rounded.ok sc__law_rounded (fun vs H Q E h => ln__law_rounded h) (fun cdv A_ outer s H vs Q E hr h => ⟨rd__law_rounded K A.toCA, ?_, pu__law_rounded h⟩)
  exact (pss_cons (ps_if (pt_cmpR o_gt (pe_callB c_len (by rfl) X_.n_len (by decide +kernel) (pa_cons (pv 1) pa_nil)) pe_int (nomark _)) (pss_one (ps_ret pe_bl)) pss_nil)
    (pss_cons (ps_set (i := 3) nd_ rfl (Or.inl rfl) (pe_call (ok__law_round X_) (hr.mono (by decide)) rfl X_.g__law_round X_.F__law_round.kp X_.b__law_round .nil pass0 (pa_cons (pv 0) (pa_cons (pv 1) pa_nil))))
    (pss_cons (ps_if (PW.pt (pw_or (pt_cmpR o_isN (pv 3) pe_non (nomark _)) (pw_or (pt_not (pt_val (pe_call (ok__law_good X_) (hr.mono (by decide)) rfl X_.g__law_good X_.F__law_good.kp X_.b__law_good .nil pass0 (pa_cons (pv 3) pa_nil)))) (pw_or1 (PW.pt (pw_and (pt_cmpR (op_neD hr.units) (pv 1) (pe_lst pa_nil) (nomark _)) (pw_and1 (pt_val (pe_call (ok__law_good X_) (hr.mono (by decide)) rfl X_.g__law_good X_.F__law_good.kp X_.b__law_good .nil pass0 (pa_cons (pv 0) pa_nil)))))))))) (pss_one (ps_ret pe_bl)) pss_nil)
    (pss_cons (ps_if (pt_cmpR o_lt (pe_callB c_len (by rfl) X_.n_len (by decide +kernel) (pa_cons (pv 1) pa_nil)) pe_int (nomark _)) (pss_one (ps_ret (pe_cmpR o_isN (pv 2) pe_non (nomark _)))) pss_nil)
    (pss_cons (ps_set (i := 4) nd_ rfl (Or.inl rfl) (pe_call (ok__law_depths X_) (hr.mono (by decide)) rfl X_.g__law_depths X_.F__law_depths.kp X_.b__law_depths .nil pass0 (pa_cons (pv 0) pa_nil)))
    (pss_cons (ps_setLc (i := 5) (own := [("_law_at", 6), ("_law_depth", 7)]) (g := (gTup K 2 (gCons (gName 6) (gCons (gName 7) gNil)))) (tt := (tTest (tOp aLt (tVar 7) (tC (.int 0))))) rfl nd_ rfl rfl (sw_true rfl rfl rfl (by decide +kernel)) (pi_enum rfl X_.n_enumerate (pa_cons (pv 4) pa_nil)) (blkOk_by (own := [("_law_at", 6), ("_law_depth", 7)]) (N := N__law_rounded) (sc := defScope s__law_rounded) (by decide +kernel)) (fun _ _ _ _ _ => (pg_tup rfl (pgs_cons (pg_name (i := 6) nd_ rfl (Or.inl rfl)) (pgs_cons (pg_name (i := 7) nd_ rfl (Or.inl rfl)) pgs_nil)))) (fun _ _ _ _ _ => (pts_one (pt_cmpR o_lt (pv 7) pe_int (nomark _)))) (fun _ _ _ _ _ => (pv 6)))
    (pss_cons (ps_if (PW.pt (pw_or (pt_cmpR o_isN (pv 2) pe_non (nomark _)) (pw_or1 (pt_not (pt_chain o_le o_le (pe_ix ix_list (pv 5) pe_int (fun _ _ => rfl)) (pv 2) (pe_ix ix_list (pv 5) (pe_un o_neg pe_int) (fun _ _ => rfl))))))) (pss_one (ps_ret pe_bl)) pss_nil)
    (pss_one (ps_ret (pe_cmpR o_gt (pe_ix ix_list (pv 4) (pv 2) (fun _ _ => rfl)) (pe_op o_add (pe_callB (cr_max rfl) (by rfl) X_.n_max (by decide +kernel) (pa_cons (pe_slice sl_list (pv 4) po_none (po_some (pe_op o_add (pe_ix ix_list (pv 5) pe_int (fun _ _ => rfl)) pe_int))) pa_nil)) (pe_callB (cr_max rfl) (by rfl) X_.n_max (by decide +kernel) (pa_cons (pe_slice sl_list (pv 4) (po_some (pe_ix ix_list (pv 5) (pe_un o_neg pe_int) (fun _ _ => rfl))) po_none) pa_nil))) (nomark _)))))))))))
theorem ok__law_uneven {P : Program} {w : World} {K : PySem.W.Frag} {mg : Str → Option Value} {base : Heap} {A : Ads} (X_ : Txt K mg A) : FnOk P w K mg base CX0 1 A.f__law_uneven A.d__law_uneven ["_law_row_here", "_law_depth"] (sp__law_uneven K A.toCA) := by
  have nd_ := sc__law_uneven.nd
  refine X_.F__law_uneven.ok sc__law_uneven (fun vs H Q E h => ln__law_uneven h) (fun cdv A_ outer s H vs Q E hr h => ⟨rd__law_uneven K A.toCA, ?_, pu__law_uneven h⟩)
  exact (pss_one (ps_ret (pe_and (pe_cmpR op_ne (pv 1) pe_int (nomark _)) (pe_one (pe_cmpR op_eq (pe_op o_sub (pe_bm PySem.F.plainAttrs_str PySem.F.slot_str_count PySem.F.type_str_count m_countT (pv 0) (pa_cons (pe_strT [true]) pa_nil)) (pe_bm PySem.F.plainAttrs_str PySem.F.slot_str_count PySem.F.type_str_count m_countT (pv 0) (pa_cons (pe_strT [false]) pa_nil))) (pv 1) (nomark _))))))
theorem ok__law_due04 {P : Program} {w : World} {K : PySem.W.Frag} {mg : Str → Option Value} {base : Heap} {A : Ads} (X_ : Txt K mg A) : FnOk P w K mg base CX0 3 A.f__law_due04 A.d__law_due04 ["_law_row_here", "_law_answer"] (sp__law_due04 K A.toCA) := by
  have nd_ := sc__law_due04.nd
  refine X_.F__law_due04.ok sc__law_due04 (fun vs H Q E h => ln__law_due04 h) (fun cdv A_ outer s H vs Q E hr h => ⟨rd__law_due04 K A.toCA, ?_, pu__law_due04 h⟩)
  exact (pss_cons (ps_if (pt_val (pe_callB (c_isiC A.c_Uneven) (by rfl) X_.n_isinstance (by decide +kernel) (pa_cons (pv 1) (pa_cons (pe_glob rfl X_.g_Uneven rfl) pa_nil)))) (pss_one (ps_ret (pe_call (ok__law_uneven X_) (hr.mono (by decide)) rfl X_.g__law_uneven X_.F__law_uneven.kp X_.b__law_uneven .nil pass0 (pa_cons (pv 0) (pa_cons (pe_fld (pv 1) rfl) pa_nil))))) pss_nil)
    (pss_one (ps_ret (pe_call (ok__law_rounded X_) (hr.mono (by decide)) rfl X_.g__law_rounded X_.F__law_rounded.kp X_.b__law_rounded .nil pass0 (pa_cons (pv 0) (pa_cons (pe_fld (pv 1) rfl) (pa_cons (pe_fld (pv 1) rfl) pa_nil)))))))
theorem ok__law_right04 {P : Program} {w : World} {K : PySem.W.Frag} {mg : Str → Option Value} {base : Heap} {A : Ads} (X_ : Txt K mg A) : FnOk P w K mg base CX0 6 A.f__law_right04 A.d__law_right04 ["_law_row_here", "_law_others"] (sp__law_right04 K A.toCA) := by
  have nd_ := sc__law_right04.nd
  refine X_.F__law_right04.ok sc__law_right04 (fun vs H Q E h => ln__law_right04 h) (fun cdv A_ outer s H vs Q E hr h => ⟨rd__law_right04 K A.toCA, ?_, pu__law_right04 h⟩)
  exact (pss_cons (ps_set (i := 2) nd_ rfl (Or.inl rfl) (pe_cmpR op_eq (pe_bm PySem.F.plainAttrs_str PySem.F.slot_str_count PySem.F.type_str_count m_countT (pv 0) (pa_cons (pe_strT [true]) pa_nil)) (pe_bm PySem.F.plainAttrs_str PySem.F.slot_str_count PySem.F.type_str_count m_countT (pv 0) (pa_cons (pe_strT [false]) pa_nil)) (nomark _)))
    (pss_cons (ps_for PassesOwn.never rfl (pi_range1 rfl X_.n_range (pa_cons pe_int pa_nil)) (pg_name (i := 3) nd_ rfl (Or.inl rfl)) (pss_cons (ps_set (i := 4) nd_ rfl (Or.inl rfl) (pe_call (ok_rounds X_) (hr.mono (by decide)) rfl X_.g_rounds X_.F_rounds.kp X_.b_rounds .nil pass0 (pa_cons (pv 0) pa_nil)))
    (pss_cons (ps_if (PW.pt (pw_or (pt_not (pt_val (pe_callB (c_isiC A.c_Answer) (by rfl) X_.n_isinstance (by decide +kernel) (pa_cons (pv 4) (pa_cons (pe_glob rfl X_.g_Answer rfl) pa_nil))))) (pw_or1 (pt_val (pe_callB (c_isiC A.c_Turned) (by rfl) X_.n_isinstance (by decide +kernel) (pa_cons (pv 4) (pa_cons (pe_glob rfl X_.g_Turned rfl) pa_nil))))))) (pss_one (ps_ret pe_bl)) pss_nil)
    (pss_cons (ps_if (PW.pt (pw_or (pt_val (pe_callB (c_isiC A.c_Odd) (by rfl) X_.n_isinstance (by decide +kernel) (pa_cons (pv 4) (pa_cons (pe_glob rfl X_.g_Odd rfl) pa_nil)))) (pw_or1 (pt_val (pe_callB (c_isiC A.c_Swapped) (by rfl) X_.n_isinstance (by decide +kernel) (pa_cons (pv 4) (pa_cons (pe_glob rfl X_.g_Swapped rfl) pa_nil))))))) (pss_one (ps_ret pe_bl)) pss_nil)
    (pss_cons (ps_if (pt_cmpR (op_neD hr.units) (pe_lst (pa_cons (pe_callB (c_isiC A.c_Rounded) (by rfl) X_.n_isinstance (by decide +kernel) (pa_cons (pv 4) (pa_cons (pe_glob rfl X_.g_Rounded rfl) pa_nil))) (pa_cons (pe_callB (c_isiC A.c_Uneven) (by rfl) X_.n_isinstance (by decide +kernel) (pa_cons (pv 4) (pa_cons (pe_glob rfl X_.g_Uneven rfl) pa_nil))) pa_nil))) (pe_lst (pa_cons (pv 2) (pa_cons (pe_not (pv 2)) pa_nil))) (nomark _)) (pss_one (ps_ret pe_bl)) pss_nil)
    (pss_cons (ps_if (PW.pt (pw_or (pt_not (pt_val (pe_call (ok__law_due04 X_) (hr.mono (by decide)) rfl X_.g__law_due04 X_.F__law_due04.kp X_.b__law_due04 .nil pass0 (pa_cons (pv 0) (pa_cons (pv 4) pa_nil))))) (pw_or1 (pt_cmpR o_notB (pe_methU (pv 4) X_.k_Uneven X_.m_u_shows (ok_u_shows X_) (hr.mono (by decide)) X_.b_u_shows X_.k_Rounded X_.m_r_shows (ok_r_shows X_) (hr.mono (by decide)) X_.b_r_shows pass0 (pa_cons (pv 0) pa_nil)) pe_bl (nomark _))))) (pss_one (ps_ret pe_bl)) pss_nil)
    (pss_cons (ps_for PassesOwn.never rfl (pi_list (pv 1)) (pg_name (i := 5) nd_ rfl (Or.inl rfl)) (pss_one (ps_if (pt_cmpR op_ne (pe_methU (pv 4) X_.k_Uneven X_.m_u_shows (ok_u_shows X_) (hr.mono (by decide)) X_.b_u_shows X_.k_Rounded X_.m_r_shows (ok_r_shows X_) (hr.mono (by decide)) X_.b_r_shows pass0 (pa_cons (pv 5) pa_nil)) (pe_call (ok__law_due04 X_) (hr.mono (by decide)) rfl X_.g__law_due04 X_.F__law_due04.kp X_.b__law_due04 .nil pass0 (pa_cons (pv 5) (pa_cons (pv 4) pa_nil))) (nomark _)) (pss_one (ps_ret pe_bl)) pss_nil)))
    (pss_one (ps_if (pt_val (pv 2)) (pss_cons (ps_expr (pe_bm PySem.F.plainAttrs_list PySem.F.slot_list_append PySem.F.type_list_append mt_append (pe_fld (pv 4) rfl) (pa_cons (pe_tup (pa_cons pe_int (pa_cons (pe_op o_add (pe_callB c_lenT (by rfl) X_.n_len (by decide +kernel) (pa_cons (pv 0) pa_nil)) pe_int) pa_nil))) pa_nil)))
    (pss_one (ps_if (pt_cmpR o_notB (pe_methU (pv 4) X_.k_Uneven X_.m_u_shows (ok_u_shows X_) (hr.mono (by decide)) X_.b_u_shows X_.k_Rounded X_.m_r_shows (ok_r_shows X_) (hr.mono (by decide)) X_.b_r_shows pass0 (pa_cons (pv 0) pa_nil)) pe_bl (nomark _)) (pss_one (ps_ret pe_bl)) pss_nil))) pss_nil)))))))))
    (pss_one (ps_ret pe_bl))))
theorem ok__law_least04 {P : Program} {w : World} {K : PySem.W.Frag} {mg : Str → Option Value} {base : Heap} {A : Ads} (X_ : Txt K mg A) : FnOk P w K mg base CX0 2 A.f__law_least04 A.d__law_least04 ["_law_row_here"] (sp__law_least04 K A.toCA) := by
  have nd_ := sc__law_least04.nd
  refine X_.F__law_least04.ok sc__law_least04 (fun vs H Q E h => ln__law_least04 h) (fun cdv A_ outer s H vs Q E hr h => ⟨rd__law_least04 K A.toCA, ?_, pu__law_least04 h⟩)
  exact (pss_cons (ps_if (pt_val (pe_call (ok__law_good X_) (hr.mono (by decide)) rfl X_.g__law_good X_.F__law_good.kp X_.b__law_good .nil pass0 (pa_cons (pv 0) pa_nil))) (pss_one (ps_ret pe_int)) pss_nil)
    (pss_cons (ps_for PassesOwn.never rfl (pi_range1 rfl X_.n_range (pa_cons (pe_callB c_lenT (by rfl) X_.n_len (by decide +kernel) (pa_cons (pv 0) pa_nil)) pa_nil)) (pg_name (i := 1) nd_ rfl (Or.inl rfl)) (pss_one (ps_for PassesOwn.never rfl (pi_range2 rfl X_.n_range (pa_cons (pe_op o_add (pv 1) pe_int) (pa_cons (pe_op o_add (pe_callB c_lenT (by rfl) X_.n_len (by decide +kernel) (pa_cons (pv 0) pa_nil)) pe_int) pa_nil))) (pg_name (i := 2) nd_ rfl (Or.inl rfl)) (pss_one (ps_if (pt_val (pe_call (ok__law_good X_) (hr.mono (by decide)) rfl X_.g__law_good X_.F__law_good.kp X_.b__law_good .nil pass0 (pa_cons (pe_call (ok__law_round X_) (hr.mono (by decide)) rfl X_.g__law_round X_.F__law_round.kp X_.b__law_round .nil pass0 (pa_cons (pv 0) (pa_cons (pe_lst (pa_cons (pe_tup (pa_cons (pv 1) (pa_cons (pv 2) pa_nil))) pa_nil)) pa_nil))) pa_nil))) (pss_one (ps_ret pe_int)) pss_nil)))))
    (pss_one (ps_ret pe_int))))
theorem ok_law04 {P : Program} {w : World} {K : PySem.W.Frag} {mg : Str → Option Value} {base : Heap} {A : Ads} (X_ : Txt K mg A) : FnOk P w K mg base CX0 7 A.f_law04 A.d_law04 ["_law_script"] (sp_law04 K A.toCA) := by
  have nd_ := sc_law04.nd
  refine X_.F_law04.ok sc_law04 (fun vs H Q E h => ln_law04 h) (fun cdv A_ outer s H vs Q E hr h => ⟨rd_law04 K A.toCA, ?_, pu_law04 h⟩)
  exact (pss_cons (ps_for PassesOwn.never rfl (pi_list (pe_lst (pa_cons pe_int (pa_cons pe_int (pa_cons pe_int (pa_cons pe_int pa_nil)))))) (pg_name (i := 1) nd_ rfl (Or.inl rfl)) (pss_cons (ps_set (i := 2) nd_ rfl (Or.inl rfl) (pe_call (ok__law_row X_) (hr.mono (by decide)) rfl X_.g__law_row X_.F__law_row.kp X_.b__law_row .nil pass0 (pa_cons (pv 0) (pa_cons (pv 1) (pa_cons pe_int (pa_cons (pe_cmpR o_lt (pv 1) pe_int (nomark _)) pa_nil))))))
    (pss_cons (ps_if (pt_not (pt_val (pe_call (ok__law_right04 X_) (hr.mono (by decide)) rfl X_.g__law_right04 X_.F__law_right04.kp X_.b__law_right04 .nil pass0 (pa_cons (pv 2) (pa_cons (pe_lst (pa_cons (pe_call (ok__law_row X_) (hr.mono (by decide)) rfl X_.g__law_row X_.F__law_row.kp X_.b__law_row .nil pass0 (pa_cons (pv 0) (pa_cons (pe_op o_add (pv 1) pe_int) (pa_cons pe_int (pa_cons pe_bl pa_nil))))) (pa_cons (pe_revT (pv 2)) (pa_cons (pe_slice s_T (pv 2) (po_some pe_int) po_none) (pa_cons (pe_strT []) pa_nil))))) pa_nil))))) (pss_one (ps_ret pe_bl)) pss_nil)
    (pss_cons (ps_set (i := 2) nd_ rfl (Or.inl rfl) (pe_call (ok__law_row X_) (hr.mono (by decide)) rfl X_.g__law_row X_.F__law_row.kp X_.b__law_row .nil pass0 (pa_cons (pv 0) (pa_cons (pe_op o_add (pv 1) pe_int) (pa_cons pe_int (pa_cons pe_bl pa_nil))))))
    (pss_cons (ps_set (i := 3) nd_ rfl (Or.inl rfl) (pe_call (ok_rounds X_) (hr.mono (by decide)) rfl X_.g_rounds X_.F_rounds.kp X_.b_rounds .nil pass0 (pa_cons (pv 2) pa_nil)))
    (pss_one (ps_if (PW.pt (pw_or (pt_not (pt_val (pe_callB (c_isiC A.c_Rounded) (by rfl) X_.n_isinstance (by decide +kernel) (pa_cons (pv 3) (pa_cons (pe_glob rfl X_.g_Rounded rfl) pa_nil))))) (pw_or1 (pt_cmpR op_ne (pe_callB c_len (by rfl) X_.n_len (by decide +kernel) (pa_cons (pe_fld (pv 3) rfl) pa_nil)) (pe_call (ok__law_least04 X_) (hr.mono (by decide)) rfl X_.g__law_least04 X_.F__law_least04.kp X_.b__law_least04 .nil pass0 (pa_cons (pv 2) pa_nil)) (nomark _))))) (pss_one (ps_ret pe_bl)) pss_nil)))))))
    (pss_cons (ps_if (pt_cmpR op_ne (pe_callB c_len (by rfl) X_.n_len (by decide +kernel) (pa_cons (pe_fld (pe_call (ok_rounds X_) (hr.mono (by decide)) rfl X_.g_rounds X_.F_rounds.kp X_.b_rounds .nil pass0 (pa_cons (pe_op o_catT (pe_strT [true, false, true, false, true, false]) (pe_strT [false, true, true, true, false, false, false, true])) pa_nil)) rfl) pa_nil)) pe_int (nomark _)) (pss_one (ps_ret pe_bl)) pss_nil)
    (pss_cons (ps_if (PW.pt (pw_or (pt_cmpR op_ne (pe_callB c_len (by rfl) X_.n_len (by decide +kernel) (pa_cons (pe_fld (pe_call (ok_rounds X_) (hr.mono (by decide)) rfl X_.g_rounds X_.F_rounds.kp X_.b_rounds .nil pass0 (pa_cons (pe_strT [false, true]) pa_nil)) rfl) pa_nil)) pe_int (nomark _)) (pw_or (pt_cmpR op_ne (pe_callB c_len (by rfl) X_.n_len (by decide +kernel) (pa_cons (pe_fld (pe_call (ok_rounds X_) (hr.mono (by decide)) rfl X_.g_rounds X_.F_rounds.kp X_.b_rounds .nil pass0 (pa_cons (pe_strT [false, true, true, true, false, false, false, true]) pa_nil)) rfl) pa_nil)) pe_int (nomark _)) (pw_or1 (pt_cmpR o_notN (pe_fld (pe_call (ok_rounds X_) (hr.mono (by decide)) rfl X_.g_rounds X_.F_rounds.kp X_.b_rounds .nil pass0 (pa_cons (pe_strT [true, false]) pa_nil)) rfl) pe_non (nomark _)))))) (pss_one (ps_ret pe_bl)) pss_nil)
    (pss_one (ps_ret (pe_and (pe_cmpR op_eq (pe_fld (pe_call (ok_rounds X_) (hr.mono (by decide)) rfl X_.g_rounds X_.F_rounds.kp X_.b_rounds .nil pass0 (pa_cons (pe_strT [false, false, false]) pa_nil)) rfl) (pe_un o_neg pe_int) (nomark _)) (pe_and (pe_cmpR op_in_seq (pe_fld (pe_call (ok_rounds X_) (hr.mono (by decide)) rfl X_.g_rounds X_.F_rounds.kp X_.b_rounds .nil pass0 (pa_cons (pe_strT [false, true, true, true, false, false, false, true]) pa_nil)) rfl) (pe_tup (pa_cons pe_int (pa_cons pe_int (pa_cons pe_int pa_nil)))) (by rfl)) (pe_one (pe_cmpR (op_eqD hr.units) (pe_fld (pe_call (ok_rounds X_) (hr.mono (by decide)) rfl X_.g_rounds X_.F_rounds.kp X_.b_rounds .nil pass0 (pa_cons (pe_strT []) pa_nil)) rfl) (pe_lst pa_nil) (nomark _))))))))))
end BM
namespace BM
open PySem L2 Evl
/-- one def, as the top has written it -/
theorem fun_ex {K : PySem.W.Frag} {h : Heap} {mg : Str → Option Value} {x : Str} {st : Stmt} {ps : List Str} {G : Prop} (X : K.In h) (N : h.Ns mainGlobals mg) {f : Addr} {od an : Option Addr} {sl : Array (Option Value)} {oc kV dc pm cd ct : Value}
    (a : PySem.W.nsIn K mainGlobals x = some (some (.ref f))) (l : K.lookup f = some ⟨oc, od, .func (PySem.W.fnOf x x (defArgs st) (defBody st) (defScope st) .none kV dc pm an cd ct), sl⟩) (c : PySem.W.codeIn K cd x = true) (k : PySem.W.keepIn K (.ref f) = true)
    (hb : ∀ (kV doc pm : Value) (an : Option Addr) (cdv ct : Value) (us : List Value), us.length = ps.length → bindArgs (PySem.W.fnOf x x (defArgs st) (defBody st) (defScope st) .none kV doc pm an cdv ct) ⟨us, []⟩ = pure (ps.zip us))
    (go : ∀ fd : FuncData, Fun K x x st f fd → mg x = some (.ref f) → Binds K fd ps [] → G) : G :=
  go _ (fun_mk l c k) (PySem.W.mg_of X N a) ((fun_mk l c k).binds hb)
/-- one method, as the top has written it -/
theorem meth_ex {K : PySem.W.Frag} {h : Heap} {mg : Str → Option Value} {C : Addr} {x qual : Str} {st : Stmt} {ps : List Str} {G : Prop} {cn : Str} (X : K.In h) (gc : mg cn = some (.ref C)) {f : Addr} {od an : Option Addr} {sl : Array (Option Value)} {oc kV dc pm cd ct : Value}
    (a : PySem.W.findIn K (.ref C) x = some (some (.ref f))) (i : PySem.W.isFn K (.ref f) = true) (l : K.lookup f = some ⟨oc, od, .func (PySem.W.fnOf x qual (defArgs st) (defBody st) (defScope st) .none kV dc pm an cd ct), sl⟩) (c : PySem.W.codeIn K cd qual = true) (k : PySem.W.keepIn K (.ref f) = true)
    (hb : ∀ (kV doc pm : Value) (an : Option Addr) (cdv ct : Value) (us : List Value), us.length = ps.length → bindArgs (PySem.W.fnOf x qual (defArgs st) (defBody st) (defScope st) .none kV doc pm an cdv ct) ⟨us, []⟩ = pure (ps.zip us))
    (go : ∀ fd : FuncData, Fun K x qual st f fd → Meth K C x f → Binds K fd ps [] → G) : G :=
  go _ (fun_mk l c k) ⟨a, i, k⟩ ((fun_mk l c k).binds hb)
theorem cls_ex {K : PySem.W.Frag} {h : Heap} {mg : Str → Option Value} {x : Str} {G : Prop} (X : K.In h) (N : h.Ns mainGlobals mg) {c : Addr} (a : PySem.W.nsIn K mainGlobals x = some (some (.ref c))) (go : mg x = some (.ref c) → G) : G := go (PySem.W.mg_of X N a)
theorem cst_ex {K : PySem.W.Frag} {h : Heap} {mg : Str → Option Value} {x : Str} {G : Prop} (n : Int) (X : K.In h) (N : h.Ns mainGlobals mg) {v : Value} (a : PySem.W.nsIn K mainGlobals x = some (some v)) (e : ∃ t, v = .int n t) (go : (∃ t, mg x = some (.int n t)) → G) : G := by
  obtain ⟨t, rfl⟩ := e
  exact go ⟨t, PySem.W.mg_of X N a⟩
/-- the law's promise, as the row wants it -/
def spGoal (K : PySem.W.Frag) : Sp := fun vs H Q _ => ∃ (a : Addr) (ns : List Int), vs = [.ref a] ∧ SqL K H a (ns.map V.int) ∧ ns.length ≤ 63 ∧ ∀ H', Q (.bl true) H'
theorem bnd1 {K : PySem.W.Frag} {x qual y : Str} {st : Stmt} {f : Addr} {fd : FuncData} (F : Fun K x qual st f fd) (hb : ∀ (kV doc pm : Value) (an : Option Addr) (cdv ct : Value) (u : Value), bindArgs (PySem.W.fnOf x qual (defArgs st) (defBody st) (defScope st) .none kV doc pm an cdv ct) ⟨[u], []⟩ = pure [(y, u)]) (s : Shared) (u : Value) : BindsTo s fd ⟨[u], []⟩ [(y, u)] := by
  obtain ⟨oc, od, kV, doc, pm, an, cdv, ct, osl, rfl, lk, hcd⟩ := F.ex
  exact .of_eq (hb kV doc pm an cdv ct u)
end BM
namespace BM
open PySem L2 Evl PyProof.Rows
theorem fin04 {l : PySem.W.OpenLaw} {w : World} {K : PySem.W.Frag} {mg : Str → Option Value} {fa : Addr} {A : Ads} (hfa : mg "law" = some (.ref fa)) (X : Txt K mg A) (hE : Ex04 K A.toCA) :
    ∃ fd : FuncData, (∀ (s : Shared) (u : Value), BindsTo s fd ⟨[u], []⟩ [("_law_script", u)]) ∧ ∀ base : Heap, K.In base → base.Ns mainGlobals mg → FnOk l.prog w K mg base CX0 7 fa fd ["_law_script"] (spGoal K) := by
  have e := hfa.symm.trans X.g_law04
  cases e
  exact ⟨A.d_law04, fun s u => bnd1 X.F_law04 (fun _ _ _ _ _ _ _ => rfl) s u, fun base _ _ => (ok_law04 X).imp fun vs H Q E ⟨a, ns, e, hs, hl, q⟩ => ⟨.bl true, ⟨a, ns, hE, e, hs, hl, rfl⟩, fun H' _ => q H'⟩⟩
end BM
open PySem PySem.W PyProof.Rows
set_option maxRecDepth 100000 in
set_option maxHeartbeats 0 in
theorem PySem.Challenge.cw_bracketmend_k04_whole_rounds_holds : PySem.Challenge.rw_bracketmend_k04_whole_rounds.Holds := by
  w_on; o_law; k_head; (case hw => w_witness2)
  k_fill
  refine L2.walk_of (l := PySem.Challenge.rw_bracketmend_k04_whole_rounds) (n := 63) (k := 7) (x := "_law_script") (CX := fun _ => L2.CX0) (sp := fun w => BM.spGoal _) rfl (by decide) rfl ⟨rfl, by decide, by decide⟩ (fun w h Y => PySem.W.kIn_of Y) ?F (fun _ _ a ns hl _ hS => ⟨a, ns, rfl, hS, hl, fun _ => rfl⟩) fun _ _ _ _ _ z => z
  case F =>
    intro w mg fa h KX G hmg
    refine' BM.cls_ex (x := "Answer") KX G ?a_Answer ?go_Answer
    (case a_Answer => k_is)
    case' go_Answer => intro g_Answer
    refine' BM.cls_ex (x := "Odd") KX G ?a_Odd ?go_Odd
    (case a_Odd => k_is)
    case' go_Odd => intro g_Odd
    refine' BM.cls_ex (x := "Rounded") KX G ?a_Rounded ?go_Rounded
    (case a_Rounded => k_is)
    case' go_Rounded => intro g_Rounded
    refine' BM.cls_ex (x := "Swapped") KX G ?a_Swapped ?go_Swapped
    (case a_Swapped => k_is)
    case' go_Swapped => intro g_Swapped
    refine' BM.cls_ex (x := "Turned") KX G ?a_Turned ?go_Turned
    (case a_Turned => k_is)
    case' go_Turned => intro g_Turned
    refine' BM.cls_ex (x := "Uneven") KX G ?a_Uneven ?go_Uneven
    (case a_Uneven => k_is)
    case' go_Uneven => intro g_Uneven
    refine' BM.fun_ex (x := "is_whole") (st := BM.s_is_whole) (ps := ["thing"]) KX G ?a0 ?l0 ?c0 ?k0 (fun _ _ _ _ _ _ us hl => match us, hl with | [_], _ => rfl) ?go0
    (case a0 => k_is); (case l0 => k_is); (case c0 => k_is); (case k0 => k_is)
    case' go0 => intro d_is_whole F_is_whole g_is_whole b_is_whole
    refine' BM.fun_ex (x := "asked_row") (st := BM.s_asked_row) (ps := ["row"]) KX G ?a1 ?l1 ?c1 ?k1 (fun _ _ _ _ _ _ us hl => match us, hl with | [_], _ => rfl) ?go1
    (case a1 => k_is); (case l1 => k_is); (case c1 => k_is); (case k1 => k_is)
    case' go1 => intro d_asked_row F_asked_row g_asked_row b_asked_row
    refine' BM.fun_ex (x := "deepens") (st := BM.s_deepens) (ps := ["bracket"]) KX G ?a2 ?l2 ?c2 ?k2 (fun _ _ _ _ _ _ us hl => match us, hl with | [_], _ => rfl) ?go2
    (case a2 => k_is); (case l2 => k_is); (case c2 => k_is); (case k2 => k_is)
    case' go2 => intro d_deepens F_deepens g_deepens b_deepens
    refine' BM.fun_ex (x := "depths_of") (st := BM.s_depths_of) (ps := ["row"]) KX G ?a3 ?l3 ?c3 ?k3 (fun _ _ _ _ _ _ us hl => match us, hl with | [_], _ => rfl) ?go3
    (case a3 => k_is); (case l3 => k_is); (case c3 => k_is); (case k3 => k_is)
    case' go3 => intro d_depths_of F_depths_of g_depths_of b_depths_of
    refine' BM.fun_ex (x := "is_right_row") (st := BM.s_is_right_row) (ps := ["row"]) KX G ?a4 ?l4 ?c4 ?k4 (fun _ _ _ _ _ _ us hl => match us, hl with | [_], _ => rfl) ?go4
    (case a4 => k_is); (case l4 => k_is); (case c4 => k_is); (case k4 => k_is)
    case' go4 => intro d_is_right_row F_is_right_row g_is_right_row b_is_right_row
    refine' BM.fun_ex (x := "flipped") (st := BM.s_flipped) (ps := ["bracket"]) KX G ?a5 ?l5 ?c5 ?k5 (fun _ _ _ _ _ _ us hl => match us, hl with | [_], _ => rfl) ?go5
    (case a5 => k_is); (case l5 => k_is); (case c5 => k_is); (case k5 => k_is)
    case' go5 => intro d_flipped F_flipped g_flipped b_flipped
    refine' BM.fun_ex (x := "swapped") (st := BM.s_swapped) (ps := ["row", "place"]) KX G ?a6 ?l6 ?c6 ?k6 (fun _ _ _ _ _ _ us hl => match us, hl with | [_, _], _ => rfl) ?go6
    (case a6 => k_is); (case l6 => k_is); (case c6 => k_is); (case k6 => k_is)
    case' go6 => intro d_swapped F_swapped g_swapped b_swapped
    refine' BM.fun_ex (x := "turned") (st := BM.s_turned) (ps := ["row", "places"]) KX G ?a7 ?l7 ?c7 ?k7 (fun _ _ _ _ _ _ us hl => match us, hl with | [_, _], _ => rfl) ?go7
    (case a7 => k_is); (case l7 => k_is); (case c7 => k_is); (case k7 => k_is)
    case' go7 => intro d_turned F_turned g_turned b_turned
    refine' BM.fun_ex (x := "rounded") (st := BM.s_rounded) (ps := ["row", "first", "behind"]) KX G ?a8 ?l8 ?c8 ?k8 (fun _ _ _ _ _ _ us hl => match us, hl with | [_, _, _], _ => rfl) ?go8
    (case a8 => k_is); (case l8 => k_is); (case c8 => k_is); (case k8 => k_is)
    case' go8 => intro d_rounded F_rounded g_rounded b_rounded
    refine' BM.fun_ex (x := "is_stretch") (st := BM.s_is_stretch) (ps := ["row", "thing"]) KX G ?a9 ?l9 ?c9 ?k9 (fun _ _ _ _ _ _ us hl => match us, hl with | [_, _], _ => rfl) ?go9
    (case a9 => k_is); (case l9 => k_is); (case c9 => k_is); (case k9 => k_is)
    case' go9 => intro d_is_stretch F_is_stretch g_is_stretch b_is_stretch
    refine' BM.meth_ex KX g_Uneven (x := "__init__") (qual := "Uneven.__init__") (st := BM.s_u_init) (ps := ["self", "depth"]) ?a10 ?i10 ?l10 ?c10 ?k10 (fun _ _ _ _ _ _ us hl => match us, hl with | [_, _], _ => rfl) ?go10
    (case a10 => k_is); (case i10 => k_is); (case l10 => k_is); (case c10 => k_is); (case k10 => k_is)
    case' go10 => intro d_u_init F_u_init m_u_init b_u_init
    refine' BM.meth_ex KX g_Uneven (x := "shows") (qual := "Uneven.shows") (st := BM.s_u_shows) (ps := ["self", "row"]) ?a11 ?i11 ?l11 ?c11 ?k11 (fun _ _ _ _ _ _ us hl => match us, hl with | [_, _], _ => rfl) ?go11
    (case a11 => k_is); (case i11 => k_is); (case l11 => k_is); (case c11 => k_is); (case k11 => k_is)
    case' go11 => intro d_u_shows F_u_shows m_u_shows b_u_shows
    refine' BM.fun_ex (x := "below") (st := BM.s_below) (ps := ["row"]) KX G ?a12 ?l12 ?c12 ?k12 (fun _ _ _ _ _ _ us hl => match us, hl with | [_], _ => rfl) ?go12
    (case a12 => k_is); (case l12 => k_is); (case c12 => k_is); (case k12 => k_is)
    case' go12 => intro d_below F_below g_below b_below
    refine' BM.meth_ex KX g_Rounded (x := "__init__") (qual := "Rounded.__init__") (st := BM.s_r_init) (ps := ["self", "stretches", "top"]) ?a13 ?i13 ?l13 ?c13 ?k13 (fun _ _ _ _ _ _ us hl => match us, hl with | [_, _, _], _ => rfl) ?go13
    (case a13 => k_is); (case i13 => k_is); (case l13 => k_is); (case c13 => k_is); (case k13 => k_is)
    case' go13 => intro d_r_init F_r_init m_r_init b_r_init
    refine' BM.meth_ex KX g_Rounded (x := "shows") (qual := "Rounded.shows") (st := BM.s_r_shows) (ps := ["self", "row"]) ?a14 ?i14 ?l14 ?c14 ?k14 (fun _ _ _ _ _ _ us hl => match us, hl with | [_, _], _ => rfl) ?go14
    (case a14 => k_is); (case i14 => k_is); (case l14 => k_is); (case c14 => k_is); (case k14 => k_is)
    case' go14 => intro d_r_shows F_r_shows m_r_shows b_r_shows
    refine' BM.fun_ex (x := "rounds") (st := BM.s_rounds) (ps := ["row"]) KX G ?a15 ?l15 ?c15 ?k15 (fun _ _ _ _ _ _ us hl => match us, hl with | [_], _ => rfl) ?go15
    (case a15 => k_is); (case l15 => k_is); (case c15 => k_is); (case k15 => k_is)
    case' go15 => intro d_rounds F_rounds g_rounds b_rounds
    refine' BM.fun_ex (x := "_law_number") (st := BM.s__law_number) (ps := ["_law_cell", "_law_at", "_law_whole"]) KX G ?a16 ?l16 ?c16 ?k16 (fun _ _ _ _ _ _ us hl => match us, hl with | [_, _, _], _ => rfl) ?go16
    (case a16 => k_is); (case l16 => k_is); (case c16 => k_is); (case k16 => k_is)
    case' go16 => intro d__law_number F__law_number g__law_number b__law_number
    refine' BM.fun_ex (x := "_law_row") (st := BM.s__law_row) (ps := ["_law_script", "_law_by", "_law_most", "_law_even"]) KX G ?a17 ?l17 ?c17 ?k17 (fun _ _ _ _ _ _ us hl => match us, hl with | [_, _, _, _], _ => rfl) ?go17
    (case a17 => k_is); (case l17 => k_is); (case c17 => k_is); (case k17 => k_is)
    case' go17 => intro d__law_row F__law_row g__law_row b__law_row
    refine' BM.fun_ex (x := "_law_depths") (st := BM.s__law_depths) (ps := ["_law_row_here"]) KX G ?a18 ?l18 ?c18 ?k18 (fun _ _ _ _ _ _ us hl => match us, hl with | [_], _ => rfl) ?go18
    (case a18 => k_is); (case l18 => k_is); (case c18 => k_is); (case k18 => k_is)
    case' go18 => intro d__law_depths F__law_depths g__law_depths b__law_depths
    refine' BM.fun_ex (x := "_law_good") (st := BM.s__law_good) (ps := ["_law_row_here"]) KX G ?a19 ?l19 ?c19 ?k19 (fun _ _ _ _ _ _ us hl => match us, hl with | [_], _ => rfl) ?go19
    (case a19 => k_is); (case l19 => k_is); (case c19 => k_is); (case k19 => k_is)
    case' go19 => intro d__law_good F__law_good g__law_good b__law_good
    refine' BM.fun_ex (x := "_law_round") (st := BM.s__law_round) (ps := ["_law_row_here", "_law_stretches"]) KX G ?a20 ?l20 ?c20 ?k20 (fun _ _ _ _ _ _ us hl => match us, hl with | [_, _], _ => rfl) ?go20
    (case a20 => k_is); (case l20 => k_is); (case c20 => k_is); (case k20 => k_is)
    case' go20 => intro d__law_round F__law_round g__law_round b__law_round
    refine' BM.fun_ex (x := "_law_rounded") (st := BM.s__law_rounded) (ps := ["_law_row_here", "_law_stretches", "_law_top"]) KX G ?a21 ?l21 ?c21 ?k21 (fun _ _ _ _ _ _ us hl => match us, hl with | [_, _, _], _ => rfl) ?go21
    (case a21 => k_is); (case l21 => k_is); (case c21 => k_is); (case k21 => k_is)
    case' go21 => intro d__law_rounded F__law_rounded g__law_rounded b__law_rounded
    refine' BM.fun_ex (x := "_law_uneven") (st := BM.s__law_uneven) (ps := ["_law_row_here", "_law_depth"]) KX G ?a22 ?l22 ?c22 ?k22 (fun _ _ _ _ _ _ us hl => match us, hl with | [_, _], _ => rfl) ?go22
    (case a22 => k_is); (case l22 => k_is); (case c22 => k_is); (case k22 => k_is)
    case' go22 => intro d__law_uneven F__law_uneven g__law_uneven b__law_uneven
    refine' BM.fun_ex (x := "_law_due") (st := BM.s__law_due04) (ps := ["_law_row_here", "_law_answer"]) KX G ?a23 ?l23 ?c23 ?k23 (fun _ _ _ _ _ _ us hl => match us, hl with | [_, _], _ => rfl) ?go23
    (case a23 => k_is); (case l23 => k_is); (case c23 => k_is); (case k23 => k_is)
    case' go23 => intro d__law_due04 F__law_due04 g__law_due04 b__law_due04
    refine' BM.fun_ex (x := "_law_right") (st := BM.s__law_right04) (ps := ["_law_row_here", "_law_others"]) KX G ?a24 ?l24 ?c24 ?k24 (fun _ _ _ _ _ _ us hl => match us, hl with | [_, _], _ => rfl) ?go24
    (case a24 => k_is); (case l24 => k_is); (case c24 => k_is); (case k24 => k_is)
    case' go24 => intro d__law_right04 F__law_right04 g__law_right04 b__law_right04
    refine' BM.fun_ex (x := "_law_least") (st := BM.s__law_least04) (ps := ["_law_row_here"]) KX G ?a25 ?l25 ?c25 ?k25 (fun _ _ _ _ _ _ us hl => match us, hl with | [_], _ => rfl) ?go25
    (case a25 => k_is); (case l25 => k_is); (case c25 => k_is); (case k25 => k_is)
    case' go25 => intro d__law_least04 F__law_least04 g__law_least04 b__law_least04
    refine' BM.fun_ex (x := "law") (st := BM.s_law04) (ps := ["_law_script"]) KX G ?a26 ?l26 ?c26 ?k26 (fun _ _ _ _ _ _ us hl => match us, hl with | [_], _ => rfl) ?go26
    (case a26 => k_is); (case l26 => k_is); (case c26 => k_is); (case k26 => k_is)
    case' go26 => intro d_law04 F_law04 g_law04 b_law04
    refine' BM.cst_ex (x := "LONGEST") 40 KX G ?a_LONGEST ?e_LONGEST ?go_LONGEST
    (case a_LONGEST => k_is); (case e_LONGEST => exact ⟨_, rfl⟩)
    case' go_LONGEST => intro g_LONGEST

    refine' BM.fin04 (A := ⟨⟨0, 0, 0, 0, 0, 0, 0, 0, _, _, _, _, _, _, 0⟩, _, d_is_whole, _, d_asked_row, _, d_deepens, _, d_depths_of, _, d_is_right_row, _, d_flipped, _, d_swapped, _, d_turned, _, d_rounded, _, d_is_stretch, _, d_u_init, _, d_u_shows, _, d_below, _, d_r_init, _, d_r_shows, _, d_rounds, _, d__law_number, _, d__law_row, _, d__law_depths, _, d__law_good, _, d__law_round, _, d__law_rounded, _, d__law_uneven, _, d__law_due04, _, d__law_right04, _, d__law_least04, _, d_law04⟩) hmg ?X ?E
    case' X => refine' { F_is_whole := F_is_whole, g_is_whole := g_is_whole, b_is_whole := b_is_whole, F_asked_row := F_asked_row, g_asked_row := g_asked_row, b_asked_row := b_asked_row, F_deepens := F_deepens, g_deepens := g_deepens, b_deepens := b_deepens, F_depths_of := F_depths_of, g_depths_of := g_depths_of, b_depths_of := b_depths_of, F_is_right_row := F_is_right_row, g_is_right_row := g_is_right_row, b_is_right_row := b_is_right_row, F_flipped := F_flipped, g_flipped := g_flipped, b_flipped := b_flipped, F_swapped := F_swapped, g_swapped := g_swapped, b_swapped := b_swapped, F_turned := F_turned, g_turned := g_turned, b_turned := b_turned, F_rounded := F_rounded, g_rounded := g_rounded, b_rounded := b_rounded, F_is_stretch := F_is_stretch, g_is_stretch := g_is_stretch, b_is_stretch := b_is_stretch, F_u_init := F_u_init, m_u_init := m_u_init, b_u_init := b_u_init, F_u_shows := F_u_shows, m_u_shows := m_u_shows, b_u_shows := b_u_shows, F_below := F_below, g_below := g_below, b_below := b_below, F_r_init := F_r_init, m_r_init := m_r_init, b_r_init := b_r_init, F_r_shows := F_r_shows, m_r_shows := m_r_shows, b_r_shows := b_r_shows, F_rounds := F_rounds, g_rounds := g_rounds, b_rounds := b_rounds, F__law_number := F__law_number, g__law_number := g__law_number, b__law_number := b__law_number, F__law_row := F__law_row, g__law_row := g__law_row, b__law_row := b__law_row, F__law_depths := F__law_depths, g__law_depths := g__law_depths, b__law_depths := b__law_depths, F__law_good := F__law_good, g__law_good := g__law_good, b__law_good := b__law_good, F__law_round := F__law_round, g__law_round := g__law_round, b__law_round := b__law_round, F__law_rounded := F__law_rounded, g__law_rounded := g__law_rounded, b__law_rounded := b__law_rounded, F__law_uneven := F__law_uneven, g__law_uneven := g__law_uneven, b__law_uneven := b__law_uneven, F__law_due04 := F__law_due04, g__law_due04 := g__law_due04, b__law_due04 := b__law_due04, F__law_right04 := F__law_right04, g__law_right04 := g__law_right04, b__law_right04 := b__law_right04, F__law_least04 := F__law_least04, g__law_least04 := g__law_least04, b__law_least04 := b__law_least04, F_law04 := F_law04, g_law04 := g_law04, b_law04 := b_law04, k_Rounded := ⟨?pg_Rounded, ?hd_Rounded, ?po_Rounded, ?sa_Rounded⟩, mk_Rounded := ⟨?mi_Rounded, m_r_init.at_, m_r_init.fn, ?kc_Rounded⟩, k_Uneven := ⟨?pg_Uneven, ?hd_Uneven, ?po_Uneven, ?sa_Uneven⟩, mk_Uneven := ⟨?mi_Uneven, m_u_init.at_, m_u_init.fn, ?kc_Uneven⟩, n_abs := PySem.W.mg_none_of KX G ?n_abs, n_all := PySem.W.mg_none_of KX G ?n_all, n_bool := PySem.W.mg_none_of KX G ?n_bool, n_enumerate := PySem.W.mg_none_of KX G ?n_enumerate, n_int := PySem.W.mg_none_of KX G ?n_int, n_isinstance := PySem.W.mg_none_of KX G ?n_isinstance, n_len := PySem.W.mg_none_of KX G ?n_len, n_list := PySem.W.mg_none_of KX G ?n_list, n_max := PySem.W.mg_none_of KX G ?n_max, n_min := PySem.W.mg_none_of KX G ?n_min, n_range := PySem.W.mg_none_of KX G ?n_range, n_str := PySem.W.mg_none_of KX G ?n_str, n_sum := PySem.W.mg_none_of KX G ?n_sum, n_tuple := PySem.W.mg_none_of KX G ?n_tuple, g_Answer := g_Answer, g_LONGEST := g_LONGEST, g_Odd := g_Odd, g_Rounded := g_Rounded, g_Swapped := g_Swapped, g_Turned := g_Turned, g_Uneven := g_Uneven }
    (case n_abs => k_is)
    (case n_all => k_is)
    (case n_bool => k_is)
    (case n_enumerate => k_is)
    (case n_int => k_is)
    (case n_isinstance => k_is)
    (case n_len => k_is)
    (case n_list => k_is)
    (case n_max => k_is)
    (case n_min => k_is)
    (case n_range => k_is)
    (case n_str => k_is)
    (case n_sum => k_is)
    (case n_tuple => k_is)
    (case pg_Rounded => (try dsimp only); k_is)
    (case hd_Rounded => (try dsimp only); k_is)
    (case po_Rounded => (try dsimp only); k_is)
    (case sa_Rounded => (try dsimp only); k_is)
    (case mi_Rounded => (try dsimp only); k_is)
    (case kc_Rounded => (try dsimp only); k_is)
    (case pg_Uneven => (try dsimp only); k_is)
    (case hd_Uneven => (try dsimp only); k_is)
    (case po_Uneven => (try dsimp only); k_is)
    (case sa_Uneven => (try dsimp only); k_is)
    (case mi_Uneven => (try dsimp only); k_is)
    (case kc_Uneven => (try dsimp only); k_is)
    case' E => refine' ⟨⟨⟨⟨?uc1, ?uc2, ?uc3, ?uc4⟩, ?uha, ?uhn, ?uht, ?uhm⟩, ?un0⟩, ⟨⟨⟨?sc1, ?sc2, ?sc3, ?sc4⟩, ?sha, ?shn, ?sht, ?shm⟩, ?sn0, ?sn1⟩, BM.kit_yes ⟨?q01, ?q02⟩ ?q03, BM.kit_yes ⟨?q11, ?q12⟩ ?q13, BM.kit_no ⟨?q21, ?q22⟩ ?q23 ?q24, BM.kit_no ⟨?q31, ?q32⟩ ?q33 ?q34, BM.kit_no ⟨?q41, ?q42⟩ ?q43 ?q44, BM.kit_no ⟨?q51, ?q52⟩ ?q53 ?q54, BM.kit_no ⟨?q61, ?q62⟩ ?q63 ?q64, BM.kit_no ⟨?q71, ?q72⟩ ?q73 ?q74, BM.kit_no ⟨?q81, ?q82⟩ ?q83 ?q84, BM.kit_no ⟨?q91, ?q92⟩ ?q93 ?q94⟩
    (case uc1 => (try dsimp only); k_is)
    (case uc2 => (try dsimp only); k_is)
    (case uc3 => (try dsimp only); k_is)
    (case uc4 => (try dsimp only); k_is)
    (case uha => (try dsimp only); k_is)
    (case uhn => (try dsimp only); k_is)
    (case uht => (try dsimp only); k_is)
    (case uhm => (try dsimp only); k_is)
    (case un0 => unfold L2.NoAttr; (try dsimp only); k_is)
    (case sc1 => (try dsimp only); k_is)
    (case sc2 => (try dsimp only); k_is)
    (case sc3 => (try dsimp only); k_is)
    (case sc4 => (try dsimp only); k_is)
    (case sha => (try dsimp only); k_is)
    (case shn => (try dsimp only); k_is)
    (case sht => (try dsimp only); k_is)
    (case shm => (try dsimp only); k_is)
    (case sn0 => unfold L2.NoAttr; (try dsimp only); k_is)
    (case sn1 => unfold L2.NoAttr; (try dsimp only); k_is)
    (case q01 => (try dsimp only); k_is)
    (case q02 => (try dsimp only); k_is)
    (case q03 => (try dsimp only); k_is)
    (case q11 => (try dsimp only); k_is)
    (case q12 => (try dsimp only); k_is)
    (case q13 => (try dsimp only); k_is)
    (case q21 => (try dsimp only); k_is)
    (case q22 => (try dsimp only); k_is)
    (case q23 => (try dsimp only); k_is)
    (case q24 => (try dsimp only); k_is)
    (case q31 => (try dsimp only); k_is)
    (case q32 => (try dsimp only); k_is)
    (case q33 => (try dsimp only); k_is)
    (case q34 => (try dsimp only); k_is)
    (case q41 => (try dsimp only); k_is)
    (case q42 => (try dsimp only); k_is)
    (case q43 => (try dsimp only); k_is)
    (case q44 => (try dsimp only); k_is)
    (case q51 => (try dsimp only); k_is)
    (case q52 => (try dsimp only); k_is)
    (case q53 => (try dsimp only); k_is)
    (case q54 => (try dsimp only); k_is)
    (case q61 => (try dsimp only); k_is)
    (case q62 => (try dsimp only); k_is)
    (case q63 => (try dsimp only); k_is)
    (case q64 => (try dsimp only); k_is)
    (case q71 => (try dsimp only); k_is)
    (case q72 => (try dsimp only); k_is)
    (case q73 => (try dsimp only); k_is)
    (case q74 => (try dsimp only); k_is)
    (case q81 => (try dsimp only); k_is)
    (case q82 => (try dsimp only); k_is)
    (case q83 => (try dsimp only); k_is)
    (case q84 => (try dsimp only); k_is)
    (case q91 => (try dsimp only); k_is)
    (case q92 => (try dsimp only); k_is)
    (case q93 => (try dsimp only); k_is)
    (case q94 => (try dsimp only); k_is)
