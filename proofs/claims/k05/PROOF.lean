import PyProof.Rows.All
import Wide.All
import OpenK.AllK
import Wide.FinOn
import HandS.ForMost
import HandS.Walk
import HandS.Evl
import HandS.IsInst
import HandS.Style
import HandS.Conv
import PyProof.Draws
import PyProof.EnumMake
import HandS.ForExc
import HandS.ExcIs
import HandS.SetFor
import HandS.Strs
import HandS.Zip
import HandS.Dict
import HandS.New0
import HandS.Ends
import PySem.Challenge.RW_bracketmend_k05_by_hand
set_option Elab.async false
set_option linter.all false
set_option maxRecDepth 100000
set_option maxHeartbeats 4000000
namespace BM
open PySem L2 Evl
/-- what a def knows of the heap beyond what it began with: own objects, tuples -/
structure Ld where
  L : List (Addr × HO)
  T : List (Addr × List V)
structure Own (H0 H : Hp) (s : Ld) : Prop where
  ex : Ex H0 H
  nd : (s.L.map (·.1)).Nodup
  own : ∀ e ∈ s.L, H0 e.1 = none ∧ H e.1 = some e.2
  tp : ∀ t ∈ s.T, H t.1 = some (.tup t.2)
theorem Own.start (H : Hp) : Own H H ⟨[], []⟩ := ⟨Ex.refl H, List.nodup_nil, (fun _ h => nomatch h), (fun _ h => nomatch h)⟩
theorem Own.ext {H0 H H' : Hp} {s : Ld} (o : Own H0 H s) (e : Ex H H') : Own H0 H' s :=
  ⟨o.ex.trans e, o.nd, fun x hx => ⟨(o.own x hx).1, e _ _ (o.own x hx).2⟩, fun t ht => e _ _ (o.tp t ht)⟩
theorem Own.new {H0 H : Hp} {s : Ld} {p : Addr} {u : HO} (o : Own H0 H s) (hp : H p = none) : Own H0 (upd H p u) ⟨(p, u) :: s.L, s.T⟩ := by
  have e : Ex H (upd H p u) := Ex.new hp
  refine ⟨o.ex.trans e, ?_, ?_, fun t ht => e _ _ (o.tp t ht)⟩
  · refine List.nodup_cons.mpr ⟨fun h => ?_, o.nd⟩
    obtain ⟨x, hx, rfl⟩ := List.mem_map.mp h
    rw [(o.own x hx).2] at hp
    cases hp
  · intro x hx
    rcases List.mem_cons.mp hx with rfl | hx
    · exact ⟨fresh_back o.ex hp, upd_same⟩
    · exact ⟨(o.own x hx).1, e _ _ (o.own x hx).2⟩
/-- a new object behind an extension -/
theorem Own.newE {H0 H H' : Hp} {s : Ld} {p : Addr} {u : HO} (o : Own H0 H s) (hp : H p = none) (e : Ex H H') (h : H' p = some u) : Own H0 H' ⟨(p, u) :: s.L, s.T⟩ := by
  refine ⟨o.ex.trans e, ?_, ?_, fun t ht => e _ _ (o.tp t ht)⟩
  · refine List.nodup_cons.mpr ⟨fun h => ?_, o.nd⟩
    obtain ⟨x, hx, rfl⟩ := List.mem_map.mp h
    rw [(o.own x hx).2] at hp
    cases hp
  · intro x hx
    rcases List.mem_cons.mp hx with rfl | hx
    · exact ⟨fresh_back o.ex hp, h⟩
    · exact ⟨(o.own x hx).1, e _ _ (o.own x hx).2⟩
theorem Own.newT {H0 H : Hp} {s : Ld} {p : Addr} {xs : List V} (o : Own H0 H s) (hp : H p = none) : Own H0 (upd H p (.tup xs)) ⟨s.L, (p, xs) :: s.T⟩ := by
  have e : Ex H (upd H p (.tup xs)) := Ex.new hp
  refine ⟨o.ex.trans e, o.nd, fun x hx => ⟨(o.own x hx).1, e _ _ (o.own x hx).2⟩, ?_⟩
  intro t ht
  rcases List.mem_cons.mp ht with rfl | ht
  · exact upd_same
  · exact e _ _ (o.tp t ht)
theorem Own.moreT {H0 H : Hp} {s : Ld} (o : Own H0 H s) {ts : List (Addr × List V)} (h : ∀ t ∈ ts, H t.1 = some (.tup t.2)) : Own H0 H ⟨s.L, ts ++ s.T⟩ :=
  ⟨o.ex, o.nd, o.own, fun t ht => by
    rcases List.mem_append.mp ht with h1 | h1
    · exact h t h1
    · exact o.tp t h1⟩
theorem Own.dropL {H0 H : Hp} {s : Ld} (o : Own H0 H s) {L : List (Addr × HO)} {T : List (Addr × List V)} (hL : L.Sublist s.L) (hT : T ⊆ s.T) : Own H0 H ⟨L, T⟩ :=
  ⟨o.ex, (hL.map (·.1)).nodup o.nd, fun e he => o.own e (hL.subset he), fun t ht => o.tp t (hT ht)⟩
/-- less is known -/
structure Sub (s0 s : Ld) : Prop where
  l : s0.L.Sublist s.L
  t : s0.T.Sublist s.T
theorem Sub.refl (s : Ld) : Sub s s := ⟨List.Sublist.refl _, List.Sublist.refl _⟩
theorem Own.sub {H0 H : Hp} {s s0 : Ld} (o : Own H0 H s) (h : Sub s0 s) : Own H0 H s0 := o.dropL h.l h.t.subset
/-- one own object changed -/
inductive Swap (p : Addr) (o o' : HO) : List (Addr × HO) → List (Addr × HO) → Prop where
  | here {L} : Swap p o o' ((p, o) :: L) ((p, o') :: L)
  | there {e L L'} : Swap p o o' L L' → Swap p o o' (e :: L) (e :: L')
theorem Swap.keys {p : Addr} {o o' : HO} {L L' : List (Addr × HO)} (h : Swap p o o' L L') : L'.map (·.1) = L.map (·.1) := by
  induction h with
  | here => rfl
  | there _ ih => rw [List.map_cons, List.map_cons, ih]
theorem Swap.mem {p : Addr} {o o' : HO} {L L' : List (Addr × HO)} (h : Swap p o o' L L') : (p, o) ∈ L := by
  induction h with
  | here => exact List.mem_cons_self
  | there _ ih => exact List.mem_cons_of_mem _ ih
theorem Swap.of_mem {p : Addr} {o o' : HO} {L L' : List (Addr × HO)} (h : Swap p o o' L L') (nd : (L.map (·.1)).Nodup) : ∀ e ∈ L', e = (p, o') ∨ (e ∈ L ∧ e.1 ≠ p) := by
  induction h with
  | @here L =>
    intro e he
    rcases List.mem_cons.mp he with rfl | he
    · exact .inl rfl
    · refine .inr ⟨List.mem_cons_of_mem _ he, fun z => ?_⟩
      rw [List.map_cons] at nd
      exact (List.nodup_cons.mp nd).1 (List.mem_map.mpr ⟨e, he, z⟩)
  | @there x L L' h ih =>
    rw [List.map_cons] at nd
    have nd' := List.nodup_cons.mp nd
    intro e he
    rcases List.mem_cons.mp he with rfl | he
    · refine .inr ⟨List.mem_cons_self, fun z => ?_⟩
      refine nd'.1 (List.mem_map.mpr ⟨(p, o), h.mem, z.symm⟩)
    · rcases ih nd'.2 e he with r | ⟨r, r'⟩
      · exact .inl r
      · exact .inr ⟨List.mem_cons_of_mem _ r, r'⟩
def NotTup : HO → Prop
  | .tup _ => False
  | _ => True
theorem Own.swap {H0 H : Hp} {s : Ld} {p : Addr} {u u' : HO} {L' : List (Addr × HO)} (o : Own H0 H s) (h : Swap p u u' s.L L') (nt : NotTup u) : Own H0 (upd H p u') ⟨L', s.T⟩ := by
  have hp := o.own _ h.mem
  refine ⟨fun a x e => ?_, by rw [h.keys]; exact o.nd, fun e he => ?_, fun t ht => ?_⟩
  · rw [upd_ne (ne_of_none e hp.1)]
    exact o.ex _ _ e
  · rcases h.of_mem o.nd e he with rfl | ⟨he, ne⟩
    · exact ⟨hp.1, upd_same⟩
    · rw [upd_ne ne]
      exact o.own e he
  · rw [upd_ne]
    · exact o.tp t ht
    · intro z
      have h1 := o.tp t ht
      rw [z, hp.2] at h1
      cases h1
      exact nt
/-! ### lists and tuples to be read -/
def IsL (K : PySem.W.Frag) (H0 : Hp) (s : Ld) (a : Addr) (xs : List V) : Prop := ∀ H, Own H0 H s → SqL K H a xs
def IsT (K : PySem.W.Frag) (H0 : Hp) (s : Ld) (a : Addr) (xs : List V) : Prop := ∀ H, Own H0 H s → SqT K H a xs
section
variable {K : PySem.W.Frag} {H0 : Hp} {s : Ld} {a : Addr} {xs : List V}
theorem isL_own (h : (a, HO.lst xs) ∈ s.L) : IsL K H0 s a xs := fun H o => sq_of (o.own _ h).2
theorem isL_old (h : SqL K H0 a xs) : IsL K H0 s a xs := fun H o => ex_l o.ex h
theorem isT_own (h : (a, xs) ∈ s.T) : IsT K H0 s a xs := fun H o => st_of (o.tp _ h)
theorem isT_old (h : SqT K H0 a xs) : IsT K H0 s a xs := fun H o => ex_t o.ex h
end
/-! ### what is asked, over the own objects -/
def WE (H0 : Hp) (t : TE) (σ : L2.St) (s : Ld) (Q : V → Ld → Prop) : Prop := ∀ H, Own H0 H s → ∀ R : VK, (∀ v H' s', Own H0 H' s' → Q v s' → R v H') → t σ H R
def WT (H0 : Hp) (t : TT) (σ : L2.St) (s : Ld) (Q : Bool → Ld → Prop) : Prop := ∀ H, Own H0 H s → ∀ R : Bool → Hp → Prop, (∀ v H' s', Own H0 H' s' → Q v s' → R v H') → t σ H R
def WA (H0 : Hp) (t : TA) (σ : L2.St) (s : Ld) (Q : List V → Ld → Prop) : Prop := ∀ H, Own H0 H s → ∀ R : List V → Hp → Prop, (∀ v H' s', Own H0 H' s' → Q v s' → R v H') → t σ H R
def WO (H0 : Hp) (t : TO) (σ : L2.St) (s : Ld) (Q : Option Int → Ld → Prop) : Prop := ∀ H, Own H0 H s → ∀ R : Option Int → Hp → Prop, (∀ v H' s', Own H0 H' s' → Q v s' → R v H') → t σ H R
def W2 (H0 : Hp) (r : R2) (x y : V) (s : Ld) (Q : V → Ld → Prop) : Prop := ∀ H, Own H0 H s → ∀ R : VK, (∀ v H' s', Own H0 H' s' → Q v s' → R v H') → r x y H R
def W1 (H0 : Hp) (r : V → Hp → VK → Prop) (x : V) (s : Ld) (Q : V → Ld → Prop) : Prop := ∀ H, Own H0 H s → ∀ R : VK, (∀ v H' s', Own H0 H' s' → Q v s' → R v H') → r x H R
def WL (H0 : Hp) (r : List V → Hp → VK → Prop) (xs : List V) (s : Ld) (Q : V → Ld → Prop) : Prop := ∀ H, Own H0 H s → ∀ R : VK, (∀ v H' s', Own H0 H' s' → Q v s' → R v H') → r xs H R
def WM (H0 : Hp) (r : V → List V → Hp → VK → Prop) (x : V) (xs : List V) (s : Ld) (Q : V → Ld → Prop) : Prop := ∀ H, Own H0 H s → ∀ R : VK, (∀ v H' s', Own H0 H' s' → Q v s' → R v H') → r x xs H R
def WSl (H0 : Hp) (r : V → Option Int → Option Int → Hp → VK → Prop) (x : V) (lo hi : Option Int) (s : Ld) (Q : V → Ld → Prop) : Prop := ∀ H, Own H0 H s → ∀ R : VK, (∀ v H' s', Own H0 H' s' → Q v s' → R v H') → r x lo hi H R
def WC (H0 : Hp) (sp : Sp) (E : XK) (vs : List V) (s : Ld) (Q : V → Ld → Prop) : Prop := ∀ H, Own H0 H s → ∀ R : VK, (∀ v H' s', Own H0 H' s' → Q v s' → R v H') → sp vs H R E
def WSet (H0 : Hp) (r : TSet) (o i v : V) (s : Ld) (Q : Ld → Prop) : Prop := ∀ H, Own H0 H s → ∀ R : Hp → Prop, (∀ H' s', Own H0 H' s' → Q s' → R H') → r o i v H R
def WG (H0 : Hp) (g : TG) (v : V) (σ : L2.St) (s : Ld) (Q : L2.St → Ld → Prop) : Prop := ∀ H, Own H0 H s → ∀ R : L2.St → Hp → Prop, (∀ σ' H' s', Own H0 H' s' → Q σ' s' → R σ' H') → g v σ H R
def WGs (H0 : Hp) (g : TGs) (vs : List V) (σ : L2.St) (s : Ld) (Q : L2.St → Ld → Prop) : Prop := ∀ H, Own H0 H s → ∀ R : L2.St → Hp → Prop, (∀ σ' H' s', Own H0 H' s' → Q σ' s' → R σ' H') → g vs σ H R
def WI (H0 : Hp) (wi : TI) (σ : L2.St) (s : Ld) (Q : It → Ld → Prop) : Prop := ∀ H, Own H0 H s → ∀ R : It → Hp → Prop, (∀ J H' s', Own H0 H' s' → Q J s' → R J H') → wi σ H R
structure Dl where
  nx : L2.St → Ld → Prop
  rt : V → Ld → Prop
  bk : L2.St → Ld → Prop := fun _ _ => False
  ct : L2.St → Ld → Prop := fun _ _ => False
structure Low (H0 : Hp) (D : Dl) (E : Ends) : Prop where
  nx : ∀ σ H s, Own H0 H s → D.nx σ s → E.nx σ H
  rt : ∀ v H s, Own H0 H s → D.rt v s → E.rt v H
  bk : ∀ σ H s, Own H0 H s → D.bk σ s → E.bk σ H
  ct : ∀ σ H s, Own H0 H s → D.ct σ s → E.ct σ H
def WS (H0 : Hp) (t : TS) (σ : L2.St) (s : Ld) (D : Dl) : Prop := ∀ H, Own H0 H s → ∀ E : Ends, Low H0 D E → t E σ H
section
variable {K : PySem.W.Frag} {H0 : Hp} {σ : L2.St} {s : Ld} {ta tb te tl : TE} {t u : TT} {tr : TA} {x y z v : V} {r : R2} {Q : V → Ld → Prop} {D : Dl} {t1 t2 : TS} {g : TG}
/-! ### values -/
theorem we_var {i : Nat} (h : σ[i]? = some (some v)) (q : Q v s) : WE H0 (tVar i) σ s Q := fun H o R k => ⟨v, h, k v H s o q⟩
theorem we_c (q : Q v s) : WE H0 (tC v) σ s Q := fun H o R k => k v H s o q
theorem we_op (h : WE H0 ta σ s fun x s1 => WE H0 tb σ s1 fun y s2 => W2 H0 r x y s2 Q) : WE H0 (tOp r ta tb) σ s Q := fun H o R k =>
  h H o _ fun x H1 s1 o1 h1 => h1 H1 o1 _ fun y H2 s2 o2 h2 => h2 H2 o2 R k
theorem we_un {r : V → Hp → VK → Prop} (h : WE H0 ta σ s fun x s1 => W1 H0 r x s1 Q) : WE H0 (tUn r ta) σ s Q := fun H o R k =>
  h H o _ fun x H1 s1 o1 h1 => h1 H1 o1 R k
theorem we_if {c : TT} (h : WT H0 c σ s fun b s1 => (b = true → WE H0 ta σ s1 Q) ∧ (b = false → WE H0 tb σ s1 Q)) : WE H0 (tIf c ta tb) σ s Q := fun H o R k =>
  h H o _ fun b H1 s1 o1 h1 => by
    cases b with
    | true => exact h1.1 rfl H1 o1 R k
    | false => exact h1.2 rfl H1 o1 R k
theorem we_and (h : WE H0 ta σ s fun x s1 => ∃ c, x = .bl c ∧ (c = true → WE H0 tb σ s1 Q) ∧ (c = false → Q (.bl false) s1)) : WE H0 (tAndV ta tb) σ s Q := fun H o R k =>
  h H o _ fun x H1 s1 o1 ⟨c, e, h1, h2⟩ => ⟨c, e, by
    cases c with
    | true => exact h1 rfl H1 o1 R k
    | false => exact k _ H1 s1 o1 (h2 rfl)⟩
theorem we_or (h : WE H0 ta σ s fun x s1 => ∃ c, x = .bl c ∧ (c = true → Q (.bl true) s1) ∧ (c = false → WE H0 tb σ s1 Q)) : WE H0 (tOrV ta tb) σ s Q := fun H o R k =>
  h H o _ fun x H1 s1 o1 ⟨c, e, h2, h1⟩ => ⟨c, e, by
    cases c with
    | true => exact k _ H1 s1 o1 (h2 rfl)
    | false => exact h1 rfl H1 o1 R k⟩
theorem we_or_val {b1 b2 : Bool} (ha : ∀ Q : V → Ld → Prop, Q (.bl b1) s → WE H0 ta σ s Q) (hb : ∀ Q : V → Ld → Prop, Q (.bl b2) s → WE H0 tb σ s Q) (q : Q (.bl (b1 || b2)) s) : WE H0 (tOrV ta tb) σ s Q :=
  we_or (ha _ ⟨b1, rfl, by
    cases b1
    · exact ⟨(fun h => nomatch h), fun _ => hb _ q⟩
    · exact ⟨fun _ => q, (fun h => nomatch h)⟩⟩)
theorem we_not (h : WE H0 ta σ s fun x s1 => ∃ c, x = .bl c ∧ Q (.bl (!c)) s1) : WE H0 (tNotV ta) σ s Q := fun H o R k =>
  h H o _ fun x H1 s1 o1 ⟨c, e, h1⟩ => ⟨c, e, k _ H1 s1 o1 h1⟩
theorem wa_nil {Q : List V → Ld → Prop} (q : Q [] s) : WA H0 tNil σ s Q := fun H o R k => k [] H s o q
theorem wa_cons {Q : List V → Ld → Prop} (h : WE H0 ta σ s fun x s1 => WA H0 tr σ s1 fun xs s2 => Q (x :: xs) s2) : WA H0 (tCons ta tr) σ s Q := fun H o R k =>
  h H o _ fun x H1 s1 o1 h1 => h1 H1 o1 _ fun xs H2 s2 o2 h2 => k _ H2 s2 o2 h2
theorem we_lst {ta : TA} (h : WA H0 ta σ s fun xs s1 => xs.length ≤ 100000 ∧ ∀ p, H0 p = none → Q (.ref p) ⟨(p, .lst xs) :: s1.L, s1.T⟩) : WE H0 (tLst ta) σ s Q := fun H o R k =>
  h H o _ fun xs H1 s1 o1 ⟨hl, h1⟩ => ⟨sz_of hl, fun p hp => k _ _ _ (o1.new hp) (h1 p (fresh_back o1.ex hp))⟩
theorem we_tup {ta : TA} (h : WA H0 ta σ s fun xs s1 => xs.length ≤ 100000 ∧ ∀ p, H0 p = none → Q (.ref p) ⟨s1.L, (p, xs) :: s1.T⟩) : WE H0 (tTup ta) σ s Q := fun H o R k =>
  h H o _ fun xs H1 s1 o1 ⟨hl, h1⟩ => ⟨sz_of hl, fun p hp => k _ _ _ (o1.newT hp) (h1 p (fresh_back o1.ex hp))⟩
theorem we_cb {r : List V → Hp → VK → Prop} {ta : TA} (h : WA H0 ta σ s fun xs s1 => WL H0 r xs s1 Q) : WE H0 (tCB r ta) σ s Q := fun H o R k =>
  h H o _ fun xs H1 s1 o1 h1 => h1 H1 o1 R k
theorem we_sl {r : V → Option Int → Option Int → Hp → VK → Prop} {tl th : TO} (h : WE H0 te σ s fun x s1 => WO H0 tl σ s1 fun l s2 => WO H0 th σ s2 fun u s3 => WSl H0 r x l u s3 Q) : WE H0 (tSl r te tl th) σ s Q := fun H o R k =>
  h H o _ fun x H1 s1 o1 h1 => h1 H1 o1 _ fun l H2 s2 o2 h2 => h2 H2 o2 _ fun u H3 s3 o3 h3 => h3 H3 o3 R k
theorem wo_none {Q : Option Int → Ld → Prop} (q : Q none s) : WO H0 tNoPart σ s Q := fun H o R k => k none H s o q
theorem wo_some {Q : Option Int → Ld → Prop} (h : WE H0 te σ s fun x s1 => ∃ i, x = .int i ∧ Q (some i) s1) : WO H0 (tPart te) σ s Q := fun H o R k =>
  h H o _ fun x H1 s1 o1 ⟨i, e, h1⟩ => ⟨i, e, k _ H1 s1 o1 h1⟩
/-! ### tests -/
theorem wt_test {Q : Bool → Ld → Prop} (h : WE H0 te σ s fun x s1 => ∃ b, x = .bl b ∧ Q b s1) : WT H0 (tTest te) σ s Q := fun H o R k =>
  h H o _ fun x H1 s1 o1 ⟨b, e, h1⟩ => ⟨b, e, k _ H1 s1 o1 h1⟩
theorem wt_B {Q : Bool → Ld → Prop} (h : WE H0 te σ s fun x s1 => ∃ b, x = .bl b ∧ Q b s1) : WT H0 (tB te) σ s Q := fun H o R k =>
  h H o _ fun x H1 s1 o1 ⟨b, e, h1⟩ => ⟨b, e, k _ H1 s1 o1 h1⟩
theorem wt_and {Q : Bool → Ld → Prop} (h : WT H0 t σ s fun b s1 => (b = true → WT H0 u σ s1 Q) ∧ (b = false → Q false s1)) : WT H0 (tAnd t u) σ s Q := fun H o R k =>
  h H o _ fun b H1 s1 o1 h1 => by
    cases b with
    | true => exact h1.1 rfl H1 o1 R k
    | false => exact k _ H1 s1 o1 (h1.2 rfl)
theorem wt_or {Q : Bool → Ld → Prop} (h : WT H0 t σ s fun b s1 => (b = true → Q true s1) ∧ (b = false → WT H0 u σ s1 Q)) : WT H0 (tOr t u) σ s Q := fun H o R k =>
  h H o _ fun b H1 s1 o1 h1 => by
    cases b with
    | true => exact k _ H1 s1 o1 (h1.1 rfl)
    | false => exact h1.2 rfl H1 o1 R k
theorem wt_not {Q : Bool → Ld → Prop} (h : WT H0 t σ s fun b s1 => Q (!b) s1) : WT H0 (tNot t) σ s Q := fun H o R k =>
  h H o _ fun b H1 s1 o1 h1 => k _ H1 s1 o1 h1
theorem we_chain {r r' : R2} {tc : TE} (h : WE H0 ta σ s fun x s1 => WE H0 tb σ s1 fun y s2 => W2 H0 r x y s2 fun z s3 => ∃ c, z = .bl c ∧ (c = true → WE H0 tc σ s3 fun w s4 => W2 H0 r' y w s4 Q) ∧ (c = false → Q (.bl false) s3)) : WE H0 (tChain r r' ta tb tc) σ s Q := fun H o R k =>
  h H o _ fun x H1 s1 o1 h1 => h1 H1 o1 _ fun y H2 s2 o2 h2 => h2 H2 o2 _ fun z H3 s3 o3 ⟨c, e, h3, h4⟩ => ⟨c, e, by
    cases c with
    | true => exact h3 rfl H3 o3 _ fun w H4 s4 o4 h5 => h5 H4 o4 R k
    | false => exact k _ H3 s3 o3 (h4 rfl)⟩
/-! ### statements -/
theorem ws_seq (h : WS H0 t1 σ s { D with nx := fun σ' s' => WS H0 t2 σ' s' D }) : WS H0 (tSeq t1 t2) σ s D := fun H o E l =>
  h H o _ ⟨fun σ' H' s' o' h' => h' H' o' E l, l.rt, l.bk, l.ct⟩
theorem ws_next (q : D.nx σ s) : WS H0 tNext σ s D := fun H o E l => l.nx σ H s o q
theorem ws_brk (q : D.bk σ s) : WS H0 tBreak σ s D := fun H o E l => l.bk σ H s o q
theorem ws_cont (q : D.ct σ s) : WS H0 tCont σ s D := fun H o E l => l.ct σ H s o q
theorem ws_drop (h : WE H0 te σ s fun _ s1 => D.nx σ s1) : WS H0 (tDrop te) σ s D := fun H o E l => h H o _ fun v H1 s1 o1 h1 => l.nx σ H1 s1 o1 h1
theorem ws_ret (h : WE H0 te σ s D.rt) : WS H0 (tRet te) σ s D := fun H o E l => h H o _ fun v H1 s1 o1 h1 => l.rt v H1 s1 o1 h1
theorem ws_if {c : TT} (h : WT H0 c σ s fun b s1 => (b = true → WS H0 t1 σ s1 D) ∧ (b = false → WS H0 t2 σ s1 D)) : WS H0 (tIfS c t1 t2) σ s D := fun H o E l =>
  h H o _ fun b H1 s1 o1 h1 => by
    cases b with
    | true => exact h1.1 rfl H1 o1 E l
    | false => exact h1.2 rfl H1 o1 E l
theorem ws_asg (h : WE H0 te σ s fun x s1 => WG H0 g x σ s1 D.nx) : WS H0 (tAsg te g) σ s D := fun H o E l =>
  h H o _ fun x H1 s1 o1 h1 => h1 H1 o1 _ fun σ' H' s' o' q => l.nx σ' H' s' o' q
theorem ws_set {i : Nat} (h : WE H0 te σ s fun x s1 => D.nx (σ.set i (some x)) s1) : WS H0 (tAsg te (gName i)) σ s D := fun H o E l =>
  h H o _ fun x H1 s1 o1 h1 => l.nx _ H1 s1 o1 h1
theorem ws_par {i j : Nat} {ta : TA} (h : WA H0 ta σ s fun vs s1 => ∃ v w, vs = [v, w] ∧ D.nx ((σ.set i (some v)).set j (some w)) s1) : WS H0 (tPar i j ta) σ s D := fun H o E l =>
  h H o _ fun vs H1 s1 o1 ⟨v, w, e, h1⟩ => ⟨v, w, e, l.nx _ H1 s1 o1 h1⟩
theorem wg_name {i : Nat} {Q : L2.St → Ld → Prop} (q : Q (σ.set i (some v)) s) : WG H0 (gName i) v σ s Q := fun H o R k => k _ H s o q
theorem wg_tup {n : Nat} {g : TGs} {a : Addr} {xs : List V} {Q : L2.St → Ld → Prop} (ht : IsT K H0 s a xs) (hn : xs.length = n) (h : WGs H0 g xs σ s Q) : WG H0 (gTup K n g) (.ref a) σ s Q := fun H o R k =>
  ⟨a, xs, rfl, ht H o, hn, h H o R k⟩
theorem wgs_nil {Q : L2.St → Ld → Prop} (q : Q σ s) : WGs H0 gNil [] σ s Q := fun H o R k => ⟨rfl, k _ H s o q⟩
theorem wgs_cons {g : TG} {gs : TGs} {vs : List V} {Q : L2.St → Ld → Prop} (h : WG H0 g v σ s fun σ1 s1 => WGs H0 gs vs σ1 s1 Q) : WGs H0 (gCons g gs) (v :: vs) σ s Q := fun H o R k =>
  ⟨v, vs, rfl, h H o _ fun σ1 H1 s1 o1 h1 => h1 H1 o1 R k⟩
theorem wg_sub {to ti : TE} {ts : TSet} {Q : L2.St → Ld → Prop} (h : WE H0 to σ s fun o s1 => WE H0 ti σ s1 fun i s2 => WSet H0 ts o i v s2 fun s3 => Q σ s3) : WG H0 (gSub to ti ts) v σ s Q := fun H o R k =>
  h H o _ fun x H1 s1 o1 h1 => h1 H1 o1 _ fun y H2 s2 o2 h2 => h2 H2 o2 _ fun H3 s3 o3 q => k _ H3 s3 o3 q
theorem spl_t {c : Bool} {A B : Prop} (hc : c = true) (h : A) : (c = true → A) ∧ (c = false → B) := ⟨fun _ => h, fun e => absurd (hc.symm.trans e) (by decide)⟩
theorem spl_f {c : Bool} {A B : Prop} (hc : c = false) (h : B) : (c = true → A) ∧ (c = false → B) := ⟨fun e => absurd (hc.symm.trans e) (by decide), fun _ => h⟩
/-! ### loops -/
theorem ws_weak {s0 : Ld} (hs : Sub s0 s) (h : WS H0 t1 σ s0 D) : WS H0 t1 σ s D := fun H o E l => h H (o.sub hs) E l
theorem ws_cut (M : L2.St → Ld → Prop) (h : WS H0 t1 σ s { D with nx := fun σ' s' => ∃ s0, Sub s0 s' ∧ M σ' s0 }) (k : ∀ σ' s', M σ' s' → WS H0 t2 σ' s' D) : WS H0 (tSeq t1 t2) σ s D := fun H o E l =>
  h H o _ ⟨(fun σ' H' s' o' ⟨s0, hs0, q⟩ => k σ' s0 q H' (o'.sub hs0) E l), l.rt, l.bk, l.ct⟩
theorem ws_while {c : TT} (I : Nat → L2.St → Ld → Prop) (m0 : Nat) (h0 : I m0 σ s)
    (hs : ∀ m σ s, I m σ s → WT H0 c σ s fun b s1 => (b = true → WS H0 t1 σ s1 { D with nx := fun σ' s' => ∃ s0, Sub s0 s' ∧ ∃ m', m' < m ∧ I m' σ' s0, ct := fun σ' s' => ∃ s0, Sub s0 s' ∧ ∃ m', m' < m ∧ I m' σ' s0, bk := D.nx }) ∧ (b = false → D.nx σ s1)) : WS H0 (tWhile c t1) σ s D := fun H o E l => by
  refine ⟨fun m σ H => ∃ s, Own H0 H s ∧ I m σ s, ⟨m0, s, o, h0⟩, ?_⟩
  rintro m σ H ⟨s, o, i⟩
  refine hs m σ s i H o _ fun b H1 s1 o1 h1 => ?_
  cases b with
  | true =>
    rw [if_pos rfl]
    refine ⟨fun σ' H' => ∃ m', m' < m ∧ ∃ s, Own H0 H' s ∧ I m' σ' s, fun σ' H' q => q, ?_⟩
    refine h1.1 rfl H1 o1 _ ⟨?_, l.rt, fun σ' H' s' o' q => l.nx σ' H' s' o' q, ?_⟩
    · rintro σ' H' s' o' ⟨s0, hs0, m', lt, q⟩
      exact ⟨m', lt, s0, o'.sub hs0, q⟩
    · rintro σ' H' s' o' ⟨s0, hs0, m', lt, q⟩
      exact ⟨m', lt, s0, o'.sub hs0, q⟩
  | false =>
    rw [if_neg Bool.false_ne_true]
    exact l.nx σ H1 s1 o1 (h1.2 rfl)
/-- a loop's turn: what follows the body -/
def turnD (D : Dl) (J : L2.St → Ld → Prop) : Dl := { nx := fun σ' s' => ∃ s0, Sub s0 s' ∧ J σ' s0, ct := fun σ' s' => ∃ s0, Sub s0 s' ∧ J σ' s0, bk := D.nx, rt := D.rt }
def LoopOk (H0 : Hp) (J : It) (g : TG) (tb : TS) (σ : L2.St) (s : Ld) (D : Dl) : Prop := ∃ n G Y, Walk J n G Y ∧ ∃ I : Nat → L2.St → Ld → Prop, I 0 σ s ∧ (∀ i σ s H, i ≤ n → I i σ s → Own H0 H s → G H) ∧
    (∀ i x σ s H H', i < n → I i σ s → Own H0 H s → Y i H x H' → ∃ s', Own H0 H' s' ∧ WG H0 g x σ s' fun σ2 s2 => WS H0 tb σ2 s2 (turnD D (I (i + 1)))) ∧ (∀ σ s, I n σ s → D.nx σ s)
theorem ws_for {wi : TI} {tb : TS} (h : WI H0 wi σ s fun J s1 => LoopOk H0 J g tb σ s1 D) : WS H0 (tFor wi g tb) σ s D := fun H o E l => by
  refine h H o _ ?_
  rintro J H1 s1 o1 ⟨n, G, Y, w, I, h0, hG, hs, hd⟩
  refine for_it w (fun i σ H => ∃ s, Own H0 H s ∧ I i σ s) ⟨s1, o1, h0⟩ ?_ ?_ ?_
  · rintro i σ H hi ⟨s, o, q⟩
    exact hG i σ s H hi q o
  · rintro i x σ H H' hi ⟨s, o, q⟩ y
    obtain ⟨s', o', q'⟩ := hs i x σ s H H' hi q o y
    refine q' H' o' _ fun σ2 H2 s2 o2 h2 => ?_
    refine h2 H2 o2 _ ⟨fun σ' H' s' o' ⟨s0, hs0, q⟩ => ⟨s0, o'.sub hs0, q⟩, l.rt, fun σ' H' s' o' q => l.nx σ' H' s' o' q, fun σ' H' s' o' ⟨s0, hs0, q⟩ => ⟨s0, o'.sub hs0, q⟩⟩
  · rintro σ H ⟨s, o, q⟩
    exact l.nx σ H s o (hd σ s q)
def CompOk (H0 : Hp) (J : It) (g : TG) (tt : TT) (te : TE) (σ : L2.St) (vs : List Nat) (s1 : Ld) (Q : V → Ld → Prop) : Prop := ∃ n G Y, Walk J n G Y ∧ ∀ D, H0 D = none → ∃ I : Nat → Ld → Prop, I 0 ⟨(D, .lst []) :: s1.L, s1.T⟩ ∧ (∀ i s H, i ≤ n → I i s → Own H0 H s → G H) ∧
    (∀ i x s H H', i < n → I i s → Own H0 H s → Y i H x H' → ∃ s', Own H0 H' s' ∧ WG H0 g x (wipe σ vs) s' fun σ2 s2 => wipe σ2 vs = wipe σ vs ∧ WT H0 tt σ2 s2 fun b s3 =>
      (b = true → WE H0 te σ2 s3 fun y s4 => ∃ acc L' s0, Swap D (.lst acc) (.lst (acc ++ [y])) s4.L L' ∧ acc.length < 100000 ∧ Sub s0 ⟨L', s4.T⟩ ∧ I (i + 1) s0) ∧ (b = false → ∃ s0, Sub s0 s3 ∧ I (i + 1) s0)) ∧ (∀ s, I n s → Q (.ref D) s)
theorem we_lc {wi : TI} {tt : TT} {vs : List Nat} (h : WI H0 wi σ s fun J s1 => CompOk H0 J g tt te σ vs s1 Q) : WE H0 (tLc wi g tt te vs) σ s Q := fun H o R k => by
  refine h H o _ ?_
  rintro J H1 s1 o1 ⟨n, G, Y, w, h1⟩ D hD
  obtain ⟨I, h0, hG, hs, hd⟩ := h1 D (fresh_back o1.ex hD)
  refine lc_it w (fun i H => ∃ s, Own H0 H s ∧ I i s) ⟨_, o1.new hD, h0⟩ ?_ ?_ ?_
  · rintro i H hi ⟨s, o, q⟩
    exact hG i s H hi q o
  · rintro i x H H' hi ⟨s, o, q⟩ y
    obtain ⟨s', o', q'⟩ := hs i x s H H' hi q o y
    refine q' H' o' _ fun σ2 H2 s2 o2 h2 => ⟨h2.1, h2.2 H2 o2 _ fun b H3 s3 o3 h3 => ?_⟩
    cases b with
    | true =>
      rw [if_pos rfl]
      refine h3.1 rfl H3 o3 _ ?_
      rintro y H4 s4 o4 ⟨acc, L', s0, sw, hl, hs0, q⟩
      exact ⟨acc, (o4.own _ sw.mem).2, sz_lt hl, s0, (o4.swap sw trivial).sub hs0, q⟩
    | false =>
      rw [if_neg Bool.false_ne_true]
      obtain ⟨s0, hs0, q⟩ := h3.2 rfl
      exact ⟨s0, o3.sub hs0, q⟩
  · rintro H ⟨s, o, q⟩
    exact k _ H s o (hd s q)
end
end BM
namespace BM
open PySem L2 Evl
/-! ### rows as lists of truths -/
def B (b : Bool) : Nat := if b then 40 else 41
def T (r : List Bool) : Str := ⟨(r.map B).toArray⟩
theorem T_len (r : List Bool) : (T r).length = r.length := by
  show (r.map B).toArray.size = _
  simp
theorem T_list (r : List Bool) : (T r).cps.toList = r.map B := by
  show (r.map B).toArray.toList = _
  simp
theorem B_inj {a b : Bool} (h : B a = B b) : a = b := by
  cases a <;> cases b <;> first | rfl | (exact absurd h (by decide))
theorem T_inj {r u : List Bool} (h : T r = T u) : r = u := by
  have h1 : (T r).cps.toList = (T u).cps.toList := by rw [h]
  rw [T_list, T_list] at h1
  induction r generalizing u with
  | nil =>
    cases u with
    | nil => rfl
    | cons b u => simp at h1
  | cons a r ih =>
    cases u with
    | nil => simp at h1
    | cons b u =>
      simp only [List.map_cons, List.cons.injEq] at h1
      rw [B_inj h1.1]
      have h2 : T r = T u := by
        unfold T
        rw [h1.2]
      rw [ih h2 h1.2]
theorem T_eq {r u : List Bool} : (T r = T u) ↔ r = u := ⟨T_inj, fun h => by rw [h]⟩
theorem tV_eq {r u : List Bool} : (V.str (T r) = V.str (T u)) ↔ r = u := ⟨fun h => T_inj (V.str.inj h), fun h => by rw [h]⟩
theorem T_app (r u : List Bool) : T r ++ T u = T (r ++ u) := by
  apply TL.ext_tl
  rw [TL.tl_append]
  show (T r).cps.toList ++ (T u).cps.toList = (T (r ++ u)).cps.toList
  rw [T_list, T_list, T_list, List.map_append]
/-! ### constants -/
section
variable {X : Cx}
theorem pe_strT (r : List Bool) {x : Str} {j pos} (h : x = T r := by rfl) : PE X (.Constant (.str x) j pos) (tC (.str (T r))) := by
  rw [← h]
  exact pe_str
end
/-! ### operators: named readings -/
def aAdd : R2 := rI0 fun i j => .int (i + j)
def aSub : R2 := rI0 fun i j => .int (i - j)
def aMul : R2 := rI CMul fun i j => .int (i * j)
def aDiv : R2 := rI CDiv fun i j => .int (i / j)
def aMod : R2 := rI (fun _ j => 0 < j) fun i j => .int (i % j)
def aPow : R2 := rI CPow fun i j => .int (i ^ j.toNat)
def aLt : R2 := rI0 fun i j => .bl (decide (i < j))
def aLe : R2 := rI0 fun i j => .bl (decide (i ≤ j))
def aGt : R2 := rI0 fun i j => .bl (decide (j < i))
def aGe : R2 := rI0 fun i j => .bl (decide (j ≤ i))
def aCatT : R2 := fun x y H Q => ∃ r u : List Bool, x = .str (T r) ∧ y = .str (T u) ∧ r.length + u.length ≤ 100000 ∧ Q (.str (T (r ++ u))) H
def aIxT : R2 := fun x y H Q => ∃ (r : List Bool) (i : Int) (b : Bool), x = .str (T r) ∧ y = .int i ∧ r.length ≤ 100000 ∧ atI r i = some b ∧ Q (.str (T [b])) H
def aInT : R2 := fun x y H Q => ∃ (b : Bool) (r : List Bool), x = .str (T [b]) ∧ y = .str (T r) ∧ Q (.bl (decide (b ∈ r))) H
def aIsN : R2 := fun x y H Q => y = .non ∧ Q (.bl (decide (x = .non))) H
def aNotN : R2 := fun x y H Q => y = .non ∧ Q (.bl (!decide (x = .non))) H
def aIsB : R2 := fun x y H Q => ∃ a b : Bool, x = .bl a ∧ y = .bl b ∧ Q (.bl (decide (a = b))) H
def aNeg : V → Hp → VK → Prop := rU fun i => .int (-i)
def aLenL (K : PySem.W.Frag) : List V → Hp → VK → Prop := fun xs H Q => ∃ p ys, xs = [.ref p] ∧ (SqL K H p ys ∨ SqT K H p ys) ∧ Q (.int ys.length) H
def aLenT : List V → Hp → VK → Prop := fun xs H Q => ∃ r : List Bool, xs = [.str (T r)] ∧ r.length ≤ 100000 ∧ Q (.int r.length) H
def aAbs : List V → Hp → VK → Prop := fun xs H Q => ∃ i, xs = [.int i] ∧ Q (.int (if i < 0 then -i else i)) H
def aMax2 : List V → Hp → VK → Prop := fun xs H Q => ∃ i j, xs = [.int i, .int j] ∧ Q (.int (if j > i then j else i)) H
def aMin2 : List V → Hp → VK → Prop := fun xs H Q => ∃ i j, xs = [.int i, .int j] ∧ Q (.int (if j < i then j else i)) H
def aIntB : List V → Hp → VK → Prop := fun xs H Q => ∃ k : Bool, xs = [.bl k] ∧ Q (.int (if k then 1 else 0)) H
def aListOf (K : PySem.W.Frag) : List V → Hp → VK → Prop := fun xs H Q => ∃ p ys, xs = [.ref p] ∧ (SqL K H p ys ∨ SqT K H p ys) ∧ ∀ l, H l = none → Q (.ref l) (upd H l (.lst ys))
def aAll (K : PySem.W.Frag) : List V → Hp → VK → Prop := fun vs H Q => ∃ (a : Addr) (bs : List Bool), vs = [V.ref a] ∧ SqL K H a (bs.map V.bl) ∧ Q (.bl (bs.all id)) H
def aAny (K : PySem.W.Frag) : List V → Hp → VK → Prop := fun vs H Q => ∃ (a : Addr) (bs : List Bool), vs = [V.ref a] ∧ SqL K H a (bs.map V.bl) ∧ Q (.bl (bs.any id)) H
def aJoin (K : PySem.W.Frag) : V → List V → Hp → VK → Prop := fun x xs H Q => ∃ (p : Addr) (rs : List (List Bool)), x = .str (T []) ∧ xs = [.ref p] ∧ SqL K H p (rs.map fun r => .str (T r)) ∧ (rs.map (·.length)).sum ≤ 100000 ∧ Q (.str (T rs.flatten)) H
def cutL {α : Type} (xs : List α) (lo hi : Option Int) : List α := (xs.drop (HT.sIx xs.length 0 lo)).take (HT.sIx xs.length xs.length hi - HT.sIx xs.length 0 lo)
def aSlT : V → Option Int → Option Int → Hp → VK → Prop := fun x lo hi H Q => ∃ r : List Bool, x = .str (T r) ∧ r.length ≤ 100000 ∧ Q (.str (T (cutL r lo hi))) H
def aIsi (K : PySem.W.Frag) (u : String) : List V → Hp → VK → Prop := fun xs H Q => ∃ (x c : V) (t : Value) (b : Bool), xs = [x, c] ∧ c = .ty u ∧ TyX K H x t ∧ PySem.W.kitOne K t (.type u) = some b ∧ Q (.bl b) H
section
variable {X : Cx}
theorem o_add : OpR X (binaryOp .Add) aAdd := op_add
theorem o_sub : OpR X (binaryOp .Sub) aSub := op_sub
theorem o_mul : OpR X (binaryOp .Mult) aMul := op_mul
theorem o_div : OpR X (binaryOp .FloorDiv) aDiv := op_fdiv
theorem o_mod : OpR X (binaryOp .Mod) aMod := op_mod
theorem o_pow : OpR X (binaryOp .Pow) aPow := op_pow
theorem o_lt : OpR X (compareOp .Lt) aLt := op_lt
theorem o_le : OpR X (compareOp .LtE) aLe := op_le
theorem o_gt : OpR X (compareOp .Gt) aGt := op_gt
theorem o_ge : OpR X (compareOp .GtE) aGe := op_ge
theorem o_isN : OpR X (compareOp .Is) aIsN := op_isN
theorem o_neg : UnR X (unaryOp .USub) aNeg := un_neg
theorem OpR.imp {f : Value → Value → Sem Value} {r r' : R2} (h : OpR X f r) (i : ∀ x y H Q, r' x y H Q → r x y H Q) : OpR X f r' := fun pins s σ H x y v u Q I rx ry q => h pins s σ H x y v u Q I rx ry (i x y H Q q)
theorem IxR.imp {r r' : R2} (h : IxR X r) (i : ∀ x y H Q, r' x y H Q → r x y H Q) : IxR X r' := fun a b pins s σ H x y v u Q I rx ry q => h a b pins s σ H x y v u Q I rx ry (i x y H Q q)
theorem CallR.imp {f : Value} {r r' : List V → Hp → VK → Prop} (h : CallR X f r) (i : ∀ x H Q, r' x H Q → r x H Q) : CallR X f r' := fun pins s σ H xs us Q I rx q => h pins s σ H xs us Q I rx (i xs H Q q)
theorem MtR.imp {id : String} {r r' : V → List V → Hp → VK → Prop} (h : MtR X id r) (i : ∀ x y H Q, r' x y H Q → r x y H Q) : MtR X id r' := fun pins s σ H x xs v us Q I rx ry q => h pins s σ H x xs v us Q I rx ry (i x xs H Q q)
theorem SlR.imp {r r' : V → Option Int → Option Int → Hp → VK → Prop} (h : SlR X r) (i : ∀ x lo hi H Q, r' x lo hi H Q → r x lo hi H Q) : SlR X r' := fun pins s σ H x v vl vu lo hi sl Q I rx hs pl pu q => h pins s σ H x v vl vu lo hi sl Q I rx hs pl pu (i x lo hi H Q q)
theorem o_catT : OpR X (binaryOp .Add) aCatT := OpR.imp op_add_str fun x y H Q ⟨r, u, e1, e2, hl, q⟩ => ⟨T r, T u, e1, e2, by rw [T_len, T_len]; exact sz_of hl, by rw [T_app]; exact q⟩
theorem x_T : IxR X aIxT := IxR.imp ix_str fun x y H Q ⟨r, i, b, e1, e2, hl, ha, q⟩ => ⟨T r, i, B b, e1, e2, by rw [T_len]; exact sz_of hl, by
  rw [T_list]
  unfold atI at ha ⊢
  rw [List.length_map]
  cases h : ixN r.length i with
  | none => rw [h] at ha; cases ha
  | some j =>
    rw [h] at ha
    show (r.map B)[j]? = _
    have ha' : r[j]? = some b := ha
    rw [List.getElem?_map, ha'] <;> rfl, q⟩
theorem o_inT : OpR X (compareOp .In) aInT := OpR.imp op_in_sign fun x y H Q ⟨b, r, e1, e2, q⟩ => ⟨B b, T r, e1, e2, by
  have e : decide (B b ∈ (T r).cps.toList) = decide (b ∈ r) := by
    rw [T_list]
    apply decide_eq_decide.mpr
    rw [List.mem_map]
    exact ⟨fun ⟨a, h, e⟩ => B_inj e ▸ h, fun h => ⟨b, h, rfl⟩⟩
  rw [e]
  exact q⟩
theorem c_len : CallR X (.builtin "len") (aLenL X.K) := call_len_seq
theorem c_lenT : CallR X (.builtin "len") aLenT := CallR.imp call_len_str fun xs H Q ⟨r, e, hl, q⟩ => ⟨T r, e, by rw [T_len]; exact sz_of hl, by rw [T_len]; exact q⟩
theorem c_abs : CallR X (.builtin "abs") aAbs := call_abs
theorem c_max2 (hc : X.calm = true) : CallR X (.builtin "max") aMax2 := call_max2 hc
theorem c_intB : CallR X (.type "int") aIntB := CallR.imp call_int1 fun xs H Q q => Or.inr q
theorem c_listOf : CallR X (.type "list") (aListOf X.K) := call_list_of
theorem c_all (hc : X.calm = true) : CallR X (.builtin "all") (aAll X.K) := cr_all hc
theorem c_any (hc : X.calm = true) : CallR X (.builtin "any") (aAny X.K) := cr_any hc
theorem T_join : ∀ rs : List (List Bool), Txt.join (T []) (rs.map T) = T rs.flatten := by
  intro rs
  rw [TL.join_eq]
  apply TL.ext_tl
  rw [TL.tl_join]
  show TL.joinL (T []).cps.toList ((rs.map T).map fun x => x.cps.toList) = (T rs.flatten).cps.toList
  rw [T_list, T_list]
  have e : ((rs.map T).map fun x => x.cps.toList) = rs.map fun r => r.map B := by
    rw [List.map_map]
    apply List.map_congr_left
    intro r _
    exact T_list r
  rw [e]
  clear e
  induction rs with
  | nil => rfl
  | cons r rs ih =>
    cases rs with
    | nil => simp [TL.joinL]
    | cons u rs =>
      rw [List.flatten_cons, List.map_append, ← ih]
      rfl
theorem m_join : MtR X "str.join" (aJoin X.K) := MtR.imp mt_join fun x xs H Q ⟨p, rs, e1, e2, h, hl, q⟩ => ⟨T [], p, rs.map T, e1, e2, Or.inl (by rw [List.map_map]; exact h), by
  rw [T_len, List.map_map]
  have e : (rs.map ((fun x => x.length) ∘ T)) = rs.map (·.length) := by
    apply List.map_congr_left
    intro r _
    exact T_len r
  rw [e]
  simp only [List.length_nil, Nat.mul_zero, Nat.add_zero]
  exact Nat.le_trans hl (by decide), by rw [T_join]; exact q⟩
theorem T_cut (r : List Bool) (lo hi : Option Int) : cutS (T r) lo hi = T (cutL r lo hi) := by
  unfold cutS cutL
  rw [T_list, T_len, ← List.map_drop, ← List.map_take]
  rfl
theorem s_T : SlR X aSlT := SlR.imp sl_str fun x lo hi H Q ⟨r, e, hl, q⟩ => ⟨T r, e, by rw [T_len]; exact sz_of hl, by rw [T_cut]; exact q⟩
theorem c_isi (u : String) : CallR X (.builtin "isinstance") (aIsi X.K u) := CallR.imp call_isi fun xs H Q ⟨x, c, t, b, e, ec, ty, k, q⟩ => ⟨x, c, t, .type u, b, e, by rw [ec]; exact .ty u, ty, k, q⟩
end
end BM
namespace BM
open PySem L2 Evl
section
variable {K : PySem.W.Frag} {H0 : Hp} {σ : L2.St} {s : Ld} {ta tb te tl : TE} {t u : TT} {tr : TA} {x y z v : V} {r : R2} {Q : V → Ld → Prop} {D : Dl} {t1 t2 : TS} {g : TG} {i j : Int}
theorem w2_add (q : Q (.int (i + j)) s) : W2 H0 aAdd (.int i) (.int j) s Q := fun H o R k => ⟨i, j, rfl, rfl, k _ H s o q⟩
theorem w2_sub (q : Q (.int (i - j)) s) : W2 H0 aSub (.int i) (.int j) s Q := fun H o R k => ⟨i, j, rfl, rfl, k _ H s o q⟩
theorem w2_mul (h : CMul i j) (q : Q (.int (i * j)) s) : W2 H0 aMul (.int i) (.int j) s Q := fun H o R k => ⟨i, j, rfl, rfl, h, k _ H s o q⟩
theorem w2_div (h : 0 < j ∧ j < 1073741824) (q : Q (.int (i / j)) s) : W2 H0 aDiv (.int i) (.int j) s Q := fun H o R k => ⟨i, j, rfl, rfl, h, k _ H s o q⟩
theorem w2_mod (h : 0 < j) (q : Q (.int (i % j)) s) : W2 H0 aMod (.int i) (.int j) s Q := fun H o R k => ⟨i, j, rfl, rfl, h, k _ H s o q⟩
theorem w2_pow (h : CPow i j) (q : Q (.int (i ^ j.toNat)) s) : W2 H0 aPow (.int i) (.int j) s Q := fun H o R k => ⟨i, j, rfl, rfl, h, k _ H s o q⟩
theorem w2_lt (q : Q (.bl (decide (i < j))) s) : W2 H0 aLt (.int i) (.int j) s Q := fun H o R k => ⟨i, j, rfl, rfl, k _ H s o q⟩
theorem w2_le (q : Q (.bl (decide (i ≤ j))) s) : W2 H0 aLe (.int i) (.int j) s Q := fun H o R k => ⟨i, j, rfl, rfl, k _ H s o q⟩
theorem w2_gt (q : Q (.bl (decide (j < i))) s) : W2 H0 aGt (.int i) (.int j) s Q := fun H o R k => ⟨i, j, rfl, rfl, k _ H s o q⟩
theorem w2_ge (q : Q (.bl (decide (j ≤ i))) s) : W2 H0 aGe (.int i) (.int j) s Q := fun H o R k => ⟨i, j, rfl, rfl, k _ H s o q⟩
theorem w2_eqI (q : Q (.bl (decide (i = j))) s) : W2 H0 rEq (.int i) (.int j) s Q := fun H o R k => ⟨rfl, k _ H s o (by
  have e : decide (V.int i = V.int j) = decide (i = j) := decide_eq_decide.mpr ⟨fun h => V.int.inj h, fun h => by rw [h]⟩
  rw [e]; exact q)⟩
theorem w2_neI (q : Q (.bl (!decide (i = j))) s) : W2 H0 rNe (.int i) (.int j) s Q := fun H o R k => ⟨rfl, k _ H s o (by
  have e : decide (V.int i = V.int j) = decide (i = j) := decide_eq_decide.mpr ⟨fun h => V.int.inj h, fun h => by rw [h]⟩
  rw [e]; exact q)⟩
theorem w2_eqB {a b : Bool} (q : Q (.bl (decide (a = b))) s) : W2 H0 rEq (.bl a) (.bl b) s Q := fun H o R k => ⟨rfl, k _ H s o (by
  have e : decide (V.bl a = V.bl b) = decide (a = b) := decide_eq_decide.mpr ⟨fun h => V.bl.inj h, fun h => by rw [h]⟩
  rw [e]; exact q)⟩
theorem w2_neB {a b : Bool} (q : Q (.bl (!decide (a = b))) s) : W2 H0 rNe (.bl a) (.bl b) s Q := fun H o R k => ⟨rfl, k _ H s o (by
  have e : decide (V.bl a = V.bl b) = decide (a = b) := decide_eq_decide.mpr ⟨fun h => V.bl.inj h, fun h => by rw [h]⟩
  rw [e]; exact q)⟩
theorem w2_eqT {a b : List Bool} (q : Q (.bl (decide (a = b))) s) : W2 H0 rEq (.str (T a)) (.str (T b)) s Q := fun H o R k => ⟨rfl, k _ H s o (by
  have e : decide (V.str (T a) = V.str (T b)) = decide (a = b) := decide_eq_decide.mpr tV_eq
  rw [e]; exact q)⟩
theorem w2_neT {a b : List Bool} (q : Q (.bl (!decide (a = b))) s) : W2 H0 rNe (.str (T a)) (.str (T b)) s Q := fun H o R k => ⟨rfl, k _ H s o (by
  have e : decide (V.str (T a) = V.str (T b)) = decide (a = b) := decide_eq_decide.mpr tV_eq
  rw [e]; exact q)⟩
theorem w2_isN (q : Q (.bl (decide (x = .non))) s) : W2 H0 aIsN x .non s Q := fun H o R k => ⟨rfl, k _ H s o q⟩
theorem w2_notN (q : Q (.bl (!decide (x = .non))) s) : W2 H0 aNotN x .non s Q := fun H o R k => ⟨rfl, k _ H s o q⟩
theorem w2_isB {a b : Bool} (q : Q (.bl (decide (a = b))) s) : W2 H0 aIsB (.bl a) (.bl b) s Q := fun H o R k => ⟨a, b, rfl, rfl, k _ H s o q⟩
theorem w2_catT {a b : List Bool} (h : a.length + b.length ≤ 100000) (q : Q (.str (T (a ++ b))) s) : W2 H0 aCatT (.str (T a)) (.str (T b)) s Q := fun H o R k => ⟨a, b, rfl, rfl, h, k _ H s o q⟩
theorem w2_ixT {a : List Bool} {b : Bool} (hl : a.length ≤ 100000) (h : atI a i = some b) (q : Q (.str (T [b])) s) : W2 H0 aIxT (.str (T a)) (.int i) s Q := fun H o R k => ⟨a, i, b, rfl, rfl, hl, h, k _ H s o q⟩
theorem w2_inT {a : List Bool} {b : Bool} (q : Q (.bl (decide (b ∈ a))) s) : W2 H0 aInT (.str (T [b])) (.str (T a)) s Q := fun H o R k => ⟨b, a, rfl, rfl, k _ H s o q⟩
theorem w2_ixL {p : Addr} {xs : List V} (hx : IsL K H0 s p xs) (h : atI xs i = some v) (q : Q v s) : W2 H0 (rIxL K) (.ref p) (.int i) s Q := fun H o R k => ⟨p, xs, i, v, rfl, rfl, hx H o, h, k _ H s o q⟩
theorem w2_ixU {p : Addr} {xs : List V} (hx : IsT K H0 s p xs) (h : atI xs i = some v) (q : Q v s) : W2 H0 (rIxT K) (.ref p) (.int i) s Q := fun H o R k => ⟨p, xs, i, v, rfl, rfl, hx H o, h, k _ H s o q⟩
theorem w2_inL {p : Addr} {xs : List V} (hx : IsL K H0 s p xs) (h1 : flatV x = true) (h2 : xs.all flatV = true) (q : Q (.bl (inV x xs)) s) : W2 H0 (rIn K false) x (.ref p) s Q := fun H o R k => ⟨p, xs, rfl, Or.inl (hx H o), h1, h2, k _ H s o q⟩
theorem w1_neg (q : Q (.int (-i)) s) : W1 H0 aNeg (.int i) s Q := fun H o R k => ⟨i, rfl, k _ H s o q⟩
/-! calls of built-ins -/
theorem wl_len {p : Addr} {xs : List V} (hx : IsL K H0 s p xs) (q : Q (.int (xs.length : Int)) s) : WL H0 (aLenL K) [.ref p] s Q := fun H o R k => ⟨p, xs, rfl, Or.inl (hx H o), k _ H s o q⟩
theorem wl_lenU {p : Addr} {xs : List V} (hx : IsT K H0 s p xs) (q : Q (.int (xs.length : Int)) s) : WL H0 (aLenL K) [.ref p] s Q := fun H o R k => ⟨p, xs, rfl, Or.inr (hx H o), k _ H s o q⟩
theorem wl_lenT {a : List Bool} (hl : a.length ≤ 100000) (q : Q (.int (a.length : Int)) s) : WL H0 aLenT [.str (T a)] s Q := fun H o R k => ⟨a, rfl, hl, k _ H s o q⟩
theorem wl_abs (q : Q (.int (if i < 0 then -i else i)) s) : WL H0 aAbs [.int i] s Q := fun H o R k => ⟨i, rfl, k _ H s o q⟩
theorem wl_max2 (q : Q (.int (if j > i then j else i)) s) : WL H0 aMax2 [.int i, .int j] s Q := fun H o R k => ⟨i, j, rfl, k _ H s o q⟩
theorem wl_min2 (q : Q (.int (if j < i then j else i)) s) : WL H0 aMin2 [.int i, .int j] s Q := fun H o R k => ⟨i, j, rfl, k _ H s o q⟩
theorem wl_intB {b : Bool} (q : Q (.int (if b then 1 else 0)) s) : WL H0 aIntB [.bl b] s Q := fun H o R k => ⟨b, rfl, k _ H s o q⟩
theorem wl_listOf {p : Addr} {xs : List V} (hx : IsL K H0 s p xs) (q : ∀ l, H0 l = none → Q (.ref l) ⟨(l, .lst xs) :: s.L, s.T⟩) : WL H0 (aListOf K) [.ref p] s Q := fun H o R k => ⟨p, xs, rfl, Or.inl (hx H o), fun l hl => k _ _ _ (o.new hl) (q l (fresh_back o.ex hl))⟩
theorem wl_all {p : Addr} {bs : List Bool} (hx : IsL K H0 s p (bs.map V.bl)) (q : Q (.bl (bs.all id)) s) : WL H0 (aAll K) [.ref p] s Q := fun H o R k => ⟨p, bs, rfl, hx H o, k _ H s o q⟩
theorem wl_any {p : Addr} {bs : List Bool} (hx : IsL K H0 s p (bs.map V.bl)) (q : Q (.bl (bs.any id)) s) : WL H0 (aAny K) [.ref p] s Q := fun H o R k => ⟨p, bs, rfl, hx H o, k _ H s o q⟩
theorem wl_sum {p : Addr} {ns : List Int} (hx : IsL K H0 s p (ns.map V.int)) (q : Q (.int ns.sum) s) : WL H0 (rSum K) [.ref p] s Q := fun H o R k => ⟨p, ns, rfl, hx H o, k _ H s o q⟩
theorem wl_max {p : Addr} {ns : List Int} (hx : IsL K H0 s p (ns.map V.int)) (hn : 0 < ns.length) (q : ∀ m, m ∈ ns → (∀ y, y ∈ ns → y ≤ m) → Q (.int m) s) : WL H0 (rMax K) [.ref p] s Q := fun H o R k => ⟨p, ns, rfl, hx H o, hn, fun m h1 h2 => k _ H s o (q m h1 h2)⟩
theorem wl_min {p : Addr} {ns : List Int} (hx : IsL K H0 s p (ns.map V.int)) (hn : 0 < ns.length) (q : ∀ m, m ∈ ns → (∀ y, y ∈ ns → m ≤ y) → Q (.int m) s) : WL H0 (rMin K) [.ref p] s Q := fun H o R k => ⟨p, ns, rfl, hx H o, hn, fun m h1 h2 => k _ H s o (q m h1 h2)⟩
theorem wl_isi {c : String} {tv : Value} {b : Bool} (ty : ∀ H, Own H0 H s → TyX K H x tv) (hk : PySem.W.kitOne K tv (.type c) = some b) (q : Q (.bl b) s) : WL H0 (aIsi K c) [x, .ty c] s Q := fun H o R k => ⟨x, .ty c, tv, b, rfl, rfl, ty H o, hk, k _ H s o q⟩
/-! methods -/
theorem we_bm {T : String} {r : V → List V → Hp → VK → Prop} {to : TE} (h : WE H0 to σ s fun x s1 => (∀ H, Own H0 H s1 → tyV K T x H) ∧ WA H0 tr σ s1 fun xs s2 => WM H0 r x xs s2 Q) : WE H0 (tBM K T r to tr) σ s Q := fun H o R k =>
  h H o _ fun x H1 s1 o1 ⟨ty, h1⟩ => ⟨ty H1 o1, h1 H1 o1 _ fun xs H2 s2 o2 h2 => h2 H2 o2 R k⟩
theorem we_bm0 {T : String} {r : V → List V → Hp → VK → Prop} {to : TE} (h : WE H0 to σ s fun x s1 => (∀ H, Own H0 H s1 → tyV K T x H) ∧ WM H0 r x [] s1 Q) : WE H0 (tBM0 K T r to) σ s Q := fun H o R k =>
  h H o _ fun x H1 s1 o1 ⟨ty, h1⟩ => ⟨ty H1 o1, h1 H1 o1 R k⟩
theorem ty_L {p : Addr} {xs : List V} (hx : IsL K H0 s p xs) : ∀ H, Own H0 H s → tyV K "list" (.ref p) H := fun H o => Or.inl ⟨rfl, xs, hx H o⟩
theorem ty_S {a : Str} : ∀ H, Own H0 H s → tyV K "str" (.str a) H := fun H o => rfl
theorem wm_append {p : Addr} {xs : List V} {L' : List (Addr × HO)} (sw : Swap p (.lst xs) (.lst (xs ++ [v])) s.L L') (hl : xs.length < 100000) (q : Q .non ⟨L', s.T⟩) : WM H0 rAppend (.ref p) [v] s Q := fun H o R k =>
  ⟨p, xs, v, rfl, rfl, (o.own _ sw.mem).2, sz_lt hl, k _ _ _ (o.swap sw trivial) q⟩
theorem wm_join {p : Addr} {rs : List (List Bool)} (hx : IsL K H0 s p (rs.map fun r => .str (T r))) (hl : (rs.map (·.length)).sum ≤ 100000) (q : Q (.str (T rs.flatten)) s) : WM H0 (aJoin K) (.str (T [])) [.ref p] s Q := fun H o R k =>
  ⟨p, rs, rfl, rfl, hx H o, hl, k _ H s o q⟩
theorem wset_list {p : Addr} {xs : List V} {j : Nat} {L' : List (Addr × HO)} {Q : Ld → Prop} (hj : ixN xs.length i = some j) (sw : Swap p (.lst xs) (.lst (xs.set j v)) s.L L') (q : Q ⟨L', s.T⟩) : WSet H0 rSetL (.ref p) (.int i) v s Q := fun H o R k =>
  ⟨p, xs, i, j, rfl, rfl, (o.own _ sw.mem).2, hj, k _ _ (o.swap sw trivial) q⟩
/-! slices, lists joined -/
theorem wsl_T {a : List Bool} {lo hi : Option Int} (hl : a.length ≤ 100000) (q : Q (.str (T (cutL a lo hi))) s) : WSl H0 aSlT (.str (T a)) lo hi s Q := fun H o R k => ⟨a, rfl, hl, k _ H s o q⟩
theorem wsl_L {p : Addr} {xs : List V} {lo hi : Option Int} (hx : IsL K H0 s p xs) (q : ∀ l, H0 l = none → Q (.ref l) ⟨(l, .lst (cutL xs lo hi)) :: s.L, s.T⟩) : WSl H0 (rSlL K) (.ref p) lo hi s Q := fun H o R k => ⟨p, xs, rfl, hx H o, fun l hl => k _ _ _ (o.new hl) (q l (fresh_back o.ex hl))⟩
theorem w2_cat {p b : Addr} {xs zs : List V} (hp : (p, HO.lst xs) ∈ s.L) (hb : (b, HO.lst zs) ∈ s.L) (hl : xs.length + zs.length ≤ 100000) (q : ∀ l, H0 l = none → Q (.ref l) ⟨(l, .lst (xs ++ zs)) :: s.L, s.T⟩) : W2 H0 rCat (.ref p) (.ref b) s Q := fun H o R k =>
  ⟨p, b, xs, zs, rfl, rfl, (o.own _ hp).2, (o.own _ hb).2, sz_of hl, fun l hl => k _ _ _ (o.new hl) (q l (fresh_back o.ex hl))⟩
theorem w2_rep {p : Addr} {xs : List V} (hp : (p, HO.lst xs) ∈ s.L) (h1 : -(2 ^ 63) ≤ j ∧ j < 2 ^ 63) (hl : xs.length * j.toNat ≤ 100000) (q : ∀ l, H0 l = none → Q (.ref l) ⟨(l, .lst (List.replicate j.toNat xs).flatten) :: s.L, s.T⟩) : W2 H0 rRep (.ref p) (.int j) s Q := fun H o R k =>
  ⟨p, j, xs, rfl, rfl, (o.own _ hp).2, h1.1, h1.2, sz_of hl, fun l hl => k _ _ _ (o.new hl) (q l (fresh_back o.ex hl))⟩
/-! ### own defs: promises of two shapes -/
def spV (R : List V → Hp → V → Prop) : Sp := fun vs H Q _ => ∃ v, R vs H v ∧ ∀ H', Ex H H' → Q v H'
def spL (R : List V → Hp → List V → Prop) : Sp := fun vs H Q _ => ∃ xs, R vs H xs ∧ ∀ p H', H p = none → Ex H H' → H' p = some (.lst xs) → Q (.ref p) H'
theorem wc_V {R : List V → Hp → V → Prop} {E : XK} {vs : List V} (h : ∀ H, Own H0 H s → R vs H v) (q : Q v s) : WC H0 (spV R) E vs s Q := fun H o R' k => ⟨v, h H o, fun H' e => k _ _ _ (o.ext e) q⟩
theorem wc_L {R : List V → Hp → List V → Prop} {E : XK} {vs xs : List V} (h : ∀ H, Own H0 H s → R vs H xs) (q : ∀ p, H0 p = none → Q (.ref p) ⟨(p, .lst xs) :: s.L, s.T⟩) : WC H0 (spL R) E vs s Q := fun H o R' k =>
  ⟨xs, h H o, fun p H' hp e hx => k _ _ _ (o.newE hp e hx) (q p (fresh_back o.ex hp))⟩
/-! ### a def's body -/
def retV (v : V) : Dl := { nx := fun _ _ => v = .non, rt := fun u _ => u = v }
def retL (xs : List V) : Dl := { nx := fun _ _ => False, rt := fun u s => ∃ p, u = .ref p ∧ (p, HO.lst xs) ∈ s.L }
theorem body_V {H : Hp} {t : TS} {N : List Str} {vs : List V} {Q : VK} (h : WS H t (start N vs) ⟨[], []⟩ (retV v)) (k : ∀ H', Ex H H' → Q v H') : t { nx := fun _ H' => Q .non H', rt := Q } (start N vs) H :=
  h H (Own.start H) _ ⟨fun σ H' s o e => by
    have e' : v = .non := e
    rw [← e']
    exact k H' o.ex, fun u H' s o e => by
    have e' : u = v := e
    rw [e']
    exact k H' o.ex, (fun _ _ _ _ q => q.elim), (fun _ _ _ _ q => q.elim)⟩
theorem body_L {H : Hp} {t : TS} {N : List Str} {vs xs : List V} {Q : VK} (h : WS H t (start N vs) ⟨[], []⟩ (retL xs)) (k : ∀ p H', H p = none → Ex H H' → H' p = some (.lst xs) → Q (.ref p) H') : t { nx := fun _ H' => Q .non H', rt := Q } (start N vs) H :=
  h H (Own.start H) _ ⟨(fun _ _ _ _ q => q.elim), fun u H' s o ⟨p, e, m⟩ => by
    rw [e]
    exact k p H' (o.own _ m).1 o.ex (o.own _ m).2, (fun _ _ _ _ q => q.elim), (fun _ _ _ _ q => q.elim)⟩
/-! ### what is walked -/
theorem wi_list {R : It → Ld → Prop} (h : WE H0 tl σ s fun x s1 => ∃ a, x = .ref a ∧ (∃ xs, IsL K H0 s1 a xs) ∧ R (Itl K a) s1) : WI H0 (iList K tl) σ s R := fun H o R' k =>
  h H o _ fun x H1 s1 o1 ⟨a, e, ⟨xs, hx⟩, q⟩ => ⟨a, e, ⟨xs, hx H1 o1⟩, k _ H1 s1 o1 q⟩
theorem wi_tup {R : It → Ld → Prop} (h : WE H0 tl σ s fun x s1 => ∃ a, x = .ref a ∧ (∃ xs, IsT K H0 s1 a xs) ∧ R (Itt K a) s1) : WI H0 (iTup K tl) σ s R := fun H o R' k =>
  h H o _ fun x H1 s1 o1 ⟨a, e, ⟨xs, hx⟩, q⟩ => ⟨a, e, ⟨xs, hx H1 o1⟩, k _ H1 s1 o1 q⟩
theorem wi_T {R : It → Ld → Prop} (h : WE H0 te σ s fun x s1 => ∃ r, x = .str (T r) ∧ R (Its (T r)) s1) : WI H0 (iStr te) σ s R := fun H o R' k =>
  h H o _ fun x H1 s1 o1 ⟨r, e, q⟩ => ⟨T r, e, k _ H1 s1 o1 q⟩
theorem we_call0 {sp : Sp} {E : XK} {ta : TA} (h : WA H0 ta σ s fun xs s1 => WC H0 sp E xs s1 Q) : WE H0 (tCall sp [] E ta) σ s Q := fun H o R k =>
  h H o _ fun xs H1 s1 o1 h1 => by
    show sp (xs ++ []) H1 R E
    rw [List.append_nil]
    exact h1 H1 o1 R k
theorem wi_rng1 {R : It → Ld → Prop} (h : WA H0 tr σ s fun xs s1 => ∃ n : Int, xs = [.int n] ∧ (n ≤ 1000000 ∧ -1000000 ≤ n) ∧ R (Itr 0 n.toNat) s1) : WI H0 (iRng1 tr) σ s R := fun H o R' k =>
  h H o _ fun x H1 s1 o1 ⟨n, e, h1, q⟩ => ⟨n, e, by omega, by omega, k _ H1 s1 o1 q⟩
theorem wi_rng2 {R : It → Ld → Prop} (h : WA H0 tr σ s fun xs s1 => ∃ m n : Int, xs = [.int m, .int n] ∧ (n ≤ 1000000 ∧ -1000000 ≤ n ∧ m ≤ 1000000 ∧ -1000000 ≤ m) ∧ R (Itr m (n - m).toNat) s1) : WI H0 (iRng2 tr) σ s R := fun H o R' k =>
  h H o _ fun x H1 s1 o1 ⟨m, n, e, h1, q⟩ => ⟨m, n, e, by omega, k _ H1 s1 o1 q⟩
theorem wi_rng3 {R : It → Ld → Prop} (h : WA H0 tr σ s fun xs s1 => ∃ (i j c : Int) (n : Nat), xs = [.int i, .int j, .int c] ∧ RgC i j c n ∧ R (Itc i c n) s1) : WI H0 (iRng3 tr) σ s R := fun H o R' k =>
  h H o _ fun x H1 s1 o1 ⟨i, j, c, n, e, h1, q⟩ => ⟨i, j, c, n, e, h1, k _ H1 s1 o1 q⟩
theorem wi_enum {R : It → Ld → Prop} (h : WA H0 tr σ s fun xs s1 => ∃ a ys, xs = [.ref a] ∧ IsL K H0 s1 a ys ∧ R (Ite K a) s1) : WI H0 (iEnum K tr) σ s R := fun H o R' k =>
  h H o _ fun x H1 s1 o1 ⟨a, ys, e, h1, q⟩ => ⟨a, ys, e, h1 H1 o1, k _ H1 s1 o1 q⟩
theorem wi_zip {R : It → Ld → Prop} (h : WA H0 tr σ s fun xs s1 => ∃ a b ys zs, xs = [.ref a, .ref b] ∧ IsL K H0 s1 a ys ∧ IsL K H0 s1 b zs ∧ R (Itz K a b) s1) : WI H0 (iZip K tr) σ s R := fun H o R' k =>
  h H o _ fun x H1 s1 o1 ⟨a, b, ys, zs, e, h1, h2, q⟩ => ⟨a, b, ys, zs, e, h1 H1 o1, h2 H1 o1, k _ H1 s1 o1 q⟩
theorem T_at {r : List Bool} {i c : Nat} (h : (T r).cps[i]? = some c) : ∃ b, r[i]? = some b ∧ c = B b := by
  have hc' : (T r).cps.toList[i]? = some c := by rw [Array.getElem?_toList]; exact h
  rw [T_list, List.getElem?_map] at hc'
  cases h : r[i]? with
  | none => rw [h] at hc'; cases hc'
  | some b =>
    rw [h] at hc'
    exact ⟨b, rfl, (Option.some.inj hc').symm⟩
/-- the loop's part, for each thing walked: what it gives and what stays -/
theorem lp_list {a : Addr} {xs : List V} {n : Nat} (I : Nat → L2.St → Ld → Prop) (hn : xs.length = n) (h0 : I 0 σ s) (hI : ∀ i σ s, i ≤ n → I i σ s → IsL K H0 s a xs)
    (hs : ∀ i x σ s, i < n → xs[i]? = some x → I i σ s → WG H0 g x σ s fun σ2 s2 => WS H0 t1 σ2 s2 (turnD D (I (i + 1)))) (hd : ∀ σ s, I n σ s → D.nx σ s) : LoopOk H0 (Itl K a) g t1 σ s D := by
  subst hn
  exact ⟨xs.length, _, _, walk_list (xs := xs), I, h0, fun i σ s H hi q o => hI i σ s hi q H o, fun i x σ s H H' hi q o ⟨e, hx⟩ => ⟨s, by rw [e]; exact o, hs i x σ s hi hx q⟩, hd⟩
theorem lp_tup {a : Addr} {xs : List V} {n : Nat} (I : Nat → L2.St → Ld → Prop) (hn : xs.length = n) (h0 : I 0 σ s) (hI : ∀ i σ s, i ≤ n → I i σ s → IsT K H0 s a xs)
    (hs : ∀ i x σ s, i < n → xs[i]? = some x → I i σ s → WG H0 g x σ s fun σ2 s2 => WS H0 t1 σ2 s2 (turnD D (I (i + 1)))) (hd : ∀ σ s, I n σ s → D.nx σ s) : LoopOk H0 (Itt K a) g t1 σ s D := by
  subst hn
  exact ⟨xs.length, _, _, walk_tup (xs := xs), I, h0, fun i σ s H hi q o => hI i σ s hi q H o, fun i x σ s H H' hi q o ⟨e, hx⟩ => ⟨s, by rw [e]; exact o, hs i x σ s hi hx q⟩, hd⟩
theorem lp_T {r : List Bool} {n : Nat} (I : Nat → L2.St → Ld → Prop) (hn : r.length = n) (h0 : I 0 σ s)
    (hs : ∀ i b σ s, i < n → r[i]? = some b → I i σ s → WG H0 g (.str (T [b])) σ s fun σ2 s2 => WS H0 t1 σ2 s2 (turnD D (I (i + 1)))) (hd : ∀ σ s, I n σ s → D.nx σ s) : LoopOk H0 (Its (T r)) g t1 σ s D := by
  have e : (T r).cps.size = n := by rw [← hn]; exact T_len r
  subst e
  refine ⟨_, _, _, walk_str (z := T r), I, h0, fun i σ s H hi q o => trivial, fun i x σ s H H' hi q o ⟨e, c, hc, ex⟩ => ⟨s, by rw [e]; exact o, ?_⟩, hd⟩
  obtain ⟨b, h, rfl⟩ := T_at hc
  rw [ex]
  exact hs i b σ s hi h q
theorem lp_rng {lo : Int} {m : Nat} (I : Nat → L2.St → Ld → Prop) (h0 : I 0 σ s)
    (hs : ∀ i σ s, i < m → I i σ s → WG H0 g (.int (lo + (i : Int))) σ s fun σ2 s2 => WS H0 t1 σ2 s2 (turnD D (I (i + 1)))) (hd : ∀ σ s, I m σ s → D.nx σ s) : LoopOk H0 (Itr lo m) g t1 σ s D :=
  ⟨m, _, _, walk_range, I, h0, fun i σ s H hi q o => trivial, fun i x σ s H H' hi q o ⟨e, ex⟩ => ⟨s, by rw [e]; exact o, by rw [ex]; exact hs i σ s hi q⟩, hd⟩
theorem lp_enum {a : Addr} {xs : List V} {n : Nat} (I : Nat → L2.St → Ld → Prop) (hn : xs.length = n) (h0 : I 0 σ s) (hI : ∀ i σ s, i ≤ n → I i σ s → IsL K H0 s a xs)
    (hs : ∀ i x σ s p, i < n → xs[i]? = some x → I i σ s → WG H0 g (.ref p) σ ⟨s.L, (p, [.int (i : Int), x]) :: s.T⟩ fun σ2 s2 => WS H0 t1 σ2 s2 (turnD D (I (i + 1)))) (hd : ∀ σ s, I n σ s → D.nx σ s) : LoopOk H0 (Ite K a) g t1 σ s D := by
  subst hn
  exact ⟨xs.length, _, _, walk_enum (xs := xs), I, h0, fun i σ s H hi q o => hI i σ s hi q H o, fun i v σ s H H' hi q o ⟨p, x, y, ev, hp, e, hx, hy⟩ => ⟨⟨s.L, (p, [.int (i : Int), y]) :: s.T⟩, by
    have ex : V.int (i : Nat) = x := Option.some.inj hx
    rw [e, ← ex]
    exact o.newT hp, by rw [ev]; exact hs i y σ s p hi hy q⟩, hd⟩
theorem lp_zip {a b : Addr} {xs ys : List V} {n : Nat} (I : Nat → L2.St → Ld → Prop) (hn : n = min xs.length ys.length) (h0 : I 0 σ s) (hI : ∀ i σ s, i ≤ n → I i σ s → IsL K H0 s a xs ∧ IsL K H0 s b ys)
    (hs : ∀ i x y σ s p, i < n → xs[i]? = some x → ys[i]? = some y → I i σ s → WG H0 g (.ref p) σ ⟨s.L, (p, [x, y]) :: s.T⟩ fun σ2 s2 => WS H0 t1 σ2 s2 (turnD D (I (i + 1)))) (hd : ∀ σ s, I n σ s → D.nx σ s) : LoopOk H0 (Itz K a b) g t1 σ s D := by
  exact ⟨n, _, _, walk_zip (xs := xs) (ys := ys) hn, I, h0, fun i σ s H hi q o => ⟨(hI i σ s hi q).1 H o, (hI i σ s hi q).2 H o⟩, fun i v σ s H H' hi q o ⟨p, x, y, ev, hp, e, hx, hy⟩ => ⟨⟨s.L, (p, [x, y]) :: s.T⟩, by
    rw [e]
    exact o.newT hp, by rw [ev]; exact hs i x y σ s p hi hx hy q⟩, hd⟩
/-! comprehensions: F i is the list behind i items -/
theorem cp_core {J : It} {n : Nat} {G : Hp → Prop} {Y : Nat → Hp → V → Hp → Prop} {tt : TT} {vs : List Nat} (w : Walk J n G Y) (hn : n ≤ 90000) (F : Nat → List V) (hF0 : F 0 = []) (hFl : ∀ i, i ≤ n → (F i).length ≤ i)
    (hG : ∀ D x H, Own H0 H ⟨(D, .lst x) :: s.L, s.T⟩ → G H)
    (hs : ∀ D i x H H', i < n → Own H0 H ⟨(D, .lst (F i)) :: s.L, s.T⟩ → Y i H x H' → ∃ s', Own H0 H' s' ∧ WG H0 g x (wipe σ vs) s' fun σ2 s2 => wipe σ2 vs = wipe σ vs ∧ WT H0 tt σ2 s2 fun b s3 =>
      (b = true → WE H0 te σ2 s3 fun y s4 => Sub ⟨(D, .lst (F i)) :: s.L, s.T⟩ s4 ∧ F (i + 1) = F i ++ [y]) ∧ (b = false → Sub ⟨(D, .lst (F i)) :: s.L, s.T⟩ s3 ∧ F (i + 1) = F i)) (hq : ∀ D, H0 D = none → Q (.ref D) ⟨(D, .lst (F n)) :: s.L, s.T⟩) : CompOk H0 J g tt te σ vs s Q := by
  refine ⟨n, G, Y, w, fun D hD => ⟨fun i s' => s' = ⟨(D, .lst (F i)) :: s.L, s.T⟩, (by show (⟨(D, .lst []) :: s.L, s.T⟩ : Ld) = ⟨(D, .lst (F 0)) :: s.L, s.T⟩; rw [hF0]), fun i s' H hi e o => ?_, fun i x s' H H' hi e o y => ?_, fun s' e => by rw [e]; exact hq D hD⟩⟩
  · rw [e] at o
    exact hG D _ H o
  · rw [e] at o
    obtain ⟨s2, o2, h2⟩ := hs D i x H H' hi o y
    refine ⟨s2, o2, fun H3 o3 R k => h2 H3 o3 R fun σ3 H4 s4 o4 h4 => k _ H4 s4 o4 ⟨h4.1, fun H5 o5 R5 k5 => h4.2 H5 o5 R5 fun b H6 s6 o6 h6 => k5 b H6 s6 o6 ⟨fun hb => ?_, fun hb => ?_⟩⟩⟩
    · refine fun H7 o7 R7 k7 => h6.1 hb H7 o7 R7 fun y H8 s8 o8 h8 => k7 y H8 s8 o8 ?_
      obtain ⟨hsub, he⟩ := h8
      obtain ⟨L8, sw, hs8⟩ : ∃ L', Swap D (.lst (F i)) (.lst (F i ++ [y])) s8.L L' ∧ List.Sublist ((D, HO.lst (F i ++ [y])) :: s.L) L' := by
        have aux : ∀ (L M : List (Addr × HO)), List.Sublist ((D, HO.lst (F i)) :: L) M → ∃ L', Swap D (.lst (F i)) (.lst (F i ++ [y])) M L' ∧ List.Sublist ((D, HO.lst (F i ++ [y])) :: L) L' := by
          intro L M h
          generalize hx : ((D, HO.lst (F i)) :: L) = X at h
          induction h with
          | slnil => cases hx
          | cons a h ih =>
            obtain ⟨L', h1, h2⟩ := ih hx
            exact ⟨_, .there h1, .cons _ h2⟩
          | cons_cons a h ih =>
            cases hx
            exact ⟨_, .here, .cons_cons _ h⟩
        exact aux s.L s8.L hsub.l
      exact ⟨F i, L8, ⟨(D, .lst (F (i + 1))) :: s.L, s.T⟩, sw, Nat.lt_of_le_of_lt (hFl i (Nat.le_of_lt hi)) (by omega), ⟨by rw [he]; exact hs8, hsub.t⟩, rfl⟩
    · obtain ⟨hsub, he⟩ := h6.2 hb
      exact ⟨_, hsub, (by show (⟨(D, .lst (F i)) :: s.L, s.T⟩ : Ld) = ⟨(D, .lst (F (i + 1))) :: s.L, s.T⟩; rw [he])⟩
theorem cp_list {a : Addr} {xs : List V} {tt : TT} {vs : List Nat} (F : Nat → List V) (hx : IsL K H0 s a xs) (hn : xs.length ≤ 90000) (hF0 : F 0 = []) (hFl : ∀ i, i ≤ xs.length → (F i).length ≤ i)
    (hs : ∀ D i x, i < xs.length → xs[i]? = some x → WG H0 g x (wipe σ vs) ⟨(D, .lst (F i)) :: s.L, s.T⟩ fun σ2 s2 => wipe σ2 vs = wipe σ vs ∧ WT H0 tt σ2 s2 fun b s3 =>
      (b = true → WE H0 te σ2 s3 fun y s4 => Sub ⟨(D, .lst (F i)) :: s.L, s.T⟩ s4 ∧ F (i + 1) = F i ++ [y]) ∧ (b = false → Sub ⟨(D, .lst (F i)) :: s.L, s.T⟩ s3 ∧ F (i + 1) = F i)) (hq : ∀ D, H0 D = none → Q (.ref D) ⟨(D, .lst (F xs.length)) :: s.L, s.T⟩) : CompOk H0 (Itl K a) g tt te σ vs s Q :=
  cp_core (walk_list (xs := xs)) hn F hF0 hFl (fun D x H o => hx H (o.dropL (.cons _ (.refl _)) fun _ h => h)) (fun D i x H H' hi o ⟨e, h⟩ => ⟨⟨(D, .lst (F i)) :: s.L, s.T⟩, by rw [e]; exact o, hs D i x hi h⟩) hq
theorem cp_tup {a : Addr} {xs : List V} {tt : TT} {vs : List Nat} (F : Nat → List V) (hx : IsT K H0 s a xs) (hn : xs.length ≤ 90000) (hF0 : F 0 = []) (hFl : ∀ i, i ≤ xs.length → (F i).length ≤ i)
    (hs : ∀ D i x, i < xs.length → xs[i]? = some x → WG H0 g x (wipe σ vs) ⟨(D, .lst (F i)) :: s.L, s.T⟩ fun σ2 s2 => wipe σ2 vs = wipe σ vs ∧ WT H0 tt σ2 s2 fun b s3 =>
      (b = true → WE H0 te σ2 s3 fun y s4 => Sub ⟨(D, .lst (F i)) :: s.L, s.T⟩ s4 ∧ F (i + 1) = F i ++ [y]) ∧ (b = false → Sub ⟨(D, .lst (F i)) :: s.L, s.T⟩ s3 ∧ F (i + 1) = F i)) (hq : ∀ D, H0 D = none → Q (.ref D) ⟨(D, .lst (F xs.length)) :: s.L, s.T⟩) : CompOk H0 (Itt K a) g tt te σ vs s Q :=
  cp_core (walk_tup (xs := xs)) hn F hF0 hFl (fun D x H o => hx H (o.dropL (.cons _ (.refl _)) fun _ h => h)) (fun D i x H H' hi o ⟨e, h⟩ => ⟨⟨(D, .lst (F i)) :: s.L, s.T⟩, by rw [e]; exact o, hs D i x hi h⟩) hq
theorem cp_T {r : List Bool} {tt : TT} {vs : List Nat} (F : Nat → List V) (hn : r.length ≤ 90000) (hF0 : F 0 = []) (hFl : ∀ i, i ≤ r.length → (F i).length ≤ i)
    (hs : ∀ D i b, i < r.length → r[i]? = some b → WG H0 g (.str (T [b])) (wipe σ vs) ⟨(D, .lst (F i)) :: s.L, s.T⟩ fun σ2 s2 => wipe σ2 vs = wipe σ vs ∧ WT H0 tt σ2 s2 fun b s3 =>
      (b = true → WE H0 te σ2 s3 fun y s4 => Sub ⟨(D, .lst (F i)) :: s.L, s.T⟩ s4 ∧ F (i + 1) = F i ++ [y]) ∧ (b = false → Sub ⟨(D, .lst (F i)) :: s.L, s.T⟩ s3 ∧ F (i + 1) = F i)) (hq : ∀ D, H0 D = none → Q (.ref D) ⟨(D, .lst (F r.length)) :: s.L, s.T⟩) : CompOk H0 (Its (T r)) g tt te σ vs s Q := by
  have e : (T r).cps.size = r.length := T_len r
  refine cp_core (n := r.length) (e ▸ walk_str (z := T r)) hn F hF0 hFl (fun D x H o => trivial) (fun D i x H H' hi o ⟨e, c, hc, ex⟩ => ⟨⟨(D, .lst (F i)) :: s.L, s.T⟩, by rw [e]; exact o, ?_⟩) hq
  obtain ⟨b, h, rfl⟩ := T_at hc
  rw [ex]
  exact hs D i b hi h
theorem cp_rng {lo : Int} {m : Nat} {tt : TT} {vs : List Nat} (F : Nat → List V) (hn : m ≤ 90000) (hF0 : F 0 = []) (hFl : ∀ i, i ≤ m → (F i).length ≤ i)
    (hs : ∀ D i, i < m → WG H0 g (.int (lo + (i : Int))) (wipe σ vs) ⟨(D, .lst (F i)) :: s.L, s.T⟩ fun σ2 s2 => wipe σ2 vs = wipe σ vs ∧ WT H0 tt σ2 s2 fun b s3 =>
      (b = true → WE H0 te σ2 s3 fun y s4 => Sub ⟨(D, .lst (F i)) :: s.L, s.T⟩ s4 ∧ F (i + 1) = F i ++ [y]) ∧ (b = false → Sub ⟨(D, .lst (F i)) :: s.L, s.T⟩ s3 ∧ F (i + 1) = F i)) (hq : ∀ D, H0 D = none → Q (.ref D) ⟨(D, .lst (F m)) :: s.L, s.T⟩) : CompOk H0 (Itr lo m) g tt te σ vs s Q :=
  cp_core walk_range hn F hF0 hFl (fun D x H o => trivial) (fun D i x H H' hi o ⟨e, ex⟩ => ⟨⟨(D, .lst (F i)) :: s.L, s.T⟩, by rw [e]; exact o, by rw [ex]; exact hs D i hi⟩) hq
theorem cp_rngC {lo c : Int} {m : Nat} {tt : TT} {vs : List Nat} (F : Nat → List V) (hn : m ≤ 90000) (hF0 : F 0 = []) (hFl : ∀ i, i ≤ m → (F i).length ≤ i)
    (hs : ∀ D i, i < m → WG H0 g (.int (lo + (i : Int) * c)) (wipe σ vs) ⟨(D, .lst (F i)) :: s.L, s.T⟩ fun σ2 s2 => wipe σ2 vs = wipe σ vs ∧ WT H0 tt σ2 s2 fun b s3 =>
      (b = true → WE H0 te σ2 s3 fun y s4 => Sub ⟨(D, .lst (F i)) :: s.L, s.T⟩ s4 ∧ F (i + 1) = F i ++ [y]) ∧ (b = false → Sub ⟨(D, .lst (F i)) :: s.L, s.T⟩ s3 ∧ F (i + 1) = F i)) (hq : ∀ D, H0 D = none → Q (.ref D) ⟨(D, .lst (F m)) :: s.L, s.T⟩) : CompOk H0 (Itc lo c m) g tt te σ vs s Q :=
  cp_core walk_rangeC hn F hF0 hFl (fun D x H o => trivial) (fun D i x H H' hi o ⟨e, ex⟩ => ⟨⟨(D, .lst (F i)) :: s.L, s.T⟩, by rw [e]; exact o, by rw [ex]; exact hs D i hi⟩) hq
theorem cp_enum {a : Addr} {xs : List V} {tt : TT} {vs : List Nat} (F : Nat → List V) (hx : IsL K H0 s a xs) (hn : xs.length ≤ 90000) (hF0 : F 0 = []) (hFl : ∀ i, i ≤ xs.length → (F i).length ≤ i)
    (hs : ∀ D i x p, i < xs.length → xs[i]? = some x → WG H0 g (.ref p) (wipe σ vs) ⟨(D, .lst (F i)) :: s.L, (p, [.int (i : Int), x]) :: s.T⟩ fun σ2 s2 => wipe σ2 vs = wipe σ vs ∧ WT H0 tt σ2 s2 fun b s3 =>
      (b = true → WE H0 te σ2 s3 fun y s4 => Sub ⟨(D, .lst (F i)) :: s.L, s.T⟩ s4 ∧ F (i + 1) = F i ++ [y]) ∧ (b = false → Sub ⟨(D, .lst (F i)) :: s.L, s.T⟩ s3 ∧ F (i + 1) = F i)) (hq : ∀ D, H0 D = none → Q (.ref D) ⟨(D, .lst (F xs.length)) :: s.L, s.T⟩) : CompOk H0 (Ite K a) g tt te σ vs s Q :=
  cp_core (walk_enum (xs := xs)) hn F hF0 hFl (fun D x H o => hx H (o.dropL (.cons _ (.refl _)) fun _ h => h)) (fun D i v H H' hi o ⟨p, x, y, ev, hp, e, hx, hy⟩ => ⟨⟨(D, .lst (F i)) :: s.L, (p, [.int (i : Int), y]) :: s.T⟩, by
    have ex : V.int (i : Nat) = x := Option.some.inj hx
    rw [e, ← ex]
    exact o.newT hp, by rw [ev]; exact hs D i y p hi hy⟩) hq
end
end BM
namespace BM
open PySem L2 Evl PyProof.Rows
/-! ### enumerate(text) -/
def IteT (x : Str) : It := ⟨fun i _ => i < x.cps.size, fun i H v H' => ∃ T c, v = .ref T ∧ H T = none ∧ H' = upd H T (.tup [.int (i : Nat), .str ⟨#[c]⟩]) ∧ x.cps[i]? = some c, fun i _ => x.cps.size ≤ i⟩
theorem turn_enumT {P : Program} {w : World} {K : PySem.W.Frag} {elts : List Expr} {kk : Nat} {tpos : Pos} (e it : Addr) (x : Str) (t : Tok) (ty : String) (hty : ty = "str_ascii_iterator" ∨ ty = "str_iterator") :
    Turn P w K (.Tuple elts kk tpos) (IteT x) [e, it] e (fun i h => (∃ old, IsEnum h e it ((i : Nat) : Int) old) ∧ (h.IsStrIter it ty x t i ∧ i ≤ x.cps.size) ∧ e ≠ it) where
  mem := by simp
  obj := fun i h st b hb => by
    obtain ⟨⟨old, he⟩, ⟨⟨o, ho, hc, hd⟩, _⟩, _⟩ := st
    have e' : b = e ∨ b = it := by simpa using hb
    rcases e' with z | z
    · rw [z]; exact ⟨_, he, fun v q => nomatch q⟩
    · rw [z]; exact ⟨o, ho, fun v q => by rw [hd] at q; cases q⟩
  keep := fun i h h' st k => let ⟨⟨old, he⟩, ⟨⟨o, ho, r⟩, hl⟩, hne⟩ := st; ⟨⟨old, k e (by simp) _ he⟩, ⟨⟨o, k it (by simp) _ ho, r⟩, hl⟩, hne⟩
  item := by
    intro X hP hw hK hc i pins s σ H E I hf st hg
    subst hP hw hK
    obtain ⟨⟨old, he⟩, ⟨hit, hle⟩, hne⟩ := st
    have hh : X.A.in1.handled = none := I.ok.hd hc
    have D : Draws X.prog X.w X.A.in1 it [it] x.cps.size (fun i v => ∃ c u, x.cps[i]? = some c ∧ v = .str ⟨#[c]⟩ u) (fun i h => h.IsStrIter it ty x t i) := by
      rcases hty with e | e
      · rw [e]; exact Draws.strAscii hh it x t
      · rw [e]; exact Draws.strWide hh it x t
    have hel : e < s.heap.objs.size := Heap.lt_size he
    have hil : it < s.heap.objs.size := by obtain ⟨_, q, _⟩ := hit; exact Heap.lt_size q
    refine wpAny_pyNext_enum_itemD D he hit hg hne (by simpa using hne) fun u h' tk hP ho hit' hT hsz hk => ?_
    obtain ⟨c, tc, hcx, rfl⟩ := hP
    refine ⟨_, rfl, wpAny_letOwnedTupleGo_enum (s := { s with heap := h', toks := tk + 1 }) ho fun h'' he' sb => ?_⟩
    have hT2 : h''.get? s.heap.objs.size = some { cls := .type "tuple", data := .seq #[.int i tk, .str ⟨#[c]⟩ tc] } := (sb.2 _ (Nat.ne_of_gt hel)).trans hT
    have new : ObjOk X.prog X.w (upd H s.heap.objs.size (.tup [.int (i : Nat), .str ⟨#[c]⟩])) h'' s.heap.objs.size (.tup [.int (i : Nat), .str ⟨#[c]⟩]) :=
      ⟨by show 2 ≤ sizeLine; decide, [.int i tk, .str ⟨#[c]⟩ tc], .cons ⟨_, rfl⟩ (.cons ⟨_, rfl⟩ .nil), ⟨_, hT2, rfl, _, rfl⟩⟩
    have I1 : Inv X pins σ (upd H s.heap.objs.size (.tup [.int (i : Nat), .str ⟨#[c]⟩])) { s with heap := h'', toks := tk + 1 } :=
      I.turnedNew (ch := [e, it]) (fun b ob hb q => (sb.2 b (fun z => hb (by simp [z]))).trans (hk b ob (fun z => hb (by simp [z])) (fun z => hb (by simp [z])) q)) hf (Nat.le_refl _) new
    have hit2 : h''.IsStrIter it ty x t (i + 1) := by
      obtain ⟨o, ho, r⟩ := hit'
      exact ⟨o, (sb.2 it (Ne.symm hne)).trans ho, r⟩
    refine ⟨.ref s.heap.objs.size, _, I1, rfl, ⟨_, c, rfl, I.hok.fresh (Nat.le_refl _), rfl, hcx⟩, ⟨⟨.str ⟨#[c]⟩ tc, ?_⟩, ⟨hit2, hg⟩, hne⟩, fun b hb => ?_⟩
    · have e1 : ((i + 1 : Nat) : Int) = (i : Int) + 1 := by omega
      rw [e1]; exact he'
    · have hb' : b < s.heap.objs.size := by
        have e' : b = e ∨ b = it := by simpa using hb
        rcases e' with z | z
        · rw [z]; exact hel
        · rw [z]; exact hil
      rw [upd_ne (Nat.ne_of_lt hb')]
      exact (hf b hb).1
  done := by
    intro X hP hw hK hc i pins s σ H E I hf st hg
    subst hP hw hK
    obtain ⟨⟨old, he⟩, ⟨hit, hle⟩, hne⟩ := st
    have hh : X.A.in1.handled = none := I.ok.hd hc
    have D : Draws X.prog X.w X.A.in1 it [it] x.cps.size (fun i v => ∃ c u, x.cps[i]? = some c ∧ v = .str ⟨#[c]⟩ u) (fun i h => h.IsStrIter it ty x t i) := by
      rcases hty with e | e
      · rw [e]; exact Draws.strAscii hh it x t
      · rw [e]; exact Draws.strWide hh it x t
    obtain ⟨f0, f1, f2, f3, f4, f5⟩ := hf it (by simp)
    have ei : i = x.cps.size := Nat.le_antisymm hle hg
    subst ei
    exact wpAny_pyNext_enum_endD D he hit fun h' eb => ⟨rfl, I.turned (t' := s.toks) (fun b o hb q => eb b o hb q) f0 f1 f3 f4 f5⟩
  self := fun A i s Q E st h => let ⟨⟨_, he⟩, _⟩ := st; wpAny_pyIter_enum he h
def iEnumT (ta : TA) : TI := fun σ H R => ta σ H fun vs H1 => ∃ r : List Bool, vs = [.str (T r)] ∧ R (IteT (T r)) H1
theorem pi_enumT {X : Cx} {e : Expr} {ta : TA} {p pos tpos : Pos} {elts : List Expr} {kk : Nat} (hg : Gl X "enumerate") (hm : X.mg "enumerate" = none) (ha : PA X [e] ta) (hs : starEach [e] X.env = [(false, eval e X.env)] := by rfl) :
    PI X (.Tuple elts kk tpos) (.Call (.Name "enumerate" p) [e] [] pos) (iEnumT ta) := by
  refine ⟨fun pins s σ H R I h => ?_⟩
  refine Call_ (ld_blt I hg hm boot_enumerate (PyProof.Rows.callWith_type1 (thn (ha.run pos pins s σ H _ I h) fun us s1 ⟨vs, H1, I1, r1, q1⟩ => ?_) hs rfl))
  obtain ⟨r, ex, q⟩ := q1
  subst ex
  cases r1 with
  | cons r0 rr =>
    cases rr
    obtain ⟨t, rfl⟩ := r0
    refine call_enumerate_str fun h' he hit hsz hk => wpAny_pyIter_enum he ?_
    have I2 : Inv X pins σ H1 { s1 with heap := h' } := I1.kept (t' := s1.toks) hk
    have hty : strIterType (T r) = "str_ascii_iterator" ∨ strIterType (T r) = "str_iterator" := by
      unfold strIterType
      split
      · exact .inl rfl
      · exact .inr rfl
    refine ⟨s1.heap.objs.size + 1, [s1.heap.objs.size + 1, s1.heap.objs.size], _, _, H1, rfl, I2, turn_enumT (s1.heap.objs.size + 1) s1.heap.objs.size (T r) t _ hty, ⟨⟨.none, he⟩, ⟨hit, Nat.zero_le _⟩, Nat.succ_ne_self _⟩, fun b hb => ?_, q⟩
    have e' : b = s1.heap.objs.size + 1 ∨ b = s1.heap.objs.size := by simpa using hb
    have hle : s1.heap.objs.size ≤ b := by
      rcases e' with z | z
      · rw [z]; exact Nat.le_add_right _ _
      · rw [z]; exact Nat.le_refl _
    exact I1.fpOk hle (I1.hok.fresh hle)
/-! ### a < b < c < d -/
def tChain3 (r1 r2 r3 : R2) (ta tb tc td : TE) : TE := fun σ H Q => ta σ H fun x H1 => tb σ H1 fun y H2 => r1 x y H2 fun z H3 => ∃ k, z = .bl k ∧
  (if k = true then tc σ H3 fun w' H4 => r2 y w' H4 fun z2 H5 => ∃ k2, z2 = .bl k2 ∧ (if k2 = true then td σ H5 fun w2 H6 => r3 w' w2 H6 Q else Q (.bl false) H5) else Q (.bl false) H3)
section
variable {X : Cx} {a b c d : Expr} {ta tb tc td : TE} {pos : Pos}
theorem pe_chain3 {o1 o2 o3 : CmpOp} {r1 r2 r3 : R2} (h1 : OpR X (compareOp o1) r1) (h2 : OpR X (compareOp o2) r2) (h3 : OpR X (compareOp o3) r3) (ha : PE X a ta) (hb : PE X b tb) (hc : PE X c tc) (hd : PE X d td)
    (hm : lastMarks [o1, o2, o3] [b, c, d] = false := by with_unfolding_all rfl) : PE X (.Compare a [o1, o2, o3] [b, c, d] pos) (tChain3 r1 r2 r3 ta tb tc td) := by
  refine ⟨fun pins s σ H Q I h => ?_⟩
  refine Compare_chain (thn (ha.run pins s σ H _ I h) fun v s1 ⟨x, H1, I1, e1, q1⟩ => chain_link (thn (hb.run pins s1 σ H1 _ I1 q1) fun u s2 ⟨y, H2, I2, e2, q2⟩ =>
    thn (h1 pins s2 σ H2 x y v u _ I2 e1 e2 q2) fun d1 s3 ⟨z, H3, I3, e3, k, e, q3⟩ => ?_)) hm
  subst e
  cases e3
  refine wpAny_truthy_bool ?_
  cases k with
  | false => exact ite_ff ⟨.bl false, H3, I3, rfl, q3⟩
  | true =>
    refine ite_tt (chain_link (thn (hc.run pins s3 σ H3 _ I3 q3) fun w' s4 ⟨z', H4, I4, e4, q4⟩ => thn (h2 pins s4 σ H4 y z' u w' _ I4 e2 e4 q4) fun d2 s5 ⟨z2, H5, I5, e5, k2, ek, q5⟩ => ?_))
    subst ek
    cases e5
    refine wpAny_truthy_bool ?_
    cases k2 with
    | false => exact ite_ff ⟨.bl false, H5, I5, rfl, q5⟩
    | true => exact ite_tt (chain_last (thn (hd.run pins s5 σ H5 _ I5 q5) fun w2 s6 ⟨z3, H6, I6, e6, q6⟩ => h3 pins s6 σ H6 z' z3 w' w2 Q I6 e4 e6 q6))
theorem pt_chain3 {o1 o2 o3 : CmpOp} {r1 r2 r3 : R2} (h1 : OpR X (compareOp o1) r1) (h2 : OpR X (compareOp o2) r2) (h3 : OpR X (compareOp o3) r3) (ha : PE X a ta) (hb : PE X b tb) (hc : PE X c tc) (hd : PE X d td)
    (hm : lastMarks [o1, o2, o3] [b, c, d] = false := by with_unfolding_all rfl) : PT X (.Compare a [o1, o2, o3] [b, c, d] pos) (tTest (tChain3 r1 r2 r3 ta tb tc td)) := by
  refine ⟨fun pins s σ H Q I h => ?_⟩
  refine isTrue_chain (thn (ha.run pins s σ H _ I h) fun v s1 ⟨x, H1, I1, e1, q1⟩ => test_link (thn (hb.run pins s1 σ H1 _ I1 q1) fun u s2 ⟨y, H2, I2, e2, q2⟩ =>
    thn (h1 pins s2 σ H2 x y v u _ I2 e1 e2 q2) fun d1 s3 ⟨z, H3, I3, e3, k, e, q3⟩ => ?_)) hm
  subst e
  cases e3
  refine wpAny_truthy_bool ?_
  cases k with
  | false =>
    obtain ⟨k', e', q'⟩ := q3
    cases e'
    exact ite_ff ⟨H3, I3, q'⟩
  | true =>
    refine ite_tt (test_link (thn (hc.run pins s3 σ H3 _ I3 q3) fun w' s4 ⟨z', H4, I4, e4, q4⟩ => thn (h2 pins s4 σ H4 y z' u w' _ I4 e2 e4 q4) fun d2 s5 ⟨z2, H5, I5, e5, k2, ek, q5⟩ => ?_))
    subst ek
    cases e5
    refine wpAny_truthy_bool ?_
    cases k2 with
    | false =>
      obtain ⟨k', e', q'⟩ := q5
      cases e'
      exact ite_ff ⟨H5, I5, q'⟩
    | true =>
      refine ite_tt (test_last (thn (hd.run pins s5 σ H5 _ I5 q5) fun w2 s6 ⟨z3, H6, I6, e6, q6⟩ => thn (h3 pins s6 σ H6 z' z3 w' w2 _ I6 e4 e6 q6) fun d' s7 ⟨z4, H7, I7, e7, k3, ek3, q7⟩ => ?_))
      subst ek3
      cases e7
      exact wpAny_truthy_bool ⟨H7, I7, q7⟩
end
/-! ### text[::-1] -/
def tRevT (te : TE) : TE := fun σ H Q => te σ H fun x H1 => ∃ r : List Bool, x = .str (T r) ∧ r.length ≤ 100000 ∧ Q (.str (T r.reverse)) H1
theorem rev_picked (x : Str) (k : Tok) : ((slicePicked x none none (some (-1, k))).filterMap (x.cps[·]?)) = x.cps.toList.reverse := by
  have e0 : slicePicked x none none (some (-1, k)) = (List.range x.length).map fun i => x.length - 1 - i := by
    unfold slicePicked Builtin.Str.strSliceIndices sliceRange
    simp only [Option.map_none, Option.map_some, Option.getD_some]
    have h1 : ¬ ((-1 : Int) > 0) := by decide
    simp only [if_neg h1]
    by_cases hz : x.length = 0
    · rw [hz]
      rfl
    · have h2 : ((x.length : Int) - 1 > -1) := by omega
      rw [if_pos h2]
      have h3 : (((x.length : Int) - 1 - -1 - -1 - 1) / - -1).toNat = x.length := by
        have h4 : ((x.length : Int) - 1 - -1 - -1 - 1) = (x.length : Int) := by omega
        have h5 : (- -1 : Int) = 1 := by decide
        rw [h4, h5, Int.ediv_one]
        rfl
      rw [h3]
      apply List.map_congr_left
      intro i hi
      have := List.mem_range.mp hi
      omega
  rw [e0, List.filterMap_map]
  have e1 : ∀ n, n ≤ x.length → (List.range n).filterMap ((fun i => x.cps[i]?) ∘ fun i => x.length - 1 - i) = x.cps.toList.reverse.take n := by
    intro n
    induction n with
    | zero => intro _; rfl
    | succ n ih =>
      intro h
      rw [List.range_succ, List.filterMap_append, ih (by omega)]
      have hl : x.cps.toList.reverse.length = x.length := by simp [Str.length]
      have hn : n < x.cps.toList.reverse.length := by omega
      rw [List.take_succ, List.getElem?_eq_getElem hn]
      have h3 : x.length - 1 - n < x.cps.size := by show _ < x.length; omega
      have h4 : x.cps[x.length - 1 - n]? = some (x.cps.toList.reverse[n]) := by
        rw [List.getElem_reverse]
        rw [Array.getElem?_eq_getElem h3]
        simp [Str.length]
      simp only [List.filterMap_cons, List.filterMap_nil, Function.comp, h4]
      rfl
  rw [e1 _ (Nat.le_refl _)]
  apply List.take_of_length_le
  simp [Str.length]
section
variable {X : Cx} {e : Expr} {te : TE} {k : Nat} {p1 p2 p3 pos : Pos}
theorem pe_revT (he : PE X e te) : PE X (.Subscript e (.Slice none none (some (.UnaryOp .USub (.Constant (.int 1) k p1) p2)) p3) pos) (tRevT te) := by
  refine ⟨fun pins s σ H Q I h => ?_⟩
  refine Subscript_ (thn (he.run pins s σ H _ I h) fun v s1 ⟨x, H1, I1, r1, q1⟩ => ?_)
  obtain ⟨r, ex, hl, q⟩ := q1
  subst ex
  obtain ⟨tx, rfl⟩ := r1
  have hst : PO X (some (.UnaryOp .USub (.Constant (.int 1) k p1) p2)) (tPart (tUn (rU fun i => .int (-i)) (tC (.int 1)))) := po_some (pe_un un_neg pe_int)
  refine wpAny_Slice (thn (po_none.run pins s1 σ H1 (fun o H2 => o = none ∧ H2 = H1) I1 ⟨rfl, rfl⟩) fun vl s2 ⟨l, H2, I2, pl, el, e2⟩ => ?_)
  subst el e2
  refine thn (po_none.run pins s2 σ H2 (fun o H3 => o = none ∧ H3 = H2) I2 ⟨rfl, rfl⟩) fun vu s3 ⟨u, H3, I3, pu, eu, e3⟩ => ?_
  subst eu e3
  refine thn (hst.run pins s3 σ H3 (fun o H4 => o = some (-1) ∧ H4 = H3) I3 ⟨1, rfl, -1, rfl, rfl, rfl⟩) fun vs s4 ⟨o, H4, I4, ps, eo, e4⟩ => ?_
  subst eo e4
  have I5 : Inv X pins σ H4 { s4 with heap := s4.heap.push { cls := .type "slice", data := .fields #[vl, vu, vs] } } := I4.kept (t' := s4.toks) fun b ob q => Heap.get?_push_of_some _ q
  obtain ⟨l1, hl1, hl2⟩ := IsPart.raw pl
  obtain ⟨u1, hu1, hu2⟩ := IsPart.raw pu
  obtain ⟨s1', hs1, hs2⟩ := IsPart.raw ps
  obtain rfl : l1 = none := by cases l1 with | none => rfl | some z => cases hl2
  obtain rfl : u1 = none := by cases u1 with | none => rfl | some z => cases hu2
  obtain ⟨kk, rfl⟩ : ∃ kk, s1' = some (-1, kk) := by
    cases s1' with
    | none => cases hs2
    | some z =>
      obtain ⟨z1, z2⟩ := z
      have : z1 = -1 := Option.some.inj hs2
      exact ⟨z2, by rw [this]⟩
  have hsl : (s4.heap.push { cls := .type "slice", data := .fields #[vl, vu, vs] }).IsSlice s4.heap.objs.size none none (some (-1, kk)) := by
    rw [hl1, hu1, hs1]
    exact ⟨_, Heap.get?_push_size _ rfl, rfl, rfl⟩
  show wpAny (model X.prog X.w) X.A (subscriptTail e (.Slice none none (some (.UnaryOp .USub (.Constant (.int 1) k p1) p2)) p3) (.str (T r) tx) (.ref s4.heap.objs.size)) (EP X pins σ Q) X.xe { s4 with heap := s4.heap.push { cls := .type "slice", data := .fields #[vl, vu, vs] } }
  refine tail_any (ops := [.ref s4.heap.objs.size, .str (T r) tx]) (typeIs_str _ _ _) F.slot_str_getitem.lookup ?_ (by with_unfolding_all rfl)
  refine wpAny_getItem_str_slice (l := none) (u := none) (st := some (-1, kk)) hsl (by rfl) ?_
  unfold sliceMade
  rw [if_neg (by simp)]
  have er : (⟨((slicePicked (T r) none none (some (-1, kk))).filterMap ((T r).cps[·]?)).toArray⟩ : Str) = T r.reverse := by
    rw [rev_picked, T_list, ← List.map_reverse]
    rfl
  rw [er]
  refine ⟨by rw [T_len, List.length_reverse]; exact sz_of hl, .str (T r.reverse), H4, ?_, ⟨_, rfl⟩, q⟩
  exact I5.tok _
end
/-! ### list(text) -/
def aListT : List V → Hp → VK → Prop := fun xs H Q => ∃ r : List Bool, xs = [.str (T r)] ∧ r.length ≤ 100000 ∧ ∀ l, H l = none → Q (.ref l) (upd H l (.lst (r.map fun b => .str (T [b]))))
theorem c_listT {X : Cx} (hc : X.calm = true) : CallR X (.type "list") aListT := by
  intro pins s σ H xs us Q I rx h
  obtain ⟨r, rfl, hl, q⟩ := h
  obtain ⟨u, rfl, ru⟩ := vals1 rx
  obtain ⟨t, rfl⟩ := ru
  refine call_list_str (I.ok.hd hc) (T r) t (hn := by show (T r).length ≤ _; rw [T_len]; exact sz_of hl) fun h' tk acc' c' hk ho hi => ?_
  refine ⟨.ref s.heap.objs.size, _, I.laid (t' := tk) (o := .lst (r.map fun b => .str (T [b]))) hk (Nat.le_refl _) ?_, rfl, q _ (I.hok.fresh (Nat.le_refl _))⟩
  have hz : acc'.toList.length = r.length := by
    have h1 : acc'.size = (T r).length := hi.1
    rw [T_len] at h1
    simpa using h1
  refine ⟨by rw [List.length_map]; exact sz_of hl, acc'.toList, c', ?_, ho⟩
  refine vals_of_at (by rw [List.length_map, hz]) fun j x u h1 h2 => ?_
  obtain ⟨c, tk', hc1, rfl⟩ := hi.2 j u (by simpa using h2)
  obtain ⟨b, hb, rfl⟩ := T_at hc1
  rw [List.getElem?_map, hb] at h1
  cases h1
  exact ⟨tk', rfl⟩
/-! ### xs.count(y) -/
def aCount (K : PySem.W.Frag) : V → List V → Hp → VK → Prop := fun x xs H Q => ∃ (p : Addr) (ys : List V) (y : V), x = .ref p ∧ xs = [y] ∧ SqL K H p ys ∧ flatV y = true ∧ ys.all flatV = true ∧ Q (.int ((ys.countP fun z => eqV z y : Nat) : Int)) H
theorem count_eqU {x : V} : ∀ {xs : List V} {us : List Value}, Vals xs us → xs.all flatV = true → us.countP (eqU x) = xs.countP fun y => eqV y x
  | _, _, .nil, _ => rfl
  | y :: xs, u :: us, .cons r t, f => by
    rw [List.all_cons, Bool.and_eq_true] at f
    rw [List.countP_cons, List.countP_cons, eqU_of r f.1, count_eqU t f.2]
theorem m_count {X : Cx} : MtR X "list.count" (aCount X.K) := by
  intro pins s σ H x xs v us Q I rx rxs h
  obtain ⟨p, ys, y, rfl, rfl, hs, fy, fa, q⟩ := h
  cases rx
  obtain ⟨u, rfl, ru⟩ := rxs.one
  obtain ⟨its, rv, ⟨⟨cls, dd, data, sl⟩, n, ho, hc, hdn, hd⟩, hlen⟩ := I.list hs
  simp only at hc hd
  subst hc hd
  refine call_meets PySem.F.slot_list_count ⟨_, ho, rfl⟩ PySem.F.entry_list_count (PySem.F.args_list_count_2 _ _)
    (SeqAt.list_countAt p its.toArray n dd sl u (eqU y)) ⟨ho, fun z hz => mem_eqAt ru fy rv fa z (by simpa using hz), ?_⟩
  refine ⟨.int ((ys.countP fun z => eqV z y : Nat) : Int), H, I.tok _, ⟨s.toks, ?_⟩, q⟩
  show Value.int ((its.toArray.toList.countP (eqU y) : Nat) : Int) s.toks = _
  rw [show its.toArray.toList = its from rfl, count_eqU rv fa]
/-! ### == of data -/
def DpL (K : PySem.W.Frag) (H0 : Hp) (s : Ld) (v : V) (d : PyData) : Prop := ∀ H, Own H0 H s → Dp K H v d
theorem dpAll_map {K : PySem.W.Frag} {H : Hp} {α : Type} {f : α → V} {g : α → PyData} (h : ∀ a, Dp K H (f a) (g a)) : ∀ xs : List α, DpAll K H (xs.map f) (xs.map g)
  | [] => .nil
  | a :: xs => .cons (h a) (dpAll_map h xs)
theorem eqvAll_map {α : Type} [DecidableEq α] {g : α → PyData} (h : ∀ a b, PyData.eqv (g a) (g b) = decide (a = b)) : ∀ xs ys : List α, PyData.eqvAll (xs.map g) (ys.map g) = decide (xs = ys)
  | [], [] => by simp [PyData.eqvAll]
  | [], y :: ys => by simp [PyData.eqvAll]
  | x :: xs, [] => by simp [PyData.eqvAll]
  | x :: xs, y :: ys => by
    simp only [List.map_cons, PyData.eqvAll, h, eqvAll_map h xs ys, List.cons.injEq]
    by_cases e : x = y <;> simp [e]
theorem eqv_intD (a b : Int) : PyData.eqv (.int a) (.int b) = decide (a = b) := by
  simp only [PyData.eqv]
  by_cases e : a = b
  · subst e; simp
  · simp [e]
def pairD (p : Int × Int) : PyData := .tuple [.int p.1, .int p.2]
theorem eqv_pairD (a b : Int × Int) : PyData.eqv (pairD a) (pairD b) = decide (a = b) := by
  obtain ⟨a1, a2⟩ := a
  obtain ⟨b1, b2⟩ := b
  simp only [pairD, PyData.eqv, PyData.eqvAll, Prod.mk.injEq]
  by_cases e1 : a1 = b1 <;> by_cases e2 : a2 = b2 <;> simp [e1, e2]
theorem all_canLay {α : Type} {g : α → PyData} (h : ∀ a, (g a).canLay0 = true) : ∀ xs : List α, PyData.canLayAll0 (xs.map g) = true
  | [] => rfl
  | a :: xs => by simp [PyData.canLayAll0, h a, all_canLay h xs]
theorem all_depth {α : Type} {g : α → PyData} {k : Nat} (h : ∀ a, (g a).depth ≤ k) : ∀ xs : List α, PyData.depthAll (xs.map g) ≤ k
  | [] => by simp [PyData.depthAll]
  | a :: xs => by
    have := h a
    have := all_depth h xs
    simp only [List.map_cons, PyData.depthAll]
    omega
theorem shaped_map {α : Type} {g : α → PyData} {k : Nat} (h : ∀ a, (g a).canLay0 = true) (hd : ∀ a, (g a).depth ≤ k) (hk : k ≤ 60) (xs : List α) : SeqAt.shaped (.list (xs.map g)) = true := by
  unfold SeqAt.shaped
  have h1 : PyData.canLay0 (.list (xs.map g)) = true := by
    simp only [PyData.canLay0]
    exact all_canLay h xs
  have h2 := all_depth hd xs
  have h3 : PyData.depth (.list (xs.map g)) ≤ 64 := by
    simp only [PyData.depth]
    omega
  simp [h1, h3]
section
variable {K : PySem.W.Frag} {H0 : Hp} {s : Ld} {Q : V → Ld → Prop} {x y : V}
theorem w2_eqD {d e : PyData} {b : Bool} (h1 : DpL K H0 s x d) (h2 : DpL K H0 s y e) (s1 : SeqAt.shaped d = true) (s2 : SeqAt.shaped e = true) (hb : PyData.eqv d e = b) (q : Q (.bl b) s) : W2 H0 (rEqD K) x y s Q := fun H o R k => ⟨d, e, h1 H o, h2 H o, s1, s2, k _ H s o (by rw [hb]; exact q)⟩
theorem w2_neD {d e : PyData} {b : Bool} (h1 : DpL K H0 s x d) (h2 : DpL K H0 s y e) (s1 : SeqAt.shaped d = true) (s2 : SeqAt.shaped e = true) (hb : PyData.eqv d e = b) (q : Q (.bl (!b)) s) : W2 H0 (rNeD K) x y s Q := fun H o R k => ⟨d, e, h1 H o, h2 H o, s1, s2, k _ H s o (by rw [hb]; exact q)⟩
/-- a list of pairs -/
def PairsIn (K : PySem.W.Frag) (H : Hp) (xs : List V) (ps : List (Int × Int)) : Prop := Paired (fun x (p : Int × Int) => ∃ t, x = V.ref t ∧ SqT K H t [.int p.1, .int p.2]) xs ps
theorem PairsIn.mono {H H' : Hp} {xs : List V} {ps : List (Int × Int)} (h : PairsIn K H xs ps) (e : Ex H H') : PairsIn K H' xs ps := Paired.mapP h fun a b ⟨t, h1, h2⟩ => ⟨t, h1, ex_t e h2⟩
theorem dp_pairs {H : Hp} {a : Addr} {xs : List V} {ps : List (Int × Int)} (h : SqL K H a xs) (hp : PairsIn K H xs ps) : Dp K H (.ref a) (.list (ps.map pairD)) := by
  refine .lst h ?_
  clear h
  induction hp with
  | nil => exact .nil
  | cons r t ih =>
    obtain ⟨t, rfl, ht⟩ := r
    exact .cons (.tup ht (.cons (.int _) (.cons (.int _) .nil))) ih
variable {a b : Addr}
theorem dl_ints {ns : List Int} (h : IsL K H0 s a (ns.map V.int)) : DpL K H0 s (.ref a) (.list (ns.map PyData.int)) := fun H o => .lst (h H o) (dpAll_map (fun i => .int i) ns)
theorem w2_neLI {ns ms : List Int} (h1 : IsL K H0 s a (ns.map V.int)) (h2 : IsL K H0 s b (ms.map V.int)) (q : Q (.bl (!decide (ns = ms))) s) : W2 H0 (rNeD K) (.ref a) (.ref b) s Q :=
  w2_neD (dl_ints h1) (dl_ints h2) (shaped_map (k := 10) (fun _ => rfl) (fun _ => by simp [PyData.depth]) (by decide) _) (shaped_map (k := 10) (fun _ => rfl) (fun _ => by simp [PyData.depth]) (by decide) _) (by simp only [PyData.eqv]; exact eqvAll_map eqv_intD ns ms) q
theorem w2_neLP {ns ms : List (Int × Int)} {xs ys : List V} (h1 : IsL K H0 s a xs) (p1 : ∀ H, Own H0 H s → PairsIn K H xs ns) (h2 : IsL K H0 s b ys) (p2 : ∀ H, Own H0 H s → PairsIn K H ys ms) (q : Q (.bl (!decide (ns = ms))) s) : W2 H0 (rNeD K) (.ref a) (.ref b) s Q :=
  w2_neD (fun H o => dp_pairs (h1 H o) (p1 H o)) (fun H o => dp_pairs (h2 H o) (p2 H o)) (shaped_map (k := 10) (fun r => rfl) (fun _ => by simp [pairD, PyData.depth, PyData.depthAll]) (by decide) _) (shaped_map (k := 10) (fun r => rfl) (fun _ => by simp [pairD, PyData.depth, PyData.depthAll]) (by decide) _) (by simp only [PyData.eqv]; exact eqvAll_map eqv_pairD ns ms) q
end
section
variable {K : PySem.W.Frag} {H0 : Hp} {σ : L2.St} {s : Ld} {ta tb te tl tc td : TE} {t u : TT} {tr : TA} {x y z v : V} {r : R2} {Q : V → Ld → Prop} {D : Dl} {t1 t2 : TS} {g : TG} {i j : Int}
theorem we_chain3 {r1 r2 r3 : R2} (h : WE H0 ta σ s fun x s1 => WE H0 tb σ s1 fun y s2 => W2 H0 r1 x y s2 fun z s3 => ∃ c, z = .bl c ∧ (c = true → WE H0 tc σ s3 fun w s4 => W2 H0 r2 y w s4 fun z2 s5 => ∃ c2, z2 = .bl c2 ∧ (c2 = true → WE H0 td σ s5 fun w2 s6 => W2 H0 r3 w w2 s6 Q) ∧ (c2 = false → Q (.bl false) s5)) ∧ (c = false → Q (.bl false) s3)) : WE H0 (tChain3 r1 r2 r3 ta tb tc td) σ s Q := fun H o R k =>
  h H o _ fun x H1 s1 o1 h1 => h1 H1 o1 _ fun y H2 s2 o2 h2 => h2 H2 o2 _ fun z H3 s3 o3 ⟨c, e, h3, h4⟩ => ⟨c, e, by
    cases c with
    | false => exact k _ H3 s3 o3 (h4 rfl)
    | true => exact h3 rfl H3 o3 _ fun w H4 s4 o4 h5 => h5 H4 o4 _ fun z2 H5 s5 o5 ⟨c2, e2, h6, h7⟩ => ⟨c2, e2, by
        cases c2 with
        | false => exact k _ H5 s5 o5 (h7 rfl)
        | true => exact h6 rfl H5 o5 _ fun w2 H6 s6 o6 h8 => h8 H6 o6 R k⟩⟩
theorem we_revT (h : WE H0 te σ s fun x s1 => ∃ r : List Bool, x = .str (T r) ∧ r.length ≤ 100000 ∧ Q (.str (T r.reverse)) s1) : WE H0 (tRevT te) σ s Q := fun H o R k =>
  h H o _ fun x H1 s1 o1 ⟨r, e, hl, q⟩ => ⟨r, e, hl, k _ H1 s1 o1 q⟩
theorem we_revL (h : WE H0 te σ s fun x s1 => ∃ a xs, x = .ref a ∧ IsL K H0 s1 a xs ∧ ∀ p, H0 p = none → Q (.ref p) ⟨(p, .lst xs.reverse) :: s1.L, s1.T⟩) : WE H0 (tRevL K te) σ s Q := fun H o R k =>
  h H o _ fun x H1 s1 o1 ⟨a, xs, e, hx, q⟩ => ⟨a, xs, e, hx H1 o1, fun p hp => k _ _ _ (o1.new hp) (q p (fresh_back o1.ex hp))⟩
theorem wl_listT {a : List Bool} (hl : a.length ≤ 100000) (q : ∀ l, H0 l = none → Q (.ref l) ⟨(l, .lst (a.map fun b => .str (T [b]))) :: s.L, s.T⟩) : WL H0 aListT [.str (T a)] s Q := fun H o R k => ⟨a, rfl, hl, fun l hl => k _ _ _ (o.new hl) (q l (fresh_back o.ex hl))⟩
theorem wm_count {p : Addr} {ys : List V} (hx : IsL K H0 s p ys) (h1 : flatV y = true) (h2 : ys.all flatV = true) (q : Q (.int ((ys.countP fun z => eqV z y : Nat) : Int)) s) : WM H0 (aCount K) (.ref p) [y] s Q := fun H o R k => ⟨p, ys, y, rfl, rfl, hx H o, h1, h2, k _ H s o q⟩
theorem wi_enumT {R : It → Ld → Prop} (h : WA H0 tr σ s fun xs s1 => ∃ r : List Bool, xs = [.str (T r)] ∧ R (IteT (T r)) s1) : WI H0 (iEnumT tr) σ s R := fun H o R' k =>
  h H o _ fun x H1 s1 o1 ⟨r, e, q⟩ => ⟨r, e, k _ H1 s1 o1 q⟩
theorem walk_enumT {z : Str} : Walk (IteT z) z.cps.size (fun _ => True) (fun i H v H' => ∃ p c, v = .ref p ∧ H p = none ∧ H' = upd H p (.tup [.int (i : Nat), .str ⟨#[c]⟩]) ∧ z.cps[i]? = some c) :=
  ⟨fun _ _ hi _ => hi, fun _ _ => Nat.le_refl _, fun _ _ _ _ _ _ y => y⟩
theorem cp_enumT {r : List Bool} {tt : TT} {vs : List Nat} (F : Nat → List V) (hn : r.length ≤ 90000) (hF0 : F 0 = []) (hFl : ∀ i, i ≤ r.length → (F i).length ≤ i)
    (hs : ∀ D i b p, i < r.length → r[i]? = some b → WG H0 g (.ref p) (wipe σ vs) ⟨(D, .lst (F i)) :: s.L, (p, [.int (i : Int), .str (T [b])]) :: s.T⟩ fun σ2 s2 => wipe σ2 vs = wipe σ vs ∧ WT H0 tt σ2 s2 fun b s3 =>
      (b = true → WE H0 te σ2 s3 fun y s4 => Sub ⟨(D, .lst (F i)) :: s.L, s.T⟩ s4 ∧ F (i + 1) = F i ++ [y]) ∧ (b = false → Sub ⟨(D, .lst (F i)) :: s.L, s.T⟩ s3 ∧ F (i + 1) = F i)) (hq : ∀ D, H0 D = none → Q (.ref D) ⟨(D, .lst (F r.length)) :: s.L, s.T⟩) : CompOk H0 (IteT (T r)) g tt te σ vs s Q := by
  have e : (T r).cps.size = r.length := T_len r
  refine cp_core (n := r.length) (e ▸ walk_enumT (z := T r)) hn F hF0 hFl (fun D x H o => trivial) (fun D i v H H' hi o ⟨p, c, ev, hp, e, hc⟩ => ?_) hq
  obtain ⟨b, hb, rfl⟩ := T_at hc
  exact ⟨⟨(D, .lst (F i)) :: s.L, (p, [.int (i : Int), .str (T [b])]) :: s.T⟩, by rw [e]; exact o.newT hp, by rw [ev]; exact hs D i b p hi hb⟩
theorem wt_yes {Q : Bool → Ld → Prop} (q : Q true s) : WT H0 tYes σ s Q := fun H o R k => k true H s o q
theorem we_lstRg1 (h : WE H0 te σ s fun x s1 => ∃ n : Int, x = .int n ∧ (0 ≤ n ∧ n ≤ 100000) ∧ ∀ p, H0 p = none → Q (.ref p) ⟨(p, .lst (rgV 0 n)) :: s1.L, s1.T⟩) : WE H0 (tLstRg (tRg1 te)) σ s Q := fun H o R k =>
  h H o _ fun x H1 s1 o1 ⟨n, e, hn, q⟩ => ⟨n, e, RgOk.of_le (by omega) (by omega) (by omega) (by omega), fun p hp => k _ _ _ (o1.new hp) (q p (fresh_back o1.ex hp))⟩
end
end BM
/-! rows as lists of truths: depths, right, deeds -/
namespace BM
def sg (b : Bool) : Int := if b then 1 else -1
def hgt : List Bool → Int
  | [] => 0
  | b :: r => sg b + hgt r
theorem hgt_app : ∀ r u : List Bool, hgt (r ++ u) = hgt r + hgt u
  | [], u => by simp [hgt]
  | b :: r, u => by simp only [List.cons_append, hgt, hgt_app r u]; omega
def dps (r : List Bool) : List Int := (List.range (r.length + 1)).map fun j => hgt (r.take j)
theorem dps_len (r : List Bool) : (dps r).length = r.length + 1 := by simp [dps]
theorem dps_snoc (r : List Bool) (b : Bool) : dps (r ++ [b]) = dps r ++ [hgt r + sg b] := by
  unfold dps
  rw [List.length_append, List.range_succ, List.map_append]
  congr 1
  · have e : r.length + [b].length = r.length + 1 := rfl
    rw [e]
    apply List.map_congr_left
    intro j hj
    have := List.mem_range.mp hj
    rw [List.take_append_of_le_length (by omega)]
  · simp only [List.length_cons, List.length_nil, List.map_cons, List.map_nil]
    rw [List.take_of_length_le (by simp), hgt_app]
    simp [hgt]
theorem dps_get {r : List Bool} {j : Nat} (h : j ≤ r.length) : (dps r)[j]? = some (hgt (r.take j)) := by
  unfold dps
  rw [List.getElem?_map, List.getElem?_range (by omega)]
  rfl
theorem dps_last (r : List Bool) : (dps r)[r.length]? = some (hgt r) := by rw [dps_get (Nat.le_refl _), List.take_length]
theorem mem_dps {r : List Bool} {z : Int} : z ∈ dps r ↔ ∃ j, j ≤ r.length ∧ z = hgt (r.take j) := by
  unfold dps
  simp only [List.mem_map, List.mem_range]
  constructor
  · rintro ⟨j, h, rfl⟩
    exact ⟨j, by omega, rfl⟩
  · rintro ⟨j, h, rfl⟩
    exact ⟨j, by omega, rfl⟩
theorem take_snoc {α : Type} {l : List α} {i : Nat} {x : α} (h : l[i]? = some x) : l.take (i + 1) = l.take i ++ [x] := by
  rw [List.take_succ, h]
  rfl
/-- right -/
def isR (r : List Bool) : Bool := decide (hgt r = 0) && (dps r).all fun z => decide (0 ≤ z)
theorem isR_iff {r : List Bool} : isR r = true ↔ hgt r = 0 ∧ ∀ j, j ≤ r.length → 0 ≤ hgt (r.take j) := by
  unfold isR
  simp only [Bool.and_eq_true, decide_eq_true_eq, List.all_eq_true]
  constructor
  · rintro ⟨h1, h2⟩
    exact ⟨h1, fun j hj => h2 _ (mem_dps.mpr ⟨j, hj, rfl⟩)⟩
  · rintro ⟨h1, h2⟩
    refine ⟨h1, fun z hz => ?_⟩
    obtain ⟨j, hj, rfl⟩ := mem_dps.mp hz
    exact h2 j hj
/-- neighbours change places -/
def swp (r : List Bool) (p : Nat) : List Bool := r.take p ++ (r.drop (p + 1)).take 1 ++ (r.drop p).take 1 ++ r.drop (p + 2)
theorem swp_len {r : List Bool} {p : Nat} (h : p + 1 < r.length) : (swp r p).length = r.length := by
  unfold swp
  simp
  omega
def flp (ps : List Int) (r : List Bool) : List Bool := r.mapIdx fun i b => if ((i : Int) ∈ ps) then !b else b
theorem flp_len (ps : List Int) (r : List Bool) : (flp ps r).length = r.length := by simp [flp]
def rnd (r : List Bool) (f b : Nat) : List Bool := r.take f ++ ((r.drop f).take (b - f)).reverse ++ r.drop b
theorem rnd_len {r : List Bool} {f b : Nat} (h : f ≤ b) (h2 : b ≤ r.length) : (rnd r f b).length = r.length := by
  unfold rnd
  simp
  omega
/-- whether neighbours may change places -/
def swOk (r : List Bool) (p : Int) : Bool := decide (0 ≤ p) && decide (p < (r.length : Int) - 1) && decide (r[p.toNat]? ≠ r[p.toNat + 1]?)
def swAll : List Bool → List Int → Option (List Bool)
  | r, [] => some r
  | r, p :: ps => if swOk r p then swAll (swp r p.toNat) ps else none
theorem swAll_app : ∀ (ps qs : List Int) (r : List Bool), swAll r (ps ++ qs) = (swAll r ps).bind fun u => swAll u qs
  | [], qs, r => rfl
  | p :: ps, qs, r => by
    simp only [List.cons_append, swAll]
    split
    · exact swAll_app ps qs _
    · rfl
/-- the neighbours at p in the middle -/
theorem split_at {r : List Bool} {p : Nat} (h : p + 1 < r.length) : ∃ u v a b, r = u ++ a :: b :: v ∧ u.length = p := by
  refine ⟨r.take p, r.drop (p + 2), r[p], r[p + 1], ?_, by simp; omega⟩
  have h1 : r.drop p = r[p] :: r.drop (p + 1) := List.drop_eq_getElem_cons (by omega)
  have h2 : r.drop (p + 1) = r[p + 1] :: r.drop (p + 2) := List.drop_eq_getElem_cons h
  rw [← h2, ← h1, List.take_append_drop]
theorem swp_split (u v : List Bool) (a b : Bool) : swp (u ++ a :: b :: v) u.length = u ++ b :: a :: v := by
  unfold swp
  have e1 : (u ++ a :: b :: v).take u.length = u := by simp
  have e2 : (u ++ a :: b :: v).drop u.length = a :: b :: v := by simp
  have e3 : (u ++ a :: b :: v).drop (u.length + 1) = b :: v := by
    rw [← List.drop_drop, e2]
    rfl
  have e4 : (u ++ a :: b :: v).drop (u.length + 2) = v := by
    rw [← List.drop_drop, e2]
    rfl
  rw [e1, e2, e3, e4]
  simp
theorem swOk_split (u v : List Bool) (a b : Bool) : swOk (u ++ a :: b :: v) (u.length : Int) = decide (a ≠ b) := by
  unfold swOk
  have h1 : (0 : Int) ≤ (u.length : Int) := by omega
  have h2 : (u.length : Int) < ((u ++ a :: b :: v).length : Int) - 1 := by simp; omega
  have h3 : (u ++ a :: b :: v)[u.length]? = some a := by simp
  have h4 : (u ++ a :: b :: v)[u.length + 1]? = some b := by
    rw [List.getElem?_append_right (by omega)]
    simp
  rw [Int.toNat_natCast, h3, h4]
  simp only [h1, h2, decide_true, Bool.true_and]
  by_cases e : a = b <;> simp [e]
theorem swOk_len {r : List Bool} {p : Int} (h : swOk r p = true) : 0 ≤ p ∧ p.toNat + 1 < r.length := by
  unfold swOk at h
  simp only [Bool.and_eq_true, decide_eq_true_eq] at h
  omega
def rnAll (r : List Bool) (ps : List (Int × Int)) : List Bool := ps.foldl (fun u p => rnd u p.1.toNat p.2.toNat) r
def stOk (n : Nat) (p : Int × Int) : Prop := 0 ≤ p.1 ∧ p.1 < p.2 ∧ p.2 ≤ (n : Int)
instance (n : Nat) (p : Int × Int) : Decidable (stOk n p) := by unfold stOk; infer_instance
theorem rnAll_len : ∀ (ps : List (Int × Int)) (r : List Bool), (∀ p ∈ ps, stOk r.length p) → (rnAll r ps).length = r.length
  | [], r, _ => rfl
  | p :: ps, r, h => by
    have hp := h p List.mem_cons_self
    unfold stOk at hp
    have e : (rnd r p.1.toNat p.2.toNat).length = r.length := rnd_len (by omega) (by omega)
    show (rnAll (rnd r p.1.toNat p.2.toNat) ps).length = _
    rw [rnAll_len ps _ (fun q hq => by rw [e]; exact h q (List.mem_cons_of_mem _ hq)), e]
end BM
namespace BM
open PySem L2 Evl
/-- where the classes stand -/
structure CA where
  c_BracketError : Addr
  c_BadRow : Addr
  c_BadPlaces : Addr
  c_BadStretches : Addr
  c_BadNumber : Addr
  c_BadBracket : Addr
  c_NotSo : Addr
  c_TooMany : Addr
  c_Answer : Addr
  c_Uneven : Addr
  c_Odd : Addr
  c_Swapped : Addr
  c_Turned : Addr
  c_Rounded : Addr
  c_Growing : Addr
/-- a value is handed back that is so; all else stays -/
def spP (pre : List V → Hp → Prop) (post : List V → V → Prop) : Sp := fun vs H Q _ => pre vs H ∧ ∀ v H', post vs v → Ex H H' → Q v H'
theorem wc_P {H0 : Hp} {s : Ld} {Q : V → Ld → Prop} {pre : List V → Hp → Prop} {post : List V → V → Prop} {E : XK} {vs : List V} (h : ∀ H, Own H0 H s → pre vs H) (q : ∀ v, post vs v → Q v s) : WC H0 (spP pre post) E vs s Q := fun H o R' k => ⟨h H o, fun v H' p e => k _ _ _ (o.ext e) (q v p)⟩
theorem body_P {H : Hp} {t : TS} {N : List Str} {vs : List V} {Q : VK} {P : V → Prop} (h : WS H t (start N vs) ⟨[], []⟩ { nx := fun _ _ => P .non, rt := fun u _ => P u }) (k : ∀ v H', P v → Ex H H' → Q v H') : t { nx := fun _ H' => Q .non H', rt := Q } (start N vs) H :=
  h H (Own.start H) _ ⟨(fun σ H' s o e => k _ H' e o.ex), (fun u H' s o e => k u H' e o.ex), (fun _ _ _ _ q => q.elim), (fun _ _ _ _ q => q.elim)⟩
section
def Pairs (K : PySem.W.Frag) (H : Hp) (a : Addr) (ps : List (Int × Int)) : Prop := ∃ xs, SqL K H a xs ∧ PairsIn K H xs ps
def sp_is_whole (K : PySem.W.Frag) (C : CA) : Sp := fun vs H Q _ => ∃ x t b1 b2, vs = [x] ∧ TyX K H x t ∧ PySem.W.kitOne K t (.type "int") = some b1 ∧ PySem.W.kitOne K t (.type "bool") = some b2 ∧ ∀ H', Ex H H' → Q (.bl (b1 && !b2)) H'
def sp_asked_row (K : PySem.W.Frag) (C : CA) : Sp := spV fun vs H v => ∃ r : List Bool, vs = [.str (T r)] ∧ r.length ≤ 40 ∧ v = .non
def sp_deepens (K : PySem.W.Frag) (C : CA) : Sp := spV fun vs H v => ∃ b : Bool, vs = [.str (T [b])] ∧ v = .int (sg b)
def sp_depths_of (K : PySem.W.Frag) (C : CA) : Sp := spL fun vs H xs => ∃ r : List Bool, vs = [.str (T r)] ∧ r.length ≤ 1000 ∧ xs = (dps r).map V.int
def sp_is_right_row (K : PySem.W.Frag) (C : CA) : Sp := spV fun vs H v => ∃ r : List Bool, vs = [.str (T r)] ∧ r.length ≤ 1000 ∧ v = .bl (isR r)
def sp_flipped (K : PySem.W.Frag) (C : CA) : Sp := spV fun vs H v => ∃ b : Bool, vs = [.str (T [b])] ∧ v = .str (T [!b])
def sp_swapped (K : PySem.W.Frag) (C : CA) : Sp := spV fun vs H v => ∃ (r : List Bool) (p : Int), vs = [.str (T r), .int p] ∧ r.length ≤ 1000 ∧ 0 ≤ p ∧ p.toNat + 1 < r.length ∧ v = .str (T (swp r p.toNat))
def sp_turned (K : PySem.W.Frag) (C : CA) : Sp := spV fun vs H v => ∃ (r : List Bool) (a : Addr) (ps : List Int), vs = [.str (T r), .ref a] ∧ r.length ≤ 1000 ∧ SqL K H a (ps.map V.int) ∧ v = .str (T (flp ps r))
def sp_rounded (K : PySem.W.Frag) (C : CA) : Sp := spV fun vs H v => ∃ (r : List Bool) (f b : Int), vs = [.str (T r), .int f, .int b] ∧ r.length ≤ 1000 ∧ stOk r.length (f, b) ∧ v = .str (T (rnd r f.toNat b.toNat))
def sp_depths (K : PySem.W.Frag) (C : CA) : Sp := spL fun vs H xs => ∃ r : List Bool, vs = [.str (T r)] ∧ r.length ≤ 40 ∧ xs = (dps r).map V.int
def sp_is_right (K : PySem.W.Frag) (C : CA) : Sp := spV fun vs H v => ∃ r : List Bool, vs = [.str (T r)] ∧ r.length ≤ 40 ∧ v = .bl (isR r)
def sp_is_stretch (K : PySem.W.Frag) (C : CA) : Sp := spV fun vs H v => ∃ (r : List Bool) (t : Addr) (p : Int × Int), vs = [.str (T r), .ref t] ∧ r.length ≤ 1000 ∧ H t = some (.tup [.int p.1, .int p.2]) ∧ v = .bl (decide (stOk r.length p))
/-! the law's own -/
def sp__law_number (K : PySem.W.Frag) (C : CA) : Sp := spP (fun vs H => ∃ c a w : Int, vs = [.int c, .int a, .int w] ∧ 0 ≤ a ∧ a ≤ 1000000) fun vs v => ∃ n : Int, v = .int n
def sp__law_row (K : PySem.W.Frag) (C : CA) : Sp := spP (fun vs H => ∃ (a : Addr) (ns : List Int) (k m : Int) (e : Bool), vs = [.ref a, .int k, .int m, .bl e] ∧ SqL K H a (ns.map V.int) ∧ ns.length ≤ 63 ∧ 0 ≤ k ∧ k ≤ 1000 ∧ 0 ≤ m ∧ m ≤ 40)
  fun vs v => ∃ (a : Addr) (k m : Int) (e : Bool) (r : List Bool), vs = [.ref a, .int k, .int m, .bl e] ∧ v = .str (T r) ∧ (r.length : Int) ≤ m ∧ (e = true → hgt r = 0)
def sp__law_depths (K : PySem.W.Frag) (C : CA) : Sp := spL fun vs H xs => ∃ r : List Bool, vs = [.str (T r)] ∧ r.length ≤ 1000 ∧ xs = (dps r).map V.int
def sp__law_good (K : PySem.W.Frag) (C : CA) : Sp := spV fun vs H v => ∃ r : List Bool, vs = [.str (T r)] ∧ r.length ≤ 1000 ∧ v = .bl (isR r)
def sp__law_swap (K : PySem.W.Frag) (C : CA) : Sp := spV fun vs H v => ∃ (r : List Bool) (p : Int), vs = [.str (T r), .int p] ∧ r.length ≤ 1000 ∧ v = if swOk r p then .str (T (swp r p.toNat)) else .non
def sp__law_over (K : PySem.W.Frag) (C : CA) : Sp := spV fun vs H v => ∃ (r : List Bool) (a : Addr) (ps : List Int), vs = [.str (T r), .ref a] ∧ r.length ≤ 1000 ∧ SqL K H a (ps.map V.int) ∧ (∀ p ∈ ps, 0 ≤ p ∧ p < (r.length : Int)) ∧ v = .str (T (flp ps r))
def sp__law_round (K : PySem.W.Frag) (C : CA) : Sp := spV fun vs H v => ∃ (r : List Bool) (a : Addr) (ps : List (Int × Int)), vs = [.str (T r), .ref a] ∧ r.length ≤ 1000 ∧ Pairs K H a ps ∧ v = if (∀ p ∈ ps, stOk r.length p) then .str (T (rnAll r ps)) else .non
end
end BM
namespace BM
open PySem L2 Evl PyProof.Rows
def N_is_whole : List Str := ["thing"]
def rd_is_whole (K : PySem.W.Frag) (C_ : CA) : TS :=
    (tRet (tAndV (tCB (aIsi K "int") (tCons (tVar 0) (tCons (tC (.ty "int")) tNil))) (tNotV (tCB (aIsi K "bool") (tCons (tVar 0) (tCons (tC (.ty "bool")) tNil))))))
def N_asked_row : List Str := ["row", "one"]
def rd_asked_row (K : PySem.W.Frag) (C_ : CA) : TS :=
    (tIfS (tOr (tNot (tB (tCB (aIsi K "str") (tCons (tVar 0) (tCons (tC (.ty "str")) tNil))))) (tOr (tTest (tOp aGt (tCB aLenT (tCons (tVar 0) tNil)) (tC (.int 40)))) (tNot (tB (tCB (aAll K) (tCons (tLc (iStr (tVar 0)) (gName 1) tYes (tOp aInT (tVar 1) (tC (.str (T [true, false])))) [1]) tNil)))))) tNever tNext)
def N_deepens : List Str := ["bracket"]
def rd_deepens (K : PySem.W.Frag) (C_ : CA) : TS :=
    (tRet (tIf (tTest (tOp rEq (tVar 0) (tC (.str (T [true]))))) (tC (.int 1)) (tUn aNeg (tC (.int 1)))))
def N_depths_of : List Str := ["row", "found", "bracket"]
def rd_depths_of (K : PySem.W.Frag) (C_ : CA) : TS :=
    (tSeq (tAsg (tLst (tCons (tC (.int 0)) tNil)) (gName 1))
    (tSeq (tFor (iStr (tVar 0)) (gName 2) (tDrop (tBM K "list" rAppend (tVar 1) (tCons (tOp aAdd (tOp (rIxL K) (tVar 1) (tUn aNeg (tC (.int 1)))) (tCall (sp_deepens K C_) [] E0 (tCons (tVar 2) tNil))) tNil))))
    (tRet (tVar 1))))
def N_is_right_row : List Str := ["row", "found"]
def rd_is_right_row (K : PySem.W.Frag) (C_ : CA) : TS :=
    (tSeq (tAsg (tCall (sp_depths_of K C_) [] E0 (tCons (tVar 0) tNil)) (gName 1))
    (tRet (tAndV (tOp rEq (tOp (rIxL K) (tVar 1) (tUn aNeg (tC (.int 1)))) (tC (.int 0))) (tOp rEq (tCB (rMin K) (tCons (tVar 1) tNil)) (tC (.int 0))))))
def N_flipped : List Str := ["bracket"]
def rd_flipped (K : PySem.W.Frag) (C_ : CA) : TS :=
    (tRet (tIf (tTest (tOp rEq (tVar 0) (tC (.str (T [true]))))) (tC (.str (T [false]))) (tC (.str (T [true])))))
def N_swapped : List Str := ["row", "place"]
def rd_swapped (K : PySem.W.Frag) (C_ : CA) : TS :=
    (tRet (tOp aCatT (tOp aCatT (tOp aCatT (tSl aSlT (tVar 0) tNoPart (tPart (tVar 1))) (tOp aIxT (tVar 0) (tOp aAdd (tVar 1) (tC (.int 1))))) (tOp aIxT (tVar 0) (tVar 1))) (tSl aSlT (tVar 0) (tPart (tOp aAdd (tVar 1) (tC (.int 2)))) tNoPart)))
def N_turned : List Str := ["row", "places", "at", "one"]
def rd_turned (K : PySem.W.Frag) (C_ : CA) : TS :=
    (tRet (tBM K "str" (aJoin K) (tC (.str (T []))) (tCons (tLc (iEnumT (tCons (tVar 0) tNil)) (gTup K 2 (gCons (gName 2) (gCons (gName 3) gNil))) tYes (tIf (tTest (tOp (rIn K false) (tVar 2) (tVar 1))) (tCall (sp_flipped K C_) [] E0 (tCons (tVar 3) tNil)) (tVar 3)) [2, 3]) tNil)))
def N_rounded : List Str := ["row", "first", "behind"]
def rd_rounded (K : PySem.W.Frag) (C_ : CA) : TS :=
    (tRet (tOp aCatT (tOp aCatT (tSl aSlT (tVar 0) tNoPart (tPart (tVar 1))) (tRevT (tSl aSlT (tVar 0) (tPart (tVar 1)) (tPart (tVar 2))))) (tSl aSlT (tVar 0) (tPart (tVar 2)) tNoPart)))
def N_is_stretch : List Str := ["row", "thing", "one"]
def rd_is_stretch (K : PySem.W.Frag) (C_ : CA) : TS :=
    (tSeq (tIfS (tOr (tNot (tB (tCB (aIsi K "tuple") (tCons (tVar 1) (tCons (tC (.ty "tuple")) tNil))))) (tOr (tTest (tOp rNe (tCB (aLenL K) (tCons (tVar 1) tNil)) (tC (.int 2)))) (tNot (tB (tCB (aAll K) (tCons (tLc (iTup K (tVar 1)) (gName 2) tYes (tCall (sp_is_whole K C_) [] E0 (tCons (tVar 2) tNil)) [2]) tNil)))))) (tRet (tC (.bl false))) tNext)
    (tRet (tChain3 aLe aLt aLe (tC (.int 0)) (tOp (rIxT K) (tVar 1) (tC (.int 0))) (tOp (rIxT K) (tVar 1) (tC (.int 1))) (tCB aLenT (tCons (tVar 0) tNil)))))
def N__law_number : List Str := ["_law_cell", "_law_at", "_law_whole", "_law_small", "_law_blend", "_law_more"]
def rd__law_number (K : PySem.W.Frag) (C_ : CA) : TS :=
    (tSeq (tIfS (tTest (tOp aGe (tVar 0) (tOp aPow (tC (.int 10)) (tC (.int 18))))) (tRet (tOp aDiv (tVar 0) (tOp aAdd (tC (.int 1)) (tOp aMod (tVar 1) (tC (.int 7)))))) tNext)
    (tSeq (tAsg (tOp aMod (tVar 0) (tOp aPow (tC (.int 10)) (tC (.int 18)))) (gName 3))
    (tSeq (tAsg (tOp aMod (tOp aAdd (tOp aMul (tOp aAdd (tVar 3) (tOp aMul (tC (.int 977)) (tVar 1))) (tC (.int 48271))) (tVar 2)) (tC (.int 2147483647))) (gName 4))
    (tSeq (tAsg (tOp aMul (tVar 4) (tOp aAdd (tOp aAdd (tVar 3) (tOp aMul (tC (.int 31)) (tVar 1))) (tC (.int 7)))) (gName 5))
    (tRet (tOp aDiv (tOp aMul (tOp aMul (tVar 5) (tOp aAdd (tOp aAdd (tVar 4) (tVar 3)) (tC (.int 5)))) (tOp aAdd (tOp aMul (tVar 4) (tVar 4)) (tC (.int 11)))) (tOp aAdd (tC (.int 1009)) (tVar 1))))))))
def N__law_row : List Str := ["_law_script", "_law_by", "_law_most", "_law_even", "_law_cells", "_law_wide", "_law_at", "_law_found", "_law_more", "_law_whole", "_law_spot", "_law_cell", "_law_number_here", "_law_mixed", "_law_kinds"]
def rd__law_row (K : PySem.W.Frag) (C_ : CA) : TS :=
    (tSeq (tAsg (tIf (tTest (tOp (rNeD K) (tVar 0) (tLst tNil))) (tSl (rSlL K) (tVar 0) tNoPart (tPart (tC (.int 63)))) (tLst (tCons (tC (.int 5)) tNil))) (gName 4))
    (tSeq (tPar 9 7 (tCons (tOp aAdd (tCB aAbs (tCons (tCB (rSum K) (tCons (tVar 4) tNil)) tNil)) (tOp aMul (tC (.int 7)) (tVar 1))) (tCons (tLst tNil) tNil)))
    (tSeq (tAsg (tOp aAdd (tC (.int 1)) (tOp aMod (tOp aDiv (tVar 9) (tC (.int 5))) (tC (.int 6)))) (gName 5))
    (tSeq (tFor (iRng1 (tCons (tOp aMod (tOp aDiv (tVar 9) (tC (.int 30))) (tOp aAdd (tVar 2) (tC (.int 1)))) tNil)) (gName 6) (tSeq (tAsg (tOp aDiv (tVar 6) (tVar 5)) (gName 10))
    (tSeq (tAsg (tOp aAdd (tOp (rIxL K) (tVar 4) (tOp aMod (tOp aAdd (tVar 10) (tVar 1)) (tCB (aLenL K) (tCons (tVar 4) tNil)))) (tOp aDiv (tVar 10) (tCB (aLenL K) (tCons (tVar 4) tNil)))) (gName 11))
    (tSeq (tAsg (tOp aDiv (tCB aAbs (tCons (tCall (sp__law_number K C_) [] E0 (tCons (tVar 11) (tCons (tOp aAdd (tVar 10) (tVar 1)) (tCons (tVar 9) tNil)))) tNil)) (tC (.int 3))) (gName 12))
    (tSeq (tAsg (tCB aIntB (tCons (tOrV (tOp aGt (tOp aMod (tVar 12) (tC (.int 3))) (tC (.int 0))) (tOp rEq (tOp aMod (tVar 6) (tC (.int 2))) (tC (.int 0)))) tNil)) (gName 13))
    (tSeq (tAsg (tTup (tCons (tOp aMod (tVar 12) (tC (.int 2))) (tCons (tOp aMod (tVar 6) (tC (.int 2))) (tCons (tOp aSub (tC (.int 1)) (tOp aMod (tVar 6) (tC (.int 2)))) (tCons (tVar 13) (tCons (tCB aIntB (tCons (tOp rEq (tOp aMod (tVar 10) (tC (.int 2))) (tC (.int 0))) tNil)) tNil)))))) (gName 14))
    (tDrop (tBM K "list" rAppend (tVar 7) (tCons (tOp aIxT (tC (.str (T [true, false]))) (tOp (rIxT K) (tVar 14) (tOp aMod (tVar 9) (tC (.int 5))))) tNil)))))))))
    (tSeq (tAsg (tIf (tB (tVar 3)) (tSl (rSlL K) (tVar 7) tNoPart (tPart (tOp aMul (tOp aDiv (tCB (aLenL K) (tCons (tVar 7) tNil)) (tC (.int 2))) (tC (.int 2))))) (tVar 7)) (gName 7))
    (tSeq (tAsg (tOp aSub (tBM K "list" (aCount K) (tVar 7) (tCons (tC (.str (T [true]))) tNil)) (tBM K "list" (aCount K) (tVar 7) (tCons (tC (.str (T [false]))) tNil))) (gName 8))
    (tSeq (tFor (iRng1 (tCons (tCB (aLenL K) (tCons (tVar 7) tNil)) tNil)) (gName 6) (tSeq (tAsg (tOp aMod (tOp aAdd (tVar 6) (tVar 9)) (tCB (aLenL K) (tCons (tVar 7) tNil))) (gName 10))
    (tIfS (tAnd (tB (tVar 3)) (tAnd (tTest (tOp rNe (tVar 8) (tC (.int 0)))) (tTest (tOp rEq (tOp (rIxL K) (tVar 7) (tVar 10)) (tOp aIxT (tC (.str (T [true, false]))) (tCB aIntB (tCons (tOp aLt (tVar 8) (tC (.int 0))) tNil))))))) (tSeq (tAsg (tOp aIxT (tC (.str (T [true, false]))) (tCB aIntB (tCons (tOp aGt (tVar 8) (tC (.int 0))) tNil))) (gSub (tVar 7) (tVar 10) rSetL))
    (tAsg (tIf (tTest (tOp aGt (tVar 8) (tC (.int 0)))) (tOp aSub (tVar 8) (tC (.int 2))) (tOp aAdd (tVar 8) (tC (.int 2)))) (gName 8))) tNext)))
    (tRet (tBM K "str" (aJoin K) (tC (.str (T []))) (tCons (tVar 7) tNil))))))))))
def N__law_depths : List Str := ["_law_row_here", "_law_found", "_law_bracket"]
def rd__law_depths (K : PySem.W.Frag) (C_ : CA) : TS :=
    (tSeq (tAsg (tLst (tCons (tC (.int 0)) tNil)) (gName 1))
    (tSeq (tFor (iStr (tVar 0)) (gName 2) (tDrop (tBM K "list" rAppend (tVar 1) (tCons (tOp aAdd (tOp (rIxL K) (tVar 1) (tUn aNeg (tC (.int 1)))) (tIf (tTest (tOp rEq (tVar 2) (tC (.str (T [true]))))) (tC (.int 1)) (tUn aNeg (tC (.int 1))))) tNil))))
    (tRet (tVar 1))))
def N__law_good : List Str := ["_law_row_here", "_law_stack", "_law_bracket"]
def rd__law_good (K : PySem.W.Frag) (C_ : CA) : TS :=
    (tSeq (tAsg (tC (.int 0)) (gName 1))
    (tSeq (tFor (iStr (tVar 0)) (gName 2) (tSeq (tAsg (tIf (tTest (tOp rEq (tVar 2) (tC (.str (T [true]))))) (tOp aAdd (tVar 1) (tC (.int 1))) (tOp aSub (tVar 1) (tC (.int 1)))) (gName 1))
    (tIfS (tTest (tOp aLt (tVar 1) (tC (.int 0)))) (tRet (tC (.bl false))) tNext)))
    (tRet (tOp rEq (tVar 1) (tC (.int 0))))))
def N__law_swap : List Str := ["_law_row_here", "_law_place", "_law_pair"]
def rd__law_swap (K : PySem.W.Frag) (C_ : CA) : TS :=
    (tSeq (tIfS (tOr (tNot (tTest (tChain aLe aLt (tC (.int 0)) (tVar 1) (tOp aSub (tCB aLenT (tCons (tVar 0) tNil)) (tC (.int 1)))))) (tTest (tOp rEq (tOp aIxT (tVar 0) (tVar 1)) (tOp aIxT (tVar 0) (tOp aAdd (tVar 1) (tC (.int 1))))))) (tRet (tC .non)) tNext)
    (tSeq (tAsg (tOp aCatT (tOp aIxT (tVar 0) (tOp aAdd (tVar 1) (tC (.int 1)))) (tOp aIxT (tVar 0) (tVar 1))) (gName 2))
    (tRet (tOp aCatT (tOp aCatT (tSl aSlT (tVar 0) tNoPart (tPart (tVar 1))) (tVar 2)) (tSl aSlT (tVar 0) (tPart (tOp aAdd (tVar 1) (tC (.int 2)))) tNoPart)))))
def N__law_over : List Str := ["_law_row_here", "_law_places", "_law_found", "_law_at"]
def rd__law_over (K : PySem.W.Frag) (C_ : CA) : TS :=
    (tSeq (tAsg (tCB aListT (tCons (tVar 0) tNil)) (gName 2))
    (tSeq (tFor (iList K (tVar 1)) (gName 3) (tAsg (tOp aIxT (tC (.str (T [true, false]))) (tCB aIntB (tCons (tOp rEq (tOp aIxT (tVar 0) (tVar 3)) (tC (.str (T [true])))) tNil))) (gSub (tVar 2) (tVar 3) rSetL)))
    (tRet (tBM K "str" (aJoin K) (tC (.str (T []))) (tCons (tVar 2) tNil)))))
def N__law_round : List Str := ["_law_row_here", "_law_stretches", "_law_first", "_law_behind", "_law_part", "_law_at"]
def rd__law_round (K : PySem.W.Frag) (C_ : CA) : TS :=
    (tSeq (tFor (iList K (tVar 1)) (gTup K 2 (gCons (gName 2) (gCons (gName 3) gNil))) (tSeq (tIfS (tNot (tTest (tChain3 aLe aLt aLe (tC (.int 0)) (tVar 2) (tVar 3) (tCB aLenT (tCons (tVar 0) tNil))))) (tRet (tC .non)) tNext)
    (tSeq (tAsg (tLc (iRng3 (tCons (tOp aSub (tVar 3) (tC (.int 1))) (tCons (tOp aSub (tVar 2) (tC (.int 1))) (tCons (tUn aNeg (tC (.int 1))) tNil)))) (gName 5) tYes (tOp aIxT (tVar 0) (tVar 5)) [5]) (gName 4))
    (tAsg (tOp aCatT (tOp aCatT (tSl aSlT (tVar 0) tNoPart (tPart (tVar 2))) (tBM K "str" (aJoin K) (tC (.str (T []))) (tCons (tVar 4) tNil))) (tSl aSlT (tVar 0) (tPart (tVar 3)) tNoPart)) (gName 0)))))
    (tRet (tVar 0)))
end BM
namespace BM
open PySem L2 Evl
local macro_rules | `(tactic| walk_at "mem") => `(tactic| first | exact List.mem_cons_self | (refine List.mem_cons_of_mem _ ?_; walk_at "mem"))
local macro_rules | `(tactic| walk_at "swap") => `(tactic| first | exact Swap.here | (refine Swap.there ?_; walk_at "swap"))
local macro_rules | `(tactic| walk_at "subl") => `(tactic| first | exact List.Sublist.refl _ | exact List.nil_sublist _ | (refine List.Sublist.cons_cons _ ?_; walk_at "subl") | (refine List.Sublist.cons _ ?_; walk_at "subl"))
local macro_rules | `(tactic| walk_at "sub") => `(tactic| first | exact Sub.refl _ | (refine ⟨?_, ?_⟩ <;> walk_at "subl"))
local macro_rules | `(tactic| walk_at "isl") => `(tactic| first | exact isL_own (by walk_at "mem") | exact isL_old (by assumption) | assumption)
local macro_rules | `(tactic| walk_at "ist") => `(tactic| first | exact isT_own (by walk_at "mem") | exact isT_old (by assumption) | assumption)
local macro_rules | `(tactic| walk_at "len") => `(tactic| first | omega | decide | (simp only [List.length_map, List.length_take, List.length_drop, List.length_append, List.length_cons, List.length_nil, List.length_reverse, dps_len, flp_len]; omega) | (simp [dps_len, flp_len]; omega) | simp)
local macro_rules | `(tactic| walk_at "b0") => `(tactic| first
  | with_reducible refine' ws_set ?_
  | with_reducible refine' ws_par ?_
  | with_reducible refine' ws_asg ?_
  | with_reducible refine' ws_drop ?_
  | with_reducible refine' ws_ret ?_
  | with_reducible refine' ws_if ?_
  | with_reducible refine' ws_next ?_
  | with_reducible refine' ws_brk ?_
  | with_reducible refine' ws_cont ?_
  | ((with_reducible refine' we_var ?hv ?_); case hv => rfl)
  | with_reducible refine' we_c ?_
  | with_reducible refine' we_op ?_
  | with_reducible refine' we_un ?_
  | with_reducible refine' we_if ?_
  | with_reducible refine' we_and ?_
  | with_reducible refine' we_or ?_
  | with_reducible refine' we_not ?_
  | with_reducible refine' wa_nil ?_
  | with_reducible refine' wa_cons ?_
  | (with_reducible refine' we_lst ?_)
  | (with_reducible refine' we_tup ?_)
  | with_reducible refine' we_cb ?_
  | with_reducible refine' we_call0 ?_
  | with_reducible refine' we_sl ?_
  | with_reducible refine' wo_none ?_
  | (with_reducible refine' wo_some ?_)
  | with_reducible refine' wt_test ?_
  | with_reducible refine' wt_B ?_
  | with_reducible refine' wt_and ?_
  | with_reducible refine' wt_or ?_
  | with_reducible refine' wt_not ?_
  | with_reducible refine' wt_yes ?_
  | with_reducible refine' we_chain ?_
  | with_reducible refine' we_chain3 ?_
  | with_reducible refine' we_revT ?_
  | with_reducible refine' we_revL ?_
  | with_reducible refine' we_bm ?_
  | with_reducible refine' we_bm0 ?_
  | with_reducible refine' ws_for ?_
  | with_reducible refine' we_lc ?_
  | with_reducible refine' wi_list ?_
  | with_reducible refine' wi_tup ?_
  | with_reducible refine' wi_T ?_
  | with_reducible refine' wi_rng1 ?_
  | with_reducible refine' wi_rng2 ?_
  | with_reducible refine' wi_rng3 ?_
  | with_reducible refine' wi_enum ?_
  | with_reducible refine' wi_enumT ?_
  | with_reducible refine' wi_zip ?_
  | with_reducible refine' wg_name ?_
  | with_reducible refine' wg_sub ?_
  | with_reducible refine' wgs_nil ?_
  | with_reducible refine' wgs_cons ?_
  | ((with_reducible refine' wg_tup ?ht ?hn ?_); (case ht => walk_at "ist"); (case hn => rfl))
  | with_reducible refine' w2_add ?_
  | with_reducible refine' w2_sub ?_
  | with_reducible refine' w2_lt ?_
  | with_reducible refine' w2_le ?_
  | with_reducible refine' w2_gt ?_
  | with_reducible refine' w2_ge ?_
  | with_reducible refine' w2_eqI ?_
  | with_reducible refine' w2_neI ?_
  | with_reducible refine' w2_eqT ?_
  | with_reducible refine' w2_neT ?_
  | with_reducible refine' w2_eqB ?_
  | with_reducible refine' w2_neB ?_
  | with_reducible refine' w2_isN ?_
  | with_reducible refine' w2_notN ?_
  | with_reducible refine' w2_isB ?_
  | with_reducible refine' w2_inT ?_
  | with_reducible refine' w1_neg ?_
  | with_reducible refine' wl_abs ?_
  | with_reducible refine' wl_max2 ?_
  | with_reducible refine' wl_min2 ?_
  | with_reducible refine' wl_intB ?_
  | ((with_reducible refine' w2_div ?h ?_); case h => first | omega | (constructor <;> omega))
  | ((with_reducible refine' w2_mod ?h ?_); case h => omega)
  | ((with_reducible refine' w2_catT ?h ?_); case h => walk_at "len")
  | ((with_reducible refine' wsl_T ?h ?_); case h => walk_at "len")
  | ((with_reducible refine' wl_lenT ?h ?_); case h => walk_at "len")
  | ((with_reducible refine' wl_len ?h ?_); case h => walk_at "isl")
  | ((with_reducible refine' wl_len ?h ?_); case h => walk_at "isl")
  | ((with_reducible refine' wm_append ?sw ?hl ?_); (case sw => walk_at "swap"); (case hl => walk_at "len")))
local macro_rules | `(tactic| walk_at "b1") => `(tactic| first | with_reducible refine' ws_seq ?_ | walk_at "b0")
local macro_rules | `(tactic| walk_at "bx") => `(tactic| first
  | refine ⟨_, rfl, ?_⟩
  | refine ⟨_, _, rfl, ?_⟩
  | refine ⟨ty_L (by walk_at "isl"), ?_⟩
  | refine ⟨ty_S, ?_⟩
  | refine spl_t (by rfl) ?_
  | refine spl_f (by rfl) ?_
  | exact rfl)
local macro_rules | `(tactic| walk_at "bm") => `(tactic| repeat (first | walk_at "b1" | walk_at "bx"))
local macro_rules | `(tactic| walk_at "bn") => `(tactic| repeat (first | walk_at "b0" | walk_at "bx"))
theorem atI_m1 {α : Type} {xs : List α} {v : α} (h : xs[xs.length - 1]? = some v) : atI xs (-1) = some v := by
  unfold atI ixN
  have hl : xs.length - 1 < xs.length := (List.getElem?_eq_some_iff.mp h).1
  rw [if_neg (by decide), if_pos (by omega)]
  have e : ((-1 : Int) + (xs.length : Int)).toNat = xs.length - 1 := by omega
  rw [e]
  exact h
theorem dps_m1 (r : List Bool) : atI ((dps r).map V.int) (-1) = some (.int (hgt r)) := by
  apply atI_m1
  rw [List.length_map, dps_len, List.getElem?_map]
  have : r.length + 1 - 1 = r.length := by omega
  rw [this, dps_last]
  rfl
theorem atI_of {α : Type} {xs : List α} {v : α} {i : Int} (h0 : 0 ≤ i) (h : xs[i.toNat]? = some v) : atI xs i = some v := by
  have e : i = (i.toNat : Int) := by omega
  rw [e]
  exact atI_nat h
theorem tyX_mono {K : PySem.W.Frag} {H H' : Hp} {x : V} {t : Value} (e : Ex H H') (h : TyX K H x t) : TyX K H' x t := by
  cases h with
  | base h =>
    cases h with
    | non => exact .base .non
    | bl b => exact .base (.bl b)
    | int i => exact .base (.int i)
    | str z => exact .base (.str z)
    | flt z => exact .base (.flt z)
    | lst h => exact .base (.lst (e _ _ h))
    | frz h => exact .base (.frz (e _ _ h))
    | tup h => exact .base (.tup (e _ _ h))
    | dK h => exact .base (.dK (e _ _ h))
    | dT h => exact .base (.dT (e _ _ h))
    | ins h cl ha hn ht hm => exact .base (.ins (e _ _ h) cl ha hn ht hm)
  | byt b => exact .byt b
  | set h => exact .set (e _ _ h)
  | kList h c => exact .kList h c
  | kTuple h c => exact .kTuple h c
  | kDict h c => exact .kDict h c
  | fTuple h => exact .fTuple (e _ _ h)
  | fDict h => exact .fDict (e _ _ h)
theorem ln_deepens {K : PySem.W.Frag} {C : CA} {vs : List V} {H : Hp} {Q : VK} {E : XK} (h : sp_deepens K C vs H Q E) : vs.length = 1 := by
  obtain ⟨v, ⟨b, rfl, _⟩, _⟩ := h
  rfl
theorem c_deepens {K : PySem.W.Frag} {C : CA} {H0 : Hp} {s : Ld} {Q : V → Ld → Prop} {E : XK} {b : Bool} (q : Q (.int (sg b)) s) : WC H0 (sp_deepens K C) E [.str (T [b])] s Q := wc_V (fun H o => ⟨b, rfl, rfl⟩) q
theorem pu_deepens {K : PySem.W.Frag} {C : CA} {vs : List V} {H : Hp} {Q : VK} {E : XK} (h : sp_deepens K C vs H Q E) : rd_deepens K C { nx := fun _ H' => Q .non H', rt := Q } (start N_deepens vs) H := by
  obtain ⟨v, ⟨b, rfl, rfl⟩, k⟩ := h
  refine body_V ?_ k
  unfold rd_deepens
  walk_at "bm"
  cases b
  · refine ⟨fun hc => absurd hc (by decide), fun hc => ?_⟩
    walk_at "bm"
  · refine ⟨fun hc => ?_, fun hc => absurd hc (by decide)⟩
    walk_at "bm"
local macro_rules | `(tactic| walk_at "b0") => `(tactic| with_reducible refine' c_deepens ?_)
theorem ln_depths_of {K : PySem.W.Frag} {C : CA} {vs : List V} {H : Hp} {Q : VK} {E : XK} (h : sp_depths_of K C vs H Q E) : vs.length = 1 := by
  obtain ⟨v, ⟨b, rfl, _⟩, _⟩ := h
  rfl
theorem pu_depths_of {K : PySem.W.Frag} {C : CA} {vs : List V} {H : Hp} {Q : VK} {E : XK} (h : sp_depths_of K C vs H Q E) : rd_depths_of K C { nx := fun _ H' => Q .non H', rt := Q } (start N_depths_of vs) H := by
  obtain ⟨v, ⟨r, rfl, hl, rfl⟩, k⟩ := h
  refine body_L ?_ k
  unfold rd_depths_of
  walk_at "bm"
  refine ⟨by decide, fun p hp => ?_⟩
  walk_at "bm"
  refine lp_T (fun i σ s => ∃ b, σ = [some (.str (T r)), some (.ref p), b] ∧ s = ⟨[(p, .lst ((dps (r.take i)).map V.int))], []⟩) rfl ⟨none, rfl, rfl⟩ ?_ ?_
  · rintro i b σ s hi hb ⟨b0, rfl, rfl⟩
    walk_at "bm"
    refine w2_ixL (by walk_at "isl") (dps_m1 _) ?_
    walk_at "bm"
    refine ⟨_, Sub.refl _, _, rfl, ?_⟩
    rw [take_snoc hb, dps_snoc, List.map_append]
    rfl
  · rintro σ s ⟨b0, rfl, rfl⟩
    walk_at "bm"
    rw [List.take_length]
    exact List.mem_cons_self
theorem c_depths_of {K : PySem.W.Frag} {C : CA} {H0 : Hp} {s : Ld} {Q : V → Ld → Prop} {E : XK} {r : List Bool} (hl : r.length ≤ 1000) (q : ∀ p, H0 p = none → Q (.ref p) ⟨(p, .lst ((dps r).map V.int)) :: s.L, s.T⟩) : WC H0 (sp_depths_of K C) E [.str (T r)] s Q := wc_L (fun H o => ⟨r, rfl, hl, rfl⟩) q
local macro_rules | `(tactic| walk_at "b0") => `(tactic| ((with_reducible refine' c_depths_of ?hl ?_); (case hl => walk_at "len")))
/-- is_whole of an int -/
theorem ln_is_whole {K : PySem.W.Frag} {C : CA} {vs : List V} {H : Hp} {Q : VK} {E : XK} (h : sp_is_whole K C vs H Q E) : vs.length = 1 := by
  obtain ⟨x, t, b1, b2, rfl, _⟩ := h
  rfl
theorem pu_is_whole {K : PySem.W.Frag} {C : CA} {vs : List V} {H : Hp} {Q : VK} {E : XK} (h : sp_is_whole K C vs H Q E) : rd_is_whole K C { nx := fun _ H' => Q .non H', rt := Q } (start N_is_whole vs) H := by
  obtain ⟨x, t, b1, b2, rfl, ty, h1, h2, k⟩ := h
  refine body_V (v := .bl (b1 && !b2)) ?_ k
  unfold rd_is_whole
  walk_at "bm"
  refine wl_isi (tv := t) (b := b1) ?_ h1 ?_
  · intro H' o
    exact tyX_mono o.ex ty
  refine ⟨_, rfl, fun hc => ?_, fun hc => ?_⟩
  · walk_at "bm"
    refine wl_isi (tv := t) (b := b2) ?_ h2 ?_
    · intro H' o
      exact tyX_mono o.ex ty
    refine ⟨_, rfl, ?_⟩
    rw [hc]
    rfl
  · rw [hc]
    rfl
theorem c_is_wholeI {K : PySem.W.Frag} {C : CA} {H0 : Hp} {s : Ld} {Q : V → Ld → Prop} {E : XK} {i : Int} (q : Q (.bl true) s) : WC H0 (sp_is_whole K C) E [.int i] s Q := fun H o R k =>
  ⟨.int i, _, true, false, rfl, .base (.int i), kit_ty (by decide +kernel), kit_ty (by decide +kernel), fun H' e => k _ _ _ (o.ext e) q⟩
local macro_rules | `(tactic| walk_at "b0") => `(tactic| with_reducible refine' c_is_wholeI ?_)
theorem ln_flipped {K : PySem.W.Frag} {C : CA} {vs : List V} {H : Hp} {Q : VK} {E : XK} (h : sp_flipped K C vs H Q E) : vs.length = 1 := by
  obtain ⟨v, ⟨b, rfl, _⟩, _⟩ := h
  rfl
theorem pu_flipped {K : PySem.W.Frag} {C : CA} {vs : List V} {H : Hp} {Q : VK} {E : XK} (h : sp_flipped K C vs H Q E) : rd_flipped K C { nx := fun _ H' => Q .non H', rt := Q } (start N_flipped vs) H := by
  obtain ⟨v, ⟨b, rfl, rfl⟩, k⟩ := h
  refine body_V ?_ k
  unfold rd_flipped
  walk_at "bm"
  cases b
  · refine ⟨fun hc => absurd hc (by decide), fun hc => ?_⟩
    walk_at "bm"
  · refine ⟨fun hc => ?_, fun hc => absurd hc (by decide)⟩
    walk_at "bm"
theorem c_flipped {K : PySem.W.Frag} {C : CA} {H0 : Hp} {s : Ld} {Q : V → Ld → Prop} {E : XK} {b : Bool} (q : Q (.str (T [!b])) s) : WC H0 (sp_flipped K C) E [.str (T [b])] s Q := wc_V (fun H o => ⟨b, rfl, rfl⟩) q
local macro_rules | `(tactic| walk_at "b0") => `(tactic| with_reducible refine' c_flipped ?_)
theorem ln_is_right_row {K : PySem.W.Frag} {C : CA} {vs : List V} {H : Hp} {Q : VK} {E : XK} (h : sp_is_right_row K C vs H Q E) : vs.length = 1 := by
  obtain ⟨v, ⟨b, rfl, _⟩, _⟩ := h
  rfl
theorem min_dps {r : List Bool} {m : Int} (h1 : m ∈ dps r) (h2 : ∀ y, y ∈ dps r → m ≤ y) (hz : hgt r = 0) : decide (m = 0) = (dps r).all fun z => decide (0 ≤ z) := by
  have h0 : (0 : Int) ∈ dps r := mem_dps.mpr ⟨0, Nat.zero_le _, rfl⟩
  have h3 := h2 0 h0
  by_cases e : m = 0
  · subst e
    rw [decide_eq_true rfl]
    symm
    rw [List.all_eq_true]
    intro z hz
    exact decide_eq_true (h2 z hz)
  · rw [decide_eq_false e]
    symm
    rw [List.all_eq_false]
    exact ⟨m, h1, by simp; omega⟩
theorem pu_is_right_row {K : PySem.W.Frag} {C : CA} {vs : List V} {H : Hp} {Q : VK} {E : XK} (h : sp_is_right_row K C vs H Q E) : rd_is_right_row K C { nx := fun _ H' => Q .non H', rt := Q } (start N_is_right_row vs) H := by
  obtain ⟨v, ⟨r, rfl, hl, rfl⟩, k⟩ := h
  refine body_V ?_ k
  unfold rd_is_right_row
  walk_at "bm"
  intro p hp
  walk_at "bm"
  refine w2_ixL (by walk_at "isl") (dps_m1 _) ?_
  walk_at "bm"
  refine ⟨fun hc => ?_, fun hc => ?_⟩
  · walk_at "bm"
    refine wl_min (by walk_at "isl") (by rw [dps_len]; omega) fun m h1 h2 => ?_
    walk_at "bm"
    have hz : hgt r = 0 := of_decide_eq_true hc
    show V.bl _ = V.bl _
    unfold isR
    rw [hc, min_dps h1 h2 hz]
    rfl
  · show V.bl _ = V.bl _
    unfold isR
    rw [hc]
    rfl
theorem c_is_right_row {K : PySem.W.Frag} {C : CA} {H0 : Hp} {s : Ld} {Q : V → Ld → Prop} {E : XK} {r : List Bool} (hl : r.length ≤ 1000) (q : Q (.bl (isR r)) s) : WC H0 (sp_is_right_row K C) E [.str (T r)] s Q := wc_V (fun H o => ⟨r, rfl, hl, rfl⟩) q
local macro_rules | `(tactic| walk_at "b0") => `(tactic| ((with_reducible refine' c_is_right_row ?hl ?_); (case hl => walk_at "len")))
end BM
namespace BM
open PySem L2 Evl
local macro_rules | `(tactic| walk_at "mem") => `(tactic| first | exact List.mem_cons_self | (refine List.mem_cons_of_mem _ ?_; walk_at "mem"))
local macro_rules | `(tactic| walk_at "swap") => `(tactic| first | exact Swap.here | (refine Swap.there ?_; walk_at "swap"))
local macro_rules | `(tactic| walk_at "subl") => `(tactic| first | exact List.Sublist.refl _ | exact List.nil_sublist _ | (refine List.Sublist.cons_cons _ ?_; walk_at "subl") | (refine List.Sublist.cons _ ?_; walk_at "subl"))
local macro_rules | `(tactic| walk_at "sub") => `(tactic| first | exact Sub.refl _ | (refine ⟨?_, ?_⟩ <;> walk_at "subl"))
local macro_rules | `(tactic| walk_at "isl") => `(tactic| first | exact isL_own (by walk_at "mem") | exact isL_old (by assumption) | assumption)
local macro_rules | `(tactic| walk_at "ist") => `(tactic| first | exact isT_own (by walk_at "mem") | exact isT_old (by assumption) | assumption)
local macro_rules | `(tactic| walk_at "len") => `(tactic| first | omega | decide | (simp only [List.length_map, List.length_take, List.length_drop, List.length_append, List.length_cons, List.length_nil, List.length_reverse, dps_len, flp_len]; omega) | (simp [dps_len, flp_len]; omega) | simp)
local macro_rules | `(tactic| walk_at "b0") => `(tactic| first
  | with_reducible refine' ws_set ?_
  | with_reducible refine' ws_par ?_
  | with_reducible refine' ws_asg ?_
  | with_reducible refine' ws_drop ?_
  | with_reducible refine' ws_ret ?_
  | with_reducible refine' ws_if ?_
  | with_reducible refine' ws_next ?_
  | with_reducible refine' ws_brk ?_
  | with_reducible refine' ws_cont ?_
  | ((with_reducible refine' we_var ?hv ?_); case hv => rfl)
  | with_reducible refine' we_c ?_
  | with_reducible refine' we_op ?_
  | with_reducible refine' we_un ?_
  | with_reducible refine' we_if ?_
  | with_reducible refine' we_and ?_
  | with_reducible refine' we_or ?_
  | with_reducible refine' we_not ?_
  | with_reducible refine' wa_nil ?_
  | with_reducible refine' wa_cons ?_
  | (with_reducible refine' we_lst ?_)
  | (with_reducible refine' we_tup ?_)
  | with_reducible refine' we_cb ?_
  | with_reducible refine' we_call0 ?_
  | with_reducible refine' we_sl ?_
  | with_reducible refine' wo_none ?_
  | (with_reducible refine' wo_some ?_)
  | with_reducible refine' wt_test ?_
  | with_reducible refine' wt_B ?_
  | with_reducible refine' wt_and ?_
  | with_reducible refine' wt_or ?_
  | with_reducible refine' wt_not ?_
  | with_reducible refine' wt_yes ?_
  | with_reducible refine' we_chain ?_
  | with_reducible refine' we_chain3 ?_
  | with_reducible refine' we_revT ?_
  | with_reducible refine' we_revL ?_
  | with_reducible refine' we_bm ?_
  | with_reducible refine' we_bm0 ?_
  | with_reducible refine' ws_for ?_
  | with_reducible refine' we_lc ?_
  | with_reducible refine' wi_list ?_
  | with_reducible refine' wi_tup ?_
  | with_reducible refine' wi_T ?_
  | with_reducible refine' wi_rng1 ?_
  | with_reducible refine' wi_rng2 ?_
  | with_reducible refine' wi_rng3 ?_
  | with_reducible refine' wi_enum ?_
  | with_reducible refine' wi_enumT ?_
  | with_reducible refine' wi_zip ?_
  | with_reducible refine' wg_name ?_
  | with_reducible refine' wg_sub ?_
  | with_reducible refine' wgs_nil ?_
  | with_reducible refine' wgs_cons ?_
  | ((with_reducible refine' wg_tup ?ht ?hn ?_); (case ht => walk_at "ist"); (case hn => rfl))
  | with_reducible refine' w2_add ?_
  | with_reducible refine' w2_sub ?_
  | with_reducible refine' w2_lt ?_
  | with_reducible refine' w2_le ?_
  | with_reducible refine' w2_gt ?_
  | with_reducible refine' w2_ge ?_
  | with_reducible refine' w2_eqI ?_
  | with_reducible refine' w2_neI ?_
  | with_reducible refine' w2_eqT ?_
  | with_reducible refine' w2_neT ?_
  | with_reducible refine' w2_eqB ?_
  | with_reducible refine' w2_neB ?_
  | with_reducible refine' w2_isN ?_
  | with_reducible refine' w2_notN ?_
  | with_reducible refine' w2_isB ?_
  | with_reducible refine' w2_inT ?_
  | with_reducible refine' w1_neg ?_
  | with_reducible refine' wl_abs ?_
  | with_reducible refine' wl_max2 ?_
  | with_reducible refine' wl_min2 ?_
  | with_reducible refine' wl_intB ?_
  | ((with_reducible refine' w2_div ?h ?_); case h => first | omega | (constructor <;> omega))
  | ((with_reducible refine' w2_mod ?h ?_); case h => omega)
  | ((with_reducible refine' w2_catT ?h ?_); case h => walk_at "len")
  | ((with_reducible refine' wsl_T ?h ?_); case h => walk_at "len")
  | ((with_reducible refine' wl_lenT ?h ?_); case h => walk_at "len")
  | ((with_reducible refine' wl_len ?h ?_); case h => walk_at "isl")
  | ((with_reducible refine' wl_len ?h ?_); case h => walk_at "isl")
  | ((with_reducible refine' wm_append ?sw ?hl ?_); (case sw => walk_at "swap"); (case hl => walk_at "len")))
local macro_rules | `(tactic| walk_at "b1") => `(tactic| first | with_reducible refine' ws_seq ?_ | walk_at "b0")
local macro_rules | `(tactic| walk_at "bx") => `(tactic| first
  | refine ⟨_, rfl, ?_⟩
  | refine ⟨_, _, rfl, ?_⟩
  | refine ⟨ty_L (by walk_at "isl"), ?_⟩
  | refine ⟨ty_S, ?_⟩
  | refine spl_t (by rfl) ?_
  | refine spl_f (by rfl) ?_
  | exact rfl)
local macro_rules | `(tactic| walk_at "bm") => `(tactic| repeat (first | walk_at "b1" | walk_at "bx"))
local macro_rules | `(tactic| walk_at "bn") => `(tactic| repeat (first | walk_at "b0" | walk_at "bx"))
local macro_rules | `(tactic| walk_at "b0") => `(tactic| with_reducible refine' c_deepens ?_)
local macro_rules | `(tactic| walk_at "b0") => `(tactic| ((with_reducible refine' c_depths_of ?hl ?_); (case hl => walk_at "len")))
local macro_rules | `(tactic| walk_at "b0") => `(tactic| with_reducible refine' c_is_wholeI ?_)
local macro_rules | `(tactic| walk_at "b0") => `(tactic| with_reducible refine' c_flipped ?_)
local macro_rules | `(tactic| walk_at "b0") => `(tactic| ((with_reducible refine' c_is_right_row ?hl ?_); (case hl => walk_at "len")))
theorem sIx_some {n d : Nat} {v : Int} (h : 0 ≤ v) : HT.sIx n d (some v) = min v.toNat n := by
  unfold HT.sIx
  simp only
  rw [if_neg (by omega)]
theorem cut_hi {α : Type} {r : List α} {p : Int} (h : 0 ≤ p) : cutL r none (some p) = r.take p.toNat := by
  unfold cutL
  rw [sIx_some h, HT.sIx_none, List.drop_zero, Nat.sub_zero]
  rcases Nat.le_total p.toNat r.length with h1 | h1
  · rw [Nat.min_eq_left h1]
  · rw [Nat.min_eq_right h1, List.take_of_length_le h1, List.take_of_length_le (Nat.le_refl _)]
theorem cut_lo {α : Type} {r : List α} {p : Int} (h : 0 ≤ p) : cutL r (some p) none = r.drop p.toNat := by
  unfold cutL
  rw [sIx_some h, HT.sIx_none, List.take_of_length_le (by simp)]
  rcases Nat.le_total p.toNat r.length with h1 | h1
  · rw [Nat.min_eq_left h1]
  · rw [Nat.min_eq_right h1, List.drop_of_length_le h1, List.drop_of_length_le (Nat.le_refl _)]
theorem cut_both {α : Type} {r : List α} {f b : Int} (h : 0 ≤ f) (h1 : f ≤ b) (h2 : b ≤ r.length) : cutL r (some f) (some b) = (r.drop f.toNat).take (b.toNat - f.toNat) := by
  unfold cutL
  rw [sIx_some h, sIx_some (by omega), Nat.min_eq_left (by omega), Nat.min_eq_left (by omega)]
theorem drop_take_one {α : Type} {r : List α} {i : Nat} {x : α} (h : r[i]? = some x) : (r.drop i).take 1 = [x] := by
  have hi : i < r.length := (List.getElem?_eq_some_iff.mp h).1
  rw [List.drop_eq_getElem_cons hi]
  have : r[i] = x := (List.getElem?_eq_some_iff.mp h).2
  rw [this]
  rfl
theorem get_some {α : Type} {r : List α} {i : Nat} (h : i < r.length) : ∃ x, r[i]? = some x := ⟨r[i], List.getElem?_eq_getElem h⟩
theorem ln_swapped {K : PySem.W.Frag} {C : CA} {vs : List V} {H : Hp} {Q : VK} {E : XK} (h : sp_swapped K C vs H Q E) : vs.length = 2 := by
  obtain ⟨v, ⟨b, p, rfl, _⟩, _⟩ := h
  rfl
theorem pu_swapped {K : PySem.W.Frag} {C : CA} {vs : List V} {H : Hp} {Q : VK} {E : XK} (h : sp_swapped K C vs H Q E) : rd_swapped K C { nx := fun _ H' => Q .non H', rt := Q } (start N_swapped vs) H := by
  obtain ⟨v, ⟨r, p, rfl, hl, h0, h1, rfl⟩, k⟩ := h
  refine body_V ?_ k
  unfold rd_swapped
  obtain ⟨x, hx⟩ := get_some (r := r) (i := p.toNat) (by omega)
  obtain ⟨y, hy⟩ := get_some (r := r) (i := p.toNat + 1) (by omega)
  walk_at "bm"
  rw [cut_hi h0]
  walk_at "bm"
  refine w2_ixT (b := y) (by omega) (atI_of (by omega) (by rw [show (p + 1).toNat = p.toNat + 1 by omega]; exact hy)) ?_
  walk_at "bm"
  refine w2_ixT (b := x) (by omega) (atI_of (by omega) hx) ?_
  walk_at "bm"
  rw [cut_lo (by omega)]
  walk_at "bm"
  show V.str (T _) = V.str (T _)
  unfold swp
  rw [drop_take_one hy, drop_take_one hx, show (p + 2).toNat = p.toNat + 2 by omega]
theorem c_swapped {K : PySem.W.Frag} {C : CA} {H0 : Hp} {s : Ld} {Q : V → Ld → Prop} {E : XK} {r : List Bool} {p : Int} (hl : r.length ≤ 1000) (h0 : 0 ≤ p ∧ p.toNat + 1 < r.length) (q : Q (.str (T (swp r p.toNat))) s) : WC H0 (sp_swapped K C) E [.str (T r), .int p] s Q := wc_V (fun H o => ⟨r, p, rfl, hl, h0.1, h0.2, rfl⟩) q
theorem ln_rounded {K : PySem.W.Frag} {C : CA} {vs : List V} {H : Hp} {Q : VK} {E : XK} (h : sp_rounded K C vs H Q E) : vs.length = 3 := by
  obtain ⟨v, ⟨b, p, q, rfl, _⟩, _⟩ := h
  rfl
theorem pu_rounded {K : PySem.W.Frag} {C : CA} {vs : List V} {H : Hp} {Q : VK} {E : XK} (h : sp_rounded K C vs H Q E) : rd_rounded K C { nx := fun _ H' => Q .non H', rt := Q } (start N_rounded vs) H := by
  obtain ⟨v, ⟨r, f, b, rfl, hl, ⟨h0, h1, h2⟩, rfl⟩, k⟩ := h
  simp only at h0 h1 h2
  refine body_V ?_ k
  unfold rd_rounded
  walk_at "bm"
  rw [cut_hi h0]
  walk_at "bm"
  rw [cut_both h0 (by omega) h2]
  refine ⟨by walk_at "len", ?_⟩
  walk_at "bm"
  rw [cut_lo (by omega)]
  walk_at "bm"
theorem c_rounded {K : PySem.W.Frag} {C : CA} {H0 : Hp} {s : Ld} {Q : V → Ld → Prop} {E : XK} {r : List Bool} {f b : Int} (hl : r.length ≤ 1000) (h0 : stOk r.length (f, b)) (q : Q (.str (T (rnd r f.toNat b.toNat))) s) : WC H0 (sp_rounded K C) E [.str (T r), .int f, .int b] s Q := wc_V (fun H o => ⟨r, f, b, rfl, hl, h0, rfl⟩) q
theorem ln_asked_row {K : PySem.W.Frag} {C : CA} {vs : List V} {H : Hp} {Q : VK} {E : XK} (h : sp_asked_row K C vs H Q E) : vs.length = 1 := by
  obtain ⟨v, ⟨b, rfl, _⟩, _⟩ := h
  rfl
theorem mem_tf (b : Bool) : decide (b ∈ [true, false]) = true := by cases b <;> decide
theorem rep_true (n : Nat) : (List.replicate n true).all id = true := by
  rw [List.all_eq_true]
  intro x hx
  exact (List.eq_of_mem_replicate hx)
theorem rep_map {α : Type} (x : α) (n : Nat) {β : Type} (f : α → β) : (List.replicate n x).map f = List.replicate n (f x) := List.map_replicate
theorem pu_asked_row {K : PySem.W.Frag} {C : CA} {vs : List V} {H : Hp} {Q : VK} {E : XK} (h : sp_asked_row K C vs H Q E) : rd_asked_row K C { nx := fun _ H' => Q .non H', rt := Q } (start N_asked_row vs) H := by
  obtain ⟨v, ⟨r, rfl, hl, rfl⟩, k⟩ := h
  refine body_V ?_ k
  unfold rd_asked_row
  walk_at "bm"
  refine wl_isi (tv := .type "str") (b := true) (fun H' o => .base (.str _)) (kit_ty (by decide +kernel)) ?_
  walk_at "bm"
  refine ⟨fun hc => absurd (of_decide_eq_true hc) (by omega), fun _ => ?_⟩
  walk_at "bm"
  refine cp_T (fun i => List.replicate i (.bl true)) (by omega) rfl (fun i _ => by simp) ?_ ?_
  · intro D i b hi hb
    walk_at "bm"
    refine ⟨rfl, ?_⟩
    walk_at "bm"
    refine ⟨Sub.refl _, ?_⟩
    rw [mem_tf, List.replicate_succ']
  · intro D hD
    walk_at "bm"
    refine wl_all (bs := List.replicate r.length true) (by rw [rep_map]; walk_at "isl") ?_
    walk_at "bm"
    rw [rep_true]
    walk_at "bm"
theorem c_asked_row {K : PySem.W.Frag} {C : CA} {H0 : Hp} {s : Ld} {Q : V → Ld → Prop} {E : XK} {r : List Bool} (hl : r.length ≤ 40) (q : Q .non s) : WC H0 (sp_asked_row K C) E [.str (T r)] s Q := wc_V (fun H o => ⟨r, rfl, hl, rfl⟩) q
local macro_rules | `(tactic| walk_at "b0") => `(tactic| ((with_reducible refine' c_asked_row ?hl ?_); (case hl => walk_at "len")))
theorem c_depths {K : PySem.W.Frag} {C : CA} {H0 : Hp} {s : Ld} {Q : V → Ld → Prop} {E : XK} {r : List Bool} (hl : r.length ≤ 40) (q : ∀ p, H0 p = none → Q (.ref p) ⟨(p, .lst ((dps r).map V.int)) :: s.L, s.T⟩) : WC H0 (sp_depths K C) E [.str (T r)] s Q := wc_L (fun H o => ⟨r, rfl, hl, rfl⟩) q
local macro_rules | `(tactic| walk_at "b0") => `(tactic| ((with_reducible refine' c_depths ?hl ?_); (case hl => walk_at "len")))
theorem c_is_right {K : PySem.W.Frag} {C : CA} {H0 : Hp} {s : Ld} {Q : V → Ld → Prop} {E : XK} {r : List Bool} (hl : r.length ≤ 40) (q : Q (.bl (isR r)) s) : WC H0 (sp_is_right K C) E [.str (T r)] s Q := wc_V (fun H o => ⟨r, rfl, hl, rfl⟩) q
local macro_rules | `(tactic| walk_at "b0") => `(tactic| ((with_reducible refine' c_is_right ?hl ?_); (case hl => walk_at "len")))
theorem ln_turned {K : PySem.W.Frag} {C : CA} {vs : List V} {H : Hp} {Q : VK} {E : XK} (h : sp_turned K C vs H Q E) : vs.length = 2 := by
  obtain ⟨v, ⟨b, p, q, rfl, _⟩, _⟩ := h
  rfl
theorem flat_ints (ns : List Int) : (ns.map V.int).all flatV = true := by
  rw [List.all_map, List.all_eq_true]
  intro x _
  rfl
theorem inV_ints (i : Int) (ns : List Int) : inV (.int i) (ns.map V.int) = decide (i ∈ ns) := by
  unfold inV
  rw [List.any_map]
  induction ns with
  | nil => simp
  | cons n ns ih =>
    rw [List.any_cons, ih]
    show (n == i || _) = _
    by_cases e : n = i
    · subst e
      simp
    · have e' : ¬ i = n := fun z => e z.symm
      simp [e, e']
def flpAt (ps : List Int) (i : Nat) (b : Bool) : Bool := if ((i : Int) ∈ ps) then !b else b
theorem flp_get {ps : List Int} {r : List Bool} {i : Nat} {b : Bool} (h : r[i]? = some b) : (flp ps r)[i]? = some (flpAt ps i b) := by
  unfold flp flpAt
  rw [List.getElem?_mapIdx, h]
  rfl
theorem flat_one (r : List Bool) : (r.map fun b => [b]).flatten = r := by
  induction r with
  | nil => rfl
  | cons b r ih => rw [List.map_cons, List.flatten_cons, ih]; rfl
theorem sum_one (r : List Bool) : ((r.map fun b => [b]).map (·.length)).sum = r.length := by
  induction r with
  | nil => rfl
  | cons b r ih =>
    rw [List.map_cons, List.map_cons, List.sum_cons, ih]
    simp
    omega
theorem ones_map (r : List Bool) : (r.map fun b => V.str (T [b])) = (r.map fun b => [b]).map fun u => V.str (T u) := by
  rw [List.map_map]
  rfl
theorem wm_join1 {K : PySem.W.Frag} {H0 : Hp} {s : Ld} {Q : V → Ld → Prop} {p : Addr} {r : List Bool} (hx : IsL K H0 s p (r.map fun b => .str (T [b]))) (hl : r.length ≤ 100000) (q : Q (.str (T r)) s) : WM H0 (aJoin K) (.str (T [])) [.ref p] s Q :=
  wm_join (rs := r.map fun b => [b]) (by rw [← ones_map]; exact hx) (by rw [sum_one]; exact hl) (by rw [flat_one]; exact q)
theorem pu_turned {K : PySem.W.Frag} {C : CA} {vs : List V} {H : Hp} {Q : VK} {E : XK} (h : sp_turned K C vs H Q E) : rd_turned K C { nx := fun _ H' => Q .non H', rt := Q } (start N_turned vs) H := by
  obtain ⟨v, ⟨r, a, ps, rfl, hl, hp, rfl⟩, k⟩ := h
  refine body_V ?_ k
  unfold rd_turned
  walk_at "bm"
  refine cp_enumT (fun i => ((flp ps r).take i).map fun b => .str (T [b])) (by omega) rfl (fun i _ => by simp; omega) ?_ ?_
  · intro D i b p hi hb
    have hf := flp_get (ps := ps) hb
    walk_at "bm"
    refine ⟨rfl, ?_⟩
    walk_at "bm"
    refine w2_inL (by walk_at "isl") rfl (flat_ints _) ?_
    rw [inV_ints]
    walk_at "bm"
    have hs : Sub ⟨[(D, HO.lst (((flp ps r).take i).map fun b => .str (T [b])))], []⟩ ⟨[(D, HO.lst (((flp ps r).take i).map fun b => .str (T [b])))], [(p, [.int (i : Int), .str (T [b])])]⟩ := by walk_at "sub"
    refine ⟨fun hc => ?_, fun hc => ?_⟩
    · walk_at "bm"
      refine ⟨hs, ?_⟩
      rw [take_snoc hf, List.map_append]
      unfold flpAt
      rw [if_pos (of_decide_eq_true hc)]
      rfl
    · walk_at "bm"
      refine ⟨hs, ?_⟩
      rw [take_snoc hf, List.map_append]
      unfold flpAt
      rw [if_neg (of_decide_eq_false hc)]
      rfl
  · intro D hD
    have e : (flp ps r).take r.length = flp ps r := by rw [List.take_of_length_le (by rw [flp_len]; exact Nat.le_refl _)]
    rw [e]
    walk_at "bm"
    refine wm_join1 (by walk_at "isl") (by rw [flp_len]; omega) ?_
    walk_at "bm"
theorem c_turned {K : PySem.W.Frag} {C : CA} {H0 : Hp} {s : Ld} {Q : V → Ld → Prop} {E : XK} {r : List Bool} {a : Addr} {ps : List Int} (hl : r.length ≤ 1000) (hx : IsL K H0 s a (ps.map V.int)) (q : Q (.str (T (flp ps r))) s) : WC H0 (sp_turned K C) E [.str (T r), .ref a] s Q := wc_V (fun H o => ⟨r, a, ps, rfl, hl, hx H o, rfl⟩) q
end BM
namespace BM
open PySem L2 Evl
local macro_rules | `(tactic| walk_at "mem") => `(tactic| first | exact List.mem_cons_self | (refine List.mem_cons_of_mem _ ?_; walk_at "mem"))
local macro_rules | `(tactic| walk_at "swap") => `(tactic| first | exact Swap.here | (refine Swap.there ?_; walk_at "swap"))
local macro_rules | `(tactic| walk_at "subl") => `(tactic| first | exact List.Sublist.refl _ | exact List.nil_sublist _ | (refine List.Sublist.cons_cons _ ?_; walk_at "subl") | (refine List.Sublist.cons _ ?_; walk_at "subl"))
local macro_rules | `(tactic| walk_at "sub") => `(tactic| first | exact Sub.refl _ | (refine ⟨?_, ?_⟩ <;> walk_at "subl"))
local macro_rules | `(tactic| walk_at "isl") => `(tactic| first | exact isL_own (by walk_at "mem") | exact isL_old (by assumption) | assumption)
local macro_rules | `(tactic| walk_at "ist") => `(tactic| first | exact isT_own (by walk_at "mem") | exact isT_old (by assumption) | assumption)
local macro_rules | `(tactic| walk_at "len") => `(tactic| first | omega | decide | (simp only [List.length_map, List.length_take, List.length_drop, List.length_append, List.length_cons, List.length_nil, List.length_reverse, dps_len, flp_len]; omega) | (simp [dps_len, flp_len]; omega) | simp)
local macro_rules | `(tactic| walk_at "b0") => `(tactic| first
  | with_reducible refine' ws_set ?_
  | with_reducible refine' ws_par ?_
  | with_reducible refine' ws_asg ?_
  | with_reducible refine' ws_drop ?_
  | with_reducible refine' ws_ret ?_
  | with_reducible refine' ws_if ?_
  | with_reducible refine' ws_next ?_
  | with_reducible refine' ws_brk ?_
  | with_reducible refine' ws_cont ?_
  | ((with_reducible refine' we_var ?hv ?_); case hv => rfl)
  | with_reducible refine' we_c ?_
  | with_reducible refine' we_op ?_
  | with_reducible refine' we_un ?_
  | with_reducible refine' we_if ?_
  | with_reducible refine' we_and ?_
  | with_reducible refine' we_or ?_
  | with_reducible refine' we_not ?_
  | with_reducible refine' wa_nil ?_
  | with_reducible refine' wa_cons ?_
  | (with_reducible refine' we_lst ?_)
  | (with_reducible refine' we_tup ?_)
  | with_reducible refine' we_cb ?_
  | with_reducible refine' we_call0 ?_
  | with_reducible refine' we_sl ?_
  | with_reducible refine' wo_none ?_
  | (with_reducible refine' wo_some ?_)
  | with_reducible refine' wt_test ?_
  | with_reducible refine' wt_B ?_
  | with_reducible refine' wt_and ?_
  | with_reducible refine' wt_or ?_
  | with_reducible refine' wt_not ?_
  | with_reducible refine' wt_yes ?_
  | with_reducible refine' we_chain ?_
  | with_reducible refine' we_chain3 ?_
  | with_reducible refine' we_revT ?_
  | with_reducible refine' we_revL ?_
  | with_reducible refine' we_bm ?_
  | with_reducible refine' we_bm0 ?_
  | with_reducible refine' ws_for ?_
  | with_reducible refine' we_lc ?_
  | with_reducible refine' wi_list ?_
  | with_reducible refine' wi_tup ?_
  | with_reducible refine' wi_T ?_
  | with_reducible refine' wi_rng1 ?_
  | with_reducible refine' wi_rng2 ?_
  | with_reducible refine' wi_rng3 ?_
  | with_reducible refine' wi_enum ?_
  | with_reducible refine' wi_enumT ?_
  | with_reducible refine' wi_zip ?_
  | with_reducible refine' wg_name ?_
  | with_reducible refine' wg_sub ?_
  | with_reducible refine' wgs_nil ?_
  | with_reducible refine' wgs_cons ?_
  | ((with_reducible refine' wg_tup ?ht ?hn ?_); (case ht => walk_at "ist"); (case hn => rfl))
  | with_reducible refine' w2_add ?_
  | with_reducible refine' w2_sub ?_
  | with_reducible refine' w2_lt ?_
  | with_reducible refine' w2_le ?_
  | with_reducible refine' w2_gt ?_
  | with_reducible refine' w2_ge ?_
  | with_reducible refine' w2_eqI ?_
  | with_reducible refine' w2_neI ?_
  | with_reducible refine' w2_eqT ?_
  | with_reducible refine' w2_neT ?_
  | with_reducible refine' w2_eqB ?_
  | with_reducible refine' w2_neB ?_
  | with_reducible refine' w2_isN ?_
  | with_reducible refine' w2_notN ?_
  | with_reducible refine' w2_isB ?_
  | with_reducible refine' w2_inT ?_
  | with_reducible refine' w1_neg ?_
  | with_reducible refine' wl_abs ?_
  | with_reducible refine' wl_max2 ?_
  | with_reducible refine' wl_min2 ?_
  | with_reducible refine' wl_intB ?_
  | ((with_reducible refine' w2_div ?h ?_); case h => first | omega | (constructor <;> omega))
  | ((with_reducible refine' w2_mod ?h ?_); case h => omega)
  | ((with_reducible refine' w2_catT ?h ?_); case h => walk_at "len")
  | ((with_reducible refine' wsl_T ?h ?_); case h => walk_at "len")
  | ((with_reducible refine' wl_lenT ?h ?_); case h => walk_at "len")
  | ((with_reducible refine' wl_len ?h ?_); case h => walk_at "isl")
  | ((with_reducible refine' wl_len ?h ?_); case h => walk_at "isl")
  | ((with_reducible refine' wm_append ?sw ?hl ?_); (case sw => walk_at "swap"); (case hl => walk_at "len")))
local macro_rules | `(tactic| walk_at "b1") => `(tactic| first | with_reducible refine' ws_seq ?_ | walk_at "b0")
local macro_rules | `(tactic| walk_at "bx") => `(tactic| first
  | refine ⟨_, rfl, ?_⟩
  | refine ⟨_, _, rfl, ?_⟩
  | refine ⟨ty_L (by walk_at "isl"), ?_⟩
  | refine ⟨ty_S, ?_⟩
  | refine spl_t (by rfl) ?_
  | refine spl_f (by rfl) ?_
  | exact rfl)
local macro_rules | `(tactic| walk_at "bm") => `(tactic| repeat (first | walk_at "b1" | walk_at "bx"))
local macro_rules | `(tactic| walk_at "bn") => `(tactic| repeat (first | walk_at "b0" | walk_at "bx"))
local macro_rules | `(tactic| walk_at "b0") => `(tactic| with_reducible refine' c_deepens ?_)
local macro_rules | `(tactic| walk_at "b0") => `(tactic| ((with_reducible refine' c_depths_of ?hl ?_); (case hl => walk_at "len")))
local macro_rules | `(tactic| walk_at "b0") => `(tactic| with_reducible refine' c_is_wholeI ?_)
local macro_rules | `(tactic| walk_at "b0") => `(tactic| with_reducible refine' c_flipped ?_)
local macro_rules | `(tactic| walk_at "b0") => `(tactic| ((with_reducible refine' c_is_right_row ?hl ?_); (case hl => walk_at "len")))
local macro_rules | `(tactic| walk_at "b0") => `(tactic| ((with_reducible refine' c_asked_row ?hl ?_); (case hl => walk_at "len")))
local macro_rules | `(tactic| walk_at "b0") => `(tactic| ((with_reducible refine' c_depths ?hl ?_); (case hl => walk_at "len")))
local macro_rules | `(tactic| walk_at "b0") => `(tactic| ((with_reducible refine' c_is_right ?hl ?_); (case hl => walk_at "len")))
theorem swAll_len : ∀ {ps : List Int} {r u : List Bool}, swAll r ps = some u → u.length = r.length
  | [], r, u, h => by
    simp only [swAll] at h
    cases h
    rfl
  | p :: ps, r, u, h => by
    simp only [swAll] at h
    split at h
    · rename_i hp
      rw [swAll_len h, swp_len (swOk_len hp).2]
    · cases h
theorem swAll_snoc {ps : List Int} {r u : List Bool} {i : Nat} {p : Int} (h : swAll r (ps.take i) = some u) (hp : ps[i]? = some p) : swAll r (ps.take (i + 1)) = if swOk u p then some (swp u p.toNat) else none := by
  rw [take_snoc hp, swAll_app, h]
  show swAll u [p] = _
  simp only [swAll]
theorem swAll_none {ps : List Int} {r : List Bool} {i : Nat} (h : swAll r (ps.take i) = none) : swAll r ps = none := by
  rw [← List.take_append_drop i ps, swAll_app, h]
  rfl
theorem getI {ps : List Int} {i : Nat} {y : V} (hy : (ps.map V.int)[i]? = some y) : ∃ z, ps[i]? = some z ∧ y = V.int z := by
  rw [List.getElem?_map] at hy
  cases e : ps[i]? with
  | none => rw [e] at hy; cases hy
  | some z => rw [e] at hy; exact ⟨z, rfl, (Option.some.inj hy).symm⟩
theorem ln_is_stretch {K : PySem.W.Frag} {C : CA} {vs : List V} {H : Hp} {Q : VK} {E : XK} (h : sp_is_stretch K C vs H Q E) : vs.length = 2 := by
  obtain ⟨v, ⟨x, a, ps, rfl, _⟩, _⟩ := h
  rfl
theorem stOk_eq (n : Nat) (p : Int × Int) : decide (stOk n p) = (decide (0 ≤ p.1) && (decide (p.1 < p.2) && decide (p.2 ≤ (n : Int)))) := by
  unfold stOk
  by_cases h1 : 0 ≤ p.1 <;> by_cases h2 : p.1 < p.2 <;> by_cases h3 : p.2 ≤ (n : Int) <;> simp [h1, h2, h3]
theorem pu_is_stretch {K : PySem.W.Frag} {C : CA} {vs : List V} {H : Hp} {Q : VK} {E : XK} (h : sp_is_stretch K C vs H Q E) : rd_is_stretch K C { nx := fun _ H' => Q .non H', rt := Q } (start N_is_stretch vs) H := by
  obtain ⟨v, ⟨r, t, p, rfl, hl, ht, rfl⟩, k⟩ := h
  have hs : SqT K H t [.int p.1, .int p.2] := st_of ht
  refine body_V ?_ k
  unfold rd_is_stretch
  walk_at "bm"
  refine wl_isi (tv := .type "tuple") (b := true) (fun H' o => .base (.tup (o.ex _ _ ht))) (kit_ty (by decide +kernel)) ?_
  walk_at "bm"
  refine wl_lenU (isT_old hs) ?_
  walk_at "bm"
  refine ⟨⟨_, isT_old hs⟩, ?_⟩
  refine cp_tup (xs := [.int p.1, .int p.2]) (fun i => List.replicate i (.bl true)) (isT_old hs) (by simp) rfl (fun i _ => by simp) ?_ ?_
  · intro D i y hi hy
    have hy' : ∃ z, y = V.int z := by
      rcases i with _ | _ | i
      · exact ⟨_, (Option.some.inj hy).symm⟩
      · exact ⟨_, (Option.some.inj hy).symm⟩
      · simp at hi
        omega
    obtain ⟨z, rfl⟩ := hy'
    walk_at "bm"
    refine ⟨rfl, ?_⟩
    walk_at "bm"
    refine ⟨Sub.refl _, ?_⟩
    rw [List.replicate_succ']
  · intro D hD
    walk_at "bm"
    refine wl_all (bs := List.replicate 2 true) (by rw [rep_map]; walk_at "isl") ?_
    walk_at "bm"
    refine w2_ixU (v := .int p.1) (isT_old hs) (atI_of (by omega) rfl) ?_
    walk_at "bm"
    have e := stOk_eq r.length p
    refine ⟨fun h1 => ?_, fun h1 => ?_⟩
    · walk_at "bm"
      refine w2_ixU (v := .int p.2) (isT_old hs) (atI_of (by omega) rfl) ?_
      walk_at "bm"
      refine ⟨fun h2 => ?_, fun h2 => ?_⟩
      · walk_at "bm"
        rw [e, h1, h2]
        rfl
      · rw [e, h1, h2]
        rfl
    · rw [e, h1]
      rfl
theorem c_is_stretch {K : PySem.W.Frag} {C : CA} {H0 : Hp} {s : Ld} {Q : V → Ld → Prop} {E : XK} {r : List Bool} {t : Addr} {p : Int × Int} (hl : r.length ≤ 1000) (ht : ∀ H, Own H0 H s → H t = some (.tup [.int p.1, .int p.2])) (q : Q (.bl (decide (stOk r.length p))) s) : WC H0 (sp_is_stretch K C) E [.str (T r), .ref t] s Q :=
  wc_V (fun H o => ⟨r, t, p, rfl, hl, ht H o, rfl⟩) q
theorem pairs_get {F : V → (Int × Int) → Prop} {xs : List V} {ps : List (Int × Int)} (h : Paired F xs ps) : ∀ {i : Nat} {x : V}, xs[i]? = some x → ∃ p, ps[i]? = some p ∧ F x p := by
  induction h with
  | nil => intro i x e; simp at e
  | cons r t ih =>
    intro i x e
    cases i with
    | zero =>
      cases e
      exact ⟨_, rfl, r⟩
    | succ i => exact ih (i := i) (by simpa using e)
theorem rnAll_snoc {ps : List (Int × Int)} {r : List Bool} {i : Nat} {p : Int × Int} (hp : ps[i]? = some p) : rnAll r (ps.take (i + 1)) = rnd (rnAll r (ps.take i)) p.1.toNat p.2.toNat := by
  rw [take_snoc hp]
  unfold rnAll
  rw [List.foldl_append]
  rfl
end BM
/-! how a law's row is made even -/
namespace BM
theorem hgt_count (r : List Bool) : hgt r = (r.count true : Int) - (r.count false : Int) := by
  induction r with
  | nil => simp [hgt]
  | cons b r ih =>
    simp only [hgt, ih, List.count_cons]
    cases b <;> simp [sg] <;> omega
theorem hgt_set {r : List Bool} {j : Nat} {a : Bool} (h : r[j]? = some a) (b : Bool) : hgt (r.set j b) = hgt r - sg a + sg b := by
  induction r generalizing j with
  | nil => simp at h
  | cons c r ih =>
    cases j with
    | zero =>
      have e : c = a := by simpa using h
      subst e
      simp only [List.set_cons_zero, hgt]
      omega
    | succ j =>
      have h' : r[j]? = some a := by simpa using h
      simp only [List.set_cons_succ, hgt, ih h']
      omega
theorem hgt_all {r : List Bool} {b : Bool} (h : ∀ x ∈ r, x = b) : hgt r = sg b * r.length := by
  induction r with
  | nil => simp [hgt]
  | cons c r ih =>
    have h1 := h c List.mem_cons_self
    have h2 := ih fun x hx => h x (List.mem_cons_of_mem _ hx)
    simp only [hgt, h2, h1, List.length_cons]
    cases b <;> simp [sg] <;> omega
theorem hgt_par (r : List Bool) : (hgt r + r.length) % 2 = 0 := by
  induction r with
  | nil => simp [hgt]
  | cons c r ih =>
    simp only [hgt, List.length_cons]
    cases c <;> simp [sg] <;> omega
/-- what holds behind i turns of the evening loop -/
structure EvenUp (w : Int) (n i : Nat) (r : List Bool) (m : Int) : Prop where
  len : r.length = n
  hg : hgt r = m
  par : n % 2 = 0
  vis : m = 0 ∨ (0 < m ∧ ∀ j, j < i → r[(((j : Int) + w) % (n : Int)).toNat]? = some false) ∨ (m < 0 ∧ ∀ j, j < i → r[(((j : Int) + w) % (n : Int)).toNat]? = some true)
theorem EvenUp.start {w : Int} {r : List Bool} (hp : r.length % 2 = 0) : EvenUp w r.length 0 r (hgt r) :=
  ⟨rfl, rfl, hp, by
    rcases Int.lt_trichotomy (hgt r) 0 with h | h | h
    · exact .inr (.inr ⟨h, fun j hj => absurd hj (Nat.not_lt_zero _)⟩)
    · exact .inl h
    · exact .inr (.inl ⟨h, fun j hj => absurd hj (Nat.not_lt_zero _)⟩)⟩
theorem set_get {r : List Bool} {j k : Nat} {b : Bool} (hj : j < r.length) (h : r[k]? = some b) : (r.set j b)[k]? = some b := by
  by_cases e : j = k
  · subst e
    rw [List.getElem?_set_self hj]
  · rw [List.getElem?_set_ne e]
    exact h
theorem EvenUp.turn {w m : Int} {n i : Nat} {r : List Bool} {a : Bool} (E : EvenUp w n i r m) (hm : m ≠ 0) (h : r[(((i : Int) + w) % (n : Int)).toNat]? = some a) (ha : a = decide (0 < m)) :
    EvenUp w n (i + 1) (r.set (((i : Int) + w) % (n : Int)).toNat (!a)) (if 0 < m then m - 2 else m + 2) := by
  have hj : (((i : Int) + w) % (n : Int)).toNat < r.length := (List.getElem?_eq_some_iff.mp h).1
  have hg := hgt_set h (!a)
  have hpar := hgt_par r
  have e1 := E.hg
  have e2 := E.len
  have e3 := E.par
  refine ⟨by rw [List.length_set]; exact E.len, ?_, E.par, ?_⟩
  · rw [hg, E.hg, ha]
    by_cases h0 : 0 < m
    · simp [h0, sg]; omega
    · simp [h0, sg]; omega
  · rcases E.vis with v | ⟨v, hv⟩ | ⟨v, hv⟩
    · exact absurd v hm
    · have ea : a = true := by rw [ha]; exact decide_eq_true v
      subst ea
      rw [if_pos v]
      by_cases h2 : m - 2 = 0
      · exact .inl h2
      · refine .inr (.inl ⟨by omega, fun j hj' => ?_⟩)
        rcases Nat.lt_succ_iff_lt_or_eq.mp hj' with h3 | h3
        · exact set_get hj (hv j h3)
        · subst h3
          exact List.getElem?_set_self hj
    · have ea : a = false := by rw [ha]; exact decide_eq_false (by omega)
      subst ea
      rw [if_neg (by omega)]
      by_cases h2 : m + 2 = 0
      · exact .inl h2
      · refine .inr (.inr ⟨by omega, fun j hj' => ?_⟩)
        rcases Nat.lt_succ_iff_lt_or_eq.mp hj' with h3 | h3
        · exact set_get hj (hv j h3)
        · subst h3
          exact List.getElem?_set_self hj
theorem EvenUp.stay {w m : Int} {n i : Nat} {r : List Bool} {a : Bool} (E : EvenUp w n i r m) (h : r[(((i : Int) + w) % (n : Int)).toNat]? = some a) (ha : m ≠ 0 → a ≠ decide (0 < m)) : EvenUp w n (i + 1) r m := by
  refine ⟨E.len, E.hg, E.par, ?_⟩
  rcases E.vis with v | ⟨v, hv⟩ | ⟨v, hv⟩
  · exact .inl v
  · refine .inr (.inl ⟨v, fun j hj => ?_⟩)
    rcases Nat.lt_succ_iff_lt_or_eq.mp hj with h3 | h3
    · exact hv j h3
    · subst h3
      rw [h]
      have := ha (by omega)
      rw [decide_eq_true v] at this
      cases a
      · rfl
      · exact absurd rfl this
  · refine .inr (.inr ⟨v, fun j hj => ?_⟩)
    rcases Nat.lt_succ_iff_lt_or_eq.mp hj with h3 | h3
    · exact hv j h3
    · subst h3
      rw [h]
      have := ha (by omega)
      rw [decide_eq_false (by omega)] at this
      cases a
      · exact absurd rfl this
      · rfl
theorem EvenUp.done {w m : Int} {n : Nat} {r : List Bool} (E : EvenUp w n n r m) : hgt r = 0 := by
  have hall : ∀ b, (∀ j, j < n → r[(((j : Int) + w) % (n : Int)).toNat]? = some b) → ∀ x ∈ r, x = b := by
    intro b hb x hx
    obtain ⟨k, hk, e⟩ := List.getElem_of_mem hx
    have hn : 0 < n := by rw [← E.len]; omega
    have hlen := E.len
    have h1 := Int.emod_nonneg ((k : Int) - w) (b := (n : Int)) (by omega)
    have h2 := Int.emod_lt_of_pos ((k : Int) - w) (b := (n : Int)) (by omega)
    have h3 := hb (((k : Int) - w) % (n : Int)).toNat (by omega)
    have h4 : ((((((k : Int) - w) % (n : Int)).toNat : Nat) : Int) + w) % (n : Int) = (k : Int) := by
      rw [Int.toNat_of_nonneg h1, Int.emod_add_emod]
      have : (k : Int) - w + w = k := by omega
      rw [this]
      exact Int.emod_eq_of_lt (by omega) (by omega)
    rw [h4, Int.toNat_natCast, List.getElem?_eq_getElem hk, e] at h3
    exact Option.some.inj h3
  have e1 := E.hg
  rcases E.vis with v | ⟨v, hv⟩ | ⟨v, hv⟩
  · omega
  · have := hgt_all (hall false hv)
    simp [sg] at this
    omega
  · have := hgt_all (hall true hv)
    simp [sg] at this
    omega
end BM
namespace BM
open PySem L2 Evl
local macro_rules | `(tactic| walk_at "mem") => `(tactic| first | exact List.mem_cons_self | (refine List.mem_cons_of_mem _ ?_; walk_at "mem"))
local macro_rules | `(tactic| walk_at "swap") => `(tactic| first | exact Swap.here | (refine Swap.there ?_; walk_at "swap"))
local macro_rules | `(tactic| walk_at "subl") => `(tactic| first | exact List.Sublist.refl _ | exact List.nil_sublist _ | (refine List.Sublist.cons_cons _ ?_; walk_at "subl") | (refine List.Sublist.cons _ ?_; walk_at "subl"))
local macro_rules | `(tactic| walk_at "sub") => `(tactic| first | exact Sub.refl _ | (refine ⟨?_, ?_⟩ <;> walk_at "subl"))
local macro_rules | `(tactic| walk_at "isl") => `(tactic| first | exact isL_own (by walk_at "mem") | exact isL_old (by assumption) | assumption)
local macro_rules | `(tactic| walk_at "ist") => `(tactic| first | exact isT_own (by walk_at "mem") | exact isT_old (by assumption) | assumption)
local macro_rules | `(tactic| walk_at "len") => `(tactic| first | omega | decide | (simp only [List.length_map, List.length_take, List.length_drop, List.length_append, List.length_cons, List.length_nil, List.length_reverse, dps_len, flp_len]; omega) | (simp [dps_len, flp_len]; omega) | simp)
local macro_rules | `(tactic| walk_at "b0") => `(tactic| first
  | with_reducible refine' ws_set ?_
  | with_reducible refine' ws_par ?_
  | with_reducible refine' ws_asg ?_
  | with_reducible refine' ws_drop ?_
  | with_reducible refine' ws_ret ?_
  | with_reducible refine' ws_if ?_
  | with_reducible refine' ws_next ?_
  | with_reducible refine' ws_brk ?_
  | with_reducible refine' ws_cont ?_
  | ((with_reducible refine' we_var ?hv ?_); case hv => rfl)
  | with_reducible refine' we_c ?_
  | with_reducible refine' we_op ?_
  | with_reducible refine' we_un ?_
  | with_reducible refine' we_if ?_
  | with_reducible refine' we_and ?_
  | with_reducible refine' we_or ?_
  | with_reducible refine' we_not ?_
  | with_reducible refine' wa_nil ?_
  | with_reducible refine' wa_cons ?_
  | (with_reducible refine' we_lst ?_)
  | (with_reducible refine' we_tup ?_)
  | with_reducible refine' we_cb ?_
  | with_reducible refine' we_call0 ?_
  | with_reducible refine' we_sl ?_
  | with_reducible refine' wo_none ?_
  | (with_reducible refine' wo_some ?_)
  | with_reducible refine' wt_test ?_
  | with_reducible refine' wt_B ?_
  | with_reducible refine' wt_and ?_
  | with_reducible refine' wt_or ?_
  | with_reducible refine' wt_not ?_
  | with_reducible refine' wt_yes ?_
  | with_reducible refine' we_chain ?_
  | with_reducible refine' we_chain3 ?_
  | with_reducible refine' we_revT ?_
  | with_reducible refine' we_revL ?_
  | with_reducible refine' we_bm ?_
  | with_reducible refine' we_bm0 ?_
  | with_reducible refine' ws_for ?_
  | with_reducible refine' we_lc ?_
  | with_reducible refine' wi_list ?_
  | with_reducible refine' wi_tup ?_
  | with_reducible refine' wi_T ?_
  | with_reducible refine' wi_rng1 ?_
  | with_reducible refine' wi_rng2 ?_
  | with_reducible refine' wi_rng3 ?_
  | with_reducible refine' wi_enum ?_
  | with_reducible refine' wi_enumT ?_
  | with_reducible refine' wi_zip ?_
  | with_reducible refine' wg_name ?_
  | with_reducible refine' wg_sub ?_
  | with_reducible refine' wgs_nil ?_
  | with_reducible refine' wgs_cons ?_
  | ((with_reducible refine' wg_tup ?ht ?hn ?_); (case ht => walk_at "ist"); (case hn => rfl))
  | with_reducible refine' w2_add ?_
  | with_reducible refine' w2_sub ?_
  | with_reducible refine' w2_lt ?_
  | with_reducible refine' w2_le ?_
  | with_reducible refine' w2_gt ?_
  | with_reducible refine' w2_ge ?_
  | with_reducible refine' w2_eqI ?_
  | with_reducible refine' w2_neI ?_
  | with_reducible refine' w2_eqT ?_
  | with_reducible refine' w2_neT ?_
  | with_reducible refine' w2_eqB ?_
  | with_reducible refine' w2_neB ?_
  | with_reducible refine' w2_isN ?_
  | with_reducible refine' w2_notN ?_
  | with_reducible refine' w2_isB ?_
  | with_reducible refine' w2_inT ?_
  | with_reducible refine' w1_neg ?_
  | with_reducible refine' wl_abs ?_
  | with_reducible refine' wl_max2 ?_
  | with_reducible refine' wl_min2 ?_
  | with_reducible refine' wl_intB ?_
  | ((with_reducible refine' w2_div ?h ?_); case h => first | omega | (constructor <;> omega))
  | ((with_reducible refine' w2_mod ?h ?_); case h => omega)
  | ((with_reducible refine' w2_catT ?h ?_); case h => walk_at "len")
  | ((with_reducible refine' wsl_T ?h ?_); case h => walk_at "len")
  | ((with_reducible refine' wl_lenT ?h ?_); case h => walk_at "len")
  | ((with_reducible refine' wl_len ?h ?_); case h => walk_at "isl")
  | ((with_reducible refine' wl_len ?h ?_); case h => walk_at "isl")
  | ((with_reducible refine' wm_append ?sw ?hl ?_); (case sw => walk_at "swap"); (case hl => walk_at "len")))
local macro_rules | `(tactic| walk_at "b1") => `(tactic| first | with_reducible refine' ws_seq ?_ | walk_at "b0")
local macro_rules | `(tactic| walk_at "bx") => `(tactic| first
  | refine ⟨_, rfl, ?_⟩
  | refine ⟨_, _, rfl, ?_⟩
  | refine ⟨ty_L (by walk_at "isl"), ?_⟩
  | refine ⟨ty_S, ?_⟩
  | refine spl_t (by rfl) ?_
  | refine spl_f (by rfl) ?_
  | exact rfl)
local macro_rules | `(tactic| walk_at "bm") => `(tactic| repeat (first | walk_at "b1" | walk_at "bx"))
local macro_rules | `(tactic| walk_at "bn") => `(tactic| repeat (first | walk_at "b0" | walk_at "bx"))
local macro_rules | `(tactic| walk_at "b0") => `(tactic| with_reducible refine' c_deepens ?_)
local macro_rules | `(tactic| walk_at "b0") => `(tactic| ((with_reducible refine' c_depths_of ?hl ?_); (case hl => walk_at "len")))
local macro_rules | `(tactic| walk_at "b0") => `(tactic| with_reducible refine' c_is_wholeI ?_)
local macro_rules | `(tactic| walk_at "b0") => `(tactic| with_reducible refine' c_flipped ?_)
local macro_rules | `(tactic| walk_at "b0") => `(tactic| ((with_reducible refine' c_is_right_row ?hl ?_); (case hl => walk_at "len")))
local macro_rules | `(tactic| walk_at "b0") => `(tactic| ((with_reducible refine' c_asked_row ?hl ?_); (case hl => walk_at "len")))
local macro_rules | `(tactic| walk_at "b0") => `(tactic| ((with_reducible refine' c_depths ?hl ?_); (case hl => walk_at "len")))
local macro_rules | `(tactic| walk_at "b0") => `(tactic| ((with_reducible refine' c_is_right ?hl ?_); (case hl => walk_at "len")))
theorem cmul_l {i j : Int} (h1 : -18446744073709551616 < i) (h2 : i < 18446744073709551616) : CMul i j := Or.inl ⟨by omega, by omega⟩
theorem cmul_r {i j : Int} (h1 : -18446744073709551616 < j) (h2 : j < 18446744073709551616) : CMul i j := Or.inr ⟨by omega, by omega⟩
theorem ln__law_number {K : PySem.W.Frag} {C : CA} {vs : List V} {H : Hp} {Q : VK} {E : XK} (h : sp__law_number K C vs H Q E) : vs.length = 3 := by
  obtain ⟨⟨c, a, w, rfl, _⟩, _⟩ := h
  rfl
theorem pu__law_number {K : PySem.W.Frag} {C : CA} {vs : List V} {H : Hp} {Q : VK} {E : XK} (h : sp__law_number K C vs H Q E) : rd__law_number K C { nx := fun _ H' => Q .non H', rt := Q } (start N__law_number vs) H := by
  obtain ⟨⟨c, a, w, rfl, h0, h1⟩, k⟩ := h
  refine body_P (P := fun v => ∃ n : Int, v = .int n) ?_ k
  have ep : (10 : Int) ^ (18 : Int).toNat = 1000000000000000000 := by decide
  have cp : CPow 10 18 := ⟨by decide, by decide, by decide⟩
  unfold rd__law_number
  walk_at "bm"
  refine w2_pow cp ?_
  rw [ep]
  walk_at "bm"
  refine ⟨fun _ => ?_, fun _ => ?_⟩
  · walk_at "bm"
    exact ⟨_, rfl⟩
  · walk_at "bm"
    refine w2_pow cp ?_
    rw [ep]
    walk_at "bm"
    generalize hs : c % 1000000000000000000 = sm
    walk_at "bm"
    refine w2_mul (cmul_l (by decide) (by decide)) ?_
    walk_at "bm"
    refine w2_mul (cmul_r (by decide) (by decide)) ?_
    walk_at "bm"
    generalize hb : ((sm + 977 * a) * 48271 + w) % 2147483647 = b
    walk_at "bm"
    refine w2_mul (cmul_l (by decide) (by decide)) ?_
    walk_at "bm"
    refine w2_mul (cmul_l (by omega) (by omega)) ?_
    walk_at "bm"
    refine w2_mul (cmul_r (by omega) (by omega)) ?_
    walk_at "bm"
    refine w2_mul (cmul_l (by omega) (by omega)) ?_
    walk_at "bm"
    have hbb : b * b < 4611686014132420610 := by
      have h2 : b * b ≤ 2147483646 * 2147483646 := Int.mul_le_mul (by omega) (by omega) (by omega) (by decide)
      omega
    have hb0 : 0 ≤ b * b := Int.mul_nonneg (by omega) (by omega)
    refine w2_mul (cmul_r (by omega) (by omega)) ?_
    walk_at "bm"
    exact ⟨_, rfl⟩
theorem c__law_number {K : PySem.W.Frag} {C : CA} {H0 : Hp} {s : Ld} {Q : V → Ld → Prop} {E : XK} {c a w : Int} (h0 : 0 ≤ a ∧ a ≤ 1000000) (q : ∀ n : Int, Q (.int n) s) : WC H0 (sp__law_number K C) E [.int c, .int a, .int w] s Q :=
  wc_P (fun H o => ⟨c, a, w, rfl, h0.1, h0.2⟩) (fun v ⟨n, e⟩ => by rw [e]; exact q n)
theorem ln__law_depths {K : PySem.W.Frag} {C : CA} {vs : List V} {H : Hp} {Q : VK} {E : XK} (h : sp__law_depths K C vs H Q E) : vs.length = 1 := by
  obtain ⟨v, ⟨b, rfl, _⟩, _⟩ := h
  rfl
theorem pu__law_depths {K : PySem.W.Frag} {C : CA} {vs : List V} {H : Hp} {Q : VK} {E : XK} (h : sp__law_depths K C vs H Q E) : rd__law_depths K C { nx := fun _ H' => Q .non H', rt := Q } (start N__law_depths vs) H := by
  obtain ⟨v, ⟨r, rfl, hl, rfl⟩, k⟩ := h
  refine body_L ?_ k
  unfold rd__law_depths
  walk_at "bm"
  refine ⟨by decide, fun p hp => ?_⟩
  walk_at "bm"
  refine lp_T (fun i σ s => ∃ b, σ = [some (.str (T r)), some (.ref p), b] ∧ s = ⟨[(p, .lst ((dps (r.take i)).map V.int))], []⟩) rfl ⟨none, rfl, rfl⟩ ?_ ?_
  · rintro i b σ s hi hb ⟨b0, rfl, rfl⟩
    have e : (p, HO.lst ((dps (r.take i)).map V.int ++ [.int (hgt (r.take i) + sg b)])) = (p, HO.lst ((dps (r.take (i + 1))).map V.int)) := by
      rw [take_snoc hb, dps_snoc, List.map_append]
      rfl
    walk_at "bm"
    refine w2_ixL (by walk_at "isl") (dps_m1 _) ?_
    walk_at "bm"
    cases b
    · refine ⟨fun hc => absurd hc (by decide), fun hc => ?_⟩
      walk_at "bm"
      refine ⟨_, Sub.refl _, _, rfl, ?_⟩
      rw [← e]
      rfl
    · refine ⟨fun hc => ?_, fun hc => absurd hc (by decide)⟩
      walk_at "bm"
      refine ⟨_, Sub.refl _, _, rfl, ?_⟩
      rw [← e]
      rfl
  · rintro σ s ⟨b0, rfl, rfl⟩
    walk_at "bm"
    rw [List.take_length]
    exact List.mem_cons_self
theorem c__law_depths {K : PySem.W.Frag} {C : CA} {H0 : Hp} {s : Ld} {Q : V → Ld → Prop} {E : XK} {r : List Bool} (hl : r.length ≤ 1000) (q : ∀ p, H0 p = none → Q (.ref p) ⟨(p, .lst ((dps r).map V.int)) :: s.L, s.T⟩) : WC H0 (sp__law_depths K C) E [.str (T r)] s Q := wc_L (fun H o => ⟨r, rfl, hl, rfl⟩) q
local macro_rules | `(tactic| walk_at "b0") => `(tactic| ((with_reducible refine' c__law_depths ?hl ?_); (case hl => walk_at "len")))
theorem ln__law_good {K : PySem.W.Frag} {C : CA} {vs : List V} {H : Hp} {Q : VK} {E : XK} (h : sp__law_good K C vs H Q E) : vs.length = 1 := by
  obtain ⟨v, ⟨b, rfl, _⟩, _⟩ := h
  rfl
theorem isR_bad {r : List Bool} {i : Nat} (hi : i ≤ r.length) (h : hgt (r.take i) < 0) : isR r = false := by
  cases e : isR r with
  | false => rfl
  | true =>
    have := (isR_iff.mp e).2 i hi
    omega
theorem pu__law_good {K : PySem.W.Frag} {C : CA} {vs : List V} {H : Hp} {Q : VK} {E : XK} (h : sp__law_good K C vs H Q E) : rd__law_good K C { nx := fun _ H' => Q .non H', rt := Q } (start N__law_good vs) H := by
  obtain ⟨v, ⟨r, rfl, hl, rfl⟩, k⟩ := h
  refine body_V ?_ k
  unfold rd__law_good
  walk_at "bm"
  refine lp_T (fun i σ s => ∃ b, σ = [some (.str (T r)), some (.int (hgt (r.take i))), b] ∧ s = ⟨[], []⟩ ∧ ∀ j, j ≤ i → 0 ≤ hgt (r.take j)) rfl ⟨none, rfl, rfl, fun j hj => by rw [show j = 0 by omega]; exact Int.le_refl 0⟩ ?_ ?_
  · rintro i b σ s hi hb ⟨b0, rfl, rfl, hn⟩
    have e : hgt (r.take (i + 1)) = hgt (r.take i) + sg b := by rw [take_snoc hb, hgt_app]; simp [hgt]
    have fin : ∀ z : Int, z = hgt (r.take (i + 1)) → (decide (z < 0) = true → WS H (tRet (tC (V.bl false))) [some (.str (T r)), some (.int z), some (.str (T [b]))] ⟨[], []⟩ (turnD { nx := fun σ' s' => WS H (tRet (tOp rEq (tVar 1) (tC (V.int 0)))) σ' s' (retV (.bl (isR r))), rt := (retV (.bl (isR r))).rt, bk := (retV (.bl (isR r))).bk, ct := (retV (.bl (isR r))).ct } fun σ s => ∃ b, σ = [some (.str (T r)), some (.int (hgt (r.take (i + 1)))), b] ∧ s = ⟨[], []⟩ ∧ ∀ j, j ≤ i + 1 → 0 ≤ hgt (r.take j))) ∧
        (decide (z < 0) = false → WS H tNext [some (.str (T r)), some (.int z), some (.str (T [b]))] ⟨[], []⟩ (turnD { nx := fun σ' s' => WS H (tRet (tOp rEq (tVar 1) (tC (V.int 0)))) σ' s' (retV (.bl (isR r))), rt := (retV (.bl (isR r))).rt, bk := (retV (.bl (isR r))).bk, ct := (retV (.bl (isR r))).ct } fun σ s => ∃ b, σ = [some (.str (T r)), some (.int (hgt (r.take (i + 1)))), b] ∧ s = ⟨[], []⟩ ∧ ∀ j, j ≤ i + 1 → 0 ≤ hgt (r.take j))) := by
      rintro z rfl
      refine ⟨fun hc => ?_, fun hc => ?_⟩
      · walk_at "bm"
        show V.bl false = V.bl (isR r)
        rw [isR_bad (i := i + 1) (by omega) (of_decide_eq_true hc)]
      · walk_at "bm"
        refine ⟨_, Sub.refl _, _, rfl, rfl, fun j hj => ?_⟩
        rcases Nat.lt_succ_iff_lt_or_eq.mp (Nat.lt_succ_of_le hj) with h1 | h1
        · exact hn j (by omega)
        · rw [h1]
          have := of_decide_eq_false hc
          omega
    walk_at "bm"
    cases b
    · refine ⟨fun hc => absurd hc (by decide), fun hc => ?_⟩
      walk_at "bm"
      exact fin _ (by rw [e]; simp [sg]; omega)
    · refine ⟨fun hc => ?_, fun hc => absurd hc (by decide)⟩
      walk_at "bm"
      exact fin _ (by rw [e]; simp [sg])
  · rintro σ s ⟨b0, rfl, rfl, hn⟩
    walk_at "bm"
    rw [List.take_length]
    show V.bl _ = V.bl _
    congr 1
    unfold isR
    have : ((dps r).all fun z => decide (0 ≤ z)) = true := by
      rw [List.all_eq_true]
      intro z hz
      obtain ⟨j, hj, rfl⟩ := mem_dps.mp hz
      exact decide_eq_true (hn j hj)
    rw [this, Bool.and_true]
theorem c__law_good {K : PySem.W.Frag} {C : CA} {H0 : Hp} {s : Ld} {Q : V → Ld → Prop} {E : XK} {r : List Bool} (hl : r.length ≤ 1000) (q : Q (.bl (isR r)) s) : WC H0 (sp__law_good K C) E [.str (T r)] s Q := wc_V (fun H o => ⟨r, rfl, hl, rfl⟩) q
local macro_rules | `(tactic| walk_at "b0") => `(tactic| ((with_reducible refine' c__law_good ?hl ?_); (case hl => walk_at "len")))
theorem ln__law_swap {K : PySem.W.Frag} {C : CA} {vs : List V} {H : Hp} {Q : VK} {E : XK} (h : sp__law_swap K C vs H Q E) : vs.length = 2 := by
  obtain ⟨v, ⟨b, p, rfl, _⟩, _⟩ := h
  rfl
theorem pu__law_swap {K : PySem.W.Frag} {C : CA} {vs : List V} {H : Hp} {Q : VK} {E : XK} (h : sp__law_swap K C vs H Q E) : rd__law_swap K C { nx := fun _ H' => Q .non H', rt := Q } (start N__law_swap vs) H := by
  obtain ⟨v, ⟨r, p, rfl, hl, rfl⟩, k⟩ := h
  refine body_V ?_ k
  have out : ¬ (0 ≤ p ∧ p < (r.length : Int) - 1) → swOk r p = false := by
    intro h
    unfold swOk
    by_cases h1 : 0 ≤ p <;> by_cases h2 : p < (r.length : Int) - 1 <;> simp [h1, h2]
    exact absurd ⟨h1, h2⟩ h
  unfold rd__law_swap
  walk_at "bm"
  refine ⟨fun h0 => ?_, fun h0 => ?_⟩
  · walk_at "bm"
    refine ⟨fun hn => ?_, fun hn => ?_⟩
    · walk_at "bm"
      have hn' : ¬ p < (r.length : Int) - 1 := by simpa using hn
      show V.non = _
      rw [out fun h => hn' h.2]
      rfl
    · have h0' := of_decide_eq_true h0
      have hn' : p < (r.length : Int) - 1 := by simpa using hn
      obtain ⟨c, hc⟩ := get_some (r := r) (i := p.toNat) (by omega)
      obtain ⟨d, hd⟩ := get_some (r := r) (i := p.toNat + 1) (by omega)
      have hc2 : atI r p = some c := atI_of (by omega) hc
      have hd2 : atI r (p + 1) = some d := atI_of (by omega) (by rw [show (p + 1).toNat = p.toNat + 1 by omega]; exact hd)
      have hok : swOk r p = decide (c ≠ d) := by
        unfold swOk
        rw [hc, hd]
        by_cases e : c = d <;> simp [h0', hn', e]
      walk_at "bm"
      refine w2_ixT (b := c) (by omega) hc2 ?_
      walk_at "bm"
      refine w2_ixT (b := d) (by omega) hd2 ?_
      walk_at "bm"
      refine ⟨fun e => ?_, fun e => ?_⟩
      · walk_at "bm"
        have e1 : c = d := by simpa using e
        show V.non = _
        rw [hok, e1]
        simp
      · have e1 : ¬ c = d := by simpa using e
        walk_at "bm"
        refine w2_ixT (b := d) (by omega) hd2 ?_
        walk_at "bm"
        refine w2_ixT (b := c) (by omega) hc2 ?_
        walk_at "bm"
        rw [cut_hi h0']
        walk_at "bm"
        rw [cut_lo (by omega)]
        walk_at "bm"
        show V.str (T _) = _
        rw [hok, decide_eq_true e1, if_pos rfl]
        congr 2
        unfold swp
        rw [drop_take_one hc, drop_take_one hd, show (p + 2).toNat = p.toNat + 2 by omega]
        simp
  · walk_at "bm"
    have h0' := of_decide_eq_false h0
    show V.non = _
    rw [out fun h => h0' h.1]
    rfl
theorem c__law_swap {K : PySem.W.Frag} {C : CA} {H0 : Hp} {s : Ld} {Q : V → Ld → Prop} {E : XK} {r : List Bool} {p : Int} (hl : r.length ≤ 1000) (q1 : swOk r p = true → Q (.str (T (swp r p.toNat))) s) (q2 : swOk r p = false → Q .non s) : WC H0 (sp__law_swap K C) E [.str (T r), .int p] s Q := by
  refine wc_V (fun H o => ⟨r, p, rfl, hl, rfl⟩) ?_
  cases e : swOk r p
  · exact q2 e
  · exact q1 e
end BM
namespace BM
open PySem L2 Evl
local macro_rules | `(tactic| walk_at "mem") => `(tactic| first | exact List.mem_cons_self | (refine List.mem_cons_of_mem _ ?_; walk_at "mem"))
local macro_rules | `(tactic| walk_at "swap") => `(tactic| first | exact Swap.here | (refine Swap.there ?_; walk_at "swap"))
local macro_rules | `(tactic| walk_at "subl") => `(tactic| first | exact List.Sublist.refl _ | exact List.nil_sublist _ | (refine List.Sublist.cons_cons _ ?_; walk_at "subl") | (refine List.Sublist.cons _ ?_; walk_at "subl"))
local macro_rules | `(tactic| walk_at "sub") => `(tactic| first | exact Sub.refl _ | (refine ⟨?_, ?_⟩ <;> walk_at "subl"))
local macro_rules | `(tactic| walk_at "isl") => `(tactic| first | exact isL_own (by walk_at "mem") | exact isL_old (by assumption) | assumption)
local macro_rules | `(tactic| walk_at "ist") => `(tactic| first | exact isT_own (by walk_at "mem") | exact isT_old (by assumption) | assumption)
local macro_rules | `(tactic| walk_at "len") => `(tactic| first | omega | decide | (simp only [List.length_map, List.length_take, List.length_drop, List.length_append, List.length_cons, List.length_nil, List.length_reverse, dps_len, flp_len]; omega) | (simp [dps_len, flp_len]; omega) | simp)
local macro_rules | `(tactic| walk_at "b0") => `(tactic| first
  | with_reducible refine' ws_set ?_
  | with_reducible refine' ws_par ?_
  | with_reducible refine' ws_asg ?_
  | with_reducible refine' ws_drop ?_
  | with_reducible refine' ws_ret ?_
  | with_reducible refine' ws_if ?_
  | with_reducible refine' ws_next ?_
  | with_reducible refine' ws_brk ?_
  | with_reducible refine' ws_cont ?_
  | ((with_reducible refine' we_var ?hv ?_); case hv => rfl)
  | with_reducible refine' we_c ?_
  | with_reducible refine' we_op ?_
  | with_reducible refine' we_un ?_
  | with_reducible refine' we_if ?_
  | with_reducible refine' we_and ?_
  | with_reducible refine' we_or ?_
  | with_reducible refine' we_not ?_
  | with_reducible refine' wa_nil ?_
  | with_reducible refine' wa_cons ?_
  | (with_reducible refine' we_lst ?_)
  | (with_reducible refine' we_tup ?_)
  | with_reducible refine' we_cb ?_
  | with_reducible refine' we_call0 ?_
  | with_reducible refine' we_sl ?_
  | with_reducible refine' wo_none ?_
  | (with_reducible refine' wo_some ?_)
  | with_reducible refine' wt_test ?_
  | with_reducible refine' wt_B ?_
  | with_reducible refine' wt_and ?_
  | with_reducible refine' wt_or ?_
  | with_reducible refine' wt_not ?_
  | with_reducible refine' wt_yes ?_
  | with_reducible refine' we_chain ?_
  | with_reducible refine' we_chain3 ?_
  | with_reducible refine' we_revT ?_
  | with_reducible refine' we_revL ?_
  | with_reducible refine' we_bm ?_
  | with_reducible refine' we_bm0 ?_
  | with_reducible refine' ws_for ?_
  | with_reducible refine' we_lc ?_
  | with_reducible refine' wi_list ?_
  | with_reducible refine' wi_tup ?_
  | with_reducible refine' wi_T ?_
  | with_reducible refine' wi_rng1 ?_
  | with_reducible refine' wi_rng2 ?_
  | with_reducible refine' wi_rng3 ?_
  | with_reducible refine' wi_enum ?_
  | with_reducible refine' wi_enumT ?_
  | with_reducible refine' wi_zip ?_
  | with_reducible refine' wg_name ?_
  | with_reducible refine' wg_sub ?_
  | with_reducible refine' wgs_nil ?_
  | with_reducible refine' wgs_cons ?_
  | ((with_reducible refine' wg_tup ?ht ?hn ?_); (case ht => walk_at "ist"); (case hn => rfl))
  | with_reducible refine' w2_add ?_
  | with_reducible refine' w2_sub ?_
  | with_reducible refine' w2_lt ?_
  | with_reducible refine' w2_le ?_
  | with_reducible refine' w2_gt ?_
  | with_reducible refine' w2_ge ?_
  | with_reducible refine' w2_eqI ?_
  | with_reducible refine' w2_neI ?_
  | with_reducible refine' w2_eqT ?_
  | with_reducible refine' w2_neT ?_
  | with_reducible refine' w2_eqB ?_
  | with_reducible refine' w2_neB ?_
  | with_reducible refine' w2_isN ?_
  | with_reducible refine' w2_notN ?_
  | with_reducible refine' w2_isB ?_
  | with_reducible refine' w2_inT ?_
  | with_reducible refine' w1_neg ?_
  | with_reducible refine' wl_abs ?_
  | with_reducible refine' wl_max2 ?_
  | with_reducible refine' wl_min2 ?_
  | with_reducible refine' wl_intB ?_
  | ((with_reducible refine' w2_div ?h ?_); case h => first | omega | (constructor <;> omega))
  | ((with_reducible refine' w2_mod ?h ?_); case h => omega)
  | ((with_reducible refine' w2_catT ?h ?_); case h => walk_at "len")
  | ((with_reducible refine' wsl_T ?h ?_); case h => walk_at "len")
  | ((with_reducible refine' wl_lenT ?h ?_); case h => walk_at "len")
  | ((with_reducible refine' wl_len ?h ?_); case h => walk_at "isl")
  | ((with_reducible refine' wl_len ?h ?_); case h => walk_at "isl")
  | ((with_reducible refine' wm_append ?sw ?hl ?_); (case sw => walk_at "swap"); (case hl => walk_at "len")))
local macro_rules | `(tactic| walk_at "b1") => `(tactic| first | with_reducible refine' ws_seq ?_ | walk_at "b0")
local macro_rules | `(tactic| walk_at "bx") => `(tactic| first
  | refine ⟨_, rfl, ?_⟩
  | refine ⟨_, _, rfl, ?_⟩
  | refine ⟨ty_L (by walk_at "isl"), ?_⟩
  | refine ⟨ty_S, ?_⟩
  | refine spl_t (by rfl) ?_
  | refine spl_f (by rfl) ?_
  | exact rfl)
local macro_rules | `(tactic| walk_at "bm") => `(tactic| repeat (first | walk_at "b1" | walk_at "bx"))
local macro_rules | `(tactic| walk_at "bn") => `(tactic| repeat (first | walk_at "b0" | walk_at "bx"))
local macro_rules | `(tactic| walk_at "b0") => `(tactic| with_reducible refine' c_deepens ?_)
local macro_rules | `(tactic| walk_at "b0") => `(tactic| ((with_reducible refine' c_depths_of ?hl ?_); (case hl => walk_at "len")))
local macro_rules | `(tactic| walk_at "b0") => `(tactic| with_reducible refine' c_is_wholeI ?_)
local macro_rules | `(tactic| walk_at "b0") => `(tactic| with_reducible refine' c_flipped ?_)
local macro_rules | `(tactic| walk_at "b0") => `(tactic| ((with_reducible refine' c_is_right_row ?hl ?_); (case hl => walk_at "len")))
local macro_rules | `(tactic| walk_at "b0") => `(tactic| ((with_reducible refine' c_asked_row ?hl ?_); (case hl => walk_at "len")))
local macro_rules | `(tactic| walk_at "b0") => `(tactic| ((with_reducible refine' c_depths ?hl ?_); (case hl => walk_at "len")))
local macro_rules | `(tactic| walk_at "b0") => `(tactic| ((with_reducible refine' c_is_right ?hl ?_); (case hl => walk_at "len")))
local macro_rules | `(tactic| walk_at "b0") => `(tactic| ((with_reducible refine' c__law_depths ?hl ?_); (case hl => walk_at "len")))
local macro_rules | `(tactic| walk_at "b0") => `(tactic| ((with_reducible refine' c__law_good ?hl ?_); (case hl => walk_at "len")))
theorem ln__law_over {K : PySem.W.Frag} {C : CA} {vs : List V} {H : Hp} {Q : VK} {E : XK} (h : sp__law_over K C vs H Q E) : vs.length = 2 := by
  obtain ⟨v, ⟨b, p, q, rfl, _⟩, _⟩ := h
  rfl
theorem mapset {α β : Type} (f : α → β) (l : List α) (j : Nat) (a : α) : (l.map f).set j (f a) = (l.set j a).map f := by rw [List.map_set]
theorem flp_set {ps : List Int} {r : List Bool} {p : Int} {b : Bool} (h0 : 0 ≤ p) (hb : r[p.toNat]? = some b) : (flp ps r).set p.toNat (!b) = flp (ps ++ [p]) r := by
  apply List.ext_getElem?
  intro i
  by_cases e : p.toNat = i
  · subst e
    rw [List.getElem?_set_self (by rw [flp_len]; exact (List.getElem?_eq_some_iff.mp hb).1), flp_get hb]
    unfold flpAt
    have : ((p.toNat : Nat) : Int) = p := by omega
    rw [this, if_pos (by simp)]
  · rw [List.getElem?_set_ne e]
    unfold flp
    rw [List.getElem?_mapIdx, List.getElem?_mapIdx]
    cases r[i]? with
    | none => rfl
    | some c =>
      have h1 : ¬ ((i : Int) = p) := by omega
      simp [h1]
theorem flp_nil (r : List Bool) : flp [] r = r := by
  unfold flp
  apply List.ext_getElem?
  intro i
  rw [List.getElem?_mapIdx]
  cases r[i]? <;> simp
theorem ixN_of {n : Nat} {i : Int} (h0 : 0 ≤ i) (h1 : i < n) : ixN n i = some i.toNat := by
  unfold ixN
  rw [if_pos h0, if_pos h1]
theorem pu__law_over {K : PySem.W.Frag} {C : CA} {vs : List V} {H : Hp} {Q : VK} {E : XK} (h : sp__law_over K C vs H Q E) : rd__law_over K C { nx := fun _ H' => Q .non H', rt := Q } (start N__law_over vs) H := by
  obtain ⟨v, ⟨r, a, ps, rfl, hl, hs, hr, rfl⟩, k⟩ := h
  refine body_V ?_ k
  unfold rd__law_over
  walk_at "bm"
  refine wl_listT (by omega) fun p hp => ?_
  walk_at "bm"
  refine ⟨⟨_, isL_old hs⟩, ?_⟩
  refine lp_list (xs := ps.map V.int) (fun i σ s => ∃ b, σ = [some (.str (T r)), some (.ref a), some (.ref p), b] ∧ s = ⟨[(p, .lst ((flp (ps.take i) r).map fun b => .str (T [b])))], []⟩) rfl ⟨none, rfl, by rw [List.take_zero, flp_nil]⟩ (fun i σ s hi _ => isL_old hs) ?_ ?_
  · rintro i y σ s hi hy ⟨b, rfl, rfl⟩
    obtain ⟨z, hz, rfl⟩ := getI hy
    have hb := hr z (List.mem_of_getElem? hz)
    obtain ⟨c, hc⟩ := get_some (r := r) (i := z.toNat) (by omega)
    walk_at "bm"
    refine w2_ixT (b := c) (by omega) (atI_of (by omega) hc) ?_
    walk_at "bm"
    refine w2_ixT (b := !c) (by decide) (by cases c <;> rfl) ?_
    walk_at "bm"
    refine wset_list (xs := (flp (ps.take i) r).map fun b => .str (T [b])) (j := z.toNat) (by rw [List.length_map, flp_len]; exact ixN_of hb.1 hb.2) (by walk_at "swap") ?_
    refine ⟨_, Sub.refl _, _, rfl, ?_⟩
    rw [mapset (fun b => V.str (T [b])), flp_set hb.1 hc, take_snoc hz]
  · rintro σ s ⟨b, rfl, rfl⟩
    rw [List.length_map, List.take_length]
    walk_at "bm"
    refine wm_join1 (by walk_at "isl") (by rw [flp_len]; omega) ?_
    walk_at "bm"
theorem c__law_over {K : PySem.W.Frag} {C : CA} {H0 : Hp} {s : Ld} {Q : V → Ld → Prop} {E : XK} {r : List Bool} {a : Addr} {ps : List Int} (hl : r.length ≤ 1000) (hx : IsL K H0 s a (ps.map V.int)) (hr : ∀ p ∈ ps, 0 ≤ p ∧ p < (r.length : Int)) (q : Q (.str (T (flp ps r))) s) : WC H0 (sp__law_over K C) E [.str (T r), .ref a] s Q := wc_V (fun H o => ⟨r, a, ps, rfl, hl, hx H o, hr, rfl⟩) q
theorem ln__law_round {K : PySem.W.Frag} {C : CA} {vs : List V} {H : Hp} {Q : VK} {E : XK} (h : sp__law_round K C vs H Q E) : vs.length = 2 := by
  obtain ⟨v, ⟨b, p, q, rfl, _⟩, _⟩ := h
  rfl
theorem rev_get {α : Type} {l : List α} {i : Nat} (h : i < l.length) : l.reverse[i]? = l[l.length - 1 - i]? := by
  rw [List.getElem?_reverse h]
theorem pu__law_round {K : PySem.W.Frag} {C : CA} {vs : List V} {H : Hp} {Q : VK} {E : XK} (h : sp__law_round K C vs H Q E) : rd__law_round K C { nx := fun _ H' => Q .non H', rt := Q } (start N__law_round vs) H := by
  obtain ⟨v, ⟨r, a, ps, rfl, hl, ⟨xs, hs, hp⟩, rfl⟩, k⟩ := h
  have hlen : xs.length = ps.length := Paired.length hp
  refine body_V ?_ k
  unfold rd__law_round
  walk_at "bm"
  refine ⟨⟨_, isL_old hs⟩, ?_⟩
  refine lp_list (xs := xs) (fun i σ s => ∃ b c d e, σ = [some (.str (T (rnAll r (ps.take i)))), some (.ref a), b, c, d, e] ∧ s = ⟨[], []⟩ ∧ ∀ p ∈ ps.take i, stOk r.length p) rfl ⟨none, none, none, none, rfl, rfl, fun p hp => by simp at hp⟩ (fun i σ s hi _ => isL_old hs) ?_ ?_
  · rintro i y σ s hi hy ⟨b, c, d, e, rfl, rfl, hok⟩
    obtain ⟨p, hpi, t, rfl, htt⟩ := pairs_get hp hy
    have hl2 : (rnAll r (ps.take i)).length = r.length := rnAll_len _ _ hok
    have hse := stOk_eq r.length p
    generalize hu : rnAll r (ps.take i) = u at hl2 ⊢
    walk_at "bm"
    refine ⟨fun h1 => ?_, fun h1 => ?_⟩
    · walk_at "bm"
      refine ⟨fun h2 => ?_, fun h2 => ?_⟩
      · walk_at "bm"
        refine ⟨fun h3 => ?_, fun h3 => ?_⟩
        · walk_at "bm"
          have h3' : ¬ p.2 ≤ (u.length : Int) := by simpa using h3
          show _ = _
          rw [if_neg]
          intro hall
          have := hall p (List.mem_of_getElem? hpi)
          unfold stOk at this
          omega
        · have h1' := of_decide_eq_true h1
          have h2' := of_decide_eq_true h2
          have h3' : p.2 ≤ (u.length : Int) := by simpa using h3
          have hst : stOk r.length p := ⟨h1', h2', by omega⟩
          have hlp : ((u.drop p.1.toNat).take (p.2.toNat - p.1.toNat)).reverse.length = p.2.toNat - p.1.toNat := by simp; omega
          walk_at "bm"
          refine ⟨_, _, _, p.2.toNat - p.1.toNat, rfl, ?_, ?_⟩
          · have := RgC.neg (i := p.2 - 1) (j := p.1 - 1) (by omega) (by omega) (by omega) (by omega)
            rw [show (p.2 - 1 - (p.1 - 1)).toNat = p.2.toNat - p.1.toNat by omega] at this
            exact this
          refine cp_rngC (fun j => ((((u.drop p.1.toNat).take (p.2.toNat - p.1.toNat)).reverse).take j).map fun b => .str (T [b])) (by omega) rfl (fun j hj => by simp; omega) ?_ ?_
          · intro D j hj
            obtain ⟨z, hz⟩ := get_some (r := u) (i := p.2.toNat - 1 - j) (by omega)
            have hg : ((u.drop p.1.toNat).take (p.2.toNat - p.1.toNat)).reverse[j]? = some z := by
              rw [rev_get (by simp at hlp ⊢; omega)]
              have : ((u.drop p.1.toNat).take (p.2.toNat - p.1.toNat)).length = p.2.toNat - p.1.toNat := by simpa using hlp
              rw [this, List.getElem?_take, if_pos (by omega), List.getElem?_drop]
              rw [← hz]
              congr 1
              omega
            walk_at "bm"
            refine ⟨rfl, ?_⟩
            walk_at "bm"
            refine w2_ixT (b := z) (by omega) (atI_of (by omega) (by rw [← hz]; congr 1; omega)) ?_
            refine ⟨Sub.refl _, ?_⟩
            rw [take_snoc hg, List.map_append]
            rfl
          · intro D hD
            rw [List.take_of_length_le (Nat.le_of_eq hlp)]
            walk_at "bm"
            rw [cut_hi h1']
            walk_at "bm"
            refine wm_join1 (by walk_at "isl") (by rw [hlp]; omega) ?_
            walk_at "bm"
            rw [cut_lo (by omega)]
            walk_at "bm"
            refine ⟨⟨[], []⟩, by walk_at "sub", some (.int p.1), some (.int p.2), some (.ref D), e, ?_, rfl, ?_⟩
            · rw [rnAll_snoc hpi, hu]
              rfl
            · intro q hq
              rw [take_snoc hpi] at hq
              rcases List.mem_append.mp hq with h | h
              · exact hok q h
              · rw [List.mem_singleton.mp h]
                exact hst
      · walk_at "bm"
        have h2' := of_decide_eq_false h2
        show _ = _
        rw [if_neg]
        intro hall
        have := hall p (List.mem_of_getElem? hpi)
        unfold stOk at this
        omega
    · walk_at "bm"
      have h1' := of_decide_eq_false h1
      show _ = _
      rw [if_neg]
      intro hall
      have := hall p (List.mem_of_getElem? hpi)
      unfold stOk at this
      omega
  · rintro σ s ⟨b, c, d, e, rfl, rfl, hok⟩
    rw [hlen, List.take_length] at hok
    rw [hlen, List.take_length]
    walk_at "bm"
    show _ = _
    rw [if_pos hok]
theorem c__law_round {K : PySem.W.Frag} {C : CA} {H0 : Hp} {s : Ld} {Q : V → Ld → Prop} {E : XK} {r : List Bool} {a : Addr} {ps : List (Int × Int)} (hl : r.length ≤ 1000) (hx : ∀ H, Own H0 H s → Pairs K H a ps) (q : Q (if (∀ p ∈ ps, stOk r.length p) then .str (T (rnAll r ps)) else .non) s) : WC H0 (sp__law_round K C) E [.str (T r), .ref a] s Q := wc_V (fun H o => ⟨r, a, ps, rfl, hl, hx H o, rfl⟩) q
end BM
namespace BM
open PySem L2 Evl
local macro_rules | `(tactic| walk_at "mem") => `(tactic| first | exact List.mem_cons_self | (refine List.mem_cons_of_mem _ ?_; walk_at "mem"))
local macro_rules | `(tactic| walk_at "swap") => `(tactic| first | exact Swap.here | (refine Swap.there ?_; walk_at "swap"))
local macro_rules | `(tactic| walk_at "subl") => `(tactic| first | exact List.Sublist.refl _ | exact List.nil_sublist _ | (refine List.Sublist.cons_cons _ ?_; walk_at "subl") | (refine List.Sublist.cons _ ?_; walk_at "subl"))
local macro_rules | `(tactic| walk_at "sub") => `(tactic| first | exact Sub.refl _ | (refine ⟨?_, ?_⟩ <;> walk_at "subl"))
local macro_rules | `(tactic| walk_at "isl") => `(tactic| first | exact isL_own (by walk_at "mem") | exact isL_old (by assumption) | assumption)
local macro_rules | `(tactic| walk_at "ist") => `(tactic| first | exact isT_own (by walk_at "mem") | exact isT_old (by assumption) | assumption)
local macro_rules | `(tactic| walk_at "len") => `(tactic| first | omega | decide | (simp only [List.length_map, List.length_take, List.length_drop, List.length_append, List.length_cons, List.length_nil, List.length_reverse, dps_len, flp_len]; omega) | (simp [dps_len, flp_len]; omega) | simp)
local macro_rules | `(tactic| walk_at "b0") => `(tactic| first
  | with_reducible refine' ws_set ?_
  | with_reducible refine' ws_par ?_
  | with_reducible refine' ws_asg ?_
  | with_reducible refine' ws_drop ?_
  | with_reducible refine' ws_ret ?_
  | with_reducible refine' ws_if ?_
  | with_reducible refine' ws_next ?_
  | with_reducible refine' ws_brk ?_
  | with_reducible refine' ws_cont ?_
  | ((with_reducible refine' we_var ?hv ?_); case hv => rfl)
  | with_reducible refine' we_c ?_
  | with_reducible refine' we_op ?_
  | with_reducible refine' we_un ?_
  | with_reducible refine' we_if ?_
  | with_reducible refine' we_and ?_
  | with_reducible refine' we_or ?_
  | with_reducible refine' we_not ?_
  | with_reducible refine' wa_nil ?_
  | with_reducible refine' wa_cons ?_
  | (with_reducible refine' we_lst ?_)
  | (with_reducible refine' we_tup ?_)
  | with_reducible refine' we_cb ?_
  | with_reducible refine' we_call0 ?_
  | with_reducible refine' we_sl ?_
  | with_reducible refine' wo_none ?_
  | (with_reducible refine' wo_some ?_)
  | with_reducible refine' wt_test ?_
  | with_reducible refine' wt_B ?_
  | with_reducible refine' wt_and ?_
  | with_reducible refine' wt_or ?_
  | with_reducible refine' wt_not ?_
  | with_reducible refine' wt_yes ?_
  | with_reducible refine' we_chain ?_
  | with_reducible refine' we_chain3 ?_
  | with_reducible refine' we_revT ?_
  | with_reducible refine' we_revL ?_
  | with_reducible refine' we_bm ?_
  | with_reducible refine' we_bm0 ?_
  | with_reducible refine' ws_for ?_
  | with_reducible refine' we_lc ?_
  | with_reducible refine' wi_list ?_
  | with_reducible refine' wi_tup ?_
  | with_reducible refine' wi_T ?_
  | with_reducible refine' wi_rng1 ?_
  | with_reducible refine' wi_rng2 ?_
  | with_reducible refine' wi_rng3 ?_
  | with_reducible refine' wi_enum ?_
  | with_reducible refine' wi_enumT ?_
  | with_reducible refine' wi_zip ?_
  | with_reducible refine' wg_name ?_
  | with_reducible refine' wg_sub ?_
  | with_reducible refine' wgs_nil ?_
  | with_reducible refine' wgs_cons ?_
  | ((with_reducible refine' wg_tup ?ht ?hn ?_); (case ht => walk_at "ist"); (case hn => rfl))
  | with_reducible refine' w2_add ?_
  | with_reducible refine' w2_sub ?_
  | with_reducible refine' w2_lt ?_
  | with_reducible refine' w2_le ?_
  | with_reducible refine' w2_gt ?_
  | with_reducible refine' w2_ge ?_
  | with_reducible refine' w2_eqI ?_
  | with_reducible refine' w2_neI ?_
  | with_reducible refine' w2_eqT ?_
  | with_reducible refine' w2_neT ?_
  | with_reducible refine' w2_eqB ?_
  | with_reducible refine' w2_neB ?_
  | with_reducible refine' w2_isN ?_
  | with_reducible refine' w2_notN ?_
  | with_reducible refine' w2_isB ?_
  | with_reducible refine' w2_inT ?_
  | with_reducible refine' w1_neg ?_
  | with_reducible refine' wl_abs ?_
  | with_reducible refine' wl_max2 ?_
  | with_reducible refine' wl_min2 ?_
  | with_reducible refine' wl_intB ?_
  | ((with_reducible refine' w2_div ?h ?_); case h => first | omega | (constructor <;> omega))
  | ((with_reducible refine' w2_mod ?h ?_); case h => omega)
  | ((with_reducible refine' w2_catT ?h ?_); case h => walk_at "len")
  | ((with_reducible refine' wsl_T ?h ?_); case h => walk_at "len")
  | ((with_reducible refine' wl_lenT ?h ?_); case h => walk_at "len")
  | ((with_reducible refine' wl_len ?h ?_); case h => walk_at "isl")
  | ((with_reducible refine' wl_len ?h ?_); case h => walk_at "isl")
  | ((with_reducible refine' wm_append ?sw ?hl ?_); (case sw => walk_at "swap"); (case hl => walk_at "len")))
local macro_rules | `(tactic| walk_at "b1") => `(tactic| first | with_reducible refine' ws_seq ?_ | walk_at "b0")
local macro_rules | `(tactic| walk_at "bx") => `(tactic| first
  | refine ⟨_, rfl, ?_⟩
  | refine ⟨_, _, rfl, ?_⟩
  | refine ⟨ty_L (by walk_at "isl"), ?_⟩
  | refine ⟨ty_S, ?_⟩
  | refine spl_t (by rfl) ?_
  | refine spl_f (by rfl) ?_
  | exact rfl)
local macro_rules | `(tactic| walk_at "bm") => `(tactic| repeat (first | walk_at "b1" | walk_at "bx"))
local macro_rules | `(tactic| walk_at "bn") => `(tactic| repeat (first | walk_at "b0" | walk_at "bx"))
local macro_rules | `(tactic| walk_at "b0") => `(tactic| with_reducible refine' c_deepens ?_)
local macro_rules | `(tactic| walk_at "b0") => `(tactic| ((with_reducible refine' c_depths_of ?hl ?_); (case hl => walk_at "len")))
local macro_rules | `(tactic| walk_at "b0") => `(tactic| with_reducible refine' c_is_wholeI ?_)
local macro_rules | `(tactic| walk_at "b0") => `(tactic| with_reducible refine' c_flipped ?_)
local macro_rules | `(tactic| walk_at "b0") => `(tactic| ((with_reducible refine' c_is_right_row ?hl ?_); (case hl => walk_at "len")))
local macro_rules | `(tactic| walk_at "b0") => `(tactic| ((with_reducible refine' c_asked_row ?hl ?_); (case hl => walk_at "len")))
local macro_rules | `(tactic| walk_at "b0") => `(tactic| ((with_reducible refine' c_depths ?hl ?_); (case hl => walk_at "len")))
local macro_rules | `(tactic| walk_at "b0") => `(tactic| ((with_reducible refine' c_is_right ?hl ?_); (case hl => walk_at "len")))
local macro_rules | `(tactic| walk_at "b0") => `(tactic| ((with_reducible refine' c__law_depths ?hl ?_); (case hl => walk_at "len")))
local macro_rules | `(tactic| walk_at "b0") => `(tactic| ((with_reducible refine' c__law_good ?hl ?_); (case hl => walk_at "len")))
theorem ln__law_row {K : PySem.W.Frag} {C : CA} {vs : List V} {H : Hp} {Q : VK} {E : XK} (h : sp__law_row K C vs H Q E) : vs.length = 4 := by
  obtain ⟨⟨a, ns, k, m, e, rfl, _⟩, _⟩ := h
  rfl
abbrev ch (b : Bool) : V := .str (T [b])
theorem flat_ch (r : List Bool) : (r.map ch).all flatV = true := by
  rw [List.all_map, List.all_eq_true]
  intro x _
  rfl
theorem count_ch (r : List Bool) (b : Bool) : (r.map ch).countP (fun z => eqV z (ch b)) = r.count b := by
  rw [List.countP_map]
  unfold List.count
  apply List.countP_congr
  intro c _
  show (T [c] == T [b]) = true ↔ (c == b) = true
  simp only [beq_iff_eq, T_eq, List.cons.injEq, and_true]
theorem atI_small {z : Int} (h : z = 0 ∨ z = 1) : ∃ b, atI [true, false] z = some b := by
  rcases h with rfl | rfl
  · exact ⟨true, rfl⟩
  · exact ⟨false, rfl⟩
theorem five_at {w a b c d e : Int} (ha : a = 0 ∨ a = 1) (hb : b = 0 ∨ b = 1) (hc : c = 0 ∨ c = 1) (hd : d = 0 ∨ d = 1) (he : e = 0 ∨ e = 1) : ∃ z : Int, (z = 0 ∨ z = 1) ∧ atI [V.int a, .int b, .int c, .int d, .int e] (w % 5) = some (.int z) := by
  have h : w % 5 = 0 ∨ w % 5 = 1 ∨ w % 5 = 2 ∨ w % 5 = 3 ∨ w % 5 = 4 := by omega
  rcases h with h | h | h | h | h <;> rw [h]
  · exact ⟨a, ha, rfl⟩
  · exact ⟨b, hb, rfl⟩
  · exact ⟨c, hc, rfl⟩
  · exact ⟨d, hd, rfl⟩
  · exact ⟨e, he, rfl⟩
theorem int01 {p : Prop} [Decidable p] : ((if decide p = true then (1 : Int) else 0) = 0) ∨ ((if decide p = true then (1 : Int) else 0) = 1) := by
  by_cases h : p
  · exact .inr (by simp [h])
  · exact .inl (by simp [h])
/-- where the row's making stands -/
def LRow (a p q : Addr) (k m wd W : Int) (e : Bool) (cs : List Int) (P : List Bool → Option V → Prop) (σ : L2.St) (s : Ld) : Prop :=
  ∃ (x6 x8 x10 x11 x12 x13 x14 : Option V) (r : List Bool), σ = [some (.ref a), some (.int k), some (.int m), some (.bl e), some (.ref p), some (.int wd), x6, some (.ref q), x8, some (.int W), x10, x11, x12, x13, x14] ∧ s = ⟨[(q, .lst (r.map ch)), (p, .lst (cs.map V.int))], []⟩ ∧ P r x8
theorem pu__law_row {K : PySem.W.Frag} {C : CA} {vs : List V} {H : Hp} {Q : VK} {E : XK} (h : sp__law_row K C vs H Q E) : rd__law_row K C { nx := fun _ H' => Q .non H', rt := Q } (start N__law_row vs) H := by
  obtain ⟨⟨a, ns, k, m, e, rfl, hs, hns, hk0, hk1, hm0, hm1⟩, kk⟩ := h
  refine body_P (P := fun v => ∃ r : List Bool, v = .str (T r) ∧ (r.length : Int) ≤ m ∧ (e = true → hgt r = 0)) ?_ (fun v H' ⟨r, h1, h2, h3⟩ x => kk v H' ⟨a, k, m, e, r, rfl, h1, h2, h3⟩ x)
  unfold rd__law_row
  refine ws_cut (fun σ s => ∃ (p : Addr) (cs : List Int), σ = [some (.ref a), some (.int k), some (.int m), some (.bl e), some (.ref p), none, none, none, none, none, none, none, none, none, none] ∧ s = ⟨[(p, .lst (cs.map V.int))], []⟩ ∧ 0 < cs.length ∧ cs.length ≤ 63) ?_ ?_
  · walk_at "bm"
    refine ⟨by decide, fun p0 hp0 => ?_⟩
    refine w2_neLI (ns := ns) (ms := []) (isL_old hs) (by walk_at "isl") ?_
    walk_at "bm"
    refine ⟨fun hc => ?_, fun hc => ?_⟩
    · walk_at "bm"
      refine wsl_L (isL_old hs) fun p hp => ?_
      refine ⟨⟨[(p, .lst (ns.map V.int))], []⟩, ?_, p, ns, rfl, rfl, ?_, hns⟩
      · rw [cut_hi (by omega), List.take_of_length_le (by rw [List.length_map]; omega)]
        walk_at "sub"
      · cases ns with
        | nil => simp at hc
        | cons x y => simp
    · walk_at "bm"
      refine ⟨by decide, fun p hp => ?_⟩
      exact ⟨⟨[(p, .lst ([5].map V.int))], []⟩, by walk_at "sub", p, [5], rfl, rfl, by decide, by decide⟩
  · rintro σ s ⟨p, cs, rfl, rfl, hc0, hc1⟩
    have hcl : (cs.map V.int).length = cs.length := List.length_map ..
    walk_at "bm"
    refine wl_sum (by walk_at "isl") ?_
    walk_at "bm"
    refine w2_mul (cmul_l (by decide) (by decide)) ?_
    walk_at "bm"
    refine ⟨by decide, fun q hq => ?_⟩
    walk_at "bn"
    obtain ⟨W, hW, hW0⟩ : ∃ W : Int, (if cs.sum < 0 then -cs.sum else cs.sum) + 7 * k = W ∧ 0 ≤ W := ⟨_, rfl, by split <;> omega⟩
    rw [hW]
    refine ws_seq ?_
    walk_at "bn"
    obtain ⟨wd, hwd, hwd0⟩ : ∃ wd : Int, 1 + W / 5 % 6 = wd ∧ 1 ≤ wd ∧ wd ≤ 6 := ⟨_, rfl, by omega⟩
    rw [hwd]
    refine ws_cut (LRow a p q k m wd W e cs fun r _ => (r.length : Int) ≤ m) ?_ ?_
    · have hb1 : W / 30 % (m + 1) < m + 1 := Int.emod_lt_of_pos _ (by omega)
      have hb0 : 0 ≤ W / 30 % (m + 1) := Int.emod_nonneg _ (by omega)
      walk_at "bm"
      refine ⟨by omega, ?_⟩
      refine lp_rng (fun i => LRow a p q k m wd W e cs fun r _ => r.length = i) ⟨none, none, none, none, none, none, none, [], rfl, rfl, rfl⟩ ?_ ?_
      · rintro i σ s hi ⟨x6, x8, x10, x11, x12, x13, x14, r, rfl, rfl, hr⟩
        have hiz : (i : Int) ≤ 40 := by omega
        refine wg_name ?_
        refine ws_seq ?_
        walk_at "bn"
        obtain ⟨sp, hsp, hsp0, hsp1⟩ : ∃ sp : Int, (0 + (i : Int)) / wd = sp ∧ 0 ≤ sp ∧ sp ≤ 40 := ⟨_, rfl, Int.ediv_nonneg (by omega) (by omega), by
          have := Int.ediv_le_self (a := (0 + (i : Int))) wd (by omega)
          omega⟩
        rw [hsp]
        walk_at "bm"
        have hm1' := Int.emod_nonneg (sp + k) (b := ((cs.map V.int).length : Int)) (by omega)
        have hm2' := Int.emod_lt_of_pos (sp + k) (b := ((cs.map V.int).length : Int)) (by omega)
        obtain ⟨z, hz⟩ := get_some (r := cs) (i := ((sp + k) % ((cs.map V.int).length : Int)).toNat) (by omega)
        refine w2_ixL (v := .int z) (by walk_at "isl") (atI_of hm1' (by rw [List.getElem?_map, hz]; rfl)) ?_
        walk_at "bm"
        refine c__law_number (by omega) fun n => ?_
        walk_at "bn"
        generalize hnh : (if n < 0 then -n else n) / 3 = nh
        refine ws_seq (ws_set (we_cb (wa_cons (we_or_val (b1 := decide (0 < nh % 3)) (b2 := decide ((0 + (i : Int)) % 2 = 0)) (fun Q q => by walk_at "bm"; exact q) (fun Q q => by walk_at "bm"; exact q) ?_))))
        walk_at "bn"
        obtain ⟨mx, hmx, hmx01⟩ : ∃ mx : Int, (if (decide (0 < nh % 3) || decide ((0 + (i : Int)) % 2 = 0)) = true then (1 : Int) else 0) = mx ∧ (mx = 0 ∨ mx = 1) := ⟨_, rfl, by split <;> simp⟩
        rw [hmx]
        walk_at "bm"
        refine ⟨by simp, fun tt htt => ?_⟩
        walk_at "bm"
        obtain ⟨y, hy, hat⟩ := five_at (w := W) (a := nh % 2) (b := (0 + (i : Int)) % 2) (c := 1 - (0 + (i : Int)) % 2) (d := mx) (e := if decide (sp % 2 = 0) = true then 1 else 0) (by omega) (by omega) (by omega) hmx01 int01
        refine w2_ixU (v := .int y) (by walk_at "ist") hat ?_
        obtain ⟨b, hb⟩ := atI_small hy
        refine w2_ixT (b := b) (by simp) hb ?_
        walk_at "bm"
        refine ⟨⟨[(q, .lst (r.map ch ++ [ch b])), (p, .lst (cs.map V.int))], []⟩, by walk_at "sub", some (.int (0 + (i : Int))), x8, some (.int sp), some (.int (z + sp / ((cs.map V.int).length : Int))), some (.int nh), some (.int mx), some (.ref tt), r ++ [b], rfl, ?_, by simp [hr]⟩
        rw [List.map_append]
        rfl
      · rintro σ s ⟨x6, x8, x10, x11, x12, x13, x14, r, rfl, rfl, hr⟩
        exact ⟨_, Sub.refl _, x6, x8, x10, x11, x12, x13, x14, r, rfl, rfl, by omega⟩
    · rintro σ s ⟨x6, x8, x10, x11, x12, x13, x14, r, rfl, rfl, hr⟩
      refine ws_cut (fun σ s => ∃ (q : Addr), LRow a p q k m wd W e cs (fun r _ => (r.length : Int) ≤ m ∧ (e = true → r.length % 2 = 0)) σ s) ?_ ?_
      · walk_at "bm"
        refine ⟨fun he => ?_, fun he => ?_⟩
        · walk_at "bm"
          refine w2_mul (cmul_r (by decide) (by decide)) ?_
          walk_at "bm"
          refine wsl_L (by walk_at "isl") fun q2 hq2 => ?_
          refine ⟨⟨[(q2, .lst ((r.take (r.length / 2 * 2)).map ch)), (p, .lst (cs.map V.int))], []⟩, ?_, q2, x6, x8, x10, x11, x12, x13, x14, r.take (r.length / 2 * 2), rfl, rfl, by simp; omega, fun _ => by simp; omega⟩
          rw [cut_hi (by omega), List.length_map, show ((r.length : Int) / 2 * 2).toNat = r.length / 2 * 2 by omega, List.map_take]
          walk_at "sub"
        · walk_at "bm"
          exact ⟨_, Sub.refl _, q, x6, x8, x10, x11, x12, x13, x14, r, rfl, rfl, hr, fun h => by rw [he] at h; cases h⟩
      · rintro σ s ⟨q, x6, x8, x10, x11, x12, x13, x14, r, rfl, rfl, hr, hev⟩
        have hrl : (r.map ch).length = r.length := List.length_map ..
        walk_at "bm"
        refine wm_count (by walk_at "isl") rfl (flat_ch r) ?_
        walk_at "bm"
        refine wm_count (by walk_at "isl") rfl (flat_ch r) ?_
        rw [count_ch r true, count_ch r false]
        refine w2_sub ?_
        rw [← hgt_count]
        walk_at "bm"
        refine ⟨by omega, ?_⟩
        refine lp_rng (fun i => LRow a p q k m wd W e cs fun r' x8 => r'.length = r.length ∧ (if e = true then ∃ mo, x8 = some (.int mo) ∧ EvenUp W r.length i r' mo else ∃ mo, x8 = some (.int mo))) ⟨x6, some (.int (hgt r)), x10, x11, x12, x13, x14, r, rfl, rfl, rfl, ?_⟩ ?_ ?_
        · cases e with
          | true => exact ⟨_, rfl, EvenUp.start (hev rfl)⟩
          | false => exact ⟨_, rfl⟩
        · rintro i σ s hi ⟨x6, x8, x10, x11, x12, x13, x14, r', rfl, rfl, hr', hx⟩
          rw [hrl] at hi
          have hrl' : (r'.map ch).length = r'.length := List.length_map ..
          obtain ⟨mo, rfl⟩ : ∃ mo, x8 = some (.int mo) := by
            cases e with
            | true => obtain ⟨mo, h, _⟩ := hx; exact ⟨mo, h⟩
            | false => exact hx
          walk_at "bm"
          have hm1' := Int.emod_nonneg (0 + (i : Int) + W) (b := ((r'.map ch).length : Int)) (by omega)
          have hm2' := Int.emod_lt_of_pos (0 + (i : Int) + W) (b := ((r'.map ch).length : Int)) (by omega)
          have hsp : (0 + (i : Int) + W) % ((r'.map ch).length : Int) = ((i : Int) + W) % (r.length : Int) := by
            rw [hrl', hr', show (0 + (i : Int) + W) = (i : Int) + W by omega]
          obtain ⟨y, hy⟩ := get_some (r := r') (i := ((0 + (i : Int) + W) % ((r'.map ch).length : Int)).toNat) (by omega)
          have hy2 : r'[(((i : Int) + W) % (r.length : Int)).toNat]? = some y := by rw [← hsp]; exact hy
          cases e with
          | false =>
            walk_at "bm"
            exact ⟨_, Sub.refl _, _, _, _, x11, x12, x13, x14, r', rfl, rfl, hr', mo, rfl⟩
          | true =>
            obtain ⟨mo', hmo, EU⟩ := hx
            cases hmo
            walk_at "bm"
            refine ⟨fun hne => ?_, fun hne => ?_⟩
            · have hne' : mo ≠ 0 := by simpa using hne
              walk_at "bm"
              refine w2_ixL (v := ch y) (by walk_at "isl") (atI_of hm1' (by rw [List.getElem?_map, hy]; rfl)) ?_
              walk_at "bm"
              have hd : atI [true, false] (if decide (mo < 0) = true then 1 else 0) = some (decide (0 < mo)) := by
                by_cases h : mo < 0
                · simp [h, show ¬ 0 < mo by omega]
                  rfl
                · simp [h, show 0 < mo by omega]
                  rfl
              refine w2_ixT (b := decide (0 < mo)) (by simp) hd ?_
              walk_at "bm"
              refine ⟨fun hyc => ?_, fun hyc => ?_⟩
              · have hya : y = decide (0 < mo) := by simpa using hyc
                have EU2 := EU.turn hne' hy2 hya
                walk_at "bm"
                have hd2 : atI [true, false] (if decide (0 < mo) = true then 1 else 0) = some (!y) := by
                  rw [hya]
                  by_cases h : 0 < mo
                  · simp [h]
                    rfl
                  · simp [h]
                    rfl
                refine w2_ixT (b := !y) (by simp) hd2 ?_
                walk_at "bm"
                refine wset_list (xs := r'.map ch) (j := ((0 + (i : Int) + W) % ((r'.map ch).length : Int)).toNat) (ixN_of hm1' hm2') (by walk_at "swap") ?_
                walk_at "bm"
                have fin : ∀ mo2, mo2 = (if 0 < mo then mo - 2 else mo + 2) → ∃ s0, Sub s0 ⟨[(q, HO.lst ((r'.map ch).set ((0 + (i : Int) + W) % ((r'.map ch).length : Int)).toNat (ch (!y)))), (p, .lst (cs.map V.int))], []⟩ ∧ LRow a p q k m wd W true cs (fun r' x8 => r'.length = r.length ∧ (if true = true then ∃ mo, x8 = some (.int mo) ∧ EvenUp W r.length (i + 1) r' mo else ∃ mo, x8 = some (.int mo))) [some (.ref a), some (.int k), some (.int m), some (.bl true), some (.ref p), some (.int wd), some (.int (0 + (i : Int))), some (.ref q), some (.int mo2), some (.int W), some (.int ((0 + (i : Int) + W) % ((r'.map ch).length : Int))), x11, x12, x13, x14] s0 := by
                  rintro mo2 rfl
                  refine ⟨_, Sub.refl _, _, _, _, x11, x12, x13, x14, r'.set (((i : Int) + W) % (r.length : Int)).toNat (!y), rfl, ?_, by rw [List.length_set]; exact hr', _, rfl, EU2⟩
                  rw [mapset ch, hsp]
                refine ⟨fun h => ?_, fun h => ?_⟩
                · walk_at "bm"
                  exact fin _ (by rw [if_pos (of_decide_eq_true h)])
                · walk_at "bm"
                  exact fin _ (by rw [if_neg (of_decide_eq_false h)])
              · have hya : y ≠ decide (0 < mo) := by simpa using hyc
                walk_at "bm"
                exact ⟨_, Sub.refl _, _, _, _, x11, x12, x13, x14, r', rfl, rfl, hr', mo, rfl, EU.stay hy2 fun _ => hya⟩
            · have hne' : mo = 0 := by simpa using hne
              walk_at "bm"
              exact ⟨_, Sub.refl _, _, _, _, x11, x12, x13, x14, r', rfl, rfl, hr', mo, rfl, EU.stay hy2 fun h => absurd hne' h⟩
        · rintro σ s ⟨x6, x8, x10, x11, x12, x13, x14, r', rfl, rfl, hr', hx⟩
          walk_at "bm"
          refine wm_join1 (by walk_at "isl") (by omega) ?_
          refine ⟨r', rfl, by omega, fun he => ?_⟩
          subst he
          obtain ⟨mo, _, EU⟩ := hx
          rw [hrl] at EU
          exact EU.done
theorem c__law_row {K : PySem.W.Frag} {C : CA} {H0 : Hp} {s : Ld} {Q : V → Ld → Prop} {E : XK} {a : Addr} {ns : List Int} {k m : Int} {e : Bool} (hx : IsL K H0 s a (ns.map V.int)) (hn : ns.length ≤ 63) (hk : 0 ≤ k ∧ k ≤ 1000 ∧ 0 ≤ m ∧ m ≤ 40) (q : ∀ r : List Bool, (r.length : Int) ≤ m → (e = true → hgt r = 0) → Q (.str (T r)) s) : WC H0 (sp__law_row K C) E [.ref a, .int k, .int m, .bl e] s Q :=
  wc_P (fun H o => ⟨a, ns, k, m, e, rfl, hx H o, hn, hk.1, hk.2.1, hk.2.2.1, hk.2.2.2⟩) (fun v ⟨a', k', m', e', r, h1, h2, h3, h4⟩ => by
    cases h1
    rw [h2]
    exact q r h3 h4)
end BM
namespace BM
open PySem L2 Evl
theorem kit_self (K : PySem.W.Frag) (D : Addr) : PySem.W.kitOne K (.ref D) (.ref D) = some true := by
  unfold PySem.W.kitOne
  rw [if_pos (by simp)]
/-- an own class as it stands -/
structure ClsK (K : PySem.W.Frag) (C : Addr) : Prop where
  hd : PySem.W.hasDictIn K C = true
  ty : PySem.W.typeIn K (.ref C) = some (.type "type")
theorem kitCls_of {K : PySem.W.Frag} {D c : Addr} {b : Bool} (hc : ClsK K c) (h : PySem.W.subIn K (.ref D) (.ref c) = some b) : PySem.W.kitCls K (.ref D) (.ref c) = some b := by
  obtain ⟨cd, e, _⟩ := PySem.W.any_some hc.hd
  unfold PySem.W.kitCls
  have e2 : ((PySem.W.clsIn K c).isSome && PySem.W.typeIn K (.ref c) == some (.type "type")) = true := by rw [e, hc.ty] <;> rfl
  show (if ((PySem.W.clsIn K c).isSome && PySem.W.typeIn K (.ref c) == some (.type "type")) = true then PySem.W.subIn K (.ref D) (.ref c) else none) = some b
  rw [if_pos e2]
  exact h
theorem kit_no {K : PySem.W.Frag} {D c : Addr} (hc : ClsK K c) (h : PySem.W.subIn K (.ref D) (.ref c) = some false) (hs : PySem.W.subIn K (.ref c) (.ref c) = some true) : PySem.W.kitOne K (.ref D) (.ref c) = some false := by
  unfold PySem.W.kitOne
  rw [if_neg]
  · exact kitCls_of hc h
  · intro e
    have e' : (Value.ref D) = Value.ref c := by simpa using e
    cases e'
    rw [h] at hs
    cases hs
theorem kit_yes {K : PySem.W.Frag} {D c : Addr} (hc : ClsK K c) (h : PySem.W.subIn K (.ref D) (.ref c) = some true) : PySem.W.kitOne K (.ref D) (.ref c) = some true := by
  unfold PySem.W.kitOne
  split
  · rfl
  · exact kitCls_of hc h
end BM
namespace BM
open PySem PySem.Spec PyProof.Rows L2
/-! set(l) of a list that may be long, but has few different numbers -/
theorem nodup_few : ∀ {l ms : List Int}, l.Nodup → (∀ x ∈ l, x ∈ ms) → l.length ≤ ms.length
  | [], _, _, _ => Nat.zero_le _
  | a :: l, ms, nd, h => by
    have hm := h a List.mem_cons_self
    have nd' := List.nodup_cons.mp nd
    have h2 : ∀ x ∈ l, x ∈ ms.erase a := fun x hx => (List.mem_erase_of_ne (fun e : x = a => nd'.1 (by rw [← e]; exact hx))).mpr (h x (List.mem_cons_of_mem _ hx))
    have ih := nodup_few nd'.2 h2
    rw [List.length_erase_of_mem hm] at ih
    have : 0 < ms.length := List.length_pos_of_mem hm
    rw [List.length_cons]
    omega
theorem setR_few {w : World} {h : Heap} {a : Addr} {S : Int → Bool} {c : Nat} {ms : List Int} (R : SetR w h a S c) (hS : ∀ z, S z = true → z ∈ ms) : c ≤ ms.length := by
  obtain ⟨_, es, _, _, _, _, _, _, nd, hk, _, _, hn, _⟩ := R
  have := nodup_few nd fun z hz => hS z ((hk z).mpr hz)
  rw [List.length_map, Array.length_toList] at this
  omega
section
variable {P : Program} {w : World} {A : Around}
theorem set_update_few {it : Addr} {foot wrote : List Addr} {Gn : Array GenState → Array GenState → Prop} {m : Nat} {Pw : Nat → Value → Prop} {Sw : Nat → Shared → Prop} {Z : Result → Shared → Prop}
    (Wk : WalksS P w A.in1 it foot wrote Gn m Pw Sw) (at_ : Addr) (out_ : at_ ∉ foot) (ns ms : List Int) (em : m = ns.length) (sub_ : ∀ x ∈ ns, x ∈ ms) (room : ms.length + 1 < scanBound) (isInt : ∀ i v, Pw i v → ∃ z t, ns[i]? = some z ∧ v = .int z t) :
    ∀ (left i : Nat) (u : Shared), m - i = left → i ≤ m → Sw i u → (∃ c, c ≤ i ∧ SetR w u.heap at_ (fun j => decide (j ∈ ns.take i)) c) →
      (∀ u' c, Moved (at_ :: wrote) Gn u u' → c ≤ m → SetR w u'.heap at_ (fun j => decide (j ∈ ns)) c → Z (.ok (.ret .none)) u') →
      codeAny (model P w) A (.builtin "set.update.loop" ⟨[.ref at_, .ref it], []⟩) Z u := by
  have outW : at_ ∉ wrote := fun hx => out_ (Wk.sub _ hx)
  have wsub : ∀ b ∈ wrote, b ∈ at_ :: wrote := fun b hx => List.mem_cons_of_mem _ hx
  intro left
  induction left with
  | zero =>
    rintro i u el hi hst ⟨c, hc, hS⟩ fin
    obtain rfl : i = m := by omega
    refine codeAny_builtin F.entry_set_update_loop ?_
    rw [Around.under_plainId F.plain_set_update_loop _]
    refine wpAny_bind (Wk.done u _ _ hst fun u' mv => ?_)
    have et : ns.take i = ns := List.take_of_length_le (by omega)
    rw [et] at hS
    exact wpAny_pure (fin u' c (mv.mono wsub) hc (hS.at fun o e => mv.heap at_ o outW e))
  | succ left again =>
    rintro i u el hi hst ⟨c, hc, hS⟩ fin
    have more : i < m := by omega
    refine codeAny_builtin F.entry_set_update_loop ?_
    rw [Around.under_plainId F.plain_set_update_loop _]
    refine wpAny_bind (Wk.item i u _ _ more hst fun v u' hP hst' mv => ?_)
    obtain ⟨z, t, hz, rfl⟩ := isInt i v hP
    have hS1 : SetR w u'.heap at_ (fun j => decide (j ∈ ns.take i)) c := hS.at fun o e => mv.heap at_ o outW e
    have hcm : c ≤ ms.length := setR_few hS1 fun y hy => sub_ y (List.mem_of_mem_take (of_decide_eq_true hy))
    refine wpAny_bind (wpAny_holding ?_)
    unfold setAdd
    refine wpAny_holding (wpAny_bind ((intKind P w).pyHash (k := z) (intKind_is _ _ _ _) ?_))
    refine setR_add_hashed (s := { u' with toks := u'.toks + 1 }) hS1 (by omega) fun hp but hS2 => ?_
    have hS3 : SetR w hp at_ (fun j => decide (j ∈ ns.take (i + 1))) (if decide (z ∈ ns.take i) = true then c else c + 1) := hS2.congr fun j => by
      rw [List.take_add_one, hz]
      simp [List.mem_append]
    have hc3 : (if decide (z ∈ ns.take i) = true then c else c + 1) ≤ i + 1 := by
      split <;> omega
    refine wpAny_pure ⟨plainId_quiet F.plain_set_update_loop _, again (i + 1) _ (by omega) more (Wk.frame _ u' _ _ hst' (Nat.le_succ _) fun b hx o e => ?_) ⟨_, hc3, hS3⟩ fun u2 c2 mv2 hc2 hS4 => ?_⟩
    · rw [but.2 b (fun e2 => out_ (e2 ▸ hx))]
      exact e
    · refine fin u2 c2 (Moved.trans Wk.gtrans ((mv.mono wsub).then_heap (Nat.le_succ _) fun b o hx e => ?_) mv2) hc2 hS4
      rw [but.2 b (fun e2 => hx (e2 ▸ List.mem_cons_self))]
      exact e
end
end BM
namespace BM
open PySem PySem.Spec PyProof.Rows L2
section
variable {P : Program} {w : World} {A : Around} {E : Value → Shared → Prop} {s : Shared}
/-- set(l), l a list of ints: what stands in it, and at most how many -/
theorem call_set_lstI {l : Addr} {xs : Array Value} (ns ms : List Int) {Q : Value → Shared → Prop} (hh : A.handled = none) (hl : s.heap.IsList l xs) (hit : IntsAre xs.toList ns) (hms : ∀ x ∈ ns, x ∈ ms) (hb : ms.length + 1 < scanBound)
    (h : ∀ (h2 : Heap) (k c : Nat), SetR w h2 s.heap.objs.size (fun j => decide (j ∈ ns)) c → c ≤ ns.length → (∀ b o, s.heap.get? b = some o → h2.get? b = some o) → Q (.ref s.heap.objs.size) { s with heap := h2, toks := k }) :
    wpAny (model P w) A (call (.type "set") [.ref l]) Q E s := by
  have hzz : xs.size = ns.length := by rw [← Array.length_toList]; exact IntsAre.length hit
  obtain ⟨c, tl, m1⟩ := F.called_set.mro
  have m2 := F.called_set.made
  have m3 := F.called_set.sub
  have m4 := F.called_set.notType
  have m5 := F.called_set.canCreate
  have m6 := F.typeCall_set_1 (.ref l)
  refine wpAny_call (codeAny_of_tree (?_ : wpAny _ _ (callAny (.type "set") _) _ _ _))
  refine wpAny_pure ⟨Code.quiet_builtin _ (by decide +kernel), codeAny_builtin F.entry_type_call (?_ : _)⟩
  rw [(Around.under_plain (weight_type_call_type "set" [.ref l] []) rfl : _)]
  repeat (any_goals (first | assumption | wp_step))
  refine codeAny_mono (code_set_led1 (.ref l) (E := E) (Q₁ := fun ob s1 => ob = .ref s.heap.objs.size ∧ s1 = { s with heap := s.heap.push ({ cls := Value.type "set", dict := none, data := Data.set #[] 0 (.fresh 0 0 (!w.params.followText "set-order")) } : Obj) }) ⟨rfl, rfl⟩) fun r s1 hr => ?_
  cases r with
  | error e => exact hr
  | ok fl =>
    cases fl with
    | ret ob =>
      obtain ⟨rfl, rfl⟩ := hr
      have g1 : (s.heap.push ({ cls := Value.type "set", dict := none, data := Data.set #[] 0 (.fresh 0 0 (!w.params.followText "set-order")) } : Obj)).get? s.heap.objs.size = some ({ cls := Value.type "set", dict := none, data := Data.set #[] 0 (.fresh 0 0 (!w.params.followText "set-order")) } : Obj) := Heap.get?_push_size _ rfl
      have g2 : Shared.TypeIs { s with heap := s.heap.push ({ cls := Value.type "set", dict := none, data := Data.set #[] 0 (.fresh 0 0 (!w.params.followText "set-order")) } : Obj) } (.ref s.heap.objs.size) "set" := ⟨_, g1, rfl⟩
      have m7 := F.called_set.init.lookup
      have m8 := F.called_set.init.bind (.ref s.heap.objs.size)
      repeat (any_goals (first | assumption | wp_step))
      refine codeAny_mono (codeAny_call_builtin (R := wants (fun r s2 => r = .none ∧ ∃ h2 k c, s2 = { s with heap := h2, toks := k } ∧ SetR w h2 s.heap.objs.size (fun j => decide (j ∈ ns)) c ∧ c ≤ ns.length ∧ ∀ b o, s.heap.get? b = some o → h2.get? b = some o) E)
        F.called_set.init.plain F.entry_set_init (check_set_init_1 g2 ?_)) fun r2 s2 hr2 => ?_
      · obtain ⟨⟨oc, od, odt, osl⟩, hol, hc1, nl, hd1⟩ := hl
        simp only at hc1 hd1
        subst hc1 hd1
        have lt : l < s.heap.objs.size := Heap.lt_size hol
        have g3 : (s.heap.push ({ cls := Value.type "set", dict := none, data := Data.set #[] 0 (.fresh 0 0 (!w.params.followText "set-order")) } : Obj)).get? l = some { cls := .type "list", dict := od, data := .seq xs nl, slots := osl } := Heap.get?_push_of_some _ hol
        have m9 := F.sub_list_set
        have m10 := F.sub_list_frozenset
        have m11 : (Value.type "list" == Value.type "dict") = false := by decide
        have g4 : (s.heap.push ({ cls := Value.type "set", dict := none, data := Data.set #[] 0 (.fresh 0 0 (!w.params.followText "set-order")) } : Obj)).IsList l xs := ⟨_, g3, rfl, nl, rfl⟩
        unfold Builtin.«set.__init__» noKeywords Builtin.Frozenset.updateFrom
        generalize hPy : pyIter = PY
        wp_walk
        subst hPy
        refine wpAny_pyIter_list g4 (wpAny_bind (wpAny_runValue ?_))
        have hd : A.in1.in1.in1.handled = none := by simp [hh]
        have n1 : l ≠ (s.heap.push ({ cls := Value.type "set", dict := none, data := Data.set #[] 0 (.fresh 0 0 (!w.params.followText "set-order")) } : Obj)).objs.size := by
          rw [Heap.size_push]
          exact Nat.ne_of_lt (Nat.lt_succ_of_lt lt)
        have n2 : s.heap.objs.size ∉ [(s.heap.push ({ cls := Value.type "set", dict := none, data := Data.set #[] 0 (.fresh 0 0 (!w.params.followText "set-order")) } : Obj)).objs.size, l] := by
          rw [Heap.size_push]
          intro z
          rcases List.mem_cons.mp z with z | z
          · exact Nat.ne_of_lt (Nat.lt_succ_self _) z
          · exact Nat.ne_of_gt lt (List.mem_singleton.mp z)
        have vals : ∀ (i : Nat) (v : Value), xs[i]? = some v → ∃ k t, ns[i]? = some k ∧ v = .int k t := fun i v hv => by
          have lt : i < ns.length := hzz ▸ (Array.getElem?_eq_some_iff.mp hv).1
          obtain ⟨t, e⟩ := IntsAre.int_at hit i v (by rw [Array.getElem?_toList]; exact hv)
          refine ⟨ns[i], t, List.getElem?_eq_getElem lt, e.trans ?_⟩
          rw [List.getD_eq_getElem?_getD, List.getElem?_eq_getElem lt] <;> rfl
        refine set_update_few ((Walks.list hd _ l n1 xs).toS) s.heap.objs.size n2 ns ms hzz hms hb vals (xs.size - 0) 0 _ (by omega) (Nat.zero_le _) ⟨⟨_, Heap.get?_push_size _ rfl, rfl, rfl⟩, g4.push _⟩ ?hz0 ?hzR
        case hz0 => exact ⟨0, Nat.le_refl 0, setR_new_at (Heap.get?_push_of_some _ g1)⟩
        case hzR =>
          intro s3 c3 hm hc3 hS3
          obtain ⟨h4, a4, b4, k4, o4⟩ := s3
          have e1 : a4 = s.gens := hm.gens
          have e2 : b4 = s.drawn := hm.drawn
          have e3 : o4 = s.os := hm.os
          subst e1 e2 e3
          change wpAny _ _ _ _ _ _
          apply wpAny_pure
          change wpAny _ _ (ret Value.none) _ _ _
          refine wpAny_pure ⟨rfl, h4, k4, c3, rfl, hS3, hzz ▸ hc3, fun b o e => ?_⟩
          have lb : b < s.heap.objs.size := Heap.lt_size e
          refine hm.heap b o (fun z => ?_) (Heap.get?_push_of_some _ (Heap.get?_push_of_some _ e))
          rcases List.mem_cons.mp z with z | z
          · exact Nat.ne_of_lt lb z
          · have z1 := List.mem_singleton.mp z
            rw [Heap.size_push] at z1
            exact Nat.ne_of_lt (Nat.lt_succ_of_lt lb) z1
      · cases r2 with
        | error e => exact hr2
        | ok fl2 =>
          cases fl2 with
          | ret r =>
            obtain ⟨rfl, h2, k, c2, rfl, q1, q2, q3⟩ := hr2
            repeat (any_goals (first | assumption | wp_step))
            exact h _ _ _ q1 q2 q3
          | _ => exact hr2.elim
    | _ => exact hr.elim
end
end BM
namespace BM
open PySem L2 Evl
def aNotB : R2 := fun x y H Q => ∃ a b : Bool, x = .bl a ∧ y = .bl b ∧ Q (.bl (!decide (a = b))) H
section
variable {X : Cx}
theorem o_isB : OpR X (compareOp .Is) aIsB := OpR.imp op_isBl fun x y H Q ⟨a, b, e1, e2, q⟩ => ⟨a, b, e1, e2, by first | exact q | (have e : decide (a = b) = (a == b) := (by cases a <;> cases b <;> rfl); rw [← e]; exact q)⟩
theorem o_notB : OpR X (compareOp .IsNot) aNotB := OpR.imp op_notBl fun x y H Q ⟨a, b, e1, e2, q⟩ => ⟨a, b, e1, e2, by first | exact q | (have e : (!decide (a = b)) = (a != b) := (by cases a <;> cases b <;> rfl); rw [← e]; exact q) | (have e : (!decide (a = b)) = (!(a == b)) := (by cases a <;> cases b <;> rfl); rw [← e]; exact q)⟩
end
section
variable {K : PySem.W.Frag} {H0 : Hp} {σ : L2.St} {s : Ld} {Q : V → Ld → Prop} {t : TT}
theorem w2_notB {a b : Bool} (q : Q (.bl (!decide (a = b))) s) : W2 H0 aNotB (.bl a) (.bl b) s Q := fun H o R k => ⟨a, b, rfl, rfl, k _ H s o q⟩
end
end BM
namespace BM
open PySem L2 Evl
local macro_rules | `(tactic| walk_at "mem") => `(tactic| first | exact List.mem_cons_self | (refine List.mem_cons_of_mem _ ?_; walk_at "mem"))
local macro_rules | `(tactic| walk_at "swap") => `(tactic| first | exact Swap.here | (refine Swap.there ?_; walk_at "swap"))
local macro_rules | `(tactic| walk_at "subl") => `(tactic| first | exact List.Sublist.refl _ | exact List.nil_sublist _ | (refine List.Sublist.cons_cons _ ?_; walk_at "subl") | (refine List.Sublist.cons _ ?_; walk_at "subl"))
local macro_rules | `(tactic| walk_at "sub") => `(tactic| first | exact Sub.refl _ | (refine ⟨?_, ?_⟩ <;> walk_at "subl"))
local macro_rules | `(tactic| walk_at "isl") => `(tactic| first | exact isL_own (by walk_at "mem") | exact isL_old (by assumption) | assumption)
local macro_rules | `(tactic| walk_at "ist") => `(tactic| first | exact isT_own (by walk_at "mem") | exact isT_old (by assumption) | assumption)
local macro_rules | `(tactic| walk_at "len") => `(tactic| first | omega | decide | (simp only [List.length_map, List.length_take, List.length_drop, List.length_append, List.length_cons, List.length_nil, List.length_reverse, dps_len, flp_len]; omega) | (simp [dps_len, flp_len]; omega) | simp)
local macro_rules | `(tactic| walk_at "b0") => `(tactic| first
  | with_reducible refine' ws_set ?_
  | with_reducible refine' ws_par ?_
  | with_reducible refine' ws_asg ?_
  | with_reducible refine' ws_drop ?_
  | with_reducible refine' ws_ret ?_
  | with_reducible refine' ws_if ?_
  | with_reducible refine' ws_next ?_
  | with_reducible refine' ws_brk ?_
  | with_reducible refine' ws_cont ?_
  | ((with_reducible refine' we_var ?hv ?_); case hv => rfl)
  | with_reducible refine' we_c ?_
  | with_reducible refine' we_op ?_
  | with_reducible refine' we_un ?_
  | with_reducible refine' we_if ?_
  | with_reducible refine' we_and ?_
  | with_reducible refine' we_or ?_
  | with_reducible refine' we_not ?_
  | with_reducible refine' wa_nil ?_
  | with_reducible refine' wa_cons ?_
  | (with_reducible refine' we_lst ?_)
  | (with_reducible refine' we_tup ?_)
  | with_reducible refine' we_cb ?_
  | with_reducible refine' we_call0 ?_
  | with_reducible refine' we_sl ?_
  | with_reducible refine' wo_none ?_
  | (with_reducible refine' wo_some ?_)
  | with_reducible refine' wt_test ?_
  | with_reducible refine' wt_B ?_
  | with_reducible refine' wt_and ?_
  | with_reducible refine' wt_or ?_
  | with_reducible refine' wt_not ?_
  | with_reducible refine' wt_yes ?_
  | with_reducible refine' we_chain ?_
  | with_reducible refine' we_chain3 ?_
  | with_reducible refine' we_revT ?_
  | with_reducible refine' we_revL ?_
  | with_reducible refine' we_bm ?_
  | with_reducible refine' we_bm0 ?_
  | with_reducible refine' ws_for ?_
  | with_reducible refine' we_lc ?_
  | with_reducible refine' wi_list ?_
  | with_reducible refine' wi_tup ?_
  | with_reducible refine' wi_T ?_
  | with_reducible refine' wi_rng1 ?_
  | with_reducible refine' wi_rng2 ?_
  | with_reducible refine' wi_rng3 ?_
  | with_reducible refine' wi_enum ?_
  | with_reducible refine' wi_enumT ?_
  | with_reducible refine' wi_zip ?_
  | with_reducible refine' wg_name ?_
  | with_reducible refine' wg_sub ?_
  | with_reducible refine' wgs_nil ?_
  | with_reducible refine' wgs_cons ?_
  | ((with_reducible refine' wg_tup ?ht ?hn ?_); (case ht => walk_at "ist"); (case hn => rfl))
  | with_reducible refine' w2_add ?_
  | with_reducible refine' w2_sub ?_
  | with_reducible refine' w2_lt ?_
  | with_reducible refine' w2_le ?_
  | with_reducible refine' w2_gt ?_
  | with_reducible refine' w2_ge ?_
  | with_reducible refine' w2_eqI ?_
  | with_reducible refine' w2_neI ?_
  | with_reducible refine' w2_eqT ?_
  | with_reducible refine' w2_neT ?_
  | with_reducible refine' w2_eqB ?_
  | with_reducible refine' w2_neB ?_
  | with_reducible refine' w2_isN ?_
  | with_reducible refine' w2_notN ?_
  | with_reducible refine' w2_isB ?_
  | with_reducible refine' w2_inT ?_
  | with_reducible refine' w1_neg ?_
  | with_reducible refine' wl_abs ?_
  | with_reducible refine' wl_max2 ?_
  | with_reducible refine' wl_min2 ?_
  | with_reducible refine' wl_intB ?_
  | ((with_reducible refine' w2_div ?h ?_); case h => first | omega | (constructor <;> omega))
  | ((with_reducible refine' w2_mod ?h ?_); case h => omega)
  | ((with_reducible refine' w2_catT ?h ?_); case h => walk_at "len")
  | ((with_reducible refine' wsl_T ?h ?_); case h => walk_at "len")
  | ((with_reducible refine' wl_lenT ?h ?_); case h => walk_at "len")
  | ((with_reducible refine' wl_len ?h ?_); case h => walk_at "isl")
  | ((with_reducible refine' wl_len ?h ?_); case h => walk_at "isl")
  | ((with_reducible refine' wm_append ?sw ?hl ?_); (case sw => walk_at "swap"); (case hl => walk_at "len")))
local macro_rules | `(tactic| walk_at "b1") => `(tactic| first | with_reducible refine' ws_seq ?_ | walk_at "b0")
local macro_rules | `(tactic| walk_at "bx") => `(tactic| first
  | refine ⟨_, rfl, ?_⟩
  | refine ⟨_, _, rfl, ?_⟩
  | refine ⟨ty_L (by walk_at "isl"), ?_⟩
  | refine ⟨ty_S, ?_⟩
  | refine spl_t (by rfl) ?_
  | refine spl_f (by rfl) ?_
  | exact rfl)
local macro_rules | `(tactic| walk_at "bm") => `(tactic| repeat (first | walk_at "b1" | walk_at "bx"))
local macro_rules | `(tactic| walk_at "bn") => `(tactic| repeat (first | walk_at "b0" | walk_at "bx"))
local macro_rules | `(tactic| walk_at "b0") => `(tactic| with_reducible refine' c_deepens ?_)
local macro_rules | `(tactic| walk_at "b0") => `(tactic| ((with_reducible refine' c_depths_of ?hl ?_); (case hl => walk_at "len")))
local macro_rules | `(tactic| walk_at "b0") => `(tactic| with_reducible refine' c_is_wholeI ?_)
local macro_rules | `(tactic| walk_at "b0") => `(tactic| with_reducible refine' c_flipped ?_)
local macro_rules | `(tactic| walk_at "b0") => `(tactic| ((with_reducible refine' c_is_right_row ?hl ?_); (case hl => walk_at "len")))
local macro_rules | `(tactic| walk_at "b0") => `(tactic| ((with_reducible refine' c_asked_row ?hl ?_); (case hl => walk_at "len")))
local macro_rules | `(tactic| walk_at "b0") => `(tactic| ((with_reducible refine' c_depths ?hl ?_); (case hl => walk_at "len")))
local macro_rules | `(tactic| walk_at "b0") => `(tactic| ((with_reducible refine' c_is_right ?hl ?_); (case hl => walk_at "len")))
local macro_rules | `(tactic| walk_at "b0") => `(tactic| ((with_reducible refine' c__law_depths ?hl ?_); (case hl => walk_at "len")))
local macro_rules | `(tactic| walk_at "b0") => `(tactic| ((with_reducible refine' c__law_good ?hl ?_); (case hl => walk_at "len")))
end BM
namespace BM
open PySem L2 Evl
local macro_rules | `(tactic| walk_at "mem") => `(tactic| first | exact List.mem_cons_self | (refine List.mem_cons_of_mem _ ?_; walk_at "mem"))
local macro_rules | `(tactic| walk_at "swap") => `(tactic| first | exact Swap.here | (refine Swap.there ?_; walk_at "swap"))
local macro_rules | `(tactic| walk_at "subl") => `(tactic| first | exact List.Sublist.refl _ | exact List.nil_sublist _ | (refine List.Sublist.cons_cons _ ?_; walk_at "subl") | (refine List.Sublist.cons _ ?_; walk_at "subl"))
local macro_rules | `(tactic| walk_at "sub") => `(tactic| first | exact Sub.refl _ | (refine ⟨?_, ?_⟩ <;> walk_at "subl"))
local macro_rules | `(tactic| walk_at "isl") => `(tactic| first | exact isL_own (by walk_at "mem") | exact isL_old (by assumption) | assumption)
local macro_rules | `(tactic| walk_at "ist") => `(tactic| first | exact isT_own (by walk_at "mem") | exact isT_old (by assumption) | assumption)
local macro_rules | `(tactic| walk_at "len") => `(tactic| first | omega | decide | (simp only [List.length_map, List.length_take, List.length_drop, List.length_append, List.length_cons, List.length_nil, List.length_reverse, dps_len, flp_len]; omega) | (simp [dps_len, flp_len]; omega) | simp)
local macro_rules | `(tactic| walk_at "b0") => `(tactic| first
  | with_reducible refine' ws_set ?_
  | with_reducible refine' ws_par ?_
  | with_reducible refine' ws_asg ?_
  | with_reducible refine' ws_drop ?_
  | with_reducible refine' ws_ret ?_
  | with_reducible refine' ws_if ?_
  | with_reducible refine' ws_next ?_
  | with_reducible refine' ws_brk ?_
  | with_reducible refine' ws_cont ?_
  | ((with_reducible refine' we_var ?hv ?_); case hv => rfl)
  | with_reducible refine' we_c ?_
  | with_reducible refine' we_op ?_
  | with_reducible refine' we_un ?_
  | with_reducible refine' we_if ?_
  | with_reducible refine' we_and ?_
  | with_reducible refine' we_or ?_
  | with_reducible refine' we_not ?_
  | with_reducible refine' wa_nil ?_
  | with_reducible refine' wa_cons ?_
  | (with_reducible refine' we_lst ?_)
  | (with_reducible refine' we_tup ?_)
  | with_reducible refine' we_cb ?_
  | with_reducible refine' we_call0 ?_
  | with_reducible refine' we_sl ?_
  | with_reducible refine' wo_none ?_
  | (with_reducible refine' wo_some ?_)
  | with_reducible refine' wt_test ?_
  | with_reducible refine' wt_B ?_
  | with_reducible refine' wt_and ?_
  | with_reducible refine' wt_or ?_
  | with_reducible refine' wt_not ?_
  | with_reducible refine' wt_yes ?_
  | with_reducible refine' we_chain ?_
  | with_reducible refine' we_chain3 ?_
  | with_reducible refine' we_revT ?_
  | with_reducible refine' we_revL ?_
  | with_reducible refine' we_bm ?_
  | with_reducible refine' we_bm0 ?_
  | with_reducible refine' ws_for ?_
  | with_reducible refine' we_lc ?_
  | with_reducible refine' wi_list ?_
  | with_reducible refine' wi_tup ?_
  | with_reducible refine' wi_T ?_
  | with_reducible refine' wi_rng1 ?_
  | with_reducible refine' wi_rng2 ?_
  | with_reducible refine' wi_rng3 ?_
  | with_reducible refine' wi_enum ?_
  | with_reducible refine' wi_enumT ?_
  | with_reducible refine' wi_zip ?_
  | with_reducible refine' wg_name ?_
  | with_reducible refine' wg_sub ?_
  | with_reducible refine' wgs_nil ?_
  | with_reducible refine' wgs_cons ?_
  | ((with_reducible refine' wg_tup ?ht ?hn ?_); (case ht => walk_at "ist"); (case hn => rfl))
  | with_reducible refine' w2_add ?_
  | with_reducible refine' w2_sub ?_
  | with_reducible refine' w2_lt ?_
  | with_reducible refine' w2_le ?_
  | with_reducible refine' w2_gt ?_
  | with_reducible refine' w2_ge ?_
  | with_reducible refine' w2_eqI ?_
  | with_reducible refine' w2_neI ?_
  | with_reducible refine' w2_eqT ?_
  | with_reducible refine' w2_neT ?_
  | with_reducible refine' w2_eqB ?_
  | with_reducible refine' w2_neB ?_
  | with_reducible refine' w2_isN ?_
  | with_reducible refine' w2_notN ?_
  | with_reducible refine' w2_isB ?_
  | with_reducible refine' w2_inT ?_
  | with_reducible refine' w1_neg ?_
  | with_reducible refine' wl_abs ?_
  | with_reducible refine' wl_max2 ?_
  | with_reducible refine' wl_min2 ?_
  | with_reducible refine' wl_intB ?_
  | ((with_reducible refine' w2_div ?h ?_); case h => first | omega | (constructor <;> omega))
  | ((with_reducible refine' w2_mod ?h ?_); case h => omega)
  | ((with_reducible refine' w2_catT ?h ?_); case h => walk_at "len")
  | ((with_reducible refine' wsl_T ?h ?_); case h => walk_at "len")
  | ((with_reducible refine' wl_lenT ?h ?_); case h => walk_at "len")
  | ((with_reducible refine' wl_len ?h ?_); case h => walk_at "isl")
  | ((with_reducible refine' wl_len ?h ?_); case h => walk_at "isl")
  | ((with_reducible refine' wm_append ?sw ?hl ?_); (case sw => walk_at "swap"); (case hl => walk_at "len")))
local macro_rules | `(tactic| walk_at "b1") => `(tactic| first | with_reducible refine' ws_seq ?_ | walk_at "b0")
local macro_rules | `(tactic| walk_at "bx") => `(tactic| first
  | refine ⟨_, rfl, ?_⟩
  | refine ⟨_, _, rfl, ?_⟩
  | refine ⟨ty_L (by walk_at "isl"), ?_⟩
  | refine ⟨ty_S, ?_⟩
  | refine spl_t (by rfl) ?_
  | refine spl_f (by rfl) ?_
  | exact rfl)
local macro_rules | `(tactic| walk_at "bm") => `(tactic| repeat (first | walk_at "b1" | walk_at "bx"))
local macro_rules | `(tactic| walk_at "bn") => `(tactic| repeat (first | walk_at "b0" | walk_at "bx"))
local macro_rules | `(tactic| walk_at "b0") => `(tactic| with_reducible refine' c_deepens ?_)
local macro_rules | `(tactic| walk_at "b0") => `(tactic| ((with_reducible refine' c_depths_of ?hl ?_); (case hl => walk_at "len")))
local macro_rules | `(tactic| walk_at "b0") => `(tactic| with_reducible refine' c_is_wholeI ?_)
local macro_rules | `(tactic| walk_at "b0") => `(tactic| with_reducible refine' c_flipped ?_)
local macro_rules | `(tactic| walk_at "b0") => `(tactic| ((with_reducible refine' c_is_right_row ?hl ?_); (case hl => walk_at "len")))
local macro_rules | `(tactic| walk_at "b0") => `(tactic| ((with_reducible refine' c_asked_row ?hl ?_); (case hl => walk_at "len")))
local macro_rules | `(tactic| walk_at "b0") => `(tactic| ((with_reducible refine' c_depths ?hl ?_); (case hl => walk_at "len")))
local macro_rules | `(tactic| walk_at "b0") => `(tactic| ((with_reducible refine' c_is_right ?hl ?_); (case hl => walk_at "len")))
local macro_rules | `(tactic| walk_at "b0") => `(tactic| ((with_reducible refine' c__law_depths ?hl ?_); (case hl => walk_at "len")))
local macro_rules | `(tactic| walk_at "b0") => `(tactic| ((with_reducible refine' c__law_good ?hl ?_); (case hl => walk_at "len")))
local macro_rules | `(tactic| walk_at "b0") => `(tactic| ((with_reducible refine' wl_listOf ?hx ?_); (case hx => walk_at "isl")))
local macro_rules | `(tactic| walk_at "b0") => `(tactic| with_reducible refine' w2_notB ?_)
theorem own_l {H0 : Hp} {s : Ld} {p : Addr} {o : HO} (h : (p, o) ∈ s.L) : ∀ H, Own H0 H s → H p = some o := fun H w => (w.own _ h).2
local macro_rules | `(tactic| walk_at "own") => `(tactic| exact own_l (by walk_at "mem"))
end BM
namespace BM
open PySem L2 Evl
local macro_rules | `(tactic| walk_at "mem") => `(tactic| first | exact List.mem_cons_self | (refine List.mem_cons_of_mem _ ?_; walk_at "mem"))
local macro_rules | `(tactic| walk_at "swap") => `(tactic| first | exact Swap.here | (apply Swap.there; walk_at "swap"))
local macro_rules | `(tactic| walk_at "subl") => `(tactic| first | exact List.Sublist.refl _ | exact List.nil_sublist _ | (refine List.Sublist.cons_cons _ ?_; walk_at "subl") | (refine List.Sublist.cons _ ?_; walk_at "subl"))
local macro_rules | `(tactic| walk_at "sub") => `(tactic| first | exact Sub.refl _ | (refine ⟨?_, ?_⟩ <;> walk_at "subl"))
local macro_rules | `(tactic| walk_at "isl") => `(tactic| first | exact isL_own (by walk_at "mem") | exact isL_old (by assumption) | assumption)
local macro_rules | `(tactic| walk_at "ist") => `(tactic| first | exact isT_own (by walk_at "mem") | exact isT_old (by assumption) | assumption)
local macro_rules | `(tactic| walk_at "len") => `(tactic| first | omega | decide | (simp only [List.length_map, List.length_take, List.length_drop, List.length_append, List.length_cons, List.length_nil, List.length_reverse, dps_len, flp_len]; omega) | (simp [dps_len, flp_len]; omega) | simp)
local macro_rules | `(tactic| walk_at "b0") => `(tactic| first
  | with_reducible refine' ws_set ?_
  | with_reducible refine' ws_par ?_
  | with_reducible refine' ws_asg ?_
  | with_reducible refine' ws_drop ?_
  | with_reducible refine' ws_ret ?_
  | with_reducible refine' ws_if ?_
  | with_reducible refine' ws_next ?_
  | with_reducible refine' ws_brk ?_
  | with_reducible refine' ws_cont ?_
  | ((with_reducible refine' we_var ?hv ?_); case hv => rfl)
  | with_reducible refine' we_c ?_
  | with_reducible refine' we_op ?_
  | with_reducible refine' we_un ?_
  | with_reducible refine' we_if ?_
  | with_reducible refine' we_and ?_
  | with_reducible refine' we_or ?_
  | with_reducible refine' we_not ?_
  | with_reducible refine' wa_nil ?_
  | with_reducible refine' wa_cons ?_
  | (with_reducible refine' we_lst ?_)
  | (with_reducible refine' we_tup ?_)
  | with_reducible refine' we_cb ?_
  | with_reducible refine' we_call0 ?_
  | with_reducible refine' we_sl ?_
  | with_reducible refine' wo_none ?_
  | (with_reducible refine' wo_some ?_)
  | with_reducible refine' wt_test ?_
  | with_reducible refine' wt_B ?_
  | with_reducible refine' wt_and ?_
  | with_reducible refine' wt_or ?_
  | with_reducible refine' wt_not ?_
  | with_reducible refine' wt_yes ?_
  | with_reducible refine' we_chain ?_
  | with_reducible refine' we_chain3 ?_
  | with_reducible refine' we_revT ?_
  | with_reducible refine' we_revL ?_
  | with_reducible refine' we_bm ?_
  | with_reducible refine' we_bm0 ?_
  | with_reducible refine' ws_for ?_
  | with_reducible refine' we_lc ?_
  | with_reducible refine' wi_list ?_
  | with_reducible refine' wi_tup ?_
  | with_reducible refine' wi_T ?_
  | with_reducible refine' wi_rng1 ?_
  | with_reducible refine' wi_rng2 ?_
  | with_reducible refine' wi_rng3 ?_
  | with_reducible refine' wi_enum ?_
  | with_reducible refine' wi_enumT ?_
  | with_reducible refine' wi_zip ?_
  | with_reducible refine' wg_name ?_
  | with_reducible refine' wg_sub ?_
  | with_reducible refine' wgs_nil ?_
  | with_reducible refine' wgs_cons ?_
  | ((with_reducible refine' wg_tup ?ht ?hn ?_); (case ht => walk_at "ist"); (case hn => rfl))
  | with_reducible refine' w2_add ?_
  | with_reducible refine' w2_sub ?_
  | with_reducible refine' w2_lt ?_
  | with_reducible refine' w2_le ?_
  | with_reducible refine' w2_gt ?_
  | with_reducible refine' w2_ge ?_
  | with_reducible refine' w2_eqI ?_
  | with_reducible refine' w2_neI ?_
  | with_reducible refine' w2_eqT ?_
  | with_reducible refine' w2_neT ?_
  | with_reducible refine' w2_eqB ?_
  | with_reducible refine' w2_neB ?_
  | with_reducible refine' w2_isN ?_
  | with_reducible refine' w2_notN ?_
  | with_reducible refine' w2_isB ?_
  | with_reducible refine' w2_inT ?_
  | with_reducible refine' w1_neg ?_
  | with_reducible refine' wl_abs ?_
  | with_reducible refine' wl_max2 ?_
  | with_reducible refine' wl_min2 ?_
  | with_reducible refine' wl_intB ?_
  | ((with_reducible refine' w2_div ?h ?_); case h => first | omega | (constructor <;> omega))
  | ((with_reducible refine' w2_mod ?h ?_); case h => omega)
  | ((with_reducible refine' w2_catT ?h ?_); case h => walk_at "len")
  | ((with_reducible refine' wsl_T ?h ?_); case h => walk_at "len")
  | ((with_reducible refine' wl_lenT ?h ?_); case h => walk_at "len")
  | ((with_reducible refine' wl_len ?h ?_); case h => walk_at "isl")
  | ((with_reducible refine' wl_len ?h ?_); case h => walk_at "isl")
  | ((with_reducible refine' wm_append ?sw ?hl ?_); (case sw => walk_at "swap"); (case hl => walk_at "len")))
local macro_rules | `(tactic| walk_at "b1") => `(tactic| first | with_reducible refine' ws_seq ?_ | walk_at "b0")
local macro_rules | `(tactic| walk_at "bx") => `(tactic| first
  | refine ⟨_, rfl, ?_⟩
  | refine ⟨_, _, rfl, ?_⟩
  | refine ⟨ty_L (by walk_at "isl"), ?_⟩
  | refine ⟨ty_S, ?_⟩
  | refine spl_t (by rfl) ?_
  | refine spl_f (by rfl) ?_
  | exact rfl)
local macro_rules | `(tactic| walk_at "bm") => `(tactic| repeat (first | walk_at "b1" | walk_at "bx"))
local macro_rules | `(tactic| walk_at "bn") => `(tactic| repeat (first | walk_at "b0" | walk_at "bx"))
local macro_rules | `(tactic| walk_at "b0") => `(tactic| with_reducible refine' c_deepens ?_)
local macro_rules | `(tactic| walk_at "b0") => `(tactic| ((with_reducible refine' c_depths_of ?hl ?_); (case hl => walk_at "len")))
local macro_rules | `(tactic| walk_at "b0") => `(tactic| with_reducible refine' c_is_wholeI ?_)
local macro_rules | `(tactic| walk_at "b0") => `(tactic| with_reducible refine' c_flipped ?_)
local macro_rules | `(tactic| walk_at "b0") => `(tactic| ((with_reducible refine' c_is_right_row ?hl ?_); (case hl => walk_at "len")))
local macro_rules | `(tactic| walk_at "b0") => `(tactic| ((with_reducible refine' c_asked_row ?hl ?_); (case hl => walk_at "len")))
local macro_rules | `(tactic| walk_at "b0") => `(tactic| ((with_reducible refine' c_depths ?hl ?_); (case hl => walk_at "len")))
local macro_rules | `(tactic| walk_at "b0") => `(tactic| ((with_reducible refine' c_is_right ?hl ?_); (case hl => walk_at "len")))
local macro_rules | `(tactic| walk_at "b0") => `(tactic| ((with_reducible refine' c__law_depths ?hl ?_); (case hl => walk_at "len")))
local macro_rules | `(tactic| walk_at "b0") => `(tactic| ((with_reducible refine' c__law_good ?hl ?_); (case hl => walk_at "len")))
local macro_rules | `(tactic| walk_at "b0") => `(tactic| ((with_reducible refine' wl_listOf ?hx ?_); (case hx => walk_at "isl")))
local macro_rules | `(tactic| walk_at "b0") => `(tactic| with_reducible refine' w2_notB ?_)
local macro_rules | `(tactic| walk_at "own") => `(tactic| exact own_l (by walk_at "mem"))
theorem Paired.one {α β : Type} {R : α → β → Prop} {xs : List α} {ys : List β} (h : Paired R xs ys) {x : α} {y : β} (r : R x y) : Paired R (xs ++ [x]) (ys ++ [y]) := by
  induction h with
  | nil => exact .cons r .nil
  | cons a t ih => exact .cons a ih
theorem Paired.len {α β : Type} {R : α → β → Prop} {xs : List α} {ys : List β} (h : Paired R xs ys) : xs.length = ys.length := by
  induction h with
  | nil => rfl
  | cons a t ih => rw [List.length_cons, List.length_cons, ih]
end BM
namespace BM
open PySem PySem.Spec PyProof.Rows L2 Evl
/-! ### methods in a try's body -/
/-! ### objects in the ledger -/
def del (g : Addr) (H : Hp) : Hp := fun a => if a = g then none else H a
theorem del_same {g : Addr} {H : Hp} : del g H g = none := if_pos rfl
theorem del_ne {g a : Addr} {H : Hp} (h : a ≠ g) : del g H a = H a := if_neg h
theorem own_del {H : Hp} {g : Addr} {o : HO} (h : H g = some o) : Own (del g H) H ⟨[(g, o)], []⟩ := by
  refine ⟨fun a u hu => ?_, List.nodup_cons.mpr ⟨by simp, List.nodup_nil⟩, fun e he => ?_, fun t ht => nomatch ht⟩
  · by_cases ha : a = g
    · rw [ha, del_same] at hu
      cases hu
    · rw [del_ne ha] at hu
      exact hu
  · rw [List.mem_singleton.mp he]
    exact ⟨del_same, h⟩
theorem own_after {H0 H H' : Hp} {s : Ld} {g : Addr} {o o' : HO} {L' : List (Addr × HO)} (w : Own H0 H s) (sw : Swap g o o' s.L L') (nt : NotTup o) (e : Ex (del g H) H') (h : H' g = some o') : Own H0 H' ⟨L', s.T⟩ := by
  have hg := w.own _ sw.mem
  have keep : ∀ a u, a ≠ g → H a = some u → H' a = some u := fun a u ha hu => e _ _ (by rw [del_ne ha]; exact hu)
  refine ⟨fun a u hu => keep a u (fun x => ?_) (w.ex _ _ hu), by rw [sw.keys]; exact w.nd, fun x hx => ?_, fun t ht => keep _ _ (fun z => ?_) (w.tp t ht)⟩
  · rw [x, hg.1] at hu
    cases hu
  · rcases sw.of_mem w.nd x hx with rfl | ⟨h1, h2⟩
    · exact ⟨hg.1, h⟩
    · exact ⟨(w.own x h1).1, keep _ _ h2 (w.own x h1).2⟩
  · have := w.tp t ht
    rw [z, hg.2] at this
    cases this
    exact nt
section
variable {K : PySem.W.Frag} {H0 : Hp} {σ : L2.St} {s : Ld} {ta : TA} {te tv : TE} {Q : V → Ld → Prop} {D : Dl} {f m : Str} {E : XK} {C : Addr} {sp : Sp} {vs : List V}
theorem we_fld (h : WE H0 te σ s fun x s1 => ∃ a C dx fs v, x = .ref a ∧ (∀ H, Own H0 H s1 → H a = some (.ins C dx fs)) ∧ Cls K C ∧ NoAttr K C f ∧ fs.lookup f = some v ∧ Q v s1) : WE H0 (tFld K te f) σ s Q := fun H o R k =>
  h H o _ fun x H1 s1 o1 ⟨a, C, dx, fs, v, e, ha, hc, hn, hl, q⟩ => ⟨a, C, dx, fs, v, e, ha H1 o1, hc, hn, hl, k _ _ _ o1 q⟩
theorem ws_fld (h : WE H0 tv σ s fun y s1 => WE H0 te σ s1 fun x s2 => ∃ a C dx fs L', x = .ref a ∧ Swap a (.ins C dx fs) (.ins C dx (putF f y fs)) s2.L L' ∧ Cls K C ∧ NoAttr K C f ∧ fs.length < 1000 ∧ D.nx σ ⟨L', s2.T⟩) : WS H0 (sFld K te tv f) σ s D := fun H o E l =>
  h H o _ fun y H1 s1 o1 h1 => h1 H1 o1 _ fun x H2 s2 o2 ⟨a, C, dx, fs, L', e, sw, hc, hn, hl, q⟩ => ⟨a, C, dx, fs, e, (o2.own _ sw.mem).2, hc, hn, hl, l.nx _ _ _ (o2.swap sw trivial) q⟩
theorem we_meth {dvs : List V} (h : WE H0 te σ s fun x s1 => ∃ a dx fs, x = .ref a ∧ (∀ H, Own H0 H s1 → H a = some (.ins C dx fs)) ∧ fs.lookup m = none ∧ WA H0 ta σ s1 fun vs s2 => WC H0 sp E (x :: (vs ++ dvs)) s2 Q) : WE H0 (tMeth C m sp dvs E te ta) σ s Q := fun H o R k =>
  h H o _ fun x H1 s1 o1 ⟨a, dx, fs, e, ha, hl, h1⟩ => ⟨a, dx, fs, e, ha H1 o1, hl, h1 H1 o1 _ fun vs H2 s2 o2 h2 => h2 H2 o2 R k⟩
theorem we_make {dvs : List V} (h : WA H0 ta σ s fun vs s1 => ∀ x dx, H0 x = none → H0 dx = none → dx ≠ x → WC H0 sp E (.ref x :: (vs ++ dvs)) ⟨(x, .ins C dx []) :: (dx, .own x) :: s1.L, s1.T⟩ fun v s2 => v = .non ∧ Q (.ref x) s2) : WE H0 (tMake C sp dvs E ta) σ s Q := fun H o R k =>
  h H o _ fun vs H1 s1 o1 h1 => fun x dx hx hdx hne => by
    have o2 := o1.new (u := .own x) hdx
    have hx2 : (upd H1 dx (.own x)) x = none := by rw [upd_ne hne.symm]; exact hx
    exact h1 x dx (fresh_back o1.ex hx) (fresh_back o1.ex hdx) hne _ (o2.new (u := .ins C dx []) hx2) _ fun v H2 s2 o3 ⟨e, q⟩ => ⟨e, k _ _ _ o3 q⟩
end
/-- a promise that changes the object g alone -/
def chg (g : Addr) (o' : HO) (v : V) (H : Hp) (Q : VK) : Prop := ∀ H', Ex (del g H) H' → H' g = some o' → Q v H'
/-- a promise of a new tuple -/
def spU (R : List V → Hp → List V → Prop) : Sp := fun vs H Q _ => ∃ xs, R vs H xs ∧ ∀ p H', Ex H H' → H' p = some (.tup xs) → Q (.ref p) H'
theorem wc_U {H0 : Hp} {s : Ld} {Q : V → Ld → Prop} {R : List V → Hp → List V → Prop} {E : XK} {vs xs : List V} (h : ∀ H, Own H0 H s → R vs H xs) (q : ∀ p, Q (.ref p) ⟨s.L, (p, xs) :: s.T⟩) : WC H0 (spU R) E vs s Q := fun H o R' k =>
  ⟨xs, h H o, fun p H' e hp => k _ _ _ (by
    have o2 := (o.ext e).moreT (ts := [(p, xs)]) (fun t ht => by rw [List.mem_singleton.mp ht]; exact hp)
    exact o2) (q p)⟩
def retU (xs : List V) : Dl := { nx := fun _ _ => False, rt := fun u s => ∃ p, u = .ref p ∧ (p, xs) ∈ s.T }
theorem body_U {H : Hp} {t : TS} {N : List Str} {vs xs : List V} {Q : VK} (h : WS H t (start N vs) ⟨[], []⟩ (retU xs)) (k : ∀ p H', Ex H H' → H' p = some (.tup xs) → Q (.ref p) H') : t { nx := fun _ H' => Q .non H', rt := Q } (start N vs) H :=
  h H (Own.start H) _ ⟨(fun _ _ _ _ q => q.elim), fun u H' s o ⟨p, e, m⟩ => by
    rw [e]
    exact k p H' o.ex (o.tp _ m), (fun _ _ _ _ q => q.elim), (fun _ _ _ _ q => q.elim)⟩
/-- a body that changes the object g -/
def retG (g : Addr) (o' : HO) (v : V) : Dl := { nx := fun _ s => v = .non ∧ (g, o') ∈ s.L, rt := fun u s => u = v ∧ (g, o') ∈ s.L }
theorem body_G {H : Hp} {t : TS} {N : List Str} {vs : List V} {Q : VK} {g : Addr} {o o' : HO} {v : V} (ho : H g = some o) (h : WS (del g H) t (start N vs) ⟨[(g, o)], []⟩ (retG g o' v)) (k : chg g o' v H Q) : t { nx := fun _ H' => Q .non H', rt := Q } (start N vs) H :=
  h H (own_del ho) _ ⟨fun _ H' s w ⟨e, m⟩ => by
    rw [← e]
    exact k H' w.ex (w.own _ m).2, fun u H' s w ⟨e, m⟩ => by
    rw [e]
    exact k H' w.ex (w.own _ m).2, (fun _ _ _ _ q => q.elim), (fun _ _ _ _ q => q.elim)⟩
end BM
namespace BM
/-! ### what a row lacks -/
def lkS (p : Int × Int) (b : Bool) : Int × Int := if b then (p.1, p.2 + 1) else if p.2 > 0 then (p.1, p.2 - 1) else (p.1 + 1, p.2)
def lk (r : List Bool) : Int × Int := r.foldl lkS (0, 0)
theorem snoc_ind {P : List Bool → Prop} (h0 : P []) (h1 : ∀ r b, P r → P (r ++ [b])) (r : List Bool) : P r := by
  have : ∀ n (r : List Bool), r.length = n → P r := by
    intro n
    induction n with
    | zero =>
      intro r h
      rw [List.length_eq_zero_iff.mp h]
      exact h0
    | succ n ih =>
      intro r h
      have hne : r ≠ [] := fun e => by rw [e] at h; cases h
      rw [← List.dropLast_concat_getLast hne]
      exact h1 _ _ (ih _ (by rw [List.length_dropLast, h]; rfl))
  exact this _ r rfl
/-! ### the longest right stretch -/
def stp (r : List Bool) (f : Nat) (best : Int × Int) (b : Nat) : Int × Int := if b ≤ r.length ∧ isR ((r.drop f).take (b - f)) = true ∧ best.2 - best.1 < (b : Int) - (f : Int) then ((f : Int), (b : Int)) else best
def inn (r : List Bool) (f : Nat) (best : Int × Int) : Nat → Int × Int
  | 0 => best
  | k + 1 => stp r f (inn r f best k) (f + (k + 1))
theorem hgt_par7 (r : List Bool) : (hgt r - (r.length : Int)) % 2 = 0 := by
  induction r using snoc_ind with
  | h0 => rfl
  | h1 r b ih =>
    rw [hgt_app, List.length_append]
    cases b <;> simp [hgt, sg] <;> omega
end BM
namespace BM
open PySem L2 Evl
/-- the class Growing as it stands -/
structure Grw (K : PySem.W.Frag) (C : CA) : Prop where
  cl : Cls K C.c_Growing
  nr : NoAttr K C.c_Growing "row"
def pairV (p : Int × Int) : List V := [.int p.1, .int p.2]
end BM
namespace BM
open PySem L2 Evl
local macro_rules | `(tactic| walk_at "mem") => `(tactic| first | exact List.mem_cons_self | (refine List.mem_cons_of_mem _ ?_; walk_at "mem"))
local macro_rules | `(tactic| walk_at "swap") => `(tactic| first | exact Swap.here | (apply Swap.there; walk_at "swap"))
local macro_rules | `(tactic| walk_at "subl") => `(tactic| first | exact List.Sublist.refl _ | exact List.nil_sublist _ | (refine List.Sublist.cons_cons _ ?_; walk_at "subl") | (refine List.Sublist.cons _ ?_; walk_at "subl"))
local macro_rules | `(tactic| walk_at "sub") => `(tactic| first | exact Sub.refl _ | (refine ⟨?_, ?_⟩ <;> walk_at "subl"))
local macro_rules | `(tactic| walk_at "isl") => `(tactic| first | exact isL_own (by walk_at "mem") | exact isL_old (by assumption) | assumption)
local macro_rules | `(tactic| walk_at "ist") => `(tactic| first | exact isT_own (by walk_at "mem") | exact isT_old (by assumption) | assumption)
local macro_rules | `(tactic| walk_at "len") => `(tactic| first | omega | decide | (simp only [List.length_map, List.length_take, List.length_drop, List.length_append, List.length_cons, List.length_nil, List.length_reverse, dps_len, flp_len]; omega) | (simp [dps_len, flp_len]; omega) | simp)
local macro_rules | `(tactic| walk_at "b0") => `(tactic| first
  | with_reducible refine' ws_set ?_
  | with_reducible refine' ws_par ?_
  | with_reducible refine' ws_asg ?_
  | with_reducible refine' ws_drop ?_
  | with_reducible refine' ws_ret ?_
  | with_reducible refine' ws_if ?_
  | with_reducible refine' ws_next ?_
  | with_reducible refine' ws_brk ?_
  | with_reducible refine' ws_cont ?_
  | ((with_reducible refine' we_var ?hv ?_); case hv => rfl)
  | with_reducible refine' we_c ?_
  | with_reducible refine' we_op ?_
  | with_reducible refine' we_un ?_
  | with_reducible refine' we_if ?_
  | with_reducible refine' we_and ?_
  | with_reducible refine' we_or ?_
  | with_reducible refine' we_not ?_
  | with_reducible refine' wa_nil ?_
  | with_reducible refine' wa_cons ?_
  | (with_reducible refine' we_lst ?_)
  | (with_reducible refine' we_tup ?_)
  | with_reducible refine' we_cb ?_
  | with_reducible refine' we_call0 ?_
  | with_reducible refine' we_sl ?_
  | with_reducible refine' wo_none ?_
  | (with_reducible refine' wo_some ?_)
  | with_reducible refine' wt_test ?_
  | with_reducible refine' wt_B ?_
  | with_reducible refine' wt_and ?_
  | with_reducible refine' wt_or ?_
  | with_reducible refine' wt_not ?_
  | with_reducible refine' wt_yes ?_
  | with_reducible refine' we_chain ?_
  | with_reducible refine' we_chain3 ?_
  | with_reducible refine' we_revT ?_
  | with_reducible refine' we_revL ?_
  | with_reducible refine' we_bm ?_
  | with_reducible refine' we_bm0 ?_
  | with_reducible refine' ws_for ?_
  | with_reducible refine' we_lc ?_
  | with_reducible refine' wi_list ?_
  | with_reducible refine' wi_tup ?_
  | with_reducible refine' wi_T ?_
  | with_reducible refine' wi_rng1 ?_
  | with_reducible refine' wi_rng2 ?_
  | with_reducible refine' wi_rng3 ?_
  | with_reducible refine' wi_enum ?_
  | with_reducible refine' wi_enumT ?_
  | with_reducible refine' wi_zip ?_
  | with_reducible refine' wg_name ?_
  | with_reducible refine' wg_sub ?_
  | with_reducible refine' wgs_nil ?_
  | with_reducible refine' wgs_cons ?_
  | ((with_reducible refine' wg_tup ?ht ?hn ?_); (case ht => walk_at "ist"); (case hn => rfl))
  | with_reducible refine' w2_add ?_
  | with_reducible refine' w2_sub ?_
  | with_reducible refine' w2_lt ?_
  | with_reducible refine' w2_le ?_
  | with_reducible refine' w2_gt ?_
  | with_reducible refine' w2_ge ?_
  | with_reducible refine' w2_eqI ?_
  | with_reducible refine' w2_neI ?_
  | with_reducible refine' w2_eqT ?_
  | with_reducible refine' w2_neT ?_
  | with_reducible refine' w2_eqB ?_
  | with_reducible refine' w2_neB ?_
  | with_reducible refine' w2_isN ?_
  | with_reducible refine' w2_notN ?_
  | with_reducible refine' w2_isB ?_
  | with_reducible refine' w2_inT ?_
  | with_reducible refine' w1_neg ?_
  | with_reducible refine' wl_abs ?_
  | with_reducible refine' wl_max2 ?_
  | with_reducible refine' wl_min2 ?_
  | with_reducible refine' wl_intB ?_
  | ((with_reducible refine' w2_div ?h ?_); case h => first | omega | (constructor <;> omega))
  | ((with_reducible refine' w2_mod ?h ?_); case h => omega)
  | ((with_reducible refine' w2_catT ?h ?_); case h => walk_at "len")
  | ((with_reducible refine' wsl_T ?h ?_); case h => walk_at "len")
  | ((with_reducible refine' wl_lenT ?h ?_); case h => walk_at "len")
  | ((with_reducible refine' wl_len ?h ?_); case h => walk_at "isl")
  | ((with_reducible refine' wl_len ?h ?_); case h => walk_at "isl")
  | ((with_reducible refine' wm_append ?sw ?hl ?_); (case sw => walk_at "swap"); (case hl => walk_at "len")))
local macro_rules | `(tactic| walk_at "b1") => `(tactic| first | with_reducible refine' ws_seq ?_ | walk_at "b0")
local macro_rules | `(tactic| walk_at "bx") => `(tactic| first
  | refine ⟨_, rfl, ?_⟩
  | refine ⟨_, _, rfl, ?_⟩
  | refine ⟨ty_L (by walk_at "isl"), ?_⟩
  | refine ⟨ty_S, ?_⟩
  | refine spl_t (by rfl) ?_
  | refine spl_f (by rfl) ?_
  | exact rfl)
local macro_rules | `(tactic| walk_at "bm") => `(tactic| repeat (first | walk_at "b1" | walk_at "bx"))
local macro_rules | `(tactic| walk_at "bn") => `(tactic| repeat (first | walk_at "b0" | walk_at "bx"))
local macro_rules | `(tactic| walk_at "b0") => `(tactic| with_reducible refine' c_deepens ?_)
local macro_rules | `(tactic| walk_at "b0") => `(tactic| ((with_reducible refine' c_depths_of ?hl ?_); (case hl => walk_at "len")))
local macro_rules | `(tactic| walk_at "b0") => `(tactic| with_reducible refine' c_is_wholeI ?_)
local macro_rules | `(tactic| walk_at "b0") => `(tactic| with_reducible refine' c_flipped ?_)
local macro_rules | `(tactic| walk_at "b0") => `(tactic| ((with_reducible refine' c_is_right_row ?hl ?_); (case hl => walk_at "len")))
local macro_rules | `(tactic| walk_at "b0") => `(tactic| ((with_reducible refine' c_asked_row ?hl ?_); (case hl => walk_at "len")))
local macro_rules | `(tactic| walk_at "b0") => `(tactic| ((with_reducible refine' c_depths ?hl ?_); (case hl => walk_at "len")))
local macro_rules | `(tactic| walk_at "b0") => `(tactic| ((with_reducible refine' c_is_right ?hl ?_); (case hl => walk_at "len")))
local macro_rules | `(tactic| walk_at "b0") => `(tactic| ((with_reducible refine' c__law_depths ?hl ?_); (case hl => walk_at "len")))
local macro_rules | `(tactic| walk_at "b0") => `(tactic| ((with_reducible refine' c__law_good ?hl ?_); (case hl => walk_at "len")))
local macro_rules | `(tactic| walk_at "b0") => `(tactic| ((with_reducible refine' wl_listOf ?hx ?_); (case hx => walk_at "isl")))
local macro_rules | `(tactic| walk_at "b0") => `(tactic| with_reducible refine' w2_notB ?_)
local macro_rules | `(tactic| walk_at "own") => `(tactic| exact own_l (by walk_at "mem"))
local macro_rules | `(tactic| walk_at "b0") => `(tactic| with_reducible refine' we_fld ?_)
local macro_rules | `(tactic| walk_at "b0") => `(tactic| refine ⟨_, _, _, _, _, rfl, own_l (by walk_at "mem"), Grw.cl (by assumption), Grw.nr (by assumption), by rfl, ?_⟩)
local macro_rules | `(tactic| walk_at "b0") => `(tactic| refine ⟨_, _, _, _, _, rfl, fun H' o => o.ex _ _ (by assumption), Grw.cl (by assumption), Grw.nr (by assumption), by rfl, ?_⟩)
end BM
namespace BM
open PySem L2 Evl
local macro_rules | `(tactic| walk_at "mem") => `(tactic| first | exact List.mem_cons_self | (refine List.mem_cons_of_mem _ ?_; walk_at "mem"))
local macro_rules | `(tactic| walk_at "swap") => `(tactic| first | exact Swap.here | (apply Swap.there; walk_at "swap"))
local macro_rules | `(tactic| walk_at "subl") => `(tactic| first | exact List.Sublist.refl _ | exact List.nil_sublist _ | (refine List.Sublist.cons_cons _ ?_; walk_at "subl") | (refine List.Sublist.cons _ ?_; walk_at "subl"))
local macro_rules | `(tactic| walk_at "sub") => `(tactic| first | exact Sub.refl _ | (refine ⟨?_, ?_⟩ <;> walk_at "subl"))
local macro_rules | `(tactic| walk_at "isl") => `(tactic| first | exact isL_own (by walk_at "mem") | exact isL_old (by assumption) | assumption)
local macro_rules | `(tactic| walk_at "ist") => `(tactic| first | exact isT_own (by walk_at "mem") | exact isT_old (by assumption) | assumption)
local macro_rules | `(tactic| walk_at "len") => `(tactic| first | omega | decide | (simp only [List.length_map, List.length_take, List.length_drop, List.length_append, List.length_cons, List.length_nil, List.length_reverse, dps_len, flp_len]; omega) | (simp [dps_len, flp_len]; omega) | simp)
local macro_rules | `(tactic| walk_at "b0") => `(tactic| first
  | with_reducible refine' ws_set ?_
  | with_reducible refine' ws_par ?_
  | with_reducible refine' ws_asg ?_
  | with_reducible refine' ws_drop ?_
  | with_reducible refine' ws_ret ?_
  | with_reducible refine' ws_if ?_
  | with_reducible refine' ws_next ?_
  | with_reducible refine' ws_brk ?_
  | with_reducible refine' ws_cont ?_
  | ((with_reducible refine' we_var ?hv ?_); case hv => rfl)
  | with_reducible refine' we_c ?_
  | with_reducible refine' we_op ?_
  | with_reducible refine' we_un ?_
  | with_reducible refine' we_if ?_
  | with_reducible refine' we_and ?_
  | with_reducible refine' we_or ?_
  | with_reducible refine' we_not ?_
  | with_reducible refine' wa_nil ?_
  | with_reducible refine' wa_cons ?_
  | (with_reducible refine' we_lst ?_)
  | (with_reducible refine' we_tup ?_)
  | with_reducible refine' we_cb ?_
  | with_reducible refine' we_call0 ?_
  | with_reducible refine' we_sl ?_
  | with_reducible refine' wo_none ?_
  | (with_reducible refine' wo_some ?_)
  | with_reducible refine' wt_test ?_
  | with_reducible refine' wt_B ?_
  | with_reducible refine' wt_and ?_
  | with_reducible refine' wt_or ?_
  | with_reducible refine' wt_not ?_
  | with_reducible refine' wt_yes ?_
  | with_reducible refine' we_chain ?_
  | with_reducible refine' we_chain3 ?_
  | with_reducible refine' we_revT ?_
  | with_reducible refine' we_revL ?_
  | with_reducible refine' we_bm ?_
  | with_reducible refine' we_bm0 ?_
  | with_reducible refine' ws_for ?_
  | with_reducible refine' we_lc ?_
  | with_reducible refine' wi_list ?_
  | with_reducible refine' wi_tup ?_
  | with_reducible refine' wi_T ?_
  | with_reducible refine' wi_rng1 ?_
  | with_reducible refine' wi_rng2 ?_
  | with_reducible refine' wi_rng3 ?_
  | with_reducible refine' wi_enum ?_
  | with_reducible refine' wi_enumT ?_
  | with_reducible refine' wi_zip ?_
  | with_reducible refine' wg_name ?_
  | with_reducible refine' wg_sub ?_
  | with_reducible refine' wgs_nil ?_
  | with_reducible refine' wgs_cons ?_
  | ((with_reducible refine' wg_tup ?ht ?hn ?_); (case ht => walk_at "ist"); (case hn => rfl))
  | with_reducible refine' w2_add ?_
  | with_reducible refine' w2_sub ?_
  | with_reducible refine' w2_lt ?_
  | with_reducible refine' w2_le ?_
  | with_reducible refine' w2_gt ?_
  | with_reducible refine' w2_ge ?_
  | with_reducible refine' w2_eqI ?_
  | with_reducible refine' w2_neI ?_
  | with_reducible refine' w2_eqT ?_
  | with_reducible refine' w2_neT ?_
  | with_reducible refine' w2_eqB ?_
  | with_reducible refine' w2_neB ?_
  | with_reducible refine' w2_isN ?_
  | with_reducible refine' w2_notN ?_
  | with_reducible refine' w2_isB ?_
  | with_reducible refine' w2_inT ?_
  | with_reducible refine' w1_neg ?_
  | with_reducible refine' wl_abs ?_
  | with_reducible refine' wl_max2 ?_
  | with_reducible refine' wl_min2 ?_
  | with_reducible refine' wl_intB ?_
  | ((with_reducible refine' w2_div ?h ?_); case h => first | omega | (constructor <;> omega))
  | ((with_reducible refine' w2_mod ?h ?_); case h => omega)
  | ((with_reducible refine' w2_catT ?h ?_); case h => walk_at "len")
  | ((with_reducible refine' wsl_T ?h ?_); case h => walk_at "len")
  | ((with_reducible refine' wl_lenT ?h ?_); case h => walk_at "len")
  | ((with_reducible refine' wl_len ?h ?_); case h => walk_at "isl")
  | ((with_reducible refine' wl_len ?h ?_); case h => walk_at "isl")
  | ((with_reducible refine' wm_append ?sw ?hl ?_); (case sw => walk_at "swap"); (case hl => walk_at "len")))
local macro_rules | `(tactic| walk_at "b1") => `(tactic| first | with_reducible refine' ws_seq ?_ | walk_at "b0")
local macro_rules | `(tactic| walk_at "bx") => `(tactic| first
  | refine ⟨_, rfl, ?_⟩
  | refine ⟨_, _, rfl, ?_⟩
  | refine ⟨ty_L (by walk_at "isl"), ?_⟩
  | refine ⟨ty_S, ?_⟩
  | refine spl_t (by rfl) ?_
  | refine spl_f (by rfl) ?_
  | exact rfl)
local macro_rules | `(tactic| walk_at "bm") => `(tactic| repeat (first | walk_at "b1" | walk_at "bx"))
local macro_rules | `(tactic| walk_at "bn") => `(tactic| repeat (first | walk_at "b0" | walk_at "bx"))
local macro_rules | `(tactic| walk_at "b0") => `(tactic| with_reducible refine' c_deepens ?_)
local macro_rules | `(tactic| walk_at "b0") => `(tactic| ((with_reducible refine' c_depths_of ?hl ?_); (case hl => walk_at "len")))
local macro_rules | `(tactic| walk_at "b0") => `(tactic| with_reducible refine' c_is_wholeI ?_)
local macro_rules | `(tactic| walk_at "b0") => `(tactic| with_reducible refine' c_flipped ?_)
local macro_rules | `(tactic| walk_at "b0") => `(tactic| ((with_reducible refine' c_is_right_row ?hl ?_); (case hl => walk_at "len")))
local macro_rules | `(tactic| walk_at "b0") => `(tactic| ((with_reducible refine' c_asked_row ?hl ?_); (case hl => walk_at "len")))
local macro_rules | `(tactic| walk_at "b0") => `(tactic| ((with_reducible refine' c_depths ?hl ?_); (case hl => walk_at "len")))
local macro_rules | `(tactic| walk_at "b0") => `(tactic| ((with_reducible refine' c_is_right ?hl ?_); (case hl => walk_at "len")))
local macro_rules | `(tactic| walk_at "b0") => `(tactic| ((with_reducible refine' c__law_depths ?hl ?_); (case hl => walk_at "len")))
local macro_rules | `(tactic| walk_at "b0") => `(tactic| ((with_reducible refine' c__law_good ?hl ?_); (case hl => walk_at "len")))
local macro_rules | `(tactic| walk_at "b0") => `(tactic| ((with_reducible refine' wl_listOf ?hx ?_); (case hx => walk_at "isl")))
local macro_rules | `(tactic| walk_at "b0") => `(tactic| with_reducible refine' w2_notB ?_)
local macro_rules | `(tactic| walk_at "own") => `(tactic| exact own_l (by walk_at "mem"))
local macro_rules | `(tactic| walk_at "b0") => `(tactic| with_reducible refine' we_fld ?_)
local macro_rules | `(tactic| walk_at "b0") => `(tactic| refine ⟨_, _, _, _, _, rfl, own_l (by walk_at "mem"), Grw.cl (by assumption), Grw.nr (by assumption), by rfl, ?_⟩)
local macro_rules | `(tactic| walk_at "b0") => `(tactic| refine ⟨_, _, _, _, _, rfl, fun H' o => o.ex _ _ (by assumption), Grw.cl (by assumption), Grw.nr (by assumption), by rfl, ?_⟩)
end BM
namespace BM
open PySem L2 Evl
local macro_rules | `(tactic| walk_at "mem") => `(tactic| first | exact List.mem_cons_self | (refine List.mem_cons_of_mem _ ?_; walk_at "mem"))
local macro_rules | `(tactic| walk_at "swap") => `(tactic| first | exact Swap.here | (apply Swap.there; walk_at "swap"))
local macro_rules | `(tactic| walk_at "subl") => `(tactic| first | exact List.Sublist.refl _ | exact List.nil_sublist _ | (refine List.Sublist.cons_cons _ ?_; walk_at "subl") | (refine List.Sublist.cons _ ?_; walk_at "subl"))
local macro_rules | `(tactic| walk_at "sub") => `(tactic| first | exact Sub.refl _ | (refine ⟨?_, ?_⟩ <;> walk_at "subl"))
local macro_rules | `(tactic| walk_at "isl") => `(tactic| first | exact isL_own (by walk_at "mem") | exact isL_old (by assumption) | assumption)
local macro_rules | `(tactic| walk_at "ist") => `(tactic| first | exact isT_own (by walk_at "mem") | exact isT_old (by assumption) | assumption)
local macro_rules | `(tactic| walk_at "len") => `(tactic| first | omega | decide | (simp only [List.length_map, List.length_take, List.length_drop, List.length_append, List.length_cons, List.length_nil, List.length_reverse, dps_len, flp_len]; omega) | (simp [dps_len, flp_len]; omega) | simp)
local macro_rules | `(tactic| walk_at "b0") => `(tactic| first
  | with_reducible refine' ws_set ?_
  | with_reducible refine' ws_par ?_
  | with_reducible refine' ws_asg ?_
  | with_reducible refine' ws_drop ?_
  | with_reducible refine' ws_ret ?_
  | with_reducible refine' ws_if ?_
  | with_reducible refine' ws_next ?_
  | with_reducible refine' ws_brk ?_
  | with_reducible refine' ws_cont ?_
  | ((with_reducible refine' we_var ?hv ?_); case hv => rfl)
  | with_reducible refine' we_c ?_
  | with_reducible refine' we_op ?_
  | with_reducible refine' we_un ?_
  | with_reducible refine' we_if ?_
  | with_reducible refine' we_and ?_
  | with_reducible refine' we_or ?_
  | with_reducible refine' we_not ?_
  | with_reducible refine' wa_nil ?_
  | with_reducible refine' wa_cons ?_
  | (with_reducible refine' we_lst ?_)
  | (with_reducible refine' we_tup ?_)
  | with_reducible refine' we_cb ?_
  | with_reducible refine' we_call0 ?_
  | with_reducible refine' we_sl ?_
  | with_reducible refine' wo_none ?_
  | (with_reducible refine' wo_some ?_)
  | with_reducible refine' wt_test ?_
  | with_reducible refine' wt_B ?_
  | with_reducible refine' wt_and ?_
  | with_reducible refine' wt_or ?_
  | with_reducible refine' wt_not ?_
  | with_reducible refine' wt_yes ?_
  | with_reducible refine' we_chain ?_
  | with_reducible refine' we_chain3 ?_
  | with_reducible refine' we_revT ?_
  | with_reducible refine' we_revL ?_
  | with_reducible refine' we_bm ?_
  | with_reducible refine' we_bm0 ?_
  | with_reducible refine' ws_for ?_
  | with_reducible refine' we_lc ?_
  | with_reducible refine' wi_list ?_
  | with_reducible refine' wi_tup ?_
  | with_reducible refine' wi_T ?_
  | with_reducible refine' wi_rng1 ?_
  | with_reducible refine' wi_rng2 ?_
  | with_reducible refine' wi_rng3 ?_
  | with_reducible refine' wi_enum ?_
  | with_reducible refine' wi_enumT ?_
  | with_reducible refine' wi_zip ?_
  | with_reducible refine' wg_name ?_
  | with_reducible refine' wg_sub ?_
  | with_reducible refine' wgs_nil ?_
  | with_reducible refine' wgs_cons ?_
  | ((with_reducible refine' wg_tup ?ht ?hn ?_); (case ht => walk_at "ist"); (case hn => rfl))
  | with_reducible refine' w2_add ?_
  | with_reducible refine' w2_sub ?_
  | with_reducible refine' w2_lt ?_
  | with_reducible refine' w2_le ?_
  | with_reducible refine' w2_gt ?_
  | with_reducible refine' w2_ge ?_
  | with_reducible refine' w2_eqI ?_
  | with_reducible refine' w2_neI ?_
  | with_reducible refine' w2_eqT ?_
  | with_reducible refine' w2_neT ?_
  | with_reducible refine' w2_eqB ?_
  | with_reducible refine' w2_neB ?_
  | with_reducible refine' w2_isN ?_
  | with_reducible refine' w2_notN ?_
  | with_reducible refine' w2_isB ?_
  | with_reducible refine' w2_inT ?_
  | with_reducible refine' w1_neg ?_
  | with_reducible refine' wl_abs ?_
  | with_reducible refine' wl_max2 ?_
  | with_reducible refine' wl_min2 ?_
  | with_reducible refine' wl_intB ?_
  | ((with_reducible refine' w2_div ?h ?_); case h => first | omega | (constructor <;> omega))
  | ((with_reducible refine' w2_mod ?h ?_); case h => omega)
  | ((with_reducible refine' w2_catT ?h ?_); case h => walk_at "len")
  | ((with_reducible refine' wsl_T ?h ?_); case h => walk_at "len")
  | ((with_reducible refine' wl_lenT ?h ?_); case h => walk_at "len")
  | ((with_reducible refine' wl_len ?h ?_); case h => walk_at "isl")
  | ((with_reducible refine' wl_len ?h ?_); case h => walk_at "isl")
  | ((with_reducible refine' wm_append ?sw ?hl ?_); (case sw => walk_at "swap"); (case hl => walk_at "len")))
local macro_rules | `(tactic| walk_at "b1") => `(tactic| first | with_reducible refine' ws_seq ?_ | walk_at "b0")
local macro_rules | `(tactic| walk_at "bx") => `(tactic| first
  | refine ⟨_, rfl, ?_⟩
  | refine ⟨_, _, rfl, ?_⟩
  | refine ⟨ty_L (by walk_at "isl"), ?_⟩
  | refine ⟨ty_S, ?_⟩
  | refine spl_t (by rfl) ?_
  | refine spl_f (by rfl) ?_
  | exact rfl)
local macro_rules | `(tactic| walk_at "bm") => `(tactic| repeat (first | walk_at "b1" | walk_at "bx"))
local macro_rules | `(tactic| walk_at "bn") => `(tactic| repeat (first | walk_at "b0" | walk_at "bx"))
local macro_rules | `(tactic| walk_at "b0") => `(tactic| with_reducible refine' c_deepens ?_)
local macro_rules | `(tactic| walk_at "b0") => `(tactic| ((with_reducible refine' c_depths_of ?hl ?_); (case hl => walk_at "len")))
local macro_rules | `(tactic| walk_at "b0") => `(tactic| with_reducible refine' c_is_wholeI ?_)
local macro_rules | `(tactic| walk_at "b0") => `(tactic| with_reducible refine' c_flipped ?_)
local macro_rules | `(tactic| walk_at "b0") => `(tactic| ((with_reducible refine' c_is_right_row ?hl ?_); (case hl => walk_at "len")))
local macro_rules | `(tactic| walk_at "b0") => `(tactic| ((with_reducible refine' c_asked_row ?hl ?_); (case hl => walk_at "len")))
local macro_rules | `(tactic| walk_at "b0") => `(tactic| ((with_reducible refine' c_depths ?hl ?_); (case hl => walk_at "len")))
local macro_rules | `(tactic| walk_at "b0") => `(tactic| ((with_reducible refine' c_is_right ?hl ?_); (case hl => walk_at "len")))
local macro_rules | `(tactic| walk_at "b0") => `(tactic| ((with_reducible refine' c__law_depths ?hl ?_); (case hl => walk_at "len")))
local macro_rules | `(tactic| walk_at "b0") => `(tactic| ((with_reducible refine' c__law_good ?hl ?_); (case hl => walk_at "len")))
local macro_rules | `(tactic| walk_at "b0") => `(tactic| ((with_reducible refine' wl_listOf ?hx ?_); (case hx => walk_at "isl")))
local macro_rules | `(tactic| walk_at "b0") => `(tactic| with_reducible refine' w2_notB ?_)
local macro_rules | `(tactic| walk_at "own") => `(tactic| exact own_l (by walk_at "mem"))
local macro_rules | `(tactic| walk_at "b0") => `(tactic| with_reducible refine' we_fld ?_)
local macro_rules | `(tactic| walk_at "b0") => `(tactic| refine ⟨_, _, _, _, _, rfl, own_l (by walk_at "mem"), Grw.cl (by assumption), Grw.nr (by assumption), by rfl, ?_⟩)
local macro_rules | `(tactic| walk_at "b0") => `(tactic| refine ⟨_, _, _, _, _, rfl, fun H' o => o.ex _ _ (by assumption), Grw.cl (by assumption), Grw.nr (by assumption), by rfl, ?_⟩)
local macro_rules | `(tactic| walk_at "b0") => `(tactic| with_reducible refine' we_meth ?_)
local macro_rules | `(tactic| walk_at "b0") => `(tactic| refine ⟨_, _, _, rfl, own_l (by walk_at "mem"), by rfl, ?_⟩)
local macro_rules | `(tactic| walk_at "b0") => `(tactic| refine ⟨_, _, _, rfl, fun H' o => o.ex _ _ (by assumption), by rfl, ?_⟩)
local macro_rules | `(tactic| walk_at "gown") => `(tactic| first | exact own_l (by walk_at "mem") | exact fun H' o => o.ex _ _ (by assumption))
/-! the ask -/
end BM
namespace BM
open PySem L2 Evl
local macro_rules | `(tactic| walk_at "mem") => `(tactic| first | exact List.mem_cons_self | (refine List.mem_cons_of_mem _ ?_; walk_at "mem"))
local macro_rules | `(tactic| walk_at "swap") => `(tactic| first | exact Swap.here | (apply Swap.there; walk_at "swap"))
local macro_rules | `(tactic| walk_at "subl") => `(tactic| first | exact List.Sublist.refl _ | exact List.nil_sublist _ | (refine List.Sublist.cons_cons _ ?_; walk_at "subl") | (refine List.Sublist.cons _ ?_; walk_at "subl"))
local macro_rules | `(tactic| walk_at "sub") => `(tactic| first | exact Sub.refl _ | (refine ⟨?_, ?_⟩ <;> walk_at "subl"))
local macro_rules | `(tactic| walk_at "isl") => `(tactic| first | exact isL_own (by walk_at "mem") | exact isL_old (by assumption) | assumption)
local macro_rules | `(tactic| walk_at "ist") => `(tactic| first | exact isT_own (by walk_at "mem") | exact isT_old (by assumption) | assumption)
local macro_rules | `(tactic| walk_at "len") => `(tactic| first | omega | decide | (simp only [List.length_map, List.length_take, List.length_drop, List.length_append, List.length_cons, List.length_nil, List.length_reverse, dps_len, flp_len]; omega) | (simp [dps_len, flp_len]; omega) | simp)
local macro_rules | `(tactic| walk_at "b0") => `(tactic| first
  | with_reducible refine' ws_set ?_
  | with_reducible refine' ws_par ?_
  | with_reducible refine' ws_asg ?_
  | with_reducible refine' ws_drop ?_
  | with_reducible refine' ws_ret ?_
  | with_reducible refine' ws_if ?_
  | with_reducible refine' ws_next ?_
  | with_reducible refine' ws_brk ?_
  | with_reducible refine' ws_cont ?_
  | ((with_reducible refine' we_var ?hv ?_); case hv => rfl)
  | with_reducible refine' we_c ?_
  | with_reducible refine' we_op ?_
  | with_reducible refine' we_un ?_
  | with_reducible refine' we_if ?_
  | with_reducible refine' we_and ?_
  | with_reducible refine' we_or ?_
  | with_reducible refine' we_not ?_
  | with_reducible refine' wa_nil ?_
  | with_reducible refine' wa_cons ?_
  | (with_reducible refine' we_lst ?_)
  | (with_reducible refine' we_tup ?_)
  | with_reducible refine' we_cb ?_
  | with_reducible refine' we_call0 ?_
  | with_reducible refine' we_sl ?_
  | with_reducible refine' wo_none ?_
  | (with_reducible refine' wo_some ?_)
  | with_reducible refine' wt_test ?_
  | with_reducible refine' wt_B ?_
  | with_reducible refine' wt_and ?_
  | with_reducible refine' wt_or ?_
  | with_reducible refine' wt_not ?_
  | with_reducible refine' wt_yes ?_
  | with_reducible refine' we_chain ?_
  | with_reducible refine' we_chain3 ?_
  | with_reducible refine' we_revT ?_
  | with_reducible refine' we_revL ?_
  | with_reducible refine' we_bm ?_
  | with_reducible refine' we_bm0 ?_
  | with_reducible refine' ws_for ?_
  | with_reducible refine' we_lc ?_
  | with_reducible refine' wi_list ?_
  | with_reducible refine' wi_tup ?_
  | with_reducible refine' wi_T ?_
  | with_reducible refine' wi_rng1 ?_
  | with_reducible refine' wi_rng2 ?_
  | with_reducible refine' wi_rng3 ?_
  | with_reducible refine' wi_enum ?_
  | with_reducible refine' wi_enumT ?_
  | with_reducible refine' wi_zip ?_
  | with_reducible refine' wg_name ?_
  | with_reducible refine' wg_sub ?_
  | with_reducible refine' wgs_nil ?_
  | with_reducible refine' wgs_cons ?_
  | ((with_reducible refine' wg_tup ?ht ?hn ?_); (case ht => walk_at "ist"); (case hn => rfl))
  | with_reducible refine' w2_add ?_
  | with_reducible refine' w2_sub ?_
  | with_reducible refine' w2_lt ?_
  | with_reducible refine' w2_le ?_
  | with_reducible refine' w2_gt ?_
  | with_reducible refine' w2_ge ?_
  | with_reducible refine' w2_eqI ?_
  | with_reducible refine' w2_neI ?_
  | with_reducible refine' w2_eqT ?_
  | with_reducible refine' w2_neT ?_
  | with_reducible refine' w2_eqB ?_
  | with_reducible refine' w2_neB ?_
  | with_reducible refine' w2_isN ?_
  | with_reducible refine' w2_notN ?_
  | with_reducible refine' w2_isB ?_
  | with_reducible refine' w2_inT ?_
  | with_reducible refine' w1_neg ?_
  | with_reducible refine' wl_abs ?_
  | with_reducible refine' wl_max2 ?_
  | with_reducible refine' wl_min2 ?_
  | with_reducible refine' wl_intB ?_
  | ((with_reducible refine' w2_div ?h ?_); case h => first | omega | (constructor <;> omega))
  | ((with_reducible refine' w2_mod ?h ?_); case h => omega)
  | ((with_reducible refine' w2_catT ?h ?_); case h => walk_at "len")
  | ((with_reducible refine' wsl_T ?h ?_); case h => walk_at "len")
  | ((with_reducible refine' wl_lenT ?h ?_); case h => walk_at "len")
  | ((with_reducible refine' wl_len ?h ?_); case h => walk_at "isl")
  | ((with_reducible refine' wl_len ?h ?_); case h => walk_at "isl")
  | ((with_reducible refine' wm_append ?sw ?hl ?_); (case sw => walk_at "swap"); (case hl => walk_at "len")))
local macro_rules | `(tactic| walk_at "b1") => `(tactic| first | with_reducible refine' ws_seq ?_ | walk_at "b0")
local macro_rules | `(tactic| walk_at "bx") => `(tactic| first
  | refine ⟨_, rfl, ?_⟩
  | refine ⟨_, _, rfl, ?_⟩
  | refine ⟨ty_L (by walk_at "isl"), ?_⟩
  | refine ⟨ty_S, ?_⟩
  | refine spl_t (by rfl) ?_
  | refine spl_f (by rfl) ?_
  | exact rfl)
local macro_rules | `(tactic| walk_at "bm") => `(tactic| repeat (first | walk_at "b1" | walk_at "bx"))
local macro_rules | `(tactic| walk_at "bn") => `(tactic| repeat (first | walk_at "b0" | walk_at "bx"))
local macro_rules | `(tactic| walk_at "b0") => `(tactic| with_reducible refine' c_deepens ?_)
local macro_rules | `(tactic| walk_at "b0") => `(tactic| ((with_reducible refine' c_depths_of ?hl ?_); (case hl => walk_at "len")))
local macro_rules | `(tactic| walk_at "b0") => `(tactic| with_reducible refine' c_is_wholeI ?_)
local macro_rules | `(tactic| walk_at "b0") => `(tactic| with_reducible refine' c_flipped ?_)
local macro_rules | `(tactic| walk_at "b0") => `(tactic| ((with_reducible refine' c_is_right_row ?hl ?_); (case hl => walk_at "len")))
local macro_rules | `(tactic| walk_at "b0") => `(tactic| ((with_reducible refine' c_asked_row ?hl ?_); (case hl => walk_at "len")))
local macro_rules | `(tactic| walk_at "b0") => `(tactic| ((with_reducible refine' c_depths ?hl ?_); (case hl => walk_at "len")))
local macro_rules | `(tactic| walk_at "b0") => `(tactic| ((with_reducible refine' c_is_right ?hl ?_); (case hl => walk_at "len")))
local macro_rules | `(tactic| walk_at "b0") => `(tactic| ((with_reducible refine' c__law_depths ?hl ?_); (case hl => walk_at "len")))
local macro_rules | `(tactic| walk_at "b0") => `(tactic| ((with_reducible refine' c__law_good ?hl ?_); (case hl => walk_at "len")))
local macro_rules | `(tactic| walk_at "b0") => `(tactic| ((with_reducible refine' wl_listOf ?hx ?_); (case hx => walk_at "isl")))
local macro_rules | `(tactic| walk_at "b0") => `(tactic| with_reducible refine' w2_notB ?_)
local macro_rules | `(tactic| walk_at "own") => `(tactic| exact own_l (by walk_at "mem"))
local macro_rules | `(tactic| walk_at "b0") => `(tactic| with_reducible refine' we_fld ?_)
local macro_rules | `(tactic| walk_at "b0") => `(tactic| refine ⟨_, _, _, _, _, rfl, own_l (by walk_at "mem"), Grw.cl (by assumption), Grw.nr (by assumption), by rfl, ?_⟩)
local macro_rules | `(tactic| walk_at "b0") => `(tactic| refine ⟨_, _, _, _, _, rfl, fun H' o => o.ex _ _ (by assumption), Grw.cl (by assumption), Grw.nr (by assumption), by rfl, ?_⟩)
local macro_rules | `(tactic| walk_at "b0") => `(tactic| with_reducible refine' we_meth ?_)
local macro_rules | `(tactic| walk_at "b0") => `(tactic| refine ⟨_, _, _, rfl, own_l (by walk_at "mem"), by rfl, ?_⟩)
local macro_rules | `(tactic| walk_at "b0") => `(tactic| refine ⟨_, _, _, rfl, fun H' o => o.ex _ _ (by assumption), by rfl, ?_⟩)
local macro_rules | `(tactic| walk_at "gown") => `(tactic| first | exact own_l (by walk_at "mem") | exact fun H' o => o.ex _ _ (by assumption))
end BM
namespace BM
/-- how often a depth below nothing must be lifted -/
def lf (d : Int) : Int := (if 1 - d > 0 then 1 - d else 0) / 2
theorem lf_nn (d : Int) : 0 ≤ lf d := by unfold lf; split <;> omega
theorem lf_zero {d : Int} : lf d = 0 ↔ 0 ≤ d := by unfold lf; split <;> omega
theorem lf_step (h : Int) : lf (h - 1) - lf (h + 1) = if h ≤ 0 then 1 else 0 := by unfold lf; split <;> split <;> split <;> omega
def PH (h : Int) : List Bool → Int
  | [] => lf h
  | b :: r => lf h + PH (h + sg b) r
theorem PH_nn : ∀ (r : List Bool) (h : Int), 0 ≤ PH h r
  | [], h => lf_nn h
  | b :: r, h => by
    have := lf_nn h
    have := PH_nn r (h + sg b)
    show 0 ≤ lf h + PH (h + sg b) r
    omega
theorem PH_app : ∀ (u w : List Bool) (h : Int), ∃ c, ∀ w', PH h (u ++ w') = c + PH (h + hgt u) w'
  | [], w, h => ⟨0, fun w' => by show PH h w' = 0 + PH (h + 0) w'; rw [Int.add_zero, Int.zero_add]⟩
  | b :: u, w, h => by
    obtain ⟨c, hc⟩ := PH_app u w (h + sg b)
    refine ⟨lf h + c, fun w' => ?_⟩
    show lf h + PH (h + sg b) (u ++ w') = lf h + c + PH (h + (sg b + hgt u)) w'
    rw [hc w', Int.add_assoc, Int.add_assoc]
theorem PH_zero : ∀ (r : List Bool) (h : Int), PH h r = 0 ↔ ∀ j, j ≤ r.length → 0 ≤ h + hgt (r.take j)
  | [], h => by
    show lf h = 0 ↔ _
    rw [lf_zero]
    exact ⟨fun hh j hj => by rw [show j = 0 from Nat.le_zero.mp hj]; show 0 ≤ h + 0; omega, fun hh => by have := hh 0 (Nat.le_refl _); have e : hgt (([] : List Bool).take 0) = 0 := rfl; omega⟩
  | b :: r, h => by
    have n1 := lf_nn h
    have n2 := PH_nn r (h + sg b)
    show lf h + PH (h + sg b) r = 0 ↔ _
    have e : lf h + PH (h + sg b) r = 0 ↔ lf h = 0 ∧ PH (h + sg b) r = 0 := by omega
    rw [e, lf_zero, PH_zero r (h + sg b)]
    constructor
    · rintro ⟨h1, h2⟩ j hj
      cases j with
      | zero => show 0 ≤ h + 0; omega
      | succ j =>
        have := h2 j (by simpa using hj)
        show 0 ≤ h + (sg b + hgt (r.take j))
        omega
    · intro hh
      refine ⟨by have := hh 0 (Nat.zero_le _); have e : hgt ((b :: r).take 0) = 0 := rfl; omega, fun j hj => ?_⟩
      have := hh (j + 1) (by simpa using hj)
      have e : hgt ((b :: r).take (j + 1)) = sg b + hgt (r.take j) := rfl
      omega
def pot (r : List Bool) : Int := PH 0 r
theorem pot_nn (r : List Bool) : 0 ≤ pot r := PH_nn r 0
theorem isR_pot {r : List Bool} : isR r = true ↔ hgt r = 0 ∧ pot r = 0 := by
  rw [isR_iff]
  unfold pot
  rw [PH_zero]
  simp only [Int.zero_add]
theorem hgt_swp {r : List Bool} {p : Int} (h : swOk r p = true) : hgt (swp r p.toNat) = hgt r := by
  obtain ⟨u, v, a, b, e, hl⟩ := split_at (swOk_len h).2
  rw [← hl, e, swp_split]
  simp only [hgt_app, hgt]
  omega
theorem pot_swp_low {r : List Bool} {p : Int} (h : swOk r p = true) (ha : r[p.toNat]? = some false) (hh : hgt (r.take p.toNat) ≤ 0) : pot (swp r p.toNat) = pot r - 1 := by
  have hp := swOk_len h
  obtain ⟨u, v, a, b, e, hl⟩ := split_at hp.2
  have hok : a ≠ b := by
    have := swOk_split u v a b
    rw [hl, Int.toNat_of_nonneg hp.1, ← e, h] at this
    simpa using this.symm
  rw [← hl] at ha hh ⊢
  subst e
  rw [List.getElem?_append_right (Nat.le_refl _), Nat.sub_self] at ha
  cases ha
  rw [List.take_left] at hh
  have hb : b = true := by cases b; exact absurd rfl hok; rfl
  subst hb
  obtain ⟨c, hc⟩ := PH_app u [] 0
  rw [swp_split]
  unfold pot
  rw [hc, hc]
  show c + (lf _ + (lf (0 + hgt u + 1) + PH (0 + hgt u + 1 + -1) v)) = c + (lf _ + (lf (0 + hgt u + -1) + PH (0 + hgt u + -1 + 1) v)) - 1
  rw [show (0 + hgt u + 1 + -1 : Int) = 0 + hgt u + -1 + 1 by omega]
  have st := lf_step (0 + hgt u)
  rw [if_pos (by omega)] at st
  have e1 : (0 + hgt u + -1 : Int) = 0 + hgt u - 1 := by omega
  rw [e1]
  omega
/-- the first lowest spot: an exchange that mends -/
theorem low_spot {r : List Bool} {m : Int} {j : Nat} (h0 : hgt r = 0) (hm : m < 0) (hj : (dps r)[j]? = some m) (hmin : ∀ y ∈ dps r, m ≤ y) (hfirst : ∀ i, i < j → (dps r)[i]? ≠ some m) :
    swOk r ((j : Int) - 1) = true ∧ 0 < j ∧ r[j - 1]? = some false ∧ hgt (r.take (j - 1)) ≤ 0 := by
  have hjl : j ≤ r.length := by
    have := (List.getElem?_eq_some_iff.mp hj).1
    rw [dps_len] at this
    omega
  have ej : hgt (r.take j) = m := by
    rw [dps_get hjl] at hj
    exact Option.some.inj hj
  have hj0 : 0 < j := by
    rcases Nat.eq_zero_or_pos j with h | h
    · subst h
      have e : hgt (r.take 0) = 0 := rfl
      omega
    · exact h
  have hjn : j < r.length := by
    rcases Nat.lt_or_ge j r.length with h | h
    · exact h
    · rw [List.take_of_length_le h] at ej
      omega
  obtain ⟨a, ha⟩ : ∃ a, r[j - 1]? = some a := ⟨_, List.getElem?_eq_getElem (by omega)⟩
  obtain ⟨b, hb⟩ : ∃ b, r[j]? = some b := ⟨_, List.getElem?_eq_getElem hjn⟩
  have e1 : hgt (r.take j) = hgt (r.take (j - 1)) + sg a := by
    have := take_snoc ha
    rw [show j - 1 + 1 = j by omega] at this
    rw [this, hgt_app]
    simp [hgt]
  have e2 : hgt (r.take (j + 1)) = hgt (r.take j) + sg b := by
    rw [take_snoc hb, hgt_app]
    simp [hgt]
  have g1 : m ≤ hgt (r.take (j - 1)) := hmin _ (mem_dps.mpr ⟨j - 1, by omega, rfl⟩)
  have g2 : m ≤ hgt (r.take (j + 1)) := hmin _ (mem_dps.mpr ⟨j + 1, by omega, rfl⟩)
  have g3 : hgt (r.take (j - 1)) ≠ m := fun h => hfirst (j - 1) (by omega) (by rw [dps_get (by omega), h])
  have ea : a = false := by
    cases a
    · rfl
    · simp only [sg, if_true] at e1
      omega
  have eb : b = true := by
    cases b
    · simp only [sg, Bool.false_eq_true, if_false] at e2
      omega
    · rfl
  subst ea eb
  refine ⟨?_, hj0, ha, ?_⟩
  · unfold swOk
    rw [show ((j : Int) - 1).toNat = j - 1 by omega, ha, show j - 1 + 1 = j by omega, hb]
    have h1 : (0 : Int) ≤ (j : Int) - 1 := by omega
    have h2 : (j : Int) - 1 < (r.length : Int) - 1 := by omega
    rw [decide_eq_true h1, decide_eq_true h2]
    rfl
  · simp only [sg, Bool.false_eq_true, if_false] at e1
    omega
end BM
namespace BM
open PySem PySem.Spec PyProof.Rows L2 Evl
/-! ### counting signs, the place of a number -/
theorem cnt_T (b : Bool) : ∀ r : List Bool, cnt (B b) (r.map B) = (r.count b : Int)
  | [] => rfl
  | a :: r => by
    rw [List.map_cons, cnt_cons, cnt_T b r, List.count_cons]
    by_cases e : a = b
    · subst e
      simp
      omega
    · have e2 : ¬ B a = B b := fun h => e (B_inj h)
      simp [e, e2]
theorem count_T (r : List Bool) (b : Bool) : Txt.count (T r) (T [b]) = (r.count b : Int) := by
  rw [← cnt_T b r, ← T_list]
  exact count_cnt (T r) (B b)
def aCountT : V → List V → Hp → VK → Prop := fun x xs H Q => ∃ (r : List Bool) (b : Bool), x = .str (T r) ∧ xs = [.str (T [b])] ∧ Q (.int (r.count b : Int)) H
def aIndex (K : PySem.W.Frag) : V → List V → Hp → VK → Prop := fun x xs H Q => ∃ (a : Addr) (ns : List Int) (n : Int) (j : Nat), x = .ref a ∧ xs = [.int n] ∧ SqL K H a (ns.map V.int) ∧ ns[j]? = some n ∧ (∀ m, m < j → ns[m]? ≠ some n) ∧ Q (.int (j : Int)) H
def aIsiC (K : PySem.W.Frag) (c : Addr) : List V → Hp → VK → Prop := fun xs H Q => ∃ (x : V) (t : Value) (b : Bool), xs = [x, .ref c] ∧ TyX K H x t ∧ PySem.W.kitOne K t (.ref c) = some b ∧ Q (.bl b) H
section
variable {X : Cx}
theorem m_countT : MtR X "str.count" aCountT := MtR.imp mt_count fun x xs H Q ⟨r, b, e1, e2, q⟩ => ⟨T r, T [b], e1, e2, by rw [count_T]; exact q⟩
theorem m_index : MtR X "list.index" (aIndex X.K) := MtR.imp mt_index fun x xs H Q ⟨a, ns, n, j, e1, e2, hs, hj, hn, q⟩ => ⟨a, ns.map V.int, .int n, j, .int n, e1, e2, hs, rfl, by rw [List.all_map, List.all_eq_true]; exact fun _ _ => rfl, by rw [List.getElem?_map, hj]; rfl, by show (n == n) = true; simp, fun m z hm hz => by
  rw [List.getElem?_map] at hz
  cases e : ns[m]? with
  | none => rw [e] at hz; cases hz
  | some k =>
    rw [e] at hz
    cases hz
    show (k == n) = false
    have : k ≠ n := fun h => hn m hm (by rw [e, h])
    simpa using this, q⟩
theorem c_isiC (c : Addr) : CallR X (.builtin "isinstance") (aIsiC X.K c) := CallR.imp call_isi fun xs H Q ⟨x, t, b, e, ty, k, q⟩ => ⟨x, .ref c, t, .ref c, b, e, .own c, ty, k, q⟩
end
section
variable {K : PySem.W.Frag} {H0 : Hp} {σ : L2.St} {s : Ld} {Q : V → Ld → Prop} {x : V}
theorem wm_countT {r : List Bool} {b : Bool} (q : Q (.int (r.count b : Int)) s) : WM H0 aCountT (.str (T r)) [.str (T [b])] s Q := fun H o R k => ⟨r, b, rfl, rfl, k _ H s o q⟩
theorem wm_index {a : Addr} {ns : List Int} {n : Int} {j : Nat} (hx : IsL K H0 s a (ns.map V.int)) (hj : ns[j]? = some n) (hn : ∀ m, m < j → ns[m]? ≠ some n) (q : Q (.int (j : Int)) s) : WM H0 (aIndex K) (.ref a) [.int n] s Q := fun H o R k => ⟨a, ns, n, j, rfl, rfl, hx H o, hj, hn, k _ H s o q⟩
theorem wl_isiC {c : Addr} {t : Value} {b : Bool} (ty : ∀ H, Own H0 H s → TyX K H x t) (hk : PySem.W.kitOne K t (.ref c) = some b) (q : Q (.bl b) s) : WL H0 (aIsiC K c) [x, .ref c] s Q := fun H o R k => ⟨x, t, b, rfl, ty H o, hk, k _ H s o q⟩
end
/-- a class of answers as it stands -/
structure Anc (K : PySem.W.Frag) (C : Addr) : Prop where
  cl : Cls K C
  ha : PySem.W.findIn K (.ref C) "__class__" = some (some (.builtin "object.__class__"))
  hn : PySem.W.specialIn K (.builtin "object.__class__") "__get__" = some (some (.builtin "getset_descriptor.__get__"))
  ht : PySem.W.takesIn K (.builtin "object.__class__") = some true
  hm : PySem.W.mroIn K C (.type "object") = some true
theorem Anc.ty {K : PySem.W.Frag} {C a dx : Addr} {H : Hp} {fs : List (Str × V)} (h : Anc K C) (e : H a = some (.ins C dx fs)) : TyX K H (.ref a) (.ref C) := .base (.ins e h.cl h.ha h.hn h.ht h.hm)
/-! ### a method of one of two classes -/
section
variable {X : Cx} {CX : CXT} {k1 k2 : Nat} {f1 f2 C1 C2 : Addr} {fd1 fd2 : FuncData} {ps1 ps2 : List Str} {sp1 sp2 : Sp} {E : XK} {m : Str} {pos apos : Pos} {e o : Expr} {es : List Expr} {ta : TE} {t : TA}
def tMethU (C1 C2 : Addr) (m : Str) (sp1 sp2 : Sp) (E : XK) (ta : TE) (t : TA) : TE := fun σ H Q => ta σ H fun x H1 => ∃ a C dx fs, x = .ref a ∧ H1 a = some (.ins C dx fs) ∧ fs.lookup m = none ∧ ((C = C1 ∧ t σ H1 fun vs H2 => sp1 (x :: vs) H2 Q E) ∨ (C = C2 ∧ t σ H1 fun vs H2 => sp2 (x :: vs) H2 Q E))
end
section
variable {K : PySem.W.Frag} {H0 : Hp} {σ : L2.St} {s : Ld} {ta : TA} {te : TE} {Q : V → Ld → Prop} {m : Str} {E : XK} {C1 C2 : Addr} {sp1 sp2 : Sp}
theorem we_methU (h : WE H0 te σ s fun x s1 => ∃ a C dx fs, x = .ref a ∧ (∀ H, Own H0 H s1 → H a = some (.ins C dx fs)) ∧ fs.lookup m = none ∧ ((C = C1 ∧ WA H0 ta σ s1 fun vs s2 => WC H0 sp1 E (x :: vs) s2 Q) ∨ (C = C2 ∧ WA H0 ta σ s1 fun vs s2 => WC H0 sp2 E (x :: vs) s2 Q))) : WE H0 (tMethU C1 C2 m sp1 sp2 E te ta) σ s Q := fun H o R k =>
  h H o _ fun x H1 s1 o1 ⟨a, C, dx, fs, e, ha, hl, h1⟩ => ⟨a, C, dx, fs, e, ha H1 o1, hl, h1.imp (fun ⟨e, h1⟩ => ⟨e, h1 H1 o1 _ fun vs H2 s2 o2 h2 => h2 H2 o2 R k⟩) (fun ⟨e, h1⟩ => ⟨e, h1 H1 o1 _ fun vs H2 s2 o2 h2 => h2 H2 o2 R k⟩)⟩
end
end BM
namespace BM
open PySem L2 Evl
abbrev uIns (C : CA) (d : Addr) (z : Int) : HO := .ins C.c_Uneven d [("depth", .int z)]
abbrev sIns (C : CA) (d a b : Addr) : HO := .ins C.c_Swapped d [("places", .ref a), ("lifts", .ref b)]
structure UnC (K : PySem.W.Frag) (C : CA) : Prop where
  c : Anc K C.c_Uneven
  n : NoAttr K C.c_Uneven "depth"
structure SwC (K : PySem.W.Frag) (C : CA) : Prop where
  c : Anc K C.c_Swapped
  np : NoAttr K C.c_Swapped "places"
  nl : NoAttr K C.c_Swapped "lifts"
/-- what the answers' classes are to one another -/
structure Ex02 (K : PySem.W.Frag) (C : CA) : Prop where
  u : UnC K C
  s : SwC K C
  ua : PySem.W.kitOne K (.ref C.c_Uneven) (.ref C.c_Answer) = some true
  sa : PySem.W.kitOne K (.ref C.c_Swapped) (.ref C.c_Answer) = some true
  ut : PySem.W.kitOne K (.ref C.c_Uneven) (.ref C.c_Turned) = some false
  st : PySem.W.kitOne K (.ref C.c_Swapped) (.ref C.c_Turned) = some false
  uo : PySem.W.kitOne K (.ref C.c_Uneven) (.ref C.c_Odd) = some false
  so : PySem.W.kitOne K (.ref C.c_Swapped) (.ref C.c_Odd) = some false
  ur : PySem.W.kitOne K (.ref C.c_Uneven) (.ref C.c_Rounded) = some false
  sr : PySem.W.kitOne K (.ref C.c_Swapped) (.ref C.c_Rounded) = some false
  us : PySem.W.kitOne K (.ref C.c_Uneven) (.ref C.c_Swapped) = some false
  su : PySem.W.kitOne K (.ref C.c_Swapped) (.ref C.c_Uneven) = some false
def unSh (r : List Bool) (z : Int) : Bool := decide (z ≠ 0) && decide (hgt r = z)
def zipOk (p : Int × Int) : Bool := !(decide (p.2 < 0) || (decide (p.2 > 0) && decide (p.1 + 2 * (p.2 - 1) ≥ 0)))
def swSh (r : List Bool) (ps ls : List Int) : Bool := match swAll r ps with
  | none => false
  | some u => isR u && (decide (ls.length = r.length + 1) && (decide (ls.sum = (ps.length : Int)) && ((dps r).zip ls).all zipOk))
def sp_u_init (K : PySem.W.Frag) (C : CA) : Sp := fun vs H Q _ => ∃ (x d : Addr) (z : Int), UnC K C ∧ vs = [.ref x, .int z] ∧ H x = some (.ins C.c_Uneven d []) ∧ chg x (uIns C d z) .non H Q
def sp_u_shows (K : PySem.W.Frag) (C : CA) : Sp := spV fun vs H v => ∃ (g d : Addr) (z : Int) (r : List Bool), UnC K C ∧ vs = [.ref g, .str (T r)] ∧ H g = some (uIns C d z) ∧ r.length ≤ 1000 ∧ v = .bl (unSh r z)
def sp_s_init (K : PySem.W.Frag) (C : CA) : Sp := fun vs H Q _ => ∃ (x d a b : Addr) (ps ls : List Int), SwC K C ∧ vs = [.ref x, .ref a, .ref b] ∧ H x = some (.ins C.c_Swapped d []) ∧ SqL K H a (ps.map V.int) ∧ SqL K H b (ls.map V.int) ∧ a ≠ x ∧ b ≠ x ∧
  ∀ H' a2 b2, Ex (del x H) H' → del x H a2 = none → del x H b2 = none → [b2, a2, x].Nodup → H' x = some (sIns C d a2 b2) → H' a2 = some (.lst (ps.map V.int)) → H' b2 = some (.lst (ls.map V.int)) → Q .non H'
def sp_s_shows (K : PySem.W.Frag) (C : CA) : Sp := spV fun vs H v => ∃ (g d a b : Addr) (ps ls : List Int) (r : List Bool), SwC K C ∧ vs = [.ref g, .str (T r)] ∧ H g = some (sIns C d a b) ∧ SqL K H a (ps.map V.int) ∧ SqL K H b (ls.map V.int) ∧ r.length ≤ 1000 ∧ v = .bl (swSh r ps ls)
def sp__law_swapped (K : PySem.W.Frag) (C : CA) : Sp := spV fun vs H v => ∃ (r : List Bool) (a b : Addr) (ps ls : List Int), vs = [.str (T r), .ref a, .ref b] ∧ SqL K H a (ps.map V.int) ∧ SqL K H b (ls.map V.int) ∧ r.length ≤ 1000 ∧ v = .bl (swSh r ps ls)
def sp__law_uneven (K : PySem.W.Frag) (C : CA) : Sp := spV fun vs H v => ∃ (r : List Bool) (z : Int), vs = [.str (T r), .int z] ∧ r.length ≤ 1000 ∧ v = .bl (unSh r z)
def sp_swaps (K : PySem.W.Frag) (C : CA) : Sp := fun vs H Q _ => ∃ r : List Bool, Ex02 K C ∧ vs = [.str (T r)] ∧ r.length ≤ 40 ∧
  (hgt r ≠ 0 → ∀ H' x d, Ex H H' → H x = none → H' x = some (uIns C d (hgt r)) → Q (.ref x) H') ∧
  (hgt r = 0 → ∀ H' x d a b ps u, Ex H H' → H x = none → H a = none → H b = none → [b, a, x].Nodup → H' x = some (sIns C d a b) → H' a = some (.lst (ps.map V.int)) → H' b = some (.lst (((dps r).map lf).map V.int)) → swAll r ps = some u → isR u = true → (ps.length : Int) = pot r → Q (.ref x) H')
end BM
namespace BM
open PySem L2 Evl
def N_u_init : List Str := ["self", "depth"]
def rd_u_init (K : PySem.W.Frag) (C_ : CA) : TS :=
    (sFld K (tVar 0) (tVar 1) "depth")
def N_u_shows : List Str := ["self", "row"]
def rd_u_shows (K : PySem.W.Frag) (C_ : CA) : TS :=
    (tRet (tAndV (tOp rNe (tFld K (tVar 0) "depth") (tC (.int 0))) (tOp rEq (tOp (rIxL K) (tCall (sp_depths_of K C_) [] E0 (tCons (tVar 1) tNil)) (tUn aNeg (tC (.int 1)))) (tFld K (tVar 0) "depth"))))
def N_s_init : List Str := ["self", "places", "lifts"]
def rd_s_init (K : PySem.W.Frag) (C_ : CA) : TS :=
    (tSeq (sFld K (tVar 0) (tCB (aListOf K) (tCons (tVar 1) tNil)) "places")
    (sFld K (tVar 0) (tCB (aListOf K) (tCons (tVar 2) tNil)) "lifts"))
def N_s_shows : List Str := ["self", "row", "now", "place", "depth", "lift"]
def rd_s_shows (K : PySem.W.Frag) (C_ : CA) : TS :=
    (tSeq (tAsg (tVar 1) (gName 2))
    (tSeq (tFor (iList K (tFld K (tVar 0) "places")) (gName 3) (tSeq (tIfS (tOr (tNot (tTest (tChain aLe aLt (tC (.int 0)) (tVar 3) (tOp aSub (tCB aLenT (tCons (tVar 1) tNil)) (tC (.int 1)))))) (tTest (tOp rEq (tOp aIxT (tVar 2) (tVar 3)) (tOp aIxT (tVar 2) (tOp aAdd (tVar 3) (tC (.int 1))))))) (tRet (tC (.bl false))) tNext)
    (tAsg (tCall (sp_swapped K C_) [] E0 (tCons (tVar 2) (tCons (tVar 3) tNil))) (gName 2))))
    (tSeq (tIfS (tOr (tNot (tB (tCall (sp_is_right_row K C_) [] E0 (tCons (tVar 2) tNil)))) (tOr (tTest (tOp rNe (tCB (aLenL K) (tCons (tFld K (tVar 0) "lifts") tNil)) (tOp aAdd (tCB aLenT (tCons (tVar 1) tNil)) (tC (.int 1))))) (tTest (tOp rNe (tCB (rSum K) (tCons (tFld K (tVar 0) "lifts") tNil)) (tCB (aLenL K) (tCons (tFld K (tVar 0) "places") tNil)))))) (tRet (tC (.bl false))) tNext)
    (tSeq (tFor (iZip K (tCons (tCall (sp_depths_of K C_) [] E0 (tCons (tVar 1) tNil)) (tCons (tFld K (tVar 0) "lifts") tNil))) (gTup K 2 (gCons (gName 4) (gCons (gName 5) gNil))) (tIfS (tOr (tTest (tOp aLt (tVar 5) (tC (.int 0)))) (tAnd (tTest (tOp aGt (tVar 5) (tC (.int 0)))) (tTest (tOp aGe (tOp aAdd (tVar 4) (tOp aMul (tC (.int 2)) (tOp aSub (tVar 5) (tC (.int 1))))) (tC (.int 0)))))) (tRet (tC (.bl false))) tNext))
    (tRet (tC (.bl true)))))))
def N__law_swapped : List Str := ["_law_row_here", "_law_places", "_law_lifts", "_law_now", "_law_place", "_law_depth", "_law_lift"]
def rd__law_swapped (K : PySem.W.Frag) (C_ : CA) : TS :=
    (tSeq (tAsg (tVar 0) (gName 3))
    (tSeq (tFor (iList K (tVar 1)) (gName 4) (tSeq (tAsg (tCall (sp__law_swap K C_) [] E0 (tCons (tVar 3) (tCons (tVar 4) tNil))) (gName 3))
    (tIfS (tTest (tOp aIsN (tVar 3) (tC .non))) (tRet (tC (.bl false))) tNext)))
    (tSeq (tIfS (tOr (tNot (tB (tCall (sp__law_good K C_) [] E0 (tCons (tVar 3) tNil)))) (tOr (tTest (tOp rNe (tCB (aLenL K) (tCons (tVar 2) tNil)) (tOp aAdd (tCB aLenT (tCons (tVar 0) tNil)) (tC (.int 1))))) (tTest (tOp rNe (tCB (rSum K) (tCons (tVar 2) tNil)) (tCB (aLenL K) (tCons (tVar 1) tNil)))))) (tRet (tC (.bl false))) tNext)
    (tSeq (tFor (iZip K (tCons (tCall (sp__law_depths K C_) [] E0 (tCons (tVar 0) tNil)) (tCons (tVar 2) tNil))) (gTup K 2 (gCons (gName 5) (gCons (gName 6) gNil))) (tIfS (tOr (tTest (tOp aLt (tVar 6) (tC (.int 0)))) (tAnd (tTest (tOp aGt (tVar 6) (tC (.int 0)))) (tTest (tOp aGe (tOp aSub (tOp aAdd (tVar 5) (tOp aMul (tC (.int 2)) (tVar 6))) (tC (.int 2))) (tC (.int 0)))))) (tRet (tC (.bl false))) tNext))
    (tRet (tC (.bl true)))))))
def N__law_uneven : List Str := ["_law_row_here", "_law_depth"]
def rd__law_uneven (K : PySem.W.Frag) (C_ : CA) : TS :=
    (tRet (tAndV (tOp rNe (tVar 1) (tC (.int 0))) (tOp rEq (tOp aSub (tBM K "str" aCountT (tVar 0) (tCons (tC (.str (T [true]))) tNil)) (tBM K "str" aCountT (tVar 0) (tCons (tC (.str (T [false]))) tNil))) (tVar 1))))
def N_swaps : List Str := ["row", "found", "lifts", "places", "now", "here", "least", "place", "depth"]
def rd_swaps (K : PySem.W.Frag) (C_ : CA) : TS :=
    (tSeq (tDrop (tCall (sp_asked_row K C_) [] E0 (tCons (tVar 0) tNil)))
    (tSeq (tAsg (tCall (sp_depths_of K C_) [] E0 (tCons (tVar 0) tNil)) (gName 1))
    (tSeq (tIfS (tTest (tOp rNe (tOp (rIxL K) (tVar 1) (tUn aNeg (tC (.int 1)))) (tC (.int 0)))) (tRet (tMake C_.c_Uneven (sp_u_init K C_) [] E0 (tCons (tOp (rIxL K) (tVar 1) (tUn aNeg (tC (.int 1)))) tNil))) tNext)
    (tSeq (tPar3 2 3 4 (tCons (tLc (iList K (tVar 1)) (gName 8) tYes (tOp aDiv (tCB aMax2 (tCons (tC (.int 0)) (tCons (tOp aSub (tC (.int 1)) (tVar 8)) tNil))) (tC (.int 2))) [8]) (tCons (tLst tNil) (tCons (tVar 0) tNil))))
    (tSeq (tWhile (tNot (tB (tCall (sp_is_right_row K C_) [] E0 (tCons (tVar 4) tNil)))) (tSeq (tAsg (tCall (sp_depths_of K C_) [] E0 (tCons (tVar 4) tNil)) (gName 5))
    (tSeq (tAsg (tCB (rMin K) (tCons (tVar 5) tNil)) (gName 6))
    (tSeq (tAsg (tOp aSub (tBM K "list" (aIndex K) (tVar 5) (tCons (tVar 6) tNil)) (tC (.int 1))) (gName 7))
    (tSeq (tDrop (tBM K "list" rAppend (tVar 3) (tCons (tVar 7) tNil)))
    (tAsg (tCall (sp_swapped K C_) [] E0 (tCons (tVar 4) (tCons (tVar 7) tNil))) (gName 4)))))))
    (tRet (tMake C_.c_Swapped (sp_s_init K C_) [] E0 (tCons (tVar 3) (tCons (tVar 2) tNil)))))))))
end BM
namespace BM
open PySem L2 Evl
local macro_rules | `(tactic| walk_at "mem") => `(tactic| first | exact List.mem_cons_self | (refine List.mem_cons_of_mem _ ?_; walk_at "mem"))
local macro_rules | `(tactic| walk_at "swap") => `(tactic| first | exact Swap.here | (apply Swap.there; walk_at "swap"))
local macro_rules | `(tactic| walk_at "subl") => `(tactic| first | exact List.Sublist.refl _ | exact List.nil_sublist _ | (refine List.Sublist.cons_cons _ ?_; walk_at "subl") | (refine List.Sublist.cons _ ?_; walk_at "subl"))
local macro_rules | `(tactic| walk_at "sub") => `(tactic| first | exact Sub.refl _ | (refine ⟨?_, ?_⟩ <;> walk_at "subl"))
local macro_rules | `(tactic| walk_at "isl") => `(tactic| first | exact isL_own (by walk_at "mem") | exact isL_old (by assumption) | assumption)
local macro_rules | `(tactic| walk_at "ist") => `(tactic| first | exact isT_own (by walk_at "mem") | exact isT_old (by assumption) | assumption)
local macro_rules | `(tactic| walk_at "len") => `(tactic| first | omega | decide | (simp only [List.length_map, List.length_take, List.length_drop, List.length_append, List.length_cons, List.length_nil, List.length_reverse, dps_len, flp_len]; omega) | (simp [dps_len, flp_len]; omega) | simp)
local macro_rules | `(tactic| walk_at "b0") => `(tactic| first
  | with_reducible refine' ws_set ?_
  | with_reducible refine' ws_par ?_
  | with_reducible refine' ws_asg ?_
  | with_reducible refine' ws_drop ?_
  | with_reducible refine' ws_ret ?_
  | with_reducible refine' ws_if ?_
  | with_reducible refine' ws_next ?_
  | with_reducible refine' ws_brk ?_
  | with_reducible refine' ws_cont ?_
  | ((with_reducible refine' we_var ?hv ?_); case hv => rfl)
  | with_reducible refine' we_c ?_
  | with_reducible refine' we_op ?_
  | with_reducible refine' we_un ?_
  | with_reducible refine' we_if ?_
  | with_reducible refine' we_and ?_
  | with_reducible refine' we_or ?_
  | with_reducible refine' we_not ?_
  | with_reducible refine' wa_nil ?_
  | with_reducible refine' wa_cons ?_
  | (with_reducible refine' we_lst ?_)
  | (with_reducible refine' we_tup ?_)
  | with_reducible refine' we_cb ?_
  | with_reducible refine' we_call0 ?_
  | with_reducible refine' we_sl ?_
  | with_reducible refine' wo_none ?_
  | (with_reducible refine' wo_some ?_)
  | with_reducible refine' wt_test ?_
  | with_reducible refine' wt_B ?_
  | with_reducible refine' wt_and ?_
  | with_reducible refine' wt_or ?_
  | with_reducible refine' wt_not ?_
  | with_reducible refine' wt_yes ?_
  | with_reducible refine' we_chain ?_
  | with_reducible refine' we_chain3 ?_
  | with_reducible refine' we_revT ?_
  | with_reducible refine' we_revL ?_
  | with_reducible refine' we_bm ?_
  | with_reducible refine' we_bm0 ?_
  | with_reducible refine' ws_for ?_
  | with_reducible refine' we_lc ?_
  | with_reducible refine' wi_list ?_
  | with_reducible refine' wi_tup ?_
  | with_reducible refine' wi_T ?_
  | with_reducible refine' wi_rng1 ?_
  | with_reducible refine' wi_rng2 ?_
  | with_reducible refine' wi_rng3 ?_
  | with_reducible refine' wi_enum ?_
  | with_reducible refine' wi_enumT ?_
  | with_reducible refine' wi_zip ?_
  | with_reducible refine' wg_name ?_
  | with_reducible refine' wg_sub ?_
  | with_reducible refine' wgs_nil ?_
  | with_reducible refine' wgs_cons ?_
  | ((with_reducible refine' wg_tup ?ht ?hn ?_); (case ht => walk_at "ist"); (case hn => rfl))
  | with_reducible refine' w2_add ?_
  | with_reducible refine' w2_sub ?_
  | with_reducible refine' w2_lt ?_
  | with_reducible refine' w2_le ?_
  | with_reducible refine' w2_gt ?_
  | with_reducible refine' w2_ge ?_
  | with_reducible refine' w2_eqI ?_
  | with_reducible refine' w2_neI ?_
  | with_reducible refine' w2_eqT ?_
  | with_reducible refine' w2_neT ?_
  | with_reducible refine' w2_eqB ?_
  | with_reducible refine' w2_neB ?_
  | with_reducible refine' w2_isN ?_
  | with_reducible refine' w2_notN ?_
  | with_reducible refine' w2_isB ?_
  | with_reducible refine' w2_inT ?_
  | with_reducible refine' w1_neg ?_
  | with_reducible refine' wl_abs ?_
  | with_reducible refine' wl_max2 ?_
  | with_reducible refine' wl_min2 ?_
  | with_reducible refine' wl_intB ?_
  | ((with_reducible refine' w2_div ?h ?_); case h => first | omega | (constructor <;> omega))
  | ((with_reducible refine' w2_mod ?h ?_); case h => omega)
  | ((with_reducible refine' w2_catT ?h ?_); case h => walk_at "len")
  | ((with_reducible refine' wsl_T ?h ?_); case h => walk_at "len")
  | ((with_reducible refine' wl_lenT ?h ?_); case h => walk_at "len")
  | ((with_reducible refine' wl_len ?h ?_); case h => walk_at "isl")
  | ((with_reducible refine' wl_len ?h ?_); case h => walk_at "isl")
  | ((with_reducible refine' wm_append ?sw ?hl ?_); (case sw => walk_at "swap"); (case hl => walk_at "len")))
local macro_rules | `(tactic| walk_at "b1") => `(tactic| first | with_reducible refine' ws_seq ?_ | walk_at "b0")
local macro_rules | `(tactic| walk_at "bx") => `(tactic| first
  | refine ⟨_, rfl, ?_⟩
  | refine ⟨_, _, rfl, ?_⟩
  | refine ⟨ty_L (by walk_at "isl"), ?_⟩
  | refine ⟨ty_S, ?_⟩
  | refine spl_t (by rfl) ?_
  | refine spl_f (by rfl) ?_
  | exact rfl)
local macro_rules | `(tactic| walk_at "bm") => `(tactic| repeat (first | walk_at "b1" | walk_at "bx"))
local macro_rules | `(tactic| walk_at "bn") => `(tactic| repeat (first | walk_at "b0" | walk_at "bx"))
local macro_rules | `(tactic| walk_at "b0") => `(tactic| with_reducible refine' c_deepens ?_)
local macro_rules | `(tactic| walk_at "b0") => `(tactic| ((with_reducible refine' c_depths_of ?hl ?_); (case hl => walk_at "len")))
local macro_rules | `(tactic| walk_at "b0") => `(tactic| with_reducible refine' c_is_wholeI ?_)
local macro_rules | `(tactic| walk_at "b0") => `(tactic| with_reducible refine' c_flipped ?_)
local macro_rules | `(tactic| walk_at "b0") => `(tactic| ((with_reducible refine' c_is_right_row ?hl ?_); (case hl => walk_at "len")))
local macro_rules | `(tactic| walk_at "b0") => `(tactic| ((with_reducible refine' c_asked_row ?hl ?_); (case hl => walk_at "len")))
local macro_rules | `(tactic| walk_at "b0") => `(tactic| ((with_reducible refine' c_depths ?hl ?_); (case hl => walk_at "len")))
local macro_rules | `(tactic| walk_at "b0") => `(tactic| ((with_reducible refine' c_is_right ?hl ?_); (case hl => walk_at "len")))
local macro_rules | `(tactic| walk_at "b0") => `(tactic| ((with_reducible refine' c__law_depths ?hl ?_); (case hl => walk_at "len")))
local macro_rules | `(tactic| walk_at "b0") => `(tactic| ((with_reducible refine' c__law_good ?hl ?_); (case hl => walk_at "len")))
local macro_rules | `(tactic| walk_at "b0") => `(tactic| ((with_reducible refine' wl_listOf ?hx ?_); (case hx => walk_at "isl")))
local macro_rules | `(tactic| walk_at "b0") => `(tactic| with_reducible refine' w2_notB ?_)
local macro_rules | `(tactic| walk_at "own") => `(tactic| exact own_l (by walk_at "mem"))
local macro_rules | `(tactic| walk_at "b0") => `(tactic| with_reducible refine' we_fld ?_)
local macro_rules | `(tactic| walk_at "b0") => `(tactic| refine ⟨_, _, _, _, _, rfl, own_l (by walk_at "mem"), Grw.cl (by assumption), Grw.nr (by assumption), by rfl, ?_⟩)
local macro_rules | `(tactic| walk_at "b0") => `(tactic| refine ⟨_, _, _, _, _, rfl, fun H' o => o.ex _ _ (by assumption), Grw.cl (by assumption), Grw.nr (by assumption), by rfl, ?_⟩)
local macro_rules | `(tactic| walk_at "b0") => `(tactic| with_reducible refine' we_meth ?_)
local macro_rules | `(tactic| walk_at "b0") => `(tactic| refine ⟨_, _, _, rfl, own_l (by walk_at "mem"), by rfl, ?_⟩)
local macro_rules | `(tactic| walk_at "b0") => `(tactic| refine ⟨_, _, _, rfl, fun H' o => o.ex _ _ (by assumption), by rfl, ?_⟩)
local macro_rules | `(tactic| walk_at "gown") => `(tactic| first | exact own_l (by walk_at "mem") | exact fun H' o => o.ex _ _ (by assumption))
local macro_rules | `(tactic| walk_at "b0") => `(tactic| with_reducible refine' wm_countT ?_)
theorem own_add {H0 H : Hp} {s : Ld} {p : Addr} {u : HO} (w : Own H0 H s) (h0 : H0 p = none) (hk : p ∉ s.L.map (·.1)) (h : H p = some u) : Own H0 H ⟨(p, u) :: s.L, s.T⟩ :=
  ⟨w.ex, List.nodup_cons.mpr ⟨hk, w.nd⟩, fun e he => by
    rcases List.mem_cons.mp he with rfl | h1
    · exact ⟨h0, h⟩
    · exact w.own e h1, w.tp⟩
theorem own_key {H0 H : Hp} {s : Ld} {p : Addr} (w : Own H0 H s) (hp : H p = none) : p ∉ s.L.map (·.1) := fun h => by
  obtain ⟨e, he, ee⟩ := List.mem_map.mp h
  have := (w.own e he).2
  rw [ee, hp] at this
  cases this
theorem sq_del {K : PySem.W.Frag} {H : Hp} {x a : Addr} {xs : List V} (h : a ≠ x) (hs : SqL K H a xs) : SqL K (del x H) a xs := by
  unfold SqL Rd at hs ⊢
  rw [del_ne h]
  exact hs
theorem ln_u_init {K : PySem.W.Frag} {C : CA} {vs : List V} {H : Hp} {Q : VK} {E : XK} (h : sp_u_init K C vs H Q E) : vs.length = 2 := by
  obtain ⟨x, d, z, _, rfl, _⟩ := h
  rfl
theorem pu_u_init {K : PySem.W.Frag} {C : CA} {vs : List V} {H : Hp} {Q : VK} {E : XK} (h : sp_u_init K C vs H Q E) : rd_u_init K C { nx := fun _ H' => Q .non H', rt := Q } (start N_u_init vs) H := by
  obtain ⟨x, d, z, hU, rfl, hx, k⟩ := h
  refine body_G hx ?_ k
  unfold rd_u_init
  refine ws_fld ?_
  walk_at "bm"
  exact ⟨x, _, d, [], _, rfl, Swap.here, hU.c.cl, hU.n, by decide, rfl, List.mem_cons_self⟩
theorem ln_u_shows {K : PySem.W.Frag} {C : CA} {vs : List V} {H : Hp} {Q : VK} {E : XK} (h : sp_u_shows K C vs H Q E) : vs.length = 2 := by
  obtain ⟨_, ⟨x, d, z, r, _, rfl, _⟩, _⟩ := h
  rfl
theorem pu_u_shows {K : PySem.W.Frag} {C : CA} {vs : List V} {H : Hp} {Q : VK} {E : XK} (h : sp_u_shows K C vs H Q E) : rd_u_shows K C { nx := fun _ H' => Q .non H', rt := Q } (start N_u_shows vs) H := by
  obtain ⟨_, ⟨g, d, z, r, hU, rfl, hg, hl, rfl⟩, k⟩ := h
  refine body_V ?_ k
  unfold rd_u_shows
  walk_at "bm"
  refine ⟨_, _, _, _, _, rfl, fun H' o => o.ex _ _ hg, hU.c.cl, hU.n, rfl, ?_⟩
  walk_at "bm"
  refine ⟨fun h => ?_, fun h => ?_⟩
  · walk_at "bm"
    intro f hf
    walk_at "bm"
    refine w2_ixL (by walk_at "isl") (dps_m1 _) ?_
    walk_at "bm"
    refine ⟨_, _, _, _, _, rfl, fun H' o => o.ex _ _ hg, hU.c.cl, hU.n, rfl, ?_⟩
    walk_at "bm"
    show V.bl _ = V.bl _
    unfold unSh
    have h' : z ≠ 0 := by simpa using h
    simp [h']
  · have h' : z = 0 := by simpa using h
    show V.bl _ = V.bl _
    unfold unSh
    simp [h']
theorem c_u_shows {K : PySem.W.Frag} {C : CA} {H0 : Hp} {s : Ld} {Q : V → Ld → Prop} {E : XK} {g d : Addr} {z : Int} {r : List Bool} (hU : UnC K C) (hg : ∀ H, Own H0 H s → H g = some (uIns C d z)) (hl : r.length ≤ 1000) (q : Q (.bl (unSh r z)) s) : WC H0 (sp_u_shows K C) E [.ref g, .str (T r)] s Q := wc_V (fun H o => ⟨g, d, z, r, hU, rfl, hg H o, hl, rfl⟩) q
theorem ln__law_uneven {K : PySem.W.Frag} {C : CA} {vs : List V} {H : Hp} {Q : VK} {E : XK} (h : sp__law_uneven K C vs H Q E) : vs.length = 2 := by
  obtain ⟨_, ⟨r, z, rfl, _⟩, _⟩ := h
  rfl
theorem pu__law_uneven {K : PySem.W.Frag} {C : CA} {vs : List V} {H : Hp} {Q : VK} {E : XK} (h : sp__law_uneven K C vs H Q E) : rd__law_uneven K C { nx := fun _ H' => Q .non H', rt := Q } (start N__law_uneven vs) H := by
  obtain ⟨_, ⟨r, z, rfl, hl, rfl⟩, k⟩ := h
  refine body_V ?_ k
  unfold rd__law_uneven
  walk_at "bm"
  refine ⟨fun h => ?_, fun h => ?_⟩
  · walk_at "bm"
    show V.bl _ = V.bl _
    unfold unSh
    have h' : z ≠ 0 := by simpa using h
    rw [hgt_count]
    simp [h']
  · have h' : z = 0 := by simpa using h
    show V.bl _ = V.bl _
    unfold unSh
    simp [h']
theorem c__law_uneven {K : PySem.W.Frag} {C : CA} {H0 : Hp} {s : Ld} {Q : V → Ld → Prop} {E : XK} {z : Int} {r : List Bool} (hl : r.length ≤ 1000) (q : Q (.bl (unSh r z)) s) : WC H0 (sp__law_uneven K C) E [.str (T r), .int z] s Q := wc_V (fun H o => ⟨r, z, rfl, hl, rfl⟩) q
theorem ln_s_init {K : PySem.W.Frag} {C : CA} {vs : List V} {H : Hp} {Q : VK} {E : XK} (h : sp_s_init K C vs H Q E) : vs.length = 3 := by
  obtain ⟨x, d, a, b, ps, ls, _, rfl, _⟩ := h
  rfl
theorem pu_s_init {K : PySem.W.Frag} {C : CA} {vs : List V} {H : Hp} {Q : VK} {E : XK} (h : sp_s_init K C vs H Q E) : rd_s_init K C { nx := fun _ H' => Q .non H', rt := Q } (start N_s_init vs) H := by
  obtain ⟨x, d, a, b, ps, ls, hS, rfl, hx, ha, hb, hax, hbx, k⟩ := h
  have ha' : SqL K (del x H) a (ps.map V.int) := sq_del hax ha
  have hb' : SqL K (del x H) b (ls.map V.int) := sq_del hbx hb
  have h1 : WS (del x H) (rd_s_init K C) (start N_s_init [.ref x, .ref a, .ref b]) ⟨[(x, .ins C.c_Swapped d [])], []⟩ { nx := fun _ s => ∃ a2 b2, Sub ⟨[(b2, .lst (ls.map V.int)), (a2, .lst (ps.map V.int)), (x, sIns C d a2 b2)], []⟩ s, rt := fun _ _ => False } := by
    unfold rd_s_init
    refine ws_seq (ws_fld ?_)
    walk_at "bm"
    intro a2 ha2
    walk_at "bm"
    refine ⟨x, _, d, [], _, rfl, Swap.there Swap.here, hS.c.cl, hS.np, by decide, ?_⟩
    refine ws_fld ?_
    walk_at "bm"
    intro b2 hb2
    walk_at "bm"
    refine ⟨x, _, d, _, _, rfl, Swap.there (Swap.there Swap.here), hS.c.cl, hS.nl, by show 1 < 1000; decide, ?_⟩
    exact ⟨a2, b2, Sub.refl _⟩
  refine h1 H (own_del hx) _ ⟨fun σ H' s w ⟨a2, b2, hs⟩ => ?_, (fun _ _ _ _ q => q.elim), (fun _ _ _ _ q => q.elim), (fun _ _ _ _ q => q.elim)⟩
  have w2 := w.sub hs
  have nd : [b2, a2, x].Nodup := w2.nd
  have ma := w2.own (a2, .lst (ps.map V.int)) (List.mem_cons_of_mem _ List.mem_cons_self)
  have mb := w2.own (b2, .lst (ls.map V.int)) List.mem_cons_self
  exact k H' a2 b2 w.ex ma.1 mb.1 nd (w2.own (x, sIns C d a2 b2) (List.mem_cons_of_mem _ (List.mem_cons_of_mem _ List.mem_cons_self))).2 ma.2 mb.2
theorem swSh_none {r : List Bool} {ps ls : List Int} (h : swAll r ps = none) : swSh r ps ls = false := by
  unfold swSh
  rw [h]
theorem swSh_some {r u : List Bool} {ps ls : List Int} (h : swAll r ps = some u) : swSh r ps ls = (isR u && (decide (ls.length = r.length + 1) && (decide (ls.sum = (ps.length : Int)) && ((dps r).zip ls).all zipOk))) := by
  unfold swSh
  rw [h]
theorem all_take {α : Type} {f : α → Bool} {xs : List α} {i : Nat} {x : α} (hx : xs[i]? = some x) (h : (xs.take i).all f = true) : (xs.take (i + 1)).all f = f x := by
  rw [take_snoc hx, List.all_append, h]
  simp
theorem all_bad {α : Type} {f : α → Bool} {xs : List α} {i : Nat} {x : α} (hx : xs[i]? = some x) (h : f x = false) : xs.all f = false := by
  rw [Bool.eq_false_iff]
  intro hh
  rw [List.all_eq_true.mp hh x (List.mem_of_getElem? hx)] at h
  cases h
theorem ln_s_shows {K : PySem.W.Frag} {C : CA} {vs : List V} {H : Hp} {Q : VK} {E : XK} (h : sp_s_shows K C vs H Q E) : vs.length = 2 := by
  obtain ⟨_, ⟨x, d, a, b, ps, ls, r, _, rfl, _⟩, _⟩ := h
  rfl
theorem pu_s_shows {K : PySem.W.Frag} {C : CA} {vs : List V} {H : Hp} {Q : VK} {E : XK} (h : sp_s_shows K C vs H Q E) : rd_s_shows K C { nx := fun _ H' => Q .non H', rt := Q } (start N_s_shows vs) H := by
  obtain ⟨_, ⟨g, d, a, b, ps, ls, r, hS, rfl, hg, ha, hb, hl, rfl⟩, k⟩ := h
  refine body_V ?_ k
  unfold rd_s_shows
  have fldP : ∀ {σ : L2.St} {s : Ld} {Q : V → Ld → Prop}, σ[0]? = some (some (.ref g)) → Q (.ref a) s → WE H (tFld K (tVar 0) "places") σ s Q := fun h q => we_fld (we_var h ⟨_, _, _, _, _, rfl, fun H' o => o.ex _ _ hg, hS.c.cl, hS.np, rfl, q⟩)
  have fldL : ∀ {σ : L2.St} {s : Ld} {Q : V → Ld → Prop}, σ[0]? = some (some (.ref g)) → Q (.ref b) s → WE H (tFld K (tVar 0) "lifts") σ s Q := fun h q => we_fld (we_var h ⟨_, _, _, _, _, rfl, fun H' o => o.ex _ _ hg, hS.c.cl, hS.nl, rfl, q⟩)
  refine ws_seq ?_
  walk_at "bn"
  refine ws_cut (fun σ s => ∃ u pl, σ = [some (.ref g), some (.str (T r)), some (.str (T u)), pl, none, none] ∧ s = ⟨[], []⟩ ∧ swAll r ps = some u) ?_ ?_
  · refine ws_for (wi_list (fldP rfl ⟨a, rfl, ⟨_, isL_old ha⟩, ?_⟩))
    refine lp_list (xs := ps.map V.int) (n := ps.length) (fun i σ s => ∃ u pl, σ = [some (.ref g), some (.str (T r)), some (.str (T u)), pl, none, none] ∧ s = ⟨[], []⟩ ∧ swAll r (ps.take i) = some u) (by simp) ⟨r, none, rfl, rfl, rfl⟩ (fun i σ s hi _ => isL_old ha) ?_ (fun σ s ⟨u, pl, e1, e2, e3⟩ => ⟨_, Sub.refl _, u, pl, e1, e2, by rw [List.take_length] at e3; exact e3⟩)
    rintro i y σ s hi hy ⟨u, pl, rfl, rfl, hu⟩
    obtain ⟨p, hpi, rfl⟩ := getI hy
    have hlu : u.length = r.length := swAll_len hu
    have out : swOk u p = false → V.bl false = V.bl (swSh r ps ls) := fun h => by
      rw [swSh_none (swAll_none (i := i + 1) (by rw [swAll_snoc hu hpi, h]; rfl))]
    refine wg_name ?_
    walk_at "bm"
    refine ⟨fun h0 => ?_, fun h0 => ?_⟩
    · have h0' := of_decide_eq_true h0
      walk_at "bm"
      refine ⟨fun h1 => ?_, fun h1 => ?_⟩
      · have h1' : ¬ p < (r.length : Int) - 1 := by simpa using h1
        walk_at "bm"
        exact out (by unfold swOk; rw [hlu, decide_eq_false h1']; simp)
      · have h1' : p < (r.length : Int) - 1 := by simpa using h1
        obtain ⟨c, hc⟩ := get_some (r := u) (i := p.toNat) (by omega)
        obtain ⟨e, he⟩ := get_some (r := u) (i := p.toNat + 1) (by omega)
        have hok : swOk u p = !decide ([c] = [e]) := by
          unfold swOk
          rw [hlu, hc, he, h0, decide_eq_true h1']
          simp
        walk_at "bm"
        refine w2_ixT (b := c) (by omega) (atI_of h0' hc) ?_
        walk_at "bm"
        refine w2_ixT (b := e) (by omega) (atI_of (by omega) (by rw [show (p + 1).toNat = p.toNat + 1 by omega]; exact he)) ?_
        walk_at "bm"
        refine ⟨fun h2 => ?_, fun h2 => ?_⟩
        · walk_at "bm"
          exact out (by rw [hok, h2]; rfl)
        · walk_at "bm"
          refine c_swapped (by omega) ⟨h0', by omega⟩ ?_
          exact ⟨_, Sub.refl _, _, _, rfl, rfl, by rw [swAll_snoc hu hpi, if_pos (by rw [hok, h2]; rfl)]⟩
    · have h0' : ¬ 0 ≤ p := of_decide_eq_false h0
      walk_at "bm"
      exact out (by unfold swOk; rw [h0]; rfl)
  rintro σ s ⟨u, pl, rfl, rfl, hu⟩
  have hlu : u.length = r.length := swAll_len hu
  have res := swSh_some (ls := ls) hu
  rw [res]
  refine ws_cut (fun σ s => σ = [some (.ref g), some (.str (T r)), some (.str (T u)), pl, none, none] ∧ s = ⟨[], []⟩ ∧ isR u = true ∧ ls.length = r.length + 1 ∧ ls.sum = (ps.length : Int)) ?_ ?_
  · walk_at "bm"
    refine ⟨fun h => ?_, fun h => ?_⟩
    · walk_at "bm"
      have h' : isR u = false := by simpa using h
      show V.bl _ = V.bl _
      rw [h']
      rfl
    · have h' : isR u = true := by simpa using h
      walk_at "bm"
      refine ⟨_, _, _, _, _, rfl, fun H' o => o.ex _ _ hg, hS.c.cl, hS.nl, rfl, ?_⟩
      walk_at "bm"
      refine ⟨fun h1 => ?_, fun h1 => ?_⟩
      · walk_at "bm"
        have h1' : ¬ ls.length = r.length + 1 := fun e => by rw [List.length_map, e] at h1; simp at h1
        show V.bl _ = V.bl _
        rw [h', decide_eq_false h1']
        rfl
      · have h1' : ls.length = r.length + 1 := by
          rw [List.length_map] at h1
          simp at h1
          omega
        walk_at "bm"
        refine ⟨_, _, _, _, _, rfl, fun H' o => o.ex _ _ hg, hS.c.cl, hS.nl, rfl, ?_⟩
        walk_at "bm"
        refine wl_sum (isL_old hb) ?_
        walk_at "bm"
        refine ⟨_, _, _, _, _, rfl, fun H' o => o.ex _ _ hg, hS.c.cl, hS.np, rfl, ?_⟩
        walk_at "bm"
        refine ⟨fun h2 => ?_, fun h2 => ?_⟩
        · walk_at "bm"
          have h2' : ¬ ls.sum = (ps.length : Int) := fun e => by rw [List.length_map, e] at h2; simp at h2
          show V.bl _ = V.bl _
          rw [h', decide_eq_true h1', decide_eq_false h2']
          rfl
        · walk_at "bm"
          exact ⟨_, Sub.refl _, rfl, rfl, h', h1', by rw [List.length_map] at h2; simpa using h2⟩
  rintro σ s ⟨rfl, rfl, h1, h2, h3⟩
  rw [h1, decide_eq_true h2, decide_eq_true h3]
  simp only [Bool.true_and]
  refine ws_seq ?_
  refine ws_for (wi_zip ?_)
  walk_at "bm"
  intro f hf
  walk_at "bm"
  refine ⟨_, _, _, _, _, rfl, fun H' o => o.ex _ _ hg, hS.c.cl, hS.nl, rfl, ?_⟩
  walk_at "bm"
  refine ⟨f, b, (dps r).map V.int, ls.map V.int, rfl, by walk_at "isl", isL_old hb, ?_⟩
  refine lp_zip (xs := (dps r).map V.int) (ys := ls.map V.int) (n := r.length + 1) (fun i σ s => ∃ x4 x5 ts, σ = [some (.ref g), some (.str (T r)), some (.str (T u)), pl, x4, x5] ∧ s = ⟨[(f, .lst ((dps r).map V.int))], ts⟩ ∧ (((dps r).zip ls).take i).all zipOk = true) (by rw [List.length_map, List.length_map, dps_len, h2, Nat.min_self]) ⟨none, none, [], rfl, rfl, rfl⟩ (fun i σ s hi ⟨x4, x5, ts, _, e, _⟩ => ⟨by rw [e]; walk_at "isl", isL_old hb⟩) ?_ ?_
  · rintro i x y σ s p hi hx hy ⟨x4, x5, ts, rfl, rfl, hok⟩
    obtain ⟨d0, hd, rfl⟩ := getI hx
    obtain ⟨l0, hl0, rfl⟩ := getI hy
    have hz : ((dps r).zip ls)[i]? = some (d0, l0) := by
      rw [List.getElem?_zip_eq_some]
      exact ⟨hd, hl0⟩
    have hbad : zipOk (d0, l0) = false → V.bl false = V.bl (((dps r).zip ls).all zipOk) := fun h => by rw [all_bad hz h]
    refine wg_tup (by walk_at "ist") rfl ?_
    walk_at "bm"
    refine ⟨fun h => ?_, fun h => ?_⟩
    · walk_at "bm"
      exact hbad (by unfold zipOk; rw [h]; rfl)
    · walk_at "bm"
      refine ⟨fun h4 => ?_, fun h4 => ?_⟩
      · walk_at "bm"
        refine w2_mul (cmul_l (by decide) (by decide)) ?_
        walk_at "bm"
        refine ⟨fun h5 => ?_, fun h5 => ?_⟩
        · walk_at "bm"
          exact hbad (by unfold zipOk; rw [h, h4, h5]; rfl)
        · walk_at "bm"
          exact ⟨_, Sub.refl _, _, _, _, rfl, rfl, by rw [all_take hz hok]; unfold zipOk; rw [h, h4, h5]; rfl⟩
      · walk_at "bm"
        exact ⟨_, Sub.refl _, _, _, _, rfl, rfl, by rw [all_take hz hok]; unfold zipOk; rw [h, h4]; rfl⟩
  · rintro σ s ⟨x4, x5, ts, rfl, rfl, hok⟩
    rw [List.take_of_length_le (by rw [List.length_zip, dps_len, h2, Nat.min_self]; exact Nat.le_refl _)] at hok
    walk_at "bm"
    show V.bl _ = V.bl _
    rw [hok]
end BM
namespace BM
open PySem L2 Evl
local macro_rules | `(tactic| walk_at "mem") => `(tactic| first | exact List.mem_cons_self | (refine List.mem_cons_of_mem _ ?_; walk_at "mem"))
local macro_rules | `(tactic| walk_at "swap") => `(tactic| first | exact Swap.here | (apply Swap.there; walk_at "swap"))
local macro_rules | `(tactic| walk_at "subl") => `(tactic| first | exact List.Sublist.refl _ | exact List.nil_sublist _ | (refine List.Sublist.cons_cons _ ?_; walk_at "subl") | (refine List.Sublist.cons _ ?_; walk_at "subl"))
local macro_rules | `(tactic| walk_at "sub") => `(tactic| first | exact Sub.refl _ | (refine ⟨?_, ?_⟩ <;> walk_at "subl"))
local macro_rules | `(tactic| walk_at "isl") => `(tactic| first | exact isL_own (by walk_at "mem") | exact isL_old (by assumption) | assumption)
local macro_rules | `(tactic| walk_at "ist") => `(tactic| first | exact isT_own (by walk_at "mem") | exact isT_old (by assumption) | assumption)
local macro_rules | `(tactic| walk_at "len") => `(tactic| first | omega | decide | (simp only [List.length_map, List.length_take, List.length_drop, List.length_append, List.length_cons, List.length_nil, List.length_reverse, dps_len, flp_len]; omega) | (simp [dps_len, flp_len]; omega) | simp)
local macro_rules | `(tactic| walk_at "b0") => `(tactic| first
  | with_reducible refine' ws_set ?_
  | with_reducible refine' ws_par ?_
  | with_reducible refine' ws_asg ?_
  | with_reducible refine' ws_drop ?_
  | with_reducible refine' ws_ret ?_
  | with_reducible refine' ws_if ?_
  | with_reducible refine' ws_next ?_
  | with_reducible refine' ws_brk ?_
  | with_reducible refine' ws_cont ?_
  | ((with_reducible refine' we_var ?hv ?_); case hv => rfl)
  | with_reducible refine' we_c ?_
  | with_reducible refine' we_op ?_
  | with_reducible refine' we_un ?_
  | with_reducible refine' we_if ?_
  | with_reducible refine' we_and ?_
  | with_reducible refine' we_or ?_
  | with_reducible refine' we_not ?_
  | with_reducible refine' wa_nil ?_
  | with_reducible refine' wa_cons ?_
  | (with_reducible refine' we_lst ?_)
  | (with_reducible refine' we_tup ?_)
  | with_reducible refine' we_cb ?_
  | with_reducible refine' we_call0 ?_
  | with_reducible refine' we_sl ?_
  | with_reducible refine' wo_none ?_
  | (with_reducible refine' wo_some ?_)
  | with_reducible refine' wt_test ?_
  | with_reducible refine' wt_B ?_
  | with_reducible refine' wt_and ?_
  | with_reducible refine' wt_or ?_
  | with_reducible refine' wt_not ?_
  | with_reducible refine' wt_yes ?_
  | with_reducible refine' we_chain ?_
  | with_reducible refine' we_chain3 ?_
  | with_reducible refine' we_revT ?_
  | with_reducible refine' we_revL ?_
  | with_reducible refine' we_bm ?_
  | with_reducible refine' we_bm0 ?_
  | with_reducible refine' ws_for ?_
  | with_reducible refine' we_lc ?_
  | with_reducible refine' wi_list ?_
  | with_reducible refine' wi_tup ?_
  | with_reducible refine' wi_T ?_
  | with_reducible refine' wi_rng1 ?_
  | with_reducible refine' wi_rng2 ?_
  | with_reducible refine' wi_rng3 ?_
  | with_reducible refine' wi_enum ?_
  | with_reducible refine' wi_enumT ?_
  | with_reducible refine' wi_zip ?_
  | with_reducible refine' wg_name ?_
  | with_reducible refine' wg_sub ?_
  | with_reducible refine' wgs_nil ?_
  | with_reducible refine' wgs_cons ?_
  | ((with_reducible refine' wg_tup ?ht ?hn ?_); (case ht => walk_at "ist"); (case hn => rfl))
  | with_reducible refine' w2_add ?_
  | with_reducible refine' w2_sub ?_
  | with_reducible refine' w2_lt ?_
  | with_reducible refine' w2_le ?_
  | with_reducible refine' w2_gt ?_
  | with_reducible refine' w2_ge ?_
  | with_reducible refine' w2_eqI ?_
  | with_reducible refine' w2_neI ?_
  | with_reducible refine' w2_eqT ?_
  | with_reducible refine' w2_neT ?_
  | with_reducible refine' w2_eqB ?_
  | with_reducible refine' w2_neB ?_
  | with_reducible refine' w2_isN ?_
  | with_reducible refine' w2_notN ?_
  | with_reducible refine' w2_isB ?_
  | with_reducible refine' w2_inT ?_
  | with_reducible refine' w1_neg ?_
  | with_reducible refine' wl_abs ?_
  | with_reducible refine' wl_max2 ?_
  | with_reducible refine' wl_min2 ?_
  | with_reducible refine' wl_intB ?_
  | ((with_reducible refine' w2_div ?h ?_); case h => first | omega | (constructor <;> omega))
  | ((with_reducible refine' w2_mod ?h ?_); case h => omega)
  | ((with_reducible refine' w2_catT ?h ?_); case h => walk_at "len")
  | ((with_reducible refine' wsl_T ?h ?_); case h => walk_at "len")
  | ((with_reducible refine' wl_lenT ?h ?_); case h => walk_at "len")
  | ((with_reducible refine' wl_len ?h ?_); case h => walk_at "isl")
  | ((with_reducible refine' wl_len ?h ?_); case h => walk_at "isl")
  | ((with_reducible refine' wm_append ?sw ?hl ?_); (case sw => walk_at "swap"); (case hl => walk_at "len")))
local macro_rules | `(tactic| walk_at "b1") => `(tactic| first | with_reducible refine' ws_seq ?_ | walk_at "b0")
local macro_rules | `(tactic| walk_at "bx") => `(tactic| first
  | refine ⟨_, rfl, ?_⟩
  | refine ⟨_, _, rfl, ?_⟩
  | refine ⟨ty_L (by walk_at "isl"), ?_⟩
  | refine ⟨ty_S, ?_⟩
  | refine spl_t (by rfl) ?_
  | refine spl_f (by rfl) ?_
  | exact rfl)
local macro_rules | `(tactic| walk_at "bm") => `(tactic| repeat (first | walk_at "b1" | walk_at "bx"))
local macro_rules | `(tactic| walk_at "bn") => `(tactic| repeat (first | walk_at "b0" | walk_at "bx"))
local macro_rules | `(tactic| walk_at "b0") => `(tactic| with_reducible refine' c_deepens ?_)
local macro_rules | `(tactic| walk_at "b0") => `(tactic| ((with_reducible refine' c_depths_of ?hl ?_); (case hl => walk_at "len")))
local macro_rules | `(tactic| walk_at "b0") => `(tactic| with_reducible refine' c_is_wholeI ?_)
local macro_rules | `(tactic| walk_at "b0") => `(tactic| with_reducible refine' c_flipped ?_)
local macro_rules | `(tactic| walk_at "b0") => `(tactic| ((with_reducible refine' c_is_right_row ?hl ?_); (case hl => walk_at "len")))
local macro_rules | `(tactic| walk_at "b0") => `(tactic| ((with_reducible refine' c_asked_row ?hl ?_); (case hl => walk_at "len")))
local macro_rules | `(tactic| walk_at "b0") => `(tactic| ((with_reducible refine' c_depths ?hl ?_); (case hl => walk_at "len")))
local macro_rules | `(tactic| walk_at "b0") => `(tactic| ((with_reducible refine' c_is_right ?hl ?_); (case hl => walk_at "len")))
local macro_rules | `(tactic| walk_at "b0") => `(tactic| ((with_reducible refine' c__law_depths ?hl ?_); (case hl => walk_at "len")))
local macro_rules | `(tactic| walk_at "b0") => `(tactic| ((with_reducible refine' c__law_good ?hl ?_); (case hl => walk_at "len")))
local macro_rules | `(tactic| walk_at "b0") => `(tactic| ((with_reducible refine' wl_listOf ?hx ?_); (case hx => walk_at "isl")))
local macro_rules | `(tactic| walk_at "b0") => `(tactic| with_reducible refine' w2_notB ?_)
local macro_rules | `(tactic| walk_at "own") => `(tactic| exact own_l (by walk_at "mem"))
local macro_rules | `(tactic| walk_at "b0") => `(tactic| with_reducible refine' we_fld ?_)
local macro_rules | `(tactic| walk_at "b0") => `(tactic| refine ⟨_, _, _, _, _, rfl, own_l (by walk_at "mem"), Grw.cl (by assumption), Grw.nr (by assumption), by rfl, ?_⟩)
local macro_rules | `(tactic| walk_at "b0") => `(tactic| refine ⟨_, _, _, _, _, rfl, fun H' o => o.ex _ _ (by assumption), Grw.cl (by assumption), Grw.nr (by assumption), by rfl, ?_⟩)
local macro_rules | `(tactic| walk_at "b0") => `(tactic| with_reducible refine' we_meth ?_)
local macro_rules | `(tactic| walk_at "b0") => `(tactic| refine ⟨_, _, _, rfl, own_l (by walk_at "mem"), by rfl, ?_⟩)
local macro_rules | `(tactic| walk_at "b0") => `(tactic| refine ⟨_, _, _, rfl, fun H' o => o.ex _ _ (by assumption), by rfl, ?_⟩)
local macro_rules | `(tactic| walk_at "gown") => `(tactic| first | exact own_l (by walk_at "mem") | exact fun H' o => o.ex _ _ (by assumption))
local macro_rules | `(tactic| walk_at "b0") => `(tactic| with_reducible refine' wm_countT ?_)
theorem c_s_shows {K : PySem.W.Frag} {C : CA} {H0 : Hp} {s : Ld} {Q : V → Ld → Prop} {E : XK} {g d a b : Addr} {ps ls : List Int} {r : List Bool} (hS : SwC K C) (hg : ∀ H, Own H0 H s → H g = some (sIns C d a b)) (ha : IsL K H0 s a (ps.map V.int)) (hb : IsL K H0 s b (ls.map V.int)) (hl : r.length ≤ 1000) (q : Q (.bl (swSh r ps ls)) s) : WC H0 (sp_s_shows K C) E [.ref g, .str (T r)] s Q := wc_V (fun H o => ⟨g, d, a, b, ps, ls, r, hS, rfl, hg H o, ha H o, hb H o, hl, rfl⟩) q
theorem ln__law_swapped {K : PySem.W.Frag} {C : CA} {vs : List V} {H : Hp} {Q : VK} {E : XK} (h : sp__law_swapped K C vs H Q E) : vs.length = 3 := by
  obtain ⟨_, ⟨r, a, b, ps, ls, rfl, _⟩, _⟩ := h
  rfl
theorem pu__law_swapped {K : PySem.W.Frag} {C : CA} {vs : List V} {H : Hp} {Q : VK} {E : XK} (h : sp__law_swapped K C vs H Q E) : rd__law_swapped K C { nx := fun _ H' => Q .non H', rt := Q } (start N__law_swapped vs) H := by
  obtain ⟨_, ⟨r, a, b, ps, ls, rfl, ha, hb, hl, rfl⟩, k⟩ := h
  refine body_V ?_ k
  unfold rd__law_swapped
  refine ws_seq ?_
  walk_at "bn"
  refine ws_cut (fun σ s => ∃ u pl, σ = [some (.str (T r)), some (.ref a), some (.ref b), some (.str (T u)), pl, none, none] ∧ s = ⟨[], []⟩ ∧ swAll r ps = some u) ?_ ?_
  · walk_at "bm"
    refine ⟨⟨_, isL_old ha⟩, ?_⟩
    refine lp_list (xs := ps.map V.int) (n := ps.length) (fun i σ s => ∃ u pl, σ = [some (.str (T r)), some (.ref a), some (.ref b), some (.str (T u)), pl, none, none] ∧ s = ⟨[], []⟩ ∧ swAll r (ps.take i) = some u) (by simp) ⟨r, none, rfl, rfl, rfl⟩ (fun i σ s hi _ => isL_old ha) ?_ (fun σ s ⟨u, pl, e1, e2, e3⟩ => ⟨_, Sub.refl _, u, pl, e1, e2, by rw [List.take_length] at e3; exact e3⟩)
    rintro i y σ s hi hy ⟨u, pl, rfl, rfl, hu⟩
    obtain ⟨p, hpi, rfl⟩ := getI hy
    have hlu : u.length = r.length := swAll_len hu
    refine wg_name ?_
    walk_at "bm"
    refine c__law_swap (by omega) (fun ok => ?_) (fun ok => ?_)
    · walk_at "bm"
      exact ⟨_, Sub.refl _, _, _, rfl, rfl, by rw [swAll_snoc hu hpi, if_pos ok]⟩
    · walk_at "bm"
      show V.bl _ = V.bl _
      rw [swSh_none (swAll_none (i := i + 1) (by rw [swAll_snoc hu hpi, ok]; rfl))]
  rintro σ s ⟨u, pl, rfl, rfl, hu⟩
  have hlu : u.length = r.length := swAll_len hu
  have res := swSh_some (ls := ls) hu
  rw [res]
  refine ws_cut (fun σ s => σ = [some (.str (T r)), some (.ref a), some (.ref b), some (.str (T u)), pl, none, none] ∧ s = ⟨[], []⟩ ∧ isR u = true ∧ ls.length = r.length + 1 ∧ ls.sum = (ps.length : Int)) ?_ ?_
  · walk_at "bm"
    refine ⟨fun h => ?_, fun h => ?_⟩
    · walk_at "bm"
      have h' : isR u = false := by simpa using h
      show V.bl _ = V.bl _
      rw [h']
      rfl
    · have h' : isR u = true := by simpa using h
      walk_at "bm"
      refine ⟨fun h1 => ?_, fun h1 => ?_⟩
      · walk_at "bm"
        have h1' : ¬ ls.length = r.length + 1 := fun e => by rw [List.length_map, e] at h1; simp at h1
        show V.bl _ = V.bl _
        rw [h', decide_eq_false h1']
        rfl
      · have h1' : ls.length = r.length + 1 := by
          rw [List.length_map] at h1
          simp at h1
          omega
        walk_at "bm"
        refine wl_sum (isL_old hb) ?_
        walk_at "bm"
        refine ⟨fun h2 => ?_, fun h2 => ?_⟩
        · walk_at "bm"
          have h2' : ¬ ls.sum = (ps.length : Int) := fun e => by rw [List.length_map, e] at h2; simp at h2
          show V.bl _ = V.bl _
          rw [h', decide_eq_true h1', decide_eq_false h2']
          rfl
        · walk_at "bm"
          exact ⟨_, Sub.refl _, rfl, rfl, h', h1', by rw [List.length_map] at h2; simpa using h2⟩
  rintro σ s ⟨rfl, rfl, h1, h2, h3⟩
  rw [h1, decide_eq_true h2, decide_eq_true h3]
  simp only [Bool.true_and]
  refine ws_seq ?_
  refine ws_for (wi_zip ?_)
  walk_at "bm"
  intro f hf
  walk_at "bm"
  refine ⟨f, b, (dps r).map V.int, ls.map V.int, rfl, by walk_at "isl", isL_old hb, ?_⟩
  refine lp_zip (xs := (dps r).map V.int) (ys := ls.map V.int) (n := r.length + 1) (fun i σ s => ∃ x4 x5 ts, σ = [some (.str (T r)), some (.ref a), some (.ref b), some (.str (T u)), pl, x4, x5] ∧ s = ⟨[(f, .lst ((dps r).map V.int))], ts⟩ ∧ (((dps r).zip ls).take i).all zipOk = true) (by rw [List.length_map, List.length_map, dps_len, h2, Nat.min_self]) ⟨none, none, [], rfl, rfl, rfl⟩ (fun i σ s hi ⟨x4, x5, ts, _, e, _⟩ => ⟨by rw [e]; walk_at "isl", isL_old hb⟩) ?_ ?_
  · rintro i x y σ s p hi hx hy ⟨x4, x5, ts, rfl, rfl, hok⟩
    obtain ⟨d0, hd, rfl⟩ := getI hx
    obtain ⟨l0, hl0, rfl⟩ := getI hy
    have hz : ((dps r).zip ls)[i]? = some (d0, l0) := by
      rw [List.getElem?_zip_eq_some]
      exact ⟨hd, hl0⟩
    have hbad : zipOk (d0, l0) = false → V.bl false = V.bl (((dps r).zip ls).all zipOk) := fun h => by rw [all_bad hz h]
    have hsame : decide (0 ≤ d0 + 2 * l0 - 2) = decide (d0 + 2 * (l0 - 1) ≥ 0) := decide_eq_decide.mpr (by omega)
    refine wg_tup (by walk_at "ist") rfl ?_
    walk_at "bm"
    refine ⟨fun h => ?_, fun h => ?_⟩
    · walk_at "bm"
      exact hbad (by unfold zipOk; rw [h]; rfl)
    · walk_at "bm"
      refine ⟨fun h4 => ?_, fun h4 => ?_⟩
      · walk_at "bm"
        refine w2_mul (cmul_l (by decide) (by decide)) ?_
        walk_at "bm"
        refine ⟨fun h5 => ?_, fun h5 => ?_⟩
        · walk_at "bm"
          exact hbad (by unfold zipOk; rw [h, h4, ← hsame, h5]; rfl)
        · walk_at "bm"
          exact ⟨_, Sub.refl _, _, _, _, rfl, rfl, by rw [all_take hz hok]; unfold zipOk; rw [h, h4, ← hsame, h5]; rfl⟩
      · walk_at "bm"
        exact ⟨_, Sub.refl _, _, _, _, rfl, rfl, by rw [all_take hz hok]; unfold zipOk; rw [h, h4]; rfl⟩
  · rintro σ s ⟨x4, x5, ts, rfl, rfl, hok⟩
    rw [List.take_of_length_le (by rw [List.length_zip, dps_len, h2, Nat.min_self]; exact Nat.le_refl _)] at hok
    walk_at "bm"
    show V.bl _ = V.bl _
    rw [hok]
theorem c__law_swapped {K : PySem.W.Frag} {C : CA} {H0 : Hp} {s : Ld} {Q : V → Ld → Prop} {E : XK} {a b : Addr} {ps ls : List Int} {r : List Bool} (ha : IsL K H0 s a (ps.map V.int)) (hb : IsL K H0 s b (ls.map V.int)) (hl : r.length ≤ 1000) (q : Q (.bl (swSh r ps ls)) s) : WC H0 (sp__law_swapped K C) E [.str (T r), .ref a, .ref b] s Q := wc_V (fun H o => ⟨r, a, b, ps, ls, rfl, ha H o, hb H o, hl, rfl⟩) q
end BM
namespace BM
open PySem L2 Evl
local macro_rules | `(tactic| walk_at "mem") => `(tactic| first | exact List.mem_cons_self | (refine List.mem_cons_of_mem _ ?_; walk_at "mem"))
local macro_rules | `(tactic| walk_at "swap") => `(tactic| first | exact Swap.here | (apply Swap.there; walk_at "swap"))
local macro_rules | `(tactic| walk_at "subl") => `(tactic| first | exact List.Sublist.refl _ | exact List.nil_sublist _ | (refine List.Sublist.cons_cons _ ?_; walk_at "subl") | (refine List.Sublist.cons _ ?_; walk_at "subl"))
local macro_rules | `(tactic| walk_at "sub") => `(tactic| first | exact Sub.refl _ | (refine ⟨?_, ?_⟩ <;> walk_at "subl"))
local macro_rules | `(tactic| walk_at "isl") => `(tactic| first | exact isL_own (by walk_at "mem") | exact isL_old (by assumption) | assumption)
local macro_rules | `(tactic| walk_at "ist") => `(tactic| first | exact isT_own (by walk_at "mem") | exact isT_old (by assumption) | assumption)
local macro_rules | `(tactic| walk_at "len") => `(tactic| first | omega | decide | (simp only [List.length_map, List.length_take, List.length_drop, List.length_append, List.length_cons, List.length_nil, List.length_reverse, dps_len, flp_len]; omega) | (simp [dps_len, flp_len]; omega) | simp)
local macro_rules | `(tactic| walk_at "b0") => `(tactic| first
  | with_reducible refine' ws_set ?_
  | with_reducible refine' ws_par ?_
  | with_reducible refine' ws_asg ?_
  | with_reducible refine' ws_drop ?_
  | with_reducible refine' ws_ret ?_
  | with_reducible refine' ws_if ?_
  | with_reducible refine' ws_next ?_
  | with_reducible refine' ws_brk ?_
  | with_reducible refine' ws_cont ?_
  | ((with_reducible refine' we_var ?hv ?_); case hv => rfl)
  | with_reducible refine' we_c ?_
  | with_reducible refine' we_op ?_
  | with_reducible refine' we_un ?_
  | with_reducible refine' we_if ?_
  | with_reducible refine' we_and ?_
  | with_reducible refine' we_or ?_
  | with_reducible refine' we_not ?_
  | with_reducible refine' wa_nil ?_
  | with_reducible refine' wa_cons ?_
  | (with_reducible refine' we_lst ?_)
  | (with_reducible refine' we_tup ?_)
  | with_reducible refine' we_cb ?_
  | with_reducible refine' we_call0 ?_
  | with_reducible refine' we_sl ?_
  | with_reducible refine' wo_none ?_
  | (with_reducible refine' wo_some ?_)
  | with_reducible refine' wt_test ?_
  | with_reducible refine' wt_B ?_
  | with_reducible refine' wt_and ?_
  | with_reducible refine' wt_or ?_
  | with_reducible refine' wt_not ?_
  | with_reducible refine' wt_yes ?_
  | with_reducible refine' we_chain ?_
  | with_reducible refine' we_chain3 ?_
  | with_reducible refine' we_revT ?_
  | with_reducible refine' we_revL ?_
  | with_reducible refine' we_bm ?_
  | with_reducible refine' we_bm0 ?_
  | with_reducible refine' ws_for ?_
  | with_reducible refine' we_lc ?_
  | with_reducible refine' wi_list ?_
  | with_reducible refine' wi_tup ?_
  | with_reducible refine' wi_T ?_
  | with_reducible refine' wi_rng1 ?_
  | with_reducible refine' wi_rng2 ?_
  | with_reducible refine' wi_rng3 ?_
  | with_reducible refine' wi_enum ?_
  | with_reducible refine' wi_enumT ?_
  | with_reducible refine' wi_zip ?_
  | with_reducible refine' wg_name ?_
  | with_reducible refine' wg_sub ?_
  | with_reducible refine' wgs_nil ?_
  | with_reducible refine' wgs_cons ?_
  | ((with_reducible refine' wg_tup ?ht ?hn ?_); (case ht => walk_at "ist"); (case hn => rfl))
  | with_reducible refine' w2_add ?_
  | with_reducible refine' w2_sub ?_
  | with_reducible refine' w2_lt ?_
  | with_reducible refine' w2_le ?_
  | with_reducible refine' w2_gt ?_
  | with_reducible refine' w2_ge ?_
  | with_reducible refine' w2_eqI ?_
  | with_reducible refine' w2_neI ?_
  | with_reducible refine' w2_eqT ?_
  | with_reducible refine' w2_neT ?_
  | with_reducible refine' w2_eqB ?_
  | with_reducible refine' w2_neB ?_
  | with_reducible refine' w2_isN ?_
  | with_reducible refine' w2_notN ?_
  | with_reducible refine' w2_isB ?_
  | with_reducible refine' w2_inT ?_
  | with_reducible refine' w1_neg ?_
  | with_reducible refine' wl_abs ?_
  | with_reducible refine' wl_max2 ?_
  | with_reducible refine' wl_min2 ?_
  | with_reducible refine' wl_intB ?_
  | ((with_reducible refine' w2_div ?h ?_); case h => first | omega | (constructor <;> omega))
  | ((with_reducible refine' w2_mod ?h ?_); case h => omega)
  | ((with_reducible refine' w2_catT ?h ?_); case h => walk_at "len")
  | ((with_reducible refine' wsl_T ?h ?_); case h => walk_at "len")
  | ((with_reducible refine' wl_lenT ?h ?_); case h => walk_at "len")
  | ((with_reducible refine' wl_len ?h ?_); case h => walk_at "isl")
  | ((with_reducible refine' wl_len ?h ?_); case h => walk_at "isl")
  | ((with_reducible refine' wm_append ?sw ?hl ?_); (case sw => walk_at "swap"); (case hl => walk_at "len")))
local macro_rules | `(tactic| walk_at "b1") => `(tactic| first | with_reducible refine' ws_seq ?_ | walk_at "b0")
local macro_rules | `(tactic| walk_at "bx") => `(tactic| first
  | refine ⟨_, rfl, ?_⟩
  | refine ⟨_, _, rfl, ?_⟩
  | refine ⟨ty_L (by walk_at "isl"), ?_⟩
  | refine ⟨ty_S, ?_⟩
  | refine spl_t (by rfl) ?_
  | refine spl_f (by rfl) ?_
  | exact rfl)
local macro_rules | `(tactic| walk_at "bm") => `(tactic| repeat (first | walk_at "b1" | walk_at "bx"))
local macro_rules | `(tactic| walk_at "bn") => `(tactic| repeat (first | walk_at "b0" | walk_at "bx"))
local macro_rules | `(tactic| walk_at "b0") => `(tactic| with_reducible refine' c_deepens ?_)
local macro_rules | `(tactic| walk_at "b0") => `(tactic| ((with_reducible refine' c_depths_of ?hl ?_); (case hl => walk_at "len")))
local macro_rules | `(tactic| walk_at "b0") => `(tactic| with_reducible refine' c_is_wholeI ?_)
local macro_rules | `(tactic| walk_at "b0") => `(tactic| with_reducible refine' c_flipped ?_)
local macro_rules | `(tactic| walk_at "b0") => `(tactic| ((with_reducible refine' c_is_right_row ?hl ?_); (case hl => walk_at "len")))
local macro_rules | `(tactic| walk_at "b0") => `(tactic| ((with_reducible refine' c_asked_row ?hl ?_); (case hl => walk_at "len")))
local macro_rules | `(tactic| walk_at "b0") => `(tactic| ((with_reducible refine' c_depths ?hl ?_); (case hl => walk_at "len")))
local macro_rules | `(tactic| walk_at "b0") => `(tactic| ((with_reducible refine' c_is_right ?hl ?_); (case hl => walk_at "len")))
local macro_rules | `(tactic| walk_at "b0") => `(tactic| ((with_reducible refine' c__law_depths ?hl ?_); (case hl => walk_at "len")))
local macro_rules | `(tactic| walk_at "b0") => `(tactic| ((with_reducible refine' c__law_good ?hl ?_); (case hl => walk_at "len")))
local macro_rules | `(tactic| walk_at "b0") => `(tactic| ((with_reducible refine' wl_listOf ?hx ?_); (case hx => walk_at "isl")))
local macro_rules | `(tactic| walk_at "b0") => `(tactic| with_reducible refine' w2_notB ?_)
local macro_rules | `(tactic| walk_at "own") => `(tactic| exact own_l (by walk_at "mem"))
local macro_rules | `(tactic| walk_at "b0") => `(tactic| with_reducible refine' we_fld ?_)
local macro_rules | `(tactic| walk_at "b0") => `(tactic| refine ⟨_, _, _, _, _, rfl, own_l (by walk_at "mem"), Grw.cl (by assumption), Grw.nr (by assumption), by rfl, ?_⟩)
local macro_rules | `(tactic| walk_at "b0") => `(tactic| refine ⟨_, _, _, _, _, rfl, fun H' o => o.ex _ _ (by assumption), Grw.cl (by assumption), Grw.nr (by assumption), by rfl, ?_⟩)
local macro_rules | `(tactic| walk_at "b0") => `(tactic| with_reducible refine' we_meth ?_)
local macro_rules | `(tactic| walk_at "b0") => `(tactic| refine ⟨_, _, _, rfl, own_l (by walk_at "mem"), by rfl, ?_⟩)
local macro_rules | `(tactic| walk_at "b0") => `(tactic| refine ⟨_, _, _, rfl, fun H' o => o.ex _ _ (by assumption), by rfl, ?_⟩)
local macro_rules | `(tactic| walk_at "gown") => `(tactic| first | exact own_l (by walk_at "mem") | exact fun H' o => o.ex _ _ (by assumption))
local macro_rules | `(tactic| walk_at "b0") => `(tactic| with_reducible refine' wm_countT ?_)
local macro_rules | `(tactic| walk_at "b0") => `(tactic| with_reducible refine' we_methU ?_)
theorem ws_par3 {H0 : Hp} {σ : L2.St} {s : Ld} {D : Dl} {i j l : Nat} {ta : TA} (h : WA H0 ta σ s fun vs s1 => ∃ v w x, vs = [v, w, x] ∧ D.nx (((σ.set i (some v)).set j (some w)).set l (some x)) s1) : WS H0 (tPar3 i j l ta) σ s D := fun H o E k =>
  h H o _ fun vs H1 s1 o1 ⟨v, w, x, e, q⟩ => ⟨v, w, x, e, k.nx _ _ _ o1 q⟩
theorem body_K {H : Hp} {t : TS} {N : List Str} {vs : List V} {Q : VK} {P : V → Ld → Prop} (h : WS H t (start N vs) ⟨[], []⟩ { nx := fun _ _ => False, rt := P }) (k : ∀ v H' s, Own H H' s → P v s → Q v H') : t { nx := fun _ H' => Q .non H', rt := Q } (start N vs) H :=
  h H (Own.start H) _ ⟨(fun _ _ _ _ q => q.elim), fun u H' s o q => k u H' s o q, (fun _ _ _ _ q => q.elim), (fun _ _ _ _ q => q.elim)⟩
theorem PH_le {M : Int} (hM : 0 ≤ M) : ∀ (r : List Bool) (h : Int), -h + r.length + 1 ≤ M → PH h r ≤ ((r.length : Int) + 1) * M
  | [], h, hh => by
    show lf h ≤ ((0 : Nat) + 1 : Int) * M
    have : lf h ≤ M := by
      unfold lf
      simp at hh
      split <;> omega
    simpa using this
  | b :: r, h, hh => by
    have hl : ((b :: r).length : Int) = (r.length : Int) + 1 := by simp
    rw [hl] at hh ⊢
    have ih := PH_le hM r (h + sg b) (by cases b <;> simp [sg] <;> omega)
    have h1 : lf h ≤ M := by
      unfold lf
      split <;> omega
    show lf h + PH (h + sg b) r ≤ _
    have e : ((r.length : Int) + 1 + 1) * M = ((r.length : Int) + 1) * M + M := by rw [Int.add_mul, Int.one_mul]
    omega
theorem pot_le {r : List Bool} (h : r.length ≤ 40) : pot r ≤ 2000 := by
  have h1 := PH_le (M := 41) (by decide) r 0 (by omega)
  unfold pot
  have : ((r.length : Int) + 1) * 41 ≤ 41 * 41 := Int.mul_le_mul_of_nonneg_right (by omega) (by decide)
  omega
theorem c_u_init {K : PySem.W.Frag} {C : CA} {H0 : Hp} {s : Ld} {Q : V → Ld → Prop} {E : XK} {x d : Addr} {z : Int} {L' : List (Addr × HO)} (hU : UnC K C) (sw : Swap x (.ins C.c_Uneven d []) (uIns C d z) s.L L') (q : Q .non ⟨L', s.T⟩) : WC H0 (sp_u_init K C) E [.ref x, .int z] s Q := fun H o R k =>
  ⟨x, d, z, hU, rfl, (o.own _ sw.mem).2, fun H' e h => k _ _ _ (own_after o sw trivial e h) q⟩
theorem we_uneven {K : PySem.W.Frag} {C : CA} {H0 : Hp} {σ : L2.St} {s : Ld} {Q : V → Ld → Prop} {E : XK} {ta : TA} (hU : UnC K C) (h : WA H0 ta σ s fun vs s1 => ∃ z, vs = [.int z] ∧ ∀ x dx, H0 x = none → Q (.ref x) ⟨(x, uIns C dx z) :: (dx, .own x) :: s1.L, s1.T⟩) : WE H0 (tMake C.c_Uneven (sp_u_init K C) [] E ta) σ s Q :=
  we_make fun H o R k => h H o R fun vs H1 s1 o1 ⟨z, e, q⟩ => k _ _ _ o1 fun x dx hx hdx hne => by
    subst e
    exact c_u_init hU Swap.here ⟨rfl, q x dx hx⟩
theorem c_s_init {K : PySem.W.Frag} {C : CA} {H0 : Hp} {Q : V → Ld → Prop} {E : XK} {x d a b : Addr} {ps ls : List Int} {L : List (Addr × HO)} {T : List (Addr × List V)} (hS : SwC K C) (ha : (a, HO.lst (ps.map V.int)) ∈ L) (hb : (b, HO.lst (ls.map V.int)) ∈ L) (q : ∀ a2 b2, H0 a2 = none → H0 b2 = none → Q .non ⟨(b2, .lst (ls.map V.int)) :: (a2, .lst (ps.map V.int)) :: (x, sIns C d a2 b2) :: L, T⟩) : WC H0 (sp_s_init K C) E [.ref x, .ref a, .ref b] ⟨(x, .ins C.c_Swapped d []) :: L, T⟩ Q := fun H o R k => by
  have hk : x ∉ L.map (·.1) := (List.nodup_cons.mp o.nd).1
  have hax : a ≠ x := fun e => hk (List.mem_map.mpr ⟨_, ha, e⟩)
  have hbx : b ≠ x := fun e => hk (List.mem_map.mpr ⟨_, hb, e⟩)
  refine ⟨x, d, a, b, ps, ls, hS, rfl, (o.own _ List.mem_cons_self).2, sq_of (o.own _ (List.mem_cons_of_mem _ ha)).2, sq_of (o.own _ (List.mem_cons_of_mem _ hb)).2, hax, hbx, fun H' a2 b2 e h1 h2 nd hx h3 h4 => ?_⟩
  have nd1 : b2 ∉ [a2, x] := (List.nodup_cons.mp nd).1
  have nd2 : a2 ∉ [x] := (List.nodup_cons.mp (List.nodup_cons.mp nd).2).1
  have a2x : a2 ≠ x := fun e => nd2 (by rw [e]; exact List.mem_cons_self)
  have b2x : b2 ≠ x := fun e => nd1 (by rw [e]; exact List.mem_cons_of_mem _ List.mem_cons_self)
  have b2a : b2 ≠ a2 := fun e => nd1 (by rw [e]; exact List.mem_cons_self)
  rw [del_ne a2x] at h1
  rw [del_ne b2x] at h2
  have w1 := own_after o (Swap.here (o := .ins C.c_Swapped d []) (o' := sIns C d a2 b2)) trivial e hx
  have w2 := own_add w1 (fresh_back o.ex h1) (show a2 ∉ x :: L.map (·.1) from own_key o h1) h3
  have w3 := own_add w2 (fresh_back o.ex h2) (fun hm => by
    rcases List.mem_cons.mp hm with e | hm
    · exact b2a e
    · exact (show b2 ∉ x :: L.map (·.1) from own_key o h2) hm) h4
  exact k _ _ _ w3 (q a2 b2 (fresh_back o.ex h1) (fresh_back o.ex h2))
theorem we_swapped {K : PySem.W.Frag} {C : CA} {H0 : Hp} {σ : L2.St} {s : Ld} {Q : V → Ld → Prop} {E : XK} {ta : TA} (hS : SwC K C) (h : WA H0 ta σ s fun vs s1 => ∃ (a b : Addr) (ps ls : List Int), vs = [.ref a, .ref b] ∧ (a, HO.lst (ps.map V.int)) ∈ s1.L ∧ (b, HO.lst (ls.map V.int)) ∈ s1.L ∧ ∀ x dx a2 b2, H0 x = none → H0 a2 = none → H0 b2 = none → Q (.ref x) ⟨(b2, .lst (ls.map V.int)) :: (a2, .lst (ps.map V.int)) :: (x, sIns C dx a2 b2) :: (dx, .own x) :: s1.L, s1.T⟩) : WE H0 (tMake C.c_Swapped (sp_s_init K C) [] E ta) σ s Q :=
  we_make fun H o R k => h H o R fun vs H1 s1 o1 ⟨a, b, ps, ls, e, ma, mb, q⟩ => k _ _ _ o1 fun x dx hx hdx hne => by
    subst e
    exact c_s_init hS (List.mem_cons_of_mem _ ma) (List.mem_cons_of_mem _ mb) fun a2 b2 h1 h2 => ⟨rfl, q x dx a2 b2 hx h1 h2⟩
theorem first_of {ns : List Int} {m : Int} (h : m ∈ ns) : ∃ j : Nat, ns[j]? = some m ∧ ∀ i : Nat, i < j → ns[i]? ≠ some m := by
  induction ns with
  | nil => cases h
  | cons a ns ih =>
    by_cases e : a = m
    · exact ⟨0, by rw [e]; rfl, fun i hi => absurd hi (Nat.not_lt_zero _)⟩
    · obtain ⟨j, h1, h2⟩ := ih ((List.mem_cons.mp h).resolve_left fun e2 => e e2.symm)
      refine ⟨j + 1, h1, fun i hi => ?_⟩
      cases i with
      | zero => exact fun e2 => e (Option.some.inj e2)
      | succ i => exact h2 i (by omega)
theorem ln_swaps {K : PySem.W.Frag} {C : CA} {vs : List V} {H : Hp} {Q : VK} {E : XK} (h : sp_swaps K C vs H Q E) : vs.length = 1 := by
  obtain ⟨r, _, rfl, _⟩ := h
  rfl
theorem pu_swaps {K : PySem.W.Frag} {C : CA} {vs : List V} {H : Hp} {Q : VK} {E : XK} (h : sp_swaps K C vs H Q E) : rd_swaps K C { nx := fun _ H' => Q .non H', rt := Q } (start N_swaps vs) H := by
  obtain ⟨r, hX, rfl, hl, k1, k2⟩ := h
  refine body_K (P := fun v s => (hgt r ≠ 0 ∧ ∃ x d, v = .ref x ∧ (x, uIns C d (hgt r)) ∈ s.L) ∨ (hgt r = 0 ∧ ∃ (x d a b : Addr) (ps : List Int) (u : List Bool), v = .ref x ∧ Sub ⟨[(b, .lst (((dps r).map lf).map V.int)), (a, .lst (ps.map V.int)), (x, sIns C d a b)], []⟩ s ∧ swAll r ps = some u ∧ isR u = true ∧ (ps.length : Int) = pot r)) ?_ ?_
  · unfold rd_swaps
    walk_at "bm"
    intro f hf
    walk_at "bm"
    refine w2_ixL (by walk_at "isl") (dps_m1 _) ?_
    walk_at "bn"
    refine ⟨fun h => ?_, fun h => ?_⟩
    · have h' : hgt r ≠ 0 := by simpa using h
      walk_at "bn"
      refine we_uneven hX.u ?_
      walk_at "bm"
      refine w2_ixL (by walk_at "isl") (dps_m1 _) ?_
      walk_at "bm"
      intro x dx hx
      exact .inl ⟨h', x, dx, rfl, List.mem_cons_self⟩
    · have h' : hgt r = 0 := by simpa using h
      walk_at "bn"
      refine ws_cut (fun σ s => ∃ a b, σ = [some (.str (T r)), some (.ref f), some (.ref a), some (.ref b), some (.str (T r)), none, none, none, none] ∧ s = ⟨[(b, .lst ([].map V.int)), (a, .lst (((dps r).map lf).map V.int))], []⟩) ?_ ?_
      · refine ws_par3 ?_
        walk_at "bm"
        refine ⟨⟨_, by walk_at "isl"⟩, ?_⟩
        refine cp_list (xs := (dps r).map V.int) (fun i => (((dps r).take i).map lf).map V.int) (by walk_at "isl") (by rw [List.length_map, dps_len]; omega) rfl (fun i hi => by rw [List.length_map, List.length_map, List.length_take]; omega) ?_ ?_
        · intro D i y hi hy
          obtain ⟨z, hz, rfl⟩ := getI hy
          walk_at "bm"
          refine ⟨rfl, ?_⟩
          walk_at "bm"
          refine ⟨Sub.refl _, ?_⟩
          rw [take_snoc hz, List.map_append, List.map_append]
          rfl
        · intro a ha
          rw [List.length_map, List.take_length]
          walk_at "bm"
          refine ⟨by simp, fun b hb => ?_⟩
          walk_at "bm"
          exact ⟨_, _, _, rfl, _, by walk_at "sub", a, b, rfl, rfl⟩
      rintro σ s ⟨a, b, rfl, rfl⟩
      refine ws_cut (fun σ s => ∃ (ps : List Int) (u : List Bool) (x5 x6 x7 : Option V), σ = [some (.str (T r)), some (.ref f), some (.ref a), some (.ref b), some (.str (T u)), x5, x6, x7, none] ∧ s = ⟨[(b, .lst (ps.map V.int)), (a, .lst (((dps r).map lf).map V.int))], []⟩ ∧ swAll r ps = some u ∧ isR u = true ∧ (ps.length : Int) = pot r) ?_ ?_
      · refine ws_while (fun m σ s => ∃ (ps : List Int) (u : List Bool) (x5 x6 x7 : Option V), σ = [some (.str (T r)), some (.ref f), some (.ref a), some (.ref b), some (.str (T u)), x5, x6, x7, none] ∧ s = ⟨[(b, .lst (ps.map V.int)), (a, .lst (((dps r).map lf).map V.int))], []⟩ ∧ swAll r ps = some u ∧ hgt u = 0 ∧ (ps.length : Int) + pot u = pot r ∧ m = (pot u).toNat) (pot r).toNat ⟨[], r, none, none, none, rfl, rfl, rfl, h', by simp, rfl⟩ ?_
        rintro m σ s ⟨ps, u, x5, x6, x7, rfl, rfl, hu, hh, hp, rfl⟩
        have hlu : u.length = r.length := swAll_len hu
        have hpn := pot_nn u
        have hpl := pot_le hl
        walk_at "bm"
        refine ⟨fun hc => ?_, fun hc => ?_⟩
        · have hc' : isR u = false := by simpa using hc
          walk_at "bm"
          intro g hg
          walk_at "bm"
          refine wl_min (by walk_at "isl") (by rw [dps_len]; omega) fun mn h1 h2 => ?_
          obtain ⟨j, hj, hfirst⟩ := first_of h1
          have hmn : mn < 0 := by
            rcases Int.lt_or_le mn 0 with h | h
            · exact h
            · have : isR u = true := isR_iff.mpr ⟨hh, fun j hj => Int.le_trans h (h2 _ (mem_dps.mpr ⟨j, hj, rfl⟩))⟩
              rw [hc'] at this
              cases this
          obtain ⟨ok, hj0, hz, hlow⟩ := low_spot hh hmn hj h2 hfirst
          have ok2 := swOk_len ok
          have hpot := pot_swp_low ok (by rw [show ((j : Int) - 1).toNat = j - 1 by omega]; exact hz) (by rw [show ((j : Int) - 1).toNat = j - 1 by omega]; exact hlow)
          walk_at "bm"
          refine wm_index (by walk_at "isl") hj hfirst ?_
          walk_at "bm"
          refine c_swapped (by omega) ok2 ?_
          have hpos := pot_nn (swp u ((j : Int) - 1).toNat)
          refine ⟨⟨[(b, .lst ((ps ++ [(j : Int) - 1]).map V.int)), (a, .lst (((dps r).map lf).map V.int))], []⟩, by rw [List.map_append]; walk_at "sub", (pot (swp u ((j : Int) - 1).toNat)).toNat, by omega, ps ++ [(j : Int) - 1], swp u ((j : Int) - 1).toNat, _, _, _, rfl, rfl, ?_, by rw [hgt_swp ok]; exact hh, by rw [List.length_append]; show ((ps.length + 1 : Nat) : Int) + _ = _; omega, rfl⟩
          rw [swAll_app, hu]
          show swAll u [(j : Int) - 1] = _
          simp only [swAll, ok, if_true]
        · have hc' : isR u = true := by simpa using hc
          have hz := (isR_pot.mp hc').2
          exact ⟨_, Sub.refl _, ps, u, _, _, _, rfl, rfl, hu, hc', by omega⟩
      rintro σ s ⟨ps, u, x5, x6, x7, rfl, rfl, hu, hR, hp⟩
      walk_at "bn"
      refine we_swapped hX.s ?_
      walk_at "bm"
      refine ⟨b, a, ps, (dps r).map lf, rfl, by walk_at "mem", by walk_at "mem", fun x dx a2 b2 hx ha2 hb2 => .inr ⟨h', x, dx, a2, b2, ps, u, rfl, by walk_at "sub", hu, hR, hp⟩⟩
  · rintro v H' s w (⟨h0, x, d, rfl, m⟩ | ⟨h0, x, d, a, b, ps, u, rfl, hs, hu, hR, hp⟩)
    · exact k1 h0 H' x d w.ex (w.own _ m).1 (w.own _ m).2
    · have w2 := w.sub hs
      have nd : [b, a, x].Nodup := w2.nd
      have ma := w2.own (a, .lst (ps.map V.int)) (List.mem_cons_of_mem _ List.mem_cons_self)
      have mb := w2.own (b, .lst (((dps r).map lf).map V.int)) List.mem_cons_self
      have mx := w2.own (x, sIns C d a b) (List.mem_cons_of_mem _ (List.mem_cons_of_mem _ List.mem_cons_self))
      exact k2 h0 H' x d a b ps u w.ex mx.1 ma.1 mb.1 nd mx.2 ma.2 mb.2 hu hR hp
end BM
namespace BM
open PySem L2 Evl
local macro_rules | `(tactic| walk_at "mem") => `(tactic| first | exact List.mem_cons_self | (refine List.mem_cons_of_mem _ ?_; walk_at "mem"))
local macro_rules | `(tactic| walk_at "swap") => `(tactic| first | exact Swap.here | (apply Swap.there; walk_at "swap"))
local macro_rules | `(tactic| walk_at "subl") => `(tactic| first | exact List.Sublist.refl _ | exact List.nil_sublist _ | (refine List.Sublist.cons_cons _ ?_; walk_at "subl") | (refine List.Sublist.cons _ ?_; walk_at "subl"))
local macro_rules | `(tactic| walk_at "sub") => `(tactic| first | exact Sub.refl _ | (refine ⟨?_, ?_⟩ <;> walk_at "subl"))
local macro_rules | `(tactic| walk_at "isl") => `(tactic| first | exact isL_own (by walk_at "mem") | exact isL_old (by assumption) | assumption)
local macro_rules | `(tactic| walk_at "ist") => `(tactic| first | exact isT_own (by walk_at "mem") | exact isT_old (by assumption) | assumption)
local macro_rules | `(tactic| walk_at "len") => `(tactic| first | omega | decide | (simp only [List.length_map, List.length_take, List.length_drop, List.length_append, List.length_cons, List.length_nil, List.length_reverse, dps_len, flp_len]; omega) | (simp [dps_len, flp_len]; omega) | simp)
local macro_rules | `(tactic| walk_at "b0") => `(tactic| first
  | with_reducible refine' ws_set ?_
  | with_reducible refine' ws_par ?_
  | with_reducible refine' ws_asg ?_
  | with_reducible refine' ws_drop ?_
  | with_reducible refine' ws_ret ?_
  | with_reducible refine' ws_if ?_
  | with_reducible refine' ws_next ?_
  | with_reducible refine' ws_brk ?_
  | with_reducible refine' ws_cont ?_
  | ((with_reducible refine' we_var ?hv ?_); case hv => rfl)
  | with_reducible refine' we_c ?_
  | with_reducible refine' we_op ?_
  | with_reducible refine' we_un ?_
  | with_reducible refine' we_if ?_
  | with_reducible refine' we_and ?_
  | with_reducible refine' we_or ?_
  | with_reducible refine' we_not ?_
  | with_reducible refine' wa_nil ?_
  | with_reducible refine' wa_cons ?_
  | (with_reducible refine' we_lst ?_)
  | (with_reducible refine' we_tup ?_)
  | with_reducible refine' we_cb ?_
  | with_reducible refine' we_call0 ?_
  | with_reducible refine' we_sl ?_
  | with_reducible refine' wo_none ?_
  | (with_reducible refine' wo_some ?_)
  | with_reducible refine' wt_test ?_
  | with_reducible refine' wt_B ?_
  | with_reducible refine' wt_and ?_
  | with_reducible refine' wt_or ?_
  | with_reducible refine' wt_not ?_
  | with_reducible refine' wt_yes ?_
  | with_reducible refine' we_chain ?_
  | with_reducible refine' we_chain3 ?_
  | with_reducible refine' we_revT ?_
  | with_reducible refine' we_revL ?_
  | with_reducible refine' we_bm ?_
  | with_reducible refine' we_bm0 ?_
  | with_reducible refine' ws_for ?_
  | with_reducible refine' we_lc ?_
  | with_reducible refine' wi_list ?_
  | with_reducible refine' wi_tup ?_
  | with_reducible refine' wi_T ?_
  | with_reducible refine' wi_rng1 ?_
  | with_reducible refine' wi_rng2 ?_
  | with_reducible refine' wi_rng3 ?_
  | with_reducible refine' wi_enum ?_
  | with_reducible refine' wi_enumT ?_
  | with_reducible refine' wi_zip ?_
  | with_reducible refine' wg_name ?_
  | with_reducible refine' wg_sub ?_
  | with_reducible refine' wgs_nil ?_
  | with_reducible refine' wgs_cons ?_
  | ((with_reducible refine' wg_tup ?ht ?hn ?_); (case ht => walk_at "ist"); (case hn => rfl))
  | with_reducible refine' w2_add ?_
  | with_reducible refine' w2_sub ?_
  | with_reducible refine' w2_lt ?_
  | with_reducible refine' w2_le ?_
  | with_reducible refine' w2_gt ?_
  | with_reducible refine' w2_ge ?_
  | with_reducible refine' w2_eqI ?_
  | with_reducible refine' w2_neI ?_
  | with_reducible refine' w2_eqT ?_
  | with_reducible refine' w2_neT ?_
  | with_reducible refine' w2_eqB ?_
  | with_reducible refine' w2_neB ?_
  | with_reducible refine' w2_isN ?_
  | with_reducible refine' w2_notN ?_
  | with_reducible refine' w2_isB ?_
  | with_reducible refine' w2_inT ?_
  | with_reducible refine' w1_neg ?_
  | with_reducible refine' wl_abs ?_
  | with_reducible refine' wl_max2 ?_
  | with_reducible refine' wl_min2 ?_
  | with_reducible refine' wl_intB ?_
  | ((with_reducible refine' w2_div ?h ?_); case h => first | omega | (constructor <;> omega))
  | ((with_reducible refine' w2_mod ?h ?_); case h => omega)
  | ((with_reducible refine' w2_catT ?h ?_); case h => walk_at "len")
  | ((with_reducible refine' wsl_T ?h ?_); case h => walk_at "len")
  | ((with_reducible refine' wl_lenT ?h ?_); case h => walk_at "len")
  | ((with_reducible refine' wl_len ?h ?_); case h => walk_at "isl")
  | ((with_reducible refine' wl_len ?h ?_); case h => walk_at "isl")
  | ((with_reducible refine' wm_append ?sw ?hl ?_); (case sw => walk_at "swap"); (case hl => walk_at "len")))
local macro_rules | `(tactic| walk_at "b1") => `(tactic| first | with_reducible refine' ws_seq ?_ | walk_at "b0")
local macro_rules | `(tactic| walk_at "bx") => `(tactic| first
  | refine ⟨_, rfl, ?_⟩
  | refine ⟨_, _, rfl, ?_⟩
  | refine ⟨ty_L (by walk_at "isl"), ?_⟩
  | refine ⟨ty_S, ?_⟩
  | refine spl_t (by rfl) ?_
  | refine spl_f (by rfl) ?_
  | exact rfl)
local macro_rules | `(tactic| walk_at "bm") => `(tactic| repeat (first | walk_at "b1" | walk_at "bx"))
local macro_rules | `(tactic| walk_at "bn") => `(tactic| repeat (first | walk_at "b0" | walk_at "bx"))
local macro_rules | `(tactic| walk_at "b0") => `(tactic| with_reducible refine' c_deepens ?_)
local macro_rules | `(tactic| walk_at "b0") => `(tactic| ((with_reducible refine' c_depths_of ?hl ?_); (case hl => walk_at "len")))
local macro_rules | `(tactic| walk_at "b0") => `(tactic| with_reducible refine' c_is_wholeI ?_)
local macro_rules | `(tactic| walk_at "b0") => `(tactic| with_reducible refine' c_flipped ?_)
local macro_rules | `(tactic| walk_at "b0") => `(tactic| ((with_reducible refine' c_is_right_row ?hl ?_); (case hl => walk_at "len")))
local macro_rules | `(tactic| walk_at "b0") => `(tactic| ((with_reducible refine' c_asked_row ?hl ?_); (case hl => walk_at "len")))
local macro_rules | `(tactic| walk_at "b0") => `(tactic| ((with_reducible refine' c_depths ?hl ?_); (case hl => walk_at "len")))
local macro_rules | `(tactic| walk_at "b0") => `(tactic| ((with_reducible refine' c_is_right ?hl ?_); (case hl => walk_at "len")))
local macro_rules | `(tactic| walk_at "b0") => `(tactic| ((with_reducible refine' c__law_depths ?hl ?_); (case hl => walk_at "len")))
local macro_rules | `(tactic| walk_at "b0") => `(tactic| ((with_reducible refine' c__law_good ?hl ?_); (case hl => walk_at "len")))
local macro_rules | `(tactic| walk_at "b0") => `(tactic| ((with_reducible refine' wl_listOf ?hx ?_); (case hx => walk_at "isl")))
local macro_rules | `(tactic| walk_at "b0") => `(tactic| with_reducible refine' w2_notB ?_)
local macro_rules | `(tactic| walk_at "own") => `(tactic| exact own_l (by walk_at "mem"))
local macro_rules | `(tactic| walk_at "b0") => `(tactic| with_reducible refine' we_fld ?_)
local macro_rules | `(tactic| walk_at "b0") => `(tactic| refine ⟨_, _, _, _, _, rfl, own_l (by walk_at "mem"), Grw.cl (by assumption), Grw.nr (by assumption), by rfl, ?_⟩)
local macro_rules | `(tactic| walk_at "b0") => `(tactic| refine ⟨_, _, _, _, _, rfl, fun H' o => o.ex _ _ (by assumption), Grw.cl (by assumption), Grw.nr (by assumption), by rfl, ?_⟩)
local macro_rules | `(tactic| walk_at "b0") => `(tactic| with_reducible refine' we_meth ?_)
local macro_rules | `(tactic| walk_at "b0") => `(tactic| refine ⟨_, _, _, rfl, own_l (by walk_at "mem"), by rfl, ?_⟩)
local macro_rules | `(tactic| walk_at "b0") => `(tactic| refine ⟨_, _, _, rfl, fun H' o => o.ex _ _ (by assumption), by rfl, ?_⟩)
local macro_rules | `(tactic| walk_at "gown") => `(tactic| first | exact own_l (by walk_at "mem") | exact fun H' o => o.ex _ _ (by assumption))
local macro_rules | `(tactic| walk_at "b0") => `(tactic| with_reducible refine' wm_countT ?_)
local macro_rules | `(tactic| walk_at "b0") => `(tactic| with_reducible refine' we_methU ?_)
theorem c_swaps_ev {K : PySem.W.Frag} {C : CA} {H0 : Hp} {s : Ld} {Q : V → Ld → Prop} {E : XK} {r : List Bool} (hX : Ex02 K C) (hl : r.length ≤ 40) (h0 : hgt r = 0) (q : ∀ x d a b ps u, swAll r ps = some u → isR u = true → (ps.length : Int) = pot r → Q (.ref x) ⟨(b, .lst (((dps r).map lf).map V.int)) :: (a, .lst (ps.map V.int)) :: (x, sIns C d a b) :: s.L, s.T⟩) : WC H0 (sp_swaps K C) E [.str (T r)] s Q := fun H o R k =>
  ⟨r, hX, rfl, hl, fun h => absurd h0 h, fun _ H' x d a b ps u e hx ha hb nd h1 h2 h3 hu hR hp => by
    have nb : b ∉ [a, x] := (List.nodup_cons.mp nd).1
    have na : a ∉ [x] := (List.nodup_cons.mp (List.nodup_cons.mp nd).2).1
    have w1 := own_add (o.ext e) (fresh_back o.ex hx) (own_key o hx) h1
    have w2 := own_add w1 (fresh_back o.ex ha) (fun hm => by
      rcases List.mem_cons.mp hm with z | hm
      · exact na (by rw [z]; exact List.mem_cons_self)
      · exact own_key o ha hm) h2
    have w3 := own_add w2 (fresh_back o.ex hb) (fun hm => by
      rcases List.mem_cons.mp hm with z | hm
      · exact nb (by rw [z]; exact List.mem_cons_self)
      rcases List.mem_cons.mp hm with z | hm
      · exact nb (by rw [z]; exact List.mem_cons_of_mem _ List.mem_cons_self)
      · exact own_key o hb hm) h3
    exact k _ _ _ w3 (q x d a b ps u hu hR hp)⟩
end BM
namespace BM
open PySem L2 Evl
/-! ### a sign many times -/
/-! ### rows met, as a dict -/
theorem nodup_len {α : Type} [DecidableEq α] : ∀ {l s : List α}, l.Nodup → (∀ x ∈ l, x ∈ s) → l.length ≤ s.length
  | [], s, _, _ => Nat.zero_le _
  | a :: l, s, h, hs => by
    have h1 := List.nodup_cons.mp h
    have ha := hs a List.mem_cons_self
    have ih := nodup_len (s := s.erase a) h1.2 fun x hx => (List.mem_erase_of_ne (fun e => h1.1 (by rw [← e]; exact hx))).mpr (hs x (List.mem_cons_of_mem _ hx))
    rw [List.length_erase_of_mem ha] at ih
    have : 0 < s.length := List.length_pos_of_mem ha
    rw [List.length_cons]
    omega
end BM
namespace BM
open PySem PySem.W PySem.Spec PySem.Calls PyProof.Rows Builtin L2 Evl NwA
/-- a class that has no __init__ but object's -/
structure Mk0 (K : PySem.W.Frag) (C : Addr) : Prop where
  makes : PySem.W.makesIn K C = true
  init : PySem.W.findIn K (.ref C) "__init__" = some (some (.builtin "object.__init__"))
  top : PySem.W.mroIn K C (.type "object") = some true
  kp : PySem.W.keepIn K (.ref C) = true
def tMk0 (C : Addr) : TE := fun _ H Q => ∀ x dx, H x = none → H dx = none → dx ≠ x → Q (.ref x) (upd (upd H dx (.own x)) x (.ins C dx []))
section
variable {X : Cx} {C : Addr} {pins : List (Addr × Obj)} {σ : L2.St} {H : Hp} {s : Shared} {Q : VK}
theorem run_mk0 (M : Mk0 X.K C) (I : Inv X pins σ H s) (h : tMk0 C σ H Q) : wpAny (model X.prog X.w) X.A (call (.ref C) []) (EP X pins σ Q) X.xe s := by
  have hq := h (s.heap.objs.size + 1) s.heap.objs.size (I.hok.fresh (Nat.le_succ _)) (I.hok.fresh (Nat.le_refl _)) (Nat.ne_of_lt (Nat.lt_succ_self _))
  have I2 := Inv.made (C := C) I
  have ho : ((s.heap.push PySem.W.emptyDict).push (PySem.W.instObj C s.heap.objs.size)).get? (s.heap.objs.size + 1) = some (PySem.W.instObj C s.heap.objs.size) := by
    have := Heap.get?_push_size (s.heap.push PySem.W.emptyDict) (o := PySem.W.instObj C s.heap.objs.size) rfl
    rw [Heap.size_push] at this
    exact this
  refine wpAny_call (make_map0 I.kIn M.makes M.init (fun self => Looks.of_pure (oi_bind _)) ?_)
  have t1 : Looks (model X.prog X.w) ((s.heap.push PySem.W.emptyDict).push (PySem.W.instObj C s.heap.objs.size)) (typeOf (.ref (s.heap.objs.size + 1))) (.ref C) := type_at ho rfl
  have t2 : Looks (model X.prog X.w) ((s.heap.push PySem.W.emptyDict).push (PySem.W.instObj C s.heap.objs.size)) (isInstance (.ref (s.heap.objs.size + 1)) (.type "object")) true := t1.andThen (looks_mroIn I2.kIn M.top)
  refine codeAny_call_builtin oi_plain entry_oi (@check_slot (model X.prog X.w) _ _ _ "object.__init__" "object" "__init__" (.ref (s.heap.objs.size + 1)) [] [] _ oi_kind oi_split t2 (oi_args_any _ [] []) ?_)
  rw [oi_run]
  exact wpAny_pure (And.intro rfl ⟨V.ref (s.heap.objs.size + 1), _, I2, rfl, hq⟩)
theorem pe_mk0 {x : Str} {p pos : Pos} (M : Mk0 X.K C) (hg : Gl X x) (hm : X.mg x = some (.ref C)) (hdb : (x == ("__debug__" : Str)) = false := by decide) : PE X (.Call (.Name x p) [] [] pos) (tMk0 C) := by
  refine ⟨fun pins s σ H Q I h => wpAny_Call_Name_kw (ld_glob I hg hm ?_ hdb)⟩
  exact PySem.W.callWith_K0 I.kIn M.kp (run_mk0 M I h)
end
theorem we_mk0 {H0 : Hp} {σ : L2.St} {s : Ld} {Q : V → Ld → Prop} {C : Addr} (h : ∀ x dx, H0 x = none → Q (.ref x) ⟨(x, .ins C dx []) :: (dx, .own x) :: s.L, s.T⟩) : WE H0 (tMk0 C) σ s Q := fun H o R k x dx hx hdx hne =>
  k _ _ _ ((o.new (u := .own x) hdx).new (u := .ins C dx []) (by rw [upd_ne hne.symm]; exact hx)) (h x dx (fresh_back o.ex hx))
end BM
namespace BM
open PySem PySem.Spec PyProof.Rows L2
/-! len(set(l)), l a list of ints, some perhaps more than once -/
theorem short_of {α : Type} [DecidableEq α] : ∀ {ns : List α}, ¬ ns.Nodup → ∃ ms : List α, ms.length < ns.length ∧ ∀ x ∈ ns, x ∈ ms
  | [], h => absurd List.nodup_nil h
  | a :: t, h => by
    by_cases ha : a ∈ t
    · exact ⟨t, by simp, fun x hx => by
        rcases List.mem_cons.mp hx with rfl | hx
        · exact ha
        · exact hx⟩
    · obtain ⟨ms, h1, h2⟩ := short_of (ns := t) fun hn => h (List.nodup_cons.mpr ⟨ha, hn⟩)
      exact ⟨a :: ms, by simp; exact h1, fun x hx => by
        rcases List.mem_cons.mp hx with rfl | hx
        · exact List.mem_cons_self
        · exact List.mem_cons_of_mem _ (h2 x hx)⟩
/-- not too long, and not too many different numbers -/
def Few (ns : List Int) : Prop := ns.length ≤ 80000 ∧ ∃ ms : List Int, ms.length ≤ 4000 ∧ ∀ x ∈ ns, x ∈ ms
theorem few_of {ns : List Int} (h : ns.length ≤ 4000) : Few ns := ⟨by omega, ns, h, fun _ h => h⟩
def tLenSetD (K : PySem.W.Frag) (te : TE) : TE := fun σ H Q => te σ H fun x H1 => ∃ (l : Addr) (ns : List Int), x = .ref l ∧ SqL K H1 l (ns.map V.int) ∧ Few ns ∧ ∀ c : Nat, c ≤ ns.length → (c = ns.length ↔ ns.Nodup) → Q (.int (c : Int)) H1
theorem pe_lenSetD {X : Cx} {a : Expr} {te : TE} {p p2 q pos : Pos} (hc : X.calm = true) (hg : Gl X "len") (hm : X.mg "len" = none) (hg2 : Gl X "set") (hm2 : X.mg "set" = none) (ha : PE X a te)
    (na : starEach [a] X.env = (false, eval a X.env) :: starEach [] X.env := by rfl) : PE X (.Call (.Name "len" p) [.Call (.Name "set" p2) [a] [] q] [] pos) (tLenSetD X.K te) := by
  refine ⟨fun pins s σ H Q I h => ?_⟩
  refine Call_ (ld_blt I hg hm boot_len (callWith_builtin1 (args_cons ?_ rfl) rfl rfl))
  refine Call_ (ld_blt I hg2 hm2 boot_set (callWith_type1 (args_cons (L2.thn (ha.run pins s σ H _ I h) fun v s1 ⟨x, H1, I1, r1, q1⟩ => args_nil ?_) na) na rfl))
  obtain ⟨l, ns, rfl, hq, hl, q1⟩ := q1
  cases r1
  obtain ⟨its, r, pl, hz⟩ := I1.list hq
  obtain ⟨hfl, ms, hml, hms⟩ := hl
  refine call_set_lstI ns ms (I1.ok.hd hc) pl.isList (ints_of_vals r) hms (by unfold scanBound; omega) fun h2 tk c R1 hcn k => args_nil ?_
  obtain ⟨o, es, ep, t, ho, hex, hd, _, hnd, hm3, _, hf, hn, _⟩ := R1
  have I2 : Inv X pins σ H1 { s1 with heap := h2, toks := tk } := I1.kept fun b o e => k b o e
  have hkl : (es.toList.map keyOf).length = c := by rw [List.length_map, Array.length_toList, hn]
  have hmem : ∀ z, z ∈ es.toList.map keyOf ↔ z ∈ ns := fun z => by rw [← hm3 z, decide_eq_true_eq]
  refine call_len_set ho hex hd hf (by rw [hn] <;> omega) ⟨.int c, H1, I2.tok _, ⟨_, by rw [hn]⟩, q1 c hcn ⟨fun e => ?_, fun e => ?_⟩⟩
  · refine Classical.byContradiction fun hh => ?_
    obtain ⟨ms, h3, h4⟩ := short_of hh
    have := nodup_len hnd fun x hx => h4 x ((hmem x).mp hx)
    omega
  · have := nodup_len e fun x hx => (hmem x).mpr hx
    omega
open Evl in
theorem we_lenSetD {K : PySem.W.Frag} {H0 : Hp} {σ : L2.St} {s : Ld} {te : TE} {Q : V → Ld → Prop} (h : WE H0 te σ s fun x s1 => ∃ (l : Addr) (ns : List Int), x = .ref l ∧ IsL K H0 s1 l (ns.map V.int) ∧ Few ns ∧ ∀ c : Nat, c ≤ ns.length → (c = ns.length ↔ ns.Nodup) → Q (.int (c : Int)) s1) : WE H0 (tLenSetD K te) σ s Q := fun H o R k =>
  h H o _ fun x H1 s1 o1 ⟨l, ns, e, h1, h2, q⟩ => ⟨l, ns, e, h1 H1 o1, h2, fun c h3 h4 => k _ _ _ o1 (q c h3 h4)⟩
end BM
namespace BM
/-! ### turned brackets: what they give to a depth -/
def cnl (ps : List Nat) (j : Nat) : Nat := (ps.filter fun p => decide (p < j)).length
theorem cnl_app (a b : List Nat) (j : Nat) : cnl (a ++ b) j = cnl a j + cnl b j := by
  unfold cnl
  rw [List.filter_append, List.length_append]
theorem cnl_zero (ps : List Nat) : cnl ps 0 = 0 := by
  unfold cnl
  rw [List.length_eq_zero_iff, List.filter_eq_nil_iff]
  intro p _
  simp
theorem cnl_succ : ∀ {ps : List Nat} (j : Nat), ps.Nodup → cnl ps (j + 1) = cnl ps j + if j ∈ ps then 1 else 0
  | [], j, _ => rfl
  | p :: ps, j, h => by
    have h1 := List.nodup_cons.mp h
    have ih := cnl_succ (ps := ps) j h1.2
    unfold cnl at ih ⊢
    simp only [List.filter_cons]
    by_cases e : p = j
    · subst e
      rw [if_pos (by simp), if_neg (by simp), List.length_cons, ih, if_neg h1.1, if_pos List.mem_cons_self]
    · have hm : (j ∈ p :: ps) = (j ∈ ps) := by
        apply propext
        rw [List.mem_cons]
        exact ⟨fun h => h.resolve_left fun e2 => e e2.symm, fun h => .inr h⟩
      by_cases hp : p < j
      · rw [if_pos (by simp; omega), if_pos (by simpa using hp), List.length_cons, List.length_cons, ih]
        simp only [hm]
        omega
      · rw [if_neg (by simp; omega), if_neg (by simpa using hp), ih]
        simp only [hm]
theorem cnl_all {ps : List Nat} {j : Nat} (h : ∀ p ∈ ps, p < j) : cnl ps j = ps.length := by
  unfold cnl
  rw [List.filter_eq_self.mpr]
  intro p hp
  simpa using h p hp
theorem cnl_none {ps : List Nat} {j : Nat} (h : ∀ p ∈ ps, j ≤ p) : cnl ps j = 0 := by
  unfold cnl
  rw [List.length_eq_zero_iff, List.filter_eq_nil_iff]
  intro p hp
  have := h p hp
  simp
  omega
abbrev inz (ps : List Nat) : List Int := ps.map Int.ofNat
theorem mem_inz {ps : List Nat} {j : Nat} : ((j : Nat) : Int) ∈ inz ps ↔ j ∈ ps := by
  rw [List.mem_map]
  exact ⟨fun ⟨a, h, e⟩ => by have : a = j := Int.ofNat.inj e; rw [← this]; exact h, fun h => ⟨j, h, rfl⟩⟩
theorem flp_at {r : List Bool} {ps : List Int} {j : Nat} {b : Bool} (h : r[j]? = some b) : (flp ps r)[j]? = some (if (j : Int) ∈ ps then !b else b) := by
  unfold flp
  rw [List.getElem?_mapIdx, h]
  rfl
/-- closing brackets at A turned, opening ones at B -/
theorem hgt_flp {r : List Bool} {A B : List Nat} (nA : A.Nodup) (nB : B.Nodup) (dj : ∀ p ∈ A, p ∉ B) (hA : ∀ p ∈ A, r[p]? = some false) (hB : ∀ p ∈ B, r[p]? = some true) :
    ∀ j, j ≤ r.length → hgt ((flp (inz (A ++ B)) r).take j) = hgt (r.take j) + 2 * (cnl A j : Int) - 2 * (cnl B j : Int)
  | 0, _ => by
    rw [cnl_zero, cnl_zero]
    rfl
  | j + 1, hj => by
    have ih := hgt_flp nA nB dj hA hB j (by omega)
    obtain ⟨b, hb⟩ : ∃ b, r[j]? = some b := ⟨_, List.getElem?_eq_getElem (by omega)⟩
    have hf := flp_at (ps := inz (A ++ B)) hb
    rw [take_snoc hf, take_snoc hb, hgt_app, hgt_app, ih, cnl_succ j nA, cnl_succ j nB]
    have hm : (((j : Nat) : Int) ∈ inz (A ++ B)) ↔ (j ∈ A ∨ j ∈ B) := by rw [mem_inz, List.mem_append]
    by_cases h1 : j ∈ A
    · have h2 := dj j h1
      have hb2 := hA j h1
      rw [hb] at hb2
      cases hb2
      rw [if_pos (hm.mpr (.inl h1)), if_pos h1, if_neg h2]
      simp [hgt, sg]
      omega
    · by_cases h2 : j ∈ B
      · have hb2 := hB j h2
        rw [hb] at hb2
        cases hb2
        rw [if_pos (hm.mpr (.inr h2)), if_neg h1, if_pos h2]
        simp [hgt, sg]
        omega
      · rw [if_neg (fun h => (hm.mp h).elim h1 h2), if_neg h1, if_neg h2]
        omega
/-- least depth so far, and from here on -/
def rm (r : List Bool) : Nat → Int
  | 0 => 0
  | i + 1 => min (rm r i) (hgt (r.take (i + 1)))
theorem rm_le (r : List Bool) : ∀ {i j : Nat}, j ≤ i → rm r i ≤ hgt (r.take j)
  | 0, j, h => by
    rw [Nat.le_zero.mp h]
    exact Int.le_refl 0
  | i + 1, j, h => by
    show min (rm r i) (hgt (r.take (i + 1))) ≤ _
    rcases Nat.lt_or_ge j (i + 1) with h1 | h1
    · have := rm_le r (show j ≤ i by omega)
      omega
    · rw [show j = i + 1 by omega]
      omega
def isC (r : List Bool) (p : Nat) : Bool := decide (r[p]? = some false) && decide (hgt (r.take (p + 1)) = rm r (p + 1))
def clos (r : List Bool) (c : Nat) : List Nat := (List.range c).filter (isC r)
theorem clos_succ (r : List Bool) (c : Nat) : clos r (c + 1) = clos r c ++ if isC r c = true then [c] else [] := by
  unfold clos
  rw [List.range_succ, List.filter_append]
  congr 1
  simp only [List.filter_cons, List.filter_nil]
theorem rm_clos (r : List Bool) : ∀ i, i ≤ r.length → -((clos r i).length : Int) ≤ rm r i
  | 0, _ => Int.le_refl 0
  | i + 1, h => by
    have ih := rm_clos r i (by omega)
    obtain ⟨b, hb⟩ : ∃ b, r[i]? = some b := ⟨_, List.getElem?_eq_getElem (by omega)⟩
    have e : hgt (r.take (i + 1)) = hgt (r.take i) + sg b := by rw [take_snoc hb, hgt_app]; simp [hgt]
    have hle := rm_le r (Nat.le_refl i)
    rw [clos_succ, List.length_append]
    have er : rm r (i + 1) = min (rm r i) (hgt (r.take (i + 1))) := rfl
    by_cases hc : isC r i = true
    · rw [if_pos hc]
      have : hgt (r.take (i + 1)) ≥ hgt (r.take i) - 1 := by cases b <;> simp [sg] at e <;> omega
      simp
      omega
    · rw [if_neg hc]
      have : rm r (i + 1) = rm r i := by
        rcases Int.lt_or_le (hgt (r.take (i + 1))) (rm r i) with h1 | h1
        · exfalso
          apply hc
          have hb2 : b = false := by
            cases b
            · rfl
            · simp only [sg, if_true] at e
              omega
          unfold isC
          rw [hb, hb2, decide_eq_true (show hgt (r.take (i + 1)) = rm r (i + 1) by omega)]
          rfl
        · omega
      simp
      omega
def smd (r : List Bool) : Nat → Int
  | 0 => hgt r
  | d + 1 => min (hgt (r.take (r.length - (d + 1)))) (smd r d)
theorem smd_le (r : List Bool) : ∀ {d e : Nat}, e ≤ d → smd r d ≤ hgt (r.take (r.length - e))
  | 0, e, h => by
    rw [Nat.le_zero.mp h, Nat.sub_zero, List.take_length]
    exact Int.le_refl _
  | d + 1, e, h => by
    show min (hgt (r.take (r.length - (d + 1)))) (smd r d) ≤ _
    rcases Nat.lt_or_ge e (d + 1) with h1 | h1
    · have := smd_le r (show e ≤ d by omega)
      omega
    · rw [show e = d + 1 by omega]
      omega
def isO (r : List Bool) (p : Nat) : Bool := decide (r[p]? = some true) && decide (hgt (r.take p) = smd r (r.length - p))
def opd (r : List Bool) : Nat → List Nat
  | 0 => []
  | d + 1 => (if isO r (r.length - (d + 1)) = true then [r.length - (d + 1)] else []) ++ opd r d
theorem opd_ge (r : List Bool) : ∀ {d : Nat} {p : Nat}, p ∈ opd r d → r.length - d ≤ p ∧ p < r.length ∧ r[p]? = some true
  | 0, p, h => by cases h
  | d + 1, p, h => by
    rcases List.mem_append.mp h with h | h
    · split at h
      · rename_i hO
        have e := List.mem_singleton.mp h
        subst e
        unfold isO at hO
        have h1 := of_decide_eq_true (Bool.and_eq_true_iff.mp hO).1
        exact ⟨by omega, (List.getElem?_eq_some_iff.mp h1).1, h1⟩
      · cases h
    · have := opd_ge r h
      exact ⟨by omega, this.2⟩
theorem opd_nodup (r : List Bool) : ∀ {d : Nat}, d ≤ r.length → (opd r d).Nodup
  | 0, _ => List.nodup_nil
  | d + 1, h => by
    have ih := opd_nodup r (d := d) (by omega)
    show ((if isO r (r.length - (d + 1)) = true then [r.length - (d + 1)] else []) ++ opd r d).Nodup
    split
    · refine List.nodup_cons.mpr ⟨fun hm => ?_, ih⟩
      have := (opd_ge r hm).1
      omega
    · exact ih
theorem smd_opd (r : List Bool) : ∀ d, d ≤ r.length → hgt r - smd r d ≤ ((opd r d).length : Int)
  | 0, _ => by show hgt r - hgt r ≤ 0; omega
  | d + 1, h => by
    have ih := smd_opd r d (by omega)
    obtain ⟨b, hb⟩ : ∃ b, r[r.length - (d + 1)]? = some b := ⟨_, List.getElem?_eq_getElem (by omega)⟩
    have e : hgt (r.take (r.length - d)) = hgt (r.take (r.length - (d + 1))) + sg b := by
      have := take_snoc hb
      rw [show r.length - (d + 1) + 1 = r.length - d by omega] at this
      rw [this, hgt_app]
      simp [hgt]
    have hle := smd_le r (Nat.le_refl d)
    have er : smd r (d + 1) = min (hgt (r.take (r.length - (d + 1)))) (smd r d) := rfl
    show hgt r - smd r (d + 1) ≤ (((if isO r (r.length - (d + 1)) = true then [r.length - (d + 1)] else []) ++ opd r d).length : Int)
    rw [List.length_append]
    by_cases hc : isO r (r.length - (d + 1)) = true
    · rw [if_pos hc]
      have : hgt (r.take (r.length - (d + 1))) ≥ hgt (r.take (r.length - d)) - 1 := by cases b <;> simp [sg] at e <;> omega
      simp
      omega
    · rw [if_neg hc]
      have : smd r (d + 1) = smd r d := by
        rcases Int.lt_or_le (hgt (r.take (r.length - (d + 1)))) (smd r d) with h1 | h1
        · exfalso
          apply hc
          have hb2 : b = true := by
            cases b
            · simp only [sg, Bool.false_eq_true, if_false] at e
              omega
            · rfl
          unfold isO
          rw [hb, hb2, show r.length - (r.length - (d + 1)) = d + 1 by omega, decide_eq_true (show hgt (r.take (r.length - (d + 1))) = smd r (d + 1) by omega)]
          rfl
        · omega
      simp
      omega
theorem clos_mem {r : List Bool} {c p : Nat} (h : p ∈ clos r c) : p < c ∧ r[p]? = some false := by
  obtain ⟨h1, h2⟩ := List.mem_filter.mp h
  exact ⟨List.mem_range.mp h1, of_decide_eq_true (Bool.and_eq_true_iff.mp h2).1⟩
theorem clos_nodup (r : List Bool) (c : Nat) : (clos r c).Nodup := List.Nodup.sublist List.filter_sublist List.nodup_range
theorem clos_split (r : List Bool) {c j : Nat} (h : j ≤ c) : ∃ L, clos r c = clos r j ++ L ∧ ∀ p ∈ L, j ≤ p := by
  induction c with
  | zero => exact ⟨[], by rw [Nat.le_zero.mp h, List.append_nil], fun p hp => by cases hp⟩
  | succ c ih =>
    rcases Nat.lt_or_ge j (c + 1) with h1 | h1
    · obtain ⟨L, e, hL⟩ := ih (by omega)
      refine ⟨L ++ (if isC r c = true then [c] else []), by rw [clos_succ, e, List.append_assoc], fun p hp => ?_⟩
      rcases List.mem_append.mp hp with hp | hp
      · exact hL p hp
      · split at hp
        · rw [List.mem_singleton.mp hp]
          omega
        · cases hp
    · exact ⟨[], by rw [show j = c + 1 by omega, List.append_nil], fun p hp => by cases hp⟩
theorem opd_split (r : List Bool) {d e : Nat} (h : e ≤ d) (hd : d ≤ r.length) : ∃ S, opd r d = S ++ opd r e ∧ ∀ p ∈ S, p < r.length - e := by
  induction d with
  | zero => exact ⟨[], by rw [Nat.le_zero.mp h]; rfl, fun p hp => by cases hp⟩
  | succ d ih =>
    rcases Nat.lt_or_ge e (d + 1) with h1 | h1
    · obtain ⟨S, eS, hS⟩ := ih (by omega) (by omega)
      refine ⟨(if isO r (r.length - (d + 1)) = true then [r.length - (d + 1)] else []) ++ S, by rw [List.append_assoc, ← eS]; rfl, fun p hp => ?_⟩
      rcases List.mem_append.mp hp with hp | hp
      · split at hp
        · rw [List.mem_singleton.mp hp]
          omega
        · cases hp
      · exact hS p hp
    · exact ⟨[], by rw [show e = d + 1 by omega]; rfl, fun p hp => by cases hp⟩
theorem rm_low {r : List Bool} {c : Nat} (h : ∀ j, j ≤ r.length → hgt (r.take c) ≤ hgt (r.take j)) (hc : c ≤ r.length) : rm r c = hgt (r.take c) := by
  have h1 := rm_le r (Nat.le_refl c)
  have h2 : ∀ i, i ≤ r.length → hgt (r.take c) ≤ rm r i := by
    intro i
    induction i with
    | zero => intro _; have := h 0 (Nat.zero_le _); exact this
    | succ i ih =>
      intro hi
      have a := ih (by omega)
      have b := h (i + 1) hi
      show _ ≤ min (rm r i) (hgt (r.take (i + 1)))
      omega
  have := h2 c hc
  omega
theorem smd_low {r : List Bool} {c : Nat} (h : ∀ j, j ≤ r.length → hgt (r.take c) ≤ hgt (r.take j)) (hc : c ≤ r.length) : smd r (r.length - c) = hgt (r.take c) := by
  have h1 := smd_le r (Nat.le_refl (r.length - c))
  rw [show r.length - (r.length - c) = c by omega] at h1
  have h2 : ∀ d, d ≤ r.length → hgt (r.take c) ≤ smd r d := by
    intro d
    induction d with
    | zero =>
      intro _
      have := h r.length (Nat.le_refl _)
      rw [List.take_length] at this
      exact this
    | succ d ih =>
      intro hd
      have a := ih (by omega)
      have b := h (r.length - (d + 1)) (by omega)
      show _ ≤ min (hgt (r.take (r.length - (d + 1)))) (smd r d)
      omega
  have := h2 (r.length - c) (by omega)
  omega
/-- the turned brackets mend the row -/
theorem turn_mend {r : List Bool} {c : Nat} (hc : c ≤ r.length) (hev : r.length % 2 = 0) (hmin : ∀ j, j ≤ r.length → hgt (r.take c) ≤ hgt (r.take j)) {many more : Nat} (hm : (many : Int) = (-hgt (r.take c) + 1) / 2) (ho : (more : Int) = (hgt r - hgt (r.take c) + 1) / 2) :
    many ≤ (clos r c).length ∧ more ≤ (opd r (r.length - c)).length ∧ isR (flp (inz ((clos r c).take many ++ (opd r (r.length - c)).drop ((opd r (r.length - c)).length - more))) r) = true := by
  have h0 := hmin 0 (Nat.zero_le _)
  have e0 : hgt (r.take 0) = 0 := rfl
  have hn := hmin r.length (Nat.le_refl _)
  rw [List.take_length] at hn
  have hpar := hgt_par7 r
  have k1 := rm_clos r c hc
  rw [rm_low hmin hc] at k1
  have k2 := smd_opd r (r.length - c) (by omega)
  rw [smd_low hmin hc] at k2
  have hmc : many ≤ (clos r c).length := by omega
  have hmo : more ≤ (opd r (r.length - c)).length := by omega
  refine ⟨hmc, hmo, ?_⟩
  obtain ⟨A, hA⟩ : ∃ A, (clos r c).take many = A := ⟨_, rfl⟩
  obtain ⟨B, hB⟩ : ∃ B, (opd r (r.length - c)).drop ((opd r (r.length - c)).length - more) = B := ⟨_, rfl⟩
  rw [hA, hB]
  have lA : A.length = many := by rw [← hA, List.length_take]; omega
  have lB : B.length = more := by rw [← hB, List.length_drop]; omega
  have mA : ∀ p ∈ A, p < c ∧ r[p]? = some false := fun p hp => clos_mem (List.take_subset _ _ (hA ▸ hp))
  have mB : ∀ p ∈ B, c ≤ p ∧ p < r.length ∧ r[p]? = some true := fun p hp => by
    have := opd_ge r (List.drop_subset _ _ (hB ▸ hp))
    rw [show r.length - (r.length - c) = c by omega] at this
    exact this
  have nA : A.Nodup := hA ▸ List.Nodup.sublist (List.take_sublist _ _) (clos_nodup r c)
  have nB : B.Nodup := hB ▸ List.Nodup.sublist (List.drop_sublist _ _) (opd_nodup r (by omega))
  have F := hgt_flp nA nB (fun p hp hq => by have := (mA p hp).1; have := (mB p hq).1; omega) (fun p hp => (mA p hp).2) (fun p hp => (mB p hp).2.2)
  rw [isR_iff]
  have hlen : (flp (inz (A ++ B)) r).length = r.length := flp_len _ _
  have tot : hgt (flp (inz (A ++ B)) r) = 0 := by
    have := F r.length (Nat.le_refl _)
    rw [← hlen, List.take_length, hlen, List.take_length, cnl_all (fun p hp => by have := (mA p hp).1; omega), cnl_all (fun p hp => (mB p hp).2.1), lA, lB] at this
    omega
  refine ⟨tot, fun j hj => ?_⟩
  rw [hlen] at hj
  rw [F j hj]
  rcases Nat.le_total j c with h1 | h1
  · have b0 : cnl B j = 0 := cnl_none fun p hp => by have := (mB p hp).1; omega
    rw [b0]
    obtain ⟨L, eL, hL⟩ := clos_split r h1
    have a0 : cnl A j = min many (clos r j).length := by
      rw [← hA, eL, List.take_append, cnl_app, cnl_all (fun p hp => (clos_mem (List.take_subset _ _ hp)).1), cnl_none (fun p hp => hL p (List.take_subset _ _ hp)), List.length_take]
      omega
    rw [a0]
    have g1 := rm_clos r j hj
    have g2 := rm_le r (Nat.le_refl j)
    have g3 := hmin j hj
    omega
  · have a0 : cnl A j = many := by
      rw [cnl_all (fun p hp => by have := (mA p hp).1; omega), lA]
    rw [a0]
    obtain ⟨S, eS, hS⟩ := opd_split r (show r.length - j ≤ r.length - c by omega) (by omega)
    rw [show r.length - (r.length - j) = j by omega] at hS
    have lS : (opd r (r.length - c)).length = S.length + (opd r (r.length - j)).length := by rw [eS, List.length_append]
    have b0 : cnl B j = more - min more (opd r (r.length - j)).length := by
      rw [← hB, lS, eS, List.drop_append, cnl_app, cnl_all (fun p hp => hS p (List.drop_subset _ _ hp)), cnl_none (fun p hp => by
        have := (opd_ge r (List.drop_subset _ _ hp)).1
        omega), List.length_drop]
      omega
    rw [b0]
    have g1 := smd_opd r (r.length - j) (by omega)
    have g2 := smd_le r (Nat.le_refl (r.length - j))
    rw [show r.length - (r.length - j) = j by omega] at g2
    have g3 := hmin j hj
    have tt : hgt r + 2 * (many : Int) - 2 * (more : Int) = 0 := by omega
    omega
end BM
namespace BM
theorem rm_att (r : List Bool) : ∀ i, ∃ j, j ≤ i ∧ rm r i = hgt (r.take j)
  | 0 => ⟨0, Nat.le_refl _, rfl⟩
  | i + 1 => by
    obtain ⟨j, hj, e⟩ := rm_att r i
    have er : rm r (i + 1) = min (rm r i) (hgt (r.take (i + 1))) := rfl
    rcases Int.le_total (rm r i) (hgt (r.take (i + 1))) with h | h
    · exact ⟨j, by omega, by omega⟩
    · exact ⟨i + 1, Nat.le_refl _, by omega⟩
theorem smd_att (r : List Bool) : ∀ d, ∃ e, e ≤ d ∧ smd r d = hgt (r.take (r.length - e))
  | 0 => ⟨0, Nat.le_refl _, by rw [Nat.sub_zero, List.take_length]; rfl⟩
  | d + 1 => by
    obtain ⟨j, hj, e⟩ := smd_att r d
    have er : smd r (d + 1) = min (hgt (r.take (r.length - (d + 1)))) (smd r d) := rfl
    rcases Int.le_total (smd r d) (hgt (r.take (r.length - (d + 1)))) with h | h
    · exact ⟨j, by omega, by omega⟩
    · exact ⟨d + 1, Nat.le_refl _, by omega⟩
theorem rm_min {r : List Bool} {i : Nat} {m : Int} (hi : i ≤ r.length) (h1 : m ∈ (dps r).take (i + 1)) (h2 : ∀ y ∈ (dps r).take (i + 1), m ≤ y) : m = rm r i := by
  have mem : ∀ j, j ≤ i → hgt (r.take j) ∈ (dps r).take (i + 1) := fun j hj => List.mem_iff_getElem?.mpr ⟨j, by rw [List.getElem?_take, if_pos (by omega), dps_get (by omega)]⟩
  obtain ⟨j, hj⟩ := List.mem_iff_getElem?.mp h1
  rw [List.getElem?_take] at hj
  split at hj
  · rename_i hlt
    rw [dps_get (by omega)] at hj
    have e := Option.some.inj hj
    have a := rm_le r (show j ≤ i by omega)
    obtain ⟨k, hk, ek⟩ := rm_att r i
    have b := h2 _ (mem k hk)
    omega
  · cases hj
theorem smd_min {r : List Bool} {c : Nat} {m : Int} (hc : c ≤ r.length) (h1 : m ∈ (dps r).drop c) (h2 : ∀ y ∈ (dps r).drop c, m ≤ y) : m = smd r (r.length - c) := by
  have mem : ∀ j, c ≤ j → j ≤ r.length → hgt (r.take j) ∈ (dps r).drop c := fun j hj hl => List.mem_iff_getElem?.mpr ⟨j - c, by rw [List.getElem?_drop, show c + (j - c) = j by omega, dps_get hl]⟩
  obtain ⟨j, hj⟩ := List.mem_iff_getElem?.mp h1
  rw [List.getElem?_drop] at hj
  have hjl : c + j ≤ r.length := by
    have := (List.getElem?_eq_some_iff.mp hj).1
    rw [dps_len] at this
    omega
  rw [dps_get hjl] at hj
  have e := Option.some.inj hj
  have a := smd_le r (show r.length - (c + j) ≤ r.length - c by omega)
  rw [show r.length - (r.length - (c + j)) = c + j by omega] at a
  obtain ⟨k, hk, ek⟩ := smd_att r (r.length - c)
  have b := h2 _ (mem (r.length - k) (by omega) (by omega))
  omega
/-- the opening brackets met from c on, i places -/
def segO (r : List Bool) (c i : Nat) : List Nat := ((List.range i).filter fun k => isO r (c + k)).map (c + ·)
theorem segO_succ (r : List Bool) (c i : Nat) : segO r c (i + 1) = segO r c i ++ if isO r (c + i) = true then [c + i] else [] := by
  unfold segO
  rw [List.range_succ, List.filter_append, List.map_append]
  congr 1
  simp only [List.filter_cons, List.filter_nil]
  split <;> rfl
theorem segO_opd (r : List Bool) {c : Nat} : ∀ i, c + i ≤ r.length → segO r c i ++ opd r (r.length - (c + i)) = opd r (r.length - c)
  | 0, _ => rfl
  | i + 1, h => by
    have ih := segO_opd r (c := c) i (by omega)
    have this : r.length - (c + i) = r.length - (c + (i + 1)) + 1 := by omega
    have e : opd r (r.length - (c + i)) = (if isO r (c + i) = true then [c + i] else []) ++ opd r (r.length - (c + (i + 1))) := by
      rw [this]
      show (if isO r (r.length - (r.length - (c + (i + 1)) + 1)) = true then [r.length - (r.length - (c + (i + 1)) + 1)] else []) ++ opd r (r.length - (c + (i + 1))) = _
      rw [show r.length - (r.length - (c + (i + 1)) + 1) = c + i by omega]
    rw [segO_succ, List.append_assoc, ← e, ih]
theorem segO_all (r : List Bool) {c : Nat} (hc : c ≤ r.length) : segO r c (r.length - c) = opd r (r.length - c) := by
  have := segO_opd r (c := c) (r.length - c) (by omega)
  rw [show r.length - (c + (r.length - c)) = 0 by omega] at this
  rw [← this]
  show _ = _ ++ []
  rw [List.append_nil]
theorem segO_len (r : List Bool) (c i : Nat) : (segO r c i).length ≤ i := by
  unfold segO
  rw [List.length_map]
  exact Nat.le_trans (List.length_filter_le _ _) (by rw [List.length_range]; exact Nat.le_refl _)
theorem clos_len (r : List Bool) (c : Nat) : (clos r c).length ≤ c := by
  unfold clos
  exact Nat.le_trans (List.length_filter_le _ _) (by rw [List.length_range]; exact Nat.le_refl _)
end BM
namespace BM
open PySem L2 Evl
abbrev oIns (C : CA) (d : Addr) : HO := .ins C.c_Odd d []
abbrev tIns (C : CA) (d a : Addr) (z : Int) : HO := .ins C.c_Turned d [("places", .ref a), ("cut", .int z)]
structure TnC (K : PySem.W.Frag) (C : CA) : Prop where
  c : Anc K C.c_Turned
  np : NoAttr K C.c_Turned "places"
  nc : NoAttr K C.c_Turned "cut"
structure Ex03 (K : PySem.W.Frag) (C : CA) : Prop where
  o : Anc K C.c_Odd
  t : TnC K C
  oa : PySem.W.kitOne K (.ref C.c_Odd) (.ref C.c_Answer) = some true
  ta : PySem.W.kitOne K (.ref C.c_Turned) (.ref C.c_Answer) = some true
  os : PySem.W.kitOne K (.ref C.c_Odd) (.ref C.c_Swapped) = some false
  ts : PySem.W.kitOne K (.ref C.c_Turned) (.ref C.c_Swapped) = some false
  ou : PySem.W.kitOne K (.ref C.c_Odd) (.ref C.c_Uneven) = some false
  tu : PySem.W.kitOne K (.ref C.c_Turned) (.ref C.c_Uneven) = some false
  or' : PySem.W.kitOne K (.ref C.c_Odd) (.ref C.c_Rounded) = some false
  tr : PySem.W.kitOne K (.ref C.c_Turned) (.ref C.c_Rounded) = some false
  ot : PySem.W.kitOne K (.ref C.c_Odd) (.ref C.c_Turned) = some false
  to : PySem.W.kitOne K (.ref C.c_Turned) (.ref C.c_Odd) = some false
def odSh (r : List Bool) : Bool := decide ((r.length : Int) % 2 = 1)
def pos (z : Int) : Int := if z > 0 then z else 0
def tnNum (r : List Bool) (z : Int) : Int := (pos (-hgt (r.take z.toNat)) + 1) / 2 + (pos (hgt r - hgt (r.take z.toNat)) + 1) / 2
def tnSh (r : List Bool) (ps : List Int) (z : Int) : Bool := decide (∀ p ∈ ps, 0 ≤ p ∧ p < (r.length : Int)) && (decide ps.Nodup && (isR (flp ps r) && (decide (0 ≤ z ∧ z ≤ (r.length : Int)) && decide ((ps.length : Int) = tnNum r z))))
def sp_o_shows (K : PySem.W.Frag) (C : CA) : Sp := spV fun vs H v => ∃ (x : V) (r : List Bool), vs = [x, .str (T r)] ∧ r.length ≤ 1000 ∧ v = .bl (odSh r)
def sp_t_init (K : PySem.W.Frag) (C : CA) : Sp := fun vs H Q _ => ∃ (x d a : Addr) (ps : List Int) (z : Int), TnC K C ∧ vs = [.ref x, .ref a, .int z] ∧ H x = some (.ins C.c_Turned d []) ∧ SqL K H a (ps.map V.int) ∧ a ≠ x ∧
  ∀ H' a2, Ex (del x H) H' → del x H a2 = none → [a2, x].Nodup → H' x = some (tIns C d a2 z) → H' a2 = some (.lst (ps.map V.int)) → Q .non H'
def sp_t_shows (K : PySem.W.Frag) (C : CA) : Sp := spV fun vs H v => ∃ (g d a : Addr) (ps : List Int) (z : Int) (r : List Bool), TnC K C ∧ vs = [.ref g, .str (T r)] ∧ H g = some (tIns C d a z) ∧ SqL K H a (ps.map V.int) ∧ Few ps ∧ r.length ≤ 1000 ∧ v = .bl (tnSh r ps z)
def sp__law_turned (K : PySem.W.Frag) (C : CA) : Sp := spV fun vs H v => ∃ (r : List Bool) (a : Addr) (ps : List Int) (z : Int), vs = [.str (T r), .ref a, .int z] ∧ SqL K H a (ps.map V.int) ∧ Few ps ∧ r.length ≤ 1000 ∧ v = .bl (tnSh r ps z)
def sp_turns (K : PySem.W.Frag) (C : CA) : Sp := fun vs H Q _ => ∃ r : List Bool, Ex03 K C ∧ vs = [.str (T r)] ∧ r.length ≤ 40 ∧
  (r.length % 2 = 1 → ∀ H' x d, Ex H H' → H x = none → H' x = some (oIns C d) → Q (.ref x) H') ∧
  (r.length % 2 = 0 → ∀ H' x d a c ps, Ex H H' → H x = none → H a = none → [a, x].Nodup → H' x = some (tIns C d a (c : Nat)) → H' a = some (.lst ((inz ps).map V.int)) → c ≤ r.length → (∀ j, j ≤ r.length → hgt (r.take c) ≤ hgt (r.take j)) → ps.Nodup → (∀ p ∈ ps, p < r.length) → isR (flp (inz ps) r) = true → (ps.length : Int) = tnNum r c → Q (.ref x) H')
end BM
namespace BM
open PySem L2 Evl
def N_o_shows : List Str := ["self", "row"]
def rd_o_shows (K : PySem.W.Frag) (C_ : CA) : TS :=
    (tRet (tOp rEq (tOp aMod (tCB aLenT (tCons (tVar 1) tNil)) (tC (.int 2))) (tC (.int 1))))
def N_t_init : List Str := ["self", "places", "cut"]
def rd_t_init (K : PySem.W.Frag) (C_ : CA) : TS :=
    (tSeq (sFld K (tVar 0) (tCB (aListOf K) (tCons (tVar 1) tNil)) "places")
    (sFld K (tVar 0) (tVar 2) "cut"))
def N_t_shows : List Str := ["self", "row", "found", "low", "high", "place"]
def rd_t_shows (K : PySem.W.Frag) (C_ : CA) : TS :=
    (tSeq (tIfS (tOr (tNot (tB (tCB (aAll K) (tCons (tLc (iList K (tFld K (tVar 0) "places")) (gName 5) tYes (tChain aLe aLt (tC (.int 0)) (tVar 5) (tCB aLenT (tCons (tVar 1) tNil))) [5]) tNil)))) (tTest (tOp rNe (tLenSetD K (tFld K (tVar 0) "places")) (tCB (aLenL K) (tCons (tFld K (tVar 0) "places") tNil))))) (tRet (tC (.bl false))) tNext)
    (tSeq (tIfS (tOr (tNot (tB (tCall (sp_is_right_row K C_) [] E0 (tCons (tCall (sp_turned K C_) [] E0 (tCons (tVar 1) (tCons (tFld K (tVar 0) "places") tNil))) tNil)))) (tNot (tTest (tChain aLe aLe (tC (.int 0)) (tFld K (tVar 0) "cut") (tCB aLenT (tCons (tVar 1) tNil)))))) (tRet (tC (.bl false))) tNext)
    (tSeq (tAsg (tCall (sp_depths_of K C_) [] E0 (tCons (tVar 1) tNil)) (gName 2))
    (tSeq (tPar 3 4 (tCons (tCB aMax2 (tCons (tC (.int 0)) (tCons (tUn aNeg (tOp (rIxL K) (tVar 2) (tFld K (tVar 0) "cut"))) tNil))) (tCons (tCB aMax2 (tCons (tC (.int 0)) (tCons (tOp aSub (tOp (rIxL K) (tVar 2) (tUn aNeg (tC (.int 1)))) (tOp (rIxL K) (tVar 2) (tFld K (tVar 0) "cut"))) tNil))) tNil)))
    (tRet (tOp rEq (tCB (aLenL K) (tCons (tFld K (tVar 0) "places") tNil)) (tOp aAdd (tOp aDiv (tOp aAdd (tVar 3) (tC (.int 1))) (tC (.int 2))) (tOp aDiv (tOp aAdd (tVar 4) (tC (.int 1))) (tC (.int 2))))))))))
def N_turns : List Str := ["row", "found", "high", "closers", "openers", "low", "cut", "many", "more", "at"]
def rd_turns (K : PySem.W.Frag) (C_ : CA) : TS :=
    (tSeq (tDrop (tCall (sp_asked_row K C_) [] E0 (tCons (tVar 0) tNil)))
    (tSeq (tIfS (tTest (tOp rEq (tOp aMod (tCB aLenT (tCons (tVar 0) tNil)) (tC (.int 2))) (tC (.int 1)))) (tRet (tMk0 C_.c_Odd)) tNext)
    (tSeq (tAsg (tCall (sp_depths_of K C_) [] E0 (tCons (tVar 0) tNil)) (gName 1))
    (tSeq (tPar 5 6 (tCons (tUn aNeg (tCB (rMin K) (tCons (tVar 1) tNil))) (tCons (tBM K "list" (aIndex K) (tVar 1) (tCons (tCB (rMin K) (tCons (tVar 1) tNil)) tNil)) tNil)))
    (tSeq (tAsg (tOp aAdd (tOp (rIxL K) (tVar 1) (tUn aNeg (tC (.int 1)))) (tVar 5)) (gName 2))
    (tSeq (tAsg (tLc (iRng1 (tCons (tVar 6) tNil)) (gName 9) (tAnd (tTest (tOp rEq (tOp aIxT (tVar 0) (tVar 9)) (tC (.str (T [false]))))) (tTest (tOp rEq (tOp (rIxL K) (tVar 1) (tOp aAdd (tVar 9) (tC (.int 1)))) (tCB (rMin K) (tCons (tSl (rSlL K) (tVar 1) tNoPart (tPart (tOp aAdd (tVar 9) (tC (.int 2))))) tNil))))) (tVar 9) [9]) (gName 3))
    (tSeq (tAsg (tLc (iRng2 (tCons (tVar 6) (tCons (tCB aLenT (tCons (tVar 0) tNil)) tNil))) (gName 9) (tAnd (tTest (tOp rEq (tOp aIxT (tVar 0) (tVar 9)) (tC (.str (T [true]))))) (tTest (tOp rEq (tOp (rIxL K) (tVar 1) (tVar 9)) (tCB (rMin K) (tCons (tSl (rSlL K) (tVar 1) (tPart (tVar 9)) tNoPart) tNil))))) (tVar 9) [9]) (gName 4))
    (tSeq (tPar 7 8 (tCons (tOp aDiv (tOp aAdd (tVar 5) (tC (.int 1))) (tC (.int 2))) (tCons (tOp aDiv (tOp aAdd (tVar 2) (tC (.int 1))) (tC (.int 2))) tNil)))
    (tRet (tMake C_.c_Turned (sp_t_init K C_) [] E0 (tCons (tOp rCat (tSl (rSlL K) (tVar 3) tNoPart (tPart (tVar 7))) (tSl (rSlL K) (tVar 4) (tPart (tOp aSub (tCB (aLenL K) (tCons (tVar 4) tNil)) (tVar 8))) tNoPart)) (tCons (tVar 6) tNil))))))))))))
def N__law_turned : List Str := ["_law_row_here", "_law_places", "_law_cut", "_law_found", "_law_low", "_law_high", "_law_place"]
def rd__law_turned (K : PySem.W.Frag) (C_ : CA) : TS :=
    (tSeq (tIfS (tOr (tTest (tOp aLt (tLenSetD K (tVar 1)) (tCB (aLenL K) (tCons (tVar 1) tNil)))) (tB (tCB (aAny K) (tCons (tLc (iList K (tVar 1)) (gName 6) tYes (tNotV (tChain aLe aLt (tC (.int 0)) (tVar 6) (tCB aLenT (tCons (tVar 0) tNil)))) [6]) tNil)))) (tRet (tC (.bl false))) tNext)
    (tSeq (tIfS (tOr (tNot (tB (tCall (sp__law_good K C_) [] E0 (tCons (tCall (sp__law_over K C_) [] E0 (tCons (tVar 0) (tCons (tVar 1) tNil))) tNil)))) (tNot (tTest (tChain aLe aLe (tC (.int 0)) (tVar 2) (tCB aLenT (tCons (tVar 0) tNil)))))) (tRet (tC (.bl false))) tNext)
    (tSeq (tAsg (tCall (sp__law_depths K C_) [] E0 (tCons (tVar 0) tNil)) (gName 3))
    (tSeq (tPar 4 5 (tCons (tCB aMax2 (tCons (tC (.int 0)) (tCons (tUn aNeg (tOp (rIxL K) (tVar 3) (tVar 2))) tNil))) (tCons (tCB aMax2 (tCons (tC (.int 0)) (tCons (tOp aSub (tOp (rIxL K) (tVar 3) (tUn aNeg (tC (.int 1)))) (tOp (rIxL K) (tVar 3) (tVar 2))) tNil))) tNil)))
    (tRet (tOp rEq (tCB (aLenL K) (tCons (tVar 1) tNil)) (tOp aAdd (tOp aAdd (tOp aAdd (tOp aDiv (tVar 4) (tC (.int 2))) (tOp aMod (tVar 4) (tC (.int 2)))) (tOp aDiv (tVar 5) (tC (.int 2)))) (tOp aMod (tVar 5) (tC (.int 2))))))))))
end BM
namespace BM
open PySem L2 Evl
local macro_rules | `(tactic| walk_at "mem") => `(tactic| first | exact List.mem_cons_self | (refine List.mem_cons_of_mem _ ?_; walk_at "mem"))
local macro_rules | `(tactic| walk_at "swap") => `(tactic| first | exact Swap.here | (apply Swap.there; walk_at "swap"))
local macro_rules | `(tactic| walk_at "subl") => `(tactic| first | exact List.Sublist.refl _ | exact List.nil_sublist _ | (refine List.Sublist.cons_cons _ ?_; walk_at "subl") | (refine List.Sublist.cons _ ?_; walk_at "subl"))
local macro_rules | `(tactic| walk_at "sub") => `(tactic| first | exact Sub.refl _ | (refine ⟨?_, ?_⟩ <;> walk_at "subl"))
local macro_rules | `(tactic| walk_at "isl") => `(tactic| first | exact isL_own (by walk_at "mem") | exact isL_old (by assumption) | assumption)
local macro_rules | `(tactic| walk_at "ist") => `(tactic| first | exact isT_own (by walk_at "mem") | exact isT_old (by assumption) | assumption)
local macro_rules | `(tactic| walk_at "len") => `(tactic| first | omega | decide | (simp only [List.length_map, List.length_take, List.length_drop, List.length_append, List.length_cons, List.length_nil, List.length_reverse, dps_len, flp_len]; omega) | (simp [dps_len, flp_len]; omega) | simp)
local macro_rules | `(tactic| walk_at "b0") => `(tactic| first
  | with_reducible refine' ws_set ?_
  | with_reducible refine' ws_par ?_
  | with_reducible refine' ws_asg ?_
  | with_reducible refine' ws_drop ?_
  | with_reducible refine' ws_ret ?_
  | with_reducible refine' ws_if ?_
  | with_reducible refine' ws_next ?_
  | with_reducible refine' ws_brk ?_
  | with_reducible refine' ws_cont ?_
  | ((with_reducible refine' we_var ?hv ?_); case hv => rfl)
  | with_reducible refine' we_c ?_
  | with_reducible refine' we_op ?_
  | with_reducible refine' we_un ?_
  | with_reducible refine' we_if ?_
  | with_reducible refine' we_and ?_
  | with_reducible refine' we_or ?_
  | with_reducible refine' we_not ?_
  | with_reducible refine' wa_nil ?_
  | with_reducible refine' wa_cons ?_
  | (with_reducible refine' we_lst ?_)
  | (with_reducible refine' we_tup ?_)
  | with_reducible refine' we_cb ?_
  | with_reducible refine' we_call0 ?_
  | with_reducible refine' we_sl ?_
  | with_reducible refine' wo_none ?_
  | (with_reducible refine' wo_some ?_)
  | with_reducible refine' wt_test ?_
  | with_reducible refine' wt_B ?_
  | with_reducible refine' wt_and ?_
  | with_reducible refine' wt_or ?_
  | with_reducible refine' wt_not ?_
  | with_reducible refine' wt_yes ?_
  | with_reducible refine' we_chain ?_
  | with_reducible refine' we_chain3 ?_
  | with_reducible refine' we_revT ?_
  | with_reducible refine' we_revL ?_
  | with_reducible refine' we_bm ?_
  | with_reducible refine' we_bm0 ?_
  | with_reducible refine' ws_for ?_
  | with_reducible refine' we_lc ?_
  | with_reducible refine' wi_list ?_
  | with_reducible refine' wi_tup ?_
  | with_reducible refine' wi_T ?_
  | with_reducible refine' wi_rng1 ?_
  | with_reducible refine' wi_rng2 ?_
  | with_reducible refine' wi_rng3 ?_
  | with_reducible refine' wi_enum ?_
  | with_reducible refine' wi_enumT ?_
  | with_reducible refine' wi_zip ?_
  | with_reducible refine' wg_name ?_
  | with_reducible refine' wg_sub ?_
  | with_reducible refine' wgs_nil ?_
  | with_reducible refine' wgs_cons ?_
  | ((with_reducible refine' wg_tup ?ht ?hn ?_); (case ht => walk_at "ist"); (case hn => rfl))
  | with_reducible refine' w2_add ?_
  | with_reducible refine' w2_sub ?_
  | with_reducible refine' w2_lt ?_
  | with_reducible refine' w2_le ?_
  | with_reducible refine' w2_gt ?_
  | with_reducible refine' w2_ge ?_
  | with_reducible refine' w2_eqI ?_
  | with_reducible refine' w2_neI ?_
  | with_reducible refine' w2_eqT ?_
  | with_reducible refine' w2_neT ?_
  | with_reducible refine' w2_eqB ?_
  | with_reducible refine' w2_neB ?_
  | with_reducible refine' w2_isN ?_
  | with_reducible refine' w2_notN ?_
  | with_reducible refine' w2_isB ?_
  | with_reducible refine' w2_inT ?_
  | with_reducible refine' w1_neg ?_
  | with_reducible refine' wl_abs ?_
  | with_reducible refine' wl_max2 ?_
  | with_reducible refine' wl_min2 ?_
  | with_reducible refine' wl_intB ?_
  | ((with_reducible refine' w2_div ?h ?_); case h => first | omega | (constructor <;> omega))
  | ((with_reducible refine' w2_mod ?h ?_); case h => omega)
  | ((with_reducible refine' w2_catT ?h ?_); case h => walk_at "len")
  | ((with_reducible refine' wsl_T ?h ?_); case h => walk_at "len")
  | ((with_reducible refine' wl_lenT ?h ?_); case h => walk_at "len")
  | ((with_reducible refine' wl_len ?h ?_); case h => walk_at "isl")
  | ((with_reducible refine' wl_len ?h ?_); case h => walk_at "isl")
  | ((with_reducible refine' wm_append ?sw ?hl ?_); (case sw => walk_at "swap"); (case hl => walk_at "len")))
local macro_rules | `(tactic| walk_at "b1") => `(tactic| first | with_reducible refine' ws_seq ?_ | walk_at "b0")
local macro_rules | `(tactic| walk_at "bx") => `(tactic| first
  | refine ⟨_, rfl, ?_⟩
  | refine ⟨_, _, rfl, ?_⟩
  | refine ⟨ty_L (by walk_at "isl"), ?_⟩
  | refine ⟨ty_S, ?_⟩
  | refine spl_t (by rfl) ?_
  | refine spl_f (by rfl) ?_
  | exact rfl)
local macro_rules | `(tactic| walk_at "bm") => `(tactic| repeat (first | walk_at "b1" | walk_at "bx"))
local macro_rules | `(tactic| walk_at "bn") => `(tactic| repeat (first | walk_at "b0" | walk_at "bx"))
local macro_rules | `(tactic| walk_at "b0") => `(tactic| with_reducible refine' c_deepens ?_)
local macro_rules | `(tactic| walk_at "b0") => `(tactic| ((with_reducible refine' c_depths_of ?hl ?_); (case hl => walk_at "len")))
local macro_rules | `(tactic| walk_at "b0") => `(tactic| with_reducible refine' c_is_wholeI ?_)
local macro_rules | `(tactic| walk_at "b0") => `(tactic| with_reducible refine' c_flipped ?_)
local macro_rules | `(tactic| walk_at "b0") => `(tactic| ((with_reducible refine' c_is_right_row ?hl ?_); (case hl => walk_at "len")))
local macro_rules | `(tactic| walk_at "b0") => `(tactic| ((with_reducible refine' c_asked_row ?hl ?_); (case hl => walk_at "len")))
local macro_rules | `(tactic| walk_at "b0") => `(tactic| ((with_reducible refine' c_depths ?hl ?_); (case hl => walk_at "len")))
local macro_rules | `(tactic| walk_at "b0") => `(tactic| ((with_reducible refine' c_is_right ?hl ?_); (case hl => walk_at "len")))
local macro_rules | `(tactic| walk_at "b0") => `(tactic| ((with_reducible refine' c__law_depths ?hl ?_); (case hl => walk_at "len")))
local macro_rules | `(tactic| walk_at "b0") => `(tactic| ((with_reducible refine' c__law_good ?hl ?_); (case hl => walk_at "len")))
local macro_rules | `(tactic| walk_at "b0") => `(tactic| ((with_reducible refine' wl_listOf ?hx ?_); (case hx => walk_at "isl")))
local macro_rules | `(tactic| walk_at "b0") => `(tactic| with_reducible refine' w2_notB ?_)
local macro_rules | `(tactic| walk_at "own") => `(tactic| exact own_l (by walk_at "mem"))
local macro_rules | `(tactic| walk_at "b0") => `(tactic| with_reducible refine' we_fld ?_)
local macro_rules | `(tactic| walk_at "b0") => `(tactic| refine ⟨_, _, _, _, _, rfl, own_l (by walk_at "mem"), Grw.cl (by assumption), Grw.nr (by assumption), by rfl, ?_⟩)
local macro_rules | `(tactic| walk_at "b0") => `(tactic| refine ⟨_, _, _, _, _, rfl, fun H' o => o.ex _ _ (by assumption), Grw.cl (by assumption), Grw.nr (by assumption), by rfl, ?_⟩)
local macro_rules | `(tactic| walk_at "b0") => `(tactic| with_reducible refine' we_meth ?_)
local macro_rules | `(tactic| walk_at "b0") => `(tactic| refine ⟨_, _, _, rfl, own_l (by walk_at "mem"), by rfl, ?_⟩)
local macro_rules | `(tactic| walk_at "b0") => `(tactic| refine ⟨_, _, _, rfl, fun H' o => o.ex _ _ (by assumption), by rfl, ?_⟩)
local macro_rules | `(tactic| walk_at "gown") => `(tactic| first | exact own_l (by walk_at "mem") | exact fun H' o => o.ex _ _ (by assumption))
local macro_rules | `(tactic| walk_at "b0") => `(tactic| with_reducible refine' wm_countT ?_)
local macro_rules | `(tactic| walk_at "b0") => `(tactic| with_reducible refine' we_methU ?_)
theorem ln_o_shows {K : PySem.W.Frag} {C : CA} {vs : List V} {H : Hp} {Q : VK} {E : XK} (h : sp_o_shows K C vs H Q E) : vs.length = 2 := by
  obtain ⟨_, ⟨x, r, rfl, _⟩, _⟩ := h
  rfl
theorem pu_o_shows {K : PySem.W.Frag} {C : CA} {vs : List V} {H : Hp} {Q : VK} {E : XK} (h : sp_o_shows K C vs H Q E) : rd_o_shows K C { nx := fun _ H' => Q .non H', rt := Q } (start N_o_shows vs) H := by
  obtain ⟨_, ⟨x, r, rfl, hl, rfl⟩, k⟩ := h
  refine body_V ?_ k
  unfold rd_o_shows
  walk_at "bm"
theorem c_o_shows {K : PySem.W.Frag} {C : CA} {H0 : Hp} {s : Ld} {Q : V → Ld → Prop} {E : XK} {x : V} {r : List Bool} (hl : r.length ≤ 1000) (q : Q (.bl (odSh r)) s) : WC H0 (sp_o_shows K C) E [x, .str (T r)] s Q := wc_V (fun H o => ⟨x, r, rfl, hl, rfl⟩) q
theorem ln_t_init {K : PySem.W.Frag} {C : CA} {vs : List V} {H : Hp} {Q : VK} {E : XK} (h : sp_t_init K C vs H Q E) : vs.length = 3 := by
  obtain ⟨x, d, a, ps, z, _, rfl, _⟩ := h
  rfl
theorem pu_t_init {K : PySem.W.Frag} {C : CA} {vs : List V} {H : Hp} {Q : VK} {E : XK} (h : sp_t_init K C vs H Q E) : rd_t_init K C { nx := fun _ H' => Q .non H', rt := Q } (start N_t_init vs) H := by
  obtain ⟨x, d, a, ps, z, hT, rfl, hx, ha, hax, k⟩ := h
  have ha' : SqL K (del x H) a (ps.map V.int) := sq_del hax ha
  have h1 : WS (del x H) (rd_t_init K C) (start N_t_init [.ref x, .ref a, .int z]) ⟨[(x, .ins C.c_Turned d [])], []⟩ { nx := fun _ s => ∃ a2, Sub ⟨[(a2, .lst (ps.map V.int)), (x, tIns C d a2 z)], []⟩ s, rt := fun _ _ => False } := by
    unfold rd_t_init
    refine ws_seq (ws_fld ?_)
    walk_at "bm"
    intro a2 ha2
    walk_at "bm"
    refine ⟨x, _, d, [], _, rfl, Swap.there Swap.here, hT.c.cl, hT.np, by decide, ?_⟩
    refine ws_fld ?_
    walk_at "bm"
    refine ⟨x, _, d, _, _, rfl, Swap.there Swap.here, hT.c.cl, hT.nc, by show 1 < 1000; decide, ?_⟩
    exact ⟨a2, Sub.refl _⟩
  refine h1 H (own_del hx) _ ⟨fun σ H' s w ⟨a2, hs⟩ => ?_, (fun _ _ _ _ q => q.elim), (fun _ _ _ _ q => q.elim), (fun _ _ _ _ q => q.elim)⟩
  have w2 := w.sub hs
  have nd : [a2, x].Nodup := w2.nd
  have ma := w2.own (a2, .lst (ps.map V.int)) List.mem_cons_self
  exact k H' a2 w.ex ma.1 nd (w2.own (x, tIns C d a2 z) (List.mem_cons_of_mem _ List.mem_cons_self)).2 ma.2
theorem atI_dps {r : List Bool} {z : Int} (h0 : 0 ≤ z) (h1 : z ≤ (r.length : Int)) : atI ((dps r).map V.int) z = some (.int (hgt (r.take z.toNat))) := atI_of h0 (by rw [List.getElem?_map, dps_get (by omega)]; rfl)
theorem tnSh_out {r : List Bool} {ps : List Int} {z : Int} (h : ¬ ∀ p ∈ ps, 0 ≤ p ∧ p < (r.length : Int)) : tnSh r ps z = false := by
  unfold tnSh
  rw [decide_eq_false h]
  rfl
theorem ln_t_shows {K : PySem.W.Frag} {C : CA} {vs : List V} {H : Hp} {Q : VK} {E : XK} (h : sp_t_shows K C vs H Q E) : vs.length = 2 := by
  obtain ⟨_, ⟨g, d, a, ps, z, r, _, rfl, _⟩, _⟩ := h
  rfl
theorem pu_t_shows {K : PySem.W.Frag} {C : CA} {vs : List V} {H : Hp} {Q : VK} {E : XK} (h : sp_t_shows K C vs H Q E) : rd_t_shows K C { nx := fun _ H' => Q .non H', rt := Q } (start N_t_shows vs) H := by
  obtain ⟨_, ⟨g, d, a, ps, z, r, hT, rfl, hg, ha, hps, hl, rfl⟩, k⟩ := h
  have hpsl := hps.1
  refine body_V ?_ k
  unfold rd_t_shows
  refine ws_cut (fun σ s => σ = [some (.ref g), some (.str (T r)), none, none, none, none] ∧ s = ⟨[], []⟩ ∧ (∀ p ∈ ps, 0 ≤ p ∧ p < (r.length : Int)) ∧ ps.Nodup) ?_ ?_
  · walk_at "bm"
    refine ⟨_, _, _, _, _, rfl, fun H' o => o.ex _ _ hg, hT.c.cl, hT.np, rfl, ?_⟩
    refine ⟨_, rfl, ⟨_, isL_old ha⟩, ?_⟩
    refine cp_list (xs := ps.map V.int) (fun i => ((ps.take i).map fun p => decide (0 ≤ p ∧ p < (r.length : Int))).map V.bl) (isL_old ha) (by rw [List.length_map]; omega) rfl (fun i hi => by rw [List.length_map, List.length_map, List.length_take]; omega) ?_ ?_
    · intro D i y hi hy
      obtain ⟨p, hp, rfl⟩ := getI hy
      walk_at "bm"
      refine ⟨rfl, ?_⟩
      walk_at "bm"
      refine ⟨fun h => ?_, fun h => ?_⟩
      · walk_at "bm"
        refine ⟨Sub.refl _, ?_⟩
        rw [take_snoc hp, List.map_append, List.map_append]
        have h' := of_decide_eq_true h
        simp [h']
      · refine ⟨Sub.refl _, ?_⟩
        rw [take_snoc hp, List.map_append, List.map_append]
        have h' := of_decide_eq_false h
        simp [h']
    intro D hD
    rw [List.length_map, List.take_length]
    walk_at "bm"
    refine wl_all (bs := ps.map fun p => decide (0 ≤ p ∧ p < (r.length : Int))) (by walk_at "isl") ?_
    have hall : (ps.map fun p => decide (0 ≤ p ∧ p < (r.length : Int))).all id = decide (∀ p ∈ ps, 0 ≤ p ∧ p < (r.length : Int)) := by
      rw [Bool.eq_iff_iff, decide_eq_true_eq, List.all_map, List.all_eq_true]
      exact ⟨fun h p hp => of_decide_eq_true (h p hp), fun h p hp => decide_eq_true (h p hp)⟩
    rw [hall]
    walk_at "bm"
    refine ⟨fun h => ?_, fun h => ?_⟩
    · walk_at "bm"
      have h' : ¬ ∀ p ∈ ps, 0 ≤ p ∧ p < (r.length : Int) := fun hh => by rw [decide_eq_true hh] at h; cases h
      show V.bl _ = V.bl _
      rw [tnSh_out h']
    · have h' : ∀ p ∈ ps, 0 ≤ p ∧ p < (r.length : Int) := by
        cases e : decide (∀ p ∈ ps, 0 ≤ p ∧ p < (r.length : Int)) with
        | true => exact of_decide_eq_true e
        | false => rw [e] at h; cases h
      walk_at "bm"
      refine we_lenSetD ?_
      walk_at "bm"
      refine ⟨_, _, _, _, _, rfl, fun H' o => o.ex _ _ hg, hT.c.cl, hT.np, rfl, ?_⟩
      refine ⟨a, ps, rfl, isL_old ha, hps, fun c hc1 hc2 => ?_⟩
      walk_at "bm"
      refine ⟨_, _, _, _, _, rfl, fun H' o => o.ex _ _ hg, hT.c.cl, hT.np, rfl, ?_⟩
      walk_at "bm"
      rw [List.length_map]
      refine ⟨fun h2 => ?_, fun h2 => ?_⟩
      · walk_at "bm"
        have h2' : ¬ ps.Nodup := fun hh => by rw [hc2.mpr hh] at h2; simp at h2
        show V.bl _ = V.bl _
        unfold tnSh
        rw [decide_eq_true h', decide_eq_false h2']
        rfl
      · walk_at "bm"
        have h2' : ps.Nodup := hc2.mp (by simp at h2; omega)
        exact ⟨_, by walk_at "sub", rfl, rfl, h', h2'⟩
  rintro σ s ⟨rfl, rfl, h1, h2⟩
  have res : tnSh r ps z = (isR (flp ps r) && (decide (0 ≤ z ∧ z ≤ (r.length : Int)) && decide ((ps.length : Int) = tnNum r z))) := by
    unfold tnSh
    rw [decide_eq_true h1, decide_eq_true h2]
    rfl
  rw [res]
  refine ws_cut (fun σ s => σ = [some (.ref g), some (.str (T r)), none, none, none, none] ∧ s = ⟨[], []⟩ ∧ isR (flp ps r) = true ∧ 0 ≤ z ∧ z ≤ (r.length : Int)) ?_ ?_
  · walk_at "bm"
    refine ⟨_, _, _, _, _, rfl, fun H' o => o.ex _ _ hg, hT.c.cl, hT.np, rfl, ?_⟩
    walk_at "bm"
    refine c_turned hl (isL_old ha) ?_
    walk_at "bm"
    refine ⟨fun h => ?_, fun h => ?_⟩
    · walk_at "bm"
      have h' : isR (flp ps r) = false := by simpa using h
      show V.bl _ = V.bl _
      rw [h']
      rfl
    · have h' : isR (flp ps r) = true := by simpa using h
      walk_at "bm"
      refine ⟨_, _, _, _, _, rfl, fun H' o => o.ex _ _ hg, hT.c.cl, hT.nc, rfl, ?_⟩
      walk_at "bm"
      refine ⟨fun h3 => ?_, fun h3 => ?_⟩
      · have h3' := of_decide_eq_true h3
        walk_at "bm"
        refine ⟨fun h4 => ?_, fun h4 => ?_⟩
        · walk_at "bm"
          have h4' : ¬ z ≤ (r.length : Int) := by simpa using h4
          show V.bl _ = V.bl _
          rw [h', decide_eq_false (fun hh => h4' hh.2)]
          rfl
        · walk_at "bm"
          exact ⟨_, Sub.refl _, rfl, rfl, h', h3', by simpa using h4⟩
      · have h3' := of_decide_eq_false h3
        walk_at "bm"
        show V.bl _ = V.bl _
        rw [h', decide_eq_false (fun hh => h3' hh.1)]
        rfl
  rintro σ s ⟨rfl, rfl, h3, h4, h5⟩
  rw [h3, decide_eq_true (show 0 ≤ z ∧ z ≤ (r.length : Int) from ⟨h4, h5⟩)]
  simp only [Bool.true_and]
  walk_at "bm"
  intro f hf
  walk_at "bm"
  refine ⟨_, _, _, _, _, rfl, fun H' o => o.ex _ _ hg, hT.c.cl, hT.nc, rfl, ?_⟩
  refine w2_ixL (by walk_at "isl") (atI_dps h4 h5) ?_
  walk_at "bm"
  refine w2_ixL (by walk_at "isl") (dps_m1 _) ?_
  walk_at "bm"
  refine ⟨_, _, _, _, _, rfl, fun H' o => o.ex _ _ hg, hT.c.cl, hT.nc, rfl, ?_⟩
  refine w2_ixL (by walk_at "isl") (atI_dps h4 h5) ?_
  walk_at "bm"
  refine ⟨_, _, _, _, _, rfl, fun H' o => o.ex _ _ hg, hT.c.cl, hT.np, rfl, ?_⟩
  walk_at "bm"
  show V.bl _ = V.bl _
  rw [List.length_map]
  rfl
theorem c_t_shows {K : PySem.W.Frag} {C : CA} {H0 : Hp} {s : Ld} {Q : V → Ld → Prop} {E : XK} {g d a : Addr} {ps : List Int} {z : Int} {r : List Bool} (hT : TnC K C) (hg : ∀ H, Own H0 H s → H g = some (tIns C d a z)) (ha : IsL K H0 s a (ps.map V.int)) (hps : Few ps) (hl : r.length ≤ 1000) (q : Q (.bl (tnSh r ps z)) s) : WC H0 (sp_t_shows K C) E [.ref g, .str (T r)] s Q := wc_V (fun H o => ⟨g, d, a, ps, z, r, hT, rfl, hg H o, ha H o, hps, hl, rfl⟩) q
end BM
namespace BM
open PySem L2 Evl
local macro_rules | `(tactic| walk_at "mem") => `(tactic| first | exact List.mem_cons_self | (refine List.mem_cons_of_mem _ ?_; walk_at "mem"))
local macro_rules | `(tactic| walk_at "swap") => `(tactic| first | exact Swap.here | (apply Swap.there; walk_at "swap"))
local macro_rules | `(tactic| walk_at "subl") => `(tactic| first | exact List.Sublist.refl _ | exact List.nil_sublist _ | (refine List.Sublist.cons_cons _ ?_; walk_at "subl") | (refine List.Sublist.cons _ ?_; walk_at "subl"))
local macro_rules | `(tactic| walk_at "sub") => `(tactic| first | exact Sub.refl _ | (refine ⟨?_, ?_⟩ <;> walk_at "subl"))
local macro_rules | `(tactic| walk_at "isl") => `(tactic| first | exact isL_own (by walk_at "mem") | exact isL_old (by assumption) | assumption)
local macro_rules | `(tactic| walk_at "ist") => `(tactic| first | exact isT_own (by walk_at "mem") | exact isT_old (by assumption) | assumption)
local macro_rules | `(tactic| walk_at "len") => `(tactic| first | omega | decide | (simp only [List.length_map, List.length_take, List.length_drop, List.length_append, List.length_cons, List.length_nil, List.length_reverse, dps_len, flp_len]; omega) | (simp [dps_len, flp_len]; omega) | simp)
local macro_rules | `(tactic| walk_at "b0") => `(tactic| first
  | with_reducible refine' ws_set ?_
  | with_reducible refine' ws_par ?_
  | with_reducible refine' ws_asg ?_
  | with_reducible refine' ws_drop ?_
  | with_reducible refine' ws_ret ?_
  | with_reducible refine' ws_if ?_
  | with_reducible refine' ws_next ?_
  | with_reducible refine' ws_brk ?_
  | with_reducible refine' ws_cont ?_
  | ((with_reducible refine' we_var ?hv ?_); case hv => rfl)
  | with_reducible refine' we_c ?_
  | with_reducible refine' we_op ?_
  | with_reducible refine' we_un ?_
  | with_reducible refine' we_if ?_
  | with_reducible refine' we_and ?_
  | with_reducible refine' we_or ?_
  | with_reducible refine' we_not ?_
  | with_reducible refine' wa_nil ?_
  | with_reducible refine' wa_cons ?_
  | (with_reducible refine' we_lst ?_)
  | (with_reducible refine' we_tup ?_)
  | with_reducible refine' we_cb ?_
  | with_reducible refine' we_call0 ?_
  | with_reducible refine' we_sl ?_
  | with_reducible refine' wo_none ?_
  | (with_reducible refine' wo_some ?_)
  | with_reducible refine' wt_test ?_
  | with_reducible refine' wt_B ?_
  | with_reducible refine' wt_and ?_
  | with_reducible refine' wt_or ?_
  | with_reducible refine' wt_not ?_
  | with_reducible refine' wt_yes ?_
  | with_reducible refine' we_chain ?_
  | with_reducible refine' we_chain3 ?_
  | with_reducible refine' we_revT ?_
  | with_reducible refine' we_revL ?_
  | with_reducible refine' we_bm ?_
  | with_reducible refine' we_bm0 ?_
  | with_reducible refine' ws_for ?_
  | with_reducible refine' we_lc ?_
  | with_reducible refine' wi_list ?_
  | with_reducible refine' wi_tup ?_
  | with_reducible refine' wi_T ?_
  | with_reducible refine' wi_rng1 ?_
  | with_reducible refine' wi_rng2 ?_
  | with_reducible refine' wi_rng3 ?_
  | with_reducible refine' wi_enum ?_
  | with_reducible refine' wi_enumT ?_
  | with_reducible refine' wi_zip ?_
  | with_reducible refine' wg_name ?_
  | with_reducible refine' wg_sub ?_
  | with_reducible refine' wgs_nil ?_
  | with_reducible refine' wgs_cons ?_
  | ((with_reducible refine' wg_tup ?ht ?hn ?_); (case ht => walk_at "ist"); (case hn => rfl))
  | with_reducible refine' w2_add ?_
  | with_reducible refine' w2_sub ?_
  | with_reducible refine' w2_lt ?_
  | with_reducible refine' w2_le ?_
  | with_reducible refine' w2_gt ?_
  | with_reducible refine' w2_ge ?_
  | with_reducible refine' w2_eqI ?_
  | with_reducible refine' w2_neI ?_
  | with_reducible refine' w2_eqT ?_
  | with_reducible refine' w2_neT ?_
  | with_reducible refine' w2_eqB ?_
  | with_reducible refine' w2_neB ?_
  | with_reducible refine' w2_isN ?_
  | with_reducible refine' w2_notN ?_
  | with_reducible refine' w2_isB ?_
  | with_reducible refine' w2_inT ?_
  | with_reducible refine' w1_neg ?_
  | with_reducible refine' wl_abs ?_
  | with_reducible refine' wl_max2 ?_
  | with_reducible refine' wl_min2 ?_
  | with_reducible refine' wl_intB ?_
  | ((with_reducible refine' w2_div ?h ?_); case h => first | omega | (constructor <;> omega))
  | ((with_reducible refine' w2_mod ?h ?_); case h => omega)
  | ((with_reducible refine' w2_catT ?h ?_); case h => walk_at "len")
  | ((with_reducible refine' wsl_T ?h ?_); case h => walk_at "len")
  | ((with_reducible refine' wl_lenT ?h ?_); case h => walk_at "len")
  | ((with_reducible refine' wl_len ?h ?_); case h => walk_at "isl")
  | ((with_reducible refine' wl_len ?h ?_); case h => walk_at "isl")
  | ((with_reducible refine' wm_append ?sw ?hl ?_); (case sw => walk_at "swap"); (case hl => walk_at "len")))
local macro_rules | `(tactic| walk_at "b1") => `(tactic| first | with_reducible refine' ws_seq ?_ | walk_at "b0")
local macro_rules | `(tactic| walk_at "bx") => `(tactic| first
  | refine ⟨_, rfl, ?_⟩
  | refine ⟨_, _, rfl, ?_⟩
  | refine ⟨ty_L (by walk_at "isl"), ?_⟩
  | refine ⟨ty_S, ?_⟩
  | refine spl_t (by rfl) ?_
  | refine spl_f (by rfl) ?_
  | exact rfl)
local macro_rules | `(tactic| walk_at "bm") => `(tactic| repeat (first | walk_at "b1" | walk_at "bx"))
local macro_rules | `(tactic| walk_at "bn") => `(tactic| repeat (first | walk_at "b0" | walk_at "bx"))
local macro_rules | `(tactic| walk_at "b0") => `(tactic| with_reducible refine' c_deepens ?_)
local macro_rules | `(tactic| walk_at "b0") => `(tactic| ((with_reducible refine' c_depths_of ?hl ?_); (case hl => walk_at "len")))
local macro_rules | `(tactic| walk_at "b0") => `(tactic| with_reducible refine' c_is_wholeI ?_)
local macro_rules | `(tactic| walk_at "b0") => `(tactic| with_reducible refine' c_flipped ?_)
local macro_rules | `(tactic| walk_at "b0") => `(tactic| ((with_reducible refine' c_is_right_row ?hl ?_); (case hl => walk_at "len")))
local macro_rules | `(tactic| walk_at "b0") => `(tactic| ((with_reducible refine' c_asked_row ?hl ?_); (case hl => walk_at "len")))
local macro_rules | `(tactic| walk_at "b0") => `(tactic| ((with_reducible refine' c_depths ?hl ?_); (case hl => walk_at "len")))
local macro_rules | `(tactic| walk_at "b0") => `(tactic| ((with_reducible refine' c_is_right ?hl ?_); (case hl => walk_at "len")))
local macro_rules | `(tactic| walk_at "b0") => `(tactic| ((with_reducible refine' c__law_depths ?hl ?_); (case hl => walk_at "len")))
local macro_rules | `(tactic| walk_at "b0") => `(tactic| ((with_reducible refine' c__law_good ?hl ?_); (case hl => walk_at "len")))
local macro_rules | `(tactic| walk_at "b0") => `(tactic| ((with_reducible refine' wl_listOf ?hx ?_); (case hx => walk_at "isl")))
local macro_rules | `(tactic| walk_at "b0") => `(tactic| with_reducible refine' w2_notB ?_)
local macro_rules | `(tactic| walk_at "own") => `(tactic| exact own_l (by walk_at "mem"))
local macro_rules | `(tactic| walk_at "b0") => `(tactic| with_reducible refine' we_fld ?_)
local macro_rules | `(tactic| walk_at "b0") => `(tactic| refine ⟨_, _, _, _, _, rfl, own_l (by walk_at "mem"), Grw.cl (by assumption), Grw.nr (by assumption), by rfl, ?_⟩)
local macro_rules | `(tactic| walk_at "b0") => `(tactic| refine ⟨_, _, _, _, _, rfl, fun H' o => o.ex _ _ (by assumption), Grw.cl (by assumption), Grw.nr (by assumption), by rfl, ?_⟩)
local macro_rules | `(tactic| walk_at "b0") => `(tactic| with_reducible refine' we_meth ?_)
local macro_rules | `(tactic| walk_at "b0") => `(tactic| refine ⟨_, _, _, rfl, own_l (by walk_at "mem"), by rfl, ?_⟩)
local macro_rules | `(tactic| walk_at "b0") => `(tactic| refine ⟨_, _, _, rfl, fun H' o => o.ex _ _ (by assumption), by rfl, ?_⟩)
local macro_rules | `(tactic| walk_at "gown") => `(tactic| first | exact own_l (by walk_at "mem") | exact fun H' o => o.ex _ _ (by assumption))
local macro_rules | `(tactic| walk_at "b0") => `(tactic| with_reducible refine' wm_countT ?_)
local macro_rules | `(tactic| walk_at "b0") => `(tactic| with_reducible refine' we_methU ?_)
theorem ln__law_turned {K : PySem.W.Frag} {C : CA} {vs : List V} {H : Hp} {Q : VK} {E : XK} (h : sp__law_turned K C vs H Q E) : vs.length = 3 := by
  obtain ⟨_, ⟨r, a, ps, z, rfl, _⟩, _⟩ := h
  rfl
theorem pu__law_turned {K : PySem.W.Frag} {C : CA} {vs : List V} {H : Hp} {Q : VK} {E : XK} (h : sp__law_turned K C vs H Q E) : rd__law_turned K C { nx := fun _ H' => Q .non H', rt := Q } (start N__law_turned vs) H := by
  obtain ⟨_, ⟨r, a, ps, z, rfl, ha, hps, hl, rfl⟩, k⟩ := h
  have hpsl := hps.1
  refine body_V ?_ k
  unfold rd__law_turned
  refine ws_cut (fun σ s => σ = [some (.str (T r)), some (.ref a), some (.int z), none, none, none, none] ∧ s = ⟨[], []⟩ ∧ (∀ p ∈ ps, 0 ≤ p ∧ p < (r.length : Int)) ∧ ps.Nodup) ?_ ?_
  · walk_at "bm"
    refine we_lenSetD ?_
    walk_at "bm"
    refine ⟨a, ps, rfl, isL_old ha, hps, fun c hc1 hc2 => ?_⟩
    walk_at "bm"
    rw [List.length_map]
    refine ⟨fun h2 => ?_, fun h2 => ?_⟩
    · walk_at "bm"
      have h2' : ¬ ps.Nodup := fun hh => by rw [hc2.mpr hh] at h2; simp at h2
      show V.bl _ = V.bl _
      unfold tnSh
      rw [decide_eq_false h2']
      simp
    · have h2' : ps.Nodup := hc2.mp (by simp at h2; omega)
      walk_at "bm"
      refine ⟨⟨_, isL_old ha⟩, ?_⟩
      refine cp_list (xs := ps.map V.int) (fun i => ((ps.take i).map fun p => !decide (0 ≤ p ∧ p < (r.length : Int))).map V.bl) (isL_old ha) (by rw [List.length_map]; omega) rfl (fun i hi => by rw [List.length_map, List.length_map, List.length_take]; omega) ?_ ?_
      · intro D i y hi hy
        obtain ⟨p, hp, rfl⟩ := getI hy
        walk_at "bm"
        refine ⟨rfl, ?_⟩
        walk_at "bm"
        refine ⟨fun h => ?_, fun h => ?_⟩
        · walk_at "bm"
          refine ⟨Sub.refl _, ?_⟩
          rw [take_snoc hp, List.map_append, List.map_append]
          have h' := of_decide_eq_true h
          simp [h']
        · walk_at "bm"
          refine ⟨Sub.refl _, ?_⟩
          rw [take_snoc hp, List.map_append, List.map_append]
          have h' := of_decide_eq_false h
          simp [h']
      intro D hD
      rw [List.length_map, List.take_length]
      walk_at "bm"
      refine wl_any (bs := ps.map fun p => !decide (0 ≤ p ∧ p < (r.length : Int))) (by walk_at "isl") ?_
      have hall : (ps.map fun p => !decide (0 ≤ p ∧ p < (r.length : Int))).any id = !decide (∀ p ∈ ps, 0 ≤ p ∧ p < (r.length : Int)) := by
        rw [Bool.eq_iff_iff, List.any_map, List.any_eq_true, Bool.not_eq_true', decide_eq_false_iff_not]
        constructor
        · rintro ⟨p, hp, h⟩ hh
          have := hh p hp
          simp [this] at h
        · intro hh
          refine Classical.byContradiction fun hn => hh fun p hp => ?_
          refine Classical.byContradiction fun h3 => hn ⟨p, hp, ?_⟩
          simp only [Function.comp, id]
          rw [decide_eq_false h3]
          rfl
      rw [hall]
      walk_at "bm"
      refine ⟨fun h => ?_, fun h => ?_⟩
      · walk_at "bm"
        have h' : ¬ ∀ p ∈ ps, 0 ≤ p ∧ p < (r.length : Int) := fun hh => by rw [decide_eq_true hh] at h; cases h
        show V.bl _ = V.bl _
        rw [tnSh_out h']
      · have h' : ∀ p ∈ ps, 0 ≤ p ∧ p < (r.length : Int) := by
          cases e : decide (∀ p ∈ ps, 0 ≤ p ∧ p < (r.length : Int)) with
          | true => exact of_decide_eq_true e
          | false => rw [e] at h; cases h
        walk_at "bm"
        exact ⟨_, by walk_at "sub", rfl, rfl, h', h2'⟩
  rintro σ s ⟨rfl, rfl, h1, h2⟩
  have res : tnSh r ps z = (isR (flp ps r) && (decide (0 ≤ z ∧ z ≤ (r.length : Int)) && decide ((ps.length : Int) = tnNum r z))) := by
    unfold tnSh
    rw [decide_eq_true h1, decide_eq_true h2]
    rfl
  rw [res]
  refine ws_cut (fun σ s => σ = [some (.str (T r)), some (.ref a), some (.int z), none, none, none, none] ∧ s = ⟨[], []⟩ ∧ isR (flp ps r) = true ∧ 0 ≤ z ∧ z ≤ (r.length : Int)) ?_ ?_
  · walk_at "bm"
    refine c__law_over hl (isL_old ha) h1 ?_
    walk_at "bm"
    refine ⟨fun h => ?_, fun h => ?_⟩
    · walk_at "bm"
      have h' : isR (flp ps r) = false := by simpa using h
      show V.bl _ = V.bl _
      rw [h']
      rfl
    · have h' : isR (flp ps r) = true := by simpa using h
      walk_at "bm"
      refine ⟨fun h3 => ?_, fun h3 => ?_⟩
      · have h3' := of_decide_eq_true h3
        walk_at "bm"
        refine ⟨fun h4 => ?_, fun h4 => ?_⟩
        · walk_at "bm"
          have h4' : ¬ z ≤ (r.length : Int) := by simpa using h4
          show V.bl _ = V.bl _
          rw [h', decide_eq_false (fun hh => h4' hh.2)]
          rfl
        · walk_at "bm"
          exact ⟨_, Sub.refl _, rfl, rfl, h', h3', by simpa using h4⟩
      · have h3' := of_decide_eq_false h3
        walk_at "bm"
        show V.bl _ = V.bl _
        rw [h', decide_eq_false (fun hh => h3' hh.1)]
        rfl
  rintro σ s ⟨rfl, rfl, h3, h4, h5⟩
  rw [h3, decide_eq_true (show 0 ≤ z ∧ z ≤ (r.length : Int) from ⟨h4, h5⟩)]
  simp only [Bool.true_and]
  walk_at "bm"
  intro f hf
  walk_at "bm"
  refine w2_ixL (by walk_at "isl") (atI_dps h4 h5) ?_
  walk_at "bm"
  refine w2_ixL (by walk_at "isl") (dps_m1 _) ?_
  walk_at "bm"
  refine w2_ixL (by walk_at "isl") (atI_dps h4 h5) ?_
  walk_at "bm"
  show V.bl _ = V.bl _
  rw [List.length_map]
  congr 1
  apply decide_eq_decide.mpr
  unfold tnNum pos
  omega
theorem c__law_turned {K : PySem.W.Frag} {C : CA} {H0 : Hp} {s : Ld} {Q : V → Ld → Prop} {E : XK} {a : Addr} {ps : List Int} {z : Int} {r : List Bool} (ha : IsL K H0 s a (ps.map V.int)) (hps : Few ps) (hl : r.length ≤ 1000) (q : Q (.bl (tnSh r ps z)) s) : WC H0 (sp__law_turned K C) E [.str (T r), .ref a, .int z] s Q := wc_V (fun H o => ⟨r, a, ps, z, rfl, ha H o, hps, hl, rfl⟩) q
end BM
namespace BM
open PySem L2 Evl
local macro_rules | `(tactic| walk_at "mem") => `(tactic| first | exact List.mem_cons_self | (refine List.mem_cons_of_mem _ ?_; walk_at "mem"))
local macro_rules | `(tactic| walk_at "swap") => `(tactic| first | exact Swap.here | (apply Swap.there; walk_at "swap"))
local macro_rules | `(tactic| walk_at "subl") => `(tactic| first | exact List.Sublist.refl _ | exact List.nil_sublist _ | (refine List.Sublist.cons_cons _ ?_; walk_at "subl") | (refine List.Sublist.cons _ ?_; walk_at "subl"))
local macro_rules | `(tactic| walk_at "sub") => `(tactic| first | exact Sub.refl _ | (refine ⟨?_, ?_⟩ <;> walk_at "subl"))
local macro_rules | `(tactic| walk_at "isl") => `(tactic| first | exact isL_own (by walk_at "mem") | exact isL_old (by assumption) | assumption)
local macro_rules | `(tactic| walk_at "ist") => `(tactic| first | exact isT_own (by walk_at "mem") | exact isT_old (by assumption) | assumption)
local macro_rules | `(tactic| walk_at "len") => `(tactic| first | omega | decide | (simp only [List.length_map, List.length_take, List.length_drop, List.length_append, List.length_cons, List.length_nil, List.length_reverse, dps_len, flp_len]; omega) | (simp [dps_len, flp_len]; omega) | simp)
local macro_rules | `(tactic| walk_at "b0") => `(tactic| first
  | with_reducible refine' ws_set ?_
  | with_reducible refine' ws_par ?_
  | with_reducible refine' ws_asg ?_
  | with_reducible refine' ws_drop ?_
  | with_reducible refine' ws_ret ?_
  | with_reducible refine' ws_if ?_
  | with_reducible refine' ws_next ?_
  | with_reducible refine' ws_brk ?_
  | with_reducible refine' ws_cont ?_
  | ((with_reducible refine' we_var ?hv ?_); case hv => rfl)
  | with_reducible refine' we_c ?_
  | with_reducible refine' we_op ?_
  | with_reducible refine' we_un ?_
  | with_reducible refine' we_if ?_
  | with_reducible refine' we_and ?_
  | with_reducible refine' we_or ?_
  | with_reducible refine' we_not ?_
  | with_reducible refine' wa_nil ?_
  | with_reducible refine' wa_cons ?_
  | (with_reducible refine' we_lst ?_)
  | (with_reducible refine' we_tup ?_)
  | with_reducible refine' we_cb ?_
  | with_reducible refine' we_call0 ?_
  | with_reducible refine' we_sl ?_
  | with_reducible refine' wo_none ?_
  | (with_reducible refine' wo_some ?_)
  | with_reducible refine' wt_test ?_
  | with_reducible refine' wt_B ?_
  | with_reducible refine' wt_and ?_
  | with_reducible refine' wt_or ?_
  | with_reducible refine' wt_not ?_
  | with_reducible refine' wt_yes ?_
  | with_reducible refine' we_chain ?_
  | with_reducible refine' we_chain3 ?_
  | with_reducible refine' we_revT ?_
  | with_reducible refine' we_revL ?_
  | with_reducible refine' we_bm ?_
  | with_reducible refine' we_bm0 ?_
  | with_reducible refine' ws_for ?_
  | with_reducible refine' we_lc ?_
  | with_reducible refine' wi_list ?_
  | with_reducible refine' wi_tup ?_
  | with_reducible refine' wi_T ?_
  | with_reducible refine' wi_rng1 ?_
  | with_reducible refine' wi_rng2 ?_
  | with_reducible refine' wi_rng3 ?_
  | with_reducible refine' wi_enum ?_
  | with_reducible refine' wi_enumT ?_
  | with_reducible refine' wi_zip ?_
  | with_reducible refine' wg_name ?_
  | with_reducible refine' wg_sub ?_
  | with_reducible refine' wgs_nil ?_
  | with_reducible refine' wgs_cons ?_
  | ((with_reducible refine' wg_tup ?ht ?hn ?_); (case ht => walk_at "ist"); (case hn => rfl))
  | with_reducible refine' w2_add ?_
  | with_reducible refine' w2_sub ?_
  | with_reducible refine' w2_lt ?_
  | with_reducible refine' w2_le ?_
  | with_reducible refine' w2_gt ?_
  | with_reducible refine' w2_ge ?_
  | with_reducible refine' w2_eqI ?_
  | with_reducible refine' w2_neI ?_
  | with_reducible refine' w2_eqT ?_
  | with_reducible refine' w2_neT ?_
  | with_reducible refine' w2_eqB ?_
  | with_reducible refine' w2_neB ?_
  | with_reducible refine' w2_isN ?_
  | with_reducible refine' w2_notN ?_
  | with_reducible refine' w2_isB ?_
  | with_reducible refine' w2_inT ?_
  | with_reducible refine' w1_neg ?_
  | with_reducible refine' wl_abs ?_
  | with_reducible refine' wl_max2 ?_
  | with_reducible refine' wl_min2 ?_
  | with_reducible refine' wl_intB ?_
  | ((with_reducible refine' w2_div ?h ?_); case h => first | omega | (constructor <;> omega))
  | ((with_reducible refine' w2_mod ?h ?_); case h => omega)
  | ((with_reducible refine' w2_catT ?h ?_); case h => walk_at "len")
  | ((with_reducible refine' wsl_T ?h ?_); case h => walk_at "len")
  | ((with_reducible refine' wl_lenT ?h ?_); case h => walk_at "len")
  | ((with_reducible refine' wl_len ?h ?_); case h => walk_at "isl")
  | ((with_reducible refine' wl_len ?h ?_); case h => walk_at "isl")
  | ((with_reducible refine' wm_append ?sw ?hl ?_); (case sw => walk_at "swap"); (case hl => walk_at "len")))
local macro_rules | `(tactic| walk_at "b1") => `(tactic| first | with_reducible refine' ws_seq ?_ | walk_at "b0")
local macro_rules | `(tactic| walk_at "bx") => `(tactic| first
  | refine ⟨_, rfl, ?_⟩
  | refine ⟨_, _, rfl, ?_⟩
  | refine ⟨ty_L (by walk_at "isl"), ?_⟩
  | refine ⟨ty_S, ?_⟩
  | refine spl_t (by rfl) ?_
  | refine spl_f (by rfl) ?_
  | exact rfl)
local macro_rules | `(tactic| walk_at "bm") => `(tactic| repeat (first | walk_at "b1" | walk_at "bx"))
local macro_rules | `(tactic| walk_at "bn") => `(tactic| repeat (first | walk_at "b0" | walk_at "bx"))
local macro_rules | `(tactic| walk_at "b0") => `(tactic| with_reducible refine' c_deepens ?_)
local macro_rules | `(tactic| walk_at "b0") => `(tactic| ((with_reducible refine' c_depths_of ?hl ?_); (case hl => walk_at "len")))
local macro_rules | `(tactic| walk_at "b0") => `(tactic| with_reducible refine' c_is_wholeI ?_)
local macro_rules | `(tactic| walk_at "b0") => `(tactic| with_reducible refine' c_flipped ?_)
local macro_rules | `(tactic| walk_at "b0") => `(tactic| ((with_reducible refine' c_is_right_row ?hl ?_); (case hl => walk_at "len")))
local macro_rules | `(tactic| walk_at "b0") => `(tactic| ((with_reducible refine' c_asked_row ?hl ?_); (case hl => walk_at "len")))
local macro_rules | `(tactic| walk_at "b0") => `(tactic| ((with_reducible refine' c_depths ?hl ?_); (case hl => walk_at "len")))
local macro_rules | `(tactic| walk_at "b0") => `(tactic| ((with_reducible refine' c_is_right ?hl ?_); (case hl => walk_at "len")))
local macro_rules | `(tactic| walk_at "b0") => `(tactic| ((with_reducible refine' c__law_depths ?hl ?_); (case hl => walk_at "len")))
local macro_rules | `(tactic| walk_at "b0") => `(tactic| ((with_reducible refine' c__law_good ?hl ?_); (case hl => walk_at "len")))
local macro_rules | `(tactic| walk_at "b0") => `(tactic| ((with_reducible refine' wl_listOf ?hx ?_); (case hx => walk_at "isl")))
local macro_rules | `(tactic| walk_at "b0") => `(tactic| with_reducible refine' w2_notB ?_)
local macro_rules | `(tactic| walk_at "own") => `(tactic| exact own_l (by walk_at "mem"))
local macro_rules | `(tactic| walk_at "b0") => `(tactic| with_reducible refine' we_fld ?_)
local macro_rules | `(tactic| walk_at "b0") => `(tactic| refine ⟨_, _, _, _, _, rfl, own_l (by walk_at "mem"), Grw.cl (by assumption), Grw.nr (by assumption), by rfl, ?_⟩)
local macro_rules | `(tactic| walk_at "b0") => `(tactic| refine ⟨_, _, _, _, _, rfl, fun H' o => o.ex _ _ (by assumption), Grw.cl (by assumption), Grw.nr (by assumption), by rfl, ?_⟩)
local macro_rules | `(tactic| walk_at "b0") => `(tactic| with_reducible refine' we_meth ?_)
local macro_rules | `(tactic| walk_at "b0") => `(tactic| refine ⟨_, _, _, rfl, own_l (by walk_at "mem"), by rfl, ?_⟩)
local macro_rules | `(tactic| walk_at "b0") => `(tactic| refine ⟨_, _, _, rfl, fun H' o => o.ex _ _ (by assumption), by rfl, ?_⟩)
local macro_rules | `(tactic| walk_at "gown") => `(tactic| first | exact own_l (by walk_at "mem") | exact fun H' o => o.ex _ _ (by assumption))
local macro_rules | `(tactic| walk_at "b0") => `(tactic| with_reducible refine' wm_countT ?_)
local macro_rules | `(tactic| walk_at "b0") => `(tactic| with_reducible refine' we_methU ?_)
theorem c_t_init {K : PySem.W.Frag} {C : CA} {H0 : Hp} {Q : V → Ld → Prop} {E : XK} {x d a : Addr} {ps : List Int} {z : Int} {L : List (Addr × HO)} {T : List (Addr × List V)} (hT : TnC K C) (ha : (a, HO.lst (ps.map V.int)) ∈ L) (q : ∀ a2, H0 a2 = none → Q .non ⟨(a2, .lst (ps.map V.int)) :: (x, tIns C d a2 z) :: L, T⟩) : WC H0 (sp_t_init K C) E [.ref x, .ref a, .int z] ⟨(x, .ins C.c_Turned d []) :: L, T⟩ Q := fun H o R k => by
  have hk : x ∉ L.map (·.1) := (List.nodup_cons.mp o.nd).1
  have hax : a ≠ x := fun e => hk (List.mem_map.mpr ⟨_, ha, e⟩)
  refine ⟨x, d, a, ps, z, hT, rfl, (o.own _ List.mem_cons_self).2, sq_of (o.own _ (List.mem_cons_of_mem _ ha)).2, hax, fun H' a2 e h1 nd hx h3 => ?_⟩
  have a2x : a2 ≠ x := fun e => (List.nodup_cons.mp nd).1 (by rw [e]; exact List.mem_cons_self)
  rw [del_ne a2x] at h1
  have w1 := own_after o (Swap.here (o := .ins C.c_Turned d []) (o' := tIns C d a2 z)) trivial e hx
  have w2 := own_add w1 (fresh_back o.ex h1) (show a2 ∉ x :: L.map (·.1) from own_key o h1) h3
  exact k _ _ _ w2 (q a2 (fresh_back o.ex h1))
theorem we_turned {K : PySem.W.Frag} {C : CA} {H0 : Hp} {σ : L2.St} {s : Ld} {Q : V → Ld → Prop} {E : XK} {ta : TA} (hT : TnC K C) (h : WA H0 ta σ s fun vs s1 => ∃ (a : Addr) (ps : List Int) (z : Int), vs = [.ref a, .int z] ∧ (a, HO.lst (ps.map V.int)) ∈ s1.L ∧ ∀ x dx a2, H0 x = none → H0 a2 = none → Q (.ref x) ⟨(a2, .lst (ps.map V.int)) :: (x, tIns C dx a2 z) :: (dx, .own x) :: s1.L, s1.T⟩) : WE H0 (tMake C.c_Turned (sp_t_init K C) [] E ta) σ s Q :=
  we_make fun H o R k => h H o R fun vs H1 s1 o1 ⟨a, ps, z, e, ma, q⟩ => k _ _ _ o1 fun x dx hx hdx hne => by
    subst e
    exact c_t_init hT (List.mem_cons_of_mem _ ma) fun a2 h1 => ⟨rfl, q x dx a2 hx h1⟩
abbrev natsV (ps : List Nat) : List V := (inz ps).map V.int
theorem natsV_app (a b : List Nat) : natsV (a ++ b) = natsV a ++ natsV b := by
  unfold natsV inz
  rw [List.map_append, List.map_append]
theorem ln_turns {K : PySem.W.Frag} {C : CA} {vs : List V} {H : Hp} {Q : VK} {E : XK} (h : sp_turns K C vs H Q E) : vs.length = 1 := by
  obtain ⟨r, _, rfl, _⟩ := h
  rfl
theorem pu_turns {K : PySem.W.Frag} {C : CA} {vs : List V} {H : Hp} {Q : VK} {E : XK} (h : sp_turns K C vs H Q E) : rd_turns K C { nx := fun _ H' => Q .non H', rt := Q } (start N_turns vs) H := by
  obtain ⟨r, hX, rfl, hl, k1, k2⟩ := h
  refine body_K (P := fun v s => (r.length % 2 = 1 ∧ ∃ x d, v = .ref x ∧ (x, oIns C d) ∈ s.L) ∨ (r.length % 2 = 0 ∧ ∃ (x d a : Addr) (c : Nat) (ps : List Nat), v = .ref x ∧ Sub ⟨[(a, .lst (natsV ps)), (x, tIns C d a (c : Nat))], []⟩ s ∧ c ≤ r.length ∧ (∀ j, j ≤ r.length → hgt (r.take c) ≤ hgt (r.take j)) ∧ ps.Nodup ∧ (∀ p ∈ ps, p < r.length) ∧ isR (flp (inz ps) r) = true ∧ (ps.length : Int) = tnNum r c)) ?_ ?_
  · unfold rd_turns
    refine ws_seq ?_
    walk_at "bn"
    refine ws_seq ?_
    walk_at "bn"
    refine ⟨fun h => ?_, fun h => ?_⟩
    · have h' : r.length % 2 = 1 := by have := of_decide_eq_true h; omega
      walk_at "bn"
      refine we_mk0 fun x d hx => ?_
      exact .inl ⟨h', x, d, rfl, List.mem_cons_self⟩
    have h' : r.length % 2 = 0 := by have := of_decide_eq_false h; omega
    walk_at "bn"
    refine ws_cut (fun σ s => ∃ f, σ = [some (.str (T r)), some (.ref f), none, none, none, none, none, none, none, none] ∧ s = ⟨[(f, .lst ((dps r).map V.int))], []⟩) ?_ ?_
    · walk_at "bm"
      intro f hf
      exact ⟨_, Sub.refl _, f, rfl, rfl⟩
    rintro σ s ⟨f, rfl, rfl⟩
    refine ws_cut (fun σ s => ∃ c : Nat, σ = [some (.str (T r)), some (.ref f), none, none, none, some (.int (-hgt (r.take c))), some (.int (c : Int)), none, none, none] ∧ s = ⟨[(f, .lst ((dps r).map V.int))], []⟩ ∧ c ≤ r.length ∧ ∀ j, j ≤ r.length → hgt (r.take c) ≤ hgt (r.take j)) ?_ ?_
    · walk_at "bm"
      refine wl_min (by walk_at "isl") (by rw [dps_len]; omega) fun m h1 h2 => ?_
      walk_at "bm"
      refine wl_min (by walk_at "isl") (by rw [dps_len]; omega) fun m2 h3 h4 => ?_
      have em : m2 = m := Int.le_antisymm (h4 _ h1) (h2 _ h3)
      subst em
      obtain ⟨c, hc, hfirst⟩ := first_of h1
      have hcl : c ≤ r.length := by
        have := (List.getElem?_eq_some_iff.mp hc).1
        rw [dps_len] at this
        omega
      have ec : hgt (r.take c) = m2 := by
        rw [dps_get hcl] at hc
        exact Option.some.inj hc
      walk_at "bm"
      refine wm_index (by walk_at "isl") hc hfirst ?_
      walk_at "bm"
      exact ⟨_, Sub.refl _, c, by rw [ec]; rfl, rfl, hcl, fun j hj => by rw [ec]; exact h2 _ (mem_dps.mpr ⟨j, hj, rfl⟩)⟩
    rintro σ s ⟨c, rfl, rfl, hc, hmin⟩
    refine ws_seq ?_
    walk_at "bn"
    refine w2_ixL (by walk_at "isl") (dps_m1 _) ?_
    walk_at "bn"
    refine ws_cut (fun σ s => ∃ a, σ = [some (.str (T r)), some (.ref f), some (.int (hgt r + -hgt (r.take c))), some (.ref a), none, some (.int (-hgt (r.take c))), some (.int (c : Int)), none, none, none] ∧ s = ⟨[(a, .lst (natsV (clos r c))), (f, .lst ((dps r).map V.int))], []⟩) ?_ ?_
    · walk_at "bm"
      refine ⟨by omega, ?_⟩
      refine cp_rng (fun i => natsV (clos r i)) (by omega) rfl (fun i hi => by unfold natsV; rw [List.length_map, List.length_map]; exact clos_len r i) ?_ ?_
      · intro D i hi
        have hi' : i < c := by omega
        obtain ⟨b, hb⟩ := get_some (r := r) (i := i) (by omega)
        rw [show ((0 : Int) + (i : Int)) = (i : Int) by omega]
        walk_at "bm"
        refine ⟨rfl, ?_⟩
        walk_at "bm"
        refine w2_ixT (b := b) (by omega) (atI_of (by omega) (by rw [Int.toNat_natCast]; exact hb)) ?_
        walk_at "bm"
        have hno : isC r i = false → natsV (clos r (i + 1)) = natsV (clos r i) := fun h => by rw [clos_succ, h, if_neg (by decide), List.append_nil]
        have hyes : isC r i = true → natsV (clos r (i + 1)) = natsV (clos r i) ++ [V.int (i : Int)] := fun h => by rw [clos_succ, if_pos h, natsV_app]; rfl
        refine ⟨fun h => ?_, fun h => ?_⟩
        · have hbf : b = false := by simpa using h
          subst hbf
          walk_at "bm"
          refine w2_ixL (by walk_at "isl") (atI_dps (by omega) (by omega)) ?_
          walk_at "bm"
          refine wsl_L (by walk_at "isl") fun p hp => ?_
          rw [cut_hi (by omega), ← List.map_take, show ((i : Int) + 2).toNat = i + 1 + 1 by omega]
          walk_at "bm"
          refine wl_min (by walk_at "isl") (by rw [List.length_take, dps_len]; omega) fun m h1 h2 => ?_
          have em := rm_min (show i + 1 ≤ r.length by omega) h1 h2
          subst em
          rw [show ((i : Int) + 1).toNat = i + 1 by omega]
          walk_at "bm"
          have hC : isC r i = decide (hgt (r.take (i + 1)) = rm r (i + 1)) := by
            unfold isC
            rw [hb]
            rfl
          refine ⟨fun h3 => ?_, fun h3 => ?_⟩
          · walk_at "bm"
            exact ⟨by walk_at "sub", hyes (by rw [hC, h3])⟩
          · exact ⟨by walk_at "sub", hno (by rw [hC, h3])⟩
        · have hbf : b = true := by
            cases b
            · simp at h
            · rfl
          subst hbf
          walk_at "bm"
          exact ⟨Sub.refl _, hno (by unfold isC; rw [hb]; rfl)⟩
      · intro D hD
        rw [Int.toNat_natCast]
        exact ⟨_, Sub.refl _, D, rfl, rfl⟩
    rintro σ s ⟨a, rfl, rfl⟩
    refine ws_cut (fun σ s => ∃ b, σ = [some (.str (T r)), some (.ref f), some (.int (hgt r + -hgt (r.take c))), some (.ref a), some (.ref b), some (.int (-hgt (r.take c))), some (.int (c : Int)), none, none, none] ∧ s = ⟨[(b, .lst (natsV (opd r (r.length - c)))), (a, .lst (natsV (clos r c)))], []⟩) ?_ ?_
    · walk_at "bm"
      refine ⟨by omega, ?_⟩
      refine cp_rng (fun i => natsV (segO r c i)) (by omega) rfl (fun i hi => by unfold natsV; rw [List.length_map, List.length_map]; exact segO_len r c i) ?_ ?_
      · intro D i hi
        have hi' : c + i < r.length := by omega
        obtain ⟨b, hb⟩ := get_some (r := r) (i := c + i) hi'
        rw [show ((c : Int) + (i : Int)) = ((c + i : Nat) : Int) by omega]
        walk_at "bm"
        refine ⟨rfl, ?_⟩
        walk_at "bm"
        refine w2_ixT (b := b) (by omega) (atI_of (by omega) (by rw [Int.toNat_natCast]; exact hb)) ?_
        walk_at "bm"
        have hno : isO r (c + i) = false → natsV (segO r c (i + 1)) = natsV (segO r c i) := fun h => by rw [segO_succ, h, if_neg (by decide), List.append_nil]
        have hyes : isO r (c + i) = true → natsV (segO r c (i + 1)) = natsV (segO r c i) ++ [V.int ((c + i : Nat) : Int)] := fun h => by rw [segO_succ, if_pos h, natsV_app]; rfl
        refine ⟨fun h => ?_, fun h => ?_⟩
        · have hbf : b = true := by simpa using h
          subst hbf
          walk_at "bm"
          refine w2_ixL (by walk_at "isl") (atI_dps (by omega) (by omega)) ?_
          walk_at "bm"
          refine wsl_L (by walk_at "isl") fun p hp => ?_
          rw [cut_lo (by omega), ← List.map_drop, Int.toNat_natCast]
          walk_at "bm"
          refine wl_min (by walk_at "isl") (by rw [List.length_drop, dps_len]; omega) fun m h1 h2 => ?_
          have em := smd_min (show c + i ≤ r.length by omega) h1 h2
          subst em
          walk_at "bm"
          have hC : isO r (c + i) = decide (hgt (r.take (c + i)) = smd r (r.length - (c + i))) := by
            unfold isO
            rw [hb]
            rfl
          refine ⟨fun h3 => ?_, fun h3 => ?_⟩
          · walk_at "bm"
            exact ⟨by walk_at "sub", hyes (by rw [hC, h3])⟩
          · exact ⟨by walk_at "sub", hno (by rw [hC, h3])⟩
        · have hbf : b = false := by
            cases b
            · rfl
            · simp at h
          subst hbf
          walk_at "bm"
          exact ⟨Sub.refl _, hno (by unfold isO; rw [hb]; rfl)⟩
      · intro D hD
        rw [show ((r.length : Int) - (c : Int)).toNat = r.length - c by omega, segO_all r hc]
        exact ⟨_, by walk_at "sub", D, rfl, rfl⟩
    rintro σ s ⟨b, rfl, rfl⟩
    have hn0 := hmin 0 (Nat.zero_le _)
    have e00 : hgt (r.take 0) = 0 := rfl
    have hnn := hmin r.length (Nat.le_refl _)
    rw [List.take_length] at hnn
    obtain ⟨many, hmany⟩ : ∃ many : Nat, (many : Int) = (-hgt (r.take c) + 1) / 2 := ⟨((-hgt (r.take c) + 1) / 2).toNat, by omega⟩
    obtain ⟨more, hmore⟩ : ∃ more : Nat, (more : Int) = (hgt r - hgt (r.take c) + 1) / 2 := ⟨((hgt r - hgt (r.take c) + 1) / 2).toNat, by omega⟩
    obtain ⟨g1, g2, g3⟩ := turn_mend hc h' hmin hmany hmore
    have lc := clos_len r c
    have lo : (opd r (r.length - c)).length ≤ r.length := by rw [← segO_all r hc]; exact Nat.le_trans (segO_len r c _) (by omega)
    refine ws_seq ?_
    walk_at "bn"
    rw [← hmany, show (hgt r + -hgt (r.take c) + 1) / 2 = (more : Int) by rw [hmore]; congr 1]
    walk_at "bn"
    refine we_turned hX.t ?_
    walk_at "bm"
    refine wsl_L (by walk_at "isl") fun q1 hq1 => ?_
    rw [cut_hi (by omega), Int.toNat_natCast]
    walk_at "bm"
    refine wsl_L (by walk_at "isl") fun q2 hq2 => ?_
    rw [cut_lo (by simp; omega)]
    have eL : List.take many (natsV (clos r c)) ++ List.drop (((natsV (opd r (r.length - c))).length : Int) - (more : Int)).toNat (natsV (opd r (r.length - c))) = natsV ((clos r c).take many ++ (opd r (r.length - c)).drop ((opd r (r.length - c)).length - more)) := by
      rw [natsV_app]
      have el : (natsV (opd r (r.length - c))).length = (opd r (r.length - c)).length := by unfold natsV; rw [List.length_map, List.length_map]
      rw [el, show (((opd r (r.length - c)).length : Int) - (more : Int)).toNat = (opd r (r.length - c)).length - more by omega]
      unfold natsV inz
      rw [List.map_take, List.map_take, List.map_drop, List.map_drop]
    have eN : (natsV ((clos r c).take many ++ (opd r (r.length - c)).drop ((opd r (r.length - c)).length - more))).length ≤ 100000 := by
      unfold natsV
      rw [List.length_map, List.length_map, List.length_append, List.length_take, List.length_drop]
      omega
    walk_at "bm"
    refine w2_cat (by walk_at "mem") (by walk_at "mem") (by rw [← List.length_append, eL]; exact eN) fun q3 hq3 => ?_
    rw [eL]
    walk_at "bm"
    refine ⟨q3, inz ((clos r c).take many ++ (opd r (r.length - c)).drop ((opd r (r.length - c)).length - more)), (c : Int), rfl, List.mem_cons_self, fun x dx a2 hx ha2 => .inr ⟨h', x, dx, a2, c, _, rfl, by walk_at "sub", hc, hmin, ?_, ?_, g3, ?_⟩⟩
    · refine List.nodup_append.mpr ⟨List.Nodup.sublist (List.take_sublist _ _) (clos_nodup r c), List.Nodup.sublist (List.drop_sublist _ _) (opd_nodup r (by omega)), fun x hx y hy => ?_⟩
      have h1 := (clos_mem (List.take_subset _ _ hx)).1
      have h2 := (opd_ge r (List.drop_subset _ _ hy)).1
      omega
    · intro p hp
      rcases List.mem_append.mp hp with hp | hp
      · have := (clos_mem (List.take_subset _ _ hp)).1
        omega
      · exact (opd_ge r (List.drop_subset _ _ hp)).2.1
    · rw [List.length_append, List.length_take, List.length_drop]
      unfold tnNum pos
      rw [Int.toNat_natCast]
      omega
  · rintro v H' s w (⟨h0, x, d, rfl, m⟩ | ⟨h0, x, d, a, c, ps, rfl, hs, h1, h2, h3, h4, h5, h6⟩)
    · exact k1 h0 H' x d w.ex (w.own _ m).1 (w.own _ m).2
    · have w2 := w.sub hs
      have nd : [a, x].Nodup := w2.nd
      have ma := w2.own (a, .lst (natsV ps)) List.mem_cons_self
      have mx := w2.own (x, tIns C d a (c : Nat)) (List.mem_cons_of_mem _ List.mem_cons_self)
      exact k2 h0 H' x d a c ps w.ex mx.1 ma.1 nd mx.2 ma.2 h1 h2 h3 h4 h5 h6
end BM
namespace BM
open PySem L2 Evl
local macro_rules | `(tactic| walk_at "mem") => `(tactic| first | exact List.mem_cons_self | (refine List.mem_cons_of_mem _ ?_; walk_at "mem"))
local macro_rules | `(tactic| walk_at "swap") => `(tactic| first | exact Swap.here | (apply Swap.there; walk_at "swap"))
local macro_rules | `(tactic| walk_at "subl") => `(tactic| first | exact List.Sublist.refl _ | exact List.nil_sublist _ | (refine List.Sublist.cons_cons _ ?_; walk_at "subl") | (refine List.Sublist.cons _ ?_; walk_at "subl"))
local macro_rules | `(tactic| walk_at "sub") => `(tactic| first | exact Sub.refl _ | (refine ⟨?_, ?_⟩ <;> walk_at "subl"))
local macro_rules | `(tactic| walk_at "isl") => `(tactic| first | exact isL_own (by walk_at "mem") | exact isL_old (by assumption) | assumption)
local macro_rules | `(tactic| walk_at "ist") => `(tactic| first | exact isT_own (by walk_at "mem") | exact isT_old (by assumption) | assumption)
local macro_rules | `(tactic| walk_at "len") => `(tactic| first | omega | decide | (simp only [List.length_map, List.length_take, List.length_drop, List.length_append, List.length_cons, List.length_nil, List.length_reverse, dps_len, flp_len]; omega) | (simp [dps_len, flp_len]; omega) | simp)
local macro_rules | `(tactic| walk_at "b0") => `(tactic| first
  | with_reducible refine' ws_set ?_
  | with_reducible refine' ws_par ?_
  | with_reducible refine' ws_asg ?_
  | with_reducible refine' ws_drop ?_
  | with_reducible refine' ws_ret ?_
  | with_reducible refine' ws_if ?_
  | with_reducible refine' ws_next ?_
  | with_reducible refine' ws_brk ?_
  | with_reducible refine' ws_cont ?_
  | ((with_reducible refine' we_var ?hv ?_); case hv => rfl)
  | with_reducible refine' we_c ?_
  | with_reducible refine' we_op ?_
  | with_reducible refine' we_un ?_
  | with_reducible refine' we_if ?_
  | with_reducible refine' we_and ?_
  | with_reducible refine' we_or ?_
  | with_reducible refine' we_not ?_
  | with_reducible refine' wa_nil ?_
  | with_reducible refine' wa_cons ?_
  | (with_reducible refine' we_lst ?_)
  | (with_reducible refine' we_tup ?_)
  | with_reducible refine' we_cb ?_
  | with_reducible refine' we_call0 ?_
  | with_reducible refine' we_sl ?_
  | with_reducible refine' wo_none ?_
  | (with_reducible refine' wo_some ?_)
  | with_reducible refine' wt_test ?_
  | with_reducible refine' wt_B ?_
  | with_reducible refine' wt_and ?_
  | with_reducible refine' wt_or ?_
  | with_reducible refine' wt_not ?_
  | with_reducible refine' wt_yes ?_
  | with_reducible refine' we_chain ?_
  | with_reducible refine' we_chain3 ?_
  | with_reducible refine' we_revT ?_
  | with_reducible refine' we_revL ?_
  | with_reducible refine' we_bm ?_
  | with_reducible refine' we_bm0 ?_
  | with_reducible refine' ws_for ?_
  | with_reducible refine' we_lc ?_
  | with_reducible refine' wi_list ?_
  | with_reducible refine' wi_tup ?_
  | with_reducible refine' wi_T ?_
  | with_reducible refine' wi_rng1 ?_
  | with_reducible refine' wi_rng2 ?_
  | with_reducible refine' wi_rng3 ?_
  | with_reducible refine' wi_enum ?_
  | with_reducible refine' wi_enumT ?_
  | with_reducible refine' wi_zip ?_
  | with_reducible refine' wg_name ?_
  | with_reducible refine' wg_sub ?_
  | with_reducible refine' wgs_nil ?_
  | with_reducible refine' wgs_cons ?_
  | ((with_reducible refine' wg_tup ?ht ?hn ?_); (case ht => walk_at "ist"); (case hn => rfl))
  | with_reducible refine' w2_add ?_
  | with_reducible refine' w2_sub ?_
  | with_reducible refine' w2_lt ?_
  | with_reducible refine' w2_le ?_
  | with_reducible refine' w2_gt ?_
  | with_reducible refine' w2_ge ?_
  | with_reducible refine' w2_eqI ?_
  | with_reducible refine' w2_neI ?_
  | with_reducible refine' w2_eqT ?_
  | with_reducible refine' w2_neT ?_
  | with_reducible refine' w2_eqB ?_
  | with_reducible refine' w2_neB ?_
  | with_reducible refine' w2_isN ?_
  | with_reducible refine' w2_notN ?_
  | with_reducible refine' w2_isB ?_
  | with_reducible refine' w2_inT ?_
  | with_reducible refine' w1_neg ?_
  | with_reducible refine' wl_abs ?_
  | with_reducible refine' wl_max2 ?_
  | with_reducible refine' wl_min2 ?_
  | with_reducible refine' wl_intB ?_
  | ((with_reducible refine' w2_div ?h ?_); case h => first | omega | (constructor <;> omega))
  | ((with_reducible refine' w2_mod ?h ?_); case h => omega)
  | ((with_reducible refine' w2_catT ?h ?_); case h => walk_at "len")
  | ((with_reducible refine' wsl_T ?h ?_); case h => walk_at "len")
  | ((with_reducible refine' wl_lenT ?h ?_); case h => walk_at "len")
  | ((with_reducible refine' wl_len ?h ?_); case h => walk_at "isl")
  | ((with_reducible refine' wl_len ?h ?_); case h => walk_at "isl")
  | ((with_reducible refine' wm_append ?sw ?hl ?_); (case sw => walk_at "swap"); (case hl => walk_at "len")))
local macro_rules | `(tactic| walk_at "b1") => `(tactic| first | with_reducible refine' ws_seq ?_ | walk_at "b0")
local macro_rules | `(tactic| walk_at "bx") => `(tactic| first
  | refine ⟨_, rfl, ?_⟩
  | refine ⟨_, _, rfl, ?_⟩
  | refine ⟨ty_L (by walk_at "isl"), ?_⟩
  | refine ⟨ty_S, ?_⟩
  | refine spl_t (by rfl) ?_
  | refine spl_f (by rfl) ?_
  | exact rfl)
local macro_rules | `(tactic| walk_at "bm") => `(tactic| repeat (first | walk_at "b1" | walk_at "bx"))
local macro_rules | `(tactic| walk_at "bn") => `(tactic| repeat (first | walk_at "b0" | walk_at "bx"))
local macro_rules | `(tactic| walk_at "b0") => `(tactic| with_reducible refine' c_deepens ?_)
local macro_rules | `(tactic| walk_at "b0") => `(tactic| ((with_reducible refine' c_depths_of ?hl ?_); (case hl => walk_at "len")))
local macro_rules | `(tactic| walk_at "b0") => `(tactic| with_reducible refine' c_is_wholeI ?_)
local macro_rules | `(tactic| walk_at "b0") => `(tactic| with_reducible refine' c_flipped ?_)
local macro_rules | `(tactic| walk_at "b0") => `(tactic| ((with_reducible refine' c_is_right_row ?hl ?_); (case hl => walk_at "len")))
local macro_rules | `(tactic| walk_at "b0") => `(tactic| ((with_reducible refine' c_asked_row ?hl ?_); (case hl => walk_at "len")))
local macro_rules | `(tactic| walk_at "b0") => `(tactic| ((with_reducible refine' c_depths ?hl ?_); (case hl => walk_at "len")))
local macro_rules | `(tactic| walk_at "b0") => `(tactic| ((with_reducible refine' c_is_right ?hl ?_); (case hl => walk_at "len")))
local macro_rules | `(tactic| walk_at "b0") => `(tactic| ((with_reducible refine' c__law_depths ?hl ?_); (case hl => walk_at "len")))
local macro_rules | `(tactic| walk_at "b0") => `(tactic| ((with_reducible refine' c__law_good ?hl ?_); (case hl => walk_at "len")))
local macro_rules | `(tactic| walk_at "b0") => `(tactic| ((with_reducible refine' wl_listOf ?hx ?_); (case hx => walk_at "isl")))
local macro_rules | `(tactic| walk_at "b0") => `(tactic| with_reducible refine' w2_notB ?_)
local macro_rules | `(tactic| walk_at "own") => `(tactic| exact own_l (by walk_at "mem"))
local macro_rules | `(tactic| walk_at "b0") => `(tactic| with_reducible refine' we_fld ?_)
local macro_rules | `(tactic| walk_at "b0") => `(tactic| refine ⟨_, _, _, _, _, rfl, own_l (by walk_at "mem"), Grw.cl (by assumption), Grw.nr (by assumption), by rfl, ?_⟩)
local macro_rules | `(tactic| walk_at "b0") => `(tactic| refine ⟨_, _, _, _, _, rfl, fun H' o => o.ex _ _ (by assumption), Grw.cl (by assumption), Grw.nr (by assumption), by rfl, ?_⟩)
local macro_rules | `(tactic| walk_at "b0") => `(tactic| with_reducible refine' we_meth ?_)
local macro_rules | `(tactic| walk_at "b0") => `(tactic| refine ⟨_, _, _, rfl, own_l (by walk_at "mem"), by rfl, ?_⟩)
local macro_rules | `(tactic| walk_at "b0") => `(tactic| refine ⟨_, _, _, rfl, fun H' o => o.ex _ _ (by assumption), by rfl, ?_⟩)
local macro_rules | `(tactic| walk_at "gown") => `(tactic| first | exact own_l (by walk_at "mem") | exact fun H' o => o.ex _ _ (by assumption))
local macro_rules | `(tactic| walk_at "b0") => `(tactic| with_reducible refine' wm_countT ?_)
local macro_rules | `(tactic| walk_at "b0") => `(tactic| with_reducible refine' we_methU ?_)
theorem c_turns_odd {K : PySem.W.Frag} {C : CA} {H0 : Hp} {s : Ld} {Q : V → Ld → Prop} {E : XK} {r : List Bool} (hX : Ex03 K C) (hl : r.length ≤ 40) (h0 : r.length % 2 = 1) (q : ∀ x d, Q (.ref x) ⟨(x, oIns C d) :: s.L, s.T⟩) : WC H0 (sp_turns K C) E [.str (T r)] s Q := fun H o R k =>
  ⟨r, hX, rfl, hl, fun _ H' x d e hx h => k _ _ _ (own_add (o.ext e) (fresh_back o.ex hx) (own_key o hx) h) (q x d), fun h => absurd h (by omega)⟩
theorem c_turns_ev {K : PySem.W.Frag} {C : CA} {H0 : Hp} {s : Ld} {Q : V → Ld → Prop} {E : XK} {r : List Bool} (hX : Ex03 K C) (hl : r.length ≤ 40) (h0 : r.length % 2 = 0) (q : ∀ x d a (c : Nat) (ps : List Nat), c ≤ r.length → (∀ j, j ≤ r.length → hgt (r.take c) ≤ hgt (r.take j)) → ps.Nodup → (∀ p ∈ ps, p < r.length) → isR (flp (inz ps) r) = true → (ps.length : Int) = tnNum r c → Q (.ref x) ⟨(a, .lst (natsV ps)) :: (x, tIns C d a (c : Nat)) :: s.L, s.T⟩) : WC H0 (sp_turns K C) E [.str (T r)] s Q := fun H o R k =>
  ⟨r, hX, rfl, hl, fun h => absurd h (by omega), fun _ H' x d a c ps e hx ha nd h1 h2 g1 g2 g3 g4 g5 g6 => by
    have na : a ∉ [x] := (List.nodup_cons.mp nd).1
    have w1 := own_add (o.ext e) (fresh_back o.ex hx) (own_key o hx) h1
    have w2 := own_add w1 (fresh_back o.ex ha) (fun hm => by
      rcases List.mem_cons.mp hm with z | hm
      · exact na (by rw [z]; exact List.mem_cons_self)
      · exact own_key o ha hm) h2
    exact k _ _ _ w2 (q x d a c ps g1 g2 g3 g4 g5 g6)⟩
end BM
namespace BM
open PySem L2 Evl
local macro_rules | `(tactic| walk_at "mem") => `(tactic| first | exact List.mem_cons_self | (refine List.mem_cons_of_mem _ ?_; walk_at "mem"))
local macro_rules | `(tactic| walk_at "swap") => `(tactic| first | exact Swap.here | (apply Swap.there; walk_at "swap"))
local macro_rules | `(tactic| walk_at "subl") => `(tactic| first | exact List.Sublist.refl _ | exact List.nil_sublist _ | (refine List.Sublist.cons_cons _ ?_; walk_at "subl") | (refine List.Sublist.cons _ ?_; walk_at "subl"))
local macro_rules | `(tactic| walk_at "sub") => `(tactic| first | exact Sub.refl _ | (refine ⟨?_, ?_⟩ <;> walk_at "subl"))
local macro_rules | `(tactic| walk_at "isl") => `(tactic| first | exact isL_own (by walk_at "mem") | exact isL_old (by assumption) | assumption)
local macro_rules | `(tactic| walk_at "ist") => `(tactic| first | exact isT_own (by walk_at "mem") | exact isT_old (by assumption) | assumption)
local macro_rules | `(tactic| walk_at "len") => `(tactic| first | omega | decide | (simp only [List.length_map, List.length_take, List.length_drop, List.length_append, List.length_cons, List.length_nil, List.length_reverse, dps_len, flp_len]; omega) | (simp [dps_len, flp_len]; omega) | simp)
local macro_rules | `(tactic| walk_at "b0") => `(tactic| first
  | with_reducible refine' ws_set ?_
  | with_reducible refine' ws_par ?_
  | with_reducible refine' ws_asg ?_
  | with_reducible refine' ws_drop ?_
  | with_reducible refine' ws_ret ?_
  | with_reducible refine' ws_if ?_
  | with_reducible refine' ws_next ?_
  | with_reducible refine' ws_brk ?_
  | with_reducible refine' ws_cont ?_
  | ((with_reducible refine' we_var ?hv ?_); case hv => rfl)
  | with_reducible refine' we_c ?_
  | with_reducible refine' we_op ?_
  | with_reducible refine' we_un ?_
  | with_reducible refine' we_if ?_
  | with_reducible refine' we_and ?_
  | with_reducible refine' we_or ?_
  | with_reducible refine' we_not ?_
  | with_reducible refine' wa_nil ?_
  | with_reducible refine' wa_cons ?_
  | (with_reducible refine' we_lst ?_)
  | (with_reducible refine' we_tup ?_)
  | with_reducible refine' we_cb ?_
  | with_reducible refine' we_call0 ?_
  | with_reducible refine' we_sl ?_
  | with_reducible refine' wo_none ?_
  | (with_reducible refine' wo_some ?_)
  | with_reducible refine' wt_test ?_
  | with_reducible refine' wt_B ?_
  | with_reducible refine' wt_and ?_
  | with_reducible refine' wt_or ?_
  | with_reducible refine' wt_not ?_
  | with_reducible refine' wt_yes ?_
  | with_reducible refine' we_chain ?_
  | with_reducible refine' we_chain3 ?_
  | with_reducible refine' we_revT ?_
  | with_reducible refine' we_revL ?_
  | with_reducible refine' we_bm ?_
  | with_reducible refine' we_bm0 ?_
  | with_reducible refine' ws_for ?_
  | with_reducible refine' we_lc ?_
  | with_reducible refine' wi_list ?_
  | with_reducible refine' wi_tup ?_
  | with_reducible refine' wi_T ?_
  | with_reducible refine' wi_rng1 ?_
  | with_reducible refine' wi_rng2 ?_
  | with_reducible refine' wi_rng3 ?_
  | with_reducible refine' wi_enum ?_
  | with_reducible refine' wi_enumT ?_
  | with_reducible refine' wi_zip ?_
  | with_reducible refine' wg_name ?_
  | with_reducible refine' wg_sub ?_
  | with_reducible refine' wgs_nil ?_
  | with_reducible refine' wgs_cons ?_
  | ((with_reducible refine' wg_tup ?ht ?hn ?_); (case ht => walk_at "ist"); (case hn => rfl))
  | with_reducible refine' w2_add ?_
  | with_reducible refine' w2_sub ?_
  | with_reducible refine' w2_lt ?_
  | with_reducible refine' w2_le ?_
  | with_reducible refine' w2_gt ?_
  | with_reducible refine' w2_ge ?_
  | with_reducible refine' w2_eqI ?_
  | with_reducible refine' w2_neI ?_
  | with_reducible refine' w2_eqT ?_
  | with_reducible refine' w2_neT ?_
  | with_reducible refine' w2_eqB ?_
  | with_reducible refine' w2_neB ?_
  | with_reducible refine' w2_isN ?_
  | with_reducible refine' w2_notN ?_
  | with_reducible refine' w2_isB ?_
  | with_reducible refine' w2_inT ?_
  | with_reducible refine' w1_neg ?_
  | with_reducible refine' wl_abs ?_
  | with_reducible refine' wl_max2 ?_
  | with_reducible refine' wl_min2 ?_
  | with_reducible refine' wl_intB ?_
  | ((with_reducible refine' w2_div ?h ?_); case h => first | omega | (constructor <;> omega))
  | ((with_reducible refine' w2_mod ?h ?_); case h => omega)
  | ((with_reducible refine' w2_catT ?h ?_); case h => walk_at "len")
  | ((with_reducible refine' wsl_T ?h ?_); case h => walk_at "len")
  | ((with_reducible refine' wl_lenT ?h ?_); case h => walk_at "len")
  | ((with_reducible refine' wl_len ?h ?_); case h => walk_at "isl")
  | ((with_reducible refine' wl_len ?h ?_); case h => walk_at "isl")
  | ((with_reducible refine' wm_append ?sw ?hl ?_); (case sw => walk_at "swap"); (case hl => walk_at "len")))
local macro_rules | `(tactic| walk_at "b1") => `(tactic| first | with_reducible refine' ws_seq ?_ | walk_at "b0")
local macro_rules | `(tactic| walk_at "bx") => `(tactic| first
  | refine ⟨_, rfl, ?_⟩
  | refine ⟨_, _, rfl, ?_⟩
  | refine ⟨ty_L (by walk_at "isl"), ?_⟩
  | refine ⟨ty_S, ?_⟩
  | refine spl_t (by rfl) ?_
  | refine spl_f (by rfl) ?_
  | exact rfl)
local macro_rules | `(tactic| walk_at "bm") => `(tactic| repeat (first | walk_at "b1" | walk_at "bx"))
local macro_rules | `(tactic| walk_at "bn") => `(tactic| repeat (first | walk_at "b0" | walk_at "bx"))
local macro_rules | `(tactic| walk_at "b0") => `(tactic| with_reducible refine' c_deepens ?_)
local macro_rules | `(tactic| walk_at "b0") => `(tactic| ((with_reducible refine' c_depths_of ?hl ?_); (case hl => walk_at "len")))
local macro_rules | `(tactic| walk_at "b0") => `(tactic| with_reducible refine' c_is_wholeI ?_)
local macro_rules | `(tactic| walk_at "b0") => `(tactic| with_reducible refine' c_flipped ?_)
local macro_rules | `(tactic| walk_at "b0") => `(tactic| ((with_reducible refine' c_is_right_row ?hl ?_); (case hl => walk_at "len")))
local macro_rules | `(tactic| walk_at "b0") => `(tactic| ((with_reducible refine' c_asked_row ?hl ?_); (case hl => walk_at "len")))
local macro_rules | `(tactic| walk_at "b0") => `(tactic| ((with_reducible refine' c_depths ?hl ?_); (case hl => walk_at "len")))
local macro_rules | `(tactic| walk_at "b0") => `(tactic| ((with_reducible refine' c_is_right ?hl ?_); (case hl => walk_at "len")))
local macro_rules | `(tactic| walk_at "b0") => `(tactic| ((with_reducible refine' c__law_depths ?hl ?_); (case hl => walk_at "len")))
local macro_rules | `(tactic| walk_at "b0") => `(tactic| ((with_reducible refine' c__law_good ?hl ?_); (case hl => walk_at "len")))
local macro_rules | `(tactic| walk_at "b0") => `(tactic| ((with_reducible refine' wl_listOf ?hx ?_); (case hx => walk_at "isl")))
local macro_rules | `(tactic| walk_at "b0") => `(tactic| with_reducible refine' w2_notB ?_)
local macro_rules | `(tactic| walk_at "own") => `(tactic| exact own_l (by walk_at "mem"))
local macro_rules | `(tactic| walk_at "b0") => `(tactic| with_reducible refine' we_fld ?_)
local macro_rules | `(tactic| walk_at "b0") => `(tactic| refine ⟨_, _, _, _, _, rfl, own_l (by walk_at "mem"), Grw.cl (by assumption), Grw.nr (by assumption), by rfl, ?_⟩)
local macro_rules | `(tactic| walk_at "b0") => `(tactic| refine ⟨_, _, _, _, _, rfl, fun H' o => o.ex _ _ (by assumption), Grw.cl (by assumption), Grw.nr (by assumption), by rfl, ?_⟩)
local macro_rules | `(tactic| walk_at "b0") => `(tactic| with_reducible refine' we_meth ?_)
local macro_rules | `(tactic| walk_at "b0") => `(tactic| refine ⟨_, _, _, rfl, own_l (by walk_at "mem"), by rfl, ?_⟩)
local macro_rules | `(tactic| walk_at "b0") => `(tactic| refine ⟨_, _, _, rfl, fun H' o => o.ex _ _ (by assumption), by rfl, ?_⟩)
local macro_rules | `(tactic| walk_at "gown") => `(tactic| first | exact own_l (by walk_at "mem") | exact fun H' o => o.ex _ _ (by assumption))
local macro_rules | `(tactic| walk_at "b0") => `(tactic| with_reducible refine' wm_countT ?_)
local macro_rules | `(tactic| walk_at "b0") => `(tactic| with_reducible refine' we_methU ?_)
end BM
namespace BM
/-! ### stretches turned round: depths -/
theorem hgt_rev (r : List Bool) : hgt r.reverse = hgt r := by
  induction r with
  | nil => rfl
  | cons b r ih =>
    rw [List.reverse_cons, hgt_app, ih]
    simp only [hgt]
    omega
theorem hgt_cut (r : List Bool) (f i : Nat) : hgt ((r.drop f).take i) = hgt (r.take (f + i)) - hgt (r.take f) := by
  rw [List.take_add, hgt_app]
  omega
theorem rnd_lo {r : List Bool} {f b j : Nat} (hf : f ≤ b) (hb : b ≤ r.length) (h : j ≤ f) : hgt ((rnd r f b).take j) = hgt (r.take j) := by
  unfold rnd
  rw [List.append_assoc, List.take_append_of_le_length (by rw [List.length_take]; omega), List.take_take, Nat.min_eq_left h]
theorem rnd_mid {r : List Bool} {f b j : Nat} (hf : f ≤ j) (hj : j ≤ b) (hb : b ≤ r.length) : hgt ((rnd r f b).take j) = hgt (r.take f) + hgt (r.take b) - hgt (r.take (f + b - j)) := by
  have e1 : (r.take f).length = f := by rw [List.length_take]; omega
  have e2 : (((r.drop f).take (b - f)).reverse).length = b - f := by rw [List.length_reverse, List.length_take, List.length_drop]; omega
  have e3 : ((r.drop f).take (b - f)).length = b - f := by rw [List.length_take, List.length_drop]; omega
  unfold rnd
  rw [List.append_assoc, List.take_append, e1, List.take_of_length_le (by omega), hgt_app, List.take_append_of_le_length (by omega), List.take_reverse, e3, hgt_rev]
  have h1 : hgt ((r.drop f).take (b - f)) = hgt (((r.drop f).take (b - f)).take (b - f - (j - f))) + hgt (((r.drop f).take (b - f)).drop (b - f - (j - f))) := by
    rw [← hgt_app, List.take_append_drop]
  have h2 := hgt_cut r f (b - f)
  rw [List.take_take, Nat.min_eq_left (by omega)] at h1
  have h3 := hgt_cut r f (b - f - (j - f))
  rw [show f + (b - f) = b by omega] at h2
  rw [show f + (b - f - (j - f)) = f + b - j by omega] at h3
  omega
theorem rnd_hi {r : List Bool} {f b j : Nat} (hf : f ≤ b) (hb : b ≤ r.length) (h : b ≤ j) : hgt ((rnd r f b).take j) = hgt (r.take j) := by
  have e1 : (r.take f).length = f := by rw [List.length_take]; omega
  have e2 : (((r.drop f).take (b - f)).reverse).length = b - f := by rw [List.length_reverse, List.length_take, List.length_drop]; omega
  have e4 : (r.take f ++ ((r.drop f).take (b - f)).reverse).length = b := by rw [List.length_append, e1, e2]; omega
  unfold rnd
  rw [List.take_append, e4, List.take_of_length_le (by omega), hgt_app, hgt_app, hgt_rev, hgt_cut, hgt_cut]
  rw [show f + (b - f) = b by omega, show b + (j - b) = j by omega]
  omega
theorem rnd_hgt {r : List Bool} {f b : Nat} (hf : f ≤ b) (hb : b ≤ r.length) : hgt (rnd r f b) = hgt r := by
  have := rnd_hi (j := r.length) hf hb hb
  rw [List.take_length, List.take_of_length_le (by rw [rnd_len hf hb]; exact Nat.le_refl _)] at this
  exact this
theorem rnAll_hgt : ∀ (ps : List (Int × Int)) (r : List Bool), (∀ p ∈ ps, stOk r.length p) → hgt (rnAll r ps) = hgt r
  | [], r, _ => rfl
  | p :: ps, r, h => by
    have hp := h p List.mem_cons_self
    unfold stOk at hp
    have e : (rnd r p.1.toNat p.2.toNat).length = r.length := rnd_len (by omega) (by omega)
    show hgt (rnAll (rnd r p.1.toNat p.2.toNat) ps) = _
    rw [rnAll_hgt ps _ (fun q hq => by rw [e]; exact h q (List.mem_cons_of_mem _ hq))]
    exact rnd_hgt (by omega) (by omega)
/-- the greatest -/
def mxi (xs : List Int) : Int := xs.max?.getD 0
theorem mxi_of {xs : List Int} {m : Int} (h1 : m ∈ xs) (h2 : ∀ y ∈ xs, y ≤ m) : m = mxi xs := by
  unfold mxi
  rw [List.max?_eq_some_iff.mpr ⟨h1, h2⟩]
  rfl
theorem mxi_spec {xs : List Int} (h : xs ≠ []) : mxi xs ∈ xs ∧ ∀ y ∈ xs, y ≤ mxi xs := by
  unfold mxi
  cases e : xs.max? with
  | none => exact absurd (List.max?_eq_none_iff.mp e) h
  | some m => exact List.max?_eq_some_iff.mp e
/-- the places with a depth below nothing -/
def blw (r : List Bool) : List Nat := (List.range (r.length + 1)).filter fun j => decide (hgt (r.take j) < 0)
def bf (r : List Bool) : Nat := (blw r).headD 0
def bl (r : List Bool) : Nat := (blw r).getLastD 0
theorem mem_blw {r : List Bool} {j : Nat} : j ∈ blw r ↔ j ≤ r.length ∧ hgt (r.take j) < 0 := by
  unfold blw
  rw [List.mem_filter, List.mem_range, decide_eq_true_eq]
  omega
theorem blw_sorted (r : List Bool) : (blw r).Pairwise (· < ·) := List.Pairwise.sublist List.filter_sublist List.pairwise_lt_range
theorem first_le : ∀ {l : List Nat}, l.Pairwise (· < ·) → ∀ x ∈ l, l.headD 0 ≤ x
  | a :: l, h, x, hx => by
    rcases List.mem_cons.mp hx with rfl | hx
    · exact Nat.le_refl _
    · exact Nat.le_of_lt ((List.pairwise_cons.mp h).1 x hx)
theorem last_ge : ∀ {l : List Nat}, l.Pairwise (· < ·) → ∀ x ∈ l, x ≤ l.getLastD 0
  | [a], h, x, hx => by
    rw [List.mem_singleton.mp hx]
    exact Nat.le_refl _
  | a :: b :: l, h, x, hx => by
    have ih := last_ge (List.pairwise_cons.mp h).2
    have e : (a :: b :: l).getLastD 0 = (b :: l).getLastD 0 := by simp [List.getLastD]
    rw [e]
    rcases List.mem_cons.mp hx with rfl | hx
    · exact Nat.le_trans (Nat.le_of_lt ((List.pairwise_cons.mp h).1 b List.mem_cons_self)) (ih b List.mem_cons_self)
    · exact ih x hx
structure Blw (r : List Bool) (f l : Nat) : Prop where
  le : f ≤ l
  ll : l ≤ r.length
  hf : hgt (r.take f) < 0
  hl : hgt (r.take l) < 0
  lo : ∀ j, j < f → 0 ≤ hgt (r.take j)
  hi : ∀ j, j ≤ r.length → l < j → 0 ≤ hgt (r.take j)
theorem blw_law {r : List Bool} (h : blw r ≠ []) : Blw r (bf r) (bl r) := by
  have m1 : bf r ∈ blw r := by
    unfold bf
    cases e : blw r with
    | nil => exact absurd e h
    | cons a l => exact List.mem_cons_self
  have m2 : bl r ∈ blw r := by
    unfold bl
    rw [List.getLastD_eq_getLast?, List.getLast?_eq_some_getLast h]
    exact List.getLast_mem h
  have f1 := mem_blw.mp m1
  have f2 := mem_blw.mp m2
  refine ⟨first_le (blw_sorted r) _ m2, f2.1, f1.2, f2.2, fun j hj => ?_, fun j hl hj => ?_⟩
  · refine Int.not_lt.mp fun hn => ?_
    have := first_le (blw_sorted r) j (mem_blw.mpr ⟨by omega, hn⟩)
    unfold bf at hj
    omega
  · refine Int.not_lt.mp fun hn => ?_
    have := last_ge (blw_sorted r) j (mem_blw.mpr ⟨by omega, hn⟩)
    unfold bl at hj
    omega
theorem blw_some {r : List Bool} (h0 : hgt r = 0) (h : isR r = false) : blw r ≠ [] := by
  intro e
  have : isR r = true := isR_iff.mpr ⟨h0, fun j hj => Int.not_lt.mp fun hn => by
    have := mem_blw.mpr ⟨hj, hn⟩
    rw [e] at this
    cases this⟩
  rw [this] at h
  cases h
/-- greatest depth up to the first, from the last -/
def mxA (r : List Bool) : Int := mxi ((dps r).take (bf r + 1))
def mxB (r : List Bool) : Int := mxi ((dps r).drop (bl r))
theorem dps_take_mem {r : List Bool} {n : Nat} (hn : n ≤ r.length) {z : Int} : z ∈ (dps r).take (n + 1) ↔ ∃ j, j ≤ n ∧ z = hgt (r.take j) := by
  rw [List.mem_iff_getElem?]
  constructor
  · rintro ⟨j, hj⟩
    rw [List.getElem?_take] at hj
    split at hj
    · rename_i h
      rw [dps_get (by omega)] at hj
      exact ⟨j, by omega, (Option.some.inj hj).symm⟩
    · cases hj
  · rintro ⟨j, hj, rfl⟩
    exact ⟨j, by rw [List.getElem?_take, if_pos (by omega), dps_get (by omega)]⟩
theorem dps_drop_mem {r : List Bool} {n : Nat} (hn : n ≤ r.length) {z : Int} : z ∈ (dps r).drop n ↔ ∃ j, n ≤ j ∧ j ≤ r.length ∧ z = hgt (r.take j) := by
  rw [List.mem_iff_getElem?]
  constructor
  · rintro ⟨j, hj⟩
    rw [List.getElem?_drop] at hj
    have hl : n + j < (dps r).length := (List.getElem?_eq_some_iff.mp hj).1
    rw [dps_len] at hl
    rw [dps_get (by omega)] at hj
    exact ⟨n + j, by omega, by omega, (Option.some.inj hj).symm⟩
  · rintro ⟨j, h1, h2, rfl⟩
    exact ⟨j - n, by rw [List.getElem?_drop, show n + (j - n) = j by omega, dps_get h2]⟩
theorem mxA_spec {r : List Bool} (B : Blw r (bf r) (bl r)) : (∃ j, j ≤ bf r ∧ mxA r = hgt (r.take j)) ∧ ∀ j, j ≤ bf r → hgt (r.take j) ≤ mxA r := by
  have hl : bf r ≤ r.length := Nat.le_trans B.le B.ll
  have hne : (dps r).take (bf r + 1) ≠ [] := fun e => by
    have := congrArg List.length e
    rw [List.length_take, dps_len, List.length_nil] at this
    omega
  obtain ⟨h1, h2⟩ := mxi_spec hne
  exact ⟨(dps_take_mem hl).mp h1, fun j hj => h2 _ ((dps_take_mem hl).mpr ⟨j, hj, rfl⟩)⟩
theorem mxB_spec {r : List Bool} (B : Blw r (bf r) (bl r)) : (∃ j, bl r ≤ j ∧ j ≤ r.length ∧ mxB r = hgt (r.take j)) ∧ ∀ j, bl r ≤ j → j ≤ r.length → hgt (r.take j) ≤ mxB r := by
  have hl := B.ll
  have hne : (dps r).drop (bl r) ≠ [] := fun e => by
    have := congrArg List.length e
    rw [List.length_drop, dps_len] at this
    simp at this
    omega
  obtain ⟨h1, h2⟩ := mxi_spec hne
  exact ⟨(dps_drop_mem hl).mp h1, fun j h3 h4 => h2 _ ((dps_drop_mem hl).mpr ⟨j, h3, h4, rfl⟩)⟩
/-- whether stretches and a top are as told -/
def rnTop (r : List Bool) : Option Int → Bool
  | none => false
  | some z => decide ((bf r : Int) ≤ z ∧ z ≤ (bl r : Int)) && decide (mxA r + mxB r < hgt (r.take z.toNat))
def rnSh (r : List Bool) (ps : List (Int × Int)) (t : Option Int) : Bool :=
  if (∀ p ∈ ps, stOk r.length p) ∧ ps.length ≤ 2 then
    isR (rnAll r ps) && (if ps.length = 0 then t.isNone else (!isR r && (if ps.length = 1 then t.isNone else rnTop r t)))
  else false
theorem rnSh_none {r : List Bool} (h : isR r = true) : rnSh r [] none = true := by
  unfold rnSh
  rw [if_pos ⟨(fun p hp => by cases hp), by simp⟩]
  show (isR r && _) = true
  rw [h]
  rfl
theorem rn_two {r : List Bool} {f b : Nat} (h0 : hgt r = 0) (hf : f < b) (hb : b ≤ r.length) (lo : ∀ j, j < f → 0 ≤ hgt (r.take j)) (hi : ∀ j, j ≤ r.length → b < j → 0 ≤ hgt (r.take j)) (mid : ∀ k, f ≤ k → k ≤ b → hgt (r.take k) ≤ hgt (r.take f) + hgt (r.take b)) : isR (rnd r f b) = true := by
  refine isR_iff.mpr ⟨by rw [rnd_hgt (by omega) hb, h0], fun j hj => ?_⟩
  rw [rnd_len (by omega) hb] at hj
  rcases Nat.lt_or_ge j f with h1 | h1
  · rw [rnd_lo (by omega) hb (by omega)]
    exact lo j h1
  · rcases Nat.lt_or_ge b j with h2 | h2
    · rw [rnd_hi (by omega) hb (by omega)]
      exact hi j hj h2
    · rw [rnd_mid h1 h2 hb]
      have := mid (f + b - j) (by omega) (by omega)
      omega
/-- one stretch from a greatest depth up to the first to one from the last on -/
structure OneTwo (r : List Bool) (one two : Nat) : Prop where
  l1 : one < bf r
  l2 : bl r < two
  l3 : two ≤ r.length
  e1 : hgt (r.take one) = mxA r
  e2 : hgt (r.take two) = mxB r
theorem oneTwo_of {r : List Bool} (h0 : hgt r = 0) (B : Blw r (bf r) (bl r)) {one two : Nat} (l1 : one ≤ bf r) (l2 : bl r ≤ two) (l3 : two ≤ r.length) (e1 : hgt (r.take one) = mxA r) (e2 : hgt (r.take two) = mxB r) : OneTwo r one two := by
  have a := (mxA_spec B).2 0 (Nat.zero_le _)
  have b := (mxB_spec B).2 r.length B.ll (Nat.le_refl _)
  have z0 : hgt (r.take 0) = 0 := rfl
  rw [List.take_length, h0] at b
  have h1 := B.hf
  have h2 := B.hl
  refine ⟨Nat.lt_of_le_of_ne l1 fun e => ?_, Nat.lt_of_le_of_ne l2 fun e => ?_, l3, e1, e2⟩
  · rw [← e] at h1
    omega
  · rw [e] at h2
    omega
theorem rnSh_one {r : List Bool} (h0 : hgt r = 0) (hR : isR r = false) {one two : Nat} (O : OneTwo r one two) (hm : ∀ k, one ≤ k → k ≤ two → hgt (r.take k) ≤ hgt (r.take one) + hgt (r.take two)) : rnSh r [((one : Nat), (two : Nat))] none = true := by
  have B := blw_law (blw_some h0 hR)
  have l := B.le
  have l1 := O.l1
  have l2 := O.l2
  have l3 := O.l3
  unfold rnSh
  rw [if_pos ⟨(fun p hp => by rw [List.mem_singleton.mp hp]; exact ⟨by omega, by show (one : Int) < (two : Int); omega, by show (two : Int) ≤ _; omega⟩), by simp⟩]
  show (isR (rnd r one two) && (!isR r && true)) = true
  rw [hR, rn_two h0 (by omega) l3 (fun j hj => B.lo j (by omega)) (fun j hj hl => B.hi j hj (by omega)) hm]
  rfl
theorem rnSh_two {r : List Bool} (h0 : hgt r = 0) (hR : isR r = false) {most top : Nat} (hm : most ≤ r.length) (hmax : ∀ j, j ≤ r.length → hgt (r.take j) ≤ hgt (r.take most)) (t1 : bf r ≤ top) (t2 : top ≤ bl r) (t3 : mxA r + mxB r < hgt (r.take top)) :
    0 < most ∧ most < r.length ∧ rnSh r [(0, (most : Nat)), ((most : Nat), (r.length : Nat))] (some (top : Nat)) = true := by
  have B := blw_law (blw_some h0 hR)
  have a := (mxA_spec B).2 0 (Nat.zero_le _)
  have b := (mxB_spec B).2 r.length B.ll (Nat.le_refl _)
  have z0 : hgt (r.take 0) = 0 := rfl
  rw [List.take_length, h0] at b
  have c := hmax top (by have := B.ll; omega)
  have m0 : 0 < most := by
    rcases Nat.eq_zero_or_pos most with e | e
    · subst e; omega
    · exact e
  have ml : most < r.length := by
    rcases Nat.lt_or_eq_of_le hm with e | e
    · exact e
    · subst e; rw [List.take_length, h0] at c; omega
  refine ⟨m0, ml, ?_⟩
  unfold rnSh
  rw [if_pos ⟨(fun p hp => by
    rcases List.mem_cons.mp hp with rfl | hp
    · exact ⟨Int.le_refl _, by show (0 : Int) < (most : Int); omega, by show (most : Int) ≤ _; omega⟩
    · rw [List.mem_singleton.mp hp]
      exact ⟨by show (0 : Int) ≤ (most : Int); omega, by show (most : Int) < (r.length : Int); omega, Int.le_refl _⟩), by simp⟩]
  show (isR (rnd (rnd r 0 most) most r.length) && (!isR r && (decide ((bf r : Int) ≤ (top : Int) ∧ (top : Int) ≤ (bl r : Int)) && decide (mxA r + mxB r < hgt (r.take ((top : Int).toNat)))))) = true
  rw [hR, Int.toNat_natCast, decide_eq_true t3, decide_eq_true ⟨by omega, by omega⟩]
  have l1 : (rnd r 0 most).length = r.length := rnd_len (Nat.zero_le _) hm
  have hh : hgt (rnd r 0 most) = 0 := by rw [rnd_hgt (Nat.zero_le _) hm, h0]
  have h2 : isR (rnd (rnd r 0 most) most r.length) = true := by
    refine rn_two hh ml (by omega) (fun j hj => ?_) (fun j hj hl => by omega) (fun k h1 h2 => ?_)
    · rw [rnd_mid (Nat.zero_le _) (by omega) hm, z0]
      have := hmax (0 + most - j) (by omega)
      omega
    · rw [rnd_hi (Nat.zero_le _) hm h1, rnd_hi (Nat.zero_le _) hm (Nat.le_refl _), rnd_hi (Nat.zero_le _) hm hm, List.take_length, h0]
      have := hmax k h2
      omega
  rw [h2]
  rfl
/-- the greatest depth from the first to the last -/
def mid (r : List Bool) : Int := mxi (((dps r).drop (bf r)).take (bl r + 1 - bf r))
theorem dps_mid_mem {r : List Bool} {a b : Nat} (hab : a ≤ b) (hb : b ≤ r.length) {z : Int} : z ∈ ((dps r).drop a).take (b + 1 - a) ↔ ∃ j, a ≤ j ∧ j ≤ b ∧ z = hgt (r.take j) := by
  rw [List.mem_iff_getElem?]
  constructor
  · rintro ⟨j, hj⟩
    rw [List.getElem?_take] at hj
    split at hj
    · rename_i h
      rw [List.getElem?_drop, dps_get (by omega)] at hj
      exact ⟨a + j, by omega, by omega, (Option.some.inj hj).symm⟩
    · cases hj
  · rintro ⟨j, h1, h2, rfl⟩
    exact ⟨j - a, by rw [List.getElem?_take, if_pos (by omega), List.getElem?_drop, show a + (j - a) = j by omega, dps_get (by omega)]⟩
theorem mid_spec {r : List Bool} (B : Blw r (bf r) (bl r)) : (∃ j, bf r ≤ j ∧ j ≤ bl r ∧ mid r = hgt (r.take j)) ∧ ∀ j, bf r ≤ j → j ≤ bl r → hgt (r.take j) ≤ mid r := by
  have h := B.le
  have hl := B.ll
  have hne : ((dps r).drop (bf r)).take (bl r + 1 - bf r) ≠ [] := fun e => by
    have := congrArg List.length e
    rw [List.length_take, List.length_drop, dps_len, List.length_nil] at this
    omega
  obtain ⟨h1, h2⟩ := mxi_spec hne
  exact ⟨(dps_mid_mem h hl).mp h1, fun j h3 h4 => h2 _ ((dps_mid_mem h hl).mpr ⟨j, h3, h4, rfl⟩)⟩
/-- how many stretches -/
def rk (r : List Bool) : Nat := if isR r = true then 0 else if mid r ≤ mxA r + mxB r then 1 else 2
theorem mx_nn {r : List Bool} (h0 : hgt r = 0) (B : Blw r (bf r) (bl r)) : 0 ≤ mxA r ∧ 0 ≤ mxB r := by
  have a := (mxA_spec B).2 0 (Nat.zero_le _)
  have b := (mxB_spec B).2 r.length B.ll (Nat.le_refl _)
  have z0 : hgt (r.take 0) = 0 := rfl
  rw [List.take_length, h0] at b
  omega
theorem one_not {r : List Bool} (B : Blw r (bf r) (bl r)) {one two : Nat} (O : OneTwo r one two) (hm : ∀ k, one ≤ k → k ≤ two → hgt (r.take k) ≤ hgt (r.take one) + hgt (r.take two)) : mid r ≤ mxA r + mxB r := by
  rw [O.e1, O.e2] at hm
  obtain ⟨j, h1, h2, e⟩ := (mid_spec B).1
  rw [e]
  have := O.l1
  have := O.l2
  exact hm j (by omega) (by omega)
theorem rk_le {r : List Bool} : rk r ≤ 2 := by
  unfold rk
  split
  · omega
  · split <;> omega
theorem rk_zero {r : List Bool} : rk r = 0 ↔ isR r = true := by
  unfold rk
  split
  · simp [*]
  · split <;> simp [*]
end BM
namespace BM
open PySem L2 Evl
def tpV : Option Int → V
  | none => .non
  | some z => .int z
abbrev rIns (C : CA) (d a : Addr) (t : Option Int) : HO := .ins C.c_Rounded d [("stretches", .ref a), ("top", tpV t)]
structure RnC (K : PySem.W.Frag) (C : CA) : Prop where
  c : Anc K C.c_Rounded
  ns : NoAttr K C.c_Rounded "stretches"
  nt : NoAttr K C.c_Rounded "top"
structure Ex04 (K : PySem.W.Frag) (C : CA) : Prop where
  u : UnC K C
  r : RnC K C
  ua : PySem.W.kitOne K (.ref C.c_Uneven) (.ref C.c_Answer) = some true
  ra : PySem.W.kitOne K (.ref C.c_Rounded) (.ref C.c_Answer) = some true
  ut : PySem.W.kitOne K (.ref C.c_Uneven) (.ref C.c_Turned) = some false
  rt : PySem.W.kitOne K (.ref C.c_Rounded) (.ref C.c_Turned) = some false
  uo : PySem.W.kitOne K (.ref C.c_Uneven) (.ref C.c_Odd) = some false
  ro : PySem.W.kitOne K (.ref C.c_Rounded) (.ref C.c_Odd) = some false
  us : PySem.W.kitOne K (.ref C.c_Uneven) (.ref C.c_Swapped) = some false
  rs : PySem.W.kitOne K (.ref C.c_Rounded) (.ref C.c_Swapped) = some false
  ur : PySem.W.kitOne K (.ref C.c_Uneven) (.ref C.c_Rounded) = some false
  ru : PySem.W.kitOne K (.ref C.c_Rounded) (.ref C.c_Uneven) = some false
/-- pairs, each a tuple that is tracked -/
def PrT (H : Hp) (xs : List V) (ps : List (Int × Int)) : Prop := Paired (fun x (p : Int × Int) => ∃ t, x = V.ref t ∧ H t = some (.tup [.int p.1, .int p.2])) xs ps
theorem PrT.ex {H H' : Hp} (e : Ex H H') {xs : List V} {ps : List (Int × Int)} (h : PrT H xs ps) : PrT H' xs ps := Paired.mapP h fun a b ⟨t, h1, h2⟩ => ⟨t, h1, e _ _ h2⟩
theorem PrT.inn {K : PySem.W.Frag} {H : Hp} {xs : List V} {ps : List (Int × Int)} (h : PrT H xs ps) : PairsIn K H xs ps := Paired.mapP h fun a b ⟨t, h1, h2⟩ => ⟨t, h1, st_of h2⟩
theorem PrT.app {H : Hp} {xs ys : List V} {ps qs : List (Int × Int)} (h1 : PrT H xs ps) (h2 : PrT H ys qs) : PrT H (xs ++ ys) (ps ++ qs) := by
  unfold PrT at h1 h2 ⊢
  induction h1 with
  | nil => exact h2
  | cons r t ih => exact .cons r ih
/-- told pairs: where each stands -/
abbrev refs (ts : List (Addr × Int × Int)) : List V := ts.map fun u => V.ref u.1
abbrev prs (ts : List (Addr × Int × Int)) : List (Int × Int) := ts.map (·.2)
abbrev tps (ts : List (Addr × Int × Int)) : List (Addr × List V) := ts.map fun u => (u.1, pairV u.2)
theorem prT_of {H : Hp} {ts : List (Addr × Int × Int)} (h : ∀ u ∈ ts, H u.1 = some (.tup (pairV u.2))) : PrT H (refs ts) (prs ts) := by
  induction ts with
  | nil => exact .nil
  | cons u ts ih => exact .cons ⟨u.1, rfl, h u List.mem_cons_self⟩ (ih fun w hw => h w (List.mem_cons_of_mem _ hw))
theorem prT_own {H0 : Hp} {s : Ld} {ts : List (Addr × Int × Int)} (h : tps ts ⊆ s.T) : ∀ H, Own H0 H s → PrT H (refs ts) (prs ts) := fun H o => prT_of fun u hu => o.tp (u.1, pairV u.2) (h (List.mem_map.mpr ⟨u, hu, rfl⟩))
def sp_below (K : PySem.W.Frag) (C : CA) : Sp := spU fun vs H xs => ∃ r : List Bool, vs = [.str (T r)] ∧ r.length ≤ 1000 ∧ blw r ≠ [] ∧ xs = pairV ((bf r : Int), (bl r : Int))
def sp_r_init (K : PySem.W.Frag) (C : CA) : Sp := fun vs H Q _ => ∃ (x d a : Addr) (xs : List V) (t : Option Int), RnC K C ∧ vs = [.ref x, .ref a, tpV t] ∧ H x = some (.ins C.c_Rounded d []) ∧ SqL K H a xs ∧ a ≠ x ∧
  ∀ H' a2, Ex (del x H) H' → del x H a2 = none → [a2, x].Nodup → H' x = some (rIns C d a2 t) → H' a2 = some (.lst xs) → Q .non H'
def sp_r_shows (K : PySem.W.Frag) (C : CA) : Sp := spV fun vs H v => ∃ (g d a : Addr) (xs : List V) (ps : List (Int × Int)) (t : Option Int) (r : List Bool), RnC K C ∧ vs = [.ref g, .str (T r)] ∧ H g = some (rIns C d a t) ∧ SqL K H a xs ∧ PrT H xs ps ∧ ps.length ≤ 5000 ∧ r.length ≤ 1000 ∧ v = .bl (rnSh r ps t)
def sp__law_rounded (K : PySem.W.Frag) (C : CA) : Sp := spV fun vs H v => ∃ (r : List Bool) (a : Addr) (xs : List V) (ps : List (Int × Int)) (t : Option Int), vs = [.str (T r), .ref a, tpV t] ∧ SqL K H a xs ∧ PrT H xs ps ∧ ps.length ≤ 5000 ∧ r.length ≤ 1000 ∧ v = .bl (rnSh r ps t)
def sp_rounds (K : PySem.W.Frag) (C : CA) : Sp := fun vs H Q _ => ∃ r : List Bool, Ex04 K C ∧ vs = [.str (T r)] ∧ r.length ≤ 40 ∧
  (hgt r ≠ 0 → ∀ H' x d, Ex H H' → H x = none → H' x = some (uIns C d (hgt r)) → Q (.ref x) H') ∧
  (hgt r = 0 → ∀ H' x d a ts t, Ex H H' → H x = none → H a = none → [a, x].Nodup → H' x = some (rIns C d a t) → H' a = some (.lst (refs ts)) → (∀ u ∈ ts, H' u.1 = some (.tup (pairV u.2))) → rnSh r (prs ts) t = true → ts.length = rk r → Q (.ref x) H')
end BM
namespace BM
open PySem L2 Evl
def N_below : List Str := ["row", "found", "at", "depth"]
def rd_below (K : PySem.W.Frag) (C_ : CA) : TS :=
    (tSeq (tAsg (tLc (iEnum K (tCons (tCall (sp_depths_of K C_) [] E0 (tCons (tVar 0) tNil)) tNil)) (gTup K 2 (gCons (gName 2) (gCons (gName 3) gNil))) (tTest (tOp aLt (tVar 3) (tC (.int 0)))) (tVar 2) [2, 3]) (gName 1))
    (tRet (tTup (tCons (tOp (rIxL K) (tVar 1) (tC (.int 0))) (tCons (tOp (rIxL K) (tVar 1) (tUn aNeg (tC (.int 1)))) tNil)))))
def N_r_init : List Str := ["self", "stretches", "top"]
def rd_r_init (K : PySem.W.Frag) (C_ : CA) : TS :=
    (tSeq (sFld K (tVar 0) (tCB (aListOf K) (tCons (tVar 1) tNil)) "stretches")
    (sFld K (tVar 0) (tVar 2) "top"))
def N_r_shows : List Str := ["self", "row", "now", "found", "first", "behind", "last", "one"]
def rd_r_shows (K : PySem.W.Frag) (C_ : CA) : TS :=
    (tSeq (tPar 2 3 (tCons (tVar 1) (tCons (tCall (sp_depths_of K C_) [] E0 (tCons (tVar 1) tNil)) tNil)))
    (tSeq (tIfS (tOr (tNot (tB (tCB (aAll K) (tCons (tLc (iList K (tFld K (tVar 0) "stretches")) (gName 7) tYes (tCall (sp_is_stretch K C_) [] E0 (tCons (tVar 1) (tCons (tVar 7) tNil))) [7]) tNil)))) (tTest (tOp aGt (tCB (aLenL K) (tCons (tFld K (tVar 0) "stretches") tNil)) (tC (.int 2))))) (tRet (tC (.bl false))) tNext)
    (tSeq (tFor (iList K (tFld K (tVar 0) "stretches")) (gTup K 2 (gCons (gName 4) (gCons (gName 5) gNil))) (tAsg (tCall (sp_rounded K C_) [] E0 (tCons (tVar 2) (tCons (tVar 4) (tCons (tVar 5) tNil)))) (gName 2)))
    (tSeq (tIfS (tNot (tB (tCall (sp_is_right_row K C_) [] E0 (tCons (tVar 2) tNil)))) (tRet (tC (.bl false))) tNext)
    (tSeq (tIfS (tTest (tOp rEq (tCB (aLenL K) (tCons (tFld K (tVar 0) "stretches") tNil)) (tC (.int 0)))) (tRet (tOp aIsN (tFld K (tVar 0) "top") (tC .non))) tNext)
    (tSeq (tIfS (tB (tCall (sp_is_right_row K C_) [] E0 (tCons (tVar 1) tNil))) (tRet (tC (.bl false))) tNext)
    (tSeq (tIfS (tTest (tOp rEq (tCB (aLenL K) (tCons (tFld K (tVar 0) "stretches") tNil)) (tC (.int 1)))) (tRet (tOp aIsN (tFld K (tVar 0) "top") (tC .non))) tNext)
    (tSeq (tAsg (tCall (sp_below K C_) [] E0 (tCons (tVar 1) tNil)) (gTup K 2 (gCons (gName 4) (gCons (gName 6) gNil))))
    (tSeq (tIfS (tOr (tTest (tOp aIsN (tFld K (tVar 0) "top") (tC .non))) (tNot (tTest (tChain aLe aLe (tVar 4) (tFld K (tVar 0) "top") (tVar 6))))) (tRet (tC (.bl false))) tNext)
    (tRet (tOp aGt (tOp (rIxL K) (tVar 3) (tFld K (tVar 0) "top")) (tOp aAdd (tCB (rMax K) (tCons (tSl (rSlL K) (tVar 3) tNoPart (tPart (tOp aAdd (tVar 4) (tC (.int 1))))) tNil)) (tCB (rMax K) (tCons (tSl (rSlL K) (tVar 3) (tPart (tVar 6)) tNoPart) tNil))))))))))))))
def N_rounds : List Str := ["row", "found", "one", "two", "most", "first", "last"]
def rd_rounds (K : PySem.W.Frag) (C_ : CA) : TS :=
    (tSeq (tDrop (tCall (sp_asked_row K C_) [] E0 (tCons (tVar 0) tNil)))
    (tSeq (tAsg (tCall (sp_depths_of K C_) [] E0 (tCons (tVar 0) tNil)) (gName 1))
    (tSeq (tIfS (tTest (tOp rNe (tOp (rIxL K) (tVar 1) (tUn aNeg (tC (.int 1)))) (tC (.int 0)))) (tRet (tMake C_.c_Uneven (sp_u_init K C_) [] E0 (tCons (tOp (rIxL K) (tVar 1) (tUn aNeg (tC (.int 1)))) tNil))) tNext)
    (tSeq (tIfS (tB (tCall (sp_is_right_row K C_) [] E0 (tCons (tVar 0) tNil))) (tRet (tMake C_.c_Rounded (sp_r_init K C_) [] E0 (tCons (tLst tNil) (tCons (tC .non) tNil)))) tNext)
    (tSeq (tAsg (tCall (sp_below K C_) [] E0 (tCons (tVar 0) tNil)) (gTup K 2 (gCons (gName 5) (gCons (gName 6) gNil))))
    (tSeq (tAsg (tBM K "list" (aIndex K) (tVar 1) (tCons (tCB (rMax K) (tCons (tSl (rSlL K) (tVar 1) tNoPart (tPart (tOp aAdd (tVar 5) (tC (.int 1))))) tNil)) tNil)) (gName 2))
    (tSeq (tAsg (tOp aAdd (tVar 6) (tBM K "list" (aIndex K) (tSl (rSlL K) (tVar 1) (tPart (tVar 6)) tNoPart) (tCons (tCB (rMax K) (tCons (tSl (rSlL K) (tVar 1) (tPart (tVar 6)) tNoPart) tNil)) tNil))) (gName 3))
    (tSeq (tIfS (tTest (tOp aLe (tCB (rMax K) (tCons (tSl (rSlL K) (tVar 1) (tPart (tVar 2)) (tPart (tOp aAdd (tVar 3) (tC (.int 1))))) tNil)) (tOp aAdd (tOp (rIxL K) (tVar 1) (tVar 2)) (tOp (rIxL K) (tVar 1) (tVar 3))))) (tRet (tMake C_.c_Rounded (sp_r_init K C_) [] E0 (tCons (tLst (tCons (tTup (tCons (tVar 2) (tCons (tVar 3) tNil))) tNil)) (tCons (tC .non) tNil)))) tNext)
    (tSeq (tAsg (tBM K "list" (aIndex K) (tVar 1) (tCons (tCB (rMax K) (tCons (tVar 1) tNil)) tNil)) (gName 4))
    (tRet (tMake C_.c_Rounded (sp_r_init K C_) [] E0 (tCons (tLst (tCons (tTup (tCons (tC (.int 0)) (tCons (tVar 4) tNil))) (tCons (tTup (tCons (tVar 4) (tCons (tCB aLenT (tCons (tVar 0) tNil)) tNil))) tNil))) (tCons (tOp aAdd (tVar 5) (tBM K "list" (aIndex K) (tSl (rSlL K) (tVar 1) (tPart (tVar 5)) (tPart (tOp aAdd (tVar 6) (tC (.int 1))))) (tCons (tCB (rMax K) (tCons (tSl (rSlL K) (tVar 1) (tPart (tVar 5)) (tPart (tOp aAdd (tVar 6) (tC (.int 1))))) tNil)) tNil))) tNil)))))))))))))
def N__law_rounded : List Str := ["_law_row_here", "_law_stretches", "_law_top", "_law_now", "_law_found", "_law_low", "_law_at", "_law_depth"]
def rd__law_rounded (K : PySem.W.Frag) (C_ : CA) : TS :=
    (tSeq (tIfS (tTest (tOp aGt (tCB (aLenL K) (tCons (tVar 1) tNil)) (tC (.int 2)))) (tRet (tC (.bl false))) tNext)
    (tSeq (tAsg (tCall (sp__law_round K C_) [] E0 (tCons (tVar 0) (tCons (tVar 1) tNil))) (gName 3))
    (tSeq (tIfS (tOr (tTest (tOp aIsN (tVar 3) (tC .non))) (tOr (tNot (tB (tCall (sp__law_good K C_) [] E0 (tCons (tVar 3) tNil)))) (tAnd (tTest (tOp (rNeD K) (tVar 1) (tLst tNil))) (tB (tCall (sp__law_good K C_) [] E0 (tCons (tVar 0) tNil)))))) (tRet (tC (.bl false))) tNext)
    (tSeq (tIfS (tTest (tOp aLt (tCB (aLenL K) (tCons (tVar 1) tNil)) (tC (.int 2)))) (tRet (tOp aIsN (tVar 2) (tC .non))) tNext)
    (tSeq (tAsg (tCall (sp__law_depths K C_) [] E0 (tCons (tVar 0) tNil)) (gName 4))
    (tSeq (tAsg (tLc (iEnum K (tCons (tVar 4) tNil)) (gTup K 2 (gCons (gName 6) (gCons (gName 7) gNil))) (tTest (tOp aLt (tVar 7) (tC (.int 0)))) (tVar 6) [6, 7]) (gName 5))
    (tSeq (tIfS (tOr (tTest (tOp aIsN (tVar 2) (tC .non))) (tNot (tTest (tChain aLe aLe (tOp (rIxL K) (tVar 5) (tC (.int 0))) (tVar 2) (tOp (rIxL K) (tVar 5) (tUn aNeg (tC (.int 1)))))))) (tRet (tC (.bl false))) tNext)
    (tRet (tOp aGt (tOp (rIxL K) (tVar 4) (tVar 2)) (tOp aAdd (tCB (rMax K) (tCons (tSl (rSlL K) (tVar 4) tNoPart (tPart (tOp aAdd (tOp (rIxL K) (tVar 5) (tC (.int 0))) (tC (.int 1))))) tNil)) (tCB (rMax K) (tCons (tSl (rSlL K) (tVar 4) (tPart (tOp (rIxL K) (tVar 5) (tUn aNeg (tC (.int 1))))) tNoPart) tNil))))))))))))
end BM
namespace BM
open PySem L2 Evl
local macro_rules | `(tactic| walk_at "mem") => `(tactic| first | exact List.mem_cons_self | (refine List.mem_cons_of_mem _ ?_; walk_at "mem"))
local macro_rules | `(tactic| walk_at "swap") => `(tactic| first | exact Swap.here | (apply Swap.there; walk_at "swap"))
local macro_rules | `(tactic| walk_at "subl") => `(tactic| first | exact List.Sublist.refl _ | exact List.nil_sublist _ | (refine List.Sublist.cons_cons _ ?_; walk_at "subl") | (refine List.Sublist.cons _ ?_; walk_at "subl"))
local macro_rules | `(tactic| walk_at "sub") => `(tactic| first | exact Sub.refl _ | (refine ⟨?_, ?_⟩ <;> walk_at "subl"))
local macro_rules | `(tactic| walk_at "isl") => `(tactic| first | exact isL_own (by walk_at "mem") | exact isL_old (by assumption) | assumption)
local macro_rules | `(tactic| walk_at "ist") => `(tactic| first | exact isT_own (by walk_at "mem") | exact isT_old (by assumption) | assumption)
local macro_rules | `(tactic| walk_at "len") => `(tactic| first | omega | decide | (simp only [List.length_map, List.length_take, List.length_drop, List.length_append, List.length_cons, List.length_nil, List.length_reverse, dps_len, flp_len]; omega) | (simp [dps_len, flp_len]; omega) | simp)
local macro_rules | `(tactic| walk_at "b0") => `(tactic| first
  | with_reducible refine' ws_set ?_
  | with_reducible refine' ws_par ?_
  | with_reducible refine' ws_asg ?_
  | with_reducible refine' ws_drop ?_
  | with_reducible refine' ws_ret ?_
  | with_reducible refine' ws_if ?_
  | with_reducible refine' ws_next ?_
  | with_reducible refine' ws_brk ?_
  | with_reducible refine' ws_cont ?_
  | ((with_reducible refine' we_var ?hv ?_); case hv => rfl)
  | with_reducible refine' we_c ?_
  | with_reducible refine' we_op ?_
  | with_reducible refine' we_un ?_
  | with_reducible refine' we_if ?_
  | with_reducible refine' we_and ?_
  | with_reducible refine' we_or ?_
  | with_reducible refine' we_not ?_
  | with_reducible refine' wa_nil ?_
  | with_reducible refine' wa_cons ?_
  | (with_reducible refine' we_lst ?_)
  | (with_reducible refine' we_tup ?_)
  | with_reducible refine' we_cb ?_
  | with_reducible refine' we_call0 ?_
  | with_reducible refine' we_sl ?_
  | with_reducible refine' wo_none ?_
  | (with_reducible refine' wo_some ?_)
  | with_reducible refine' wt_test ?_
  | with_reducible refine' wt_B ?_
  | with_reducible refine' wt_and ?_
  | with_reducible refine' wt_or ?_
  | with_reducible refine' wt_not ?_
  | with_reducible refine' wt_yes ?_
  | with_reducible refine' we_chain ?_
  | with_reducible refine' we_chain3 ?_
  | with_reducible refine' we_revT ?_
  | with_reducible refine' we_revL ?_
  | with_reducible refine' we_bm ?_
  | with_reducible refine' we_bm0 ?_
  | with_reducible refine' ws_for ?_
  | with_reducible refine' we_lc ?_
  | with_reducible refine' wi_list ?_
  | with_reducible refine' wi_tup ?_
  | with_reducible refine' wi_T ?_
  | with_reducible refine' wi_rng1 ?_
  | with_reducible refine' wi_rng2 ?_
  | with_reducible refine' wi_rng3 ?_
  | with_reducible refine' wi_enum ?_
  | with_reducible refine' wi_enumT ?_
  | with_reducible refine' wi_zip ?_
  | with_reducible refine' wg_name ?_
  | with_reducible refine' wg_sub ?_
  | with_reducible refine' wgs_nil ?_
  | with_reducible refine' wgs_cons ?_
  | ((with_reducible refine' wg_tup ?ht ?hn ?_); (case ht => walk_at "ist"); (case hn => rfl))
  | with_reducible refine' w2_add ?_
  | with_reducible refine' w2_sub ?_
  | with_reducible refine' w2_lt ?_
  | with_reducible refine' w2_le ?_
  | with_reducible refine' w2_gt ?_
  | with_reducible refine' w2_ge ?_
  | with_reducible refine' w2_eqI ?_
  | with_reducible refine' w2_neI ?_
  | with_reducible refine' w2_eqT ?_
  | with_reducible refine' w2_neT ?_
  | with_reducible refine' w2_eqB ?_
  | with_reducible refine' w2_neB ?_
  | with_reducible refine' w2_isN ?_
  | with_reducible refine' w2_notN ?_
  | with_reducible refine' w2_isB ?_
  | with_reducible refine' w2_inT ?_
  | with_reducible refine' w1_neg ?_
  | with_reducible refine' wl_abs ?_
  | with_reducible refine' wl_max2 ?_
  | with_reducible refine' wl_min2 ?_
  | with_reducible refine' wl_intB ?_
  | ((with_reducible refine' w2_div ?h ?_); case h => first | omega | (constructor <;> omega))
  | ((with_reducible refine' w2_mod ?h ?_); case h => omega)
  | ((with_reducible refine' w2_catT ?h ?_); case h => walk_at "len")
  | ((with_reducible refine' wsl_T ?h ?_); case h => walk_at "len")
  | ((with_reducible refine' wl_lenT ?h ?_); case h => walk_at "len")
  | ((with_reducible refine' wl_len ?h ?_); case h => walk_at "isl")
  | ((with_reducible refine' wl_len ?h ?_); case h => walk_at "isl")
  | ((with_reducible refine' wm_append ?sw ?hl ?_); (case sw => walk_at "swap"); (case hl => walk_at "len")))
local macro_rules | `(tactic| walk_at "b1") => `(tactic| first | with_reducible refine' ws_seq ?_ | walk_at "b0")
local macro_rules | `(tactic| walk_at "bx") => `(tactic| first
  | refine ⟨_, rfl, ?_⟩
  | refine ⟨_, _, rfl, ?_⟩
  | refine ⟨ty_L (by walk_at "isl"), ?_⟩
  | refine ⟨ty_S, ?_⟩
  | refine spl_t (by rfl) ?_
  | refine spl_f (by rfl) ?_
  | exact rfl)
local macro_rules | `(tactic| walk_at "bm") => `(tactic| repeat (first | walk_at "b1" | walk_at "bx"))
local macro_rules | `(tactic| walk_at "bn") => `(tactic| repeat (first | walk_at "b0" | walk_at "bx"))
local macro_rules | `(tactic| walk_at "b0") => `(tactic| with_reducible refine' c_deepens ?_)
local macro_rules | `(tactic| walk_at "b0") => `(tactic| ((with_reducible refine' c_depths_of ?hl ?_); (case hl => walk_at "len")))
local macro_rules | `(tactic| walk_at "b0") => `(tactic| with_reducible refine' c_is_wholeI ?_)
local macro_rules | `(tactic| walk_at "b0") => `(tactic| with_reducible refine' c_flipped ?_)
local macro_rules | `(tactic| walk_at "b0") => `(tactic| ((with_reducible refine' c_is_right_row ?hl ?_); (case hl => walk_at "len")))
local macro_rules | `(tactic| walk_at "b0") => `(tactic| ((with_reducible refine' c_asked_row ?hl ?_); (case hl => walk_at "len")))
local macro_rules | `(tactic| walk_at "b0") => `(tactic| ((with_reducible refine' c_depths ?hl ?_); (case hl => walk_at "len")))
local macro_rules | `(tactic| walk_at "b0") => `(tactic| ((with_reducible refine' c_is_right ?hl ?_); (case hl => walk_at "len")))
local macro_rules | `(tactic| walk_at "b0") => `(tactic| ((with_reducible refine' c__law_depths ?hl ?_); (case hl => walk_at "len")))
local macro_rules | `(tactic| walk_at "b0") => `(tactic| ((with_reducible refine' c__law_good ?hl ?_); (case hl => walk_at "len")))
local macro_rules | `(tactic| walk_at "b0") => `(tactic| ((with_reducible refine' wl_listOf ?hx ?_); (case hx => walk_at "isl")))
local macro_rules | `(tactic| walk_at "b0") => `(tactic| with_reducible refine' w2_notB ?_)
local macro_rules | `(tactic| walk_at "own") => `(tactic| exact own_l (by walk_at "mem"))
local macro_rules | `(tactic| walk_at "b0") => `(tactic| with_reducible refine' we_fld ?_)
local macro_rules | `(tactic| walk_at "b0") => `(tactic| refine ⟨_, _, _, _, _, rfl, own_l (by walk_at "mem"), Grw.cl (by assumption), Grw.nr (by assumption), by rfl, ?_⟩)
local macro_rules | `(tactic| walk_at "b0") => `(tactic| refine ⟨_, _, _, _, _, rfl, fun H' o => o.ex _ _ (by assumption), Grw.cl (by assumption), Grw.nr (by assumption), by rfl, ?_⟩)
local macro_rules | `(tactic| walk_at "b0") => `(tactic| with_reducible refine' we_meth ?_)
local macro_rules | `(tactic| walk_at "b0") => `(tactic| refine ⟨_, _, _, rfl, own_l (by walk_at "mem"), by rfl, ?_⟩)
local macro_rules | `(tactic| walk_at "b0") => `(tactic| refine ⟨_, _, _, rfl, fun H' o => o.ex _ _ (by assumption), by rfl, ?_⟩)
local macro_rules | `(tactic| walk_at "gown") => `(tactic| first | exact own_l (by walk_at "mem") | exact fun H' o => o.ex _ _ (by assumption))
local macro_rules | `(tactic| walk_at "b0") => `(tactic| with_reducible refine' wm_countT ?_)
local macro_rules | `(tactic| walk_at "b0") => `(tactic| with_reducible refine' we_methU ?_)
abbrev ntV (ps : List Nat) : List V := ps.map fun (p : Nat) => V.int (p : Int)
def bwi (r : List Bool) (i : Nat) : List Nat := (List.range i).filter fun j => decide (hgt (r.take j) < 0)
theorem bwi_succ (r : List Bool) (i : Nat) : ntV (bwi r (i + 1)) = ntV (bwi r i) ++ if hgt (r.take i) < 0 then [V.int (i : Int)] else [] := by
  unfold bwi ntV
  rw [List.range_succ, List.filter_append, List.map_append]
  congr 1
  simp only [List.filter_cons, List.filter_nil]
  by_cases h : hgt (r.take i) < 0 <;> simp [h]
theorem bwi_len (r : List Bool) (i : Nat) : (ntV (bwi r i)).length ≤ i := by
  unfold bwi ntV
  rw [List.length_map]
  exact Nat.le_trans (List.length_filter_le _ _) (by rw [List.length_range]; exact Nat.le_refl _)
theorem at_first {l : List Nat} (h : l ≠ []) : atI (ntV l) 0 = some (.int ((l.headD 0 : Nat) : Int)) := by
  cases l with
  | nil => exact absurd rfl h
  | cons a l => exact atI_of (by decide) rfl
theorem at_last {l : List Nat} (h : l ≠ []) : atI (ntV l) (-1) = some (.int ((l.getLastD 0 : Nat) : Int)) := by
  apply atI_m1
  rw [List.length_map, List.getElem?_map, ← List.getLast?_eq_getElem?, List.getLastD_eq_getLast?, List.getLast?_eq_some_getLast h]
  rfl
theorem blw_cp {K : PySem.W.Frag} {H0 : Hp} {σ : L2.St} {s : Ld} {Q : V → Ld → Prop} {f : Addr} {r : List Bool} {vs : List Nat} {te : TE} {tt : TT} {g : TG} (hf : (f, HO.lst ((dps r).map V.int)) ∈ s.L) (hl : r.length ≤ 1000)
    (hg : ∀ (D : Addr) (k : Nat) (p : Addr), k ≤ r.length → WG H0 g (.ref p) (wipe σ vs) ⟨(D, .lst (ntV (bwi r k))) :: s.L, (p, [.int (k : Int), .int (hgt (r.take k))]) :: s.T⟩ fun σ2 s2 => wipe σ2 vs = wipe σ vs ∧ WT H0 tt σ2 s2 fun b s3 => b = decide (hgt (r.take k) < 0) ∧ Sub ⟨(D, .lst (ntV (bwi r k))) :: s.L, s.T⟩ s3 ∧ (b = true → WE H0 te σ2 s3 fun y s4 => y = V.int (k : Int) ∧ Sub ⟨(D, .lst (ntV (bwi r k))) :: s.L, s.T⟩ s4))
    (q : ∀ D, H0 D = none → Q (.ref D) ⟨(D, .lst (ntV (blw r))) :: s.L, s.T⟩) : CompOk H0 (Ite K f) g tt te σ vs s Q := by
  refine cp_enum (xs := (dps r).map V.int) (fun i => ntV (bwi r i)) (isL_own hf) (by rw [List.length_map, dps_len]; omega) rfl (fun i hi => bwi_len r i) ?_ ?_
  · intro D i y p hi hy
    obtain ⟨z, hz, rfl⟩ := getI hy
    rw [List.length_map, dps_len] at hi
    rw [dps_get (by omega)] at hz
    cases hz
    refine fun H o R k => hg D i p (by omega) H o R fun σ2 H2 s2 o2 ⟨e, h2⟩ => k σ2 H2 s2 o2 ⟨e, fun H3 o3 R3 k3 => h2 H3 o3 R3 fun b H4 s4 o4 ⟨eb, hs, h4⟩ => k3 b H4 s4 o4 ⟨fun hb => ?_, fun hb => ?_⟩⟩
    · refine fun H5 o5 R5 k5 => h4 hb H5 o5 R5 fun y H6 s6 o6 ⟨ey, hs6⟩ => k5 y H6 s6 o6 ⟨hs6, ?_⟩
      rw [eb] at hb
      rw [bwi_succ, if_pos (of_decide_eq_true hb), ey]
    · refine ⟨hs, ?_⟩
      rw [eb] at hb
      rw [bwi_succ, if_neg (of_decide_eq_false hb), List.append_nil]
  · intro D hD
    rw [List.length_map, dps_len]
    exact q D hD
theorem ln_below {K : PySem.W.Frag} {C : CA} {vs : List V} {H : Hp} {Q : VK} {E : XK} (h : sp_below K C vs H Q E) : vs.length = 1 := by
  obtain ⟨_, ⟨r, rfl, _⟩, _⟩ := h
  rfl
theorem pu_below {K : PySem.W.Frag} {C : CA} {vs : List V} {H : Hp} {Q : VK} {E : XK} (h : sp_below K C vs H Q E) : rd_below K C { nx := fun _ H' => Q .non H', rt := Q } (start N_below vs) H := by
  obtain ⟨_, ⟨r, rfl, hl, hb, rfl⟩, k⟩ := h
  refine body_U ?_ k
  unfold rd_below
  refine ws_seq ?_
  walk_at "bn"
  intro f hf
  walk_at "bn"
  refine ⟨f, _, rfl, by walk_at "isl", ?_⟩
  refine blw_cp (r := r) (by walk_at "mem") hl ?_ ?_
  · intro D i p hi
    walk_at "bm"
    refine ⟨rfl, ?_⟩
    walk_at "bm"
    refine ⟨rfl, by walk_at "sub", fun h => ?_⟩
    walk_at "bm"
    exact ⟨rfl, by walk_at "sub"⟩
  intro a ha
  walk_at "bm"
  refine w2_ixL (by walk_at "isl") (at_first hb) ?_
  walk_at "bm"
  refine w2_ixL (by walk_at "isl") (at_last hb) ?_
  walk_at "bm"
  exact ⟨by simp, fun p hp => ⟨p, rfl, List.mem_cons_self⟩⟩
theorem c_below {K : PySem.W.Frag} {C : CA} {H0 : Hp} {s : Ld} {Q : V → Ld → Prop} {E : XK} {r : List Bool} (hl : r.length ≤ 1000) (hb : blw r ≠ []) (q : ∀ p, Q (.ref p) ⟨s.L, (p, [.int (bf r : Int), .int (bl r : Int)]) :: s.T⟩) : WC H0 (sp_below K C) E [.str (T r)] s Q := wc_U (fun H o => ⟨r, rfl, hl, hb, rfl⟩) q
theorem ln_r_init {K : PySem.W.Frag} {C : CA} {vs : List V} {H : Hp} {Q : VK} {E : XK} (h : sp_r_init K C vs H Q E) : vs.length = 3 := by
  obtain ⟨x, d, a, xs, t, _, rfl, _⟩ := h
  rfl
theorem pu_r_init {K : PySem.W.Frag} {C : CA} {vs : List V} {H : Hp} {Q : VK} {E : XK} (h : sp_r_init K C vs H Q E) : rd_r_init K C { nx := fun _ H' => Q .non H', rt := Q } (start N_r_init vs) H := by
  obtain ⟨x, d, a, xs, t, hT, rfl, hx, ha, hax, k⟩ := h
  have ha' : SqL K (del x H) a xs := sq_del hax ha
  have h1 : WS (del x H) (rd_r_init K C) (start N_r_init [.ref x, .ref a, tpV t]) ⟨[(x, .ins C.c_Rounded d [])], []⟩ { nx := fun _ s => ∃ a2, Sub ⟨[(a2, .lst xs), (x, rIns C d a2 t)], []⟩ s, rt := fun _ _ => False } := by
    unfold rd_r_init
    refine ws_seq (ws_fld ?_)
    walk_at "bm"
    intro a2 ha2
    walk_at "bm"
    refine ⟨x, _, d, [], _, rfl, Swap.there Swap.here, hT.c.cl, hT.ns, by decide, ?_⟩
    refine ws_fld ?_
    walk_at "bm"
    refine ⟨x, _, d, _, _, rfl, Swap.there Swap.here, hT.c.cl, hT.nt, by show 1 < 1000; decide, ?_⟩
    exact ⟨a2, Sub.refl _⟩
  refine h1 H (own_del hx) _ ⟨fun σ H' s w ⟨a2, hs⟩ => ?_, (fun _ _ _ _ q => q.elim), (fun _ _ _ _ q => q.elim), (fun _ _ _ _ q => q.elim)⟩
  have w2 := w.sub hs
  have nd : [a2, x].Nodup := w2.nd
  have ma := w2.own (a2, .lst xs) List.mem_cons_self
  exact k H' a2 w.ex ma.1 nd (w2.own (x, rIns C d a2 t) (List.mem_cons_of_mem _ List.mem_cons_self)).2 ma.2
theorem c_r_init {K : PySem.W.Frag} {C : CA} {H0 : Hp} {Q : V → Ld → Prop} {E : XK} {x d a : Addr} {xs : List V} {t : Option Int} {L : List (Addr × HO)} {T : List (Addr × List V)} (hT : RnC K C) (ha : (a, HO.lst xs) ∈ L) (q : ∀ a2, H0 a2 = none → Q .non ⟨(a2, .lst xs) :: (x, rIns C d a2 t) :: L, T⟩) : WC H0 (sp_r_init K C) E [.ref x, .ref a, tpV t] ⟨(x, .ins C.c_Rounded d []) :: L, T⟩ Q := fun H o R k => by
  have hk : x ∉ L.map (·.1) := (List.nodup_cons.mp o.nd).1
  have hax : a ≠ x := fun e => hk (List.mem_map.mpr ⟨_, ha, e⟩)
  refine ⟨x, d, a, xs, t, hT, rfl, (o.own _ List.mem_cons_self).2, sq_of (o.own _ (List.mem_cons_of_mem _ ha)).2, hax, fun H' a2 e h1 nd hx h3 => ?_⟩
  have a2x : a2 ≠ x := fun e => (List.nodup_cons.mp nd).1 (by rw [e]; exact List.mem_cons_self)
  rw [del_ne a2x] at h1
  have w1 := own_after o (Swap.here (o := .ins C.c_Rounded d []) (o' := rIns C d a2 t)) trivial e hx
  have w2 := own_add w1 (fresh_back o.ex h1) (show a2 ∉ x :: L.map (·.1) from own_key o h1) h3
  exact k _ _ _ w2 (q a2 (fresh_back o.ex h1))
theorem we_rounded {K : PySem.W.Frag} {C : CA} {H0 : Hp} {σ : L2.St} {s : Ld} {Q : V → Ld → Prop} {E : XK} {ta : TA} (hT : RnC K C) (h : WA H0 ta σ s fun vs s1 => ∃ (a : Addr) (xs : List V) (t : Option Int), vs = [.ref a, tpV t] ∧ (a, HO.lst xs) ∈ s1.L ∧ ∀ x dx a2, H0 x = none → H0 a2 = none → Q (.ref x) ⟨(a2, .lst xs) :: (x, rIns C dx a2 t) :: (dx, .own x) :: s1.L, s1.T⟩) : WE H0 (tMake C.c_Rounded (sp_r_init K C) [] E ta) σ s Q :=
  we_make fun H o R k => h H o R fun vs H1 s1 o1 ⟨a, xs, t, e, ma, q⟩ => k _ _ _ o1 fun x dx hx hdx hne => by
    subst e
    exact c_r_init hT (List.mem_cons_of_mem _ ma) fun a2 h1 => ⟨rfl, q x dx a2 hx h1⟩
theorem rnSh_eq {r : List Bool} {ps : List (Int × Int)} {t : Option Int} (h1 : ∀ p ∈ ps, stOk r.length p) (h2 : ps.length ≤ 2) : rnSh r ps t = (isR (rnAll r ps) && (if ps.length = 0 then t.isNone else (!isR r && (if ps.length = 1 then t.isNone else rnTop r t)))) := if_pos ⟨h1, h2⟩
theorem rnSh_bad {r : List Bool} {ps : List (Int × Int)} {t : Option Int} (h : ¬ ((∀ p ∈ ps, stOk r.length p) ∧ ps.length ≤ 2)) : rnSh r ps t = false := if_neg h
theorem tpV_non {t : Option Int} : decide (tpV t = .non) = t.isNone := by
  cases t with
  | none => rfl
  | some z => exact decide_eq_false (fun h => nomatch h)
theorem atI_dps4 {r : List Bool} {z : Int} (h0 : 0 ≤ z) (h1 : z ≤ (r.length : Int)) : atI ((dps r).map V.int) z = some (.int (hgt (r.take z.toNat))) := atI_of h0 (by rw [List.getElem?_map, dps_get (by omega)]; rfl)
end BM
namespace BM
open PySem L2 Evl
local macro_rules | `(tactic| walk_at "mem") => `(tactic| first | exact List.mem_cons_self | (refine List.mem_cons_of_mem _ ?_; walk_at "mem"))
local macro_rules | `(tactic| walk_at "swap") => `(tactic| first | exact Swap.here | (apply Swap.there; walk_at "swap"))
local macro_rules | `(tactic| walk_at "subl") => `(tactic| first | exact List.Sublist.refl _ | exact List.nil_sublist _ | (refine List.Sublist.cons_cons _ ?_; walk_at "subl") | (refine List.Sublist.cons _ ?_; walk_at "subl"))
local macro_rules | `(tactic| walk_at "sub") => `(tactic| first | exact Sub.refl _ | (refine ⟨?_, ?_⟩ <;> walk_at "subl"))
local macro_rules | `(tactic| walk_at "isl") => `(tactic| first | exact isL_own (by walk_at "mem") | exact isL_old (by assumption) | assumption)
local macro_rules | `(tactic| walk_at "ist") => `(tactic| first | exact isT_own (by walk_at "mem") | exact isT_old (by assumption) | assumption)
local macro_rules | `(tactic| walk_at "len") => `(tactic| first | omega | decide | (simp only [List.length_map, List.length_take, List.length_drop, List.length_append, List.length_cons, List.length_nil, List.length_reverse, dps_len, flp_len]; omega) | (simp [dps_len, flp_len]; omega) | simp)
local macro_rules | `(tactic| walk_at "b0") => `(tactic| first
  | with_reducible refine' ws_set ?_
  | with_reducible refine' ws_par ?_
  | with_reducible refine' ws_asg ?_
  | with_reducible refine' ws_drop ?_
  | with_reducible refine' ws_ret ?_
  | with_reducible refine' ws_if ?_
  | with_reducible refine' ws_next ?_
  | with_reducible refine' ws_brk ?_
  | with_reducible refine' ws_cont ?_
  | ((with_reducible refine' we_var ?hv ?_); case hv => rfl)
  | with_reducible refine' we_c ?_
  | with_reducible refine' we_op ?_
  | with_reducible refine' we_un ?_
  | with_reducible refine' we_if ?_
  | with_reducible refine' we_and ?_
  | with_reducible refine' we_or ?_
  | with_reducible refine' we_not ?_
  | with_reducible refine' wa_nil ?_
  | with_reducible refine' wa_cons ?_
  | (with_reducible refine' we_lst ?_)
  | (with_reducible refine' we_tup ?_)
  | with_reducible refine' we_cb ?_
  | with_reducible refine' we_call0 ?_
  | with_reducible refine' we_sl ?_
  | with_reducible refine' wo_none ?_
  | (with_reducible refine' wo_some ?_)
  | with_reducible refine' wt_test ?_
  | with_reducible refine' wt_B ?_
  | with_reducible refine' wt_and ?_
  | with_reducible refine' wt_or ?_
  | with_reducible refine' wt_not ?_
  | with_reducible refine' wt_yes ?_
  | with_reducible refine' we_chain ?_
  | with_reducible refine' we_chain3 ?_
  | with_reducible refine' we_revT ?_
  | with_reducible refine' we_revL ?_
  | with_reducible refine' we_bm ?_
  | with_reducible refine' we_bm0 ?_
  | with_reducible refine' ws_for ?_
  | with_reducible refine' we_lc ?_
  | with_reducible refine' wi_list ?_
  | with_reducible refine' wi_tup ?_
  | with_reducible refine' wi_T ?_
  | with_reducible refine' wi_rng1 ?_
  | with_reducible refine' wi_rng2 ?_
  | with_reducible refine' wi_rng3 ?_
  | with_reducible refine' wi_enum ?_
  | with_reducible refine' wi_enumT ?_
  | with_reducible refine' wi_zip ?_
  | with_reducible refine' wg_name ?_
  | with_reducible refine' wg_sub ?_
  | with_reducible refine' wgs_nil ?_
  | with_reducible refine' wgs_cons ?_
  | ((with_reducible refine' wg_tup ?ht ?hn ?_); (case ht => walk_at "ist"); (case hn => rfl))
  | with_reducible refine' w2_add ?_
  | with_reducible refine' w2_sub ?_
  | with_reducible refine' w2_lt ?_
  | with_reducible refine' w2_le ?_
  | with_reducible refine' w2_gt ?_
  | with_reducible refine' w2_ge ?_
  | with_reducible refine' w2_eqI ?_
  | with_reducible refine' w2_neI ?_
  | with_reducible refine' w2_eqT ?_
  | with_reducible refine' w2_neT ?_
  | with_reducible refine' w2_eqB ?_
  | with_reducible refine' w2_neB ?_
  | with_reducible refine' w2_isN ?_
  | with_reducible refine' w2_notN ?_
  | with_reducible refine' w2_isB ?_
  | with_reducible refine' w2_inT ?_
  | with_reducible refine' w1_neg ?_
  | with_reducible refine' wl_abs ?_
  | with_reducible refine' wl_max2 ?_
  | with_reducible refine' wl_min2 ?_
  | with_reducible refine' wl_intB ?_
  | ((with_reducible refine' w2_div ?h ?_); case h => first | omega | (constructor <;> omega))
  | ((with_reducible refine' w2_mod ?h ?_); case h => omega)
  | ((with_reducible refine' w2_catT ?h ?_); case h => walk_at "len")
  | ((with_reducible refine' wsl_T ?h ?_); case h => walk_at "len")
  | ((with_reducible refine' wl_lenT ?h ?_); case h => walk_at "len")
  | ((with_reducible refine' wl_len ?h ?_); case h => walk_at "isl")
  | ((with_reducible refine' wl_len ?h ?_); case h => walk_at "isl")
  | ((with_reducible refine' wm_append ?sw ?hl ?_); (case sw => walk_at "swap"); (case hl => walk_at "len")))
local macro_rules | `(tactic| walk_at "b1") => `(tactic| first | with_reducible refine' ws_seq ?_ | walk_at "b0")
local macro_rules | `(tactic| walk_at "bx") => `(tactic| first
  | refine ⟨_, rfl, ?_⟩
  | refine ⟨_, _, rfl, ?_⟩
  | refine ⟨ty_L (by walk_at "isl"), ?_⟩
  | refine ⟨ty_S, ?_⟩
  | refine spl_t (by rfl) ?_
  | refine spl_f (by rfl) ?_
  | exact rfl)
local macro_rules | `(tactic| walk_at "bm") => `(tactic| repeat (first | walk_at "b1" | walk_at "bx"))
local macro_rules | `(tactic| walk_at "bn") => `(tactic| repeat (first | walk_at "b0" | walk_at "bx"))
local macro_rules | `(tactic| walk_at "b0") => `(tactic| with_reducible refine' c_deepens ?_)
local macro_rules | `(tactic| walk_at "b0") => `(tactic| ((with_reducible refine' c_depths_of ?hl ?_); (case hl => walk_at "len")))
local macro_rules | `(tactic| walk_at "b0") => `(tactic| with_reducible refine' c_is_wholeI ?_)
local macro_rules | `(tactic| walk_at "b0") => `(tactic| with_reducible refine' c_flipped ?_)
local macro_rules | `(tactic| walk_at "b0") => `(tactic| ((with_reducible refine' c_is_right_row ?hl ?_); (case hl => walk_at "len")))
local macro_rules | `(tactic| walk_at "b0") => `(tactic| ((with_reducible refine' c_asked_row ?hl ?_); (case hl => walk_at "len")))
local macro_rules | `(tactic| walk_at "b0") => `(tactic| ((with_reducible refine' c_depths ?hl ?_); (case hl => walk_at "len")))
local macro_rules | `(tactic| walk_at "b0") => `(tactic| ((with_reducible refine' c_is_right ?hl ?_); (case hl => walk_at "len")))
local macro_rules | `(tactic| walk_at "b0") => `(tactic| ((with_reducible refine' c__law_depths ?hl ?_); (case hl => walk_at "len")))
local macro_rules | `(tactic| walk_at "b0") => `(tactic| ((with_reducible refine' c__law_good ?hl ?_); (case hl => walk_at "len")))
local macro_rules | `(tactic| walk_at "b0") => `(tactic| ((with_reducible refine' wl_listOf ?hx ?_); (case hx => walk_at "isl")))
local macro_rules | `(tactic| walk_at "b0") => `(tactic| with_reducible refine' w2_notB ?_)
local macro_rules | `(tactic| walk_at "own") => `(tactic| exact own_l (by walk_at "mem"))
local macro_rules | `(tactic| walk_at "b0") => `(tactic| with_reducible refine' we_fld ?_)
local macro_rules | `(tactic| walk_at "b0") => `(tactic| refine ⟨_, _, _, _, _, rfl, own_l (by walk_at "mem"), Grw.cl (by assumption), Grw.nr (by assumption), by rfl, ?_⟩)
local macro_rules | `(tactic| walk_at "b0") => `(tactic| refine ⟨_, _, _, _, _, rfl, fun H' o => o.ex _ _ (by assumption), Grw.cl (by assumption), Grw.nr (by assumption), by rfl, ?_⟩)
local macro_rules | `(tactic| walk_at "b0") => `(tactic| with_reducible refine' we_meth ?_)
local macro_rules | `(tactic| walk_at "b0") => `(tactic| refine ⟨_, _, _, rfl, own_l (by walk_at "mem"), by rfl, ?_⟩)
local macro_rules | `(tactic| walk_at "b0") => `(tactic| refine ⟨_, _, _, rfl, fun H' o => o.ex _ _ (by assumption), by rfl, ?_⟩)
local macro_rules | `(tactic| walk_at "gown") => `(tactic| first | exact own_l (by walk_at "mem") | exact fun H' o => o.ex _ _ (by assumption))
local macro_rules | `(tactic| walk_at "b0") => `(tactic| with_reducible refine' wm_countT ?_)
local macro_rules | `(tactic| walk_at "b0") => `(tactic| with_reducible refine' we_methU ?_)
theorem dec_st {n : Nat} {ps : List (Int × Int)} : (ps.map fun p => decide (stOk n p)).all id = decide (∀ p ∈ ps, stOk n p) := by
  rw [Bool.eq_iff_iff, decide_eq_true_eq, List.all_map, List.all_eq_true]
  exact ⟨fun h p hp => of_decide_eq_true (h p hp), fun h p hp => decide_eq_true (h p hp)⟩
theorem not_dec {p : Prop} [Decidable p] (h : decide p = false) : ¬ p := of_decide_eq_false h
theorem rnTop_some (r : List Bool) (z : Int) : rnTop r (some z) = (decide ((bf r : Int) ≤ z ∧ z ≤ (bl r : Int)) && decide (mxA r + mxB r < hgt (r.take z.toNat))) := rfl
theorem ln_r_shows {K : PySem.W.Frag} {C : CA} {vs : List V} {H : Hp} {Q : VK} {E : XK} (h : sp_r_shows K C vs H Q E) : vs.length = 2 := by
  obtain ⟨_, ⟨g, d, a, xs, ps, t, r, _, rfl, _⟩, _⟩ := h
  rfl
theorem rn_nb {r : List Bool} {ps : List (Int × Int)} (h1 : ∀ p ∈ ps, stOk r.length p) (h2 : isR (rnAll r ps) = true) (h3 : isR r = false) : blw r ≠ [] := by
  have h := (isR_iff.mp h2).1
  rw [rnAll_hgt ps r h1] at h
  exact blw_some h h3
theorem pu_r_shows {K : PySem.W.Frag} {C : CA} {vs : List V} {H : Hp} {Q : VK} {E : XK} (h : sp_r_shows K C vs H Q E) : rd_r_shows K C { nx := fun _ H' => Q .non H', rt := Q } (start N_r_shows vs) H := by
  obtain ⟨_, ⟨g, d, a, xs, ps, t, r, hR, rfl, hg, ha, hp, hps, hl, rfl⟩, k⟩ := h
  have hlen : xs.length = ps.length := Paired.length hp
  refine body_V ?_ k
  unfold rd_r_shows
  refine ws_cut (fun σ s => ∃ f, σ = [some (.ref g), some (.str (T r)), some (.str (T r)), some (.ref f), none, none, none, none] ∧ s = ⟨[(f, .lst ((dps r).map V.int))], []⟩) ?_ ?_
  · walk_at "bm"
    intro f hf
    walk_at "bm"
    exact ⟨_, Sub.refl _, f, rfl, rfl⟩
  rintro σ s ⟨f, rfl, rfl⟩
  refine ws_cut (fun σ s => σ = [some (.ref g), some (.str (T r)), some (.str (T r)), some (.ref f), none, none, none, none] ∧ s = ⟨[(f, .lst ((dps r).map V.int))], []⟩ ∧ (∀ p ∈ ps, stOk r.length p) ∧ ps.length ≤ 2) ?_ ?_
  · walk_at "bm"
    refine ⟨_, _, _, _, _, rfl, fun H' o => o.ex _ _ hg, hR.c.cl, hR.ns, rfl, ?_⟩
    refine ⟨_, rfl, ⟨_, isL_old ha⟩, ?_⟩
    refine cp_list (xs := xs) (fun i => ((ps.take i).map fun p => decide (stOk r.length p)).map V.bl) (isL_old ha) (by omega) rfl (fun i hi => by rw [List.length_map, List.length_map, List.length_take]; omega) ?_ ?_
    · intro D i y hi hy
      obtain ⟨p, hpi, t', rfl, ht⟩ := pairs_get hp hy
      walk_at "bm"
      refine ⟨rfl, ?_⟩
      walk_at "bm"
      refine c_is_stretch (p := p) (by omega) (fun H' o => o.ex _ _ ht) ?_
      refine ⟨Sub.refl _, ?_⟩
      rw [take_snoc hpi, List.map_append, List.map_append]
      rfl
    intro D hD
    rw [hlen, List.take_length]
    walk_at "bm"
    refine wl_all (bs := ps.map fun p => decide (stOk r.length p)) (by walk_at "isl") ?_
    rw [dec_st]
    walk_at "bm"
    refine ⟨fun h => ?_, fun h => ?_⟩
    · walk_at "bm"
      have h' : ¬ ∀ p ∈ ps, stOk r.length p := fun hh => by rw [decide_eq_true hh] at h; cases h
      show V.bl _ = V.bl _
      rw [rnSh_bad fun hh => h' hh.1]
    · have h' : ∀ p ∈ ps, stOk r.length p := by
        cases e : decide (∀ p ∈ ps, stOk r.length p) with
        | true => exact of_decide_eq_true e
        | false => rw [e] at h; cases h
      walk_at "bm"
      refine ⟨_, _, _, _, _, rfl, fun H' o => o.ex _ _ hg, hR.c.cl, hR.ns, rfl, ?_⟩
      walk_at "bm"
      refine ⟨fun h2 => ?_, fun h2 => ?_⟩
      · walk_at "bm"
        have h2' := of_decide_eq_true h2
        show V.bl _ = V.bl _
        rw [rnSh_bad fun hh => by omega]
      · walk_at "bm"
        have h2' := of_decide_eq_false h2
        exact ⟨_, by walk_at "sub", rfl, rfl, h', by omega⟩
  rintro σ s ⟨rfl, rfl, h1, h2⟩
  rw [rnSh_eq h1 h2]
  refine ws_cut (fun σ s => ∃ x4 x5, σ = [some (.ref g), some (.str (T r)), some (.str (T (rnAll r ps))), some (.ref f), x4, x5, none, none] ∧ s = ⟨[(f, .lst ((dps r).map V.int))], []⟩) ?_ ?_
  · walk_at "bm"
    refine ⟨_, _, _, _, _, rfl, fun H' o => o.ex _ _ hg, hR.c.cl, hR.ns, rfl, ?_⟩
    refine ⟨_, rfl, ⟨_, isL_old ha⟩, ?_⟩
    refine lp_list (xs := xs) (fun i σ s => ∃ x4 x5, σ = [some (.ref g), some (.str (T r)), some (.str (T (rnAll r (ps.take i)))), some (.ref f), x4, x5, none, none] ∧ s = ⟨[(f, .lst ((dps r).map V.int))], []⟩) rfl ⟨none, none, rfl, rfl⟩ (fun i σ s hi _ => isL_old ha) ?_ ?_
    · rintro i y σ s hi hy ⟨x4, x5, rfl, rfl⟩
      obtain ⟨p, hpi, t', rfl, ht⟩ := pairs_get hp hy
      have hst := h1 p (List.mem_of_getElem? hpi)
      have hl2 : (rnAll r (ps.take i)).length = r.length := rnAll_len _ _ fun q hq => h1 q (List.mem_of_mem_take hq)
      have htt : SqT K H t' [.int p.1, .int p.2] := st_of ht
      walk_at "bm"
      refine c_rounded (by omega) (by rw [hl2]; exact hst) ?_
      refine ⟨_, Sub.refl _, some (.int p.1), some (.int p.2), ?_, rfl⟩
      rw [rnAll_snoc hpi]
      rfl
    · rintro σ s ⟨x4, x5, rfl, rfl⟩
      rw [hlen, List.take_length]
      exact ⟨_, Sub.refl _, _, _, rfl, rfl⟩
  rintro σ s ⟨x4, x5, rfl, rfl⟩
  have hl2 : (rnAll r ps).length = r.length := rnAll_len _ _ h1
  refine ws_seq ?_
  refine ws_if (wt_not ?_)
  walk_at "bm"
  refine ⟨fun h3 => ?_, fun h3 => ?_⟩
  · have h3' : isR (rnAll r ps) = false := by simpa using h3
    walk_at "bm"
    show V.bl _ = V.bl _
    rw [h3']
    rfl
  have h3' : isR (rnAll r ps) = true := by simpa using h3
  rw [h3', Bool.true_and]
  walk_at "bn"
  refine ws_seq ?_
  walk_at "bn"
  refine ⟨_, _, _, _, _, rfl, fun H' o => o.ex _ _ hg, hR.c.cl, hR.ns, rfl, ?_⟩
  walk_at "bn"
  refine ⟨fun h4 => ?_, fun h4 => ?_⟩
  · have h4' : ps.length = 0 := by have := of_decide_eq_true h4; omega
    walk_at "bm"
    refine ⟨_, _, _, _, _, rfl, fun H' o => o.ex _ _ hg, hR.c.cl, hR.nt, rfl, ?_⟩
    walk_at "bm"
    show V.bl _ = V.bl _
    rw [if_pos h4', tpV_non]
  have h4' : ¬ ps.length = 0 := by have := of_decide_eq_false h4; omega
  rw [if_neg h4']
  walk_at "bn"
  refine ws_seq ?_
  walk_at "bn"
  refine ⟨fun h5 => ?_, fun h5 => ?_⟩
  · walk_at "bm"
    show V.bl _ = V.bl _
    rw [h5]
    rfl
  rw [h5, Bool.not_false, Bool.true_and]
  walk_at "bn"
  refine ws_seq ?_
  walk_at "bn"
  refine ⟨_, _, _, _, _, rfl, fun H' o => o.ex _ _ hg, hR.c.cl, hR.ns, rfl, ?_⟩
  walk_at "bn"
  refine ⟨fun h6 => ?_, fun h6 => ?_⟩
  · have h6' : ps.length = 1 := by have := of_decide_eq_true h6; omega
    walk_at "bm"
    refine ⟨_, _, _, _, _, rfl, fun H' o => o.ex _ _ hg, hR.c.cl, hR.nt, rfl, ?_⟩
    walk_at "bm"
    show V.bl _ = V.bl _
    rw [if_pos h6', tpV_non]
  have h6' : ¬ ps.length = 1 := by have := of_decide_eq_false h6; omega
  rw [if_neg h6']
  have hb := rn_nb h1 h3' h5
  have B := blw_law hb
  have hble := B.le
  have hbll := B.ll
  walk_at "bn"
  refine ws_seq ?_
  walk_at "bn"
  refine c_below (by omega) hb fun p => ?_
  walk_at "bn"
  refine ws_seq ?_
  walk_at "bn"
  refine ⟨_, _, _, _, _, rfl, fun H' o => o.ex _ _ hg, hR.c.cl, hR.nt, rfl, ?_⟩
  cases t with
  | none =>
    walk_at "bm"
  | some z =>
    walk_at "bn"
    refine ⟨_, _, _, _, V.int z, rfl, fun H' o => o.ex _ _ hg, hR.c.cl, hR.nt, rfl, ?_⟩
    walk_at "bn"
    refine ⟨fun h7 => ?_, fun h7 => ?_⟩
    · have h7' := of_decide_eq_true h7
      walk_at "bn"
      refine ⟨fun h8 => ?_, fun h8 => ?_⟩
      · have h8' : ¬ z ≤ (bl r : Int) := by simpa using h8
        walk_at "bm"
        show V.bl _ = V.bl _
        rw [rnTop_some]
        rw [decide_eq_false (fun hh => h8' hh.2)]
        rfl
      have h8' : z ≤ (bl r : Int) := by simpa using h8
      walk_at "bn"
      refine ⟨_, _, _, _, V.int z, rfl, fun H' o => o.ex _ _ hg, hR.c.cl, hR.nt, rfl, ?_⟩
      refine w2_ixL (by walk_at "isl") (atI_dps4 (by omega) (by omega)) ?_
      walk_at "bn"
      refine wsl_L (by walk_at "isl") fun p1 hp1 => ?_
      rw [cut_hi (by omega), show ((bf r : Int) + 1).toNat = bf r + 1 by omega, ← List.map_take]
      walk_at "bn"
      refine wl_max (by walk_at "isl") (by rw [List.length_take, dps_len]; omega) fun m1 m1a m1b => ?_
      have e1 : m1 = mxA r := mxi_of m1a m1b
      subst e1
      walk_at "bn"
      refine wsl_L (by walk_at "isl") fun p2 hp2 => ?_
      rw [cut_lo (by omega), Int.toNat_natCast, ← List.map_drop]
      walk_at "bn"
      refine wl_max (by walk_at "isl") (by rw [List.length_drop, dps_len]; omega) fun m2 m2a m2b => ?_
      have e2 : m2 = mxB r := mxi_of m2a m2b
      subst e2
      walk_at "bm"
      show V.bl _ = V.bl _
      rw [rnTop_some]
      rw [decide_eq_true (show (bf r : Int) ≤ z ∧ z ≤ (bl r : Int) from ⟨h7', h8'⟩)]
      rfl
    · have h7' := of_decide_eq_false h7
      walk_at "bm"
      show V.bl _ = V.bl _
      rw [rnTop_some]
      rw [decide_eq_false (fun hh => h7' hh.1)]
      rfl
theorem c_r_shows {K : PySem.W.Frag} {C : CA} {H0 : Hp} {s : Ld} {Q : V → Ld → Prop} {E : XK} {g d a : Addr} {xs : List V} {ps : List (Int × Int)} {t : Option Int} {r : List Bool} (hR : RnC K C) (hg : ∀ H, Own H0 H s → H g = some (rIns C d a t)) (ha : IsL K H0 s a xs) (hp : ∀ H, Own H0 H s → PrT H xs ps) (hps : ps.length ≤ 5000) (hl : r.length ≤ 1000) (q : Q (.bl (rnSh r ps t)) s) : WC H0 (sp_r_shows K C) E [.ref g, .str (T r)] s Q := wc_V (fun H o => ⟨g, d, a, xs, ps, t, r, hR, rfl, hg H o, ha H o, hp H o, hps, hl, rfl⟩) q
end BM
namespace BM
open PySem L2 Evl
local macro_rules | `(tactic| walk_at "mem") => `(tactic| first | exact List.mem_cons_self | (refine List.mem_cons_of_mem _ ?_; walk_at "mem"))
local macro_rules | `(tactic| walk_at "swap") => `(tactic| first | exact Swap.here | (apply Swap.there; walk_at "swap"))
local macro_rules | `(tactic| walk_at "subl") => `(tactic| first | exact List.Sublist.refl _ | exact List.nil_sublist _ | (refine List.Sublist.cons_cons _ ?_; walk_at "subl") | (refine List.Sublist.cons _ ?_; walk_at "subl"))
local macro_rules | `(tactic| walk_at "sub") => `(tactic| first | exact Sub.refl _ | (refine ⟨?_, ?_⟩ <;> walk_at "subl"))
local macro_rules | `(tactic| walk_at "isl") => `(tactic| first | exact isL_own (by walk_at "mem") | exact isL_old (by assumption) | assumption)
local macro_rules | `(tactic| walk_at "ist") => `(tactic| first | exact isT_own (by walk_at "mem") | exact isT_old (by assumption) | assumption)
local macro_rules | `(tactic| walk_at "len") => `(tactic| first | omega | decide | (simp only [List.length_map, List.length_take, List.length_drop, List.length_append, List.length_cons, List.length_nil, List.length_reverse, dps_len, flp_len]; omega) | (simp [dps_len, flp_len]; omega) | simp)
local macro_rules | `(tactic| walk_at "b0") => `(tactic| first
  | with_reducible refine' ws_set ?_
  | with_reducible refine' ws_par ?_
  | with_reducible refine' ws_asg ?_
  | with_reducible refine' ws_drop ?_
  | with_reducible refine' ws_ret ?_
  | with_reducible refine' ws_if ?_
  | with_reducible refine' ws_next ?_
  | with_reducible refine' ws_brk ?_
  | with_reducible refine' ws_cont ?_
  | ((with_reducible refine' we_var ?hv ?_); case hv => rfl)
  | with_reducible refine' we_c ?_
  | with_reducible refine' we_op ?_
  | with_reducible refine' we_un ?_
  | with_reducible refine' we_if ?_
  | with_reducible refine' we_and ?_
  | with_reducible refine' we_or ?_
  | with_reducible refine' we_not ?_
  | with_reducible refine' wa_nil ?_
  | with_reducible refine' wa_cons ?_
  | (with_reducible refine' we_lst ?_)
  | (with_reducible refine' we_tup ?_)
  | with_reducible refine' we_cb ?_
  | with_reducible refine' we_call0 ?_
  | with_reducible refine' we_sl ?_
  | with_reducible refine' wo_none ?_
  | (with_reducible refine' wo_some ?_)
  | with_reducible refine' wt_test ?_
  | with_reducible refine' wt_B ?_
  | with_reducible refine' wt_and ?_
  | with_reducible refine' wt_or ?_
  | with_reducible refine' wt_not ?_
  | with_reducible refine' wt_yes ?_
  | with_reducible refine' we_chain ?_
  | with_reducible refine' we_chain3 ?_
  | with_reducible refine' we_revT ?_
  | with_reducible refine' we_revL ?_
  | with_reducible refine' we_bm ?_
  | with_reducible refine' we_bm0 ?_
  | with_reducible refine' ws_for ?_
  | with_reducible refine' we_lc ?_
  | with_reducible refine' wi_list ?_
  | with_reducible refine' wi_tup ?_
  | with_reducible refine' wi_T ?_
  | with_reducible refine' wi_rng1 ?_
  | with_reducible refine' wi_rng2 ?_
  | with_reducible refine' wi_rng3 ?_
  | with_reducible refine' wi_enum ?_
  | with_reducible refine' wi_enumT ?_
  | with_reducible refine' wi_zip ?_
  | with_reducible refine' wg_name ?_
  | with_reducible refine' wg_sub ?_
  | with_reducible refine' wgs_nil ?_
  | with_reducible refine' wgs_cons ?_
  | ((with_reducible refine' wg_tup ?ht ?hn ?_); (case ht => walk_at "ist"); (case hn => rfl))
  | with_reducible refine' w2_add ?_
  | with_reducible refine' w2_sub ?_
  | with_reducible refine' w2_lt ?_
  | with_reducible refine' w2_le ?_
  | with_reducible refine' w2_gt ?_
  | with_reducible refine' w2_ge ?_
  | with_reducible refine' w2_eqI ?_
  | with_reducible refine' w2_neI ?_
  | with_reducible refine' w2_eqT ?_
  | with_reducible refine' w2_neT ?_
  | with_reducible refine' w2_eqB ?_
  | with_reducible refine' w2_neB ?_
  | with_reducible refine' w2_isN ?_
  | with_reducible refine' w2_notN ?_
  | with_reducible refine' w2_isB ?_
  | with_reducible refine' w2_inT ?_
  | with_reducible refine' w1_neg ?_
  | with_reducible refine' wl_abs ?_
  | with_reducible refine' wl_max2 ?_
  | with_reducible refine' wl_min2 ?_
  | with_reducible refine' wl_intB ?_
  | ((with_reducible refine' w2_div ?h ?_); case h => first | omega | (constructor <;> omega))
  | ((with_reducible refine' w2_mod ?h ?_); case h => omega)
  | ((with_reducible refine' w2_catT ?h ?_); case h => walk_at "len")
  | ((with_reducible refine' wsl_T ?h ?_); case h => walk_at "len")
  | ((with_reducible refine' wl_lenT ?h ?_); case h => walk_at "len")
  | ((with_reducible refine' wl_len ?h ?_); case h => walk_at "isl")
  | ((with_reducible refine' wl_len ?h ?_); case h => walk_at "isl")
  | ((with_reducible refine' wm_append ?sw ?hl ?_); (case sw => walk_at "swap"); (case hl => walk_at "len")))
local macro_rules | `(tactic| walk_at "b1") => `(tactic| first | with_reducible refine' ws_seq ?_ | walk_at "b0")
local macro_rules | `(tactic| walk_at "bx") => `(tactic| first
  | refine ⟨_, rfl, ?_⟩
  | refine ⟨_, _, rfl, ?_⟩
  | refine ⟨ty_L (by walk_at "isl"), ?_⟩
  | refine ⟨ty_S, ?_⟩
  | refine spl_t (by rfl) ?_
  | refine spl_f (by rfl) ?_
  | exact rfl)
local macro_rules | `(tactic| walk_at "bm") => `(tactic| repeat (first | walk_at "b1" | walk_at "bx"))
local macro_rules | `(tactic| walk_at "bn") => `(tactic| repeat (first | walk_at "b0" | walk_at "bx"))
local macro_rules | `(tactic| walk_at "b0") => `(tactic| with_reducible refine' c_deepens ?_)
local macro_rules | `(tactic| walk_at "b0") => `(tactic| ((with_reducible refine' c_depths_of ?hl ?_); (case hl => walk_at "len")))
local macro_rules | `(tactic| walk_at "b0") => `(tactic| with_reducible refine' c_is_wholeI ?_)
local macro_rules | `(tactic| walk_at "b0") => `(tactic| with_reducible refine' c_flipped ?_)
local macro_rules | `(tactic| walk_at "b0") => `(tactic| ((with_reducible refine' c_is_right_row ?hl ?_); (case hl => walk_at "len")))
local macro_rules | `(tactic| walk_at "b0") => `(tactic| ((with_reducible refine' c_asked_row ?hl ?_); (case hl => walk_at "len")))
local macro_rules | `(tactic| walk_at "b0") => `(tactic| ((with_reducible refine' c_depths ?hl ?_); (case hl => walk_at "len")))
local macro_rules | `(tactic| walk_at "b0") => `(tactic| ((with_reducible refine' c_is_right ?hl ?_); (case hl => walk_at "len")))
local macro_rules | `(tactic| walk_at "b0") => `(tactic| ((with_reducible refine' c__law_depths ?hl ?_); (case hl => walk_at "len")))
local macro_rules | `(tactic| walk_at "b0") => `(tactic| ((with_reducible refine' c__law_good ?hl ?_); (case hl => walk_at "len")))
local macro_rules | `(tactic| walk_at "b0") => `(tactic| ((with_reducible refine' wl_listOf ?hx ?_); (case hx => walk_at "isl")))
local macro_rules | `(tactic| walk_at "b0") => `(tactic| with_reducible refine' w2_notB ?_)
local macro_rules | `(tactic| walk_at "own") => `(tactic| exact own_l (by walk_at "mem"))
local macro_rules | `(tactic| walk_at "b0") => `(tactic| with_reducible refine' we_fld ?_)
local macro_rules | `(tactic| walk_at "b0") => `(tactic| refine ⟨_, _, _, _, _, rfl, own_l (by walk_at "mem"), Grw.cl (by assumption), Grw.nr (by assumption), by rfl, ?_⟩)
local macro_rules | `(tactic| walk_at "b0") => `(tactic| refine ⟨_, _, _, _, _, rfl, fun H' o => o.ex _ _ (by assumption), Grw.cl (by assumption), Grw.nr (by assumption), by rfl, ?_⟩)
local macro_rules | `(tactic| walk_at "b0") => `(tactic| with_reducible refine' we_meth ?_)
local macro_rules | `(tactic| walk_at "b0") => `(tactic| refine ⟨_, _, _, rfl, own_l (by walk_at "mem"), by rfl, ?_⟩)
local macro_rules | `(tactic| walk_at "b0") => `(tactic| refine ⟨_, _, _, rfl, fun H' o => o.ex _ _ (by assumption), by rfl, ?_⟩)
local macro_rules | `(tactic| walk_at "gown") => `(tactic| first | exact own_l (by walk_at "mem") | exact fun H' o => o.ex _ _ (by assumption))
local macro_rules | `(tactic| walk_at "b0") => `(tactic| with_reducible refine' wm_countT ?_)
local macro_rules | `(tactic| walk_at "b0") => `(tactic| with_reducible refine' we_methU ?_)
theorem at_bf {r : List Bool} (h : blw r ≠ []) : atI (ntV (blw r)) 0 = some (.int ((bf r : Nat) : Int)) := at_first h
theorem at_bl {r : List Bool} (h : blw r ≠ []) : atI (ntV (blw r)) (-1) = some (.int ((bl r : Nat) : Int)) := at_last h
theorem ln__law_rounded {K : PySem.W.Frag} {C : CA} {vs : List V} {H : Hp} {Q : VK} {E : XK} (h : sp__law_rounded K C vs H Q E) : vs.length = 3 := by
  obtain ⟨_, ⟨r, a, xs, ps, t, rfl, _⟩, _⟩ := h
  rfl
theorem pu__law_rounded {K : PySem.W.Frag} {C : CA} {vs : List V} {H : Hp} {Q : VK} {E : XK} (h : sp__law_rounded K C vs H Q E) : rd__law_rounded K C { nx := fun _ H' => Q .non H', rt := Q } (start N__law_rounded vs) H := by
  obtain ⟨_, ⟨r, a, xs, ps, t, rfl, ha, hp, hps, hl, rfl⟩, k⟩ := h
  have hlen : xs.length = ps.length := Paired.length hp
  refine body_V ?_ k
  unfold rd__law_rounded
  refine ws_seq ?_
  walk_at "bn"
  refine ⟨fun h2 => ?_, fun h2 => ?_⟩
  · have h2' := of_decide_eq_true h2
    walk_at "bm"
    show V.bl _ = V.bl _
    rw [rnSh_bad fun hh => by omega]
  have h2' : ps.length ≤ 2 := by have := of_decide_eq_false h2; omega
  walk_at "bn"
  refine ws_seq ?_
  walk_at "bn"
  refine c__law_round hl (fun H' o => ⟨xs, isL_old ha H' o, (hp.ex o.ex).inn⟩) ?_
  by_cases h1 : ∀ p ∈ ps, stOk r.length p
  · rw [if_pos h1, rnSh_eq h1 h2']
    have hl2 : (rnAll r ps).length = r.length := rnAll_len _ _ h1
    walk_at "bn"
    refine ws_cut (fun σ s => σ = [some (.str (T r)), some (.ref a), some (tpV t), some (.str (T (rnAll r ps))), none, none, none, none] ∧ s = ⟨[], []⟩ ∧ isR (rnAll r ps) = true ∧ (ps.length = 0 ∨ isR r = false)) ?_ ?_
    · walk_at "bn"
      refine ⟨fun h3 => ?_, fun h3 => ?_⟩
      · have h3' : isR (rnAll r ps) = false := by simpa using h3
        walk_at "bm"
        show V.bl _ = V.bl _
        rw [h3']
        rfl
      have h3' : isR (rnAll r ps) = true := by simpa using h3
      walk_at "bn"
      refine ⟨by simp, fun q hq => ?_⟩
      refine w2_neLP (ns := ps) (ms := []) (isL_old ha) (fun H' o => (hp.ex o.ex).inn) (ys := []) (by walk_at "isl") (fun H' o => .nil) ?_
      walk_at "bn"
      refine ⟨fun h4 => ?_, fun h4 => ?_⟩
      · have h4' : ps ≠ [] := by simpa using h4
        have h4'' : ¬ ps.length = 0 := fun e => h4' (List.length_eq_zero_iff.mp e)
        walk_at "bn"
        refine ⟨fun h5 => ?_, fun h5 => ?_⟩
        · walk_at "bm"
          show V.bl _ = V.bl _
          rw [if_neg h4'', h5, h3']
          rfl
        · walk_at "bm"
          exact ⟨_, by walk_at "sub", rfl, rfl, h3', .inr h5⟩
      · have h4' : ps = [] := by simpa using h4
        walk_at "bm"
        exact ⟨_, by walk_at "sub", rfl, rfl, h3', .inl (by rw [h4']; rfl)⟩
    rintro σ s ⟨rfl, rfl, h3, h4⟩
    rw [h3, Bool.true_and]
    refine ws_seq ?_
    walk_at "bn"
    refine ⟨fun h5 => ?_, fun h5 => ?_⟩
    · have h5' : ps.length < 2 := by have := of_decide_eq_true h5; omega
      walk_at "bm"
      show V.bl _ = V.bl _
      rw [tpV_non]
      by_cases h6 : ps.length = 0
      · rw [if_pos h6]
      · rw [if_neg h6]
        rcases h4 with h4 | h4
        · exact absurd h4 h6
        · rw [h4, if_pos (by omega)]
          rfl
    have h5' : ps.length = 2 := by have := of_decide_eq_false h5; omega
    have h6 : isR r = false := by
      rcases h4 with h4 | h4
      · omega
      · exact h4
    rw [if_neg (by omega), if_neg (by omega), h6, Bool.not_false, Bool.true_and]
    have hb := rn_nb h1 h3 h6
    have B := blw_law hb
    have hble := B.le
    have hbll := B.ll
    walk_at "bn"
    refine ws_seq ?_
    walk_at "bn"
    intro f hf
    walk_at "bn"
    refine ws_seq ?_
    walk_at "bn"
    refine ⟨f, _, rfl, by walk_at "isl", ?_⟩
    refine blw_cp (r := r) (by walk_at "mem") hl ?_ ?_
    · intro D i p hi
      walk_at "bm"
      refine ⟨rfl, ?_⟩
      walk_at "bm"
      refine ⟨rfl, by walk_at "sub", fun h => ?_⟩
      walk_at "bm"
      exact ⟨rfl, by walk_at "sub"⟩
    intro w hw
    walk_at "bn"
    refine ws_seq ?_
    cases t with
    | none =>
      show WS _ _ [some (.str (T r)), some (.ref a), some .non, some (.str (T (rnAll r ps))), some (.ref f), some (.ref w), none, none] _ _
      walk_at "bm"
    | some z =>
      show WS _ _ [some (.str (T r)), some (.ref a), some (.int z), some (.str (T (rnAll r ps))), some (.ref f), some (.ref w), none, none] _ _
      walk_at "bn"
      refine w2_ixL (by walk_at "isl") (at_bf hb) ?_
      walk_at "bn"
      refine ⟨fun h7 => ?_, fun h7 => ?_⟩
      · have h7' := of_decide_eq_true h7
        walk_at "bn"
        refine w2_ixL (by walk_at "isl") (at_bl hb) ?_
        walk_at "bn"
        refine ⟨fun h8 => ?_, fun h8 => ?_⟩
        · have h8' : ¬ z ≤ (bl r : Int) := fun hh => by rw [decide_eq_true hh] at h8; cases h8
          walk_at "bm"
          show V.bl _ = V.bl _
          rw [rnTop_some, decide_eq_false (fun hh => h8' hh.2)]
          rfl
        have h8' : z ≤ (bl r : Int) := by
          refine Classical.byContradiction fun hh => ?_
          rw [decide_eq_false hh] at h8
          cases h8
        have h7'' : (bf r : Int) ≤ z := h7'
        walk_at "bn"
        refine w2_ixL (by walk_at "isl") (atI_dps4 (by omega) (by omega)) ?_
        walk_at "bn"
        refine w2_ixL (by walk_at "isl") (at_bf hb) ?_
        walk_at "bn"
        refine wsl_L (by walk_at "isl") fun p1 hp1 => ?_
        rw [cut_hi (by omega), show ((bf r : Int) + 1).toNat = bf r + 1 by omega, ← List.map_take]
        walk_at "bn"
        refine wl_max (by walk_at "isl") (by rw [List.length_take, dps_len]; omega) fun m1 m1a m1b => ?_
        have e1 : m1 = mxA r := mxi_of m1a m1b
        subst e1
        walk_at "bn"
        refine w2_ixL (by walk_at "isl") (at_bl hb) ?_
        walk_at "bn"
        refine wsl_L (by walk_at "isl") fun p2 hp2 => ?_
        rw [cut_lo (by omega), Int.toNat_natCast, ← List.map_drop]
        walk_at "bn"
        refine wl_max (by walk_at "isl") (by rw [List.length_drop, dps_len]; omega) fun m2 m2a m2b => ?_
        have e2 : m2 = mxB r := mxi_of m2a m2b
        subst e2
        walk_at "bm"
        show V.bl _ = V.bl _
        rw [rnTop_some, decide_eq_true (show (bf r : Int) ≤ z ∧ z ≤ (bl r : Int) from ⟨h7'', h8'⟩)]
        rfl
      · have h7' : ¬ (bf r : Int) ≤ z := not_dec h7
        walk_at "bm"
        show V.bl _ = V.bl _
        rw [rnTop_some, decide_eq_false (fun hh => h7' hh.1)]
        rfl
  · rw [if_neg h1, rnSh_bad (fun hh => h1 hh.1)]
    walk_at "bm"
theorem c__law_rounded {K : PySem.W.Frag} {C : CA} {H0 : Hp} {s : Ld} {Q : V → Ld → Prop} {E : XK} {a : Addr} {xs : List V} {ps : List (Int × Int)} {t : Option Int} {r : List Bool} (ha : IsL K H0 s a xs) (hp : ∀ H, Own H0 H s → PrT H xs ps) (hps : ps.length ≤ 5000) (hl : r.length ≤ 1000) (q : Q (.bl (rnSh r ps t)) s) : WC H0 (sp__law_rounded K C) E [.str (T r), .ref a, tpV t] s Q := wc_V (fun H o => ⟨r, a, xs, ps, t, rfl, ha H o, hp H o, hps, hl, rfl⟩) q
end BM
namespace BM
open PySem L2 Evl
local macro_rules | `(tactic| walk_at "mem") => `(tactic| first | exact List.mem_cons_self | (refine List.mem_cons_of_mem _ ?_; walk_at "mem"))
local macro_rules | `(tactic| walk_at "swap") => `(tactic| first | exact Swap.here | (apply Swap.there; walk_at "swap"))
local macro_rules | `(tactic| walk_at "subl") => `(tactic| first | exact List.Sublist.refl _ | exact List.nil_sublist _ | (refine List.Sublist.cons_cons _ ?_; walk_at "subl") | (refine List.Sublist.cons _ ?_; walk_at "subl"))
local macro_rules | `(tactic| walk_at "sub") => `(tactic| first | exact Sub.refl _ | (refine ⟨?_, ?_⟩ <;> walk_at "subl"))
local macro_rules | `(tactic| walk_at "isl") => `(tactic| first | exact isL_own (by walk_at "mem") | exact isL_old (by assumption) | assumption)
local macro_rules | `(tactic| walk_at "ist") => `(tactic| first | exact isT_own (by walk_at "mem") | exact isT_old (by assumption) | assumption)
local macro_rules | `(tactic| walk_at "len") => `(tactic| first | omega | decide | (simp only [List.length_map, List.length_take, List.length_drop, List.length_append, List.length_cons, List.length_nil, List.length_reverse, dps_len, flp_len]; omega) | (simp [dps_len, flp_len]; omega) | simp)
local macro_rules | `(tactic| walk_at "b0") => `(tactic| first
  | with_reducible refine' ws_set ?_
  | with_reducible refine' ws_par ?_
  | with_reducible refine' ws_asg ?_
  | with_reducible refine' ws_drop ?_
  | with_reducible refine' ws_ret ?_
  | with_reducible refine' ws_if ?_
  | with_reducible refine' ws_next ?_
  | with_reducible refine' ws_brk ?_
  | with_reducible refine' ws_cont ?_
  | ((with_reducible refine' we_var ?hv ?_); case hv => rfl)
  | with_reducible refine' we_c ?_
  | with_reducible refine' we_op ?_
  | with_reducible refine' we_un ?_
  | with_reducible refine' we_if ?_
  | with_reducible refine' we_and ?_
  | with_reducible refine' we_or ?_
  | with_reducible refine' we_not ?_
  | with_reducible refine' wa_nil ?_
  | with_reducible refine' wa_cons ?_
  | (with_reducible refine' we_lst ?_)
  | (with_reducible refine' we_tup ?_)
  | with_reducible refine' we_cb ?_
  | with_reducible refine' we_call0 ?_
  | with_reducible refine' we_sl ?_
  | with_reducible refine' wo_none ?_
  | (with_reducible refine' wo_some ?_)
  | with_reducible refine' wt_test ?_
  | with_reducible refine' wt_B ?_
  | with_reducible refine' wt_and ?_
  | with_reducible refine' wt_or ?_
  | with_reducible refine' wt_not ?_
  | with_reducible refine' wt_yes ?_
  | with_reducible refine' we_chain ?_
  | with_reducible refine' we_chain3 ?_
  | with_reducible refine' we_revT ?_
  | with_reducible refine' we_revL ?_
  | with_reducible refine' we_bm ?_
  | with_reducible refine' we_bm0 ?_
  | with_reducible refine' ws_for ?_
  | with_reducible refine' we_lc ?_
  | with_reducible refine' wi_list ?_
  | with_reducible refine' wi_tup ?_
  | with_reducible refine' wi_T ?_
  | with_reducible refine' wi_rng1 ?_
  | with_reducible refine' wi_rng2 ?_
  | with_reducible refine' wi_rng3 ?_
  | with_reducible refine' wi_enum ?_
  | with_reducible refine' wi_enumT ?_
  | with_reducible refine' wi_zip ?_
  | with_reducible refine' wg_name ?_
  | with_reducible refine' wg_sub ?_
  | with_reducible refine' wgs_nil ?_
  | with_reducible refine' wgs_cons ?_
  | ((with_reducible refine' wg_tup ?ht ?hn ?_); (case ht => walk_at "ist"); (case hn => rfl))
  | with_reducible refine' w2_add ?_
  | with_reducible refine' w2_sub ?_
  | with_reducible refine' w2_lt ?_
  | with_reducible refine' w2_le ?_
  | with_reducible refine' w2_gt ?_
  | with_reducible refine' w2_ge ?_
  | with_reducible refine' w2_eqI ?_
  | with_reducible refine' w2_neI ?_
  | with_reducible refine' w2_eqT ?_
  | with_reducible refine' w2_neT ?_
  | with_reducible refine' w2_eqB ?_
  | with_reducible refine' w2_neB ?_
  | with_reducible refine' w2_isN ?_
  | with_reducible refine' w2_notN ?_
  | with_reducible refine' w2_isB ?_
  | with_reducible refine' w2_inT ?_
  | with_reducible refine' w1_neg ?_
  | with_reducible refine' wl_abs ?_
  | with_reducible refine' wl_max2 ?_
  | with_reducible refine' wl_min2 ?_
  | with_reducible refine' wl_intB ?_
  | ((with_reducible refine' w2_div ?h ?_); case h => first | omega | (constructor <;> omega))
  | ((with_reducible refine' w2_mod ?h ?_); case h => omega)
  | ((with_reducible refine' w2_catT ?h ?_); case h => walk_at "len")
  | ((with_reducible refine' wsl_T ?h ?_); case h => walk_at "len")
  | ((with_reducible refine' wl_lenT ?h ?_); case h => walk_at "len")
  | ((with_reducible refine' wl_len ?h ?_); case h => walk_at "isl")
  | ((with_reducible refine' wl_len ?h ?_); case h => walk_at "isl")
  | ((with_reducible refine' wm_append ?sw ?hl ?_); (case sw => walk_at "swap"); (case hl => walk_at "len")))
local macro_rules | `(tactic| walk_at "b1") => `(tactic| first | with_reducible refine' ws_seq ?_ | walk_at "b0")
local macro_rules | `(tactic| walk_at "bx") => `(tactic| first
  | refine ⟨_, rfl, ?_⟩
  | refine ⟨_, _, rfl, ?_⟩
  | refine ⟨ty_L (by walk_at "isl"), ?_⟩
  | refine ⟨ty_S, ?_⟩
  | refine spl_t (by rfl) ?_
  | refine spl_f (by rfl) ?_
  | exact rfl)
local macro_rules | `(tactic| walk_at "bm") => `(tactic| repeat (first | walk_at "b1" | walk_at "bx"))
local macro_rules | `(tactic| walk_at "bn") => `(tactic| repeat (first | walk_at "b0" | walk_at "bx"))
local macro_rules | `(tactic| walk_at "b0") => `(tactic| with_reducible refine' c_deepens ?_)
local macro_rules | `(tactic| walk_at "b0") => `(tactic| ((with_reducible refine' c_depths_of ?hl ?_); (case hl => walk_at "len")))
local macro_rules | `(tactic| walk_at "b0") => `(tactic| with_reducible refine' c_is_wholeI ?_)
local macro_rules | `(tactic| walk_at "b0") => `(tactic| with_reducible refine' c_flipped ?_)
local macro_rules | `(tactic| walk_at "b0") => `(tactic| ((with_reducible refine' c_is_right_row ?hl ?_); (case hl => walk_at "len")))
local macro_rules | `(tactic| walk_at "b0") => `(tactic| ((with_reducible refine' c_asked_row ?hl ?_); (case hl => walk_at "len")))
local macro_rules | `(tactic| walk_at "b0") => `(tactic| ((with_reducible refine' c_depths ?hl ?_); (case hl => walk_at "len")))
local macro_rules | `(tactic| walk_at "b0") => `(tactic| ((with_reducible refine' c_is_right ?hl ?_); (case hl => walk_at "len")))
local macro_rules | `(tactic| walk_at "b0") => `(tactic| ((with_reducible refine' c__law_depths ?hl ?_); (case hl => walk_at "len")))
local macro_rules | `(tactic| walk_at "b0") => `(tactic| ((with_reducible refine' c__law_good ?hl ?_); (case hl => walk_at "len")))
local macro_rules | `(tactic| walk_at "b0") => `(tactic| ((with_reducible refine' wl_listOf ?hx ?_); (case hx => walk_at "isl")))
local macro_rules | `(tactic| walk_at "b0") => `(tactic| with_reducible refine' w2_notB ?_)
local macro_rules | `(tactic| walk_at "own") => `(tactic| exact own_l (by walk_at "mem"))
local macro_rules | `(tactic| walk_at "b0") => `(tactic| with_reducible refine' we_fld ?_)
local macro_rules | `(tactic| walk_at "b0") => `(tactic| refine ⟨_, _, _, _, _, rfl, own_l (by walk_at "mem"), Grw.cl (by assumption), Grw.nr (by assumption), by rfl, ?_⟩)
local macro_rules | `(tactic| walk_at "b0") => `(tactic| refine ⟨_, _, _, _, _, rfl, fun H' o => o.ex _ _ (by assumption), Grw.cl (by assumption), Grw.nr (by assumption), by rfl, ?_⟩)
local macro_rules | `(tactic| walk_at "b0") => `(tactic| with_reducible refine' we_meth ?_)
local macro_rules | `(tactic| walk_at "b0") => `(tactic| refine ⟨_, _, _, rfl, own_l (by walk_at "mem"), by rfl, ?_⟩)
local macro_rules | `(tactic| walk_at "b0") => `(tactic| refine ⟨_, _, _, rfl, fun H' o => o.ex _ _ (by assumption), by rfl, ?_⟩)
local macro_rules | `(tactic| walk_at "gown") => `(tactic| first | exact own_l (by walk_at "mem") | exact fun H' o => o.ex _ _ (by assumption))
local macro_rules | `(tactic| walk_at "b0") => `(tactic| with_reducible refine' wm_countT ?_)
local macro_rules | `(tactic| walk_at "b0") => `(tactic| with_reducible refine' we_methU ?_)
theorem ln_rounds {K : PySem.W.Frag} {C : CA} {vs : List V} {H : Hp} {Q : VK} {E : XK} (h : sp_rounds K C vs H Q E) : vs.length = 1 := by
  obtain ⟨r, _, rfl, _⟩ := h
  rfl
theorem pu_rounds {K : PySem.W.Frag} {C : CA} {vs : List V} {H : Hp} {Q : VK} {E : XK} (h : sp_rounds K C vs H Q E) : rd_rounds K C { nx := fun _ H' => Q .non H', rt := Q } (start N_rounds vs) H := by
  obtain ⟨r, hX, rfl, hl, k1, k2⟩ := h
  refine body_K (P := fun v s => (hgt r ≠ 0 ∧ ∃ x d, v = .ref x ∧ (x, uIns C d (hgt r)) ∈ s.L) ∨ (hgt r = 0 ∧ ∃ (x d a : Addr) (ts : List (Addr × Int × Int)) (t : Option Int), v = .ref x ∧ Sub ⟨[(a, .lst (refs ts)), (x, rIns C d a t)], []⟩ s ∧ tps ts ⊆ s.T ∧ rnSh r (prs ts) t = true ∧ ts.length = rk r)) ?_ ?_
  · unfold rd_rounds
    refine ws_seq ?_
    walk_at "bn"
    refine ws_seq ?_
    walk_at "bn"
    intro f hf
    walk_at "bn"
    refine ws_seq ?_
    walk_at "bn"
    refine w2_ixL (by walk_at "isl") (dps_m1 _) ?_
    walk_at "bn"
    refine ⟨fun h => ?_, fun h => ?_⟩
    · have h' : hgt r ≠ 0 := by simpa using h
      walk_at "bn"
      refine we_uneven hX.u ?_
      walk_at "bm"
      refine w2_ixL (by walk_at "isl") (dps_m1 _) ?_
      walk_at "bm"
      intro x dx hx
      exact .inl ⟨h', x, dx, rfl, List.mem_cons_self⟩
    have h0 : hgt r = 0 := by simpa using h
    walk_at "bn"
    refine ws_seq ?_
    walk_at "bn"
    refine ⟨fun h3 => ?_, fun h3 => ?_⟩
    · walk_at "bn"
      refine we_rounded hX.r ?_
      walk_at "bn"
      refine ⟨by simp, fun q hq => ?_⟩
      walk_at "bn"
      exact ⟨q, [], none, rfl, by walk_at "mem", fun x dx a2 hx ha2 => .inr ⟨h0, x, dx, a2, [], none, rfl, by walk_at "sub", List.nil_subset _, rnSh_none h3, (rk_zero.mpr h3).symm⟩⟩
    have hb := blw_some h0 h3
    have B := blw_law hb
    have hle := B.le
    have hll := B.ll
    have nn := mx_nn h0 B
    walk_at "bn"
    refine ws_seq ?_
    walk_at "bn"
    refine c_below (by omega) hb fun p => ?_
    walk_at "bn"
    refine ws_weak (s0 := ⟨[(f, .lst ((dps r).map V.int))], []⟩) (by walk_at "sub") ?_
    refine ws_cut (fun σ s => ∃ one : Nat, σ = [some (.str (T r)), some (.ref f), some (.int (one : Int)), none, none, some (.int (bf r : Int)), some (.int (bl r : Int))] ∧ s = ⟨[(f, .lst ((dps r).map V.int))], []⟩ ∧ one ≤ bf r ∧ hgt (r.take one) = mxA r) ?_ ?_
    · walk_at "bn"
      refine wsl_L (by walk_at "isl") fun p1 hp1 => ?_
      rw [cut_hi (by omega), show ((bf r : Int) + 1).toNat = bf r + 1 by omega, ← List.map_take]
      walk_at "bn"
      refine wl_max (by walk_at "isl") (by rw [List.length_take, dps_len]; omega) fun m1 m1a m1b => ?_
      have e1 : m1 = mxA r := mxi_of m1a m1b
      obtain ⟨j, hj, hfirst⟩ := first_of (List.mem_of_mem_take m1a)
      have hjl : j ≤ r.length := by
        have := (List.getElem?_eq_some_iff.mp hj).1
        rw [dps_len] at this
        omega
      have ej : hgt (r.take j) = m1 := by
        rw [dps_get hjl] at hj
        exact Option.some.inj hj
      have hjb : j ≤ bf r := by
        obtain ⟨i, hi, e⟩ := (dps_take_mem (show bf r ≤ r.length by omega)).mp m1a
        refine Nat.not_lt.mp fun hlt => ?_
        refine hfirst i (by omega) ?_
        rw [dps_get (by omega), e]
      walk_at "bn"
      refine wm_index (by walk_at "isl") hj hfirst ?_
      walk_at "bn"
      exact ⟨_, by walk_at "sub", j, rfl, rfl, hjb, by rw [ej, e1]⟩
    rintro σ s ⟨one, rfl, rfl, o1, o2⟩
    refine ws_cut (fun σ s => ∃ two : Nat, σ = [some (.str (T r)), some (.ref f), some (.int (one : Int)), some (.int (two : Int)), none, some (.int (bf r : Int)), some (.int (bl r : Int))] ∧ s = ⟨[(f, .lst ((dps r).map V.int))], []⟩ ∧ bl r ≤ two ∧ two ≤ r.length ∧ hgt (r.take two) = mxB r) ?_ ?_
    · walk_at "bn"
      refine wsl_L (by walk_at "isl") fun p1 hp1 => ?_
      rw [cut_lo (by omega), Int.toNat_natCast, ← List.map_drop]
      walk_at "bn"
      refine wsl_L (by walk_at "isl") fun p2 hp2 => ?_
      rw [cut_lo (by omega), Int.toNat_natCast, ← List.map_drop]
      walk_at "bn"
      refine wl_max (by walk_at "isl") (by rw [List.length_drop, dps_len]; omega) fun m1 m1a m1b => ?_
      have e1 : m1 = mxB r := mxi_of m1a m1b
      obtain ⟨j, hj, hfirst⟩ := first_of m1a
      have hjl : bl r + j ≤ r.length := by
        have := (List.getElem?_eq_some_iff.mp hj).1
        rw [List.length_drop, dps_len] at this
        omega
      have ej : hgt (r.take (bl r + j)) = m1 := by
        rw [List.getElem?_drop, dps_get hjl] at hj
        exact Option.some.inj hj
      walk_at "bn"
      refine wm_index (by walk_at "isl") hj hfirst ?_
      walk_at "bn"
      exact ⟨_, by walk_at "sub", bl r + j, by rw [Int.natCast_add]; rfl, rfl, by omega, hjl, by rw [ej, e1]⟩
    rintro σ s ⟨two, rfl, rfl, t1, t2, t3⟩
    have O := oneTwo_of h0 B o1 t1 t2 o2 t3
    have ol1 := O.l1
    have ol2 := O.l2
    refine ws_seq ?_
    walk_at "bn"
    refine wsl_L (by walk_at "isl") fun p1 hp1 => ?_
    rw [cut_both (by omega) (by omega) (by rw [List.length_map, dps_len]; omega), show ((two : Int) + 1).toNat - (one : Int).toNat = two + 1 - one by omega, Int.toNat_natCast, ← List.map_drop, ← List.map_take]
    walk_at "bn"
    refine wl_max (by walk_at "isl") (by rw [List.length_take, List.length_drop, dps_len]; omega) fun m ma mb => ?_
    walk_at "bn"
    refine w2_ixL (by walk_at "isl") (atI_dps4 (by omega) (by omega)) ?_
    walk_at "bn"
    refine w2_ixL (by walk_at "isl") (atI_dps4 (by omega) (by omega)) ?_
    rw [Int.toNat_natCast, Int.toNat_natCast]
    walk_at "bn"
    refine ⟨fun h4 => ?_, fun h4 => ?_⟩
    · have h4' := of_decide_eq_true h4
      have hm : ∀ k, one ≤ k → k ≤ two → hgt (r.take k) ≤ hgt (r.take one) + hgt (r.take two) := fun k hk1 hk2 => Int.le_trans (mb _ ((dps_mid_mem (by omega) t2).mpr ⟨k, hk1, hk2, rfl⟩)) h4'
      walk_at "bn"
      refine we_rounded hX.r ?_
      walk_at "bn"
      refine ⟨by simp, fun p2 hp2 => ?_⟩
      walk_at "bn"
      refine ⟨by simp, fun q hq => ?_⟩
      walk_at "bn"
      exact ⟨q, refs [(p2, ((one : Int), (two : Int)))], none, rfl, by walk_at "mem", fun x dx a2 hx ha2 => .inr ⟨h0, x, dx, a2, [(p2, ((one : Int), (two : Int)))], none, rfl, by walk_at "sub", List.cons_subset.mpr ⟨List.mem_cons_self, List.nil_subset _⟩, rnSh_one h0 h3 O hm, by unfold rk; rw [h3, if_neg (by decide), if_pos (one_not B O hm)]; rfl⟩⟩
    have h4' : mxA r + mxB r < m := by
      have := of_decide_eq_false h4
      rw [o2, t3] at this
      omega
    obtain ⟨km, hk1, hk2, hke⟩ := (dps_mid_mem (by omega) t2).mp ma
    have hkb : bf r ≤ km ∧ km ≤ bl r := by
      refine ⟨Nat.not_lt.mp fun hh => ?_, Nat.not_lt.mp fun hh => ?_⟩
      · have := (mxA_spec B).2 km (by omega)
        omega
      · have := (mxB_spec B).2 km (by omega) (by omega)
        omega
    have hmid : mxA r + mxB r < mid r := by
      have := (mid_spec B).2 km hkb.1 hkb.2
      omega
    walk_at "bn"
    refine ws_cut (fun σ s => ∃ most : Nat, σ = [some (.str (T r)), some (.ref f), some (.int (one : Int)), some (.int (two : Int)), some (.int (most : Int)), some (.int (bf r : Int)), some (.int (bl r : Int))] ∧ s = ⟨[(f, .lst ((dps r).map V.int))], []⟩ ∧ most ≤ r.length ∧ ∀ j, j ≤ r.length → hgt (r.take j) ≤ hgt (r.take most)) ?_ ?_
    · walk_at "bn"
      refine wl_max (by walk_at "isl") (by rw [dps_len]; omega) fun m1 m1a m1b => ?_
      obtain ⟨j, hj, hfirst⟩ := first_of m1a
      have hjl : j ≤ r.length := by
        have := (List.getElem?_eq_some_iff.mp hj).1
        rw [dps_len] at this
        omega
      have ej : hgt (r.take j) = m1 := by
        rw [dps_get hjl] at hj
        exact Option.some.inj hj
      walk_at "bn"
      refine wm_index (by walk_at "isl") hj hfirst ?_
      walk_at "bn"
      exact ⟨_, by walk_at "sub", j, rfl, rfl, hjl, fun i hi => by rw [ej]; exact m1b _ (mem_dps.mpr ⟨i, hi, rfl⟩)⟩
    rintro σ s ⟨most, rfl, rfl, hmo, hmax⟩
    walk_at "bn"
    refine we_rounded hX.r ?_
    walk_at "bn"
    refine ⟨by simp, fun p2 hp2 => ?_⟩
    walk_at "bn"
    refine ⟨by simp, fun p3 hp3 => ?_⟩
    walk_at "bn"
    refine ⟨by simp, fun q hq => ?_⟩
    walk_at "bn"
    refine wsl_L (by walk_at "isl") fun p4 hp4 => ?_
    rw [cut_both (by omega) (by omega) (by rw [List.length_map, dps_len]; omega), show ((bl r : Int) + 1).toNat - (bf r : Int).toNat = bl r + 1 - bf r by omega, Int.toNat_natCast, ← List.map_drop, ← List.map_take]
    walk_at "bn"
    refine wsl_L (by walk_at "isl") fun p5 hp5 => ?_
    rw [cut_both (by omega) (by omega) (by rw [List.length_map, dps_len]; omega), show ((bl r : Int) + 1).toNat - (bf r : Int).toNat = bl r + 1 - bf r by omega, Int.toNat_natCast, ← List.map_drop, ← List.map_take]
    walk_at "bn"
    refine wl_max (by walk_at "isl") (by rw [List.length_take, List.length_drop, dps_len]; omega) fun mm mma mmb => ?_
    have emm : mm = mid r := mxi_of mma mmb
    obtain ⟨j, hj, hfirst⟩ := first_of mma
    have hjl : j < bl r + 1 - bf r ∧ bf r + j ≤ r.length := by
      have := (List.getElem?_eq_some_iff.mp hj).1
      rw [List.length_take, List.length_drop, dps_len] at this
      omega
    have ej : hgt (r.take (bf r + j)) = mm := by
      rw [List.getElem?_take, if_pos hjl.1, List.getElem?_drop, dps_get hjl.2] at hj
      exact Option.some.inj hj
    obtain ⟨r1, r2, r3⟩ := rnSh_two h0 h3 hmo hmax (top := bf r + j) (by omega) (by omega) (by rw [ej, emm]; exact hmid)
    walk_at "bn"
    refine wm_index (by walk_at "isl") hj hfirst ?_
    walk_at "bn"
    exact ⟨q, refs [(p2, ((0 : Int), (most : Int))), (p3, ((most : Int), (r.length : Int)))], some ((bf r + j : Nat) : Int), by rw [Int.natCast_add]; rfl, by walk_at "mem", fun x dx a2 hx ha2 => .inr ⟨h0, x, dx, a2, [(p2, ((0 : Int), (most : Int))), (p3, ((most : Int), (r.length : Int)))], _, rfl, by walk_at "sub", List.cons_subset.mpr ⟨List.mem_cons_of_mem _ List.mem_cons_self, List.cons_subset.mpr ⟨List.mem_cons_self, List.nil_subset _⟩⟩, r3, by unfold rk; rw [h3, if_neg (by decide), if_neg (by omega)]; rfl⟩⟩
  · rintro v H' s w (⟨h0, x, d, rfl, m⟩ | ⟨h0, x, d, a, ts, t, rfl, hs, hT, h1, h2⟩)
    · exact k1 h0 H' x d w.ex (w.own _ m).1 (w.own _ m).2
    · have w2 := w.sub hs
      have nd : [a, x].Nodup := w2.nd
      have ma := w2.own (a, .lst (refs ts)) List.mem_cons_self
      have mx := w2.own (x, rIns C d a t) (List.mem_cons_of_mem _ List.mem_cons_self)
      exact k2 h0 H' x d a ts t w.ex mx.1 ma.1 nd mx.2 ma.2 (fun u hu => w.tp (u.1, pairV u.2) (hT (List.mem_map.mpr ⟨u, hu, rfl⟩))) h1 h2
end BM
namespace BM
open PySem L2 Evl
local macro_rules | `(tactic| walk_at "mem") => `(tactic| first | exact List.mem_cons_self | (refine List.mem_cons_of_mem _ ?_; walk_at "mem"))
local macro_rules | `(tactic| walk_at "swap") => `(tactic| first | exact Swap.here | (apply Swap.there; walk_at "swap"))
local macro_rules | `(tactic| walk_at "subl") => `(tactic| first | exact List.Sublist.refl _ | exact List.nil_sublist _ | (refine List.Sublist.cons_cons _ ?_; walk_at "subl") | (refine List.Sublist.cons _ ?_; walk_at "subl"))
local macro_rules | `(tactic| walk_at "sub") => `(tactic| first | exact Sub.refl _ | (refine ⟨?_, ?_⟩ <;> walk_at "subl"))
local macro_rules | `(tactic| walk_at "isl") => `(tactic| first | exact isL_own (by walk_at "mem") | exact isL_old (by assumption) | assumption)
local macro_rules | `(tactic| walk_at "ist") => `(tactic| first | exact isT_own (by walk_at "mem") | exact isT_old (by assumption) | assumption)
local macro_rules | `(tactic| walk_at "len") => `(tactic| first | omega | decide | (simp only [List.length_map, List.length_take, List.length_drop, List.length_append, List.length_cons, List.length_nil, List.length_reverse, dps_len, flp_len]; omega) | (simp [dps_len, flp_len]; omega) | simp)
local macro_rules | `(tactic| walk_at "b0") => `(tactic| first
  | with_reducible refine' ws_set ?_
  | with_reducible refine' ws_par ?_
  | with_reducible refine' ws_asg ?_
  | with_reducible refine' ws_drop ?_
  | with_reducible refine' ws_ret ?_
  | with_reducible refine' ws_if ?_
  | with_reducible refine' ws_next ?_
  | with_reducible refine' ws_brk ?_
  | with_reducible refine' ws_cont ?_
  | ((with_reducible refine' we_var ?hv ?_); case hv => rfl)
  | with_reducible refine' we_c ?_
  | with_reducible refine' we_op ?_
  | with_reducible refine' we_un ?_
  | with_reducible refine' we_if ?_
  | with_reducible refine' we_and ?_
  | with_reducible refine' we_or ?_
  | with_reducible refine' we_not ?_
  | with_reducible refine' wa_nil ?_
  | with_reducible refine' wa_cons ?_
  | (with_reducible refine' we_lst ?_)
  | (with_reducible refine' we_tup ?_)
  | with_reducible refine' we_cb ?_
  | with_reducible refine' we_call0 ?_
  | with_reducible refine' we_sl ?_
  | with_reducible refine' wo_none ?_
  | (with_reducible refine' wo_some ?_)
  | with_reducible refine' wt_test ?_
  | with_reducible refine' wt_B ?_
  | with_reducible refine' wt_and ?_
  | with_reducible refine' wt_or ?_
  | with_reducible refine' wt_not ?_
  | with_reducible refine' wt_yes ?_
  | with_reducible refine' we_chain ?_
  | with_reducible refine' we_chain3 ?_
  | with_reducible refine' we_revT ?_
  | with_reducible refine' we_revL ?_
  | with_reducible refine' we_bm ?_
  | with_reducible refine' we_bm0 ?_
  | with_reducible refine' ws_for ?_
  | with_reducible refine' we_lc ?_
  | with_reducible refine' wi_list ?_
  | with_reducible refine' wi_tup ?_
  | with_reducible refine' wi_T ?_
  | with_reducible refine' wi_rng1 ?_
  | with_reducible refine' wi_rng2 ?_
  | with_reducible refine' wi_rng3 ?_
  | with_reducible refine' wi_enum ?_
  | with_reducible refine' wi_enumT ?_
  | with_reducible refine' wi_zip ?_
  | with_reducible refine' wg_name ?_
  | with_reducible refine' wg_sub ?_
  | with_reducible refine' wgs_nil ?_
  | with_reducible refine' wgs_cons ?_
  | ((with_reducible refine' wg_tup ?ht ?hn ?_); (case ht => walk_at "ist"); (case hn => rfl))
  | with_reducible refine' w2_add ?_
  | with_reducible refine' w2_sub ?_
  | with_reducible refine' w2_lt ?_
  | with_reducible refine' w2_le ?_
  | with_reducible refine' w2_gt ?_
  | with_reducible refine' w2_ge ?_
  | with_reducible refine' w2_eqI ?_
  | with_reducible refine' w2_neI ?_
  | with_reducible refine' w2_eqT ?_
  | with_reducible refine' w2_neT ?_
  | with_reducible refine' w2_eqB ?_
  | with_reducible refine' w2_neB ?_
  | with_reducible refine' w2_isN ?_
  | with_reducible refine' w2_notN ?_
  | with_reducible refine' w2_isB ?_
  | with_reducible refine' w2_inT ?_
  | with_reducible refine' w1_neg ?_
  | with_reducible refine' wl_abs ?_
  | with_reducible refine' wl_max2 ?_
  | with_reducible refine' wl_min2 ?_
  | with_reducible refine' wl_intB ?_
  | ((with_reducible refine' w2_div ?h ?_); case h => first | omega | (constructor <;> omega))
  | ((with_reducible refine' w2_mod ?h ?_); case h => omega)
  | ((with_reducible refine' w2_catT ?h ?_); case h => walk_at "len")
  | ((with_reducible refine' wsl_T ?h ?_); case h => walk_at "len")
  | ((with_reducible refine' wl_lenT ?h ?_); case h => walk_at "len")
  | ((with_reducible refine' wl_len ?h ?_); case h => walk_at "isl")
  | ((with_reducible refine' wl_len ?h ?_); case h => walk_at "isl")
  | ((with_reducible refine' wm_append ?sw ?hl ?_); (case sw => walk_at "swap"); (case hl => walk_at "len")))
local macro_rules | `(tactic| walk_at "b1") => `(tactic| first | with_reducible refine' ws_seq ?_ | walk_at "b0")
local macro_rules | `(tactic| walk_at "bx") => `(tactic| first
  | refine ⟨_, rfl, ?_⟩
  | refine ⟨_, _, rfl, ?_⟩
  | refine ⟨ty_L (by walk_at "isl"), ?_⟩
  | refine ⟨ty_S, ?_⟩
  | refine spl_t (by rfl) ?_
  | refine spl_f (by rfl) ?_
  | exact rfl)
local macro_rules | `(tactic| walk_at "bm") => `(tactic| repeat (first | walk_at "b1" | walk_at "bx"))
local macro_rules | `(tactic| walk_at "bn") => `(tactic| repeat (first | walk_at "b0" | walk_at "bx"))
local macro_rules | `(tactic| walk_at "b0") => `(tactic| with_reducible refine' c_deepens ?_)
local macro_rules | `(tactic| walk_at "b0") => `(tactic| ((with_reducible refine' c_depths_of ?hl ?_); (case hl => walk_at "len")))
local macro_rules | `(tactic| walk_at "b0") => `(tactic| with_reducible refine' c_is_wholeI ?_)
local macro_rules | `(tactic| walk_at "b0") => `(tactic| with_reducible refine' c_flipped ?_)
local macro_rules | `(tactic| walk_at "b0") => `(tactic| ((with_reducible refine' c_is_right_row ?hl ?_); (case hl => walk_at "len")))
local macro_rules | `(tactic| walk_at "b0") => `(tactic| ((with_reducible refine' c_asked_row ?hl ?_); (case hl => walk_at "len")))
local macro_rules | `(tactic| walk_at "b0") => `(tactic| ((with_reducible refine' c_depths ?hl ?_); (case hl => walk_at "len")))
local macro_rules | `(tactic| walk_at "b0") => `(tactic| ((with_reducible refine' c_is_right ?hl ?_); (case hl => walk_at "len")))
local macro_rules | `(tactic| walk_at "b0") => `(tactic| ((with_reducible refine' c__law_depths ?hl ?_); (case hl => walk_at "len")))
local macro_rules | `(tactic| walk_at "b0") => `(tactic| ((with_reducible refine' c__law_good ?hl ?_); (case hl => walk_at "len")))
local macro_rules | `(tactic| walk_at "b0") => `(tactic| ((with_reducible refine' wl_listOf ?hx ?_); (case hx => walk_at "isl")))
local macro_rules | `(tactic| walk_at "b0") => `(tactic| with_reducible refine' w2_notB ?_)
local macro_rules | `(tactic| walk_at "own") => `(tactic| exact own_l (by walk_at "mem"))
local macro_rules | `(tactic| walk_at "b0") => `(tactic| with_reducible refine' we_fld ?_)
local macro_rules | `(tactic| walk_at "b0") => `(tactic| refine ⟨_, _, _, _, _, rfl, own_l (by walk_at "mem"), Grw.cl (by assumption), Grw.nr (by assumption), by rfl, ?_⟩)
local macro_rules | `(tactic| walk_at "b0") => `(tactic| refine ⟨_, _, _, _, _, rfl, fun H' o => o.ex _ _ (by assumption), Grw.cl (by assumption), Grw.nr (by assumption), by rfl, ?_⟩)
local macro_rules | `(tactic| walk_at "b0") => `(tactic| with_reducible refine' we_meth ?_)
local macro_rules | `(tactic| walk_at "b0") => `(tactic| refine ⟨_, _, _, rfl, own_l (by walk_at "mem"), by rfl, ?_⟩)
local macro_rules | `(tactic| walk_at "b0") => `(tactic| refine ⟨_, _, _, rfl, fun H' o => o.ex _ _ (by assumption), by rfl, ?_⟩)
local macro_rules | `(tactic| walk_at "gown") => `(tactic| first | exact own_l (by walk_at "mem") | exact fun H' o => o.ex _ _ (by assumption))
local macro_rules | `(tactic| walk_at "b0") => `(tactic| with_reducible refine' wm_countT ?_)
local macro_rules | `(tactic| walk_at "b0") => `(tactic| with_reducible refine' we_methU ?_)
theorem c_rounds_ev {K : PySem.W.Frag} {C : CA} {H0 : Hp} {s : Ld} {Q : V → Ld → Prop} {E : XK} {r : List Bool} (hX : Ex04 K C) (hl : r.length ≤ 40) (h0 : hgt r = 0) (q : ∀ x d a ts t, rnSh r (prs ts) t = true → ts.length = rk r → Q (.ref x) ⟨(a, .lst (refs ts)) :: (x, rIns C d a t) :: s.L, tps ts ++ s.T⟩) : WC H0 (sp_rounds K C) E [.str (T r)] s Q := fun H o R k =>
  ⟨r, hX, rfl, hl, fun h => absurd h0 h, fun _ H' x d a ts t e hx ha nd h1 h2 ht h3 h4 => by
    have na : a ∉ [x] := (List.nodup_cons.mp nd).1
    have w1 := own_add (o.ext e) (fresh_back o.ex hx) (own_key o hx) h1
    have w2 := own_add w1 (fresh_back o.ex ha) (fun hm => by
      rcases List.mem_cons.mp hm with z | hm
      · exact na (by rw [z]; exact List.mem_cons_self)
      · exact own_key o ha hm) h2
    have w3 := w2.moreT (ts := tps ts) fun u hu => by
      obtain ⟨v, hv, rfl⟩ := List.mem_map.mp hu
      exact ht v hv
    exact k _ _ _ w3 (q x d a ts t h3 h4)⟩
local macro_rules | `(tactic| walk_at "tsub") => `(tactic| first | exact fun _ m => List.mem_append_left _ m | exact fun _ m => m | (refine List.Subset.trans ?_ (List.subset_cons_self _ _); walk_at "tsub"))
end BM
namespace BM
open PySem L2 Evl
local macro_rules | `(tactic| walk_at "mem") => `(tactic| first | exact List.mem_cons_self | (refine List.mem_cons_of_mem _ ?_; walk_at "mem"))
local macro_rules | `(tactic| walk_at "swap") => `(tactic| first | exact Swap.here | (apply Swap.there; walk_at "swap"))
local macro_rules | `(tactic| walk_at "subl") => `(tactic| first | exact List.Sublist.refl _ | exact List.nil_sublist _ | (refine List.Sublist.cons_cons _ ?_; walk_at "subl") | (refine List.Sublist.cons _ ?_; walk_at "subl"))
local macro_rules | `(tactic| walk_at "sub") => `(tactic| first | exact Sub.refl _ | (refine ⟨?_, ?_⟩ <;> walk_at "subl"))
local macro_rules | `(tactic| walk_at "isl") => `(tactic| first | exact isL_own (by walk_at "mem") | exact isL_old (by assumption) | assumption)
local macro_rules | `(tactic| walk_at "ist") => `(tactic| first | exact isT_own (by walk_at "mem") | exact isT_old (by assumption) | assumption)
local macro_rules | `(tactic| walk_at "len") => `(tactic| first | omega | decide | (simp only [List.length_map, List.length_take, List.length_drop, List.length_append, List.length_cons, List.length_nil, List.length_reverse, dps_len, flp_len]; omega) | (simp [dps_len, flp_len]; omega) | simp)
local macro_rules | `(tactic| walk_at "b0") => `(tactic| first
  | with_reducible refine' ws_set ?_
  | with_reducible refine' ws_par ?_
  | with_reducible refine' ws_asg ?_
  | with_reducible refine' ws_drop ?_
  | with_reducible refine' ws_ret ?_
  | with_reducible refine' ws_if ?_
  | with_reducible refine' ws_next ?_
  | with_reducible refine' ws_brk ?_
  | with_reducible refine' ws_cont ?_
  | ((with_reducible refine' we_var ?hv ?_); case hv => rfl)
  | with_reducible refine' we_c ?_
  | with_reducible refine' we_op ?_
  | with_reducible refine' we_un ?_
  | with_reducible refine' we_if ?_
  | with_reducible refine' we_and ?_
  | with_reducible refine' we_or ?_
  | with_reducible refine' we_not ?_
  | with_reducible refine' wa_nil ?_
  | with_reducible refine' wa_cons ?_
  | (with_reducible refine' we_lst ?_)
  | (with_reducible refine' we_tup ?_)
  | with_reducible refine' we_cb ?_
  | with_reducible refine' we_call0 ?_
  | with_reducible refine' we_sl ?_
  | with_reducible refine' wo_none ?_
  | (with_reducible refine' wo_some ?_)
  | with_reducible refine' wt_test ?_
  | with_reducible refine' wt_B ?_
  | with_reducible refine' wt_and ?_
  | with_reducible refine' wt_or ?_
  | with_reducible refine' wt_not ?_
  | with_reducible refine' wt_yes ?_
  | with_reducible refine' we_chain ?_
  | with_reducible refine' we_chain3 ?_
  | with_reducible refine' we_revT ?_
  | with_reducible refine' we_revL ?_
  | with_reducible refine' we_bm ?_
  | with_reducible refine' we_bm0 ?_
  | with_reducible refine' ws_for ?_
  | with_reducible refine' we_lc ?_
  | with_reducible refine' wi_list ?_
  | with_reducible refine' wi_tup ?_
  | with_reducible refine' wi_T ?_
  | with_reducible refine' wi_rng1 ?_
  | with_reducible refine' wi_rng2 ?_
  | with_reducible refine' wi_rng3 ?_
  | with_reducible refine' wi_enum ?_
  | with_reducible refine' wi_enumT ?_
  | with_reducible refine' wi_zip ?_
  | with_reducible refine' wg_name ?_
  | with_reducible refine' wg_sub ?_
  | with_reducible refine' wgs_nil ?_
  | with_reducible refine' wgs_cons ?_
  | ((with_reducible refine' wg_tup ?ht ?hn ?_); (case ht => walk_at "ist"); (case hn => rfl))
  | with_reducible refine' w2_add ?_
  | with_reducible refine' w2_sub ?_
  | with_reducible refine' w2_lt ?_
  | with_reducible refine' w2_le ?_
  | with_reducible refine' w2_gt ?_
  | with_reducible refine' w2_ge ?_
  | with_reducible refine' w2_eqI ?_
  | with_reducible refine' w2_neI ?_
  | with_reducible refine' w2_eqT ?_
  | with_reducible refine' w2_neT ?_
  | with_reducible refine' w2_eqB ?_
  | with_reducible refine' w2_neB ?_
  | with_reducible refine' w2_isN ?_
  | with_reducible refine' w2_notN ?_
  | with_reducible refine' w2_isB ?_
  | with_reducible refine' w2_inT ?_
  | with_reducible refine' w1_neg ?_
  | with_reducible refine' wl_abs ?_
  | with_reducible refine' wl_max2 ?_
  | with_reducible refine' wl_min2 ?_
  | with_reducible refine' wl_intB ?_
  | ((with_reducible refine' w2_div ?h ?_); case h => first | omega | (constructor <;> omega))
  | ((with_reducible refine' w2_mod ?h ?_); case h => omega)
  | ((with_reducible refine' w2_catT ?h ?_); case h => walk_at "len")
  | ((with_reducible refine' wsl_T ?h ?_); case h => walk_at "len")
  | ((with_reducible refine' wl_lenT ?h ?_); case h => walk_at "len")
  | ((with_reducible refine' wl_len ?h ?_); case h => walk_at "isl")
  | ((with_reducible refine' wl_len ?h ?_); case h => walk_at "isl")
  | ((with_reducible refine' wm_append ?sw ?hl ?_); (case sw => walk_at "swap"); (case hl => walk_at "len")))
local macro_rules | `(tactic| walk_at "b1") => `(tactic| first | with_reducible refine' ws_seq ?_ | walk_at "b0")
local macro_rules | `(tactic| walk_at "bx") => `(tactic| first
  | refine ⟨_, rfl, ?_⟩
  | refine ⟨_, _, rfl, ?_⟩
  | refine ⟨ty_L (by walk_at "isl"), ?_⟩
  | refine ⟨ty_S, ?_⟩
  | refine spl_t (by rfl) ?_
  | refine spl_f (by rfl) ?_
  | exact rfl)
local macro_rules | `(tactic| walk_at "bm") => `(tactic| repeat (first | walk_at "b1" | walk_at "bx"))
local macro_rules | `(tactic| walk_at "bn") => `(tactic| repeat (first | walk_at "b0" | walk_at "bx"))
local macro_rules | `(tactic| walk_at "b0") => `(tactic| with_reducible refine' c_deepens ?_)
local macro_rules | `(tactic| walk_at "b0") => `(tactic| ((with_reducible refine' c_depths_of ?hl ?_); (case hl => walk_at "len")))
local macro_rules | `(tactic| walk_at "b0") => `(tactic| with_reducible refine' c_is_wholeI ?_)
local macro_rules | `(tactic| walk_at "b0") => `(tactic| with_reducible refine' c_flipped ?_)
local macro_rules | `(tactic| walk_at "b0") => `(tactic| ((with_reducible refine' c_is_right_row ?hl ?_); (case hl => walk_at "len")))
local macro_rules | `(tactic| walk_at "b0") => `(tactic| ((with_reducible refine' c_asked_row ?hl ?_); (case hl => walk_at "len")))
local macro_rules | `(tactic| walk_at "b0") => `(tactic| ((with_reducible refine' c_depths ?hl ?_); (case hl => walk_at "len")))
local macro_rules | `(tactic| walk_at "b0") => `(tactic| ((with_reducible refine' c_is_right ?hl ?_); (case hl => walk_at "len")))
local macro_rules | `(tactic| walk_at "b0") => `(tactic| ((with_reducible refine' c__law_depths ?hl ?_); (case hl => walk_at "len")))
local macro_rules | `(tactic| walk_at "b0") => `(tactic| ((with_reducible refine' c__law_good ?hl ?_); (case hl => walk_at "len")))
local macro_rules | `(tactic| walk_at "b0") => `(tactic| ((with_reducible refine' wl_listOf ?hx ?_); (case hx => walk_at "isl")))
local macro_rules | `(tactic| walk_at "b0") => `(tactic| with_reducible refine' w2_notB ?_)
local macro_rules | `(tactic| walk_at "own") => `(tactic| exact own_l (by walk_at "mem"))
local macro_rules | `(tactic| walk_at "b0") => `(tactic| with_reducible refine' we_fld ?_)
local macro_rules | `(tactic| walk_at "b0") => `(tactic| refine ⟨_, _, _, _, _, rfl, own_l (by walk_at "mem"), Grw.cl (by assumption), Grw.nr (by assumption), by rfl, ?_⟩)
local macro_rules | `(tactic| walk_at "b0") => `(tactic| refine ⟨_, _, _, _, _, rfl, fun H' o => o.ex _ _ (by assumption), Grw.cl (by assumption), Grw.nr (by assumption), by rfl, ?_⟩)
local macro_rules | `(tactic| walk_at "b0") => `(tactic| with_reducible refine' we_meth ?_)
local macro_rules | `(tactic| walk_at "b0") => `(tactic| refine ⟨_, _, _, rfl, own_l (by walk_at "mem"), by rfl, ?_⟩)
local macro_rules | `(tactic| walk_at "b0") => `(tactic| refine ⟨_, _, _, rfl, fun H' o => o.ex _ _ (by assumption), by rfl, ?_⟩)
local macro_rules | `(tactic| walk_at "gown") => `(tactic| first | exact own_l (by walk_at "mem") | exact fun H' o => o.ex _ _ (by assumption))
local macro_rules | `(tactic| walk_at "b0") => `(tactic| with_reducible refine' wm_countT ?_)
local macro_rules | `(tactic| walk_at "b0") => `(tactic| with_reducible refine' we_methU ?_)
end BM
namespace BM
open PySem PySem.Spec PyProof.Rows L2 Evl
/-! ### two ledgers, one behind another; a new beginning -/
theorem Own.comp {H0 H H' : Hp} {s s' : Ld} (o : Own H0 H s) (o' : Own H H' s') : Own H0 H' ⟨s'.L ++ s.L, s'.T ++ s.T⟩ := by
  refine ⟨o.ex.trans o'.ex, ?_, ?_, ?_⟩
  · rw [List.map_append]
    refine List.nodup_append.mpr ⟨o'.nd, o.nd, fun a ha b hb e => ?_⟩
    subst e
    obtain ⟨x, hx, rfl⟩ := List.mem_map.mp ha
    obtain ⟨y, hy, e⟩ := List.mem_map.mp hb
    have h1 := (o'.own x hx).1
    have h2 := (o.own y hy).2
    rw [e, h1] at h2
    cases h2
  · intro x hx
    rcases List.mem_append.mp hx with h | h
    · exact ⟨fresh_back o.ex (o'.own x h).1, (o'.own x h).2⟩
    · exact ⟨(o.own x h).1, o'.ex _ _ (o.own x h).2⟩
  · intro t ht
    rcases List.mem_append.mp ht with h | h
    · exact o'.tp t h
    · exact o'.ex _ _ (o.tp t h)
section
variable {H0 : Hp} {σ : L2.St} {s : Ld} {te : TE} {t : TS} {D : Dl} {Q : V → Ld → Prop}
/-- what stands is held fast: a new ledger begins -/
theorem ws_base (h : ∀ H, Own H0 H s → WS H t σ ⟨[], []⟩ { nx := fun σ' _ => D.nx σ' s, rt := fun v _ => D.rt v s, bk := fun σ' _ => D.bk σ' s, ct := fun σ' _ => D.ct σ' s }) : WS H0 t σ s D := fun H o E l =>
  h H o H (Own.start H) E ⟨fun σ' H' s' o' q => l.nx σ' H' s (o.ext o'.ex) q, fun v H' s' o' q => l.rt v H' s (o.ext o'.ex) q, fun σ' H' s' o' q => l.bk σ' H' s (o.ext o'.ex) q, fun σ' H' s' o' q => l.ct σ' H' s (o.ext o'.ex) q⟩
theorem ws_nd (h : (s.L.map (·.1)).Nodup → WS H0 t σ s D) : WS H0 t σ s D := fun H o => h o.nd H o
theorem swap_mem {p : Addr} {o : HO} (o' : HO) : ∀ {L : List (Addr × HO)}, (p, o) ∈ L → (L.map (·.1)).Nodup → ∃ L', Swap p o o' L L' ∧ (p, o') ∈ L' ∧ ∀ e ∈ L, e.1 ≠ p → e ∈ L'
  | e :: L, h, nd => by
    have nd' := List.nodup_cons.mp nd
    by_cases he : e = (p, o)
    · subst he
      exact ⟨_, .here, List.mem_cons_self, fun e he hne => by
        rcases List.mem_cons.mp he with rfl | he
        · exact absurd rfl hne
        · exact List.mem_cons_of_mem _ he⟩
    · have h2 : (p, o) ∈ L := by
        rcases List.mem_cons.mp h with h | h
        · exact absurd h.symm he
        · exact h
      obtain ⟨L', h3, h4, h5⟩ := swap_mem o' h2 nd'.2
      exact ⟨_, .there h3, List.mem_cons_of_mem _ h4, fun x hx hne => by
        rcases List.mem_cons.mp hx with rfl | hx
        · exact List.mem_cons_self
        · exact List.mem_cons_of_mem _ (h5 x hx hne)⟩
/-- an append to a list that stands somewhere in the ledger -/
theorem wm_app {p : Addr} {xs : List V} {v : V} (h : (p, HO.lst xs) ∈ s.L) (hl : xs.length < 100000) (q : ∀ L', (s.L.map (·.1)).Nodup → (p, HO.lst (xs ++ [v])) ∈ L' → (∀ e ∈ s.L, e.1 ≠ p → e ∈ L') → Q .non ⟨L', s.T⟩) : WM H0 rAppend (.ref p) [v] s Q := fun H o R k => by
  obtain ⟨L', sw, h1, h2⟩ := swap_mem (.lst (xs ++ [v])) h o.nd
  exact wm_append sw hl (q L' o.nd h1 h2) H o R k
theorem w2_catO {p b : Addr} {xs zs : List V} (hp : ∀ H, Own H0 H s → H p = some (.lst xs)) (hb : ∀ H, Own H0 H s → H b = some (.lst zs)) (hl : xs.length + zs.length ≤ 100000) (q : ∀ l, H0 l = none → Q (.ref l) ⟨(l, .lst (xs ++ zs)) :: s.L, s.T⟩) : W2 H0 rCat (.ref p) (.ref b) s Q := fun H o R k =>
  ⟨p, b, xs, zs, rfl, rfl, hp H o, hb H o, sz_of hl, fun l hl => k _ _ _ (o.new hl) (q l (fresh_back o.ex hl))⟩
end
/-! ### a method of one of several classes -/
section
variable {X : Cx} {CX : CXT} {E : XK} {m : Str} {pos apos : Pos} {e o : Expr} {es : List Expr} {ta : TE} {t : TA}
def MOk (X : Cx) (CX : CXT) (m : Str) (Z : List (Addr × Sp)) : Prop := ∀ z ∈ Z, ∃ k f fd ps, Cls X.K z.1 ∧ Meth X.K z.1 m f ∧ FnOk X.prog X.w X.K X.mg X.base CX k f fd ps z.2 ∧ Room k X.A ∧ Binds X.K fd ps []
theorem mok_nil : MOk X CX m [] := fun z h => nomatch h
theorem mok_cons {C : Addr} {sp : Sp} {Z : List (Addr × Sp)} (h : ∃ k f fd ps, Cls X.K C ∧ Meth X.K C m f ∧ FnOk X.prog X.w X.K X.mg X.base CX k f fd ps sp ∧ Room k X.A ∧ Binds X.K fd ps []) (r : MOk X CX m Z) : MOk X CX m ((C, sp) :: Z) := fun z hz => by
  rcases List.mem_cons.mp hz with rfl | hz
  · exact h
  · exact r z hz
def tMethN (Z : List (Addr × Sp)) (m : Str) (E : XK) (ta : TE) (t : TA) : TE := fun σ H Q => ta σ H fun x H1 => ∃ a C dx fs sp, x = .ref a ∧ H1 a = some (.ins C dx fs) ∧ fs.lookup m = none ∧ (C, sp) ∈ Z ∧ t σ H1 fun vs H2 => sp (x :: vs) H2 Q E
theorem pe_methN {Z : List (Addr × Sp)} {pl : Sem Bool} (he : PE X o ta) (hZ : MOk X CX m Z) (hx : Passes CX X E) (ha : PA X (e :: es) t)
    (h1 : starEach (e :: es) X.env = (false, eval e X.env) :: starEach es X.env := by rfl) (h2 : (backTo pos (starEach es X.env)).any (·.1) = false := by rfl)
    (h3 : eval (.Call (.Attribute o m apos) (e :: es) [] pos) X.env = (eval o X.env >>= fun ov => standAt apos.atName >>= fun _ => holding [ov] (getMethod ov m pl) >>= fun (f, first) => callWith pos f first (backTo pos (starEach (e :: es) X.env)) (backToKw pos (keywordEach [] X.env))) := by rfl) :
    PE X (.Call (.Attribute o m apos) (e :: es) [] pos) (tMethN Z m E ta t) := by
  refine ⟨fun pins s σ H Q I h => PySem.W.methodCall_KW (pl := pl) (L2.thn (he.run pins s σ H _ I h) fun u s1 ⟨x, H1, I1, rx, a, C, dx, fs, sp, ex, ea, l, hm, q⟩ => ?_) h3⟩
  cases ex
  cases (show u = Value.ref a from rx)
  obtain ⟨k, f, fd, ps, c1, m1, F1, hr1, b1⟩ := hZ _ hm
  refine getmeth_ok I1 ea c1 m1 l (PySem.W.callWith_K (first := [.ref a]) (h₀ := X.base) I.ok.mod.kin m1.kp (L2.thn (ha.run pos pins s1 σ H1 _ I1 q) fun us s2 ⟨vs, H2, I2, r, q2⟩ => ⟨I2.kIn, ?_⟩) h1 h2)
  exact run_fn (us := .ref a :: us) (vs := .ref a :: vs) (dvs := []) F1 hr1 b1 .nil hx I2 (.cons rfl r) (by rw [List.append_nil]; exact q2)
end
section
variable {K : PySem.W.Frag} {H0 : Hp} {σ : L2.St} {s : Ld} {ta : TA} {te : TE} {Q : V → Ld → Prop} {m : Str} {E : XK} {Z : List (Addr × Sp)}
theorem we_methN (h : WE H0 te σ s fun x s1 => ∃ a C dx fs sp, x = .ref a ∧ (∀ H, Own H0 H s1 → H a = some (.ins C dx fs)) ∧ fs.lookup m = none ∧ (C, sp) ∈ Z ∧ WA H0 ta σ s1 fun vs s2 => WC H0 sp E (x :: vs) s2 Q) : WE H0 (tMethN Z m E te ta) σ s Q := fun H o R k =>
  h H o _ fun x H1 s1 o1 ⟨a, C, dx, fs, sp, e, ha, hl, hm, h1⟩ => ⟨a, C, dx, fs, sp, e, ha H1 o1, hl, hm, h1 H1 o1 _ fun vs H2 s2 o2 h2 => h2 H2 o2 R k⟩
/-! ### lists of two things compared -/
theorem shaped2 {a b : PyData} (ha : a.canLay0 = true) (hb : b.canLay0 = true) (da : a.depth ≤ 40) (db : b.depth ≤ 40) : SeqAt.shaped (.list [a, b]) = true := by
  unfold SeqAt.shaped
  have h1 : PyData.canLay0 (.list [a, b]) = true := by simp [PyData.canLay0, PyData.canLayAll0, ha, hb]
  have h3 : PyData.depth (.list [a, b]) ≤ 64 := by
    simp only [PyData.depth, PyData.depthAll]
    omega
  simp [h1, h3]
theorem lay_ints (ns : List Int) : PyData.canLay0 (.list (ns.map PyData.int)) = true ∧ PyData.depth (.list (ns.map PyData.int)) ≤ 40 := by
  refine ⟨by simp only [PyData.canLay0]; exact all_canLay (fun _ => rfl) ns, ?_⟩
  have := all_depth (g := PyData.int) (k := 10) (fun _ => by simp [PyData.depth]) ns
  simp only [PyData.depth]
  omega
theorem lay_prs (ns : List (Int × Int)) : PyData.canLay0 (.list (ns.map pairD)) = true ∧ PyData.depth (.list (ns.map pairD)) ≤ 40 := by
  refine ⟨by simp only [PyData.canLay0]; exact all_canLay (fun _ => rfl) ns, ?_⟩
  have := all_depth (g := pairD) (k := 20) (fun _ => by simp [pairD, PyData.depth, PyData.depthAll]) ns
  simp only [PyData.depth]
  omega
theorem eqv_ints (ns : List Int) : PyData.eqv (.list (ns.map PyData.int)) (.list (ns.map PyData.int)) = true := by
  simp only [PyData.eqv]
  rw [eqvAll_map eqv_intD]
  simp
theorem eqv_prs (ns : List (Int × Int)) : PyData.eqv (.list (ns.map pairD)) (.list (ns.map pairD)) = true := by
  simp only [PyData.eqv]
  rw [eqvAll_map eqv_pairD]
  simp
theorem eqv_list2 {a b : PyData} (h1 : PyData.eqv a a = true) (h2 : PyData.eqv b b = true) : PyData.eqv (.list [a, b]) (.list [a, b]) = true := by
  simp only [PyData.eqv, PyData.eqvAll, h1, h2]
  rfl
def topD : Option Int → PyData
  | none => .none
  | some z => .int z
theorem dp_top {H : Hp} (t : Option Int) : Dp K H (tpV t) (topD t) := by
  cases t with
  | none => exact .non
  | some z => exact .int z
theorem lay_top (t : Option Int) : (topD t).canLay0 = true ∧ (topD t).depth ≤ 40 ∧ PyData.eqv (topD t) (topD t) = true := by
  cases t with
  | none => exact ⟨rfl, by simp [topD, PyData.depth], rfl⟩
  | some z => exact ⟨rfl, by simp [topD, PyData.depth], by simp [topD, PyData.eqv]⟩
/-- two lists of the same two things -/
theorem w2_eq2 {p q : Addr} {x y x' y' : V} {a b : PyData} (hp : IsL K H0 s p [x, y]) (hq : IsL K H0 s q [x', y']) (hx : DpL K H0 s x a) (hy : DpL K H0 s y b) (hx' : DpL K H0 s x' a) (hy' : DpL K H0 s y' b) (ha : a.canLay0 = true ∧ a.depth ≤ 40) (hb : b.canLay0 = true ∧ b.depth ≤ 40) (ea : PyData.eqv a a = true) (eb : PyData.eqv b b = true) (qq : Q (.bl true) s) : W2 H0 (rEqD K) (.ref p) (.ref q) s Q :=
  w2_eqD (fun H o => .lst (hp H o) (.cons (hx H o) (.cons (hy H o) .nil))) (fun H o => .lst (hq H o) (.cons (hx' H o) (.cons (hy' H o) .nil))) (shaped2 ha.1 hb.1 ha.2 hb.2) (shaped2 ha.1 hb.1 ha.2 hb.2) (eqv_list2 ea eb) qq
end
/-! ### any answer -/
structure Ex05 (K : PySem.W.Frag) (C : CA) : Prop where
  e2 : Ex02 K C
  e3 : Ex03 K C
  e4 : Ex04 K C
def AnyAns (K : PySem.W.Frag) (C : CA) (H : Hp) (x : Addr) (f : List Bool → Bool) : Prop :=
  (∃ d z, H x = some (uIns C d z) ∧ f = fun r => unSh r z) ∨ (∃ d, H x = some (oIns C d) ∧ f = odSh) ∨
  (∃ d a b ps ls, H x = some (sIns C d a b) ∧ SqL K H a (ps.map V.int) ∧ SqL K H b (ls.map V.int) ∧ f = fun r => swSh r ps ls) ∨
  (∃ d a z ps, H x = some (tIns C d a z) ∧ SqL K H a (ps.map V.int) ∧ Few ps ∧ f = fun r => tnSh r ps z) ∨
  (∃ d a t xs ps, H x = some (rIns C d a t) ∧ SqL K H a xs ∧ PrT H xs ps ∧ ps.length ≤ 5000 ∧ f = fun r => rnSh r ps t)
def sp__law_says05 (K : PySem.W.Frag) (C : CA) : Sp := spV fun vs H v => ∃ (x : Addr) (f : List Bool → Bool) (r : List Bool) (b : Bool), Ex05 K C ∧ vs = [.ref x, .str (T r), .bl b] ∧ AnyAns K C H x f ∧ r.length ≤ 1000 ∧ v = .bl (decide (f r = b))
def sp__law_put (K : PySem.W.Frag) (C : CA) : Sp := spL fun vs H ys => ∃ (a : Addr) (xs : List V) (i : Nat) (v : V), vs = [.ref a, .int (i : Int), v] ∧ SqL K H a xs ∧ i < xs.length ∧ xs.length ≤ 1000 ∧ ys = xs.take i ++ [v] ++ xs.drop (i + 1)
def sp__law_bent (K : PySem.W.Frag) (C : CA) : Sp := fun vs H Q _ => ∃ (a : Addr) (ns : List Int) (m : Int), vs = [.ref a, .int m] ∧ H a = some (.lst (ns.map V.int)) ∧ ns.length ≤ 500 ∧
  ∀ p H' s' (xs : List V), Own H H' s' → (p, HO.lst xs) ∈ s'.L → (∀ x ∈ xs, ∃ (u : Addr) (ms : List Int), x = V.ref u ∧ ms.length ≤ ns.length + 1 ∧ ((u, HO.lst (ms.map V.int)) ∈ s'.L ∨ (u = a ∧ ms = ns))) → xs.length ≤ 2000 → Q (.ref p) H'
def sp__law_swapped_right (K : PySem.W.Frag) (C : CA) : Sp := spV fun vs H v => ∃ (r : List Bool) (a b : Addr) (ps ls : List Int), Ex05 K C ∧ vs = [.str (T r), .ref a, .ref b] ∧ SqL K H a (ps.map V.int) ∧ SqL K H b (ls.map V.int) ∧ ps.length ≤ 3000 ∧ ls.length ≤ 3000 ∧ r.length ≤ 1000 ∧ v = .bl true
def sp__law_turned_right (K : PySem.W.Frag) (C : CA) : Sp := spV fun vs H v => ∃ (r : List Bool) (a : Addr) (ps : List Int) (z : Int), Ex05 K C ∧ vs = [.str (T r), .ref a, .int z] ∧ SqL K H a (ps.map V.int) ∧ ps.length ≤ 3000 ∧ r.length ≤ 1000 ∧ v = .bl true
def sp__law_rounded_right (K : PySem.W.Frag) (C : CA) : Sp := spV fun vs H v => ∃ (r : List Bool) (a : Addr) (xs : List V) (t : Option Int), Ex05 K C ∧ vs = [.str (T r), .ref a, tpV t] ∧ SqL K H a xs ∧ (∃ ps, PrT H xs ps) ∧ xs.length ≤ 3000 ∧ r.length ≤ 1000 ∧ v = .bl true
def sp__law_more_right (K : PySem.W.Frag) (C : CA) : Sp := spV fun vs H v => ∃ (r : List Bool) (x y dx dy a b c : Addr) (ps ls : List Int) (xs : List V) (t : Option Int), Ex05 K C ∧ vs = [.str (T r), .ref x, .ref y] ∧ H x = some (sIns C dx a b) ∧ H a = some (.lst (ps.map V.int)) ∧ H b = some (.lst (ls.map V.int)) ∧ H y = some (rIns C dy c t) ∧ H c = some (.lst xs) ∧ (∃ qs, PrT H xs qs) ∧ ps.length ≤ 900 ∧ ls.length ≤ 900 ∧ xs.length ≤ 900 ∧ r.length ≤ 900 ∧ v = .bl true
def sp__law_even_right (K : PySem.W.Frag) (C : CA) : Sp := spV fun vs H v => ∃ (r : List Bool) (w : Int), Ex05 K C ∧ vs = [.str (T r), .int w] ∧ r.length ≤ 12 ∧ hgt r = 0 ∧ v = .bl true
def sp_law05 (K : PySem.W.Frag) (C : CA) : Sp := spV fun vs H v => ∃ (a : Addr) (ns : List Int), Ex05 K C ∧ vs = [.ref a] ∧ SqL K H a (ns.map V.int) ∧ ns.length ≤ 63 ∧ v = .bl true
end BM
namespace BM
open PySem L2 Evl
def N__law_says05 : List Str := ["_law_answer", "_law_row_here", "_law_due", "_law_said"]
def rd__law_says05 (K : PySem.W.Frag) (C_ : CA) : TS :=
    (tSeq (tAsg (tMethN [(C_.c_Uneven, (sp_u_shows K C_)), (C_.c_Odd, (sp_o_shows K C_)), (C_.c_Swapped, (sp_s_shows K C_)), (C_.c_Turned, (sp_t_shows K C_)), (C_.c_Rounded, (sp_r_shows K C_))] "shows" E0 (tVar 0) (tCons (tVar 1) tNil)) (gName 3))
    (tRet (tAndV (tCB (aIsi K "bool") (tCons (tVar 3) (tCons (tC (.ty "bool")) tNil))) (tAndV (tOp rEq (tVar 3) (tVar 2)) (tCB (aIsiC K C_.c_Answer) (tCons (tVar 0) (tCons (tC (.ref C_.c_Answer)) tNil)))))))
def N__law_put : List Str := ["_law_row_here", "_law_at", "_law_thing"]
def rd__law_put (K : PySem.W.Frag) (C_ : CA) : TS :=
    (tRet (tOp rCat (tOp rCat (tSl (rSlL K) (tVar 0) tNoPart (tPart (tVar 1))) (tLst (tCons (tVar 2) tNil))) (tSl (rSlL K) (tVar 0) (tPart (tOp aAdd (tVar 1) (tC (.int 1)))) tNoPart)))
def N__law_bent : List Str := ["_law_row_here", "_law_more", "_law_found", "_law_at", "_law_more_one"]
def rd__law_bent (K : PySem.W.Frag) (C_ : CA) : TS :=
    (tSeq (tAsg (tLst (tCons (tVar 0) (tCons (tSl (rSlL K) (tVar 0) (tPart (tC (.int 1))) tNoPart) (tCons (tSl (rSlL K) (tVar 0) tNoPart (tPart (tUn aNeg (tC (.int 1))))) (tCons (tOp rCat (tVar 0) (tSl (rSlL K) (tVar 0) (tPart (tUn aNeg (tC (.int 1)))) tNoPart)) (tCons (tRevL K (tVar 0)) (tCons (tLst tNil) (tCons (tOp rCat (tVar 0) (tLst (tCons (tVar 1) tNil))) (tCons (tOp rCat (tVar 0) (tLst (tCons (tUn aNeg (tC (.int 1))) tNil))) (tCons (tOp rCat (tVar 0) (tLst (tCons (tOp aPow (tC (.int 10)) (tC (.int 20))) tNil))) tNil)))))))))) (gName 2))
    (tSeq (tFor (iRng1 (tCons (tCB (aLenL K) (tCons (tVar 0) tNil)) tNil)) (gName 3) (tFor (iTup K (tTup (tCons (tC (.int 1)) (tCons (tUn aNeg (tC (.int 1))) (tCons (tOp aPow (tC (.int 10)) (tC (.int 20))) tNil))))) (gName 4) (tDrop (tBM K "list" rAppend (tVar 2) (tCons (tCall (sp__law_put K C_) [] E0 (tCons (tVar 0) (tCons (tVar 3) (tCons (tOp aAdd (tOp (rIxL K) (tVar 0) (tVar 3)) (tVar 4)) tNil)))) tNil)))))
    (tRet (tVar 2))))
def N__law_swapped_right : List Str := ["_law_row_here", "_law_places", "_law_lifts", "_law_handed", "_law_built"]
def rd__law_swapped_right (K : PySem.W.Frag) (C_ : CA) : TS :=
    (tSeq (tAsg (tLst (tCons (tCB (aListOf K) (tCons (tVar 1) tNil)) (tCons (tCB (aListOf K) (tCons (tVar 2) tNil)) tNil))) (gName 3))
    (tSeq (tAsg (tMake C_.c_Swapped (sp_s_init K C_) [] E0 (tCons (tOp (rIxL K) (tVar 3) (tC (.int 0))) (tCons (tOp (rIxL K) (tVar 3) (tC (.int 1))) tNil))) (gName 4))
    (tSeq (tDrop (tBM K "list" rAppend (tOp (rIxL K) (tVar 3) (tC (.int 0))) (tCons (tC (.int 0)) tNil)))
    (tSeq (tDrop (tBM K "list" rAppend (tOp (rIxL K) (tVar 3) (tC (.int 1))) (tCons (tC (.int 0)) tNil)))
    (tRet (tAndV (tOp (rEqD K) (tLst (tCons (tFld K (tVar 4) "places") (tCons (tFld K (tVar 4) "lifts") tNil))) (tLst (tCons (tVar 1) (tCons (tVar 2) tNil)))) (tCall (sp__law_says05 K C_) [] E0 (tCons (tVar 4) (tCons (tVar 0) (tCons (tCall (sp__law_swapped K C_) [] E0 (tCons (tVar 0) (tCons (tVar 1) (tCons (tVar 2) tNil)))) tNil))))))))))
def N__law_turned_right : List Str := ["_law_row_here", "_law_places", "_law_cut", "_law_handed", "_law_built"]
def rd__law_turned_right (K : PySem.W.Frag) (C_ : CA) : TS :=
    (tSeq (tAsg (tCB (aListOf K) (tCons (tVar 1) tNil)) (gName 3))
    (tSeq (tAsg (tMake C_.c_Turned (sp_t_init K C_) [] E0 (tCons (tVar 3) (tCons (tVar 2) tNil))) (gName 4))
    (tSeq (tDrop (tBM K "list" rAppend (tVar 3) (tCons (tC (.int 0)) tNil)))
    (tRet (tAndV (tOp (rEqD K) (tLst (tCons (tFld K (tVar 4) "places") (tCons (tFld K (tVar 4) "cut") tNil))) (tLst (tCons (tVar 1) (tCons (tVar 2) tNil)))) (tCall (sp__law_says05 K C_) [] E0 (tCons (tVar 4) (tCons (tVar 0) (tCons (tCall (sp__law_turned K C_) [] E0 (tCons (tVar 0) (tCons (tVar 1) (tCons (tVar 2) tNil)))) tNil)))))))))
def N__law_rounded_right : List Str := ["_law_row_here", "_law_stretches", "_law_top", "_law_handed", "_law_built", "_law_due"]
def rd__law_rounded_right (K : PySem.W.Frag) (C_ : CA) : TS :=
    (tSeq (tAsg (tCB (aListOf K) (tCons (tVar 1) tNil)) (gName 3))
    (tSeq (tAsg (tMake C_.c_Rounded (sp_r_init K C_) [] E0 (tCons (tVar 3) (tCons (tVar 2) tNil))) (gName 4))
    (tSeq (tDrop (tBM K "list" rAppend (tVar 3) (tCons (tTup (tCons (tC (.int 0)) (tCons (tC (.int 1)) tNil))) tNil)))
    (tSeq (tAsg (tCall (sp__law_rounded K C_) [] E0 (tCons (tVar 0) (tCons (tVar 1) (tCons (tVar 2) tNil)))) (gName 5))
    (tRet (tAndV (tOp (rEqD K) (tLst (tCons (tFld K (tVar 4) "stretches") (tCons (tFld K (tVar 4) "top") tNil))) (tLst (tCons (tVar 1) (tCons (tVar 2) tNil)))) (tCall (sp__law_says05 K C_) [] E0 (tCons (tVar 4) (tCons (tVar 0) (tCons (tVar 5) tNil))))))))))
def N__law_more_right : List Str := ["_law_row_here", "_law_told", "_law_spun", "_law_place", "_law_top", "_law_rows", "_law_some", "_law_at", "_law_found", "_law_many", "_law_lifts"]
def rd__law_more_right (K : PySem.W.Frag) (C_ : CA) : TS :=
    (tSeq (tFor (iRng1 (tCons (tOp aSub (tCB aLenT (tCons (tVar 0) tNil)) (tC (.int 1))) tNil)) (gName 3) (tFor (iRng1 (tCons (tCB (aLenL K) (tCons (tFld K (tVar 1) "lifts") tNil)) tNil)) (gName 7) (tSeq (tAsg (tCall (sp__law_put K C_) [] E0 (tCons (tFld K (tVar 1) "lifts") (tCons (tVar 7) (tCons (tOp aAdd (tOp (rIxL K) (tFld K (tVar 1) "lifts") (tVar 7)) (tC (.int 2))) tNil)))) (gName 10))
    (tIfS (tNot (tB (tCall (sp__law_swapped_right K C_) [] E0 (tCons (tVar 0) (tCons (tOp rCat (tFld K (tVar 1) "places") (tLst (tCons (tVar 3) (tCons (tVar 3) tNil)))) (tCons (tVar 10) tNil)))))) (tRet (tC (.bl false))) tNext))))
    (tSeq (tPar 8 9 (tCons (tCall (sp__law_depths K C_) [] E0 (tCons (tVar 0) tNil)) (tCons (tCB aLenT (tCons (tVar 0) tNil)) tNil)))
    (tSeq (tAsg (tBM K "list" (aIndex K) (tVar 8) (tCons (tCB (rMax K) (tCons (tVar 8) tNil)) tNil)) (gName 4))
    (tSeq (tAsg (tLst (tCons (tLst (tCons (tTup (tCons (tC (.int 0)) (tCons (tVar 4) tNil))) (tCons (tTup (tCons (tVar 4) (tCons (tVar 9) tNil))) tNil))) (tCons (tLst (tCons (tTup (tCons (tC (.int 0)) (tCons (tC (.int 1)) tNil))) tNil)) (tCons (tLst (tCons (tTup (tCons (tC (.int 0)) (tCons (tC (.int 1)) tNil))) (tCons (tTup (tCons (tC (.int 0)) (tCons (tC (.int 1)) tNil))) tNil))) (tCons (tLst (tCons (tTup (tCons (tC (.int 0)) (tCons (tC (.int 2)) tNil))) (tCons (tTup (tCons (tC (.int 0)) (tCons (tC (.int 2)) tNil))) tNil))) (tCons (tOp rCat (tFld K (tVar 2) "stretches") (tLst (tCons (tTup (tCons (tC (.int 0)) (tCons (tC (.int 1)) tNil))) tNil))) tNil)))))) (gName 5))
    (tSeq (tFor (iList K (tVar 5)) (gName 6) (tFor (iList K (tOp rCat (tLst (tCons (tC .non) tNil)) (tLstRg (tRg1 (tOp aAdd (tVar 9) (tC (.int 1))))))) (gName 3) (tIfS (tNot (tB (tCall (sp__law_rounded_right K C_) [] E0 (tCons (tVar 0) (tCons (tVar 6) (tCons (tVar 3) tNil)))))) (tRet (tC (.bl false))) tNext)))
    (tRet (tC (.bl true))))))))
def N__law_even_right : List Str := ["_law_row_here", "_law_whole", "_law_places", "_law_lifts", "_law_rows", "_law_some", "_law_told", "_law_spun", "_law_stretches", "_law_many", "_law_at", "_law_top", "_law_first", "_law_behind", "_law_one", "_law_other"]
def rd__law_even_right (K : PySem.W.Frag) (C_ : CA) : TS :=
    (tSeq (tPar 6 7 (tCons (tCall (sp_swaps K C_) [] E0 (tCons (tVar 0) tNil)) (tCons (tCall (sp_rounds K C_) [] E0 (tCons (tVar 0) tNil)) tNil)))
    (tSeq (tIfS (tNot (tB (tCall (sp__law_more_right K C_) [] E0 (tCons (tVar 0) (tCons (tVar 6) (tCons (tVar 7) tNil)))))) (tRet (tC (.bl false))) tNext)
    (tSeq (tFor (iList K (tCall (sp__law_bent K C_) [] E0 (tCons (tFld K (tVar 6) "places") (tCons (tCB aLenT (tCons (tVar 0) tNil)) tNil)))) (gName 2) (tIfS (tNot (tB (tCall (sp__law_swapped_right K C_) [] E0 (tCons (tVar 0) (tCons (tVar 2) (tCons (tFld K (tVar 6) "lifts") tNil)))))) (tRet (tC (.bl false))) tNext))
    (tSeq (tFor (iList K (tCall (sp__law_bent K C_) [] E0 (tCons (tFld K (tVar 6) "lifts") (tCons (tC (.int 1)) tNil)))) (gName 3) (tIfS (tNot (tB (tCall (sp__law_swapped_right K C_) [] E0 (tCons (tVar 0) (tCons (tFld K (tVar 6) "places") (tCons (tVar 3) tNil)))))) (tRet (tC (.bl false))) tNext))
    (tSeq (tAsg (tTup (tCons (tFld K (tVar 7) "stretches") (tCons (tCB aLenT (tCons (tVar 0) tNil)) tNil))) (gTup K 2 (gCons (gName 8) (gCons (gName 9) gNil))))
    (tSeq (tAsg (tLst (tCons (tVar 8) (tCons (tLst tNil) (tCons (tRevL K (tVar 8)) (tCons (tOp rCat (tVar 8) (tSl (rSlL K) (tVar 8) tNoPart (tPart (tC (.int 1))))) (tCons (tSl (rSlL K) (tVar 8) tNoPart (tPart (tC (.int 1)))) (tCons (tOp rCat (tVar 8) (tLst (tCons (tTup (tCons (tC (.int 0)) (tCons (tVar 9) tNil))) tNil))) tNil))))))) (gName 4))
    (tSeq (tAsg (tOp rCat (tVar 4) (tLst (tCons (tLst (tCons (tTup (tCons (tC (.int 0)) (tCons (tVar 9) tNil))) tNil)) (tCons (tLst (tCons (tTup (tCons (tC (.int 0)) (tCons (tOp aDiv (tVar 9) (tC (.int 2))) tNil))) (tCons (tTup (tCons (tOp aDiv (tVar 9) (tC (.int 2))) (tCons (tVar 9) tNil))) tNil))) (tCons (tOp rCat (tVar 8) (tLst (tCons (tTup (tCons (tUn aNeg (tC (.int 1))) (tCons (tC (.int 1)) tNil))) tNil))) (tCons (tLst (tCons (tTup (tCons (tC (.int 1)) (tCons (tC (.int 1)) tNil))) tNil)) (tCons (tLst (tCons (tTup (tCons (tC (.int 2)) (tCons (tOp aPow (tC (.int 10)) (tC (.int 20))) tNil))) tNil)) tNil))))))) (gName 4))
    (tSeq (tFor (iEnum K (tCons (tVar 8) tNil)) (gTup K 2 (gCons (gName 10) (gCons (gTup K 2 (gCons (gName 12) (gCons (gName 13) gNil))) gNil))) (tFor (iList K (tLst (tCons (tTup (tCons (tOp aAdd (tVar 12) (tC (.int 1))) (tCons (tVar 13) tNil))) (tCons (tTup (tCons (tVar 12) (tCons (tOp aSub (tVar 13) (tC (.int 1))) tNil))) (tCons (tTup (tCons (tOp aSub (tVar 12) (tC (.int 1))) (tCons (tOp aAdd (tVar 13) (tC (.int 1))) tNil))) (tCons (tTup (tCons (tVar 13) (tCons (tVar 12) tNil))) tNil)))))) (gTup K 2 (gCons (gName 14) (gCons (gName 15) gNil))) (tDrop (tBM K "list" rAppend (tVar 4) (tCons (tCall (sp__law_put K C_) [] E0 (tCons (tVar 8) (tCons (tVar 10) (tCons (tTup (tCons (tVar 14) (tCons (tVar 15) tNil))) tNil)))) tNil)))))
    (tSeq (tFor (iList K (tVar 4)) (gName 5) (tFor (iList K (tLst (tCons (tFld K (tVar 7) "top") (tCons (tC .non) (tCons (tOp aMod (tVar 1) (tOp aAdd (tVar 9) (tC (.int 1)))) (tCons (tUn aNeg (tC (.int 1))) (tCons (tOp aPow (tC (.int 10)) (tC (.int 20))) tNil))))))) (gName 11) (tIfS (tNot (tB (tCall (sp__law_rounded_right K C_) [] E0 (tCons (tVar 0) (tCons (tVar 5) (tCons (tVar 11) tNil)))))) (tRet (tC (.bl false))) tNext)))
    (tRet (tCB (aAll K) (tCons (tLc (iRng2 (tCons (tUn aNeg (tC (.int 1))) (tCons (tOp aAdd (tVar 9) (tC (.int 2))) tNil))) (gName 11) tYes (tCall (sp__law_rounded_right K C_) [] E0 (tCons (tVar 0) (tCons (tVar 8) (tCons (tVar 11) tNil)))) [11]) tNil))))))))))))
def N_law05 : List Str := ["_law_script", "_law_whole", "_law_by", "_law_row_here", "_law_depth", "_law_told", "_law_places", "_law_some", "_law_built", "_law_cut"]
def rd_law05 (K : PySem.W.Frag) (C_ : CA) : TS :=
    (tSeq (tAsg (tCB aAbs (tCons (tCB (rSum K) (tCons (tSl (rSlL K) (tVar 0) tNoPart (tPart (tC (.int 63)))) tNil)) tNil)) (gName 1))
    (tSeq (tFor (iList K (tLst (tCons (tC (.int 0)) (tCons (tC (.int 1)) (tCons (tC (.int 2)) tNil))))) (gName 2) (tSeq (tAsg (tCall (sp__law_row K C_) [] E0 (tCons (tVar 0) (tCons (tVar 2) (tCons (tC (.int 12)) (tCons (tOp rEq (tVar 2) (tC (.int 0))) tNil))))) (gName 3))
    (tSeq (tIfS (tAnd (tTest (tOp rEq (tBM K "str" aCountT (tVar 3) (tCons (tC (.str (T [true]))) tNil)) (tBM K "str" aCountT (tVar 3) (tCons (tC (.str (T [false]))) tNil)))) (tNot (tB (tCall (sp__law_even_right K C_) [] E0 (tCons (tVar 3) (tCons (tOp aDiv (tVar 1) (tC (.int 3))) tNil)))))) (tRet (tC (.bl false))) tNext)
    (tSeq (tFor (iRng2 (tCons (tUn aNeg (tC (.int 13))) (tCons (tC (.int 14)) tNil))) (gName 4) (tSeq (tAsg (tMake C_.c_Uneven (sp_u_init K C_) [] E0 (tCons (tVar 4) tNil)) (gName 8))
    (tIfS (tOr (tTest (tOp rNe (tFld K (tVar 8) "depth") (tVar 4))) (tNot (tB (tCall (sp__law_says05 K C_) [] E0 (tCons (tVar 8) (tCons (tVar 3) (tCons (tCall (sp__law_uneven K C_) [] E0 (tCons (tVar 3) (tCons (tVar 4) tNil))) tNil))))))) (tRet (tC (.bl false))) tNext)))
    (tSeq (tIfS (tOr (tNot (tB (tCall (sp__law_says05 K C_) [] E0 (tCons (tMk0 C_.c_Odd) (tCons (tVar 3) (tCons (tOp rEq (tOp aMod (tCB aLenT (tCons (tVar 3) tNil)) (tC (.int 2))) (tC (.int 1))) tNil)))))) (tNot (tB (tCall (sp__law_says05 K C_) [] E0 (tCons (tMake C_.c_Uneven (sp_u_init K C_) [] E0 (tCons (tOp aPow (tC (.int 10)) (tC (.int 20))) tNil)) (tCons (tVar 3) (tCons (tC (.bl false)) tNil))))))) (tRet (tC (.bl false))) tNext)
    (tSeq (tAsg (tCall (sp_turns K C_) [] E0 (tCons (tVar 3) tNil)) (gName 5))
    (tSeq (tAsg (tIf (tB (tCB (aIsiC K C_.c_Turned) (tCons (tVar 5) (tCons (tC (.ref C_.c_Turned)) tNil)))) (tFld K (tVar 5) "places") (tLst (tCons (tC (.int 0)) tNil))) (gName 6))
    (tSeq (tFor (iList K (tCall (sp__law_bent K C_) [] E0 (tCons (tVar 6) (tCons (tCB aLenT (tCons (tVar 3) tNil)) tNil)))) (gName 7) (tFor (iList K (tLst (tCons (tIf (tB (tCB (aIsiC K C_.c_Turned) (tCons (tVar 5) (tCons (tC (.ref C_.c_Turned)) tNil)))) (tFld K (tVar 5) "cut") (tC (.int 0))) (tCons (tOp aMod (tVar 1) (tOp aAdd (tCB aLenT (tCons (tVar 3) tNil)) (tC (.int 1)))) (tCons (tUn aNeg (tC (.int 1))) (tCons (tOp aPow (tC (.int 10)) (tC (.int 20))) tNil)))))) (gName 9) (tIfS (tNot (tB (tCall (sp__law_turned_right K C_) [] E0 (tCons (tVar 3) (tCons (tVar 7) (tCons (tVar 9) tNil)))))) (tRet (tC (.bl false))) tNext)))
    (tIfS (tNot (tB (tCB (aAll K) (tCons (tLc (iRng2 (tCons (tUn aNeg (tC (.int 1))) (tCons (tOp aAdd (tCB aLenT (tCons (tVar 3) tNil)) (tC (.int 2))) tNil))) (gName 9) tYes (tCall (sp__law_turned_right K C_) [] E0 (tCons (tVar 3) (tCons (tVar 6) (tCons (tVar 9) tNil)))) [9]) tNil)))) (tRet (tC (.bl false))) tNext)))))))))
    (tSeq (tIfS (tTest (tOp aNotB (tMeth C_.c_Rounded "shows" (sp_r_shows K C_) [] E0 (tMake C_.c_Rounded (sp_r_init K C_) [] E0 (tCons (tLst (tCons (tTup (tCons (tC (.int 0)) (tCons (tC (.int 6)) tNil))) (tCons (tTup (tCons (tC (.int 6)) (tCons (tC (.int 12)) tNil))) tNil))) (tCons (tC (.int 6)) tNil))) (tCons (tC (.str (T [true, false, false, true, true, true, false, false, false, true, true, false]))) tNil)) (tC (.bl false)))) (tRet (tC (.bl false))) tNext)
    (tSeq (tIfS (tOr (tB (tMeth C_.c_Swapped "shows" (sp_s_shows K C_) [] E0 (tMake C_.c_Swapped (sp_s_init K C_) [] E0 (tCons (tOp rRep (tLst (tCons (tC (.int 0)) tNil)) (tC (.int 1001))) (tCons (tLst (tCons (tC (.int 0)) (tCons (tC (.int 1)) (tCons (tC (.int 0)) tNil)))) tNil))) (tCons (tC (.str (T [false, true]))) tNil))) (tB (tMeth C_.c_Turned "shows" (sp_t_shows K C_) [] E0 (tMake C_.c_Turned (sp_t_init K C_) [] E0 (tCons (tOp rRep (tLst (tCons (tC (.int 0)) (tCons (tC (.int 1)) tNil))) (tC (.int 3000))) (tCons (tC (.int 1)) tNil))) (tCons (tC (.str (T [false, true]))) tNil)))) (tRet (tC (.bl false))) tNext)
    (tSeq (tIfS (tOr (tB (tMeth C_.c_Rounded "shows" (sp_r_shows K C_) [] E0 (tMake C_.c_Rounded (sp_r_init K C_) [] E0 (tCons (tOp rRep (tLst (tCons (tTup (tCons (tC (.int 0)) (tCons (tC (.int 2)) tNil))) tNil)) (tC (.int 4001))) (tCons (tC .non) tNil))) (tCons (tC (.str (T [false, true]))) tNil))) (tB (tMeth C_.c_Swapped "shows" (sp_s_shows K C_) [] E0 (tMake C_.c_Swapped (sp_s_init K C_) [] E0 (tCons (tOp rRep (tLst (tCons (tC (.int 0)) tNil)) (tC (.int 1001))) (tCons (tLst (tCons (tC (.int 0)) (tCons (tC (.int 1001)) (tCons (tC (.int 0)) tNil)))) tNil))) (tCons (tC (.str (T [false, true]))) tNil)))) (tRet (tC (.bl false))) tNext)
    (tRet (tAndV (tOp aIsB (tMeth C_.c_Rounded "shows" (sp_r_shows K C_) [] E0 (tMake C_.c_Rounded (sp_r_init K C_) [] E0 (tCons (tLst (tCons (tTup (tCons (tC (.int 0)) (tCons (tC (.int 4)) tNil))) (tCons (tTup (tCons (tC (.int 4)) (tCons (tC (.int 8)) tNil))) tNil))) (tCons (tC (.int 4)) tNil))) (tCons (tC (.str (T [false, true, true, true, false, false, false, true]))) tNil)) (tC (.bl true))) (tOp aIsB (tMeth C_.c_Rounded "shows" (sp_r_shows K C_) [] E0 (tMake C_.c_Rounded (sp_r_init K C_) [] E0 (tCons (tLst (tCons (tTup (tCons (tC (.int 0)) (tCons (tC (.int 8)) tNil))) tNil)) (tCons (tC .non) tNil))) (tCons (tC (.str (T [false, true, true, true, false, false, false, true]))) tNil)) (tC (.bl false))))))))))
end BM
namespace BM
open PySem L2 Evl
local macro_rules | `(tactic| walk_at "mem") => `(tactic| first | exact List.mem_cons_self | (refine List.mem_cons_of_mem _ ?_; walk_at "mem"))
local macro_rules | `(tactic| walk_at "swap") => `(tactic| first | exact Swap.here | (apply Swap.there; walk_at "swap"))
local macro_rules | `(tactic| walk_at "subl") => `(tactic| first | exact List.Sublist.refl _ | exact List.nil_sublist _ | (refine List.Sublist.cons_cons _ ?_; walk_at "subl") | (refine List.Sublist.cons _ ?_; walk_at "subl"))
local macro_rules | `(tactic| walk_at "sub") => `(tactic| first | exact Sub.refl _ | (refine ⟨?_, ?_⟩ <;> walk_at "subl"))
local macro_rules | `(tactic| walk_at "isl") => `(tactic| first | exact isL_own (by walk_at "mem") | exact isL_old (by assumption) | assumption)
local macro_rules | `(tactic| walk_at "ist") => `(tactic| first | exact isT_own (by walk_at "mem") | exact isT_old (by assumption) | assumption)
local macro_rules | `(tactic| walk_at "len") => `(tactic| first | omega | decide | (simp only [List.length_map, List.length_take, List.length_drop, List.length_append, List.length_cons, List.length_nil, List.length_reverse, dps_len, flp_len]; omega) | (simp [dps_len, flp_len]; omega) | simp)
local macro_rules | `(tactic| walk_at "b0") => `(tactic| first
  | with_reducible refine' ws_set ?_
  | with_reducible refine' ws_par ?_
  | with_reducible refine' ws_asg ?_
  | with_reducible refine' ws_drop ?_
  | with_reducible refine' ws_ret ?_
  | with_reducible refine' ws_if ?_
  | with_reducible refine' ws_next ?_
  | with_reducible refine' ws_brk ?_
  | with_reducible refine' ws_cont ?_
  | ((with_reducible refine' we_var ?hv ?_); case hv => rfl)
  | with_reducible refine' we_c ?_
  | with_reducible refine' we_op ?_
  | with_reducible refine' we_un ?_
  | with_reducible refine' we_if ?_
  | with_reducible refine' we_and ?_
  | with_reducible refine' we_or ?_
  | with_reducible refine' we_not ?_
  | with_reducible refine' wa_nil ?_
  | with_reducible refine' wa_cons ?_
  | (with_reducible refine' we_lst ?_)
  | (with_reducible refine' we_tup ?_)
  | with_reducible refine' we_cb ?_
  | with_reducible refine' we_call0 ?_
  | with_reducible refine' we_sl ?_
  | with_reducible refine' wo_none ?_
  | (with_reducible refine' wo_some ?_)
  | with_reducible refine' wt_test ?_
  | with_reducible refine' wt_B ?_
  | with_reducible refine' wt_and ?_
  | with_reducible refine' wt_or ?_
  | with_reducible refine' wt_not ?_
  | with_reducible refine' wt_yes ?_
  | with_reducible refine' we_chain ?_
  | with_reducible refine' we_chain3 ?_
  | with_reducible refine' we_revT ?_
  | with_reducible refine' we_revL ?_
  | with_reducible refine' we_bm ?_
  | with_reducible refine' we_bm0 ?_
  | with_reducible refine' ws_for ?_
  | with_reducible refine' we_lc ?_
  | with_reducible refine' wi_list ?_
  | with_reducible refine' wi_tup ?_
  | with_reducible refine' wi_T ?_
  | with_reducible refine' wi_rng1 ?_
  | with_reducible refine' wi_rng2 ?_
  | with_reducible refine' wi_rng3 ?_
  | with_reducible refine' wi_enum ?_
  | with_reducible refine' wi_enumT ?_
  | with_reducible refine' wi_zip ?_
  | with_reducible refine' wg_name ?_
  | with_reducible refine' wg_sub ?_
  | with_reducible refine' wgs_nil ?_
  | with_reducible refine' wgs_cons ?_
  | ((with_reducible refine' wg_tup ?ht ?hn ?_); (case ht => walk_at "ist"); (case hn => rfl))
  | with_reducible refine' w2_add ?_
  | with_reducible refine' w2_sub ?_
  | with_reducible refine' w2_lt ?_
  | with_reducible refine' w2_le ?_
  | with_reducible refine' w2_gt ?_
  | with_reducible refine' w2_ge ?_
  | with_reducible refine' w2_eqI ?_
  | with_reducible refine' w2_neI ?_
  | with_reducible refine' w2_eqT ?_
  | with_reducible refine' w2_neT ?_
  | with_reducible refine' w2_eqB ?_
  | with_reducible refine' w2_neB ?_
  | with_reducible refine' w2_isN ?_
  | with_reducible refine' w2_notN ?_
  | with_reducible refine' w2_isB ?_
  | with_reducible refine' w2_inT ?_
  | with_reducible refine' w1_neg ?_
  | with_reducible refine' wl_abs ?_
  | with_reducible refine' wl_max2 ?_
  | with_reducible refine' wl_min2 ?_
  | with_reducible refine' wl_intB ?_
  | ((with_reducible refine' w2_div ?h ?_); case h => first | omega | (constructor <;> omega))
  | ((with_reducible refine' w2_mod ?h ?_); case h => omega)
  | ((with_reducible refine' w2_catT ?h ?_); case h => walk_at "len")
  | ((with_reducible refine' wsl_T ?h ?_); case h => walk_at "len")
  | ((with_reducible refine' wl_lenT ?h ?_); case h => walk_at "len")
  | ((with_reducible refine' wl_len ?h ?_); case h => walk_at "isl")
  | ((with_reducible refine' wl_len ?h ?_); case h => walk_at "isl")
  | ((with_reducible refine' wm_append ?sw ?hl ?_); (case sw => walk_at "swap"); (case hl => walk_at "len")))
local macro_rules | `(tactic| walk_at "b1") => `(tactic| first | with_reducible refine' ws_seq ?_ | walk_at "b0")
local macro_rules | `(tactic| walk_at "bx") => `(tactic| first
  | refine ⟨_, rfl, ?_⟩
  | refine ⟨_, _, rfl, ?_⟩
  | refine ⟨ty_L (by walk_at "isl"), ?_⟩
  | refine ⟨ty_S, ?_⟩
  | refine spl_t (by rfl) ?_
  | refine spl_f (by rfl) ?_
  | exact rfl)
local macro_rules | `(tactic| walk_at "bm") => `(tactic| repeat (first | walk_at "b1" | walk_at "bx"))
local macro_rules | `(tactic| walk_at "bn") => `(tactic| repeat (first | walk_at "b0" | walk_at "bx"))
local macro_rules | `(tactic| walk_at "b0") => `(tactic| with_reducible refine' c_deepens ?_)
local macro_rules | `(tactic| walk_at "b0") => `(tactic| ((with_reducible refine' c_depths_of ?hl ?_); (case hl => walk_at "len")))
local macro_rules | `(tactic| walk_at "b0") => `(tactic| with_reducible refine' c_is_wholeI ?_)
local macro_rules | `(tactic| walk_at "b0") => `(tactic| with_reducible refine' c_flipped ?_)
local macro_rules | `(tactic| walk_at "b0") => `(tactic| ((with_reducible refine' c_is_right_row ?hl ?_); (case hl => walk_at "len")))
local macro_rules | `(tactic| walk_at "b0") => `(tactic| ((with_reducible refine' c_asked_row ?hl ?_); (case hl => walk_at "len")))
local macro_rules | `(tactic| walk_at "b0") => `(tactic| ((with_reducible refine' c_depths ?hl ?_); (case hl => walk_at "len")))
local macro_rules | `(tactic| walk_at "b0") => `(tactic| ((with_reducible refine' c_is_right ?hl ?_); (case hl => walk_at "len")))
local macro_rules | `(tactic| walk_at "b0") => `(tactic| ((with_reducible refine' c__law_depths ?hl ?_); (case hl => walk_at "len")))
local macro_rules | `(tactic| walk_at "b0") => `(tactic| ((with_reducible refine' c__law_good ?hl ?_); (case hl => walk_at "len")))
local macro_rules | `(tactic| walk_at "b0") => `(tactic| ((with_reducible refine' wl_listOf ?hx ?_); (case hx => walk_at "isl")))
local macro_rules | `(tactic| walk_at "b0") => `(tactic| with_reducible refine' w2_notB ?_)
local macro_rules | `(tactic| walk_at "own") => `(tactic| exact own_l (by walk_at "mem"))
local macro_rules | `(tactic| walk_at "b0") => `(tactic| with_reducible refine' we_fld ?_)
local macro_rules | `(tactic| walk_at "b0") => `(tactic| refine ⟨_, _, _, _, _, rfl, own_l (by walk_at "mem"), Grw.cl (by assumption), Grw.nr (by assumption), by rfl, ?_⟩)
local macro_rules | `(tactic| walk_at "b0") => `(tactic| refine ⟨_, _, _, _, _, rfl, fun H' o => o.ex _ _ (by assumption), Grw.cl (by assumption), Grw.nr (by assumption), by rfl, ?_⟩)
local macro_rules | `(tactic| walk_at "b0") => `(tactic| with_reducible refine' we_meth ?_)
local macro_rules | `(tactic| walk_at "b0") => `(tactic| refine ⟨_, _, _, rfl, own_l (by walk_at "mem"), by rfl, ?_⟩)
local macro_rules | `(tactic| walk_at "b0") => `(tactic| refine ⟨_, _, _, rfl, fun H' o => o.ex _ _ (by assumption), by rfl, ?_⟩)
local macro_rules | `(tactic| walk_at "gown") => `(tactic| first | exact own_l (by walk_at "mem") | exact fun H' o => o.ex _ _ (by assumption))
local macro_rules | `(tactic| walk_at "b0") => `(tactic| with_reducible refine' wm_countT ?_)
local macro_rules | `(tactic| walk_at "b0") => `(tactic| with_reducible refine' we_methU ?_)
local macro_rules | `(tactic| walk_at "b0") => `(tactic| with_reducible refine' we_methN ?_)
theorem anc_answer {K : PySem.W.Frag} {C : CA} {H : Hp} {x : Addr} {f : List Bool → Bool} (hX : Ex05 K C) (hA : AnyAns K C H x f) : ∃ c, TyX K H (.ref x) (.ref c) ∧ PySem.W.kitOne K (.ref c) (.ref C.c_Answer) = some true := by
  rcases hA with ⟨d, z, h, _⟩ | ⟨d, h, _⟩ | ⟨d, a, b, ps, ls, h, _⟩ | ⟨d, a, z, ps, h, _⟩ | ⟨d, a, t, xs, ps, h, _⟩
  · exact ⟨_, hX.e2.u.c.ty h, hX.e2.ua⟩
  · exact ⟨_, hX.e3.o.ty h, hX.e3.oa⟩
  · exact ⟨_, hX.e2.s.c.ty h, hX.e2.sa⟩
  · exact ⟨_, hX.e3.t.c.ty h, hX.e3.ta⟩
  · exact ⟨_, hX.e4.r.c.ty h, hX.e4.ra⟩
theorem ln__law_says05 {K : PySem.W.Frag} {C : CA} {vs : List V} {H : Hp} {Q : VK} {E : XK} (h : sp__law_says05 K C vs H Q E) : vs.length = 3 := by
  obtain ⟨_, ⟨x, f, r, b, _, rfl, _⟩, _⟩ := h
  rfl
theorem pu__law_says05 {K : PySem.W.Frag} {C : CA} {vs : List V} {H : Hp} {Q : VK} {E : XK} (h : sp__law_says05 K C vs H Q E) : rd__law_says05 K C { nx := fun _ H' => Q .non H', rt := Q } (start N__law_says05 vs) H := by
  obtain ⟨_, ⟨x, f, r, b, hX, rfl, hA, hl, rfl⟩, k⟩ := h
  refine body_V ?_ k
  unfold rd__law_says05
  obtain ⟨c, hty, hk⟩ := anc_answer hX hA
  refine ws_cut (fun σ s => σ = [some (.ref x), some (.str (T r)), some (.bl b), some (.bl (f r))] ∧ s = ⟨[], []⟩) ?_ ?_
  · walk_at "bm"
    rcases hA with ⟨d, z, h, rfl⟩ | ⟨d, h, rfl⟩ | ⟨d, a, b2, ps, ls, h, ha, hb, rfl⟩ | ⟨d, a, z, ps, h, ha, hf, rfl⟩ | ⟨d, a, t, xs, ps, h, ha, hp, hpl, rfl⟩
    · refine ⟨x, C.c_Uneven, d, _, sp_u_shows K C, rfl, fun H' o => o.ex _ _ h, rfl, List.mem_cons_self, ?_⟩
      walk_at "bm"
      refine c_u_shows hX.e2.u (fun H' o => o.ex _ _ h) hl ?_
      exact ⟨_, Sub.refl _, rfl, rfl⟩
    · refine ⟨x, C.c_Odd, d, _, sp_o_shows K C, rfl, fun H' o => o.ex _ _ h, rfl, List.mem_cons_of_mem _ List.mem_cons_self, ?_⟩
      walk_at "bm"
      refine c_o_shows hl ?_
      exact ⟨_, Sub.refl _, rfl, rfl⟩
    · refine ⟨x, C.c_Swapped, d, _, sp_s_shows K C, rfl, fun H' o => o.ex _ _ h, rfl, List.mem_cons_of_mem _ (List.mem_cons_of_mem _ List.mem_cons_self), ?_⟩
      walk_at "bm"
      refine c_s_shows hX.e2.s (fun H' o => o.ex _ _ h) (isL_old ha) (isL_old hb) hl ?_
      exact ⟨_, Sub.refl _, rfl, rfl⟩
    · refine ⟨x, C.c_Turned, d, _, sp_t_shows K C, rfl, fun H' o => o.ex _ _ h, rfl, List.mem_cons_of_mem _ (List.mem_cons_of_mem _ (List.mem_cons_of_mem _ List.mem_cons_self)), ?_⟩
      walk_at "bm"
      refine c_t_shows hX.e3.t (fun H' o => o.ex _ _ h) (isL_old ha) hf hl ?_
      exact ⟨_, Sub.refl _, rfl, rfl⟩
    · refine ⟨x, C.c_Rounded, d, _, sp_r_shows K C, rfl, fun H' o => o.ex _ _ h, rfl, List.mem_cons_of_mem _ (List.mem_cons_of_mem _ (List.mem_cons_of_mem _ (List.mem_cons_of_mem _ List.mem_cons_self))), ?_⟩
      walk_at "bm"
      refine c_r_shows hX.e4.r (fun H' o => o.ex _ _ h) (isL_old ha) (fun H' o => hp.ex o.ex) hpl hl ?_
      exact ⟨_, Sub.refl _, rfl, rfl⟩
  rintro σ s ⟨rfl, rfl⟩
  walk_at "bm"
  refine wl_isi (tv := .type "bool") (b := true) (fun H' o => .base (.bl _)) (kit_ty (by decide +kernel)) ?_
  walk_at "bm"
  refine ⟨fun h2 => ?_, fun h2 => ?_⟩
  · walk_at "bm"
    refine wl_isiC (fun H' o => tyX_mono o.ex hty) hk ?_
    show V.bl _ = V.bl _
    rw [h2]
  · show V.bl _ = V.bl _
    rw [h2]
theorem c__law_says05 {K : PySem.W.Frag} {C : CA} {H0 : Hp} {s : Ld} {Q : V → Ld → Prop} {E : XK} {x : Addr} (f : List Bool → Bool) {r : List Bool} {b : Bool} (hX : Ex05 K C) (hA : ∀ H, Own H0 H s → AnyAns K C H x f) (hl : r.length ≤ 1000) (q : Q (.bl (decide (f r = b))) s) : WC H0 (sp__law_says05 K C) E [.ref x, .str (T r), .bl b] s Q := wc_V (fun H o => ⟨x, f, r, b, hX, rfl, hA H o, hl, rfl⟩) q
theorem ln__law_put {K : PySem.W.Frag} {C : CA} {vs : List V} {H : Hp} {Q : VK} {E : XK} (h : sp__law_put K C vs H Q E) : vs.length = 3 := by
  obtain ⟨_, ⟨a, xs, i, v, rfl, _⟩, _⟩ := h
  rfl
theorem pu__law_put {K : PySem.W.Frag} {C : CA} {vs : List V} {H : Hp} {Q : VK} {E : XK} (h : sp__law_put K C vs H Q E) : rd__law_put K C { nx := fun _ H' => Q .non H', rt := Q } (start N__law_put vs) H := by
  obtain ⟨_, ⟨a, xs, i, v, rfl, ha, hi, hl, rfl⟩, k⟩ := h
  refine body_L ?_ k
  unfold rd__law_put
  walk_at "bm"
  refine wsl_L (isL_old ha) fun p1 hp1 => ?_
  rw [cut_hi (by omega), Int.toNat_natCast]
  walk_at "bm"
  refine ⟨by simp, fun p2 hp2 => ?_⟩
  refine w2_cat (by walk_at "mem") (by walk_at "mem") (by rw [List.length_take]; simp; omega) fun p3 hp3 => ?_
  walk_at "bm"
  refine wsl_L (isL_old ha) fun p4 hp4 => ?_
  rw [cut_lo (by omega), show ((i : Int) + 1).toNat = i + 1 by omega]
  refine w2_cat (by walk_at "mem") (by walk_at "mem") (by rw [List.length_append, List.length_take, List.length_drop]; simp; omega) fun p5 hp5 => ?_
  exact ⟨p5, rfl, List.mem_cons_self⟩
theorem c__law_put {K : PySem.W.Frag} {C : CA} {H0 : Hp} {s : Ld} {Q : V → Ld → Prop} {E : XK} {a : Addr} {xs : List V} {i : Nat} {v : V} (ha : IsL K H0 s a xs) (hi : i < xs.length) (hl : xs.length ≤ 1000) (q : ∀ p, H0 p = none → Q (.ref p) ⟨(p, .lst (xs.take i ++ [v] ++ xs.drop (i + 1))) :: s.L, s.T⟩) : WC H0 (sp__law_put K C) E [.ref a, .int (i : Int), v] s Q := wc_L (fun H o => ⟨a, xs, i, v, rfl, ha H o, hi, hl, rfl⟩) q
theorem ln__law_swapped_right {K : PySem.W.Frag} {C : CA} {vs : List V} {H : Hp} {Q : VK} {E : XK} (h : sp__law_swapped_right K C vs H Q E) : vs.length = 3 := by
  obtain ⟨_, ⟨r, a, b, ps, ls, _, rfl, _⟩, _⟩ := h
  rfl
theorem pu__law_swapped_right {K : PySem.W.Frag} {C : CA} {vs : List V} {H : Hp} {Q : VK} {E : XK} (h : sp__law_swapped_right K C vs H Q E) : rd__law_swapped_right K C { nx := fun _ H' => Q .non H', rt := Q } (start N__law_swapped_right vs) H := by
  obtain ⟨_, ⟨r, a, b, ps, ls, hX, rfl, ha, hb, hps, hls, hl, rfl⟩, k⟩ := h
  refine body_V ?_ k
  unfold rd__law_swapped_right
  refine ws_cut (fun σ s => ∃ p h1 h2, σ = [some (.str (T r)), some (.ref a), some (.ref b), some (.ref p), none] ∧ s = ⟨[(p, .lst [.ref h1, .ref h2]), (h2, .lst (ls.map V.int)), (h1, .lst (ps.map V.int))], []⟩) ?_ ?_
  · walk_at "bm"
    intro h1 hh1
    walk_at "bm"
    intro h2 hh2
    walk_at "bm"
    refine ⟨by simp, fun p hp => ?_⟩
    exact ⟨_, Sub.refl _, p, h1, h2, rfl, rfl⟩
  rintro σ s ⟨p, h1, h2, rfl, rfl⟩
  refine ws_cut (fun σ s => ∃ x d a2 b2, σ = [some (.str (T r)), some (.ref a), some (.ref b), some (.ref p), some (.ref x)] ∧ s = ⟨[(b2, .lst (ls.map V.int)), (a2, .lst (ps.map V.int)), (x, sIns C d a2 b2), (p, .lst [.ref h1, .ref h2]), (h2, .lst (ls.map V.int)), (h1, .lst (ps.map V.int))], []⟩) ?_ ?_
  · walk_at "bm"
    refine we_swapped hX.e2.s ?_
    walk_at "bm"
    refine w2_ixL (by walk_at "isl") (atI_of (by decide) rfl) ?_
    walk_at "bm"
    refine w2_ixL (by walk_at "isl") (atI_of (by decide) rfl) ?_
    walk_at "bm"
    refine ⟨h1, h2, ps, ls, rfl, by walk_at "mem", by walk_at "mem", fun x d a2 b2 hx ha2 hb2 => ?_⟩
    exact ⟨_, by walk_at "sub", x, d, a2, b2, rfl, rfl⟩
  rintro σ s ⟨x, d, a2, b2, rfl, rfl⟩
  refine ws_seq ?_
  walk_at "bn"
  refine w2_ixL (by walk_at "isl") (atI_of (by decide) rfl) ?_
  walk_at "bn"
  refine ws_seq ?_
  walk_at "bn"
  refine w2_ixL (by walk_at "isl") (atI_of (by decide) rfl) ?_
  walk_at "bn"
  refine ⟨_, _, _, _, _, rfl, own_l (by walk_at "mem"), hX.e2.s.c.cl, hX.e2.s.np, rfl, ?_⟩
  walk_at "bn"
  refine ⟨_, _, _, _, _, rfl, own_l (by walk_at "mem"), hX.e2.s.c.cl, hX.e2.s.nl, rfl, ?_⟩
  walk_at "bn"
  refine ⟨by simp, fun q1 hq1 => ?_⟩
  walk_at "bn"
  refine ⟨by simp, fun q2 hq2 => ?_⟩
  refine w2_eq2 (by walk_at "isl") (by walk_at "isl") (dl_ints (ns := ps) (isL_own (by walk_at "mem"))) (dl_ints (ns := ls) (isL_own (by walk_at "mem"))) (dl_ints (isL_old ha)) (dl_ints (isL_old hb)) (lay_ints _) (lay_ints _) (eqv_ints _) (eqv_ints _) ?_
  walk_at "bn"
  refine c__law_swapped (isL_old ha) (isL_old hb) hl ?_
  walk_at "bn"
  refine c__law_says05 (fun r => swSh r ps ls) hX (fun H' o => .inr (.inr (.inl ⟨d, a2, b2, ps, ls, own_l (by walk_at "mem") H' o, isL_own (by walk_at "mem") H' o, isL_own (by walk_at "mem") H' o, rfl⟩))) hl ?_
  show V.bl _ = V.bl _
  simp
theorem c__law_swapped_right {K : PySem.W.Frag} {C : CA} {H0 : Hp} {s : Ld} {Q : V → Ld → Prop} {E : XK} {r : List Bool} {a b : Addr} {ps ls : List Int} (hX : Ex05 K C) (ha : IsL K H0 s a (ps.map V.int)) (hb : IsL K H0 s b (ls.map V.int)) (h1 : ps.length ≤ 3000) (h2 : ls.length ≤ 3000) (hl : r.length ≤ 1000) (q : Q (.bl true) s) : WC H0 (sp__law_swapped_right K C) E [.str (T r), .ref a, .ref b] s Q := wc_V (fun H o => ⟨r, a, b, ps, ls, hX, rfl, ha H o, hb H o, h1, h2, hl, rfl⟩) q
theorem ln__law_turned_right {K : PySem.W.Frag} {C : CA} {vs : List V} {H : Hp} {Q : VK} {E : XK} (h : sp__law_turned_right K C vs H Q E) : vs.length = 3 := by
  obtain ⟨_, ⟨r, a, ps, z, _, rfl, _⟩, _⟩ := h
  rfl
theorem pu__law_turned_right {K : PySem.W.Frag} {C : CA} {vs : List V} {H : Hp} {Q : VK} {E : XK} (h : sp__law_turned_right K C vs H Q E) : rd__law_turned_right K C { nx := fun _ H' => Q .non H', rt := Q } (start N__law_turned_right vs) H := by
  obtain ⟨_, ⟨r, a, ps, z, hX, rfl, ha, hps, hl, rfl⟩, k⟩ := h
  refine body_V ?_ k
  unfold rd__law_turned_right
  refine ws_cut (fun σ s => ∃ h1, σ = [some (.str (T r)), some (.ref a), some (.int z), some (.ref h1), none] ∧ s = ⟨[(h1, .lst (ps.map V.int))], []⟩) ?_ ?_
  · walk_at "bm"
    intro h1 hh1
    exact ⟨_, Sub.refl _, h1, rfl, rfl⟩
  rintro σ s ⟨h1, rfl, rfl⟩
  refine ws_cut (fun σ s => ∃ x d a2, σ = [some (.str (T r)), some (.ref a), some (.int z), some (.ref h1), some (.ref x)] ∧ s = ⟨[(a2, .lst (ps.map V.int)), (x, tIns C d a2 z), (h1, .lst (ps.map V.int))], []⟩) ?_ ?_
  · walk_at "bm"
    refine we_turned hX.e3.t ?_
    walk_at "bm"
    refine ⟨h1, ps, z, rfl, by walk_at "mem", fun x d a2 hx ha2 => ?_⟩
    exact ⟨_, by walk_at "sub", x, d, a2, rfl, rfl⟩
  rintro σ s ⟨x, d, a2, rfl, rfl⟩
  refine ws_seq ?_
  walk_at "bn"
  refine ⟨_, _, _, _, _, rfl, own_l (by walk_at "mem"), hX.e3.t.c.cl, hX.e3.t.np, rfl, ?_⟩
  walk_at "bn"
  refine ⟨_, _, _, _, _, rfl, own_l (by walk_at "mem"), hX.e3.t.c.cl, hX.e3.t.nc, rfl, ?_⟩
  walk_at "bn"
  refine ⟨by simp, fun q1 hq1 => ?_⟩
  walk_at "bn"
  refine ⟨by simp, fun q2 hq2 => ?_⟩
  refine w2_eq2 (b := .int z) (by walk_at "isl") (by walk_at "isl") (dl_ints (ns := ps) (isL_own (by walk_at "mem"))) (fun H' o => .int z) (dl_ints (isL_old ha)) (fun H' o => .int z) (lay_ints _) ⟨rfl, by simp [PyData.depth]⟩ (eqv_ints _) (by simp [PyData.eqv]) ?_
  walk_at "bn"
  refine c__law_turned (isL_old ha) (few_of (by omega)) hl ?_
  walk_at "bn"
  refine c__law_says05 (fun r => tnSh r ps z) hX (fun H' o => .inr (.inr (.inr (.inl ⟨d, a2, z, ps, own_l (by walk_at "mem") H' o, isL_own (by walk_at "mem") H' o, few_of (by omega), rfl⟩)))) hl ?_
  show V.bl _ = V.bl _
  simp
theorem c__law_turned_right {K : PySem.W.Frag} {C : CA} {H0 : Hp} {s : Ld} {Q : V → Ld → Prop} {E : XK} {r : List Bool} {a : Addr} {ps : List Int} {z : Int} (hX : Ex05 K C) (ha : IsL K H0 s a (ps.map V.int)) (h1 : ps.length ≤ 3000) (hl : r.length ≤ 1000) (q : Q (.bl true) s) : WC H0 (sp__law_turned_right K C) E [.str (T r), .ref a, .int z] s Q := wc_V (fun H o => ⟨r, a, ps, z, hX, rfl, ha H o, h1, hl, rfl⟩) q
theorem ln__law_rounded_right {K : PySem.W.Frag} {C : CA} {vs : List V} {H : Hp} {Q : VK} {E : XK} (h : sp__law_rounded_right K C vs H Q E) : vs.length = 3 := by
  obtain ⟨_, ⟨r, a, xs, t, _, rfl, _⟩, _⟩ := h
  rfl
theorem pu__law_rounded_right {K : PySem.W.Frag} {C : CA} {vs : List V} {H : Hp} {Q : VK} {E : XK} (h : sp__law_rounded_right K C vs H Q E) : rd__law_rounded_right K C { nx := fun _ H' => Q .non H', rt := Q } (start N__law_rounded_right vs) H := by
  obtain ⟨_, ⟨r, a, xs, t, hX, rfl, ha, ⟨ps, hp⟩, hxs, hl, rfl⟩, k⟩ := h
  have hlen : xs.length = ps.length := Paired.length hp
  refine body_V ?_ k
  unfold rd__law_rounded_right
  refine ws_cut (fun σ s => ∃ h1, σ = [some (.str (T r)), some (.ref a), some (tpV t), some (.ref h1), none, none] ∧ s = ⟨[(h1, .lst xs)], []⟩) ?_ ?_
  · walk_at "bm"
    intro h1 hh1
    exact ⟨_, Sub.refl _, h1, rfl, rfl⟩
  rintro σ s ⟨h1, rfl, rfl⟩
  refine ws_cut (fun σ s => ∃ x d a2, σ = [some (.str (T r)), some (.ref a), some (tpV t), some (.ref h1), some (.ref x), none] ∧ s = ⟨[(a2, .lst xs), (x, rIns C d a2 t), (h1, .lst xs)], []⟩) ?_ ?_
  · walk_at "bm"
    refine we_rounded hX.e4.r ?_
    walk_at "bm"
    refine ⟨h1, xs, t, rfl, by walk_at "mem", fun x d a2 hx ha2 => ?_⟩
    exact ⟨_, by walk_at "sub", x, d, a2, rfl, rfl⟩
  rintro σ s ⟨x, d, a2, rfl, rfl⟩
  refine ws_seq ?_
  walk_at "bn"
  refine ⟨by simp, fun q0 hq0 => ?_⟩
  walk_at "bn"
  refine ws_seq ?_
  walk_at "bn"
  refine c__law_rounded (isL_old ha) (fun H' o => hp.ex o.ex) (by omega) hl ?_
  walk_at "bn"
  refine ⟨_, _, _, _, _, rfl, own_l (by walk_at "mem"), hX.e4.r.c.cl, hX.e4.r.ns, rfl, ?_⟩
  walk_at "bn"
  refine ⟨_, _, _, _, tpV t, rfl, own_l (by walk_at "mem"), hX.e4.r.c.cl, hX.e4.r.nt, rfl, ?_⟩
  walk_at "bn"
  refine ⟨by simp, fun q1 hq1 => ?_⟩
  walk_at "bn"
  refine ⟨by simp, fun q2 hq2 => ?_⟩
  have lt := lay_top t
  refine w2_eq2 (a := .list (ps.map pairD)) (b := topD t) (by walk_at "isl") (by walk_at "isl") (fun H' o => dp_pairs (isL_own (by walk_at "mem") H' o) (hp.ex o.ex).inn) (fun H' o => dp_top t) (fun H' o => dp_pairs (isL_old ha H' o) (hp.ex o.ex).inn) (fun H' o => dp_top t) (lay_prs _) ⟨lt.1, lt.2.1⟩ (eqv_prs _) lt.2.2 ?_
  walk_at "bn"
  refine c__law_says05 (fun r => rnSh r ps t) hX (fun H' o => .inr (.inr (.inr (.inr ⟨d, a2, t, xs, ps, own_l (by walk_at "mem") H' o, isL_own (by walk_at "mem") H' o, hp.ex o.ex, by omega, rfl⟩)))) hl ?_
  show V.bl _ = V.bl _
  simp
theorem c__law_rounded_right {K : PySem.W.Frag} {C : CA} {H0 : Hp} {s : Ld} {Q : V → Ld → Prop} {E : XK} {r : List Bool} {a : Addr} {xs : List V} (t : Option Int) (hX : Ex05 K C) (ha : IsL K H0 s a xs) (hp : ∀ H, Own H0 H s → ∃ ps, PrT H xs ps) (h1 : xs.length ≤ 3000) (hl : r.length ≤ 1000) (q : Q (.bl true) s) : WC H0 (sp__law_rounded_right K C) E [.str (T r), .ref a, tpV t] s Q := wc_V (fun H o => ⟨r, a, xs, t, hX, rfl, ha H o, hp H o, h1, hl, rfl⟩) q
end BM
namespace BM
open PySem L2 Evl
local macro_rules | `(tactic| walk_at "mem") => `(tactic| first | exact List.mem_cons_self | (refine List.mem_cons_of_mem _ ?_; walk_at "mem"))
local macro_rules | `(tactic| walk_at "swap") => `(tactic| first | exact Swap.here | (apply Swap.there; walk_at "swap"))
local macro_rules | `(tactic| walk_at "subl") => `(tactic| first | exact List.Sublist.refl _ | exact List.nil_sublist _ | (refine List.Sublist.cons_cons _ ?_; walk_at "subl") | (refine List.Sublist.cons _ ?_; walk_at "subl"))
local macro_rules | `(tactic| walk_at "sub") => `(tactic| first | exact Sub.refl _ | (refine ⟨?_, ?_⟩ <;> walk_at "subl"))
local macro_rules | `(tactic| walk_at "isl") => `(tactic| first | exact isL_own (by walk_at "mem") | exact isL_old (by assumption) | assumption)
local macro_rules | `(tactic| walk_at "ist") => `(tactic| first | exact isT_own (by walk_at "mem") | exact isT_old (by assumption) | assumption)
local macro_rules | `(tactic| walk_at "len") => `(tactic| first | omega | decide | (simp only [List.length_map, List.length_take, List.length_drop, List.length_append, List.length_cons, List.length_nil, List.length_reverse, dps_len, flp_len]; omega) | (simp [dps_len, flp_len]; omega) | simp)
local macro_rules | `(tactic| walk_at "b0") => `(tactic| first
  | with_reducible refine' ws_set ?_
  | with_reducible refine' ws_par ?_
  | with_reducible refine' ws_asg ?_
  | with_reducible refine' ws_drop ?_
  | with_reducible refine' ws_ret ?_
  | with_reducible refine' ws_if ?_
  | with_reducible refine' ws_next ?_
  | with_reducible refine' ws_brk ?_
  | with_reducible refine' ws_cont ?_
  | ((with_reducible refine' we_var ?hv ?_); case hv => rfl)
  | with_reducible refine' we_c ?_
  | with_reducible refine' we_op ?_
  | with_reducible refine' we_un ?_
  | with_reducible refine' we_if ?_
  | with_reducible refine' we_and ?_
  | with_reducible refine' we_or ?_
  | with_reducible refine' we_not ?_
  | with_reducible refine' wa_nil ?_
  | with_reducible refine' wa_cons ?_
  | (with_reducible refine' we_lst ?_)
  | (with_reducible refine' we_tup ?_)
  | with_reducible refine' we_cb ?_
  | with_reducible refine' we_call0 ?_
  | with_reducible refine' we_sl ?_
  | with_reducible refine' wo_none ?_
  | (with_reducible refine' wo_some ?_)
  | with_reducible refine' wt_test ?_
  | with_reducible refine' wt_B ?_
  | with_reducible refine' wt_and ?_
  | with_reducible refine' wt_or ?_
  | with_reducible refine' wt_not ?_
  | with_reducible refine' wt_yes ?_
  | with_reducible refine' we_chain ?_
  | with_reducible refine' we_chain3 ?_
  | with_reducible refine' we_revT ?_
  | with_reducible refine' we_revL ?_
  | with_reducible refine' we_bm ?_
  | with_reducible refine' we_bm0 ?_
  | with_reducible refine' ws_for ?_
  | with_reducible refine' we_lc ?_
  | with_reducible refine' wi_list ?_
  | with_reducible refine' wi_tup ?_
  | with_reducible refine' wi_T ?_
  | with_reducible refine' wi_rng1 ?_
  | with_reducible refine' wi_rng2 ?_
  | with_reducible refine' wi_rng3 ?_
  | with_reducible refine' wi_enum ?_
  | with_reducible refine' wi_enumT ?_
  | with_reducible refine' wi_zip ?_
  | with_reducible refine' wg_name ?_
  | with_reducible refine' wg_sub ?_
  | with_reducible refine' wgs_nil ?_
  | with_reducible refine' wgs_cons ?_
  | ((with_reducible refine' wg_tup ?ht ?hn ?_); (case ht => walk_at "ist"); (case hn => rfl))
  | with_reducible refine' w2_add ?_
  | with_reducible refine' w2_sub ?_
  | with_reducible refine' w2_lt ?_
  | with_reducible refine' w2_le ?_
  | with_reducible refine' w2_gt ?_
  | with_reducible refine' w2_ge ?_
  | with_reducible refine' w2_eqI ?_
  | with_reducible refine' w2_neI ?_
  | with_reducible refine' w2_eqT ?_
  | with_reducible refine' w2_neT ?_
  | with_reducible refine' w2_eqB ?_
  | with_reducible refine' w2_neB ?_
  | with_reducible refine' w2_isN ?_
  | with_reducible refine' w2_notN ?_
  | with_reducible refine' w2_isB ?_
  | with_reducible refine' w2_inT ?_
  | with_reducible refine' w1_neg ?_
  | with_reducible refine' wl_abs ?_
  | with_reducible refine' wl_max2 ?_
  | with_reducible refine' wl_min2 ?_
  | with_reducible refine' wl_intB ?_
  | ((with_reducible refine' w2_div ?h ?_); case h => first | omega | (constructor <;> omega))
  | ((with_reducible refine' w2_mod ?h ?_); case h => omega)
  | ((with_reducible refine' w2_catT ?h ?_); case h => walk_at "len")
  | ((with_reducible refine' wsl_T ?h ?_); case h => walk_at "len")
  | ((with_reducible refine' wl_lenT ?h ?_); case h => walk_at "len")
  | ((with_reducible refine' wl_len ?h ?_); case h => walk_at "isl")
  | ((with_reducible refine' wl_len ?h ?_); case h => walk_at "isl")
  | ((with_reducible refine' wm_append ?sw ?hl ?_); (case sw => walk_at "swap"); (case hl => walk_at "len")))
local macro_rules | `(tactic| walk_at "b1") => `(tactic| first | with_reducible refine' ws_seq ?_ | walk_at "b0")
local macro_rules | `(tactic| walk_at "bx") => `(tactic| first
  | refine ⟨_, rfl, ?_⟩
  | refine ⟨_, _, rfl, ?_⟩
  | refine ⟨ty_L (by walk_at "isl"), ?_⟩
  | refine ⟨ty_S, ?_⟩
  | refine spl_t (by rfl) ?_
  | refine spl_f (by rfl) ?_
  | exact rfl)
local macro_rules | `(tactic| walk_at "bm") => `(tactic| repeat (first | walk_at "b1" | walk_at "bx"))
local macro_rules | `(tactic| walk_at "bn") => `(tactic| repeat (first | walk_at "b0" | walk_at "bx"))
local macro_rules | `(tactic| walk_at "b0") => `(tactic| with_reducible refine' c_deepens ?_)
local macro_rules | `(tactic| walk_at "b0") => `(tactic| ((with_reducible refine' c_depths_of ?hl ?_); (case hl => walk_at "len")))
local macro_rules | `(tactic| walk_at "b0") => `(tactic| with_reducible refine' c_is_wholeI ?_)
local macro_rules | `(tactic| walk_at "b0") => `(tactic| with_reducible refine' c_flipped ?_)
local macro_rules | `(tactic| walk_at "b0") => `(tactic| ((with_reducible refine' c_is_right_row ?hl ?_); (case hl => walk_at "len")))
local macro_rules | `(tactic| walk_at "b0") => `(tactic| ((with_reducible refine' c_asked_row ?hl ?_); (case hl => walk_at "len")))
local macro_rules | `(tactic| walk_at "b0") => `(tactic| ((with_reducible refine' c_depths ?hl ?_); (case hl => walk_at "len")))
local macro_rules | `(tactic| walk_at "b0") => `(tactic| ((with_reducible refine' c_is_right ?hl ?_); (case hl => walk_at "len")))
local macro_rules | `(tactic| walk_at "b0") => `(tactic| ((with_reducible refine' c__law_depths ?hl ?_); (case hl => walk_at "len")))
local macro_rules | `(tactic| walk_at "b0") => `(tactic| ((with_reducible refine' c__law_good ?hl ?_); (case hl => walk_at "len")))
local macro_rules | `(tactic| walk_at "b0") => `(tactic| ((with_reducible refine' wl_listOf ?hx ?_); (case hx => walk_at "isl")))
local macro_rules | `(tactic| walk_at "b0") => `(tactic| with_reducible refine' w2_notB ?_)
local macro_rules | `(tactic| walk_at "own") => `(tactic| exact own_l (by walk_at "mem"))
local macro_rules | `(tactic| walk_at "b0") => `(tactic| with_reducible refine' we_fld ?_)
local macro_rules | `(tactic| walk_at "b0") => `(tactic| refine ⟨_, _, _, _, _, rfl, own_l (by walk_at "mem"), Grw.cl (by assumption), Grw.nr (by assumption), by rfl, ?_⟩)
local macro_rules | `(tactic| walk_at "b0") => `(tactic| refine ⟨_, _, _, _, _, rfl, fun H' o => o.ex _ _ (by assumption), Grw.cl (by assumption), Grw.nr (by assumption), by rfl, ?_⟩)
local macro_rules | `(tactic| walk_at "b0") => `(tactic| with_reducible refine' we_meth ?_)
local macro_rules | `(tactic| walk_at "b0") => `(tactic| refine ⟨_, _, _, rfl, own_l (by walk_at "mem"), by rfl, ?_⟩)
local macro_rules | `(tactic| walk_at "b0") => `(tactic| refine ⟨_, _, _, rfl, fun H' o => o.ex _ _ (by assumption), by rfl, ?_⟩)
local macro_rules | `(tactic| walk_at "gown") => `(tactic| first | exact own_l (by walk_at "mem") | exact fun H' o => o.ex _ _ (by assumption))
local macro_rules | `(tactic| walk_at "b0") => `(tactic| with_reducible refine' wm_countT ?_)
local macro_rules | `(tactic| walk_at "b0") => `(tactic| with_reducible refine' we_methU ?_)
theorem cut_map {α β : Type} (f : α → β) (xs : List α) (lo hi : Option Int) : cutL (xs.map f) lo hi = (cutL xs lo hi).map f := by
  unfold cutL
  rw [List.length_map, List.map_take, List.map_drop]
theorem cut_len {α : Type} (xs : List α) (lo hi : Option Int) : (cutL xs lo hi).length ≤ xs.length := by
  unfold cutL
  rw [List.length_take, List.length_drop]
  omega
theorem cut_sub {α : Type} {xs : List α} {lo hi : Option Int} {x : α} (h : x ∈ cutL xs lo hi) : x ∈ xs := List.mem_of_mem_drop (List.mem_of_mem_take h)
/-- a list of lists: each is new or stood before, and is so -/
def RowsG (O : Addr → List V → Prop) (f : Addr) (xs : List V) (s : Ld) (G : List (Addr × List V) → List V → Prop) : Prop := (f, HO.lst xs) ∈ s.L ∧ ∀ x ∈ xs, ∃ u ys, x = V.ref u ∧ G s.T ys ∧ (((u, HO.lst ys) ∈ s.L ∧ u ≠ f) ∨ O u ys)
theorem RowsG.app {O : Addr → List V → Prop} {f p : Addr} {xs ys : List V} {s s1 : Ld} {L' : List (Addr × HO)} {G : List (Addr × List V) → List V → Prop} (hG : ∀ ys, G s.T ys → G s1.T ys) (h : RowsG O f xs s G) (hs : ∀ e ∈ s.L, e ∈ s1.L) (hm : (p, HO.lst ys) ∈ s1.L) (hne : p ≠ f) (hy : G s1.T ys) (h1 : (f, HO.lst (xs ++ [.ref p])) ∈ L') (h2 : ∀ e ∈ s1.L, e.1 ≠ f → e ∈ L') : RowsG O f (xs ++ [.ref p]) ⟨L', s1.T⟩ G := by
  refine ⟨h1, fun x hx => ?_⟩
  rcases List.mem_append.mp hx with hx | hx
  · obtain ⟨u, zs, rfl, hg, hh⟩ := h.2 x hx
    exact ⟨u, zs, rfl, hG _ hg, hh.imp (fun ⟨a, b⟩ => ⟨h2 _ (hs _ a) b, b⟩) id⟩
  · rw [List.mem_singleton.mp hx]
    exact ⟨p, ys, rfl, hy, .inl ⟨h2 _ hm hne, hne⟩⟩
/-- the new list's place is no other -/
theorem new_ne {p f : Addr} {o o' : HO} {L : List (Addr × HO)} (nd : (((p, o) :: L).map (·.1)).Nodup) (h : (f, o') ∈ L) : p ≠ f := fun e => (List.nodup_cons.mp nd).1 (by rw [e]; exact List.mem_map.mpr ⟨_, h, rfl⟩)
def IntG (n : Nat) (_ : List (Addr × List V)) (ys : List V) : Prop := ∃ ms : List Int, ys = ms.map V.int ∧ ms.length ≤ n
local macro_rules | `(tactic| walk_at "mem") => `(tactic| assumption)
theorem ln__law_bent {K : PySem.W.Frag} {C : CA} {vs : List V} {H : Hp} {Q : VK} {E : XK} (h : sp__law_bent K C vs H Q E) : vs.length = 2 := by
  obtain ⟨a, ns, m, rfl, _⟩ := h
  rfl
theorem pu__law_bent {K : PySem.W.Frag} {C : CA} {vs : List V} {H : Hp} {Q : VK} {E : XK} (h : sp__law_bent K C vs H Q E) : rd__law_bent K C { nx := fun _ H' => Q .non H', rt := Q } (start N__law_bent vs) H := by
  obtain ⟨a, ns, m, rfl, ha0, hn, k⟩ := h
  have ha : SqL K H a (ns.map V.int) := sq_of ha0
  refine body_K (P := fun v s => ∃ f xs, v = .ref f ∧ RowsG (fun u ys => u = a ∧ ys = ns.map V.int) f xs s (IntG (ns.length + 1)) ∧ xs.length ≤ 2000) ?_ ?_
  · unfold rd__law_bent
    refine ws_cut (fun σ s => ∃ f xs L, σ = [some (.ref a), some (.int m), some (.ref f), none, none] ∧ s = ⟨(f, .lst xs) :: L, []⟩ ∧ xs.length = 9 ∧ ∀ x ∈ xs, ∃ (u : Addr) (ms : List Int), x = V.ref u ∧ ms.length ≤ ns.length + 1 ∧ ((u, HO.lst (ms.map V.int)) ∈ L ∨ (u = a ∧ ms = ns))) ?_ ?_
    · walk_at "bm"
      refine wsl_L (isL_old ha) fun p1 hp1 => ?_
      rw [cut_map]
      walk_at "bm"
      refine wsl_L (isL_old ha) fun p2 hp2 => ?_
      rw [cut_map]
      walk_at "bm"
      refine wsl_L (isL_old ha) fun p3 hp3 => ?_
      rw [cut_map]
      refine w2_catO (fun H' o => o.ex _ _ ha0) (own_l (by walk_at "mem")) (by have := cut_len ns (some (-1)) none; simp only [List.length_map]; omega) fun p4 hp4 => ?_
      rw [← List.map_append]
      walk_at "bm"
      refine ⟨a, _, rfl, isL_old ha, fun p5 hp5 => ?_⟩
      rw [← List.map_reverse]
      walk_at "bm"
      refine ⟨by simp, fun p6 hp6 => ?_⟩
      walk_at "bm"
      refine ⟨by simp, fun p7 hp7 => ?_⟩
      refine w2_catO (fun H' o => o.ex _ _ ha0) (own_l (by walk_at "mem")) (by simp; omega) fun p8 hp8 => ?_
      rw [show (ns.map V.int ++ [V.int m]) = (ns ++ [m]).map V.int by rw [List.map_append]; rfl]
      walk_at "bm"
      refine ⟨by simp, fun p9 hp9 => ?_⟩
      refine w2_catO (fun H' o => o.ex _ _ ha0) (own_l (by walk_at "mem")) (by simp; omega) fun p10 hp10 => ?_
      rw [show (ns.map V.int ++ [V.int (-1)]) = (ns ++ [-1]).map V.int by rw [List.map_append]; rfl]
      walk_at "bm"
      refine w2_pow ⟨by decide, by decide, by decide⟩ ?_
      obtain ⟨big, hbig⟩ : ∃ big : Int, (10 : Int) ^ (20 : Int).toNat = big := ⟨_, rfl⟩
      rw [hbig]
      walk_at "bm"
      refine ⟨by simp, fun p11 hp11 => ?_⟩
      refine w2_catO (fun H' o => o.ex _ _ ha0) (own_l (by walk_at "mem")) (by simp; omega) fun p12 hp12 => ?_
      rw [show (ns.map V.int ++ [V.int big]) = (ns ++ [big]).map V.int by rw [List.map_append]; rfl]
      walk_at "bm"
      refine ⟨by simp, fun f hf => ?_⟩
      refine ⟨_, Sub.refl _, f, _, _, rfl, rfl, rfl, fun x hx => ?_⟩
      have c1 := cut_len ns (some 1) none
      have c2 := cut_len ns none (some (-1))
      simp only [List.mem_cons, List.not_mem_nil, or_false] at hx
      rcases hx with rfl | rfl | rfl | rfl | rfl | rfl | rfl | rfl | rfl
      · exact ⟨a, ns, rfl, by omega, .inr ⟨rfl, rfl⟩⟩
      · exact ⟨p1, cutL ns (some 1) none, rfl, by omega, .inl (by walk_at "mem")⟩
      · exact ⟨p2, cutL ns none (some (-1)), rfl, by omega, .inl (by walk_at "mem")⟩
      · refine ⟨p4, ns ++ cutL ns (some (-1)) none, rfl, ?_, .inl (by walk_at "mem")⟩
        rw [List.length_append]
        have : (cutL ns (some (-1)) none).length ≤ 1 := by
          unfold cutL HT.sIx
          simp only [List.length_take, List.length_drop]
          split <;> omega
        omega
      · exact ⟨p5, ns.reverse, rfl, by rw [List.length_reverse]; omega, .inl (by walk_at "mem")⟩
      · exact ⟨p6, [], rfl, by simp, .inl (by walk_at "mem")⟩
      · exact ⟨p8, ns ++ [m], rfl, by simp, .inl (by walk_at "mem")⟩
      · exact ⟨p10, ns ++ [-1], rfl, by simp, .inl (by walk_at "mem")⟩
      · exact ⟨p12, ns ++ [big], rfl, by simp, .inl (by walk_at "mem")⟩
    rintro σ s ⟨f, xs, L, rfl, rfl, hxl, hxs⟩
    refine ws_nd fun nd => ?_
    have hR0 : RowsG (fun u ys => u = a ∧ ys = ns.map V.int) f xs ⟨(f, .lst xs) :: L, []⟩ (IntG (ns.length + 1)) := ⟨List.mem_cons_self, fun x hx => by
      obtain ⟨u, ms, rfl, h1, h2⟩ := hxs x hx
      refine ⟨u, ms.map V.int, rfl, ⟨ms, rfl, h1⟩, ?_⟩
      rcases h2 with h2 | ⟨rfl, rfl⟩
      · exact .inl ⟨List.mem_cons_of_mem _ h2, (new_ne nd h2).symm⟩
      · exact .inr ⟨rfl, rfl⟩⟩
    refine ws_cut (fun σ s => ∃ xs x3 x4, σ = [some (.ref a), some (.int m), some (.ref f), x3, x4] ∧ RowsG (fun u ys => u = a ∧ ys = ns.map V.int) f xs s (IntG (ns.length + 1)) ∧ xs.length ≤ 2000) ?_ ?_
    · walk_at "bm"
      refine ⟨by rw [List.length_map]; omega, ?_⟩
      rw [List.length_map]
      refine lp_rng (fun i σ s => ∃ xs x3 x4, σ = [some (.ref a), some (.int m), some (.ref f), x3, x4] ∧ RowsG (fun u ys => u = a ∧ ys = ns.map V.int) f xs s (IntG (ns.length + 1)) ∧ xs.length = 9 + 3 * i) ⟨xs, none, none, rfl, hR0, by omega⟩ ?_ (fun σ s ⟨xs, x3, x4, e1, e2, e3⟩ => ⟨_, Sub.refl _, xs, x3, x4, e1, e2, by rw [Int.toNat_natCast] at e3; omega⟩)
      rintro i σ s hi ⟨xs, x3, x4, rfl, hR, hxl⟩
      rw [Int.toNat_natCast] at hi
      rw [show ((0 : Int) + (i : Int)) = (i : Int) by omega]
      obtain ⟨z, hz⟩ := get_some (r := ns) hi
      refine wg_name ?_
      walk_at "bm"
      refine w2_pow ⟨by decide, by decide, by decide⟩ ?_
      obtain ⟨big, hbig⟩ : ∃ big : Int, (10 : Int) ^ (20 : Int).toNat = big := ⟨_, rfl⟩
      rw [hbig]
      walk_at "bm"
      refine ⟨by simp, fun tp htp => ?_⟩
      refine ⟨tp, rfl, ⟨_, isT_own List.mem_cons_self⟩, ?_⟩
      refine lp_tup (xs := [1, -1, big].map V.int) (n := 3) (fun j σ s => ∃ xs x4, σ = [some (.ref a), some (.int m), some (.ref f), some (.int (i : Int)), x4] ∧ RowsG (fun u ys => u = a ∧ ys = ns.map V.int) f xs s (IntG (ns.length + 1)) ∧ xs.length = 9 + 3 * i + j ∧ (tp, [1, -1, big].map V.int) ∈ s.T) rfl ⟨xs, x4, rfl, hR, hxl, List.mem_cons_self⟩ (fun j σ s hj ⟨_, _, _, _, _, e⟩ => isT_own e) ?_ (fun σ s ⟨xs, x4, e1, e2, e3, _⟩ => ⟨_, Sub.refl _, xs, _, x4, e1, e2, by omega⟩)
      rintro j y σ s hj hy ⟨xs, x4, rfl, hR, hxl, hT⟩
      obtain ⟨d, hd, rfl⟩ := getI hy
      have hfm := hR.1
      refine wg_name ?_
      refine ws_drop (we_bm (we_var rfl ⟨ty_L (isL_own hfm), ?_⟩))
      walk_at "bm"
      refine w2_ixL (isL_old ha) (atI_of (by omega) (by rw [Int.toNat_natCast, List.getElem?_map, hz]; rfl)) ?_
      walk_at "bm"
      refine c__law_put (isL_old ha) (by rw [List.length_map]; exact hi) (by rw [List.length_map]; omega) fun p hp => ?_
      rw [show (List.take i (ns.map V.int) ++ [V.int (z + d)] ++ List.drop (i + 1) (ns.map V.int)) = (ns.take i ++ [z + d] ++ ns.drop (i + 1)).map V.int by rw [List.map_append, List.map_append, List.map_take, List.map_drop]; rfl]
      walk_at "bm"
      refine wm_app (xs := xs) (List.mem_cons_of_mem _ hfm) (by omega) fun L' nd h1 h2 => ?_
      refine ⟨_, Sub.refl _, xs ++ [.ref p], _, rfl, RowsG.app (s := s) (s1 := ⟨(p, .lst ((ns.take i ++ [z + d] ++ ns.drop (i + 1)).map V.int)) :: s.L, s.T⟩) (fun _ h => h) hR (fun e he => List.mem_cons_of_mem _ he) List.mem_cons_self (new_ne nd hfm) ⟨_, rfl, ?_⟩ h1 h2, by rw [List.length_append, hxl]; rfl, hT⟩
      simp only [List.length_append, List.length_take, List.length_drop, List.length_cons, List.length_nil]
      omega
    rintro σ s ⟨xs, x3, x4, rfl, hR, hxl⟩
    walk_at "bm"
    exact ⟨f, xs, rfl, hR, hxl⟩
  · rintro v H' s w ⟨f, xs, rfl, hR, hxl⟩
    refine k f H' s xs w hR.1 (fun x hx => ?_) hxl
    obtain ⟨u, ys, rfl, ⟨ms, rfl, hm⟩, hh⟩ := hR.2 x hx
    rcases hh with h | ⟨rfl, h⟩
    · exact ⟨u, ms, rfl, hm, .inl h.1⟩
    · exact ⟨u, ns, rfl, by omega, .inr ⟨rfl, rfl⟩⟩
/-- a list of lists of numbers -/
def IsLL (K : PySem.W.Frag) (H0 : Hp) (s : Ld) (n : Nat) (xs : List V) : Prop := ∀ x ∈ xs, ∃ (u : Addr) (ms : List Int), x = V.ref u ∧ ms.length ≤ n ∧ IsL K H0 s u (ms.map V.int)
theorem c__law_bent {K : PySem.W.Frag} {C : CA} {H0 : Hp} {s : Ld} {Q : V → Ld → Prop} {E : XK} {a : Addr} {ns : List Int} {m : Int} (ha : ∀ H, Own H0 H s → H a = some (.lst (ns.map V.int))) (hn : ns.length ≤ 500) (q : ∀ (p : Addr) (s' : Ld) (xs : List V), (p, HO.lst xs) ∈ s'.L → IsLL K H0 ⟨s'.L ++ s.L, s'.T ++ s.T⟩ (ns.length + 1) xs → xs.length ≤ 2000 → Q (.ref p) ⟨s'.L ++ s.L, s'.T ++ s.T⟩) : WC H0 (sp__law_bent K C) E [.ref a, .int m] s Q := fun H o R k => by
  refine ⟨a, ns, m, rfl, ha H o, hn, fun p H' s' xs w h1 h2 h3 => ?_⟩
  refine k _ _ _ (o.comp w) (q p s' xs h1 (fun x hx => ?_) h3)
  obtain ⟨u, ms, rfl, hm, hh⟩ := h2 x hx
  refine ⟨u, ms, rfl, hm, ?_⟩
  rcases hh with h | ⟨rfl, rfl⟩
  · exact isL_own (List.mem_append_left _ h)
  · exact fun H2 o2 => sq_of (ha H2 (o2.dropL (List.sublist_append_right _ _) (List.subset_append_right _ _)))
end BM
namespace BM
open PySem L2 Evl
local macro_rules | `(tactic| walk_at "mem") => `(tactic| first | exact List.mem_cons_self | (refine List.mem_cons_of_mem _ ?_; walk_at "mem"))
local macro_rules | `(tactic| walk_at "swap") => `(tactic| first | exact Swap.here | (apply Swap.there; walk_at "swap"))
local macro_rules | `(tactic| walk_at "subl") => `(tactic| first | exact List.Sublist.refl _ | exact List.nil_sublist _ | (refine List.Sublist.cons_cons _ ?_; walk_at "subl") | (refine List.Sublist.cons _ ?_; walk_at "subl"))
local macro_rules | `(tactic| walk_at "sub") => `(tactic| first | exact Sub.refl _ | (refine ⟨?_, ?_⟩ <;> walk_at "subl"))
local macro_rules | `(tactic| walk_at "isl") => `(tactic| first | exact isL_own (by walk_at "mem") | exact isL_old (by assumption) | assumption)
local macro_rules | `(tactic| walk_at "ist") => `(tactic| first | exact isT_own (by walk_at "mem") | exact isT_old (by assumption) | assumption)
local macro_rules | `(tactic| walk_at "len") => `(tactic| first | omega | decide | (simp only [List.length_map, List.length_take, List.length_drop, List.length_append, List.length_cons, List.length_nil, List.length_reverse, dps_len, flp_len]; omega) | (simp [dps_len, flp_len]; omega) | simp)
local macro_rules | `(tactic| walk_at "b0") => `(tactic| first
  | with_reducible refine' ws_set ?_
  | with_reducible refine' ws_par ?_
  | with_reducible refine' ws_asg ?_
  | with_reducible refine' ws_drop ?_
  | with_reducible refine' ws_ret ?_
  | with_reducible refine' ws_if ?_
  | with_reducible refine' ws_next ?_
  | with_reducible refine' ws_brk ?_
  | with_reducible refine' ws_cont ?_
  | ((with_reducible refine' we_var ?hv ?_); case hv => rfl)
  | with_reducible refine' we_c ?_
  | with_reducible refine' we_op ?_
  | with_reducible refine' we_un ?_
  | with_reducible refine' we_if ?_
  | with_reducible refine' we_and ?_
  | with_reducible refine' we_or ?_
  | with_reducible refine' we_not ?_
  | with_reducible refine' wa_nil ?_
  | with_reducible refine' wa_cons ?_
  | (with_reducible refine' we_lst ?_)
  | (with_reducible refine' we_tup ?_)
  | with_reducible refine' we_cb ?_
  | with_reducible refine' we_call0 ?_
  | with_reducible refine' we_sl ?_
  | with_reducible refine' wo_none ?_
  | (with_reducible refine' wo_some ?_)
  | with_reducible refine' wt_test ?_
  | with_reducible refine' wt_B ?_
  | with_reducible refine' wt_and ?_
  | with_reducible refine' wt_or ?_
  | with_reducible refine' wt_not ?_
  | with_reducible refine' wt_yes ?_
  | with_reducible refine' we_chain ?_
  | with_reducible refine' we_chain3 ?_
  | with_reducible refine' we_revT ?_
  | with_reducible refine' we_revL ?_
  | with_reducible refine' we_bm ?_
  | with_reducible refine' we_bm0 ?_
  | with_reducible refine' ws_for ?_
  | with_reducible refine' we_lc ?_
  | with_reducible refine' wi_list ?_
  | with_reducible refine' wi_tup ?_
  | with_reducible refine' wi_T ?_
  | with_reducible refine' wi_rng1 ?_
  | with_reducible refine' wi_rng2 ?_
  | with_reducible refine' wi_rng3 ?_
  | with_reducible refine' wi_enum ?_
  | with_reducible refine' wi_enumT ?_
  | with_reducible refine' wi_zip ?_
  | with_reducible refine' wg_name ?_
  | with_reducible refine' wg_sub ?_
  | with_reducible refine' wgs_nil ?_
  | with_reducible refine' wgs_cons ?_
  | ((with_reducible refine' wg_tup ?ht ?hn ?_); (case ht => walk_at "ist"); (case hn => rfl))
  | with_reducible refine' w2_add ?_
  | with_reducible refine' w2_sub ?_
  | with_reducible refine' w2_lt ?_
  | with_reducible refine' w2_le ?_
  | with_reducible refine' w2_gt ?_
  | with_reducible refine' w2_ge ?_
  | with_reducible refine' w2_eqI ?_
  | with_reducible refine' w2_neI ?_
  | with_reducible refine' w2_eqT ?_
  | with_reducible refine' w2_neT ?_
  | with_reducible refine' w2_eqB ?_
  | with_reducible refine' w2_neB ?_
  | with_reducible refine' w2_isN ?_
  | with_reducible refine' w2_notN ?_
  | with_reducible refine' w2_isB ?_
  | with_reducible refine' w2_inT ?_
  | with_reducible refine' w1_neg ?_
  | with_reducible refine' wl_abs ?_
  | with_reducible refine' wl_max2 ?_
  | with_reducible refine' wl_min2 ?_
  | with_reducible refine' wl_intB ?_
  | ((with_reducible refine' w2_div ?h ?_); case h => first | omega | (constructor <;> omega))
  | ((with_reducible refine' w2_mod ?h ?_); case h => omega)
  | ((with_reducible refine' w2_catT ?h ?_); case h => walk_at "len")
  | ((with_reducible refine' wsl_T ?h ?_); case h => walk_at "len")
  | ((with_reducible refine' wl_lenT ?h ?_); case h => walk_at "len")
  | ((with_reducible refine' wl_len ?h ?_); case h => walk_at "isl")
  | ((with_reducible refine' wl_len ?h ?_); case h => walk_at "isl")
  | ((with_reducible refine' wm_append ?sw ?hl ?_); (case sw => walk_at "swap"); (case hl => walk_at "len")))
local macro_rules | `(tactic| walk_at "b1") => `(tactic| first | with_reducible refine' ws_seq ?_ | walk_at "b0")
local macro_rules | `(tactic| walk_at "bx") => `(tactic| first
  | refine ⟨_, rfl, ?_⟩
  | refine ⟨_, _, rfl, ?_⟩
  | refine ⟨ty_L (by walk_at "isl"), ?_⟩
  | refine ⟨ty_S, ?_⟩
  | refine spl_t (by rfl) ?_
  | refine spl_f (by rfl) ?_
  | exact rfl)
local macro_rules | `(tactic| walk_at "bm") => `(tactic| repeat (first | walk_at "b1" | walk_at "bx"))
local macro_rules | `(tactic| walk_at "bn") => `(tactic| repeat (first | walk_at "b0" | walk_at "bx"))
local macro_rules | `(tactic| walk_at "b0") => `(tactic| with_reducible refine' c_deepens ?_)
local macro_rules | `(tactic| walk_at "b0") => `(tactic| ((with_reducible refine' c_depths_of ?hl ?_); (case hl => walk_at "len")))
local macro_rules | `(tactic| walk_at "b0") => `(tactic| with_reducible refine' c_is_wholeI ?_)
local macro_rules | `(tactic| walk_at "b0") => `(tactic| with_reducible refine' c_flipped ?_)
local macro_rules | `(tactic| walk_at "b0") => `(tactic| ((with_reducible refine' c_is_right_row ?hl ?_); (case hl => walk_at "len")))
local macro_rules | `(tactic| walk_at "b0") => `(tactic| ((with_reducible refine' c_asked_row ?hl ?_); (case hl => walk_at "len")))
local macro_rules | `(tactic| walk_at "b0") => `(tactic| ((with_reducible refine' c_depths ?hl ?_); (case hl => walk_at "len")))
local macro_rules | `(tactic| walk_at "b0") => `(tactic| ((with_reducible refine' c_is_right ?hl ?_); (case hl => walk_at "len")))
local macro_rules | `(tactic| walk_at "b0") => `(tactic| ((with_reducible refine' c__law_depths ?hl ?_); (case hl => walk_at "len")))
local macro_rules | `(tactic| walk_at "b0") => `(tactic| ((with_reducible refine' c__law_good ?hl ?_); (case hl => walk_at "len")))
local macro_rules | `(tactic| walk_at "b0") => `(tactic| ((with_reducible refine' wl_listOf ?hx ?_); (case hx => walk_at "isl")))
local macro_rules | `(tactic| walk_at "b0") => `(tactic| with_reducible refine' w2_notB ?_)
local macro_rules | `(tactic| walk_at "own") => `(tactic| exact own_l (by walk_at "mem"))
local macro_rules | `(tactic| walk_at "b0") => `(tactic| with_reducible refine' we_fld ?_)
local macro_rules | `(tactic| walk_at "b0") => `(tactic| refine ⟨_, _, _, _, _, rfl, own_l (by walk_at "mem"), Grw.cl (by assumption), Grw.nr (by assumption), by rfl, ?_⟩)
local macro_rules | `(tactic| walk_at "b0") => `(tactic| refine ⟨_, _, _, _, _, rfl, fun H' o => o.ex _ _ (by assumption), Grw.cl (by assumption), Grw.nr (by assumption), by rfl, ?_⟩)
local macro_rules | `(tactic| walk_at "b0") => `(tactic| with_reducible refine' we_meth ?_)
local macro_rules | `(tactic| walk_at "b0") => `(tactic| refine ⟨_, _, _, rfl, own_l (by walk_at "mem"), by rfl, ?_⟩)
local macro_rules | `(tactic| walk_at "b0") => `(tactic| refine ⟨_, _, _, rfl, fun H' o => o.ex _ _ (by assumption), by rfl, ?_⟩)
local macro_rules | `(tactic| walk_at "gown") => `(tactic| first | exact own_l (by walk_at "mem") | exact fun H' o => o.ex _ _ (by assumption))
local macro_rules | `(tactic| walk_at "b0") => `(tactic| with_reducible refine' wm_countT ?_)
local macro_rules | `(tactic| walk_at "b0") => `(tactic| with_reducible refine' we_methU ?_)
local macro_rules | `(tactic| walk_at "mem") => `(tactic| assumption)
/-- each is a pair, new or from before -/
def PM (H : Hp) (T : List (Addr × List V)) (xs : List V) : Prop := ∀ x ∈ xs, ∃ (t : Addr) (i j : Int), x = V.ref t ∧ ((t, [V.int i, V.int j]) ∈ T ∨ H t = some (.tup [V.int i, V.int j]))
theorem PM.pr {H H2 : Hp} {s : Ld} {xs : List V} (w : Own H H2 s) (h : PM H s.T xs) : ∃ ps, PrT H2 xs ps := by
  induction xs with
  | nil => exact ⟨[], .nil⟩
  | cons x xs ih =>
    obtain ⟨ps, hp⟩ := ih fun y hy => h y (List.mem_cons_of_mem _ hy)
    obtain ⟨t, i, j, rfl, ht⟩ := h x List.mem_cons_self
    refine ⟨(i, j) :: ps, .cons ⟨t, rfl, ?_⟩ hp⟩
    rcases ht with ht | ht
    · exact w.tp _ ht
    · exact w.ex _ _ ht
theorem PM.of {H : Hp} {T : List (Addr × List V)} {xs : List V} {ps : List (Int × Int)} (h : PrT H xs ps) : PM H T xs := by
  unfold PrT at h
  induction h with
  | nil => exact fun x hx => by cases hx
  | cons r t ih =>
    intro x hx
    rcases List.mem_cons.mp hx with rfl | hx
    · obtain ⟨t, e, ht⟩ := r
      exact ⟨t, _, _, e, .inr ht⟩
    · exact ih x hx
theorem PM.sub {H : Hp} {T T' : List (Addr × List V)} {xs ys : List V} (h : PM H T xs) (hy : ∀ y ∈ ys, y ∈ xs) (hT : T ⊆ T') : PM H T' ys := fun y h1 => by
  obtain ⟨t, i, j, e, ht⟩ := h y (hy y h1)
  exact ⟨t, i, j, e, ht.imp (fun h => hT h) id⟩
theorem PM.app {H : Hp} {T : List (Addr × List V)} {xs ys : List V} (h1 : PM H T xs) (h2 : PM H T ys) : PM H T (xs ++ ys) := fun y hy => by
  rcases List.mem_append.mp hy with h | h
  · exact h1 y h
  · exact h2 y h
theorem PM.nil {H : Hp} {T : List (Addr × List V)} : PM H T [] := fun y hy => by cases hy
theorem PM.cons {H : Hp} {T : List (Addr × List V)} {t : Addr} {i j : Int} {xs : List V} (h : (t, [V.int i, V.int j]) ∈ T) (r : PM H T xs) : PM H T (.ref t :: xs) := fun y hy => by
  rcases List.mem_cons.mp hy with rfl | hy
  · exact ⟨t, i, j, rfl, .inl h⟩
  · exact r y hy
def PrG (H : Hp) (n : Nat) (T : List (Addr × List V)) (ys : List V) : Prop := PM H T ys ∧ ys.length ≤ n
/-- behind: what stands in the list of lists -/
theorem rows_fix {K : PySem.W.Frag} {H H2 : Hp} {s : Ld} {f : Addr} {xs : List V} {n : Nat} (w : Own H H2 s) (h : RowsG (fun u ys => H u = some (.lst ys)) f xs s (PrG H n)) : H2 f = some (.lst xs) ∧ ∀ x ∈ xs, ∃ (u : Addr) (ys : List V), x = V.ref u ∧ ys.length ≤ n ∧ H2 u = some (.lst ys) ∧ ∃ ps, PrT H2 ys ps := by
  refine ⟨(w.own _ h.1).2, fun x hx => ?_⟩
  obtain ⟨u, ys, e, ⟨h1, h2⟩, h3⟩ := h.2 x hx
  refine ⟨u, ys, e, h2, ?_, h1.pr w⟩
  rcases h3 with h3 | h3
  · exact (w.own _ h3.1).2
  · exact w.ex _ _ h3
/-- a list of lists, as it was written -/
def RowsN (H : Hp) (xs : List V) (L : List (Addr × HO)) (T : List (Addr × List V)) (n : Nat) : Prop := ∀ x ∈ xs, ∃ (u : Addr) (ys : List V), x = V.ref u ∧ PrG H n T ys ∧ ((u, HO.lst ys) ∈ L ∨ H u = some (.lst ys))
theorem RowsN.g {H : Hp} {f : Addr} {xs : List V} {L : List (Addr × HO)} {T : List (Addr × List V)} {n : Nat} (nd : (((f, HO.lst xs) :: L).map (·.1)).Nodup) (h : RowsN H xs L T n) : RowsG (fun u ys => H u = some (.lst ys)) f xs ⟨(f, .lst xs) :: L, T⟩ (PrG H n) := ⟨List.mem_cons_self, fun x hx => by
  obtain ⟨u, ys, e, hg, hh⟩ := h x hx
  exact ⟨u, ys, e, hg, hh.imp (fun h => ⟨List.mem_cons_of_mem _ h, (new_ne nd h).symm⟩) id⟩⟩
theorem RowsN.nil {H : Hp} {L : List (Addr × HO)} {T : List (Addr × List V)} {n : Nat} : RowsN H [] L T n := fun x hx => by cases hx
theorem RowsN.cons {H : Hp} {L : List (Addr × HO)} {T : List (Addr × List V)} {n : Nat} {u : Addr} {ys xs : List V} (h1 : (u, HO.lst ys) ∈ L ∨ H u = some (.lst ys)) (h2 : PM H T ys) (h3 : ys.length ≤ n) (r : RowsN H xs L T n) : RowsN H (.ref u :: xs) L T n := fun x hx => by
  rcases List.mem_cons.mp hx with rfl | hx
  · exact ⟨u, ys, rfl, ⟨h2, h3⟩, h1⟩
  · exact r x hx
theorem ln__law_more_right {K : PySem.W.Frag} {C : CA} {vs : List V} {H : Hp} {Q : VK} {E : XK} (h : sp__law_more_right K C vs H Q E) : vs.length = 3 := by
  obtain ⟨_, ⟨r, x, y, dx, dy, a, b, c, ps, ls, xs, t, _, rfl, _⟩, _⟩ := h
  rfl
theorem opt_of_rg {n : Int} {i : Nat} {y : V} (h : ([V.non] ++ rgV 0 n)[i]? = some y) : ∃ t, y = tpV t := by
  have hm := List.mem_of_getElem? h
  rcases List.mem_append.mp hm with h | h
  · exact ⟨none, List.mem_singleton.mp h⟩
  · unfold rgV at h
    obtain ⟨j, _, e⟩ := List.mem_map.mp h
    exact ⟨some (0 + (j : Int)), e.symm⟩
theorem pu__law_more_right {K : PySem.W.Frag} {C : CA} {vs : List V} {H : Hp} {Q : VK} {E : XK} (h : sp__law_more_right K C vs H Q E) : rd__law_more_right K C { nx := fun _ H' => Q .non H', rt := Q } (start N__law_more_right vs) H := by
  obtain ⟨_, ⟨r, x, y, dx, dy, a, b, c, ps, ls, xs, t, hX, rfl, hx, ha, hb, hy, hc, ⟨qs, hq⟩, hps, hls, hxs, hl, rfl⟩, k⟩ := h
  refine body_V ?_ k
  unfold rd__law_more_right
  refine ws_cut (fun σ s => ∃ x3 x7 x10, σ = [some (.str (T r)), some (.ref x), some (.ref y), x3, none, none, none, x7, none, none, x10] ∧ s = ⟨[], []⟩) ?_ ?_
  · walk_at "bm"
    refine ⟨by omega, ?_⟩
    refine lp_rng (fun i σ s => ∃ x3 x7 x10, σ = [some (.str (T r)), some (.ref x), some (.ref y), x3, none, none, none, x7, none, none, x10] ∧ s = ⟨[], []⟩) ⟨none, none, none, rfl, rfl⟩ ?_ (fun σ s ⟨x3, x7, x10, e1, e2⟩ => ⟨_, Sub.refl _, x3, x7, x10, e1, e2⟩)
    rintro i σ s hi ⟨x3, x7, x10, rfl, rfl⟩
    refine wg_name ?_
    walk_at "bm"
    refine ⟨_, _, _, _, _, rfl, fun H' o => o.ex _ _ hx, hX.e2.s.c.cl, hX.e2.s.nl, rfl, ?_⟩
    refine wa_nil (wl_len (isL_old (sq_of hb)) ?_)
    rw [List.length_map]
    walk_at "bm"
    refine ⟨by omega, ?_⟩
    refine lp_rng (fun j σ s => ∃ x7 x10, σ = [some (.str (T r)), some (.ref x), some (.ref y), some (.int (0 + (i : Int))), none, none, none, x7, none, none, x10] ∧ s = ⟨[], []⟩) ⟨x7, x10, rfl, rfl⟩ ?_ (fun σ s ⟨x7, x10, e1, e2⟩ => ⟨_, Sub.refl _, _, x7, x10, e1, e2⟩)
    rintro j σ s hj ⟨x7, x10, rfl, rfl⟩
    rw [Int.toNat_natCast] at hj
    obtain ⟨z, hz⟩ := get_some (r := ls) hj
    rw [show ((0 : Int) + (j : Int)) = (j : Int) by omega]
    refine wg_name ?_
    walk_at "bm"
    refine ⟨_, _, _, _, _, rfl, fun H' o => o.ex _ _ hx, hX.e2.s.c.cl, hX.e2.s.nl, rfl, ?_⟩
    walk_at "bm"
    refine ⟨_, _, _, _, _, rfl, fun H' o => o.ex _ _ hx, hX.e2.s.c.cl, hX.e2.s.nl, rfl, ?_⟩
    walk_at "bm"
    refine w2_ixL (isL_old (sq_of hb)) (atI_of (by omega) (by rw [Int.toNat_natCast, List.getElem?_map, hz]; rfl)) ?_
    walk_at "bm"
    refine c__law_put (isL_old (sq_of hb)) (by rw [List.length_map]; exact hj) (by rw [List.length_map]; omega) fun p hp => ?_
    rw [show (List.take j (ls.map V.int) ++ [V.int (z + 2)] ++ List.drop (j + 1) (ls.map V.int)) = (ls.take j ++ [z + 2] ++ ls.drop (j + 1)).map V.int by rw [List.map_append, List.map_append, List.map_take, List.map_drop]; rfl]
    walk_at "bm"
    refine ⟨_, _, _, _, _, rfl, fun H' o => o.ex _ _ hx, hX.e2.s.c.cl, hX.e2.s.np, rfl, ?_⟩
    walk_at "bm"
    refine ⟨by simp, fun p2 hp2 => ?_⟩
    refine w2_catO (fun H' o => o.ex _ _ ha) (own_l (by walk_at "mem")) (by simp; omega) fun p3 hp3 => ?_
    rw [show (ps.map V.int ++ [V.int (0 + (i : Int)), V.int (0 + (i : Int))]) = (ps ++ [0 + (i : Int), 0 + (i : Int)]).map V.int by rw [List.map_append]; rfl]
    walk_at "bm"
    refine c__law_swapped_right hX (isL_own (by walk_at "mem")) (isL_own (by walk_at "mem")) (by rw [List.length_append]; show _ + 2 ≤ 3000; omega) (by rw [List.length_append, List.length_append, List.length_take, List.length_drop]; show _ + 1 + _ ≤ 3000; omega) (by omega) ?_
    walk_at "bm"
    exact ⟨_, by walk_at "sub", _, _, rfl, rfl⟩
  rintro σ s ⟨x3, x7, x10, rfl, rfl⟩
  refine ws_cut (fun σ s => ∃ (top : Nat) (f : Addr), σ = [some (.str (T r)), some (.ref x), some (.ref y), x3, none, none, none, x7, some (.ref f), some (.int (r.length : Int)), x10] ∧ s = ⟨[(f, .lst ((dps r).map V.int))], []⟩) ?_ ?_
  · walk_at "bm"
    intro f hf
    walk_at "bm"
    exact ⟨_, Sub.refl _, 0, f, rfl, rfl⟩
  rintro σ s ⟨_, f, rfl, rfl⟩
  refine ws_cut (fun σ s => ∃ (top : Nat), σ = [some (.str (T r)), some (.ref x), some (.ref y), x3, some (.int (top : Int)), none, none, x7, some (.ref f), some (.int (r.length : Int)), x10] ∧ s = ⟨[], []⟩) ?_ ?_
  · walk_at "bm"
    refine wl_max (by walk_at "isl") (by rw [dps_len]; omega) fun m1 m1a m1b => ?_
    obtain ⟨j, hj, hfirst⟩ := first_of m1a
    walk_at "bm"
    refine wm_index (by walk_at "isl") hj hfirst ?_
    walk_at "bm"
    exact ⟨_, by walk_at "sub", j, rfl, rfl⟩
  rintro σ s ⟨top, rfl, rfl⟩
  refine ws_cut (fun σ s => ∃ rows xsR L T', σ = [some (.str (T r)), some (.ref x), some (.ref y), x3, some (.int (top : Int)), some (.ref rows), none, x7, some (.ref f), some (.int (r.length : Int)), x10] ∧ s = ⟨(rows, .lst xsR) :: L, T'⟩ ∧ RowsN H xsR L T' 1000) ?_ ?_
  · walk_at "bm"
    refine ⟨by simp, fun t1 h1 => ?_⟩
    walk_at "bm"
    refine ⟨by simp, fun t2 h2 => ?_⟩
    walk_at "bm"
    refine ⟨by simp, fun l1 g1 => ?_⟩
    walk_at "bm"
    refine ⟨by simp, fun t3 h3 => ?_⟩
    walk_at "bm"
    refine ⟨by simp, fun l2 g2 => ?_⟩
    walk_at "bm"
    refine ⟨by simp, fun t4 h4 => ?_⟩
    walk_at "bm"
    refine ⟨by simp, fun t5 h5 => ?_⟩
    walk_at "bm"
    refine ⟨by simp, fun l3 g3 => ?_⟩
    walk_at "bm"
    refine ⟨by simp, fun t6 h6 => ?_⟩
    walk_at "bm"
    refine ⟨by simp, fun t7 h7 => ?_⟩
    walk_at "bm"
    refine ⟨by simp, fun l4 g4 => ?_⟩
    walk_at "bm"
    refine ⟨_, _, _, _, _, rfl, fun H' o => o.ex _ _ hy, hX.e4.r.c.cl, hX.e4.r.ns, rfl, ?_⟩
    walk_at "bm"
    refine ⟨by simp, fun t8 h8 => ?_⟩
    walk_at "bm"
    refine ⟨by simp, fun l5 g5 => ?_⟩
    refine w2_catO (fun H' o => o.ex _ _ hc) (own_l (by walk_at "mem")) (by simp; omega) fun l6 g6 => ?_
    walk_at "bm"
    refine ⟨by simp, fun rows hrows => ?_⟩
    refine ⟨_, Sub.refl _, rows, _, _, _, rfl, rfl, .cons (.inl (by walk_at "mem")) (.cons (by walk_at "mem") (.cons (by walk_at "mem") .nil)) (by simp) (.cons (.inl (by walk_at "mem")) (.cons (by walk_at "mem") .nil) (by simp) (.cons (.inl (by walk_at "mem")) (.cons (by walk_at "mem") (.cons (by walk_at "mem") .nil)) (by simp) (.cons (.inl (by walk_at "mem")) (.cons (by walk_at "mem") (.cons (by walk_at "mem") .nil)) (by simp) (.cons (.inl (by walk_at "mem")) (.app (.of hq) (.cons (by walk_at "mem") .nil)) (by simp; omega) .nil))))⟩
  rintro σ s ⟨rows, xsR, L, T', rfl, rfl, hRN⟩
  refine ws_nd fun nd => ?_
  have hR := hRN.g nd
  refine ws_base fun H2 w2 => ?_
  obtain ⟨hrows, hall⟩ := rows_fix (K := K) w2 hR
  refine ws_cut (fun σ s => ∃ x3 x6, σ = [some (.str (T r)), some (.ref x), some (.ref y), x3, some (.int (top : Int)), some (.ref rows), x6, x7, some (.ref f), some (.int (r.length : Int)), x10] ∧ s = ⟨[], []⟩) ?_ ?_
  · walk_at "bm"
    refine ⟨⟨_, isL_old (sq_of hrows)⟩, ?_⟩
    refine lp_list (xs := xsR) (fun i σ s => ∃ x3 x6, σ = [some (.str (T r)), some (.ref x), some (.ref y), x3, some (.int (top : Int)), some (.ref rows), x6, x7, some (.ref f), some (.int (r.length : Int)), x10] ∧ s = ⟨[], []⟩) rfl ⟨x3, none, rfl, rfl⟩ (fun i σ s _ _ => isL_old (sq_of hrows)) ?_ (fun σ s ⟨x3, x6, e1, e2⟩ => ⟨_, Sub.refl _, x3, x6, e1, e2⟩)
    rintro i v σ s hi hv ⟨x3, x6, rfl, rfl⟩
    obtain ⟨u, ys, rfl, hyl, hu, ps2, hps2⟩ := hall v (List.mem_of_getElem? hv)
    refine wg_name ?_
    walk_at "bm"
    refine ⟨by simp, fun q1 hq1 => ?_⟩
    refine we_lstRg1 ?_
    walk_at "bm"
    refine ⟨by omega, fun q2 hq2 => ?_⟩
    refine w2_cat (by walk_at "mem") (by walk_at "mem") (by rw [rgV_length]; simp; omega) fun q3 hq3 => ?_
    refine ⟨q3, rfl, ⟨_, isL_own List.mem_cons_self⟩, ?_⟩
    refine lp_list (xs := [V.non] ++ rgV 0 ((r.length : Int) + 1)) (fun j σ s => ∃ x3, σ = [some (.str (T r)), some (.ref x), some (.ref y), x3, some (.int (top : Int)), some (.ref rows), some (.ref u), x7, some (.ref f), some (.int (r.length : Int)), x10] ∧ (q3, HO.lst ([V.non] ++ rgV 0 ((r.length : Int) + 1))) ∈ s.L) rfl ⟨_, rfl, List.mem_cons_self⟩ (fun j σ s _ ⟨_, _, e⟩ => isL_own e) ?_ (fun σ s ⟨x3, e1, e2⟩ => ⟨⟨[], []⟩, ⟨List.nil_sublist _, List.nil_sublist _⟩, x3, _, e1, rfl⟩)
    rintro j v σ s hj hv ⟨x3, rfl, hq3⟩
    obtain ⟨t2, rfl⟩ := opt_of_rg hv
    refine wg_name ?_
    walk_at "bm"
    refine c__law_rounded_right t2 hX (isL_old (sq_of hu)) (fun H' o => ⟨ps2, hps2.ex o.ex⟩) (by omega) (by omega) ?_
    walk_at "bm"
    exact ⟨_, Sub.refl _, _, rfl, hq3⟩
  rintro σ s ⟨x3, x6, rfl, rfl⟩
  walk_at "bm"
theorem c__law_more_right {K : PySem.W.Frag} {C : CA} {H0 : Hp} {s : Ld} {Q : V → Ld → Prop} {E : XK} {r : List Bool} {x y dx dy a b c : Addr} {ps ls : List Int} {xs : List V} {t : Option Int} (hX : Ex05 K C) (hx : ∀ H, Own H0 H s → H x = some (sIns C dx a b)) (ha : ∀ H, Own H0 H s → H a = some (.lst (ps.map V.int))) (hb : ∀ H, Own H0 H s → H b = some (.lst (ls.map V.int))) (hy : ∀ H, Own H0 H s → H y = some (rIns C dy c t)) (hc : ∀ H, Own H0 H s → H c = some (.lst xs)) (hq : ∀ H, Own H0 H s → ∃ qs, PrT H xs qs) (h1 : ps.length ≤ 900) (h2 : ls.length ≤ 900) (h3 : xs.length ≤ 900) (hl : r.length ≤ 900) (q : Q (.bl true) s) : WC H0 (sp__law_more_right K C) E [.str (T r), .ref x, .ref y] s Q := wc_V (fun H o => ⟨r, x, y, dx, dy, a, b, c, ps, ls, xs, t, hX, rfl, hx H o, ha H o, hb H o, hy H o, hc H o, hq H o, h1, h2, h3, hl, rfl⟩) q
end BM
namespace BM
open PySem L2 Evl
local macro_rules | `(tactic| walk_at "mem") => `(tactic| first | exact List.mem_cons_self | (refine List.mem_cons_of_mem _ ?_; walk_at "mem"))
local macro_rules | `(tactic| walk_at "swap") => `(tactic| first | exact Swap.here | (apply Swap.there; walk_at "swap"))
local macro_rules | `(tactic| walk_at "subl") => `(tactic| first | exact List.Sublist.refl _ | exact List.nil_sublist _ | (refine List.Sublist.cons_cons _ ?_; walk_at "subl") | (refine List.Sublist.cons _ ?_; walk_at "subl"))
local macro_rules | `(tactic| walk_at "sub") => `(tactic| first | exact Sub.refl _ | (refine ⟨?_, ?_⟩ <;> walk_at "subl"))
local macro_rules | `(tactic| walk_at "isl") => `(tactic| first | exact isL_own (by walk_at "mem") | exact isL_old (by assumption) | assumption)
local macro_rules | `(tactic| walk_at "ist") => `(tactic| first | exact isT_own (by walk_at "mem") | exact isT_old (by assumption) | assumption)
local macro_rules | `(tactic| walk_at "len") => `(tactic| first | omega | decide | (simp only [List.length_map, List.length_take, List.length_drop, List.length_append, List.length_cons, List.length_nil, List.length_reverse, dps_len, flp_len]; omega) | (simp [dps_len, flp_len]; omega) | simp)
local macro_rules | `(tactic| walk_at "b0") => `(tactic| first
  | with_reducible refine' ws_set ?_
  | with_reducible refine' ws_par ?_
  | with_reducible refine' ws_asg ?_
  | with_reducible refine' ws_drop ?_
  | with_reducible refine' ws_ret ?_
  | with_reducible refine' ws_if ?_
  | with_reducible refine' ws_next ?_
  | with_reducible refine' ws_brk ?_
  | with_reducible refine' ws_cont ?_
  | ((with_reducible refine' we_var ?hv ?_); case hv => rfl)
  | with_reducible refine' we_c ?_
  | with_reducible refine' we_op ?_
  | with_reducible refine' we_un ?_
  | with_reducible refine' we_if ?_
  | with_reducible refine' we_and ?_
  | with_reducible refine' we_or ?_
  | with_reducible refine' we_not ?_
  | with_reducible refine' wa_nil ?_
  | with_reducible refine' wa_cons ?_
  | (with_reducible refine' we_lst ?_)
  | (with_reducible refine' we_tup ?_)
  | with_reducible refine' we_cb ?_
  | with_reducible refine' we_call0 ?_
  | with_reducible refine' we_sl ?_
  | with_reducible refine' wo_none ?_
  | (with_reducible refine' wo_some ?_)
  | with_reducible refine' wt_test ?_
  | with_reducible refine' wt_B ?_
  | with_reducible refine' wt_and ?_
  | with_reducible refine' wt_or ?_
  | with_reducible refine' wt_not ?_
  | with_reducible refine' wt_yes ?_
  | with_reducible refine' we_chain ?_
  | with_reducible refine' we_chain3 ?_
  | with_reducible refine' we_revT ?_
  | with_reducible refine' we_revL ?_
  | with_reducible refine' we_bm ?_
  | with_reducible refine' we_bm0 ?_
  | with_reducible refine' ws_for ?_
  | with_reducible refine' we_lc ?_
  | with_reducible refine' wi_list ?_
  | with_reducible refine' wi_tup ?_
  | with_reducible refine' wi_T ?_
  | with_reducible refine' wi_rng1 ?_
  | with_reducible refine' wi_rng2 ?_
  | with_reducible refine' wi_rng3 ?_
  | with_reducible refine' wi_enum ?_
  | with_reducible refine' wi_enumT ?_
  | with_reducible refine' wi_zip ?_
  | with_reducible refine' wg_name ?_
  | with_reducible refine' wg_sub ?_
  | with_reducible refine' wgs_nil ?_
  | with_reducible refine' wgs_cons ?_
  | ((with_reducible refine' wg_tup ?ht ?hn ?_); (case ht => walk_at "ist"); (case hn => rfl))
  | with_reducible refine' w2_add ?_
  | with_reducible refine' w2_sub ?_
  | with_reducible refine' w2_lt ?_
  | with_reducible refine' w2_le ?_
  | with_reducible refine' w2_gt ?_
  | with_reducible refine' w2_ge ?_
  | with_reducible refine' w2_eqI ?_
  | with_reducible refine' w2_neI ?_
  | with_reducible refine' w2_eqT ?_
  | with_reducible refine' w2_neT ?_
  | with_reducible refine' w2_eqB ?_
  | with_reducible refine' w2_neB ?_
  | with_reducible refine' w2_isN ?_
  | with_reducible refine' w2_notN ?_
  | with_reducible refine' w2_isB ?_
  | with_reducible refine' w2_inT ?_
  | with_reducible refine' w1_neg ?_
  | with_reducible refine' wl_abs ?_
  | with_reducible refine' wl_max2 ?_
  | with_reducible refine' wl_min2 ?_
  | with_reducible refine' wl_intB ?_
  | ((with_reducible refine' w2_div ?h ?_); case h => first | omega | (constructor <;> omega))
  | ((with_reducible refine' w2_mod ?h ?_); case h => omega)
  | ((with_reducible refine' w2_catT ?h ?_); case h => walk_at "len")
  | ((with_reducible refine' wsl_T ?h ?_); case h => walk_at "len")
  | ((with_reducible refine' wl_lenT ?h ?_); case h => walk_at "len")
  | ((with_reducible refine' wl_len ?h ?_); case h => walk_at "isl")
  | ((with_reducible refine' wl_len ?h ?_); case h => walk_at "isl")
  | ((with_reducible refine' wm_append ?sw ?hl ?_); (case sw => walk_at "swap"); (case hl => walk_at "len")))
local macro_rules | `(tactic| walk_at "b1") => `(tactic| first | with_reducible refine' ws_seq ?_ | walk_at "b0")
local macro_rules | `(tactic| walk_at "bx") => `(tactic| first
  | refine ⟨_, rfl, ?_⟩
  | refine ⟨_, _, rfl, ?_⟩
  | refine ⟨ty_L (by walk_at "isl"), ?_⟩
  | refine ⟨ty_S, ?_⟩
  | refine spl_t (by rfl) ?_
  | refine spl_f (by rfl) ?_
  | exact rfl)
local macro_rules | `(tactic| walk_at "bm") => `(tactic| repeat (first | walk_at "b1" | walk_at "bx"))
local macro_rules | `(tactic| walk_at "bn") => `(tactic| repeat (first | walk_at "b0" | walk_at "bx"))
local macro_rules | `(tactic| walk_at "b0") => `(tactic| with_reducible refine' c_deepens ?_)
local macro_rules | `(tactic| walk_at "b0") => `(tactic| ((with_reducible refine' c_depths_of ?hl ?_); (case hl => walk_at "len")))
local macro_rules | `(tactic| walk_at "b0") => `(tactic| with_reducible refine' c_is_wholeI ?_)
local macro_rules | `(tactic| walk_at "b0") => `(tactic| with_reducible refine' c_flipped ?_)
local macro_rules | `(tactic| walk_at "b0") => `(tactic| ((with_reducible refine' c_is_right_row ?hl ?_); (case hl => walk_at "len")))
local macro_rules | `(tactic| walk_at "b0") => `(tactic| ((with_reducible refine' c_asked_row ?hl ?_); (case hl => walk_at "len")))
local macro_rules | `(tactic| walk_at "b0") => `(tactic| ((with_reducible refine' c_depths ?hl ?_); (case hl => walk_at "len")))
local macro_rules | `(tactic| walk_at "b0") => `(tactic| ((with_reducible refine' c_is_right ?hl ?_); (case hl => walk_at "len")))
local macro_rules | `(tactic| walk_at "b0") => `(tactic| ((with_reducible refine' c__law_depths ?hl ?_); (case hl => walk_at "len")))
local macro_rules | `(tactic| walk_at "b0") => `(tactic| ((with_reducible refine' c__law_good ?hl ?_); (case hl => walk_at "len")))
local macro_rules | `(tactic| walk_at "b0") => `(tactic| ((with_reducible refine' wl_listOf ?hx ?_); (case hx => walk_at "isl")))
local macro_rules | `(tactic| walk_at "b0") => `(tactic| with_reducible refine' w2_notB ?_)
local macro_rules | `(tactic| walk_at "own") => `(tactic| exact own_l (by walk_at "mem"))
local macro_rules | `(tactic| walk_at "b0") => `(tactic| with_reducible refine' we_fld ?_)
local macro_rules | `(tactic| walk_at "b0") => `(tactic| refine ⟨_, _, _, _, _, rfl, own_l (by walk_at "mem"), Grw.cl (by assumption), Grw.nr (by assumption), by rfl, ?_⟩)
local macro_rules | `(tactic| walk_at "b0") => `(tactic| refine ⟨_, _, _, _, _, rfl, fun H' o => o.ex _ _ (by assumption), Grw.cl (by assumption), Grw.nr (by assumption), by rfl, ?_⟩)
local macro_rules | `(tactic| walk_at "b0") => `(tactic| with_reducible refine' we_meth ?_)
local macro_rules | `(tactic| walk_at "b0") => `(tactic| refine ⟨_, _, _, rfl, own_l (by walk_at "mem"), by rfl, ?_⟩)
local macro_rules | `(tactic| walk_at "b0") => `(tactic| refine ⟨_, _, _, rfl, fun H' o => o.ex _ _ (by assumption), by rfl, ?_⟩)
local macro_rules | `(tactic| walk_at "gown") => `(tactic| first | exact own_l (by walk_at "mem") | exact fun H' o => o.ex _ _ (by assumption))
local macro_rules | `(tactic| walk_at "b0") => `(tactic| with_reducible refine' wm_countT ?_)
local macro_rules | `(tactic| walk_at "b0") => `(tactic| with_reducible refine' we_methU ?_)
local macro_rules | `(tactic| walk_at "mem") => `(tactic| assumption)
theorem pot_le12 {r : List Bool} (h : r.length ≤ 12) : pot r ≤ 400 := by
  have h1 := PH_le (M := 13) (by decide) r 0 (by omega)
  unfold pot
  have : ((r.length : Int) + 1) * 13 ≤ 13 * 13 := Int.mul_le_mul_of_nonneg_right (by omega) (by decide)
  omega
theorem uniq_key {a : Addr} {o o' : HO} : ∀ {L : List (Addr × HO)}, (L.map (·.1)).Nodup → (a, o) ∈ L → (a, o') ∈ L → o = o'
  | e :: L, nd, h1, h2 => by
    have nd' := List.nodup_cons.mp nd
    rcases List.mem_cons.mp h1 with e1 | h1
    · rcases List.mem_cons.mp h2 with e2 | h2
      · rw [← e1] at e2
        exact (Prod.mk.inj e2).2.symm
      · exact absurd (List.mem_map.mpr ⟨_, h2, rfl⟩) (by rw [← e1] at nd'; exact nd'.1)
    · rcases List.mem_cons.mp h2 with e2 | h2
      · exact absurd (List.mem_map.mpr ⟨_, h1, rfl⟩) (by rw [← e2] at nd'; exact nd'.1)
      · exact uniq_key nd'.2 h1 h2
theorem wg_nd {H0 : Hp} {g : TG} {v : V} {σ : L2.St} {s : Ld} {Q : L2.St → Ld → Prop} (h : (s.L.map (·.1)).Nodup → WG H0 g v σ s Q) : WG H0 g v σ s Q := fun H o => h o.nd H o
theorem RowsG.mono {O : Addr → List V → Prop} {f : Addr} {xs : List V} {s s1 : Ld} {G : List (Addr × List V) → List V → Prop} (h : RowsG O f xs s G) (hs : ∀ e ∈ s.L, e ∈ s1.L) (hG : ∀ ys, G s.T ys → G s1.T ys) : RowsG O f xs s1 G := ⟨hs _ h.1, fun x hx => by
  obtain ⟨u, ys, e, hg, hh⟩ := h.2 x hx
  exact ⟨u, ys, e, hG _ hg, hh.imp (fun h => ⟨hs _ h.1, h.2⟩) id⟩⟩
theorem PrG.mono {H : Hp} {n : Nat} {T T' : List (Addr × List V)} (h : ∀ e ∈ T, e ∈ T') {ys : List V} (g : PrG H n T ys) : PrG H n T' ys := ⟨g.1.sub (fun _ h => h) h, g.2⟩
theorem ln__law_even_right {K : PySem.W.Frag} {C : CA} {vs : List V} {H : Hp} {Q : VK} {E : XK} (h : sp__law_even_right K C vs H Q E) : vs.length = 2 := by
  obtain ⟨_, ⟨r, w, _, rfl, _⟩, _⟩ := h
  rfl
theorem refs_at {ts : List (Addr × Int × Int)} {i : Nat} {y : V} (h : (refs ts)[i]? = some y) : ∃ u, ts[i]? = some u ∧ y = V.ref u.1 := by
  rw [List.getElem?_map] at h
  cases e : ts[i]? with
  | none => rw [e] at h; cases h
  | some u => rw [e] at h; exact ⟨u, rfl, (Option.some.inj h).symm⟩
theorem refs_len (ts : List (Addr × Int × Int)) : (refs ts).length = ts.length := List.length_map _
theorem pu__law_even_right {K : PySem.W.Frag} {C : CA} {vs : List V} {H : Hp} {Q : VK} {E : XK} (h : sp__law_even_right K C vs H Q E) : rd__law_even_right K C { nx := fun _ H' => Q .non H', rt := Q } (start N__law_even_right vs) H := by
  obtain ⟨_, ⟨r, w, hX, rfl, hl, h0, rfl⟩, k⟩ := h
  refine body_V ?_ k
  unfold rd__law_even_right
  refine ws_cut (fun σ s => ∃ (x d a b y dy c : Addr) (ps : List Int) (ts : List (Addr × Int × Int)) (t : Option Int), σ = [some (.str (T r)), some (.int w), none, none, none, none, some (.ref x), some (.ref y), none, none, none, none, none, none, none, none] ∧ s = ⟨[(c, .lst (refs ts)), (y, rIns C dy c t), (b, .lst (((dps r).map lf).map V.int)), (a, .lst (ps.map V.int)), (x, sIns C d a b)], tps ts ++ []⟩ ∧ ps.length ≤ 400 ∧ ts.length ≤ 2) ?_ ?_
  · walk_at "bm"
    refine c_swaps_ev hX.e2 (by omega) h0 fun x d a b ps u _ _ hp => ?_
    have hpl := pot_le12 hl
    walk_at "bm"
    refine c_rounds_ev hX.e4 (by omega) h0 fun y dy c ts t _ hrk => ?_
    have hrl := rk_le (r := r)
    walk_at "bm"
    exact ⟨_, Sub.refl _, x, d, a, b, y, dy, c, ps, ts, t, rfl, rfl, by omega, by omega⟩
  rintro σ s ⟨x, d, a, b, y, dy, c, ps, ts, t, rfl, rfl, hps, hts⟩
  refine ws_base fun H1 w1 => ?_
  have hx : H1 x = some (sIns C d a b) := (w1.own (x, sIns C d a b) (by simp)).2
  have ha : H1 a = some (.lst (ps.map V.int)) := (w1.own (a, .lst (ps.map V.int)) (by simp)).2
  have hb : H1 b = some (.lst (((dps r).map lf).map V.int)) := (w1.own (b, .lst (((dps r).map lf).map V.int)) (by simp)).2
  have hy : H1 y = some (rIns C dy c t) := (w1.own (y, rIns C dy c t) (by simp)).2
  have hc : H1 c = some (.lst (refs ts)) := (w1.own (c, .lst (refs ts)) (by simp)).2
  have hq : PrT H1 (refs ts) (prs ts) := prT_own (s := ⟨[(c, .lst (refs ts)), (y, rIns C dy c t), (b, .lst (((dps r).map lf).map V.int)), (a, .lst (ps.map V.int)), (x, sIns C d a b)], tps ts ++ []⟩) (fun _ m => List.mem_append_left _ m) H1 w1
  have hT : ∀ u ∈ ts, H1 u.1 = some (.tup (pairV u.2)) := fun u hu => w1.tp (u.1, pairV u.2) (List.mem_append_left _ (List.mem_map.mpr ⟨u, hu, rfl⟩))
  clear w1
  obtain ⟨ls, hls⟩ : ∃ ls, ls = (dps r).map lf := ⟨_, rfl⟩
  rw [← hls] at hb
  have hll : ls.length ≤ 13 := by rw [hls, List.length_map, dps_len]; omega
  clear hls
  have hrl := refs_len ts
  refine ws_seq ?_
  walk_at "bn"
  refine c__law_more_right hX (fun H' o => o.ex _ _ hx) (fun H' o => o.ex _ _ ha) (fun H' o => o.ex _ _ hb) (fun H' o => o.ex _ _ hy) (fun H' o => o.ex _ _ hc) (fun H' o => ⟨prs ts, hq.ex o.ex⟩) (by omega) (by omega) (by omega) (by omega) ?_
  walk_at "bn"
  refine ws_cut (fun σ s => ∃ x2, σ = [some (.str (T r)), some (.int w), x2, none, none, none, some (.ref x), some (.ref y), none, none, none, none, none, none, none, none] ∧ s = ⟨[], []⟩) ?_ ?_
  · walk_at "bm"
    refine ⟨_, _, _, _, _, rfl, fun H' o => o.ex _ _ hx, hX.e2.s.c.cl, hX.e2.s.np, rfl, ?_⟩
    walk_at "bm"
    refine c__law_bent (fun H' o => o.ex _ _ ha) (by omega) fun p s' xs hp hLL hxl => ?_
    refine ⟨p, rfl, ⟨_, isL_own (List.mem_append_left _ hp)⟩, ?_⟩
    refine lp_list (xs := xs) (fun i σ s => ∃ x2, σ = [some (.str (T r)), some (.int w), x2, none, none, none, some (.ref x), some (.ref y), none, none, none, none, none, none, none, none] ∧ s = ⟨s'.L ++ [], s'.T ++ []⟩) rfl ⟨none, rfl, rfl⟩ (fun i σ s _ ⟨_, _, e⟩ => by rw [e]; exact isL_own (List.mem_append_left _ hp)) ?_ (fun σ s ⟨x2, e1, e2⟩ => ⟨⟨[], []⟩, ⟨List.nil_sublist _, List.nil_sublist _⟩, x2, e1, rfl⟩)
    rintro i v σ s hi hv ⟨x2, rfl, rfl⟩
    obtain ⟨u, ms, rfl, hm, hu⟩ := hLL v (List.mem_of_getElem? hv)
    refine wg_name ?_
    walk_at "bm"
    refine ⟨_, _, _, _, _, rfl, fun H' o => o.ex _ _ hx, hX.e2.s.c.cl, hX.e2.s.nl, rfl, ?_⟩
    walk_at "bm"
    refine c__law_swapped_right hX hu (isL_old (sq_of hb)) (by omega) (by omega) (by omega) ?_
    walk_at "bm"
    exact ⟨_, Sub.refl _, _, rfl, rfl⟩
  rintro σ s ⟨x2, rfl, rfl⟩
  refine ws_cut (fun σ s => ∃ x3, σ = [some (.str (T r)), some (.int w), x2, x3, none, none, some (.ref x), some (.ref y), none, none, none, none, none, none, none, none] ∧ s = ⟨[], []⟩) ?_ ?_
  · walk_at "bm"
    refine ⟨_, _, _, _, _, rfl, fun H' o => o.ex _ _ hx, hX.e2.s.c.cl, hX.e2.s.nl, rfl, ?_⟩
    walk_at "bm"
    refine c__law_bent (fun H' o => o.ex _ _ hb) (by omega) fun p s' xs hp hLL hxl => ?_
    refine ⟨p, rfl, ⟨_, isL_own (List.mem_append_left _ hp)⟩, ?_⟩
    refine lp_list (xs := xs) (fun i σ s => ∃ x3, σ = [some (.str (T r)), some (.int w), x2, x3, none, none, some (.ref x), some (.ref y), none, none, none, none, none, none, none, none] ∧ s = ⟨s'.L ++ [], s'.T ++ []⟩) rfl ⟨none, rfl, rfl⟩ (fun i σ s _ ⟨_, _, e⟩ => by rw [e]; exact isL_own (List.mem_append_left _ hp)) ?_ (fun σ s ⟨x2, e1, e2⟩ => ⟨⟨[], []⟩, ⟨List.nil_sublist _, List.nil_sublist _⟩, x2, e1, rfl⟩)
    rintro i v σ s hi hv ⟨x3, rfl, rfl⟩
    obtain ⟨u, ms, rfl, hm, hu⟩ := hLL v (List.mem_of_getElem? hv)
    refine wg_name ?_
    walk_at "bm"
    refine ⟨_, _, _, _, _, rfl, fun H' o => o.ex _ _ hx, hX.e2.s.c.cl, hX.e2.s.np, rfl, ?_⟩
    walk_at "bm"
    refine c__law_swapped_right hX (isL_old (sq_of ha)) hu (by omega) (by omega) (by omega) ?_
    walk_at "bm"
    exact ⟨_, Sub.refl _, _, rfl, rfl⟩
  rintro σ s ⟨x3, rfl, rfl⟩
  refine ws_cut (fun σ s => σ = [some (.str (T r)), some (.int w), x2, x3, none, none, some (.ref x), some (.ref y), some (.ref c), some (.int (r.length : Int)), none, none, none, none, none, none] ∧ s = ⟨[], []⟩) ?_ ?_
  · walk_at "bm"
    refine ⟨_, _, _, _, _, rfl, fun H' o => o.ex _ _ hy, hX.e4.r.c.cl, hX.e4.r.ns, rfl, ?_⟩
    walk_at "bm"
    refine ⟨by simp, fun tp htp => ?_⟩
    walk_at "bm"
    exact ⟨_, by walk_at "sub", rfl, rfl⟩
  rintro σ s ⟨rfl, rfl⟩
  have hs : SqL K H1 c (refs ts) := sq_of hc
  have hPM : ∀ T, PM H1 T (refs ts) := fun T => .of hq
  refine ws_cut (fun σ s => ∃ rows xsR L T', σ = [some (.str (T r)), some (.int w), x2, x3, some (.ref rows), none, some (.ref x), some (.ref y), some (.ref c), some (.int (r.length : Int)), none, none, none, none, none, none] ∧ s = ⟨(rows, .lst xsR) :: L, T'⟩ ∧ RowsN H1 xsR L T' 10 ∧ xsR.length = 6) ?_ ?_
  · walk_at "bm"
    refine ⟨by simp, fun l1 g1 => ?_⟩
    walk_at "bm"
    refine ⟨c, _, rfl, isL_old hs, fun l2 g2 => ?_⟩
    walk_at "bm"
    refine wsl_L (isL_old hs) fun l3 g3 => ?_
    refine w2_catO (fun H' o => o.ex _ _ hc) (own_l (by walk_at "mem")) (by have := cut_len (refs ts) none (some 1); omega) fun l4 g4 => ?_
    walk_at "bm"
    refine wsl_L (isL_old hs) fun l5 g5 => ?_
    walk_at "bm"
    refine ⟨by simp, fun t6 h6 => ?_⟩
    walk_at "bm"
    refine ⟨by simp, fun l6 g6 => ?_⟩
    refine w2_catO (fun H' o => o.ex _ _ hc) (own_l (by walk_at "mem")) (by simp; omega) fun l7 g7 => ?_
    walk_at "bm"
    refine ⟨by simp, fun rows hrows => ?_⟩
    have c1 := cut_len (refs ts) none (some 1)
    refine ⟨_, Sub.refl _, rows, _, _, _, rfl, rfl, .cons (.inr hc) (hPM _) (by omega) (.cons (.inl (by walk_at "mem")) .nil (by simp) (.cons (.inl (by walk_at "mem")) ((hPM _).sub (fun y h => List.mem_reverse.mp h) (fun _ h => h)) (by rw [List.length_reverse]; omega) (.cons (.inl (by walk_at "mem")) ((hPM _).app ((hPM _).sub (fun y h => cut_sub h) (fun _ h => h))) (by rw [List.length_append]; omega) (.cons (.inl (by walk_at "mem")) ((hPM _).sub (fun y h => cut_sub h) (fun _ h => h)) (by omega) (.cons (.inl (by walk_at "mem")) ((hPM _).app (.cons (by walk_at "mem") .nil)) (by rw [List.length_append]; show _ + 1 ≤ 10; omega) .nil))))), rfl⟩
  rintro σ s ⟨rows0, xsR0, L0, T0, rfl, rfl, hN0, hn0⟩
  refine ws_cut (fun σ s => ∃ rows xsR L T', σ = [some (.str (T r)), some (.int w), x2, x3, some (.ref rows), none, some (.ref x), some (.ref y), some (.ref c), some (.int (r.length : Int)), none, none, none, none, none, none] ∧ s = ⟨(rows, .lst xsR) :: L, T'⟩ ∧ RowsN H1 xsR L T' 10 ∧ xsR.length = 11) ?_ ?_
  · walk_at "bm"
    refine ⟨by simp, fun t1 h1 => ?_⟩
    walk_at "bm"
    refine ⟨by simp, fun l1 g1 => ?_⟩
    walk_at "bm"
    refine ⟨by simp, fun t2 h2 => ?_⟩
    walk_at "bm"
    refine ⟨by simp, fun t3 h3 => ?_⟩
    walk_at "bm"
    refine ⟨by simp, fun l2 g2 => ?_⟩
    walk_at "bm"
    refine ⟨by simp, fun t4 h4 => ?_⟩
    walk_at "bm"
    refine ⟨by simp, fun l3 g3 => ?_⟩
    refine w2_catO (fun H' o => o.ex _ _ hc) (own_l (by walk_at "mem")) (by simp; omega) fun l4 g4 => ?_
    walk_at "bm"
    refine ⟨by simp, fun t5 h5 => ?_⟩
    walk_at "bm"
    refine ⟨by simp, fun l5 g5 => ?_⟩
    walk_at "bm"
    refine w2_pow ⟨by decide, by decide, by decide⟩ ?_
    obtain ⟨big, hbig⟩ : ∃ big : Int, (10 : Int) ^ (20 : Int).toNat = big := ⟨_, rfl⟩
    rw [hbig]
    walk_at "bm"
    refine ⟨by simp, fun t6 h6 => ?_⟩
    walk_at "bm"
    refine ⟨by simp, fun l6 g6 => ?_⟩
    walk_at "bm"
    refine ⟨by simp, fun l7 g7 => ?_⟩
    refine w2_catO (own_l (by walk_at "mem")) (own_l (by walk_at "mem")) (by rw [hn0]; simp) fun rows hrows => ?_
    refine ⟨_, Sub.refl _, rows, _, _, _, rfl, rfl, ?_, by rw [List.length_append, hn0]; rfl⟩
    intro v hv
    rcases List.mem_append.mp hv with hv | hv
    · obtain ⟨u, ys, e, ⟨hP, hL⟩, hh⟩ := hN0 v hv
      refine ⟨u, ys, e, ⟨hP.sub (fun _ h => h) (fun z hz => ?_), hL⟩, hh.imp (fun h => ?_) id⟩
      · walk_at "mem"
      · walk_at "mem"
    · exact RowsN.cons (.inl (by walk_at "mem")) (.cons (by walk_at "mem") .nil) (by simp) (.cons (.inl (by walk_at "mem")) (.cons (by walk_at "mem") (.cons (by walk_at "mem") .nil)) (by simp) (.cons (.inl (by walk_at "mem")) ((hPM _).app (.cons (by walk_at "mem") .nil)) (by rw [List.length_append]; show _ + 1 ≤ 10; omega) (.cons (.inl (by walk_at "mem")) (.cons (by walk_at "mem") .nil) (by simp) (.cons (.inl (by walk_at "mem")) (.cons (by walk_at "mem") .nil) (by simp) .nil)))) v hv
  rintro σ s ⟨rows, xsR, L, T', rfl, rfl, hN, hn⟩
  refine ws_nd fun nd => ?_
  have hR := hN.g nd
  have hmono : ∀ (x y : Addr × List V) (T : List (Addr × List V)), ∀ e ∈ T, e ∈ y :: x :: T := fun x y T e he => List.mem_cons_of_mem _ (List.mem_cons_of_mem _ he)
  refine ws_cut (fun σ s => ∃ xsR x10 x12 x13 x14 x15, σ = [some (.str (T r)), some (.int w), x2, x3, some (.ref rows), none, some (.ref x), some (.ref y), some (.ref c), some (.int (r.length : Int)), x10, none, x12, x13, x14, x15] ∧ RowsG (fun u ys => H1 u = some (.lst ys)) rows xsR s (PrG H1 10)) ?_ ?_
  · walk_at "bm"
    refine ⟨c, _, rfl, isL_old hs, ?_⟩
    refine lp_enum (xs := refs ts) (n := ts.length) (fun i σ s => ∃ xsR x10 x12 x13 x14 x15, σ = [some (.str (T r)), some (.int w), x2, x3, some (.ref rows), none, some (.ref x), some (.ref y), some (.ref c), some (.int (r.length : Int)), x10, none, x12, x13, x14, x15] ∧ RowsG (fun u ys => H1 u = some (.lst ys)) rows xsR s (PrG H1 10) ∧ xsR.length = 11 + 4 * i) hrl ⟨xsR, none, none, none, none, none, rfl, hR, hn⟩ (fun _ _ _ _ _ => isL_old hs) ?_ (fun σ s ⟨xsR, x10, x12, x13, x14, x15, e1, e2, _⟩ => ⟨_, Sub.refl _, xsR, x10, x12, x13, x14, x15, e1, e2⟩)
    rintro i v σ s p hi hv ⟨xsR, x10, x12, x13, x14, x15, rfl, hR, hxl⟩
    obtain ⟨u, hu, rfl⟩ := refs_at hv
    have htt : SqT K H1 u.1 [.int u.2.1, .int u.2.2] := st_of (hT u (List.mem_of_getElem? hu))
    have hi2 : i < (refs ts).length := by rw [hrl]; exact hi
    walk_at "bm"
    refine ⟨by simp, fun t1 h1 => ?_⟩
    walk_at "bm"
    refine ⟨by simp, fun t2 h2 => ?_⟩
    walk_at "bm"
    refine ⟨by simp, fun t3 h3 => ?_⟩
    walk_at "bm"
    refine ⟨by simp, fun t4 h4 => ?_⟩
    walk_at "bm"
    refine ⟨by simp, fun q hq0 => ?_⟩
    refine ⟨q, rfl, ⟨_, isL_own List.mem_cons_self⟩, ?_⟩
    refine lp_list (xs := [.ref t1, .ref t2, .ref t3, .ref t4]) (n := 4) (fun j σ s => ∃ xsR x14 x15, σ = [some (.str (T r)), some (.int w), x2, x3, some (.ref rows), none, some (.ref x), some (.ref y), some (.ref c), some (.int (r.length : Int)), some (.int (i : Int)), none, some (.int u.2.1), some (.int u.2.2), x14, x15] ∧ RowsG (fun u ys => H1 u = some (.lst ys)) rows xsR s (PrG H1 10) ∧ xsR.length = 11 + 4 * i + j ∧ (q, HO.lst [.ref t1, .ref t2, .ref t3, .ref t4]) ∈ s.L ∧ ∀ v ∈ [V.ref t1, .ref t2, .ref t3, .ref t4], ∃ (t : Addr) (i j : Int), v = .ref t ∧ (t, [V.int i, V.int j]) ∈ s.T) rfl ⟨xsR, x14, x15, rfl, hR.mono (fun e he => List.mem_cons_of_mem _ he) (fun ys g => g.mono fun e he => List.mem_cons_of_mem _ (List.mem_cons_of_mem _ (List.mem_cons_of_mem _ (List.mem_cons_of_mem _ (List.mem_cons_of_mem _ he))))), hxl, List.mem_cons_self, ?_⟩ (fun j σ s _ ⟨_, _, _, _, _, _, e, _⟩ => isL_own e) ?_ (fun σ s ⟨xsR, x14, x15, e1, e2, e3, _, _⟩ => ⟨_, Sub.refl _, xsR, _, _, _, x14, x15, e1, e2, by omega⟩)
    · intro v hv
      simp only [List.mem_cons, List.not_mem_nil, or_false] at hv
      rcases hv with rfl | rfl | rfl | rfl
      · exact ⟨t1, _, _, rfl, by walk_at "mem"⟩
      · exact ⟨t2, _, _, rfl, by walk_at "mem"⟩
      · exact ⟨t3, _, _, rfl, by walk_at "mem"⟩
      · exact ⟨t4, _, _, rfl, by walk_at "mem"⟩
    rintro j v σ s hj hv ⟨xsR, x14, x15, rfl, hR, hxl, hqm, hqs⟩
    refine wg_nd fun nd0 => ?_
    have hqr : q ≠ rows := fun e => by
      subst e
      have := uniq_key nd0 hqm hR.1
      have e2 := congrArg List.length (HO.lst.inj this)
      rw [hxl] at e2
      simp at e2
      omega
    obtain ⟨t', i1, j1, rfl, ht'⟩ := hqs v (List.mem_of_getElem? hv)
    have hfm := hR.1
    refine wg_tup (isT_own ht') rfl ?_
    refine wgs_cons (wg_name (wgs_cons (wg_name (wgs_nil ?_))))
    refine ws_drop (we_bm (we_var rfl ⟨ty_L (isL_own hfm), ?_⟩))
    walk_at "bm"
    refine ⟨by simp, fun t5 h5 => ?_⟩
    walk_at "bm"
    refine c__law_put (isL_old hs) hi2 (by omega) fun p5 hp5 => ?_
    walk_at "bm"
    refine wm_app (xs := xsR) (List.mem_cons_of_mem _ hfm) (by omega) fun L' nd h1 h2 => ?_
    refine ⟨_, Sub.refl _, xsR ++ [.ref p5], _, _, rfl, RowsG.app (s := s) (s1 := ⟨(p5, .lst ((refs ts).take i ++ [.ref t5] ++ (refs ts).drop (i + 1))) :: s.L, (t5, [.int i1, .int j1]) :: s.T⟩) (fun ys g => g.mono fun e he => List.mem_cons_of_mem _ he) hR (fun e he => List.mem_cons_of_mem _ he) List.mem_cons_self (new_ne nd hfm) ⟨(((hPM _).sub (fun y h => List.mem_of_mem_take h) (fun _ h => h)).app (.cons List.mem_cons_self .nil)).app ((hPM _).sub (fun y h => List.mem_of_mem_drop h) (fun _ h => h)), ?_⟩ h1 h2, by rw [List.length_append, hxl]; rfl, h2 _ (List.mem_cons_of_mem _ hqm) hqr, fun v hv => ?_⟩
    · simp only [List.length_append, List.length_take, List.length_drop, List.length_cons, List.length_nil]
      omega
    · obtain ⟨t6, i6, j6, e, h6⟩ := hqs v hv
      exact ⟨t6, i6, j6, e, List.mem_cons_of_mem _ h6⟩
  rintro σ s ⟨xsR2, x10, x12, x13, x14, x15, rfl, hR2⟩
  refine ws_base fun H2 w2 => ?_
  obtain ⟨hrows, hall⟩ := rows_fix (K := K) w2 hR2
  have hy2 : H2 y = some (rIns C dy c t) := w2.ex _ _ hy
  have hc2 : H2 c = some (.lst (refs ts)) := w2.ex _ _ hc
  have hq2 : PrT H2 (refs ts) (prs ts) := hq.ex w2.ex
  refine ws_cut (fun σ s => ∃ x5 x11, σ = [some (.str (T r)), some (.int w), x2, x3, some (.ref rows), x5, some (.ref x), some (.ref y), some (.ref c), some (.int (r.length : Int)), x10, x11, x12, x13, x14, x15] ∧ s = ⟨[], []⟩) ?_ ?_
  · walk_at "bm"
    refine ⟨⟨_, isL_old (sq_of hrows)⟩, ?_⟩
    refine lp_list (xs := xsR2) (fun i σ s => ∃ x5 x11, σ = [some (.str (T r)), some (.int w), x2, x3, some (.ref rows), x5, some (.ref x), some (.ref y), some (.ref c), some (.int (r.length : Int)), x10, x11, x12, x13, x14, x15] ∧ s = ⟨[], []⟩) rfl ⟨none, none, rfl, rfl⟩ (fun i σ s _ _ => isL_old (sq_of hrows)) ?_ (fun σ s ⟨x3, x6, e1, e2⟩ => ⟨_, Sub.refl _, x3, x6, e1, e2⟩)
    rintro i v σ s hi hv ⟨x5, x11, rfl, rfl⟩
    obtain ⟨u, ys, rfl, hyl, hu, ps2, hps2⟩ := hall v (List.mem_of_getElem? hv)
    refine wg_name ?_
    walk_at "bm"
    refine ⟨_, _, _, _, tpV t, rfl, fun H' o => o.ex _ _ hy2, hX.e4.r.c.cl, hX.e4.r.nt, rfl, ?_⟩
    walk_at "bm"
    refine w2_pow ⟨by decide, by decide, by decide⟩ ?_
    obtain ⟨big, hbig⟩ : ∃ big : Int, (10 : Int) ^ (20 : Int).toNat = big := ⟨_, rfl⟩
    rw [hbig]
    walk_at "bm"
    refine ⟨by simp, fun q1 hq1 => ?_⟩
    refine ⟨q1, rfl, ⟨_, isL_own List.mem_cons_self⟩, ?_⟩
    refine lp_list (xs := [tpV t, .non, .int (w % ((r.length : Int) + 1)), .int (-1), .int big]) (fun j σ s => ∃ x11, σ = [some (.str (T r)), some (.int w), x2, x3, some (.ref rows), some (.ref u), some (.ref x), some (.ref y), some (.ref c), some (.int (r.length : Int)), x10, x11, x12, x13, x14, x15] ∧ s = ⟨[(q1, .lst [tpV t, .non, .int (w % ((r.length : Int) + 1)), .int (-1), .int big])], []⟩) rfl ⟨_, rfl, rfl⟩ (fun j σ s _ ⟨_, _, e⟩ => by rw [e]; exact isL_own List.mem_cons_self) ?_ (fun σ s ⟨x11, e1, e2⟩ => ⟨⟨[], []⟩, ⟨List.nil_sublist _, List.nil_sublist _⟩, _, x11, e1, rfl⟩)
    rintro j v σ s hj hv ⟨x11, rfl, rfl⟩
    obtain ⟨t2, rfl⟩ : ∃ t2, v = tpV t2 := by
      have hm := List.mem_of_getElem? hv
      simp only [List.mem_cons, List.not_mem_nil, or_false] at hm
      rcases hm with rfl | rfl | rfl | rfl | rfl
      · exact ⟨t, rfl⟩
      · exact ⟨none, rfl⟩
      · exact ⟨some _, rfl⟩
      · exact ⟨some _, rfl⟩
      · exact ⟨some _, rfl⟩
    refine wg_name ?_
    walk_at "bm"
    refine c__law_rounded_right t2 hX (isL_old (sq_of hu)) (fun H' o => ⟨ps2, hps2.ex o.ex⟩) (by omega) (by omega) ?_
    walk_at "bm"
    exact ⟨_, Sub.refl _, _, rfl, rfl⟩
  rintro σ s ⟨x5, x11, rfl, rfl⟩
  walk_at "bm"
  refine ⟨by omega, ?_⟩
  refine cp_rng (fun i => List.replicate i (.bl true)) (by omega) rfl (fun i _ => by simp) ?_ ?_
  · intro D i hi
    walk_at "bm"
    refine ⟨rfl, ?_⟩
    walk_at "bm"
    refine c__law_rounded_right (some (-1 + (i : Int))) hX (isL_old (sq_of hc2)) (fun H' o => ⟨_, hq2.ex o.ex⟩) (by omega) (by omega) ?_
    exact ⟨Sub.refl _, List.replicate_succ'⟩
  intro D hD
  walk_at "bm"
  refine wl_all (bs := List.replicate _ true) (by rw [rep_map]; walk_at "isl") ?_
  rw [rep_true]
  rfl
theorem c__law_even_right {K : PySem.W.Frag} {C : CA} {H0 : Hp} {s : Ld} {Q : V → Ld → Prop} {E : XK} {r : List Bool} {w : Int} (hX : Ex05 K C) (hl : r.length ≤ 12) (h0 : hgt r = 0) (q : Q (.bl true) s) : WC H0 (sp__law_even_right K C) E [.str (T r), .int w] s Q := wc_V (fun H o => ⟨r, w, hX, rfl, hl, h0, rfl⟩) q
end BM
namespace BM
open PySem L2 Evl
local macro_rules | `(tactic| walk_at "mem") => `(tactic| first | exact List.mem_cons_self | (refine List.mem_cons_of_mem _ ?_; walk_at "mem"))
local macro_rules | `(tactic| walk_at "swap") => `(tactic| first | exact Swap.here | (apply Swap.there; walk_at "swap"))
local macro_rules | `(tactic| walk_at "subl") => `(tactic| first | exact List.Sublist.refl _ | exact List.nil_sublist _ | (refine List.Sublist.cons_cons _ ?_; walk_at "subl") | (refine List.Sublist.cons _ ?_; walk_at "subl"))
local macro_rules | `(tactic| walk_at "sub") => `(tactic| first | exact Sub.refl _ | (refine ⟨?_, ?_⟩ <;> walk_at "subl"))
local macro_rules | `(tactic| walk_at "isl") => `(tactic| first | exact isL_own (by walk_at "mem") | exact isL_old (by assumption) | assumption)
local macro_rules | `(tactic| walk_at "ist") => `(tactic| first | exact isT_own (by walk_at "mem") | exact isT_old (by assumption) | assumption)
local macro_rules | `(tactic| walk_at "len") => `(tactic| first | omega | decide | (simp only [List.length_map, List.length_take, List.length_drop, List.length_append, List.length_cons, List.length_nil, List.length_reverse, dps_len, flp_len]; omega) | (simp [dps_len, flp_len]; omega) | simp)
local macro_rules | `(tactic| walk_at "b0") => `(tactic| first
  | with_reducible refine' ws_set ?_
  | with_reducible refine' ws_par ?_
  | with_reducible refine' ws_asg ?_
  | with_reducible refine' ws_drop ?_
  | with_reducible refine' ws_ret ?_
  | with_reducible refine' ws_if ?_
  | with_reducible refine' ws_next ?_
  | with_reducible refine' ws_brk ?_
  | with_reducible refine' ws_cont ?_
  | ((with_reducible refine' we_var ?hv ?_); case hv => rfl)
  | with_reducible refine' we_c ?_
  | with_reducible refine' we_op ?_
  | with_reducible refine' we_un ?_
  | with_reducible refine' we_if ?_
  | with_reducible refine' we_and ?_
  | with_reducible refine' we_or ?_
  | with_reducible refine' we_not ?_
  | with_reducible refine' wa_nil ?_
  | with_reducible refine' wa_cons ?_
  | (with_reducible refine' we_lst ?_)
  | (with_reducible refine' we_tup ?_)
  | with_reducible refine' we_cb ?_
  | with_reducible refine' we_call0 ?_
  | with_reducible refine' we_sl ?_
  | with_reducible refine' wo_none ?_
  | (with_reducible refine' wo_some ?_)
  | with_reducible refine' wt_test ?_
  | with_reducible refine' wt_B ?_
  | with_reducible refine' wt_and ?_
  | with_reducible refine' wt_or ?_
  | with_reducible refine' wt_not ?_
  | with_reducible refine' wt_yes ?_
  | with_reducible refine' we_chain ?_
  | with_reducible refine' we_chain3 ?_
  | with_reducible refine' we_revT ?_
  | with_reducible refine' we_revL ?_
  | with_reducible refine' we_bm ?_
  | with_reducible refine' we_bm0 ?_
  | with_reducible refine' ws_for ?_
  | with_reducible refine' we_lc ?_
  | with_reducible refine' wi_list ?_
  | with_reducible refine' wi_tup ?_
  | with_reducible refine' wi_T ?_
  | with_reducible refine' wi_rng1 ?_
  | with_reducible refine' wi_rng2 ?_
  | with_reducible refine' wi_rng3 ?_
  | with_reducible refine' wi_enum ?_
  | with_reducible refine' wi_enumT ?_
  | with_reducible refine' wi_zip ?_
  | with_reducible refine' wg_name ?_
  | with_reducible refine' wg_sub ?_
  | with_reducible refine' wgs_nil ?_
  | with_reducible refine' wgs_cons ?_
  | ((with_reducible refine' wg_tup ?ht ?hn ?_); (case ht => walk_at "ist"); (case hn => rfl))
  | with_reducible refine' w2_add ?_
  | with_reducible refine' w2_sub ?_
  | with_reducible refine' w2_lt ?_
  | with_reducible refine' w2_le ?_
  | with_reducible refine' w2_gt ?_
  | with_reducible refine' w2_ge ?_
  | with_reducible refine' w2_eqI ?_
  | with_reducible refine' w2_neI ?_
  | with_reducible refine' w2_eqT ?_
  | with_reducible refine' w2_neT ?_
  | with_reducible refine' w2_eqB ?_
  | with_reducible refine' w2_neB ?_
  | with_reducible refine' w2_isN ?_
  | with_reducible refine' w2_notN ?_
  | with_reducible refine' w2_isB ?_
  | with_reducible refine' w2_inT ?_
  | with_reducible refine' w1_neg ?_
  | with_reducible refine' wl_abs ?_
  | with_reducible refine' wl_max2 ?_
  | with_reducible refine' wl_min2 ?_
  | with_reducible refine' wl_intB ?_
  | ((with_reducible refine' w2_div ?h ?_); case h => first | omega | (constructor <;> omega))
  | ((with_reducible refine' w2_mod ?h ?_); case h => omega)
  | ((with_reducible refine' w2_catT ?h ?_); case h => walk_at "len")
  | ((with_reducible refine' wsl_T ?h ?_); case h => walk_at "len")
  | ((with_reducible refine' wl_lenT ?h ?_); case h => walk_at "len")
  | ((with_reducible refine' wl_len ?h ?_); case h => walk_at "isl")
  | ((with_reducible refine' wl_len ?h ?_); case h => walk_at "isl")
  | ((with_reducible refine' wm_append ?sw ?hl ?_); (case sw => walk_at "swap"); (case hl => walk_at "len")))
local macro_rules | `(tactic| walk_at "b1") => `(tactic| first | with_reducible refine' ws_seq ?_ | walk_at "b0")
local macro_rules | `(tactic| walk_at "bx") => `(tactic| first
  | refine ⟨_, rfl, ?_⟩
  | refine ⟨_, _, rfl, ?_⟩
  | refine ⟨ty_L (by walk_at "isl"), ?_⟩
  | refine ⟨ty_S, ?_⟩
  | refine spl_t (by rfl) ?_
  | refine spl_f (by rfl) ?_
  | exact rfl)
local macro_rules | `(tactic| walk_at "bm") => `(tactic| repeat (first | walk_at "b1" | walk_at "bx"))
local macro_rules | `(tactic| walk_at "bn") => `(tactic| repeat (first | walk_at "b0" | walk_at "bx"))
local macro_rules | `(tactic| walk_at "b0") => `(tactic| with_reducible refine' c_deepens ?_)
local macro_rules | `(tactic| walk_at "b0") => `(tactic| ((with_reducible refine' c_depths_of ?hl ?_); (case hl => walk_at "len")))
local macro_rules | `(tactic| walk_at "b0") => `(tactic| with_reducible refine' c_is_wholeI ?_)
local macro_rules | `(tactic| walk_at "b0") => `(tactic| with_reducible refine' c_flipped ?_)
local macro_rules | `(tactic| walk_at "b0") => `(tactic| ((with_reducible refine' c_is_right_row ?hl ?_); (case hl => walk_at "len")))
local macro_rules | `(tactic| walk_at "b0") => `(tactic| ((with_reducible refine' c_asked_row ?hl ?_); (case hl => walk_at "len")))
local macro_rules | `(tactic| walk_at "b0") => `(tactic| ((with_reducible refine' c_depths ?hl ?_); (case hl => walk_at "len")))
local macro_rules | `(tactic| walk_at "b0") => `(tactic| ((with_reducible refine' c_is_right ?hl ?_); (case hl => walk_at "len")))
local macro_rules | `(tactic| walk_at "b0") => `(tactic| ((with_reducible refine' c__law_depths ?hl ?_); (case hl => walk_at "len")))
local macro_rules | `(tactic| walk_at "b0") => `(tactic| ((with_reducible refine' c__law_good ?hl ?_); (case hl => walk_at "len")))
local macro_rules | `(tactic| walk_at "b0") => `(tactic| ((with_reducible refine' wl_listOf ?hx ?_); (case hx => walk_at "isl")))
local macro_rules | `(tactic| walk_at "b0") => `(tactic| with_reducible refine' w2_notB ?_)
local macro_rules | `(tactic| walk_at "own") => `(tactic| exact own_l (by walk_at "mem"))
local macro_rules | `(tactic| walk_at "b0") => `(tactic| with_reducible refine' we_fld ?_)
local macro_rules | `(tactic| walk_at "b0") => `(tactic| refine ⟨_, _, _, _, _, rfl, own_l (by walk_at "mem"), Grw.cl (by assumption), Grw.nr (by assumption), by rfl, ?_⟩)
local macro_rules | `(tactic| walk_at "b0") => `(tactic| refine ⟨_, _, _, _, _, rfl, fun H' o => o.ex _ _ (by assumption), Grw.cl (by assumption), Grw.nr (by assumption), by rfl, ?_⟩)
local macro_rules | `(tactic| walk_at "b0") => `(tactic| with_reducible refine' we_meth ?_)
local macro_rules | `(tactic| walk_at "b0") => `(tactic| refine ⟨_, _, _, rfl, own_l (by walk_at "mem"), by rfl, ?_⟩)
local macro_rules | `(tactic| walk_at "b0") => `(tactic| refine ⟨_, _, _, rfl, fun H' o => o.ex _ _ (by assumption), by rfl, ?_⟩)
local macro_rules | `(tactic| walk_at "gown") => `(tactic| first | exact own_l (by walk_at "mem") | exact fun H' o => o.ex _ _ (by assumption))
local macro_rules | `(tactic| walk_at "b0") => `(tactic| with_reducible refine' wm_countT ?_)
local macro_rules | `(tactic| walk_at "b0") => `(tactic| with_reducible refine' we_methU ?_)
local macro_rules | `(tactic| walk_at "mem") => `(tactic| assumption)
theorem hgt_abs (r : List Bool) : -(r.length : Int) ≤ hgt r ∧ hgt r ≤ (r.length : Int) := by
  induction r with
  | nil => exact ⟨Int.le_refl _, Int.le_refl _⟩
  | cons b r ih =>
    simp only [hgt, List.length_cons]
    cases b <;> simp [sg] <;> omega
theorem unSh_big {r : List Bool} (h : r.length ≤ 12) : unSh r 100000000000000000000 = false := by
  have := hgt_abs r
  unfold unSh
  rw [show decide (hgt r = 100000000000000000000) = false from decide_eq_false (by omega)]
  simp
theorem rep_ints (n : Nat) (xs : List Int) : (List.replicate n (xs.map V.int)).flatten = ((List.replicate n xs).flatten).map V.int := by
  rw [List.map_flatten, List.map_replicate]
theorem rep_len2 {α : Type} (n : Nat) (xs : List α) : ((List.replicate n xs).flatten).length = n * xs.length := by
  rw [List.length_flatten, List.map_replicate, List.sum_replicate_nat]
theorem k5_r1 : rnSh [true, false, false, true, true, true, false, false, false, true, true, false] [(0, 6), (6, 12)] (some 6) = false := by decide +kernel
theorem k5_r2 : rnSh [false, true, true, true, false, false, false, true] [(0, 4), (4, 8)] (some 4) = true := by decide +kernel
theorem k5_r3 : rnSh [false, true, true, true, false, false, false, true] [(0, 8)] none = false := by decide +kernel
theorem k5_s1 : swSh [false, true] ((List.replicate 1001 [(0 : Int)]).flatten) [0, 1, 0] = false := by decide +kernel
theorem k5_s2 : swSh [false, true] ((List.replicate 1001 [(0 : Int)]).flatten) [0, 1001, 0] = false := by decide +kernel
theorem k5_t1 : tnSh [false, true] ((List.replicate 3000 [(0 : Int), 1]).flatten) 1 = false := by
  have h : ¬ ((List.replicate 3000 [(0 : Int), 1]).flatten).Nodup := by
    rw [List.replicate_succ, List.replicate_succ, List.flatten_cons, List.flatten_cons]
    intro hn
    exact (List.nodup_cons.mp hn).1 (List.mem_append_right [1] (List.mem_append_left _ List.mem_cons_self))
  unfold tnSh
  rw [decide_eq_false h, Bool.false_and, Bool.and_false]
theorem k5_t2 : Few ((List.replicate 3000 [(0 : Int), 1]).flatten) := by
  refine ⟨by rw [rep_len2]; decide, [0, 1], by decide, fun x hx => ?_⟩
  obtain ⟨l, hl, hx⟩ := List.mem_flatten.mp hx
  rw [(List.mem_replicate.mp hl).2] at hx
  exact hx
theorem ln_law05 {K : PySem.W.Frag} {C : CA} {vs : List V} {H : Hp} {Q : VK} {E : XK} (h : sp_law05 K C vs H Q E) : vs.length = 1 := by
  obtain ⟨_, ⟨a, ns, _, rfl, _⟩, _⟩ := h
  rfl
theorem prT_rep {H : Hp} {t : Addr} {p : Int × Int} (h : H t = some (.tup [.int p.1, .int p.2])) : ∀ n, PrT H (List.replicate n [V.ref t]).flatten (List.replicate n [p]).flatten
  | 0 => .nil
  | n + 1 => by
    rw [List.replicate_succ, List.replicate_succ, List.flatten_cons, List.flatten_cons]
    exact .cons ⟨t, rfl, h⟩ (prT_rep h n)
theorem rep_len {α : Type} (n : Nat) (x : α) : ((List.replicate n [x]).flatten).length = n := by
  simp [List.length_flatten]
theorem pu_law05 {K : PySem.W.Frag} {C : CA} {vs : List V} {H : Hp} {Q : VK} {E : XK} (h : sp_law05 K C vs H Q E) : rd_law05 K C { nx := fun _ H' => Q .non H', rt := Q } (start N_law05 vs) H := by
  obtain ⟨_, ⟨a, ns, hX, rfl, hs, hns, rfl⟩, k⟩ := h
  refine body_V ?_ k
  unfold rd_law05
  refine ws_cut (fun σ s => ∃ w : Int, σ = [some (.ref a), some (.int w), none, none, none, none, none, none, none, none] ∧ s = ⟨[], []⟩) ?_ ?_
  · walk_at "bm"
    refine wsl_L (isL_old hs) fun p hp => ?_
    rw [cut_hi (by omega), ← List.map_take]
    walk_at "bm"
    refine wl_sum (by walk_at "isl") ?_
    walk_at "bm"
    exact ⟨_, by walk_at "sub", _, rfl, rfl⟩
  rintro σ s ⟨w, rfl, rfl⟩
  refine ws_cut (fun σ s => ∃ x2 x3 x4 x5 x6 x7 x8 x9, σ = [some (.ref a), some (.int w), x2, x3, x4, x5, x6, x7, x8, x9] ∧ s = ⟨[], []⟩) ?_ ?_
  · walk_at "bm"
    refine ⟨by decide, fun q0 hq0 => ?_⟩
    refine ⟨_, rfl, ⟨_, by walk_at "isl"⟩, ?_⟩
    refine lp_list (xs := [0, 1, 2].map V.int) (n := 3) (fun i σ s => ∃ x2 x3 x4 x5 x6 x7 x8 x9, σ = [some (.ref a), some (.int w), x2, x3, x4, x5, x6, x7, x8, x9] ∧ s = ⟨[(q0, .lst ([0, 1, 2].map V.int))], []⟩) rfl ⟨none, none, none, none, none, none, none, none, rfl, rfl⟩ (fun i σ s hi ⟨_, _, _, _, _, _, _, _, _, e⟩ => by rw [e]; walk_at "isl") ?_ (fun σ s ⟨x2, x3, x4, x5, x6, x7, x8, x9, e1, e2⟩ => ⟨⟨[], []⟩, ⟨List.nil_sublist _, List.nil_sublist _⟩, x2, x3, x4, x5, x6, x7, x8, x9, e1, rfl⟩)
    rintro i y σ s hi hy ⟨x2, x3, x4, x5, x6, x7, x8, x9, rfl, rfl⟩
    obtain ⟨by0, hby, rfl⟩ := getI hy
    have hb3 : 0 ≤ by0 ∧ by0 ≤ 2 := by
      have : by0 ∈ ([0, 1, 2] : List Int) := List.mem_of_getElem? hby
      simp at this
      omega
    refine wg_name ?_
    refine ws_seq ?_
    walk_at "bn"
    refine c__law_row (isL_old hs) hns (by omega) fun r hr _ => ?_
    refine ws_base fun H1 w1 => ?_
    clear w1
    refine ws_cut (fun σ s => σ = [some (.ref a), some (.int w), some (.int by0), some (.str (T r)), x4, x5, x6, x7, x8, x9] ∧ s = ⟨[], []⟩) ?_ ?_
    · walk_at "bm"
      refine ⟨fun h => ?_, fun h => ?_⟩
      · have h0 : hgt r = 0 := by
          have := of_decide_eq_true h
          rw [hgt_count]
          omega
        walk_at "bm"
        refine c__law_even_right hX (by omega) h0 ?_
        walk_at "bm"
        exact ⟨_, Sub.refl _, rfl, rfl⟩
      · walk_at "bm"
        exact ⟨_, Sub.refl _, rfl, rfl⟩
    rintro σ s ⟨rfl, rfl⟩
    refine ws_cut (fun σ s => ∃ x4 x8, σ = [some (.ref a), some (.int w), some (.int by0), some (.str (T r)), x4, x5, x6, x7, x8, x9] ∧ s = ⟨[], []⟩) ?_ ?_
    · walk_at "bm"
      refine ⟨by decide, ?_⟩
      refine lp_rng (fun i σ s => ∃ x4 x8, σ = [some (.ref a), some (.int w), some (.int by0), some (.str (T r)), x4, x5, x6, x7, x8, x9] ∧ s = ⟨[], []⟩) ⟨x4, x8, rfl, rfl⟩ ?_ (fun σ s ⟨x4, x8, e1, e2⟩ => ⟨_, Sub.refl _, x4, x8, e1, e2⟩)
      rintro j σ s hj ⟨x4, x8, rfl, rfl⟩
      obtain ⟨z, hz⟩ : ∃ z : Int, -13 + (j : Int) = z := ⟨_, rfl⟩
      rw [hz]
      refine wg_name ?_
      refine ws_seq ?_
      walk_at "bn"
      refine we_uneven hX.e2.u ?_
      walk_at "bm"
      intro x dx hx
      walk_at "bm"
      refine ⟨_, _, _, _, _, rfl, own_l (by walk_at "mem"), hX.e2.u.c.cl, hX.e2.u.n, rfl, ?_⟩
      walk_at "bm"
      refine spl_f (by simp) ?_
      walk_at "bm"
      refine c__law_uneven (by omega) ?_
      walk_at "bm"
      refine c__law_says05 (fun r => unSh r z) hX (fun H' o => .inl ⟨dx, z, own_l (by walk_at "mem") H' o, rfl⟩) (by omega) ?_
      walk_at "bm"
      refine spl_f (by simp) ?_
      walk_at "bm"
      exact ⟨_, by walk_at "sub", _, _, rfl, rfl⟩
    rintro σ s ⟨x4, x8, rfl, rfl⟩
    refine ws_cut (fun σ s => σ = [some (.ref a), some (.int w), some (.int by0), some (.str (T r)), x4, x5, x6, x7, x8, x9] ∧ s = ⟨[], []⟩) ?_ ?_
    · walk_at "bm"
      refine we_mk0 fun x d hx => ?_
      walk_at "bm"
      refine c__law_says05 odSh hX (fun H' o => .inr (.inl ⟨d, own_l (by walk_at "mem") H' o, rfl⟩)) (by omega) ?_
      walk_at "bm"
      refine spl_f (by unfold odSh; simp) ?_
      walk_at "bm"
      refine we_uneven hX.e2.u ?_
      walk_at "bm"
      refine w2_pow ⟨by decide, by decide, by decide⟩ ?_
      rw [show (10 : Int) ^ (20 : Int).toNat = 100000000000000000000 from by decide +kernel]
      walk_at "bm"
      intro x2 dx2 hx2
      walk_at "bm"
      refine c__law_says05 (fun r => unSh r 100000000000000000000) hX (fun H' o => .inl ⟨dx2, 100000000000000000000, own_l (by walk_at "mem") H' o, rfl⟩) (by omega) ?_
      rw [unSh_big (by omega)]
      walk_at "bm"
      exact ⟨_, by walk_at "sub", rfl, rfl⟩
    rintro σ s ⟨rfl, rfl⟩
    refine ws_cut (fun σ s => ∃ x, σ = [some (.ref a), some (.int w), some (.int by0), some (.str (T r)), x4, some (.ref x), x6, x7, x8, x9] ∧ ((∃ (d b : Addr) (z : Int) (ns : List Int), s = ⟨[(b, .lst (ns.map V.int)), (x, tIns C d b z)], []⟩ ∧ ns.length ≤ 40) ∨ ∃ d, s = ⟨[(x, oIns C d)], []⟩)) ?_ ?_
    · walk_at "bm"
      by_cases hev : r.length % 2 = 0
      · refine c_turns_ev hX.e3 (by omega) hev fun x d b c ps g1 g2 g3 g4 g5 g6 => ?_
        have hp40 : (inz ps).length ≤ 40 := by
          have := nodup_len g3 (s := List.range r.length) fun p hp => List.mem_range.mpr (g4 p hp)
          rw [List.length_range] at this
          rw [List.length_map]
          omega
        clear g5 g6
        walk_at "bm"
        exact ⟨_, Sub.refl _, x, rfl, .inl ⟨d, b, (c : Int), inz ps, rfl, hp40⟩⟩
      · refine c_turns_odd hX.e3 (by omega) (by omega) fun x d => ?_
        walk_at "bm"
        exact ⟨_, Sub.refl _, x, rfl, .inr ⟨d, rfl⟩⟩
    rintro σ s ⟨x, rfl, hA⟩
    refine ws_base fun H2 w2 => ?_
    have hB : (∃ (d b : Addr) (z : Int) (ns : List Int), H2 x = some (tIns C d b z) ∧ H2 b = some (.lst (ns.map V.int)) ∧ ns.length ≤ 40) ∨ ∃ d, H2 x = some (oIns C d) := by
      rcases hA with ⟨d, b, z, ns, rfl, hn⟩ | ⟨d, rfl⟩
      · exact .inl ⟨d, b, z, ns, (w2.own (x, tIns C d b z) (by simp)).2, (w2.own (b, .lst (ns.map V.int)) (by simp)).2, hn⟩
      · exact .inr ⟨d, (w2.own (x, oIns C d) (by simp)).2⟩
    clear w2 hA
    refine ws_cut (fun σ s => ∃ (pl : Addr) (ms : List Int), σ = [some (.ref a), some (.int w), some (.int by0), some (.str (T r)), x4, some (.ref x), some (.ref pl), x7, x8, x9] ∧ ms.length ≤ 40 ∧ ∀ H3, Own H2 H3 s → H3 pl = some (.lst (ms.map V.int))) ?_ ?_
    · rcases hB with ⟨d, b, z, ns, hx, hb, hn⟩ | ⟨d, hx⟩
      · walk_at "bm"
        refine wl_isiC (fun H' o => hX.e3.t.c.ty (o.ex _ _ hx)) (kit_self _ _) ?_
        walk_at "bm"
        refine ⟨_, _, _, _, _, rfl, fun H' o => o.ex _ _ hx, hX.e3.t.c.cl, hX.e3.t.np, rfl, ?_⟩
        exact ⟨_, Sub.refl _, b, ns, rfl, hn, fun H3 o => o.ex _ _ hb⟩
      · walk_at "bm"
        refine wl_isiC (fun H' o => hX.e3.o.ty (o.ex _ _ hx)) hX.e3.ot ?_
        walk_at "bm"
        refine ⟨by simp, fun p hp => ?_⟩
        exact ⟨_, Sub.refl _, p, [0], rfl, by simp, fun H3 o => (o.own _ (by walk_at "mem")).2⟩
    rintro σ s ⟨pl, ms, rfl, hms, hpl0⟩
    refine ws_base fun H3 w3 => ?_
    have hpl := hpl0 H3 w3
    have hC : (∃ (d b : Addr) (z : Int), H3 x = some (tIns C d b z)) ∨ ∃ d, H3 x = some (oIns C d) := by
      rcases hB with ⟨d, b, z, ns, hx, _, _⟩ | ⟨d, hx⟩
      · exact .inl ⟨d, b, z, w3.ex _ _ hx⟩
      · exact .inr ⟨d, w3.ex _ _ hx⟩
    clear w3 hB hpl0
    have hcut : ∀ (σ : L2.St) (s : Ld) (Q : V → Ld → Prop), σ[5]? = some (some (V.ref x)) → (∀ z, Q (.int z) s) → WE H3 (tIf (tB (tCB (aIsiC K C.c_Turned) (tCons (tVar 5) (tCons (tC (.ref C.c_Turned)) tNil)))) (tFld K (tVar 5) "cut") (tC (.int 0))) σ s Q := by
      intro σ s Q hσ q
      rcases hC with ⟨d, b, z, hx⟩ | ⟨d, hx⟩
      · refine we_if (wt_B (we_cb (wa_cons (we_var hσ (wa_cons (we_c (wa_nil ?_)))))))
        refine wl_isiC (fun H' o => hX.e3.t.c.ty (o.ex _ _ hx)) (kit_self _ _) ?_
        refine ⟨true, rfl, fun _ => ?_, (fun h => nomatch h)⟩
        refine we_fld (we_var hσ ⟨x, _, d, _, .int z, rfl, fun H' o => o.ex _ _ hx, hX.e3.t.c.cl, hX.e3.t.nc, rfl, q z⟩)
      · refine we_if (wt_B (we_cb (wa_cons (we_var hσ (wa_cons (we_c (wa_nil ?_)))))))
        refine wl_isiC (fun H' o => hX.e3.o.ty (o.ex _ _ hx)) hX.e3.ot ?_
        refine ⟨false, rfl, (fun h => nomatch h), fun _ => ?_⟩
        exact we_c (q 0)
    refine ws_cut (fun σ s => ∃ x7 x9, σ = [some (.ref a), some (.int w), some (.int by0), some (.str (T r)), x4, some (.ref x), some (.ref pl), x7, x8, x9] ∧ s = ⟨[], []⟩) ?_ ?_
    · walk_at "bm"
      refine c__law_bent (fun H' o => o.ex _ _ hpl) (by omega) fun p s' xs hp hLL hxl => ?_
      refine ⟨p, rfl, ⟨_, isL_own (List.mem_append_left _ hp)⟩, ?_⟩
      refine lp_list (xs := xs) (fun i σ s => ∃ x7 x9, σ = [some (.ref a), some (.int w), some (.int by0), some (.str (T r)), x4, some (.ref x), some (.ref pl), x7, x8, x9] ∧ s = ⟨s'.L ++ [], s'.T ++ []⟩) rfl ⟨x7, x9, rfl, rfl⟩ (fun i σ s _ ⟨_, _, _, e⟩ => by rw [e]; exact isL_own (List.mem_append_left _ hp)) ?_ (fun σ s ⟨x7, x9, e1, e2⟩ => ⟨⟨[], []⟩, ⟨List.nil_sublist _, List.nil_sublist _⟩, x7, x9, e1, rfl⟩)
      rintro j v σ s hj hv ⟨x7, x9, rfl, rfl⟩
      obtain ⟨u, ms2, rfl, hm, hu⟩ := hLL v (List.mem_of_getElem? hv)
      refine wg_name ?_
      refine ws_for (wi_list (we_lst (wa_cons ?_)))
      refine hcut _ _ _ rfl fun z => ?_
      walk_at "bm"
      refine w2_pow ⟨by decide, by decide, by decide⟩ ?_
      obtain ⟨big, hbig⟩ : ∃ big : Int, (10 : Int) ^ (20 : Int).toNat = big := ⟨_, rfl⟩
      rw [hbig]
      walk_at "bm"
      refine ⟨by simp, fun q1 hq1 => ?_⟩
      refine ⟨q1, rfl, ⟨_, isL_own List.mem_cons_self⟩, ?_⟩
      refine lp_list (xs := [z, w % ((r.length : Int) + 1), -1, big].map V.int) (fun i σ s => ∃ x9, σ = [some (.ref a), some (.int w), some (.int by0), some (.str (T r)), x4, some (.ref x), some (.ref pl), some (.ref u), x8, x9] ∧ s = ⟨(q1, .lst ([z, w % ((r.length : Int) + 1), -1, big].map V.int)) :: (s'.L ++ []), s'.T ++ []⟩) rfl ⟨x9, rfl, rfl⟩ (fun i σ s _ ⟨_, _, e⟩ => by rw [e]; exact isL_own List.mem_cons_self) ?_ (fun σ s ⟨x9, e1, e2⟩ => ⟨⟨s'.L ++ [], s'.T ++ []⟩, by rw [e2]; exact ⟨.cons _ (.refl _), .refl _⟩, _, x9, e1, rfl⟩)
      rintro i2 v2 σ s hi2 hv2 ⟨x9, rfl, rfl⟩
      obtain ⟨z2, hz2, rfl⟩ := getI hv2
      have hu2 : IsL K H3 ⟨(q1, .lst ([z, w % ((r.length : Int) + 1), -1, big].map V.int)) :: (s'.L ++ []), s'.T ++ []⟩ u (ms2.map V.int) := fun H' o => hu H' (o.dropL (.cons _ (.refl _)) fun _ h => h)
      refine wg_name ?_
      walk_at "bm"
      refine c__law_turned_right hX hu2 (by omega) (by omega) ?_
      walk_at "bm"
      exact ⟨_, Sub.refl _, _, rfl, rfl⟩
    rintro σ s ⟨x7, x9, rfl, rfl⟩
    walk_at "bm"
    refine ⟨by omega, ?_⟩
    refine cp_rng (fun i => List.replicate i (.bl true)) (by omega) rfl (fun i _ => by simp) ?_ ?_
    · intro D i hi
      walk_at "bm"
      refine ⟨rfl, ?_⟩
      walk_at "bm"
      refine c__law_turned_right hX (isL_old (sq_of hpl)) (by omega) (by omega) ?_
      exact ⟨Sub.refl _, List.replicate_succ'⟩
    intro D hD
    walk_at "bm"
    refine wl_all (bs := List.replicate _ true) (by rw [rep_map]; walk_at "isl") ?_
    rw [rep_true]
    walk_at "bm"
    exact ⟨_, Sub.refl _, _, _, _, _, _, _, _, _, rfl, rfl⟩
  rintro σ s ⟨x2, x3, x4, x5, x6, x7, x8, x9, rfl, rfl⟩
  refine ws_seq ?_
  walk_at "bn"
  refine we_rounded hX.e4.r ?_
  walk_at "bm"
  refine ⟨by simp, fun t1 h1 => ?_⟩
  walk_at "bm"
  refine ⟨by simp, fun t2 h2 => ?_⟩
  walk_at "bm"
  refine ⟨by simp, fun q1 g1 => ?_⟩
  walk_at "bm"
  refine ⟨q1, _, some 6, rfl, by walk_at "mem", fun x dx a2 hx ha2 => ?_⟩
  walk_at "bm"
  refine c_r_shows hX.e4.r (d := dx) (a := a2) (xs := [.ref t1, .ref t2]) (ps := [(0, 6), (6, 12)]) (t := some 6) (own_l (by walk_at "mem")) (isL_own (by walk_at "mem")) (fun H' o => .cons ⟨t1, rfl, o.tp (t1, [.int 0, .int 6]) (by walk_at "mem")⟩ (.cons ⟨t2, rfl, o.tp (t2, [.int 6, .int 12]) (by walk_at "mem")⟩ .nil)) (by simp) (by simp) ?_
  rw [k5_r1]
  walk_at "bn"
  refine ws_base fun H1 w1 => ?_
  clear w1
  refine ws_cut (fun σ s => σ = [some (.ref a), some (.int w), x2, x3, x4, x5, x6, x7, x8, x9] ∧ s = ⟨[], []⟩) ?_ ?_
  · walk_at "bn"
    refine we_swapped hX.e2.s ?_
    walk_at "bm"
    refine ⟨by simp, fun q hq => ?_⟩
    walk_at "bm"
    refine w2_rep (xs := [V.int 0]) (by walk_at "mem") (by decide) (by decide) fun p hp => ?_
    rw [show (List.replicate (1001 : Int).toNat [V.int 0]).flatten = ((List.replicate 1001 [(0 : Int)]).flatten).map V.int from rep_ints 1001 [0]]
    walk_at "bm"
    refine ⟨by simp, fun q2 hq2 => ?_⟩
    walk_at "bm"
    refine ⟨p, q2, (List.replicate 1001 [0]).flatten, [0, 1, 0], rfl, by walk_at "mem", by walk_at "mem", fun x dx a2 b2 hx ha2 hb2 => ?_⟩
    walk_at "bm"
    refine c_s_shows hX.e2.s (d := dx) (a := a2) (b := b2) (ps := (List.replicate 1001 [0]).flatten) (ls := [0, 1, 0]) (own_l (by walk_at "mem")) (isL_own (by walk_at "mem")) (isL_own (by walk_at "mem")) (by simp) ?_
    rw [k5_s1]
    walk_at "bn"
    refine we_turned hX.e3.t ?_
    walk_at "bm"
    refine ⟨by simp, fun q3 hq3 => ?_⟩
    walk_at "bm"
    refine w2_rep (xs := [V.int 0, V.int 1]) (by walk_at "mem") (by decide) (by decide) fun p2 hp2 => ?_
    rw [show (List.replicate (3000 : Int).toNat [V.int 0, V.int 1]).flatten = ((List.replicate 3000 [(0 : Int), 1]).flatten).map V.int from rep_ints 3000 [0, 1]]
    walk_at "bm"
    refine ⟨p2, (List.replicate 3000 [0, 1]).flatten, 1, rfl, by walk_at "mem", fun x2 dx2 a3 hx2 ha3 => ?_⟩
    walk_at "bm"
    refine c_t_shows hX.e3.t (d := dx2) (a := a3) (ps := (List.replicate 3000 [0, 1]).flatten) (z := 1) (own_l (by walk_at "mem")) (isL_own (by walk_at "mem")) k5_t2 (by simp) ?_
    rw [k5_t1]
    walk_at "bn"
    exact ⟨⟨[], []⟩, ⟨List.nil_sublist _, List.nil_sublist _⟩, rfl, rfl⟩
  rintro σ s ⟨rfl, rfl⟩
  refine ws_cut (fun σ s => σ = [some (.ref a), some (.int w), x2, x3, x4, x5, x6, x7, x8, x9] ∧ s = ⟨[], []⟩) ?_ ?_
  · walk_at "bn"
    refine we_rounded hX.e4.r ?_
    walk_at "bm"
    refine ⟨by simp, fun t1 h1 => ?_⟩
    walk_at "bm"
    refine ⟨by simp, fun q1 g1 => ?_⟩
    walk_at "bm"
    refine w2_rep (xs := [V.ref t1]) (by walk_at "mem") (by decide) (by show 1 * 4001 ≤ 100000; decide) fun p hp => ?_
    rw [show (4001 : Int).toNat = 4001 from rfl]
    walk_at "bm"
    refine ⟨p, _, none, rfl, by walk_at "mem", fun x dx a2 hx ha2 => ?_⟩
    walk_at "bm"
    refine c_r_shows hX.e4.r (d := dx) (a := a2) (xs := (List.replicate 4001 [V.ref t1]).flatten) (ps := (List.replicate 4001 [(0, 2)]).flatten) (t := none) (own_l (by walk_at "mem")) (isL_own (by walk_at "mem")) (fun H' o => prT_rep (p := (0, 2)) (o.tp (t1, [.int 0, .int 2]) (by walk_at "mem")) 4001) (by rw [rep_len]; decide) (by simp) ?_
    rw [rnSh_bad (fun h => by have := h.2; rw [rep_len] at this; omega)]
    walk_at "bn"
    refine we_swapped hX.e2.s ?_
    walk_at "bm"
    refine ⟨by simp, fun q hq => ?_⟩
    walk_at "bm"
    refine w2_rep (xs := [V.int 0]) (by walk_at "mem") (by decide) (by decide) fun p3 hp3 => ?_
    rw [show (List.replicate (1001 : Int).toNat [V.int 0]).flatten = ((List.replicate 1001 [(0 : Int)]).flatten).map V.int from rep_ints 1001 [0]]
    walk_at "bm"
    refine ⟨by simp, fun q2 hq2 => ?_⟩
    walk_at "bm"
    refine ⟨p3, q2, (List.replicate 1001 [0]).flatten, [0, 1001, 0], rfl, by walk_at "mem", by walk_at "mem", fun x3 dx3 a3 b3 hx ha2 hb2 => ?_⟩
    walk_at "bm"
    refine c_s_shows hX.e2.s (d := dx3) (a := a3) (b := b3) (ps := (List.replicate 1001 [0]).flatten) (ls := [0, 1001, 0]) (own_l (by walk_at "mem")) (isL_own (by walk_at "mem")) (isL_own (by walk_at "mem")) (by simp) ?_
    rw [k5_s2]
    walk_at "bn"
    exact ⟨⟨[], []⟩, ⟨List.nil_sublist _, List.nil_sublist _⟩, rfl, rfl⟩
  rintro σ s ⟨rfl, rfl⟩
  walk_at "bn"
  refine we_rounded hX.e4.r ?_
  walk_at "bm"
  refine ⟨by simp, fun t3 h3 => ?_⟩
  walk_at "bm"
  refine ⟨by simp, fun t4 h4 => ?_⟩
  walk_at "bm"
  refine ⟨by simp, fun q5 g5 => ?_⟩
  walk_at "bm"
  refine ⟨q5, _, some 4, rfl, by walk_at "mem", fun x dx a2 hx ha2 => ?_⟩
  walk_at "bm"
  refine c_r_shows hX.e4.r (d := dx) (a := a2) (xs := [.ref t3, .ref t4]) (ps := [(0, 4), (4, 8)]) (t := some 4) (own_l (by walk_at "mem")) (isL_own (by walk_at "mem")) (fun H' o => .cons ⟨t3, rfl, o.tp (t3, [.int 0, .int 4]) (by walk_at "mem")⟩ (.cons ⟨t4, rfl, o.tp (t4, [.int 4, .int 8]) (by walk_at "mem")⟩ .nil)) (by simp) (by simp) ?_
  rw [k5_r2]
  walk_at "bn"
  refine we_rounded hX.e4.r ?_
  walk_at "bm"
  refine ⟨by simp, fun t5 h5 => ?_⟩
  walk_at "bm"
  refine ⟨by simp, fun q6 g6 => ?_⟩
  walk_at "bm"
  refine ⟨q6, _, none, rfl, by walk_at "mem", fun x dx a2 hx ha2 => ?_⟩
  walk_at "bm"
  refine c_r_shows hX.e4.r (d := dx) (a := a2) (xs := [.ref t5]) (ps := [(0, 8)]) (t := none) (own_l (by walk_at "mem")) (isL_own (by walk_at "mem")) (fun H' o => .cons ⟨t5, rfl, o.tp (t5, [.int 0, .int 8]) (by walk_at "mem")⟩ .nil) (by simp) (by simp) ?_
  rw [k5_r3]
  walk_at "bm"
end BM
namespace BM
open PySem L2 Evl PyProof.Rows
def top (i : Nat) : Stmt := PySem.Challenge.pw_bracketmend_k05_by_hand.main.body.getD i (.Pass ⟨0, 0, 0, 0⟩)
abbrev s_is_whole : Stmt := top 5
theorem sc_is_whole : FnScope N_is_whole ["thing"] (defScope s_is_whole) := ⟨rfl, rfl, rfl, by decide +kernel, rfl, by decide +kernel, by decide +kernel⟩
abbrev s_asked_row : Stmt := top 6
theorem sc_asked_row : FnScope N_asked_row ["row"] (defScope s_asked_row) := ⟨rfl, rfl, rfl, by decide +kernel, rfl, by decide +kernel, by decide +kernel⟩
abbrev s_deepens : Stmt := top 7
theorem sc_deepens : FnScope N_deepens ["bracket"] (defScope s_deepens) := ⟨rfl, rfl, rfl, by decide +kernel, rfl, by decide +kernel, by decide +kernel⟩
abbrev s_depths_of : Stmt := top 8
theorem sc_depths_of : FnScope N_depths_of ["row"] (defScope s_depths_of) := ⟨rfl, rfl, rfl, by decide +kernel, rfl, by decide +kernel, by decide +kernel⟩
abbrev s_is_right_row : Stmt := top 9
theorem sc_is_right_row : FnScope N_is_right_row ["row"] (defScope s_is_right_row) := ⟨rfl, rfl, rfl, by decide +kernel, rfl, by decide +kernel, by decide +kernel⟩
abbrev s_flipped : Stmt := top 10
theorem sc_flipped : FnScope N_flipped ["bracket"] (defScope s_flipped) := ⟨rfl, rfl, rfl, by decide +kernel, rfl, by decide +kernel, by decide +kernel⟩
abbrev s_swapped : Stmt := top 11
theorem sc_swapped : FnScope N_swapped ["row", "place"] (defScope s_swapped) := ⟨rfl, rfl, rfl, by decide +kernel, rfl, by decide +kernel, by decide +kernel⟩
abbrev s_turned : Stmt := top 12
theorem sc_turned : FnScope N_turned ["row", "places"] (defScope s_turned) := ⟨rfl, rfl, rfl, by decide +kernel, rfl, by decide +kernel, by decide +kernel⟩
abbrev s_rounded : Stmt := top 13
theorem sc_rounded : FnScope N_rounded ["row", "first", "behind"] (defScope s_rounded) := ⟨rfl, rfl, rfl, by decide +kernel, rfl, by decide +kernel, by decide +kernel⟩
abbrev s_is_stretch : Stmt := top 14
theorem sc_is_stretch : FnScope N_is_stretch ["row", "thing"] (defScope s_is_stretch) := ⟨rfl, rfl, rfl, by decide +kernel, rfl, by decide +kernel, by decide +kernel⟩
abbrev s_u_init : Stmt := inClass (top 17) 0
theorem sc_u_init : FnScope N_u_init ["self", "depth"] (defScope s_u_init) := ⟨rfl, rfl, rfl, by decide +kernel, rfl, by decide +kernel, by decide +kernel⟩
abbrev s_u_shows : Stmt := inClass (top 17) 1
theorem sc_u_shows : FnScope N_u_shows ["self", "row"] (defScope s_u_shows) := ⟨rfl, rfl, rfl, by decide +kernel, rfl, by decide +kernel, by decide +kernel⟩
abbrev s_o_shows : Stmt := inClass (top 18) 0
theorem sc_o_shows : FnScope N_o_shows ["self", "row"] (defScope s_o_shows) := ⟨rfl, rfl, rfl, by decide +kernel, rfl, by decide +kernel, by decide +kernel⟩
abbrev s_s_init : Stmt := inClass (top 19) 0
theorem sc_s_init : FnScope N_s_init ["self", "places", "lifts"] (defScope s_s_init) := ⟨rfl, rfl, rfl, by decide +kernel, rfl, by decide +kernel, by decide +kernel⟩
abbrev s_s_shows : Stmt := inClass (top 19) 1
theorem sc_s_shows : FnScope N_s_shows ["self", "row"] (defScope s_s_shows) := ⟨rfl, rfl, rfl, by decide +kernel, rfl, by decide +kernel, by decide +kernel⟩
abbrev s_t_init : Stmt := inClass (top 20) 0
theorem sc_t_init : FnScope N_t_init ["self", "places", "cut"] (defScope s_t_init) := ⟨rfl, rfl, rfl, by decide +kernel, rfl, by decide +kernel, by decide +kernel⟩
abbrev s_t_shows : Stmt := inClass (top 20) 1
theorem sc_t_shows : FnScope N_t_shows ["self", "row"] (defScope s_t_shows) := ⟨rfl, rfl, rfl, by decide +kernel, rfl, by decide +kernel, by decide +kernel⟩
abbrev s_below : Stmt := top 21
theorem sc_below : FnScope N_below ["row"] (defScope s_below) := ⟨rfl, rfl, rfl, by decide +kernel, rfl, by decide +kernel, by decide +kernel⟩
abbrev s_r_init : Stmt := inClass (top 22) 0
theorem sc_r_init : FnScope N_r_init ["self", "stretches", "top"] (defScope s_r_init) := ⟨rfl, rfl, rfl, by decide +kernel, rfl, by decide +kernel, by decide +kernel⟩
abbrev s_r_shows : Stmt := inClass (top 22) 1
theorem sc_r_shows : FnScope N_r_shows ["self", "row"] (defScope s_r_shows) := ⟨rfl, rfl, rfl, by decide +kernel, rfl, by decide +kernel, by decide +kernel⟩
abbrev s_swaps : Stmt := top 24
theorem sc_swaps : FnScope N_swaps ["row"] (defScope s_swaps) := ⟨rfl, rfl, rfl, by decide +kernel, rfl, by decide +kernel, by decide +kernel⟩
abbrev s_turns : Stmt := top 25
theorem sc_turns : FnScope N_turns ["row"] (defScope s_turns) := ⟨rfl, rfl, rfl, by decide +kernel, rfl, by decide +kernel, by decide +kernel⟩
abbrev s_rounds : Stmt := top 26
theorem sc_rounds : FnScope N_rounds ["row"] (defScope s_rounds) := ⟨rfl, rfl, rfl, by decide +kernel, rfl, by decide +kernel, by decide +kernel⟩
abbrev s__law_number : Stmt := top 28
theorem sc__law_number : FnScope N__law_number ["_law_cell", "_law_at", "_law_whole"] (defScope s__law_number) := ⟨rfl, rfl, rfl, by decide +kernel, rfl, by decide +kernel, by decide +kernel⟩
abbrev s__law_row : Stmt := top 29
theorem sc__law_row : FnScope N__law_row ["_law_script", "_law_by", "_law_most", "_law_even"] (defScope s__law_row) := ⟨rfl, rfl, rfl, by decide +kernel, rfl, by decide +kernel, by decide +kernel⟩
abbrev s__law_depths : Stmt := top 30
theorem sc__law_depths : FnScope N__law_depths ["_law_row_here"] (defScope s__law_depths) := ⟨rfl, rfl, rfl, by decide +kernel, rfl, by decide +kernel, by decide +kernel⟩
abbrev s__law_good : Stmt := top 31
theorem sc__law_good : FnScope N__law_good ["_law_row_here"] (defScope s__law_good) := ⟨rfl, rfl, rfl, by decide +kernel, rfl, by decide +kernel, by decide +kernel⟩
abbrev s__law_swap : Stmt := top 32
theorem sc__law_swap : FnScope N__law_swap ["_law_row_here", "_law_place"] (defScope s__law_swap) := ⟨rfl, rfl, rfl, by decide +kernel, rfl, by decide +kernel, by decide +kernel⟩
abbrev s__law_swapped : Stmt := top 33
theorem sc__law_swapped : FnScope N__law_swapped ["_law_row_here", "_law_places", "_law_lifts"] (defScope s__law_swapped) := ⟨rfl, rfl, rfl, by decide +kernel, rfl, by decide +kernel, by decide +kernel⟩
abbrev s__law_over : Stmt := top 34
theorem sc__law_over : FnScope N__law_over ["_law_row_here", "_law_places"] (defScope s__law_over) := ⟨rfl, rfl, rfl, by decide +kernel, rfl, by decide +kernel, by decide +kernel⟩
abbrev s__law_turned : Stmt := top 35
theorem sc__law_turned : FnScope N__law_turned ["_law_row_here", "_law_places", "_law_cut"] (defScope s__law_turned) := ⟨rfl, rfl, rfl, by decide +kernel, rfl, by decide +kernel, by decide +kernel⟩
abbrev s__law_round : Stmt := top 36
theorem sc__law_round : FnScope N__law_round ["_law_row_here", "_law_stretches"] (defScope s__law_round) := ⟨rfl, rfl, rfl, by decide +kernel, rfl, by decide +kernel, by decide +kernel⟩
abbrev s__law_rounded : Stmt := top 37
theorem sc__law_rounded : FnScope N__law_rounded ["_law_row_here", "_law_stretches", "_law_top"] (defScope s__law_rounded) := ⟨rfl, rfl, rfl, by decide +kernel, rfl, by decide +kernel, by decide +kernel⟩
abbrev s__law_uneven : Stmt := top 38
theorem sc__law_uneven : FnScope N__law_uneven ["_law_row_here", "_law_depth"] (defScope s__law_uneven) := ⟨rfl, rfl, rfl, by decide +kernel, rfl, by decide +kernel, by decide +kernel⟩
abbrev s__law_says05 : Stmt := top 39
theorem sc__law_says05 : FnScope N__law_says05 ["_law_answer", "_law_row_here", "_law_due"] (defScope s__law_says05) := ⟨rfl, rfl, rfl, by decide +kernel, rfl, by decide +kernel, by decide +kernel⟩
abbrev s__law_put : Stmt := top 40
theorem sc__law_put : FnScope N__law_put ["_law_row_here", "_law_at", "_law_thing"] (defScope s__law_put) := ⟨rfl, rfl, rfl, by decide +kernel, rfl, by decide +kernel, by decide +kernel⟩
abbrev s__law_bent : Stmt := top 41
theorem sc__law_bent : FnScope N__law_bent ["_law_row_here", "_law_more"] (defScope s__law_bent) := ⟨rfl, rfl, rfl, by decide +kernel, rfl, by decide +kernel, by decide +kernel⟩
abbrev s__law_swapped_right : Stmt := top 42
theorem sc__law_swapped_right : FnScope N__law_swapped_right ["_law_row_here", "_law_places", "_law_lifts"] (defScope s__law_swapped_right) := ⟨rfl, rfl, rfl, by decide +kernel, rfl, by decide +kernel, by decide +kernel⟩
abbrev s__law_turned_right : Stmt := top 43
theorem sc__law_turned_right : FnScope N__law_turned_right ["_law_row_here", "_law_places", "_law_cut"] (defScope s__law_turned_right) := ⟨rfl, rfl, rfl, by decide +kernel, rfl, by decide +kernel, by decide +kernel⟩
abbrev s__law_rounded_right : Stmt := top 44
theorem sc__law_rounded_right : FnScope N__law_rounded_right ["_law_row_here", "_law_stretches", "_law_top"] (defScope s__law_rounded_right) := ⟨rfl, rfl, rfl, by decide +kernel, rfl, by decide +kernel, by decide +kernel⟩
abbrev s__law_more_right : Stmt := top 45
theorem sc__law_more_right : FnScope N__law_more_right ["_law_row_here", "_law_told", "_law_spun"] (defScope s__law_more_right) := ⟨rfl, rfl, rfl, by decide +kernel, rfl, by decide +kernel, by decide +kernel⟩
abbrev s__law_even_right : Stmt := top 46
theorem sc__law_even_right : FnScope N__law_even_right ["_law_row_here", "_law_whole"] (defScope s__law_even_right) := ⟨rfl, rfl, rfl, by decide +kernel, rfl, by decide +kernel, by decide +kernel⟩
abbrev s_law05 : Stmt := top 47
theorem sc_law05 : FnScope N_law05 ["_law_script"] (defScope s_law05) := ⟨rfl, rfl, rfl, by decide +kernel, rfl, by decide +kernel, by decide +kernel⟩
structure Ads extends CA where
  f_is_whole : Addr
  d_is_whole : FuncData
  f_asked_row : Addr
  d_asked_row : FuncData
  f_deepens : Addr
  d_deepens : FuncData
  f_depths_of : Addr
  d_depths_of : FuncData
  f_is_right_row : Addr
  d_is_right_row : FuncData
  f_flipped : Addr
  d_flipped : FuncData
  f_swapped : Addr
  d_swapped : FuncData
  f_turned : Addr
  d_turned : FuncData
  f_rounded : Addr
  d_rounded : FuncData
  f_is_stretch : Addr
  d_is_stretch : FuncData
  f_u_init : Addr
  d_u_init : FuncData
  f_u_shows : Addr
  d_u_shows : FuncData
  f_o_shows : Addr
  d_o_shows : FuncData
  f_s_init : Addr
  d_s_init : FuncData
  f_s_shows : Addr
  d_s_shows : FuncData
  f_t_init : Addr
  d_t_init : FuncData
  f_t_shows : Addr
  d_t_shows : FuncData
  f_below : Addr
  d_below : FuncData
  f_r_init : Addr
  d_r_init : FuncData
  f_r_shows : Addr
  d_r_shows : FuncData
  f_swaps : Addr
  d_swaps : FuncData
  f_turns : Addr
  d_turns : FuncData
  f_rounds : Addr
  d_rounds : FuncData
  f__law_number : Addr
  d__law_number : FuncData
  f__law_row : Addr
  d__law_row : FuncData
  f__law_depths : Addr
  d__law_depths : FuncData
  f__law_good : Addr
  d__law_good : FuncData
  f__law_swap : Addr
  d__law_swap : FuncData
  f__law_swapped : Addr
  d__law_swapped : FuncData
  f__law_over : Addr
  d__law_over : FuncData
  f__law_turned : Addr
  d__law_turned : FuncData
  f__law_round : Addr
  d__law_round : FuncData
  f__law_rounded : Addr
  d__law_rounded : FuncData
  f__law_uneven : Addr
  d__law_uneven : FuncData
  f__law_says05 : Addr
  d__law_says05 : FuncData
  f__law_put : Addr
  d__law_put : FuncData
  f__law_bent : Addr
  d__law_bent : FuncData
  f__law_swapped_right : Addr
  d__law_swapped_right : FuncData
  f__law_turned_right : Addr
  d__law_turned_right : FuncData
  f__law_rounded_right : Addr
  d__law_rounded_right : FuncData
  f__law_more_right : Addr
  d__law_more_right : FuncData
  f__law_even_right : Addr
  d__law_even_right : FuncData
  f_law05 : Addr
  d_law05 : FuncData
structure Txt (K : PySem.W.Frag) (mg : Str → Option Value) (A : Ads) : Prop where
  F_is_whole : Fun K "is_whole" "is_whole" s_is_whole A.f_is_whole A.d_is_whole
  g_is_whole : mg "is_whole" = some (.ref A.f_is_whole)
  b_is_whole : Binds K A.d_is_whole ["thing"] []
  F_asked_row : Fun K "asked_row" "asked_row" s_asked_row A.f_asked_row A.d_asked_row
  g_asked_row : mg "asked_row" = some (.ref A.f_asked_row)
  b_asked_row : Binds K A.d_asked_row ["row"] []
  F_deepens : Fun K "deepens" "deepens" s_deepens A.f_deepens A.d_deepens
  g_deepens : mg "deepens" = some (.ref A.f_deepens)
  b_deepens : Binds K A.d_deepens ["bracket"] []
  F_depths_of : Fun K "depths_of" "depths_of" s_depths_of A.f_depths_of A.d_depths_of
  g_depths_of : mg "depths_of" = some (.ref A.f_depths_of)
  b_depths_of : Binds K A.d_depths_of ["row"] []
  F_is_right_row : Fun K "is_right_row" "is_right_row" s_is_right_row A.f_is_right_row A.d_is_right_row
  g_is_right_row : mg "is_right_row" = some (.ref A.f_is_right_row)
  b_is_right_row : Binds K A.d_is_right_row ["row"] []
  F_flipped : Fun K "flipped" "flipped" s_flipped A.f_flipped A.d_flipped
  g_flipped : mg "flipped" = some (.ref A.f_flipped)
  b_flipped : Binds K A.d_flipped ["bracket"] []
  F_swapped : Fun K "swapped" "swapped" s_swapped A.f_swapped A.d_swapped
  g_swapped : mg "swapped" = some (.ref A.f_swapped)
  b_swapped : Binds K A.d_swapped ["row", "place"] []
  F_turned : Fun K "turned" "turned" s_turned A.f_turned A.d_turned
  g_turned : mg "turned" = some (.ref A.f_turned)
  b_turned : Binds K A.d_turned ["row", "places"] []
  F_rounded : Fun K "rounded" "rounded" s_rounded A.f_rounded A.d_rounded
  g_rounded : mg "rounded" = some (.ref A.f_rounded)
  b_rounded : Binds K A.d_rounded ["row", "first", "behind"] []
  F_is_stretch : Fun K "is_stretch" "is_stretch" s_is_stretch A.f_is_stretch A.d_is_stretch
  g_is_stretch : mg "is_stretch" = some (.ref A.f_is_stretch)
  b_is_stretch : Binds K A.d_is_stretch ["row", "thing"] []
  F_u_init : Fun K "__init__" "Uneven.__init__" s_u_init A.f_u_init A.d_u_init
  m_u_init : Meth K A.c_Uneven "__init__" A.f_u_init
  b_u_init : Binds K A.d_u_init ["self", "depth"] []
  F_u_shows : Fun K "shows" "Uneven.shows" s_u_shows A.f_u_shows A.d_u_shows
  m_u_shows : Meth K A.c_Uneven "shows" A.f_u_shows
  b_u_shows : Binds K A.d_u_shows ["self", "row"] []
  F_o_shows : Fun K "shows" "Odd.shows" s_o_shows A.f_o_shows A.d_o_shows
  m_o_shows : Meth K A.c_Odd "shows" A.f_o_shows
  b_o_shows : Binds K A.d_o_shows ["self", "row"] []
  F_s_init : Fun K "__init__" "Swapped.__init__" s_s_init A.f_s_init A.d_s_init
  m_s_init : Meth K A.c_Swapped "__init__" A.f_s_init
  b_s_init : Binds K A.d_s_init ["self", "places", "lifts"] []
  F_s_shows : Fun K "shows" "Swapped.shows" s_s_shows A.f_s_shows A.d_s_shows
  m_s_shows : Meth K A.c_Swapped "shows" A.f_s_shows
  b_s_shows : Binds K A.d_s_shows ["self", "row"] []
  F_t_init : Fun K "__init__" "Turned.__init__" s_t_init A.f_t_init A.d_t_init
  m_t_init : Meth K A.c_Turned "__init__" A.f_t_init
  b_t_init : Binds K A.d_t_init ["self", "places", "cut"] []
  F_t_shows : Fun K "shows" "Turned.shows" s_t_shows A.f_t_shows A.d_t_shows
  m_t_shows : Meth K A.c_Turned "shows" A.f_t_shows
  b_t_shows : Binds K A.d_t_shows ["self", "row"] []
  F_below : Fun K "below" "below" s_below A.f_below A.d_below
  g_below : mg "below" = some (.ref A.f_below)
  b_below : Binds K A.d_below ["row"] []
  F_r_init : Fun K "__init__" "Rounded.__init__" s_r_init A.f_r_init A.d_r_init
  m_r_init : Meth K A.c_Rounded "__init__" A.f_r_init
  b_r_init : Binds K A.d_r_init ["self", "stretches", "top"] []
  F_r_shows : Fun K "shows" "Rounded.shows" s_r_shows A.f_r_shows A.d_r_shows
  m_r_shows : Meth K A.c_Rounded "shows" A.f_r_shows
  b_r_shows : Binds K A.d_r_shows ["self", "row"] []
  F_swaps : Fun K "swaps" "swaps" s_swaps A.f_swaps A.d_swaps
  g_swaps : mg "swaps" = some (.ref A.f_swaps)
  b_swaps : Binds K A.d_swaps ["row"] []
  F_turns : Fun K "turns" "turns" s_turns A.f_turns A.d_turns
  g_turns : mg "turns" = some (.ref A.f_turns)
  b_turns : Binds K A.d_turns ["row"] []
  F_rounds : Fun K "rounds" "rounds" s_rounds A.f_rounds A.d_rounds
  g_rounds : mg "rounds" = some (.ref A.f_rounds)
  b_rounds : Binds K A.d_rounds ["row"] []
  F__law_number : Fun K "_law_number" "_law_number" s__law_number A.f__law_number A.d__law_number
  g__law_number : mg "_law_number" = some (.ref A.f__law_number)
  b__law_number : Binds K A.d__law_number ["_law_cell", "_law_at", "_law_whole"] []
  F__law_row : Fun K "_law_row" "_law_row" s__law_row A.f__law_row A.d__law_row
  g__law_row : mg "_law_row" = some (.ref A.f__law_row)
  b__law_row : Binds K A.d__law_row ["_law_script", "_law_by", "_law_most", "_law_even"] []
  F__law_depths : Fun K "_law_depths" "_law_depths" s__law_depths A.f__law_depths A.d__law_depths
  g__law_depths : mg "_law_depths" = some (.ref A.f__law_depths)
  b__law_depths : Binds K A.d__law_depths ["_law_row_here"] []
  F__law_good : Fun K "_law_good" "_law_good" s__law_good A.f__law_good A.d__law_good
  g__law_good : mg "_law_good" = some (.ref A.f__law_good)
  b__law_good : Binds K A.d__law_good ["_law_row_here"] []
  F__law_swap : Fun K "_law_swap" "_law_swap" s__law_swap A.f__law_swap A.d__law_swap
  g__law_swap : mg "_law_swap" = some (.ref A.f__law_swap)
  b__law_swap : Binds K A.d__law_swap ["_law_row_here", "_law_place"] []
  F__law_swapped : Fun K "_law_swapped" "_law_swapped" s__law_swapped A.f__law_swapped A.d__law_swapped
  g__law_swapped : mg "_law_swapped" = some (.ref A.f__law_swapped)
  b__law_swapped : Binds K A.d__law_swapped ["_law_row_here", "_law_places", "_law_lifts"] []
  F__law_over : Fun K "_law_over" "_law_over" s__law_over A.f__law_over A.d__law_over
  g__law_over : mg "_law_over" = some (.ref A.f__law_over)
  b__law_over : Binds K A.d__law_over ["_law_row_here", "_law_places"] []
  F__law_turned : Fun K "_law_turned" "_law_turned" s__law_turned A.f__law_turned A.d__law_turned
  g__law_turned : mg "_law_turned" = some (.ref A.f__law_turned)
  b__law_turned : Binds K A.d__law_turned ["_law_row_here", "_law_places", "_law_cut"] []
  F__law_round : Fun K "_law_round" "_law_round" s__law_round A.f__law_round A.d__law_round
  g__law_round : mg "_law_round" = some (.ref A.f__law_round)
  b__law_round : Binds K A.d__law_round ["_law_row_here", "_law_stretches"] []
  F__law_rounded : Fun K "_law_rounded" "_law_rounded" s__law_rounded A.f__law_rounded A.d__law_rounded
  g__law_rounded : mg "_law_rounded" = some (.ref A.f__law_rounded)
  b__law_rounded : Binds K A.d__law_rounded ["_law_row_here", "_law_stretches", "_law_top"] []
  F__law_uneven : Fun K "_law_uneven" "_law_uneven" s__law_uneven A.f__law_uneven A.d__law_uneven
  g__law_uneven : mg "_law_uneven" = some (.ref A.f__law_uneven)
  b__law_uneven : Binds K A.d__law_uneven ["_law_row_here", "_law_depth"] []
  F__law_says05 : Fun K "_law_says" "_law_says" s__law_says05 A.f__law_says05 A.d__law_says05
  g__law_says05 : mg "_law_says" = some (.ref A.f__law_says05)
  b__law_says05 : Binds K A.d__law_says05 ["_law_answer", "_law_row_here", "_law_due"] []
  F__law_put : Fun K "_law_put" "_law_put" s__law_put A.f__law_put A.d__law_put
  g__law_put : mg "_law_put" = some (.ref A.f__law_put)
  b__law_put : Binds K A.d__law_put ["_law_row_here", "_law_at", "_law_thing"] []
  F__law_bent : Fun K "_law_bent" "_law_bent" s__law_bent A.f__law_bent A.d__law_bent
  g__law_bent : mg "_law_bent" = some (.ref A.f__law_bent)
  b__law_bent : Binds K A.d__law_bent ["_law_row_here", "_law_more"] []
  F__law_swapped_right : Fun K "_law_swapped_right" "_law_swapped_right" s__law_swapped_right A.f__law_swapped_right A.d__law_swapped_right
  g__law_swapped_right : mg "_law_swapped_right" = some (.ref A.f__law_swapped_right)
  b__law_swapped_right : Binds K A.d__law_swapped_right ["_law_row_here", "_law_places", "_law_lifts"] []
  F__law_turned_right : Fun K "_law_turned_right" "_law_turned_right" s__law_turned_right A.f__law_turned_right A.d__law_turned_right
  g__law_turned_right : mg "_law_turned_right" = some (.ref A.f__law_turned_right)
  b__law_turned_right : Binds K A.d__law_turned_right ["_law_row_here", "_law_places", "_law_cut"] []
  F__law_rounded_right : Fun K "_law_rounded_right" "_law_rounded_right" s__law_rounded_right A.f__law_rounded_right A.d__law_rounded_right
  g__law_rounded_right : mg "_law_rounded_right" = some (.ref A.f__law_rounded_right)
  b__law_rounded_right : Binds K A.d__law_rounded_right ["_law_row_here", "_law_stretches", "_law_top"] []
  F__law_more_right : Fun K "_law_more_right" "_law_more_right" s__law_more_right A.f__law_more_right A.d__law_more_right
  g__law_more_right : mg "_law_more_right" = some (.ref A.f__law_more_right)
  b__law_more_right : Binds K A.d__law_more_right ["_law_row_here", "_law_told", "_law_spun"] []
  F__law_even_right : Fun K "_law_even_right" "_law_even_right" s__law_even_right A.f__law_even_right A.d__law_even_right
  g__law_even_right : mg "_law_even_right" = some (.ref A.f__law_even_right)
  b__law_even_right : Binds K A.d__law_even_right ["_law_row_here", "_law_whole"] []
  F_law05 : Fun K "law" "law" s_law05 A.f_law05 A.d_law05
  g_law05 : mg "law" = some (.ref A.f_law05)
  b_law05 : Binds K A.d_law05 ["_law_script"] []
  k_Odd : Cls K A.c_Odd
  k_Rounded : Cls K A.c_Rounded
  mk_Rounded : Mk K A.c_Rounded A.f_r_init
  k_Swapped : Cls K A.c_Swapped
  mk_Swapped : Mk K A.c_Swapped A.f_s_init
  k_Turned : Cls K A.c_Turned
  mk_Turned : Mk K A.c_Turned A.f_t_init
  k_Uneven : Cls K A.c_Uneven
  mk_Uneven : Mk K A.c_Uneven A.f_u_init
  mk_Odd : Mk0 K A.c_Odd
  n_abs : mg "abs" = none
  n_all : mg "all" = none
  n_any : mg "any" = none
  n_bool : mg "bool" = none
  n_enumerate : mg "enumerate" = none
  n_int : mg "int" = none
  n_isinstance : mg "isinstance" = none
  n_len : mg "len" = none
  n_list : mg "list" = none
  n_max : mg "max" = none
  n_min : mg "min" = none
  n_range : mg "range" = none
  n_set : mg "set" = none
  n_str : mg "str" = none
  n_sum : mg "sum" = none
  n_tuple : mg "tuple" = none
  n_zip : mg "zip" = none
  g_Answer : mg "Answer" = some (.ref A.c_Answer)
  g_LONGEST : ∃ t, mg "LONGEST" = some (.int 40 t)
  g_Odd : mg "Odd" = some (.ref A.c_Odd)
  g_Rounded : mg "Rounded" = some (.ref A.c_Rounded)
  g_Swapped : mg "Swapped" = some (.ref A.c_Swapped)
  g_Turned : mg "Turned" = some (.ref A.c_Turned)
  g_Uneven : mg "Uneven" = some (.ref A.c_Uneven)
theorem ok_is_whole {P : Program} {w : World} {K : PySem.W.Frag} {mg : Str → Option Value} {base : Heap} {A : Ads} (X_ : Txt K mg A) : FnOk P w K mg base CX0 1 A.f_is_whole A.d_is_whole ["thing"] (sp_is_whole K A.toCA) := by
  have nd_ := sc_is_whole.nd
  refine X_.F_is_whole.ok sc_is_whole (fun vs H Q E h => ln_is_whole h) (fun cdv A_ outer s H vs Q E hr h => ⟨rd_is_whole K A.toCA, ?_, pu_is_whole h⟩)
  exact (pss_one (ps_ret (pe_and (pe_callB (c_isi "int") (by rfl) X_.n_isinstance (by decide +kernel) (pa_cons (pv 0) (pa_cons (pe_bltn rfl X_.n_int (by decide +kernel) rfl) pa_nil))) (pe_one (pe_not (pe_callB (c_isi "bool") (by rfl) X_.n_isinstance (by decide +kernel) (pa_cons (pv 0) (pa_cons (pe_bltn rfl X_.n_bool (by decide +kernel) rfl) pa_nil))))))))
theorem ok_asked_row {P : Program} {w : World} {K : PySem.W.Frag} {mg : Str → Option Value} {base : Heap} {A : Ads} (X_ : Txt K mg A) : FnOk P w K mg base CX0 1 A.f_asked_row A.d_asked_row ["row"] (sp_asked_row K A.toCA) := by
  have nd_ := sc_asked_row.nd
  refine X_.F_asked_row.ok sc_asked_row (fun vs H Q E h => ln_asked_row h) (fun cdv A_ outer s H vs Q E hr h => ⟨rd_asked_row K A.toCA, ?_, pu_asked_row h⟩)
  exact (pss_one (ps_if (PW.pt (pw_or (pt_not (pt_val (pe_callB (c_isi "str") (by rfl) X_.n_isinstance (by decide +kernel) (pa_cons (pv 0) (pa_cons (pe_bltn rfl X_.n_str (by decide +kernel) rfl) pa_nil))))) (pw_or (pt_cmpR o_gt (pe_callB c_lenT (by rfl) X_.n_len (by decide +kernel) (pa_cons (pv 0) pa_nil)) (pe_glob rfl X_.g_LONGEST.choose_spec ⟨_, rfl⟩) (nomark _)) (pw_or1 (pt_not (pt_val (pe_callB (c_all rfl) (by rfl) X_.n_all (by decide +kernel) (pa_cons (pe_lc (own := [("one", 1)]) (g := (gName 1)) (tt := tYes) rfl nd_ (pi_str (pv 0)) (blkOk_by (own := [("one", 1)]) (N := N_asked_row) (sc := defScope s_asked_row) (by decide +kernel)) (fun _ _ _ _ _ => (pg_name (i := 1) nd_ rfl (Or.inl rfl))) (fun _ _ _ _ _ => pts_nil) (fun _ _ _ _ _ => (pe_cmpR o_inT (pv 1) (pe_strT [true, false]) rfl))) pa_nil)))))))) (pss_one ps_never) pss_nil))
theorem ok_deepens {P : Program} {w : World} {K : PySem.W.Frag} {mg : Str → Option Value} {base : Heap} {A : Ads} (X_ : Txt K mg A) : FnOk P w K mg base CX0 1 A.f_deepens A.d_deepens ["bracket"] (sp_deepens K A.toCA) := by
  have nd_ := sc_deepens.nd
  refine X_.F_deepens.ok sc_deepens (fun vs H Q E h => ln_deepens h) (fun cdv A_ outer s H vs Q E hr h => ⟨rd_deepens K A.toCA, ?_, pu_deepens h⟩)
  exact (pss_one (ps_ret (pe_ifExp (pt_cmpR op_eq (pv 0) (pe_strT [true]) (nomark _)) pe_int (pe_un o_neg pe_int))))
theorem ok_depths_of {P : Program} {w : World} {K : PySem.W.Frag} {mg : Str → Option Value} {base : Heap} {A : Ads} (X_ : Txt K mg A) : FnOk P w K mg base CX0 2 A.f_depths_of A.d_depths_of ["row"] (sp_depths_of K A.toCA) := by
  have nd_ := sc_depths_of.nd
  refine X_.F_depths_of.ok sc_depths_of (fun vs H Q E h => ln_depths_of h) (fun cdv A_ outer s H vs Q E hr h => ⟨rd_depths_of K A.toCA, ?_, pu_depths_of h⟩)
  exact (pss_cons (ps_set (i := 1) nd_ rfl (Or.inl rfl) (pe_lst (pa_cons pe_int pa_nil)))
    (pss_cons (ps_for PassesOwn.never rfl (pi_str (pv 0)) (pg_name (i := 2) nd_ rfl (Or.inl rfl)) (pss_one (ps_expr (pe_bm PySem.F.plainAttrs_list PySem.F.slot_list_append PySem.F.type_list_append mt_append (pv 1) (pa_cons (pe_op o_add (pe_ix ix_list (pv 1) (pe_un o_neg pe_int) (fun _ _ => rfl)) (pe_call (ok_deepens X_) (hr.mono (by decide)) rfl X_.g_deepens X_.F_deepens.kp X_.b_deepens .nil pass0 (pa_cons (pv 2) pa_nil))) pa_nil)))))
    (pss_one (ps_ret (pv 1)))))
theorem ok_is_right_row {P : Program} {w : World} {K : PySem.W.Frag} {mg : Str → Option Value} {base : Heap} {A : Ads} (X_ : Txt K mg A) : FnOk P w K mg base CX0 3 A.f_is_right_row A.d_is_right_row ["row"] (sp_is_right_row K A.toCA) := by
  have nd_ := sc_is_right_row.nd
  refine X_.F_is_right_row.ok sc_is_right_row (fun vs H Q E h => ln_is_right_row h) (fun cdv A_ outer s H vs Q E hr h => ⟨rd_is_right_row K A.toCA, ?_, pu_is_right_row h⟩)
  exact (pss_cons (ps_set (i := 1) nd_ rfl (Or.inl rfl) (pe_call (ok_depths_of X_) (hr.mono (by decide)) rfl X_.g_depths_of X_.F_depths_of.kp X_.b_depths_of .nil pass0 (pa_cons (pv 0) pa_nil)))
    (pss_one (ps_ret (pe_and (pe_cmpR op_eq (pe_ix ix_list (pv 1) (pe_un o_neg pe_int) (fun _ _ => rfl)) pe_int (nomark _)) (pe_one (pe_cmpR op_eq (pe_callB (cr_min rfl) (by rfl) X_.n_min (by decide +kernel) (pa_cons (pv 1) pa_nil)) pe_int (nomark _)))))))
theorem ok_flipped {P : Program} {w : World} {K : PySem.W.Frag} {mg : Str → Option Value} {base : Heap} {A : Ads} (X_ : Txt K mg A) : FnOk P w K mg base CX0 1 A.f_flipped A.d_flipped ["bracket"] (sp_flipped K A.toCA) := by
  have nd_ := sc_flipped.nd
  refine X_.F_flipped.ok sc_flipped (fun vs H Q E h => ln_flipped h) (fun cdv A_ outer s H vs Q E hr h => ⟨rd_flipped K A.toCA, ?_, pu_flipped h⟩)
  exact (pss_one (ps_ret (pe_ifExp (pt_cmpR op_eq (pv 0) (pe_strT [true]) (nomark _)) (pe_strT [false]) (pe_strT [true]))))
theorem ok_swapped {P : Program} {w : World} {K : PySem.W.Frag} {mg : Str → Option Value} {base : Heap} {A : Ads} (X_ : Txt K mg A) : FnOk P w K mg base CX0 1 A.f_swapped A.d_swapped ["row", "place"] (sp_swapped K A.toCA) := by
  have nd_ := sc_swapped.nd
  refine X_.F_swapped.ok sc_swapped (fun vs H Q E h => ln_swapped h) (fun cdv A_ outer s H vs Q E hr h => ⟨rd_swapped K A.toCA, ?_, pu_swapped h⟩)
  exact (pss_one (ps_ret (pe_op o_catT (pe_op o_catT (pe_op o_catT (pe_slice s_T (pv 0) po_none (po_some (pv 1))) (pe_ix x_T (pv 0) (pe_op o_add (pv 1) pe_int) (fun _ _ => rfl))) (pe_ix x_T (pv 0) (pv 1) (fun _ _ => rfl))) (pe_slice s_T (pv 0) (po_some (pe_op o_add (pv 1) pe_int)) po_none))))
theorem ok_turned {P : Program} {w : World} {K : PySem.W.Frag} {mg : Str → Option Value} {base : Heap} {A : Ads} (X_ : Txt K mg A) : FnOk P w K mg base CX0 2 A.f_turned A.d_turned ["row", "places"] (sp_turned K A.toCA) := by
  have nd_ := sc_turned.nd
  refine X_.F_turned.ok sc_turned (fun vs H Q E h => ln_turned h) (fun cdv A_ outer s H vs Q E hr h => ⟨rd_turned K A.toCA, ?_, pu_turned h⟩)
  exact (pss_one (ps_ret (pe_bm PySem.F.plainAttrs_str PySem.F.slot_str_join PySem.F.type_str_join m_join (pe_strT []) (pa_cons (pe_lc (own := [("at", 2), ("one", 3)]) (g := (gTup K 2 (gCons (gName 2) (gCons (gName 3) gNil)))) (tt := tYes) rfl nd_ (pi_enumT rfl X_.n_enumerate (pa_cons (pv 0) pa_nil)) (blkOk_by (own := [("at", 2), ("one", 3)]) (N := N_turned) (sc := defScope s_turned) (by decide +kernel)) (fun _ _ _ _ _ => (pg_tup rfl (pgs_cons (pg_name (i := 2) nd_ rfl (Or.inl rfl)) (pgs_cons (pg_name (i := 3) nd_ rfl (Or.inl rfl)) pgs_nil)))) (fun _ _ _ _ _ => pts_nil) (fun _ _ _ _ _ => (pe_ifExp (pt_cmpR op_in_seq (pv 2) (pv 1) (by rfl)) (pe_call (ok_flipped X_) (hr.mono (by decide)) rfl X_.g_flipped X_.F_flipped.kp X_.b_flipped .nil pass0 (pa_cons (pv 3) pa_nil)) (pv 3)))) pa_nil))))
theorem ok_rounded {P : Program} {w : World} {K : PySem.W.Frag} {mg : Str → Option Value} {base : Heap} {A : Ads} (X_ : Txt K mg A) : FnOk P w K mg base CX0 1 A.f_rounded A.d_rounded ["row", "first", "behind"] (sp_rounded K A.toCA) := by
  have nd_ := sc_rounded.nd
  refine X_.F_rounded.ok sc_rounded (fun vs H Q E h => ln_rounded h) (fun cdv A_ outer s H vs Q E hr h => ⟨rd_rounded K A.toCA, ?_, pu_rounded h⟩)
  exact (pss_one (ps_ret (pe_op o_catT (pe_op o_catT (pe_slice s_T (pv 0) po_none (po_some (pv 1))) (pe_revT (pe_slice s_T (pv 0) (po_some (pv 1)) (po_some (pv 2))))) (pe_slice s_T (pv 0) (po_some (pv 2)) po_none))))
theorem ok_is_stretch {P : Program} {w : World} {K : PySem.W.Frag} {mg : Str → Option Value} {base : Heap} {A : Ads} (X_ : Txt K mg A) : FnOk P w K mg base CX0 2 A.f_is_stretch A.d_is_stretch ["row", "thing"] (sp_is_stretch K A.toCA) := by
  have nd_ := sc_is_stretch.nd
  refine X_.F_is_stretch.ok sc_is_stretch (fun vs H Q E h => ln_is_stretch h) (fun cdv A_ outer s H vs Q E hr h => ⟨rd_is_stretch K A.toCA, ?_, pu_is_stretch h⟩)
  exact (pss_cons (ps_if (PW.pt (pw_or (pt_not (pt_val (pe_callB (c_isi "tuple") (by rfl) X_.n_isinstance (by decide +kernel) (pa_cons (pv 1) (pa_cons (pe_bltn rfl X_.n_tuple (by decide +kernel) rfl) pa_nil))))) (pw_or (pt_cmpR op_ne (pe_callB c_len (by rfl) X_.n_len (by decide +kernel) (pa_cons (pv 1) pa_nil)) pe_int (nomark _)) (pw_or1 (pt_not (pt_val (pe_callB (c_all rfl) (by rfl) X_.n_all (by decide +kernel) (pa_cons (pe_lc (own := [("one", 2)]) (g := (gName 2)) (tt := tYes) rfl nd_ (pi_tup (pv 1)) (blkOk_by (own := [("one", 2)]) (N := N_is_stretch) (sc := defScope s_is_stretch) (by decide +kernel)) (fun _ _ _ _ _ => (pg_name (i := 2) nd_ rfl (Or.inl rfl))) (fun _ _ _ _ _ => pts_nil) (fun _ _ _ _ _ => (pe_call (ok_is_whole X_) (hr.mono (by decide)) rfl X_.g_is_whole X_.F_is_whole.kp X_.b_is_whole .nil pass0 (pa_cons (pv 2) pa_nil)))) pa_nil)))))))) (pss_one (ps_ret pe_bl)) pss_nil)
    (pss_one (ps_ret (pe_chain3 o_le o_lt o_le pe_int (pe_ix ix_tup (pv 1) pe_int (fun _ _ => rfl)) (pe_ix ix_tup (pv 1) pe_int (fun _ _ => rfl)) (pe_callB c_lenT (by rfl) X_.n_len (by decide +kernel) (pa_cons (pv 0) pa_nil))))))
theorem ok_u_init {P : Program} {w : World} {K : PySem.W.Frag} {mg : Str → Option Value} {base : Heap} {A : Ads} (X_ : Txt K mg A) : FnOk P w K mg base CX0 1 A.f_u_init A.d_u_init ["self", "depth"] (sp_u_init K A.toCA) := by
  have nd_ := sc_u_init.nd
  refine X_.F_u_init.ok sc_u_init (fun vs H Q E h => ln_u_init h) (fun cdv A_ outer s H vs Q E hr h => ⟨rd_u_init K A.toCA, ?_, pu_u_init h⟩)
  exact (pss_one (ps_fld (pv 0) (pv 1) rfl))
theorem ok_u_shows {P : Program} {w : World} {K : PySem.W.Frag} {mg : Str → Option Value} {base : Heap} {A : Ads} (X_ : Txt K mg A) : FnOk P w K mg base CX0 3 A.f_u_shows A.d_u_shows ["self", "row"] (sp_u_shows K A.toCA) := by
  have nd_ := sc_u_shows.nd
  refine X_.F_u_shows.ok sc_u_shows (fun vs H Q E h => ln_u_shows h) (fun cdv A_ outer s H vs Q E hr h => ⟨rd_u_shows K A.toCA, ?_, pu_u_shows h⟩)
  exact (pss_one (ps_ret (pe_and (pe_cmpR op_ne (pe_fld (pv 0) rfl) pe_int (nomark _)) (pe_one (pe_cmpR op_eq (pe_ix ix_list (pe_call (ok_depths_of X_) (hr.mono (by decide)) rfl X_.g_depths_of X_.F_depths_of.kp X_.b_depths_of .nil pass0 (pa_cons (pv 1) pa_nil)) (pe_un o_neg pe_int) (fun _ _ => rfl)) (pe_fld (pv 0) rfl) (nomark _))))))
theorem ok_o_shows {P : Program} {w : World} {K : PySem.W.Frag} {mg : Str → Option Value} {base : Heap} {A : Ads} (X_ : Txt K mg A) : FnOk P w K mg base CX0 1 A.f_o_shows A.d_o_shows ["self", "row"] (sp_o_shows K A.toCA) := by
  have nd_ := sc_o_shows.nd
  refine X_.F_o_shows.ok sc_o_shows (fun vs H Q E h => ln_o_shows h) (fun cdv A_ outer s H vs Q E hr h => ⟨rd_o_shows K A.toCA, ?_, pu_o_shows h⟩)
  exact (pss_one (ps_ret (pe_cmpR op_eq (pe_op o_mod (pe_callB c_lenT (by rfl) X_.n_len (by decide +kernel) (pa_cons (pv 1) pa_nil)) pe_int) pe_int (nomark _))))
theorem ok_s_init {P : Program} {w : World} {K : PySem.W.Frag} {mg : Str → Option Value} {base : Heap} {A : Ads} (X_ : Txt K mg A) : FnOk P w K mg base CX0 1 A.f_s_init A.d_s_init ["self", "places", "lifts"] (sp_s_init K A.toCA) := by
  have nd_ := sc_s_init.nd
  refine X_.F_s_init.ok sc_s_init (fun vs H Q E h => ln_s_init h) (fun cdv A_ outer s H vs Q E hr h => ⟨rd_s_init K A.toCA, ?_, pu_s_init h⟩)
  exact (pss_cons (ps_fld (pv 0) (pe_callTy c_listOf (by rfl) X_.n_list (by decide +kernel) (pa_cons (pv 1) pa_nil)) rfl)
    (pss_one (ps_fld (pv 0) (pe_callTy c_listOf (by rfl) X_.n_list (by decide +kernel) (pa_cons (pv 2) pa_nil)) rfl)))
theorem ok_s_shows {P : Program} {w : World} {K : PySem.W.Frag} {mg : Str → Option Value} {base : Heap} {A : Ads} (X_ : Txt K mg A) : FnOk P w K mg base CX0 4 A.f_s_shows A.d_s_shows ["self", "row"] (sp_s_shows K A.toCA) := by
  have nd_ := sc_s_shows.nd
  refine X_.F_s_shows.ok sc_s_shows (fun vs H Q E h => ln_s_shows h) (fun cdv A_ outer s H vs Q E hr h => ⟨rd_s_shows K A.toCA, ?_, pu_s_shows h⟩)
  exact (pss_cons (ps_set (i := 2) nd_ rfl (Or.inl rfl) (pv 1))
    (pss_cons (ps_for PassesOwn.never rfl (pi_list (pe_fld (pv 0) rfl)) (pg_name (i := 3) nd_ rfl (Or.inl rfl)) (pss_cons (ps_if (PW.pt (pw_or (pt_not (pt_chain o_le o_lt pe_int (pv 3) (pe_op o_sub (pe_callB c_lenT (by rfl) X_.n_len (by decide +kernel) (pa_cons (pv 1) pa_nil)) pe_int))) (pw_or1 (pt_cmpR op_eq (pe_ix x_T (pv 2) (pv 3) (fun _ _ => rfl)) (pe_ix x_T (pv 2) (pe_op o_add (pv 3) pe_int) (fun _ _ => rfl)) (nomark _))))) (pss_one (ps_ret pe_bl)) pss_nil)
    (pss_one (ps_set (i := 2) nd_ rfl (Or.inl rfl) (pe_call (ok_swapped X_) (hr.mono (by decide)) rfl X_.g_swapped X_.F_swapped.kp X_.b_swapped .nil pass0 (pa_cons (pv 2) (pa_cons (pv 3) pa_nil)))))))
    (pss_cons (ps_if (PW.pt (pw_or (pt_not (pt_val (pe_call (ok_is_right_row X_) (hr.mono (by decide)) rfl X_.g_is_right_row X_.F_is_right_row.kp X_.b_is_right_row .nil pass0 (pa_cons (pv 2) pa_nil)))) (pw_or (pt_cmpR op_ne (pe_callB c_len (by rfl) X_.n_len (by decide +kernel) (pa_cons (pe_fld (pv 0) rfl) pa_nil)) (pe_op o_add (pe_callB c_lenT (by rfl) X_.n_len (by decide +kernel) (pa_cons (pv 1) pa_nil)) pe_int) (nomark _)) (pw_or1 (pt_cmpR op_ne (pe_callB (cr_sum rfl) (by rfl) X_.n_sum (by decide +kernel) (pa_cons (pe_fld (pv 0) rfl) pa_nil)) (pe_callB c_len (by rfl) X_.n_len (by decide +kernel) (pa_cons (pe_fld (pv 0) rfl) pa_nil)) (nomark _)))))) (pss_one (ps_ret pe_bl)) pss_nil)
    (pss_cons (ps_for PassesOwn.never rfl (pi_zip rfl X_.n_zip (pa_cons (pe_call (ok_depths_of X_) (hr.mono (by decide)) rfl X_.g_depths_of X_.F_depths_of.kp X_.b_depths_of .nil pass0 (pa_cons (pv 1) pa_nil)) (pa_cons (pe_fld (pv 0) rfl) pa_nil))) (pg_tup rfl (pgs_cons (pg_name (i := 4) nd_ rfl (Or.inl rfl)) (pgs_cons (pg_name (i := 5) nd_ rfl (Or.inl rfl)) pgs_nil))) (pss_one (ps_if (PW.pt (pw_or (pt_cmpR o_lt (pv 5) pe_int (nomark _)) (pw_or1 (PW.pt (pw_and (pt_cmpR o_gt (pv 5) pe_int (nomark _)) (pw_and1 (pt_cmpR o_ge (pe_op o_add (pv 4) (pe_op o_mul pe_int (pe_op o_sub (pv 5) pe_int))) pe_int (nomark _)))))))) (pss_one (ps_ret pe_bl)) pss_nil)))
    (pss_one (ps_ret pe_bl))))))
theorem ok_t_init {P : Program} {w : World} {K : PySem.W.Frag} {mg : Str → Option Value} {base : Heap} {A : Ads} (X_ : Txt K mg A) : FnOk P w K mg base CX0 1 A.f_t_init A.d_t_init ["self", "places", "cut"] (sp_t_init K A.toCA) := by
  have nd_ := sc_t_init.nd
  refine X_.F_t_init.ok sc_t_init (fun vs H Q E h => ln_t_init h) (fun cdv A_ outer s H vs Q E hr h => ⟨rd_t_init K A.toCA, ?_, pu_t_init h⟩)
  exact (pss_cons (ps_fld (pv 0) (pe_callTy c_listOf (by rfl) X_.n_list (by decide +kernel) (pa_cons (pv 1) pa_nil)) rfl)
    (pss_one (ps_fld (pv 0) (pv 2) rfl)))
theorem ok_t_shows {P : Program} {w : World} {K : PySem.W.Frag} {mg : Str → Option Value} {base : Heap} {A : Ads} (X_ : Txt K mg A) : FnOk P w K mg base CX0 4 A.f_t_shows A.d_t_shows ["self", "row"] (sp_t_shows K A.toCA) := by
  have nd_ := sc_t_shows.nd
  refine X_.F_t_shows.ok sc_t_shows (fun vs H Q E h => ln_t_shows h) (fun cdv A_ outer s H vs Q E hr h => ⟨rd_t_shows K A.toCA, ?_, pu_t_shows h⟩)
  exact (pss_cons (ps_if (PW.pt (pw_or (pt_not (pt_val (pe_callB (c_all rfl) (by rfl) X_.n_all (by decide +kernel) (pa_cons (pe_lc (own := [("place", 5)]) (g := (gName 5)) (tt := tYes) rfl nd_ (pi_list (pe_fld (pv 0) rfl)) (blkOk_by (own := [("place", 5)]) (N := N_t_shows) (sc := defScope s_t_shows) (by decide +kernel)) (fun _ _ _ _ _ => (pg_name (i := 5) nd_ rfl (Or.inl rfl))) (fun _ _ _ _ _ => pts_nil) (fun _ _ _ _ _ => (pe_chain o_le o_lt pe_int (pv 5) (pe_callB c_lenT (by rfl) X_.n_len (by decide +kernel) (pa_cons (pv 1) pa_nil))))) pa_nil)))) (pw_or1 (pt_cmpR op_ne (pe_lenSetD rfl rfl X_.n_len rfl X_.n_set (pe_fld (pv 0) rfl)) (pe_callB c_len (by rfl) X_.n_len (by decide +kernel) (pa_cons (pe_fld (pv 0) rfl) pa_nil)) (nomark _))))) (pss_one (ps_ret pe_bl)) pss_nil)
    (pss_cons (ps_if (PW.pt (pw_or (pt_not (pt_val (pe_call (ok_is_right_row X_) (hr.mono (by decide)) rfl X_.g_is_right_row X_.F_is_right_row.kp X_.b_is_right_row .nil pass0 (pa_cons (pe_call (ok_turned X_) (hr.mono (by decide)) rfl X_.g_turned X_.F_turned.kp X_.b_turned .nil pass0 (pa_cons (pv 1) (pa_cons (pe_fld (pv 0) rfl) pa_nil))) pa_nil)))) (pw_or1 (pt_not (pt_chain o_le o_le pe_int (pe_fld (pv 0) rfl) (pe_callB c_lenT (by rfl) X_.n_len (by decide +kernel) (pa_cons (pv 1) pa_nil))))))) (pss_one (ps_ret pe_bl)) pss_nil)
    (pss_cons (ps_set (i := 2) nd_ rfl (Or.inl rfl) (pe_call (ok_depths_of X_) (hr.mono (by decide)) rfl X_.g_depths_of X_.F_depths_of.kp X_.b_depths_of .nil pass0 (pa_cons (pv 1) pa_nil)))
    (pss_cons (ps_par (i := 3) (j := 4) rfl nd_ rfl rfl (by decide) rfl rfl (pa_cons (pe_callB (c_max2 rfl) (by rfl) X_.n_max (by decide +kernel) (pa_cons pe_int (pa_cons (pe_un o_neg (pe_ix ix_list (pv 2) (pe_fld (pv 0) rfl) (fun _ _ => rfl))) pa_nil))) (pa_cons (pe_callB (c_max2 rfl) (by rfl) X_.n_max (by decide +kernel) (pa_cons pe_int (pa_cons (pe_op o_sub (pe_ix ix_list (pv 2) (pe_un o_neg pe_int) (fun _ _ => rfl)) (pe_ix ix_list (pv 2) (pe_fld (pv 0) rfl) (fun _ _ => rfl))) pa_nil))) pa_nil)) (by rfl))
    (pss_one (ps_ret (pe_cmpR op_eq (pe_callB c_len (by rfl) X_.n_len (by decide +kernel) (pa_cons (pe_fld (pv 0) rfl) pa_nil)) (pe_op o_add (pe_op o_div (pe_op o_add (pv 3) pe_int) pe_int) (pe_op o_div (pe_op o_add (pv 4) pe_int) pe_int)) (nomark _))))))))
theorem ok_below {P : Program} {w : World} {K : PySem.W.Frag} {mg : Str → Option Value} {base : Heap} {A : Ads} (X_ : Txt K mg A) : FnOk P w K mg base CX0 3 A.f_below A.d_below ["row"] (sp_below K A.toCA) := by
  have nd_ := sc_below.nd
  refine X_.F_below.ok sc_below (fun vs H Q E h => ln_below h) (fun cdv A_ outer s H vs Q E hr h => ⟨rd_below K A.toCA, ?_, pu_below h⟩)
  exact (pss_cons (ps_setLc (i := 1) (own := [("at", 2), ("depth", 3)]) (g := (gTup K 2 (gCons (gName 2) (gCons (gName 3) gNil)))) (tt := (tTest (tOp aLt (tVar 3) (tC (.int 0))))) rfl nd_ rfl rfl (sw_true rfl rfl rfl (by decide +kernel)) (pi_enum rfl X_.n_enumerate (pa_cons (pe_call (ok_depths_of X_) (hr.mono (by decide)) rfl X_.g_depths_of X_.F_depths_of.kp X_.b_depths_of .nil pass0 (pa_cons (pv 0) pa_nil)) pa_nil)) (blkOk_by (own := [("at", 2), ("depth", 3)]) (N := N_below) (sc := defScope s_below) (by decide +kernel)) (fun _ _ _ _ _ => (pg_tup rfl (pgs_cons (pg_name (i := 2) nd_ rfl (Or.inl rfl)) (pgs_cons (pg_name (i := 3) nd_ rfl (Or.inl rfl)) pgs_nil)))) (fun _ _ _ _ _ => (pts_one (pt_cmpR o_lt (pv 3) pe_int (nomark _)))) (fun _ _ _ _ _ => (pv 2)))
    (pss_one (ps_ret (pe_tup (pa_cons (pe_ix ix_list (pv 1) pe_int (fun _ _ => rfl)) (pa_cons (pe_ix ix_list (pv 1) (pe_un o_neg pe_int) (fun _ _ => rfl)) pa_nil))))))
theorem ok_r_init {P : Program} {w : World} {K : PySem.W.Frag} {mg : Str → Option Value} {base : Heap} {A : Ads} (X_ : Txt K mg A) : FnOk P w K mg base CX0 1 A.f_r_init A.d_r_init ["self", "stretches", "top"] (sp_r_init K A.toCA) := by
  have nd_ := sc_r_init.nd
  refine X_.F_r_init.ok sc_r_init (fun vs H Q E h => ln_r_init h) (fun cdv A_ outer s H vs Q E hr h => ⟨rd_r_init K A.toCA, ?_, pu_r_init h⟩)
  exact (pss_cons (ps_fld (pv 0) (pe_callTy c_listOf (by rfl) X_.n_list (by decide +kernel) (pa_cons (pv 1) pa_nil)) rfl)
    (pss_one (ps_fld (pv 0) (pv 2) rfl)))
theorem ok_r_shows {P : Program} {w : World} {K : PySem.W.Frag} {mg : Str → Option Value} {base : Heap} {A : Ads} (X_ : Txt K mg A) : FnOk P w K mg base CX0 4 A.f_r_shows A.d_r_shows ["self", "row"] (sp_r_shows K A.toCA) := by
  have nd_ := sc_r_shows.nd
  refine X_.F_r_shows.ok sc_r_shows (fun vs H Q E h => ln_r_shows h) (fun cdv A_ outer s H vs Q E hr h => ⟨rd_r_shows K A.toCA, ?_, pu_r_shows h⟩)
  exact (pss_cons (ps_par (i := 2) (j := 3) rfl nd_ rfl rfl (by decide) rfl rfl (pa_cons (pv 1) (pa_cons (pe_call (ok_depths_of X_) (hr.mono (by decide)) rfl X_.g_depths_of X_.F_depths_of.kp X_.b_depths_of .nil pass0 (pa_cons (pv 1) pa_nil)) pa_nil)) (by rfl))
    (pss_cons (ps_if (PW.pt (pw_or (pt_not (pt_val (pe_callB (c_all rfl) (by rfl) X_.n_all (by decide +kernel) (pa_cons (pe_lc (own := [("one", 7)]) (g := (gName 7)) (tt := tYes) rfl nd_ (pi_list (pe_fld (pv 0) rfl)) (blkOk_by (own := [("one", 7)]) (N := N_r_shows) (sc := defScope s_r_shows) (by decide +kernel)) (fun _ _ _ _ _ => (pg_name (i := 7) nd_ rfl (Or.inl rfl))) (fun _ _ _ _ _ => pts_nil) (fun _ _ _ _ _ => (pe_call (ok_is_stretch X_) (hr.mono (by decide)) rfl X_.g_is_stretch X_.F_is_stretch.kp X_.b_is_stretch .nil pass0 (pa_cons (pv 1) (pa_cons (pv 7) pa_nil))))) pa_nil)))) (pw_or1 (pt_cmpR o_gt (pe_callB c_len (by rfl) X_.n_len (by decide +kernel) (pa_cons (pe_fld (pv 0) rfl) pa_nil)) pe_int (nomark _))))) (pss_one (ps_ret pe_bl)) pss_nil)
    (pss_cons (ps_for PassesOwn.never rfl (pi_list (pe_fld (pv 0) rfl)) (pg_tup rfl (pgs_cons (pg_name (i := 4) nd_ rfl (Or.inl rfl)) (pgs_cons (pg_name (i := 5) nd_ rfl (Or.inl rfl)) pgs_nil))) (pss_one (ps_set (i := 2) nd_ rfl (Or.inl rfl) (pe_call (ok_rounded X_) (hr.mono (by decide)) rfl X_.g_rounded X_.F_rounded.kp X_.b_rounded .nil pass0 (pa_cons (pv 2) (pa_cons (pv 4) (pa_cons (pv 5) pa_nil)))))))
    (pss_cons (ps_if (pt_not (pt_val (pe_call (ok_is_right_row X_) (hr.mono (by decide)) rfl X_.g_is_right_row X_.F_is_right_row.kp X_.b_is_right_row .nil pass0 (pa_cons (pv 2) pa_nil)))) (pss_one (ps_ret pe_bl)) pss_nil)
    (pss_cons (ps_if (pt_cmpR op_eq (pe_callB c_len (by rfl) X_.n_len (by decide +kernel) (pa_cons (pe_fld (pv 0) rfl) pa_nil)) pe_int (nomark _)) (pss_one (ps_ret (pe_cmpR o_isN (pe_fld (pv 0) rfl) pe_non (nomark _)))) pss_nil)
    (pss_cons (ps_if (pt_val (pe_call (ok_is_right_row X_) (hr.mono (by decide)) rfl X_.g_is_right_row X_.F_is_right_row.kp X_.b_is_right_row .nil pass0 (pa_cons (pv 1) pa_nil))) (pss_one (ps_ret pe_bl)) pss_nil)
    (pss_cons (ps_if (pt_cmpR op_eq (pe_callB c_len (by rfl) X_.n_len (by decide +kernel) (pa_cons (pe_fld (pv 0) rfl) pa_nil)) pe_int (nomark _)) (pss_one (ps_ret (pe_cmpR o_isN (pe_fld (pv 0) rfl) pe_non (nomark _)))) pss_nil)
    (pss_cons (ps_asg (pe_call (ok_below X_) (hr.mono (by decide)) rfl X_.g_below X_.F_below.kp X_.b_below .nil pass0 (pa_cons (pv 1) pa_nil)) (pg_tup rfl (pgs_cons (pg_name (i := 4) nd_ rfl (Or.inl rfl)) (pgs_cons (pg_name (i := 6) nd_ rfl (Or.inl rfl)) pgs_nil))))
    (pss_cons (ps_if (PW.pt (pw_or (pt_cmpR o_isN (pe_fld (pv 0) rfl) pe_non (nomark _)) (pw_or1 (pt_not (pt_chain o_le o_le (pv 4) (pe_fld (pv 0) rfl) (pv 6)))))) (pss_one (ps_ret pe_bl)) pss_nil)
    (pss_one (ps_ret (pe_cmpR o_gt (pe_ix ix_list (pv 3) (pe_fld (pv 0) rfl) (fun _ _ => rfl)) (pe_op o_add (pe_callB (cr_max rfl) (by rfl) X_.n_max (by decide +kernel) (pa_cons (pe_slice sl_list (pv 3) po_none (po_some (pe_op o_add (pv 4) pe_int))) pa_nil)) (pe_callB (cr_max rfl) (by rfl) X_.n_max (by decide +kernel) (pa_cons (pe_slice sl_list (pv 3) (po_some (pv 6)) po_none) pa_nil))) (nomark _)))))))))))))
theorem ok_swaps {P : Program} {w : World} {K : PySem.W.Frag} {mg : Str → Option Value} {base : Heap} {A : Ads} (X_ : Txt K mg A) : FnOk P w K mg base CX0 5 A.f_swaps A.d_swaps ["row"] (sp_swaps K A.toCA) := by
  have nd_ := sc_swaps.nd
  refine X_.F_swaps.ok sc_swaps (fun vs H Q E h => ln_swaps h) (fun cdv A_ outer s H vs Q E hr h => ⟨rd_swaps K A.toCA, ?_, pu_swaps h⟩)
  exact (pss_cons (ps_expr (pe_call (ok_asked_row X_) (hr.mono (by decide)) rfl X_.g_asked_row X_.F_asked_row.kp X_.b_asked_row .nil pass0 (pa_cons (pv 0) pa_nil)))
    (pss_cons (ps_set (i := 1) nd_ rfl (Or.inl rfl) (pe_call (ok_depths_of X_) (hr.mono (by decide)) rfl X_.g_depths_of X_.F_depths_of.kp X_.b_depths_of .nil pass0 (pa_cons (pv 0) pa_nil)))
    (pss_cons (ps_if (pt_cmpR op_ne (pe_ix ix_list (pv 1) (pe_un o_neg pe_int) (fun _ _ => rfl)) pe_int (nomark _)) (pss_one (ps_ret (pe_make X_.mk_Uneven (ok_u_init X_) (hr.mono (by decide)) rfl X_.g_Uneven X_.b_u_init .nil pass0 (pa_cons (pe_ix ix_list (pv 1) (pe_un o_neg pe_int) (fun _ _ => rfl)) pa_nil)))) pss_nil)
    (pss_cons (ps_par3 (i := 2) (j := 3) (l := 4) rfl nd_ rfl rfl rfl (by decide) (by decide) (by decide) rfl rfl rfl (pa_cons (pe_lc (own := [("depth", 8)]) (g := (gName 8)) (tt := tYes) rfl nd_ (pi_list (pv 1)) (blkOk_by (own := [("depth", 8)]) (N := N_swaps) (sc := defScope s_swaps) (by decide +kernel)) (fun _ _ _ _ _ => (pg_name (i := 8) nd_ rfl (Or.inl rfl))) (fun _ _ _ _ _ => pts_nil) (fun _ _ _ _ _ => (pe_op o_div (pe_callB (c_max2 rfl) (by rfl) X_.n_max (by decide +kernel) (pa_cons pe_int (pa_cons (pe_op o_sub pe_int (pv 8)) pa_nil))) pe_int))) (pa_cons (pe_lst pa_nil) (pa_cons (pv 0) pa_nil))) (by rfl))
    (pss_cons (ps_while PassesOwn.never (pt_not (pt_val (pe_call (ok_is_right_row X_) (hr.mono (by decide)) rfl X_.g_is_right_row X_.F_is_right_row.kp X_.b_is_right_row .nil pass0 (pa_cons (pv 4) pa_nil)))) (pss_cons (ps_set (i := 5) nd_ rfl (Or.inl rfl) (pe_call (ok_depths_of X_) (hr.mono (by decide)) rfl X_.g_depths_of X_.F_depths_of.kp X_.b_depths_of .nil pass0 (pa_cons (pv 4) pa_nil)))
    (pss_cons (ps_set (i := 6) nd_ rfl (Or.inl rfl) (pe_callB (cr_min rfl) (by rfl) X_.n_min (by decide +kernel) (pa_cons (pv 5) pa_nil)))
    (pss_cons (ps_set (i := 7) nd_ rfl (Or.inl rfl) (pe_op o_sub (pe_bm PySem.F.plainAttrs_list PySem.F.slot_list_index PySem.F.type_list_index m_index (pv 5) (pa_cons (pv 6) pa_nil)) pe_int))
    (pss_cons (ps_expr (pe_bm PySem.F.plainAttrs_list PySem.F.slot_list_append PySem.F.type_list_append mt_append (pv 3) (pa_cons (pv 7) pa_nil)))
    (pss_one (ps_set (i := 4) nd_ rfl (Or.inl rfl) (pe_call (ok_swapped X_) (hr.mono (by decide)) rfl X_.g_swapped X_.F_swapped.kp X_.b_swapped .nil pass0 (pa_cons (pv 4) (pa_cons (pv 7) pa_nil))))))))))
    (pss_one (ps_ret (pe_make X_.mk_Swapped (ok_s_init X_) (hr.mono (by decide)) rfl X_.g_Swapped X_.b_s_init .nil pass0 (pa_cons (pv 3) (pa_cons (pv 2) pa_nil))))))))))
theorem ok_turns {P : Program} {w : World} {K : PySem.W.Frag} {mg : Str → Option Value} {base : Heap} {A : Ads} (X_ : Txt K mg A) : FnOk P w K mg base CX0 4 A.f_turns A.d_turns ["row"] (sp_turns K A.toCA) := by
  have nd_ := sc_turns.nd
  refine X_.F_turns.ok sc_turns (fun vs H Q E h => ln_turns h) (fun cdv A_ outer s H vs Q E hr h => ⟨rd_turns K A.toCA, ?_, pu_turns h⟩)
  exact (pss_cons (ps_expr (pe_call (ok_asked_row X_) (hr.mono (by decide)) rfl X_.g_asked_row X_.F_asked_row.kp X_.b_asked_row .nil pass0 (pa_cons (pv 0) pa_nil)))
    (pss_cons (ps_if (pt_cmpR op_eq (pe_op o_mod (pe_callB c_lenT (by rfl) X_.n_len (by decide +kernel) (pa_cons (pv 0) pa_nil)) pe_int) pe_int (nomark _)) (pss_one (ps_ret (pe_mk0 X_.mk_Odd rfl X_.g_Odd))) pss_nil)
    (pss_cons (ps_set (i := 1) nd_ rfl (Or.inr rfl) (pe_call (ok_depths_of X_) (hr.mono (by decide)) rfl X_.g_depths_of X_.F_depths_of.kp X_.b_depths_of .nil pass0 (pa_cons (pv 0) pa_nil)))
    (pss_cons (ps_par (i := 5) (j := 6) rfl nd_ rfl rfl (by decide) rfl rfl (pa_cons (pe_un o_neg (pe_callB (cr_min rfl) (by rfl) X_.n_min (by decide +kernel) (pa_cons (pv 1) pa_nil))) (pa_cons (pe_bm PySem.F.plainAttrs_list PySem.F.slot_list_index PySem.F.type_list_index m_index (pv 1) (pa_cons (pe_callB (cr_min rfl) (by rfl) X_.n_min (by decide +kernel) (pa_cons (pv 1) pa_nil)) pa_nil)) pa_nil)) (by rfl))
    (pss_cons (ps_set (i := 2) nd_ rfl (Or.inl rfl) (pe_op o_add (pe_ix ix_list (pv 1) (pe_un o_neg pe_int) (fun _ _ => rfl)) (pv 5)))
    (pss_cons (ps_setLc (i := 3) (own := [("at", 9)]) (g := (gName 9)) (tt := (tAnd (tTest (tOp rEq (tOp aIxT (tVar 0) (tVar 9)) (tC (.str (T [false]))))) (tTest (tOp rEq (tOp (rIxL K) (tVar 1) (tOp aAdd (tVar 9) (tC (.int 1)))) (tCB (rMin K) (tCons (tSl (rSlL K) (tVar 1) tNoPart (tPart (tOp aAdd (tVar 9) (tC (.int 2))))) tNil)))))) rfl nd_ rfl rfl (sw_true rfl rfl rfl (by decide +kernel)) (pi_range1 rfl X_.n_range (pa_cons (pv 6) pa_nil)) (blkOk_by (own := [("at", 9)]) (N := N_turns) (sc := defScope s_turns) (by decide +kernel)) (fun _ _ _ _ _ => (pg_name (i := 9) nd_ rfl (Or.inl rfl))) (fun _ _ _ _ _ => (pts_one (PW.pt (pw_and (pt_cmpR op_eq (pe_ix x_T (pv 0) (pv 9) (fun _ _ => rfl)) (pe_strT [false]) (nomark _)) (pw_and1 (pt_cmpR op_eq (pe_ix ix_list (pv 1) (pe_op o_add (pv 9) pe_int) (fun _ _ => rfl)) (pe_callB (cr_min rfl) (by rfl) X_.n_min (by decide +kernel) (pa_cons (pe_slice sl_list (pv 1) po_none (po_some (pe_op o_add (pv 9) pe_int))) pa_nil)) (nomark _))))))) (fun _ _ _ _ _ => (pv 9)))
    (pss_cons (ps_setLc (i := 4) (own := [("at", 9)]) (g := (gName 9)) (tt := (tAnd (tTest (tOp rEq (tOp aIxT (tVar 0) (tVar 9)) (tC (.str (T [true]))))) (tTest (tOp rEq (tOp (rIxL K) (tVar 1) (tVar 9)) (tCB (rMin K) (tCons (tSl (rSlL K) (tVar 1) (tPart (tVar 9)) tNoPart) tNil)))))) rfl nd_ rfl rfl (sw_true rfl rfl rfl (by decide +kernel)) (pi_range2 rfl X_.n_range (pa_cons (pv 6) (pa_cons (pe_callB c_lenT (by rfl) X_.n_len (by decide +kernel) (pa_cons (pv 0) pa_nil)) pa_nil))) (blkOk_by (own := [("at", 9)]) (N := N_turns) (sc := defScope s_turns) (by decide +kernel)) (fun _ _ _ _ _ => (pg_name (i := 9) nd_ rfl (Or.inl rfl))) (fun _ _ _ _ _ => (pts_one (PW.pt (pw_and (pt_cmpR op_eq (pe_ix x_T (pv 0) (pv 9) (fun _ _ => rfl)) (pe_strT [true]) (nomark _)) (pw_and1 (pt_cmpR op_eq (pe_ix ix_list (pv 1) (pv 9) (fun _ _ => rfl)) (pe_callB (cr_min rfl) (by rfl) X_.n_min (by decide +kernel) (pa_cons (pe_slice sl_list (pv 1) (po_some (pv 9)) po_none) pa_nil)) (nomark _))))))) (fun _ _ _ _ _ => (pv 9)))
    (pss_cons (ps_par (i := 7) (j := 8) rfl nd_ rfl rfl (by decide) rfl rfl (pa_cons (pe_op o_div (pe_op o_add (pv 5) pe_int) pe_int) (pa_cons (pe_op o_div (pe_op o_add (pv 2) pe_int) pe_int) pa_nil)) (by rfl))
    (pss_one (ps_ret (pe_make X_.mk_Turned (ok_t_init X_) (hr.mono (by decide)) rfl X_.g_Turned X_.b_t_init .nil pass0 (pa_cons (pe_op op_cat (pe_slice sl_list (pv 3) po_none (po_some (pv 7))) (pe_slice sl_list (pv 4) (po_some (pe_op o_sub (pe_callB c_len (by rfl) X_.n_len (by decide +kernel) (pa_cons (pv 4) pa_nil)) (pv 8))) po_none)) (pa_cons (pv 6) pa_nil)))))))))))))
theorem ok_rounds {P : Program} {w : World} {K : PySem.W.Frag} {mg : Str → Option Value} {base : Heap} {A : Ads} (X_ : Txt K mg A) : FnOk P w K mg base CX0 5 A.f_rounds A.d_rounds ["row"] (sp_rounds K A.toCA) := by
  have nd_ := sc_rounds.nd
  refine X_.F_rounds.ok sc_rounds (fun vs H Q E h => ln_rounds h) (fun cdv A_ outer s H vs Q E hr h => ⟨rd_rounds K A.toCA, ?_, pu_rounds h⟩)
  exact (pss_cons (ps_expr (pe_call (ok_asked_row X_) (hr.mono (by decide)) rfl X_.g_asked_row X_.F_asked_row.kp X_.b_asked_row .nil pass0 (pa_cons (pv 0) pa_nil)))
    (pss_cons (ps_set (i := 1) nd_ rfl (Or.inl rfl) (pe_call (ok_depths_of X_) (hr.mono (by decide)) rfl X_.g_depths_of X_.F_depths_of.kp X_.b_depths_of .nil pass0 (pa_cons (pv 0) pa_nil)))
    (pss_cons (ps_if (pt_cmpR op_ne (pe_ix ix_list (pv 1) (pe_un o_neg pe_int) (fun _ _ => rfl)) pe_int (nomark _)) (pss_one (ps_ret (pe_make X_.mk_Uneven (ok_u_init X_) (hr.mono (by decide)) rfl X_.g_Uneven X_.b_u_init .nil pass0 (pa_cons (pe_ix ix_list (pv 1) (pe_un o_neg pe_int) (fun _ _ => rfl)) pa_nil)))) pss_nil)
    (pss_cons (ps_if (pt_val (pe_call (ok_is_right_row X_) (hr.mono (by decide)) rfl X_.g_is_right_row X_.F_is_right_row.kp X_.b_is_right_row .nil pass0 (pa_cons (pv 0) pa_nil))) (pss_one (ps_ret (pe_make X_.mk_Rounded (ok_r_init X_) (hr.mono (by decide)) rfl X_.g_Rounded X_.b_r_init .nil pass0 (pa_cons (pe_lst pa_nil) (pa_cons pe_non pa_nil))))) pss_nil)
    (pss_cons (ps_asg (pe_call (ok_below X_) (hr.mono (by decide)) rfl X_.g_below X_.F_below.kp X_.b_below .nil pass0 (pa_cons (pv 0) pa_nil)) (pg_tup rfl (pgs_cons (pg_name (i := 5) nd_ rfl (Or.inl rfl)) (pgs_cons (pg_name (i := 6) nd_ rfl (Or.inl rfl)) pgs_nil))))
    (pss_cons (ps_set (i := 2) nd_ rfl (Or.inl rfl) (pe_bm PySem.F.plainAttrs_list PySem.F.slot_list_index PySem.F.type_list_index m_index (pv 1) (pa_cons (pe_callB (cr_max rfl) (by rfl) X_.n_max (by decide +kernel) (pa_cons (pe_slice sl_list (pv 1) po_none (po_some (pe_op o_add (pv 5) pe_int))) pa_nil)) pa_nil)))
    (pss_cons (ps_set (i := 3) nd_ rfl (Or.inl rfl) (pe_op o_add (pv 6) (pe_bm PySem.F.plainAttrs_list PySem.F.slot_list_index PySem.F.type_list_index m_index (pe_slice sl_list (pv 1) (po_some (pv 6)) po_none) (pa_cons (pe_callB (cr_max rfl) (by rfl) X_.n_max (by decide +kernel) (pa_cons (pe_slice sl_list (pv 1) (po_some (pv 6)) po_none) pa_nil)) pa_nil))))
    (pss_cons (ps_if (pt_cmpR o_le (pe_callB (cr_max rfl) (by rfl) X_.n_max (by decide +kernel) (pa_cons (pe_slice sl_list (pv 1) (po_some (pv 2)) (po_some (pe_op o_add (pv 3) pe_int))) pa_nil)) (pe_op o_add (pe_ix ix_list (pv 1) (pv 2) (fun _ _ => rfl)) (pe_ix ix_list (pv 1) (pv 3) (fun _ _ => rfl))) (nomark _)) (pss_one (ps_ret (pe_make X_.mk_Rounded (ok_r_init X_) (hr.mono (by decide)) rfl X_.g_Rounded X_.b_r_init .nil pass0 (pa_cons (pe_lst (pa_cons (pe_tup (pa_cons (pv 2) (pa_cons (pv 3) pa_nil))) pa_nil)) (pa_cons pe_non pa_nil))))) pss_nil)
    (pss_cons (ps_set (i := 4) nd_ rfl (Or.inl rfl) (pe_bm PySem.F.plainAttrs_list PySem.F.slot_list_index PySem.F.type_list_index m_index (pv 1) (pa_cons (pe_callB (cr_max rfl) (by rfl) X_.n_max (by decide +kernel) (pa_cons (pv 1) pa_nil)) pa_nil)))
    (pss_one (ps_ret (pe_make X_.mk_Rounded (ok_r_init X_) (hr.mono (by decide)) rfl X_.g_Rounded X_.b_r_init .nil pass0 (pa_cons (pe_lst (pa_cons (pe_tup (pa_cons pe_int (pa_cons (pv 4) pa_nil))) (pa_cons (pe_tup (pa_cons (pv 4) (pa_cons (pe_callB c_lenT (by rfl) X_.n_len (by decide +kernel) (pa_cons (pv 0) pa_nil)) pa_nil))) pa_nil))) (pa_cons (pe_op o_add (pv 5) (pe_bm PySem.F.plainAttrs_list PySem.F.slot_list_index PySem.F.type_list_index m_index (pe_slice sl_list (pv 1) (po_some (pv 5)) (po_some (pe_op o_add (pv 6) pe_int))) (pa_cons (pe_callB (cr_max rfl) (by rfl) X_.n_max (by decide +kernel) (pa_cons (pe_slice sl_list (pv 1) (po_some (pv 5)) (po_some (pe_op o_add (pv 6) pe_int))) pa_nil)) pa_nil))) pa_nil))))))))))))))
theorem ok__law_number {P : Program} {w : World} {K : PySem.W.Frag} {mg : Str → Option Value} {base : Heap} {A : Ads} (X_ : Txt K mg A) : FnOk P w K mg base CX0 1 A.f__law_number A.d__law_number ["_law_cell", "_law_at", "_law_whole"] (sp__law_number K A.toCA) := by
  have nd_ := sc__law_number.nd
  refine X_.F__law_number.ok sc__law_number (fun vs H Q E h => ln__law_number h) (fun cdv A_ outer s H vs Q E hr h => ⟨rd__law_number K A.toCA, ?_, pu__law_number h⟩)
  exact (pss_cons (ps_if (pt_cmpR o_ge (pv 0) (pe_op o_pow pe_int pe_int) (nomark _)) (pss_one (ps_ret (pe_op o_div (pv 0) (pe_op o_add pe_int (pe_op o_mod (pv 1) pe_int))))) pss_nil)
    (pss_cons (ps_set (i := 3) nd_ rfl (Or.inl rfl) (pe_op o_mod (pv 0) (pe_op o_pow pe_int pe_int)))
    (pss_cons (ps_set (i := 4) nd_ rfl (Or.inl rfl) (pe_op o_mod (pe_op o_add (pe_op o_mul (pe_op o_add (pv 3) (pe_op o_mul pe_int (pv 1))) pe_int) (pv 2)) pe_int))
    (pss_cons (ps_set (i := 5) nd_ rfl (Or.inl rfl) (pe_op o_mul (pv 4) (pe_op o_add (pe_op o_add (pv 3) (pe_op o_mul pe_int (pv 1))) pe_int)))
    (pss_one (ps_ret (pe_op o_div (pe_op o_mul (pe_op o_mul (pv 5) (pe_op o_add (pe_op o_add (pv 4) (pv 3)) pe_int)) (pe_op o_add (pe_op o_mul (pv 4) (pv 4)) pe_int)) (pe_op o_add pe_int (pv 1)))))))))
theorem ok__law_row {P : Program} {w : World} {K : PySem.W.Frag} {mg : Str → Option Value} {base : Heap} {A : Ads} (X_ : Txt K mg A) : FnOk P w K mg base CX0 2 A.f__law_row A.d__law_row ["_law_script", "_law_by", "_law_most", "_law_even"] (sp__law_row K A.toCA) := by
  have nd_ := sc__law_row.nd
  refine X_.F__law_row.ok sc__law_row (fun vs H Q E h => ln__law_row h) (fun cdv A_ outer s H vs Q E hr h => ⟨rd__law_row K A.toCA, ?_, pu__law_row h⟩)
  exact (pss_cons (ps_set (i := 4) nd_ rfl (Or.inl rfl) (pe_ifExp (pt_cmpR (op_neD hr.units) (pv 0) (pe_lst pa_nil) (nomark _)) (pe_slice sl_list (pv 0) po_none (po_some pe_int)) (pe_lst (pa_cons pe_int pa_nil))))
    (pss_cons (ps_par (i := 9) (j := 7) rfl nd_ rfl rfl (by decide) rfl rfl (pa_cons (pe_op o_add (pe_callB c_abs (by rfl) X_.n_abs (by decide +kernel) (pa_cons (pe_callB (cr_sum rfl) (by rfl) X_.n_sum (by decide +kernel) (pa_cons (pv 4) pa_nil)) pa_nil)) (pe_op o_mul pe_int (pv 1))) (pa_cons (pe_lst pa_nil) pa_nil)) (by rfl))
    (pss_cons (ps_set (i := 5) nd_ rfl (Or.inl rfl) (pe_op o_add pe_int (pe_op o_mod (pe_op o_div (pv 9) pe_int) pe_int)))
    (pss_cons (ps_for PassesOwn.never rfl (pi_range1 rfl X_.n_range (pa_cons (pe_op o_mod (pe_op o_div (pv 9) pe_int) (pe_op o_add (pv 2) pe_int)) pa_nil)) (pg_name (i := 6) nd_ rfl (Or.inl rfl)) (pss_cons (ps_set (i := 10) nd_ rfl (Or.inl rfl) (pe_op o_div (pv 6) (pv 5)))
    (pss_cons (ps_set (i := 11) nd_ rfl (Or.inl rfl) (pe_op o_add (pe_ix ix_list (pv 4) (pe_op o_mod (pe_op o_add (pv 10) (pv 1)) (pe_callB c_len (by rfl) X_.n_len (by decide +kernel) (pa_cons (pv 4) pa_nil))) (fun _ _ => rfl)) (pe_op o_div (pv 10) (pe_callB c_len (by rfl) X_.n_len (by decide +kernel) (pa_cons (pv 4) pa_nil)))))
    (pss_cons (ps_set (i := 12) nd_ rfl (Or.inl rfl) (pe_op o_div (pe_callB c_abs (by rfl) X_.n_abs (by decide +kernel) (pa_cons (pe_call (ok__law_number X_) (hr.mono (by decide)) rfl X_.g__law_number X_.F__law_number.kp X_.b__law_number .nil pass0 (pa_cons (pv 11) (pa_cons (pe_op o_add (pv 10) (pv 1)) (pa_cons (pv 9) pa_nil)))) pa_nil)) pe_int))
    (pss_cons (ps_set (i := 13) nd_ rfl (Or.inl rfl) (pe_callTy c_intB (by rfl) X_.n_int (by decide +kernel) (pa_cons (pe_or (pe_cmpR o_gt (pe_op o_mod (pv 12) pe_int) pe_int (nomark _)) (pe_one (pe_cmpR op_eq (pe_op o_mod (pv 6) pe_int) pe_int (nomark _)))) pa_nil)))
    (pss_cons (ps_set (i := 14) nd_ rfl (Or.inl rfl) (pe_tup (pa_cons (pe_op o_mod (pv 12) pe_int) (pa_cons (pe_op o_mod (pv 6) pe_int) (pa_cons (pe_op o_sub pe_int (pe_op o_mod (pv 6) pe_int)) (pa_cons (pv 13) (pa_cons (pe_callTy c_intB (by rfl) X_.n_int (by decide +kernel) (pa_cons (pe_cmpR op_eq (pe_op o_mod (pv 10) pe_int) pe_int (nomark _)) pa_nil)) pa_nil)))))))
    (pss_one (ps_expr (pe_bm PySem.F.plainAttrs_list PySem.F.slot_list_append PySem.F.type_list_append mt_append (pv 7) (pa_cons (pe_ix x_T (pe_strT [true, false]) (pe_ix ix_tup (pv 14) (pe_op o_mod (pv 9) pe_int) (fun _ _ => rfl)) (fun _ _ => rfl)) pa_nil))))))))))
    (pss_cons (ps_set (i := 7) nd_ rfl (Or.inl rfl) (pe_ifExp (pt_val (pv 3)) (pe_slice sl_list (pv 7) po_none (po_some (pe_op o_mul (pe_op o_div (pe_callB c_len (by rfl) X_.n_len (by decide +kernel) (pa_cons (pv 7) pa_nil)) pe_int) pe_int))) (pv 7)))
    (pss_cons (ps_set (i := 8) nd_ rfl (Or.inl rfl) (pe_op o_sub (pe_bm PySem.F.plainAttrs_list PySem.F.slot_list_count PySem.F.type_list_count m_count (pv 7) (pa_cons (pe_strT [true]) pa_nil)) (pe_bm PySem.F.plainAttrs_list PySem.F.slot_list_count PySem.F.type_list_count m_count (pv 7) (pa_cons (pe_strT [false]) pa_nil))))
    (pss_cons (ps_for PassesOwn.never rfl (pi_range1 rfl X_.n_range (pa_cons (pe_callB c_len (by rfl) X_.n_len (by decide +kernel) (pa_cons (pv 7) pa_nil)) pa_nil)) (pg_name (i := 6) nd_ rfl (Or.inl rfl)) (pss_cons (ps_set (i := 10) nd_ rfl (Or.inl rfl) (pe_op o_mod (pe_op o_add (pv 6) (pv 9)) (pe_callB c_len (by rfl) X_.n_len (by decide +kernel) (pa_cons (pv 7) pa_nil))))
    (pss_one (ps_if (PW.pt (pw_and (pt_val (pv 3)) (pw_and (pt_cmpR op_ne (pv 8) pe_int (nomark _)) (pw_and1 (pt_cmpR op_eq (pe_ix ix_list (pv 7) (pv 10) (fun _ _ => rfl)) (pe_ix x_T (pe_strT [true, false]) (pe_callTy c_intB (by rfl) X_.n_int (by decide +kernel) (pa_cons (pe_cmpR o_lt (pv 8) pe_int (nomark _)) pa_nil)) (fun _ _ => rfl)) (nomark _)))))) (pss_cons (ps_asg (pe_ix x_T (pe_strT [true, false]) (pe_callTy c_intB (by rfl) X_.n_int (by decide +kernel) (pa_cons (pe_cmpR o_gt (pv 8) pe_int (nomark _)) pa_nil)) (fun _ _ => rfl)) (pg_sub (pv 7) (pv 10) set_list))
    (pss_one (ps_set (i := 8) nd_ rfl (Or.inl rfl) (pe_ifExp (pt_cmpR o_gt (pv 8) pe_int (nomark _)) (pe_op o_sub (pv 8) pe_int) (pe_op o_add (pv 8) pe_int))))) pss_nil))))
    (pss_one (ps_ret (pe_bm PySem.F.plainAttrs_str PySem.F.slot_str_join PySem.F.type_str_join m_join (pe_strT []) (pa_cons (pv 7) pa_nil)))))))))))
theorem ok__law_depths {P : Program} {w : World} {K : PySem.W.Frag} {mg : Str → Option Value} {base : Heap} {A : Ads} (X_ : Txt K mg A) : FnOk P w K mg base CX0 1 A.f__law_depths A.d__law_depths ["_law_row_here"] (sp__law_depths K A.toCA) := by
  have nd_ := sc__law_depths.nd
  refine X_.F__law_depths.ok sc__law_depths (fun vs H Q E h => ln__law_depths h) (fun cdv A_ outer s H vs Q E hr h => ⟨rd__law_depths K A.toCA, ?_, pu__law_depths h⟩)
  exact (pss_cons (ps_set (i := 1) nd_ rfl (Or.inl rfl) (pe_lst (pa_cons pe_int pa_nil)))
    (pss_cons (ps_for PassesOwn.never rfl (pi_str (pv 0)) (pg_name (i := 2) nd_ rfl (Or.inl rfl)) (pss_one (ps_expr (pe_bm PySem.F.plainAttrs_list PySem.F.slot_list_append PySem.F.type_list_append mt_append (pv 1) (pa_cons (pe_op o_add (pe_ix ix_list (pv 1) (pe_un o_neg pe_int) (fun _ _ => rfl)) (pe_ifExp (pt_cmpR op_eq (pv 2) (pe_strT [true]) (nomark _)) pe_int (pe_un o_neg pe_int))) pa_nil)))))
    (pss_one (ps_ret (pv 1)))))
theorem ok__law_good {P : Program} {w : World} {K : PySem.W.Frag} {mg : Str → Option Value} {base : Heap} {A : Ads} (X_ : Txt K mg A) : FnOk P w K mg base CX0 1 A.f__law_good A.d__law_good ["_law_row_here"] (sp__law_good K A.toCA) := by
  have nd_ := sc__law_good.nd
  refine X_.F__law_good.ok sc__law_good (fun vs H Q E h => ln__law_good h) (fun cdv A_ outer s H vs Q E hr h => ⟨rd__law_good K A.toCA, ?_, pu__law_good h⟩)
  exact (pss_cons (ps_set (i := 1) nd_ rfl (Or.inl rfl) pe_int)
    (pss_cons (ps_for PassesOwn.never rfl (pi_str (pv 0)) (pg_name (i := 2) nd_ rfl (Or.inl rfl)) (pss_cons (ps_set (i := 1) nd_ rfl (Or.inl rfl) (pe_ifExp (pt_cmpR op_eq (pv 2) (pe_strT [true]) (nomark _)) (pe_op o_add (pv 1) pe_int) (pe_op o_sub (pv 1) pe_int)))
    (pss_one (ps_if (pt_cmpR o_lt (pv 1) pe_int (nomark _)) (pss_one (ps_ret pe_bl)) pss_nil))))
    (pss_one (ps_ret (pe_cmpR op_eq (pv 1) pe_int (nomark _))))))
theorem ok__law_swap {P : Program} {w : World} {K : PySem.W.Frag} {mg : Str → Option Value} {base : Heap} {A : Ads} (X_ : Txt K mg A) : FnOk P w K mg base CX0 1 A.f__law_swap A.d__law_swap ["_law_row_here", "_law_place"] (sp__law_swap K A.toCA) := by
  have nd_ := sc__law_swap.nd
  refine X_.F__law_swap.ok sc__law_swap (fun vs H Q E h => ln__law_swap h) (fun cdv A_ outer s H vs Q E hr h => ⟨rd__law_swap K A.toCA, ?_, pu__law_swap h⟩)
  exact (pss_cons (ps_if (PW.pt (pw_or (pt_not (pt_chain o_le o_lt pe_int (pv 1) (pe_op o_sub (pe_callB c_lenT (by rfl) X_.n_len (by decide +kernel) (pa_cons (pv 0) pa_nil)) pe_int))) (pw_or1 (pt_cmpR op_eq (pe_ix x_T (pv 0) (pv 1) (fun _ _ => rfl)) (pe_ix x_T (pv 0) (pe_op o_add (pv 1) pe_int) (fun _ _ => rfl)) (nomark _))))) (pss_one (ps_ret pe_non)) pss_nil)
    (pss_cons (ps_set (i := 2) nd_ rfl (Or.inl rfl) (pe_op o_catT (pe_ix x_T (pv 0) (pe_op o_add (pv 1) pe_int) (fun _ _ => rfl)) (pe_ix x_T (pv 0) (pv 1) (fun _ _ => rfl))))
    (pss_one (ps_ret (pe_op o_catT (pe_op o_catT (pe_slice s_T (pv 0) po_none (po_some (pv 1))) (pv 2)) (pe_slice s_T (pv 0) (po_some (pe_op o_add (pv 1) pe_int)) po_none))))))
theorem ok__law_swapped {P : Program} {w : World} {K : PySem.W.Frag} {mg : Str → Option Value} {base : Heap} {A : Ads} (X_ : Txt K mg A) : FnOk P w K mg base CX0 2 A.f__law_swapped A.d__law_swapped ["_law_row_here", "_law_places", "_law_lifts"] (sp__law_swapped K A.toCA) := by
  have nd_ := sc__law_swapped.nd
  refine X_.F__law_swapped.ok sc__law_swapped (fun vs H Q E h => ln__law_swapped h) (fun cdv A_ outer s H vs Q E hr h => ⟨rd__law_swapped K A.toCA, ?_, pu__law_swapped h⟩)
  exact (pss_cons (ps_set (i := 3) nd_ rfl (Or.inl rfl) (pv 0))
    (pss_cons (ps_for PassesOwn.never rfl (pi_list (pv 1)) (pg_name (i := 4) nd_ rfl (Or.inl rfl)) (pss_cons (ps_set (i := 3) nd_ rfl (Or.inl rfl) (pe_call (ok__law_swap X_) (hr.mono (by decide)) rfl X_.g__law_swap X_.F__law_swap.kp X_.b__law_swap .nil pass0 (pa_cons (pv 3) (pa_cons (pv 4) pa_nil))))
    (pss_one (ps_if (pt_cmpR o_isN (pv 3) pe_non (nomark _)) (pss_one (ps_ret pe_bl)) pss_nil))))
    (pss_cons (ps_if (PW.pt (pw_or (pt_not (pt_val (pe_call (ok__law_good X_) (hr.mono (by decide)) rfl X_.g__law_good X_.F__law_good.kp X_.b__law_good .nil pass0 (pa_cons (pv 3) pa_nil)))) (pw_or (pt_cmpR op_ne (pe_callB c_len (by rfl) X_.n_len (by decide +kernel) (pa_cons (pv 2) pa_nil)) (pe_op o_add (pe_callB c_lenT (by rfl) X_.n_len (by decide +kernel) (pa_cons (pv 0) pa_nil)) pe_int) (nomark _)) (pw_or1 (pt_cmpR op_ne (pe_callB (cr_sum rfl) (by rfl) X_.n_sum (by decide +kernel) (pa_cons (pv 2) pa_nil)) (pe_callB c_len (by rfl) X_.n_len (by decide +kernel) (pa_cons (pv 1) pa_nil)) (nomark _)))))) (pss_one (ps_ret pe_bl)) pss_nil)
    (pss_cons (ps_for PassesOwn.never rfl (pi_zip rfl X_.n_zip (pa_cons (pe_call (ok__law_depths X_) (hr.mono (by decide)) rfl X_.g__law_depths X_.F__law_depths.kp X_.b__law_depths .nil pass0 (pa_cons (pv 0) pa_nil)) (pa_cons (pv 2) pa_nil))) (pg_tup rfl (pgs_cons (pg_name (i := 5) nd_ rfl (Or.inl rfl)) (pgs_cons (pg_name (i := 6) nd_ rfl (Or.inl rfl)) pgs_nil))) (pss_one (ps_if (PW.pt (pw_or (pt_cmpR o_lt (pv 6) pe_int (nomark _)) (pw_or1 (PW.pt (pw_and (pt_cmpR o_gt (pv 6) pe_int (nomark _)) (pw_and1 (pt_cmpR o_ge (pe_op o_sub (pe_op o_add (pv 5) (pe_op o_mul pe_int (pv 6))) pe_int) pe_int (nomark _)))))))) (pss_one (ps_ret pe_bl)) pss_nil)))
    (pss_one (ps_ret pe_bl))))))
theorem ok__law_over {P : Program} {w : World} {K : PySem.W.Frag} {mg : Str → Option Value} {base : Heap} {A : Ads} (X_ : Txt K mg A) : FnOk P w K mg base CX0 1 A.f__law_over A.d__law_over ["_law_row_here", "_law_places"] (sp__law_over K A.toCA) := by
  have nd_ := sc__law_over.nd
  refine X_.F__law_over.ok sc__law_over (fun vs H Q E h => ln__law_over h) (fun cdv A_ outer s H vs Q E hr h => ⟨rd__law_over K A.toCA, ?_, pu__law_over h⟩)
  exact (pss_cons (ps_set (i := 2) nd_ rfl (Or.inl rfl) (pe_callTy (c_listT rfl) (by rfl) X_.n_list (by decide +kernel) (pa_cons (pv 0) pa_nil)))
    (pss_cons (ps_for PassesOwn.never rfl (pi_list (pv 1)) (pg_name (i := 3) nd_ rfl (Or.inl rfl)) (pss_one (ps_asg (pe_ix x_T (pe_strT [true, false]) (pe_callTy c_intB (by rfl) X_.n_int (by decide +kernel) (pa_cons (pe_cmpR op_eq (pe_ix x_T (pv 0) (pv 3) (fun _ _ => rfl)) (pe_strT [true]) (nomark _)) pa_nil)) (fun _ _ => rfl)) (pg_sub (pv 2) (pv 3) set_list))))
    (pss_one (ps_ret (pe_bm PySem.F.plainAttrs_str PySem.F.slot_str_join PySem.F.type_str_join m_join (pe_strT []) (pa_cons (pv 2) pa_nil))))))
theorem ok__law_turned {P : Program} {w : World} {K : PySem.W.Frag} {mg : Str → Option Value} {base : Heap} {A : Ads} (X_ : Txt K mg A) : FnOk P w K mg base CX0 2 A.f__law_turned A.d__law_turned ["_law_row_here", "_law_places", "_law_cut"] (sp__law_turned K A.toCA) := by
  have nd_ := sc__law_turned.nd
  refine X_.F__law_turned.ok sc__law_turned (fun vs H Q E h => ln__law_turned h) (fun cdv A_ outer s H vs Q E hr h => ⟨rd__law_turned K A.toCA, ?_, pu__law_turned h⟩)
  exact (pss_cons (ps_if (PW.pt (pw_or (pt_cmpR o_lt (pe_lenSetD rfl rfl X_.n_len rfl X_.n_set (pv 1)) (pe_callB c_len (by rfl) X_.n_len (by decide +kernel) (pa_cons (pv 1) pa_nil)) (nomark _)) (pw_or1 (pt_val (pe_callB (c_any rfl) (by rfl) X_.n_any (by decide +kernel) (pa_cons (pe_lc (own := [("_law_place", 6)]) (g := (gName 6)) (tt := tYes) rfl nd_ (pi_list (pv 1)) (blkOk_by (own := [("_law_place", 6)]) (N := N__law_turned) (sc := defScope s__law_turned) (by decide +kernel)) (fun _ _ _ _ _ => (pg_name (i := 6) nd_ rfl (Or.inl rfl))) (fun _ _ _ _ _ => pts_nil) (fun _ _ _ _ _ => (pe_not (pe_chain o_le o_lt pe_int (pv 6) (pe_callB c_lenT (by rfl) X_.n_len (by decide +kernel) (pa_cons (pv 0) pa_nil)))))) pa_nil)))))) (pss_one (ps_ret pe_bl)) pss_nil)
    (pss_cons (ps_if (PW.pt (pw_or (pt_not (pt_val (pe_call (ok__law_good X_) (hr.mono (by decide)) rfl X_.g__law_good X_.F__law_good.kp X_.b__law_good .nil pass0 (pa_cons (pe_call (ok__law_over X_) (hr.mono (by decide)) rfl X_.g__law_over X_.F__law_over.kp X_.b__law_over .nil pass0 (pa_cons (pv 0) (pa_cons (pv 1) pa_nil))) pa_nil)))) (pw_or1 (pt_not (pt_chain o_le o_le pe_int (pv 2) (pe_callB c_lenT (by rfl) X_.n_len (by decide +kernel) (pa_cons (pv 0) pa_nil))))))) (pss_one (ps_ret pe_bl)) pss_nil)
    (pss_cons (ps_set (i := 3) nd_ rfl (Or.inl rfl) (pe_call (ok__law_depths X_) (hr.mono (by decide)) rfl X_.g__law_depths X_.F__law_depths.kp X_.b__law_depths .nil pass0 (pa_cons (pv 0) pa_nil)))
    (pss_cons (ps_par (i := 4) (j := 5) rfl nd_ rfl rfl (by decide) rfl rfl (pa_cons (pe_callB (c_max2 rfl) (by rfl) X_.n_max (by decide +kernel) (pa_cons pe_int (pa_cons (pe_un o_neg (pe_ix ix_list (pv 3) (pv 2) (fun _ _ => rfl))) pa_nil))) (pa_cons (pe_callB (c_max2 rfl) (by rfl) X_.n_max (by decide +kernel) (pa_cons pe_int (pa_cons (pe_op o_sub (pe_ix ix_list (pv 3) (pe_un o_neg pe_int) (fun _ _ => rfl)) (pe_ix ix_list (pv 3) (pv 2) (fun _ _ => rfl))) pa_nil))) pa_nil)) (by rfl))
    (pss_one (ps_ret (pe_cmpR op_eq (pe_callB c_len (by rfl) X_.n_len (by decide +kernel) (pa_cons (pv 1) pa_nil)) (pe_op o_add (pe_op o_add (pe_op o_add (pe_op o_div (pv 4) pe_int) (pe_op o_mod (pv 4) pe_int)) (pe_op o_div (pv 5) pe_int)) (pe_op o_mod (pv 5) pe_int)) (nomark _))))))))
theorem ok__law_round {P : Program} {w : World} {K : PySem.W.Frag} {mg : Str → Option Value} {base : Heap} {A : Ads} (X_ : Txt K mg A) : FnOk P w K mg base CX0 1 A.f__law_round A.d__law_round ["_law_row_here", "_law_stretches"] (sp__law_round K A.toCA) := by
  have nd_ := sc__law_round.nd
  refine X_.F__law_round.ok sc__law_round (fun vs H Q E h => ln__law_round h) (fun cdv A_ outer s H vs Q E hr h => ⟨rd__law_round K A.toCA, ?_, pu__law_round h⟩)
  exact (pss_cons (ps_for PassesOwn.never rfl (pi_list (pv 1)) (pg_tup rfl (pgs_cons (pg_name (i := 2) nd_ rfl (Or.inl rfl)) (pgs_cons (pg_name (i := 3) nd_ rfl (Or.inl rfl)) pgs_nil))) (pss_cons (ps_if (pt_not (pt_chain3 o_le o_lt o_le pe_int (pv 2) (pv 3) (pe_callB c_lenT (by rfl) X_.n_len (by decide +kernel) (pa_cons (pv 0) pa_nil)))) (pss_one (ps_ret pe_non)) pss_nil)
    (pss_cons (ps_setLc (i := 4) (own := [("_law_at", 5)]) (g := (gName 5)) (tt := tYes) rfl nd_ rfl rfl (sw_true rfl rfl rfl (by decide +kernel)) (pi_range3 rfl X_.n_range (pa_cons (pe_op o_sub (pv 3) pe_int) (pa_cons (pe_op o_sub (pv 2) pe_int) (pa_cons (pe_un o_neg pe_int) pa_nil)))) (blkOk_by (own := [("_law_at", 5)]) (N := N__law_round) (sc := defScope s__law_round) (by decide +kernel)) (fun _ _ _ _ _ => (pg_name (i := 5) nd_ rfl (Or.inl rfl))) (fun _ _ _ _ _ => pts_nil) (fun _ _ _ _ _ => (pe_ix x_T (pv 0) (pv 5) (fun _ _ => rfl))))
    (pss_one (ps_set (i := 0) nd_ rfl (Or.inr rfl) (pe_op o_catT (pe_op o_catT (pe_slice s_T (pv 0) po_none (po_some (pv 2))) (pe_bm PySem.F.plainAttrs_str PySem.F.slot_str_join PySem.F.type_str_join m_join (pe_strT []) (pa_cons (pv 4) pa_nil))) (pe_slice s_T (pv 0) (po_some (pv 3)) po_none)))))))
    (pss_one (ps_ret (pv 0))))
theorem ok__law_rounded {P : Program} {w : World} {K : PySem.W.Frag} {mg : Str → Option Value} {base : Heap} {A : Ads} (X_ : Txt K mg A) : FnOk P w K mg base CX0 2 A.f__law_rounded A.d__law_rounded ["_law_row_here", "_law_stretches", "_law_top"] (sp__law_rounded K A.toCA) := by
  have nd_ := sc__law_rounded.nd
  refine X_.F__law_rounded.ok sc__law_rounded (fun vs H Q E h => ln__law_rounded h) (fun cdv A_ outer s H vs Q E hr h => ⟨rd__law_rounded K A.toCA, ?_, pu__law_rounded h⟩)
  exact (pss_cons (ps_if (pt_cmpR o_gt (pe_callB c_len (by rfl) X_.n_len (by decide +kernel) (pa_cons (pv 1) pa_nil)) pe_int (nomark _)) (pss_one (ps_ret pe_bl)) pss_nil)
    (pss_cons (ps_set (i := 3) nd_ rfl (Or.inl rfl) (pe_call (ok__law_round X_) (hr.mono (by decide)) rfl X_.g__law_round X_.F__law_round.kp X_.b__law_round .nil pass0 (pa_cons (pv 0) (pa_cons (pv 1) pa_nil))))
    (pss_cons (ps_if (PW.pt (pw_or (pt_cmpR o_isN (pv 3) pe_non (nomark _)) (pw_or (pt_not (pt_val (pe_call (ok__law_good X_) (hr.mono (by decide)) rfl X_.g__law_good X_.F__law_good.kp X_.b__law_good .nil pass0 (pa_cons (pv 3) pa_nil)))) (pw_or1 (PW.pt (pw_and (pt_cmpR (op_neD hr.units) (pv 1) (pe_lst pa_nil) (nomark _)) (pw_and1 (pt_val (pe_call (ok__law_good X_) (hr.mono (by decide)) rfl X_.g__law_good X_.F__law_good.kp X_.b__law_good .nil pass0 (pa_cons (pv 0) pa_nil)))))))))) (pss_one (ps_ret pe_bl)) pss_nil)
    (pss_cons (ps_if (pt_cmpR o_lt (pe_callB c_len (by rfl) X_.n_len (by decide +kernel) (pa_cons (pv 1) pa_nil)) pe_int (nomark _)) (pss_one (ps_ret (pe_cmpR o_isN (pv 2) pe_non (nomark _)))) pss_nil)
    (pss_cons (ps_set (i := 4) nd_ rfl (Or.inl rfl) (pe_call (ok__law_depths X_) (hr.mono (by decide)) rfl X_.g__law_depths X_.F__law_depths.kp X_.b__law_depths .nil pass0 (pa_cons (pv 0) pa_nil)))
    (pss_cons (ps_setLc (i := 5) (own := [("_law_at", 6), ("_law_depth", 7)]) (g := (gTup K 2 (gCons (gName 6) (gCons (gName 7) gNil)))) (tt := (tTest (tOp aLt (tVar 7) (tC (.int 0))))) rfl nd_ rfl rfl (sw_true rfl rfl rfl (by decide +kernel)) (pi_enum rfl X_.n_enumerate (pa_cons (pv 4) pa_nil)) (blkOk_by (own := [("_law_at", 6), ("_law_depth", 7)]) (N := N__law_rounded) (sc := defScope s__law_rounded) (by decide +kernel)) (fun _ _ _ _ _ => (pg_tup rfl (pgs_cons (pg_name (i := 6) nd_ rfl (Or.inl rfl)) (pgs_cons (pg_name (i := 7) nd_ rfl (Or.inl rfl)) pgs_nil)))) (fun _ _ _ _ _ => (pts_one (pt_cmpR o_lt (pv 7) pe_int (nomark _)))) (fun _ _ _ _ _ => (pv 6)))
    (pss_cons (ps_if (PW.pt (pw_or (pt_cmpR o_isN (pv 2) pe_non (nomark _)) (pw_or1 (pt_not (pt_chain o_le o_le (pe_ix ix_list (pv 5) pe_int (fun _ _ => rfl)) (pv 2) (pe_ix ix_list (pv 5) (pe_un o_neg pe_int) (fun _ _ => rfl))))))) (pss_one (ps_ret pe_bl)) pss_nil)
    (pss_one (ps_ret (pe_cmpR o_gt (pe_ix ix_list (pv 4) (pv 2) (fun _ _ => rfl)) (pe_op o_add (pe_callB (cr_max rfl) (by rfl) X_.n_max (by decide +kernel) (pa_cons (pe_slice sl_list (pv 4) po_none (po_some (pe_op o_add (pe_ix ix_list (pv 5) pe_int (fun _ _ => rfl)) pe_int))) pa_nil)) (pe_callB (cr_max rfl) (by rfl) X_.n_max (by decide +kernel) (pa_cons (pe_slice sl_list (pv 4) (po_some (pe_ix ix_list (pv 5) (pe_un o_neg pe_int) (fun _ _ => rfl))) po_none) pa_nil))) (nomark _)))))))))))
theorem ok__law_uneven {P : Program} {w : World} {K : PySem.W.Frag} {mg : Str → Option Value} {base : Heap} {A : Ads} (X_ : Txt K mg A) : FnOk P w K mg base CX0 1 A.f__law_uneven A.d__law_uneven ["_law_row_here", "_law_depth"] (sp__law_uneven K A.toCA) := by
  have nd_ := sc__law_uneven.nd
  refine X_.F__law_uneven.ok sc__law_uneven (fun vs H Q E h => ln__law_uneven h) (fun cdv A_ outer s H vs Q E hr h => ⟨rd__law_uneven K A.toCA, ?_, pu__law_uneven h⟩)
  exact (pss_one (ps_ret (pe_and (pe_cmpR op_ne (pv 1) pe_int (nomark _)) (pe_one (pe_cmpR op_eq (pe_op o_sub (pe_bm PySem.F.plainAttrs_str PySem.F.slot_str_count PySem.F.type_str_count m_countT (pv 0) (pa_cons (pe_strT [true]) pa_nil)) (pe_bm PySem.F.plainAttrs_str PySem.F.slot_str_count PySem.F.type_str_count m_countT (pv 0) (pa_cons (pe_strT [false]) pa_nil))) (pv 1) (nomark _))))))
theorem ok__law_says05 {P : Program} {w : World} {K : PySem.W.Frag} {mg : Str → Option Value} {base : Heap} {A : Ads} (X_ : Txt K mg A) : FnOk P w K mg base CX0 5 A.f__law_says05 A.d__law_says05 ["_law_answer", "_law_row_here", "_law_due"] (sp__law_says05 K A.toCA) := by
  have nd_ := sc__law_says05.nd
  refine X_.F__law_says05.ok sc__law_says05 (fun vs H Q E h => ln__law_says05 h) (fun cdv A_ outer s H vs Q E hr h => ⟨rd__law_says05 K A.toCA, ?_, pu__law_says05 h⟩)
  exact (pss_cons (ps_set (i := 3) nd_ rfl (Or.inl rfl) (pe_methN (pv 0) (mok_cons ⟨_, _, _, _, X_.k_Uneven, X_.m_u_shows, ok_u_shows X_, hr.mono (by decide), X_.b_u_shows⟩ (mok_cons ⟨_, _, _, _, X_.k_Odd, X_.m_o_shows, ok_o_shows X_, hr.mono (by decide), X_.b_o_shows⟩ (mok_cons ⟨_, _, _, _, X_.k_Swapped, X_.m_s_shows, ok_s_shows X_, hr.mono (by decide), X_.b_s_shows⟩ (mok_cons ⟨_, _, _, _, X_.k_Turned, X_.m_t_shows, ok_t_shows X_, hr.mono (by decide), X_.b_t_shows⟩ (mok_cons ⟨_, _, _, _, X_.k_Rounded, X_.m_r_shows, ok_r_shows X_, hr.mono (by decide), X_.b_r_shows⟩ mok_nil))))) pass0 (pa_cons (pv 1) pa_nil)))
    (pss_one (ps_ret (pe_and (pe_callB (c_isi "bool") (by rfl) X_.n_isinstance (by decide +kernel) (pa_cons (pv 3) (pa_cons (pe_bltn rfl X_.n_bool (by decide +kernel) rfl) pa_nil))) (pe_and (pe_cmpR op_eq (pv 3) (pv 2) (nomark _)) (pe_one (pe_callB (c_isiC A.c_Answer) (by rfl) X_.n_isinstance (by decide +kernel) (pa_cons (pv 0) (pa_cons (pe_glob rfl X_.g_Answer rfl) pa_nil)))))))))
theorem ok__law_put {P : Program} {w : World} {K : PySem.W.Frag} {mg : Str → Option Value} {base : Heap} {A : Ads} (X_ : Txt K mg A) : FnOk P w K mg base CX0 1 A.f__law_put A.d__law_put ["_law_row_here", "_law_at", "_law_thing"] (sp__law_put K A.toCA) := by
  have nd_ := sc__law_put.nd
  refine X_.F__law_put.ok sc__law_put (fun vs H Q E h => ln__law_put h) (fun cdv A_ outer s H vs Q E hr h => ⟨rd__law_put K A.toCA, ?_, pu__law_put h⟩)
  exact (pss_one (ps_ret (pe_op op_cat (pe_op op_cat (pe_slice sl_list (pv 0) po_none (po_some (pv 1))) (pe_lst (pa_cons (pv 2) pa_nil))) (pe_slice sl_list (pv 0) (po_some (pe_op o_add (pv 1) pe_int)) po_none))))
theorem ok__law_bent {P : Program} {w : World} {K : PySem.W.Frag} {mg : Str → Option Value} {base : Heap} {A : Ads} (X_ : Txt K mg A) : FnOk P w K mg base CX0 2 A.f__law_bent A.d__law_bent ["_law_row_here", "_law_more"] (sp__law_bent K A.toCA) := by
  have nd_ := sc__law_bent.nd
  refine X_.F__law_bent.ok sc__law_bent (fun vs H Q E h => ln__law_bent h) (fun cdv A_ outer s H vs Q E hr h => ⟨rd__law_bent K A.toCA, ?_, pu__law_bent h⟩)
  exact (pss_cons (ps_set (i := 2) nd_ rfl (Or.inl rfl) (pe_lst (pa_cons (pv 0) (pa_cons (pe_slice sl_list (pv 0) (po_some pe_int) po_none) (pa_cons (pe_slice sl_list (pv 0) po_none (po_some (pe_un o_neg pe_int))) (pa_cons (pe_op op_cat (pv 0) (pe_slice sl_list (pv 0) (po_some (pe_un o_neg pe_int)) po_none)) (pa_cons (pe_revL (pv 0)) (pa_cons (pe_lst pa_nil) (pa_cons (pe_op op_cat (pv 0) (pe_lst (pa_cons (pv 1) pa_nil))) (pa_cons (pe_op op_cat (pv 0) (pe_lst (pa_cons (pe_un o_neg pe_int) pa_nil))) (pa_cons (pe_op op_cat (pv 0) (pe_lst (pa_cons (pe_op o_pow pe_int pe_int) pa_nil))) pa_nil)))))))))))
    (pss_cons (ps_for PassesOwn.never rfl (pi_range1 rfl X_.n_range (pa_cons (pe_callB c_len (by rfl) X_.n_len (by decide +kernel) (pa_cons (pv 0) pa_nil)) pa_nil)) (pg_name (i := 3) nd_ rfl (Or.inl rfl)) (pss_one (ps_for PassesOwn.never rfl (pi_tup (pe_tup (pa_cons pe_int (pa_cons (pe_un o_neg pe_int) (pa_cons (pe_op o_pow pe_int pe_int) pa_nil))))) (pg_name (i := 4) nd_ rfl (Or.inl rfl)) (pss_one (ps_expr (pe_bm PySem.F.plainAttrs_list PySem.F.slot_list_append PySem.F.type_list_append mt_append (pv 2) (pa_cons (pe_call (ok__law_put X_) (hr.mono (by decide)) rfl X_.g__law_put X_.F__law_put.kp X_.b__law_put .nil pass0 (pa_cons (pv 0) (pa_cons (pv 3) (pa_cons (pe_op o_add (pe_ix ix_list (pv 0) (pv 3) (fun _ _ => rfl)) (pv 4)) pa_nil)))) pa_nil)))))))
    (pss_one (ps_ret (pv 2)))))
theorem ok__law_swapped_right {P : Program} {w : World} {K : PySem.W.Frag} {mg : Str → Option Value} {base : Heap} {A : Ads} (X_ : Txt K mg A) : FnOk P w K mg base CX0 7 A.f__law_swapped_right A.d__law_swapped_right ["_law_row_here", "_law_places", "_law_lifts"] (sp__law_swapped_right K A.toCA) := by
  have nd_ := sc__law_swapped_right.nd
  refine X_.F__law_swapped_right.ok sc__law_swapped_right (fun vs H Q E h => ln__law_swapped_right h) (fun cdv A_ outer s H vs Q E hr h => ⟨rd__law_swapped_right K A.toCA, ?_, pu__law_swapped_right h⟩)
  exact (pss_cons (ps_set (i := 3) nd_ rfl (Or.inl rfl) (pe_lst (pa_cons (pe_callTy c_listOf (by rfl) X_.n_list (by decide +kernel) (pa_cons (pv 1) pa_nil)) (pa_cons (pe_callTy c_listOf (by rfl) X_.n_list (by decide +kernel) (pa_cons (pv 2) pa_nil)) pa_nil))))
    (pss_cons (ps_set (i := 4) nd_ rfl (Or.inl rfl) (pe_make X_.mk_Swapped (ok_s_init X_) (hr.mono (by decide)) rfl X_.g_Swapped X_.b_s_init .nil pass0 (pa_cons (pe_ix ix_list (pv 3) pe_int (fun _ _ => rfl)) (pa_cons (pe_ix ix_list (pv 3) pe_int (fun _ _ => rfl)) pa_nil))))
    (pss_cons (ps_expr (pe_bm PySem.F.plainAttrs_list PySem.F.slot_list_append PySem.F.type_list_append mt_append (pe_ix ix_list (pv 3) pe_int (fun _ _ => rfl)) (pa_cons pe_int pa_nil)))
    (pss_cons (ps_expr (pe_bm PySem.F.plainAttrs_list PySem.F.slot_list_append PySem.F.type_list_append mt_append (pe_ix ix_list (pv 3) pe_int (fun _ _ => rfl)) (pa_cons pe_int pa_nil)))
    (pss_one (ps_ret (pe_and (pe_cmpR (op_eqD hr.units) (pe_lst (pa_cons (pe_fld (pv 4) rfl) (pa_cons (pe_fld (pv 4) rfl) pa_nil))) (pe_lst (pa_cons (pv 1) (pa_cons (pv 2) pa_nil))) (nomark _)) (pe_one (pe_call (ok__law_says05 X_) (hr.mono (by decide)) rfl X_.g__law_says05 X_.F__law_says05.kp X_.b__law_says05 .nil pass0 (pa_cons (pv 4) (pa_cons (pv 0) (pa_cons (pe_call (ok__law_swapped X_) (hr.mono (by decide)) rfl X_.g__law_swapped X_.F__law_swapped.kp X_.b__law_swapped .nil pass0 (pa_cons (pv 0) (pa_cons (pv 1) (pa_cons (pv 2) pa_nil)))) pa_nil))))))))))))
theorem ok__law_turned_right {P : Program} {w : World} {K : PySem.W.Frag} {mg : Str → Option Value} {base : Heap} {A : Ads} (X_ : Txt K mg A) : FnOk P w K mg base CX0 7 A.f__law_turned_right A.d__law_turned_right ["_law_row_here", "_law_places", "_law_cut"] (sp__law_turned_right K A.toCA) := by
  have nd_ := sc__law_turned_right.nd
  refine X_.F__law_turned_right.ok sc__law_turned_right (fun vs H Q E h => ln__law_turned_right h) (fun cdv A_ outer s H vs Q E hr h => ⟨rd__law_turned_right K A.toCA, ?_, pu__law_turned_right h⟩)
  exact (pss_cons (ps_set (i := 3) nd_ rfl (Or.inl rfl) (pe_callTy c_listOf (by rfl) X_.n_list (by decide +kernel) (pa_cons (pv 1) pa_nil)))
    (pss_cons (ps_set (i := 4) nd_ rfl (Or.inl rfl) (pe_make X_.mk_Turned (ok_t_init X_) (hr.mono (by decide)) rfl X_.g_Turned X_.b_t_init .nil pass0 (pa_cons (pv 3) (pa_cons (pv 2) pa_nil))))
    (pss_cons (ps_expr (pe_bm PySem.F.plainAttrs_list PySem.F.slot_list_append PySem.F.type_list_append mt_append (pv 3) (pa_cons pe_int pa_nil)))
    (pss_one (ps_ret (pe_and (pe_cmpR (op_eqD hr.units) (pe_lst (pa_cons (pe_fld (pv 4) rfl) (pa_cons (pe_fld (pv 4) rfl) pa_nil))) (pe_lst (pa_cons (pv 1) (pa_cons (pv 2) pa_nil))) (nomark _)) (pe_one (pe_call (ok__law_says05 X_) (hr.mono (by decide)) rfl X_.g__law_says05 X_.F__law_says05.kp X_.b__law_says05 .nil pass0 (pa_cons (pv 4) (pa_cons (pv 0) (pa_cons (pe_call (ok__law_turned X_) (hr.mono (by decide)) rfl X_.g__law_turned X_.F__law_turned.kp X_.b__law_turned .nil pass0 (pa_cons (pv 0) (pa_cons (pv 1) (pa_cons (pv 2) pa_nil)))) pa_nil)))))))))))
theorem ok__law_rounded_right {P : Program} {w : World} {K : PySem.W.Frag} {mg : Str → Option Value} {base : Heap} {A : Ads} (X_ : Txt K mg A) : FnOk P w K mg base CX0 7 A.f__law_rounded_right A.d__law_rounded_right ["_law_row_here", "_law_stretches", "_law_top"] (sp__law_rounded_right K A.toCA) := by
  have nd_ := sc__law_rounded_right.nd
  refine X_.F__law_rounded_right.ok sc__law_rounded_right (fun vs H Q E h => ln__law_rounded_right h) (fun cdv A_ outer s H vs Q E hr h => ⟨rd__law_rounded_right K A.toCA, ?_, pu__law_rounded_right h⟩)
  exact (pss_cons (ps_set (i := 3) nd_ rfl (Or.inl rfl) (pe_callTy c_listOf (by rfl) X_.n_list (by decide +kernel) (pa_cons (pv 1) pa_nil)))
    (pss_cons (ps_set (i := 4) nd_ rfl (Or.inl rfl) (pe_make X_.mk_Rounded (ok_r_init X_) (hr.mono (by decide)) rfl X_.g_Rounded X_.b_r_init .nil pass0 (pa_cons (pv 3) (pa_cons (pv 2) pa_nil))))
    (pss_cons (ps_expr (pe_bm PySem.F.plainAttrs_list PySem.F.slot_list_append PySem.F.type_list_append mt_append (pv 3) (pa_cons (pe_tup (pa_cons pe_int (pa_cons pe_int pa_nil))) pa_nil)))
    (pss_cons (ps_set (i := 5) nd_ rfl (Or.inl rfl) (pe_call (ok__law_rounded X_) (hr.mono (by decide)) rfl X_.g__law_rounded X_.F__law_rounded.kp X_.b__law_rounded .nil pass0 (pa_cons (pv 0) (pa_cons (pv 1) (pa_cons (pv 2) pa_nil)))))
    (pss_one (ps_ret (pe_and (pe_cmpR (op_eqD hr.units) (pe_lst (pa_cons (pe_fld (pv 4) rfl) (pa_cons (pe_fld (pv 4) rfl) pa_nil))) (pe_lst (pa_cons (pv 1) (pa_cons (pv 2) pa_nil))) (nomark _)) (pe_one (pe_call (ok__law_says05 X_) (hr.mono (by decide)) rfl X_.g__law_says05 X_.F__law_says05.kp X_.b__law_says05 .nil pass0 (pa_cons (pv 4) (pa_cons (pv 0) (pa_cons (pv 5) pa_nil))))))))))))
theorem ok__law_more_right {P : Program} {w : World} {K : PySem.W.Frag} {mg : Str → Option Value} {base : Heap} {A : Ads} (X_ : Txt K mg A) : FnOk P w K mg base CX0 8 A.f__law_more_right A.d__law_more_right ["_law_row_here", "_law_told", "_law_spun"] (sp__law_more_right K A.toCA) := by
  have nd_ := sc__law_more_right.nd
  refine X_.F__law_more_right.ok sc__law_more_right (fun vs H Q E h => ln__law_more_right h) (fun cdv A_ outer s H vs Q E hr h => ⟨rd__law_more_right K A.toCA, ?_, pu__law_more_right h⟩)
  exact (pss_cons (ps_for PassesOwn.never rfl (pi_range1 rfl X_.n_range (pa_cons (pe_op o_sub (pe_callB c_lenT (by rfl) X_.n_len (by decide +kernel) (pa_cons (pv 0) pa_nil)) pe_int) pa_nil)) (pg_name (i := 3) nd_ rfl (Or.inl rfl)) (pss_one (ps_for PassesOwn.never rfl (pi_range1 rfl X_.n_range (pa_cons (pe_callB c_len (by rfl) X_.n_len (by decide +kernel) (pa_cons (pe_fld (pv 1) rfl) pa_nil)) pa_nil)) (pg_name (i := 7) nd_ rfl (Or.inl rfl)) (pss_cons (ps_set (i := 10) nd_ rfl (Or.inl rfl) (pe_call (ok__law_put X_) (hr.mono (by decide)) rfl X_.g__law_put X_.F__law_put.kp X_.b__law_put .nil pass0 (pa_cons (pe_fld (pv 1) rfl) (pa_cons (pv 7) (pa_cons (pe_op o_add (pe_ix ix_list (pe_fld (pv 1) rfl) (pv 7) (fun _ _ => rfl)) pe_int) pa_nil)))))
    (pss_one (ps_if (pt_not (pt_val (pe_call (ok__law_swapped_right X_) (hr.mono (by decide)) rfl X_.g__law_swapped_right X_.F__law_swapped_right.kp X_.b__law_swapped_right .nil pass0 (pa_cons (pv 0) (pa_cons (pe_op op_cat (pe_fld (pv 1) rfl) (pe_lst (pa_cons (pv 3) (pa_cons (pv 3) pa_nil)))) (pa_cons (pv 10) pa_nil)))))) (pss_one (ps_ret pe_bl)) pss_nil))))))
    (pss_cons (ps_par (i := 8) (j := 9) rfl nd_ rfl rfl (by decide) rfl rfl (pa_cons (pe_call (ok__law_depths X_) (hr.mono (by decide)) rfl X_.g__law_depths X_.F__law_depths.kp X_.b__law_depths .nil pass0 (pa_cons (pv 0) pa_nil)) (pa_cons (pe_callB c_lenT (by rfl) X_.n_len (by decide +kernel) (pa_cons (pv 0) pa_nil)) pa_nil)) (by rfl))
    (pss_cons (ps_set (i := 4) nd_ rfl (Or.inl rfl) (pe_bm PySem.F.plainAttrs_list PySem.F.slot_list_index PySem.F.type_list_index m_index (pv 8) (pa_cons (pe_callB (cr_max rfl) (by rfl) X_.n_max (by decide +kernel) (pa_cons (pv 8) pa_nil)) pa_nil)))
    (pss_cons (ps_set (i := 5) nd_ rfl (Or.inl rfl) (pe_lst (pa_cons (pe_lst (pa_cons (pe_tup (pa_cons pe_int (pa_cons (pv 4) pa_nil))) (pa_cons (pe_tup (pa_cons (pv 4) (pa_cons (pv 9) pa_nil))) pa_nil))) (pa_cons (pe_lst (pa_cons (pe_tup (pa_cons pe_int (pa_cons pe_int pa_nil))) pa_nil)) (pa_cons (pe_lst (pa_cons (pe_tup (pa_cons pe_int (pa_cons pe_int pa_nil))) (pa_cons (pe_tup (pa_cons pe_int (pa_cons pe_int pa_nil))) pa_nil))) (pa_cons (pe_lst (pa_cons (pe_tup (pa_cons pe_int (pa_cons pe_int pa_nil))) (pa_cons (pe_tup (pa_cons pe_int (pa_cons pe_int pa_nil))) pa_nil))) (pa_cons (pe_op op_cat (pe_fld (pv 2) rfl) (pe_lst (pa_cons (pe_tup (pa_cons pe_int (pa_cons pe_int pa_nil))) pa_nil))) pa_nil)))))))
    (pss_cons (ps_for PassesOwn.never rfl (pi_list (pv 5)) (pg_name (i := 6) nd_ rfl (Or.inl rfl)) (pss_one (ps_for PassesOwn.never rfl (pi_list (pe_op op_cat (pe_lst (pa_cons pe_non pa_nil)) (pe_listRg rfl rfl X_.n_list (prg_1 rfl X_.n_range (pe_op o_add (pv 9) pe_int))))) (pg_name (i := 3) nd_ rfl (Or.inl rfl)) (pss_one (ps_if (pt_not (pt_val (pe_call (ok__law_rounded_right X_) (hr.mono (by decide)) rfl X_.g__law_rounded_right X_.F__law_rounded_right.kp X_.b__law_rounded_right .nil pass0 (pa_cons (pv 0) (pa_cons (pv 6) (pa_cons (pv 3) pa_nil)))))) (pss_one (ps_ret pe_bl)) pss_nil)))))
    (pss_one (ps_ret pe_bl)))))))
theorem ok__law_even_right {P : Program} {w : World} {K : PySem.W.Frag} {mg : Str → Option Value} {base : Heap} {A : Ads} (X_ : Txt K mg A) : FnOk P w K mg base CX0 9 A.f__law_even_right A.d__law_even_right ["_law_row_here", "_law_whole"] (sp__law_even_right K A.toCA) := by
  have nd_ := sc__law_even_right.nd
  refine X_.F__law_even_right.ok sc__law_even_right (fun vs H Q E h => ln__law_even_right h) (fun cdv A_ outer s H vs Q E hr h => ⟨rd__law_even_right K A.toCA, ?_, pu__law_even_right h⟩)
  exact (pss_cons (ps_par (i := 6) (j := 7) rfl nd_ rfl rfl (by decide) rfl rfl (pa_cons (pe_call (ok_swaps X_) (hr.mono (by decide)) rfl X_.g_swaps X_.F_swaps.kp X_.b_swaps .nil pass0 (pa_cons (pv 0) pa_nil)) (pa_cons (pe_call (ok_rounds X_) (hr.mono (by decide)) rfl X_.g_rounds X_.F_rounds.kp X_.b_rounds .nil pass0 (pa_cons (pv 0) pa_nil)) pa_nil)) (by rfl))
    (pss_cons (ps_if (pt_not (pt_val (pe_call (ok__law_more_right X_) (hr.mono (by decide)) rfl X_.g__law_more_right X_.F__law_more_right.kp X_.b__law_more_right .nil pass0 (pa_cons (pv 0) (pa_cons (pv 6) (pa_cons (pv 7) pa_nil)))))) (pss_one (ps_ret pe_bl)) pss_nil)
    (pss_cons (ps_for PassesOwn.never rfl (pi_list (pe_call (ok__law_bent X_) (hr.mono (by decide)) rfl X_.g__law_bent X_.F__law_bent.kp X_.b__law_bent .nil pass0 (pa_cons (pe_fld (pv 6) rfl) (pa_cons (pe_callB c_lenT (by rfl) X_.n_len (by decide +kernel) (pa_cons (pv 0) pa_nil)) pa_nil)))) (pg_name (i := 2) nd_ rfl (Or.inl rfl)) (pss_one (ps_if (pt_not (pt_val (pe_call (ok__law_swapped_right X_) (hr.mono (by decide)) rfl X_.g__law_swapped_right X_.F__law_swapped_right.kp X_.b__law_swapped_right .nil pass0 (pa_cons (pv 0) (pa_cons (pv 2) (pa_cons (pe_fld (pv 6) rfl) pa_nil)))))) (pss_one (ps_ret pe_bl)) pss_nil)))
    (pss_cons (ps_for PassesOwn.never rfl (pi_list (pe_call (ok__law_bent X_) (hr.mono (by decide)) rfl X_.g__law_bent X_.F__law_bent.kp X_.b__law_bent .nil pass0 (pa_cons (pe_fld (pv 6) rfl) (pa_cons pe_int pa_nil)))) (pg_name (i := 3) nd_ rfl (Or.inl rfl)) (pss_one (ps_if (pt_not (pt_val (pe_call (ok__law_swapped_right X_) (hr.mono (by decide)) rfl X_.g__law_swapped_right X_.F__law_swapped_right.kp X_.b__law_swapped_right .nil pass0 (pa_cons (pv 0) (pa_cons (pe_fld (pv 6) rfl) (pa_cons (pv 3) pa_nil)))))) (pss_one (ps_ret pe_bl)) pss_nil)))
    (pss_cons (ps_asg (pe_tup (pa_cons (pe_fld (pv 7) rfl) (pa_cons (pe_callB c_lenT (by rfl) X_.n_len (by decide +kernel) (pa_cons (pv 0) pa_nil)) pa_nil))) (pg_tup rfl (pgs_cons (pg_name (i := 8) nd_ rfl (Or.inr rfl)) (pgs_cons (pg_name (i := 9) nd_ rfl (Or.inl rfl)) pgs_nil))))
    (pss_cons (ps_set (i := 4) nd_ rfl (Or.inl rfl) (pe_lst (pa_cons (pv 8) (pa_cons (pe_lst pa_nil) (pa_cons (pe_revL (pv 8)) (pa_cons (pe_op op_cat (pv 8) (pe_slice sl_list (pv 8) po_none (po_some pe_int))) (pa_cons (pe_slice sl_list (pv 8) po_none (po_some pe_int)) (pa_cons (pe_op op_cat (pv 8) (pe_lst (pa_cons (pe_tup (pa_cons pe_int (pa_cons (pv 9) pa_nil))) pa_nil))) pa_nil))))))))
    (pss_cons (ps_set (i := 4) nd_ rfl (Or.inl rfl) (pe_op op_cat (pv 4) (pe_lst (pa_cons (pe_lst (pa_cons (pe_tup (pa_cons pe_int (pa_cons (pv 9) pa_nil))) pa_nil)) (pa_cons (pe_lst (pa_cons (pe_tup (pa_cons pe_int (pa_cons (pe_op o_div (pv 9) pe_int) pa_nil))) (pa_cons (pe_tup (pa_cons (pe_op o_div (pv 9) pe_int) (pa_cons (pv 9) pa_nil))) pa_nil))) (pa_cons (pe_op op_cat (pv 8) (pe_lst (pa_cons (pe_tup (pa_cons (pe_un o_neg pe_int) (pa_cons pe_int pa_nil))) pa_nil))) (pa_cons (pe_lst (pa_cons (pe_tup (pa_cons pe_int (pa_cons pe_int pa_nil))) pa_nil)) (pa_cons (pe_lst (pa_cons (pe_tup (pa_cons pe_int (pa_cons (pe_op o_pow pe_int pe_int) pa_nil))) pa_nil)) pa_nil))))))))
    (pss_cons (ps_for PassesOwn.never rfl (pi_enum rfl X_.n_enumerate (pa_cons (pv 8) pa_nil)) (pg_tup rfl (pgs_cons (pg_name (i := 10) nd_ rfl (Or.inl rfl)) (pgs_cons (pg_tup rfl (pgs_cons (pg_name (i := 12) nd_ rfl (Or.inl rfl)) (pgs_cons (pg_name (i := 13) nd_ rfl (Or.inl rfl)) pgs_nil))) pgs_nil))) (pss_one (ps_for PassesOwn.never rfl (pi_list (pe_lst (pa_cons (pe_tup (pa_cons (pe_op o_add (pv 12) pe_int) (pa_cons (pv 13) pa_nil))) (pa_cons (pe_tup (pa_cons (pv 12) (pa_cons (pe_op o_sub (pv 13) pe_int) pa_nil))) (pa_cons (pe_tup (pa_cons (pe_op o_sub (pv 12) pe_int) (pa_cons (pe_op o_add (pv 13) pe_int) pa_nil))) (pa_cons (pe_tup (pa_cons (pv 13) (pa_cons (pv 12) pa_nil))) pa_nil)))))) (pg_tup rfl (pgs_cons (pg_name (i := 14) nd_ rfl (Or.inl rfl)) (pgs_cons (pg_name (i := 15) nd_ rfl (Or.inl rfl)) pgs_nil))) (pss_one (ps_expr (pe_bm PySem.F.plainAttrs_list PySem.F.slot_list_append PySem.F.type_list_append mt_append (pv 4) (pa_cons (pe_call (ok__law_put X_) (hr.mono (by decide)) rfl X_.g__law_put X_.F__law_put.kp X_.b__law_put .nil pass0 (pa_cons (pv 8) (pa_cons (pv 10) (pa_cons (pe_tup (pa_cons (pv 14) (pa_cons (pv 15) pa_nil))) pa_nil)))) pa_nil)))))))
    (pss_cons (ps_for PassesOwn.never rfl (pi_list (pv 4)) (pg_name (i := 5) nd_ rfl (Or.inl rfl)) (pss_one (ps_for PassesOwn.never rfl (pi_list (pe_lst (pa_cons (pe_fld (pv 7) rfl) (pa_cons pe_non (pa_cons (pe_op o_mod (pv 1) (pe_op o_add (pv 9) pe_int)) (pa_cons (pe_un o_neg pe_int) (pa_cons (pe_op o_pow pe_int pe_int) pa_nil))))))) (pg_name (i := 11) nd_ rfl (Or.inl rfl)) (pss_one (ps_if (pt_not (pt_val (pe_call (ok__law_rounded_right X_) (hr.mono (by decide)) rfl X_.g__law_rounded_right X_.F__law_rounded_right.kp X_.b__law_rounded_right .nil pass0 (pa_cons (pv 0) (pa_cons (pv 5) (pa_cons (pv 11) pa_nil)))))) (pss_one (ps_ret pe_bl)) pss_nil)))))
    (pss_one (ps_ret (pe_callB (c_all rfl) (by rfl) X_.n_all (by decide +kernel) (pa_cons (pe_lc (own := [("_law_top", 11)]) (g := (gName 11)) (tt := tYes) rfl nd_ (pi_range2 rfl X_.n_range (pa_cons (pe_un o_neg pe_int) (pa_cons (pe_op o_add (pv 9) pe_int) pa_nil))) (blkOk_by (own := [("_law_top", 11)]) (N := N__law_even_right) (sc := defScope s__law_even_right) (by decide +kernel)) (fun _ _ _ _ _ => (pg_name (i := 11) nd_ rfl (Or.inl rfl))) (fun _ _ _ _ _ => pts_nil) (fun _ _ _ _ _ => (pe_call (ok__law_rounded_right X_) (hr.mono (by decide)) rfl X_.g__law_rounded_right X_.F__law_rounded_right.kp X_.b__law_rounded_right .nil pass0 (pa_cons (pv 0) (pa_cons (pv 8) (pa_cons (pv 11) pa_nil)))))) pa_nil)))))))))))))
theorem ok_law05 {P : Program} {w : World} {K : PySem.W.Frag} {mg : Str → Option Value} {base : Heap} {A : Ads} (X_ : Txt K mg A) : FnOk P w K mg base CX0 11 A.f_law05 A.d_law05 ["_law_script"] (sp_law05 K A.toCA) := by
  have nd_ := sc_law05.nd
  refine X_.F_law05.ok sc_law05 (fun vs H Q E h => ln_law05 h) (fun cdv A_ outer s H vs Q E hr h => ⟨rd_law05 K A.toCA, ?_, pu_law05 h⟩)
  exact (pss_cons (ps_set (i := 1) nd_ rfl (Or.inl rfl) (pe_callB c_abs (by rfl) X_.n_abs (by decide +kernel) (pa_cons (pe_callB (cr_sum rfl) (by rfl) X_.n_sum (by decide +kernel) (pa_cons (pe_slice sl_list (pv 0) po_none (po_some pe_int)) pa_nil)) pa_nil)))
    (pss_cons (ps_for PassesOwn.never rfl (pi_list (pe_lst (pa_cons pe_int (pa_cons pe_int (pa_cons pe_int pa_nil))))) (pg_name (i := 2) nd_ rfl (Or.inl rfl)) (pss_cons (ps_set (i := 3) nd_ rfl (Or.inr rfl) (pe_call (ok__law_row X_) (hr.mono (by decide)) rfl X_.g__law_row X_.F__law_row.kp X_.b__law_row .nil pass0 (pa_cons (pv 0) (pa_cons (pv 2) (pa_cons pe_int (pa_cons (pe_cmpR op_eq (pv 2) pe_int (nomark _)) pa_nil))))))
    (pss_cons (ps_if (PW.pt (pw_and (pt_cmpR op_eq (pe_bm PySem.F.plainAttrs_str PySem.F.slot_str_count PySem.F.type_str_count m_countT (pv 3) (pa_cons (pe_strT [true]) pa_nil)) (pe_bm PySem.F.plainAttrs_str PySem.F.slot_str_count PySem.F.type_str_count m_countT (pv 3) (pa_cons (pe_strT [false]) pa_nil)) (nomark _)) (pw_and1 (pt_not (pt_val (pe_call (ok__law_even_right X_) (hr.mono (by decide)) rfl X_.g__law_even_right X_.F__law_even_right.kp X_.b__law_even_right .nil pass0 (pa_cons (pv 3) (pa_cons (pe_op o_div (pv 1) pe_int) pa_nil)))))))) (pss_one (ps_ret pe_bl)) pss_nil)
    (pss_cons (ps_for PassesOwn.never rfl (pi_range2 rfl X_.n_range (pa_cons (pe_un o_neg pe_int) (pa_cons pe_int pa_nil))) (pg_name (i := 4) nd_ rfl (Or.inl rfl)) (pss_cons (ps_set (i := 8) nd_ rfl (Or.inl rfl) (pe_make X_.mk_Uneven (ok_u_init X_) (hr.mono (by decide)) rfl X_.g_Uneven X_.b_u_init .nil pass0 (pa_cons (pv 4) pa_nil)))
    (pss_one (ps_if (PW.pt (pw_or (pt_cmpR op_ne (pe_fld (pv 8) rfl) (pv 4) (nomark _)) (pw_or1 (pt_not (pt_val (pe_call (ok__law_says05 X_) (hr.mono (by decide)) rfl X_.g__law_says05 X_.F__law_says05.kp X_.b__law_says05 .nil pass0 (pa_cons (pv 8) (pa_cons (pv 3) (pa_cons (pe_call (ok__law_uneven X_) (hr.mono (by decide)) rfl X_.g__law_uneven X_.F__law_uneven.kp X_.b__law_uneven .nil pass0 (pa_cons (pv 3) (pa_cons (pv 4) pa_nil))) pa_nil))))))))) (pss_one (ps_ret pe_bl)) pss_nil))))
    (pss_cons (ps_if (PW.pt (pw_or (pt_not (pt_val (pe_call (ok__law_says05 X_) (hr.mono (by decide)) rfl X_.g__law_says05 X_.F__law_says05.kp X_.b__law_says05 .nil pass0 (pa_cons (pe_mk0 X_.mk_Odd rfl X_.g_Odd) (pa_cons (pv 3) (pa_cons (pe_cmpR op_eq (pe_op o_mod (pe_callB c_lenT (by rfl) X_.n_len (by decide +kernel) (pa_cons (pv 3) pa_nil)) pe_int) pe_int (nomark _)) pa_nil)))))) (pw_or1 (pt_not (pt_val (pe_call (ok__law_says05 X_) (hr.mono (by decide)) rfl X_.g__law_says05 X_.F__law_says05.kp X_.b__law_says05 .nil pass0 (pa_cons (pe_make X_.mk_Uneven (ok_u_init X_) (hr.mono (by decide)) rfl X_.g_Uneven X_.b_u_init .nil pass0 (pa_cons (pe_op o_pow pe_int pe_int) pa_nil)) (pa_cons (pv 3) (pa_cons pe_bl pa_nil))))))))) (pss_one (ps_ret pe_bl)) pss_nil)
    (pss_cons (ps_set (i := 5) nd_ rfl (Or.inl rfl) (pe_call (ok_turns X_) (hr.mono (by decide)) rfl X_.g_turns X_.F_turns.kp X_.b_turns .nil pass0 (pa_cons (pv 3) pa_nil)))
    (pss_cons (ps_set (i := 6) nd_ rfl (Or.inr rfl) (pe_ifExp (pt_val (pe_callB (c_isiC A.c_Turned) (by rfl) X_.n_isinstance (by decide +kernel) (pa_cons (pv 5) (pa_cons (pe_glob rfl X_.g_Turned rfl) pa_nil)))) (pe_fld (pv 5) rfl) (pe_lst (pa_cons pe_int pa_nil))))
    (pss_cons (ps_for PassesOwn.never rfl (pi_list (pe_call (ok__law_bent X_) (hr.mono (by decide)) rfl X_.g__law_bent X_.F__law_bent.kp X_.b__law_bent .nil pass0 (pa_cons (pv 6) (pa_cons (pe_callB c_lenT (by rfl) X_.n_len (by decide +kernel) (pa_cons (pv 3) pa_nil)) pa_nil)))) (pg_name (i := 7) nd_ rfl (Or.inl rfl)) (pss_one (ps_for PassesOwn.never rfl (pi_list (pe_lst (pa_cons (pe_ifExp (pt_val (pe_callB (c_isiC A.c_Turned) (by rfl) X_.n_isinstance (by decide +kernel) (pa_cons (pv 5) (pa_cons (pe_glob rfl X_.g_Turned rfl) pa_nil)))) (pe_fld (pv 5) rfl) pe_int) (pa_cons (pe_op o_mod (pv 1) (pe_op o_add (pe_callB c_lenT (by rfl) X_.n_len (by decide +kernel) (pa_cons (pv 3) pa_nil)) pe_int)) (pa_cons (pe_un o_neg pe_int) (pa_cons (pe_op o_pow pe_int pe_int) pa_nil)))))) (pg_name (i := 9) nd_ rfl (Or.inl rfl)) (pss_one (ps_if (pt_not (pt_val (pe_call (ok__law_turned_right X_) (hr.mono (by decide)) rfl X_.g__law_turned_right X_.F__law_turned_right.kp X_.b__law_turned_right .nil pass0 (pa_cons (pv 3) (pa_cons (pv 7) (pa_cons (pv 9) pa_nil)))))) (pss_one (ps_ret pe_bl)) pss_nil)))))
    (pss_one (ps_if (pt_not (pt_val (pe_callB (c_all rfl) (by rfl) X_.n_all (by decide +kernel) (pa_cons (pe_lc (own := [("_law_cut", 9)]) (g := (gName 9)) (tt := tYes) rfl nd_ (pi_range2 rfl X_.n_range (pa_cons (pe_un o_neg pe_int) (pa_cons (pe_op o_add (pe_callB c_lenT (by rfl) X_.n_len (by decide +kernel) (pa_cons (pv 3) pa_nil)) pe_int) pa_nil))) (blkOk_by (own := [("_law_cut", 9)]) (N := N_law05) (sc := defScope s_law05) (by decide +kernel)) (fun _ _ _ _ _ => (pg_name (i := 9) nd_ rfl (Or.inl rfl))) (fun _ _ _ _ _ => pts_nil) (fun _ _ _ _ _ => (pe_call (ok__law_turned_right X_) (hr.mono (by decide)) rfl X_.g__law_turned_right X_.F__law_turned_right.kp X_.b__law_turned_right .nil pass0 (pa_cons (pv 3) (pa_cons (pv 6) (pa_cons (pv 9) pa_nil)))))) pa_nil)))) (pss_one (ps_ret pe_bl)) pss_nil))))))))))
    (pss_cons (ps_if (pt_cmpR o_notB (pe_meth (pe_make X_.mk_Rounded (ok_r_init X_) (hr.mono (by decide)) rfl X_.g_Rounded X_.b_r_init .nil pass0 (pa_cons (pe_lst (pa_cons (pe_tup (pa_cons pe_int (pa_cons pe_int pa_nil))) (pa_cons (pe_tup (pa_cons pe_int (pa_cons pe_int pa_nil))) pa_nil))) (pa_cons pe_int pa_nil))) X_.k_Rounded X_.m_r_shows (ok_r_shows X_) (hr.mono (by decide)) X_.b_r_shows .nil pass0 (pa_cons (pe_strT [true, false, false, true, true, true, false, false, false, true, true, false]) pa_nil)) pe_bl (nomark _)) (pss_one (ps_ret pe_bl)) pss_nil)
    (pss_cons (ps_if (PW.pt (pw_or (pt_val (pe_meth (pe_make X_.mk_Swapped (ok_s_init X_) (hr.mono (by decide)) rfl X_.g_Swapped X_.b_s_init .nil pass0 (pa_cons (pe_op op_rep (pe_lst (pa_cons pe_int pa_nil)) pe_int) (pa_cons (pe_lst (pa_cons pe_int (pa_cons pe_int (pa_cons pe_int pa_nil)))) pa_nil))) X_.k_Swapped X_.m_s_shows (ok_s_shows X_) (hr.mono (by decide)) X_.b_s_shows .nil pass0 (pa_cons (pe_strT [false, true]) pa_nil))) (pw_or1 (pt_val (pe_meth (pe_make X_.mk_Turned (ok_t_init X_) (hr.mono (by decide)) rfl X_.g_Turned X_.b_t_init .nil pass0 (pa_cons (pe_op op_rep (pe_lst (pa_cons pe_int (pa_cons pe_int pa_nil))) pe_int) (pa_cons pe_int pa_nil))) X_.k_Turned X_.m_t_shows (ok_t_shows X_) (hr.mono (by decide)) X_.b_t_shows .nil pass0 (pa_cons (pe_strT [false, true]) pa_nil)))))) (pss_one (ps_ret pe_bl)) pss_nil)
    (pss_cons (ps_if (PW.pt (pw_or (pt_val (pe_meth (pe_make X_.mk_Rounded (ok_r_init X_) (hr.mono (by decide)) rfl X_.g_Rounded X_.b_r_init .nil pass0 (pa_cons (pe_op op_rep (pe_lst (pa_cons (pe_tup (pa_cons pe_int (pa_cons pe_int pa_nil))) pa_nil)) pe_int) (pa_cons pe_non pa_nil))) X_.k_Rounded X_.m_r_shows (ok_r_shows X_) (hr.mono (by decide)) X_.b_r_shows .nil pass0 (pa_cons (pe_strT [false, true]) pa_nil))) (pw_or1 (pt_val (pe_meth (pe_make X_.mk_Swapped (ok_s_init X_) (hr.mono (by decide)) rfl X_.g_Swapped X_.b_s_init .nil pass0 (pa_cons (pe_op op_rep (pe_lst (pa_cons pe_int pa_nil)) pe_int) (pa_cons (pe_lst (pa_cons pe_int (pa_cons pe_int (pa_cons pe_int pa_nil)))) pa_nil))) X_.k_Swapped X_.m_s_shows (ok_s_shows X_) (hr.mono (by decide)) X_.b_s_shows .nil pass0 (pa_cons (pe_strT [false, true]) pa_nil)))))) (pss_one (ps_ret pe_bl)) pss_nil)
    (pss_one (ps_ret (pe_and (pe_cmpR o_isB (pe_meth (pe_make X_.mk_Rounded (ok_r_init X_) (hr.mono (by decide)) rfl X_.g_Rounded X_.b_r_init .nil pass0 (pa_cons (pe_lst (pa_cons (pe_tup (pa_cons pe_int (pa_cons pe_int pa_nil))) (pa_cons (pe_tup (pa_cons pe_int (pa_cons pe_int pa_nil))) pa_nil))) (pa_cons pe_int pa_nil))) X_.k_Rounded X_.m_r_shows (ok_r_shows X_) (hr.mono (by decide)) X_.b_r_shows .nil pass0 (pa_cons (pe_strT [false, true, true, true, false, false, false, true]) pa_nil)) pe_bl (nomark _)) (pe_one (pe_cmpR o_isB (pe_meth (pe_make X_.mk_Rounded (ok_r_init X_) (hr.mono (by decide)) rfl X_.g_Rounded X_.b_r_init .nil pass0 (pa_cons (pe_lst (pa_cons (pe_tup (pa_cons pe_int (pa_cons pe_int pa_nil))) pa_nil)) (pa_cons pe_non pa_nil))) X_.k_Rounded X_.m_r_shows (ok_r_shows X_) (hr.mono (by decide)) X_.b_r_shows .nil pass0 (pa_cons (pe_strT [false, true, true, true, false, false, false, true]) pa_nil)) pe_bl (nomark _)))))))))))
end BM
namespace BM
open PySem L2 Evl
/-- one def, as the top has written it -/
theorem fun_ex {K : PySem.W.Frag} {h : Heap} {mg : Str → Option Value} {x : Str} {st : Stmt} {ps : List Str} {G : Prop} (X : K.In h) (N : h.Ns mainGlobals mg) {f : Addr} {od an : Option Addr} {sl : Array (Option Value)} {oc kV dc pm cd ct : Value}
    (a : PySem.W.nsIn K mainGlobals x = some (some (.ref f))) (l : K.lookup f = some ⟨oc, od, .func (PySem.W.fnOf x x (defArgs st) (defBody st) (defScope st) .none kV dc pm an cd ct), sl⟩) (c : PySem.W.codeIn K cd x = true) (k : PySem.W.keepIn K (.ref f) = true)
    (hb : ∀ (kV doc pm : Value) (an : Option Addr) (cdv ct : Value) (us : List Value), us.length = ps.length → bindArgs (PySem.W.fnOf x x (defArgs st) (defBody st) (defScope st) .none kV doc pm an cdv ct) ⟨us, []⟩ = pure (ps.zip us))
    (go : ∀ fd : FuncData, Fun K x x st f fd → mg x = some (.ref f) → Binds K fd ps [] → G) : G :=
  go _ (fun_mk l c k) (PySem.W.mg_of X N a) ((fun_mk l c k).binds hb)
/-- one method, as the top has written it -/
theorem meth_ex {K : PySem.W.Frag} {h : Heap} {mg : Str → Option Value} {C : Addr} {x qual : Str} {st : Stmt} {ps : List Str} {G : Prop} {cn : Str} (X : K.In h) (gc : mg cn = some (.ref C)) {f : Addr} {od an : Option Addr} {sl : Array (Option Value)} {oc kV dc pm cd ct : Value}
    (a : PySem.W.findIn K (.ref C) x = some (some (.ref f))) (i : PySem.W.isFn K (.ref f) = true) (l : K.lookup f = some ⟨oc, od, .func (PySem.W.fnOf x qual (defArgs st) (defBody st) (defScope st) .none kV dc pm an cd ct), sl⟩) (c : PySem.W.codeIn K cd qual = true) (k : PySem.W.keepIn K (.ref f) = true)
    (hb : ∀ (kV doc pm : Value) (an : Option Addr) (cdv ct : Value) (us : List Value), us.length = ps.length → bindArgs (PySem.W.fnOf x qual (defArgs st) (defBody st) (defScope st) .none kV doc pm an cdv ct) ⟨us, []⟩ = pure (ps.zip us))
    (go : ∀ fd : FuncData, Fun K x qual st f fd → Meth K C x f → Binds K fd ps [] → G) : G :=
  go _ (fun_mk l c k) ⟨a, i, k⟩ ((fun_mk l c k).binds hb)
theorem cls_ex {K : PySem.W.Frag} {h : Heap} {mg : Str → Option Value} {x : Str} {G : Prop} (X : K.In h) (N : h.Ns mainGlobals mg) {c : Addr} (a : PySem.W.nsIn K mainGlobals x = some (some (.ref c))) (go : mg x = some (.ref c) → G) : G := go (PySem.W.mg_of X N a)
theorem cst_ex {K : PySem.W.Frag} {h : Heap} {mg : Str → Option Value} {x : Str} {G : Prop} (n : Int) (X : K.In h) (N : h.Ns mainGlobals mg) {v : Value} (a : PySem.W.nsIn K mainGlobals x = some (some v)) (e : ∃ t, v = .int n t) (go : (∃ t, mg x = some (.int n t)) → G) : G := by
  obtain ⟨t, rfl⟩ := e
  exact go ⟨t, PySem.W.mg_of X N a⟩
/-- the law's promise, as the row wants it -/
def spGoal (K : PySem.W.Frag) : Sp := fun vs H Q _ => ∃ (a : Addr) (ns : List Int), vs = [.ref a] ∧ SqL K H a (ns.map V.int) ∧ ns.length ≤ 63 ∧ ∀ H', Q (.bl true) H'
theorem bnd1 {K : PySem.W.Frag} {x qual y : Str} {st : Stmt} {f : Addr} {fd : FuncData} (F : Fun K x qual st f fd) (hb : ∀ (kV doc pm : Value) (an : Option Addr) (cdv ct : Value) (u : Value), bindArgs (PySem.W.fnOf x qual (defArgs st) (defBody st) (defScope st) .none kV doc pm an cdv ct) ⟨[u], []⟩ = pure [(y, u)]) (s : Shared) (u : Value) : BindsTo s fd ⟨[u], []⟩ [(y, u)] := by
  obtain ⟨oc, od, kV, doc, pm, an, cdv, ct, osl, rfl, lk, hcd⟩ := F.ex
  exact .of_eq (hb kV doc pm an cdv ct u)
end BM
namespace BM
open PySem L2 Evl PyProof.Rows
theorem fin05 {l : PySem.W.OpenLaw} {w : World} {K : PySem.W.Frag} {mg : Str → Option Value} {fa : Addr} {A : Ads} (hfa : mg "law" = some (.ref fa)) (X : Txt K mg A) (hE : Ex05 K A.toCA) :
    ∃ fd : FuncData, (∀ (s : Shared) (u : Value), BindsTo s fd ⟨[u], []⟩ [("_law_script", u)]) ∧ ∀ base : Heap, K.In base → base.Ns mainGlobals mg → FnOk l.prog w K mg base CX0 11 fa fd ["_law_script"] (spGoal K) := by
  have e := hfa.symm.trans X.g_law05
  cases e
  exact ⟨A.d_law05, fun s u => bnd1 X.F_law05 (fun _ _ _ _ _ _ _ => rfl) s u, fun base _ _ => (ok_law05 X).imp fun vs H Q E ⟨a, ns, e, hs, hl, q⟩ => ⟨.bl true, ⟨a, ns, hE, e, hs, hl, rfl⟩, fun H' _ => q H'⟩⟩
end BM
open PySem PySem.W PyProof.Rows
set_option maxRecDepth 100000 in
set_option maxHeartbeats 0 in
theorem PySem.Challenge.cw_bracketmend_k05_by_hand_holds : PySem.Challenge.rw_bracketmend_k05_by_hand.Holds := by
  w_on; o_law; k_head; (case hw => w_witness2)
  k_fill
  refine L2.walk_of (l := PySem.Challenge.rw_bracketmend_k05_by_hand) (n := 63) (k := 11) (x := "_law_script") (CX := fun _ => L2.CX0) (sp := fun w => BM.spGoal _) rfl (by decide) rfl ⟨rfl, by decide, by decide⟩ (fun w h Y => PySem.W.kIn_of Y) ?F (fun _ _ a ns hl _ hS => ⟨a, ns, rfl, hS, hl, fun _ => rfl⟩) fun _ _ _ _ _ z => z
  case F =>
    intro w mg fa h KX G hmg
    refine' BM.cls_ex (x := "Answer") KX G ?a_Answer ?go_Answer
    (case a_Answer => k_is)
    case' go_Answer => intro g_Answer
    refine' BM.cls_ex (x := "Odd") KX G ?a_Odd ?go_Odd
    (case a_Odd => k_is)
    case' go_Odd => intro g_Odd
    refine' BM.cls_ex (x := "Rounded") KX G ?a_Rounded ?go_Rounded
    (case a_Rounded => k_is)
    case' go_Rounded => intro g_Rounded
    refine' BM.cls_ex (x := "Swapped") KX G ?a_Swapped ?go_Swapped
    (case a_Swapped => k_is)
    case' go_Swapped => intro g_Swapped
    refine' BM.cls_ex (x := "Turned") KX G ?a_Turned ?go_Turned
    (case a_Turned => k_is)
    case' go_Turned => intro g_Turned
    refine' BM.cls_ex (x := "Uneven") KX G ?a_Uneven ?go_Uneven
    (case a_Uneven => k_is)
    case' go_Uneven => intro g_Uneven
    refine' BM.fun_ex (x := "is_whole") (st := BM.s_is_whole) (ps := ["thing"]) KX G ?a0 ?l0 ?c0 ?k0 (fun _ _ _ _ _ _ us hl => match us, hl with | [_], _ => rfl) ?go0
    (case a0 => k_is); (case l0 => k_is); (case c0 => k_is); (case k0 => k_is)
    case' go0 => intro d_is_whole F_is_whole g_is_whole b_is_whole
    refine' BM.fun_ex (x := "asked_row") (st := BM.s_asked_row) (ps := ["row"]) KX G ?a1 ?l1 ?c1 ?k1 (fun _ _ _ _ _ _ us hl => match us, hl with | [_], _ => rfl) ?go1
    (case a1 => k_is); (case l1 => k_is); (case c1 => k_is); (case k1 => k_is)
    case' go1 => intro d_asked_row F_asked_row g_asked_row b_asked_row
    refine' BM.fun_ex (x := "deepens") (st := BM.s_deepens) (ps := ["bracket"]) KX G ?a2 ?l2 ?c2 ?k2 (fun _ _ _ _ _ _ us hl => match us, hl with | [_], _ => rfl) ?go2
    (case a2 => k_is); (case l2 => k_is); (case c2 => k_is); (case k2 => k_is)
    case' go2 => intro d_deepens F_deepens g_deepens b_deepens
    refine' BM.fun_ex (x := "depths_of") (st := BM.s_depths_of) (ps := ["row"]) KX G ?a3 ?l3 ?c3 ?k3 (fun _ _ _ _ _ _ us hl => match us, hl with | [_], _ => rfl) ?go3
    (case a3 => k_is); (case l3 => k_is); (case c3 => k_is); (case k3 => k_is)
    case' go3 => intro d_depths_of F_depths_of g_depths_of b_depths_of
    refine' BM.fun_ex (x := "is_right_row") (st := BM.s_is_right_row) (ps := ["row"]) KX G ?a4 ?l4 ?c4 ?k4 (fun _ _ _ _ _ _ us hl => match us, hl with | [_], _ => rfl) ?go4
    (case a4 => k_is); (case l4 => k_is); (case c4 => k_is); (case k4 => k_is)
    case' go4 => intro d_is_right_row F_is_right_row g_is_right_row b_is_right_row
    refine' BM.fun_ex (x := "flipped") (st := BM.s_flipped) (ps := ["bracket"]) KX G ?a5 ?l5 ?c5 ?k5 (fun _ _ _ _ _ _ us hl => match us, hl with | [_], _ => rfl) ?go5
    (case a5 => k_is); (case l5 => k_is); (case c5 => k_is); (case k5 => k_is)
    case' go5 => intro d_flipped F_flipped g_flipped b_flipped
    refine' BM.fun_ex (x := "swapped") (st := BM.s_swapped) (ps := ["row", "place"]) KX G ?a6 ?l6 ?c6 ?k6 (fun _ _ _ _ _ _ us hl => match us, hl with | [_, _], _ => rfl) ?go6
    (case a6 => k_is); (case l6 => k_is); (case c6 => k_is); (case k6 => k_is)
    case' go6 => intro d_swapped F_swapped g_swapped b_swapped
    refine' BM.fun_ex (x := "turned") (st := BM.s_turned) (ps := ["row", "places"]) KX G ?a7 ?l7 ?c7 ?k7 (fun _ _ _ _ _ _ us hl => match us, hl with | [_, _], _ => rfl) ?go7
    (case a7 => k_is); (case l7 => k_is); (case c7 => k_is); (case k7 => k_is)
    case' go7 => intro d_turned F_turned g_turned b_turned
    refine' BM.fun_ex (x := "rounded") (st := BM.s_rounded) (ps := ["row", "first", "behind"]) KX G ?a8 ?l8 ?c8 ?k8 (fun _ _ _ _ _ _ us hl => match us, hl with | [_, _, _], _ => rfl) ?go8
    (case a8 => k_is); (case l8 => k_is); (case c8 => k_is); (case k8 => k_is)
    case' go8 => intro d_rounded F_rounded g_rounded b_rounded
    refine' BM.fun_ex (x := "is_stretch") (st := BM.s_is_stretch) (ps := ["row", "thing"]) KX G ?a9 ?l9 ?c9 ?k9 (fun _ _ _ _ _ _ us hl => match us, hl with | [_, _], _ => rfl) ?go9
    (case a9 => k_is); (case l9 => k_is); (case c9 => k_is); (case k9 => k_is)
    case' go9 => intro d_is_stretch F_is_stretch g_is_stretch b_is_stretch
    refine' BM.meth_ex KX g_Uneven (x := "__init__") (qual := "Uneven.__init__") (st := BM.s_u_init) (ps := ["self", "depth"]) ?a10 ?i10 ?l10 ?c10 ?k10 (fun _ _ _ _ _ _ us hl => match us, hl with | [_, _], _ => rfl) ?go10
    (case a10 => k_is); (case i10 => k_is); (case l10 => k_is); (case c10 => k_is); (case k10 => k_is)
    case' go10 => intro d_u_init F_u_init m_u_init b_u_init
    refine' BM.meth_ex KX g_Uneven (x := "shows") (qual := "Uneven.shows") (st := BM.s_u_shows) (ps := ["self", "row"]) ?a11 ?i11 ?l11 ?c11 ?k11 (fun _ _ _ _ _ _ us hl => match us, hl with | [_, _], _ => rfl) ?go11
    (case a11 => k_is); (case i11 => k_is); (case l11 => k_is); (case c11 => k_is); (case k11 => k_is)
    case' go11 => intro d_u_shows F_u_shows m_u_shows b_u_shows
    refine' BM.meth_ex KX g_Odd (x := "shows") (qual := "Odd.shows") (st := BM.s_o_shows) (ps := ["self", "row"]) ?a12 ?i12 ?l12 ?c12 ?k12 (fun _ _ _ _ _ _ us hl => match us, hl with | [_, _], _ => rfl) ?go12
    (case a12 => k_is); (case i12 => k_is); (case l12 => k_is); (case c12 => k_is); (case k12 => k_is)
    case' go12 => intro d_o_shows F_o_shows m_o_shows b_o_shows
    refine' BM.meth_ex KX g_Swapped (x := "__init__") (qual := "Swapped.__init__") (st := BM.s_s_init) (ps := ["self", "places", "lifts"]) ?a13 ?i13 ?l13 ?c13 ?k13 (fun _ _ _ _ _ _ us hl => match us, hl with | [_, _, _], _ => rfl) ?go13
    (case a13 => k_is); (case i13 => k_is); (case l13 => k_is); (case c13 => k_is); (case k13 => k_is)
    case' go13 => intro d_s_init F_s_init m_s_init b_s_init
    refine' BM.meth_ex KX g_Swapped (x := "shows") (qual := "Swapped.shows") (st := BM.s_s_shows) (ps := ["self", "row"]) ?a14 ?i14 ?l14 ?c14 ?k14 (fun _ _ _ _ _ _ us hl => match us, hl with | [_, _], _ => rfl) ?go14
    (case a14 => k_is); (case i14 => k_is); (case l14 => k_is); (case c14 => k_is); (case k14 => k_is)
    case' go14 => intro d_s_shows F_s_shows m_s_shows b_s_shows
    refine' BM.meth_ex KX g_Turned (x := "__init__") (qual := "Turned.__init__") (st := BM.s_t_init) (ps := ["self", "places", "cut"]) ?a15 ?i15 ?l15 ?c15 ?k15 (fun _ _ _ _ _ _ us hl => match us, hl with | [_, _, _], _ => rfl) ?go15
    (case a15 => k_is); (case i15 => k_is); (case l15 => k_is); (case c15 => k_is); (case k15 => k_is)
    case' go15 => intro d_t_init F_t_init m_t_init b_t_init
    refine' BM.meth_ex KX g_Turned (x := "shows") (qual := "Turned.shows") (st := BM.s_t_shows) (ps := ["self", "row"]) ?a16 ?i16 ?l16 ?c16 ?k16 (fun _ _ _ _ _ _ us hl => match us, hl with | [_, _], _ => rfl) ?go16
    (case a16 => k_is); (case i16 => k_is); (case l16 => k_is); (case c16 => k_is); (case k16 => k_is)
    case' go16 => intro d_t_shows F_t_shows m_t_shows b_t_shows
    refine' BM.fun_ex (x := "below") (st := BM.s_below) (ps := ["row"]) KX G ?a17 ?l17 ?c17 ?k17 (fun _ _ _ _ _ _ us hl => match us, hl with | [_], _ => rfl) ?go17
    (case a17 => k_is); (case l17 => k_is); (case c17 => k_is); (case k17 => k_is)
    case' go17 => intro d_below F_below g_below b_below
    refine' BM.meth_ex KX g_Rounded (x := "__init__") (qual := "Rounded.__init__") (st := BM.s_r_init) (ps := ["self", "stretches", "top"]) ?a18 ?i18 ?l18 ?c18 ?k18 (fun _ _ _ _ _ _ us hl => match us, hl with | [_, _, _], _ => rfl) ?go18
    (case a18 => k_is); (case i18 => k_is); (case l18 => k_is); (case c18 => k_is); (case k18 => k_is)
    case' go18 => intro d_r_init F_r_init m_r_init b_r_init
    refine' BM.meth_ex KX g_Rounded (x := "shows") (qual := "Rounded.shows") (st := BM.s_r_shows) (ps := ["self", "row"]) ?a19 ?i19 ?l19 ?c19 ?k19 (fun _ _ _ _ _ _ us hl => match us, hl with | [_, _], _ => rfl) ?go19
    (case a19 => k_is); (case i19 => k_is); (case l19 => k_is); (case c19 => k_is); (case k19 => k_is)
    case' go19 => intro d_r_shows F_r_shows m_r_shows b_r_shows
    refine' BM.fun_ex (x := "swaps") (st := BM.s_swaps) (ps := ["row"]) KX G ?a20 ?l20 ?c20 ?k20 (fun _ _ _ _ _ _ us hl => match us, hl with | [_], _ => rfl) ?go20
    (case a20 => k_is); (case l20 => k_is); (case c20 => k_is); (case k20 => k_is)
    case' go20 => intro d_swaps F_swaps g_swaps b_swaps
    refine' BM.fun_ex (x := "turns") (st := BM.s_turns) (ps := ["row"]) KX G ?a21 ?l21 ?c21 ?k21 (fun _ _ _ _ _ _ us hl => match us, hl with | [_], _ => rfl) ?go21
    (case a21 => k_is); (case l21 => k_is); (case c21 => k_is); (case k21 => k_is)
    case' go21 => intro d_turns F_turns g_turns b_turns
    refine' BM.fun_ex (x := "rounds") (st := BM.s_rounds) (ps := ["row"]) KX G ?a22 ?l22 ?c22 ?k22 (fun _ _ _ _ _ _ us hl => match us, hl with | [_], _ => rfl) ?go22
    (case a22 => k_is); (case l22 => k_is); (case c22 => k_is); (case k22 => k_is)
    case' go22 => intro d_rounds F_rounds g_rounds b_rounds
    refine' BM.fun_ex (x := "_law_number") (st := BM.s__law_number) (ps := ["_law_cell", "_law_at", "_law_whole"]) KX G ?a23 ?l23 ?c23 ?k23 (fun _ _ _ _ _ _ us hl => match us, hl with | [_, _, _], _ => rfl) ?go23
    (case a23 => k_is); (case l23 => k_is); (case c23 => k_is); (case k23 => k_is)
    case' go23 => intro d__law_number F__law_number g__law_number b__law_number
    refine' BM.fun_ex (x := "_law_row") (st := BM.s__law_row) (ps := ["_law_script", "_law_by", "_law_most", "_law_even"]) KX G ?a24 ?l24 ?c24 ?k24 (fun _ _ _ _ _ _ us hl => match us, hl with | [_, _, _, _], _ => rfl) ?go24
    (case a24 => k_is); (case l24 => k_is); (case c24 => k_is); (case k24 => k_is)
    case' go24 => intro d__law_row F__law_row g__law_row b__law_row
    refine' BM.fun_ex (x := "_law_depths") (st := BM.s__law_depths) (ps := ["_law_row_here"]) KX G ?a25 ?l25 ?c25 ?k25 (fun _ _ _ _ _ _ us hl => match us, hl with | [_], _ => rfl) ?go25
    (case a25 => k_is); (case l25 => k_is); (case c25 => k_is); (case k25 => k_is)
    case' go25 => intro d__law_depths F__law_depths g__law_depths b__law_depths
    refine' BM.fun_ex (x := "_law_good") (st := BM.s__law_good) (ps := ["_law_row_here"]) KX G ?a26 ?l26 ?c26 ?k26 (fun _ _ _ _ _ _ us hl => match us, hl with | [_], _ => rfl) ?go26
    (case a26 => k_is); (case l26 => k_is); (case c26 => k_is); (case k26 => k_is)
    case' go26 => intro d__law_good F__law_good g__law_good b__law_good
    refine' BM.fun_ex (x := "_law_swap") (st := BM.s__law_swap) (ps := ["_law_row_here", "_law_place"]) KX G ?a27 ?l27 ?c27 ?k27 (fun _ _ _ _ _ _ us hl => match us, hl with | [_, _], _ => rfl) ?go27
    (case a27 => k_is); (case l27 => k_is); (case c27 => k_is); (case k27 => k_is)
    case' go27 => intro d__law_swap F__law_swap g__law_swap b__law_swap
    refine' BM.fun_ex (x := "_law_swapped") (st := BM.s__law_swapped) (ps := ["_law_row_here", "_law_places", "_law_lifts"]) KX G ?a28 ?l28 ?c28 ?k28 (fun _ _ _ _ _ _ us hl => match us, hl with | [_, _, _], _ => rfl) ?go28
    (case a28 => k_is); (case l28 => k_is); (case c28 => k_is); (case k28 => k_is)
    case' go28 => intro d__law_swapped F__law_swapped g__law_swapped b__law_swapped
    refine' BM.fun_ex (x := "_law_over") (st := BM.s__law_over) (ps := ["_law_row_here", "_law_places"]) KX G ?a29 ?l29 ?c29 ?k29 (fun _ _ _ _ _ _ us hl => match us, hl with | [_, _], _ => rfl) ?go29
    (case a29 => k_is); (case l29 => k_is); (case c29 => k_is); (case k29 => k_is)
    case' go29 => intro d__law_over F__law_over g__law_over b__law_over
    refine' BM.fun_ex (x := "_law_turned") (st := BM.s__law_turned) (ps := ["_law_row_here", "_law_places", "_law_cut"]) KX G ?a30 ?l30 ?c30 ?k30 (fun _ _ _ _ _ _ us hl => match us, hl with | [_, _, _], _ => rfl) ?go30
    (case a30 => k_is); (case l30 => k_is); (case c30 => k_is); (case k30 => k_is)
    case' go30 => intro d__law_turned F__law_turned g__law_turned b__law_turned
    refine' BM.fun_ex (x := "_law_round") (st := BM.s__law_round) (ps := ["_law_row_here", "_law_stretches"]) KX G ?a31 ?l31 ?c31 ?k31 (fun _ _ _ _ _ _ us hl => match us, hl with | [_, _], _ => rfl) ?go31
    (case a31 => k_is); (case l31 => k_is); (case c31 => k_is); (case k31 => k_is)
    case' go31 => intro d__law_round F__law_round g__law_round b__law_round
    refine' BM.fun_ex (x := "_law_rounded") (st := BM.s__law_rounded) (ps := ["_law_row_here", "_law_stretches", "_law_top"]) KX G ?a32 ?l32 ?c32 ?k32 (fun _ _ _ _ _ _ us hl => match us, hl with | [_, _, _], _ => rfl) ?go32
    (case a32 => k_is); (case l32 => k_is); (case c32 => k_is); (case k32 => k_is)
    case' go32 => intro d__law_rounded F__law_rounded g__law_rounded b__law_rounded
    refine' BM.fun_ex (x := "_law_uneven") (st := BM.s__law_uneven) (ps := ["_law_row_here", "_law_depth"]) KX G ?a33 ?l33 ?c33 ?k33 (fun _ _ _ _ _ _ us hl => match us, hl with | [_, _], _ => rfl) ?go33
    (case a33 => k_is); (case l33 => k_is); (case c33 => k_is); (case k33 => k_is)
    case' go33 => intro d__law_uneven F__law_uneven g__law_uneven b__law_uneven
    refine' BM.fun_ex (x := "_law_says") (st := BM.s__law_says05) (ps := ["_law_answer", "_law_row_here", "_law_due"]) KX G ?a34 ?l34 ?c34 ?k34 (fun _ _ _ _ _ _ us hl => match us, hl with | [_, _, _], _ => rfl) ?go34
    (case a34 => k_is); (case l34 => k_is); (case c34 => k_is); (case k34 => k_is)
    case' go34 => intro d__law_says05 F__law_says05 g__law_says05 b__law_says05
    refine' BM.fun_ex (x := "_law_put") (st := BM.s__law_put) (ps := ["_law_row_here", "_law_at", "_law_thing"]) KX G ?a35 ?l35 ?c35 ?k35 (fun _ _ _ _ _ _ us hl => match us, hl with | [_, _, _], _ => rfl) ?go35
    (case a35 => k_is); (case l35 => k_is); (case c35 => k_is); (case k35 => k_is)
    case' go35 => intro d__law_put F__law_put g__law_put b__law_put
    refine' BM.fun_ex (x := "_law_bent") (st := BM.s__law_bent) (ps := ["_law_row_here", "_law_more"]) KX G ?a36 ?l36 ?c36 ?k36 (fun _ _ _ _ _ _ us hl => match us, hl with | [_, _], _ => rfl) ?go36
    (case a36 => k_is); (case l36 => k_is); (case c36 => k_is); (case k36 => k_is)
    case' go36 => intro d__law_bent F__law_bent g__law_bent b__law_bent
    refine' BM.fun_ex (x := "_law_swapped_right") (st := BM.s__law_swapped_right) (ps := ["_law_row_here", "_law_places", "_law_lifts"]) KX G ?a37 ?l37 ?c37 ?k37 (fun _ _ _ _ _ _ us hl => match us, hl with | [_, _, _], _ => rfl) ?go37
    (case a37 => k_is); (case l37 => k_is); (case c37 => k_is); (case k37 => k_is)
    case' go37 => intro d__law_swapped_right F__law_swapped_right g__law_swapped_right b__law_swapped_right
    refine' BM.fun_ex (x := "_law_turned_right") (st := BM.s__law_turned_right) (ps := ["_law_row_here", "_law_places", "_law_cut"]) KX G ?a38 ?l38 ?c38 ?k38 (fun _ _ _ _ _ _ us hl => match us, hl with | [_, _, _], _ => rfl) ?go38
    (case a38 => k_is); (case l38 => k_is); (case c38 => k_is); (case k38 => k_is)
    case' go38 => intro d__law_turned_right F__law_turned_right g__law_turned_right b__law_turned_right
    refine' BM.fun_ex (x := "_law_rounded_right") (st := BM.s__law_rounded_right) (ps := ["_law_row_here", "_law_stretches", "_law_top"]) KX G ?a39 ?l39 ?c39 ?k39 (fun _ _ _ _ _ _ us hl => match us, hl with | [_, _, _], _ => rfl) ?go39
    (case a39 => k_is); (case l39 => k_is); (case c39 => k_is); (case k39 => k_is)
    case' go39 => intro d__law_rounded_right F__law_rounded_right g__law_rounded_right b__law_rounded_right
    refine' BM.fun_ex (x := "_law_more_right") (st := BM.s__law_more_right) (ps := ["_law_row_here", "_law_told", "_law_spun"]) KX G ?a40 ?l40 ?c40 ?k40 (fun _ _ _ _ _ _ us hl => match us, hl with | [_, _, _], _ => rfl) ?go40
    (case a40 => k_is); (case l40 => k_is); (case c40 => k_is); (case k40 => k_is)
    case' go40 => intro d__law_more_right F__law_more_right g__law_more_right b__law_more_right
    refine' BM.fun_ex (x := "_law_even_right") (st := BM.s__law_even_right) (ps := ["_law_row_here", "_law_whole"]) KX G ?a41 ?l41 ?c41 ?k41 (fun _ _ _ _ _ _ us hl => match us, hl with | [_, _], _ => rfl) ?go41
    (case a41 => k_is); (case l41 => k_is); (case c41 => k_is); (case k41 => k_is)
    case' go41 => intro d__law_even_right F__law_even_right g__law_even_right b__law_even_right
    refine' BM.fun_ex (x := "law") (st := BM.s_law05) (ps := ["_law_script"]) KX G ?a42 ?l42 ?c42 ?k42 (fun _ _ _ _ _ _ us hl => match us, hl with | [_], _ => rfl) ?go42
    (case a42 => k_is); (case l42 => k_is); (case c42 => k_is); (case k42 => k_is)
    case' go42 => intro d_law05 F_law05 g_law05 b_law05
    refine' BM.cst_ex (x := "LONGEST") 40 KX G ?a_LONGEST ?e_LONGEST ?go_LONGEST
    (case a_LONGEST => k_is); (case e_LONGEST => exact ⟨_, rfl⟩)
    case' go_LONGEST => intro g_LONGEST

    refine' BM.fin05 (A := ⟨⟨0, 0, 0, 0, 0, 0, 0, 0, _, _, _, _, _, _, 0⟩, _, d_is_whole, _, d_asked_row, _, d_deepens, _, d_depths_of, _, d_is_right_row, _, d_flipped, _, d_swapped, _, d_turned, _, d_rounded, _, d_is_stretch, _, d_u_init, _, d_u_shows, _, d_o_shows, _, d_s_init, _, d_s_shows, _, d_t_init, _, d_t_shows, _, d_below, _, d_r_init, _, d_r_shows, _, d_swaps, _, d_turns, _, d_rounds, _, d__law_number, _, d__law_row, _, d__law_depths, _, d__law_good, _, d__law_swap, _, d__law_swapped, _, d__law_over, _, d__law_turned, _, d__law_round, _, d__law_rounded, _, d__law_uneven, _, d__law_says05, _, d__law_put, _, d__law_bent, _, d__law_swapped_right, _, d__law_turned_right, _, d__law_rounded_right, _, d__law_more_right, _, d__law_even_right, _, d_law05⟩) hmg ?X ?E
    case' X => refine' { F_is_whole := F_is_whole, g_is_whole := g_is_whole, b_is_whole := b_is_whole, F_asked_row := F_asked_row, g_asked_row := g_asked_row, b_asked_row := b_asked_row, F_deepens := F_deepens, g_deepens := g_deepens, b_deepens := b_deepens, F_depths_of := F_depths_of, g_depths_of := g_depths_of, b_depths_of := b_depths_of, F_is_right_row := F_is_right_row, g_is_right_row := g_is_right_row, b_is_right_row := b_is_right_row, F_flipped := F_flipped, g_flipped := g_flipped, b_flipped := b_flipped, F_swapped := F_swapped, g_swapped := g_swapped, b_swapped := b_swapped, F_turned := F_turned, g_turned := g_turned, b_turned := b_turned, F_rounded := F_rounded, g_rounded := g_rounded, b_rounded := b_rounded, F_is_stretch := F_is_stretch, g_is_stretch := g_is_stretch, b_is_stretch := b_is_stretch, F_u_init := F_u_init, m_u_init := m_u_init, b_u_init := b_u_init, F_u_shows := F_u_shows, m_u_shows := m_u_shows, b_u_shows := b_u_shows, F_o_shows := F_o_shows, m_o_shows := m_o_shows, b_o_shows := b_o_shows, F_s_init := F_s_init, m_s_init := m_s_init, b_s_init := b_s_init, F_s_shows := F_s_shows, m_s_shows := m_s_shows, b_s_shows := b_s_shows, F_t_init := F_t_init, m_t_init := m_t_init, b_t_init := b_t_init, F_t_shows := F_t_shows, m_t_shows := m_t_shows, b_t_shows := b_t_shows, F_below := F_below, g_below := g_below, b_below := b_below, F_r_init := F_r_init, m_r_init := m_r_init, b_r_init := b_r_init, F_r_shows := F_r_shows, m_r_shows := m_r_shows, b_r_shows := b_r_shows, F_swaps := F_swaps, g_swaps := g_swaps, b_swaps := b_swaps, F_turns := F_turns, g_turns := g_turns, b_turns := b_turns, F_rounds := F_rounds, g_rounds := g_rounds, b_rounds := b_rounds, F__law_number := F__law_number, g__law_number := g__law_number, b__law_number := b__law_number, F__law_row := F__law_row, g__law_row := g__law_row, b__law_row := b__law_row, F__law_depths := F__law_depths, g__law_depths := g__law_depths, b__law_depths := b__law_depths, F__law_good := F__law_good, g__law_good := g__law_good, b__law_good := b__law_good, F__law_swap := F__law_swap, g__law_swap := g__law_swap, b__law_swap := b__law_swap, F__law_swapped := F__law_swapped, g__law_swapped := g__law_swapped, b__law_swapped := b__law_swapped, F__law_over := F__law_over, g__law_over := g__law_over, b__law_over := b__law_over, F__law_turned := F__law_turned, g__law_turned := g__law_turned, b__law_turned := b__law_turned, F__law_round := F__law_round, g__law_round := g__law_round, b__law_round := b__law_round, F__law_rounded := F__law_rounded, g__law_rounded := g__law_rounded, b__law_rounded := b__law_rounded, F__law_uneven := F__law_uneven, g__law_uneven := g__law_uneven, b__law_uneven := b__law_uneven, F__law_says05 := F__law_says05, g__law_says05 := g__law_says05, b__law_says05 := b__law_says05, F__law_put := F__law_put, g__law_put := g__law_put, b__law_put := b__law_put, F__law_bent := F__law_bent, g__law_bent := g__law_bent, b__law_bent := b__law_bent, F__law_swapped_right := F__law_swapped_right, g__law_swapped_right := g__law_swapped_right, b__law_swapped_right := b__law_swapped_right, F__law_turned_right := F__law_turned_right, g__law_turned_right := g__law_turned_right, b__law_turned_right := b__law_turned_right, F__law_rounded_right := F__law_rounded_right, g__law_rounded_right := g__law_rounded_right, b__law_rounded_right := b__law_rounded_right, F__law_more_right := F__law_more_right, g__law_more_right := g__law_more_right, b__law_more_right := b__law_more_right, F__law_even_right := F__law_even_right, g__law_even_right := g__law_even_right, b__law_even_right := b__law_even_right, F_law05 := F_law05, g_law05 := g_law05, b_law05 := b_law05, k_Odd := ⟨?pg_Odd, ?hd_Odd, ?po_Odd, ?sa_Odd⟩, k_Rounded := ⟨?pg_Rounded, ?hd_Rounded, ?po_Rounded, ?sa_Rounded⟩, mk_Rounded := ⟨?mi_Rounded, m_r_init.at_, m_r_init.fn, ?kc_Rounded⟩, k_Swapped := ⟨?pg_Swapped, ?hd_Swapped, ?po_Swapped, ?sa_Swapped⟩, mk_Swapped := ⟨?mi_Swapped, m_s_init.at_, m_s_init.fn, ?kc_Swapped⟩, k_Turned := ⟨?pg_Turned, ?hd_Turned, ?po_Turned, ?sa_Turned⟩, mk_Turned := ⟨?mi_Turned, m_t_init.at_, m_t_init.fn, ?kc_Turned⟩, k_Uneven := ⟨?pg_Uneven, ?hd_Uneven, ?po_Uneven, ?sa_Uneven⟩, mk_Uneven := ⟨?mi_Uneven, m_u_init.at_, m_u_init.fn, ?kc_Uneven⟩, mk_Odd := ⟨?zm_Odd, ?zi_Odd, ?zt_Odd, ?zk_Odd⟩, n_abs := PySem.W.mg_none_of KX G ?n_abs, n_all := PySem.W.mg_none_of KX G ?n_all, n_any := PySem.W.mg_none_of KX G ?n_any, n_bool := PySem.W.mg_none_of KX G ?n_bool, n_enumerate := PySem.W.mg_none_of KX G ?n_enumerate, n_int := PySem.W.mg_none_of KX G ?n_int, n_isinstance := PySem.W.mg_none_of KX G ?n_isinstance, n_len := PySem.W.mg_none_of KX G ?n_len, n_list := PySem.W.mg_none_of KX G ?n_list, n_max := PySem.W.mg_none_of KX G ?n_max, n_min := PySem.W.mg_none_of KX G ?n_min, n_range := PySem.W.mg_none_of KX G ?n_range, n_set := PySem.W.mg_none_of KX G ?n_set, n_str := PySem.W.mg_none_of KX G ?n_str, n_sum := PySem.W.mg_none_of KX G ?n_sum, n_tuple := PySem.W.mg_none_of KX G ?n_tuple, n_zip := PySem.W.mg_none_of KX G ?n_zip, g_Answer := g_Answer, g_LONGEST := g_LONGEST, g_Odd := g_Odd, g_Rounded := g_Rounded, g_Swapped := g_Swapped, g_Turned := g_Turned, g_Uneven := g_Uneven }
    (case n_abs => k_is)
    (case n_all => k_is)
    (case n_any => k_is)
    (case n_bool => k_is)
    (case n_enumerate => k_is)
    (case n_int => k_is)
    (case n_isinstance => k_is)
    (case n_len => k_is)
    (case n_list => k_is)
    (case n_max => k_is)
    (case n_min => k_is)
    (case n_range => k_is)
    (case n_set => k_is)
    (case n_str => k_is)
    (case n_sum => k_is)
    (case n_tuple => k_is)
    (case n_zip => k_is)
    (case pg_Odd => (try dsimp only); k_is)
    (case hd_Odd => (try dsimp only); k_is)
    (case po_Odd => (try dsimp only); k_is)
    (case sa_Odd => (try dsimp only); k_is)
    (case pg_Rounded => (try dsimp only); k_is)
    (case hd_Rounded => (try dsimp only); k_is)
    (case po_Rounded => (try dsimp only); k_is)
    (case sa_Rounded => (try dsimp only); k_is)
    (case mi_Rounded => (try dsimp only); k_is)
    (case kc_Rounded => (try dsimp only); k_is)
    (case pg_Swapped => (try dsimp only); k_is)
    (case hd_Swapped => (try dsimp only); k_is)
    (case po_Swapped => (try dsimp only); k_is)
    (case sa_Swapped => (try dsimp only); k_is)
    (case mi_Swapped => (try dsimp only); k_is)
    (case kc_Swapped => (try dsimp only); k_is)
    (case pg_Turned => (try dsimp only); k_is)
    (case hd_Turned => (try dsimp only); k_is)
    (case po_Turned => (try dsimp only); k_is)
    (case sa_Turned => (try dsimp only); k_is)
    (case mi_Turned => (try dsimp only); k_is)
    (case kc_Turned => (try dsimp only); k_is)
    (case pg_Uneven => (try dsimp only); k_is)
    (case hd_Uneven => (try dsimp only); k_is)
    (case po_Uneven => (try dsimp only); k_is)
    (case sa_Uneven => (try dsimp only); k_is)
    (case mi_Uneven => (try dsimp only); k_is)
    (case kc_Uneven => (try dsimp only); k_is)
    (case zm_Odd => (try dsimp only); k_is)
    (case zi_Odd => (try dsimp only); k_is)
    (case zt_Odd => (try dsimp only); k_is)
    (case zk_Odd => (try dsimp only); k_is)
    case' E => refine' ⟨⟨⟨⟨⟨?xauc1, ?xauc2, ?xauc3, ?xauc4⟩, ?xauha, ?xauhn, ?xauht, ?xauhm⟩, ?xaun0⟩, ⟨⟨⟨?xasc1, ?xasc2, ?xasc3, ?xasc4⟩, ?xasha, ?xashn, ?xasht, ?xashm⟩, ?xasn0, ?xasn1⟩, BM.kit_yes ⟨?xaq0_1, ?xaq0_2⟩ ?xaq0_3, BM.kit_yes ⟨?xaq1_1, ?xaq1_2⟩ ?xaq1_3, BM.kit_no ⟨?xaq2_1, ?xaq2_2⟩ ?xaq2_3 ?xaq2_4, BM.kit_no ⟨?xaq3_1, ?xaq3_2⟩ ?xaq3_3 ?xaq3_4, BM.kit_no ⟨?xaq4_1, ?xaq4_2⟩ ?xaq4_3 ?xaq4_4, BM.kit_no ⟨?xaq5_1, ?xaq5_2⟩ ?xaq5_3 ?xaq5_4, BM.kit_no ⟨?xaq6_1, ?xaq6_2⟩ ?xaq6_3 ?xaq6_4, BM.kit_no ⟨?xaq7_1, ?xaq7_2⟩ ?xaq7_3 ?xaq7_4, BM.kit_no ⟨?xaq8_1, ?xaq8_2⟩ ?xaq8_3 ?xaq8_4, BM.kit_no ⟨?xaq9_1, ?xaq9_2⟩ ?xaq9_3 ?xaq9_4⟩, ⟨⟨⟨?xboc1, ?xboc2, ?xboc3, ?xboc4⟩, ?xboha, ?xbohn, ?xboht, ?xbohm⟩, ⟨⟨⟨?xbtc1, ?xbtc2, ?xbtc3, ?xbtc4⟩, ?xbtha, ?xbthn, ?xbtht, ?xbthm⟩, ?xbtn0, ?xbtn1⟩, BM.kit_yes ⟨?xbq0_1, ?xbq0_2⟩ ?xbq0_3, BM.kit_yes ⟨?xbq1_1, ?xbq1_2⟩ ?xbq1_3, BM.kit_no ⟨?xbq2_1, ?xbq2_2⟩ ?xbq2_3 ?xbq2_4, BM.kit_no ⟨?xbq3_1, ?xbq3_2⟩ ?xbq3_3 ?xbq3_4, BM.kit_no ⟨?xbq4_1, ?xbq4_2⟩ ?xbq4_3 ?xbq4_4, BM.kit_no ⟨?xbq5_1, ?xbq5_2⟩ ?xbq5_3 ?xbq5_4, BM.kit_no ⟨?xbq6_1, ?xbq6_2⟩ ?xbq6_3 ?xbq6_4, BM.kit_no ⟨?xbq7_1, ?xbq7_2⟩ ?xbq7_3 ?xbq7_4, BM.kit_no ⟨?xbq8_1, ?xbq8_2⟩ ?xbq8_3 ?xbq8_4, BM.kit_no ⟨?xbq9_1, ?xbq9_2⟩ ?xbq9_3 ?xbq9_4⟩, ⟨⟨⟨⟨?xcuc1, ?xcuc2, ?xcuc3, ?xcuc4⟩, ?xcuha, ?xcuhn, ?xcuht, ?xcuhm⟩, ?xcun0⟩, ⟨⟨⟨?xcsc1, ?xcsc2, ?xcsc3, ?xcsc4⟩, ?xcsha, ?xcshn, ?xcsht, ?xcshm⟩, ?xcsn0, ?xcsn1⟩, BM.kit_yes ⟨?xcq0_1, ?xcq0_2⟩ ?xcq0_3, BM.kit_yes ⟨?xcq1_1, ?xcq1_2⟩ ?xcq1_3, BM.kit_no ⟨?xcq2_1, ?xcq2_2⟩ ?xcq2_3 ?xcq2_4, BM.kit_no ⟨?xcq3_1, ?xcq3_2⟩ ?xcq3_3 ?xcq3_4, BM.kit_no ⟨?xcq4_1, ?xcq4_2⟩ ?xcq4_3 ?xcq4_4, BM.kit_no ⟨?xcq5_1, ?xcq5_2⟩ ?xcq5_3 ?xcq5_4, BM.kit_no ⟨?xcq6_1, ?xcq6_2⟩ ?xcq6_3 ?xcq6_4, BM.kit_no ⟨?xcq7_1, ?xcq7_2⟩ ?xcq7_3 ?xcq7_4, BM.kit_no ⟨?xcq8_1, ?xcq8_2⟩ ?xcq8_3 ?xcq8_4, BM.kit_no ⟨?xcq9_1, ?xcq9_2⟩ ?xcq9_3 ?xcq9_4⟩⟩
    (case xauc1 => (try dsimp only); k_is)
    (case xauc2 => (try dsimp only); k_is)
    (case xauc3 => (try dsimp only); k_is)
    (case xauc4 => (try dsimp only); k_is)
    (case xauha => (try dsimp only); k_is)
    (case xauhn => (try dsimp only); k_is)
    (case xauht => (try dsimp only); k_is)
    (case xauhm => (try dsimp only); k_is)
    (case xaun0 => unfold L2.NoAttr; (try dsimp only); k_is)
    (case xasc1 => (try dsimp only); k_is)
    (case xasc2 => (try dsimp only); k_is)
    (case xasc3 => (try dsimp only); k_is)
    (case xasc4 => (try dsimp only); k_is)
    (case xasha => (try dsimp only); k_is)
    (case xashn => (try dsimp only); k_is)
    (case xasht => (try dsimp only); k_is)
    (case xashm => (try dsimp only); k_is)
    (case xasn0 => unfold L2.NoAttr; (try dsimp only); k_is)
    (case xasn1 => unfold L2.NoAttr; (try dsimp only); k_is)
    (case xaq0_1 => (try dsimp only); k_is)
    (case xaq0_2 => (try dsimp only); k_is)
    (case xaq0_3 => (try dsimp only); k_is)
    (case xaq1_1 => (try dsimp only); k_is)
    (case xaq1_2 => (try dsimp only); k_is)
    (case xaq1_3 => (try dsimp only); k_is)
    (case xaq2_1 => (try dsimp only); k_is)
    (case xaq2_2 => (try dsimp only); k_is)
    (case xaq2_3 => (try dsimp only); k_is)
    (case xaq2_4 => (try dsimp only); k_is)
    (case xaq3_1 => (try dsimp only); k_is)
    (case xaq3_2 => (try dsimp only); k_is)
    (case xaq3_3 => (try dsimp only); k_is)
    (case xaq3_4 => (try dsimp only); k_is)
    (case xaq4_1 => (try dsimp only); k_is)
    (case xaq4_2 => (try dsimp only); k_is)
    (case xaq4_3 => (try dsimp only); k_is)
    (case xaq4_4 => (try dsimp only); k_is)
    (case xaq5_1 => (try dsimp only); k_is)
    (case xaq5_2 => (try dsimp only); k_is)
    (case xaq5_3 => (try dsimp only); k_is)
    (case xaq5_4 => (try dsimp only); k_is)
    (case xaq6_1 => (try dsimp only); k_is)
    (case xaq6_2 => (try dsimp only); k_is)
    (case xaq6_3 => (try dsimp only); k_is)
    (case xaq6_4 => (try dsimp only); k_is)
    (case xaq7_1 => (try dsimp only); k_is)
    (case xaq7_2 => (try dsimp only); k_is)
    (case xaq7_3 => (try dsimp only); k_is)
    (case xaq7_4 => (try dsimp only); k_is)
    (case xaq8_1 => (try dsimp only); k_is)
    (case xaq8_2 => (try dsimp only); k_is)
    (case xaq8_3 => (try dsimp only); k_is)
    (case xaq8_4 => (try dsimp only); k_is)
    (case xaq9_1 => (try dsimp only); k_is)
    (case xaq9_2 => (try dsimp only); k_is)
    (case xaq9_3 => (try dsimp only); k_is)
    (case xaq9_4 => (try dsimp only); k_is)
    (case xboc1 => (try dsimp only); k_is)
    (case xboc2 => (try dsimp only); k_is)
    (case xboc3 => (try dsimp only); k_is)
    (case xboc4 => (try dsimp only); k_is)
    (case xboha => (try dsimp only); k_is)
    (case xbohn => (try dsimp only); k_is)
    (case xboht => (try dsimp only); k_is)
    (case xbohm => (try dsimp only); k_is)
    (case xbtc1 => (try dsimp only); k_is)
    (case xbtc2 => (try dsimp only); k_is)
    (case xbtc3 => (try dsimp only); k_is)
    (case xbtc4 => (try dsimp only); k_is)
    (case xbtha => (try dsimp only); k_is)
    (case xbthn => (try dsimp only); k_is)
    (case xbtht => (try dsimp only); k_is)
    (case xbthm => (try dsimp only); k_is)
    (case xbtn0 => unfold L2.NoAttr; (try dsimp only); k_is)
    (case xbtn1 => unfold L2.NoAttr; (try dsimp only); k_is)
    (case xbq0_1 => (try dsimp only); k_is)
    (case xbq0_2 => (try dsimp only); k_is)
    (case xbq0_3 => (try dsimp only); k_is)
    (case xbq1_1 => (try dsimp only); k_is)
    (case xbq1_2 => (try dsimp only); k_is)
    (case xbq1_3 => (try dsimp only); k_is)
    (case xbq2_1 => (try dsimp only); k_is)
    (case xbq2_2 => (try dsimp only); k_is)
    (case xbq2_3 => (try dsimp only); k_is)
    (case xbq2_4 => (try dsimp only); k_is)
    (case xbq3_1 => (try dsimp only); k_is)
    (case xbq3_2 => (try dsimp only); k_is)
    (case xbq3_3 => (try dsimp only); k_is)
    (case xbq3_4 => (try dsimp only); k_is)
    (case xbq4_1 => (try dsimp only); k_is)
    (case xbq4_2 => (try dsimp only); k_is)
    (case xbq4_3 => (try dsimp only); k_is)
    (case xbq4_4 => (try dsimp only); k_is)
    (case xbq5_1 => (try dsimp only); k_is)
    (case xbq5_2 => (try dsimp only); k_is)
    (case xbq5_3 => (try dsimp only); k_is)
    (case xbq5_4 => (try dsimp only); k_is)
    (case xbq6_1 => (try dsimp only); k_is)
    (case xbq6_2 => (try dsimp only); k_is)
    (case xbq6_3 => (try dsimp only); k_is)
    (case xbq6_4 => (try dsimp only); k_is)
    (case xbq7_1 => (try dsimp only); k_is)
    (case xbq7_2 => (try dsimp only); k_is)
    (case xbq7_3 => (try dsimp only); k_is)
    (case xbq7_4 => (try dsimp only); k_is)
    (case xbq8_1 => (try dsimp only); k_is)
    (case xbq8_2 => (try dsimp only); k_is)
    (case xbq8_3 => (try dsimp only); k_is)
    (case xbq8_4 => (try dsimp only); k_is)
    (case xbq9_1 => (try dsimp only); k_is)
    (case xbq9_2 => (try dsimp only); k_is)
    (case xbq9_3 => (try dsimp only); k_is)
    (case xbq9_4 => (try dsimp only); k_is)
    (case xcuc1 => (try dsimp only); k_is)
    (case xcuc2 => (try dsimp only); k_is)
    (case xcuc3 => (try dsimp only); k_is)
    (case xcuc4 => (try dsimp only); k_is)
    (case xcuha => (try dsimp only); k_is)
    (case xcuhn => (try dsimp only); k_is)
    (case xcuht => (try dsimp only); k_is)
    (case xcuhm => (try dsimp only); k_is)
    (case xcun0 => unfold L2.NoAttr; (try dsimp only); k_is)
    (case xcsc1 => (try dsimp only); k_is)
    (case xcsc2 => (try dsimp only); k_is)
    (case xcsc3 => (try dsimp only); k_is)
    (case xcsc4 => (try dsimp only); k_is)
    (case xcsha => (try dsimp only); k_is)
    (case xcshn => (try dsimp only); k_is)
    (case xcsht => (try dsimp only); k_is)
    (case xcshm => (try dsimp only); k_is)
    (case xcsn0 => unfold L2.NoAttr; (try dsimp only); k_is)
    (case xcsn1 => unfold L2.NoAttr; (try dsimp only); k_is)
    (case xcq0_1 => (try dsimp only); k_is)
    (case xcq0_2 => (try dsimp only); k_is)
    (case xcq0_3 => (try dsimp only); k_is)
    (case xcq1_1 => (try dsimp only); k_is)
    (case xcq1_2 => (try dsimp only); k_is)
    (case xcq1_3 => (try dsimp only); k_is)
    (case xcq2_1 => (try dsimp only); k_is)
    (case xcq2_2 => (try dsimp only); k_is)
    (case xcq2_3 => (try dsimp only); k_is)
    (case xcq2_4 => (try dsimp only); k_is)
    (case xcq3_1 => (try dsimp only); k_is)
    (case xcq3_2 => (try dsimp only); k_is)
    (case xcq3_3 => (try dsimp only); k_is)
    (case xcq3_4 => (try dsimp only); k_is)
    (case xcq4_1 => (try dsimp only); k_is)
    (case xcq4_2 => (try dsimp only); k_is)
    (case xcq4_3 => (try dsimp only); k_is)
    (case xcq4_4 => (try dsimp only); k_is)
    (case xcq5_1 => (try dsimp only); k_is)
    (case xcq5_2 => (try dsimp only); k_is)
    (case xcq5_3 => (try dsimp only); k_is)
    (case xcq5_4 => (try dsimp only); k_is)
    (case xcq6_1 => (try dsimp only); k_is)
    (case xcq6_2 => (try dsimp only); k_is)
    (case xcq6_3 => (try dsimp only); k_is)
    (case xcq6_4 => (try dsimp only); k_is)
    (case xcq7_1 => (try dsimp only); k_is)
    (case xcq7_2 => (try dsimp only); k_is)
    (case xcq7_3 => (try dsimp only); k_is)
    (case xcq7_4 => (try dsimp only); k_is)
    (case xcq8_1 => (try dsimp only); k_is)
    (case xcq8_2 => (try dsimp only); k_is)
    (case xcq8_3 => (try dsimp only); k_is)
    (case xcq8_4 => (try dsimp only); k_is)
    (case xcq9_1 => (try dsimp only); k_is)
    (case xcq9_2 => (try dsimp only); k_is)
    (case xcq9_3 => (try dsimp only); k_is)
    (case xcq9_4 => (try dsimp only); k_is)
