import PyProof.Rows.All
import Wide.All
import OpenK.AllK
import Wide.FinOn
import HandS.ForMost
import HandS.Walk
import HandS.Evl
import HandS.IsInst
import HandS.Style
import HandS.Conv
import PyProof.Draws
import PyProof.EnumMake
import HandS.ForExc
import HandS.ExcIs
import HandS.SetFor
import HandS.Strs
import HandS.Zip
import HandS.Dict
import HandS.Ends
import PySem.Challenge.RW_bracketmend_k02_whole_swaps
set_option Elab.async false
set_option linter.all false
set_option maxRecDepth 100000
set_option maxHeartbeats 4000000
namespace BM
open PySem L2 Evl

/-- what a def knows of the heap beyond what it began with: own objects, tuples -/
structure Ld where
  L : List (Addr × HO)
  T : List (Addr × List V)

structure Own (H0 H : Hp) (s : Ld) : Prop where
  ex : Ex H0 H
  nd : (s.L.map (·.1)).Nodup
  own : ∀ e ∈ s.L, H0 e.1 = none ∧ H e.1 = some e.2
  tp : ∀ t ∈ s.T, H t.1 = some (.tup t.2)

theorem Own.start (H : Hp) : Own H H ⟨[], []⟩ := ⟨Ex.refl H, List.nodup_nil, (fun _ h => nomatch h), (fun _ h => nomatch h)⟩
theorem Own.ext {H0 H H' : Hp} {s : Ld} (o : Own H0 H s) (e : Ex H H') : Own H0 H' s :=
  ⟨o.ex.trans e, o.nd, fun x hx => ⟨(o.own x hx).1, e _ _ (o.own x hx).2⟩, fun t ht => e _ _ (o.tp t ht)⟩
theorem Own.new {H0 H : Hp} {s : Ld} {p : Addr} {u : HO} (o : Own H0 H s) (hp : H p = none) : Own H0 (upd H p u) ⟨(p, u) :: s.L, s.T⟩ := by
  have e : Ex H (upd H p u) := Ex.new hp
  refine ⟨o.ex.trans e, ?_, ?_, fun t ht => e _ _ (o.tp t ht)⟩
  · refine List.nodup_cons.mpr ⟨fun h => ?_, o.nd⟩
    obtain ⟨x, hx, rfl⟩ := List.mem_map.mp h
    rw [(o.own x hx).2] at hp
    cases hp
  · intro x hx
    rcases List.mem_cons.mp hx with rfl | hx
    · exact ⟨fresh_back o.ex hp, upd_same⟩
    · exact ⟨(o.own x hx).1, e _ _ (o.own x hx).2⟩
/-- a new object behind an extension -/
theorem Own.newE {H0 H H' : Hp} {s : Ld} {p : Addr} {u : HO} (o : Own H0 H s) (hp : H p = none) (e : Ex H H') (h : H' p = some u) : Own H0 H' ⟨(p, u) :: s.L, s.T⟩ := by
  refine ⟨o.ex.trans e, ?_, ?_, fun t ht => e _ _ (o.tp t ht)⟩
  · refine List.nodup_cons.mpr ⟨fun h => ?_, o.nd⟩
    obtain ⟨x, hx, rfl⟩ := List.mem_map.mp h
    rw [(o.own x hx).2] at hp
    cases hp
  · intro x hx
    rcases List.mem_cons.mp hx with rfl | hx
    · exact ⟨fresh_back o.ex hp, h⟩
    · exact ⟨(o.own x hx).1, e _ _ (o.own x hx).2⟩
theorem Own.newT {H0 H : Hp} {s : Ld} {p : Addr} {xs : List V} (o : Own H0 H s) (hp : H p = none) : Own H0 (upd H p (.tup xs)) ⟨s.L, (p, xs) :: s.T⟩ := by
  have e : Ex H (upd H p (.tup xs)) := Ex.new hp
  refine ⟨o.ex.trans e, o.nd, fun x hx => ⟨(o.own x hx).1, e _ _ (o.own x hx).2⟩, ?_⟩
  intro t ht
  rcases List.mem_cons.mp ht with rfl | ht
  · exact upd_same
  · exact e _ _ (o.tp t ht)
theorem Own.moreT {H0 H : Hp} {s : Ld} (o : Own H0 H s) {ts : List (Addr × List V)} (h : ∀ t ∈ ts, H t.1 = some (.tup t.2)) : Own H0 H ⟨s.L, ts ++ s.T⟩ :=
  ⟨o.ex, o.nd, o.own, fun t ht => by
    rcases List.mem_append.mp ht with h1 | h1
    · exact h t h1
    · exact o.tp t h1⟩
theorem Own.dropL {H0 H : Hp} {s : Ld} (o : Own H0 H s) {L : List (Addr × HO)} {T : List (Addr × List V)} (hL : L.Sublist s.L) (hT : T ⊆ s.T) : Own H0 H ⟨L, T⟩ :=
  ⟨o.ex, (hL.map (·.1)).nodup o.nd, fun e he => o.own e (hL.subset he), fun t ht => o.tp t (hT ht)⟩

/-- less is known -/
structure Sub (s0 s : Ld) : Prop where
  l : s0.L.Sublist s.L
  t : s0.T.Sublist s.T
theorem Sub.refl (s : Ld) : Sub s s := ⟨List.Sublist.refl _, List.Sublist.refl _⟩
theorem Own.sub {H0 H : Hp} {s s0 : Ld} (o : Own H0 H s) (h : Sub s0 s) : Own H0 H s0 := o.dropL h.l h.t.subset

/-- one own object changed -/
inductive Swap (p : Addr) (o o' : HO) : List (Addr × HO) → List (Addr × HO) → Prop where
  | here {L} : Swap p o o' ((p, o) :: L) ((p, o') :: L)
  | there {e L L'} : Swap p o o' L L' → Swap p o o' (e :: L) (e :: L')
theorem Swap.keys {p : Addr} {o o' : HO} {L L' : List (Addr × HO)} (h : Swap p o o' L L') : L'.map (·.1) = L.map (·.1) := by
  induction h with
  | here => rfl
  | there _ ih => rw [List.map_cons, List.map_cons, ih]
theorem Swap.mem {p : Addr} {o o' : HO} {L L' : List (Addr × HO)} (h : Swap p o o' L L') : (p, o) ∈ L := by
  induction h with
  | here => exact List.mem_cons_self
  | there _ ih => exact List.mem_cons_of_mem _ ih
theorem Swap.of_mem {p : Addr} {o o' : HO} {L L' : List (Addr × HO)} (h : Swap p o o' L L') (nd : (L.map (·.1)).Nodup) : ∀ e ∈ L', e = (p, o') ∨ (e ∈ L ∧ e.1 ≠ p) := by
  induction h with
  | @here L =>
    intro e he
    rcases List.mem_cons.mp he with rfl | he
    · exact .inl rfl
    · refine .inr ⟨List.mem_cons_of_mem _ he, fun z => ?_⟩
      rw [List.map_cons] at nd
      exact (List.nodup_cons.mp nd).1 (List.mem_map.mpr ⟨e, he, z⟩)
  | @there x L L' h ih =>
    rw [List.map_cons] at nd
    have nd' := List.nodup_cons.mp nd
    intro e he
    rcases List.mem_cons.mp he with rfl | he
    · refine .inr ⟨List.mem_cons_self, fun z => ?_⟩
      refine nd'.1 (List.mem_map.mpr ⟨(p, o), h.mem, z.symm⟩)
    · rcases ih nd'.2 e he with r | ⟨r, r'⟩
      · exact .inl r
      · exact .inr ⟨List.mem_cons_of_mem _ r, r'⟩
def NotTup : HO → Prop
  | .tup _ => False
  | _ => True
theorem Own.swap {H0 H : Hp} {s : Ld} {p : Addr} {u u' : HO} {L' : List (Addr × HO)} (o : Own H0 H s) (h : Swap p u u' s.L L') (nt : NotTup u) : Own H0 (upd H p u') ⟨L', s.T⟩ := by
  have hp := o.own _ h.mem
  refine ⟨fun a x e => ?_, by rw [h.keys]; exact o.nd, fun e he => ?_, fun t ht => ?_⟩
  · rw [upd_ne (ne_of_none e hp.1)]
    exact o.ex _ _ e
  · rcases h.of_mem o.nd e he with rfl | ⟨he, ne⟩
    · exact ⟨hp.1, upd_same⟩
    · rw [upd_ne ne]
      exact o.own e he
  · rw [upd_ne]
    · exact o.tp t ht
    · intro z
      have h1 := o.tp t ht
      rw [z, hp.2] at h1
      cases h1
      exact nt
/-! ### lists and tuples to be read -/
def IsL (K : PySem.W.Frag) (H0 : Hp) (s : Ld) (a : Addr) (xs : List V) : Prop := ∀ H, Own H0 H s → SqL K H a xs
def IsT (K : PySem.W.Frag) (H0 : Hp) (s : Ld) (a : Addr) (xs : List V) : Prop := ∀ H, Own H0 H s → SqT K H a xs
section
variable {K : PySem.W.Frag} {H0 : Hp} {s : Ld} {a : Addr} {xs : List V}
theorem isL_own (h : (a, HO.lst xs) ∈ s.L) : IsL K H0 s a xs := fun H o => sq_of (o.own _ h).2
theorem isL_old (h : SqL K H0 a xs) : IsL K H0 s a xs := fun H o => ex_l o.ex h
theorem isT_own (h : (a, xs) ∈ s.T) : IsT K H0 s a xs := fun H o => st_of (o.tp _ h)
theorem isT_old (h : SqT K H0 a xs) : IsT K H0 s a xs := fun H o => ex_t o.ex h
end

/-! ### what is asked, over the own objects -/
def WE (H0 : Hp) (t : TE) (σ : L2.St) (s : Ld) (Q : V → Ld → Prop) : Prop := ∀ H, Own H0 H s → ∀ R : VK, (∀ v H' s', Own H0 H' s' → Q v s' → R v H') → t σ H R
def WT (H0 : Hp) (t : TT) (σ : L2.St) (s : Ld) (Q : Bool → Ld → Prop) : Prop := ∀ H, Own H0 H s → ∀ R : Bool → Hp → Prop, (∀ v H' s', Own H0 H' s' → Q v s' → R v H') → t σ H R
def WA (H0 : Hp) (t : TA) (σ : L2.St) (s : Ld) (Q : List V → Ld → Prop) : Prop := ∀ H, Own H0 H s → ∀ R : List V → Hp → Prop, (∀ v H' s', Own H0 H' s' → Q v s' → R v H') → t σ H R
def WO (H0 : Hp) (t : TO) (σ : L2.St) (s : Ld) (Q : Option Int → Ld → Prop) : Prop := ∀ H, Own H0 H s → ∀ R : Option Int → Hp → Prop, (∀ v H' s', Own H0 H' s' → Q v s' → R v H') → t σ H R
def W2 (H0 : Hp) (r : R2) (x y : V) (s : Ld) (Q : V → Ld → Prop) : Prop := ∀ H, Own H0 H s → ∀ R : VK, (∀ v H' s', Own H0 H' s' → Q v s' → R v H') → r x y H R
def W1 (H0 : Hp) (r : V → Hp → VK → Prop) (x : V) (s : Ld) (Q : V → Ld → Prop) : Prop := ∀ H, Own H0 H s → ∀ R : VK, (∀ v H' s', Own H0 H' s' → Q v s' → R v H') → r x H R
def WL (H0 : Hp) (r : List V → Hp → VK → Prop) (xs : List V) (s : Ld) (Q : V → Ld → Prop) : Prop := ∀ H, Own H0 H s → ∀ R : VK, (∀ v H' s', Own H0 H' s' → Q v s' → R v H') → r xs H R
def WM (H0 : Hp) (r : V → List V → Hp → VK → Prop) (x : V) (xs : List V) (s : Ld) (Q : V → Ld → Prop) : Prop := ∀ H, Own H0 H s → ∀ R : VK, (∀ v H' s', Own H0 H' s' → Q v s' → R v H') → r x xs H R
def WSl (H0 : Hp) (r : V → Option Int → Option Int → Hp → VK → Prop) (x : V) (lo hi : Option Int) (s : Ld) (Q : V → Ld → Prop) : Prop := ∀ H, Own H0 H s → ∀ R : VK, (∀ v H' s', Own H0 H' s' → Q v s' → R v H') → r x lo hi H R
def WC (H0 : Hp) (sp : Sp) (E : XK) (vs : List V) (s : Ld) (Q : V → Ld → Prop) : Prop := ∀ H, Own H0 H s → ∀ R : VK, (∀ v H' s', Own H0 H' s' → Q v s' → R v H') → sp vs H R E
def WSet (H0 : Hp) (r : TSet) (o i v : V) (s : Ld) (Q : Ld → Prop) : Prop := ∀ H, Own H0 H s → ∀ R : Hp → Prop, (∀ H' s', Own H0 H' s' → Q s' → R H') → r o i v H R
def WG (H0 : Hp) (g : TG) (v : V) (σ : L2.St) (s : Ld) (Q : L2.St → Ld → Prop) : Prop := ∀ H, Own H0 H s → ∀ R : L2.St → Hp → Prop, (∀ σ' H' s', Own H0 H' s' → Q σ' s' → R σ' H') → g v σ H R
def WGs (H0 : Hp) (g : TGs) (vs : List V) (σ : L2.St) (s : Ld) (Q : L2.St → Ld → Prop) : Prop := ∀ H, Own H0 H s → ∀ R : L2.St → Hp → Prop, (∀ σ' H' s', Own H0 H' s' → Q σ' s' → R σ' H') → g vs σ H R
def WI (H0 : Hp) (wi : TI) (σ : L2.St) (s : Ld) (Q : It → Ld → Prop) : Prop := ∀ H, Own H0 H s → ∀ R : It → Hp → Prop, (∀ J H' s', Own H0 H' s' → Q J s' → R J H') → wi σ H R
structure Dl where
  nx : L2.St → Ld → Prop
  rt : V → Ld → Prop
  bk : L2.St → Ld → Prop := fun _ _ => False
  ct : L2.St → Ld → Prop := fun _ _ => False
structure Low (H0 : Hp) (D : Dl) (E : Ends) : Prop where
  nx : ∀ σ H s, Own H0 H s → D.nx σ s → E.nx σ H
  rt : ∀ v H s, Own H0 H s → D.rt v s → E.rt v H
  bk : ∀ σ H s, Own H0 H s → D.bk σ s → E.bk σ H
  ct : ∀ σ H s, Own H0 H s → D.ct σ s → E.ct σ H
def WS (H0 : Hp) (t : TS) (σ : L2.St) (s : Ld) (D : Dl) : Prop := ∀ H, Own H0 H s → ∀ E : Ends, Low H0 D E → t E σ H

section
variable {K : PySem.W.Frag} {H0 : Hp} {σ : L2.St} {s : Ld} {ta tb te tl : TE} {t u : TT} {tr : TA} {x y z v : V} {r : R2} {Q : V → Ld → Prop} {D : Dl} {t1 t2 : TS} {g : TG}
/-! ### values -/
theorem we_var {i : Nat} (h : σ[i]? = some (some v)) (q : Q v s) : WE H0 (tVar i) σ s Q := fun H o R k => ⟨v, h, k v H s o q⟩
theorem we_c (q : Q v s) : WE H0 (tC v) σ s Q := fun H o R k => k v H s o q
theorem we_op (h : WE H0 ta σ s fun x s1 => WE H0 tb σ s1 fun y s2 => W2 H0 r x y s2 Q) : WE H0 (tOp r ta tb) σ s Q := fun H o R k =>
  h H o _ fun x H1 s1 o1 h1 => h1 H1 o1 _ fun y H2 s2 o2 h2 => h2 H2 o2 R k
theorem we_un {r : V → Hp → VK → Prop} (h : WE H0 ta σ s fun x s1 => W1 H0 r x s1 Q) : WE H0 (tUn r ta) σ s Q := fun H o R k =>
  h H o _ fun x H1 s1 o1 h1 => h1 H1 o1 R k
theorem we_if {c : TT} (h : WT H0 c σ s fun b s1 => (b = true → WE H0 ta σ s1 Q) ∧ (b = false → WE H0 tb σ s1 Q)) : WE H0 (tIf c ta tb) σ s Q := fun H o R k =>
  h H o _ fun b H1 s1 o1 h1 => by
    cases b with
    | true => exact h1.1 rfl H1 o1 R k
    | false => exact h1.2 rfl H1 o1 R k
theorem we_and (h : WE H0 ta σ s fun x s1 => ∃ c, x = .bl c ∧ (c = true → WE H0 tb σ s1 Q) ∧ (c = false → Q (.bl false) s1)) : WE H0 (tAndV ta tb) σ s Q := fun H o R k =>
  h H o _ fun x H1 s1 o1 ⟨c, e, h1, h2⟩ => ⟨c, e, by
    cases c with
    | true => exact h1 rfl H1 o1 R k
    | false => exact k _ H1 s1 o1 (h2 rfl)⟩
theorem we_or (h : WE H0 ta σ s fun x s1 => ∃ c, x = .bl c ∧ (c = true → Q (.bl true) s1) ∧ (c = false → WE H0 tb σ s1 Q)) : WE H0 (tOrV ta tb) σ s Q := fun H o R k =>
  h H o _ fun x H1 s1 o1 ⟨c, e, h2, h1⟩ => ⟨c, e, by
    cases c with
    | true => exact k _ H1 s1 o1 (h2 rfl)
    | false => exact h1 rfl H1 o1 R k⟩
theorem we_or_val {b1 b2 : Bool} (ha : ∀ Q : V → Ld → Prop, Q (.bl b1) s → WE H0 ta σ s Q) (hb : ∀ Q : V → Ld → Prop, Q (.bl b2) s → WE H0 tb σ s Q) (q : Q (.bl (b1 || b2)) s) : WE H0 (tOrV ta tb) σ s Q :=
  we_or (ha _ ⟨b1, rfl, by
    cases b1
    · exact ⟨(fun h => nomatch h), fun _ => hb _ q⟩
    · exact ⟨fun _ => q, (fun h => nomatch h)⟩⟩)
theorem we_and_val {b1 b2 : Bool} (ha : ∀ Q : V → Ld → Prop, Q (.bl b1) s → WE H0 ta σ s Q) (hb : ∀ Q : V → Ld → Prop, Q (.bl b2) s → WE H0 tb σ s Q) (q : Q (.bl (b1 && b2)) s) : WE H0 (tAndV ta tb) σ s Q :=
  we_and (ha _ ⟨b1, rfl, by
    cases b1
    · exact ⟨(fun h => nomatch h), fun _ => q⟩
    · exact ⟨fun _ => hb _ q, (fun h => nomatch h)⟩⟩)
theorem we_not (h : WE H0 ta σ s fun x s1 => ∃ c, x = .bl c ∧ Q (.bl (!c)) s1) : WE H0 (tNotV ta) σ s Q := fun H o R k =>
  h H o _ fun x H1 s1 o1 ⟨c, e, h1⟩ => ⟨c, e, k _ H1 s1 o1 h1⟩
theorem wa_nil {Q : List V → Ld → Prop} (q : Q [] s) : WA H0 tNil σ s Q := fun H o R k => k [] H s o q
theorem wa_cons {Q : List V → Ld → Prop} (h : WE H0 ta σ s fun x s1 => WA H0 tr σ s1 fun xs s2 => Q (x :: xs) s2) : WA H0 (tCons ta tr) σ s Q := fun H o R k =>
  h H o _ fun x H1 s1 o1 h1 => h1 H1 o1 _ fun xs H2 s2 o2 h2 => k _ H2 s2 o2 h2
theorem we_lst {ta : TA} (h : WA H0 ta σ s fun xs s1 => xs.length ≤ 100000 ∧ ∀ p, H0 p = none → Q (.ref p) ⟨(p, .lst xs) :: s1.L, s1.T⟩) : WE H0 (tLst ta) σ s Q := fun H o R k =>
  h H o _ fun xs H1 s1 o1 ⟨hl, h1⟩ => ⟨sz_of hl, fun p hp => k _ _ _ (o1.new hp) (h1 p (fresh_back o1.ex hp))⟩
theorem we_tup {ta : TA} (h : WA H0 ta σ s fun xs s1 => xs.length ≤ 100000 ∧ ∀ p, H0 p = none → Q (.ref p) ⟨s1.L, (p, xs) :: s1.T⟩) : WE H0 (tTup ta) σ s Q := fun H o R k =>
  h H o _ fun xs H1 s1 o1 ⟨hl, h1⟩ => ⟨sz_of hl, fun p hp => k _ _ _ (o1.newT hp) (h1 p (fresh_back o1.ex hp))⟩
theorem we_cb {r : List V → Hp → VK → Prop} {ta : TA} (h : WA H0 ta σ s fun xs s1 => WL H0 r xs s1 Q) : WE H0 (tCB r ta) σ s Q := fun H o R k =>
  h H o _ fun xs H1 s1 o1 h1 => h1 H1 o1 R k
theorem we_call {sp : Sp} {dvs : List V} {E : XK} {ta : TA} (h : WA H0 ta σ s fun xs s1 => WC H0 sp E (xs ++ dvs) s1 Q) : WE H0 (tCall sp dvs E ta) σ s Q := fun H o R k =>
  h H o _ fun xs H1 s1 o1 h1 => h1 H1 o1 R k
theorem we_sl {r : V → Option Int → Option Int → Hp → VK → Prop} {tl th : TO} (h : WE H0 te σ s fun x s1 => WO H0 tl σ s1 fun l s2 => WO H0 th σ s2 fun u s3 => WSl H0 r x l u s3 Q) : WE H0 (tSl r te tl th) σ s Q := fun H o R k =>
  h H o _ fun x H1 s1 o1 h1 => h1 H1 o1 _ fun l H2 s2 o2 h2 => h2 H2 o2 _ fun u H3 s3 o3 h3 => h3 H3 o3 R k
theorem wo_none {Q : Option Int → Ld → Prop} (q : Q none s) : WO H0 tNoPart σ s Q := fun H o R k => k none H s o q
theorem wo_some {Q : Option Int → Ld → Prop} (h : WE H0 te σ s fun x s1 => ∃ i, x = .int i ∧ Q (some i) s1) : WO H0 (tPart te) σ s Q := fun H o R k =>
  h H o _ fun x H1 s1 o1 ⟨i, e, h1⟩ => ⟨i, e, k _ H1 s1 o1 h1⟩
/-! ### tests -/
theorem wt_test {Q : Bool → Ld → Prop} (h : WE H0 te σ s fun x s1 => ∃ b, x = .bl b ∧ Q b s1) : WT H0 (tTest te) σ s Q := fun H o R k =>
  h H o _ fun x H1 s1 o1 ⟨b, e, h1⟩ => ⟨b, e, k _ H1 s1 o1 h1⟩
theorem wt_B {Q : Bool → Ld → Prop} (h : WE H0 te σ s fun x s1 => ∃ b, x = .bl b ∧ Q b s1) : WT H0 (tB te) σ s Q := fun H o R k =>
  h H o _ fun x H1 s1 o1 ⟨b, e, h1⟩ => ⟨b, e, k _ H1 s1 o1 h1⟩
theorem wt_and {Q : Bool → Ld → Prop} (h : WT H0 t σ s fun b s1 => (b = true → WT H0 u σ s1 Q) ∧ (b = false → Q false s1)) : WT H0 (tAnd t u) σ s Q := fun H o R k =>
  h H o _ fun b H1 s1 o1 h1 => by
    cases b with
    | true => exact h1.1 rfl H1 o1 R k
    | false => exact k _ H1 s1 o1 (h1.2 rfl)
theorem wt_or {Q : Bool → Ld → Prop} (h : WT H0 t σ s fun b s1 => (b = true → Q true s1) ∧ (b = false → WT H0 u σ s1 Q)) : WT H0 (tOr t u) σ s Q := fun H o R k =>
  h H o _ fun b H1 s1 o1 h1 => by
    cases b with
    | true => exact k _ H1 s1 o1 (h1.1 rfl)
    | false => exact h1.2 rfl H1 o1 R k
theorem wt_not {Q : Bool → Ld → Prop} (h : WT H0 t σ s fun b s1 => Q (!b) s1) : WT H0 (tNot t) σ s Q := fun H o R k =>
  h H o _ fun b H1 s1 o1 h1 => k _ H1 s1 o1 h1
theorem we_chain {r r' : R2} {tc : TE} (h : WE H0 ta σ s fun x s1 => WE H0 tb σ s1 fun y s2 => W2 H0 r x y s2 fun z s3 => ∃ c, z = .bl c ∧ (c = true → WE H0 tc σ s3 fun w s4 => W2 H0 r' y w s4 Q) ∧ (c = false → Q (.bl false) s3)) : WE H0 (tChain r r' ta tb tc) σ s Q := fun H o R k =>
  h H o _ fun x H1 s1 o1 h1 => h1 H1 o1 _ fun y H2 s2 o2 h2 => h2 H2 o2 _ fun z H3 s3 o3 ⟨c, e, h3, h4⟩ => ⟨c, e, by
    cases c with
    | true => exact h3 rfl H3 o3 _ fun w H4 s4 o4 h5 => h5 H4 o4 R k
    | false => exact k _ H3 s3 o3 (h4 rfl)⟩
/-! ### statements -/
theorem ws_seq (h : WS H0 t1 σ s { D with nx := fun σ' s' => WS H0 t2 σ' s' D }) : WS H0 (tSeq t1 t2) σ s D := fun H o E l =>
  h H o _ ⟨fun σ' H' s' o' h' => h' H' o' E l, l.rt, l.bk, l.ct⟩
theorem ws_next (q : D.nx σ s) : WS H0 tNext σ s D := fun H o E l => l.nx σ H s o q
theorem ws_brk (q : D.bk σ s) : WS H0 tBreak σ s D := fun H o E l => l.bk σ H s o q
theorem ws_cont (q : D.ct σ s) : WS H0 tCont σ s D := fun H o E l => l.ct σ H s o q
theorem ws_drop (h : WE H0 te σ s fun _ s1 => D.nx σ s1) : WS H0 (tDrop te) σ s D := fun H o E l => h H o _ fun v H1 s1 o1 h1 => l.nx σ H1 s1 o1 h1
theorem ws_ret (h : WE H0 te σ s D.rt) : WS H0 (tRet te) σ s D := fun H o E l => h H o _ fun v H1 s1 o1 h1 => l.rt v H1 s1 o1 h1
theorem ws_if {c : TT} (h : WT H0 c σ s fun b s1 => (b = true → WS H0 t1 σ s1 D) ∧ (b = false → WS H0 t2 σ s1 D)) : WS H0 (tIfS c t1 t2) σ s D := fun H o E l =>
  h H o _ fun b H1 s1 o1 h1 => by
    cases b with
    | true => exact h1.1 rfl H1 o1 E l
    | false => exact h1.2 rfl H1 o1 E l
theorem ws_asg (h : WE H0 te σ s fun x s1 => WG H0 g x σ s1 D.nx) : WS H0 (tAsg te g) σ s D := fun H o E l =>
  h H o _ fun x H1 s1 o1 h1 => h1 H1 o1 _ fun σ' H' s' o' q => l.nx σ' H' s' o' q
theorem ws_set {i : Nat} (h : WE H0 te σ s fun x s1 => D.nx (σ.set i (some x)) s1) : WS H0 (tAsg te (gName i)) σ s D := fun H o E l =>
  h H o _ fun x H1 s1 o1 h1 => l.nx _ H1 s1 o1 h1
theorem ws_par {i j : Nat} {ta : TA} (h : WA H0 ta σ s fun vs s1 => ∃ v w, vs = [v, w] ∧ D.nx ((σ.set i (some v)).set j (some w)) s1) : WS H0 (tPar i j ta) σ s D := fun H o E l =>
  h H o _ fun vs H1 s1 o1 ⟨v, w, e, h1⟩ => ⟨v, w, e, l.nx _ H1 s1 o1 h1⟩
theorem wg_name {i : Nat} {Q : L2.St → Ld → Prop} (q : Q (σ.set i (some v)) s) : WG H0 (gName i) v σ s Q := fun H o R k => k _ H s o q
theorem wg_tup {n : Nat} {g : TGs} {a : Addr} {xs : List V} {Q : L2.St → Ld → Prop} (ht : IsT K H0 s a xs) (hn : xs.length = n) (h : WGs H0 g xs σ s Q) : WG H0 (gTup K n g) (.ref a) σ s Q := fun H o R k =>
  ⟨a, xs, rfl, ht H o, hn, h H o R k⟩
theorem wgs_nil {Q : L2.St → Ld → Prop} (q : Q σ s) : WGs H0 gNil [] σ s Q := fun H o R k => ⟨rfl, k _ H s o q⟩
theorem wgs_cons {g : TG} {gs : TGs} {vs : List V} {Q : L2.St → Ld → Prop} (h : WG H0 g v σ s fun σ1 s1 => WGs H0 gs vs σ1 s1 Q) : WGs H0 (gCons g gs) (v :: vs) σ s Q := fun H o R k =>
  ⟨v, vs, rfl, h H o _ fun σ1 H1 s1 o1 h1 => h1 H1 o1 R k⟩
theorem wg_sub {to ti : TE} {ts : TSet} {Q : L2.St → Ld → Prop} (h : WE H0 to σ s fun o s1 => WE H0 ti σ s1 fun i s2 => WSet H0 ts o i v s2 fun s3 => Q σ s3) : WG H0 (gSub to ti ts) v σ s Q := fun H o R k =>
  h H o _ fun x H1 s1 o1 h1 => h1 H1 o1 _ fun y H2 s2 o2 h2 => h2 H2 o2 _ fun H3 s3 o3 q => k _ H3 s3 o3 q
theorem spl_t {c : Bool} {A B : Prop} (hc : c = true) (h : A) : (c = true → A) ∧ (c = false → B) := ⟨fun _ => h, fun e => absurd (hc.symm.trans e) (by decide)⟩
theorem spl_f {c : Bool} {A B : Prop} (hc : c = false) (h : B) : (c = true → A) ∧ (c = false → B) := ⟨fun e => absurd (hc.symm.trans e) (by decide), fun _ => h⟩
/-! ### loops -/
theorem ws_weak {s0 : Ld} (hs : Sub s0 s) (h : WS H0 t1 σ s0 D) : WS H0 t1 σ s D := fun H o E l => h H (o.sub hs) E l
theorem we_weak {s0 : Ld} (hs : Sub s0 s) (h : WE H0 te σ s0 Q) : WE H0 te σ s Q := fun H o R k => h H (o.sub hs) R k
theorem ws_cut (M : L2.St → Ld → Prop) (h : WS H0 t1 σ s { D with nx := fun σ' s' => ∃ s0, Sub s0 s' ∧ M σ' s0 }) (k : ∀ σ' s', M σ' s' → WS H0 t2 σ' s' D) : WS H0 (tSeq t1 t2) σ s D := fun H o E l =>
  h H o _ ⟨(fun σ' H' s' o' ⟨s0, hs0, q⟩ => k σ' s0 q H' (o'.sub hs0) E l), l.rt, l.bk, l.ct⟩
theorem ws_while {c : TT} (I : Nat → L2.St → Ld → Prop) (m0 : Nat) (h0 : I m0 σ s)
    (hs : ∀ m σ s, I m σ s → WT H0 c σ s fun b s1 => (b = true → WS H0 t1 σ s1 { D with nx := fun σ' s' => ∃ s0, Sub s0 s' ∧ ∃ m', m' < m ∧ I m' σ' s0, ct := fun σ' s' => ∃ s0, Sub s0 s' ∧ ∃ m', m' < m ∧ I m' σ' s0, bk := D.nx }) ∧ (b = false → D.nx σ s1)) : WS H0 (tWhile c t1) σ s D := fun H o E l => by
  refine ⟨fun m σ H => ∃ s, Own H0 H s ∧ I m σ s, ⟨m0, s, o, h0⟩, ?_⟩
  rintro m σ H ⟨s, o, i⟩
  refine hs m σ s i H o _ fun b H1 s1 o1 h1 => ?_
  cases b with
  | true =>
    rw [if_pos rfl]
    refine ⟨fun σ' H' => ∃ m', m' < m ∧ ∃ s, Own H0 H' s ∧ I m' σ' s, fun σ' H' q => q, ?_⟩
    refine h1.1 rfl H1 o1 _ ⟨?_, l.rt, fun σ' H' s' o' q => l.nx σ' H' s' o' q, ?_⟩
    · rintro σ' H' s' o' ⟨s0, hs0, m', lt, q⟩
      exact ⟨m', lt, s0, o'.sub hs0, q⟩
    · rintro σ' H' s' o' ⟨s0, hs0, m', lt, q⟩
      exact ⟨m', lt, s0, o'.sub hs0, q⟩
  | false =>
    rw [if_neg Bool.false_ne_true]
    exact l.nx σ H1 s1 o1 (h1.2 rfl)
/-- a loop's turn: what follows the body -/
def turnD (D : Dl) (J : L2.St → Ld → Prop) : Dl := { nx := fun σ' s' => ∃ s0, Sub s0 s' ∧ J σ' s0, ct := fun σ' s' => ∃ s0, Sub s0 s' ∧ J σ' s0, bk := D.nx, rt := D.rt }
def LoopOk (H0 : Hp) (J : It) (g : TG) (tb : TS) (σ : L2.St) (s : Ld) (D : Dl) : Prop := ∃ n G Y, Walk J n G Y ∧ ∃ I : Nat → L2.St → Ld → Prop, I 0 σ s ∧ (∀ i σ s H, i ≤ n → I i σ s → Own H0 H s → G H) ∧
    (∀ i x σ s H H', i < n → I i σ s → Own H0 H s → Y i H x H' → ∃ s', Own H0 H' s' ∧ WG H0 g x σ s' fun σ2 s2 => WS H0 tb σ2 s2 (turnD D (I (i + 1)))) ∧ (∀ σ s, I n σ s → D.nx σ s)
theorem ws_for {wi : TI} {tb : TS} (h : WI H0 wi σ s fun J s1 => LoopOk H0 J g tb σ s1 D) : WS H0 (tFor wi g tb) σ s D := fun H o E l => by
  refine h H o _ ?_
  rintro J H1 s1 o1 ⟨n, G, Y, w, I, h0, hG, hs, hd⟩
  refine for_it w (fun i σ H => ∃ s, Own H0 H s ∧ I i σ s) ⟨s1, o1, h0⟩ ?_ ?_ ?_
  · rintro i σ H hi ⟨s, o, q⟩
    exact hG i σ s H hi q o
  · rintro i x σ H H' hi ⟨s, o, q⟩ y
    obtain ⟨s', o', q'⟩ := hs i x σ s H H' hi q o y
    refine q' H' o' _ fun σ2 H2 s2 o2 h2 => ?_
    refine h2 H2 o2 _ ⟨fun σ' H' s' o' ⟨s0, hs0, q⟩ => ⟨s0, o'.sub hs0, q⟩, l.rt, fun σ' H' s' o' q => l.nx σ' H' s' o' q, fun σ' H' s' o' ⟨s0, hs0, q⟩ => ⟨s0, o'.sub hs0, q⟩⟩
  · rintro σ H ⟨s, o, q⟩
    exact l.nx σ H s o (hd σ s q)
def CompOk (H0 : Hp) (J : It) (g : TG) (tt : TT) (te : TE) (σ : L2.St) (vs : List Nat) (s1 : Ld) (Q : V → Ld → Prop) : Prop := ∃ n G Y, Walk J n G Y ∧ ∀ D, H0 D = none → ∃ I : Nat → Ld → Prop, I 0 ⟨(D, .lst []) :: s1.L, s1.T⟩ ∧ (∀ i s H, i ≤ n → I i s → Own H0 H s → G H) ∧
    (∀ i x s H H', i < n → I i s → Own H0 H s → Y i H x H' → ∃ s', Own H0 H' s' ∧ WG H0 g x (wipe σ vs) s' fun σ2 s2 => wipe σ2 vs = wipe σ vs ∧ WT H0 tt σ2 s2 fun b s3 =>
      (b = true → WE H0 te σ2 s3 fun y s4 => ∃ acc L' s0, Swap D (.lst acc) (.lst (acc ++ [y])) s4.L L' ∧ acc.length < 100000 ∧ Sub s0 ⟨L', s4.T⟩ ∧ I (i + 1) s0) ∧ (b = false → ∃ s0, Sub s0 s3 ∧ I (i + 1) s0)) ∧ (∀ s, I n s → Q (.ref D) s)
theorem we_lc {wi : TI} {tt : TT} {vs : List Nat} (h : WI H0 wi σ s fun J s1 => CompOk H0 J g tt te σ vs s1 Q) : WE H0 (tLc wi g tt te vs) σ s Q := fun H o R k => by
  refine h H o _ ?_
  rintro J H1 s1 o1 ⟨n, G, Y, w, h1⟩ D hD
  obtain ⟨I, h0, hG, hs, hd⟩ := h1 D (fresh_back o1.ex hD)
  refine lc_it w (fun i H => ∃ s, Own H0 H s ∧ I i s) ⟨_, o1.new hD, h0⟩ ?_ ?_ ?_
  · rintro i H hi ⟨s, o, q⟩
    exact hG i s H hi q o
  · rintro i x H H' hi ⟨s, o, q⟩ y
    obtain ⟨s', o', q'⟩ := hs i x s H H' hi q o y
    refine q' H' o' _ fun σ2 H2 s2 o2 h2 => ⟨h2.1, h2.2 H2 o2 _ fun b H3 s3 o3 h3 => ?_⟩
    cases b with
    | true =>
      rw [if_pos rfl]
      refine h3.1 rfl H3 o3 _ ?_
      rintro y H4 s4 o4 ⟨acc, L', s0, sw, hl, hs0, q⟩
      exact ⟨acc, (o4.own _ sw.mem).2, sz_lt hl, s0, (o4.swap sw trivial).sub hs0, q⟩
    | false =>
      rw [if_neg Bool.false_ne_true]
      obtain ⟨s0, hs0, q⟩ := h3.2 rfl
      exact ⟨s0, o3.sub hs0, q⟩
  · rintro H ⟨s, o, q⟩
    exact k _ H s o (hd s q)
end
end BM
namespace BM
open PySem L2 Evl
/-! ### rows as lists of truths -/
def B (b : Bool) : Nat := if b then 40 else 41
def T (r : List Bool) : Str := ⟨(r.map B).toArray⟩
theorem T_len (r : List Bool) : (T r).length = r.length := by
  show (r.map B).toArray.size = _
  simp
theorem T_list (r : List Bool) : (T r).cps.toList = r.map B := by
  show (r.map B).toArray.toList = _
  simp
theorem B_inj {a b : Bool} (h : B a = B b) : a = b := by
  cases a <;> cases b <;> first | rfl | (exact absurd h (by decide))
theorem T_inj {r u : List Bool} (h : T r = T u) : r = u := by
  have h1 : (T r).cps.toList = (T u).cps.toList := by rw [h]
  rw [T_list, T_list] at h1
  induction r generalizing u with
  | nil =>
    cases u with
    | nil => rfl
    | cons b u => simp at h1
  | cons a r ih =>
    cases u with
    | nil => simp at h1
    | cons b u =>
      simp only [List.map_cons, List.cons.injEq] at h1
      rw [B_inj h1.1]
      have h2 : T r = T u := by
        unfold T
        rw [h1.2]
      rw [ih h2 h1.2]
theorem T_eq {r u : List Bool} : (T r = T u) ↔ r = u := ⟨T_inj, fun h => by rw [h]⟩
theorem tV_eq {r u : List Bool} : (V.str (T r) = V.str (T u)) ↔ r = u := ⟨fun h => T_inj (V.str.inj h), fun h => by rw [h]⟩
theorem T_app (r u : List Bool) : T r ++ T u = T (r ++ u) := by
  apply TL.ext_tl
  rw [TL.tl_append]
  show (T r).cps.toList ++ (T u).cps.toList = (T (r ++ u)).cps.toList
  rw [T_list, T_list, T_list, List.map_append]
/-! ### constants -/
section
variable {X : Cx}
theorem pe_strT (r : List Bool) {x : Str} {j pos} (h : x = T r := by rfl) : PE X (.Constant (.str x) j pos) (tC (.str (T r))) := by
  rw [← h]
  exact pe_str
end
/-! ### operators: named readings -/
def aAdd : R2 := rI0 fun i j => .int (i + j)
def aSub : R2 := rI0 fun i j => .int (i - j)
def aMul : R2 := rI CMul fun i j => .int (i * j)
def aDiv : R2 := rI CDiv fun i j => .int (i / j)
def aMod : R2 := rI (fun _ j => 0 < j) fun i j => .int (i % j)
def aPow : R2 := rI CPow fun i j => .int (i ^ j.toNat)
def aShl : R2 := rI CPow fun i j => .int (i * 2 ^ j.toNat)
def aShr : R2 := rI (fun _ j => 0 ≤ j) fun i j => .int (i / 2 ^ j.toNat)
def aAnd : R2 := rI0 fun i j => .int (Builtin.bitAnd i j)
def aLt : R2 := rI0 fun i j => .bl (decide (i < j))
def aLe : R2 := rI0 fun i j => .bl (decide (i ≤ j))
def aGt : R2 := rI0 fun i j => .bl (decide (j < i))
def aGe : R2 := rI0 fun i j => .bl (decide (j ≤ i))
def aCatT : R2 := fun x y H Q => ∃ r u : List Bool, x = .str (T r) ∧ y = .str (T u) ∧ r.length + u.length ≤ 100000 ∧ Q (.str (T (r ++ u))) H
def aIxT : R2 := fun x y H Q => ∃ (r : List Bool) (i : Int) (b : Bool), x = .str (T r) ∧ y = .int i ∧ r.length ≤ 100000 ∧ atI r i = some b ∧ Q (.str (T [b])) H
def aInT : R2 := fun x y H Q => ∃ (b : Bool) (r : List Bool), x = .str (T [b]) ∧ y = .str (T r) ∧ Q (.bl (decide (b ∈ r))) H
def aIsN : R2 := fun x y H Q => y = .non ∧ Q (.bl (decide (x = .non))) H
def aNotN : R2 := fun x y H Q => y = .non ∧ Q (.bl (!decide (x = .non))) H
def aIsB : R2 := fun x y H Q => ∃ a b : Bool, x = .bl a ∧ y = .bl b ∧ Q (.bl (decide (a = b))) H
def aNeg : V → Hp → VK → Prop := rU fun i => .int (-i)
def aLenL (K : PySem.W.Frag) : List V → Hp → VK → Prop := fun xs H Q => ∃ p ys, xs = [.ref p] ∧ (SqL K H p ys ∨ SqT K H p ys) ∧ Q (.int ys.length) H
def aLenT : List V → Hp → VK → Prop := fun xs H Q => ∃ r : List Bool, xs = [.str (T r)] ∧ r.length ≤ 100000 ∧ Q (.int r.length) H
def aAbs : List V → Hp → VK → Prop := fun xs H Q => ∃ i, xs = [.int i] ∧ Q (.int (if i < 0 then -i else i)) H
def aMax2 : List V → Hp → VK → Prop := fun xs H Q => ∃ i j, xs = [.int i, .int j] ∧ Q (.int (if j > i then j else i)) H
def aMin2 : List V → Hp → VK → Prop := fun xs H Q => ∃ i j, xs = [.int i, .int j] ∧ Q (.int (if j < i then j else i)) H
def aIntB : List V → Hp → VK → Prop := fun xs H Q => ∃ k : Bool, xs = [.bl k] ∧ Q (.int (if k then 1 else 0)) H
def aListOf (K : PySem.W.Frag) : List V → Hp → VK → Prop := fun xs H Q => ∃ p ys, xs = [.ref p] ∧ (SqL K H p ys ∨ SqT K H p ys) ∧ ∀ l, H l = none → Q (.ref l) (upd H l (.lst ys))
def aAll (K : PySem.W.Frag) : List V → Hp → VK → Prop := fun vs H Q => ∃ (a : Addr) (bs : List Bool), vs = [V.ref a] ∧ SqL K H a (bs.map V.bl) ∧ Q (.bl (bs.all id)) H
def aAny (K : PySem.W.Frag) : List V → Hp → VK → Prop := fun vs H Q => ∃ (a : Addr) (bs : List Bool), vs = [V.ref a] ∧ SqL K H a (bs.map V.bl) ∧ Q (.bl (bs.any id)) H
def aJoin (K : PySem.W.Frag) : V → List V → Hp → VK → Prop := fun x xs H Q => ∃ (p : Addr) (rs : List (List Bool)), x = .str (T []) ∧ xs = [.ref p] ∧ SqL K H p (rs.map fun r => .str (T r)) ∧ (rs.map (·.length)).sum ≤ 100000 ∧ Q (.str (T rs.flatten)) H
def cutL {α : Type} (xs : List α) (lo hi : Option Int) : List α := (xs.drop (HT.sIx xs.length 0 lo)).take (HT.sIx xs.length xs.length hi - HT.sIx xs.length 0 lo)
def aSlT : V → Option Int → Option Int → Hp → VK → Prop := fun x lo hi H Q => ∃ r : List Bool, x = .str (T r) ∧ r.length ≤ 100000 ∧ Q (.str (T (cutL r lo hi))) H
def iStrT (te : TE) : TI := fun σ H R => te σ H fun v H1 => ∃ r : List Bool, v = .str (T r) ∧ R (Its (T r)) H1
def aIsi (K : PySem.W.Frag) (u : String) : List V → Hp → VK → Prop := fun xs H Q => ∃ (x c : V) (t : Value) (b : Bool), xs = [x, c] ∧ c = .ty u ∧ TyX K H x t ∧ PySem.W.kitOne K t (.type u) = some b ∧ Q (.bl b) H
section
variable {X : Cx}
theorem o_add : OpR X (binaryOp .Add) aAdd := op_add
theorem o_sub : OpR X (binaryOp .Sub) aSub := op_sub
theorem o_mul : OpR X (binaryOp .Mult) aMul := op_mul
theorem o_div : OpR X (binaryOp .FloorDiv) aDiv := op_fdiv
theorem o_mod : OpR X (binaryOp .Mod) aMod := op_mod
theorem o_pow : OpR X (binaryOp .Pow) aPow := op_pow
theorem o_shl : OpR X (binaryOp .LShift) aShl := op_shl
theorem o_shr : OpR X (binaryOp .RShift) aShr := op_shr
theorem o_and : OpR X (binaryOp .BitAnd) aAnd := op_and
theorem o_lt : OpR X (compareOp .Lt) aLt := op_lt
theorem o_le : OpR X (compareOp .LtE) aLe := op_le
theorem o_gt : OpR X (compareOp .Gt) aGt := op_gt
theorem o_ge : OpR X (compareOp .GtE) aGe := op_ge
theorem o_isN : OpR X (compareOp .Is) aIsN := op_isN
theorem o_notN : OpR X (compareOp .IsNot) aNotN := op_notN
theorem o_neg : UnR X (unaryOp .USub) aNeg := un_neg
theorem OpR.imp {f : Value → Value → Sem Value} {r r' : R2} (h : OpR X f r) (i : ∀ x y H Q, r' x y H Q → r x y H Q) : OpR X f r' := fun pins s σ H x y v u Q I rx ry q => h pins s σ H x y v u Q I rx ry (i x y H Q q)
theorem IxR.imp {r r' : R2} (h : IxR X r) (i : ∀ x y H Q, r' x y H Q → r x y H Q) : IxR X r' := fun a b pins s σ H x y v u Q I rx ry q => h a b pins s σ H x y v u Q I rx ry (i x y H Q q)
theorem CallR.imp {f : Value} {r r' : List V → Hp → VK → Prop} (h : CallR X f r) (i : ∀ x H Q, r' x H Q → r x H Q) : CallR X f r' := fun pins s σ H xs us Q I rx q => h pins s σ H xs us Q I rx (i xs H Q q)
theorem MtR.imp {id : String} {r r' : V → List V → Hp → VK → Prop} (h : MtR X id r) (i : ∀ x y H Q, r' x y H Q → r x y H Q) : MtR X id r' := fun pins s σ H x xs v us Q I rx ry q => h pins s σ H x xs v us Q I rx ry (i x xs H Q q)
theorem SlR.imp {r r' : V → Option Int → Option Int → Hp → VK → Prop} (h : SlR X r) (i : ∀ x lo hi H Q, r' x lo hi H Q → r x lo hi H Q) : SlR X r' := fun pins s σ H x v vl vu lo hi sl Q I rx hs pl pu q => h pins s σ H x v vl vu lo hi sl Q I rx hs pl pu (i x lo hi H Q q)
theorem o_catT : OpR X (binaryOp .Add) aCatT := OpR.imp op_add_str fun x y H Q ⟨r, u, e1, e2, hl, q⟩ => ⟨T r, T u, e1, e2, by rw [T_len, T_len]; exact sz_of hl, by rw [T_app]; exact q⟩
theorem x_T : IxR X aIxT := IxR.imp ix_str fun x y H Q ⟨r, i, b, e1, e2, hl, ha, q⟩ => ⟨T r, i, B b, e1, e2, by rw [T_len]; exact sz_of hl, by
  rw [T_list]
  unfold atI at ha ⊢
  rw [List.length_map]
  cases h : ixN r.length i with
  | none => rw [h] at ha; cases ha
  | some j =>
    rw [h] at ha
    show (r.map B)[j]? = _
    have ha' : r[j]? = some b := ha
    rw [List.getElem?_map, ha'] <;> rfl, q⟩
theorem o_inT : OpR X (compareOp .In) aInT := OpR.imp op_in_sign fun x y H Q ⟨b, r, e1, e2, q⟩ => ⟨B b, T r, e1, e2, by
  have e : decide (B b ∈ (T r).cps.toList) = decide (b ∈ r) := by
    rw [T_list]
    apply decide_eq_decide.mpr
    rw [List.mem_map]
    exact ⟨fun ⟨a, h, e⟩ => B_inj e ▸ h, fun h => ⟨b, h, rfl⟩⟩
  rw [e]
  exact q⟩
theorem c_len : CallR X (.builtin "len") (aLenL X.K) := call_len_seq
theorem c_lenT : CallR X (.builtin "len") aLenT := CallR.imp call_len_str fun xs H Q ⟨r, e, hl, q⟩ => ⟨T r, e, by rw [T_len]; exact sz_of hl, by rw [T_len]; exact q⟩
theorem c_abs : CallR X (.builtin "abs") aAbs := call_abs
theorem c_max2 (hc : X.calm = true) : CallR X (.builtin "max") aMax2 := call_max2 hc
theorem c_min2 (hc : X.calm = true) : CallR X (.builtin "min") aMin2 := call_min2 hc
theorem c_intB : CallR X (.type "int") aIntB := CallR.imp call_int1 fun xs H Q q => Or.inr q
theorem c_listOf : CallR X (.type "list") (aListOf X.K) := call_list_of
theorem c_all (hc : X.calm = true) : CallR X (.builtin "all") (aAll X.K) := cr_all hc
theorem c_any (hc : X.calm = true) : CallR X (.builtin "any") (aAny X.K) := cr_any hc
theorem T_join : ∀ rs : List (List Bool), Txt.join (T []) (rs.map T) = T rs.flatten := by
  intro rs
  rw [TL.join_eq]
  apply TL.ext_tl
  rw [TL.tl_join]
  show TL.joinL (T []).cps.toList ((rs.map T).map fun x => x.cps.toList) = (T rs.flatten).cps.toList
  rw [T_list, T_list]
  have e : ((rs.map T).map fun x => x.cps.toList) = rs.map fun r => r.map B := by
    rw [List.map_map]
    apply List.map_congr_left
    intro r _
    exact T_list r
  rw [e]
  clear e
  induction rs with
  | nil => rfl
  | cons r rs ih =>
    cases rs with
    | nil => simp [TL.joinL]
    | cons u rs =>
      rw [List.flatten_cons, List.map_append, ← ih]
      rfl
theorem m_join : MtR X "str.join" (aJoin X.K) := MtR.imp mt_join fun x xs H Q ⟨p, rs, e1, e2, h, hl, q⟩ => ⟨T [], p, rs.map T, e1, e2, Or.inl (by rw [List.map_map]; exact h), by
  rw [T_len, List.map_map]
  have e : (rs.map ((fun x => x.length) ∘ T)) = rs.map (·.length) := by
    apply List.map_congr_left
    intro r _
    exact T_len r
  rw [e]
  simp only [List.length_nil, Nat.mul_zero, Nat.add_zero]
  exact Nat.le_trans hl (by decide), by rw [T_join]; exact q⟩
theorem T_cut (r : List Bool) (lo hi : Option Int) : cutS (T r) lo hi = T (cutL r lo hi) := by
  unfold cutS cutL
  rw [T_list, T_len, ← List.map_drop, ← List.map_take]
  rfl
theorem s_T : SlR X aSlT := SlR.imp sl_str fun x lo hi H Q ⟨r, e, hl, q⟩ => ⟨T r, e, by rw [T_len]; exact sz_of hl, by rw [T_cut]; exact q⟩
theorem i_T {tg e : Expr} {te : TE} (he : PE X e te) (hm : ∀ σ H R R', te σ H R → (∀ v H', R v H' → R' v H') → te σ H R') : PI X tg e (iStrT te) :=
  ⟨fun pins s σ H R I h => (pi_str he).run pins s σ H R I (hm _ _ _ _ h fun v H' ⟨r, e, q⟩ => ⟨T r, e, q⟩)⟩
theorem c_isi (u : String) : CallR X (.builtin "isinstance") (aIsi X.K u) := CallR.imp call_isi fun xs H Q ⟨x, c, t, b, e, ec, ty, k, q⟩ => ⟨x, c, t, .type u, b, e, by rw [ec]; exact .ty u, ty, k, q⟩
end
end BM
namespace BM
open PySem L2 Evl
section
variable {K : PySem.W.Frag} {H0 : Hp} {σ : L2.St} {s : Ld} {ta tb te tl : TE} {t u : TT} {tr : TA} {x y z v : V} {r : R2} {Q : V → Ld → Prop} {D : Dl} {t1 t2 : TS} {g : TG} {i j : Int}
theorem w2_add (q : Q (.int (i + j)) s) : W2 H0 aAdd (.int i) (.int j) s Q := fun H o R k => ⟨i, j, rfl, rfl, k _ H s o q⟩
theorem w2_sub (q : Q (.int (i - j)) s) : W2 H0 aSub (.int i) (.int j) s Q := fun H o R k => ⟨i, j, rfl, rfl, k _ H s o q⟩
theorem w2_mul (h : CMul i j) (q : Q (.int (i * j)) s) : W2 H0 aMul (.int i) (.int j) s Q := fun H o R k => ⟨i, j, rfl, rfl, h, k _ H s o q⟩
theorem w2_div (h : 0 < j ∧ j < 1073741824) (q : Q (.int (i / j)) s) : W2 H0 aDiv (.int i) (.int j) s Q := fun H o R k => ⟨i, j, rfl, rfl, h, k _ H s o q⟩
theorem w2_mod (h : 0 < j) (q : Q (.int (i % j)) s) : W2 H0 aMod (.int i) (.int j) s Q := fun H o R k => ⟨i, j, rfl, rfl, h, k _ H s o q⟩
theorem w2_pow (h : CPow i j) (q : Q (.int (i ^ j.toNat)) s) : W2 H0 aPow (.int i) (.int j) s Q := fun H o R k => ⟨i, j, rfl, rfl, h, k _ H s o q⟩
theorem w2_shl (h : CPow i j) (q : Q (.int (i * 2 ^ j.toNat)) s) : W2 H0 aShl (.int i) (.int j) s Q := fun H o R k => ⟨i, j, rfl, rfl, h, k _ H s o q⟩
theorem w2_shr (h : 0 ≤ j) (q : Q (.int (i / 2 ^ j.toNat)) s) : W2 H0 aShr (.int i) (.int j) s Q := fun H o R k => ⟨i, j, rfl, rfl, h, k _ H s o q⟩
theorem w2_and (q : Q (.int (Builtin.bitAnd i j)) s) : W2 H0 aAnd (.int i) (.int j) s Q := fun H o R k => ⟨i, j, rfl, rfl, k _ H s o q⟩
theorem w2_lt (q : Q (.bl (decide (i < j))) s) : W2 H0 aLt (.int i) (.int j) s Q := fun H o R k => ⟨i, j, rfl, rfl, k _ H s o q⟩
theorem w2_le (q : Q (.bl (decide (i ≤ j))) s) : W2 H0 aLe (.int i) (.int j) s Q := fun H o R k => ⟨i, j, rfl, rfl, k _ H s o q⟩
theorem w2_gt (q : Q (.bl (decide (j < i))) s) : W2 H0 aGt (.int i) (.int j) s Q := fun H o R k => ⟨i, j, rfl, rfl, k _ H s o q⟩
theorem w2_ge (q : Q (.bl (decide (j ≤ i))) s) : W2 H0 aGe (.int i) (.int j) s Q := fun H o R k => ⟨i, j, rfl, rfl, k _ H s o q⟩
theorem w2_eqI (q : Q (.bl (decide (i = j))) s) : W2 H0 rEq (.int i) (.int j) s Q := fun H o R k => ⟨rfl, k _ H s o (by
  have e : decide (V.int i = V.int j) = decide (i = j) := decide_eq_decide.mpr ⟨fun h => V.int.inj h, fun h => by rw [h]⟩
  rw [e]; exact q)⟩
theorem w2_neI (q : Q (.bl (!decide (i = j))) s) : W2 H0 rNe (.int i) (.int j) s Q := fun H o R k => ⟨rfl, k _ H s o (by
  have e : decide (V.int i = V.int j) = decide (i = j) := decide_eq_decide.mpr ⟨fun h => V.int.inj h, fun h => by rw [h]⟩
  rw [e]; exact q)⟩
theorem w2_eqB {a b : Bool} (q : Q (.bl (decide (a = b))) s) : W2 H0 rEq (.bl a) (.bl b) s Q := fun H o R k => ⟨rfl, k _ H s o (by
  have e : decide (V.bl a = V.bl b) = decide (a = b) := decide_eq_decide.mpr ⟨fun h => V.bl.inj h, fun h => by rw [h]⟩
  rw [e]; exact q)⟩
theorem w2_neB {a b : Bool} (q : Q (.bl (!decide (a = b))) s) : W2 H0 rNe (.bl a) (.bl b) s Q := fun H o R k => ⟨rfl, k _ H s o (by
  have e : decide (V.bl a = V.bl b) = decide (a = b) := decide_eq_decide.mpr ⟨fun h => V.bl.inj h, fun h => by rw [h]⟩
  rw [e]; exact q)⟩
theorem w2_eqT {a b : List Bool} (q : Q (.bl (decide (a = b))) s) : W2 H0 rEq (.str (T a)) (.str (T b)) s Q := fun H o R k => ⟨rfl, k _ H s o (by
  have e : decide (V.str (T a) = V.str (T b)) = decide (a = b) := decide_eq_decide.mpr tV_eq
  rw [e]; exact q)⟩
theorem w2_neT {a b : List Bool} (q : Q (.bl (!decide (a = b))) s) : W2 H0 rNe (.str (T a)) (.str (T b)) s Q := fun H o R k => ⟨rfl, k _ H s o (by
  have e : decide (V.str (T a) = V.str (T b)) = decide (a = b) := decide_eq_decide.mpr tV_eq
  rw [e]; exact q)⟩
/-- None beside a text -/
theorem w2_neN {a : Str} (q : Q (.bl true) s) : W2 H0 rNe (.str a) .non s Q := fun H o R k => ⟨rfl, k _ H s o q⟩
theorem w2_isN (q : Q (.bl (decide (x = .non))) s) : W2 H0 aIsN x .non s Q := fun H o R k => ⟨rfl, k _ H s o q⟩
theorem w2_notN (q : Q (.bl (!decide (x = .non))) s) : W2 H0 aNotN x .non s Q := fun H o R k => ⟨rfl, k _ H s o q⟩
theorem w2_isB {a b : Bool} (q : Q (.bl (decide (a = b))) s) : W2 H0 aIsB (.bl a) (.bl b) s Q := fun H o R k => ⟨a, b, rfl, rfl, k _ H s o q⟩
theorem w2_catT {a b : List Bool} (h : a.length + b.length ≤ 100000) (q : Q (.str (T (a ++ b))) s) : W2 H0 aCatT (.str (T a)) (.str (T b)) s Q := fun H o R k => ⟨a, b, rfl, rfl, h, k _ H s o q⟩
theorem w2_ixT {a : List Bool} {b : Bool} (hl : a.length ≤ 100000) (h : atI a i = some b) (q : Q (.str (T [b])) s) : W2 H0 aIxT (.str (T a)) (.int i) s Q := fun H o R k => ⟨a, i, b, rfl, rfl, hl, h, k _ H s o q⟩
theorem w2_inT {a : List Bool} {b : Bool} (q : Q (.bl (decide (b ∈ a))) s) : W2 H0 aInT (.str (T [b])) (.str (T a)) s Q := fun H o R k => ⟨b, a, rfl, rfl, k _ H s o q⟩
theorem w2_ixL {p : Addr} {xs : List V} (hx : IsL K H0 s p xs) (h : atI xs i = some v) (q : Q v s) : W2 H0 (rIxL K) (.ref p) (.int i) s Q := fun H o R k => ⟨p, xs, i, v, rfl, rfl, hx H o, h, k _ H s o q⟩
theorem w2_ixU {p : Addr} {xs : List V} (hx : IsT K H0 s p xs) (h : atI xs i = some v) (q : Q v s) : W2 H0 (rIxT K) (.ref p) (.int i) s Q := fun H o R k => ⟨p, xs, i, v, rfl, rfl, hx H o, h, k _ H s o q⟩
theorem w2_inL {p : Addr} {xs : List V} (hx : IsL K H0 s p xs) (h1 : flatV x = true) (h2 : xs.all flatV = true) (q : Q (.bl (inV x xs)) s) : W2 H0 (rIn K false) x (.ref p) s Q := fun H o R k => ⟨p, xs, rfl, Or.inl (hx H o), h1, h2, k _ H s o q⟩
theorem w2_inU {p : Addr} {xs : List V} (hx : IsT K H0 s p xs) (h1 : flatV x = true) (h2 : xs.all flatV = true) (q : Q (.bl (inV x xs)) s) : W2 H0 (rIn K false) x (.ref p) s Q := fun H o R k => ⟨p, xs, rfl, Or.inr (hx H o), h1, h2, k _ H s o q⟩
theorem w2_notInL {p : Addr} {xs : List V} (hx : IsL K H0 s p xs) (h1 : flatV x = true) (h2 : xs.all flatV = true) (q : Q (.bl (!inV x xs)) s) : W2 H0 (rIn K true) x (.ref p) s Q := fun H o R k => ⟨p, xs, rfl, Or.inl (hx H o), h1, h2, k _ H s o q⟩
theorem w1_neg (q : Q (.int (-i)) s) : W1 H0 aNeg (.int i) s Q := fun H o R k => ⟨i, rfl, k _ H s o q⟩
/-! calls of built-ins -/
theorem wl_len {p : Addr} {xs : List V} (hx : IsL K H0 s p xs) (q : Q (.int (xs.length : Int)) s) : WL H0 (aLenL K) [.ref p] s Q := fun H o R k => ⟨p, xs, rfl, Or.inl (hx H o), k _ H s o q⟩
theorem wl_lenU {p : Addr} {xs : List V} (hx : IsT K H0 s p xs) (q : Q (.int (xs.length : Int)) s) : WL H0 (aLenL K) [.ref p] s Q := fun H o R k => ⟨p, xs, rfl, Or.inr (hx H o), k _ H s o q⟩
theorem wl_lenT {a : List Bool} (hl : a.length ≤ 100000) (q : Q (.int (a.length : Int)) s) : WL H0 aLenT [.str (T a)] s Q := fun H o R k => ⟨a, rfl, hl, k _ H s o q⟩
theorem wl_abs (q : Q (.int (if i < 0 then -i else i)) s) : WL H0 aAbs [.int i] s Q := fun H o R k => ⟨i, rfl, k _ H s o q⟩
theorem wl_max2 (q : Q (.int (if j > i then j else i)) s) : WL H0 aMax2 [.int i, .int j] s Q := fun H o R k => ⟨i, j, rfl, k _ H s o q⟩
theorem wl_min2 (q : Q (.int (if j < i then j else i)) s) : WL H0 aMin2 [.int i, .int j] s Q := fun H o R k => ⟨i, j, rfl, k _ H s o q⟩
theorem wl_intB {b : Bool} (q : Q (.int (if b then 1 else 0)) s) : WL H0 aIntB [.bl b] s Q := fun H o R k => ⟨b, rfl, k _ H s o q⟩
theorem wl_listOf {p : Addr} {xs : List V} (hx : IsL K H0 s p xs) (q : ∀ l, H0 l = none → Q (.ref l) ⟨(l, .lst xs) :: s.L, s.T⟩) : WL H0 (aListOf K) [.ref p] s Q := fun H o R k => ⟨p, xs, rfl, Or.inl (hx H o), fun l hl => k _ _ _ (o.new hl) (q l (fresh_back o.ex hl))⟩
theorem wl_all {p : Addr} {bs : List Bool} (hx : IsL K H0 s p (bs.map V.bl)) (q : Q (.bl (bs.all id)) s) : WL H0 (aAll K) [.ref p] s Q := fun H o R k => ⟨p, bs, rfl, hx H o, k _ H s o q⟩
theorem wl_any {p : Addr} {bs : List Bool} (hx : IsL K H0 s p (bs.map V.bl)) (q : Q (.bl (bs.any id)) s) : WL H0 (aAny K) [.ref p] s Q := fun H o R k => ⟨p, bs, rfl, hx H o, k _ H s o q⟩
theorem wl_sum {p : Addr} {ns : List Int} (hx : IsL K H0 s p (ns.map V.int)) (q : Q (.int ns.sum) s) : WL H0 (rSum K) [.ref p] s Q := fun H o R k => ⟨p, ns, rfl, hx H o, k _ H s o q⟩
theorem wl_max {p : Addr} {ns : List Int} (hx : IsL K H0 s p (ns.map V.int)) (hn : 0 < ns.length) (q : ∀ m, m ∈ ns → (∀ y, y ∈ ns → y ≤ m) → Q (.int m) s) : WL H0 (rMax K) [.ref p] s Q := fun H o R k => ⟨p, ns, rfl, hx H o, hn, fun m h1 h2 => k _ H s o (q m h1 h2)⟩
theorem wl_min {p : Addr} {ns : List Int} (hx : IsL K H0 s p (ns.map V.int)) (hn : 0 < ns.length) (q : ∀ m, m ∈ ns → (∀ y, y ∈ ns → m ≤ y) → Q (.int m) s) : WL H0 (rMin K) [.ref p] s Q := fun H o R k => ⟨p, ns, rfl, hx H o, hn, fun m h1 h2 => k _ H s o (q m h1 h2)⟩
theorem wl_isi {c : String} {tv : Value} {b : Bool} (ty : ∀ H, Own H0 H s → TyX K H x tv) (hk : PySem.W.kitOne K tv (.type c) = some b) (q : Q (.bl b) s) : WL H0 (aIsi K c) [x, .ty c] s Q := fun H o R k => ⟨x, .ty c, tv, b, rfl, rfl, ty H o, hk, k _ H s o q⟩
/-! methods -/
theorem we_bm {T : String} {r : V → List V → Hp → VK → Prop} {to : TE} (h : WE H0 to σ s fun x s1 => (∀ H, Own H0 H s1 → tyV K T x H) ∧ WA H0 tr σ s1 fun xs s2 => WM H0 r x xs s2 Q) : WE H0 (tBM K T r to tr) σ s Q := fun H o R k =>
  h H o _ fun x H1 s1 o1 ⟨ty, h1⟩ => ⟨ty H1 o1, h1 H1 o1 _ fun xs H2 s2 o2 h2 => h2 H2 o2 R k⟩
theorem we_bm0 {T : String} {r : V → List V → Hp → VK → Prop} {to : TE} (h : WE H0 to σ s fun x s1 => (∀ H, Own H0 H s1 → tyV K T x H) ∧ WM H0 r x [] s1 Q) : WE H0 (tBM0 K T r to) σ s Q := fun H o R k =>
  h H o _ fun x H1 s1 o1 ⟨ty, h1⟩ => ⟨ty H1 o1, h1 H1 o1 R k⟩
theorem ty_L {p : Addr} {xs : List V} (hx : IsL K H0 s p xs) : ∀ H, Own H0 H s → tyV K "list" (.ref p) H := fun H o => Or.inl ⟨rfl, xs, hx H o⟩
theorem ty_S {a : Str} : ∀ H, Own H0 H s → tyV K "str" (.str a) H := fun H o => rfl
theorem wm_append {p : Addr} {xs : List V} {L' : List (Addr × HO)} (sw : Swap p (.lst xs) (.lst (xs ++ [v])) s.L L') (hl : xs.length < 100000) (q : Q .non ⟨L', s.T⟩) : WM H0 rAppend (.ref p) [v] s Q := fun H o R k =>
  ⟨p, xs, v, rfl, rfl, (o.own _ sw.mem).2, sz_lt hl, k _ _ _ (o.swap sw trivial) q⟩
theorem wm_extend {p b : Addr} {xs zs : List V} {L' : List (Addr × HO)} (sw : Swap p (.lst xs) (.lst (xs ++ zs)) s.L L') (hb : (b, HO.lst zs) ∈ s.L) (hl : xs.length + zs.length ≤ 100000) (q : Q .non ⟨L', s.T⟩) : WM H0 rExtend (.ref p) [.ref b] s Q := fun H o R k =>
  ⟨p, b, xs, zs, rfl, rfl, (o.own _ sw.mem).2, (o.own _ hb).2, sz_of hl, k _ _ _ (o.swap sw trivial) q⟩
theorem wm_pop {p : Addr} {xs : List V} {L' : List (Addr × HO)} (sw : Swap p (.lst xs) (.lst xs.dropLast) s.L L') (hy : xs[xs.length - 1]? = some y) (q : Q y ⟨L', s.T⟩) : WM H0 rPop (.ref p) [] s Q := fun H o R k =>
  ⟨p, xs, y, rfl, rfl, (o.own _ sw.mem).2, hy, k _ _ _ (o.swap sw trivial) q⟩
theorem wm_reverse {p : Addr} {xs : List V} {L' : List (Addr × HO)} (sw : Swap p (.lst xs) (.lst xs.reverse) s.L L') (q : Q .non ⟨L', s.T⟩) : WM H0 rReverse (.ref p) [] s Q := fun H o R k =>
  ⟨p, xs, rfl, rfl, (o.own _ sw.mem).2, k _ _ _ (o.swap sw trivial) q⟩
theorem wm_clear {p : Addr} {xs : List V} {L' : List (Addr × HO)} (sw : Swap p (.lst xs) (.lst []) s.L L') (q : Q .non ⟨L', s.T⟩) : WM H0 rClear (.ref p) [] s Q := fun H o R k =>
  ⟨p, xs, rfl, rfl, (o.own _ sw.mem).2, k _ _ _ (o.swap sw trivial) q⟩
theorem wm_join {p : Addr} {rs : List (List Bool)} (hx : IsL K H0 s p (rs.map fun r => .str (T r))) (hl : (rs.map (·.length)).sum ≤ 100000) (q : Q (.str (T rs.flatten)) s) : WM H0 (aJoin K) (.str (T [])) [.ref p] s Q := fun H o R k =>
  ⟨p, rs, rfl, rfl, hx H o, hl, k _ H s o q⟩
theorem wset_list {p : Addr} {xs : List V} {j : Nat} {L' : List (Addr × HO)} {Q : Ld → Prop} (hj : ixN xs.length i = some j) (sw : Swap p (.lst xs) (.lst (xs.set j v)) s.L L') (q : Q ⟨L', s.T⟩) : WSet H0 rSetL (.ref p) (.int i) v s Q := fun H o R k =>
  ⟨p, xs, i, j, rfl, rfl, (o.own _ sw.mem).2, hj, k _ _ (o.swap sw trivial) q⟩
/-! slices, lists joined -/
theorem wsl_T {a : List Bool} {lo hi : Option Int} (hl : a.length ≤ 100000) (q : Q (.str (T (cutL a lo hi))) s) : WSl H0 aSlT (.str (T a)) lo hi s Q := fun H o R k => ⟨a, rfl, hl, k _ H s o q⟩
theorem wsl_L {p : Addr} {xs : List V} {lo hi : Option Int} (hx : IsL K H0 s p xs) (q : ∀ l, H0 l = none → Q (.ref l) ⟨(l, .lst (cutL xs lo hi)) :: s.L, s.T⟩) : WSl H0 (rSlL K) (.ref p) lo hi s Q := fun H o R k => ⟨p, xs, rfl, hx H o, fun l hl => k _ _ _ (o.new hl) (q l (fresh_back o.ex hl))⟩
theorem w2_cat {p b : Addr} {xs zs : List V} (hp : (p, HO.lst xs) ∈ s.L) (hb : (b, HO.lst zs) ∈ s.L) (hl : xs.length + zs.length ≤ 100000) (q : ∀ l, H0 l = none → Q (.ref l) ⟨(l, .lst (xs ++ zs)) :: s.L, s.T⟩) : W2 H0 rCat (.ref p) (.ref b) s Q := fun H o R k =>
  ⟨p, b, xs, zs, rfl, rfl, (o.own _ hp).2, (o.own _ hb).2, sz_of hl, fun l hl => k _ _ _ (o.new hl) (q l (fresh_back o.ex hl))⟩
theorem w2_rep {p : Addr} {xs : List V} (hp : (p, HO.lst xs) ∈ s.L) (h1 : -(2 ^ 63) ≤ j ∧ j < 2 ^ 63) (hl : xs.length * j.toNat ≤ 100000) (q : ∀ l, H0 l = none → Q (.ref l) ⟨(l, .lst (List.replicate j.toNat xs).flatten) :: s.L, s.T⟩) : W2 H0 rRep (.ref p) (.int j) s Q := fun H o R k =>
  ⟨p, j, xs, rfl, rfl, (o.own _ hp).2, h1.1, h1.2, sz_of hl, fun l hl => k _ _ _ (o.new hl) (q l (fresh_back o.ex hl))⟩
/-! ### own defs: promises of two shapes -/
def spV (R : List V → Hp → V → Prop) : Sp := fun vs H Q _ => ∃ v, R vs H v ∧ ∀ H', Ex H H' → Q v H'
def spL (R : List V → Hp → List V → Prop) : Sp := fun vs H Q _ => ∃ xs, R vs H xs ∧ ∀ p H', H p = none → Ex H H' → H' p = some (.lst xs) → Q (.ref p) H'
theorem wc_V {R : List V → Hp → V → Prop} {E : XK} {vs : List V} (h : ∀ H, Own H0 H s → R vs H v) (q : Q v s) : WC H0 (spV R) E vs s Q := fun H o R' k => ⟨v, h H o, fun H' e => k _ _ _ (o.ext e) q⟩
theorem wc_L {R : List V → Hp → List V → Prop} {E : XK} {vs xs : List V} (h : ∀ H, Own H0 H s → R vs H xs) (q : ∀ p, H0 p = none → Q (.ref p) ⟨(p, .lst xs) :: s.L, s.T⟩) : WC H0 (spL R) E vs s Q := fun H o R' k =>
  ⟨xs, h H o, fun p H' hp e hx => k _ _ _ (o.newE hp e hx) (q p (fresh_back o.ex hp))⟩
/-! ### a def's body -/
def retV (v : V) : Dl := { nx := fun _ _ => v = .non, rt := fun u _ => u = v }
def retL (xs : List V) : Dl := { nx := fun _ _ => False, rt := fun u s => ∃ p, u = .ref p ∧ (p, HO.lst xs) ∈ s.L }
theorem body_V {H : Hp} {t : TS} {N : List Str} {vs : List V} {Q : VK} (h : WS H t (start N vs) ⟨[], []⟩ (retV v)) (k : ∀ H', Ex H H' → Q v H') : t { nx := fun _ H' => Q .non H', rt := Q } (start N vs) H :=
  h H (Own.start H) _ ⟨fun σ H' s o e => by
    have e' : v = .non := e
    rw [← e']
    exact k H' o.ex, fun u H' s o e => by
    have e' : u = v := e
    rw [e']
    exact k H' o.ex, (fun _ _ _ _ q => q.elim), (fun _ _ _ _ q => q.elim)⟩
theorem body_L {H : Hp} {t : TS} {N : List Str} {vs xs : List V} {Q : VK} (h : WS H t (start N vs) ⟨[], []⟩ (retL xs)) (k : ∀ p H', H p = none → Ex H H' → H' p = some (.lst xs) → Q (.ref p) H') : t { nx := fun _ H' => Q .non H', rt := Q } (start N vs) H :=
  h H (Own.start H) _ ⟨(fun _ _ _ _ q => q.elim), fun u H' s o ⟨p, e, m⟩ => by
    rw [e]
    exact k p H' (o.own _ m).1 o.ex (o.own _ m).2, (fun _ _ _ _ q => q.elim), (fun _ _ _ _ q => q.elim)⟩
/-! ### what is walked -/
theorem wi_list {R : It → Ld → Prop} (h : WE H0 tl σ s fun x s1 => ∃ a, x = .ref a ∧ (∃ xs, IsL K H0 s1 a xs) ∧ R (Itl K a) s1) : WI H0 (iList K tl) σ s R := fun H o R' k =>
  h H o _ fun x H1 s1 o1 ⟨a, e, ⟨xs, hx⟩, q⟩ => ⟨a, e, ⟨xs, hx H1 o1⟩, k _ H1 s1 o1 q⟩
theorem wi_tup {R : It → Ld → Prop} (h : WE H0 tl σ s fun x s1 => ∃ a, x = .ref a ∧ (∃ xs, IsT K H0 s1 a xs) ∧ R (Itt K a) s1) : WI H0 (iTup K tl) σ s R := fun H o R' k =>
  h H o _ fun x H1 s1 o1 ⟨a, e, ⟨xs, hx⟩, q⟩ => ⟨a, e, ⟨xs, hx H1 o1⟩, k _ H1 s1 o1 q⟩
theorem wi_T {R : It → Ld → Prop} (h : WE H0 te σ s fun x s1 => ∃ r, x = .str (T r) ∧ R (Its (T r)) s1) : WI H0 (iStr te) σ s R := fun H o R' k =>
  h H o _ fun x H1 s1 o1 ⟨r, e, q⟩ => ⟨T r, e, k _ H1 s1 o1 q⟩
theorem we_call0 {sp : Sp} {E : XK} {ta : TA} (h : WA H0 ta σ s fun xs s1 => WC H0 sp E xs s1 Q) : WE H0 (tCall sp [] E ta) σ s Q := fun H o R k =>
  h H o _ fun xs H1 s1 o1 h1 => by
    show sp (xs ++ []) H1 R E
    rw [List.append_nil]
    exact h1 H1 o1 R k
theorem wi_rng1 {R : It → Ld → Prop} (h : WA H0 tr σ s fun xs s1 => ∃ n : Int, xs = [.int n] ∧ (n ≤ 1000000 ∧ -1000000 ≤ n) ∧ R (Itr 0 n.toNat) s1) : WI H0 (iRng1 tr) σ s R := fun H o R' k =>
  h H o _ fun x H1 s1 o1 ⟨n, e, h1, q⟩ => ⟨n, e, by omega, by omega, k _ H1 s1 o1 q⟩
theorem wi_rng2 {R : It → Ld → Prop} (h : WA H0 tr σ s fun xs s1 => ∃ m n : Int, xs = [.int m, .int n] ∧ (n ≤ 1000000 ∧ -1000000 ≤ n ∧ m ≤ 1000000 ∧ -1000000 ≤ m) ∧ R (Itr m (n - m).toNat) s1) : WI H0 (iRng2 tr) σ s R := fun H o R' k =>
  h H o _ fun x H1 s1 o1 ⟨m, n, e, h1, q⟩ => ⟨m, n, e, by omega, k _ H1 s1 o1 q⟩
theorem wi_rng3 {R : It → Ld → Prop} (h : WA H0 tr σ s fun xs s1 => ∃ (i j c : Int) (n : Nat), xs = [.int i, .int j, .int c] ∧ RgC i j c n ∧ R (Itc i c n) s1) : WI H0 (iRng3 tr) σ s R := fun H o R' k =>
  h H o _ fun x H1 s1 o1 ⟨i, j, c, n, e, h1, q⟩ => ⟨i, j, c, n, e, h1, k _ H1 s1 o1 q⟩
theorem wi_enum {R : It → Ld → Prop} (h : WA H0 tr σ s fun xs s1 => ∃ a ys, xs = [.ref a] ∧ IsL K H0 s1 a ys ∧ R (Ite K a) s1) : WI H0 (iEnum K tr) σ s R := fun H o R' k =>
  h H o _ fun x H1 s1 o1 ⟨a, ys, e, h1, q⟩ => ⟨a, ys, e, h1 H1 o1, k _ H1 s1 o1 q⟩
theorem wi_zip {R : It → Ld → Prop} (h : WA H0 tr σ s fun xs s1 => ∃ a b ys zs, xs = [.ref a, .ref b] ∧ IsL K H0 s1 a ys ∧ IsL K H0 s1 b zs ∧ R (Itz K a b) s1) : WI H0 (iZip K tr) σ s R := fun H o R' k =>
  h H o _ fun x H1 s1 o1 ⟨a, b, ys, zs, e, h1, h2, q⟩ => ⟨a, b, ys, zs, e, h1 H1 o1, h2 H1 o1, k _ H1 s1 o1 q⟩
theorem T_at {r : List Bool} {i c : Nat} (h : (T r).cps[i]? = some c) : ∃ b, r[i]? = some b ∧ c = B b := by
  have hc' : (T r).cps.toList[i]? = some c := by rw [Array.getElem?_toList]; exact h
  rw [T_list, List.getElem?_map] at hc'
  cases h : r[i]? with
  | none => rw [h] at hc'; cases hc'
  | some b =>
    rw [h] at hc'
    exact ⟨b, rfl, (Option.some.inj hc').symm⟩
/-- the loop's part, for each thing walked: what it gives and what stays -/
theorem lp_list {a : Addr} {xs : List V} {n : Nat} (I : Nat → L2.St → Ld → Prop) (hn : xs.length = n) (h0 : I 0 σ s) (hI : ∀ i σ s, i ≤ n → I i σ s → IsL K H0 s a xs)
    (hs : ∀ i x σ s, i < n → xs[i]? = some x → I i σ s → WG H0 g x σ s fun σ2 s2 => WS H0 t1 σ2 s2 (turnD D (I (i + 1)))) (hd : ∀ σ s, I n σ s → D.nx σ s) : LoopOk H0 (Itl K a) g t1 σ s D := by
  subst hn
  exact ⟨xs.length, _, _, walk_list (xs := xs), I, h0, fun i σ s H hi q o => hI i σ s hi q H o, fun i x σ s H H' hi q o ⟨e, hx⟩ => ⟨s, by rw [e]; exact o, hs i x σ s hi hx q⟩, hd⟩
theorem lp_tup {a : Addr} {xs : List V} {n : Nat} (I : Nat → L2.St → Ld → Prop) (hn : xs.length = n) (h0 : I 0 σ s) (hI : ∀ i σ s, i ≤ n → I i σ s → IsT K H0 s a xs)
    (hs : ∀ i x σ s, i < n → xs[i]? = some x → I i σ s → WG H0 g x σ s fun σ2 s2 => WS H0 t1 σ2 s2 (turnD D (I (i + 1)))) (hd : ∀ σ s, I n σ s → D.nx σ s) : LoopOk H0 (Itt K a) g t1 σ s D := by
  subst hn
  exact ⟨xs.length, _, _, walk_tup (xs := xs), I, h0, fun i σ s H hi q o => hI i σ s hi q H o, fun i x σ s H H' hi q o ⟨e, hx⟩ => ⟨s, by rw [e]; exact o, hs i x σ s hi hx q⟩, hd⟩
theorem lp_T {r : List Bool} {n : Nat} (I : Nat → L2.St → Ld → Prop) (hn : r.length = n) (h0 : I 0 σ s)
    (hs : ∀ i b σ s, i < n → r[i]? = some b → I i σ s → WG H0 g (.str (T [b])) σ s fun σ2 s2 => WS H0 t1 σ2 s2 (turnD D (I (i + 1)))) (hd : ∀ σ s, I n σ s → D.nx σ s) : LoopOk H0 (Its (T r)) g t1 σ s D := by
  have e : (T r).cps.size = n := by rw [← hn]; exact T_len r
  subst e
  refine ⟨_, _, _, walk_str (z := T r), I, h0, fun i σ s H hi q o => trivial, fun i x σ s H H' hi q o ⟨e, c, hc, ex⟩ => ⟨s, by rw [e]; exact o, ?_⟩, hd⟩
  obtain ⟨b, h, rfl⟩ := T_at hc
  rw [ex]
  exact hs i b σ s hi h q
theorem lp_rng {lo : Int} {m : Nat} (I : Nat → L2.St → Ld → Prop) (h0 : I 0 σ s)
    (hs : ∀ i σ s, i < m → I i σ s → WG H0 g (.int (lo + (i : Int))) σ s fun σ2 s2 => WS H0 t1 σ2 s2 (turnD D (I (i + 1)))) (hd : ∀ σ s, I m σ s → D.nx σ s) : LoopOk H0 (Itr lo m) g t1 σ s D :=
  ⟨m, _, _, walk_range, I, h0, fun i σ s H hi q o => trivial, fun i x σ s H H' hi q o ⟨e, ex⟩ => ⟨s, by rw [e]; exact o, by rw [ex]; exact hs i σ s hi q⟩, hd⟩
theorem lp_enum {a : Addr} {xs : List V} {n : Nat} (I : Nat → L2.St → Ld → Prop) (hn : xs.length = n) (h0 : I 0 σ s) (hI : ∀ i σ s, i ≤ n → I i σ s → IsL K H0 s a xs)
    (hs : ∀ i x σ s p, i < n → xs[i]? = some x → I i σ s → WG H0 g (.ref p) σ ⟨s.L, (p, [.int (i : Int), x]) :: s.T⟩ fun σ2 s2 => WS H0 t1 σ2 s2 (turnD D (I (i + 1)))) (hd : ∀ σ s, I n σ s → D.nx σ s) : LoopOk H0 (Ite K a) g t1 σ s D := by
  subst hn
  exact ⟨xs.length, _, _, walk_enum (xs := xs), I, h0, fun i σ s H hi q o => hI i σ s hi q H o, fun i v σ s H H' hi q o ⟨p, x, y, ev, hp, e, hx, hy⟩ => ⟨⟨s.L, (p, [.int (i : Int), y]) :: s.T⟩, by
    have ex : V.int (i : Nat) = x := Option.some.inj hx
    rw [e, ← ex]
    exact o.newT hp, by rw [ev]; exact hs i y σ s p hi hy q⟩, hd⟩
theorem lp_zip {a b : Addr} {xs ys : List V} {n : Nat} (I : Nat → L2.St → Ld → Prop) (hn : n = min xs.length ys.length) (h0 : I 0 σ s) (hI : ∀ i σ s, i ≤ n → I i σ s → IsL K H0 s a xs ∧ IsL K H0 s b ys)
    (hs : ∀ i x y σ s p, i < n → xs[i]? = some x → ys[i]? = some y → I i σ s → WG H0 g (.ref p) σ ⟨s.L, (p, [x, y]) :: s.T⟩ fun σ2 s2 => WS H0 t1 σ2 s2 (turnD D (I (i + 1)))) (hd : ∀ σ s, I n σ s → D.nx σ s) : LoopOk H0 (Itz K a b) g t1 σ s D := by
  exact ⟨n, _, _, walk_zip (xs := xs) (ys := ys) hn, I, h0, fun i σ s H hi q o => ⟨(hI i σ s hi q).1 H o, (hI i σ s hi q).2 H o⟩, fun i v σ s H H' hi q o ⟨p, x, y, ev, hp, e, hx, hy⟩ => ⟨⟨s.L, (p, [x, y]) :: s.T⟩, by
    rw [e]
    exact o.newT hp, by rw [ev]; exact hs i x y σ s p hi hx hy q⟩, hd⟩
/-! comprehensions: F i is the list behind i items -/
def eltQ (i : Nat) (F : Nat → List V) (s : Ld) (D : Addr) (Dt : Addr → Ld) : Prop := True
theorem cp_core {J : It} {n : Nat} {G : Hp → Prop} {Y : Nat → Hp → V → Hp → Prop} {tt : TT} {vs : List Nat} (w : Walk J n G Y) (hn : n ≤ 90000) (F : Nat → List V) (hF0 : F 0 = []) (hFl : ∀ i, i ≤ n → (F i).length ≤ i)
    (hG : ∀ D x H, Own H0 H ⟨(D, .lst x) :: s.L, s.T⟩ → G H)
    (hs : ∀ D i x H H', i < n → Own H0 H ⟨(D, .lst (F i)) :: s.L, s.T⟩ → Y i H x H' → ∃ s', Own H0 H' s' ∧ WG H0 g x (wipe σ vs) s' fun σ2 s2 => wipe σ2 vs = wipe σ vs ∧ WT H0 tt σ2 s2 fun b s3 =>
      (b = true → WE H0 te σ2 s3 fun y s4 => Sub ⟨(D, .lst (F i)) :: s.L, s.T⟩ s4 ∧ F (i + 1) = F i ++ [y]) ∧ (b = false → Sub ⟨(D, .lst (F i)) :: s.L, s.T⟩ s3 ∧ F (i + 1) = F i)) (hq : ∀ D, H0 D = none → Q (.ref D) ⟨(D, .lst (F n)) :: s.L, s.T⟩) : CompOk H0 J g tt te σ vs s Q := by
  refine ⟨n, G, Y, w, fun D hD => ⟨fun i s' => s' = ⟨(D, .lst (F i)) :: s.L, s.T⟩, (by show (⟨(D, .lst []) :: s.L, s.T⟩ : Ld) = ⟨(D, .lst (F 0)) :: s.L, s.T⟩; rw [hF0]), fun i s' H hi e o => ?_, fun i x s' H H' hi e o y => ?_, fun s' e => by rw [e]; exact hq D hD⟩⟩
  · rw [e] at o
    exact hG D _ H o
  · rw [e] at o
    obtain ⟨s2, o2, h2⟩ := hs D i x H H' hi o y
    refine ⟨s2, o2, fun H3 o3 R k => h2 H3 o3 R fun σ3 H4 s4 o4 h4 => k _ H4 s4 o4 ⟨h4.1, fun H5 o5 R5 k5 => h4.2 H5 o5 R5 fun b H6 s6 o6 h6 => k5 b H6 s6 o6 ⟨fun hb => ?_, fun hb => ?_⟩⟩⟩
    · refine fun H7 o7 R7 k7 => h6.1 hb H7 o7 R7 fun y H8 s8 o8 h8 => k7 y H8 s8 o8 ?_
      obtain ⟨hsub, he⟩ := h8
      obtain ⟨L8, sw, hs8⟩ : ∃ L', Swap D (.lst (F i)) (.lst (F i ++ [y])) s8.L L' ∧ List.Sublist ((D, HO.lst (F i ++ [y])) :: s.L) L' := by
        have aux : ∀ (L M : List (Addr × HO)), List.Sublist ((D, HO.lst (F i)) :: L) M → ∃ L', Swap D (.lst (F i)) (.lst (F i ++ [y])) M L' ∧ List.Sublist ((D, HO.lst (F i ++ [y])) :: L) L' := by
          intro L M h
          generalize hx : ((D, HO.lst (F i)) :: L) = X at h
          induction h with
          | slnil => cases hx
          | cons a h ih =>
            obtain ⟨L', h1, h2⟩ := ih hx
            exact ⟨_, .there h1, .cons _ h2⟩
          | cons_cons a h ih =>
            cases hx
            exact ⟨_, .here, .cons_cons _ h⟩
        exact aux s.L s8.L hsub.l
      exact ⟨F i, L8, ⟨(D, .lst (F (i + 1))) :: s.L, s.T⟩, sw, Nat.lt_of_le_of_lt (hFl i (Nat.le_of_lt hi)) (by omega), ⟨by rw [he]; exact hs8, hsub.t⟩, rfl⟩
    · obtain ⟨hsub, he⟩ := h6.2 hb
      exact ⟨_, hsub, (by show (⟨(D, .lst (F i)) :: s.L, s.T⟩ : Ld) = ⟨(D, .lst (F (i + 1))) :: s.L, s.T⟩; rw [he])⟩
theorem cp_list {a : Addr} {xs : List V} {tt : TT} {vs : List Nat} (F : Nat → List V) (hx : IsL K H0 s a xs) (hn : xs.length ≤ 90000) (hF0 : F 0 = []) (hFl : ∀ i, i ≤ xs.length → (F i).length ≤ i)
    (hs : ∀ D i x, i < xs.length → xs[i]? = some x → WG H0 g x (wipe σ vs) ⟨(D, .lst (F i)) :: s.L, s.T⟩ fun σ2 s2 => wipe σ2 vs = wipe σ vs ∧ WT H0 tt σ2 s2 fun b s3 =>
      (b = true → WE H0 te σ2 s3 fun y s4 => Sub ⟨(D, .lst (F i)) :: s.L, s.T⟩ s4 ∧ F (i + 1) = F i ++ [y]) ∧ (b = false → Sub ⟨(D, .lst (F i)) :: s.L, s.T⟩ s3 ∧ F (i + 1) = F i)) (hq : ∀ D, H0 D = none → Q (.ref D) ⟨(D, .lst (F xs.length)) :: s.L, s.T⟩) : CompOk H0 (Itl K a) g tt te σ vs s Q :=
  cp_core (walk_list (xs := xs)) hn F hF0 hFl (fun D x H o => hx H (o.dropL (.cons _ (.refl _)) fun _ h => h)) (fun D i x H H' hi o ⟨e, h⟩ => ⟨⟨(D, .lst (F i)) :: s.L, s.T⟩, by rw [e]; exact o, hs D i x hi h⟩) hq
theorem cp_tup {a : Addr} {xs : List V} {tt : TT} {vs : List Nat} (F : Nat → List V) (hx : IsT K H0 s a xs) (hn : xs.length ≤ 90000) (hF0 : F 0 = []) (hFl : ∀ i, i ≤ xs.length → (F i).length ≤ i)
    (hs : ∀ D i x, i < xs.length → xs[i]? = some x → WG H0 g x (wipe σ vs) ⟨(D, .lst (F i)) :: s.L, s.T⟩ fun σ2 s2 => wipe σ2 vs = wipe σ vs ∧ WT H0 tt σ2 s2 fun b s3 =>
      (b = true → WE H0 te σ2 s3 fun y s4 => Sub ⟨(D, .lst (F i)) :: s.L, s.T⟩ s4 ∧ F (i + 1) = F i ++ [y]) ∧ (b = false → Sub ⟨(D, .lst (F i)) :: s.L, s.T⟩ s3 ∧ F (i + 1) = F i)) (hq : ∀ D, H0 D = none → Q (.ref D) ⟨(D, .lst (F xs.length)) :: s.L, s.T⟩) : CompOk H0 (Itt K a) g tt te σ vs s Q :=
  cp_core (walk_tup (xs := xs)) hn F hF0 hFl (fun D x H o => hx H (o.dropL (.cons _ (.refl _)) fun _ h => h)) (fun D i x H H' hi o ⟨e, h⟩ => ⟨⟨(D, .lst (F i)) :: s.L, s.T⟩, by rw [e]; exact o, hs D i x hi h⟩) hq
theorem cp_T {r : List Bool} {tt : TT} {vs : List Nat} (F : Nat → List V) (hn : r.length ≤ 90000) (hF0 : F 0 = []) (hFl : ∀ i, i ≤ r.length → (F i).length ≤ i)
    (hs : ∀ D i b, i < r.length → r[i]? = some b → WG H0 g (.str (T [b])) (wipe σ vs) ⟨(D, .lst (F i)) :: s.L, s.T⟩ fun σ2 s2 => wipe σ2 vs = wipe σ vs ∧ WT H0 tt σ2 s2 fun b s3 =>
      (b = true → WE H0 te σ2 s3 fun y s4 => Sub ⟨(D, .lst (F i)) :: s.L, s.T⟩ s4 ∧ F (i + 1) = F i ++ [y]) ∧ (b = false → Sub ⟨(D, .lst (F i)) :: s.L, s.T⟩ s3 ∧ F (i + 1) = F i)) (hq : ∀ D, H0 D = none → Q (.ref D) ⟨(D, .lst (F r.length)) :: s.L, s.T⟩) : CompOk H0 (Its (T r)) g tt te σ vs s Q := by
  have e : (T r).cps.size = r.length := T_len r
  refine cp_core (n := r.length) (e ▸ walk_str (z := T r)) hn F hF0 hFl (fun D x H o => trivial) (fun D i x H H' hi o ⟨e, c, hc, ex⟩ => ⟨⟨(D, .lst (F i)) :: s.L, s.T⟩, by rw [e]; exact o, ?_⟩) hq
  obtain ⟨b, h, rfl⟩ := T_at hc
  rw [ex]
  exact hs D i b hi h
theorem cp_rng {lo : Int} {m : Nat} {tt : TT} {vs : List Nat} (F : Nat → List V) (hn : m ≤ 90000) (hF0 : F 0 = []) (hFl : ∀ i, i ≤ m → (F i).length ≤ i)
    (hs : ∀ D i, i < m → WG H0 g (.int (lo + (i : Int))) (wipe σ vs) ⟨(D, .lst (F i)) :: s.L, s.T⟩ fun σ2 s2 => wipe σ2 vs = wipe σ vs ∧ WT H0 tt σ2 s2 fun b s3 =>
      (b = true → WE H0 te σ2 s3 fun y s4 => Sub ⟨(D, .lst (F i)) :: s.L, s.T⟩ s4 ∧ F (i + 1) = F i ++ [y]) ∧ (b = false → Sub ⟨(D, .lst (F i)) :: s.L, s.T⟩ s3 ∧ F (i + 1) = F i)) (hq : ∀ D, H0 D = none → Q (.ref D) ⟨(D, .lst (F m)) :: s.L, s.T⟩) : CompOk H0 (Itr lo m) g tt te σ vs s Q :=
  cp_core walk_range hn F hF0 hFl (fun D x H o => trivial) (fun D i x H H' hi o ⟨e, ex⟩ => ⟨⟨(D, .lst (F i)) :: s.L, s.T⟩, by rw [e]; exact o, by rw [ex]; exact hs D i hi⟩) hq
theorem cp_rngC {lo c : Int} {m : Nat} {tt : TT} {vs : List Nat} (F : Nat → List V) (hn : m ≤ 90000) (hF0 : F 0 = []) (hFl : ∀ i, i ≤ m → (F i).length ≤ i)
    (hs : ∀ D i, i < m → WG H0 g (.int (lo + (i : Int) * c)) (wipe σ vs) ⟨(D, .lst (F i)) :: s.L, s.T⟩ fun σ2 s2 => wipe σ2 vs = wipe σ vs ∧ WT H0 tt σ2 s2 fun b s3 =>
      (b = true → WE H0 te σ2 s3 fun y s4 => Sub ⟨(D, .lst (F i)) :: s.L, s.T⟩ s4 ∧ F (i + 1) = F i ++ [y]) ∧ (b = false → Sub ⟨(D, .lst (F i)) :: s.L, s.T⟩ s3 ∧ F (i + 1) = F i)) (hq : ∀ D, H0 D = none → Q (.ref D) ⟨(D, .lst (F m)) :: s.L, s.T⟩) : CompOk H0 (Itc lo c m) g tt te σ vs s Q :=
  cp_core walk_rangeC hn F hF0 hFl (fun D x H o => trivial) (fun D i x H H' hi o ⟨e, ex⟩ => ⟨⟨(D, .lst (F i)) :: s.L, s.T⟩, by rw [e]; exact o, by rw [ex]; exact hs D i hi⟩) hq
theorem cp_enum {a : Addr} {xs : List V} {tt : TT} {vs : List Nat} (F : Nat → List V) (hx : IsL K H0 s a xs) (hn : xs.length ≤ 90000) (hF0 : F 0 = []) (hFl : ∀ i, i ≤ xs.length → (F i).length ≤ i)
    (hs : ∀ D i x p, i < xs.length → xs[i]? = some x → WG H0 g (.ref p) (wipe σ vs) ⟨(D, .lst (F i)) :: s.L, (p, [.int (i : Int), x]) :: s.T⟩ fun σ2 s2 => wipe σ2 vs = wipe σ vs ∧ WT H0 tt σ2 s2 fun b s3 =>
      (b = true → WE H0 te σ2 s3 fun y s4 => Sub ⟨(D, .lst (F i)) :: s.L, s.T⟩ s4 ∧ F (i + 1) = F i ++ [y]) ∧ (b = false → Sub ⟨(D, .lst (F i)) :: s.L, s.T⟩ s3 ∧ F (i + 1) = F i)) (hq : ∀ D, H0 D = none → Q (.ref D) ⟨(D, .lst (F xs.length)) :: s.L, s.T⟩) : CompOk H0 (Ite K a) g tt te σ vs s Q :=
  cp_core (walk_enum (xs := xs)) hn F hF0 hFl (fun D x H o => hx H (o.dropL (.cons _ (.refl _)) fun _ h => h)) (fun D i v H H' hi o ⟨p, x, y, ev, hp, e, hx, hy⟩ => ⟨⟨(D, .lst (F i)) :: s.L, (p, [.int (i : Int), y]) :: s.T⟩, by
    have ex : V.int (i : Nat) = x := Option.some.inj hx
    rw [e, ← ex]
    exact o.newT hp, by rw [ev]; exact hs D i y p hi hy⟩) hq
end
end BM
namespace BM
open PySem L2 Evl PyProof.Rows
/-! ### enumerate(text) -/
def IteT (x : Str) : It := ⟨fun i _ => i < x.cps.size, fun i H v H' => ∃ T c, v = .ref T ∧ H T = none ∧ H' = upd H T (.tup [.int (i : Nat), .str ⟨#[c]⟩]) ∧ x.cps[i]? = some c, fun i _ => x.cps.size ≤ i⟩
theorem turn_enumT {P : Program} {w : World} {K : PySem.W.Frag} {elts : List Expr} {kk : Nat} {tpos : Pos} (e it : Addr) (x : Str) (t : Tok) (ty : String) (hty : ty = "str_ascii_iterator" ∨ ty = "str_iterator") :
    Turn P w K (.Tuple elts kk tpos) (IteT x) [e, it] e (fun i h => (∃ old, IsEnum h e it ((i : Nat) : Int) old) ∧ (h.IsStrIter it ty x t i ∧ i ≤ x.cps.size) ∧ e ≠ it) where
  mem := by simp
  obj := fun i h st b hb => by
    obtain ⟨⟨old, he⟩, ⟨⟨o, ho, hc, hd⟩, _⟩, _⟩ := st
    have e' : b = e ∨ b = it := by simpa using hb
    rcases e' with z | z
    · rw [z]; exact ⟨_, he, fun v q => nomatch q⟩
    · rw [z]; exact ⟨o, ho, fun v q => by rw [hd] at q; cases q⟩
  keep := fun i h h' st k => let ⟨⟨old, he⟩, ⟨⟨o, ho, r⟩, hl⟩, hne⟩ := st; ⟨⟨old, k e (by simp) _ he⟩, ⟨⟨o, k it (by simp) _ ho, r⟩, hl⟩, hne⟩
  item := by
    intro X hP hw hK hc i pins s σ H E I hf st hg
    subst hP hw hK
    obtain ⟨⟨old, he⟩, ⟨hit, hle⟩, hne⟩ := st
    have hh : X.A.in1.handled = none := I.ok.hd hc
    have D : Draws X.prog X.w X.A.in1 it [it] x.cps.size (fun i v => ∃ c u, x.cps[i]? = some c ∧ v = .str ⟨#[c]⟩ u) (fun i h => h.IsStrIter it ty x t i) := by
      rcases hty with e | e
      · rw [e]; exact Draws.strAscii hh it x t
      · rw [e]; exact Draws.strWide hh it x t
    have hel : e < s.heap.objs.size := Heap.lt_size he
    have hil : it < s.heap.objs.size := by obtain ⟨_, q, _⟩ := hit; exact Heap.lt_size q
    refine wpAny_pyNext_enum_itemD D he hit hg hne (by simpa using hne) fun u h' tk hP ho hit' hT hsz hk => ?_
    obtain ⟨c, tc, hcx, rfl⟩ := hP
    refine ⟨_, rfl, wpAny_letOwnedTupleGo_enum (s := { s with heap := h', toks := tk + 1 }) ho fun h'' he' sb => ?_⟩
    have hT2 : h''.get? s.heap.objs.size = some { cls := .type "tuple", data := .seq #[.int i tk, .str ⟨#[c]⟩ tc] } := (sb.2 _ (Nat.ne_of_gt hel)).trans hT
    have new : ObjOk X.prog X.w (upd H s.heap.objs.size (.tup [.int (i : Nat), .str ⟨#[c]⟩])) h'' s.heap.objs.size (.tup [.int (i : Nat), .str ⟨#[c]⟩]) :=
      ⟨by show 2 ≤ sizeLine; decide, [.int i tk, .str ⟨#[c]⟩ tc], .cons ⟨_, rfl⟩ (.cons ⟨_, rfl⟩ .nil), ⟨_, hT2, rfl, _, rfl⟩⟩
    have I1 : Inv X pins σ (upd H s.heap.objs.size (.tup [.int (i : Nat), .str ⟨#[c]⟩])) { s with heap := h'', toks := tk + 1 } :=
      I.turnedNew (ch := [e, it]) (fun b ob hb q => (sb.2 b (fun z => hb (by simp [z]))).trans (hk b ob (fun z => hb (by simp [z])) (fun z => hb (by simp [z])) q)) hf (Nat.le_refl _) new
    have hit2 : h''.IsStrIter it ty x t (i + 1) := by
      obtain ⟨o, ho, r⟩ := hit'
      exact ⟨o, (sb.2 it (Ne.symm hne)).trans ho, r⟩
    refine ⟨.ref s.heap.objs.size, _, I1, rfl, ⟨_, c, rfl, I.hok.fresh (Nat.le_refl _), rfl, hcx⟩, ⟨⟨.str ⟨#[c]⟩ tc, ?_⟩, ⟨hit2, hg⟩, hne⟩, fun b hb => ?_⟩
    · have e1 : ((i + 1 : Nat) : Int) = (i : Int) + 1 := by omega
      rw [e1]; exact he'
    · have hb' : b < s.heap.objs.size := by
        have e' : b = e ∨ b = it := by simpa using hb
        rcases e' with z | z
        · rw [z]; exact hel
        · rw [z]; exact hil
      rw [upd_ne (Nat.ne_of_lt hb')]
      exact (hf b hb).1
  done := by
    intro X hP hw hK hc i pins s σ H E I hf st hg
    subst hP hw hK
    obtain ⟨⟨old, he⟩, ⟨hit, hle⟩, hne⟩ := st
    have hh : X.A.in1.handled = none := I.ok.hd hc
    have D : Draws X.prog X.w X.A.in1 it [it] x.cps.size (fun i v => ∃ c u, x.cps[i]? = some c ∧ v = .str ⟨#[c]⟩ u) (fun i h => h.IsStrIter it ty x t i) := by
      rcases hty with e | e
      · rw [e]; exact Draws.strAscii hh it x t
      · rw [e]; exact Draws.strWide hh it x t
    obtain ⟨f0, f1, f2, f3, f4, f5⟩ := hf it (by simp)
    have ei : i = x.cps.size := Nat.le_antisymm hle hg
    subst ei
    exact wpAny_pyNext_enum_endD D he hit fun h' eb => ⟨rfl, I.turned (t' := s.toks) (fun b o hb q => eb b o hb q) f0 f1 f3 f4 f5⟩
  self := fun A i s Q E st h => let ⟨⟨_, he⟩, _⟩ := st; wpAny_pyIter_enum he h
def iEnumT (ta : TA) : TI := fun σ H R => ta σ H fun vs H1 => ∃ r : List Bool, vs = [.str (T r)] ∧ R (IteT (T r)) H1
theorem pi_enumT {X : Cx} {e : Expr} {ta : TA} {p pos tpos : Pos} {elts : List Expr} {kk : Nat} (hg : Gl X "enumerate") (hm : X.mg "enumerate" = none) (ha : PA X [e] ta) (hs : starEach [e] X.env = [(false, eval e X.env)] := by rfl) :
    PI X (.Tuple elts kk tpos) (.Call (.Name "enumerate" p) [e] [] pos) (iEnumT ta) := by
  refine ⟨fun pins s σ H R I h => ?_⟩
  refine Call_ (ld_blt I hg hm boot_enumerate (PyProof.Rows.callWith_type1 (thn (ha.run pos pins s σ H _ I h) fun us s1 ⟨vs, H1, I1, r1, q1⟩ => ?_) hs rfl))
  obtain ⟨r, ex, q⟩ := q1
  subst ex
  cases r1 with
  | cons r0 rr =>
    cases rr
    obtain ⟨t, rfl⟩ := r0
    refine call_enumerate_str fun h' he hit hsz hk => wpAny_pyIter_enum he ?_
    have I2 : Inv X pins σ H1 { s1 with heap := h' } := I1.kept (t' := s1.toks) hk
    have hty : strIterType (T r) = "str_ascii_iterator" ∨ strIterType (T r) = "str_iterator" := by
      unfold strIterType
      split
      · exact .inl rfl
      · exact .inr rfl
    refine ⟨s1.heap.objs.size + 1, [s1.heap.objs.size + 1, s1.heap.objs.size], _, _, H1, rfl, I2, turn_enumT (s1.heap.objs.size + 1) s1.heap.objs.size (T r) t _ hty, ⟨⟨.none, he⟩, ⟨hit, Nat.zero_le _⟩, Nat.succ_ne_self _⟩, fun b hb => ?_, q⟩
    have e' : b = s1.heap.objs.size + 1 ∨ b = s1.heap.objs.size := by simpa using hb
    have hle : s1.heap.objs.size ≤ b := by
      rcases e' with z | z
      · rw [z]; exact Nat.le_add_right _ _
      · rw [z]; exact Nat.le_refl _
    exact I1.fpOk hle (I1.hok.fresh hle)
/-! ### a < b < c < d -/
def tChain3 (r1 r2 r3 : R2) (ta tb tc td : TE) : TE := fun σ H Q => ta σ H fun x H1 => tb σ H1 fun y H2 => r1 x y H2 fun z H3 => ∃ k, z = .bl k ∧
  (if k = true then tc σ H3 fun w' H4 => r2 y w' H4 fun z2 H5 => ∃ k2, z2 = .bl k2 ∧ (if k2 = true then td σ H5 fun w2 H6 => r3 w' w2 H6 Q else Q (.bl false) H5) else Q (.bl false) H3)
section
variable {X : Cx} {a b c d : Expr} {ta tb tc td : TE} {pos : Pos}
theorem pe_chain3 {o1 o2 o3 : CmpOp} {r1 r2 r3 : R2} (h1 : OpR X (compareOp o1) r1) (h2 : OpR X (compareOp o2) r2) (h3 : OpR X (compareOp o3) r3) (ha : PE X a ta) (hb : PE X b tb) (hc : PE X c tc) (hd : PE X d td)
    (hm : lastMarks [o1, o2, o3] [b, c, d] = false := by with_unfolding_all rfl) : PE X (.Compare a [o1, o2, o3] [b, c, d] pos) (tChain3 r1 r2 r3 ta tb tc td) := by
  refine ⟨fun pins s σ H Q I h => ?_⟩
  refine Compare_chain (thn (ha.run pins s σ H _ I h) fun v s1 ⟨x, H1, I1, e1, q1⟩ => chain_link (thn (hb.run pins s1 σ H1 _ I1 q1) fun u s2 ⟨y, H2, I2, e2, q2⟩ =>
    thn (h1 pins s2 σ H2 x y v u _ I2 e1 e2 q2) fun d1 s3 ⟨z, H3, I3, e3, k, e, q3⟩ => ?_)) hm
  subst e
  cases e3
  refine wpAny_truthy_bool ?_
  cases k with
  | false => exact ite_ff ⟨.bl false, H3, I3, rfl, q3⟩
  | true =>
    refine ite_tt (chain_link (thn (hc.run pins s3 σ H3 _ I3 q3) fun w' s4 ⟨z', H4, I4, e4, q4⟩ => thn (h2 pins s4 σ H4 y z' u w' _ I4 e2 e4 q4) fun d2 s5 ⟨z2, H5, I5, e5, k2, ek, q5⟩ => ?_))
    subst ek
    cases e5
    refine wpAny_truthy_bool ?_
    cases k2 with
    | false => exact ite_ff ⟨.bl false, H5, I5, rfl, q5⟩
    | true => exact ite_tt (chain_last (thn (hd.run pins s5 σ H5 _ I5 q5) fun w2 s6 ⟨z3, H6, I6, e6, q6⟩ => h3 pins s6 σ H6 z' z3 w' w2 Q I6 e4 e6 q6))
theorem pt_chain3 {o1 o2 o3 : CmpOp} {r1 r2 r3 : R2} (h1 : OpR X (compareOp o1) r1) (h2 : OpR X (compareOp o2) r2) (h3 : OpR X (compareOp o3) r3) (ha : PE X a ta) (hb : PE X b tb) (hc : PE X c tc) (hd : PE X d td)
    (hm : lastMarks [o1, o2, o3] [b, c, d] = false := by with_unfolding_all rfl) : PT X (.Compare a [o1, o2, o3] [b, c, d] pos) (tTest (tChain3 r1 r2 r3 ta tb tc td)) := by
  refine ⟨fun pins s σ H Q I h => ?_⟩
  refine isTrue_chain (thn (ha.run pins s σ H _ I h) fun v s1 ⟨x, H1, I1, e1, q1⟩ => test_link (thn (hb.run pins s1 σ H1 _ I1 q1) fun u s2 ⟨y, H2, I2, e2, q2⟩ =>
    thn (h1 pins s2 σ H2 x y v u _ I2 e1 e2 q2) fun d1 s3 ⟨z, H3, I3, e3, k, e, q3⟩ => ?_)) hm
  subst e
  cases e3
  refine wpAny_truthy_bool ?_
  cases k with
  | false =>
    obtain ⟨k', e', q'⟩ := q3
    cases e'
    exact ite_ff ⟨H3, I3, q'⟩
  | true =>
    refine ite_tt (test_link (thn (hc.run pins s3 σ H3 _ I3 q3) fun w' s4 ⟨z', H4, I4, e4, q4⟩ => thn (h2 pins s4 σ H4 y z' u w' _ I4 e2 e4 q4) fun d2 s5 ⟨z2, H5, I5, e5, k2, ek, q5⟩ => ?_))
    subst ek
    cases e5
    refine wpAny_truthy_bool ?_
    cases k2 with
    | false =>
      obtain ⟨k', e', q'⟩ := q5
      cases e'
      exact ite_ff ⟨H5, I5, q'⟩
    | true =>
      refine ite_tt (test_last (thn (hd.run pins s5 σ H5 _ I5 q5) fun w2 s6 ⟨z3, H6, I6, e6, q6⟩ => thn (h3 pins s6 σ H6 z' z3 w' w2 _ I6 e4 e6 q6) fun d' s7 ⟨z4, H7, I7, e7, k3, ek3, q7⟩ => ?_))
      subst ek3
      cases e7
      exact wpAny_truthy_bool ⟨H7, I7, q7⟩
end
/-! ### text[::-1] -/
def tRevT (te : TE) : TE := fun σ H Q => te σ H fun x H1 => ∃ r : List Bool, x = .str (T r) ∧ r.length ≤ 100000 ∧ Q (.str (T r.reverse)) H1
theorem rev_picked (x : Str) (k : Tok) : ((slicePicked x none none (some (-1, k))).filterMap (x.cps[·]?)) = x.cps.toList.reverse := by
  have e0 : slicePicked x none none (some (-1, k)) = (List.range x.length).map fun i => x.length - 1 - i := by
    unfold slicePicked Builtin.Str.strSliceIndices sliceRange
    simp only [Option.map_none, Option.map_some, Option.getD_some]
    have h1 : ¬ ((-1 : Int) > 0) := by decide
    simp only [if_neg h1]
    by_cases hz : x.length = 0
    · rw [hz]
      rfl
    · have h2 : ((x.length : Int) - 1 > -1) := by omega
      rw [if_pos h2]
      have h3 : (((x.length : Int) - 1 - -1 - -1 - 1) / - -1).toNat = x.length := by
        have h4 : ((x.length : Int) - 1 - -1 - -1 - 1) = (x.length : Int) := by omega
        have h5 : (- -1 : Int) = 1 := by decide
        rw [h4, h5, Int.ediv_one]
        rfl
      rw [h3]
      apply List.map_congr_left
      intro i hi
      have := List.mem_range.mp hi
      omega
  rw [e0, List.filterMap_map]
  have e1 : ∀ n, n ≤ x.length → (List.range n).filterMap ((fun i => x.cps[i]?) ∘ fun i => x.length - 1 - i) = x.cps.toList.reverse.take n := by
    intro n
    induction n with
    | zero => intro _; rfl
    | succ n ih =>
      intro h
      rw [List.range_succ, List.filterMap_append, ih (by omega)]
      have hl : x.cps.toList.reverse.length = x.length := by simp [Str.length]
      have hn : n < x.cps.toList.reverse.length := by omega
      rw [List.take_succ, List.getElem?_eq_getElem hn]
      have h3 : x.length - 1 - n < x.cps.size := by show _ < x.length; omega
      have h4 : x.cps[x.length - 1 - n]? = some (x.cps.toList.reverse[n]) := by
        rw [List.getElem_reverse]
        rw [Array.getElem?_eq_getElem h3]
        simp [Str.length]
      simp only [List.filterMap_cons, List.filterMap_nil, Function.comp, h4]
      rfl
  rw [e1 _ (Nat.le_refl _)]
  apply List.take_of_length_le
  simp [Str.length]
section
variable {X : Cx} {e : Expr} {te : TE} {k : Nat} {p1 p2 p3 pos : Pos}
theorem pe_revT (he : PE X e te) : PE X (.Subscript e (.Slice none none (some (.UnaryOp .USub (.Constant (.int 1) k p1) p2)) p3) pos) (tRevT te) := by
  refine ⟨fun pins s σ H Q I h => ?_⟩
  refine Subscript_ (thn (he.run pins s σ H _ I h) fun v s1 ⟨x, H1, I1, r1, q1⟩ => ?_)
  obtain ⟨r, ex, hl, q⟩ := q1
  subst ex
  obtain ⟨tx, rfl⟩ := r1
  have hst : PO X (some (.UnaryOp .USub (.Constant (.int 1) k p1) p2)) (tPart (tUn (rU fun i => .int (-i)) (tC (.int 1)))) := po_some (pe_un un_neg pe_int)
  refine wpAny_Slice (thn (po_none.run pins s1 σ H1 (fun o H2 => o = none ∧ H2 = H1) I1 ⟨rfl, rfl⟩) fun vl s2 ⟨l, H2, I2, pl, el, e2⟩ => ?_)
  subst el e2
  refine thn (po_none.run pins s2 σ H2 (fun o H3 => o = none ∧ H3 = H2) I2 ⟨rfl, rfl⟩) fun vu s3 ⟨u, H3, I3, pu, eu, e3⟩ => ?_
  subst eu e3
  refine thn (hst.run pins s3 σ H3 (fun o H4 => o = some (-1) ∧ H4 = H3) I3 ⟨1, rfl, -1, rfl, rfl, rfl⟩) fun vs s4 ⟨o, H4, I4, ps, eo, e4⟩ => ?_
  subst eo e4
  have I5 : Inv X pins σ H4 { s4 with heap := s4.heap.push { cls := .type "slice", data := .fields #[vl, vu, vs] } } := I4.kept (t' := s4.toks) fun b ob q => Heap.get?_push_of_some _ q
  obtain ⟨l1, hl1, hl2⟩ := IsPart.raw pl
  obtain ⟨u1, hu1, hu2⟩ := IsPart.raw pu
  obtain ⟨s1', hs1, hs2⟩ := IsPart.raw ps
  obtain rfl : l1 = none := by cases l1 with | none => rfl | some z => cases hl2
  obtain rfl : u1 = none := by cases u1 with | none => rfl | some z => cases hu2
  obtain ⟨kk, rfl⟩ : ∃ kk, s1' = some (-1, kk) := by
    cases s1' with
    | none => cases hs2
    | some z =>
      obtain ⟨z1, z2⟩ := z
      have : z1 = -1 := Option.some.inj hs2
      exact ⟨z2, by rw [this]⟩
  have hsl : (s4.heap.push { cls := .type "slice", data := .fields #[vl, vu, vs] }).IsSlice s4.heap.objs.size none none (some (-1, kk)) := by
    rw [hl1, hu1, hs1]
    exact ⟨_, Heap.get?_push_size _ rfl, rfl, rfl⟩
  show wpAny (model X.prog X.w) X.A (subscriptTail e (.Slice none none (some (.UnaryOp .USub (.Constant (.int 1) k p1) p2)) p3) (.str (T r) tx) (.ref s4.heap.objs.size)) (EP X pins σ Q) X.xe { s4 with heap := s4.heap.push { cls := .type "slice", data := .fields #[vl, vu, vs] } }
  refine tail_any (ops := [.ref s4.heap.objs.size, .str (T r) tx]) (typeIs_str _ _ _) F.slot_str_getitem.lookup ?_ (by with_unfolding_all rfl)
  refine wpAny_getItem_str_slice (l := none) (u := none) (st := some (-1, kk)) hsl (by rfl) ?_
  unfold sliceMade
  rw [if_neg (by simp)]
  have er : (⟨((slicePicked (T r) none none (some (-1, kk))).filterMap ((T r).cps[·]?)).toArray⟩ : Str) = T r.reverse := by
    rw [rev_picked, T_list, ← List.map_reverse]
    rfl
  rw [er]
  refine ⟨by rw [T_len, List.length_reverse]; exact sz_of hl, .str (T r.reverse), H4, ?_, ⟨_, rfl⟩, q⟩
  exact I5.tok _
end
/-! ### list(text) -/
def aListT : List V → Hp → VK → Prop := fun xs H Q => ∃ r : List Bool, xs = [.str (T r)] ∧ r.length ≤ 100000 ∧ ∀ l, H l = none → Q (.ref l) (upd H l (.lst (r.map fun b => .str (T [b]))))
theorem c_listT {X : Cx} (hc : X.calm = true) : CallR X (.type "list") aListT := by
  intro pins s σ H xs us Q I rx h
  obtain ⟨r, rfl, hl, q⟩ := h
  obtain ⟨u, rfl, ru⟩ := vals1 rx
  obtain ⟨t, rfl⟩ := ru
  refine call_list_str (I.ok.hd hc) (T r) t (hn := by show (T r).length ≤ _; rw [T_len]; exact sz_of hl) fun h' tk acc' c' hk ho hi => ?_
  refine ⟨.ref s.heap.objs.size, _, I.laid (t' := tk) (o := .lst (r.map fun b => .str (T [b]))) hk (Nat.le_refl _) ?_, rfl, q _ (I.hok.fresh (Nat.le_refl _))⟩
  have hz : acc'.toList.length = r.length := by
    have h1 : acc'.size = (T r).length := hi.1
    rw [T_len] at h1
    simpa using h1
  refine ⟨by rw [List.length_map]; exact sz_of hl, acc'.toList, c', ?_, ho⟩
  refine vals_of_at (by rw [List.length_map, hz]) fun j x u h1 h2 => ?_
  obtain ⟨c, tk', hc1, rfl⟩ := hi.2 j u (by simpa using h2)
  obtain ⟨b, hb, rfl⟩ := T_at hc1
  rw [List.getElem?_map, hb] at h1
  cases h1
  exact ⟨tk', rfl⟩
/-! ### xs.count(y) -/
def aCount (K : PySem.W.Frag) : V → List V → Hp → VK → Prop := fun x xs H Q => ∃ (p : Addr) (ys : List V) (y : V), x = .ref p ∧ xs = [y] ∧ SqL K H p ys ∧ flatV y = true ∧ ys.all flatV = true ∧ Q (.int ((ys.countP fun z => eqV z y : Nat) : Int)) H
theorem count_eqU {x : V} : ∀ {xs : List V} {us : List Value}, Vals xs us → xs.all flatV = true → us.countP (eqU x) = xs.countP fun y => eqV y x
  | _, _, .nil, _ => rfl
  | y :: xs, u :: us, .cons r t, f => by
    rw [List.all_cons, Bool.and_eq_true] at f
    rw [List.countP_cons, List.countP_cons, eqU_of r f.1, count_eqU t f.2]
theorem m_count {X : Cx} : MtR X "list.count" (aCount X.K) := by
  intro pins s σ H x xs v us Q I rx rxs h
  obtain ⟨p, ys, y, rfl, rfl, hs, fy, fa, q⟩ := h
  cases rx
  obtain ⟨u, rfl, ru⟩ := rxs.one
  obtain ⟨its, rv, ⟨⟨cls, dd, data, sl⟩, n, ho, hc, hdn, hd⟩, hlen⟩ := I.list hs
  simp only at hc hd
  subst hc hd
  refine call_meets PySem.F.slot_list_count ⟨_, ho, rfl⟩ PySem.F.entry_list_count (PySem.F.args_list_count_2 _ _)
    (SeqAt.list_countAt p its.toArray n dd sl u (eqU y)) ⟨ho, fun z hz => mem_eqAt ru fy rv fa z (by simpa using hz), ?_⟩
  refine ⟨.int ((ys.countP fun z => eqV z y : Nat) : Int), H, I.tok _, ⟨s.toks, ?_⟩, q⟩
  show Value.int ((its.toArray.toList.countP (eqU y) : Nat) : Int) s.toks = _
  rw [show its.toArray.toList = its from rfl, count_eqU rv fa]
/-! ### == of data -/
def DpL (K : PySem.W.Frag) (H0 : Hp) (s : Ld) (v : V) (d : PyData) : Prop := ∀ H, Own H0 H s → Dp K H v d
theorem dpAll_map {K : PySem.W.Frag} {H : Hp} {α : Type} {f : α → V} {g : α → PyData} (h : ∀ a, Dp K H (f a) (g a)) : ∀ xs : List α, DpAll K H (xs.map f) (xs.map g)
  | [] => .nil
  | a :: xs => .cons (h a) (dpAll_map h xs)
theorem eqvAll_map {α : Type} [DecidableEq α] {g : α → PyData} (h : ∀ a b, PyData.eqv (g a) (g b) = decide (a = b)) : ∀ xs ys : List α, PyData.eqvAll (xs.map g) (ys.map g) = decide (xs = ys)
  | [], [] => by simp [PyData.eqvAll]
  | [], y :: ys => by simp [PyData.eqvAll]
  | x :: xs, [] => by simp [PyData.eqvAll]
  | x :: xs, y :: ys => by
    simp only [List.map_cons, PyData.eqvAll, h, eqvAll_map h xs ys, List.cons.injEq]
    by_cases e : x = y <;> simp [e]
theorem eqv_intD (a b : Int) : PyData.eqv (.int a) (.int b) = decide (a = b) := by
  simp only [PyData.eqv]
  by_cases e : a = b
  · subst e; simp
  · simp [e]
theorem eqv_blD (a b : Bool) : PyData.eqv (.bool a) (.bool b) = decide (a = b) := by
  simp only [PyData.eqv]
  cases a <;> cases b <;> rfl
theorem eqv_rowD (a b : List Bool) : PyData.eqv (.str (T a)) (.str (T b)) = decide (a = b) := by
  simp only [PyData.eqv]
  by_cases e : a = b
  · subst e; simp
  · have : ¬ T a = T b := fun h => e (T_inj h)
    simp [e, this]
def pairD (p : Int × Int) : PyData := .tuple [.int p.1, .int p.2]
theorem eqv_pairD (a b : Int × Int) : PyData.eqv (pairD a) (pairD b) = decide (a = b) := by
  obtain ⟨a1, a2⟩ := a
  obtain ⟨b1, b2⟩ := b
  simp only [pairD, PyData.eqv, PyData.eqvAll, Prod.mk.injEq]
  by_cases e1 : a1 = b1 <;> by_cases e2 : a2 = b2 <;> simp [e1, e2]
theorem all_canLay {α : Type} {g : α → PyData} (h : ∀ a, (g a).canLay0 = true) : ∀ xs : List α, PyData.canLayAll0 (xs.map g) = true
  | [] => rfl
  | a :: xs => by simp [PyData.canLayAll0, h a, all_canLay h xs]
theorem all_depth {α : Type} {g : α → PyData} {k : Nat} (h : ∀ a, (g a).depth ≤ k) : ∀ xs : List α, PyData.depthAll (xs.map g) ≤ k
  | [] => by simp [PyData.depthAll]
  | a :: xs => by
    have := h a
    have := all_depth h xs
    simp only [List.map_cons, PyData.depthAll]
    omega
theorem shaped_map {α : Type} {g : α → PyData} {k : Nat} (h : ∀ a, (g a).canLay0 = true) (hd : ∀ a, (g a).depth ≤ k) (hk : k ≤ 60) (xs : List α) : SeqAt.shaped (.list (xs.map g)) = true := by
  unfold SeqAt.shaped
  have h1 : PyData.canLay0 (.list (xs.map g)) = true := by
    simp only [PyData.canLay0]
    exact all_canLay h xs
  have h2 := all_depth hd xs
  have h3 : PyData.depth (.list (xs.map g)) ≤ 64 := by
    simp only [PyData.depth]
    omega
  simp [h1, h3]
section
variable {K : PySem.W.Frag} {H0 : Hp} {s : Ld} {Q : V → Ld → Prop} {x y : V}
theorem w2_eqD {d e : PyData} {b : Bool} (h1 : DpL K H0 s x d) (h2 : DpL K H0 s y e) (s1 : SeqAt.shaped d = true) (s2 : SeqAt.shaped e = true) (hb : PyData.eqv d e = b) (q : Q (.bl b) s) : W2 H0 (rEqD K) x y s Q := fun H o R k => ⟨d, e, h1 H o, h2 H o, s1, s2, k _ H s o (by rw [hb]; exact q)⟩
theorem w2_neD {d e : PyData} {b : Bool} (h1 : DpL K H0 s x d) (h2 : DpL K H0 s y e) (s1 : SeqAt.shaped d = true) (s2 : SeqAt.shaped e = true) (hb : PyData.eqv d e = b) (q : Q (.bl (!b)) s) : W2 H0 (rNeD K) x y s Q := fun H o R k => ⟨d, e, h1 H o, h2 H o, s1, s2, k _ H s o (by rw [hb]; exact q)⟩
/-- a list of pairs -/
def PairsIn (K : PySem.W.Frag) (H : Hp) (xs : List V) (ps : List (Int × Int)) : Prop := Paired (fun x (p : Int × Int) => ∃ t, x = V.ref t ∧ SqT K H t [.int p.1, .int p.2]) xs ps
theorem PairsIn.mono {H H' : Hp} {xs : List V} {ps : List (Int × Int)} (h : PairsIn K H xs ps) (e : Ex H H') : PairsIn K H' xs ps := Paired.mapP h fun a b ⟨t, h1, h2⟩ => ⟨t, h1, ex_t e h2⟩
theorem dp_pairs {H : Hp} {a : Addr} {xs : List V} {ps : List (Int × Int)} (h : SqL K H a xs) (hp : PairsIn K H xs ps) : Dp K H (.ref a) (.list (ps.map pairD)) := by
  refine .lst h ?_
  clear h
  induction hp with
  | nil => exact .nil
  | cons r t ih =>
    obtain ⟨t, rfl, ht⟩ := r
    exact .cons (.tup ht (.cons (.int _) (.cons (.int _) .nil))) ih
variable {a b : Addr}
theorem dl_ints {ns : List Int} (h : IsL K H0 s a (ns.map V.int)) : DpL K H0 s (.ref a) (.list (ns.map PyData.int)) := fun H o => .lst (h H o) (dpAll_map (fun i => .int i) ns)
theorem dl_bls {ns : List Bool} (h : IsL K H0 s a (ns.map V.bl)) : DpL K H0 s (.ref a) (.list (ns.map PyData.bool)) := fun H o => .lst (h H o) (dpAll_map (fun i => .bl i) ns)
theorem dl_rows {rs : List (List Bool)} (h : IsL K H0 s a (rs.map fun r => .str (T r))) : DpL K H0 s (.ref a) (.list (rs.map fun r => PyData.str (T r))) := fun H o => .lst (h H o) (dpAll_map (fun r => .str (T r)) rs)
theorem strOk_T (r : List Bool) : (PyData.str (T r)).canLay0 = true := by
  show PyData.strOk (T r) = true
  unfold PyData.strOk
  rw [← Array.all_toList, T_list, List.all_map, List.all_eq_true]
  intro b _
  cases b <;> rfl
theorem w2_eqLI {ns ms : List Int} (h1 : IsL K H0 s a (ns.map V.int)) (h2 : IsL K H0 s b (ms.map V.int)) (q : Q (.bl (decide (ns = ms))) s) : W2 H0 (rEqD K) (.ref a) (.ref b) s Q :=
  w2_eqD (dl_ints h1) (dl_ints h2) (shaped_map (k := 10) (fun _ => rfl) (fun _ => by simp [PyData.depth]) (by decide) _) (shaped_map (k := 10) (fun _ => rfl) (fun _ => by simp [PyData.depth]) (by decide) _) (by simp only [PyData.eqv]; exact eqvAll_map eqv_intD ns ms) q
theorem w2_neLI {ns ms : List Int} (h1 : IsL K H0 s a (ns.map V.int)) (h2 : IsL K H0 s b (ms.map V.int)) (q : Q (.bl (!decide (ns = ms))) s) : W2 H0 (rNeD K) (.ref a) (.ref b) s Q :=
  w2_neD (dl_ints h1) (dl_ints h2) (shaped_map (k := 10) (fun _ => rfl) (fun _ => by simp [PyData.depth]) (by decide) _) (shaped_map (k := 10) (fun _ => rfl) (fun _ => by simp [PyData.depth]) (by decide) _) (by simp only [PyData.eqv]; exact eqvAll_map eqv_intD ns ms) q
theorem w2_eqLB {ns ms : List Bool} (h1 : IsL K H0 s a (ns.map V.bl)) (h2 : IsL K H0 s b (ms.map V.bl)) (q : Q (.bl (decide (ns = ms))) s) : W2 H0 (rEqD K) (.ref a) (.ref b) s Q :=
  w2_eqD (dl_bls h1) (dl_bls h2) (shaped_map (k := 10) (fun _ => rfl) (fun _ => by simp [PyData.depth]) (by decide) _) (shaped_map (k := 10) (fun _ => rfl) (fun _ => by simp [PyData.depth]) (by decide) _) (by simp only [PyData.eqv]; exact eqvAll_map eqv_blD ns ms) q
theorem w2_neLB {ns ms : List Bool} (h1 : IsL K H0 s a (ns.map V.bl)) (h2 : IsL K H0 s b (ms.map V.bl)) (q : Q (.bl (!decide (ns = ms))) s) : W2 H0 (rNeD K) (.ref a) (.ref b) s Q :=
  w2_neD (dl_bls h1) (dl_bls h2) (shaped_map (k := 10) (fun _ => rfl) (fun _ => by simp [PyData.depth]) (by decide) _) (shaped_map (k := 10) (fun _ => rfl) (fun _ => by simp [PyData.depth]) (by decide) _) (by simp only [PyData.eqv]; exact eqvAll_map eqv_blD ns ms) q
theorem w2_eqLR {ns ms : List (List Bool)} (h1 : IsL K H0 s a (ns.map fun r => .str (T r))) (h2 : IsL K H0 s b (ms.map fun r => .str (T r))) (q : Q (.bl (decide (ns = ms))) s) : W2 H0 (rEqD K) (.ref a) (.ref b) s Q :=
  w2_eqD (dl_rows h1) (dl_rows h2) (shaped_map (k := 10) (fun r => strOk_T r) (fun _ => by simp [PyData.depth]) (by decide) _) (shaped_map (k := 10) (fun r => strOk_T r) (fun _ => by simp [PyData.depth]) (by decide) _) (by simp only [PyData.eqv]; exact eqvAll_map eqv_rowD ns ms) q
theorem w2_neLR {ns ms : List (List Bool)} (h1 : IsL K H0 s a (ns.map fun r => .str (T r))) (h2 : IsL K H0 s b (ms.map fun r => .str (T r))) (q : Q (.bl (!decide (ns = ms))) s) : W2 H0 (rNeD K) (.ref a) (.ref b) s Q :=
  w2_neD (dl_rows h1) (dl_rows h2) (shaped_map (k := 10) (fun r => strOk_T r) (fun _ => by simp [PyData.depth]) (by decide) _) (shaped_map (k := 10) (fun r => strOk_T r) (fun _ => by simp [PyData.depth]) (by decide) _) (by simp only [PyData.eqv]; exact eqvAll_map eqv_rowD ns ms) q
theorem w2_neLP {ns ms : List (Int × Int)} {xs ys : List V} (h1 : IsL K H0 s a xs) (p1 : ∀ H, Own H0 H s → PairsIn K H xs ns) (h2 : IsL K H0 s b ys) (p2 : ∀ H, Own H0 H s → PairsIn K H ys ms) (q : Q (.bl (!decide (ns = ms))) s) : W2 H0 (rNeD K) (.ref a) (.ref b) s Q :=
  w2_neD (fun H o => dp_pairs (h1 H o) (p1 H o)) (fun H o => dp_pairs (h2 H o) (p2 H o)) (shaped_map (k := 10) (fun r => rfl) (fun _ => by simp [pairD, PyData.depth, PyData.depthAll]) (by decide) _) (shaped_map (k := 10) (fun r => rfl) (fun _ => by simp [pairD, PyData.depth, PyData.depthAll]) (by decide) _) (by simp only [PyData.eqv]; exact eqvAll_map eqv_pairD ns ms) q
theorem w2_eqLP {ns ms : List (Int × Int)} {xs ys : List V} (h1 : IsL K H0 s a xs) (p1 : ∀ H, Own H0 H s → PairsIn K H xs ns) (h2 : IsL K H0 s b ys) (p2 : ∀ H, Own H0 H s → PairsIn K H ys ms) (q : Q (.bl (decide (ns = ms))) s) : W2 H0 (rEqD K) (.ref a) (.ref b) s Q :=
  w2_eqD (fun H o => dp_pairs (h1 H o) (p1 H o)) (fun H o => dp_pairs (h2 H o) (p2 H o)) (shaped_map (k := 10) (fun r => rfl) (fun _ => by simp [pairD, PyData.depth, PyData.depthAll]) (by decide) _) (shaped_map (k := 10) (fun r => rfl) (fun _ => by simp [pairD, PyData.depth, PyData.depthAll]) (by decide) _) (by simp only [PyData.eqv]; exact eqvAll_map eqv_pairD ns ms) q
end
section
variable {K : PySem.W.Frag} {H0 : Hp} {σ : L2.St} {s : Ld} {ta tb te tl tc td : TE} {t u : TT} {tr : TA} {x y z v : V} {r : R2} {Q : V → Ld → Prop} {D : Dl} {t1 t2 : TS} {g : TG} {i j : Int}
theorem we_chain3 {r1 r2 r3 : R2} (h : WE H0 ta σ s fun x s1 => WE H0 tb σ s1 fun y s2 => W2 H0 r1 x y s2 fun z s3 => ∃ c, z = .bl c ∧ (c = true → WE H0 tc σ s3 fun w s4 => W2 H0 r2 y w s4 fun z2 s5 => ∃ c2, z2 = .bl c2 ∧ (c2 = true → WE H0 td σ s5 fun w2 s6 => W2 H0 r3 w w2 s6 Q) ∧ (c2 = false → Q (.bl false) s5)) ∧ (c = false → Q (.bl false) s3)) : WE H0 (tChain3 r1 r2 r3 ta tb tc td) σ s Q := fun H o R k =>
  h H o _ fun x H1 s1 o1 h1 => h1 H1 o1 _ fun y H2 s2 o2 h2 => h2 H2 o2 _ fun z H3 s3 o3 ⟨c, e, h3, h4⟩ => ⟨c, e, by
    cases c with
    | false => exact k _ H3 s3 o3 (h4 rfl)
    | true => exact h3 rfl H3 o3 _ fun w H4 s4 o4 h5 => h5 H4 o4 _ fun z2 H5 s5 o5 ⟨c2, e2, h6, h7⟩ => ⟨c2, e2, by
        cases c2 with
        | false => exact k _ H5 s5 o5 (h7 rfl)
        | true => exact h6 rfl H5 o5 _ fun w2 H6 s6 o6 h8 => h8 H6 o6 R k⟩⟩
theorem we_revT (h : WE H0 te σ s fun x s1 => ∃ r : List Bool, x = .str (T r) ∧ r.length ≤ 100000 ∧ Q (.str (T r.reverse)) s1) : WE H0 (tRevT te) σ s Q := fun H o R k =>
  h H o _ fun x H1 s1 o1 ⟨r, e, hl, q⟩ => ⟨r, e, hl, k _ H1 s1 o1 q⟩
theorem we_revL (h : WE H0 te σ s fun x s1 => ∃ a xs, x = .ref a ∧ IsL K H0 s1 a xs ∧ ∀ p, H0 p = none → Q (.ref p) ⟨(p, .lst xs.reverse) :: s1.L, s1.T⟩) : WE H0 (tRevL K te) σ s Q := fun H o R k =>
  h H o _ fun x H1 s1 o1 ⟨a, xs, e, hx, q⟩ => ⟨a, xs, e, hx H1 o1, fun p hp => k _ _ _ (o1.new hp) (q p (fresh_back o1.ex hp))⟩
theorem wl_listT {a : List Bool} (hl : a.length ≤ 100000) (q : ∀ l, H0 l = none → Q (.ref l) ⟨(l, .lst (a.map fun b => .str (T [b]))) :: s.L, s.T⟩) : WL H0 aListT [.str (T a)] s Q := fun H o R k => ⟨a, rfl, hl, fun l hl => k _ _ _ (o.new hl) (q l (fresh_back o.ex hl))⟩
theorem wm_count {p : Addr} {ys : List V} (hx : IsL K H0 s p ys) (h1 : flatV y = true) (h2 : ys.all flatV = true) (q : Q (.int ((ys.countP fun z => eqV z y : Nat) : Int)) s) : WM H0 (aCount K) (.ref p) [y] s Q := fun H o R k => ⟨p, ys, y, rfl, rfl, hx H o, h1, h2, k _ H s o q⟩
theorem wi_enumT {R : It → Ld → Prop} (h : WA H0 tr σ s fun xs s1 => ∃ r : List Bool, xs = [.str (T r)] ∧ R (IteT (T r)) s1) : WI H0 (iEnumT tr) σ s R := fun H o R' k =>
  h H o _ fun x H1 s1 o1 ⟨r, e, q⟩ => ⟨r, e, k _ H1 s1 o1 q⟩
theorem walk_enumT {z : Str} : Walk (IteT z) z.cps.size (fun _ => True) (fun i H v H' => ∃ p c, v = .ref p ∧ H p = none ∧ H' = upd H p (.tup [.int (i : Nat), .str ⟨#[c]⟩]) ∧ z.cps[i]? = some c) :=
  ⟨fun _ _ hi _ => hi, fun _ _ => Nat.le_refl _, fun _ _ _ _ _ _ y => y⟩
theorem lp_enumT {r : List Bool} {n : Nat} (I : Nat → L2.St → Ld → Prop) (hn : r.length = n) (h0 : I 0 σ s)
    (hs : ∀ i b σ s p, i < n → r[i]? = some b → I i σ s → WG H0 g (.ref p) σ ⟨s.L, (p, [.int (i : Int), .str (T [b])]) :: s.T⟩ fun σ2 s2 => WS H0 t1 σ2 s2 (turnD D (I (i + 1)))) (hd : ∀ σ s, I n σ s → D.nx σ s) : LoopOk H0 (IteT (T r)) g t1 σ s D := by
  have e : (T r).cps.size = n := by rw [← hn]; exact T_len r
  subst e
  refine ⟨_, _, _, walk_enumT (z := T r), I, h0, fun i σ s H hi q o => trivial, fun i v σ s H H' hi q o ⟨p, c, ev, hp, e, hc⟩ => ?_, hd⟩
  obtain ⟨b, hb, rfl⟩ := T_at hc
  exact ⟨⟨s.L, (p, [.int (i : Int), .str (T [b])]) :: s.T⟩, by rw [e]; exact o.newT hp, by rw [ev]; exact hs i b σ s p hi hb q⟩
theorem cp_enumT {r : List Bool} {tt : TT} {vs : List Nat} (F : Nat → List V) (hn : r.length ≤ 90000) (hF0 : F 0 = []) (hFl : ∀ i, i ≤ r.length → (F i).length ≤ i)
    (hs : ∀ D i b p, i < r.length → r[i]? = some b → WG H0 g (.ref p) (wipe σ vs) ⟨(D, .lst (F i)) :: s.L, (p, [.int (i : Int), .str (T [b])]) :: s.T⟩ fun σ2 s2 => wipe σ2 vs = wipe σ vs ∧ WT H0 tt σ2 s2 fun b s3 =>
      (b = true → WE H0 te σ2 s3 fun y s4 => Sub ⟨(D, .lst (F i)) :: s.L, s.T⟩ s4 ∧ F (i + 1) = F i ++ [y]) ∧ (b = false → Sub ⟨(D, .lst (F i)) :: s.L, s.T⟩ s3 ∧ F (i + 1) = F i)) (hq : ∀ D, H0 D = none → Q (.ref D) ⟨(D, .lst (F r.length)) :: s.L, s.T⟩) : CompOk H0 (IteT (T r)) g tt te σ vs s Q := by
  have e : (T r).cps.size = r.length := T_len r
  refine cp_core (n := r.length) (e ▸ walk_enumT (z := T r)) hn F hF0 hFl (fun D x H o => trivial) (fun D i v H H' hi o ⟨p, c, ev, hp, e, hc⟩ => ?_) hq
  obtain ⟨b, hb, rfl⟩ := T_at hc
  exact ⟨⟨(D, .lst (F i)) :: s.L, (p, [.int (i : Int), .str (T [b])]) :: s.T⟩, by rw [e]; exact o.newT hp, by rw [ev]; exact hs D i b p hi hb⟩
theorem wt_yes {Q : Bool → Ld → Prop} (q : Q true s) : WT H0 tYes σ s Q := fun H o R k => k true H s o q
theorem we_lstRg1 (h : WE H0 te σ s fun x s1 => ∃ n : Int, x = .int n ∧ (0 ≤ n ∧ n ≤ 100000) ∧ ∀ p, H0 p = none → Q (.ref p) ⟨(p, .lst (rgV 0 n)) :: s1.L, s1.T⟩) : WE H0 (tLstRg (tRg1 te)) σ s Q := fun H o R k =>
  h H o _ fun x H1 s1 o1 ⟨n, e, hn, q⟩ => ⟨n, e, RgOk.of_le (by omega) (by omega) (by omega) (by omega), fun p hp => k _ _ _ (o1.new hp) (q p (fresh_back o1.ex hp))⟩
end
end BM
/-! rows as lists of truths: depths, right, deeds -/
namespace BM
def sg (b : Bool) : Int := if b then 1 else -1
def hgt : List Bool → Int
  | [] => 0
  | b :: r => sg b + hgt r
theorem hgt_app : ∀ r u : List Bool, hgt (r ++ u) = hgt r + hgt u
  | [], u => by simp [hgt]
  | b :: r, u => by simp only [List.cons_append, hgt, hgt_app r u]; omega
def dps (r : List Bool) : List Int := (List.range (r.length + 1)).map fun j => hgt (r.take j)
theorem dps_len (r : List Bool) : (dps r).length = r.length + 1 := by simp [dps]
theorem dps_nil : dps [] = [0] := rfl
theorem dps_snoc (r : List Bool) (b : Bool) : dps (r ++ [b]) = dps r ++ [hgt r + sg b] := by
  unfold dps
  rw [List.length_append, List.range_succ, List.map_append]
  congr 1
  · have e : r.length + [b].length = r.length + 1 := rfl
    rw [e]
    apply List.map_congr_left
    intro j hj
    have := List.mem_range.mp hj
    rw [List.take_append_of_le_length (by omega)]
  · simp only [List.length_cons, List.length_nil, List.map_cons, List.map_nil]
    rw [List.take_of_length_le (by simp), hgt_app]
    simp [hgt]
theorem dps_get {r : List Bool} {j : Nat} (h : j ≤ r.length) : (dps r)[j]? = some (hgt (r.take j)) := by
  unfold dps
  rw [List.getElem?_map, List.getElem?_range (by omega)]
  rfl
theorem dps_last (r : List Bool) : (dps r)[r.length]? = some (hgt r) := by rw [dps_get (Nat.le_refl _), List.take_length]
theorem mem_dps {r : List Bool} {z : Int} : z ∈ dps r ↔ ∃ j, j ≤ r.length ∧ z = hgt (r.take j) := by
  unfold dps
  simp only [List.mem_map, List.mem_range]
  constructor
  · rintro ⟨j, h, rfl⟩
    exact ⟨j, by omega, rfl⟩
  · rintro ⟨j, h, rfl⟩
    exact ⟨j, by omega, rfl⟩
theorem take_snoc {α : Type} {l : List α} {i : Nat} {x : α} (h : l[i]? = some x) : l.take (i + 1) = l.take i ++ [x] := by
  rw [List.take_succ, h]
  rfl
/-- right -/
def isR (r : List Bool) : Bool := decide (hgt r = 0) && (dps r).all fun z => decide (0 ≤ z)
theorem isR_iff {r : List Bool} : isR r = true ↔ hgt r = 0 ∧ ∀ j, j ≤ r.length → 0 ≤ hgt (r.take j) := by
  unfold isR
  simp only [Bool.and_eq_true, decide_eq_true_eq, List.all_eq_true]
  constructor
  · rintro ⟨h1, h2⟩
    exact ⟨h1, fun j hj => h2 _ (mem_dps.mpr ⟨j, hj, rfl⟩)⟩
  · rintro ⟨h1, h2⟩
    refine ⟨h1, fun z hz => ?_⟩
    obtain ⟨j, hj, rfl⟩ := mem_dps.mp hz
    exact h2 j hj
/-- neighbours change places -/
def swp (r : List Bool) (p : Nat) : List Bool := r.take p ++ (r.drop (p + 1)).take 1 ++ (r.drop p).take 1 ++ r.drop (p + 2)
theorem swp_len {r : List Bool} {p : Nat} (h : p + 1 < r.length) : (swp r p).length = r.length := by
  unfold swp
  simp
  omega
def flp (ps : List Int) (r : List Bool) : List Bool := r.mapIdx fun i b => if ((i : Int) ∈ ps) then !b else b
theorem flp_len (ps : List Int) (r : List Bool) : (flp ps r).length = r.length := by simp [flp]
theorem flp_flp (ps : List Int) (r : List Bool) : flp ps (flp ps r) = r := by
  unfold flp
  apply List.ext_getElem?
  intro i
  simp only [List.getElem?_mapIdx, Option.map_map]
  cases h : r[i]? with
  | none => simp
  | some b =>
    simp only [Option.map_some, Function.comp]
    by_cases e : ((i : Int) ∈ ps) <;> simp [e]
def rnd (r : List Bool) (f b : Nat) : List Bool := r.take f ++ ((r.drop f).take (b - f)).reverse ++ r.drop b
theorem rnd_len {r : List Bool} {f b : Nat} (h : f ≤ b) (h2 : b ≤ r.length) : (rnd r f b).length = r.length := by
  unfold rnd
  simp
  omega
theorem rnd_rnd {r : List Bool} {f b : Nat} (h : f ≤ b) (h2 : b ≤ r.length) : rnd (rnd r f b) f b = r := by
  have e1 : (r.take f).length = f := by simp; omega
  have e2 : (((r.drop f).take (b - f)).reverse).length = b - f := by simp; omega
  unfold rnd
  have t1 : (r.take f ++ ((r.drop f).take (b - f)).reverse ++ r.drop b).take f = r.take f := by
    rw [List.append_assoc, List.take_append_of_le_length (by omega), List.take_of_length_le (by omega)]
  have t2 : (r.take f ++ ((r.drop f).take (b - f)).reverse ++ r.drop b).drop f = ((r.drop f).take (b - f)).reverse ++ r.drop b := by
    rw [List.append_assoc, List.drop_append_of_le_length (by omega), List.drop_of_length_le (by omega), List.nil_append]
  have t3 : (r.take f ++ ((r.drop f).take (b - f)).reverse ++ r.drop b).drop b = r.drop b := by
    have e3 : (r.take f ++ ((r.drop f).take (b - f)).reverse).length = b := by rw [List.length_append, e1, e2]; omega
    rw [List.drop_append_of_le_length (by omega), List.drop_of_length_le (by omega), List.nil_append]
  rw [t1, t2, t3]
  have t4 : (((r.drop f).take (b - f)).reverse ++ r.drop b).take (b - f) = ((r.drop f).take (b - f)).reverse := by
    rw [List.take_append_of_le_length (by omega), List.take_of_length_le (by omega)]
  rw [t4, List.reverse_reverse]
  have t5 : (r.drop f).take (b - f) ++ r.drop b = r.drop f := by
    have : r.drop b = (r.drop f).drop (b - f) := by
      rw [List.drop_drop]
      congr 1
      omega
    rw [this, List.take_append_drop]
  rw [List.append_assoc, t5, List.take_append_drop]
/-- whether neighbours may change places -/
def swOk (r : List Bool) (p : Int) : Bool := decide (0 ≤ p) && decide (p < (r.length : Int) - 1) && decide (r[p.toNat]? ≠ r[p.toNat + 1]?)
def swAll : List Bool → List Int → Option (List Bool)
  | r, [] => some r
  | r, p :: ps => if swOk r p then swAll (swp r p.toNat) ps else none
theorem swAll_app : ∀ (ps qs : List Int) (r : List Bool), swAll r (ps ++ qs) = (swAll r ps).bind fun u => swAll u qs
  | [], qs, r => rfl
  | p :: ps, qs, r => by
    simp only [List.cons_append, swAll]
    split
    · exact swAll_app ps qs _
    · rfl
/-- the neighbours at p in the middle -/
theorem split_at {r : List Bool} {p : Nat} (h : p + 1 < r.length) : ∃ u v a b, r = u ++ a :: b :: v ∧ u.length = p := by
  refine ⟨r.take p, r.drop (p + 2), r[p], r[p + 1], ?_, by simp; omega⟩
  have h1 : r.drop p = r[p] :: r.drop (p + 1) := List.drop_eq_getElem_cons (by omega)
  have h2 : r.drop (p + 1) = r[p + 1] :: r.drop (p + 2) := List.drop_eq_getElem_cons h
  rw [← h2, ← h1, List.take_append_drop]
theorem swp_split (u v : List Bool) (a b : Bool) : swp (u ++ a :: b :: v) u.length = u ++ b :: a :: v := by
  unfold swp
  have e1 : (u ++ a :: b :: v).take u.length = u := by simp
  have e2 : (u ++ a :: b :: v).drop u.length = a :: b :: v := by simp
  have e3 : (u ++ a :: b :: v).drop (u.length + 1) = b :: v := by
    rw [← List.drop_drop, e2]
    rfl
  have e4 : (u ++ a :: b :: v).drop (u.length + 2) = v := by
    rw [← List.drop_drop, e2]
    rfl
  rw [e1, e2, e3, e4]
  simp
theorem swOk_split (u v : List Bool) (a b : Bool) : swOk (u ++ a :: b :: v) (u.length : Int) = decide (a ≠ b) := by
  unfold swOk
  have h1 : (0 : Int) ≤ (u.length : Int) := by omega
  have h2 : (u.length : Int) < ((u ++ a :: b :: v).length : Int) - 1 := by simp; omega
  have h3 : (u ++ a :: b :: v)[u.length]? = some a := by simp
  have h4 : (u ++ a :: b :: v)[u.length + 1]? = some b := by
    rw [List.getElem?_append_right (by omega)]
    simp
  rw [Int.toNat_natCast, h3, h4]
  simp only [h1, h2, decide_true, Bool.true_and]
  by_cases e : a = b <;> simp [e]
theorem swOk_len {r : List Bool} {p : Int} (h : swOk r p = true) : 0 ≤ p ∧ p.toNat + 1 < r.length := by
  unfold swOk at h
  simp only [Bool.and_eq_true, decide_eq_true_eq] at h
  omega
theorem swp_swp {r : List Bool} {p : Int} (h : swOk r p = true) : swOk (swp r p.toNat) p = true ∧ swp (swp r p.toNat) p.toNat = r := by
  obtain ⟨h0, h1⟩ := swOk_len h
  obtain ⟨u, v, a, b, rfl, e⟩ := split_at h1
  have ep : p = (u.length : Int) := by omega
  subst ep
  rw [Int.toNat_natCast, swp_split, swOk_split, swp_split]
  rw [swOk_split] at h
  refine ⟨?_, rfl⟩
  simp only [decide_eq_true_eq] at h ⊢
  exact fun z => h z.symm
theorem swAll_back : ∀ (ps : List Int) (r u : List Bool), swAll r ps = some u → swAll u ps.reverse = some r
  | [], r, u, h => by
    simp only [swAll] at h
    cases h
    rfl
  | p :: ps, r, u, h => by
    simp only [swAll] at h
    split at h
    · rename_i hp
      have ih := swAll_back ps _ _ h
      rw [List.reverse_cons, swAll_app, ih]
      obtain ⟨h1, h2⟩ := swp_swp hp
      show swAll (swp r p.toNat) [p] = some r
      simp only [swAll, h1, h2, if_true]
    · cases h
def rnAll (r : List Bool) (ps : List (Int × Int)) : List Bool := ps.foldl (fun u p => rnd u p.1.toNat p.2.toNat) r
def stOk (n : Nat) (p : Int × Int) : Prop := 0 ≤ p.1 ∧ p.1 < p.2 ∧ p.2 ≤ (n : Int)
instance (n : Nat) (p : Int × Int) : Decidable (stOk n p) := by unfold stOk; infer_instance
theorem rnAll_len : ∀ (ps : List (Int × Int)) (r : List Bool), (∀ p ∈ ps, stOk r.length p) → (rnAll r ps).length = r.length
  | [], r, _ => rfl
  | p :: ps, r, h => by
    have hp := h p List.mem_cons_self
    unfold stOk at hp
    have e : (rnd r p.1.toNat p.2.toNat).length = r.length := rnd_len (by omega) (by omega)
    show (rnAll (rnd r p.1.toNat p.2.toNat) ps).length = _
    rw [rnAll_len ps _ (fun q hq => by rw [e]; exact h q (List.mem_cons_of_mem _ hq)), e]
theorem rnAll_back : ∀ (ps : List (Int × Int)) (r : List Bool), (∀ p ∈ ps, stOk r.length p) → rnAll (rnAll r ps) ps.reverse = r
  | [], r, _ => rfl
  | p :: ps, r, h => by
    have hp := h p List.mem_cons_self
    unfold stOk at hp
    have e : (rnd r p.1.toNat p.2.toNat).length = r.length := rnd_len (by omega) (by omega)
    have ih := rnAll_back ps (rnd r p.1.toNat p.2.toNat) (fun q hq => by rw [e]; exact h q (List.mem_cons_of_mem _ hq))
    show rnAll (rnAll (rnd r p.1.toNat p.2.toNat) ps) (p :: ps).reverse = r
    rw [List.reverse_cons]
    unfold rnAll at ih ⊢
    rw [List.foldl_append, ih]
    show rnd (rnd r p.1.toNat p.2.toNat) p.1.toNat p.2.toNat = r
    exact rnd_rnd (by omega) (by omega)
end BM
namespace BM
open PySem L2 Evl
/-- where the classes stand -/
structure CA where
  c_BracketError : Addr
  c_BadRow : Addr
  c_BadPlaces : Addr
  c_BadStretches : Addr
  c_BadNumber : Addr
  c_BadBracket : Addr
  c_NotSo : Addr
  c_TooMany : Addr
  c_Answer : Addr
  c_Uneven : Addr
  c_Odd : Addr
  c_Swapped : Addr
  c_Turned : Addr
  c_Rounded : Addr
  c_Growing : Addr
/-- a value is handed back that is so; all else stays -/
def spP (pre : List V → Hp → Prop) (post : List V → V → Prop) : Sp := fun vs H Q _ => pre vs H ∧ ∀ v H', post vs v → Ex H H' → Q v H'
theorem wc_P {H0 : Hp} {s : Ld} {Q : V → Ld → Prop} {pre : List V → Hp → Prop} {post : List V → V → Prop} {E : XK} {vs : List V} (h : ∀ H, Own H0 H s → pre vs H) (q : ∀ v, post vs v → Q v s) : WC H0 (spP pre post) E vs s Q := fun H o R' k => ⟨h H o, fun v H' p e => k _ _ _ (o.ext e) (q v p)⟩
theorem body_P {H : Hp} {t : TS} {N : List Str} {vs : List V} {Q : VK} {P : V → Prop} (h : WS H t (start N vs) ⟨[], []⟩ { nx := fun _ _ => P .non, rt := fun u _ => P u }) (k : ∀ v H', P v → Ex H H' → Q v H') : t { nx := fun _ H' => Q .non H', rt := Q } (start N vs) H :=
  h H (Own.start H) _ ⟨(fun σ H' s o e => k _ H' e o.ex), (fun u H' s o e => k u H' e o.ex), (fun _ _ _ _ q => q.elim), (fun _ _ _ _ q => q.elim)⟩
/-- raise C(..), nothing told but its class -/
def tRaiseX (cls : Addr) (E : XK) : TS := fun _ σ H => E (.ref cls) none H
theorem ws_raise {H0 : Hp} {σ : L2.St} {s : Ld} {D : Dl} {c : Addr} {E : XK} (h : ∀ H, Own H0 H s → E (.ref c) none H) : WS H0 (tRaiseX c E) σ s D := fun H o D' l => h H o
section

def Pairs (K : PySem.W.Frag) (H : Hp) (a : Addr) (ps : List (Int × Int)) : Prop := ∃ xs, SqL K H a xs ∧ PairsIn K H xs ps
def sp_is_whole (K : PySem.W.Frag) (C : CA) : Sp := fun vs H Q _ => ∃ x t b1 b2, vs = [x] ∧ TyX K H x t ∧ PySem.W.kitOne K t (.type "int") = some b1 ∧ PySem.W.kitOne K t (.type "bool") = some b2 ∧ ∀ H', Ex H H' → Q (.bl (b1 && !b2)) H'
def sp_asked_row (K : PySem.W.Frag) (C : CA) : Sp := spV fun vs H v => ∃ r : List Bool, vs = [.str (T r)] ∧ r.length ≤ 40 ∧ v = .non
def sp_deepens (K : PySem.W.Frag) (C : CA) : Sp := spV fun vs H v => ∃ b : Bool, vs = [.str (T [b])] ∧ v = .int (sg b)
def sp_depths_of (K : PySem.W.Frag) (C : CA) : Sp := spL fun vs H xs => ∃ r : List Bool, vs = [.str (T r)] ∧ r.length ≤ 1000 ∧ xs = (dps r).map V.int
def sp_is_right_row (K : PySem.W.Frag) (C : CA) : Sp := spV fun vs H v => ∃ r : List Bool, vs = [.str (T r)] ∧ r.length ≤ 1000 ∧ v = .bl (isR r)
def sp_flipped (K : PySem.W.Frag) (C : CA) : Sp := spV fun vs H v => ∃ b : Bool, vs = [.str (T [b])] ∧ v = .str (T [!b])
def sp_swapped (K : PySem.W.Frag) (C : CA) : Sp := spV fun vs H v => ∃ (r : List Bool) (p : Int), vs = [.str (T r), .int p] ∧ r.length ≤ 1000 ∧ 0 ≤ p ∧ p.toNat + 1 < r.length ∧ v = .str (T (swp r p.toNat))
def sp_turned (K : PySem.W.Frag) (C : CA) : Sp := spV fun vs H v => ∃ (r : List Bool) (a : Addr) (ps : List Int), vs = [.str (T r), .ref a] ∧ r.length ≤ 1000 ∧ SqL K H a (ps.map V.int) ∧ v = .str (T (flp ps r))
def sp_rounded (K : PySem.W.Frag) (C : CA) : Sp := spV fun vs H v => ∃ (r : List Bool) (f b : Int), vs = [.str (T r), .int f, .int b] ∧ r.length ≤ 1000 ∧ stOk r.length (f, b) ∧ v = .str (T (rnd r f.toNat b.toNat))
def sp_depths (K : PySem.W.Frag) (C : CA) : Sp := spL fun vs H xs => ∃ r : List Bool, vs = [.str (T r)] ∧ r.length ≤ 40 ∧ xs = (dps r).map V.int
def sp_is_right (K : PySem.W.Frag) (C : CA) : Sp := spV fun vs H v => ∃ r : List Bool, vs = [.str (T r)] ∧ r.length ≤ 40 ∧ v = .bl (isR r)
def sp_asked_places (K : PySem.W.Frag) (C : CA) : Sp := spV fun vs H v => ∃ (x : V) (a : Addr) (l : Int) (ps : List Int), vs = [x, .ref a, .int l] ∧ H a = some (.lst (ps.map V.int)) ∧ ps.length ≤ 400 ∧ (∀ p ∈ ps, 0 ≤ p ∧ p ≤ l) ∧ v = .non
def sp_after_swaps (K : PySem.W.Frag) (C : CA) : Sp := fun vs H Q E => ∃ (r : List Bool) (a : Addr) (ps : List Int), vs = [.str (T r), .ref a] ∧ r.length ≤ 40 ∧ H a = some (.lst (ps.map V.int)) ∧ ps.length ≤ 400 ∧ (∀ p ∈ ps, 0 ≤ p ∧ p ≤ (r.length : Int) - 2) ∧
  (∀ u, swAll r ps = some u → ∀ H', Ex H H' → Q (.str (T u)) H') ∧ (swAll r ps = none → ∀ H', Ex H H' → E (.ref C.c_NotSo) none H')
def sp_after_turns (K : PySem.W.Frag) (C : CA) : Sp := spV fun vs H v => ∃ (r : List Bool) (a : Addr) (ps : List Int), vs = [.str (T r), .ref a] ∧ r.length ≤ 40 ∧ H a = some (.lst (ps.map V.int)) ∧ ps.length ≤ 400 ∧ (∀ p ∈ ps, 0 ≤ p ∧ p ≤ (r.length : Int) - 1) ∧ ps.Pairwise (· < ·) ∧ v = .str (T (flp ps r))
def sp_is_stretch (K : PySem.W.Frag) (C : CA) : Sp := spV fun vs H v => ∃ (r : List Bool) (t : Addr) (p : Int × Int), vs = [.str (T r), .ref t] ∧ r.length ≤ 1000 ∧ H t = some (.tup [.int p.1, .int p.2]) ∧ v = .bl (decide (stOk r.length p))
def PairsT (H : Hp) (a : Addr) (ps : List (Int × Int)) : Prop := ∃ xs, H a = some (.lst xs) ∧ Paired (fun x (p : Int × Int) => ∃ t, x = V.ref t ∧ H t = some (.tup [.int p.1, .int p.2])) xs ps
def sp_after_rounds (K : PySem.W.Frag) (C : CA) : Sp := spV fun vs H v => ∃ (r : List Bool) (a : Addr) (ps : List (Int × Int)), vs = [.str (T r), .ref a] ∧ r.length ≤ 40 ∧ PairsT H a ps ∧ ps.length ≤ 400 ∧ (∀ p ∈ ps, stOk r.length p) ∧ v = .str (T (rnAll r ps))
/-! the law's own -/
def sp__law_number (K : PySem.W.Frag) (C : CA) : Sp := spP (fun vs H => ∃ c a w : Int, vs = [.int c, .int a, .int w] ∧ 0 ≤ a ∧ a ≤ 1000000) fun vs v => ∃ n : Int, v = .int n
def sp__law_row (K : PySem.W.Frag) (C : CA) : Sp := spP (fun vs H => ∃ (a : Addr) (ns : List Int) (k m : Int) (e : Bool), vs = [.ref a, .int k, .int m, .bl e] ∧ SqL K H a (ns.map V.int) ∧ ns.length ≤ 63 ∧ 0 ≤ k ∧ k ≤ 1000 ∧ 0 ≤ m ∧ m ≤ 40)
  fun vs v => ∃ (a : Addr) (k m : Int) (e : Bool) (r : List Bool), vs = [.ref a, .int k, .int m, .bl e] ∧ v = .str (T r) ∧ (r.length : Int) ≤ m ∧ (e = true → hgt r = 0)
def sp__law_depths (K : PySem.W.Frag) (C : CA) : Sp := spL fun vs H xs => ∃ r : List Bool, vs = [.str (T r)] ∧ r.length ≤ 1000 ∧ xs = (dps r).map V.int
def sp__law_good (K : PySem.W.Frag) (C : CA) : Sp := spV fun vs H v => ∃ r : List Bool, vs = [.str (T r)] ∧ r.length ≤ 1000 ∧ v = .bl (isR r)
def sp__law_swap (K : PySem.W.Frag) (C : CA) : Sp := spV fun vs H v => ∃ (r : List Bool) (p : Int), vs = [.str (T r), .int p] ∧ r.length ≤ 1000 ∧ v = if swOk r p then .str (T (swp r p.toNat)) else .non
def sp__law_over (K : PySem.W.Frag) (C : CA) : Sp := spV fun vs H v => ∃ (r : List Bool) (a : Addr) (ps : List Int), vs = [.str (T r), .ref a] ∧ r.length ≤ 1000 ∧ SqL K H a (ps.map V.int) ∧ (∀ p ∈ ps, 0 ≤ p ∧ p < (r.length : Int)) ∧ v = .str (T (flp ps r))
def sp__law_round (K : PySem.W.Frag) (C : CA) : Sp := spV fun vs H v => ∃ (r : List Bool) (a : Addr) (ps : List (Int × Int)), vs = [.str (T r), .ref a] ∧ r.length ≤ 1000 ∧ Pairs K H a ps ∧ v = if (∀ p ∈ ps, stOk r.length p) then .str (T (rnAll r ps)) else .non
end
end BM
namespace BM
open PySem L2 Evl PyProof.Rows
def N_is_whole : List Str := ["thing"]
def rd_is_whole (K : PySem.W.Frag) (C_ : CA) : TS :=
    (tRet (tAndV (tCB (aIsi K "int") (tCons (tVar 0) (tCons (tC (.ty "int")) tNil))) (tNotV (tCB (aIsi K "bool") (tCons (tVar 0) (tCons (tC (.ty "bool")) tNil))))))

def N_asked_row : List Str := ["row", "one"]
def rd_asked_row (K : PySem.W.Frag) (C_ : CA) : TS :=
    (tIfS (tOr (tNot (tB (tCB (aIsi K "str") (tCons (tVar 0) (tCons (tC (.ty "str")) tNil))))) (tOr (tTest (tOp aGt (tCB aLenT (tCons (tVar 0) tNil)) (tC (.int 40)))) (tNot (tB (tCB (aAll K) (tCons (tLc (iStr (tVar 0)) (gName 1) tYes (tOp aInT (tVar 1) (tC (.str (T [true, false])))) [1]) tNil)))))) tNever tNext)

def N_deepens : List Str := ["bracket"]
def rd_deepens (K : PySem.W.Frag) (C_ : CA) : TS :=
    (tRet (tIf (tTest (tOp rEq (tVar 0) (tC (.str (T [true]))))) (tC (.int 1)) (tUn aNeg (tC (.int 1)))))

def N_depths_of : List Str := ["row", "found", "bracket"]
def rd_depths_of (K : PySem.W.Frag) (C_ : CA) : TS :=
    (tSeq (tAsg (tLst (tCons (tC (.int 0)) tNil)) (gName 1))
    (tSeq (tFor (iStr (tVar 0)) (gName 2) (tDrop (tBM K "list" rAppend (tVar 1) (tCons (tOp aAdd (tOp (rIxL K) (tVar 1) (tUn aNeg (tC (.int 1)))) (tCall (sp_deepens K C_) [] E0 (tCons (tVar 2) tNil))) tNil))))
    (tRet (tVar 1))))

def N_is_right_row : List Str := ["row", "found"]
def rd_is_right_row (K : PySem.W.Frag) (C_ : CA) : TS :=
    (tSeq (tAsg (tCall (sp_depths_of K C_) [] E0 (tCons (tVar 0) tNil)) (gName 1))
    (tRet (tAndV (tOp rEq (tOp (rIxL K) (tVar 1) (tUn aNeg (tC (.int 1)))) (tC (.int 0))) (tOp rEq (tCB (rMin K) (tCons (tVar 1) tNil)) (tC (.int 0))))))

def N_flipped : List Str := ["bracket"]
def rd_flipped (K : PySem.W.Frag) (C_ : CA) : TS :=
    (tRet (tIf (tTest (tOp rEq (tVar 0) (tC (.str (T [true]))))) (tC (.str (T [false]))) (tC (.str (T [true])))))

def N_swapped : List Str := ["row", "place"]
def rd_swapped (K : PySem.W.Frag) (C_ : CA) : TS :=
    (tRet (tOp aCatT (tOp aCatT (tOp aCatT (tSl aSlT (tVar 0) tNoPart (tPart (tVar 1))) (tOp aIxT (tVar 0) (tOp aAdd (tVar 1) (tC (.int 1))))) (tOp aIxT (tVar 0) (tVar 1))) (tSl aSlT (tVar 0) (tPart (tOp aAdd (tVar 1) (tC (.int 2)))) tNoPart)))

def N_turned : List Str := ["row", "places", "at", "one"]
def rd_turned (K : PySem.W.Frag) (C_ : CA) : TS :=
    (tRet (tBM K "str" (aJoin K) (tC (.str (T []))) (tCons (tLc (iEnumT (tCons (tVar 0) tNil)) (gTup K 2 (gCons (gName 2) (gCons (gName 3) gNil))) tYes (tIf (tTest (tOp (rIn K false) (tVar 2) (tVar 1))) (tCall (sp_flipped K C_) [] E0 (tCons (tVar 3) tNil)) (tVar 3)) [2, 3]) tNil)))

def N_rounded : List Str := ["row", "first", "behind"]
def rd_rounded (K : PySem.W.Frag) (C_ : CA) : TS :=
    (tRet (tOp aCatT (tOp aCatT (tSl aSlT (tVar 0) tNoPart (tPart (tVar 1))) (tRevT (tSl aSlT (tVar 0) (tPart (tVar 1)) (tPart (tVar 2))))) (tSl aSlT (tVar 0) (tPart (tVar 2)) tNoPart)))

def N_depths : List Str := ["row"]
def rd_depths (K : PySem.W.Frag) (C_ : CA) : TS :=
    (tSeq (tDrop (tCall (sp_asked_row K C_) [] E0 (tCons (tVar 0) tNil)))
    (tRet (tCall (sp_depths_of K C_) [] E0 (tCons (tVar 0) tNil))))

def N_is_right : List Str := ["row"]
def rd_is_right (K : PySem.W.Frag) (C_ : CA) : TS :=
    (tSeq (tDrop (tCall (sp_asked_row K C_) [] E0 (tCons (tVar 0) tNil)))
    (tRet (tCall (sp_is_right_row K C_) [] E0 (tCons (tVar 0) tNil))))

def N_asked_places : List Str := ["row", "places", "last", "place"]
def rd_asked_places (K : PySem.W.Frag) (C_ : CA) : TS :=
    (tSeq (tIfS (tOr (tNot (tB (tCB (aIsi K "list") (tCons (tVar 1) (tCons (tC (.ty "list")) tNil))))) (tTest (tOp aGt (tCB (aLenL K) (tCons (tVar 1) tNil)) (tC (.int 400))))) tNever tNext)
    (tIfS (tNot (tB (tCB (aAll K) (tCons (tLc (iList K (tVar 1)) (gName 3) tYes (tAndV (tCall (sp_is_whole K C_) [] E0 (tCons (tVar 3) tNil)) (tChain aLe aLe (tC (.int 0)) (tVar 3) (tVar 2))) [3]) tNil)))) tNever tNext))

def N_after_swaps : List Str := ["row", "places", "place"]
def rd_after_swaps (K : PySem.W.Frag) (C_ : CA) (E : XK) : TS :=
    (tSeq (tDrop (tCall (sp_asked_row K C_) [] E0 (tCons (tVar 0) tNil)))
    (tSeq (tDrop (tCall (sp_asked_places K C_) [] E0 (tCons (tVar 0) (tCons (tVar 1) (tCons (tOp aSub (tCB aLenT (tCons (tVar 0) tNil)) (tC (.int 2))) tNil)))))
    (tSeq (tFor (iList K (tVar 1)) (gName 2) (tSeq (tIfS (tTest (tOp rEq (tOp aIxT (tVar 0) (tVar 2)) (tOp aIxT (tVar 0) (tOp aAdd (tVar 2) (tC (.int 1)))))) (tRaiseX C_.c_NotSo E) tNext)
    (tAsg (tCall (sp_swapped K C_) [] E0 (tCons (tVar 0) (tCons (tVar 2) tNil))) (gName 0))))
    (tRet (tVar 0)))))

def N_after_turns : List Str := ["row", "places", "at"]
def rd_after_turns (K : PySem.W.Frag) (C_ : CA) : TS :=
    (tSeq (tDrop (tCall (sp_asked_row K C_) [] E0 (tCons (tVar 0) tNil)))
    (tSeq (tDrop (tCall (sp_asked_places K C_) [] E0 (tCons (tVar 0) (tCons (tVar 1) (tCons (tOp aSub (tCB aLenT (tCons (tVar 0) tNil)) (tC (.int 1))) tNil)))))
    (tSeq (tIfS (tNot (tB (tCB (aAll K) (tCons (tLc (iRng2 (tCons (tC (.int 1)) (tCons (tCB (aLenL K) (tCons (tVar 1) tNil)) tNil))) (gName 2) tYes (tOp aLt (tOp (rIxL K) (tVar 1) (tOp aSub (tVar 2) (tC (.int 1)))) (tOp (rIxL K) (tVar 1) (tVar 2))) [2]) tNil)))) tNever tNext)
    (tRet (tCall (sp_turned K C_) [] E0 (tCons (tVar 0) (tCons (tVar 1) tNil)))))))

def N_is_stretch : List Str := ["row", "thing", "one"]
def rd_is_stretch (K : PySem.W.Frag) (C_ : CA) : TS :=
    (tSeq (tIfS (tOr (tNot (tB (tCB (aIsi K "tuple") (tCons (tVar 1) (tCons (tC (.ty "tuple")) tNil))))) (tOr (tTest (tOp rNe (tCB (aLenL K) (tCons (tVar 1) tNil)) (tC (.int 2)))) (tNot (tB (tCB (aAll K) (tCons (tLc (iTup K (tVar 1)) (gName 2) tYes (tCall (sp_is_whole K C_) [] E0 (tCons (tVar 2) tNil)) [2]) tNil)))))) (tRet (tC (.bl false))) tNext)
    (tRet (tChain3 aLe aLt aLe (tC (.int 0)) (tOp (rIxT K) (tVar 1) (tC (.int 0))) (tOp (rIxT K) (tVar 1) (tC (.int 1))) (tCB aLenT (tCons (tVar 0) tNil)))))

def N_after_rounds : List Str := ["row", "stretches", "first", "behind", "one"]
def rd_after_rounds (K : PySem.W.Frag) (C_ : CA) : TS :=
    (tSeq (tDrop (tCall (sp_asked_row K C_) [] E0 (tCons (tVar 0) tNil)))
    (tSeq (tIfS (tOr (tNot (tB (tCB (aIsi K "list") (tCons (tVar 1) (tCons (tC (.ty "list")) tNil))))) (tTest (tOp aGt (tCB (aLenL K) (tCons (tVar 1) tNil)) (tC (.int 400))))) tNever tNext)
    (tSeq (tIfS (tNot (tB (tCB (aAll K) (tCons (tLc (iList K (tVar 1)) (gName 4) tYes (tCall (sp_is_stretch K C_) [] E0 (tCons (tVar 0) (tCons (tVar 4) tNil))) [4]) tNil)))) tNever tNext)
    (tSeq (tFor (iList K (tVar 1)) (gTup K 2 (gCons (gName 2) (gCons (gName 3) gNil))) (tAsg (tCall (sp_rounded K C_) [] E0 (tCons (tVar 0) (tCons (tVar 2) (tCons (tVar 3) tNil)))) (gName 0)))
    (tRet (tVar 0))))))

def N__law_number : List Str := ["_law_cell", "_law_at", "_law_whole", "_law_small", "_law_blend", "_law_more"]
def rd__law_number (K : PySem.W.Frag) (C_ : CA) : TS :=
    (tSeq (tIfS (tTest (tOp aGe (tVar 0) (tOp aPow (tC (.int 10)) (tC (.int 18))))) (tRet (tOp aDiv (tVar 0) (tOp aAdd (tC (.int 1)) (tOp aMod (tVar 1) (tC (.int 7)))))) tNext)
    (tSeq (tAsg (tOp aMod (tVar 0) (tOp aPow (tC (.int 10)) (tC (.int 18)))) (gName 3))
    (tSeq (tAsg (tOp aMod (tOp aAdd (tOp aMul (tOp aAdd (tVar 3) (tOp aMul (tC (.int 977)) (tVar 1))) (tC (.int 48271))) (tVar 2)) (tC (.int 2147483647))) (gName 4))
    (tSeq (tAsg (tOp aMul (tVar 4) (tOp aAdd (tOp aAdd (tVar 3) (tOp aMul (tC (.int 31)) (tVar 1))) (tC (.int 7)))) (gName 5))
    (tRet (tOp aDiv (tOp aMul (tOp aMul (tVar 5) (tOp aAdd (tOp aAdd (tVar 4) (tVar 3)) (tC (.int 5)))) (tOp aAdd (tOp aMul (tVar 4) (tVar 4)) (tC (.int 11)))) (tOp aAdd (tC (.int 1009)) (tVar 1))))))))

def N__law_row : List Str := ["_law_script", "_law_by", "_law_most", "_law_even", "_law_cells", "_law_wide", "_law_at", "_law_found", "_law_more", "_law_whole", "_law_spot", "_law_cell", "_law_number_here", "_law_mixed", "_law_kinds"]
def rd__law_row (K : PySem.W.Frag) (C_ : CA) : TS :=
    (tSeq (tAsg (tIf (tTest (tOp (rNeD K) (tVar 0) (tLst tNil))) (tSl (rSlL K) (tVar 0) tNoPart (tPart (tC (.int 63)))) (tLst (tCons (tC (.int 5)) tNil))) (gName 4))
    (tSeq (tPar 9 7 (tCons (tOp aAdd (tCB aAbs (tCons (tCB (rSum K) (tCons (tVar 4) tNil)) tNil)) (tOp aMul (tC (.int 7)) (tVar 1))) (tCons (tLst tNil) tNil)))
    (tSeq (tAsg (tOp aAdd (tC (.int 1)) (tOp aMod (tOp aDiv (tVar 9) (tC (.int 5))) (tC (.int 6)))) (gName 5))
    (tSeq (tFor (iRng1 (tCons (tOp aMod (tOp aDiv (tVar 9) (tC (.int 30))) (tOp aAdd (tVar 2) (tC (.int 1)))) tNil)) (gName 6) (tSeq (tAsg (tOp aDiv (tVar 6) (tVar 5)) (gName 10))
    (tSeq (tAsg (tOp aAdd (tOp (rIxL K) (tVar 4) (tOp aMod (tOp aAdd (tVar 10) (tVar 1)) (tCB (aLenL K) (tCons (tVar 4) tNil)))) (tOp aDiv (tVar 10) (tCB (aLenL K) (tCons (tVar 4) tNil)))) (gName 11))
    (tSeq (tAsg (tOp aDiv (tCB aAbs (tCons (tCall (sp__law_number K C_) [] E0 (tCons (tVar 11) (tCons (tOp aAdd (tVar 10) (tVar 1)) (tCons (tVar 9) tNil)))) tNil)) (tC (.int 3))) (gName 12))
    (tSeq (tAsg (tCB aIntB (tCons (tOrV (tOp aGt (tOp aMod (tVar 12) (tC (.int 3))) (tC (.int 0))) (tOp rEq (tOp aMod (tVar 6) (tC (.int 2))) (tC (.int 0)))) tNil)) (gName 13))
    (tSeq (tAsg (tTup (tCons (tOp aMod (tVar 12) (tC (.int 2))) (tCons (tOp aMod (tVar 6) (tC (.int 2))) (tCons (tOp aSub (tC (.int 1)) (tOp aMod (tVar 6) (tC (.int 2)))) (tCons (tVar 13) (tCons (tCB aIntB (tCons (tOp rEq (tOp aMod (tVar 10) (tC (.int 2))) (tC (.int 0))) tNil)) tNil)))))) (gName 14))
    (tDrop (tBM K "list" rAppend (tVar 7) (tCons (tOp aIxT (tC (.str (T [true, false]))) (tOp (rIxT K) (tVar 14) (tOp aMod (tVar 9) (tC (.int 5))))) tNil)))))))))
    (tSeq (tAsg (tIf (tB (tVar 3)) (tSl (rSlL K) (tVar 7) tNoPart (tPart (tOp aMul (tOp aDiv (tCB (aLenL K) (tCons (tVar 7) tNil)) (tC (.int 2))) (tC (.int 2))))) (tVar 7)) (gName 7))
    (tSeq (tAsg (tOp aSub (tBM K "list" (aCount K) (tVar 7) (tCons (tC (.str (T [true]))) tNil)) (tBM K "list" (aCount K) (tVar 7) (tCons (tC (.str (T [false]))) tNil))) (gName 8))
    (tSeq (tFor (iRng1 (tCons (tCB (aLenL K) (tCons (tVar 7) tNil)) tNil)) (gName 6) (tSeq (tAsg (tOp aMod (tOp aAdd (tVar 6) (tVar 9)) (tCB (aLenL K) (tCons (tVar 7) tNil))) (gName 10))
    (tIfS (tAnd (tB (tVar 3)) (tAnd (tTest (tOp rNe (tVar 8) (tC (.int 0)))) (tTest (tOp rEq (tOp (rIxL K) (tVar 7) (tVar 10)) (tOp aIxT (tC (.str (T [true, false]))) (tCB aIntB (tCons (tOp aLt (tVar 8) (tC (.int 0))) tNil))))))) (tSeq (tAsg (tOp aIxT (tC (.str (T [true, false]))) (tCB aIntB (tCons (tOp aGt (tVar 8) (tC (.int 0))) tNil))) (gSub (tVar 7) (tVar 10) rSetL))
    (tAsg (tIf (tTest (tOp aGt (tVar 8) (tC (.int 0)))) (tOp aSub (tVar 8) (tC (.int 2))) (tOp aAdd (tVar 8) (tC (.int 2)))) (gName 8))) tNext)))
    (tRet (tBM K "str" (aJoin K) (tC (.str (T []))) (tCons (tVar 7) tNil))))))))))

def N__law_depths : List Str := ["_law_row_here", "_law_found", "_law_bracket"]
def rd__law_depths (K : PySem.W.Frag) (C_ : CA) : TS :=
    (tSeq (tAsg (tLst (tCons (tC (.int 0)) tNil)) (gName 1))
    (tSeq (tFor (iStr (tVar 0)) (gName 2) (tDrop (tBM K "list" rAppend (tVar 1) (tCons (tOp aAdd (tOp (rIxL K) (tVar 1) (tUn aNeg (tC (.int 1)))) (tIf (tTest (tOp rEq (tVar 2) (tC (.str (T [true]))))) (tC (.int 1)) (tUn aNeg (tC (.int 1))))) tNil))))
    (tRet (tVar 1))))

def N__law_good : List Str := ["_law_row_here", "_law_stack", "_law_bracket"]
def rd__law_good (K : PySem.W.Frag) (C_ : CA) : TS :=
    (tSeq (tAsg (tC (.int 0)) (gName 1))
    (tSeq (tFor (iStr (tVar 0)) (gName 2) (tSeq (tAsg (tIf (tTest (tOp rEq (tVar 2) (tC (.str (T [true]))))) (tOp aAdd (tVar 1) (tC (.int 1))) (tOp aSub (tVar 1) (tC (.int 1)))) (gName 1))
    (tIfS (tTest (tOp aLt (tVar 1) (tC (.int 0)))) (tRet (tC (.bl false))) tNext)))
    (tRet (tOp rEq (tVar 1) (tC (.int 0))))))

def N__law_swap : List Str := ["_law_row_here", "_law_place", "_law_pair"]
def rd__law_swap (K : PySem.W.Frag) (C_ : CA) : TS :=
    (tSeq (tIfS (tOr (tNot (tTest (tChain aLe aLt (tC (.int 0)) (tVar 1) (tOp aSub (tCB aLenT (tCons (tVar 0) tNil)) (tC (.int 1)))))) (tTest (tOp rEq (tOp aIxT (tVar 0) (tVar 1)) (tOp aIxT (tVar 0) (tOp aAdd (tVar 1) (tC (.int 1))))))) (tRet (tC .non)) tNext)
    (tSeq (tAsg (tOp aCatT (tOp aIxT (tVar 0) (tOp aAdd (tVar 1) (tC (.int 1)))) (tOp aIxT (tVar 0) (tVar 1))) (gName 2))
    (tRet (tOp aCatT (tOp aCatT (tSl aSlT (tVar 0) tNoPart (tPart (tVar 1))) (tVar 2)) (tSl aSlT (tVar 0) (tPart (tOp aAdd (tVar 1) (tC (.int 2)))) tNoPart)))))

def N__law_over : List Str := ["_law_row_here", "_law_places", "_law_found", "_law_at"]
def rd__law_over (K : PySem.W.Frag) (C_ : CA) : TS :=
    (tSeq (tAsg (tCB aListT (tCons (tVar 0) tNil)) (gName 2))
    (tSeq (tFor (iList K (tVar 1)) (gName 3) (tAsg (tOp aIxT (tC (.str (T [true, false]))) (tCB aIntB (tCons (tOp rEq (tOp aIxT (tVar 0) (tVar 3)) (tC (.str (T [true])))) tNil))) (gSub (tVar 2) (tVar 3) rSetL)))
    (tRet (tBM K "str" (aJoin K) (tC (.str (T []))) (tCons (tVar 2) tNil)))))

def N__law_round : List Str := ["_law_row_here", "_law_stretches", "_law_first", "_law_behind", "_law_part", "_law_at"]
def rd__law_round (K : PySem.W.Frag) (C_ : CA) : TS :=
    (tSeq (tFor (iList K (tVar 1)) (gTup K 2 (gCons (gName 2) (gCons (gName 3) gNil))) (tSeq (tIfS (tNot (tTest (tChain3 aLe aLt aLe (tC (.int 0)) (tVar 2) (tVar 3) (tCB aLenT (tCons (tVar 0) tNil))))) (tRet (tC .non)) tNext)
    (tSeq (tAsg (tLc (iRng3 (tCons (tOp aSub (tVar 3) (tC (.int 1))) (tCons (tOp aSub (tVar 2) (tC (.int 1))) (tCons (tUn aNeg (tC (.int 1))) tNil)))) (gName 5) tYes (tOp aIxT (tVar 0) (tVar 5)) [5]) (gName 4))
    (tAsg (tOp aCatT (tOp aCatT (tSl aSlT (tVar 0) tNoPart (tPart (tVar 2))) (tBM K "str" (aJoin K) (tC (.str (T []))) (tCons (tVar 4) tNil))) (tSl aSlT (tVar 0) (tPart (tVar 3)) tNoPart)) (gName 0)))))
    (tRet (tVar 0)))

end BM
namespace BM
open PySem L2 Evl
local macro_rules | `(tactic| walk_at "mem") => `(tactic| first | exact List.mem_cons_self | (refine List.mem_cons_of_mem _ ?_; walk_at "mem"))
local macro_rules | `(tactic| walk_at "swap") => `(tactic| first | exact Swap.here | (refine Swap.there ?_; walk_at "swap"))
local macro_rules | `(tactic| walk_at "subl") => `(tactic| first | exact List.Sublist.refl _ | exact List.nil_sublist _ | (refine List.Sublist.cons_cons _ ?_; walk_at "subl") | (refine List.Sublist.cons _ ?_; walk_at "subl"))
local macro_rules | `(tactic| walk_at "sub") => `(tactic| first | exact Sub.refl _ | (refine ⟨?_, ?_⟩ <;> walk_at "subl"))
local macro_rules | `(tactic| walk_at "isl") => `(tactic| first | exact isL_own (by walk_at "mem") | exact isL_old (by assumption) | assumption)
local macro_rules | `(tactic| walk_at "ist") => `(tactic| first | exact isT_own (by walk_at "mem") | exact isT_old (by assumption) | assumption)
local macro_rules | `(tactic| walk_at "len") => `(tactic| first | omega | decide | (simp only [List.length_map, List.length_take, List.length_drop, List.length_append, List.length_cons, List.length_nil, List.length_reverse, dps_len, flp_len]; omega) | (simp [dps_len, flp_len]; omega) | simp)
local macro_rules | `(tactic| walk_at "b0") => `(tactic| first
  | with_reducible refine' ws_set ?_
  | with_reducible refine' ws_par ?_
  | with_reducible refine' ws_asg ?_
  | with_reducible refine' ws_drop ?_
  | with_reducible refine' ws_ret ?_
  | with_reducible refine' ws_if ?_
  | with_reducible refine' ws_next ?_
  | with_reducible refine' ws_brk ?_
  | with_reducible refine' ws_cont ?_
  | ((with_reducible refine' we_var ?hv ?_); case hv => rfl)
  | with_reducible refine' we_c ?_
  | with_reducible refine' we_op ?_
  | with_reducible refine' we_un ?_
  | with_reducible refine' we_if ?_
  | with_reducible refine' we_and ?_
  | with_reducible refine' we_or ?_
  | with_reducible refine' we_not ?_
  | with_reducible refine' wa_nil ?_
  | with_reducible refine' wa_cons ?_
  | (with_reducible refine' we_lst ?_)
  | (with_reducible refine' we_tup ?_)
  | with_reducible refine' we_cb ?_
  | with_reducible refine' we_call0 ?_
  | with_reducible refine' we_sl ?_
  | with_reducible refine' wo_none ?_
  | (with_reducible refine' wo_some ?_)
  | with_reducible refine' wt_test ?_
  | with_reducible refine' wt_B ?_
  | with_reducible refine' wt_and ?_
  | with_reducible refine' wt_or ?_
  | with_reducible refine' wt_not ?_
  | with_reducible refine' wt_yes ?_
  | with_reducible refine' we_chain ?_
  | with_reducible refine' we_chain3 ?_
  | with_reducible refine' we_revT ?_
  | with_reducible refine' we_revL ?_
  | with_reducible refine' we_bm ?_
  | with_reducible refine' we_bm0 ?_
  | with_reducible refine' ws_for ?_
  | with_reducible refine' we_lc ?_
  | with_reducible refine' wi_list ?_
  | with_reducible refine' wi_tup ?_
  | with_reducible refine' wi_T ?_
  | with_reducible refine' wi_rng1 ?_
  | with_reducible refine' wi_rng2 ?_
  | with_reducible refine' wi_rng3 ?_
  | with_reducible refine' wi_enum ?_
  | with_reducible refine' wi_enumT ?_
  | with_reducible refine' wi_zip ?_
  | with_reducible refine' wg_name ?_
  | with_reducible refine' wg_sub ?_
  | with_reducible refine' wgs_nil ?_
  | with_reducible refine' wgs_cons ?_
  | ((with_reducible refine' wg_tup ?ht ?hn ?_); (case ht => walk_at "ist"); (case hn => rfl))
  | with_reducible refine' w2_add ?_
  | with_reducible refine' w2_sub ?_
  | with_reducible refine' w2_lt ?_
  | with_reducible refine' w2_le ?_
  | with_reducible refine' w2_gt ?_
  | with_reducible refine' w2_ge ?_
  | with_reducible refine' w2_eqI ?_
  | with_reducible refine' w2_neI ?_
  | with_reducible refine' w2_eqT ?_
  | with_reducible refine' w2_neT ?_
  | with_reducible refine' w2_eqB ?_
  | with_reducible refine' w2_neB ?_
  | with_reducible refine' w2_isN ?_
  | with_reducible refine' w2_notN ?_
  | with_reducible refine' w2_isB ?_
  | with_reducible refine' w2_inT ?_
  | with_reducible refine' w1_neg ?_
  | with_reducible refine' wl_abs ?_
  | with_reducible refine' wl_max2 ?_
  | with_reducible refine' wl_min2 ?_
  | with_reducible refine' wl_intB ?_
  | ((with_reducible refine' w2_div ?h ?_); case h => first | omega | (constructor <;> omega))
  | ((with_reducible refine' w2_mod ?h ?_); case h => omega)
  | ((with_reducible refine' w2_catT ?h ?_); case h => walk_at "len")
  | ((with_reducible refine' wsl_T ?h ?_); case h => walk_at "len")
  | ((with_reducible refine' wl_lenT ?h ?_); case h => walk_at "len")
  | ((with_reducible refine' wl_len ?h ?_); case h => walk_at "isl")
  | ((with_reducible refine' wl_len ?h ?_); case h => walk_at "isl")
  | ((with_reducible refine' wm_append ?sw ?hl ?_); (case sw => walk_at "swap"); (case hl => walk_at "len")))
local macro_rules | `(tactic| walk_at "b1") => `(tactic| first | with_reducible refine' ws_seq ?_ | walk_at "b0")
local macro_rules | `(tactic| walk_at "bx") => `(tactic| first
  | refine ⟨_, rfl, ?_⟩
  | refine ⟨_, _, rfl, ?_⟩
  | refine ⟨ty_L (by walk_at "isl"), ?_⟩
  | refine ⟨ty_S, ?_⟩
  | refine spl_t (by rfl) ?_
  | refine spl_f (by rfl) ?_
  | exact rfl)
local macro_rules | `(tactic| walk_at "bm") => `(tactic| repeat (first | walk_at "b1" | walk_at "bx"))
local macro_rules | `(tactic| walk_at "bn") => `(tactic| repeat (first | walk_at "b0" | walk_at "bx"))
theorem atI_m1 {α : Type} {xs : List α} {v : α} (h : xs[xs.length - 1]? = some v) : atI xs (-1) = some v := by
  unfold atI ixN
  have hl : xs.length - 1 < xs.length := (List.getElem?_eq_some_iff.mp h).1
  rw [if_neg (by decide), if_pos (by omega)]
  have e : ((-1 : Int) + (xs.length : Int)).toNat = xs.length - 1 := by omega
  rw [e]
  exact h
theorem dps_m1 (r : List Bool) : atI ((dps r).map V.int) (-1) = some (.int (hgt r)) := by
  apply atI_m1
  rw [List.length_map, dps_len, List.getElem?_map]
  have : r.length + 1 - 1 = r.length := by omega
  rw [this, dps_last]
  rfl
theorem atI_of {α : Type} {xs : List α} {v : α} {i : Int} (h0 : 0 ≤ i) (h : xs[i.toNat]? = some v) : atI xs i = some v := by
  have e : i = (i.toNat : Int) := by omega
  rw [e]
  exact atI_nat h
theorem tyX_mono {K : PySem.W.Frag} {H H' : Hp} {x : V} {t : Value} (e : Ex H H') (h : TyX K H x t) : TyX K H' x t := by
  cases h with
  | base h =>
    cases h with
    | non => exact .base .non
    | bl b => exact .base (.bl b)
    | int i => exact .base (.int i)
    | str z => exact .base (.str z)
    | flt z => exact .base (.flt z)
    | lst h => exact .base (.lst (e _ _ h))
    | frz h => exact .base (.frz (e _ _ h))
    | tup h => exact .base (.tup (e _ _ h))
    | dK h => exact .base (.dK (e _ _ h))
    | dT h => exact .base (.dT (e _ _ h))
    | ins h cl ha hn ht hm => exact .base (.ins (e _ _ h) cl ha hn ht hm)
  | byt b => exact .byt b
  | set h => exact .set (e _ _ h)
  | kList h c => exact .kList h c
  | kTuple h c => exact .kTuple h c
  | kDict h c => exact .kDict h c
  | fTuple h => exact .fTuple (e _ _ h)
  | fDict h => exact .fDict (e _ _ h)
theorem ln_deepens {K : PySem.W.Frag} {C : CA} {vs : List V} {H : Hp} {Q : VK} {E : XK} (h : sp_deepens K C vs H Q E) : vs.length = 1 := by
  obtain ⟨v, ⟨b, rfl, _⟩, _⟩ := h
  rfl
theorem c_deepens {K : PySem.W.Frag} {C : CA} {H0 : Hp} {s : Ld} {Q : V → Ld → Prop} {E : XK} {b : Bool} (q : Q (.int (sg b)) s) : WC H0 (sp_deepens K C) E [.str (T [b])] s Q := wc_V (fun H o => ⟨b, rfl, rfl⟩) q
theorem pu_deepens {K : PySem.W.Frag} {C : CA} {vs : List V} {H : Hp} {Q : VK} {E : XK} (h : sp_deepens K C vs H Q E) : rd_deepens K C { nx := fun _ H' => Q .non H', rt := Q } (start N_deepens vs) H := by
  obtain ⟨v, ⟨b, rfl, rfl⟩, k⟩ := h
  refine body_V ?_ k
  unfold rd_deepens
  walk_at "bm"
  cases b
  · refine ⟨fun hc => absurd hc (by decide), fun hc => ?_⟩
    walk_at "bm"
  · refine ⟨fun hc => ?_, fun hc => absurd hc (by decide)⟩
    walk_at "bm"
local macro_rules | `(tactic| walk_at "b0") => `(tactic| with_reducible refine' c_deepens ?_)
theorem ln_depths_of {K : PySem.W.Frag} {C : CA} {vs : List V} {H : Hp} {Q : VK} {E : XK} (h : sp_depths_of K C vs H Q E) : vs.length = 1 := by
  obtain ⟨v, ⟨b, rfl, _⟩, _⟩ := h
  rfl
theorem pu_depths_of {K : PySem.W.Frag} {C : CA} {vs : List V} {H : Hp} {Q : VK} {E : XK} (h : sp_depths_of K C vs H Q E) : rd_depths_of K C { nx := fun _ H' => Q .non H', rt := Q } (start N_depths_of vs) H := by
  obtain ⟨v, ⟨r, rfl, hl, rfl⟩, k⟩ := h
  refine body_L ?_ k
  unfold rd_depths_of
  walk_at "bm"
  refine ⟨by decide, fun p hp => ?_⟩
  walk_at "bm"
  refine lp_T (fun i σ s => ∃ b, σ = [some (.str (T r)), some (.ref p), b] ∧ s = ⟨[(p, .lst ((dps (r.take i)).map V.int))], []⟩) rfl ⟨none, rfl, rfl⟩ ?_ ?_
  · rintro i b σ s hi hb ⟨b0, rfl, rfl⟩
    walk_at "bm"
    refine w2_ixL (by walk_at "isl") (dps_m1 _) ?_
    walk_at "bm"
    refine ⟨_, Sub.refl _, _, rfl, ?_⟩
    rw [take_snoc hb, dps_snoc, List.map_append]
    rfl
  · rintro σ s ⟨b0, rfl, rfl⟩
    walk_at "bm"
    rw [List.take_length]
    exact List.mem_cons_self
theorem c_depths_of {K : PySem.W.Frag} {C : CA} {H0 : Hp} {s : Ld} {Q : V → Ld → Prop} {E : XK} {r : List Bool} (hl : r.length ≤ 1000) (q : ∀ p, H0 p = none → Q (.ref p) ⟨(p, .lst ((dps r).map V.int)) :: s.L, s.T⟩) : WC H0 (sp_depths_of K C) E [.str (T r)] s Q := wc_L (fun H o => ⟨r, rfl, hl, rfl⟩) q
local macro_rules | `(tactic| walk_at "b0") => `(tactic| ((with_reducible refine' c_depths_of ?hl ?_); (case hl => walk_at "len")))
/-- is_whole of an int -/
theorem ln_is_whole {K : PySem.W.Frag} {C : CA} {vs : List V} {H : Hp} {Q : VK} {E : XK} (h : sp_is_whole K C vs H Q E) : vs.length = 1 := by
  obtain ⟨x, t, b1, b2, rfl, _⟩ := h
  rfl
theorem pu_is_whole {K : PySem.W.Frag} {C : CA} {vs : List V} {H : Hp} {Q : VK} {E : XK} (h : sp_is_whole K C vs H Q E) : rd_is_whole K C { nx := fun _ H' => Q .non H', rt := Q } (start N_is_whole vs) H := by
  obtain ⟨x, t, b1, b2, rfl, ty, h1, h2, k⟩ := h
  refine body_V (v := .bl (b1 && !b2)) ?_ k
  unfold rd_is_whole
  walk_at "bm"
  refine wl_isi (tv := t) (b := b1) ?_ h1 ?_
  · intro H' o
    exact tyX_mono o.ex ty
  refine ⟨_, rfl, fun hc => ?_, fun hc => ?_⟩
  · walk_at "bm"
    refine wl_isi (tv := t) (b := b2) ?_ h2 ?_
    · intro H' o
      exact tyX_mono o.ex ty
    refine ⟨_, rfl, ?_⟩
    rw [hc]
    rfl
  · rw [hc]
    rfl
theorem c_is_wholeI {K : PySem.W.Frag} {C : CA} {H0 : Hp} {s : Ld} {Q : V → Ld → Prop} {E : XK} {i : Int} (q : Q (.bl true) s) : WC H0 (sp_is_whole K C) E [.int i] s Q := fun H o R k =>
  ⟨.int i, _, true, false, rfl, .base (.int i), kit_ty (by decide +kernel), kit_ty (by decide +kernel), fun H' e => k _ _ _ (o.ext e) q⟩
local macro_rules | `(tactic| walk_at "b0") => `(tactic| with_reducible refine' c_is_wholeI ?_)
theorem ln_flipped {K : PySem.W.Frag} {C : CA} {vs : List V} {H : Hp} {Q : VK} {E : XK} (h : sp_flipped K C vs H Q E) : vs.length = 1 := by
  obtain ⟨v, ⟨b, rfl, _⟩, _⟩ := h
  rfl
theorem pu_flipped {K : PySem.W.Frag} {C : CA} {vs : List V} {H : Hp} {Q : VK} {E : XK} (h : sp_flipped K C vs H Q E) : rd_flipped K C { nx := fun _ H' => Q .non H', rt := Q } (start N_flipped vs) H := by
  obtain ⟨v, ⟨b, rfl, rfl⟩, k⟩ := h
  refine body_V ?_ k
  unfold rd_flipped
  walk_at "bm"
  cases b
  · refine ⟨fun hc => absurd hc (by decide), fun hc => ?_⟩
    walk_at "bm"
  · refine ⟨fun hc => ?_, fun hc => absurd hc (by decide)⟩
    walk_at "bm"
theorem c_flipped {K : PySem.W.Frag} {C : CA} {H0 : Hp} {s : Ld} {Q : V → Ld → Prop} {E : XK} {b : Bool} (q : Q (.str (T [!b])) s) : WC H0 (sp_flipped K C) E [.str (T [b])] s Q := wc_V (fun H o => ⟨b, rfl, rfl⟩) q
local macro_rules | `(tactic| walk_at "b0") => `(tactic| with_reducible refine' c_flipped ?_)
theorem ln_is_right_row {K : PySem.W.Frag} {C : CA} {vs : List V} {H : Hp} {Q : VK} {E : XK} (h : sp_is_right_row K C vs H Q E) : vs.length = 1 := by
  obtain ⟨v, ⟨b, rfl, _⟩, _⟩ := h
  rfl
theorem hgt_le (r : List Bool) : -(r.length : Int) ≤ hgt r ∧ hgt r ≤ r.length := by
  induction r with
  | nil => simp [hgt]
  | cons b r ih =>
    simp only [hgt, List.length_cons]
    cases b <;> simp only [sg] <;> simp <;> omega
theorem min_dps {r : List Bool} {m : Int} (h1 : m ∈ dps r) (h2 : ∀ y, y ∈ dps r → m ≤ y) (hz : hgt r = 0) : decide (m = 0) = (dps r).all fun z => decide (0 ≤ z) := by
  have h0 : (0 : Int) ∈ dps r := mem_dps.mpr ⟨0, Nat.zero_le _, rfl⟩
  have h3 := h2 0 h0
  by_cases e : m = 0
  · subst e
    rw [decide_eq_true rfl]
    symm
    rw [List.all_eq_true]
    intro z hz
    exact decide_eq_true (h2 z hz)
  · rw [decide_eq_false e]
    symm
    rw [List.all_eq_false]
    exact ⟨m, h1, by simp; omega⟩
theorem pu_is_right_row {K : PySem.W.Frag} {C : CA} {vs : List V} {H : Hp} {Q : VK} {E : XK} (h : sp_is_right_row K C vs H Q E) : rd_is_right_row K C { nx := fun _ H' => Q .non H', rt := Q } (start N_is_right_row vs) H := by
  obtain ⟨v, ⟨r, rfl, hl, rfl⟩, k⟩ := h
  refine body_V ?_ k
  unfold rd_is_right_row
  walk_at "bm"
  intro p hp
  walk_at "bm"
  refine w2_ixL (by walk_at "isl") (dps_m1 _) ?_
  walk_at "bm"
  refine ⟨fun hc => ?_, fun hc => ?_⟩
  · walk_at "bm"
    refine wl_min (by walk_at "isl") (by rw [dps_len]; omega) fun m h1 h2 => ?_
    walk_at "bm"
    have hz : hgt r = 0 := of_decide_eq_true hc
    show V.bl _ = V.bl _
    unfold isR
    rw [hc, min_dps h1 h2 hz]
    rfl
  · show V.bl _ = V.bl _
    unfold isR
    rw [hc]
    rfl
theorem c_is_right_row {K : PySem.W.Frag} {C : CA} {H0 : Hp} {s : Ld} {Q : V → Ld → Prop} {E : XK} {r : List Bool} (hl : r.length ≤ 1000) (q : Q (.bl (isR r)) s) : WC H0 (sp_is_right_row K C) E [.str (T r)] s Q := wc_V (fun H o => ⟨r, rfl, hl, rfl⟩) q
local macro_rules | `(tactic| walk_at "b0") => `(tactic| ((with_reducible refine' c_is_right_row ?hl ?_); (case hl => walk_at "len")))
end BM
namespace BM
open PySem L2 Evl
local macro_rules | `(tactic| walk_at "mem") => `(tactic| first | exact List.mem_cons_self | (refine List.mem_cons_of_mem _ ?_; walk_at "mem"))
local macro_rules | `(tactic| walk_at "swap") => `(tactic| first | exact Swap.here | (refine Swap.there ?_; walk_at "swap"))
local macro_rules | `(tactic| walk_at "subl") => `(tactic| first | exact List.Sublist.refl _ | exact List.nil_sublist _ | (refine List.Sublist.cons_cons _ ?_; walk_at "subl") | (refine List.Sublist.cons _ ?_; walk_at "subl"))
local macro_rules | `(tactic| walk_at "sub") => `(tactic| first | exact Sub.refl _ | (refine ⟨?_, ?_⟩ <;> walk_at "subl"))
local macro_rules | `(tactic| walk_at "isl") => `(tactic| first | exact isL_own (by walk_at "mem") | exact isL_old (by assumption) | assumption)
local macro_rules | `(tactic| walk_at "ist") => `(tactic| first | exact isT_own (by walk_at "mem") | exact isT_old (by assumption) | assumption)
local macro_rules | `(tactic| walk_at "len") => `(tactic| first | omega | decide | (simp only [List.length_map, List.length_take, List.length_drop, List.length_append, List.length_cons, List.length_nil, List.length_reverse, dps_len, flp_len]; omega) | (simp [dps_len, flp_len]; omega) | simp)
local macro_rules | `(tactic| walk_at "b0") => `(tactic| first
  | with_reducible refine' ws_set ?_
  | with_reducible refine' ws_par ?_
  | with_reducible refine' ws_asg ?_
  | with_reducible refine' ws_drop ?_
  | with_reducible refine' ws_ret ?_
  | with_reducible refine' ws_if ?_
  | with_reducible refine' ws_next ?_
  | with_reducible refine' ws_brk ?_
  | with_reducible refine' ws_cont ?_
  | ((with_reducible refine' we_var ?hv ?_); case hv => rfl)
  | with_reducible refine' we_c ?_
  | with_reducible refine' we_op ?_
  | with_reducible refine' we_un ?_
  | with_reducible refine' we_if ?_
  | with_reducible refine' we_and ?_
  | with_reducible refine' we_or ?_
  | with_reducible refine' we_not ?_
  | with_reducible refine' wa_nil ?_
  | with_reducible refine' wa_cons ?_
  | (with_reducible refine' we_lst ?_)
  | (with_reducible refine' we_tup ?_)
  | with_reducible refine' we_cb ?_
  | with_reducible refine' we_call0 ?_
  | with_reducible refine' we_sl ?_
  | with_reducible refine' wo_none ?_
  | (with_reducible refine' wo_some ?_)
  | with_reducible refine' wt_test ?_
  | with_reducible refine' wt_B ?_
  | with_reducible refine' wt_and ?_
  | with_reducible refine' wt_or ?_
  | with_reducible refine' wt_not ?_
  | with_reducible refine' wt_yes ?_
  | with_reducible refine' we_chain ?_
  | with_reducible refine' we_chain3 ?_
  | with_reducible refine' we_revT ?_
  | with_reducible refine' we_revL ?_
  | with_reducible refine' we_bm ?_
  | with_reducible refine' we_bm0 ?_
  | with_reducible refine' ws_for ?_
  | with_reducible refine' we_lc ?_
  | with_reducible refine' wi_list ?_
  | with_reducible refine' wi_tup ?_
  | with_reducible refine' wi_T ?_
  | with_reducible refine' wi_rng1 ?_
  | with_reducible refine' wi_rng2 ?_
  | with_reducible refine' wi_rng3 ?_
  | with_reducible refine' wi_enum ?_
  | with_reducible refine' wi_enumT ?_
  | with_reducible refine' wi_zip ?_
  | with_reducible refine' wg_name ?_
  | with_reducible refine' wg_sub ?_
  | with_reducible refine' wgs_nil ?_
  | with_reducible refine' wgs_cons ?_
  | ((with_reducible refine' wg_tup ?ht ?hn ?_); (case ht => walk_at "ist"); (case hn => rfl))
  | with_reducible refine' w2_add ?_
  | with_reducible refine' w2_sub ?_
  | with_reducible refine' w2_lt ?_
  | with_reducible refine' w2_le ?_
  | with_reducible refine' w2_gt ?_
  | with_reducible refine' w2_ge ?_
  | with_reducible refine' w2_eqI ?_
  | with_reducible refine' w2_neI ?_
  | with_reducible refine' w2_eqT ?_
  | with_reducible refine' w2_neT ?_
  | with_reducible refine' w2_eqB ?_
  | with_reducible refine' w2_neB ?_
  | with_reducible refine' w2_isN ?_
  | with_reducible refine' w2_notN ?_
  | with_reducible refine' w2_isB ?_
  | with_reducible refine' w2_inT ?_
  | with_reducible refine' w1_neg ?_
  | with_reducible refine' wl_abs ?_
  | with_reducible refine' wl_max2 ?_
  | with_reducible refine' wl_min2 ?_
  | with_reducible refine' wl_intB ?_
  | ((with_reducible refine' w2_div ?h ?_); case h => first | omega | (constructor <;> omega))
  | ((with_reducible refine' w2_mod ?h ?_); case h => omega)
  | ((with_reducible refine' w2_catT ?h ?_); case h => walk_at "len")
  | ((with_reducible refine' wsl_T ?h ?_); case h => walk_at "len")
  | ((with_reducible refine' wl_lenT ?h ?_); case h => walk_at "len")
  | ((with_reducible refine' wl_len ?h ?_); case h => walk_at "isl")
  | ((with_reducible refine' wl_len ?h ?_); case h => walk_at "isl")
  | ((with_reducible refine' wm_append ?sw ?hl ?_); (case sw => walk_at "swap"); (case hl => walk_at "len")))
local macro_rules | `(tactic| walk_at "b1") => `(tactic| first | with_reducible refine' ws_seq ?_ | walk_at "b0")
local macro_rules | `(tactic| walk_at "bx") => `(tactic| first
  | refine ⟨_, rfl, ?_⟩
  | refine ⟨_, _, rfl, ?_⟩
  | refine ⟨ty_L (by walk_at "isl"), ?_⟩
  | refine ⟨ty_S, ?_⟩
  | refine spl_t (by rfl) ?_
  | refine spl_f (by rfl) ?_
  | exact rfl)
local macro_rules | `(tactic| walk_at "bm") => `(tactic| repeat (first | walk_at "b1" | walk_at "bx"))
local macro_rules | `(tactic| walk_at "bn") => `(tactic| repeat (first | walk_at "b0" | walk_at "bx"))
local macro_rules | `(tactic| walk_at "b0") => `(tactic| with_reducible refine' c_deepens ?_)
local macro_rules | `(tactic| walk_at "b0") => `(tactic| ((with_reducible refine' c_depths_of ?hl ?_); (case hl => walk_at "len")))
local macro_rules | `(tactic| walk_at "b0") => `(tactic| with_reducible refine' c_is_wholeI ?_)
local macro_rules | `(tactic| walk_at "b0") => `(tactic| with_reducible refine' c_flipped ?_)
local macro_rules | `(tactic| walk_at "b0") => `(tactic| ((with_reducible refine' c_is_right_row ?hl ?_); (case hl => walk_at "len")))
theorem sIx_some {n d : Nat} {v : Int} (h : 0 ≤ v) : HT.sIx n d (some v) = min v.toNat n := by
  unfold HT.sIx
  simp only
  rw [if_neg (by omega)]
theorem cut_hi {α : Type} {r : List α} {p : Int} (h : 0 ≤ p) : cutL r none (some p) = r.take p.toNat := by
  unfold cutL
  rw [sIx_some h, HT.sIx_none, List.drop_zero, Nat.sub_zero]
  rcases Nat.le_total p.toNat r.length with h1 | h1
  · rw [Nat.min_eq_left h1]
  · rw [Nat.min_eq_right h1, List.take_of_length_le h1, List.take_of_length_le (Nat.le_refl _)]
theorem cut_lo {α : Type} {r : List α} {p : Int} (h : 0 ≤ p) : cutL r (some p) none = r.drop p.toNat := by
  unfold cutL
  rw [sIx_some h, HT.sIx_none, List.take_of_length_le (by simp)]
  rcases Nat.le_total p.toNat r.length with h1 | h1
  · rw [Nat.min_eq_left h1]
  · rw [Nat.min_eq_right h1, List.drop_of_length_le h1, List.drop_of_length_le (Nat.le_refl _)]
theorem cut_both {α : Type} {r : List α} {f b : Int} (h : 0 ≤ f) (h1 : f ≤ b) (h2 : b ≤ r.length) : cutL r (some f) (some b) = (r.drop f.toNat).take (b.toNat - f.toNat) := by
  unfold cutL
  rw [sIx_some h, sIx_some (by omega), Nat.min_eq_left (by omega), Nat.min_eq_left (by omega)]
theorem drop_take_one {α : Type} {r : List α} {i : Nat} {x : α} (h : r[i]? = some x) : (r.drop i).take 1 = [x] := by
  have hi : i < r.length := (List.getElem?_eq_some_iff.mp h).1
  rw [List.drop_eq_getElem_cons hi]
  have : r[i] = x := (List.getElem?_eq_some_iff.mp h).2
  rw [this]
  rfl
theorem get_some {α : Type} {r : List α} {i : Nat} (h : i < r.length) : ∃ x, r[i]? = some x := ⟨r[i], List.getElem?_eq_getElem h⟩
theorem ln_swapped {K : PySem.W.Frag} {C : CA} {vs : List V} {H : Hp} {Q : VK} {E : XK} (h : sp_swapped K C vs H Q E) : vs.length = 2 := by
  obtain ⟨v, ⟨b, p, rfl, _⟩, _⟩ := h
  rfl
theorem pu_swapped {K : PySem.W.Frag} {C : CA} {vs : List V} {H : Hp} {Q : VK} {E : XK} (h : sp_swapped K C vs H Q E) : rd_swapped K C { nx := fun _ H' => Q .non H', rt := Q } (start N_swapped vs) H := by
  obtain ⟨v, ⟨r, p, rfl, hl, h0, h1, rfl⟩, k⟩ := h
  refine body_V ?_ k
  unfold rd_swapped
  obtain ⟨x, hx⟩ := get_some (r := r) (i := p.toNat) (by omega)
  obtain ⟨y, hy⟩ := get_some (r := r) (i := p.toNat + 1) (by omega)
  walk_at "bm"
  rw [cut_hi h0]
  walk_at "bm"
  refine w2_ixT (b := y) (by omega) (atI_of (by omega) (by rw [show (p + 1).toNat = p.toNat + 1 by omega]; exact hy)) ?_
  walk_at "bm"
  refine w2_ixT (b := x) (by omega) (atI_of (by omega) hx) ?_
  walk_at "bm"
  rw [cut_lo (by omega)]
  walk_at "bm"
  show V.str (T _) = V.str (T _)
  unfold swp
  rw [drop_take_one hy, drop_take_one hx, show (p + 2).toNat = p.toNat + 2 by omega]
theorem c_swapped {K : PySem.W.Frag} {C : CA} {H0 : Hp} {s : Ld} {Q : V → Ld → Prop} {E : XK} {r : List Bool} {p : Int} (hl : r.length ≤ 1000) (h0 : 0 ≤ p ∧ p.toNat + 1 < r.length) (q : Q (.str (T (swp r p.toNat))) s) : WC H0 (sp_swapped K C) E [.str (T r), .int p] s Q := wc_V (fun H o => ⟨r, p, rfl, hl, h0.1, h0.2, rfl⟩) q
theorem ln_rounded {K : PySem.W.Frag} {C : CA} {vs : List V} {H : Hp} {Q : VK} {E : XK} (h : sp_rounded K C vs H Q E) : vs.length = 3 := by
  obtain ⟨v, ⟨b, p, q, rfl, _⟩, _⟩ := h
  rfl
theorem pu_rounded {K : PySem.W.Frag} {C : CA} {vs : List V} {H : Hp} {Q : VK} {E : XK} (h : sp_rounded K C vs H Q E) : rd_rounded K C { nx := fun _ H' => Q .non H', rt := Q } (start N_rounded vs) H := by
  obtain ⟨v, ⟨r, f, b, rfl, hl, ⟨h0, h1, h2⟩, rfl⟩, k⟩ := h
  simp only at h0 h1 h2
  refine body_V ?_ k
  unfold rd_rounded
  walk_at "bm"
  rw [cut_hi h0]
  walk_at "bm"
  rw [cut_both h0 (by omega) h2]
  refine ⟨by walk_at "len", ?_⟩
  walk_at "bm"
  rw [cut_lo (by omega)]
  walk_at "bm"
theorem c_rounded {K : PySem.W.Frag} {C : CA} {H0 : Hp} {s : Ld} {Q : V → Ld → Prop} {E : XK} {r : List Bool} {f b : Int} (hl : r.length ≤ 1000) (h0 : stOk r.length (f, b)) (q : Q (.str (T (rnd r f.toNat b.toNat))) s) : WC H0 (sp_rounded K C) E [.str (T r), .int f, .int b] s Q := wc_V (fun H o => ⟨r, f, b, rfl, hl, h0, rfl⟩) q
theorem ln_asked_row {K : PySem.W.Frag} {C : CA} {vs : List V} {H : Hp} {Q : VK} {E : XK} (h : sp_asked_row K C vs H Q E) : vs.length = 1 := by
  obtain ⟨v, ⟨b, rfl, _⟩, _⟩ := h
  rfl
theorem mem_tf (b : Bool) : decide (b ∈ [true, false]) = true := by cases b <;> decide
theorem rep_true (n : Nat) : (List.replicate n true).all id = true := by
  rw [List.all_eq_true]
  intro x hx
  exact (List.eq_of_mem_replicate hx)
theorem rep_map {α : Type} (x : α) (n : Nat) {β : Type} (f : α → β) : (List.replicate n x).map f = List.replicate n (f x) := List.map_replicate
theorem pu_asked_row {K : PySem.W.Frag} {C : CA} {vs : List V} {H : Hp} {Q : VK} {E : XK} (h : sp_asked_row K C vs H Q E) : rd_asked_row K C { nx := fun _ H' => Q .non H', rt := Q } (start N_asked_row vs) H := by
  obtain ⟨v, ⟨r, rfl, hl, rfl⟩, k⟩ := h
  refine body_V ?_ k
  unfold rd_asked_row
  walk_at "bm"
  refine wl_isi (tv := .type "str") (b := true) (fun H' o => .base (.str _)) (kit_ty (by decide +kernel)) ?_
  walk_at "bm"
  refine ⟨fun hc => absurd (of_decide_eq_true hc) (by omega), fun _ => ?_⟩
  walk_at "bm"
  refine cp_T (fun i => List.replicate i (.bl true)) (by omega) rfl (fun i _ => by simp) ?_ ?_
  · intro D i b hi hb
    walk_at "bm"
    refine ⟨rfl, ?_⟩
    walk_at "bm"
    refine ⟨Sub.refl _, ?_⟩
    rw [mem_tf, List.replicate_succ']
  · intro D hD
    walk_at "bm"
    refine wl_all (bs := List.replicate r.length true) (by rw [rep_map]; walk_at "isl") ?_
    walk_at "bm"
    rw [rep_true]
    walk_at "bm"
theorem c_asked_row {K : PySem.W.Frag} {C : CA} {H0 : Hp} {s : Ld} {Q : V → Ld → Prop} {E : XK} {r : List Bool} (hl : r.length ≤ 40) (q : Q .non s) : WC H0 (sp_asked_row K C) E [.str (T r)] s Q := wc_V (fun H o => ⟨r, rfl, hl, rfl⟩) q
local macro_rules | `(tactic| walk_at "b0") => `(tactic| ((with_reducible refine' c_asked_row ?hl ?_); (case hl => walk_at "len")))
theorem ln_depths {K : PySem.W.Frag} {C : CA} {vs : List V} {H : Hp} {Q : VK} {E : XK} (h : sp_depths K C vs H Q E) : vs.length = 1 := by
  obtain ⟨v, ⟨b, rfl, _⟩, _⟩ := h
  rfl
theorem pu_depths {K : PySem.W.Frag} {C : CA} {vs : List V} {H : Hp} {Q : VK} {E : XK} (h : sp_depths K C vs H Q E) : rd_depths K C { nx := fun _ H' => Q .non H', rt := Q } (start N_depths vs) H := by
  obtain ⟨v, ⟨r, rfl, hl, rfl⟩, k⟩ := h
  refine body_L ?_ k
  unfold rd_depths
  walk_at "bm"
  intro p hp
  exact ⟨p, rfl, List.mem_cons_self⟩
theorem c_depths {K : PySem.W.Frag} {C : CA} {H0 : Hp} {s : Ld} {Q : V → Ld → Prop} {E : XK} {r : List Bool} (hl : r.length ≤ 40) (q : ∀ p, H0 p = none → Q (.ref p) ⟨(p, .lst ((dps r).map V.int)) :: s.L, s.T⟩) : WC H0 (sp_depths K C) E [.str (T r)] s Q := wc_L (fun H o => ⟨r, rfl, hl, rfl⟩) q
local macro_rules | `(tactic| walk_at "b0") => `(tactic| ((with_reducible refine' c_depths ?hl ?_); (case hl => walk_at "len")))
theorem ln_is_right {K : PySem.W.Frag} {C : CA} {vs : List V} {H : Hp} {Q : VK} {E : XK} (h : sp_is_right K C vs H Q E) : vs.length = 1 := by
  obtain ⟨v, ⟨b, rfl, _⟩, _⟩ := h
  rfl
theorem pu_is_right {K : PySem.W.Frag} {C : CA} {vs : List V} {H : Hp} {Q : VK} {E : XK} (h : sp_is_right K C vs H Q E) : rd_is_right K C { nx := fun _ H' => Q .non H', rt := Q } (start N_is_right vs) H := by
  obtain ⟨v, ⟨r, rfl, hl, rfl⟩, k⟩ := h
  refine body_V ?_ k
  unfold rd_is_right
  walk_at "bm"
theorem c_is_right {K : PySem.W.Frag} {C : CA} {H0 : Hp} {s : Ld} {Q : V → Ld → Prop} {E : XK} {r : List Bool} (hl : r.length ≤ 40) (q : Q (.bl (isR r)) s) : WC H0 (sp_is_right K C) E [.str (T r)] s Q := wc_V (fun H o => ⟨r, rfl, hl, rfl⟩) q
local macro_rules | `(tactic| walk_at "b0") => `(tactic| ((with_reducible refine' c_is_right ?hl ?_); (case hl => walk_at "len")))
theorem ln_turned {K : PySem.W.Frag} {C : CA} {vs : List V} {H : Hp} {Q : VK} {E : XK} (h : sp_turned K C vs H Q E) : vs.length = 2 := by
  obtain ⟨v, ⟨b, p, q, rfl, _⟩, _⟩ := h
  rfl
theorem flat_ints (ns : List Int) : (ns.map V.int).all flatV = true := by
  rw [List.all_map, List.all_eq_true]
  intro x _
  rfl
theorem inV_ints (i : Int) (ns : List Int) : inV (.int i) (ns.map V.int) = decide (i ∈ ns) := by
  unfold inV
  rw [List.any_map]
  induction ns with
  | nil => simp
  | cons n ns ih =>
    rw [List.any_cons, ih]
    show (n == i || _) = _
    by_cases e : n = i
    · subst e
      simp
    · have e' : ¬ i = n := fun z => e z.symm
      simp [e, e']
def flpAt (ps : List Int) (i : Nat) (b : Bool) : Bool := if ((i : Int) ∈ ps) then !b else b
theorem flp_get {ps : List Int} {r : List Bool} {i : Nat} {b : Bool} (h : r[i]? = some b) : (flp ps r)[i]? = some (flpAt ps i b) := by
  unfold flp flpAt
  rw [List.getElem?_mapIdx, h]
  rfl
theorem flat_one (r : List Bool) : (r.map fun b => [b]).flatten = r := by
  induction r with
  | nil => rfl
  | cons b r ih => rw [List.map_cons, List.flatten_cons, ih]; rfl
theorem sum_one (r : List Bool) : ((r.map fun b => [b]).map (·.length)).sum = r.length := by
  induction r with
  | nil => rfl
  | cons b r ih =>
    rw [List.map_cons, List.map_cons, List.sum_cons, ih]
    simp
    omega
theorem ones_map (r : List Bool) : (r.map fun b => V.str (T [b])) = (r.map fun b => [b]).map fun u => V.str (T u) := by
  rw [List.map_map]
  rfl
theorem wm_join1 {K : PySem.W.Frag} {H0 : Hp} {s : Ld} {Q : V → Ld → Prop} {p : Addr} {r : List Bool} (hx : IsL K H0 s p (r.map fun b => .str (T [b]))) (hl : r.length ≤ 100000) (q : Q (.str (T r)) s) : WM H0 (aJoin K) (.str (T [])) [.ref p] s Q :=
  wm_join (rs := r.map fun b => [b]) (by rw [← ones_map]; exact hx) (by rw [sum_one]; exact hl) (by rw [flat_one]; exact q)
theorem pu_turned {K : PySem.W.Frag} {C : CA} {vs : List V} {H : Hp} {Q : VK} {E : XK} (h : sp_turned K C vs H Q E) : rd_turned K C { nx := fun _ H' => Q .non H', rt := Q } (start N_turned vs) H := by
  obtain ⟨v, ⟨r, a, ps, rfl, hl, hp, rfl⟩, k⟩ := h
  refine body_V ?_ k
  unfold rd_turned
  walk_at "bm"
  refine cp_enumT (fun i => ((flp ps r).take i).map fun b => .str (T [b])) (by omega) rfl (fun i _ => by simp; omega) ?_ ?_
  · intro D i b p hi hb
    have hf := flp_get (ps := ps) hb
    walk_at "bm"
    refine ⟨rfl, ?_⟩
    walk_at "bm"
    refine w2_inL (by walk_at "isl") rfl (flat_ints _) ?_
    rw [inV_ints]
    walk_at "bm"
    have hs : Sub ⟨[(D, HO.lst (((flp ps r).take i).map fun b => .str (T [b])))], []⟩ ⟨[(D, HO.lst (((flp ps r).take i).map fun b => .str (T [b])))], [(p, [.int (i : Int), .str (T [b])])]⟩ := by walk_at "sub"
    refine ⟨fun hc => ?_, fun hc => ?_⟩
    · walk_at "bm"
      refine ⟨hs, ?_⟩
      rw [take_snoc hf, List.map_append]
      unfold flpAt
      rw [if_pos (of_decide_eq_true hc)]
      rfl
    · walk_at "bm"
      refine ⟨hs, ?_⟩
      rw [take_snoc hf, List.map_append]
      unfold flpAt
      rw [if_neg (of_decide_eq_false hc)]
      rfl
  · intro D hD
    have e : (flp ps r).take r.length = flp ps r := by rw [List.take_of_length_le (by rw [flp_len]; exact Nat.le_refl _)]
    rw [e]
    walk_at "bm"
    refine wm_join1 (by walk_at "isl") (by rw [flp_len]; omega) ?_
    walk_at "bm"
theorem c_turned {K : PySem.W.Frag} {C : CA} {H0 : Hp} {s : Ld} {Q : V → Ld → Prop} {E : XK} {r : List Bool} {a : Addr} {ps : List Int} (hl : r.length ≤ 1000) (hx : IsL K H0 s a (ps.map V.int)) (q : Q (.str (T (flp ps r))) s) : WC H0 (sp_turned K C) E [.str (T r), .ref a] s Q := wc_V (fun H o => ⟨r, a, ps, rfl, hl, hx H o, rfl⟩) q
end BM
namespace BM
open PySem L2 Evl
local macro_rules | `(tactic| walk_at "mem") => `(tactic| first | exact List.mem_cons_self | (refine List.mem_cons_of_mem _ ?_; walk_at "mem"))
local macro_rules | `(tactic| walk_at "swap") => `(tactic| first | exact Swap.here | (refine Swap.there ?_; walk_at "swap"))
local macro_rules | `(tactic| walk_at "subl") => `(tactic| first | exact List.Sublist.refl _ | exact List.nil_sublist _ | (refine List.Sublist.cons_cons _ ?_; walk_at "subl") | (refine List.Sublist.cons _ ?_; walk_at "subl"))
local macro_rules | `(tactic| walk_at "sub") => `(tactic| first | exact Sub.refl _ | (refine ⟨?_, ?_⟩ <;> walk_at "subl"))
local macro_rules | `(tactic| walk_at "isl") => `(tactic| first | exact isL_own (by walk_at "mem") | exact isL_old (by assumption) | assumption)
local macro_rules | `(tactic| walk_at "ist") => `(tactic| first | exact isT_own (by walk_at "mem") | exact isT_old (by assumption) | assumption)
local macro_rules | `(tactic| walk_at "len") => `(tactic| first | omega | decide | (simp only [List.length_map, List.length_take, List.length_drop, List.length_append, List.length_cons, List.length_nil, List.length_reverse, dps_len, flp_len]; omega) | (simp [dps_len, flp_len]; omega) | simp)
local macro_rules | `(tactic| walk_at "b0") => `(tactic| first
  | with_reducible refine' ws_set ?_
  | with_reducible refine' ws_par ?_
  | with_reducible refine' ws_asg ?_
  | with_reducible refine' ws_drop ?_
  | with_reducible refine' ws_ret ?_
  | with_reducible refine' ws_if ?_
  | with_reducible refine' ws_next ?_
  | with_reducible refine' ws_brk ?_
  | with_reducible refine' ws_cont ?_
  | ((with_reducible refine' we_var ?hv ?_); case hv => rfl)
  | with_reducible refine' we_c ?_
  | with_reducible refine' we_op ?_
  | with_reducible refine' we_un ?_
  | with_reducible refine' we_if ?_
  | with_reducible refine' we_and ?_
  | with_reducible refine' we_or ?_
  | with_reducible refine' we_not ?_
  | with_reducible refine' wa_nil ?_
  | with_reducible refine' wa_cons ?_
  | (with_reducible refine' we_lst ?_)
  | (with_reducible refine' we_tup ?_)
  | with_reducible refine' we_cb ?_
  | with_reducible refine' we_call0 ?_
  | with_reducible refine' we_sl ?_
  | with_reducible refine' wo_none ?_
  | (with_reducible refine' wo_some ?_)
  | with_reducible refine' wt_test ?_
  | with_reducible refine' wt_B ?_
  | with_reducible refine' wt_and ?_
  | with_reducible refine' wt_or ?_
  | with_reducible refine' wt_not ?_
  | with_reducible refine' wt_yes ?_
  | with_reducible refine' we_chain ?_
  | with_reducible refine' we_chain3 ?_
  | with_reducible refine' we_revT ?_
  | with_reducible refine' we_revL ?_
  | with_reducible refine' we_bm ?_
  | with_reducible refine' we_bm0 ?_
  | with_reducible refine' ws_for ?_
  | with_reducible refine' we_lc ?_
  | with_reducible refine' wi_list ?_
  | with_reducible refine' wi_tup ?_
  | with_reducible refine' wi_T ?_
  | with_reducible refine' wi_rng1 ?_
  | with_reducible refine' wi_rng2 ?_
  | with_reducible refine' wi_rng3 ?_
  | with_reducible refine' wi_enum ?_
  | with_reducible refine' wi_enumT ?_
  | with_reducible refine' wi_zip ?_
  | with_reducible refine' wg_name ?_
  | with_reducible refine' wg_sub ?_
  | with_reducible refine' wgs_nil ?_
  | with_reducible refine' wgs_cons ?_
  | ((with_reducible refine' wg_tup ?ht ?hn ?_); (case ht => walk_at "ist"); (case hn => rfl))
  | with_reducible refine' w2_add ?_
  | with_reducible refine' w2_sub ?_
  | with_reducible refine' w2_lt ?_
  | with_reducible refine' w2_le ?_
  | with_reducible refine' w2_gt ?_
  | with_reducible refine' w2_ge ?_
  | with_reducible refine' w2_eqI ?_
  | with_reducible refine' w2_neI ?_
  | with_reducible refine' w2_eqT ?_
  | with_reducible refine' w2_neT ?_
  | with_reducible refine' w2_eqB ?_
  | with_reducible refine' w2_neB ?_
  | with_reducible refine' w2_isN ?_
  | with_reducible refine' w2_notN ?_
  | with_reducible refine' w2_isB ?_
  | with_reducible refine' w2_inT ?_
  | with_reducible refine' w1_neg ?_
  | with_reducible refine' wl_abs ?_
  | with_reducible refine' wl_max2 ?_
  | with_reducible refine' wl_min2 ?_
  | with_reducible refine' wl_intB ?_
  | ((with_reducible refine' w2_div ?h ?_); case h => first | omega | (constructor <;> omega))
  | ((with_reducible refine' w2_mod ?h ?_); case h => omega)
  | ((with_reducible refine' w2_catT ?h ?_); case h => walk_at "len")
  | ((with_reducible refine' wsl_T ?h ?_); case h => walk_at "len")
  | ((with_reducible refine' wl_lenT ?h ?_); case h => walk_at "len")
  | ((with_reducible refine' wl_len ?h ?_); case h => walk_at "isl")
  | ((with_reducible refine' wl_len ?h ?_); case h => walk_at "isl")
  | ((with_reducible refine' wm_append ?sw ?hl ?_); (case sw => walk_at "swap"); (case hl => walk_at "len")))
local macro_rules | `(tactic| walk_at "b1") => `(tactic| first | with_reducible refine' ws_seq ?_ | walk_at "b0")
local macro_rules | `(tactic| walk_at "bx") => `(tactic| first
  | refine ⟨_, rfl, ?_⟩
  | refine ⟨_, _, rfl, ?_⟩
  | refine ⟨ty_L (by walk_at "isl"), ?_⟩
  | refine ⟨ty_S, ?_⟩
  | refine spl_t (by rfl) ?_
  | refine spl_f (by rfl) ?_
  | exact rfl)
local macro_rules | `(tactic| walk_at "bm") => `(tactic| repeat (first | walk_at "b1" | walk_at "bx"))
local macro_rules | `(tactic| walk_at "bn") => `(tactic| repeat (first | walk_at "b0" | walk_at "bx"))
local macro_rules | `(tactic| walk_at "b0") => `(tactic| with_reducible refine' c_deepens ?_)
local macro_rules | `(tactic| walk_at "b0") => `(tactic| ((with_reducible refine' c_depths_of ?hl ?_); (case hl => walk_at "len")))
local macro_rules | `(tactic| walk_at "b0") => `(tactic| with_reducible refine' c_is_wholeI ?_)
local macro_rules | `(tactic| walk_at "b0") => `(tactic| with_reducible refine' c_flipped ?_)
local macro_rules | `(tactic| walk_at "b0") => `(tactic| ((with_reducible refine' c_is_right_row ?hl ?_); (case hl => walk_at "len")))
local macro_rules | `(tactic| walk_at "b0") => `(tactic| ((with_reducible refine' c_asked_row ?hl ?_); (case hl => walk_at "len")))
local macro_rules | `(tactic| walk_at "b0") => `(tactic| ((with_reducible refine' c_depths ?hl ?_); (case hl => walk_at "len")))
local macro_rules | `(tactic| walk_at "b0") => `(tactic| ((with_reducible refine' c_is_right ?hl ?_); (case hl => walk_at "len")))
theorem ln_asked_places {K : PySem.W.Frag} {C : CA} {vs : List V} {H : Hp} {Q : VK} {E : XK} (h : sp_asked_places K C vs H Q E) : vs.length = 3 := by
  obtain ⟨v, ⟨x, a, l, ps, rfl, _⟩, _⟩ := h
  rfl
theorem pu_asked_places {K : PySem.W.Frag} {C : CA} {vs : List V} {H : Hp} {Q : VK} {E : XK} (h : sp_asked_places K C vs H Q E) : rd_asked_places K C { nx := fun _ H' => Q .non H', rt := Q } (start N_asked_places vs) H := by
  obtain ⟨v, ⟨x, a, l, ps, rfl, ha, hl, hr, rfl⟩, k⟩ := h
  have hs : SqL K H a (ps.map V.int) := sq_of ha
  refine body_V ?_ k
  unfold rd_asked_places
  walk_at "bm"
  refine wl_isi (tv := .type "list") (b := true) (fun H' o => .base (.lst (o.ex _ _ ha))) (kit_ty (by decide +kernel)) ?_
  walk_at "bm"
  refine ⟨fun hc => absurd (of_decide_eq_true hc) (by rw [List.length_map]; omega), fun _ => ?_⟩
  walk_at "bm"
  refine ⟨⟨_, isL_old hs⟩, ?_⟩
  refine cp_list (xs := ps.map V.int) (fun i => List.replicate i (.bl true)) (isL_old hs) (by rw [List.length_map]; omega) rfl (fun i _ => by simp) ?_ ?_
  · intro D i y hi hy
    rw [List.getElem?_map] at hy
    obtain ⟨z, hz, rfl⟩ : ∃ z, ps[i]? = some z ∧ y = V.int z := by
      cases e : ps[i]? with
      | none => rw [e] at hy; cases hy
      | some z => rw [e] at hy; exact ⟨z, rfl, (Option.some.inj hy).symm⟩
    have hb := hr z (List.mem_of_getElem? hz)
    walk_at "bm"
    refine ⟨rfl, ?_⟩
    walk_at "bm"
    walk_at "bm"
    refine ⟨fun _ => ?_, fun hc => absurd (of_decide_eq_false hc) (by omega)⟩
    walk_at "bm"
    refine ⟨Sub.refl _, ?_⟩
    rw [decide_eq_true hb.2, List.replicate_succ']
  · intro D hD
    walk_at "bm"
    refine wl_all (bs := List.replicate (ps.map V.int).length true) (by rw [rep_map]; walk_at "isl") ?_
    walk_at "bm"
    rw [rep_true]
    walk_at "bm"
theorem c_asked_places {K : PySem.W.Frag} {C : CA} {H0 : Hp} {s : Ld} {Q : V → Ld → Prop} {E : XK} {x : V} {a : Addr} {l : Int} {ps : List Int} (ha : ∀ H, Own H0 H s → H a = some (.lst (ps.map V.int))) (hl : ps.length ≤ 400) (hr : ∀ p ∈ ps, 0 ≤ p ∧ p ≤ l) (q : Q .non s) : WC H0 (sp_asked_places K C) E [x, .ref a, .int l] s Q :=
  wc_V (fun H o => ⟨x, a, l, ps, rfl, ha H o, hl, hr, rfl⟩) q
theorem ln_after_swaps {K : PySem.W.Frag} {C : CA} {vs : List V} {H : Hp} {Q : VK} {E : XK} (h : sp_after_swaps K C vs H Q E) : vs.length = 2 := by
  obtain ⟨r, a, ps, rfl, _⟩ := h
  rfl
theorem swAll_len : ∀ {ps : List Int} {r u : List Bool}, swAll r ps = some u → u.length = r.length
  | [], r, u, h => by
    simp only [swAll] at h
    cases h
    rfl
  | p :: ps, r, u, h => by
    simp only [swAll] at h
    split at h
    · rename_i hp
      rw [swAll_len h, swp_len (swOk_len hp).2]
    · cases h
theorem swAll_snoc {ps : List Int} {r u : List Bool} {i : Nat} {p : Int} (h : swAll r (ps.take i) = some u) (hp : ps[i]? = some p) : swAll r (ps.take (i + 1)) = if swOk u p then some (swp u p.toNat) else none := by
  rw [take_snoc hp, swAll_app, h]
  show swAll u [p] = _
  simp only [swAll]
theorem swAll_none {ps : List Int} {r : List Bool} {i : Nat} (h : swAll r (ps.take i) = none) : swAll r ps = none := by
  rw [← List.take_append_drop i ps, swAll_app, h]
  rfl
theorem getI {ps : List Int} {i : Nat} {y : V} (hy : (ps.map V.int)[i]? = some y) : ∃ z, ps[i]? = some z ∧ y = V.int z := by
  rw [List.getElem?_map] at hy
  cases e : ps[i]? with
  | none => rw [e] at hy; cases hy
  | some z => rw [e] at hy; exact ⟨z, rfl, (Option.some.inj hy).symm⟩
theorem pu_after_swaps {K : PySem.W.Frag} {C : CA} {vs : List V} {H : Hp} {Q : VK} {E : XK} (h : sp_after_swaps K C vs H Q E) : rd_after_swaps K C E { nx := fun _ H' => Q .non H', rt := Q } (start N_after_swaps vs) H := by
  obtain ⟨r, a, ps, rfl, hl, ha, hps, hr, k1, k2⟩ := h
  have hs : SqL K H a (ps.map V.int) := sq_of ha
  refine body_P (P := fun v => ∃ u, swAll r ps = some u ∧ v = .str (T u)) ?_ (fun v H' ⟨u, hu, e⟩ x => by rw [e]; exact k1 u hu H' x)
  unfold rd_after_swaps
  walk_at "bm"
  refine c_asked_places (fun H' o => o.ex _ _ ha) hps (fun p hp => by have := hr p hp; omega) ?_
  walk_at "bm"
  refine ⟨⟨_, isL_old hs⟩, ?_⟩
  refine lp_list (xs := ps.map V.int) (fun i σ s => ∃ u b, σ = [some (.str (T u)), some (.ref a), b] ∧ s = ⟨[], []⟩ ∧ swAll r (ps.take i) = some u) rfl ⟨r, none, rfl, rfl, rfl⟩ (fun i σ s hi _ => isL_old hs) ?_ ?_
  · rintro i y σ s hi hy ⟨u, b, rfl, rfl, hu⟩
    obtain ⟨z, hz, rfl⟩ := getI hy
    have hb := hr z (List.mem_of_getElem? hz)
    have hlen := swAll_len hu
    obtain ⟨c, hc⟩ := get_some (r := u) (i := z.toNat) (by omega)
    obtain ⟨d, hd⟩ := get_some (r := u) (i := z.toNat + 1) (by omega)
    have hst := swAll_snoc hu hz
    have hok : swOk u z = decide (c ≠ d) := by
      unfold swOk
      rw [hc, hd]
      have h1 : (0 : Int) ≤ z := hb.1
      have h2 : z < (u.length : Int) - 1 := by omega
      by_cases e : c = d <;> simp [h1, h2, e]
    walk_at "bm"
    refine w2_ixT (b := c) (by omega) (atI_of (by omega) hc) ?_
    walk_at "bm"
    refine w2_ixT (b := d) (by omega) (atI_of (by omega) (by rw [show (z + 1).toNat = z.toNat + 1 by omega]; exact hd)) ?_
    walk_at "bm"
    refine ⟨fun e => ?_, fun e => ?_⟩
    · have e1 : c = d := by simpa using e
      refine ws_raise fun H' o => k2 ?_ H' o.ex
      apply swAll_none (i := i + 1)
      rw [hst, hok, e1]
      simp
    · have e1 : ¬ c = d := by simpa using e
      walk_at "bm"
      refine c_swapped (by omega) (by omega) ?_
      refine ⟨_, Sub.refl _, _, _, rfl, rfl, ?_⟩
      rw [hst, hok]
      simp [e1]
  · rintro σ s ⟨u, b, rfl, rfl, hu⟩
    rw [List.length_map, List.take_length] at hu
    walk_at "bm"
    exact ⟨u, hu, rfl⟩
theorem ln_after_turns {K : PySem.W.Frag} {C : CA} {vs : List V} {H : Hp} {Q : VK} {E : XK} (h : sp_after_turns K C vs H Q E) : vs.length = 2 := by
  obtain ⟨v, ⟨x, a, ps, rfl, _⟩, _⟩ := h
  rfl
theorem pu_after_turns {K : PySem.W.Frag} {C : CA} {vs : List V} {H : Hp} {Q : VK} {E : XK} (h : sp_after_turns K C vs H Q E) : rd_after_turns K C { nx := fun _ H' => Q .non H', rt := Q } (start N_after_turns vs) H := by
  obtain ⟨v, ⟨r, a, ps, rfl, hl, ha, hps, hr, hpw, rfl⟩, k⟩ := h
  have hs : SqL K H a (ps.map V.int) := sq_of ha
  refine body_V ?_ k
  unfold rd_after_turns
  walk_at "bm"
  refine c_asked_places (fun H' o => o.ex _ _ ha) hps (fun p hp => by have := hr p hp; omega) ?_
  walk_at "bm"
  refine ⟨by rw [List.length_map]; omega, ?_⟩
  refine cp_rng (fun i => List.replicate i (.bl true)) (by rw [List.length_map]; omega) rfl (fun i _ => by simp) ?_ ?_
  · intro D i hi
    rw [List.length_map] at hi
    obtain ⟨c, hc⟩ := get_some (r := ps) (i := i) (by omega)
    obtain ⟨d, hd⟩ := get_some (r := ps) (i := i + 1) (by omega)
    have hlt : c < d := by
      have h1 := (List.getElem?_eq_some_iff.mp hc)
      have h2 := (List.getElem?_eq_some_iff.mp hd)
      obtain ⟨g1, e1⟩ := h1
      obtain ⟨g2, e2⟩ := h2
      have := List.pairwise_iff_getElem.mp hpw i (i + 1) g1 g2 (by omega)
      rw [e1, e2] at this
      exact this
    walk_at "bm"
    refine ⟨rfl, ?_⟩
    walk_at "bm"
    refine w2_ixL (v := .int c) (isL_old hs) (atI_of (by omega) (by rw [List.getElem?_map, show (1 + (i : Int) - 1).toNat = i by omega, hc]; rfl)) ?_
    walk_at "bm"
    refine w2_ixL (v := .int d) (isL_old hs) (atI_of (by omega) (by rw [List.getElem?_map, show (1 + (i : Int)).toNat = i + 1 by omega, hd]; rfl)) ?_
    walk_at "bm"
    refine ⟨Sub.refl _, ?_⟩
    rw [decide_eq_true hlt, List.replicate_succ']
  · intro D hD
    walk_at "bm"
    refine wl_all (bs := List.replicate (((ps.map V.int).length : Int) - 1).toNat true) (by rw [rep_map]; walk_at "isl") ?_
    walk_at "bm"
    rw [rep_true]
    walk_at "bm"
    refine c_turned (ps := ps) (by omega) (by walk_at "isl") ?_
    rfl
theorem c_after_turns {K : PySem.W.Frag} {C : CA} {H0 : Hp} {s : Ld} {Q : V → Ld → Prop} {E : XK} {r : List Bool} {a : Addr} {ps : List Int} (hl : r.length ≤ 40) (ha : ∀ H, Own H0 H s → H a = some (.lst (ps.map V.int))) (hps : ps.length ≤ 400) (hr : ∀ p ∈ ps, 0 ≤ p ∧ p ≤ (r.length : Int) - 1) (hpw : ps.Pairwise (· < ·)) (q : Q (.str (T (flp ps r))) s) : WC H0 (sp_after_turns K C) E [.str (T r), .ref a] s Q :=
  wc_V (fun H o => ⟨r, a, ps, rfl, hl, ha H o, hps, hr, hpw, rfl⟩) q
theorem ln_is_stretch {K : PySem.W.Frag} {C : CA} {vs : List V} {H : Hp} {Q : VK} {E : XK} (h : sp_is_stretch K C vs H Q E) : vs.length = 2 := by
  obtain ⟨v, ⟨x, a, ps, rfl, _⟩, _⟩ := h
  rfl
theorem stOk_eq (n : Nat) (p : Int × Int) : decide (stOk n p) = (decide (0 ≤ p.1) && (decide (p.1 < p.2) && decide (p.2 ≤ (n : Int)))) := by
  unfold stOk
  by_cases h1 : 0 ≤ p.1 <;> by_cases h2 : p.1 < p.2 <;> by_cases h3 : p.2 ≤ (n : Int) <;> simp [h1, h2, h3]
theorem pu_is_stretch {K : PySem.W.Frag} {C : CA} {vs : List V} {H : Hp} {Q : VK} {E : XK} (h : sp_is_stretch K C vs H Q E) : rd_is_stretch K C { nx := fun _ H' => Q .non H', rt := Q } (start N_is_stretch vs) H := by
  obtain ⟨v, ⟨r, t, p, rfl, hl, ht, rfl⟩, k⟩ := h
  have hs : SqT K H t [.int p.1, .int p.2] := st_of ht
  refine body_V ?_ k
  unfold rd_is_stretch
  walk_at "bm"
  refine wl_isi (tv := .type "tuple") (b := true) (fun H' o => .base (.tup (o.ex _ _ ht))) (kit_ty (by decide +kernel)) ?_
  walk_at "bm"
  refine wl_lenU (isT_old hs) ?_
  walk_at "bm"
  refine ⟨⟨_, isT_old hs⟩, ?_⟩
  refine cp_tup (xs := [.int p.1, .int p.2]) (fun i => List.replicate i (.bl true)) (isT_old hs) (by simp) rfl (fun i _ => by simp) ?_ ?_
  · intro D i y hi hy
    have hy' : ∃ z, y = V.int z := by
      rcases i with _ | _ | i
      · exact ⟨_, (Option.some.inj hy).symm⟩
      · exact ⟨_, (Option.some.inj hy).symm⟩
      · simp at hi
        omega
    obtain ⟨z, rfl⟩ := hy'
    walk_at "bm"
    refine ⟨rfl, ?_⟩
    walk_at "bm"
    refine ⟨Sub.refl _, ?_⟩
    rw [List.replicate_succ']
  · intro D hD
    walk_at "bm"
    refine wl_all (bs := List.replicate 2 true) (by rw [rep_map]; walk_at "isl") ?_
    walk_at "bm"
    refine w2_ixU (v := .int p.1) (isT_old hs) (atI_of (by omega) rfl) ?_
    walk_at "bm"
    have e := stOk_eq r.length p
    refine ⟨fun h1 => ?_, fun h1 => ?_⟩
    · walk_at "bm"
      refine w2_ixU (v := .int p.2) (isT_old hs) (atI_of (by omega) rfl) ?_
      walk_at "bm"
      refine ⟨fun h2 => ?_, fun h2 => ?_⟩
      · walk_at "bm"
        rw [e, h1, h2]
        rfl
      · rw [e, h1, h2]
        rfl
    · rw [e, h1]
      rfl
theorem c_is_stretch {K : PySem.W.Frag} {C : CA} {H0 : Hp} {s : Ld} {Q : V → Ld → Prop} {E : XK} {r : List Bool} {t : Addr} {p : Int × Int} (hl : r.length ≤ 1000) (ht : ∀ H, Own H0 H s → H t = some (.tup [.int p.1, .int p.2])) (q : Q (.bl (decide (stOk r.length p))) s) : WC H0 (sp_is_stretch K C) E [.str (T r), .ref t] s Q :=
  wc_V (fun H o => ⟨r, t, p, rfl, hl, ht H o, rfl⟩) q
theorem ln_after_rounds {K : PySem.W.Frag} {C : CA} {vs : List V} {H : Hp} {Q : VK} {E : XK} (h : sp_after_rounds K C vs H Q E) : vs.length = 2 := by
  obtain ⟨v, ⟨x, a, ps, rfl, _⟩, _⟩ := h
  rfl
theorem pairs_get {F : V → (Int × Int) → Prop} {xs : List V} {ps : List (Int × Int)} (h : Paired F xs ps) : ∀ {i : Nat} {x : V}, xs[i]? = some x → ∃ p, ps[i]? = some p ∧ F x p := by
  induction h with
  | nil => intro i x e; simp at e
  | cons r t ih =>
    intro i x e
    cases i with
    | zero =>
      cases e
      exact ⟨_, rfl, r⟩
    | succ i => exact ih (i := i) (by simpa using e)
theorem rnAll_snoc {ps : List (Int × Int)} {r : List Bool} {i : Nat} {p : Int × Int} (hp : ps[i]? = some p) : rnAll r (ps.take (i + 1)) = rnd (rnAll r (ps.take i)) p.1.toNat p.2.toNat := by
  rw [take_snoc hp]
  unfold rnAll
  rw [List.foldl_append]
  rfl
theorem pu_after_rounds {K : PySem.W.Frag} {C : CA} {vs : List V} {H : Hp} {Q : VK} {E : XK} (h : sp_after_rounds K C vs H Q E) : rd_after_rounds K C { nx := fun _ H' => Q .non H', rt := Q } (start N_after_rounds vs) H := by
  obtain ⟨v, ⟨r, a, ps, rfl, hl, ⟨xs, ha, hp⟩, hps, hr, rfl⟩, k⟩ := h
  have hs : SqL K H a xs := sq_of ha
  have hlen : xs.length = ps.length := Paired.length hp
  refine body_V ?_ k
  unfold rd_after_rounds
  walk_at "bm"
  refine wl_isi (tv := .type "list") (b := true) (fun H' o => .base (.lst (o.ex _ _ ha))) (kit_ty (by decide +kernel)) ?_
  walk_at "bm"
  refine ⟨fun hc => absurd (of_decide_eq_true hc) (by omega), fun _ => ?_⟩
  walk_at "bm"
  refine ⟨⟨_, isL_old hs⟩, ?_⟩
  refine cp_list (xs := xs) (fun i => List.replicate i (.bl true)) (isL_old hs) (by omega) rfl (fun i _ => by simp) ?_ ?_
  · intro D i y hi hy
    obtain ⟨p, hpi, t, rfl, ht⟩ := pairs_get hp hy
    have hst := hr p (List.mem_of_getElem? hpi)
    walk_at "bm"
    refine ⟨rfl, ?_⟩
    walk_at "bm"
    refine c_is_stretch (p := p) (by omega) (fun H' o => o.ex _ _ ht) ?_
    refine ⟨Sub.refl _, ?_⟩
    rw [decide_eq_true hst, List.replicate_succ']
  · intro D hD
    walk_at "bm"
    refine wl_all (bs := List.replicate xs.length true) (by rw [rep_map]; walk_at "isl") ?_
    walk_at "bm"
    rw [rep_true]
    refine spl_f rfl ?_
    refine ws_weak (s0 := ⟨[], []⟩) (by walk_at "sub") ?_
    walk_at "bm"
    refine ⟨⟨_, isL_old hs⟩, ?_⟩
    refine lp_list (xs := xs) (fun i σ s => ∃ b c d, σ = [some (.str (T (rnAll r (ps.take i)))), some (.ref a), b, c, d] ∧ s = ⟨[], []⟩) rfl ⟨none, none, none, rfl, rfl⟩ (fun i σ s hi _ => isL_old hs) ?_ ?_
    · rintro i y σ s hi hy ⟨b, c, d, rfl, rfl⟩
      obtain ⟨p, hpi, t, rfl, ht⟩ := pairs_get hp hy
      have hst := hr p (List.mem_of_getElem? hpi)
      have hl2 : (rnAll r (ps.take i)).length = r.length := rnAll_len _ _ fun q hq => hr q (List.mem_of_mem_take hq)
      have htt : SqT K H t [.int p.1, .int p.2] := st_of ht
      walk_at "bm"
      refine c_rounded (by omega) (by rw [hl2]; exact hst) ?_
      refine ⟨_, Sub.refl _, some (.int p.1), some (.int p.2), d, ?_, rfl⟩
      rw [rnAll_snoc hpi]
      rfl
    · rintro σ s ⟨b, c, d, rfl, rfl⟩
      rw [hlen, List.take_length]
      walk_at "bm"
theorem c_after_rounds {K : PySem.W.Frag} {C : CA} {H0 : Hp} {s : Ld} {Q : V → Ld → Prop} {E : XK} {r : List Bool} {a : Addr} {ps : List (Int × Int)} (hl : r.length ≤ 40) (ha : ∀ H, Own H0 H s → PairsT H a ps) (hps : ps.length ≤ 400) (hr : ∀ p ∈ ps, stOk r.length p) (q : Q (.str (T (rnAll r ps))) s) : WC H0 (sp_after_rounds K C) E [.str (T r), .ref a] s Q :=
  wc_V (fun H o => ⟨r, a, ps, rfl, hl, ha H o, hps, hr, rfl⟩) q
end BM
/-! how a law's row is made even -/
namespace BM
theorem hgt_count (r : List Bool) : hgt r = (r.count true : Int) - (r.count false : Int) := by
  induction r with
  | nil => simp [hgt]
  | cons b r ih =>
    simp only [hgt, ih, List.count_cons]
    cases b <;> simp [sg] <;> omega
theorem hgt_set {r : List Bool} {j : Nat} {a : Bool} (h : r[j]? = some a) (b : Bool) : hgt (r.set j b) = hgt r - sg a + sg b := by
  induction r generalizing j with
  | nil => simp at h
  | cons c r ih =>
    cases j with
    | zero =>
      have e : c = a := by simpa using h
      subst e
      simp only [List.set_cons_zero, hgt]
      omega
    | succ j =>
      have h' : r[j]? = some a := by simpa using h
      simp only [List.set_cons_succ, hgt, ih h']
      omega
theorem hgt_all {r : List Bool} {b : Bool} (h : ∀ x ∈ r, x = b) : hgt r = sg b * r.length := by
  induction r with
  | nil => simp [hgt]
  | cons c r ih =>
    have h1 := h c List.mem_cons_self
    have h2 := ih fun x hx => h x (List.mem_cons_of_mem _ hx)
    simp only [hgt, h2, h1, List.length_cons]
    cases b <;> simp [sg] <;> omega
theorem hgt_par (r : List Bool) : (hgt r + r.length) % 2 = 0 := by
  induction r with
  | nil => simp [hgt]
  | cons c r ih =>
    simp only [hgt, List.length_cons]
    cases c <;> simp [sg] <;> omega
/-- what holds behind i turns of the evening loop -/
structure EvenUp (w : Int) (n i : Nat) (r : List Bool) (m : Int) : Prop where
  len : r.length = n
  hg : hgt r = m
  par : n % 2 = 0
  vis : m = 0 ∨ (0 < m ∧ ∀ j, j < i → r[(((j : Int) + w) % (n : Int)).toNat]? = some false) ∨ (m < 0 ∧ ∀ j, j < i → r[(((j : Int) + w) % (n : Int)).toNat]? = some true)
theorem EvenUp.start {w : Int} {r : List Bool} (hp : r.length % 2 = 0) : EvenUp w r.length 0 r (hgt r) :=
  ⟨rfl, rfl, hp, by
    rcases Int.lt_trichotomy (hgt r) 0 with h | h | h
    · exact .inr (.inr ⟨h, fun j hj => absurd hj (Nat.not_lt_zero _)⟩)
    · exact .inl h
    · exact .inr (.inl ⟨h, fun j hj => absurd hj (Nat.not_lt_zero _)⟩)⟩
theorem set_get {r : List Bool} {j k : Nat} {b : Bool} (hj : j < r.length) (h : r[k]? = some b) : (r.set j b)[k]? = some b := by
  by_cases e : j = k
  · subst e
    rw [List.getElem?_set_self hj]
  · rw [List.getElem?_set_ne e]
    exact h
theorem EvenUp.turn {w m : Int} {n i : Nat} {r : List Bool} {a : Bool} (E : EvenUp w n i r m) (hm : m ≠ 0) (h : r[(((i : Int) + w) % (n : Int)).toNat]? = some a) (ha : a = decide (0 < m)) :
    EvenUp w n (i + 1) (r.set (((i : Int) + w) % (n : Int)).toNat (!a)) (if 0 < m then m - 2 else m + 2) := by
  have hj : (((i : Int) + w) % (n : Int)).toNat < r.length := (List.getElem?_eq_some_iff.mp h).1
  have hg := hgt_set h (!a)
  have hpar := hgt_par r
  have e1 := E.hg
  have e2 := E.len
  have e3 := E.par
  refine ⟨by rw [List.length_set]; exact E.len, ?_, E.par, ?_⟩
  · rw [hg, E.hg, ha]
    by_cases h0 : 0 < m
    · simp [h0, sg]; omega
    · simp [h0, sg]; omega
  · rcases E.vis with v | ⟨v, hv⟩ | ⟨v, hv⟩
    · exact absurd v hm
    · have ea : a = true := by rw [ha]; exact decide_eq_true v
      subst ea
      rw [if_pos v]
      by_cases h2 : m - 2 = 0
      · exact .inl h2
      · refine .inr (.inl ⟨by omega, fun j hj' => ?_⟩)
        rcases Nat.lt_succ_iff_lt_or_eq.mp hj' with h3 | h3
        · exact set_get hj (hv j h3)
        · subst h3
          exact List.getElem?_set_self hj
    · have ea : a = false := by rw [ha]; exact decide_eq_false (by omega)
      subst ea
      rw [if_neg (by omega)]
      by_cases h2 : m + 2 = 0
      · exact .inl h2
      · refine .inr (.inr ⟨by omega, fun j hj' => ?_⟩)
        rcases Nat.lt_succ_iff_lt_or_eq.mp hj' with h3 | h3
        · exact set_get hj (hv j h3)
        · subst h3
          exact List.getElem?_set_self hj
theorem EvenUp.stay {w m : Int} {n i : Nat} {r : List Bool} {a : Bool} (E : EvenUp w n i r m) (h : r[(((i : Int) + w) % (n : Int)).toNat]? = some a) (ha : m ≠ 0 → a ≠ decide (0 < m)) : EvenUp w n (i + 1) r m := by
  refine ⟨E.len, E.hg, E.par, ?_⟩
  rcases E.vis with v | ⟨v, hv⟩ | ⟨v, hv⟩
  · exact .inl v
  · refine .inr (.inl ⟨v, fun j hj => ?_⟩)
    rcases Nat.lt_succ_iff_lt_or_eq.mp hj with h3 | h3
    · exact hv j h3
    · subst h3
      rw [h]
      have := ha (by omega)
      rw [decide_eq_true v] at this
      cases a
      · rfl
      · exact absurd rfl this
  · refine .inr (.inr ⟨v, fun j hj => ?_⟩)
    rcases Nat.lt_succ_iff_lt_or_eq.mp hj with h3 | h3
    · exact hv j h3
    · subst h3
      rw [h]
      have := ha (by omega)
      rw [decide_eq_false (by omega)] at this
      cases a
      · exact absurd rfl this
      · rfl
theorem EvenUp.done {w m : Int} {n : Nat} {r : List Bool} (E : EvenUp w n n r m) : hgt r = 0 := by
  have hall : ∀ b, (∀ j, j < n → r[(((j : Int) + w) % (n : Int)).toNat]? = some b) → ∀ x ∈ r, x = b := by
    intro b hb x hx
    obtain ⟨k, hk, e⟩ := List.getElem_of_mem hx
    have hn : 0 < n := by rw [← E.len]; omega
    have hlen := E.len
    have h1 := Int.emod_nonneg ((k : Int) - w) (b := (n : Int)) (by omega)
    have h2 := Int.emod_lt_of_pos ((k : Int) - w) (b := (n : Int)) (by omega)
    have h3 := hb (((k : Int) - w) % (n : Int)).toNat (by omega)
    have h4 : ((((((k : Int) - w) % (n : Int)).toNat : Nat) : Int) + w) % (n : Int) = (k : Int) := by
      rw [Int.toNat_of_nonneg h1, Int.emod_add_emod]
      have : (k : Int) - w + w = k := by omega
      rw [this]
      exact Int.emod_eq_of_lt (by omega) (by omega)
    rw [h4, Int.toNat_natCast, List.getElem?_eq_getElem hk, e] at h3
    exact Option.some.inj h3
  have e1 := E.hg
  rcases E.vis with v | ⟨v, hv⟩ | ⟨v, hv⟩
  · omega
  · have := hgt_all (hall false hv)
    simp [sg] at this
    omega
  · have := hgt_all (hall true hv)
    simp [sg] at this
    omega
end BM
namespace BM
open PySem L2 Evl
local macro_rules | `(tactic| walk_at "mem") => `(tactic| first | exact List.mem_cons_self | (refine List.mem_cons_of_mem _ ?_; walk_at "mem"))
local macro_rules | `(tactic| walk_at "swap") => `(tactic| first | exact Swap.here | (refine Swap.there ?_; walk_at "swap"))
local macro_rules | `(tactic| walk_at "subl") => `(tactic| first | exact List.Sublist.refl _ | exact List.nil_sublist _ | (refine List.Sublist.cons_cons _ ?_; walk_at "subl") | (refine List.Sublist.cons _ ?_; walk_at "subl"))
local macro_rules | `(tactic| walk_at "sub") => `(tactic| first | exact Sub.refl _ | (refine ⟨?_, ?_⟩ <;> walk_at "subl"))
local macro_rules | `(tactic| walk_at "isl") => `(tactic| first | exact isL_own (by walk_at "mem") | exact isL_old (by assumption) | assumption)
local macro_rules | `(tactic| walk_at "ist") => `(tactic| first | exact isT_own (by walk_at "mem") | exact isT_old (by assumption) | assumption)
local macro_rules | `(tactic| walk_at "len") => `(tactic| first | omega | decide | (simp only [List.length_map, List.length_take, List.length_drop, List.length_append, List.length_cons, List.length_nil, List.length_reverse, dps_len, flp_len]; omega) | (simp [dps_len, flp_len]; omega) | simp)
local macro_rules | `(tactic| walk_at "b0") => `(tactic| first
  | with_reducible refine' ws_set ?_
  | with_reducible refine' ws_par ?_
  | with_reducible refine' ws_asg ?_
  | with_reducible refine' ws_drop ?_
  | with_reducible refine' ws_ret ?_
  | with_reducible refine' ws_if ?_
  | with_reducible refine' ws_next ?_
  | with_reducible refine' ws_brk ?_
  | with_reducible refine' ws_cont ?_
  | ((with_reducible refine' we_var ?hv ?_); case hv => rfl)
  | with_reducible refine' we_c ?_
  | with_reducible refine' we_op ?_
  | with_reducible refine' we_un ?_
  | with_reducible refine' we_if ?_
  | with_reducible refine' we_and ?_
  | with_reducible refine' we_or ?_
  | with_reducible refine' we_not ?_
  | with_reducible refine' wa_nil ?_
  | with_reducible refine' wa_cons ?_
  | (with_reducible refine' we_lst ?_)
  | (with_reducible refine' we_tup ?_)
  | with_reducible refine' we_cb ?_
  | with_reducible refine' we_call0 ?_
  | with_reducible refine' we_sl ?_
  | with_reducible refine' wo_none ?_
  | (with_reducible refine' wo_some ?_)
  | with_reducible refine' wt_test ?_
  | with_reducible refine' wt_B ?_
  | with_reducible refine' wt_and ?_
  | with_reducible refine' wt_or ?_
  | with_reducible refine' wt_not ?_
  | with_reducible refine' wt_yes ?_
  | with_reducible refine' we_chain ?_
  | with_reducible refine' we_chain3 ?_
  | with_reducible refine' we_revT ?_
  | with_reducible refine' we_revL ?_
  | with_reducible refine' we_bm ?_
  | with_reducible refine' we_bm0 ?_
  | with_reducible refine' ws_for ?_
  | with_reducible refine' we_lc ?_
  | with_reducible refine' wi_list ?_
  | with_reducible refine' wi_tup ?_
  | with_reducible refine' wi_T ?_
  | with_reducible refine' wi_rng1 ?_
  | with_reducible refine' wi_rng2 ?_
  | with_reducible refine' wi_rng3 ?_
  | with_reducible refine' wi_enum ?_
  | with_reducible refine' wi_enumT ?_
  | with_reducible refine' wi_zip ?_
  | with_reducible refine' wg_name ?_
  | with_reducible refine' wg_sub ?_
  | with_reducible refine' wgs_nil ?_
  | with_reducible refine' wgs_cons ?_
  | ((with_reducible refine' wg_tup ?ht ?hn ?_); (case ht => walk_at "ist"); (case hn => rfl))
  | with_reducible refine' w2_add ?_
  | with_reducible refine' w2_sub ?_
  | with_reducible refine' w2_lt ?_
  | with_reducible refine' w2_le ?_
  | with_reducible refine' w2_gt ?_
  | with_reducible refine' w2_ge ?_
  | with_reducible refine' w2_eqI ?_
  | with_reducible refine' w2_neI ?_
  | with_reducible refine' w2_eqT ?_
  | with_reducible refine' w2_neT ?_
  | with_reducible refine' w2_eqB ?_
  | with_reducible refine' w2_neB ?_
  | with_reducible refine' w2_isN ?_
  | with_reducible refine' w2_notN ?_
  | with_reducible refine' w2_isB ?_
  | with_reducible refine' w2_inT ?_
  | with_reducible refine' w1_neg ?_
  | with_reducible refine' wl_abs ?_
  | with_reducible refine' wl_max2 ?_
  | with_reducible refine' wl_min2 ?_
  | with_reducible refine' wl_intB ?_
  | ((with_reducible refine' w2_div ?h ?_); case h => first | omega | (constructor <;> omega))
  | ((with_reducible refine' w2_mod ?h ?_); case h => omega)
  | ((with_reducible refine' w2_catT ?h ?_); case h => walk_at "len")
  | ((with_reducible refine' wsl_T ?h ?_); case h => walk_at "len")
  | ((with_reducible refine' wl_lenT ?h ?_); case h => walk_at "len")
  | ((with_reducible refine' wl_len ?h ?_); case h => walk_at "isl")
  | ((with_reducible refine' wl_len ?h ?_); case h => walk_at "isl")
  | ((with_reducible refine' wm_append ?sw ?hl ?_); (case sw => walk_at "swap"); (case hl => walk_at "len")))
local macro_rules | `(tactic| walk_at "b1") => `(tactic| first | with_reducible refine' ws_seq ?_ | walk_at "b0")
local macro_rules | `(tactic| walk_at "bx") => `(tactic| first
  | refine ⟨_, rfl, ?_⟩
  | refine ⟨_, _, rfl, ?_⟩
  | refine ⟨ty_L (by walk_at "isl"), ?_⟩
  | refine ⟨ty_S, ?_⟩
  | refine spl_t (by rfl) ?_
  | refine spl_f (by rfl) ?_
  | exact rfl)
local macro_rules | `(tactic| walk_at "bm") => `(tactic| repeat (first | walk_at "b1" | walk_at "bx"))
local macro_rules | `(tactic| walk_at "bn") => `(tactic| repeat (first | walk_at "b0" | walk_at "bx"))
local macro_rules | `(tactic| walk_at "b0") => `(tactic| with_reducible refine' c_deepens ?_)
local macro_rules | `(tactic| walk_at "b0") => `(tactic| ((with_reducible refine' c_depths_of ?hl ?_); (case hl => walk_at "len")))
local macro_rules | `(tactic| walk_at "b0") => `(tactic| with_reducible refine' c_is_wholeI ?_)
local macro_rules | `(tactic| walk_at "b0") => `(tactic| with_reducible refine' c_flipped ?_)
local macro_rules | `(tactic| walk_at "b0") => `(tactic| ((with_reducible refine' c_is_right_row ?hl ?_); (case hl => walk_at "len")))
local macro_rules | `(tactic| walk_at "b0") => `(tactic| ((with_reducible refine' c_asked_row ?hl ?_); (case hl => walk_at "len")))
local macro_rules | `(tactic| walk_at "b0") => `(tactic| ((with_reducible refine' c_depths ?hl ?_); (case hl => walk_at "len")))
local macro_rules | `(tactic| walk_at "b0") => `(tactic| ((with_reducible refine' c_is_right ?hl ?_); (case hl => walk_at "len")))
theorem cmul_l {i j : Int} (h1 : -18446744073709551616 < i) (h2 : i < 18446744073709551616) : CMul i j := Or.inl ⟨by omega, by omega⟩
theorem cmul_r {i j : Int} (h1 : -18446744073709551616 < j) (h2 : j < 18446744073709551616) : CMul i j := Or.inr ⟨by omega, by omega⟩
theorem ln__law_number {K : PySem.W.Frag} {C : CA} {vs : List V} {H : Hp} {Q : VK} {E : XK} (h : sp__law_number K C vs H Q E) : vs.length = 3 := by
  obtain ⟨⟨c, a, w, rfl, _⟩, _⟩ := h
  rfl
theorem pu__law_number {K : PySem.W.Frag} {C : CA} {vs : List V} {H : Hp} {Q : VK} {E : XK} (h : sp__law_number K C vs H Q E) : rd__law_number K C { nx := fun _ H' => Q .non H', rt := Q } (start N__law_number vs) H := by
  obtain ⟨⟨c, a, w, rfl, h0, h1⟩, k⟩ := h
  refine body_P (P := fun v => ∃ n : Int, v = .int n) ?_ k
  have ep : (10 : Int) ^ (18 : Int).toNat = 1000000000000000000 := by decide
  have cp : CPow 10 18 := ⟨by decide, by decide, by decide⟩
  unfold rd__law_number
  walk_at "bm"
  refine w2_pow cp ?_
  rw [ep]
  walk_at "bm"
  refine ⟨fun _ => ?_, fun _ => ?_⟩
  · walk_at "bm"
    exact ⟨_, rfl⟩
  · walk_at "bm"
    refine w2_pow cp ?_
    rw [ep]
    walk_at "bm"
    generalize hs : c % 1000000000000000000 = sm
    walk_at "bm"
    refine w2_mul (cmul_l (by decide) (by decide)) ?_
    walk_at "bm"
    refine w2_mul (cmul_r (by decide) (by decide)) ?_
    walk_at "bm"
    generalize hb : ((sm + 977 * a) * 48271 + w) % 2147483647 = b
    walk_at "bm"
    refine w2_mul (cmul_l (by decide) (by decide)) ?_
    walk_at "bm"
    refine w2_mul (cmul_l (by omega) (by omega)) ?_
    walk_at "bm"
    refine w2_mul (cmul_r (by omega) (by omega)) ?_
    walk_at "bm"
    refine w2_mul (cmul_l (by omega) (by omega)) ?_
    walk_at "bm"
    have hbb : b * b < 4611686014132420610 := by
      have h2 : b * b ≤ 2147483646 * 2147483646 := Int.mul_le_mul (by omega) (by omega) (by omega) (by decide)
      omega
    have hb0 : 0 ≤ b * b := Int.mul_nonneg (by omega) (by omega)
    refine w2_mul (cmul_r (by omega) (by omega)) ?_
    walk_at "bm"
    exact ⟨_, rfl⟩
theorem c__law_number {K : PySem.W.Frag} {C : CA} {H0 : Hp} {s : Ld} {Q : V → Ld → Prop} {E : XK} {c a w : Int} (h0 : 0 ≤ a ∧ a ≤ 1000000) (q : ∀ n : Int, Q (.int n) s) : WC H0 (sp__law_number K C) E [.int c, .int a, .int w] s Q :=
  wc_P (fun H o => ⟨c, a, w, rfl, h0.1, h0.2⟩) (fun v ⟨n, e⟩ => by rw [e]; exact q n)
theorem ln__law_depths {K : PySem.W.Frag} {C : CA} {vs : List V} {H : Hp} {Q : VK} {E : XK} (h : sp__law_depths K C vs H Q E) : vs.length = 1 := by
  obtain ⟨v, ⟨b, rfl, _⟩, _⟩ := h
  rfl
theorem pu__law_depths {K : PySem.W.Frag} {C : CA} {vs : List V} {H : Hp} {Q : VK} {E : XK} (h : sp__law_depths K C vs H Q E) : rd__law_depths K C { nx := fun _ H' => Q .non H', rt := Q } (start N__law_depths vs) H := by
  obtain ⟨v, ⟨r, rfl, hl, rfl⟩, k⟩ := h
  refine body_L ?_ k
  unfold rd__law_depths
  walk_at "bm"
  refine ⟨by decide, fun p hp => ?_⟩
  walk_at "bm"
  refine lp_T (fun i σ s => ∃ b, σ = [some (.str (T r)), some (.ref p), b] ∧ s = ⟨[(p, .lst ((dps (r.take i)).map V.int))], []⟩) rfl ⟨none, rfl, rfl⟩ ?_ ?_
  · rintro i b σ s hi hb ⟨b0, rfl, rfl⟩
    have e : (p, HO.lst ((dps (r.take i)).map V.int ++ [.int (hgt (r.take i) + sg b)])) = (p, HO.lst ((dps (r.take (i + 1))).map V.int)) := by
      rw [take_snoc hb, dps_snoc, List.map_append]
      rfl
    walk_at "bm"
    refine w2_ixL (by walk_at "isl") (dps_m1 _) ?_
    walk_at "bm"
    cases b
    · refine ⟨fun hc => absurd hc (by decide), fun hc => ?_⟩
      walk_at "bm"
      refine ⟨_, Sub.refl _, _, rfl, ?_⟩
      rw [← e]
      rfl
    · refine ⟨fun hc => ?_, fun hc => absurd hc (by decide)⟩
      walk_at "bm"
      refine ⟨_, Sub.refl _, _, rfl, ?_⟩
      rw [← e]
      rfl
  · rintro σ s ⟨b0, rfl, rfl⟩
    walk_at "bm"
    rw [List.take_length]
    exact List.mem_cons_self
theorem c__law_depths {K : PySem.W.Frag} {C : CA} {H0 : Hp} {s : Ld} {Q : V → Ld → Prop} {E : XK} {r : List Bool} (hl : r.length ≤ 1000) (q : ∀ p, H0 p = none → Q (.ref p) ⟨(p, .lst ((dps r).map V.int)) :: s.L, s.T⟩) : WC H0 (sp__law_depths K C) E [.str (T r)] s Q := wc_L (fun H o => ⟨r, rfl, hl, rfl⟩) q
local macro_rules | `(tactic| walk_at "b0") => `(tactic| ((with_reducible refine' c__law_depths ?hl ?_); (case hl => walk_at "len")))
theorem ln__law_good {K : PySem.W.Frag} {C : CA} {vs : List V} {H : Hp} {Q : VK} {E : XK} (h : sp__law_good K C vs H Q E) : vs.length = 1 := by
  obtain ⟨v, ⟨b, rfl, _⟩, _⟩ := h
  rfl
theorem isR_bad {r : List Bool} {i : Nat} (hi : i ≤ r.length) (h : hgt (r.take i) < 0) : isR r = false := by
  cases e : isR r with
  | false => rfl
  | true =>
    have := (isR_iff.mp e).2 i hi
    omega
theorem pu__law_good {K : PySem.W.Frag} {C : CA} {vs : List V} {H : Hp} {Q : VK} {E : XK} (h : sp__law_good K C vs H Q E) : rd__law_good K C { nx := fun _ H' => Q .non H', rt := Q } (start N__law_good vs) H := by
  obtain ⟨v, ⟨r, rfl, hl, rfl⟩, k⟩ := h
  refine body_V ?_ k
  unfold rd__law_good
  walk_at "bm"
  refine lp_T (fun i σ s => ∃ b, σ = [some (.str (T r)), some (.int (hgt (r.take i))), b] ∧ s = ⟨[], []⟩ ∧ ∀ j, j ≤ i → 0 ≤ hgt (r.take j)) rfl ⟨none, rfl, rfl, fun j hj => by rw [show j = 0 by omega]; exact Int.le_refl 0⟩ ?_ ?_
  · rintro i b σ s hi hb ⟨b0, rfl, rfl, hn⟩
    have e : hgt (r.take (i + 1)) = hgt (r.take i) + sg b := by rw [take_snoc hb, hgt_app]; simp [hgt]
    have fin : ∀ z : Int, z = hgt (r.take (i + 1)) → (decide (z < 0) = true → WS H (tRet (tC (V.bl false))) [some (.str (T r)), some (.int z), some (.str (T [b]))] ⟨[], []⟩ (turnD { nx := fun σ' s' => WS H (tRet (tOp rEq (tVar 1) (tC (V.int 0)))) σ' s' (retV (.bl (isR r))), rt := (retV (.bl (isR r))).rt, bk := (retV (.bl (isR r))).bk, ct := (retV (.bl (isR r))).ct } fun σ s => ∃ b, σ = [some (.str (T r)), some (.int (hgt (r.take (i + 1)))), b] ∧ s = ⟨[], []⟩ ∧ ∀ j, j ≤ i + 1 → 0 ≤ hgt (r.take j))) ∧
        (decide (z < 0) = false → WS H tNext [some (.str (T r)), some (.int z), some (.str (T [b]))] ⟨[], []⟩ (turnD { nx := fun σ' s' => WS H (tRet (tOp rEq (tVar 1) (tC (V.int 0)))) σ' s' (retV (.bl (isR r))), rt := (retV (.bl (isR r))).rt, bk := (retV (.bl (isR r))).bk, ct := (retV (.bl (isR r))).ct } fun σ s => ∃ b, σ = [some (.str (T r)), some (.int (hgt (r.take (i + 1)))), b] ∧ s = ⟨[], []⟩ ∧ ∀ j, j ≤ i + 1 → 0 ≤ hgt (r.take j))) := by
      rintro z rfl
      refine ⟨fun hc => ?_, fun hc => ?_⟩
      · walk_at "bm"
        show V.bl false = V.bl (isR r)
        rw [isR_bad (i := i + 1) (by omega) (of_decide_eq_true hc)]
      · walk_at "bm"
        refine ⟨_, Sub.refl _, _, rfl, rfl, fun j hj => ?_⟩
        rcases Nat.lt_succ_iff_lt_or_eq.mp (Nat.lt_succ_of_le hj) with h1 | h1
        · exact hn j (by omega)
        · rw [h1]
          have := of_decide_eq_false hc
          omega
    walk_at "bm"
    cases b
    · refine ⟨fun hc => absurd hc (by decide), fun hc => ?_⟩
      walk_at "bm"
      exact fin _ (by rw [e]; simp [sg]; omega)
    · refine ⟨fun hc => ?_, fun hc => absurd hc (by decide)⟩
      walk_at "bm"
      exact fin _ (by rw [e]; simp [sg])
  · rintro σ s ⟨b0, rfl, rfl, hn⟩
    walk_at "bm"
    rw [List.take_length]
    show V.bl _ = V.bl _
    congr 1
    unfold isR
    have : ((dps r).all fun z => decide (0 ≤ z)) = true := by
      rw [List.all_eq_true]
      intro z hz
      obtain ⟨j, hj, rfl⟩ := mem_dps.mp hz
      exact decide_eq_true (hn j hj)
    rw [this, Bool.and_true]
theorem c__law_good {K : PySem.W.Frag} {C : CA} {H0 : Hp} {s : Ld} {Q : V → Ld → Prop} {E : XK} {r : List Bool} (hl : r.length ≤ 1000) (q : Q (.bl (isR r)) s) : WC H0 (sp__law_good K C) E [.str (T r)] s Q := wc_V (fun H o => ⟨r, rfl, hl, rfl⟩) q
local macro_rules | `(tactic| walk_at "b0") => `(tactic| ((with_reducible refine' c__law_good ?hl ?_); (case hl => walk_at "len")))
theorem ln__law_swap {K : PySem.W.Frag} {C : CA} {vs : List V} {H : Hp} {Q : VK} {E : XK} (h : sp__law_swap K C vs H Q E) : vs.length = 2 := by
  obtain ⟨v, ⟨b, p, rfl, _⟩, _⟩ := h
  rfl
theorem pu__law_swap {K : PySem.W.Frag} {C : CA} {vs : List V} {H : Hp} {Q : VK} {E : XK} (h : sp__law_swap K C vs H Q E) : rd__law_swap K C { nx := fun _ H' => Q .non H', rt := Q } (start N__law_swap vs) H := by
  obtain ⟨v, ⟨r, p, rfl, hl, rfl⟩, k⟩ := h
  refine body_V ?_ k
  have out : ¬ (0 ≤ p ∧ p < (r.length : Int) - 1) → swOk r p = false := by
    intro h
    unfold swOk
    by_cases h1 : 0 ≤ p <;> by_cases h2 : p < (r.length : Int) - 1 <;> simp [h1, h2]
    exact absurd ⟨h1, h2⟩ h
  unfold rd__law_swap
  walk_at "bm"
  refine ⟨fun h0 => ?_, fun h0 => ?_⟩
  · walk_at "bm"
    refine ⟨fun hn => ?_, fun hn => ?_⟩
    · walk_at "bm"
      have hn' : ¬ p < (r.length : Int) - 1 := by simpa using hn
      show V.non = _
      rw [out fun h => hn' h.2]
      rfl
    · have h0' := of_decide_eq_true h0
      have hn' : p < (r.length : Int) - 1 := by simpa using hn
      obtain ⟨c, hc⟩ := get_some (r := r) (i := p.toNat) (by omega)
      obtain ⟨d, hd⟩ := get_some (r := r) (i := p.toNat + 1) (by omega)
      have hc2 : atI r p = some c := atI_of (by omega) hc
      have hd2 : atI r (p + 1) = some d := atI_of (by omega) (by rw [show (p + 1).toNat = p.toNat + 1 by omega]; exact hd)
      have hok : swOk r p = decide (c ≠ d) := by
        unfold swOk
        rw [hc, hd]
        by_cases e : c = d <;> simp [h0', hn', e]
      walk_at "bm"
      refine w2_ixT (b := c) (by omega) hc2 ?_
      walk_at "bm"
      refine w2_ixT (b := d) (by omega) hd2 ?_
      walk_at "bm"
      refine ⟨fun e => ?_, fun e => ?_⟩
      · walk_at "bm"
        have e1 : c = d := by simpa using e
        show V.non = _
        rw [hok, e1]
        simp
      · have e1 : ¬ c = d := by simpa using e
        walk_at "bm"
        refine w2_ixT (b := d) (by omega) hd2 ?_
        walk_at "bm"
        refine w2_ixT (b := c) (by omega) hc2 ?_
        walk_at "bm"
        rw [cut_hi h0']
        walk_at "bm"
        rw [cut_lo (by omega)]
        walk_at "bm"
        show V.str (T _) = _
        rw [hok, decide_eq_true e1, if_pos rfl]
        congr 2
        unfold swp
        rw [drop_take_one hc, drop_take_one hd, show (p + 2).toNat = p.toNat + 2 by omega]
        simp
  · walk_at "bm"
    have h0' := of_decide_eq_false h0
    show V.non = _
    rw [out fun h => h0' h.1]
    rfl
theorem c__law_swap {K : PySem.W.Frag} {C : CA} {H0 : Hp} {s : Ld} {Q : V → Ld → Prop} {E : XK} {r : List Bool} {p : Int} (hl : r.length ≤ 1000) (q1 : swOk r p = true → Q (.str (T (swp r p.toNat))) s) (q2 : swOk r p = false → Q .non s) : WC H0 (sp__law_swap K C) E [.str (T r), .int p] s Q := by
  refine wc_V (fun H o => ⟨r, p, rfl, hl, rfl⟩) ?_
  cases e : swOk r p
  · exact q2 e
  · exact q1 e
end BM
namespace BM
open PySem L2 Evl
local macro_rules | `(tactic| walk_at "mem") => `(tactic| first | exact List.mem_cons_self | (refine List.mem_cons_of_mem _ ?_; walk_at "mem"))
local macro_rules | `(tactic| walk_at "swap") => `(tactic| first | exact Swap.here | (refine Swap.there ?_; walk_at "swap"))
local macro_rules | `(tactic| walk_at "subl") => `(tactic| first | exact List.Sublist.refl _ | exact List.nil_sublist _ | (refine List.Sublist.cons_cons _ ?_; walk_at "subl") | (refine List.Sublist.cons _ ?_; walk_at "subl"))
local macro_rules | `(tactic| walk_at "sub") => `(tactic| first | exact Sub.refl _ | (refine ⟨?_, ?_⟩ <;> walk_at "subl"))
local macro_rules | `(tactic| walk_at "isl") => `(tactic| first | exact isL_own (by walk_at "mem") | exact isL_old (by assumption) | assumption)
local macro_rules | `(tactic| walk_at "ist") => `(tactic| first | exact isT_own (by walk_at "mem") | exact isT_old (by assumption) | assumption)
local macro_rules | `(tactic| walk_at "len") => `(tactic| first | omega | decide | (simp only [List.length_map, List.length_take, List.length_drop, List.length_append, List.length_cons, List.length_nil, List.length_reverse, dps_len, flp_len]; omega) | (simp [dps_len, flp_len]; omega) | simp)
local macro_rules | `(tactic| walk_at "b0") => `(tactic| first
  | with_reducible refine' ws_set ?_
  | with_reducible refine' ws_par ?_
  | with_reducible refine' ws_asg ?_
  | with_reducible refine' ws_drop ?_
  | with_reducible refine' ws_ret ?_
  | with_reducible refine' ws_if ?_
  | with_reducible refine' ws_next ?_
  | with_reducible refine' ws_brk ?_
  | with_reducible refine' ws_cont ?_
  | ((with_reducible refine' we_var ?hv ?_); case hv => rfl)
  | with_reducible refine' we_c ?_
  | with_reducible refine' we_op ?_
  | with_reducible refine' we_un ?_
  | with_reducible refine' we_if ?_
  | with_reducible refine' we_and ?_
  | with_reducible refine' we_or ?_
  | with_reducible refine' we_not ?_
  | with_reducible refine' wa_nil ?_
  | with_reducible refine' wa_cons ?_
  | (with_reducible refine' we_lst ?_)
  | (with_reducible refine' we_tup ?_)
  | with_reducible refine' we_cb ?_
  | with_reducible refine' we_call0 ?_
  | with_reducible refine' we_sl ?_
  | with_reducible refine' wo_none ?_
  | (with_reducible refine' wo_some ?_)
  | with_reducible refine' wt_test ?_
  | with_reducible refine' wt_B ?_
  | with_reducible refine' wt_and ?_
  | with_reducible refine' wt_or ?_
  | with_reducible refine' wt_not ?_
  | with_reducible refine' wt_yes ?_
  | with_reducible refine' we_chain ?_
  | with_reducible refine' we_chain3 ?_
  | with_reducible refine' we_revT ?_
  | with_reducible refine' we_revL ?_
  | with_reducible refine' we_bm ?_
  | with_reducible refine' we_bm0 ?_
  | with_reducible refine' ws_for ?_
  | with_reducible refine' we_lc ?_
  | with_reducible refine' wi_list ?_
  | with_reducible refine' wi_tup ?_
  | with_reducible refine' wi_T ?_
  | with_reducible refine' wi_rng1 ?_
  | with_reducible refine' wi_rng2 ?_
  | with_reducible refine' wi_rng3 ?_
  | with_reducible refine' wi_enum ?_
  | with_reducible refine' wi_enumT ?_
  | with_reducible refine' wi_zip ?_
  | with_reducible refine' wg_name ?_
  | with_reducible refine' wg_sub ?_
  | with_reducible refine' wgs_nil ?_
  | with_reducible refine' wgs_cons ?_
  | ((with_reducible refine' wg_tup ?ht ?hn ?_); (case ht => walk_at "ist"); (case hn => rfl))
  | with_reducible refine' w2_add ?_
  | with_reducible refine' w2_sub ?_
  | with_reducible refine' w2_lt ?_
  | with_reducible refine' w2_le ?_
  | with_reducible refine' w2_gt ?_
  | with_reducible refine' w2_ge ?_
  | with_reducible refine' w2_eqI ?_
  | with_reducible refine' w2_neI ?_
  | with_reducible refine' w2_eqT ?_
  | with_reducible refine' w2_neT ?_
  | with_reducible refine' w2_eqB ?_
  | with_reducible refine' w2_neB ?_
  | with_reducible refine' w2_isN ?_
  | with_reducible refine' w2_notN ?_
  | with_reducible refine' w2_isB ?_
  | with_reducible refine' w2_inT ?_
  | with_reducible refine' w1_neg ?_
  | with_reducible refine' wl_abs ?_
  | with_reducible refine' wl_max2 ?_
  | with_reducible refine' wl_min2 ?_
  | with_reducible refine' wl_intB ?_
  | ((with_reducible refine' w2_div ?h ?_); case h => first | omega | (constructor <;> omega))
  | ((with_reducible refine' w2_mod ?h ?_); case h => omega)
  | ((with_reducible refine' w2_catT ?h ?_); case h => walk_at "len")
  | ((with_reducible refine' wsl_T ?h ?_); case h => walk_at "len")
  | ((with_reducible refine' wl_lenT ?h ?_); case h => walk_at "len")
  | ((with_reducible refine' wl_len ?h ?_); case h => walk_at "isl")
  | ((with_reducible refine' wl_len ?h ?_); case h => walk_at "isl")
  | ((with_reducible refine' wm_append ?sw ?hl ?_); (case sw => walk_at "swap"); (case hl => walk_at "len")))
local macro_rules | `(tactic| walk_at "b1") => `(tactic| first | with_reducible refine' ws_seq ?_ | walk_at "b0")
local macro_rules | `(tactic| walk_at "bx") => `(tactic| first
  | refine ⟨_, rfl, ?_⟩
  | refine ⟨_, _, rfl, ?_⟩
  | refine ⟨ty_L (by walk_at "isl"), ?_⟩
  | refine ⟨ty_S, ?_⟩
  | refine spl_t (by rfl) ?_
  | refine spl_f (by rfl) ?_
  | exact rfl)
local macro_rules | `(tactic| walk_at "bm") => `(tactic| repeat (first | walk_at "b1" | walk_at "bx"))
local macro_rules | `(tactic| walk_at "bn") => `(tactic| repeat (first | walk_at "b0" | walk_at "bx"))
local macro_rules | `(tactic| walk_at "b0") => `(tactic| with_reducible refine' c_deepens ?_)
local macro_rules | `(tactic| walk_at "b0") => `(tactic| ((with_reducible refine' c_depths_of ?hl ?_); (case hl => walk_at "len")))
local macro_rules | `(tactic| walk_at "b0") => `(tactic| with_reducible refine' c_is_wholeI ?_)
local macro_rules | `(tactic| walk_at "b0") => `(tactic| with_reducible refine' c_flipped ?_)
local macro_rules | `(tactic| walk_at "b0") => `(tactic| ((with_reducible refine' c_is_right_row ?hl ?_); (case hl => walk_at "len")))
local macro_rules | `(tactic| walk_at "b0") => `(tactic| ((with_reducible refine' c_asked_row ?hl ?_); (case hl => walk_at "len")))
local macro_rules | `(tactic| walk_at "b0") => `(tactic| ((with_reducible refine' c_depths ?hl ?_); (case hl => walk_at "len")))
local macro_rules | `(tactic| walk_at "b0") => `(tactic| ((with_reducible refine' c_is_right ?hl ?_); (case hl => walk_at "len")))
local macro_rules | `(tactic| walk_at "b0") => `(tactic| ((with_reducible refine' c__law_depths ?hl ?_); (case hl => walk_at "len")))
local macro_rules | `(tactic| walk_at "b0") => `(tactic| ((with_reducible refine' c__law_good ?hl ?_); (case hl => walk_at "len")))
theorem ln__law_over {K : PySem.W.Frag} {C : CA} {vs : List V} {H : Hp} {Q : VK} {E : XK} (h : sp__law_over K C vs H Q E) : vs.length = 2 := by
  obtain ⟨v, ⟨b, p, q, rfl, _⟩, _⟩ := h
  rfl
theorem mapset {α β : Type} (f : α → β) (l : List α) (j : Nat) (a : α) : (l.map f).set j (f a) = (l.set j a).map f := by rw [List.map_set]
theorem flp_set {ps : List Int} {r : List Bool} {p : Int} {b : Bool} (h0 : 0 ≤ p) (hb : r[p.toNat]? = some b) : (flp ps r).set p.toNat (!b) = flp (ps ++ [p]) r := by
  apply List.ext_getElem?
  intro i
  by_cases e : p.toNat = i
  · subst e
    rw [List.getElem?_set_self (by rw [flp_len]; exact (List.getElem?_eq_some_iff.mp hb).1), flp_get hb]
    unfold flpAt
    have : ((p.toNat : Nat) : Int) = p := by omega
    rw [this, if_pos (by simp)]
  · rw [List.getElem?_set_ne e]
    unfold flp
    rw [List.getElem?_mapIdx, List.getElem?_mapIdx]
    cases r[i]? with
    | none => rfl
    | some c =>
      have h1 : ¬ ((i : Int) = p) := by omega
      simp [h1]
theorem flp_nil (r : List Bool) : flp [] r = r := by
  unfold flp
  apply List.ext_getElem?
  intro i
  rw [List.getElem?_mapIdx]
  cases r[i]? <;> simp
theorem ixN_of {n : Nat} {i : Int} (h0 : 0 ≤ i) (h1 : i < n) : ixN n i = some i.toNat := by
  unfold ixN
  rw [if_pos h0, if_pos h1]
theorem pu__law_over {K : PySem.W.Frag} {C : CA} {vs : List V} {H : Hp} {Q : VK} {E : XK} (h : sp__law_over K C vs H Q E) : rd__law_over K C { nx := fun _ H' => Q .non H', rt := Q } (start N__law_over vs) H := by
  obtain ⟨v, ⟨r, a, ps, rfl, hl, hs, hr, rfl⟩, k⟩ := h
  refine body_V ?_ k
  unfold rd__law_over
  walk_at "bm"
  refine wl_listT (by omega) fun p hp => ?_
  walk_at "bm"
  refine ⟨⟨_, isL_old hs⟩, ?_⟩
  refine lp_list (xs := ps.map V.int) (fun i σ s => ∃ b, σ = [some (.str (T r)), some (.ref a), some (.ref p), b] ∧ s = ⟨[(p, .lst ((flp (ps.take i) r).map fun b => .str (T [b])))], []⟩) rfl ⟨none, rfl, by rw [List.take_zero, flp_nil]⟩ (fun i σ s hi _ => isL_old hs) ?_ ?_
  · rintro i y σ s hi hy ⟨b, rfl, rfl⟩
    obtain ⟨z, hz, rfl⟩ := getI hy
    have hb := hr z (List.mem_of_getElem? hz)
    obtain ⟨c, hc⟩ := get_some (r := r) (i := z.toNat) (by omega)
    walk_at "bm"
    refine w2_ixT (b := c) (by omega) (atI_of (by omega) hc) ?_
    walk_at "bm"
    refine w2_ixT (b := !c) (by decide) (by cases c <;> rfl) ?_
    walk_at "bm"
    refine wset_list (xs := (flp (ps.take i) r).map fun b => .str (T [b])) (j := z.toNat) (by rw [List.length_map, flp_len]; exact ixN_of hb.1 hb.2) (by walk_at "swap") ?_
    refine ⟨_, Sub.refl _, _, rfl, ?_⟩
    rw [mapset (fun b => V.str (T [b])), flp_set hb.1 hc, take_snoc hz]
  · rintro σ s ⟨b, rfl, rfl⟩
    rw [List.length_map, List.take_length]
    walk_at "bm"
    refine wm_join1 (by walk_at "isl") (by rw [flp_len]; omega) ?_
    walk_at "bm"
theorem c__law_over {K : PySem.W.Frag} {C : CA} {H0 : Hp} {s : Ld} {Q : V → Ld → Prop} {E : XK} {r : List Bool} {a : Addr} {ps : List Int} (hl : r.length ≤ 1000) (hx : IsL K H0 s a (ps.map V.int)) (hr : ∀ p ∈ ps, 0 ≤ p ∧ p < (r.length : Int)) (q : Q (.str (T (flp ps r))) s) : WC H0 (sp__law_over K C) E [.str (T r), .ref a] s Q := wc_V (fun H o => ⟨r, a, ps, rfl, hl, hx H o, hr, rfl⟩) q
theorem ln__law_round {K : PySem.W.Frag} {C : CA} {vs : List V} {H : Hp} {Q : VK} {E : XK} (h : sp__law_round K C vs H Q E) : vs.length = 2 := by
  obtain ⟨v, ⟨b, p, q, rfl, _⟩, _⟩ := h
  rfl
theorem rev_get {α : Type} {l : List α} {i : Nat} (h : i < l.length) : l.reverse[i]? = l[l.length - 1 - i]? := by
  rw [List.getElem?_reverse h]
theorem pu__law_round {K : PySem.W.Frag} {C : CA} {vs : List V} {H : Hp} {Q : VK} {E : XK} (h : sp__law_round K C vs H Q E) : rd__law_round K C { nx := fun _ H' => Q .non H', rt := Q } (start N__law_round vs) H := by
  obtain ⟨v, ⟨r, a, ps, rfl, hl, ⟨xs, hs, hp⟩, rfl⟩, k⟩ := h
  have hlen : xs.length = ps.length := Paired.length hp
  refine body_V ?_ k
  unfold rd__law_round
  walk_at "bm"
  refine ⟨⟨_, isL_old hs⟩, ?_⟩
  refine lp_list (xs := xs) (fun i σ s => ∃ b c d e, σ = [some (.str (T (rnAll r (ps.take i)))), some (.ref a), b, c, d, e] ∧ s = ⟨[], []⟩ ∧ ∀ p ∈ ps.take i, stOk r.length p) rfl ⟨none, none, none, none, rfl, rfl, fun p hp => by simp at hp⟩ (fun i σ s hi _ => isL_old hs) ?_ ?_
  · rintro i y σ s hi hy ⟨b, c, d, e, rfl, rfl, hok⟩
    obtain ⟨p, hpi, t, rfl, htt⟩ := pairs_get hp hy
    have hl2 : (rnAll r (ps.take i)).length = r.length := rnAll_len _ _ hok
    have hse := stOk_eq r.length p
    generalize hu : rnAll r (ps.take i) = u at hl2 ⊢
    walk_at "bm"
    refine ⟨fun h1 => ?_, fun h1 => ?_⟩
    · walk_at "bm"
      refine ⟨fun h2 => ?_, fun h2 => ?_⟩
      · walk_at "bm"
        refine ⟨fun h3 => ?_, fun h3 => ?_⟩
        · walk_at "bm"
          have h3' : ¬ p.2 ≤ (u.length : Int) := by simpa using h3
          show _ = _
          rw [if_neg]
          intro hall
          have := hall p (List.mem_of_getElem? hpi)
          unfold stOk at this
          omega
        · have h1' := of_decide_eq_true h1
          have h2' := of_decide_eq_true h2
          have h3' : p.2 ≤ (u.length : Int) := by simpa using h3
          have hst : stOk r.length p := ⟨h1', h2', by omega⟩
          have hlp : ((u.drop p.1.toNat).take (p.2.toNat - p.1.toNat)).reverse.length = p.2.toNat - p.1.toNat := by simp; omega
          walk_at "bm"
          refine ⟨_, _, _, p.2.toNat - p.1.toNat, rfl, ?_, ?_⟩
          · have := RgC.neg (i := p.2 - 1) (j := p.1 - 1) (by omega) (by omega) (by omega) (by omega)
            rw [show (p.2 - 1 - (p.1 - 1)).toNat = p.2.toNat - p.1.toNat by omega] at this
            exact this
          refine cp_rngC (fun j => ((((u.drop p.1.toNat).take (p.2.toNat - p.1.toNat)).reverse).take j).map fun b => .str (T [b])) (by omega) rfl (fun j hj => by simp; omega) ?_ ?_
          · intro D j hj
            obtain ⟨z, hz⟩ := get_some (r := u) (i := p.2.toNat - 1 - j) (by omega)
            have hg : ((u.drop p.1.toNat).take (p.2.toNat - p.1.toNat)).reverse[j]? = some z := by
              rw [rev_get (by simp at hlp ⊢; omega)]
              have : ((u.drop p.1.toNat).take (p.2.toNat - p.1.toNat)).length = p.2.toNat - p.1.toNat := by simpa using hlp
              rw [this, List.getElem?_take, if_pos (by omega), List.getElem?_drop]
              rw [← hz]
              congr 1
              omega
            walk_at "bm"
            refine ⟨rfl, ?_⟩
            walk_at "bm"
            refine w2_ixT (b := z) (by omega) (atI_of (by omega) (by rw [← hz]; congr 1; omega)) ?_
            refine ⟨Sub.refl _, ?_⟩
            rw [take_snoc hg, List.map_append]
            rfl
          · intro D hD
            rw [List.take_of_length_le (Nat.le_of_eq hlp)]
            walk_at "bm"
            rw [cut_hi h1']
            walk_at "bm"
            refine wm_join1 (by walk_at "isl") (by rw [hlp]; omega) ?_
            walk_at "bm"
            rw [cut_lo (by omega)]
            walk_at "bm"
            refine ⟨⟨[], []⟩, by walk_at "sub", some (.int p.1), some (.int p.2), some (.ref D), e, ?_, rfl, ?_⟩
            · rw [rnAll_snoc hpi, hu]
              rfl
            · intro q hq
              rw [take_snoc hpi] at hq
              rcases List.mem_append.mp hq with h | h
              · exact hok q h
              · rw [List.mem_singleton.mp h]
                exact hst
      · walk_at "bm"
        have h2' := of_decide_eq_false h2
        show _ = _
        rw [if_neg]
        intro hall
        have := hall p (List.mem_of_getElem? hpi)
        unfold stOk at this
        omega
    · walk_at "bm"
      have h1' := of_decide_eq_false h1
      show _ = _
      rw [if_neg]
      intro hall
      have := hall p (List.mem_of_getElem? hpi)
      unfold stOk at this
      omega
  · rintro σ s ⟨b, c, d, e, rfl, rfl, hok⟩
    rw [hlen, List.take_length] at hok
    rw [hlen, List.take_length]
    walk_at "bm"
    show _ = _
    rw [if_pos hok]
theorem c__law_round {K : PySem.W.Frag} {C : CA} {H0 : Hp} {s : Ld} {Q : V → Ld → Prop} {E : XK} {r : List Bool} {a : Addr} {ps : List (Int × Int)} (hl : r.length ≤ 1000) (hx : ∀ H, Own H0 H s → Pairs K H a ps) (q : Q (if (∀ p ∈ ps, stOk r.length p) then .str (T (rnAll r ps)) else .non) s) : WC H0 (sp__law_round K C) E [.str (T r), .ref a] s Q := wc_V (fun H o => ⟨r, a, ps, rfl, hl, hx H o, rfl⟩) q
end BM
namespace BM
open PySem L2 Evl
local macro_rules | `(tactic| walk_at "mem") => `(tactic| first | exact List.mem_cons_self | (refine List.mem_cons_of_mem _ ?_; walk_at "mem"))
local macro_rules | `(tactic| walk_at "swap") => `(tactic| first | exact Swap.here | (refine Swap.there ?_; walk_at "swap"))
local macro_rules | `(tactic| walk_at "subl") => `(tactic| first | exact List.Sublist.refl _ | exact List.nil_sublist _ | (refine List.Sublist.cons_cons _ ?_; walk_at "subl") | (refine List.Sublist.cons _ ?_; walk_at "subl"))
local macro_rules | `(tactic| walk_at "sub") => `(tactic| first | exact Sub.refl _ | (refine ⟨?_, ?_⟩ <;> walk_at "subl"))
local macro_rules | `(tactic| walk_at "isl") => `(tactic| first | exact isL_own (by walk_at "mem") | exact isL_old (by assumption) | assumption)
local macro_rules | `(tactic| walk_at "ist") => `(tactic| first | exact isT_own (by walk_at "mem") | exact isT_old (by assumption) | assumption)
local macro_rules | `(tactic| walk_at "len") => `(tactic| first | omega | decide | (simp only [List.length_map, List.length_take, List.length_drop, List.length_append, List.length_cons, List.length_nil, List.length_reverse, dps_len, flp_len]; omega) | (simp [dps_len, flp_len]; omega) | simp)
local macro_rules | `(tactic| walk_at "b0") => `(tactic| first
  | with_reducible refine' ws_set ?_
  | with_reducible refine' ws_par ?_
  | with_reducible refine' ws_asg ?_
  | with_reducible refine' ws_drop ?_
  | with_reducible refine' ws_ret ?_
  | with_reducible refine' ws_if ?_
  | with_reducible refine' ws_next ?_
  | with_reducible refine' ws_brk ?_
  | with_reducible refine' ws_cont ?_
  | ((with_reducible refine' we_var ?hv ?_); case hv => rfl)
  | with_reducible refine' we_c ?_
  | with_reducible refine' we_op ?_
  | with_reducible refine' we_un ?_
  | with_reducible refine' we_if ?_
  | with_reducible refine' we_and ?_
  | with_reducible refine' we_or ?_
  | with_reducible refine' we_not ?_
  | with_reducible refine' wa_nil ?_
  | with_reducible refine' wa_cons ?_
  | (with_reducible refine' we_lst ?_)
  | (with_reducible refine' we_tup ?_)
  | with_reducible refine' we_cb ?_
  | with_reducible refine' we_call0 ?_
  | with_reducible refine' we_sl ?_
  | with_reducible refine' wo_none ?_
  | (with_reducible refine' wo_some ?_)
  | with_reducible refine' wt_test ?_
  | with_reducible refine' wt_B ?_
  | with_reducible refine' wt_and ?_
  | with_reducible refine' wt_or ?_
  | with_reducible refine' wt_not ?_
  | with_reducible refine' wt_yes ?_
  | with_reducible refine' we_chain ?_
  | with_reducible refine' we_chain3 ?_
  | with_reducible refine' we_revT ?_
  | with_reducible refine' we_revL ?_
  | with_reducible refine' we_bm ?_
  | with_reducible refine' we_bm0 ?_
  | with_reducible refine' ws_for ?_
  | with_reducible refine' we_lc ?_
  | with_reducible refine' wi_list ?_
  | with_reducible refine' wi_tup ?_
  | with_reducible refine' wi_T ?_
  | with_reducible refine' wi_rng1 ?_
  | with_reducible refine' wi_rng2 ?_
  | with_reducible refine' wi_rng3 ?_
  | with_reducible refine' wi_enum ?_
  | with_reducible refine' wi_enumT ?_
  | with_reducible refine' wi_zip ?_
  | with_reducible refine' wg_name ?_
  | with_reducible refine' wg_sub ?_
  | with_reducible refine' wgs_nil ?_
  | with_reducible refine' wgs_cons ?_
  | ((with_reducible refine' wg_tup ?ht ?hn ?_); (case ht => walk_at "ist"); (case hn => rfl))
  | with_reducible refine' w2_add ?_
  | with_reducible refine' w2_sub ?_
  | with_reducible refine' w2_lt ?_
  | with_reducible refine' w2_le ?_
  | with_reducible refine' w2_gt ?_
  | with_reducible refine' w2_ge ?_
  | with_reducible refine' w2_eqI ?_
  | with_reducible refine' w2_neI ?_
  | with_reducible refine' w2_eqT ?_
  | with_reducible refine' w2_neT ?_
  | with_reducible refine' w2_eqB ?_
  | with_reducible refine' w2_neB ?_
  | with_reducible refine' w2_isN ?_
  | with_reducible refine' w2_notN ?_
  | with_reducible refine' w2_isB ?_
  | with_reducible refine' w2_inT ?_
  | with_reducible refine' w1_neg ?_
  | with_reducible refine' wl_abs ?_
  | with_reducible refine' wl_max2 ?_
  | with_reducible refine' wl_min2 ?_
  | with_reducible refine' wl_intB ?_
  | ((with_reducible refine' w2_div ?h ?_); case h => first | omega | (constructor <;> omega))
  | ((with_reducible refine' w2_mod ?h ?_); case h => omega)
  | ((with_reducible refine' w2_catT ?h ?_); case h => walk_at "len")
  | ((with_reducible refine' wsl_T ?h ?_); case h => walk_at "len")
  | ((with_reducible refine' wl_lenT ?h ?_); case h => walk_at "len")
  | ((with_reducible refine' wl_len ?h ?_); case h => walk_at "isl")
  | ((with_reducible refine' wl_len ?h ?_); case h => walk_at "isl")
  | ((with_reducible refine' wm_append ?sw ?hl ?_); (case sw => walk_at "swap"); (case hl => walk_at "len")))
local macro_rules | `(tactic| walk_at "b1") => `(tactic| first | with_reducible refine' ws_seq ?_ | walk_at "b0")
local macro_rules | `(tactic| walk_at "bx") => `(tactic| first
  | refine ⟨_, rfl, ?_⟩
  | refine ⟨_, _, rfl, ?_⟩
  | refine ⟨ty_L (by walk_at "isl"), ?_⟩
  | refine ⟨ty_S, ?_⟩
  | refine spl_t (by rfl) ?_
  | refine spl_f (by rfl) ?_
  | exact rfl)
local macro_rules | `(tactic| walk_at "bm") => `(tactic| repeat (first | walk_at "b1" | walk_at "bx"))
local macro_rules | `(tactic| walk_at "bn") => `(tactic| repeat (first | walk_at "b0" | walk_at "bx"))
local macro_rules | `(tactic| walk_at "b0") => `(tactic| with_reducible refine' c_deepens ?_)
local macro_rules | `(tactic| walk_at "b0") => `(tactic| ((with_reducible refine' c_depths_of ?hl ?_); (case hl => walk_at "len")))
local macro_rules | `(tactic| walk_at "b0") => `(tactic| with_reducible refine' c_is_wholeI ?_)
local macro_rules | `(tactic| walk_at "b0") => `(tactic| with_reducible refine' c_flipped ?_)
local macro_rules | `(tactic| walk_at "b0") => `(tactic| ((with_reducible refine' c_is_right_row ?hl ?_); (case hl => walk_at "len")))
local macro_rules | `(tactic| walk_at "b0") => `(tactic| ((with_reducible refine' c_asked_row ?hl ?_); (case hl => walk_at "len")))
local macro_rules | `(tactic| walk_at "b0") => `(tactic| ((with_reducible refine' c_depths ?hl ?_); (case hl => walk_at "len")))
local macro_rules | `(tactic| walk_at "b0") => `(tactic| ((with_reducible refine' c_is_right ?hl ?_); (case hl => walk_at "len")))
local macro_rules | `(tactic| walk_at "b0") => `(tactic| ((with_reducible refine' c__law_depths ?hl ?_); (case hl => walk_at "len")))
local macro_rules | `(tactic| walk_at "b0") => `(tactic| ((with_reducible refine' c__law_good ?hl ?_); (case hl => walk_at "len")))
theorem ln__law_row {K : PySem.W.Frag} {C : CA} {vs : List V} {H : Hp} {Q : VK} {E : XK} (h : sp__law_row K C vs H Q E) : vs.length = 4 := by
  obtain ⟨⟨a, ns, k, m, e, rfl, _⟩, _⟩ := h
  rfl
abbrev ch (b : Bool) : V := .str (T [b])
theorem flat_ch (r : List Bool) : (r.map ch).all flatV = true := by
  rw [List.all_map, List.all_eq_true]
  intro x _
  rfl
theorem count_ch (r : List Bool) (b : Bool) : (r.map ch).countP (fun z => eqV z (ch b)) = r.count b := by
  rw [List.countP_map]
  unfold List.count
  apply List.countP_congr
  intro c _
  show (T [c] == T [b]) = true ↔ (c == b) = true
  simp only [beq_iff_eq, T_eq, List.cons.injEq, and_true]
theorem atI_small {z : Int} (h : z = 0 ∨ z = 1) : ∃ b, atI [true, false] z = some b := by
  rcases h with rfl | rfl
  · exact ⟨true, rfl⟩
  · exact ⟨false, rfl⟩
theorem five_at {w a b c d e : Int} (ha : a = 0 ∨ a = 1) (hb : b = 0 ∨ b = 1) (hc : c = 0 ∨ c = 1) (hd : d = 0 ∨ d = 1) (he : e = 0 ∨ e = 1) : ∃ z : Int, (z = 0 ∨ z = 1) ∧ atI [V.int a, .int b, .int c, .int d, .int e] (w % 5) = some (.int z) := by
  have h : w % 5 = 0 ∨ w % 5 = 1 ∨ w % 5 = 2 ∨ w % 5 = 3 ∨ w % 5 = 4 := by omega
  rcases h with h | h | h | h | h <;> rw [h]
  · exact ⟨a, ha, rfl⟩
  · exact ⟨b, hb, rfl⟩
  · exact ⟨c, hc, rfl⟩
  · exact ⟨d, hd, rfl⟩
  · exact ⟨e, he, rfl⟩
theorem int01 {p : Prop} [Decidable p] : ((if decide p = true then (1 : Int) else 0) = 0) ∨ ((if decide p = true then (1 : Int) else 0) = 1) := by
  by_cases h : p
  · exact .inr (by simp [h])
  · exact .inl (by simp [h])
/-- where the row's making stands -/
def LRow (a p q : Addr) (k m wd W : Int) (e : Bool) (cs : List Int) (P : List Bool → Option V → Prop) (σ : L2.St) (s : Ld) : Prop :=
  ∃ (x6 x8 x10 x11 x12 x13 x14 : Option V) (r : List Bool), σ = [some (.ref a), some (.int k), some (.int m), some (.bl e), some (.ref p), some (.int wd), x6, some (.ref q), x8, some (.int W), x10, x11, x12, x13, x14] ∧ s = ⟨[(q, .lst (r.map ch)), (p, .lst (cs.map V.int))], []⟩ ∧ P r x8
theorem pu__law_row {K : PySem.W.Frag} {C : CA} {vs : List V} {H : Hp} {Q : VK} {E : XK} (h : sp__law_row K C vs H Q E) : rd__law_row K C { nx := fun _ H' => Q .non H', rt := Q } (start N__law_row vs) H := by
  obtain ⟨⟨a, ns, k, m, e, rfl, hs, hns, hk0, hk1, hm0, hm1⟩, kk⟩ := h
  refine body_P (P := fun v => ∃ r : List Bool, v = .str (T r) ∧ (r.length : Int) ≤ m ∧ (e = true → hgt r = 0)) ?_ (fun v H' ⟨r, h1, h2, h3⟩ x => kk v H' ⟨a, k, m, e, r, rfl, h1, h2, h3⟩ x)
  unfold rd__law_row
  refine ws_cut (fun σ s => ∃ (p : Addr) (cs : List Int), σ = [some (.ref a), some (.int k), some (.int m), some (.bl e), some (.ref p), none, none, none, none, none, none, none, none, none, none] ∧ s = ⟨[(p, .lst (cs.map V.int))], []⟩ ∧ 0 < cs.length ∧ cs.length ≤ 63) ?_ ?_
  · walk_at "bm"
    refine ⟨by decide, fun p0 hp0 => ?_⟩
    refine w2_neLI (ns := ns) (ms := []) (isL_old hs) (by walk_at "isl") ?_
    walk_at "bm"
    refine ⟨fun hc => ?_, fun hc => ?_⟩
    · walk_at "bm"
      refine wsl_L (isL_old hs) fun p hp => ?_
      refine ⟨⟨[(p, .lst (ns.map V.int))], []⟩, ?_, p, ns, rfl, rfl, ?_, hns⟩
      · rw [cut_hi (by omega), List.take_of_length_le (by rw [List.length_map]; omega)]
        walk_at "sub"
      · cases ns with
        | nil => simp at hc
        | cons x y => simp
    · walk_at "bm"
      refine ⟨by decide, fun p hp => ?_⟩
      exact ⟨⟨[(p, .lst ([5].map V.int))], []⟩, by walk_at "sub", p, [5], rfl, rfl, by decide, by decide⟩
  · rintro σ s ⟨p, cs, rfl, rfl, hc0, hc1⟩
    have hcl : (cs.map V.int).length = cs.length := List.length_map ..
    walk_at "bm"
    refine wl_sum (by walk_at "isl") ?_
    walk_at "bm"
    refine w2_mul (cmul_l (by decide) (by decide)) ?_
    walk_at "bm"
    refine ⟨by decide, fun q hq => ?_⟩
    walk_at "bn"
    obtain ⟨W, hW, hW0⟩ : ∃ W : Int, (if cs.sum < 0 then -cs.sum else cs.sum) + 7 * k = W ∧ 0 ≤ W := ⟨_, rfl, by split <;> omega⟩
    rw [hW]
    refine ws_seq ?_
    walk_at "bn"
    obtain ⟨wd, hwd, hwd0⟩ : ∃ wd : Int, 1 + W / 5 % 6 = wd ∧ 1 ≤ wd ∧ wd ≤ 6 := ⟨_, rfl, by omega⟩
    rw [hwd]
    refine ws_cut (LRow a p q k m wd W e cs fun r _ => (r.length : Int) ≤ m) ?_ ?_
    · have hb1 : W / 30 % (m + 1) < m + 1 := Int.emod_lt_of_pos _ (by omega)
      have hb0 : 0 ≤ W / 30 % (m + 1) := Int.emod_nonneg _ (by omega)
      walk_at "bm"
      refine ⟨by omega, ?_⟩
      refine lp_rng (fun i => LRow a p q k m wd W e cs fun r _ => r.length = i) ⟨none, none, none, none, none, none, none, [], rfl, rfl, rfl⟩ ?_ ?_
      · rintro i σ s hi ⟨x6, x8, x10, x11, x12, x13, x14, r, rfl, rfl, hr⟩
        have hiz : (i : Int) ≤ 40 := by omega
        refine wg_name ?_
        refine ws_seq ?_
        walk_at "bn"
        obtain ⟨sp, hsp, hsp0, hsp1⟩ : ∃ sp : Int, (0 + (i : Int)) / wd = sp ∧ 0 ≤ sp ∧ sp ≤ 40 := ⟨_, rfl, Int.ediv_nonneg (by omega) (by omega), by
          have := Int.ediv_le_self (a := (0 + (i : Int))) wd (by omega)
          omega⟩
        rw [hsp]
        walk_at "bm"
        have hm1' := Int.emod_nonneg (sp + k) (b := ((cs.map V.int).length : Int)) (by omega)
        have hm2' := Int.emod_lt_of_pos (sp + k) (b := ((cs.map V.int).length : Int)) (by omega)
        obtain ⟨z, hz⟩ := get_some (r := cs) (i := ((sp + k) % ((cs.map V.int).length : Int)).toNat) (by omega)
        refine w2_ixL (v := .int z) (by walk_at "isl") (atI_of hm1' (by rw [List.getElem?_map, hz]; rfl)) ?_
        walk_at "bm"
        refine c__law_number (by omega) fun n => ?_
        walk_at "bn"
        generalize hnh : (if n < 0 then -n else n) / 3 = nh
        refine ws_seq (ws_set (we_cb (wa_cons (we_or_val (b1 := decide (0 < nh % 3)) (b2 := decide ((0 + (i : Int)) % 2 = 0)) (fun Q q => by walk_at "bm"; exact q) (fun Q q => by walk_at "bm"; exact q) ?_))))
        walk_at "bn"
        obtain ⟨mx, hmx, hmx01⟩ : ∃ mx : Int, (if (decide (0 < nh % 3) || decide ((0 + (i : Int)) % 2 = 0)) = true then (1 : Int) else 0) = mx ∧ (mx = 0 ∨ mx = 1) := ⟨_, rfl, by split <;> simp⟩
        rw [hmx]
        walk_at "bm"
        refine ⟨by simp, fun tt htt => ?_⟩
        walk_at "bm"
        obtain ⟨y, hy, hat⟩ := five_at (w := W) (a := nh % 2) (b := (0 + (i : Int)) % 2) (c := 1 - (0 + (i : Int)) % 2) (d := mx) (e := if decide (sp % 2 = 0) = true then 1 else 0) (by omega) (by omega) (by omega) hmx01 int01
        refine w2_ixU (v := .int y) (by walk_at "ist") hat ?_
        obtain ⟨b, hb⟩ := atI_small hy
        refine w2_ixT (b := b) (by simp) hb ?_
        walk_at "bm"
        refine ⟨⟨[(q, .lst (r.map ch ++ [ch b])), (p, .lst (cs.map V.int))], []⟩, by walk_at "sub", some (.int (0 + (i : Int))), x8, some (.int sp), some (.int (z + sp / ((cs.map V.int).length : Int))), some (.int nh), some (.int mx), some (.ref tt), r ++ [b], rfl, ?_, by simp [hr]⟩
        rw [List.map_append]
        rfl
      · rintro σ s ⟨x6, x8, x10, x11, x12, x13, x14, r, rfl, rfl, hr⟩
        exact ⟨_, Sub.refl _, x6, x8, x10, x11, x12, x13, x14, r, rfl, rfl, by omega⟩
    · rintro σ s ⟨x6, x8, x10, x11, x12, x13, x14, r, rfl, rfl, hr⟩
      refine ws_cut (fun σ s => ∃ (q : Addr), LRow a p q k m wd W e cs (fun r _ => (r.length : Int) ≤ m ∧ (e = true → r.length % 2 = 0)) σ s) ?_ ?_
      · walk_at "bm"
        refine ⟨fun he => ?_, fun he => ?_⟩
        · walk_at "bm"
          refine w2_mul (cmul_r (by decide) (by decide)) ?_
          walk_at "bm"
          refine wsl_L (by walk_at "isl") fun q2 hq2 => ?_
          refine ⟨⟨[(q2, .lst ((r.take (r.length / 2 * 2)).map ch)), (p, .lst (cs.map V.int))], []⟩, ?_, q2, x6, x8, x10, x11, x12, x13, x14, r.take (r.length / 2 * 2), rfl, rfl, by simp; omega, fun _ => by simp; omega⟩
          rw [cut_hi (by omega), List.length_map, show ((r.length : Int) / 2 * 2).toNat = r.length / 2 * 2 by omega, List.map_take]
          walk_at "sub"
        · walk_at "bm"
          exact ⟨_, Sub.refl _, q, x6, x8, x10, x11, x12, x13, x14, r, rfl, rfl, hr, fun h => by rw [he] at h; cases h⟩
      · rintro σ s ⟨q, x6, x8, x10, x11, x12, x13, x14, r, rfl, rfl, hr, hev⟩
        have hrl : (r.map ch).length = r.length := List.length_map ..
        walk_at "bm"
        refine wm_count (by walk_at "isl") rfl (flat_ch r) ?_
        walk_at "bm"
        refine wm_count (by walk_at "isl") rfl (flat_ch r) ?_
        rw [count_ch r true, count_ch r false]
        refine w2_sub ?_
        rw [← hgt_count]
        walk_at "bm"
        refine ⟨by omega, ?_⟩
        refine lp_rng (fun i => LRow a p q k m wd W e cs fun r' x8 => r'.length = r.length ∧ (if e = true then ∃ mo, x8 = some (.int mo) ∧ EvenUp W r.length i r' mo else ∃ mo, x8 = some (.int mo))) ⟨x6, some (.int (hgt r)), x10, x11, x12, x13, x14, r, rfl, rfl, rfl, ?_⟩ ?_ ?_
        · cases e with
          | true => exact ⟨_, rfl, EvenUp.start (hev rfl)⟩
          | false => exact ⟨_, rfl⟩
        · rintro i σ s hi ⟨x6, x8, x10, x11, x12, x13, x14, r', rfl, rfl, hr', hx⟩
          rw [hrl] at hi
          have hrl' : (r'.map ch).length = r'.length := List.length_map ..
          obtain ⟨mo, rfl⟩ : ∃ mo, x8 = some (.int mo) := by
            cases e with
            | true => obtain ⟨mo, h, _⟩ := hx; exact ⟨mo, h⟩
            | false => exact hx
          walk_at "bm"
          have hm1' := Int.emod_nonneg (0 + (i : Int) + W) (b := ((r'.map ch).length : Int)) (by omega)
          have hm2' := Int.emod_lt_of_pos (0 + (i : Int) + W) (b := ((r'.map ch).length : Int)) (by omega)
          have hsp : (0 + (i : Int) + W) % ((r'.map ch).length : Int) = ((i : Int) + W) % (r.length : Int) := by
            rw [hrl', hr', show (0 + (i : Int) + W) = (i : Int) + W by omega]
          obtain ⟨y, hy⟩ := get_some (r := r') (i := ((0 + (i : Int) + W) % ((r'.map ch).length : Int)).toNat) (by omega)
          have hy2 : r'[(((i : Int) + W) % (r.length : Int)).toNat]? = some y := by rw [← hsp]; exact hy
          cases e with
          | false =>
            walk_at "bm"
            exact ⟨_, Sub.refl _, _, _, _, x11, x12, x13, x14, r', rfl, rfl, hr', mo, rfl⟩
          | true =>
            obtain ⟨mo', hmo, EU⟩ := hx
            cases hmo
            walk_at "bm"
            refine ⟨fun hne => ?_, fun hne => ?_⟩
            · have hne' : mo ≠ 0 := by simpa using hne
              walk_at "bm"
              refine w2_ixL (v := ch y) (by walk_at "isl") (atI_of hm1' (by rw [List.getElem?_map, hy]; rfl)) ?_
              walk_at "bm"
              have hd : atI [true, false] (if decide (mo < 0) = true then 1 else 0) = some (decide (0 < mo)) := by
                by_cases h : mo < 0
                · simp [h, show ¬ 0 < mo by omega]
                  rfl
                · simp [h, show 0 < mo by omega]
                  rfl
              refine w2_ixT (b := decide (0 < mo)) (by simp) hd ?_
              walk_at "bm"
              refine ⟨fun hyc => ?_, fun hyc => ?_⟩
              · have hya : y = decide (0 < mo) := by simpa using hyc
                have EU2 := EU.turn hne' hy2 hya
                walk_at "bm"
                have hd2 : atI [true, false] (if decide (0 < mo) = true then 1 else 0) = some (!y) := by
                  rw [hya]
                  by_cases h : 0 < mo
                  · simp [h]
                    rfl
                  · simp [h]
                    rfl
                refine w2_ixT (b := !y) (by simp) hd2 ?_
                walk_at "bm"
                refine wset_list (xs := r'.map ch) (j := ((0 + (i : Int) + W) % ((r'.map ch).length : Int)).toNat) (ixN_of hm1' hm2') (by walk_at "swap") ?_
                walk_at "bm"
                have fin : ∀ mo2, mo2 = (if 0 < mo then mo - 2 else mo + 2) → ∃ s0, Sub s0 ⟨[(q, HO.lst ((r'.map ch).set ((0 + (i : Int) + W) % ((r'.map ch).length : Int)).toNat (ch (!y)))), (p, .lst (cs.map V.int))], []⟩ ∧ LRow a p q k m wd W true cs (fun r' x8 => r'.length = r.length ∧ (if true = true then ∃ mo, x8 = some (.int mo) ∧ EvenUp W r.length (i + 1) r' mo else ∃ mo, x8 = some (.int mo))) [some (.ref a), some (.int k), some (.int m), some (.bl true), some (.ref p), some (.int wd), some (.int (0 + (i : Int))), some (.ref q), some (.int mo2), some (.int W), some (.int ((0 + (i : Int) + W) % ((r'.map ch).length : Int))), x11, x12, x13, x14] s0 := by
                  rintro mo2 rfl
                  refine ⟨_, Sub.refl _, _, _, _, x11, x12, x13, x14, r'.set (((i : Int) + W) % (r.length : Int)).toNat (!y), rfl, ?_, by rw [List.length_set]; exact hr', _, rfl, EU2⟩
                  rw [mapset ch, hsp]
                refine ⟨fun h => ?_, fun h => ?_⟩
                · walk_at "bm"
                  exact fin _ (by rw [if_pos (of_decide_eq_true h)])
                · walk_at "bm"
                  exact fin _ (by rw [if_neg (of_decide_eq_false h)])
              · have hya : y ≠ decide (0 < mo) := by simpa using hyc
                walk_at "bm"
                exact ⟨_, Sub.refl _, _, _, _, x11, x12, x13, x14, r', rfl, rfl, hr', mo, rfl, EU.stay hy2 fun _ => hya⟩
            · have hne' : mo = 0 := by simpa using hne
              walk_at "bm"
              exact ⟨_, Sub.refl _, _, _, _, x11, x12, x13, x14, r', rfl, rfl, hr', mo, rfl, EU.stay hy2 fun h => absurd hne' h⟩
        · rintro σ s ⟨x6, x8, x10, x11, x12, x13, x14, r', rfl, rfl, hr', hx⟩
          walk_at "bm"
          refine wm_join1 (by walk_at "isl") (by omega) ?_
          refine ⟨r', rfl, by omega, fun he => ?_⟩
          subst he
          obtain ⟨mo, _, EU⟩ := hx
          rw [hrl] at EU
          exact EU.done
theorem c__law_row {K : PySem.W.Frag} {C : CA} {H0 : Hp} {s : Ld} {Q : V → Ld → Prop} {E : XK} {a : Addr} {ns : List Int} {k m : Int} {e : Bool} (hx : IsL K H0 s a (ns.map V.int)) (hn : ns.length ≤ 63) (hk : 0 ≤ k ∧ k ≤ 1000 ∧ 0 ≤ m ∧ m ≤ 40) (q : ∀ r : List Bool, (r.length : Int) ≤ m → (e = true → hgt r = 0) → Q (.str (T r)) s) : WC H0 (sp__law_row K C) E [.ref a, .int k, .int m, .bl e] s Q :=
  wc_P (fun H o => ⟨a, ns, k, m, e, rfl, hx H o, hn, hk.1, hk.2.1, hk.2.2.1, hk.2.2.2⟩) (fun v ⟨a', k', m', e', r, h1, h2, h3, h4⟩ => by
    cases h1
    rw [h2]
    exact q r h3 h4)
end BM
namespace BM
open PySem L2 Evl
/-- a suite that speaks of an error of an own class -/
def tExc (K : PySem.W.Frag) (cls : Value) (d : Option Addr) (t : Addr → TS) : TS := fun D σ H => ∃ D0, cls = .ref D0 ∧ d = none ∧ ExcC K D0 ∧ t D0 D σ H
theorem pss_exc {X : Cx} {sts : List Stmt} {cls : Value} {d : Option Addr} {t : Addr → TS} (h : ∀ D0, cls = .ref D0 → d = none → ExcC X.K D0 → PSs X sts (t D0)) : PSs X sts (tExc X.K cls d t) :=
  ⟨fun pins s σ H D I ⟨D0, e1, e2, hC, q⟩ => (h D0 e1 e2 hC).run pins s σ H D I q⟩
/-- try: .. except c as (slot i): .. -/
def tTry (K : PySem.W.Frag) (c : Value) (i : Nat) (tb : WX → TS) (ts : Addr → Value → Option Addr → TS) : TS := fun D σ H => tb (wAs K c i ts (fun _ _ _ _ => False) D) D σ H
/-- what follows a suite -/
def suiteD (D : Dl) (i : Nat) : Dl := { nx := fun σ s => D.nx (σ.set i none) s, rt := D.rt, bk := fun σ s => D.bk (σ.set i none) s, ct := fun σ s => D.ct (σ.set i none) s }
section
variable {K : PySem.W.Frag} {H0 : Hp} {σ : L2.St} {s : Ld} {ta : TA} {te : TE} {Q : V → Ld → Prop} {D : Dl}
/-- the error caught: its suite -/
def Caught (K : PySem.W.Frag) (H0 : Hp) (c : Value) (i : Nat) (ts : Addr → Value → Option Addr → TS) (σ : L2.St) (D : Dl) (cls : Value) (d : Option Addr) (s : Ld) : Prop :=
  PySem.W.exmOne K cls c = some true ∧ ∀ a, H0 a = none → WS H0 (ts a cls d) (σ.set i (some (.ref a))) s (suiteD D i)
theorem caught_low {c : Value} {i : Nat} {ts : Addr → Value → Option Addr → TS} {cls : Value} {d : Option Addr} {H : Hp} {E : Ends} (h : Caught K H0 c i ts σ D cls d s) (o : Own H0 H s) (l : Low H0 D E) : wAs K c i ts (fun _ _ _ _ => False) E cls d σ H := by
  refine ⟨true, h.1, fun _ a ha => ?_, fun z => nomatch z⟩
  refine h.2 a (fresh_back o.ex ha) H o _ ⟨?_, l.rt, ?_, ?_⟩
  · intro σ' H' s' o' q
    exact l.nx _ H' s' o' q
  · intro σ' H' s' o' q
    exact l.bk _ H' s' o' q
  · intro σ' H' s' o' q
    exact l.ct _ H' s' o' q
/-- the body is one call, its value dropped -/
theorem ws_try_drop {c : Value} {i : Nat} {sp : Sp} {ts : Addr → Value → Option Addr → TS} (h : WA H0 ta σ s fun vs s1 => ∀ H, Own H0 H s1 → ∀ (R : VK) (E : XK), (∀ v H' s', Own H0 H' s' → D.nx σ s' → R v H') → (∀ cls d H' s', Own H0 H' s' → Caught K H0 c i ts σ D cls d s' → E cls d H') → sp vs H R E) :
    WS H0 (tTry K c i (fun W => tDrop (tCallS sp (L2.WE W) ta)) ts) σ s D := fun H o E l =>
  h H o _ fun vs H1 s1 o1 h1 => h1 H1 o1 _ _ (fun v H' s' o' q => l.nx σ H' s' o' q) (fun cls d H' s' o' q => caught_low q o' l)
theorem ws_exc {cls : Value} {d : Option Addr} {t : Addr → TS} {D0 : Addr} (e1 : cls = .ref D0) (e2 : d = none) (hC : ExcC K D0) (h : WS H0 (t D0) σ s D) : WS H0 (tExc K cls d t) σ s D := fun H o E l => ⟨D0, e1, e2, hC, h H o E l⟩
theorem wl_isE {D0 a c : Addr} {b : Bool} (hk : PySem.W.kitOne K (.ref D0) (.ref c) = some b) (q : Q (.bl b) s) : WL H0 (rIsE K D0 a) [.ref a, .ref c] s Q := fun H o R k => ⟨.ref c, .ref c, b, rfl, (fun u h => h), hk, k _ H s o q⟩
end
theorem kit_self (K : PySem.W.Frag) (D : Addr) : PySem.W.kitOne K (.ref D) (.ref D) = some true := by
  unfold PySem.W.kitOne
  rw [if_pos (by simp)]
/-- an own class as it stands -/
structure ClsK (K : PySem.W.Frag) (C : Addr) : Prop where
  hd : PySem.W.hasDictIn K C = true
  ty : PySem.W.typeIn K (.ref C) = some (.type "type")
theorem kitCls_of {K : PySem.W.Frag} {D c : Addr} {b : Bool} (hc : ClsK K c) (h : PySem.W.subIn K (.ref D) (.ref c) = some b) : PySem.W.kitCls K (.ref D) (.ref c) = some b := by
  obtain ⟨cd, e, _⟩ := PySem.W.any_some hc.hd
  unfold PySem.W.kitCls
  have e2 : ((PySem.W.clsIn K c).isSome && PySem.W.typeIn K (.ref c) == some (.type "type")) = true := by rw [e, hc.ty] <;> rfl
  show (if ((PySem.W.clsIn K c).isSome && PySem.W.typeIn K (.ref c) == some (.type "type")) = true then PySem.W.subIn K (.ref D) (.ref c) else none) = some b
  rw [if_pos e2]
  exact h
theorem kit_no {K : PySem.W.Frag} {D c : Addr} (hc : ClsK K c) (h : PySem.W.subIn K (.ref D) (.ref c) = some false) (hs : PySem.W.subIn K (.ref c) (.ref c) = some true) : PySem.W.kitOne K (.ref D) (.ref c) = some false := by
  unfold PySem.W.kitOne
  rw [if_neg]
  · exact kitCls_of hc h
  · intro e
    have e' : (Value.ref D) = Value.ref c := by simpa using e
    cases e'
    rw [h] at hs
    cases hs
theorem kit_yes {K : PySem.W.Frag} {D c : Addr} (hc : ClsK K c) (h : PySem.W.subIn K (.ref D) (.ref c) = some true) : PySem.W.kitOne K (.ref D) (.ref c) = some true := by
  unfold PySem.W.kitOne
  split
  · rfl
  · exact kitCls_of hc h
/-- the errors that k01 meets -/
structure Ex01 (K : PySem.W.Frag) (C : CA) : Prop where
  ns : ExcC K C.c_NotSo
  nb : PySem.W.exmOne K (.ref C.c_NotSo) (.ref C.c_BracketError) = some true
  np : PySem.W.kitOne K (.ref C.c_NotSo) (.ref C.c_BadPlaces) = some false
def sp__law_refused01 (K : PySem.W.Frag) (C : CA) : Sp := spV fun vs H v => ∃ (r : List Bool) (a : Addr) (ps : List Int), Ex01 K C ∧ vs = [.str (T r), .ref a] ∧ r.length ≤ 40 ∧ H a = some (.lst (ps.map V.int)) ∧ ps.length ≤ 400 ∧ (∀ p ∈ ps, 0 ≤ p ∧ p ≤ (r.length : Int) - 2) ∧ v = .bl (swAll r ps).isNone
end BM
namespace BM
open PySem PySem.Spec PyProof.Rows L2
section
variable {P : Program} {w : World} {A : Around} {E : Value → Shared → Prop} {s : Shared}
/-- set(l), l a list of ints: what stands in it, and at most how many -/
theorem call_set_lstI {l : Addr} {xs : Array Value} (ns : List Int) {Q : Value → Shared → Prop} (hh : A.handled = none) (hl : s.heap.IsList l xs) (hit : IntsAre xs.toList ns) (hb : ns.length + 1 < scanBound)
    (h : ∀ (h2 : Heap) (k c : Nat), SetR w h2 s.heap.objs.size (fun j => decide (j ∈ ns)) c → c ≤ ns.length → (∀ b o, s.heap.get? b = some o → h2.get? b = some o) → Q (.ref s.heap.objs.size) { s with heap := h2, toks := k }) :
    wpAny (model P w) A (call (.type "set") [.ref l]) Q E s := by
  have hzz : xs.size = ns.length := by rw [← Array.length_toList]; exact IntsAre.length hit
  obtain ⟨c, tl, m1⟩ := F.called_set.mro
  have m2 := F.called_set.made
  have m3 := F.called_set.sub
  have m4 := F.called_set.notType
  have m5 := F.called_set.canCreate
  have m6 := F.typeCall_set_1 (.ref l)
  refine wpAny_call (codeAny_of_tree (?_ : wpAny _ _ (callAny (.type "set") _) _ _ _))
  refine wpAny_pure ⟨Code.quiet_builtin _ (by decide +kernel), codeAny_builtin F.entry_type_call (?_ : _)⟩
  rw [(Around.under_plain (weight_type_call_type "set" [.ref l] []) rfl : _)]
  repeat (any_goals (first | assumption | wp_step))
  refine codeAny_mono (code_set_led1 (.ref l) (E := E) (Q₁ := fun ob s1 => ob = .ref s.heap.objs.size ∧ s1 = { s with heap := s.heap.push ({ cls := Value.type "set", dict := none, data := Data.set #[] 0 (.fresh 0 0 (!w.params.followText "set-order")) } : Obj) }) ⟨rfl, rfl⟩) fun r s1 hr => ?_
  cases r with
  | error e => exact hr
  | ok fl =>
    cases fl with
    | ret ob =>
      obtain ⟨rfl, rfl⟩ := hr
      have g1 : (s.heap.push ({ cls := Value.type "set", dict := none, data := Data.set #[] 0 (.fresh 0 0 (!w.params.followText "set-order")) } : Obj)).get? s.heap.objs.size = some ({ cls := Value.type "set", dict := none, data := Data.set #[] 0 (.fresh 0 0 (!w.params.followText "set-order")) } : Obj) := Heap.get?_push_size _ rfl
      have g2 : Shared.TypeIs { s with heap := s.heap.push ({ cls := Value.type "set", dict := none, data := Data.set #[] 0 (.fresh 0 0 (!w.params.followText "set-order")) } : Obj) } (.ref s.heap.objs.size) "set" := ⟨_, g1, rfl⟩
      have m7 := F.called_set.init.lookup
      have m8 := F.called_set.init.bind (.ref s.heap.objs.size)
      repeat (any_goals (first | assumption | wp_step))
      refine codeAny_mono (codeAny_call_builtin (R := wants (fun r s2 => r = .none ∧ ∃ h2 k c, s2 = { s with heap := h2, toks := k } ∧ SetR w h2 s.heap.objs.size (fun j => decide (j ∈ ns)) c ∧ c ≤ ns.length ∧ ∀ b o, s.heap.get? b = some o → h2.get? b = some o) E)
        F.called_set.init.plain F.entry_set_init (check_set_init_1 g2 ?_)) fun r2 s2 hr2 => ?_
      · obtain ⟨⟨oc, od, odt, osl⟩, hol, hc1, nl, hd1⟩ := hl
        simp only at hc1 hd1
        subst hc1 hd1
        have lt : l < s.heap.objs.size := Heap.lt_size hol
        have g3 : (s.heap.push ({ cls := Value.type "set", dict := none, data := Data.set #[] 0 (.fresh 0 0 (!w.params.followText "set-order")) } : Obj)).get? l = some { cls := .type "list", dict := od, data := .seq xs nl, slots := osl } := Heap.get?_push_of_some _ hol
        have m9 := F.sub_list_set
        have m10 := F.sub_list_frozenset
        have m11 : (Value.type "list" == Value.type "dict") = false := by decide
        have g4 : (s.heap.push ({ cls := Value.type "set", dict := none, data := Data.set #[] 0 (.fresh 0 0 (!w.params.followText "set-order")) } : Obj)).IsList l xs := ⟨_, g3, rfl, nl, rfl⟩
        unfold Builtin.«set.__init__» noKeywords Builtin.Frozenset.updateFrom
        generalize hPy : pyIter = PY
        wp_walk
        subst hPy
        refine wpAny_pyIter_list g4 (wpAny_bind (wpAny_runValue ?_))
        have hd : A.in1.in1.in1.handled = none := by simp [hh]
        have n1 : l ≠ (s.heap.push ({ cls := Value.type "set", dict := none, data := Data.set #[] 0 (.fresh 0 0 (!w.params.followText "set-order")) } : Obj)).objs.size := by
          rw [Heap.size_push]
          exact Nat.ne_of_lt (Nat.lt_succ_of_lt lt)
        have n2 : s.heap.objs.size ∉ [(s.heap.push ({ cls := Value.type "set", dict := none, data := Data.set #[] 0 (.fresh 0 0 (!w.params.followText "set-order")) } : Obj)).objs.size, l] := by
          rw [Heap.size_push]
          intro z
          rcases List.mem_cons.mp z with z | z
          · exact Nat.ne_of_lt (Nat.lt_succ_self _) z
          · exact Nat.ne_of_gt lt (List.mem_singleton.mp z)
        have vals : ∀ (i : Nat) (v : Value), xs[i]? = some v → ∃ k t, ns[i]? = some k ∧ v = .int k t := fun i v hv => by
          have lt : i < ns.length := hzz ▸ (Array.getElem?_eq_some_iff.mp hv).1
          obtain ⟨t, e⟩ := IntsAre.int_at hit i v (by rw [Array.getElem?_toList]; exact hv)
          refine ⟨ns[i], t, List.getElem?_eq_getElem lt, e.trans ?_⟩
          rw [List.getD_eq_getElem?_getD, List.getElem?_eq_getElem lt] <;> rfl
        refine set_update_ints ((Walks.list hd _ l n1 xs).toS) s.heap.objs.size n2 ns hzz hb vals (xs.size - 0) 0 _ (by omega) (Nat.zero_le _) ⟨⟨_, Heap.get?_push_size _ rfl, rfl, rfl⟩, g4.push _⟩ ?hz0 ?hzR
        case hz0 => exact ⟨0, Nat.le_refl 0, setR_new_at (Heap.get?_push_of_some _ g1)⟩
        case hzR =>
          intro s3 c3 hm hc3 hS3
          obtain ⟨h4, a4, b4, k4, o4⟩ := s3
          have e1 : a4 = s.gens := hm.gens
          have e2 : b4 = s.drawn := hm.drawn
          have e3 : o4 = s.os := hm.os
          subst e1 e2 e3
          change wpAny _ _ _ _ _ _
          apply wpAny_pure
          change wpAny _ _ (ret Value.none) _ _ _
          refine wpAny_pure ⟨rfl, h4, k4, c3, rfl, hS3, hzz ▸ hc3, fun b o e => ?_⟩
          have lb : b < s.heap.objs.size := Heap.lt_size e
          refine hm.heap b o (fun z => ?_) (Heap.get?_push_of_some _ (Heap.get?_push_of_some _ e))
          rcases List.mem_cons.mp z with z | z
          · exact Nat.ne_of_lt lb z
          · have z1 := List.mem_singleton.mp z
            rw [Heap.size_push] at z1
            exact Nat.ne_of_lt (Nat.lt_succ_of_lt lb) z1
      · cases r2 with
        | error e => exact hr2
        | ok fl2 =>
          cases fl2 with
          | ret r =>
            obtain ⟨rfl, h2, k, c2, rfl, q1, q2, q3⟩ := hr2
            repeat (any_goals (first | assumption | wp_step))
            exact h _ _ _ q1 q2 q3
          | _ => exact hr2.elim
    | _ => exact hr.elim
end
end BM
namespace BM
open PySem PySem.Spec PyProof.Rows L2
/-- sorted(set(l)), fewer than 64 ints -/
def tSortedSet (K : PySem.W.Frag) (te : TE) : TE := fun σ H Q => te σ H fun x H1 => ∃ (l : Addr) (ns : List Int), x = .ref l ∧ SqL K H1 l (ns.map V.int) ∧ ns.length < 64 ∧
  ∀ (out : List Int) (p : Addr), out.Pairwise (· < ·) → (∀ k, k ∈ out ↔ k ∈ ns) → out.length ≤ ns.length → H1 p = none → Q (.ref p) (upd H1 p (.lst (out.map V.int)))
theorem pe_sortedSet {X : Cx} {a : Expr} {te : TE} {p p2 q pos : Pos} (hc : X.calm = true) (hg : Gl X "sorted") (hm : X.mg "sorted" = none) (hg2 : Gl X "set") (hm2 : X.mg "set" = none) (ha : PE X a te)
    (na : starEach [a] X.env = (false, eval a X.env) :: starEach [] X.env := by rfl) : PE X (.Call (.Name "sorted" p) [.Call (.Name "set" p2) [a] [] q] [] pos) (tSortedSet X.K te) := by
  refine ⟨fun pins s σ H Q I h => ?_⟩
  refine Call_ (ld_blt I hg hm boot_sorted (callWith_builtin1 (args_cons ?_ rfl) rfl rfl))
  refine Call_ (ld_blt I hg2 hm2 boot_set (callWith_type1 (args_cons (L2.thn (ha.run pins s σ H _ I h) fun v s1 ⟨x, H1, I1, r1, q1⟩ => args_nil ?_) na) na rfl))
  obtain ⟨l, ns, rfl, hq, hl, q1⟩ := q1
  cases r1
  obtain ⟨its, r, pl, hz⟩ := I1.list hq
  have hd := I1.ok.hd hc
  refine call_set_lstI ns hd pl.isList (ints_of_vals r) (by unfold scanBound; omega) fun h2 tk c R1 hcn k => args_nil ?_
  refine sorted_set (s := { s1 with heap := h2, toks := tk }) R1 hd (by omega) fun s2 p out c2 ms k2 g o hp hg3 hi hs hm3 hl2 => ?_
  have kall : ∀ b u, s1.heap.get? b = some u → s2.heap.get? b = some u := fun b u e => k2 b u (k b u e)
  have hlt : s1.heap.objs.size ≤ p := by
    refine Nat.le_trans ?_ hp
    obtain ⟨o9, es, ep, t, ho, _⟩ := R1
    exact Nat.le_of_lt (Heap.lt_size ho)
  have hn : H1 p = none := I1.hok.fresh hlt
  have hlen : (ms.map V.int).length ≤ sizeLine := by rw [List.length_map, hl2, sizeLine_eq]; omega
  have J : Inv X pins σ (upd H1 p (.lst (ms.map V.int))) { s1 with heap := s2.heap, gens := s2.gens, drawn := s2.drawn, toks := s2.toks } :=
    I1.call (ch := []) (Un.laid kall hlt hn) (I1.hok.laid kall hlt ⟨hlen, out.toList, c2, vals_of_ints hi, hg3⟩) (by rw [g]; exact I1.bare) (fun _ z => nomatch z)
  have e : s2 = { s1 with heap := s2.heap, gens := s2.gens, drawn := s2.drawn, toks := s2.toks } := by
    cases s2
    cases s1
    cases o
    rfl
  rw [e]
  exact ⟨.ref p, _, J, rfl, q1 ms p hs (fun k => by rw [hm3 k, decide_eq_true_eq]) (by omega) hn⟩
open Evl in
theorem we_sortedSet {K : PySem.W.Frag} {H0 : Hp} {σ : L2.St} {s : Ld} {te : TE} {Q : V → Ld → Prop} (h : WE H0 te σ s fun x s1 => ∃ (l : Addr) (ns : List Int), x = .ref l ∧ IsL K H0 s1 l (ns.map V.int) ∧ ns.length < 64 ∧
    ∀ (out : List Int) (p : Addr), H0 p = none → out.Pairwise (· < ·) → (∀ k, k ∈ out ↔ k ∈ ns) → out.length ≤ ns.length → Q (.ref p) ⟨(p, .lst (out.map V.int)) :: s1.L, s1.T⟩) : WE H0 (tSortedSet K te) σ s Q := fun H o R k =>
  h H o _ fun x H1 s1 o1 ⟨l, ns, e, h1, h2, q⟩ => ⟨l, ns, e, h1 H1 o1, h2, fun out p hs hm hl hn => k _ _ _ (o1.new hn) (q out p (fresh_back o1.ex hn) hs hm hl)⟩
end BM
namespace BM
open PySem L2 Evl
def aNotB : R2 := fun x y H Q => ∃ a b : Bool, x = .bl a ∧ y = .bl b ∧ Q (.bl (!decide (a = b))) H
section
variable {X : Cx}
theorem o_isB : OpR X (compareOp .Is) aIsB := OpR.imp op_isBl fun x y H Q ⟨a, b, e1, e2, q⟩ => ⟨a, b, e1, e2, by first | exact q | (have e : decide (a = b) = (a == b) := (by cases a <;> cases b <;> rfl); rw [← e]; exact q)⟩
theorem o_notB : OpR X (compareOp .IsNot) aNotB := OpR.imp op_notBl fun x y H Q ⟨a, b, e1, e2, q⟩ => ⟨a, b, e1, e2, by first | exact q | (have e : (!decide (a = b)) = (a != b) := (by cases a <;> cases b <;> rfl); rw [← e]; exact q) | (have e : (!decide (a = b)) = (!(a == b)) := (by cases a <;> cases b <;> rfl); rw [← e]; exact q)⟩
end
section
variable {K : PySem.W.Frag} {H0 : Hp} {σ : L2.St} {s : Ld} {Q : V → Ld → Prop} {t : TT}
theorem w2_notB {a b : Bool} (q : Q (.bl (!decide (a = b))) s) : W2 H0 aNotB (.bl a) (.bl b) s Q := fun H o R k => ⟨a, b, rfl, rfl, k _ H s o q⟩
theorem wt_val {b : Bool} {Q : Bool → Ld → Prop} (h : ∀ Q : Bool → Ld → Prop, Q b s → WT H0 t σ s Q) (q : Q b s) : WT H0 t σ s Q := h Q q
end
theorem c_after_swaps {K : PySem.W.Frag} {C : CA} {H0 : Hp} {s : Ld} {Q : V → Ld → Prop} {E : XK} {r u : List Bool} {a : Addr} {ps : List Int} (hl : r.length ≤ 40) (ha : ∀ H, Own H0 H s → H a = some (.lst (ps.map V.int))) (hps : ps.length ≤ 400) (hr : ∀ p ∈ ps, 0 ≤ p ∧ p ≤ (r.length : Int) - 2) (hu : swAll r ps = some u) (q : Q (.str (T u)) s) : WC H0 (sp_after_swaps K C) E [.str (T r), .ref a] s Q := fun H o R k =>
  ⟨r, a, ps, rfl, hl, ha H o, hps, hr, fun u' e H' x => by
    rw [hu] at e
    cases e
    exact k _ _ _ (o.ext x) q, fun e => absurd (hu.symm.trans e) (by simp)⟩
theorem Paired.rev {α β : Type} {R : α → β → Prop} {xs : List α} {ys : List β} (h : Paired R xs ys) : Paired R xs.reverse ys.reverse := by
  have app : ∀ {a b : List α} {c d : List β}, Paired R a c → Paired R b d → Paired R (a ++ b) (c ++ d) := by
    intro a b c d h1 h2
    induction h1 with
    | nil => exact h2
    | cons r t ih => exact .cons r ih
  induction h with
  | nil => exact .nil
  | cons r t ih =>
    rw [List.reverse_cons, List.reverse_cons]
    exact app ih (.cons r .nil)
theorem pairsT_in {K : PySem.W.Frag} {H : Hp} {xs : List V} {qs : List (Int × Int)} (h : Paired (fun x (p : Int × Int) => ∃ t, x = V.ref t ∧ H t = some (.tup [.int p.1, .int p.2])) xs qs) : PairsIn K H xs qs := Paired.mapP h fun a b ⟨t, h1, h2⟩ => ⟨t, h1, st_of h2⟩
theorem pairsT_ex {H H' : Hp} (e : Ex H H') {xs : List V} {qs : List (Int × Int)} (h : Paired (fun x (p : Int × Int) => ∃ t, x = V.ref t ∧ H t = some (.tup [.int p.1, .int p.2])) xs qs) : Paired (fun x (p : Int × Int) => ∃ t, x = V.ref t ∧ H' t = some (.tup [.int p.1, .int p.2])) xs qs := Paired.mapP h fun a b ⟨t, h1, h2⟩ => ⟨t, h1, e _ _ h2⟩
end BM
namespace BM
open PySem L2 Evl
def sp__law_deeds_right01 (K : PySem.W.Frag) (C : CA) : Sp := spV fun vs H v => ∃ (r : List Bool) (a b : Addr) (ps : List Int) (qs : List (Int × Int)), Ex01 K C ∧ vs = [.str (T r), .ref a, .ref b] ∧ r.length ≤ 40 ∧ SqL K H a (ps.map V.int) ∧ ps.length ≤ 48 ∧ (∀ p ∈ ps, 0 ≤ p ∧ p ≤ (r.length : Int) - 2) ∧ PairsT H b qs ∧ qs.length ≤ 48 ∧ (∀ p ∈ qs, stOk r.length p) ∧ v = .bl true
def sp_law01 (K : PySem.W.Frag) (C : CA) : Sp := spV fun vs H v => ∃ (a : Addr) (ns : List Int), Ex01 K C ∧ vs = [.ref a] ∧ SqL K H a (ns.map V.int) ∧ ns.length ≤ 63 ∧ v = .bl true
end BM
namespace BM
open PySem L2 Evl
def N__law_refused01 : List Str := ["_law_row_here", "_law_places", "error"]
def rd__law_refused01 (K : PySem.W.Frag) (C_ : CA) : TS :=
    (tSeq (tTry K (.ref C_.c_BracketError) 2 (fun W => (tDrop (tCallS (sp_after_swaps K C_) (L2.WE W) (tCons (tVar 0) (tCons (tVar 1) tNil))))) (fun a cls d => tExc K cls d fun D0 => (tRet (tAndV (tCB (rIsE K D0 a) (tCons (tVar 2) (tCons (tC (.ref C_.c_NotSo)) tNil))) (tNotV (tCB (rIsE K D0 a) (tCons (tVar 2) (tCons (tC (.ref C_.c_BadPlaces)) tNil))))))))
    (tRet (tC (.bl false))))

def N__law_deeds_right01 : List Str := ["_law_row_here", "_law_places", "_law_stretches", "_law_place", "_law_handed", "_law_again", "_law_now", "_law_good_here"]
def rd__law_deeds_right01 (K : PySem.W.Frag) (C_ : CA) : TS :=
    (tSeq (tPar 6 7 (tCons (tVar 0) (tCons (tC (.bl true)) tNil)))
    (tSeq (tFor (iList K (tVar 1)) (gName 3) (tSeq (tAsg (tIf (tB (tVar 7)) (tCall (sp__law_swap K C_) [] E0 (tCons (tVar 6) (tCons (tVar 3) tNil))) (tVar 6)) (gName 6))
    (tAsg (tAndV (tVar 7) (tOp aNotN (tVar 6) (tC .non))) (gName 7))))
    (tSeq (tAsg (tLst (tCons (tCB (aListOf K) (tCons (tVar 1) tNil)) (tCons (tSortedSet K (tVar 1)) (tCons (tCB (aListOf K) (tCons (tVar 2) tNil)) tNil)))) (gName 4))
    (tSeq (tFor (iRng1 (tCons (tC (.int 2)) tNil)) (gName 5) (tSeq (tIfS (tOr (tAnd (tB (tVar 7)) (tTest (tOp rNe (tCall (sp_after_swaps K C_) [] E0 (tCons (tVar 0) (tCons (tOp (rIxL K) (tVar 4) (tC (.int 0))) tNil))) (tVar 6)))) (tAnd (tNot (tB (tVar 7))) (tNot (tB (tCall (sp__law_refused01 K C_) [] E0 (tCons (tVar 0) (tCons (tOp (rIxL K) (tVar 4) (tC (.int 0))) tNil))))))) (tRet (tC (.bl false))) tNext)
    (tSeq (tIfS (tTest (tOp rNe (tCall (sp_after_turns K C_) [] E0 (tCons (tVar 0) (tCons (tOp (rIxL K) (tVar 4) (tC (.int 1))) tNil))) (tCall (sp__law_over K C_) [] E0 (tCons (tVar 0) (tCons (tOp (rIxL K) (tVar 4) (tC (.int 1))) tNil))))) (tRet (tC (.bl false))) tNext)
    (tSeq (tIfS (tOr (tTest (tOp rNe (tCall (sp_after_rounds K C_) [] E0 (tCons (tVar 0) (tCons (tOp (rIxL K) (tVar 4) (tC (.int 2))) tNil))) (tCall (sp__law_round K C_) [] E0 (tCons (tVar 0) (tCons (tOp (rIxL K) (tVar 4) (tC (.int 2))) tNil))))) (tTest (tOp (rNeD K) (tOp (rIxL K) (tVar 4) (tC (.int 2))) (tVar 2)))) (tRet (tC (.bl false))) tNext)
    (tIfS (tTest (tOp (rNeD K) (tOp (rIxL K) (tVar 4) (tC (.int 0))) (tVar 1))) (tRet (tC (.bl false))) tNext)))))
    (tSeq (tIfS (tTest (tOp rNe (tCall (sp_after_turns K C_) [] E0 (tCons (tCall (sp_after_turns K C_) [] E0 (tCons (tVar 0) (tCons (tOp (rIxL K) (tVar 4) (tC (.int 1))) tNil))) (tCons (tOp (rIxL K) (tVar 4) (tC (.int 1))) tNil))) (tVar 0))) (tRet (tC (.bl false))) tNext)
    (tSeq (tIfS (tTest (tOp rNe (tCall (sp_after_rounds K C_) [] E0 (tCons (tCall (sp_after_rounds K C_) [] E0 (tCons (tVar 0) (tCons (tVar 2) tNil))) (tCons (tRevL K (tVar 2)) tNil))) (tVar 0))) (tRet (tC (.bl false))) tNext)
    (tSeq (tIfS (tAnd (tB (tVar 7)) (tTest (tOp rNe (tCall (sp_after_swaps K C_) [] E0 (tCons (tVar 6) (tCons (tRevL K (tVar 1)) tNil))) (tVar 0)))) (tRet (tC (.bl false))) tNext)
    (tSeq (tIfS (tAnd (tTest (tOp (rNeD K) (tOp (rIxL K) (tVar 4) (tC (.int 0))) (tLst tNil))) (tB (tVar 7))) (tSeq (tDrop (tBM0 K "list" rPop (tOp (rIxL K) (tVar 4) (tC (.int 0)))))
    (tSeq (tAsg (tVar 0) (gName 6))
    (tSeq (tFor (iList K (tOp (rIxL K) (tVar 4) (tC (.int 0)))) (gName 3) (tAsg (tCall (sp__law_swap K C_) [] E0 (tCons (tVar 6) (tCons (tVar 3) tNil))) (gName 6)))
    (tIfS (tTest (tOp rNe (tCall (sp_after_swaps K C_) [] E0 (tCons (tVar 0) (tCons (tOp (rIxL K) (tVar 4) (tC (.int 0))) tNil))) (tVar 6))) (tRet (tC (.bl false))) tNext)))) tNext)
    (tSeq (tIfS (tTest (tOp (rNeD K) (tOp (rIxL K) (tVar 4) (tC (.int 1))) (tLst tNil))) (tSeq (tDrop (tBM0 K "list" rPop (tOp (rIxL K) (tVar 4) (tC (.int 1)))))
    (tDrop (tBM0 K "list" rReverse (tOp (rIxL K) (tVar 4) (tC (.int 2)))))) tNext)
    (tSeq (tIfS (tTest (tOp rNe (tCall (sp_after_turns K C_) [] E0 (tCons (tVar 0) (tCons (tOp (rIxL K) (tVar 4) (tC (.int 1))) tNil))) (tCall (sp__law_over K C_) [] E0 (tCons (tVar 0) (tCons (tOp (rIxL K) (tVar 4) (tC (.int 1))) tNil))))) (tRet (tC (.bl false))) tNext)
    (tRet (tOp rEq (tCall (sp_after_rounds K C_) [] E0 (tCons (tVar 0) (tCons (tOp (rIxL K) (tVar 4) (tC (.int 2))) tNil))) (tCall (sp__law_round K C_) [] E0 (tCons (tVar 0) (tCons (tOp (rIxL K) (tVar 4) (tC (.int 2))) tNil)))))))))))))))

def N_law01 : List Str := ["_law_script", "_law_cells", "_law_whole", "_law_by", "_law_row_here", "_law_again", "_law_good_here", "_law_found", "_law_places", "_law_stretches", "_law_at", "_law_cell", "_law_number_here", "_law_first", "_law_place"]
def rd_law01 (K : PySem.W.Frag) (C_ : CA) : TS :=
    (tSeq (tAsg (tIf (tTest (tOp (rNeD K) (tVar 0) (tLst tNil))) (tSl (rSlL K) (tVar 0) tNoPart (tPart (tC (.int 24)))) (tLst (tCons (tC (.int 5)) tNil))) (gName 1))
    (tSeq (tAsg (tCB aAbs (tCons (tCB (rSum K) (tCons (tSl (rSlL K) (tVar 0) tNoPart (tPart (tC (.int 63)))) tNil)) tNil)) (gName 2))
    (tSeq (tFor (iList K (tLst (tCons (tC (.int 0)) (tCons (tC (.int 1)) (tCons (tC (.int 2)) (tCons (tC (.int 3)) tNil)))))) (gName 3) (tSeq (tAsg (tCall (sp__law_row K C_) [] E0 (tCons (tVar 0) (tCons (tVar 3) (tCons (tC (.int 40)) (tCons (tOp rEq (tOp aMod (tVar 3) (tC (.int 2))) (tC (.int 1))) tNil))))) (gName 4))
    (tSeq (tFor (iRng1 (tCons (tC (.int 2)) tNil)) (gName 5) (tSeq (tAsg (tCall (sp_depths K C_) [] E0 (tCons (tVar 4) tNil)) (gName 7))
    (tSeq (tIfS (tOr (tTest (tOp (rNeD K) (tVar 7) (tCall (sp__law_depths K C_) [] E0 (tCons (tVar 4) tNil)))) (tOr (tTest (tOp rNe (tCall (sp_is_right K C_) [] E0 (tCons (tVar 4) tNil)) (tCall (sp__law_good K C_) [] E0 (tCons (tVar 4) tNil)))) (tNot (tB (tCB (aIsi K "list") (tCons (tVar 7) (tCons (tC (.ty "list")) tNil))))))) (tRet (tC (.bl false))) tNext)
    (tDrop (tBM K "list" rAppend (tVar 7) (tCons (tC (.int 0)) tNil))))))
    (tSeq (tPar 8 9 (tCons (tLst tNil) (tCons (tLst tNil) tNil)))
    (tSeq (tFor (iEnum K (tCons (tVar 1) tNil)) (gTup K 2 (gCons (gName 10) (gCons (gName 11) gNil))) (tSeq (tAsg (tOp aDiv (tCB aAbs (tCons (tCall (sp__law_number K C_) [] E0 (tCons (tVar 11) (tCons (tOp aAdd (tVar 10) (tVar 3)) (tCons (tVar 2) tNil)))) tNil)) (tC (.int 3))) (gName 12))
    (tIfS (tTest (tOp aGt (tCB aLenT (tCons (tVar 4) tNil)) (tC (.int 1)))) (tSeq (tDrop (tBM K "list" rAppend (tVar 8) (tCons (tOp aMod (tVar 12) (tOp aSub (tCB aLenT (tCons (tVar 4) tNil)) (tC (.int 1)))) tNil)))
    (tSeq (tAsg (tOp aMod (tOp aDiv (tVar 12) (tC (.int 40))) (tCB aLenT (tCons (tVar 4) tNil))) (gName 13))
    (tDrop (tBM K "list" rAppend (tVar 9) (tCons (tTup (tCons (tVar 13) (tCons (tOp aAdd (tOp aAdd (tVar 13) (tC (.int 1))) (tOp aMod (tOp aDiv (tVar 12) (tC (.int 1600))) (tOp aSub (tCB aLenT (tCons (tVar 4) tNil)) (tVar 13)))) tNil))) tNil))))) tNext)))
    (tSeq (tAsg (tLc (iList K (tSl (rSlL K) (tVar 8) tNoPart (tPart (tC (.int 1))))) (gName 14) (tTest (tOp rNe (tOp aIxT (tVar 4) (tVar 14)) (tOp aIxT (tVar 4) (tOp aAdd (tVar 14) (tC (.int 1)))))) (tVar 14) [14]) (gName 6))
    (tIfS (tOr (tNot (tB (tCall (sp__law_deeds_right01 K C_) [] E0 (tCons (tVar 4) (tCons (tVar 8) (tCons (tVar 9) tNil)))))) (tNot (tB (tCall (sp__law_deeds_right01 K C_) [] E0 (tCons (tVar 4) (tCons (tOp rRep (tVar 6) (tC (.int 2))) (tCons (tSl (rSlL K) (tVar 9) tNoPart (tPart (tC (.int 1)))) tNil))))))) (tRet (tC (.bl false))) tNext)))))))
    (tSeq (tIfS (tOr (tTest (tOp rNe (tCall (sp_after_swaps K C_) [] E0 (tCons (tC (.str (T [true, false, false, true]))) (tCons (tLst (tCons (tC (.int 2)) (tCons (tC (.int 1)) tNil))) tNil))) (tC (.str (T [true, true, false, false]))))) (tTest (tOp rNe (tCall (sp_after_rounds K C_) [] E0 (tCons (tC (.str (T [true, true, false]))) (tCons (tLst (tCons (tTup (tCons (tC (.int 0)) (tCons (tC (.int 3)) tNil))) (tCons (tTup (tCons (tC (.int 1)) (tCons (tC (.int 3)) tNil))) tNil))) tNil))) (tC (.str (T [false, true, true])))))) (tRet (tC (.bl false))) tNext)
    (tSeq (tIfS (tTest (tOp aNotB (tCall (sp_is_right K C_) [] E0 (tCons (tC (.str (T []))) tNil)) (tC (.bl true)))) (tRet (tC (.bl false))) tNext)
    (tRet (tAndV (tOp rEq (tCall (sp_after_turns K C_) [] E0 (tCons (tC (.str (T [false, false, true, true]))) (tCons (tLst (tCons (tC (.int 0)) (tCons (tC (.int 3)) tNil))) tNil))) (tC (.str (T [true, false, true, false])))) (tOp (rEqD K) (tCall (sp_depths K C_) [] E0 (tCons (tC (.str (T [false, false, true]))) tNil)) (tLst (tCons (tC (.int 0)) (tCons (tUn aNeg (tC (.int 1))) (tCons (tUn aNeg (tC (.int 2))) (tCons (tUn aNeg (tC (.int 1))) tNil)))))))))))))

end BM
namespace BM
open PySem L2 Evl
local macro_rules | `(tactic| walk_at "mem") => `(tactic| first | exact List.mem_cons_self | (refine List.mem_cons_of_mem _ ?_; walk_at "mem"))
local macro_rules | `(tactic| walk_at "swap") => `(tactic| first | exact Swap.here | (refine Swap.there ?_; walk_at "swap"))
local macro_rules | `(tactic| walk_at "subl") => `(tactic| first | exact List.Sublist.refl _ | exact List.nil_sublist _ | (refine List.Sublist.cons_cons _ ?_; walk_at "subl") | (refine List.Sublist.cons _ ?_; walk_at "subl"))
local macro_rules | `(tactic| walk_at "sub") => `(tactic| first | exact Sub.refl _ | (refine ⟨?_, ?_⟩ <;> walk_at "subl"))
local macro_rules | `(tactic| walk_at "isl") => `(tactic| first | exact isL_own (by walk_at "mem") | exact isL_old (by assumption) | assumption)
local macro_rules | `(tactic| walk_at "ist") => `(tactic| first | exact isT_own (by walk_at "mem") | exact isT_old (by assumption) | assumption)
local macro_rules | `(tactic| walk_at "len") => `(tactic| first | omega | decide | (simp only [List.length_map, List.length_take, List.length_drop, List.length_append, List.length_cons, List.length_nil, List.length_reverse, dps_len, flp_len]; omega) | (simp [dps_len, flp_len]; omega) | simp)
local macro_rules | `(tactic| walk_at "b0") => `(tactic| first
  | with_reducible refine' ws_set ?_
  | with_reducible refine' ws_par ?_
  | with_reducible refine' ws_asg ?_
  | with_reducible refine' ws_drop ?_
  | with_reducible refine' ws_ret ?_
  | with_reducible refine' ws_if ?_
  | with_reducible refine' ws_next ?_
  | with_reducible refine' ws_brk ?_
  | with_reducible refine' ws_cont ?_
  | ((with_reducible refine' we_var ?hv ?_); case hv => rfl)
  | with_reducible refine' we_c ?_
  | with_reducible refine' we_op ?_
  | with_reducible refine' we_un ?_
  | with_reducible refine' we_if ?_
  | with_reducible refine' we_and ?_
  | with_reducible refine' we_or ?_
  | with_reducible refine' we_not ?_
  | with_reducible refine' wa_nil ?_
  | with_reducible refine' wa_cons ?_
  | (with_reducible refine' we_lst ?_)
  | (with_reducible refine' we_tup ?_)
  | with_reducible refine' we_cb ?_
  | with_reducible refine' we_call0 ?_
  | with_reducible refine' we_sl ?_
  | with_reducible refine' wo_none ?_
  | (with_reducible refine' wo_some ?_)
  | with_reducible refine' wt_test ?_
  | with_reducible refine' wt_B ?_
  | with_reducible refine' wt_and ?_
  | with_reducible refine' wt_or ?_
  | with_reducible refine' wt_not ?_
  | with_reducible refine' wt_yes ?_
  | with_reducible refine' we_chain ?_
  | with_reducible refine' we_chain3 ?_
  | with_reducible refine' we_revT ?_
  | with_reducible refine' we_revL ?_
  | with_reducible refine' we_bm ?_
  | with_reducible refine' we_bm0 ?_
  | with_reducible refine' ws_for ?_
  | with_reducible refine' we_lc ?_
  | with_reducible refine' wi_list ?_
  | with_reducible refine' wi_tup ?_
  | with_reducible refine' wi_T ?_
  | with_reducible refine' wi_rng1 ?_
  | with_reducible refine' wi_rng2 ?_
  | with_reducible refine' wi_rng3 ?_
  | with_reducible refine' wi_enum ?_
  | with_reducible refine' wi_enumT ?_
  | with_reducible refine' wi_zip ?_
  | with_reducible refine' wg_name ?_
  | with_reducible refine' wg_sub ?_
  | with_reducible refine' wgs_nil ?_
  | with_reducible refine' wgs_cons ?_
  | ((with_reducible refine' wg_tup ?ht ?hn ?_); (case ht => walk_at "ist"); (case hn => rfl))
  | with_reducible refine' w2_add ?_
  | with_reducible refine' w2_sub ?_
  | with_reducible refine' w2_lt ?_
  | with_reducible refine' w2_le ?_
  | with_reducible refine' w2_gt ?_
  | with_reducible refine' w2_ge ?_
  | with_reducible refine' w2_eqI ?_
  | with_reducible refine' w2_neI ?_
  | with_reducible refine' w2_eqT ?_
  | with_reducible refine' w2_neT ?_
  | with_reducible refine' w2_eqB ?_
  | with_reducible refine' w2_neB ?_
  | with_reducible refine' w2_isN ?_
  | with_reducible refine' w2_notN ?_
  | with_reducible refine' w2_isB ?_
  | with_reducible refine' w2_inT ?_
  | with_reducible refine' w1_neg ?_
  | with_reducible refine' wl_abs ?_
  | with_reducible refine' wl_max2 ?_
  | with_reducible refine' wl_min2 ?_
  | with_reducible refine' wl_intB ?_
  | ((with_reducible refine' w2_div ?h ?_); case h => first | omega | (constructor <;> omega))
  | ((with_reducible refine' w2_mod ?h ?_); case h => omega)
  | ((with_reducible refine' w2_catT ?h ?_); case h => walk_at "len")
  | ((with_reducible refine' wsl_T ?h ?_); case h => walk_at "len")
  | ((with_reducible refine' wl_lenT ?h ?_); case h => walk_at "len")
  | ((with_reducible refine' wl_len ?h ?_); case h => walk_at "isl")
  | ((with_reducible refine' wl_len ?h ?_); case h => walk_at "isl")
  | ((with_reducible refine' wm_append ?sw ?hl ?_); (case sw => walk_at "swap"); (case hl => walk_at "len")))
local macro_rules | `(tactic| walk_at "b1") => `(tactic| first | with_reducible refine' ws_seq ?_ | walk_at "b0")
local macro_rules | `(tactic| walk_at "bx") => `(tactic| first
  | refine ⟨_, rfl, ?_⟩
  | refine ⟨_, _, rfl, ?_⟩
  | refine ⟨ty_L (by walk_at "isl"), ?_⟩
  | refine ⟨ty_S, ?_⟩
  | refine spl_t (by rfl) ?_
  | refine spl_f (by rfl) ?_
  | exact rfl)
local macro_rules | `(tactic| walk_at "bm") => `(tactic| repeat (first | walk_at "b1" | walk_at "bx"))
local macro_rules | `(tactic| walk_at "bn") => `(tactic| repeat (first | walk_at "b0" | walk_at "bx"))
local macro_rules | `(tactic| walk_at "b0") => `(tactic| with_reducible refine' c_deepens ?_)
local macro_rules | `(tactic| walk_at "b0") => `(tactic| ((with_reducible refine' c_depths_of ?hl ?_); (case hl => walk_at "len")))
local macro_rules | `(tactic| walk_at "b0") => `(tactic| with_reducible refine' c_is_wholeI ?_)
local macro_rules | `(tactic| walk_at "b0") => `(tactic| with_reducible refine' c_flipped ?_)
local macro_rules | `(tactic| walk_at "b0") => `(tactic| ((with_reducible refine' c_is_right_row ?hl ?_); (case hl => walk_at "len")))
local macro_rules | `(tactic| walk_at "b0") => `(tactic| ((with_reducible refine' c_asked_row ?hl ?_); (case hl => walk_at "len")))
local macro_rules | `(tactic| walk_at "b0") => `(tactic| ((with_reducible refine' c_depths ?hl ?_); (case hl => walk_at "len")))
local macro_rules | `(tactic| walk_at "b0") => `(tactic| ((with_reducible refine' c_is_right ?hl ?_); (case hl => walk_at "len")))
local macro_rules | `(tactic| walk_at "b0") => `(tactic| ((with_reducible refine' c__law_depths ?hl ?_); (case hl => walk_at "len")))
local macro_rules | `(tactic| walk_at "b0") => `(tactic| ((with_reducible refine' c__law_good ?hl ?_); (case hl => walk_at "len")))
theorem ln__law_refused01 {K : PySem.W.Frag} {C : CA} {vs : List V} {H : Hp} {Q : VK} {E : XK} (h : sp__law_refused01 K C vs H Q E) : vs.length = 2 := by
  obtain ⟨v, ⟨r, a, ps, _, rfl, _⟩, _⟩ := h
  rfl
theorem pu__law_refused01 {K : PySem.W.Frag} {C : CA} {vs : List V} {H : Hp} {Q : VK} {E : XK} (h : sp__law_refused01 K C vs H Q E) : rd__law_refused01 K C { nx := fun _ H' => Q .non H', rt := Q } (start N__law_refused01 vs) H := by
  obtain ⟨v, ⟨r, a, ps, hX, rfl, hl, ha, hps, hr, rfl⟩, k⟩ := h
  refine body_V ?_ k
  unfold rd__law_refused01
  refine ws_seq ?_
  refine ws_try_drop ?_
  walk_at "bm"
  intro H' o' R E' hv hE
  refine ⟨r, a, ps, rfl, hl, o'.ex _ _ ha, hps, hr, fun u hu H2 x => hv _ _ _ (o'.ext x) ?_, fun hn H2 x => hE _ _ _ _ (o'.ext x) ?_⟩
  · walk_at "bm"
    show V.bl false = V.bl _
    rw [hu]
    rfl
  · refine ⟨hX.nb, fun e he => ?_⟩
    refine ws_exc rfl rfl hX.ns ?_
    walk_at "bm"
    refine wl_isE (kit_self _ _) ?_
    walk_at "bm"
    refine wl_isE hX.np ?_
    walk_at "bm"
    show V.bl _ = V.bl _
    rw [hn]
    rfl
theorem c__law_refused01 {K : PySem.W.Frag} {C : CA} {H0 : Hp} {s : Ld} {Q : V → Ld → Prop} {E : XK} {r : List Bool} {a : Addr} {ps : List Int} (hX : Ex01 K C) (hl : r.length ≤ 40) (ha : ∀ H, Own H0 H s → H a = some (.lst (ps.map V.int))) (hps : ps.length ≤ 400) (hr : ∀ p ∈ ps, 0 ≤ p ∧ p ≤ (r.length : Int) - 2) (q : Q (.bl (swAll r ps).isNone) s) : WC H0 (sp__law_refused01 K C) E [.str (T r), .ref a] s Q :=
  wc_V (fun H o => ⟨r, a, ps, hX, rfl, hl, ha H o, hps, hr, rfl⟩) q
end BM
namespace BM
open PySem L2 Evl
local macro_rules | `(tactic| walk_at "mem") => `(tactic| first | exact List.mem_cons_self | (refine List.mem_cons_of_mem _ ?_; walk_at "mem"))
local macro_rules | `(tactic| walk_at "swap") => `(tactic| first | exact Swap.here | (refine Swap.there ?_; walk_at "swap"))
local macro_rules | `(tactic| walk_at "subl") => `(tactic| first | exact List.Sublist.refl _ | exact List.nil_sublist _ | (refine List.Sublist.cons_cons _ ?_; walk_at "subl") | (refine List.Sublist.cons _ ?_; walk_at "subl"))
local macro_rules | `(tactic| walk_at "sub") => `(tactic| first | exact Sub.refl _ | (refine ⟨?_, ?_⟩ <;> walk_at "subl"))
local macro_rules | `(tactic| walk_at "isl") => `(tactic| first | exact isL_own (by walk_at "mem") | exact isL_old (by assumption) | assumption)
local macro_rules | `(tactic| walk_at "ist") => `(tactic| first | exact isT_own (by walk_at "mem") | exact isT_old (by assumption) | assumption)
local macro_rules | `(tactic| walk_at "len") => `(tactic| first | omega | decide | (simp only [List.length_map, List.length_take, List.length_drop, List.length_append, List.length_cons, List.length_nil, List.length_reverse, dps_len, flp_len]; omega) | (simp [dps_len, flp_len]; omega) | simp)
local macro_rules | `(tactic| walk_at "b0") => `(tactic| first
  | with_reducible refine' ws_set ?_
  | with_reducible refine' ws_par ?_
  | with_reducible refine' ws_asg ?_
  | with_reducible refine' ws_drop ?_
  | with_reducible refine' ws_ret ?_
  | with_reducible refine' ws_if ?_
  | with_reducible refine' ws_next ?_
  | with_reducible refine' ws_brk ?_
  | with_reducible refine' ws_cont ?_
  | ((with_reducible refine' we_var ?hv ?_); case hv => rfl)
  | with_reducible refine' we_c ?_
  | with_reducible refine' we_op ?_
  | with_reducible refine' we_un ?_
  | with_reducible refine' we_if ?_
  | with_reducible refine' we_and ?_
  | with_reducible refine' we_or ?_
  | with_reducible refine' we_not ?_
  | with_reducible refine' wa_nil ?_
  | with_reducible refine' wa_cons ?_
  | (with_reducible refine' we_lst ?_)
  | (with_reducible refine' we_tup ?_)
  | with_reducible refine' we_cb ?_
  | with_reducible refine' we_call0 ?_
  | with_reducible refine' we_sl ?_
  | with_reducible refine' wo_none ?_
  | (with_reducible refine' wo_some ?_)
  | with_reducible refine' wt_test ?_
  | with_reducible refine' wt_B ?_
  | with_reducible refine' wt_and ?_
  | with_reducible refine' wt_or ?_
  | with_reducible refine' wt_not ?_
  | with_reducible refine' wt_yes ?_
  | with_reducible refine' we_chain ?_
  | with_reducible refine' we_chain3 ?_
  | with_reducible refine' we_revT ?_
  | with_reducible refine' we_revL ?_
  | with_reducible refine' we_bm ?_
  | with_reducible refine' we_bm0 ?_
  | with_reducible refine' ws_for ?_
  | with_reducible refine' we_lc ?_
  | with_reducible refine' wi_list ?_
  | with_reducible refine' wi_tup ?_
  | with_reducible refine' wi_T ?_
  | with_reducible refine' wi_rng1 ?_
  | with_reducible refine' wi_rng2 ?_
  | with_reducible refine' wi_rng3 ?_
  | with_reducible refine' wi_enum ?_
  | with_reducible refine' wi_enumT ?_
  | with_reducible refine' wi_zip ?_
  | with_reducible refine' wg_name ?_
  | with_reducible refine' wg_sub ?_
  | with_reducible refine' wgs_nil ?_
  | with_reducible refine' wgs_cons ?_
  | ((with_reducible refine' wg_tup ?ht ?hn ?_); (case ht => walk_at "ist"); (case hn => rfl))
  | with_reducible refine' w2_add ?_
  | with_reducible refine' w2_sub ?_
  | with_reducible refine' w2_lt ?_
  | with_reducible refine' w2_le ?_
  | with_reducible refine' w2_gt ?_
  | with_reducible refine' w2_ge ?_
  | with_reducible refine' w2_eqI ?_
  | with_reducible refine' w2_neI ?_
  | with_reducible refine' w2_eqT ?_
  | with_reducible refine' w2_neT ?_
  | with_reducible refine' w2_eqB ?_
  | with_reducible refine' w2_neB ?_
  | with_reducible refine' w2_isN ?_
  | with_reducible refine' w2_notN ?_
  | with_reducible refine' w2_isB ?_
  | with_reducible refine' w2_inT ?_
  | with_reducible refine' w1_neg ?_
  | with_reducible refine' wl_abs ?_
  | with_reducible refine' wl_max2 ?_
  | with_reducible refine' wl_min2 ?_
  | with_reducible refine' wl_intB ?_
  | ((with_reducible refine' w2_div ?h ?_); case h => first | omega | (constructor <;> omega))
  | ((with_reducible refine' w2_mod ?h ?_); case h => omega)
  | ((with_reducible refine' w2_catT ?h ?_); case h => walk_at "len")
  | ((with_reducible refine' wsl_T ?h ?_); case h => walk_at "len")
  | ((with_reducible refine' wl_lenT ?h ?_); case h => walk_at "len")
  | ((with_reducible refine' wl_len ?h ?_); case h => walk_at "isl")
  | ((with_reducible refine' wl_len ?h ?_); case h => walk_at "isl")
  | ((with_reducible refine' wm_append ?sw ?hl ?_); (case sw => walk_at "swap"); (case hl => walk_at "len")))
local macro_rules | `(tactic| walk_at "b1") => `(tactic| first | with_reducible refine' ws_seq ?_ | walk_at "b0")
local macro_rules | `(tactic| walk_at "bx") => `(tactic| first
  | refine ⟨_, rfl, ?_⟩
  | refine ⟨_, _, rfl, ?_⟩
  | refine ⟨ty_L (by walk_at "isl"), ?_⟩
  | refine ⟨ty_S, ?_⟩
  | refine spl_t (by rfl) ?_
  | refine spl_f (by rfl) ?_
  | exact rfl)
local macro_rules | `(tactic| walk_at "bm") => `(tactic| repeat (first | walk_at "b1" | walk_at "bx"))
local macro_rules | `(tactic| walk_at "bn") => `(tactic| repeat (first | walk_at "b0" | walk_at "bx"))
local macro_rules | `(tactic| walk_at "b0") => `(tactic| with_reducible refine' c_deepens ?_)
local macro_rules | `(tactic| walk_at "b0") => `(tactic| ((with_reducible refine' c_depths_of ?hl ?_); (case hl => walk_at "len")))
local macro_rules | `(tactic| walk_at "b0") => `(tactic| with_reducible refine' c_is_wholeI ?_)
local macro_rules | `(tactic| walk_at "b0") => `(tactic| with_reducible refine' c_flipped ?_)
local macro_rules | `(tactic| walk_at "b0") => `(tactic| ((with_reducible refine' c_is_right_row ?hl ?_); (case hl => walk_at "len")))
local macro_rules | `(tactic| walk_at "b0") => `(tactic| ((with_reducible refine' c_asked_row ?hl ?_); (case hl => walk_at "len")))
local macro_rules | `(tactic| walk_at "b0") => `(tactic| ((with_reducible refine' c_depths ?hl ?_); (case hl => walk_at "len")))
local macro_rules | `(tactic| walk_at "b0") => `(tactic| ((with_reducible refine' c_is_right ?hl ?_); (case hl => walk_at "len")))
local macro_rules | `(tactic| walk_at "b0") => `(tactic| ((with_reducible refine' c__law_depths ?hl ?_); (case hl => walk_at "len")))
local macro_rules | `(tactic| walk_at "b0") => `(tactic| ((with_reducible refine' c__law_good ?hl ?_); (case hl => walk_at "len")))
local macro_rules | `(tactic| walk_at "b0") => `(tactic| ((with_reducible refine' wl_listOf ?hx ?_); (case hx => walk_at "isl")))
local macro_rules | `(tactic| walk_at "b0") => `(tactic| with_reducible refine' w2_notB ?_)
theorem own_l {H0 : Hp} {s : Ld} {p : Addr} {o : HO} (h : (p, o) ∈ s.L) : ∀ H, Own H0 H s → H p = some o := fun H w => (w.own _ h).2
local macro_rules | `(tactic| walk_at "own") => `(tactic| exact own_l (by walk_at "mem"))
theorem ln__law_deeds_right01 {K : PySem.W.Frag} {C : CA} {vs : List V} {H : Hp} {Q : VK} {E : XK} (h : sp__law_deeds_right01 K C vs H Q E) : vs.length = 3 := by
  obtain ⟨v, ⟨r, a, b, ps, qs, _, rfl, _⟩, _⟩ := h
  rfl
/-- the row now, where all went well so far -/
def GoodNow (x : Option (List Bool)) (g : Bool) (v : V) : Prop := (g = true ∧ ∃ u, x = some u ∧ v = .str (T u)) ∨ (g = false ∧ x = none)
theorem swAll_ok {ps : List Int} {r u w : List Bool} {i : Nat} {p : Int} (h : swAll r (ps.take i) = some u) (hp : ps[i]? = some p) (hw : swAll r ps = some w) : swOk u p = true := by
  have h2 := swAll_snoc h hp
  cases e : swOk u p with
  | true => rfl
  | false =>
    rw [e] at h2
    have := swAll_none (i := i + 1) (ps := ps) (r := r) (by rw [h2]; rfl)
    rw [hw] at this
    cases this
def dLed (h p0 p1 p2 : Addr) (l0 l1 l2 : List V) : Ld := ⟨[(h, .lst [.ref p0, .ref p1, .ref p2]), (p2, .lst l2), (p1, .lst l1), (p0, .lst l0)], []⟩
theorem pu__law_deeds_right01 {K : PySem.W.Frag} {C : CA} {vs : List V} {H : Hp} {Q : VK} {E : XK} (h : sp__law_deeds_right01 K C vs H Q E) : rd__law_deeds_right01 K C { nx := fun _ H' => Q .non H', rt := Q } (start N__law_deeds_right01 vs) H := by
  obtain ⟨v, ⟨r, a, b, ps, qs, hX, rfl, hl, hs, hps, hr, ⟨xs, hb, hp⟩, hqs, hq, rfl⟩, k⟩ := h
  have hsb : SqL K H b xs := sq_of hb
  refine body_V ?_ k
  unfold rd__law_deeds_right01
  refine ws_seq ?_
  walk_at "bn"
  refine ws_cut (fun σ s => ∃ pl g v, σ = [some (.str (T r)), some (.ref a), some (.ref b), pl, none, none, some v, some (.bl g)] ∧ s = ⟨[], []⟩ ∧ GoodNow (swAll r ps) g v) ?_ ?_
  · walk_at "bm"
    refine ⟨⟨_, isL_old hs⟩, ?_⟩
    refine lp_list (xs := ps.map V.int) (n := ps.length) (fun i σ s => ∃ pl g v, σ = [some (.str (T r)), some (.ref a), some (.ref b), pl, none, none, some v, some (.bl g)] ∧ s = ⟨[], []⟩ ∧ GoodNow (swAll r (ps.take i)) g v) (by simp) ⟨none, true, _, rfl, rfl, .inl ⟨rfl, r, rfl, rfl⟩⟩ (fun i σ s hi _ => isL_old hs) ?_ ?_
    · rintro i y σ s hi hy ⟨pl, g, v, rfl, rfl, hG⟩
      obtain ⟨p, hpi, rfl⟩ := getI hy
      rcases hG with ⟨rfl, u, hu, rfl⟩ | ⟨rfl, hu⟩
      · have hlu : u.length = r.length := swAll_len hu
        walk_at "bm"
        refine c__law_swap (by omega) (fun ok => ?_) (fun ok => ?_)
        · walk_at "bm"
          refine ⟨_, Sub.refl _, _, _, _, rfl, rfl, .inl ⟨by simp, _, ?_, rfl⟩⟩
          rw [swAll_snoc hu hpi, if_pos ok]
        · walk_at "bm"
          refine ⟨_, Sub.refl _, _, _, _, rfl, rfl, .inr ⟨by simp, ?_⟩⟩
          rw [swAll_snoc hu hpi, ok]
          rfl
      · walk_at "bm"
        refine ⟨_, Sub.refl _, _, _, _, rfl, rfl, .inr ⟨rfl, ?_⟩⟩
        rw [take_snoc hpi, swAll_app, hu]
        rfl
    · rintro σ s ⟨pl, g, v, rfl, rfl, hG⟩
      rw [List.take_length] at hG
      exact ⟨_, Sub.refl _, pl, g, v, rfl, rfl, hG⟩
  rintro σ s ⟨pl, g, v, rfl, rfl, hG⟩
  refine ws_seq ?_
  walk_at "bn"
  intro p0 hp0
  walk_at "bn"
  refine we_sortedSet ?_
  walk_at "bn"
  refine ⟨a, ps, rfl, isL_old hs, by omega, fun out p1 hp1 hpw hmem hlen => ?_⟩
  walk_at "bn"
  intro p2 hp2
  walk_at "bn"
  refine ⟨by simp, fun h0 hh0 => ?_⟩
  walk_at "bn"
  have hout : ∀ p ∈ out, 0 ≤ p ∧ p ≤ (r.length : Int) - 2 := fun p h => hr p ((hmem p).mp h)
  have hout1 : ∀ p ∈ out, 0 ≤ p ∧ p ≤ (r.length : Int) - 1 := fun p h => by have := hout p h; omega
  have hout2 : ∀ p ∈ out, 0 ≤ p ∧ p < (r.length : Int) := fun p h => by have := hout p h; omega
  show WS H _ _ (dLed h0 p0 p1 p2 (ps.map V.int) (out.map V.int) xs) _
  refine ws_cut (fun σ s => ∃ ag, σ = [some (.str (T r)), some (.ref a), some (.ref b), pl, some (.ref h0), ag, some v, some (.bl g)] ∧ s = dLed h0 p0 p1 p2 (ps.map V.int) (out.map V.int) xs) ?_ ?_
  · walk_at "bn"
    refine ⟨by decide, ?_⟩
    refine lp_rng (fun i σ s => ∃ ag, σ = [some (.str (T r)), some (.ref a), some (.ref b), pl, some (.ref h0), ag, some v, some (.bl g)] ∧ s = dLed h0 p0 p1 p2 (ps.map V.int) (out.map V.int) xs) ⟨none, rfl, rfl⟩ ?_ (fun σ s ⟨ag, e1, e2⟩ => ⟨_, Sub.refl _, ag, e1, e2⟩)
    rintro i σ s hi ⟨ag, rfl, rfl⟩
    unfold dLed
    walk_at "bn"
    refine ws_seq ?_
    refine ws_if (wt_val (b := false) (fun Q q => ?_) (spl_f rfl ?_))
    · rcases hG with ⟨rfl, u, hu, rfl⟩ | ⟨rfl, hu⟩
      · walk_at "bm"
        refine w2_ixL (by walk_at "isl") rfl ?_
        walk_at "bm"
        refine c_after_swaps hl (by walk_at "own") (by omega) hr hu ?_
        walk_at "bm"
        refine spl_f (by simp) ?_
        walk_at "bm"
        exact q
      · walk_at "bm"
        refine w2_ixL (by walk_at "isl") rfl ?_
        walk_at "bm"
        refine c__law_refused01 hX hl (by walk_at "own") (by omega) hr ?_
        rw [hu]
        walk_at "bm"
        exact q
    walk_at "bn"
    refine ws_seq ?_
    walk_at "bm"
    refine w2_ixL (by walk_at "isl") rfl ?_
    walk_at "bm"
    refine c_after_turns hl (by walk_at "own") (by omega) hout1 hpw ?_
    walk_at "bm"
    refine w2_ixL (by walk_at "isl") rfl ?_
    walk_at "bm"
    refine c__law_over (by omega) (by walk_at "isl") hout2 ?_
    walk_at "bm"
    refine spl_f (by simp) ?_
    walk_at "bm"
    refine w2_ixL (by walk_at "isl") rfl ?_
    walk_at "bm"
    refine c_after_rounds hl (fun H' o => ⟨xs, own_l (by walk_at "mem") H' o, pairsT_ex o.ex hp⟩) (by omega) hq ?_
    walk_at "bm"
    refine w2_ixL (by walk_at "isl") rfl ?_
    walk_at "bm"
    refine c__law_round (by omega) (fun H' o => ⟨xs, sq_of (own_l (by walk_at "mem") H' o), pairsT_in (pairsT_ex o.ex hp)⟩) ?_
    rw [if_pos hq]
    walk_at "bm"
    refine spl_f (by simp) ?_
    walk_at "bm"
    refine w2_ixL (by walk_at "isl") rfl ?_
    walk_at "bm"
    refine w2_neLP (ns := qs) (ms := qs) (by walk_at "isl") (fun H' o => pairsT_in (pairsT_ex o.ex hp)) (isL_old hsb) (fun H' o => pairsT_in (pairsT_ex o.ex hp)) ?_
    walk_at "bm"
    refine spl_f (by simp) ?_
    walk_at "bm"
    refine w2_ixL (by walk_at "isl") rfl ?_
    walk_at "bm"
    refine w2_neLI (ns := ps) (ms := ps) (by walk_at "isl") (isL_old hs) ?_
    walk_at "bm"
    refine spl_f (by simp) ?_
    walk_at "bm"
    exact ⟨_, Sub.refl _, _, rfl, rfl⟩
  rintro σ s ⟨ag, rfl, rfl⟩
  unfold dLed
  walk_at "bm"
  refine w2_ixL (by walk_at "isl") rfl ?_
  walk_at "bm"
  refine c_after_turns hl (by walk_at "own") (by omega) hout1 hpw ?_
  walk_at "bm"
  refine w2_ixL (by walk_at "isl") rfl ?_
  walk_at "bm"
  refine c_after_turns (by rw [flp_len]; exact hl) (by walk_at "own") (by omega) (by rw [flp_len]; exact hout1) hpw ?_
  rw [flp_flp]
  walk_at "bm"
  refine spl_f (by simp) ?_
  walk_at "bm"
  refine c_after_rounds hl (fun H' o => ⟨xs, o.ex _ _ hb, pairsT_ex o.ex hp⟩) (by omega) hq ?_
  walk_at "bm"
  refine ⟨b, xs, rfl, isL_old hsb, fun p3 hp3 => ?_⟩
  walk_at "bm"
  refine c_after_rounds (ps := qs.reverse) (by rw [rnAll_len _ _ hq]; exact hl) (fun H' o => ⟨xs.reverse, own_l (by walk_at "mem") H' o, pairsT_ex o.ex (Paired.rev hp)⟩) (by rw [List.length_reverse]; omega) (fun p h => by rw [rnAll_len _ _ hq]; exact hq p (List.mem_reverse.mp h)) ?_
  rw [rnAll_back _ _ hq]
  walk_at "bm"
  refine spl_f (by simp) ?_
  walk_at "bn"
  refine ws_weak (s0 := dLed h0 p0 p1 p2 (ps.map V.int) (out.map V.int) xs) (by unfold dLed; walk_at "sub") ?_
  unfold dLed
  refine ws_cut (fun σ s => σ = [some (.str (T r)), some (.ref a), some (.ref b), pl, some (.ref h0), ag, some v, some (.bl g)] ∧ s = dLed h0 p0 p1 p2 (ps.map V.int) (out.map V.int) xs) ?_ ?_
  · rcases hG with ⟨rfl, u, hu, rfl⟩ | ⟨rfl, hu⟩
    · have hlu : u.length = r.length := swAll_len hu
      walk_at "bm"
      refine ⟨a, _, rfl, isL_old hs, fun p3 hp3 => ?_⟩
      rw [← List.map_reverse]
      walk_at "bm"
      refine c_after_swaps (ps := ps.reverse) (by omega) (by walk_at "own") (by rw [List.length_reverse]; omega) (fun p h => by have := hr p (List.mem_reverse.mp h); omega) (swAll_back _ _ _ hu) ?_
      walk_at "bm"
      refine spl_f (by simp) ?_
      walk_at "bm"
      exact ⟨_, by unfold dLed; walk_at "sub", rfl, rfl⟩
    · walk_at "bm"
      exact ⟨_, Sub.refl _, rfl, rfl⟩
  rintro σ s ⟨rfl, rfl⟩
  unfold dLed
  refine ws_cut (fun σ s => ∃ pl ag x6 l0, σ = [some (.str (T r)), some (.ref a), some (.ref b), pl, some (.ref h0), ag, x6, some (.bl g)] ∧ s = dLed h0 p0 p1 p2 l0 (out.map V.int) xs) ?_ ?_
  · walk_at "bm"
    refine w2_ixL (by walk_at "isl") rfl ?_
    walk_at "bm"
    refine ⟨by simp, fun p3 hp3 => ?_⟩
    refine w2_neLI (ns := ps) (ms := []) (by walk_at "isl") (by walk_at "isl") ?_
    walk_at "bn"
    have stay : WS H tNext [some (.str (T r)), some (.ref a), some (.ref b), pl, some (.ref h0), ag, some v, some (.bl g)] ⟨(p3, .lst []) :: (dLed h0 p0 p1 p2 (ps.map V.int) (out.map V.int) xs).L, []⟩ { (retV (.bl true)) with nx := fun σ' s' => ∃ s0, Sub s0 s' ∧ ∃ pl ag x6 l0, σ' = [some (.str (T r)), some (.ref a), some (.ref b), pl, some (.ref h0), ag, x6, some (.bl g)] ∧ s0 = dLed h0 p0 p1 p2 l0 (out.map V.int) xs } := by
      walk_at "bm"
      exact ⟨_, (by first | exact Sub.refl _ | (unfold dLed; walk_at "sub")), _, _, _, _, rfl, rfl⟩
    refine ⟨fun hne => ?_, fun _ => spl_f rfl stay⟩
    walk_at "bn"
    have hne' : ps ≠ [] := by
      intro e
      rw [e] at hne
      simp at hne
    rcases hG with ⟨rfl, u, hu, rfl⟩ | ⟨rfl, hu⟩
    · refine spl_t rfl ?_
      have hpos : 0 < ps.length := List.length_pos_iff.mpr hne'
      refine ws_seq ?_
      walk_at "bn"
      refine w2_ixL (by walk_at "isl") rfl ?_
      walk_at "bn"
      refine wm_pop (xs := ps.map V.int) (Swap.there (Swap.there (Swap.there (Swap.there Swap.here)))) (y := .int (ps[ps.length - 1]'(by omega))) (by rw [List.length_map, List.getElem?_map, List.getElem?_eq_getElem (by omega)]; rfl) ?_
      rw [← List.map_dropLast]
      have hdl : ps.dropLast.length = ps.length - 1 := List.length_dropLast
      have htk : ps.dropLast = ps.take (ps.length - 1) := List.dropLast_eq_take
      have hr2 : ∀ p ∈ ps.dropLast, 0 ≤ p ∧ p ≤ (r.length : Int) - 2 := fun p h => hr p (List.dropLast_subset _ h)
      have hgo : ∀ i, i ≤ ps.length → ∃ w, swAll r (ps.take i) = some w := fun i hi => by
        cases e : swAll r (ps.take i) with
        | some w => exact ⟨w, rfl⟩
        | none =>
          rw [swAll_none e] at hu
          cases hu
      have htt : ∀ i, i ≤ ps.length - 1 → ps.dropLast.take i = ps.take i := fun i hi => by rw [htk, List.take_take, Nat.min_eq_left hi]
      walk_at "bn"
      refine ws_seq ?_
      walk_at "bn"
      refine ws_cut (fun σ s => ∃ pl w, σ = [some (.str (T r)), some (.ref a), some (.ref b), pl, some (.ref h0), ag, some (.str (T w)), some (.bl true)] ∧ s = dLed h0 p0 p1 p2 (ps.dropLast.map V.int) (out.map V.int) xs ∧ swAll r ps.dropLast = some w) ?_ ?_
      · walk_at "bn"
        refine w2_ixL (by walk_at "isl") rfl ?_
        refine ⟨_, rfl, ⟨_, by walk_at "isl"⟩, ?_⟩
        refine lp_list (xs := ps.dropLast.map V.int) (n := ps.length - 1) (fun i σ s => ∃ pl w, σ = [some (.str (T r)), some (.ref a), some (.ref b), pl, some (.ref h0), ag, some (.str (T w)), some (.bl true)] ∧ s = ⟨(p3, .lst []) :: (dLed h0 p0 p1 p2 (ps.dropLast.map V.int) (out.map V.int) xs).L, []⟩ ∧ swAll r (ps.take i) = some w) (by rw [List.length_map, hdl]) ⟨_, r, rfl, rfl, rfl⟩ (fun i σ s hi ⟨pl, w, _, e, _⟩ => by rw [e]; unfold dLed; walk_at "isl") ?_ ?_
        · rintro i y σ s hi hy ⟨pl, w, rfl, rfl, hw⟩
          obtain ⟨p, hpi0, rfl⟩ := getI hy
          have hpi : ps[i]? = some p := by
            rw [htk, List.getElem?_take, if_pos (by omega)] at hpi0
            exact hpi0
          have hlw : w.length = r.length := swAll_len hw
          have ok := swAll_ok hw hpi hu
          walk_at "bm"
          refine c__law_swap (by omega) (fun _ => ?_) (fun no => absurd (ok.symm.trans no) (by simp))
          walk_at "bm"
          refine ⟨_, Sub.refl _, _, _, rfl, rfl, ?_⟩
          rw [swAll_snoc hw hpi, if_pos ok]
        · rintro σ s ⟨pl, w, rfl, rfl, hw⟩
          exact ⟨_, by unfold dLed; walk_at "sub", _, w, rfl, rfl, by rw [htk]; exact hw⟩
      · rintro σ s ⟨pl, w, rfl, rfl, hw⟩
        unfold dLed
        walk_at "bm"
        refine w2_ixL (by walk_at "isl") rfl ?_
        walk_at "bm"
        refine c_after_swaps hl (by walk_at "own") (by omega) hr2 hw ?_
        walk_at "bm"
        refine spl_f (by simp) ?_
        walk_at "bm"
        exact ⟨_, (by first | exact Sub.refl _ | (unfold dLed; walk_at "sub")), _, _, _, _, rfl, rfl⟩
    · exact spl_f rfl stay
  rintro σ s ⟨pl, ag, x6, l0, rfl, rfl⟩
  unfold dLed
  refine ws_cut (fun σ s => ∃ (ou : List Int) (ys : List V) (us : List (Int × Int)), σ = [some (.str (T r)), some (.ref a), some (.ref b), pl, some (.ref h0), ag, x6, some (.bl g)] ∧ s = dLed h0 p0 p1 p2 l0 (ou.map V.int) ys ∧ ou.length ≤ 48 ∧ (∀ p ∈ ou, 0 ≤ p ∧ p ≤ (r.length : Int) - 2) ∧ ou.Pairwise (· < ·) ∧ Paired (fun x (p : Int × Int) => ∃ t, x = V.ref t ∧ H t = some (.tup [.int p.1, .int p.2])) ys us ∧ us.length ≤ 48 ∧ ∀ p ∈ us, stOk r.length p) ?_ ?_
  · walk_at "bm"
    refine w2_ixL (by walk_at "isl") rfl ?_
    walk_at "bm"
    refine ⟨by simp, fun p3 hp3 => ?_⟩
    refine w2_neLI (ns := out) (ms := []) (by walk_at "isl") (by walk_at "isl") ?_
    walk_at "bn"
    refine ⟨fun hne => ?_, fun _ => ?_⟩
    · have hne' : out ≠ [] := by
        intro e
        rw [e] at hne
        simp at hne
      have hpos : 0 < out.length := List.length_pos_iff.mpr hne'
      refine ws_seq ?_
      walk_at "bn"
      refine w2_ixL (by walk_at "isl") rfl ?_
      walk_at "bn"
      refine wm_pop (xs := out.map V.int) (Swap.there (Swap.there (Swap.there Swap.here))) (y := .int (out[out.length - 1]'(by omega))) (by rw [List.length_map, List.getElem?_map, List.getElem?_eq_getElem (by omega)]; rfl) ?_
      rw [← List.map_dropLast]
      walk_at "bn"
      refine w2_ixL (by walk_at "isl") rfl ?_
      walk_at "bn"
      refine wm_reverse (Swap.there (Swap.there Swap.here)) ?_
      walk_at "bm"
      exact ⟨_, by unfold dLed; walk_at "sub", out.dropLast, xs.reverse, qs.reverse, rfl, rfl, by rw [List.length_dropLast]; omega, fun p h => hout p (List.dropLast_subset _ h), List.Pairwise.sublist (List.dropLast_sublist _) hpw, Paired.rev hp, by rw [List.length_reverse]; omega, fun p h => hq p (List.mem_reverse.mp h)⟩
    · walk_at "bm"
      exact ⟨_, by unfold dLed; walk_at "sub", out, xs, qs, rfl, rfl, by omega, hout, hpw, hp, hqs, hq⟩
  rintro σ s ⟨ou, ys, us, rfl, rfl, hou, hor, how, hys, hus, huo⟩
  unfold dLed
  walk_at "bm"
  refine w2_ixL (by walk_at "isl") rfl ?_
  walk_at "bm"
  refine c_after_turns hl (by walk_at "own") (by omega) (fun p h => by have := hor p h; omega) how ?_
  walk_at "bm"
  refine w2_ixL (by walk_at "isl") rfl ?_
  walk_at "bm"
  refine c__law_over (by omega) (by walk_at "isl") (fun p h => by have := hor p h; omega) ?_
  walk_at "bm"
  refine spl_f (by simp) ?_
  walk_at "bm"
  refine w2_ixL (by walk_at "isl") rfl ?_
  walk_at "bm"
  refine c_after_rounds hl (fun H' o => ⟨ys, own_l (by walk_at "mem") H' o, pairsT_ex o.ex hys⟩) (by omega) huo ?_
  walk_at "bm"
  refine w2_ixL (by walk_at "isl") rfl ?_
  walk_at "bm"
  refine c__law_round (by omega) (fun H' o => ⟨ys, sq_of (own_l (by walk_at "mem") H' o), pairsT_in (pairsT_ex o.ex hys)⟩) ?_
  rw [if_pos huo]
  walk_at "bm"
  show V.bl _ = V.bl _
  simp
theorem c__law_deeds_right01 {K : PySem.W.Frag} {C : CA} {H0 : Hp} {s : Ld} {Q : V → Ld → Prop} {E : XK} {r : List Bool} {a b : Addr} {ps : List Int} {qs : List (Int × Int)} (hX : Ex01 K C) (hl : r.length ≤ 40) (hs : IsL K H0 s a (ps.map V.int)) (hps : ps.length ≤ 48) (hr : ∀ p ∈ ps, 0 ≤ p ∧ p ≤ (r.length : Int) - 2) (hb : ∀ H, Own H0 H s → PairsT H b qs) (hqs : qs.length ≤ 48) (hq : ∀ p ∈ qs, stOk r.length p) (q : Q (.bl true) s) : WC H0 (sp__law_deeds_right01 K C) E [.str (T r), .ref a, .ref b] s Q :=
  wc_V (fun H o => ⟨r, a, b, ps, qs, hX, rfl, hl, hs H o, hps, hr, hb H o, hqs, hq, rfl⟩) q
end BM
namespace BM
open PySem L2 Evl
local macro_rules | `(tactic| walk_at "mem") => `(tactic| first | exact List.mem_cons_self | (refine List.mem_cons_of_mem _ ?_; walk_at "mem"))
local macro_rules | `(tactic| walk_at "swap") => `(tactic| first | exact Swap.here | (apply Swap.there; walk_at "swap"))
local macro_rules | `(tactic| walk_at "subl") => `(tactic| first | exact List.Sublist.refl _ | exact List.nil_sublist _ | (refine List.Sublist.cons_cons _ ?_; walk_at "subl") | (refine List.Sublist.cons _ ?_; walk_at "subl"))
local macro_rules | `(tactic| walk_at "sub") => `(tactic| first | exact Sub.refl _ | (refine ⟨?_, ?_⟩ <;> walk_at "subl"))
local macro_rules | `(tactic| walk_at "isl") => `(tactic| first | exact isL_own (by walk_at "mem") | exact isL_old (by assumption) | assumption)
local macro_rules | `(tactic| walk_at "ist") => `(tactic| first | exact isT_own (by walk_at "mem") | exact isT_old (by assumption) | assumption)
local macro_rules | `(tactic| walk_at "len") => `(tactic| first | omega | decide | (simp only [List.length_map, List.length_take, List.length_drop, List.length_append, List.length_cons, List.length_nil, List.length_reverse, dps_len, flp_len]; omega) | (simp [dps_len, flp_len]; omega) | simp)
local macro_rules | `(tactic| walk_at "b0") => `(tactic| first
  | with_reducible refine' ws_set ?_
  | with_reducible refine' ws_par ?_
  | with_reducible refine' ws_asg ?_
  | with_reducible refine' ws_drop ?_
  | with_reducible refine' ws_ret ?_
  | with_reducible refine' ws_if ?_
  | with_reducible refine' ws_next ?_
  | with_reducible refine' ws_brk ?_
  | with_reducible refine' ws_cont ?_
  | ((with_reducible refine' we_var ?hv ?_); case hv => rfl)
  | with_reducible refine' we_c ?_
  | with_reducible refine' we_op ?_
  | with_reducible refine' we_un ?_
  | with_reducible refine' we_if ?_
  | with_reducible refine' we_and ?_
  | with_reducible refine' we_or ?_
  | with_reducible refine' we_not ?_
  | with_reducible refine' wa_nil ?_
  | with_reducible refine' wa_cons ?_
  | (with_reducible refine' we_lst ?_)
  | (with_reducible refine' we_tup ?_)
  | with_reducible refine' we_cb ?_
  | with_reducible refine' we_call0 ?_
  | with_reducible refine' we_sl ?_
  | with_reducible refine' wo_none ?_
  | (with_reducible refine' wo_some ?_)
  | with_reducible refine' wt_test ?_
  | with_reducible refine' wt_B ?_
  | with_reducible refine' wt_and ?_
  | with_reducible refine' wt_or ?_
  | with_reducible refine' wt_not ?_
  | with_reducible refine' wt_yes ?_
  | with_reducible refine' we_chain ?_
  | with_reducible refine' we_chain3 ?_
  | with_reducible refine' we_revT ?_
  | with_reducible refine' we_revL ?_
  | with_reducible refine' we_bm ?_
  | with_reducible refine' we_bm0 ?_
  | with_reducible refine' ws_for ?_
  | with_reducible refine' we_lc ?_
  | with_reducible refine' wi_list ?_
  | with_reducible refine' wi_tup ?_
  | with_reducible refine' wi_T ?_
  | with_reducible refine' wi_rng1 ?_
  | with_reducible refine' wi_rng2 ?_
  | with_reducible refine' wi_rng3 ?_
  | with_reducible refine' wi_enum ?_
  | with_reducible refine' wi_enumT ?_
  | with_reducible refine' wi_zip ?_
  | with_reducible refine' wg_name ?_
  | with_reducible refine' wg_sub ?_
  | with_reducible refine' wgs_nil ?_
  | with_reducible refine' wgs_cons ?_
  | ((with_reducible refine' wg_tup ?ht ?hn ?_); (case ht => walk_at "ist"); (case hn => rfl))
  | with_reducible refine' w2_add ?_
  | with_reducible refine' w2_sub ?_
  | with_reducible refine' w2_lt ?_
  | with_reducible refine' w2_le ?_
  | with_reducible refine' w2_gt ?_
  | with_reducible refine' w2_ge ?_
  | with_reducible refine' w2_eqI ?_
  | with_reducible refine' w2_neI ?_
  | with_reducible refine' w2_eqT ?_
  | with_reducible refine' w2_neT ?_
  | with_reducible refine' w2_eqB ?_
  | with_reducible refine' w2_neB ?_
  | with_reducible refine' w2_isN ?_
  | with_reducible refine' w2_notN ?_
  | with_reducible refine' w2_isB ?_
  | with_reducible refine' w2_inT ?_
  | with_reducible refine' w1_neg ?_
  | with_reducible refine' wl_abs ?_
  | with_reducible refine' wl_max2 ?_
  | with_reducible refine' wl_min2 ?_
  | with_reducible refine' wl_intB ?_
  | ((with_reducible refine' w2_div ?h ?_); case h => first | omega | (constructor <;> omega))
  | ((with_reducible refine' w2_mod ?h ?_); case h => omega)
  | ((with_reducible refine' w2_catT ?h ?_); case h => walk_at "len")
  | ((with_reducible refine' wsl_T ?h ?_); case h => walk_at "len")
  | ((with_reducible refine' wl_lenT ?h ?_); case h => walk_at "len")
  | ((with_reducible refine' wl_len ?h ?_); case h => walk_at "isl")
  | ((with_reducible refine' wl_len ?h ?_); case h => walk_at "isl")
  | ((with_reducible refine' wm_append ?sw ?hl ?_); (case sw => walk_at "swap"); (case hl => walk_at "len")))
local macro_rules | `(tactic| walk_at "b1") => `(tactic| first | with_reducible refine' ws_seq ?_ | walk_at "b0")
local macro_rules | `(tactic| walk_at "bx") => `(tactic| first
  | refine ⟨_, rfl, ?_⟩
  | refine ⟨_, _, rfl, ?_⟩
  | refine ⟨ty_L (by walk_at "isl"), ?_⟩
  | refine ⟨ty_S, ?_⟩
  | refine spl_t (by rfl) ?_
  | refine spl_f (by rfl) ?_
  | exact rfl)
local macro_rules | `(tactic| walk_at "bm") => `(tactic| repeat (first | walk_at "b1" | walk_at "bx"))
local macro_rules | `(tactic| walk_at "bn") => `(tactic| repeat (first | walk_at "b0" | walk_at "bx"))
local macro_rules | `(tactic| walk_at "b0") => `(tactic| with_reducible refine' c_deepens ?_)
local macro_rules | `(tactic| walk_at "b0") => `(tactic| ((with_reducible refine' c_depths_of ?hl ?_); (case hl => walk_at "len")))
local macro_rules | `(tactic| walk_at "b0") => `(tactic| with_reducible refine' c_is_wholeI ?_)
local macro_rules | `(tactic| walk_at "b0") => `(tactic| with_reducible refine' c_flipped ?_)
local macro_rules | `(tactic| walk_at "b0") => `(tactic| ((with_reducible refine' c_is_right_row ?hl ?_); (case hl => walk_at "len")))
local macro_rules | `(tactic| walk_at "b0") => `(tactic| ((with_reducible refine' c_asked_row ?hl ?_); (case hl => walk_at "len")))
local macro_rules | `(tactic| walk_at "b0") => `(tactic| ((with_reducible refine' c_depths ?hl ?_); (case hl => walk_at "len")))
local macro_rules | `(tactic| walk_at "b0") => `(tactic| ((with_reducible refine' c_is_right ?hl ?_); (case hl => walk_at "len")))
local macro_rules | `(tactic| walk_at "b0") => `(tactic| ((with_reducible refine' c__law_depths ?hl ?_); (case hl => walk_at "len")))
local macro_rules | `(tactic| walk_at "b0") => `(tactic| ((with_reducible refine' c__law_good ?hl ?_); (case hl => walk_at "len")))
local macro_rules | `(tactic| walk_at "b0") => `(tactic| ((with_reducible refine' wl_listOf ?hx ?_); (case hx => walk_at "isl")))
local macro_rules | `(tactic| walk_at "b0") => `(tactic| with_reducible refine' w2_notB ?_)
local macro_rules | `(tactic| walk_at "own") => `(tactic| exact own_l (by walk_at "mem"))
theorem own_t {H0 H : Hp} {s : Ld} {p : Addr} {xs : List V} (w : Own H0 H s) (h : (p, xs) ∈ s.T) : H p = some (.tup xs) := w.tp _ h
theorem ln_law01 {K : PySem.W.Frag} {C : CA} {vs : List V} {H : Hp} {Q : VK} {E : XK} (h : sp_law01 K C vs H Q E) : vs.length = 1 := by
  obtain ⟨v, ⟨a, ns, _, rfl, _⟩, _⟩ := h
  rfl
abbrev InT (T : List (Addr × List V)) (x : V) (p : Int × Int) : Prop := ∃ t, x = V.ref t ∧ (t, [V.int p.1, V.int p.2]) ∈ T
theorem inT_pairs {H0 H : Hp} {s : Ld} {xs : List V} {qs : List (Int × Int)} (o : Own H0 H s) (h : Paired (InT s.T) xs qs) : Paired (fun x (p : Int × Int) => ∃ t, x = V.ref t ∧ H t = some (.tup [.int p.1, .int p.2])) xs qs := Paired.mapP h fun a b ⟨t, h1, h2⟩ => ⟨t, h1, o.tp _ h2⟩
theorem inT_more {T T' : List (Addr × List V)} {xs : List V} {qs : List (Int × Int)} (hs : T ⊆ T') (h : Paired (InT T) xs qs) : Paired (InT T') xs qs := Paired.mapP h fun a b ⟨t, h1, h2⟩ => ⟨t, h1, hs h2⟩
theorem Paired.one {α β : Type} {R : α → β → Prop} {xs : List α} {ys : List β} (h : Paired R xs ys) {x : α} {y : β} (r : R x y) : Paired R (xs ++ [x]) (ys ++ [y]) := by
  induction h with
  | nil => exact .cons r .nil
  | cons a t ih => exact .cons a ih
theorem Paired.tk {α β : Type} {R : α → β → Prop} {xs : List α} {ys : List β} (h : Paired R xs ys) (n : Nat) : Paired R (xs.take n) (ys.take n) := by
  induction h generalizing n with
  | nil => simp; exact .nil
  | cons a t ih =>
    cases n with
    | zero => exact .nil
    | succ n => exact .cons a (ih n)
theorem Paired.len {α β : Type} {R : α → β → Prop} {xs : List α} {ys : List β} (h : Paired R xs ys) : xs.length = ys.length := by
  induction h with
  | nil => rfl
  | cons a t ih => rw [List.length_cons, List.length_cons, ih]
/-- the deeds gathered so far -/
def Deeds (r : List Bool) (i : Nat) (T : List (Addr × List V)) (ps : List Int) (xs : List V) (qs : List (Int × Int)) : Prop := ps.length ≤ i ∧ qs.length ≤ i ∧ (∀ p ∈ ps, 0 ≤ p ∧ p ≤ (r.length : Int) - 2) ∧ (∀ q ∈ qs, stOk r.length q) ∧ Paired (InT T) xs qs
theorem pu_law01 {K : PySem.W.Frag} {C : CA} {vs : List V} {H : Hp} {Q : VK} {E : XK} (h : sp_law01 K C vs H Q E) : rd_law01 K C { nx := fun _ H' => Q .non H', rt := Q } (start N_law01 vs) H := by
  obtain ⟨v, ⟨a, ns, hX, rfl, hs, hns, rfl⟩, k⟩ := h
  refine body_V ?_ k
  unfold rd_law01
  refine ws_cut (fun σ s => ∃ (p : Addr) (cs : List Int), σ = [some (.ref a), some (.ref p), none, none, none, none, none, none, none, none, none, none, none, none, none] ∧ s = ⟨[(p, .lst (cs.map V.int))], []⟩ ∧ cs.length ≤ 24) ?_ ?_
  · walk_at "bm"
    refine ⟨by decide, fun p0 hp0 => ?_⟩
    refine w2_neLI (ns := ns) (ms := []) (isL_old hs) (by walk_at "isl") ?_
    walk_at "bm"
    refine ⟨fun hc => ?_, fun hc => ?_⟩
    · walk_at "bm"
      refine wsl_L (isL_old hs) fun p hp => ?_
      rw [cut_hi (by omega), ← List.map_take]
      exact ⟨⟨[(p, .lst ((ns.take 24).map V.int))], []⟩, by walk_at "sub", p, _, rfl, rfl, by rw [List.length_take]; omega⟩
    · walk_at "bm"
      refine ⟨by decide, fun p hp => ?_⟩
      exact ⟨⟨[(p, .lst ([5].map V.int))], []⟩, by walk_at "sub", p, [5], rfl, rfl, by decide⟩
  rintro σ s ⟨p, cs, rfl, rfl, hcs⟩
  refine ws_cut (fun σ s => ∃ W : Int, σ = [some (.ref a), some (.ref p), some (.int W), none, none, none, none, none, none, none, none, none, none, none, none] ∧ s = ⟨[(p, .lst (cs.map V.int))], []⟩) ?_ ?_
  · walk_at "bm"
    refine wsl_L (isL_old hs) fun p1 hp1 => ?_
    rw [cut_hi (by omega), ← List.map_take]
    walk_at "bm"
    refine wl_sum (ns := ns.take 63) (by walk_at "isl") ?_
    walk_at "bm"
    exact ⟨_, by walk_at "sub", _, rfl, rfl⟩
  rintro σ s ⟨W, rfl, rfl⟩
  refine ws_cut (fun σ s => ∃ x3 x4 x5 x6 x7 x8 x9 x10 x11 x12 x13 x14, σ = [some (.ref a), some (.ref p), some (.int W), x3, x4, x5, x6, x7, x8, x9, x10, x11, x12, x13, x14] ∧ s = ⟨[(p, .lst (cs.map V.int))], []⟩) ?_ ?_
  · walk_at "bm"
    refine ⟨by decide, fun q0 hq0 => ?_⟩
    refine ⟨_, rfl, ⟨_, by walk_at "isl"⟩, ?_⟩
    refine lp_list (xs := [0, 1, 2, 3].map V.int) (n := 4) (fun i σ s => ∃ x3 x4 x5 x6 x7 x8 x9 x10 x11 x12 x13 x14, σ = [some (.ref a), some (.ref p), some (.int W), x3, x4, x5, x6, x7, x8, x9, x10, x11, x12, x13, x14] ∧ s = ⟨[(q0, .lst ([0, 1, 2, 3].map V.int)), (p, .lst (cs.map V.int))], []⟩) rfl ⟨_, _, _, _, _, _, _, _, _, _, _, _, rfl, rfl⟩ (fun i σ s hi ⟨x3, x4, x5, x6, x7, x8, x9, x10, x11, x12, x13, x14, _, e⟩ => by rw [e]; walk_at "isl") ?_ (fun σ s ⟨x3, x4, x5, x6, x7, x8, x9, x10, x11, x12, x13, x14, e1, e2⟩ => ⟨⟨[(p, .lst (cs.map V.int))], []⟩, by rw [e2]; walk_at "sub", x3, x4, x5, x6, x7, x8, x9, x10, x11, x12, x13, x14, e1, rfl⟩)
    rintro i y σ s hi hy ⟨x3, x4, x5, x6, x7, x8, x9, x10, x11, x12, x13, x14, rfl, rfl⟩
    obtain ⟨by0, hby, rfl⟩ := getI hy
    have hb3 : 0 ≤ by0 ∧ by0 ≤ 3 := by
      have : by0 ∈ ([0, 1, 2, 3] : List Int) := List.mem_of_getElem? hby
      simp at this
      omega
    refine wg_name ?_
    refine ws_seq ?_
    walk_at "bn"
    refine c__law_row (isL_old hs) hns (by omega) fun r hr _ => ?_
    walk_at "bn"
    have hl : r.length ≤ 40 := by omega
    refine ws_cut (fun σ s => ∃ x5 x7, σ = [some (.ref a), some (.ref p), some (.int W), some (.int by0), some (.str (T r)), x5, x6, x7, x8, x9, x10, x11, x12, x13, x14] ∧ s = ⟨[(q0, .lst ([0, 1, 2, 3].map V.int)), (p, .lst (cs.map V.int))], []⟩) ?_ ?_
    · walk_at "bn"
      refine ⟨by decide, ?_⟩
      refine lp_rng (fun i σ s => ∃ x5 x7, σ = [some (.ref a), some (.ref p), some (.int W), some (.int by0), some (.str (T r)), x5, x6, x7, x8, x9, x10, x11, x12, x13, x14] ∧ s = ⟨[(q0, .lst ([0, 1, 2, 3].map V.int)), (p, .lst (cs.map V.int))], []⟩) ⟨_, _, rfl, rfl⟩ ?_ (fun σ s ⟨x5, x7, e1, e2⟩ => ⟨_, Sub.refl _, x5, x7, e1, e2⟩)
      rintro i σ s hi ⟨x5, x7, rfl, rfl⟩
      walk_at "bm"
      intro f hf
      walk_at "bm"
      intro f2 hf2
      refine w2_neLI (ns := dps r) (ms := dps r) (by walk_at "isl") (by walk_at "isl") ?_
      walk_at "bm"
      refine spl_f (by simp) ?_
      walk_at "bm"
      refine spl_f (by simp) ?_
      walk_at "bm"
      refine wl_isi (tv := .type "list") (b := true) (fun H' o => .base (.lst (own_l (by walk_at "mem") H' o))) (kit_ty (by decide +kernel)) ?_
      walk_at "bm"
      exact ⟨_, by walk_at "sub", _, _, rfl, rfl⟩
    rintro σ s ⟨x5, x7, rfl, rfl⟩
    refine ws_seq ?_
    walk_at "bn"
    refine ⟨by decide, fun pp hpp => ?_⟩
    walk_at "bn"
    refine ⟨by decide, fun qq hqq => ?_⟩
    walk_at "bn"
    refine ws_cut (fun σ s => ∃ x10 x11 x12 x13 ps xs qs ts, σ = [some (.ref a), some (.ref p), some (.int W), some (.int by0), some (.str (T r)), x5, x6, x7, some (.ref pp), some (.ref qq), x10, x11, x12, x13, x14] ∧ s = ⟨[(qq, .lst xs), (pp, .lst (ps.map V.int)), (q0, .lst ([0, 1, 2, 3].map V.int)), (p, .lst (cs.map V.int))], ts⟩ ∧ Deeds r cs.length ts ps xs qs) ?_ ?_
    · walk_at "bm"
      refine ⟨_, _, rfl, by walk_at "isl", ?_⟩
      refine lp_enum (xs := cs.map V.int) (n := cs.length) (fun i σ s => ∃ x10 x11 x12 x13 ps xs qs ts, σ = [some (.ref a), some (.ref p), some (.int W), some (.int by0), some (.str (T r)), x5, x6, x7, some (.ref pp), some (.ref qq), x10, x11, x12, x13, x14] ∧ s = ⟨[(qq, .lst xs), (pp, .lst (ps.map V.int)), (q0, .lst ([0, 1, 2, 3].map V.int)), (p, .lst (cs.map V.int))], ts⟩ ∧ Deeds r i ts ps xs qs) (by simp) ⟨_, _, _, _, [], [], [], [], rfl, rfl, Nat.le_refl _, Nat.le_refl _, (by simp), (by simp), .nil⟩ (fun i σ s hi ⟨x10, x11, x12, x13, ps, xs, qs, ts, _, e, _⟩ => by rw [e]; walk_at "isl") ?_ ?_
      · rintro i y σ s tp hi hy ⟨x10, x11, x12, x13, ps, xs, qs, ts, rfl, rfl, d1, d2, d3, d4, d5⟩
        obtain ⟨c, hc, rfl⟩ := getI hy
        have hxl : xs.length ≤ 24 := by rw [Paired.len d5]; omega
        refine wg_tup (by walk_at "ist") rfl ?_
        walk_at "bn"
        refine ws_seq ?_
        walk_at "bn"
        refine c__law_number (by omega) fun n => ?_
        walk_at "bn"
        obtain ⟨m, hm, hm0⟩ : ∃ m : Int, (if n < 0 then -n else n) / 3 = m ∧ 0 ≤ m := ⟨_, rfl, by split <;> omega⟩
        rw [hm]
        walk_at "bn"
        refine ⟨fun hlen => ?_, fun hlen => ?_⟩
        · have hlen' : (1 : Int) < (r.length : Int) := of_decide_eq_true hlen
          have hpos : 0 < (r.length : Int) - 1 := by omega
          have m1 := Int.emod_nonneg m (Int.ne_of_gt hpos)
          have m2 := Int.emod_lt_of_pos m hpos
          walk_at "bm"
          have hL : 0 < (r.length : Int) := by omega
          have f1 := Int.emod_nonneg (m / 40) (Int.ne_of_gt hL)
          have f2 := Int.emod_lt_of_pos (m / 40) hL
          obtain ⟨f, hf⟩ : ∃ f : Int, m / 40 % (r.length : Int) = f := ⟨_, rfl⟩
          rw [hf] at f1 f2 ⊢
          have hg : 0 < (r.length : Int) - f := by omega
          have g1 := Int.emod_nonneg (m / 1600) (Int.ne_of_gt hg)
          have g2 := Int.emod_lt_of_pos (m / 1600) hg
          walk_at "bm"
          refine ⟨by simp, fun tq htq => ?_⟩
          walk_at "bm"
          refine ⟨_, Sub.refl _, _, _, _, _, ps ++ [m % ((r.length : Int) - 1)], xs ++ [.ref tq], qs ++ [(f, f + 1 + m / 1600 % ((r.length : Int) - f))], (tq, [.int f, .int (f + 1 + m / 1600 % ((r.length : Int) - f))]) :: (tp, [.int (i : Int), .int c]) :: ts, rfl, ?_, ?_, ?_, ?_, ?_, ?_⟩
          · rw [List.map_append] <;> rfl
          · rw [List.length_append] <;> simp <;> omega
          · rw [List.length_append] <;> simp <;> omega
          · intro p hp
            rcases List.mem_append.mp hp with h | h
            · exact d3 p h
            · rw [List.mem_singleton.mp h]
              omega
          · intro q hq
            rcases List.mem_append.mp hq with h | h
            · exact d4 q h
            · rw [List.mem_singleton.mp h]
              unfold stOk
              omega
          · exact Paired.one (inT_more (fun x h => List.mem_cons_of_mem _ (List.mem_cons_of_mem _ h)) d5) ⟨tq, rfl, List.mem_cons_self⟩
        · walk_at "bm"
          exact ⟨_, Sub.refl _, _, _, _, _, ps, xs, qs, _, rfl, rfl, by omega, by omega, d3, d4, inT_more (fun x h => List.mem_cons_of_mem _ h) d5⟩
      · rintro σ s ⟨x10, x11, x12, x13, ps, xs, qs, ts, rfl, rfl, d⟩
        exact ⟨_, Sub.refl _, x10, x11, x12, x13, ps, xs, qs, ts, rfl, rfl, d⟩
    rintro σ s ⟨x10, x11, x12, x13, ps, xs, qs, ts, rfl, rfl, d1, d2, d3, d4, d5⟩
    refine ws_seq ?_
    walk_at "bn"
    refine wsl_L (by walk_at "isl") fun z hz => ?_
    rw [cut_hi (by omega), ← List.map_take]
    walk_at "bn"
    refine ⟨⟨_, by walk_at "isl"⟩, ?_⟩
    refine cp_list (xs := (ps.take 1).map V.int) (fun i => (((ps.take 1).take i).filter fun z => decide (r[z.toNat]? ≠ r[z.toNat + 1]?)).map V.int) (by walk_at "isl") (by rw [List.length_map, List.length_take]; omega) rfl (fun i hi => by rw [List.length_map]; exact Nat.le_trans (List.length_filter_le _ _) (by rw [List.length_take]; omega)) ?_ ?_
    · intro D i y hi hy
      obtain ⟨z, hz, rfl⟩ := getI hy
      have hmem : z ∈ ps := List.take_subset _ _ (List.mem_of_getElem? hz)
      have hzr := d3 z hmem
      obtain ⟨c, hc⟩ := get_some (r := r) (i := z.toNat) (by omega)
      obtain ⟨d, hd⟩ := get_some (r := r) (i := z.toNat + 1) (by omega)
      walk_at "bm"
      refine ⟨rfl, ?_⟩
      walk_at "bm"
      refine w2_ixT (b := c) (by omega) (atI_of (by omega) hc) ?_
      walk_at "bm"
      refine w2_ixT (b := d) (by omega) (atI_of (by omega) (by rw [show (z + 1).toNat = z.toNat + 1 by omega]; exact hd)) ?_
      walk_at "bm"
      have hf : decide (r[z.toNat]? ≠ r[z.toNat + 1]?) = !decide ([c] = [d]) := by
        rw [hc, hd]
        simp
      refine ⟨fun e => ?_, fun e => ?_⟩
      · walk_at "bm"
        refine ⟨Sub.refl _, ?_⟩
        rw [take_snoc hz, List.filter_append, List.map_append]
        simp only [List.filter_cons, hf, e, if_pos, List.filter_nil, List.map_cons, List.map_nil]
      · refine ⟨Sub.refl _, ?_⟩
        rw [take_snoc hz, List.filter_append, List.map_append]
        simp only [List.filter_cons, hf, e, Bool.false_eq_true, if_false, List.filter_nil, List.map_nil, List.append_nil]
    · intro D hD
      walk_at "bn"
      rw [List.length_map, List.take_length]
      obtain ⟨gs, hgs⟩ : ∃ gs, (ps.take 1).filter (fun z => decide (r[z.toNat]? ≠ r[z.toNat + 1]?)) = gs := ⟨_, rfl⟩
      rw [hgs]
      have hgl : gs.length ≤ 1 := by
        rw [← hgs]
        exact Nat.le_trans (List.length_filter_le _ _) (by rw [List.length_take]; omega)
      have hgm : ∀ p ∈ gs, p ∈ ps := fun p h => by
        rw [← hgs] at h
        exact List.take_subset _ _ (List.mem_filter.mp h).1
      refine c__law_deeds_right01 hX hl (by walk_at "isl") (by omega) d3 (fun H' o => ⟨xs, own_l (by walk_at "mem") H' o, inT_pairs o d5⟩) (by omega) d4 ?_
      walk_at "bm"
      refine w2_rep (by walk_at "mem") (by decide) (by rw [List.length_map]; simp; omega) fun p5 hp5 => ?_
      have hrep : (List.replicate (2 : Int).toNat (gs.map V.int)).flatten = (gs ++ gs).map V.int := by
        show gs.map V.int ++ (gs.map V.int ++ []) = _
        rw [List.append_nil, List.map_append]
      rw [hrep]
      walk_at "bm"
      refine wsl_L (by walk_at "isl") fun p6 hp6 => ?_
      rw [cut_hi (by omega)]
      walk_at "bm"
      refine c__law_deeds_right01 (qs := qs.take 1) hX hl (by walk_at "isl") (by rw [List.length_append]; omega) (fun p h => d3 p (by rcases List.mem_append.mp h with h | h <;> exact hgm p h)) (fun H' o => ⟨xs.take 1, own_l (by walk_at "mem") H' o, inT_pairs o (Paired.tk d5 1)⟩) (by rw [List.length_take]; omega) (fun q h => d4 q (List.take_subset _ _ h)) ?_
      walk_at "bm"
      exact ⟨_, by walk_at "sub", _, _, _, _, _, _, _, _, _, _, _, _, rfl, rfl⟩
  rintro σ s ⟨x3, x4, x5, x6, x7, x8, x9, x10, x11, x12, x13, x14, rfl, rfl⟩
  walk_at "bm"
  refine ⟨by simp, fun p1 hp1 => ?_⟩
  walk_at "bm"
  refine c_after_swaps (r := [true, false, false, true]) (ps := [2, 1]) (u := [true, true, false, false]) (by decide) (by walk_at "own") (by decide) (by decide) (by decide) ?_
  walk_at "bm"
  refine ⟨by simp, fun t1 ht1 => ?_⟩
  walk_at "bm"
  refine ⟨by simp, fun t2 ht2 => ?_⟩
  walk_at "bm"
  refine ⟨by simp, fun p2 hp2 => ?_⟩
  walk_at "bm"
  refine c_after_rounds (r := [true, true, false]) (ps := [(0, 3), (1, 3)]) (by decide) (fun H' o => ⟨_, own_l (by walk_at "mem") H' o, .cons ⟨t1, rfl, own_t o (by walk_at "mem")⟩ (.cons ⟨t2, rfl, own_t o (by walk_at "mem")⟩ .nil)⟩) (by decide) (by decide) ?_
  walk_at "bm"
  refine ⟨by simp, fun p3 hp3 => ?_⟩
  walk_at "bm"
  refine c_after_turns (r := [false, false, true, true]) (ps := [0, 3]) (by decide) (by walk_at "own") (by decide) (by decide) (by decide) ?_
  walk_at "bm"
  intro p4 hp4
  walk_at "bm"
  refine ⟨by simp, fun p5 hp5 => ?_⟩
  refine w2_eqLI (ns := dps [false, false, true]) (ms := [0, -1, -2, -1]) (by walk_at "isl") (by walk_at "isl") ?_
  show V.bl _ = V.bl _
  decide
end BM
namespace BM
open PySem PySem.Spec PyProof.Rows L2 Evl
/-! ### methods in a try's body -/
section
variable {X : Cx} {CX : CXT} {k : Nat} {f C : Addr} {fd : FuncData} {ps : List Str} {sp : Sp} {E : L2.St → XK} {m : Str} {pos apos : Pos} {e o : Expr} {es : List Expr} {ta : TE} {t : TA}
/-- o.m(..), what is raised wished for at the caller's slots -/
def tMethE (C : Addr) (m : Str) (sp : Sp) (E : L2.St → XK) (ta : TE) (t : TA) : TE := fun σ H Q => ta σ H fun x H1 => ∃ a dx fs, x = .ref a ∧ H1 a = some (.ins C dx fs) ∧ fs.lookup m = none ∧ t σ H1 fun vs H2 => sp (x :: vs) H2 Q (E σ)
theorem pe_methE {pl : Sem Bool} (he : PE X o ta) (c : Cls X.K C) (hm : Meth X.K C m f) (F : FnOk X.prog X.w X.K X.mg X.base CX k f fd ps sp) (hr : Room k X.A) (hb : Binds X.K fd ps []) (hx : ∀ σ, PassesAt CX X σ (E σ)) (ha : PA X (e :: es) t)
    (h1 : starEach (e :: es) X.env = (false, eval e X.env) :: starEach es X.env := by rfl) (h2 : (backTo pos (starEach es X.env)).any (·.1) = false := by rfl)
    (h3 : eval (.Call (.Attribute o m apos) (e :: es) [] pos) X.env = (eval o X.env >>= fun ov => standAt apos.atName >>= fun _ => holding [ov] (getMethod ov m pl) >>= fun (f, first) => callWith pos f first (backTo pos (starEach (e :: es) X.env)) (backToKw pos (keywordEach [] X.env))) := by rfl) :
    PE X (.Call (.Attribute o m apos) (e :: es) [] pos) (tMethE C m sp E ta t) := by
  refine ⟨fun pins s σ H Q I h => PySem.W.methodCall_KW (pl := pl) (L2.thn (he.run pins s σ H _ I h) fun u s1 ⟨x, H1, I1, rx, a, dx, fs, ex, ea, l, q⟩ => ?_) h3⟩
  cases ex
  cases (show u = Value.ref a from rx)
  refine getmeth_ok I1 ea c hm l (PySem.W.callWith_K (first := [.ref a]) (h₀ := X.base) I.ok.mod.kin hm.kp (L2.thn (ha.run pos pins s1 σ H1 _ I1 q) fun us s2 ⟨vs, H2, I2, r, q2⟩ => ⟨I2.kIn, ?_⟩) h1 h2)
  exact run_fnS (us := .ref a :: us) (vs := .ref a :: vs) F hr hb (hx σ) I2 (.cons rfl r) q2
theorem pe_methE0 {pl : Sem Bool} (he : PE X o ta) (c : Cls X.K C) (hm : Meth X.K C m f) (F : FnOk X.prog X.w X.K X.mg X.base CX k f fd ps sp) (hr : Room k X.A) (hb : Binds X.K fd ps []) (hx : ∀ σ, PassesAt CX X σ (E σ))
    (h3 : eval (.Call (.Attribute o m apos) [] [] pos) X.env = (eval o X.env >>= fun ov => standAt apos.atName >>= fun _ => holding [ov] (getMethod ov m pl) >>= fun (f, first) => callWith pos f first (backTo pos (starEach [] X.env)) (backToKw pos (keywordEach [] X.env))) := by rfl) :
    PE X (.Call (.Attribute o m apos) [] [] pos) (tMethE C m sp E ta tNil) := by
  refine ⟨fun pins s σ H Q I h => PySem.W.methodCall_KW (pl := pl) (L2.thn (he.run pins s σ H _ I h) fun u s1 ⟨x, H1, I1, rx, a, dx, fs, ex, ea, l, q⟩ => ?_) h3⟩
  cases ex
  cases (show u = Value.ref a from rx)
  exact getmeth_ok I1 ea c hm l (PySem.W.callWith_K0 (first := [.ref a]) I1.kIn hm.kp (run_fnS (us := [.ref a]) (vs := [.ref a]) F hr hb (hx σ) I1 (.cons rfl .nil) q))
end
/-! ### objects in the ledger -/
def del (g : Addr) (H : Hp) : Hp := fun a => if a = g then none else H a
theorem del_same {g : Addr} {H : Hp} : del g H g = none := if_pos rfl
theorem del_ne {g a : Addr} {H : Hp} (h : a ≠ g) : del g H a = H a := if_neg h
theorem own_del {H : Hp} {g : Addr} {o : HO} (h : H g = some o) : Own (del g H) H ⟨[(g, o)], []⟩ := by
  refine ⟨fun a u hu => ?_, List.nodup_cons.mpr ⟨by simp, List.nodup_nil⟩, fun e he => ?_, fun t ht => nomatch ht⟩
  · by_cases ha : a = g
    · rw [ha, del_same] at hu
      cases hu
    · rw [del_ne ha] at hu
      exact hu
  · rw [List.mem_singleton.mp he]
    exact ⟨del_same, h⟩
theorem own_after {H0 H H' : Hp} {s : Ld} {g : Addr} {o o' : HO} {L' : List (Addr × HO)} (w : Own H0 H s) (sw : Swap g o o' s.L L') (nt : NotTup o) (e : Ex (del g H) H') (h : H' g = some o') : Own H0 H' ⟨L', s.T⟩ := by
  have hg := w.own _ sw.mem
  have keep : ∀ a u, a ≠ g → H a = some u → H' a = some u := fun a u ha hu => e _ _ (by rw [del_ne ha]; exact hu)
  refine ⟨fun a u hu => keep a u (fun x => ?_) (w.ex _ _ hu), by rw [sw.keys]; exact w.nd, fun x hx => ?_, fun t ht => keep _ _ (fun z => ?_) (w.tp t ht)⟩
  · rw [x, hg.1] at hu
    cases hu
  · rcases sw.of_mem w.nd x hx with rfl | ⟨h1, h2⟩
    · exact ⟨hg.1, h⟩
    · exact ⟨(w.own x h1).1, keep _ _ h2 (w.own x h1).2⟩
  · have := w.tp t ht
    rw [z, hg.2] at this
    cases this
    exact nt
section
variable {K : PySem.W.Frag} {H0 : Hp} {σ : L2.St} {s : Ld} {ta : TA} {te tv : TE} {Q : V → Ld → Prop} {D : Dl} {f m : Str} {E : XK} {C : Addr} {sp : Sp} {vs : List V}
theorem we_fld (h : WE H0 te σ s fun x s1 => ∃ a C dx fs v, x = .ref a ∧ (∀ H, Own H0 H s1 → H a = some (.ins C dx fs)) ∧ Cls K C ∧ NoAttr K C f ∧ fs.lookup f = some v ∧ Q v s1) : WE H0 (tFld K te f) σ s Q := fun H o R k =>
  h H o _ fun x H1 s1 o1 ⟨a, C, dx, fs, v, e, ha, hc, hn, hl, q⟩ => ⟨a, C, dx, fs, v, e, ha H1 o1, hc, hn, hl, k _ _ _ o1 q⟩
theorem ws_fld (h : WE H0 tv σ s fun y s1 => WE H0 te σ s1 fun x s2 => ∃ a C dx fs L', x = .ref a ∧ Swap a (.ins C dx fs) (.ins C dx (putF f y fs)) s2.L L' ∧ Cls K C ∧ NoAttr K C f ∧ fs.length < 1000 ∧ D.nx σ ⟨L', s2.T⟩) : WS H0 (sFld K te tv f) σ s D := fun H o E l =>
  h H o _ fun y H1 s1 o1 h1 => h1 H1 o1 _ fun x H2 s2 o2 ⟨a, C, dx, fs, L', e, sw, hc, hn, hl, q⟩ => ⟨a, C, dx, fs, e, (o2.own _ sw.mem).2, hc, hn, hl, l.nx _ _ _ (o2.swap sw trivial) q⟩
theorem we_meth {dvs : List V} (h : WE H0 te σ s fun x s1 => ∃ a dx fs, x = .ref a ∧ (∀ H, Own H0 H s1 → H a = some (.ins C dx fs)) ∧ fs.lookup m = none ∧ WA H0 ta σ s1 fun vs s2 => WC H0 sp E (x :: (vs ++ dvs)) s2 Q) : WE H0 (tMeth C m sp dvs E te ta) σ s Q := fun H o R k =>
  h H o _ fun x H1 s1 o1 ⟨a, dx, fs, e, ha, hl, h1⟩ => ⟨a, dx, fs, e, ha H1 o1, hl, h1 H1 o1 _ fun vs H2 s2 o2 h2 => h2 H2 o2 R k⟩
theorem we_make {dvs : List V} (h : WA H0 ta σ s fun vs s1 => ∀ x dx, H0 x = none → H0 dx = none → dx ≠ x → WC H0 sp E (.ref x :: (vs ++ dvs)) ⟨(x, .ins C dx []) :: (dx, .own x) :: s1.L, s1.T⟩ fun v s2 => v = .non ∧ Q (.ref x) s2) : WE H0 (tMake C sp dvs E ta) σ s Q := fun H o R k =>
  h H o _ fun vs H1 s1 o1 h1 => fun x dx hx hdx hne => by
    have o2 := o1.new (u := .own x) hdx
    have hx2 : (upd H1 dx (.own x)) x = none := by rw [upd_ne hne.symm]; exact hx
    exact h1 x dx (fresh_back o1.ex hx) (fresh_back o1.ex hdx) hne _ (o2.new (u := .ins C dx []) hx2) _ fun v H2 s2 o3 ⟨e, q⟩ => ⟨e, k _ _ _ o3 q⟩
end
/-- a promise that changes the object g alone -/
def chg (g : Addr) (o' : HO) (v : V) (H : Hp) (Q : VK) : Prop := ∀ H', Ex (del g H) H' → H' g = some o' → Q v H'
/-- a promise of a new tuple -/
def spU (R : List V → Hp → List V → Prop) : Sp := fun vs H Q _ => ∃ xs, R vs H xs ∧ ∀ p H', Ex H H' → H' p = some (.tup xs) → Q (.ref p) H'
theorem wc_U {H0 : Hp} {s : Ld} {Q : V → Ld → Prop} {R : List V → Hp → List V → Prop} {E : XK} {vs xs : List V} (h : ∀ H, Own H0 H s → R vs H xs) (q : ∀ p, Q (.ref p) ⟨s.L, (p, xs) :: s.T⟩) : WC H0 (spU R) E vs s Q := fun H o R' k =>
  ⟨xs, h H o, fun p H' e hp => k _ _ _ (by
    have o2 := (o.ext e).moreT (ts := [(p, xs)]) (fun t ht => by rw [List.mem_singleton.mp ht]; exact hp)
    exact o2) (q p)⟩
def retU (xs : List V) : Dl := { nx := fun _ _ => False, rt := fun u s => ∃ p, u = .ref p ∧ (p, xs) ∈ s.T }
theorem body_U {H : Hp} {t : TS} {N : List Str} {vs xs : List V} {Q : VK} (h : WS H t (start N vs) ⟨[], []⟩ (retU xs)) (k : ∀ p H', Ex H H' → H' p = some (.tup xs) → Q (.ref p) H') : t { nx := fun _ H' => Q .non H', rt := Q } (start N vs) H :=
  h H (Own.start H) _ ⟨(fun _ _ _ _ q => q.elim), fun u H' s o ⟨p, e, m⟩ => by
    rw [e]
    exact k p H' o.ex (o.tp _ m), (fun _ _ _ _ q => q.elim), (fun _ _ _ _ q => q.elim)⟩
/-- a body that changes the object g -/
def retG (g : Addr) (o' : HO) (v : V) : Dl := { nx := fun _ s => v = .non ∧ (g, o') ∈ s.L, rt := fun u s => u = v ∧ (g, o') ∈ s.L }
theorem body_G {H : Hp} {t : TS} {N : List Str} {vs : List V} {Q : VK} {g : Addr} {o o' : HO} {v : V} (ho : H g = some o) (h : WS (del g H) t (start N vs) ⟨[(g, o)], []⟩ (retG g o' v)) (k : chg g o' v H Q) : t { nx := fun _ H' => Q .non H', rt := Q } (start N vs) H :=
  h H (own_del ho) _ ⟨fun _ H' s w ⟨e, m⟩ => by
    rw [← e]
    exact k H' w.ex (w.own _ m).2, fun u H' s w ⟨e, m⟩ => by
    rw [e]
    exact k H' w.ex (w.own _ m).2, (fun _ _ _ _ q => q.elim), (fun _ _ _ _ q => q.elim)⟩
theorem ex_del {g : Addr} {H : Hp} {o : HO} (h : H g = some o) {H' : Hp} (e : Ex (del g H) H') (h2 : H' g = some o) : Ex H H' := fun a u hu => by
  by_cases ha : a = g
  · rw [ha] at hu ⊢
    rw [h] at hu
    cases hu
    exact h2
  · exact e _ _ (by rw [del_ne ha]; exact hu)
end BM
namespace BM
/-! ### what a row lacks -/
def lkS (p : Int × Int) (b : Bool) : Int × Int := if b then (p.1, p.2 + 1) else if p.2 > 0 then (p.1, p.2 - 1) else (p.1 + 1, p.2)
def lk (r : List Bool) : Int × Int := r.foldl lkS (0, 0)
theorem lk_snoc (r : List Bool) (b : Bool) : lk (r ++ [b]) = lkS (lk r) b := by
  unfold lk
  rw [List.foldl_append]
  rfl
theorem snoc_ind {P : List Bool → Prop} (h0 : P []) (h1 : ∀ r b, P r → P (r ++ [b])) (r : List Bool) : P r := by
  have : ∀ n (r : List Bool), r.length = n → P r := by
    intro n
    induction n with
    | zero =>
      intro r h
      rw [List.length_eq_zero_iff.mp h]
      exact h0
    | succ n ih =>
      intro r h
      have hne : r ≠ [] := fun e => by rw [e] at h; cases h
      rw [← List.dropLast_concat_getLast hne]
      exact h1 _ _ (ih _ (by rw [List.length_dropLast, h]; rfl))
  exact this _ r rfl
theorem lk_law (r : List Bool) : (lk r).2 = hgt r + (lk r).1 ∧ 0 ≤ (lk r).2 ∧ (∃ j, j ≤ r.length ∧ hgt (r.take j) = -(lk r).1) ∧ ∀ j, j ≤ r.length → -(lk r).1 ≤ hgt (r.take j) := by
  induction r using snoc_ind with
  | h0 => exact ⟨rfl, Int.le_refl _, ⟨0, Nat.le_refl _, rfl⟩, fun j hj => by have : j = 0 := (by simpa using hj); subst this; exact Int.le_refl _⟩
  | h1 r b ih =>
    obtain ⟨e, h0, ⟨j, hj, ej⟩, hm⟩ := ih
    have hh : hgt (r ++ [b]) = hgt r + sg b := by rw [hgt_app]; simp [hgt]
    have tk : ∀ j, j ≤ r.length → (r ++ [b]).take j = r.take j := fun j hj => by rw [List.take_append_of_le_length hj]
    have tkl : (r ++ [b]).take (r.length + 1) = r ++ [b] := List.take_of_length_le (by simp)
    have split : ∀ j, j ≤ (r ++ [b]).length → j ≤ r.length ∨ j = r.length + 1 := fun j h => by
      simp at h
      omega
    rw [lk_snoc]
    unfold lkS
    cases b with
    | true =>
      have hh' : hgt (r ++ [true]) = hgt r + 1 := hh
      refine ⟨by rw [hh']; simp; omega, by simp; omega, ⟨j, by simp; omega, by rw [tk j hj]; simpa using ej⟩, fun i hi => ?_⟩
      rcases split i hi with h | rfl
      · rw [tk i h]; simpa using hm i h
      · rw [tkl, hh']; simp; omega
    | false =>
      have hh' : hgt (r ++ [false]) = hgt r + -1 := hh
      by_cases hp : (lk r).2 > 0
      · simp only [Bool.false_eq_true, if_false, hp, if_true]
        refine ⟨by rw [hh']; omega, by omega, ⟨j, by simp; omega, by rw [tk j hj]; exact ej⟩, fun i hi => ?_⟩
        rcases split i hi with h | rfl
        · rw [tk i h]; exact hm i h
        · rw [tkl, hh']; omega
      · simp only [Bool.false_eq_true, if_false, hp]
        refine ⟨by rw [hh']; omega, by omega, ⟨r.length + 1, by simp, by rw [tkl, hh']; omega⟩, fun i hi => ?_⟩
        rcases split i hi with h | rfl
        · rw [tk i h]; have := hm i h; omega
        · rw [tkl, hh']; omega
theorem lk_min {r : List Bool} {m : Int} (h1 : m ∈ dps r) (h2 : ∀ y ∈ dps r, m ≤ y) : m = -(lk r).1 := by
  obtain ⟨_, _, ⟨j, hj, ej⟩, hm⟩ := lk_law r
  obtain ⟨i, hi, rfl⟩ := mem_dps.mp h1
  have a := h2 _ (mem_dps.mpr ⟨j, hj, rfl⟩)
  have b := hm i hi
  omega
theorem lk_left (r : List Bool) : (lk r).2 = hgt r - -(lk r).1 := by
  have := (lk_law r).1
  omega
/-! ### the longest right stretch -/
def stp (r : List Bool) (f : Nat) (best : Int × Int) (b : Nat) : Int × Int := if b ≤ r.length ∧ isR ((r.drop f).take (b - f)) = true ∧ best.2 - best.1 < (b : Int) - (f : Int) then ((f : Int), (b : Int)) else best
def inn (r : List Bool) (f : Nat) (best : Int × Int) : Nat → Int × Int
  | 0 => best
  | k + 1 => stp r f (inn r f best k) (f + (k + 1))
def outL (r : List Bool) : Nat → Int × Int
  | 0 => (0, 0)
  | i + 1 => inn r i (outL r i) (r.length - i)
def lng (r : List Bool) : Int × Int := outL r r.length
theorem hgt_par7 (r : List Bool) : (hgt r - (r.length : Int)) % 2 = 0 := by
  induction r using snoc_ind with
  | h0 => rfl
  | h1 r b ih =>
    rw [hgt_app, List.length_append]
    cases b <;> simp [hgt, sg] <;> omega
theorem isR_even {r : List Bool} (h : isR r = true) : r.length % 2 = 0 := by
  have h1 := (isR_iff.mp h).1
  have h2 := hgt_par7 r
  omega
theorem stp_odd {r : List Bool} {f : Nat} {best : Int × Int} {b : Nat} (h : (b - f) % 2 = 1) (hf : f ≤ b) : stp r f best b = best := by
  unfold stp
  rw [if_neg]
  rintro ⟨h1, h2, _⟩
  have := isR_even h2
  rw [List.length_take, List.length_drop] at this
  have e : min (b - f) (r.length - f) = b - f := by omega
  rw [e] at this
  omega
theorem inn_stop {r : List Bool} {f : Nat} {best : Int × Int} : ∀ {k n : Nat}, n ≤ k → r.length ≤ f + n → inn r f best k = inn r f best n
  | 0, n, h, _ => by rw [Nat.le_zero.mp h]
  | k + 1, n, h, hl => by
    rcases Nat.lt_or_ge k n with h1 | h1
    · rw [show k + 1 = n by omega]
    · show stp r f (inn r f best k) (f + (k + 1)) = _
      unfold stp
      rw [if_neg (by omega), inn_stop h1 hl]
theorem inn_low {r : List Bool} {f : Nat} {best : Int × Int} {i : Nat} (hi : hgt ((r.drop f).take (i + 1)) < 0) : ∀ {k : Nat}, i ≤ k → inn r f best k = inn r f best i
  | 0, h => by rw [Nat.le_zero.mp h]
  | k + 1, h => by
    rcases Nat.lt_or_ge k i with h1 | h1
    · rw [show k + 1 = i by omega]
    · show stp r f (inn r f best k) (f + (k + 1)) = _
      unfold stp
      rw [if_neg, inn_low hi h1]
      rintro ⟨_, h2, _⟩
      have h3 := (isR_iff.mp h2).2
      by_cases hl : i + 1 ≤ ((r.drop f).take (f + (k + 1) - f)).length
      · have := h3 (i + 1) hl
        rw [List.take_take, Nat.min_eq_left (by omega)] at this
        omega
      · have h4 := h3 _ (Nat.le_refl _)
        rw [List.take_length] at h4
        have e1 : (r.drop f).take (f + (k + 1) - f) = r.drop f := List.take_of_length_le (by
          rw [List.length_take] at hl
          omega)
        have e2 : (r.drop f).take (i + 1) = r.drop f := List.take_of_length_le (by
          rw [e1] at hl
          omega)
        rw [e1] at h4
        rw [e2] at hi
        omega
theorem isR_take {r : List Bool} {i : Nat} (hi : i ≤ r.length) (hn : ∀ j, j ≤ i → 0 ≤ hgt (r.take j)) : isR (r.take i) = decide (hgt (r.take i) = 0) := by
  rw [Bool.eq_iff_iff, isR_iff, decide_eq_true_eq]
  refine ⟨fun h => h.1, fun h => ⟨h, fun j hj => ?_⟩⟩
  rw [List.length_take] at hj
  rw [List.take_take, Nat.min_eq_left (by omega)]
  exact hn j (by omega)
theorem inn_odd {r : List Bool} {f : Nat} {best : Int × Int} (k : Nat) : inn r f best (2 * k + 1) = inn r f best (2 * k) := by
  show stp r f _ (f + (2 * k + 1)) = _
  exact stp_odd (by omega) (by omega)
end BM
namespace BM
open PySem L2 Evl
/-- the class Growing as it stands -/
structure Grw (K : PySem.W.Frag) (C : CA) : Prop where
  cl : Cls K C.c_Growing
  nr : NoAttr K C.c_Growing "row"
abbrev gIns (C : CA) (d : Addr) (r : List Bool) : HO := .ins C.c_Growing d [("row", .str (T r))]
structure Ex07 (K : PySem.W.Frag) (C : CA) : Prop where
  g : Grw K C
  tm : ExcC K C.c_TooMany
  ns : ExcC K C.c_NotSo
  tb : PySem.W.exmOne K (.ref C.c_TooMany) (.ref C.c_BracketError) = some true
  nb : PySem.W.exmOne K (.ref C.c_NotSo) (.ref C.c_BracketError) = some true
  nt : PySem.W.kitOne K (.ref C.c_NotSo) (.ref C.c_TooMany) = some false
def pairV (p : Int × Int) : List V := [.int p.1, .int p.2]
def sp_g_init (K : PySem.W.Frag) (C : CA) : Sp := fun vs H Q _ => ∃ x d, Grw K C ∧ vs = [.ref x] ∧ H x = some (.ins C.c_Growing d []) ∧ chg x (gIns C d []) .non H Q
def sp_g_put (K : PySem.W.Frag) (C : CA) : Sp := fun vs H Q E => ∃ (g d : Addr) (r : List Bool) (b : Bool), Grw K C ∧ vs = [.ref g, .str (T [b])] ∧ H g = some (gIns C d r) ∧ r.length ≤ 40 ∧ (r.length < 40 → chg g (gIns C d (r ++ [b])) (.int (hgt (r ++ [b]))) H Q) ∧ (r.length = 40 → ∀ H', Ex H H' → E (.ref C.c_TooMany) none H')
def sp_g_take (K : PySem.W.Frag) (C : CA) : Sp := fun vs H Q E => ∃ (g d : Addr) (r : List Bool), Grw K C ∧ vs = [.ref g] ∧ H g = some (gIns C d r) ∧ r.length ≤ 40 ∧ (∀ u b, r = u ++ [b] → chg g (gIns C d u) (.str (T [b])) H Q) ∧ (r = [] → ∀ H', Ex H H' → E (.ref C.c_NotSo) none H')
def sp_g_text (K : PySem.W.Frag) (C : CA) : Sp := spV fun vs H v => ∃ (g d : Addr) (r : List Bool), Grw K C ∧ vs = [.ref g] ∧ H g = some (gIns C d r) ∧ v = .str (T r)
def sp_g_lacks (K : PySem.W.Frag) (C : CA) : Sp := spU fun vs H xs => ∃ (g d : Addr) (r : List Bool), Grw K C ∧ vs = [.ref g] ∧ H g = some (gIns C d r) ∧ r.length ≤ 40 ∧ xs = pairV (lk r)
def sp_g_longest (K : PySem.W.Frag) (C : CA) : Sp := spU fun vs H xs => ∃ (g d : Addr) (r : List Bool), Grw K C ∧ vs = [.ref g] ∧ H g = some (gIns C d r) ∧ r.length ≤ 40 ∧ xs = pairV (lng r)
def sp__law_lacks07 (K : PySem.W.Frag) (C : CA) : Sp := spU fun vs H xs => ∃ r : List Bool, vs = [.str (T r)] ∧ r.length ≤ 40 ∧ xs = pairV (lk r)
def sp__law_longest07 (K : PySem.W.Frag) (C : CA) : Sp := spU fun vs H xs => ∃ r : List Bool, vs = [.str (T r)] ∧ r.length ≤ 40 ∧ xs = pairV (lng r)
def sp__law_same07 (K : PySem.W.Frag) (C : CA) : Sp := spV fun vs H v => ∃ (g d : Addr) (r : List Bool), Grw K C ∧ vs = [.ref g, .str (T r)] ∧ H g = some (gIns C d r) ∧ r.length ≤ 40 ∧ v = .bl true
def sp__law_ask07 (K : PySem.W.Frag) (C : CA) : Sp := fun vs H Q _ => ∃ (g d : Addr) (r o : List Bool), Ex07 K C ∧ vs = [.ref g, .str (T o)] ∧ H g = some (gIns C d r) ∧ r.length ≤ 40 ∧
  ((∃ b, o = [b] ∧ r.length < 40 ∧ chg g (gIns C d (r ++ [b])) (.int (hgt (r ++ [b]))) H Q) ∨ (∃ b, o = [b] ∧ r.length = 40 ∧ ∀ H', Ex H H' → Q (.str "many") H') ∨ (∃ u b, o = [] ∧ r = u ++ [b] ∧ chg g (gIns C d u) (.str (T [b])) H Q) ∨ (o = [] ∧ r = [] ∧ ∀ H', Ex H H' → Q (.str "none") H'))
def sp_law07 (K : PySem.W.Frag) (C : CA) : Sp := spV fun vs H v => ∃ (a : Addr) (ns : List Int), Ex07 K C ∧ vs = [.ref a] ∧ SqL K H a (ns.map V.int) ∧ ns.length ≤ 63 ∧ v = .bl true
end BM
namespace BM
open PySem L2 Evl
def N_g_init : List Str := ["self"]
def rd_g_init (K : PySem.W.Frag) (C_ : CA) : TS :=
    (sFld K (tVar 0) (tC (.str (T []))) "row")

def N_g_put : List Str := ["self", "bracket"]
def rd_g_put (K : PySem.W.Frag) (C_ : CA) (E : XK) : TS :=
    (tSeq (tIfS (tOr (tNot (tB (tCB (aIsi K "str") (tCons (tVar 1) (tCons (tC (.ty "str")) tNil))))) (tTest (tOp (rIn K true) (tVar 1) (tTup (tCons (tC (.str (T [true]))) (tCons (tC (.str (T [false]))) tNil)))))) tNever tNext)
    (tSeq (tIfS (tTest (tOp aGe (tCB aLenT (tCons (tFld K (tVar 0) "row") tNil)) (tC (.int 40)))) (tRaiseX C_.c_TooMany E) tNext)
    (tSeq (sFld K (tVar 0) (tOp aCatT (tFld K (tVar 0) "row") (tVar 1)) "row")
    (tRet (tOp (rIxL K) (tCall (sp_depths_of K C_) [] E0 (tCons (tFld K (tVar 0) "row") tNil)) (tUn aNeg (tC (.int 1))))))))

def N_g_take : List Str := ["self", "bracket"]
def rd_g_take (K : PySem.W.Frag) (C_ : CA) (E : XK) : TS :=
    (tSeq (tIfS (tTest (tOp rEq (tFld K (tVar 0) "row") (tC (.str (T []))))) (tRaiseX C_.c_NotSo E) tNext)
    (tSeq (tAsg (tOp aIxT (tFld K (tVar 0) "row") (tUn aNeg (tC (.int 1)))) (gName 1))
    (tSeq (sFld K (tVar 0) (tSl aSlT (tFld K (tVar 0) "row") tNoPart (tPart (tUn aNeg (tC (.int 1))))) "row")
    (tRet (tVar 1)))))

def N_g_text : List Str := ["self"]
def rd_g_text (K : PySem.W.Frag) (C_ : CA) : TS :=
    (tRet (tFld K (tVar 0) "row"))

def N_g_lacks : List Str := ["self", "found"]
def rd_g_lacks (K : PySem.W.Frag) (C_ : CA) : TS :=
    (tSeq (tAsg (tCall (sp_depths_of K C_) [] E0 (tCons (tFld K (tVar 0) "row") tNil)) (gName 1))
    (tRet (tTup (tCons (tUn aNeg (tCB (rMin K) (tCons (tVar 1) tNil))) (tCons (tOp aSub (tOp (rIxL K) (tVar 1) (tUn aNeg (tC (.int 1)))) (tCB (rMin K) (tCons (tVar 1) tNil))) tNil)))))

def N_g_longest : List Str := ["self", "best", "first", "behind"]
def rd_g_longest (K : PySem.W.Frag) (C_ : CA) : TS :=
    (tSeq (tAsg (tTup (tCons (tC (.int 0)) (tCons (tC (.int 0)) tNil))) (gName 1))
    (tSeq (tFor (iRng1 (tCons (tCB aLenT (tCons (tFld K (tVar 0) "row") tNil)) tNil)) (gName 2) (tFor (iRng3 (tCons (tOp aAdd (tVar 2) (tC (.int 2))) (tCons (tOp aAdd (tCB aLenT (tCons (tFld K (tVar 0) "row") tNil)) (tC (.int 1))) (tCons (tC (.int 2)) tNil)))) (gName 3) (tIfS (tAnd (tTest (tOp aGt (tOp aSub (tVar 3) (tVar 2)) (tOp aSub (tOp (rIxT K) (tVar 1) (tC (.int 1))) (tOp (rIxT K) (tVar 1) (tC (.int 0)))))) (tB (tCall (sp_is_right_row K C_) [] E0 (tCons (tSl aSlT (tFld K (tVar 0) "row") (tPart (tVar 2)) (tPart (tVar 3))) tNil)))) (tAsg (tTup (tCons (tVar 2) (tCons (tVar 3) tNil))) (gName 1)) tNext)))
    (tRet (tVar 1))))

def N__law_lacks07 : List Str := ["_law_row_here", "_law_bracket", "_law_ahead", "_law_left"]
def rd__law_lacks07 (K : PySem.W.Frag) (C_ : CA) : TS :=
    (tSeq (tAsg (tTup (tCons (tC (.int 0)) (tCons (tC (.int 0)) tNil))) (gTup K 2 (gCons (gName 2) (gCons (gName 3) gNil))))
    (tSeq (tFor (iStr (tVar 0)) (gName 1) (tIfS (tTest (tOp rEq (tVar 1) (tC (.str (T [true]))))) (tAsg (tOp aAdd (tVar 3) (tC (.int 1))) (gName 3)) (tIfS (tTest (tOp aGt (tVar 3) (tC (.int 0)))) (tAsg (tOp aSub (tVar 3) (tC (.int 1))) (gName 3)) (tAsg (tOp aAdd (tVar 2) (tC (.int 1))) (gName 2)))))
    (tRet (tTup (tCons (tVar 2) (tCons (tVar 3) tNil))))))

def N__law_longest07 : List Str := ["_law_row_here", "_law_best", "_law_first", "_law_depth", "_law_at"]
def rd__law_longest07 (K : PySem.W.Frag) (C_ : CA) : TS :=
    (tSeq (tAsg (tTup (tCons (tC (.int 0)) (tCons (tC (.int 0)) tNil))) (gName 1))
    (tSeq (tFor (iRng1 (tCons (tCB aLenT (tCons (tVar 0) tNil)) tNil)) (gName 2) (tSeq (tAsg (tC (.int 0)) (gName 3))
    (tFor (iRng2 (tCons (tVar 2) (tCons (tCB aLenT (tCons (tVar 0) tNil)) tNil))) (gName 4) (tSeq (tAsg (tOp aAdd (tVar 3) (tIf (tTest (tOp rEq (tOp aIxT (tVar 0) (tVar 4)) (tC (.str (T [true]))))) (tC (.int 1)) (tUn aNeg (tC (.int 1))))) (gName 3))
    (tSeq (tIfS (tTest (tOp aLt (tVar 3) (tC (.int 0)))) tBreak tNext)
    (tIfS (tAnd (tTest (tOp rEq (tVar 3) (tC (.int 0)))) (tTest (tOp aGt (tOp aSub (tOp aAdd (tVar 4) (tC (.int 1))) (tVar 2)) (tOp aSub (tOp (rIxT K) (tVar 1) (tC (.int 1))) (tOp (rIxT K) (tVar 1) (tC (.int 0))))))) (tAsg (tTup (tCons (tVar 2) (tCons (tOp aAdd (tVar 4) (tC (.int 1))) tNil))) (gName 1)) tNext))))))
    (tRet (tVar 1))))

def N__law_same07 : List Str := ["_law_grown", "_law_row_here", "_law_found", "_law_one"]
def rd__law_same07 (K : PySem.W.Frag) (C_ : CA) : TS :=
    (tSeq (tAsg (tTup (tCons (tMeth C_.c_Growing "lacks" (sp_g_lacks K C_) [] E0 (tVar 0) tNil) (tCons (tMeth C_.c_Growing "longest" (sp_g_longest K C_) [] E0 (tVar 0) tNil) tNil))) (gName 2))
    (tSeq (tIfS (tOr (tNot (tB (tCB (aAll K) (tCons (tLc (iTup K (tVar 2)) (gName 3) tYes (tCB (aIsi K "tuple") (tCons (tVar 3) (tCons (tC (.ty "tuple")) tNil))) [3]) tNil)))) (tTest (tOp rNe (tMeth C_.c_Growing "text" (sp_g_text K C_) [] E0 (tVar 0) tNil) (tVar 1)))) (tRet (tC (.bl false))) tNext)
    (tRet (tAndV (tOp (rEqD K) (tVar 2) (tTup (tCons (tCall (sp__law_lacks07 K C_) [] E0 (tCons (tVar 1) tNil)) (tCons (tCall (sp__law_longest07 K C_) [] E0 (tCons (tVar 1) tNil)) tNil)))) (tOp (rEqD K) (tMeth C_.c_Growing "lacks" (sp_g_lacks K C_) [] E0 (tVar 0) tNil) (tOp (rIxT K) (tVar 2) (tC (.int 0))))))))

def N__law_ask07 : List Str := ["_law_grown", "_law_deed", "error"]
def rd__law_ask07 (K : PySem.W.Frag) (C_ : CA) : TS :=
    (tTry K (.ref C_.c_BracketError) 2 (fun W => (tRet (tIf (tTest (tOp rNe (tVar 1) (tC (.str (T []))))) (tMethE C_.c_Growing "put" (sp_g_put K C_) (L2.WE W) (tVar 0) (tCons (tVar 1) tNil)) (tMethE C_.c_Growing "take" (sp_g_take K C_) (L2.WE W) (tVar 0) tNil)))) (fun a cls d => tExc K cls d fun D0 => (tRet (tIf (tB (tCB (rIsE K D0 a) (tCons (tVar 2) (tCons (tC (.ref C_.c_TooMany)) tNil)))) (tC (.str "many")) (tIf (tB (tCB (rIsE K D0 a) (tCons (tVar 2) (tCons (tC (.ref C_.c_NotSo)) tNil)))) (tC (.str "none")) (tC (.str "else")))))))

def N_law07 : List Str := ["_law_script", "_law_at", "_law_grown", "_law_shown", "_law_turn", "_law_whole", "_law_row_here", "_law_other", "_law_number_here", "_law_deed", "_law_told", "_law_before", "_law_due", "_law_one"]
def rd_law07 (K : PySem.W.Frag) (C_ : CA) : TS :=
    (tSeq (tAsg (tTup (tCons (tCB aAbs (tCons (tCB (rSum K) (tCons (tSl (rSlL K) (tVar 0) tNoPart (tPart (tC (.int 63)))) tNil)) tNil)) (tCons (tC (.str (T []))) (tCons (tMake C_.c_Growing (sp_g_init K C_) [] E0 tNil) (tCons (tMake C_.c_Growing (sp_g_init K C_) [] E0 tNil) tNil))))) (gTup K 4 (gCons (gName 5) (gCons (gName 6) (gCons (gName 2) (gCons (gName 7) gNil))))))
    (tSeq (tFor (iRng1 (tCons (tOp aMul (tC (.int 2)) (tCB (aLenL K) (tCons (tSl (rSlL K) (tVar 0) tNoPart (tPart (tC (.int 30)))) tNil))) tNil)) (gName 1) (tSeq (tAsg (tOp aDiv (tCB aAbs (tCons (tCall (sp__law_number K C_) [] E0 (tCons (tOp aAdd (tOp (rIxL K) (tVar 0) (tOp aDiv (tVar 1) (tC (.int 2)))) (tOp aMod (tVar 1) (tC (.int 2)))) (tCons (tVar 1) (tCons (tVar 5) tNil)))) tNil)) (tC (.int 3))) (gName 8))
    (tSeq (tAsg (tIf (tTest (tOp aGt (tOp aMod (tOp aDiv (tVar 8) (tC (.int 5))) (tC (.int 5))) (tC (.int 0)))) (tOp aIxT (tC (.str (T [true, true, false, false, false]))) (tOp aMod (tVar 8) (tC (.int 5)))) (tC (.str (T [])))) (gName 9))
    (tSeq (tPar 10 11 (tCons (tCall (sp__law_ask07 K C_) [] E0 (tCons (tVar 2) (tCons (tVar 9) tNil))) (tCons (tVar 6) tNil)))
    (tSeq (tIfS (tTest (tOp rEq (tVar 9) (tC (.str (T []))))) (tSeq (tAsg (tIf (tTest (tOp rEq (tVar 6) (tC (.str (T []))))) (tC (.str "none")) (tOp aIxT (tVar 6) (tUn aNeg (tC (.int 1))))) (gName 12))
    (tAsg (tSl aSlT (tVar 6) tNoPart (tPart (tUn aNeg (tC (.int 1))))) (gName 6))) (tSeq (tAsg (tIf (tTest (tOp aLt (tCB aLenT (tCons (tVar 6) tNil)) (tC (.int 40)))) (tOp aCatT (tVar 6) (tVar 9)) (tVar 6)) (gName 6))
    (tAsg (tIf (tTest (tOp aLt (tCB aLenT (tCons (tVar 11) tNil)) (tC (.int 40)))) (tOp (rIxL K) (tCall (sp__law_depths K C_) [] E0 (tCons (tVar 6) tNil)) (tUn aNeg (tC (.int 1)))) (tC (.str "many"))) (gName 12))))
    (tSeq (tIfS (tOr (tTest (tOp rNe (tVar 10) (tVar 12))) (tOr (tB (tCB (aIsi K "bool") (tCons (tVar 10) (tCons (tC (.ty "bool")) tNil)))) (tTest (tOp rNe (tMeth C_.c_Growing "text" (sp_g_text K C_) [] E0 (tVar 7) tNil) (tC (.str (T []))))))) (tRet (tC (.bl false))) tNext)
    (tIfS (tAnd (tTest (tOp rEq (tOp aMod (tVar 1) (tC (.int 3))) (tC (.int 0)))) (tNot (tB (tCall (sp__law_same07 K C_) [] E0 (tCons (tVar 2) (tCons (tVar 6) tNil)))))) (tRet (tC (.bl false))) tNext)))))))
    (tSeq (tIfS (tOr (tNot (tB (tCall (sp__law_same07 K C_) [] E0 (tCons (tVar 2) (tCons (tVar 6) tNil))))) (tTest (tOp rNe (tCall (sp__law_ask07 K C_) [] E0 (tCons (tVar 7) (tCons (tC (.str (T []))) tNil))) (tC (.str "none"))))) (tRet (tC (.bl false))) tNext)
    (tSeq (tAsg (tMake C_.c_Growing (sp_g_init K C_) [] E0 tNil) (gName 2))
    (tSeq (tAsg (tLc (iStr (tC (.str (T [true, false, false, true, true, false, false, true])))) (gName 13) tYes (tMeth C_.c_Growing "put" (sp_g_put K C_) [] E0 (tVar 2) (tCons (tVar 13) tNil)) [13]) (gName 3))
    (tSeq (tIfS (tOr (tTest (tOp (rNeD K) (tVar 3) (tLst (tCons (tC (.int 1)) (tCons (tC (.int 0)) (tCons (tUn aNeg (tC (.int 1))) (tCons (tC (.int 0)) (tCons (tC (.int 1)) (tCons (tC (.int 0)) (tCons (tUn aNeg (tC (.int 1))) (tCons (tC (.int 0)) tNil))))))))))) (tOr (tTest (tOp (rNeD K) (tMeth C_.c_Growing "lacks" (sp_g_lacks K C_) [] E0 (tVar 2) tNil) (tTup (tCons (tC (.int 1)) (tCons (tC (.int 1)) tNil))))) (tTest (tOp (rNeD K) (tMeth C_.c_Growing "longest" (sp_g_longest K C_) [] E0 (tVar 2) tNil) (tTup (tCons (tC (.int 3)) (tCons (tC (.int 7)) tNil))))))) (tRet (tC (.bl false))) tNext)
    (tSeq (tFor (iRng1 (tCons (tC (.int 32)) tNil)) (gName 4) (tDrop (tMeth C_.c_Growing "put" (sp_g_put K C_) [] E0 (tVar 2) (tCons (tC (.str (T [true]))) tNil))))
    (tSeq (tIfS (tOr (tTest (tOp rNe (tCall (sp__law_ask07 K C_) [] E0 (tCons (tVar 2) (tCons (tC (.str (T [false]))) tNil))) (tC (.str "many")))) (tTest (tOp rNe (tCB aLenT (tCons (tMeth C_.c_Growing "text" (sp_g_text K C_) [] E0 (tVar 2) tNil) tNil)) (tC (.int 40))))) (tRet (tC (.bl false))) tNext)
    (tRet (tAndV (tOp rEq (tMeth C_.c_Growing "take" (sp_g_take K C_) [] E0 (tVar 2) tNil) (tC (.str (T [true])))) (tOp (rEqD K) (tMeth C_.c_Growing "longest" (sp_g_longest K C_) [] E0 (tVar 2) tNil) (tTup (tCons (tC (.int 3)) (tCons (tC (.int 7)) tNil))))))))))))))

end BM
namespace BM
open PySem L2 Evl
local macro_rules | `(tactic| walk_at "mem") => `(tactic| first | exact List.mem_cons_self | (refine List.mem_cons_of_mem _ ?_; walk_at "mem"))
local macro_rules | `(tactic| walk_at "swap") => `(tactic| first | exact Swap.here | (apply Swap.there; walk_at "swap"))
local macro_rules | `(tactic| walk_at "subl") => `(tactic| first | exact List.Sublist.refl _ | exact List.nil_sublist _ | (refine List.Sublist.cons_cons _ ?_; walk_at "subl") | (refine List.Sublist.cons _ ?_; walk_at "subl"))
local macro_rules | `(tactic| walk_at "sub") => `(tactic| first | exact Sub.refl _ | (refine ⟨?_, ?_⟩ <;> walk_at "subl"))
local macro_rules | `(tactic| walk_at "isl") => `(tactic| first | exact isL_own (by walk_at "mem") | exact isL_old (by assumption) | assumption)
local macro_rules | `(tactic| walk_at "ist") => `(tactic| first | exact isT_own (by walk_at "mem") | exact isT_old (by assumption) | assumption)
local macro_rules | `(tactic| walk_at "len") => `(tactic| first | omega | decide | (simp only [List.length_map, List.length_take, List.length_drop, List.length_append, List.length_cons, List.length_nil, List.length_reverse, dps_len, flp_len]; omega) | (simp [dps_len, flp_len]; omega) | simp)
local macro_rules | `(tactic| walk_at "b0") => `(tactic| first
  | with_reducible refine' ws_set ?_
  | with_reducible refine' ws_par ?_
  | with_reducible refine' ws_asg ?_
  | with_reducible refine' ws_drop ?_
  | with_reducible refine' ws_ret ?_
  | with_reducible refine' ws_if ?_
  | with_reducible refine' ws_next ?_
  | with_reducible refine' ws_brk ?_
  | with_reducible refine' ws_cont ?_
  | ((with_reducible refine' we_var ?hv ?_); case hv => rfl)
  | with_reducible refine' we_c ?_
  | with_reducible refine' we_op ?_
  | with_reducible refine' we_un ?_
  | with_reducible refine' we_if ?_
  | with_reducible refine' we_and ?_
  | with_reducible refine' we_or ?_
  | with_reducible refine' we_not ?_
  | with_reducible refine' wa_nil ?_
  | with_reducible refine' wa_cons ?_
  | (with_reducible refine' we_lst ?_)
  | (with_reducible refine' we_tup ?_)
  | with_reducible refine' we_cb ?_
  | with_reducible refine' we_call0 ?_
  | with_reducible refine' we_sl ?_
  | with_reducible refine' wo_none ?_
  | (with_reducible refine' wo_some ?_)
  | with_reducible refine' wt_test ?_
  | with_reducible refine' wt_B ?_
  | with_reducible refine' wt_and ?_
  | with_reducible refine' wt_or ?_
  | with_reducible refine' wt_not ?_
  | with_reducible refine' wt_yes ?_
  | with_reducible refine' we_chain ?_
  | with_reducible refine' we_chain3 ?_
  | with_reducible refine' we_revT ?_
  | with_reducible refine' we_revL ?_
  | with_reducible refine' we_bm ?_
  | with_reducible refine' we_bm0 ?_
  | with_reducible refine' ws_for ?_
  | with_reducible refine' we_lc ?_
  | with_reducible refine' wi_list ?_
  | with_reducible refine' wi_tup ?_
  | with_reducible refine' wi_T ?_
  | with_reducible refine' wi_rng1 ?_
  | with_reducible refine' wi_rng2 ?_
  | with_reducible refine' wi_rng3 ?_
  | with_reducible refine' wi_enum ?_
  | with_reducible refine' wi_enumT ?_
  | with_reducible refine' wi_zip ?_
  | with_reducible refine' wg_name ?_
  | with_reducible refine' wg_sub ?_
  | with_reducible refine' wgs_nil ?_
  | with_reducible refine' wgs_cons ?_
  | ((with_reducible refine' wg_tup ?ht ?hn ?_); (case ht => walk_at "ist"); (case hn => rfl))
  | with_reducible refine' w2_add ?_
  | with_reducible refine' w2_sub ?_
  | with_reducible refine' w2_lt ?_
  | with_reducible refine' w2_le ?_
  | with_reducible refine' w2_gt ?_
  | with_reducible refine' w2_ge ?_
  | with_reducible refine' w2_eqI ?_
  | with_reducible refine' w2_neI ?_
  | with_reducible refine' w2_eqT ?_
  | with_reducible refine' w2_neT ?_
  | with_reducible refine' w2_eqB ?_
  | with_reducible refine' w2_neB ?_
  | with_reducible refine' w2_isN ?_
  | with_reducible refine' w2_notN ?_
  | with_reducible refine' w2_isB ?_
  | with_reducible refine' w2_inT ?_
  | with_reducible refine' w1_neg ?_
  | with_reducible refine' wl_abs ?_
  | with_reducible refine' wl_max2 ?_
  | with_reducible refine' wl_min2 ?_
  | with_reducible refine' wl_intB ?_
  | ((with_reducible refine' w2_div ?h ?_); case h => first | omega | (constructor <;> omega))
  | ((with_reducible refine' w2_mod ?h ?_); case h => omega)
  | ((with_reducible refine' w2_catT ?h ?_); case h => walk_at "len")
  | ((with_reducible refine' wsl_T ?h ?_); case h => walk_at "len")
  | ((with_reducible refine' wl_lenT ?h ?_); case h => walk_at "len")
  | ((with_reducible refine' wl_len ?h ?_); case h => walk_at "isl")
  | ((with_reducible refine' wl_len ?h ?_); case h => walk_at "isl")
  | ((with_reducible refine' wm_append ?sw ?hl ?_); (case sw => walk_at "swap"); (case hl => walk_at "len")))
local macro_rules | `(tactic| walk_at "b1") => `(tactic| first | with_reducible refine' ws_seq ?_ | walk_at "b0")
local macro_rules | `(tactic| walk_at "bx") => `(tactic| first
  | refine ⟨_, rfl, ?_⟩
  | refine ⟨_, _, rfl, ?_⟩
  | refine ⟨ty_L (by walk_at "isl"), ?_⟩
  | refine ⟨ty_S, ?_⟩
  | refine spl_t (by rfl) ?_
  | refine spl_f (by rfl) ?_
  | exact rfl)
local macro_rules | `(tactic| walk_at "bm") => `(tactic| repeat (first | walk_at "b1" | walk_at "bx"))
local macro_rules | `(tactic| walk_at "bn") => `(tactic| repeat (first | walk_at "b0" | walk_at "bx"))
local macro_rules | `(tactic| walk_at "b0") => `(tactic| with_reducible refine' c_deepens ?_)
local macro_rules | `(tactic| walk_at "b0") => `(tactic| ((with_reducible refine' c_depths_of ?hl ?_); (case hl => walk_at "len")))
local macro_rules | `(tactic| walk_at "b0") => `(tactic| with_reducible refine' c_is_wholeI ?_)
local macro_rules | `(tactic| walk_at "b0") => `(tactic| with_reducible refine' c_flipped ?_)
local macro_rules | `(tactic| walk_at "b0") => `(tactic| ((with_reducible refine' c_is_right_row ?hl ?_); (case hl => walk_at "len")))
local macro_rules | `(tactic| walk_at "b0") => `(tactic| ((with_reducible refine' c_asked_row ?hl ?_); (case hl => walk_at "len")))
local macro_rules | `(tactic| walk_at "b0") => `(tactic| ((with_reducible refine' c_depths ?hl ?_); (case hl => walk_at "len")))
local macro_rules | `(tactic| walk_at "b0") => `(tactic| ((with_reducible refine' c_is_right ?hl ?_); (case hl => walk_at "len")))
local macro_rules | `(tactic| walk_at "b0") => `(tactic| ((with_reducible refine' c__law_depths ?hl ?_); (case hl => walk_at "len")))
local macro_rules | `(tactic| walk_at "b0") => `(tactic| ((with_reducible refine' c__law_good ?hl ?_); (case hl => walk_at "len")))
local macro_rules | `(tactic| walk_at "b0") => `(tactic| ((with_reducible refine' wl_listOf ?hx ?_); (case hx => walk_at "isl")))
local macro_rules | `(tactic| walk_at "b0") => `(tactic| with_reducible refine' w2_notB ?_)
local macro_rules | `(tactic| walk_at "own") => `(tactic| exact own_l (by walk_at "mem"))
local macro_rules | `(tactic| walk_at "b0") => `(tactic| with_reducible refine' we_fld ?_)
local macro_rules | `(tactic| walk_at "b0") => `(tactic| refine ⟨_, _, _, _, _, rfl, own_l (by walk_at "mem"), Grw.cl (by assumption), Grw.nr (by assumption), by rfl, ?_⟩)
local macro_rules | `(tactic| walk_at "b0") => `(tactic| refine ⟨_, _, _, _, _, rfl, fun H' o => o.ex _ _ (by assumption), Grw.cl (by assumption), Grw.nr (by assumption), by rfl, ?_⟩)
theorem body_R {H : Hp} {t : TS} {N : List Str} {vs : List V} {Q : VK} {g : Addr} {o : HO} (ho : H g = some o) (h : WS (del g H) t (start N vs) ⟨[(g, o)], []⟩ { nx := fun _ _ => False, rt := fun _ _ => False }) : t { nx := fun _ H' => Q .non H', rt := Q } (start N vs) H :=
  h H (own_del ho) _ ⟨(fun _ _ _ _ q => q.elim), (fun _ _ _ _ q => q.elim), (fun _ _ _ _ q => q.elim), (fun _ _ _ _ q => q.elim)⟩
theorem cut_m1 {α : Type} {r : List α} : cutL r none (some (-1)) = r.dropLast := by
  unfold cutL
  rw [HT.sIx_none, List.drop_zero, Nat.sub_zero, List.dropLast_eq_take]
  congr 1
  show (if (-1 : Int) < 0 then ((-1 : Int) + (r.length : Int)).toNat else min (-1 : Int).toNat r.length) = r.length - 1
  rw [if_pos (by decide)]
  omega
theorem w2_notInU {K : PySem.W.Frag} {H0 : Hp} {s : Ld} {Q : V → Ld → Prop} {x : V} {p : Addr} {xs : List V} (hx : IsT K H0 s p xs) (h1 : flatV x = true) (h2 : xs.all flatV = true) (q : Q (.bl (!inV x xs)) s) : W2 H0 (rIn K true) x (.ref p) s Q := fun H o R k => ⟨p, xs, rfl, Or.inr (hx H o), h1, h2, k _ H s o q⟩
theorem ln_g_init {K : PySem.W.Frag} {C : CA} {vs : List V} {H : Hp} {Q : VK} {E : XK} (h : sp_g_init K C vs H Q E) : vs.length = 1 := by
  obtain ⟨x, d, _, rfl, _⟩ := h
  rfl
theorem pu_g_init {K : PySem.W.Frag} {C : CA} {vs : List V} {H : Hp} {Q : VK} {E : XK} (h : sp_g_init K C vs H Q E) : rd_g_init K C { nx := fun _ H' => Q .non H', rt := Q } (start N_g_init vs) H := by
  obtain ⟨x, d, hG, rfl, hx, k⟩ := h
  refine body_G hx ?_ k
  unfold rd_g_init
  refine ws_fld ?_
  walk_at "bm"
  exact ⟨x, _, d, [], _, rfl, Swap.here, hG.cl, hG.nr, by decide, rfl, List.mem_cons_self⟩
theorem c_g_init {K : PySem.W.Frag} {C : CA} {H0 : Hp} {s : Ld} {Q : V → Ld → Prop} {E : XK} {x d : Addr} {L' : List (Addr × HO)} (hG : Grw K C) (sw : Swap x (.ins C.c_Growing d []) (gIns C d []) s.L L') (q : Q .non ⟨L', s.T⟩) : WC H0 (sp_g_init K C) E [.ref x] s Q := fun H o R k =>
  ⟨x, d, hG, rfl, (o.own _ sw.mem).2, fun H' e h => k _ _ _ (own_after o sw trivial e h) q⟩
theorem ln_g_put {K : PySem.W.Frag} {C : CA} {vs : List V} {H : Hp} {Q : VK} {E : XK} (h : sp_g_put K C vs H Q E) : vs.length = 2 := by
  obtain ⟨g, d, r, b, _, rfl, _⟩ := h
  rfl
theorem put_row (C : CA) (d : Addr) (r u : List Bool) : HO.ins C.c_Growing d (putF "row" (.str (T u)) [("row", .str (T r))]) = gIns C d u := rfl
theorem pu_g_put {K : PySem.W.Frag} {C : CA} {vs : List V} {H : Hp} {Q : VK} {E : XK} (h : sp_g_put K C vs H Q E) : rd_g_put K C E { nx := fun _ H' => Q .non H', rt := Q } (start N_g_put vs) H := by
  obtain ⟨g, d, r, b, hG, rfl, hg, hl, k1, k2⟩ := h
  have pre : ∀ D : Dl, WS (del g H) (tSeq (tIfS (tTest (tOp aGe (tCB aLenT (tCons (tFld K (tVar 0) "row") tNil)) (tC (.int 40)))) (tRaiseX C.c_TooMany E) tNext)
      (tSeq (sFld K (tVar 0) (tOp aCatT (tFld K (tVar 0) "row") (tVar 1)) "row")
      (tRet (tOp (rIxL K) (tCall (sp_depths_of K C) [] E0 (tCons (tFld K (tVar 0) "row") tNil)) (tUn aNeg (tC (.int 1))))))) [some (.ref g), some (.str (T [b]))] ⟨[(g, gIns C d r)], []⟩ D → WS (del g H) (rd_g_put K C E) (start N_g_put [.ref g, .str (T [b])]) ⟨[(g, gIns C d r)], []⟩ D := by
    intro D h
    unfold rd_g_put
    refine ws_seq ?_
    walk_at "bm"
    refine wl_isi (tv := .type "str") (b := true) (fun H' o => .base (.str _)) (kit_ty (by decide +kernel)) ?_
    walk_at "bm"
    refine ⟨by simp, fun p hp => ?_⟩
    refine w2_notInU (by walk_at "ist") rfl rfl ?_
    walk_at "bm"
    refine spl_f (by cases b <;> decide) ?_
    walk_at "bn"
    exact ws_weak (s0 := ⟨[(g, gIns C d r)], []⟩) (by walk_at "sub") h
  by_cases hlt : r.length < 40
  · refine body_G hg (pre _ ?_) (k1 hlt)
    walk_at "bm"
    refine spl_f (by simp; omega) ?_
    walk_at "bm"
    refine ws_fld ?_
    walk_at "bm"
    refine ⟨g, _, d, _, _, rfl, Swap.here, hG.cl, hG.nr, by show 1 < 1000; decide, ?_⟩
    rw [put_row]
    walk_at "bm"
    intro p hp
    walk_at "bm"
    refine w2_ixL (v := .int (hgt (r ++ [b]))) (by walk_at "isl") (dps_m1 _) ?_
    exact ⟨rfl, List.mem_cons_of_mem _ List.mem_cons_self⟩
  · have h40 : r.length = 40 := by omega
    refine body_R hg (pre _ ?_)
    walk_at "bm"
    refine spl_t (by simp; omega) ?_
    refine ws_raise fun H' w => k2 h40 H' (ex_del hg w.ex (w.own _ List.mem_cons_self).2)
theorem c_g_put {K : PySem.W.Frag} {C : CA} {H0 : Hp} {s : Ld} {Q : V → Ld → Prop} {E : XK} {g d : Addr} {r : List Bool} {b : Bool} {L' : List (Addr × HO)} (hG : Grw K C) (sw : Swap g (gIns C d r) (gIns C d (r ++ [b])) s.L L') (hl : r.length < 40) (q : Q (.int (hgt (r ++ [b]))) ⟨L', s.T⟩) : WC H0 (sp_g_put K C) E [.ref g, .str (T [b])] s Q := fun H o R k =>
  ⟨g, d, r, b, hG, rfl, (o.own _ sw.mem).2, by omega, fun _ H' e h => k _ _ _ (own_after o sw trivial e h) q, fun h => absurd h (by omega)⟩
theorem ln_g_take {K : PySem.W.Frag} {C : CA} {vs : List V} {H : Hp} {Q : VK} {E : XK} (h : sp_g_take K C vs H Q E) : vs.length = 1 := by
  obtain ⟨g, d, r, _, rfl, _⟩ := h
  rfl
theorem pu_g_take {K : PySem.W.Frag} {C : CA} {vs : List V} {H : Hp} {Q : VK} {E : XK} (h : sp_g_take K C vs H Q E) : rd_g_take K C E { nx := fun _ H' => Q .non H', rt := Q } (start N_g_take vs) H := by
  obtain ⟨g, d, r, hG, rfl, hg, hl, k1, k2⟩ := h
  by_cases hne : r = []
  · subst hne
    refine body_R hg ?_
    unfold rd_g_take
    walk_at "bm"
    refine ws_raise fun H' w => k2 rfl H' (ex_del hg w.ex (w.own _ List.mem_cons_self).2)
  · obtain ⟨u, b, rfl⟩ : ∃ u b, r = u ++ [b] := ⟨_, _, (List.dropLast_concat_getLast hne).symm⟩
    refine body_G hg ?_ (k1 u b rfl)
    unfold rd_g_take
    walk_at "bm"
    refine spl_f (by simp) ?_
    walk_at "bm"
    refine w2_ixT (b := b) (by omega) (atI_m1 (by simp)) ?_
    walk_at "bm"
    refine ws_fld ?_
    walk_at "bm"
    rw [cut_m1]
    refine ⟨g, _, d, _, _, rfl, Swap.here, hG.cl, hG.nr, by show 1 < 1000; decide, ?_⟩
    rw [put_row, List.dropLast_concat]
    walk_at "bm"
    exact ⟨rfl, List.mem_cons_self⟩
theorem c_g_take {K : PySem.W.Frag} {C : CA} {H0 : Hp} {s : Ld} {Q : V → Ld → Prop} {E : XK} {g d : Addr} {r : List Bool} {b : Bool} {L' : List (Addr × HO)} (hG : Grw K C) (sw : Swap g (gIns C d (r ++ [b])) (gIns C d r) s.L L') (hl : (r ++ [b]).length ≤ 40) (q : Q (.str (T [b])) ⟨L', s.T⟩) : WC H0 (sp_g_take K C) E [.ref g] s Q := fun H o R k =>
  ⟨g, d, _, hG, rfl, (o.own _ sw.mem).2, hl, fun u c h H' e h2 => by
    obtain ⟨rfl, h4⟩ := List.append_inj' h rfl
    cases h4
    exact k _ _ _ (own_after o sw trivial e h2) q, fun h => absurd h (by simp)⟩
theorem ln_g_text {K : PySem.W.Frag} {C : CA} {vs : List V} {H : Hp} {Q : VK} {E : XK} (h : sp_g_text K C vs H Q E) : vs.length = 1 := by
  obtain ⟨_, ⟨g, d, r, _, rfl, _⟩, _⟩ := h
  rfl
theorem pu_g_text {K : PySem.W.Frag} {C : CA} {vs : List V} {H : Hp} {Q : VK} {E : XK} (h : sp_g_text K C vs H Q E) : rd_g_text K C { nx := fun _ H' => Q .non H', rt := Q } (start N_g_text vs) H := by
  obtain ⟨_, ⟨g, d, r, hG, rfl, hg, rfl⟩, k⟩ := h
  refine body_V ?_ k
  unfold rd_g_text
  walk_at "bm"
theorem c_g_text {K : PySem.W.Frag} {C : CA} {H0 : Hp} {s : Ld} {Q : V → Ld → Prop} {E : XK} {g d : Addr} {r : List Bool} (hG : Grw K C) (hg : ∀ H, Own H0 H s → H g = some (gIns C d r)) (q : Q (.str (T r)) s) : WC H0 (sp_g_text K C) E [.ref g] s Q := wc_V (fun H o => ⟨g, d, r, hG, rfl, hg H o, rfl⟩) q
theorem ln_g_lacks {K : PySem.W.Frag} {C : CA} {vs : List V} {H : Hp} {Q : VK} {E : XK} (h : sp_g_lacks K C vs H Q E) : vs.length = 1 := by
  obtain ⟨_, ⟨g, d, r, _, rfl, _⟩, _⟩ := h
  rfl
theorem pu_g_lacks {K : PySem.W.Frag} {C : CA} {vs : List V} {H : Hp} {Q : VK} {E : XK} (h : sp_g_lacks K C vs H Q E) : rd_g_lacks K C { nx := fun _ H' => Q .non H', rt := Q } (start N_g_lacks vs) H := by
  obtain ⟨_, ⟨g, d, r, hG, rfl, hg, hl, rfl⟩, k⟩ := h
  refine body_U ?_ k
  unfold rd_g_lacks
  walk_at "bm"
  intro f hf
  walk_at "bm"
  refine wl_min (by walk_at "isl") (by rw [dps_len]; omega) fun m h1 h2 => ?_
  have hm := lk_min h1 h2
  walk_at "bm"
  refine w2_ixL (v := .int (hgt r)) (by walk_at "isl") (dps_m1 _) ?_
  walk_at "bm"
  refine wl_min (by walk_at "isl") (by rw [dps_len]; omega) fun m2 h3 h4 => ?_
  have hm2 := lk_min h3 h4
  walk_at "bm"
  refine ⟨by simp, fun p hp => ⟨p, rfl, ?_⟩⟩
  rw [hm, hm2, ← lk_left, Int.neg_neg]
  exact List.mem_cons_self
theorem c_g_lacks {K : PySem.W.Frag} {C : CA} {H0 : Hp} {s : Ld} {Q : V → Ld → Prop} {E : XK} {g d : Addr} {r : List Bool} (hG : Grw K C) (hg : ∀ H, Own H0 H s → H g = some (gIns C d r)) (hl : r.length ≤ 40) (q : ∀ p, Q (.ref p) ⟨s.L, (p, pairV (lk r)) :: s.T⟩) : WC H0 (sp_g_lacks K C) E [.ref g] s Q := wc_U (fun H o => ⟨g, d, r, hG, rfl, hg H o, hl, rfl⟩) q
end BM
namespace BM
open PySem L2 Evl
local macro_rules | `(tactic| walk_at "mem") => `(tactic| first | exact List.mem_cons_self | (refine List.mem_cons_of_mem _ ?_; walk_at "mem"))
local macro_rules | `(tactic| walk_at "swap") => `(tactic| first | exact Swap.here | (apply Swap.there; walk_at "swap"))
local macro_rules | `(tactic| walk_at "subl") => `(tactic| first | exact List.Sublist.refl _ | exact List.nil_sublist _ | (refine List.Sublist.cons_cons _ ?_; walk_at "subl") | (refine List.Sublist.cons _ ?_; walk_at "subl"))
local macro_rules | `(tactic| walk_at "sub") => `(tactic| first | exact Sub.refl _ | (refine ⟨?_, ?_⟩ <;> walk_at "subl"))
local macro_rules | `(tactic| walk_at "isl") => `(tactic| first | exact isL_own (by walk_at "mem") | exact isL_old (by assumption) | assumption)
local macro_rules | `(tactic| walk_at "ist") => `(tactic| first | exact isT_own (by walk_at "mem") | exact isT_old (by assumption) | assumption)
local macro_rules | `(tactic| walk_at "len") => `(tactic| first | omega | decide | (simp only [List.length_map, List.length_take, List.length_drop, List.length_append, List.length_cons, List.length_nil, List.length_reverse, dps_len, flp_len]; omega) | (simp [dps_len, flp_len]; omega) | simp)
local macro_rules | `(tactic| walk_at "b0") => `(tactic| first
  | with_reducible refine' ws_set ?_
  | with_reducible refine' ws_par ?_
  | with_reducible refine' ws_asg ?_
  | with_reducible refine' ws_drop ?_
  | with_reducible refine' ws_ret ?_
  | with_reducible refine' ws_if ?_
  | with_reducible refine' ws_next ?_
  | with_reducible refine' ws_brk ?_
  | with_reducible refine' ws_cont ?_
  | ((with_reducible refine' we_var ?hv ?_); case hv => rfl)
  | with_reducible refine' we_c ?_
  | with_reducible refine' we_op ?_
  | with_reducible refine' we_un ?_
  | with_reducible refine' we_if ?_
  | with_reducible refine' we_and ?_
  | with_reducible refine' we_or ?_
  | with_reducible refine' we_not ?_
  | with_reducible refine' wa_nil ?_
  | with_reducible refine' wa_cons ?_
  | (with_reducible refine' we_lst ?_)
  | (with_reducible refine' we_tup ?_)
  | with_reducible refine' we_cb ?_
  | with_reducible refine' we_call0 ?_
  | with_reducible refine' we_sl ?_
  | with_reducible refine' wo_none ?_
  | (with_reducible refine' wo_some ?_)
  | with_reducible refine' wt_test ?_
  | with_reducible refine' wt_B ?_
  | with_reducible refine' wt_and ?_
  | with_reducible refine' wt_or ?_
  | with_reducible refine' wt_not ?_
  | with_reducible refine' wt_yes ?_
  | with_reducible refine' we_chain ?_
  | with_reducible refine' we_chain3 ?_
  | with_reducible refine' we_revT ?_
  | with_reducible refine' we_revL ?_
  | with_reducible refine' we_bm ?_
  | with_reducible refine' we_bm0 ?_
  | with_reducible refine' ws_for ?_
  | with_reducible refine' we_lc ?_
  | with_reducible refine' wi_list ?_
  | with_reducible refine' wi_tup ?_
  | with_reducible refine' wi_T ?_
  | with_reducible refine' wi_rng1 ?_
  | with_reducible refine' wi_rng2 ?_
  | with_reducible refine' wi_rng3 ?_
  | with_reducible refine' wi_enum ?_
  | with_reducible refine' wi_enumT ?_
  | with_reducible refine' wi_zip ?_
  | with_reducible refine' wg_name ?_
  | with_reducible refine' wg_sub ?_
  | with_reducible refine' wgs_nil ?_
  | with_reducible refine' wgs_cons ?_
  | ((with_reducible refine' wg_tup ?ht ?hn ?_); (case ht => walk_at "ist"); (case hn => rfl))
  | with_reducible refine' w2_add ?_
  | with_reducible refine' w2_sub ?_
  | with_reducible refine' w2_lt ?_
  | with_reducible refine' w2_le ?_
  | with_reducible refine' w2_gt ?_
  | with_reducible refine' w2_ge ?_
  | with_reducible refine' w2_eqI ?_
  | with_reducible refine' w2_neI ?_
  | with_reducible refine' w2_eqT ?_
  | with_reducible refine' w2_neT ?_
  | with_reducible refine' w2_eqB ?_
  | with_reducible refine' w2_neB ?_
  | with_reducible refine' w2_isN ?_
  | with_reducible refine' w2_notN ?_
  | with_reducible refine' w2_isB ?_
  | with_reducible refine' w2_inT ?_
  | with_reducible refine' w1_neg ?_
  | with_reducible refine' wl_abs ?_
  | with_reducible refine' wl_max2 ?_
  | with_reducible refine' wl_min2 ?_
  | with_reducible refine' wl_intB ?_
  | ((with_reducible refine' w2_div ?h ?_); case h => first | omega | (constructor <;> omega))
  | ((with_reducible refine' w2_mod ?h ?_); case h => omega)
  | ((with_reducible refine' w2_catT ?h ?_); case h => walk_at "len")
  | ((with_reducible refine' wsl_T ?h ?_); case h => walk_at "len")
  | ((with_reducible refine' wl_lenT ?h ?_); case h => walk_at "len")
  | ((with_reducible refine' wl_len ?h ?_); case h => walk_at "isl")
  | ((with_reducible refine' wl_len ?h ?_); case h => walk_at "isl")
  | ((with_reducible refine' wm_append ?sw ?hl ?_); (case sw => walk_at "swap"); (case hl => walk_at "len")))
local macro_rules | `(tactic| walk_at "b1") => `(tactic| first | with_reducible refine' ws_seq ?_ | walk_at "b0")
local macro_rules | `(tactic| walk_at "bx") => `(tactic| first
  | refine ⟨_, rfl, ?_⟩
  | refine ⟨_, _, rfl, ?_⟩
  | refine ⟨ty_L (by walk_at "isl"), ?_⟩
  | refine ⟨ty_S, ?_⟩
  | refine spl_t (by rfl) ?_
  | refine spl_f (by rfl) ?_
  | exact rfl)
local macro_rules | `(tactic| walk_at "bm") => `(tactic| repeat (first | walk_at "b1" | walk_at "bx"))
local macro_rules | `(tactic| walk_at "bn") => `(tactic| repeat (first | walk_at "b0" | walk_at "bx"))
local macro_rules | `(tactic| walk_at "b0") => `(tactic| with_reducible refine' c_deepens ?_)
local macro_rules | `(tactic| walk_at "b0") => `(tactic| ((with_reducible refine' c_depths_of ?hl ?_); (case hl => walk_at "len")))
local macro_rules | `(tactic| walk_at "b0") => `(tactic| with_reducible refine' c_is_wholeI ?_)
local macro_rules | `(tactic| walk_at "b0") => `(tactic| with_reducible refine' c_flipped ?_)
local macro_rules | `(tactic| walk_at "b0") => `(tactic| ((with_reducible refine' c_is_right_row ?hl ?_); (case hl => walk_at "len")))
local macro_rules | `(tactic| walk_at "b0") => `(tactic| ((with_reducible refine' c_asked_row ?hl ?_); (case hl => walk_at "len")))
local macro_rules | `(tactic| walk_at "b0") => `(tactic| ((with_reducible refine' c_depths ?hl ?_); (case hl => walk_at "len")))
local macro_rules | `(tactic| walk_at "b0") => `(tactic| ((with_reducible refine' c_is_right ?hl ?_); (case hl => walk_at "len")))
local macro_rules | `(tactic| walk_at "b0") => `(tactic| ((with_reducible refine' c__law_depths ?hl ?_); (case hl => walk_at "len")))
local macro_rules | `(tactic| walk_at "b0") => `(tactic| ((with_reducible refine' c__law_good ?hl ?_); (case hl => walk_at "len")))
local macro_rules | `(tactic| walk_at "b0") => `(tactic| ((with_reducible refine' wl_listOf ?hx ?_); (case hx => walk_at "isl")))
local macro_rules | `(tactic| walk_at "b0") => `(tactic| with_reducible refine' w2_notB ?_)
local macro_rules | `(tactic| walk_at "own") => `(tactic| exact own_l (by walk_at "mem"))
local macro_rules | `(tactic| walk_at "b0") => `(tactic| with_reducible refine' we_fld ?_)
local macro_rules | `(tactic| walk_at "b0") => `(tactic| refine ⟨_, _, _, _, _, rfl, own_l (by walk_at "mem"), Grw.cl (by assumption), Grw.nr (by assumption), by rfl, ?_⟩)
local macro_rules | `(tactic| walk_at "b0") => `(tactic| refine ⟨_, _, _, _, _, rfl, fun H' o => o.ex _ _ (by assumption), Grw.cl (by assumption), Grw.nr (by assumption), by rfl, ?_⟩)
theorem rgC2 {i j : Int} (h1 : -1000 ≤ i ∧ i ≤ 1000) (h2 : -1000 ≤ j ∧ j ≤ 1000) : RgC i j 2 (if i < j then (j - i - 1) / 2 + 1 else 0).toNat := by
  have e : Builtin.Range.rangeSize i j 2 = if i < j then (j - i - 1) / 2 + 1 else 0 := by
    unfold Builtin.Range.rangeSize
    rw [if_pos (by decide)]
  have e2 : Builtin.Range.rangeSize i j 2 = (((if i < j then (j - i - 1) / 2 + 1 else 0).toNat : Nat) : Int) := by
    rw [e]
    split <;> omega
  refine ⟨by decide, by decide, ?_, e2⟩
  unfold Builtin.Range.small
  rw [e]
  simp only [Builtin.Range.rangeFitsLong, Bool.and_eq_true, Bool.or_eq_true, decide_eq_true_eq, beq_iff_eq, show ((2 : Int) > 0) by decide, if_true]
  split <;> omega
theorem lp_rngC {H0 : Hp} {σ : L2.St} {s : Ld} {D : Dl} {t1 : TS} {g : TG} {lo c : Int} {m : Nat} (I : Nat → L2.St → Ld → Prop) (h0 : I 0 σ s)
    (hs : ∀ i σ s, i < m → I i σ s → WG H0 g (.int (lo + (i : Int) * c)) σ s fun σ2 s2 => WS H0 t1 σ2 s2 (turnD D (I (i + 1)))) (hd : ∀ σ s, I m σ s → D.nx σ s) : LoopOk H0 (Itc lo c m) g t1 σ s D :=
  ⟨m, _, _, walk_rangeC, I, h0, fun i σ s H hi q o => trivial, fun i x σ s H H' hi q o ⟨e, ex⟩ => ⟨s, by rw [e]; exact o, by rw [ex]; exact hs i σ s hi q⟩, hd⟩
theorem pairV_0 (p : Int × Int) : atI (pairV p) 0 = some (.int p.1) := rfl
theorem pairV_1 (p : Int × Int) : atI (pairV p) 1 = some (.int p.2) := rfl
theorem ln_g_longest {K : PySem.W.Frag} {C : CA} {vs : List V} {H : Hp} {Q : VK} {E : XK} (h : sp_g_longest K C vs H Q E) : vs.length = 1 := by
  obtain ⟨_, ⟨g, d, r, _, rfl, _⟩, _⟩ := h
  rfl
theorem pu_g_longest {K : PySem.W.Frag} {C : CA} {vs : List V} {H : Hp} {Q : VK} {E : XK} (h : sp_g_longest K C vs H Q E) : rd_g_longest K C { nx := fun _ H' => Q .non H', rt := Q } (start N_g_longest vs) H := by
  obtain ⟨_, ⟨g, d, r, hG, rfl, hg, hl, rfl⟩, k⟩ := h
  refine body_U ?_ k
  unfold rd_g_longest
  walk_at "bm"
  refine ⟨by simp, fun t0 ht0 => ?_⟩
  walk_at "bm"
  refine ⟨by omega, ?_⟩
  refine lp_rng (fun i σ s => ∃ t x2 x3, σ = [some (.ref g), some (.ref t), x2, x3] ∧ s = ⟨[], [(t, pairV (outL r i))]⟩) ⟨t0, none, none, rfl, rfl⟩ ?_ ?_
  · rintro f σ s hf ⟨t, x2, x3, rfl, rfl⟩
    have hf' : f < r.length := by omega
    refine wg_name ?_
    walk_at "bm"
    refine ⟨_, _, _, _, rfl, rgC2 (by omega) (by omega), ?_⟩
    rw [show ((0 : Int) + (f : Int)) = (f : Int) by omega]
    refine lp_rngC (fun i σ s => ∃ t x3, σ = [some (.ref g), some (.ref t), some (.int (f : Int)), x3] ∧ s = ⟨[], [(t, pairV (inn r f (outL r f) (2 * i + 1)))]⟩) ⟨t, x3, rfl, by rw [inn_odd]; rfl⟩ ?_ ?_
    · rintro i σ s hi ⟨t, x3, rfl, rfl⟩
      have hi' : 2 * i + 2 + f ≤ r.length := by split at hi <;> omega
      obtain ⟨best, hb⟩ : ∃ best, inn r f (outL r f) (2 * i + 1) = best := ⟨_, rfl⟩
      have hnext : inn r f (outL r f) (2 * (i + 1) + 1) = stp r f best (f + (2 * i + 2)) := by
        rw [inn_odd, ← hb]
        rfl
      rw [hb]
      refine wg_name ?_
      have e3 : ((f : Int) + 2 + (i : Int) * 2) = ((f + (2 * i + 2) : Nat) : Int) := by omega
      rw [e3]
      walk_at "bm"
      refine w2_ixU (by walk_at "ist") (pairV_1 _) ?_
      walk_at "bm"
      refine w2_ixU (by walk_at "ist") (pairV_0 _) ?_
      walk_at "bm"
      refine ⟨fun h1 => ?_, fun h1 => ?_⟩
      · have h1' := of_decide_eq_true h1
        walk_at "bm"
        rw [cut_both (by omega) (by omega) (by omega), Int.toNat_natCast, Int.toNat_natCast]
        walk_at "bm"
        refine ⟨fun h2 => ?_, fun h2 => ?_⟩
        · walk_at "bm"
          refine ⟨by simp, fun t2 ht2 => ?_⟩
          refine ⟨⟨[], [(t2, pairV ((f : Int), ((f + (2 * i + 2) : Nat) : Int)))]⟩, by walk_at "sub", t2, _, rfl, ?_⟩
          rw [hnext]
          unfold stp
          rw [if_pos ⟨by omega, h2, h1'⟩]
        · walk_at "bm"
          refine ⟨_, Sub.refl _, t, _, rfl, ?_⟩
          rw [hnext]
          unfold stp
          rw [if_neg (fun h => by rw [h2] at h; exact absurd h.2.1 (by decide))]
      · have h1' := of_decide_eq_false h1
        walk_at "bm"
        refine ⟨_, Sub.refl _, t, _, rfl, ?_⟩
        rw [hnext]
        unfold stp
        rw [if_neg (fun h => h1' h.2.2)]
    · rintro σ s ⟨t, x3, rfl, rfl⟩
      refine ⟨_, Sub.refl _, t, _, _, rfl, ?_⟩
      show _ = (⟨[], [(t, pairV (inn r f (outL r f) (r.length - f)))]⟩ : Ld)
      rw [inn_stop (n := r.length - f) (by split <;> omega) (by omega)]
  · rintro σ s ⟨t, x2, x3, rfl, rfl⟩
    walk_at "bm"
    rw [show ((r.length : Int)).toNat = r.length by omega]
    exact List.mem_cons_self
theorem c_g_longest {K : PySem.W.Frag} {C : CA} {H0 : Hp} {s : Ld} {Q : V → Ld → Prop} {E : XK} {g d : Addr} {r : List Bool} (hG : Grw K C) (hg : ∀ H, Own H0 H s → H g = some (gIns C d r)) (hl : r.length ≤ 40) (q : ∀ p, Q (.ref p) ⟨s.L, (p, pairV (lng r)) :: s.T⟩) : WC H0 (sp_g_longest K C) E [.ref g] s Q := wc_U (fun H o => ⟨g, d, r, hG, rfl, hg H o, hl, rfl⟩) q
theorem ln__law_lacks07 {K : PySem.W.Frag} {C : CA} {vs : List V} {H : Hp} {Q : VK} {E : XK} (h : sp__law_lacks07 K C vs H Q E) : vs.length = 1 := by
  obtain ⟨_, ⟨r, rfl, _⟩, _⟩ := h
  rfl
theorem pu__law_lacks07 {K : PySem.W.Frag} {C : CA} {vs : List V} {H : Hp} {Q : VK} {E : XK} (h : sp__law_lacks07 K C vs H Q E) : rd__law_lacks07 K C { nx := fun _ H' => Q .non H', rt := Q } (start N__law_lacks07 vs) H := by
  obtain ⟨_, ⟨r, rfl, hl, rfl⟩, k⟩ := h
  refine body_U ?_ k
  unfold rd__law_lacks07
  refine ws_cut (fun σ s => σ = [some (.str (T r)), none, some (.int 0), some (.int 0)] ∧ s = ⟨[], []⟩) ?_ ?_
  · walk_at "bm"
    refine ⟨by simp, fun t ht => ?_⟩
    refine wg_tup (by walk_at "ist") rfl ?_
    walk_at "bm"
    exact ⟨_, by walk_at "sub", rfl, rfl⟩
  rintro σ s ⟨rfl, rfl⟩
  walk_at "bm"
  refine lp_T (fun i σ s => ∃ x1, σ = [some (.str (T r)), x1, some (.int (lk (r.take i)).1), some (.int (lk (r.take i)).2)] ∧ s = ⟨[], []⟩) rfl ⟨none, rfl, rfl⟩ ?_ ?_
  · rintro i b σ s hi hb ⟨x1, rfl, rfl⟩
    rw [take_snoc hb, lk_snoc]
    obtain ⟨⟨p, q⟩, hp⟩ : ∃ p, lk (r.take i) = p := ⟨_, rfl⟩
    rw [hp]
    refine wg_name ?_
    cases b with
    | true =>
      walk_at "bm"
      exact ⟨_, Sub.refl _, _, rfl, rfl⟩
    | false =>
      walk_at "bm"
      refine ⟨fun h => ?_, fun h => ?_⟩
      · have h' : q > 0 := of_decide_eq_true h
        walk_at "bm"
        refine ⟨_, Sub.refl _, some (.str (T [false])), ?_, rfl⟩
        unfold lkS
        simp only [Bool.false_eq_true, if_false, h', if_true]
        rfl
      · have h' : ¬ q > 0 := of_decide_eq_false h
        walk_at "bm"
        refine ⟨_, Sub.refl _, some (.str (T [false])), ?_, rfl⟩
        unfold lkS
        simp only [Bool.false_eq_true, if_false, h']
        rfl
  · rintro σ s ⟨x1, rfl, rfl⟩
    rw [List.take_length]
    walk_at "bm"
    refine ⟨by simp, fun p hp => ⟨p, rfl, List.mem_cons_self⟩⟩
theorem c__law_lacks07 {K : PySem.W.Frag} {C : CA} {H0 : Hp} {s : Ld} {Q : V → Ld → Prop} {E : XK} {r : List Bool} (hl : r.length ≤ 40) (q : ∀ p, Q (.ref p) ⟨s.L, (p, pairV (lk r)) :: s.T⟩) : WC H0 (sp__law_lacks07 K C) E [.str (T r)] s Q := wc_U (fun H o => ⟨r, rfl, hl, rfl⟩) q
theorem ln__law_longest07 {K : PySem.W.Frag} {C : CA} {vs : List V} {H : Hp} {Q : VK} {E : XK} (h : sp__law_longest07 K C vs H Q E) : vs.length = 1 := by
  obtain ⟨_, ⟨r, rfl, _⟩, _⟩ := h
  rfl
theorem pu__law_longest07 {K : PySem.W.Frag} {C : CA} {vs : List V} {H : Hp} {Q : VK} {E : XK} (h : sp__law_longest07 K C vs H Q E) : rd__law_longest07 K C { nx := fun _ H' => Q .non H', rt := Q } (start N__law_longest07 vs) H := by
  obtain ⟨_, ⟨r, rfl, hl, rfl⟩, k⟩ := h
  refine body_U ?_ k
  unfold rd__law_longest07
  walk_at "bm"
  refine ⟨by simp, fun t0 ht0 => ?_⟩
  walk_at "bm"
  refine ⟨by omega, ?_⟩
  refine lp_rng (fun i σ s => ∃ t x2 x3 x4, σ = [some (.str (T r)), some (.ref t), x2, x3, x4] ∧ s = ⟨[], [(t, pairV (outL r i))]⟩) ⟨t0, none, none, none, rfl, rfl⟩ ?_ ?_
  · rintro f σ s hf ⟨t, x2, x3, x4, rfl, rfl⟩
    have hf' : f < r.length := by omega
    refine wg_name ?_
    rw [show ((0 : Int) + (f : Int)) = (f : Int) by omega]
    walk_at "bm"
    refine ⟨by omega, ?_⟩
    refine lp_rng (fun i σ s => ∃ t x4, σ = [some (.str (T r)), some (.ref t), some (.int (f : Int)), some (.int (hgt ((r.drop f).take i))), x4] ∧ s = ⟨[], [(t, pairV (inn r f (outL r f) i))]⟩ ∧ ∀ j, j ≤ i → 0 ≤ hgt ((r.drop f).take j)) ⟨t, x4, rfl, rfl, fun j hj => by rw [Nat.le_zero.mp hj]; exact Int.le_refl 0⟩ ?_ ?_
    · rintro i σ s hi ⟨t, x4, rfl, rfl, hn⟩
      have hi' : f + i < r.length := by omega
      obtain ⟨best, hb⟩ : ∃ best, inn r f (outL r f) i = best := ⟨_, rfl⟩
      obtain ⟨c, hc⟩ := get_some (r := r) (i := f + i) hi'
      have hcd : (r.drop f)[i]? = some c := by rw [List.getElem?_drop]; exact hc
      have hd : hgt ((r.drop f).take (i + 1)) = hgt ((r.drop f).take i) + sg c := by rw [take_snoc hcd, hgt_app]; simp [hgt]
      have hnext : inn r f (outL r f) (i + 1) = stp r f best (f + (i + 1)) := by rw [← hb]; rfl
      rw [hb]
      refine wg_name ?_
      rw [show ((f : Int) + (i : Int)) = ((f + i : Nat) : Int) by omega]
      walk_at "bm"
      refine w2_ixT (b := c) (by omega) (atI_of (by omega) (by rw [Int.toNat_natCast]; exact hc)) ?_
      walk_at "bn"
      have go : ∀ z : Int, z = hgt ((r.drop f).take (i + 1)) → ∀ D : Dl, (D = turnD { (retU (pairV (lng r))) with nx := fun σ' s' => ∃ s0, Sub s0 s' ∧ ∃ t x2 x3 x4, σ' = [some (.str (T r)), some (.ref t), x2, x3, x4] ∧ s0 = ⟨[], [(t, pairV (outL r (f + 1)))]⟩ } (fun σ s => ∃ t x4, σ = [some (.str (T r)), some (.ref t), some (.int (f : Int)), some (.int (hgt ((r.drop f).take (i + 1)))), x4] ∧ s = ⟨[], [(t, pairV (inn r f (outL r f) (i + 1)))]⟩ ∧ ∀ j, j ≤ i + 1 → 0 ≤ hgt ((r.drop f).take j))) → WS H (tSeq (tIfS (tTest (tOp aLt (tVar 3) (tC (.int 0)))) tBreak tNext)
          (tIfS (tAnd (tTest (tOp rEq (tVar 3) (tC (.int 0)))) (tTest (tOp aGt (tOp aSub (tOp aAdd (tVar 4) (tC (.int 1))) (tVar 2)) (tOp aSub (tOp (rIxT K) (tVar 1) (tC (.int 1))) (tOp (rIxT K) (tVar 1) (tC (.int 0))))))) (tAsg (tTup (tCons (tVar 2) (tCons (tOp aAdd (tVar 4) (tC (.int 1))) tNil))) (gName 1)) tNext))
          [some (.str (T r)), some (.ref t), some (.int (f : Int)), some (.int z), some (.int ((f + i : Nat) : Int))] ⟨[], [(t, pairV best)]⟩ D := by
        rintro z rfl D rfl
        walk_at "bm"
        refine ⟨fun h => ?_, fun h => ?_⟩
        · have h' := of_decide_eq_true h
          walk_at "bm"
          refine ⟨_, Sub.refl _, t, _, _, _, rfl, ?_⟩
          show _ = (⟨[], [(t, pairV (inn r f (outL r f) (r.length - f)))]⟩ : Ld)
          rw [inn_low h' (show i ≤ r.length - f by omega), hb]
        · have h' := of_decide_eq_false h
          have hn2 : ∀ j, j ≤ i + 1 → 0 ≤ hgt ((r.drop f).take j) := fun j hj => by
            rcases Nat.lt_or_ge j (i + 1) with h1 | h1
            · exact hn j (by omega)
            · rw [show j = i + 1 by omega]
              omega
          have hr : isR ((r.drop f).take (f + (i + 1) - f)) = decide (hgt ((r.drop f).take (i + 1)) = 0) := by
            rw [show f + (i + 1) - f = i + 1 by omega]
            exact isR_take (by rw [List.length_drop]; omega) hn2
          walk_at "bm"
          refine ⟨fun h2 => ?_, fun h2 => ?_⟩
          · walk_at "bm"
            refine w2_ixU (by walk_at "ist") (pairV_1 _) ?_
            walk_at "bm"
            refine w2_ixU (by walk_at "ist") (pairV_0 _) ?_
            walk_at "bm"
            refine ⟨fun h3 => ?_, fun h3 => ?_⟩
            · have h3' := of_decide_eq_true h3
              walk_at "bm"
              refine ⟨by simp, fun t2 ht2 => ?_⟩
              refine ⟨⟨[], [(t2, [.int (f : Int), .int (((f + i : Nat) : Int) + 1)])]⟩, by walk_at "sub", t2, _, rfl, ?_, hn2⟩
              rw [hnext]
              unfold stp
              rw [if_pos ⟨by omega, by rw [hr]; simpa using h2, by omega⟩]
              rfl
            · have h3' := of_decide_eq_false h3
              walk_at "bm"
              refine ⟨_, Sub.refl _, t, _, rfl, ?_, hn2⟩
              rw [hnext]
              unfold stp
              rw [if_neg (fun h => h3' (by have := h.2.2; omega))]
          · walk_at "bm"
            refine ⟨_, Sub.refl _, t, _, rfl, ?_, hn2⟩
            rw [hnext]
            unfold stp
            rw [if_neg (fun h => by
              have := h.2.1
              rw [hr] at this
              simp at h2 this
              exact h2 this)]
      cases c
      · refine spl_f (by decide) ?_
        walk_at "bn"
        exact go (hgt ((r.drop f).take i) + -1) (by rw [hd]; rfl) _ rfl
      · refine spl_t (by decide) ?_
        walk_at "bn"
        exact go (hgt ((r.drop f).take i) + 1) (by rw [hd]; rfl) _ rfl
    · rintro σ s ⟨t, x4, rfl, rfl, hn⟩
      refine ⟨_, Sub.refl _, t, _, _, _, rfl, ?_⟩
      show _ = (⟨[], [(t, pairV (inn r f (outL r f) (r.length - f)))]⟩ : Ld)
      rw [show ((r.length : Int) - (f : Int)).toNat = r.length - f by omega]
  · rintro σ s ⟨t, x2, x3, x4, rfl, rfl⟩
    walk_at "bm"
    rw [show ((r.length : Int)).toNat = r.length by omega]
    exact List.mem_cons_self
theorem c__law_longest07 {K : PySem.W.Frag} {C : CA} {H0 : Hp} {s : Ld} {Q : V → Ld → Prop} {E : XK} {r : List Bool} (hl : r.length ≤ 40) (q : ∀ p, Q (.ref p) ⟨s.L, (p, pairV (lng r)) :: s.T⟩) : WC H0 (sp__law_longest07 K C) E [.str (T r)] s Q := wc_U (fun H o => ⟨r, rfl, hl, rfl⟩) q
end BM
namespace BM
open PySem L2 Evl
local macro_rules | `(tactic| walk_at "mem") => `(tactic| first | exact List.mem_cons_self | (refine List.mem_cons_of_mem _ ?_; walk_at "mem"))
local macro_rules | `(tactic| walk_at "swap") => `(tactic| first | exact Swap.here | (apply Swap.there; walk_at "swap"))
local macro_rules | `(tactic| walk_at "subl") => `(tactic| first | exact List.Sublist.refl _ | exact List.nil_sublist _ | (refine List.Sublist.cons_cons _ ?_; walk_at "subl") | (refine List.Sublist.cons _ ?_; walk_at "subl"))
local macro_rules | `(tactic| walk_at "sub") => `(tactic| first | exact Sub.refl _ | (refine ⟨?_, ?_⟩ <;> walk_at "subl"))
local macro_rules | `(tactic| walk_at "isl") => `(tactic| first | exact isL_own (by walk_at "mem") | exact isL_old (by assumption) | assumption)
local macro_rules | `(tactic| walk_at "ist") => `(tactic| first | exact isT_own (by walk_at "mem") | exact isT_old (by assumption) | assumption)
local macro_rules | `(tactic| walk_at "len") => `(tactic| first | omega | decide | (simp only [List.length_map, List.length_take, List.length_drop, List.length_append, List.length_cons, List.length_nil, List.length_reverse, dps_len, flp_len]; omega) | (simp [dps_len, flp_len]; omega) | simp)
local macro_rules | `(tactic| walk_at "b0") => `(tactic| first
  | with_reducible refine' ws_set ?_
  | with_reducible refine' ws_par ?_
  | with_reducible refine' ws_asg ?_
  | with_reducible refine' ws_drop ?_
  | with_reducible refine' ws_ret ?_
  | with_reducible refine' ws_if ?_
  | with_reducible refine' ws_next ?_
  | with_reducible refine' ws_brk ?_
  | with_reducible refine' ws_cont ?_
  | ((with_reducible refine' we_var ?hv ?_); case hv => rfl)
  | with_reducible refine' we_c ?_
  | with_reducible refine' we_op ?_
  | with_reducible refine' we_un ?_
  | with_reducible refine' we_if ?_
  | with_reducible refine' we_and ?_
  | with_reducible refine' we_or ?_
  | with_reducible refine' we_not ?_
  | with_reducible refine' wa_nil ?_
  | with_reducible refine' wa_cons ?_
  | (with_reducible refine' we_lst ?_)
  | (with_reducible refine' we_tup ?_)
  | with_reducible refine' we_cb ?_
  | with_reducible refine' we_call0 ?_
  | with_reducible refine' we_sl ?_
  | with_reducible refine' wo_none ?_
  | (with_reducible refine' wo_some ?_)
  | with_reducible refine' wt_test ?_
  | with_reducible refine' wt_B ?_
  | with_reducible refine' wt_and ?_
  | with_reducible refine' wt_or ?_
  | with_reducible refine' wt_not ?_
  | with_reducible refine' wt_yes ?_
  | with_reducible refine' we_chain ?_
  | with_reducible refine' we_chain3 ?_
  | with_reducible refine' we_revT ?_
  | with_reducible refine' we_revL ?_
  | with_reducible refine' we_bm ?_
  | with_reducible refine' we_bm0 ?_
  | with_reducible refine' ws_for ?_
  | with_reducible refine' we_lc ?_
  | with_reducible refine' wi_list ?_
  | with_reducible refine' wi_tup ?_
  | with_reducible refine' wi_T ?_
  | with_reducible refine' wi_rng1 ?_
  | with_reducible refine' wi_rng2 ?_
  | with_reducible refine' wi_rng3 ?_
  | with_reducible refine' wi_enum ?_
  | with_reducible refine' wi_enumT ?_
  | with_reducible refine' wi_zip ?_
  | with_reducible refine' wg_name ?_
  | with_reducible refine' wg_sub ?_
  | with_reducible refine' wgs_nil ?_
  | with_reducible refine' wgs_cons ?_
  | ((with_reducible refine' wg_tup ?ht ?hn ?_); (case ht => walk_at "ist"); (case hn => rfl))
  | with_reducible refine' w2_add ?_
  | with_reducible refine' w2_sub ?_
  | with_reducible refine' w2_lt ?_
  | with_reducible refine' w2_le ?_
  | with_reducible refine' w2_gt ?_
  | with_reducible refine' w2_ge ?_
  | with_reducible refine' w2_eqI ?_
  | with_reducible refine' w2_neI ?_
  | with_reducible refine' w2_eqT ?_
  | with_reducible refine' w2_neT ?_
  | with_reducible refine' w2_eqB ?_
  | with_reducible refine' w2_neB ?_
  | with_reducible refine' w2_isN ?_
  | with_reducible refine' w2_notN ?_
  | with_reducible refine' w2_isB ?_
  | with_reducible refine' w2_inT ?_
  | with_reducible refine' w1_neg ?_
  | with_reducible refine' wl_abs ?_
  | with_reducible refine' wl_max2 ?_
  | with_reducible refine' wl_min2 ?_
  | with_reducible refine' wl_intB ?_
  | ((with_reducible refine' w2_div ?h ?_); case h => first | omega | (constructor <;> omega))
  | ((with_reducible refine' w2_mod ?h ?_); case h => omega)
  | ((with_reducible refine' w2_catT ?h ?_); case h => walk_at "len")
  | ((with_reducible refine' wsl_T ?h ?_); case h => walk_at "len")
  | ((with_reducible refine' wl_lenT ?h ?_); case h => walk_at "len")
  | ((with_reducible refine' wl_len ?h ?_); case h => walk_at "isl")
  | ((with_reducible refine' wl_len ?h ?_); case h => walk_at "isl")
  | ((with_reducible refine' wm_append ?sw ?hl ?_); (case sw => walk_at "swap"); (case hl => walk_at "len")))
local macro_rules | `(tactic| walk_at "b1") => `(tactic| first | with_reducible refine' ws_seq ?_ | walk_at "b0")
local macro_rules | `(tactic| walk_at "bx") => `(tactic| first
  | refine ⟨_, rfl, ?_⟩
  | refine ⟨_, _, rfl, ?_⟩
  | refine ⟨ty_L (by walk_at "isl"), ?_⟩
  | refine ⟨ty_S, ?_⟩
  | refine spl_t (by rfl) ?_
  | refine spl_f (by rfl) ?_
  | exact rfl)
local macro_rules | `(tactic| walk_at "bm") => `(tactic| repeat (first | walk_at "b1" | walk_at "bx"))
local macro_rules | `(tactic| walk_at "bn") => `(tactic| repeat (first | walk_at "b0" | walk_at "bx"))
local macro_rules | `(tactic| walk_at "b0") => `(tactic| with_reducible refine' c_deepens ?_)
local macro_rules | `(tactic| walk_at "b0") => `(tactic| ((with_reducible refine' c_depths_of ?hl ?_); (case hl => walk_at "len")))
local macro_rules | `(tactic| walk_at "b0") => `(tactic| with_reducible refine' c_is_wholeI ?_)
local macro_rules | `(tactic| walk_at "b0") => `(tactic| with_reducible refine' c_flipped ?_)
local macro_rules | `(tactic| walk_at "b0") => `(tactic| ((with_reducible refine' c_is_right_row ?hl ?_); (case hl => walk_at "len")))
local macro_rules | `(tactic| walk_at "b0") => `(tactic| ((with_reducible refine' c_asked_row ?hl ?_); (case hl => walk_at "len")))
local macro_rules | `(tactic| walk_at "b0") => `(tactic| ((with_reducible refine' c_depths ?hl ?_); (case hl => walk_at "len")))
local macro_rules | `(tactic| walk_at "b0") => `(tactic| ((with_reducible refine' c_is_right ?hl ?_); (case hl => walk_at "len")))
local macro_rules | `(tactic| walk_at "b0") => `(tactic| ((with_reducible refine' c__law_depths ?hl ?_); (case hl => walk_at "len")))
local macro_rules | `(tactic| walk_at "b0") => `(tactic| ((with_reducible refine' c__law_good ?hl ?_); (case hl => walk_at "len")))
local macro_rules | `(tactic| walk_at "b0") => `(tactic| ((with_reducible refine' wl_listOf ?hx ?_); (case hx => walk_at "isl")))
local macro_rules | `(tactic| walk_at "b0") => `(tactic| with_reducible refine' w2_notB ?_)
local macro_rules | `(tactic| walk_at "own") => `(tactic| exact own_l (by walk_at "mem"))
local macro_rules | `(tactic| walk_at "b0") => `(tactic| with_reducible refine' we_fld ?_)
local macro_rules | `(tactic| walk_at "b0") => `(tactic| refine ⟨_, _, _, _, _, rfl, own_l (by walk_at "mem"), Grw.cl (by assumption), Grw.nr (by assumption), by rfl, ?_⟩)
local macro_rules | `(tactic| walk_at "b0") => `(tactic| refine ⟨_, _, _, _, _, rfl, fun H' o => o.ex _ _ (by assumption), Grw.cl (by assumption), Grw.nr (by assumption), by rfl, ?_⟩)
section
variable {K : PySem.W.Frag} {H0 : Hp} {s : Ld} {Q : V → Ld → Prop} {a b c d e f : Addr}
theorem shp_pair (p : Int × Int) : SeqAt.shaped (pairD p) = true := by simp [SeqAt.shaped, pairD, PyData.canLay0, PyData.canLayAll0, PyData.depth, PyData.depthAll]
theorem shp_two (p q : Int × Int) : SeqAt.shaped (.tuple [pairD p, pairD q]) = true := by simp [SeqAt.shaped, pairD, PyData.canLay0, PyData.canLayAll0, PyData.depth, PyData.depthAll]
theorem dl_pair {p : Int × Int} (h : IsT K H0 s a (pairV p)) : DpL K H0 s (.ref a) (pairD p) := fun H o => .tup (h H o) (.cons (.int _) (.cons (.int _) .nil))
theorem dl_two {p q : Int × Int} (h : IsT K H0 s a [.ref b, .ref c]) (h1 : IsT K H0 s b (pairV p)) (h2 : IsT K H0 s c (pairV q)) : DpL K H0 s (.ref a) (.tuple [pairD p, pairD q]) := fun H o => .tup (h H o) (.cons (dl_pair h1 H o) (.cons (dl_pair h2 H o) .nil))
theorem eqv_two (p q : Int × Int) : PyData.eqv (.tuple [pairD p, pairD q]) (.tuple [pairD p, pairD q]) = true := by
  simp only [PyData.eqv, PyData.eqvAll, eqv_pairD, decide_true, Bool.and_true]
theorem w2_eqP {p q : Int × Int} (h1 : IsT K H0 s a (pairV p)) (h2 : IsT K H0 s b (pairV q)) (k : Q (.bl (decide (p = q))) s) : W2 H0 (rEqD K) (.ref a) (.ref b) s Q := w2_eqD (dl_pair h1) (dl_pair h2) (shp_pair _) (shp_pair _) (eqv_pairD _ _) k
theorem w2_neP {p q : Int × Int} (h1 : IsT K H0 s a (pairV p)) (h2 : IsT K H0 s b (pairV q)) (k : Q (.bl (!decide (p = q))) s) : W2 H0 (rNeD K) (.ref a) (.ref b) s Q := w2_neD (dl_pair h1) (dl_pair h2) (shp_pair _) (shp_pair _) (eqv_pairD _ _) k
end
local macro_rules | `(tactic| walk_at "b0") => `(tactic| with_reducible refine' we_meth ?_)
local macro_rules | `(tactic| walk_at "b0") => `(tactic| refine ⟨_, _, _, rfl, own_l (by walk_at "mem"), by rfl, ?_⟩)
local macro_rules | `(tactic| walk_at "b0") => `(tactic| refine ⟨_, _, _, rfl, fun H' o => o.ex _ _ (by assumption), by rfl, ?_⟩)
local macro_rules | `(tactic| walk_at "gown") => `(tactic| first | exact own_l (by walk_at "mem") | exact fun H' o => o.ex _ _ (by assumption))
theorem ln__law_same07 {K : PySem.W.Frag} {C : CA} {vs : List V} {H : Hp} {Q : VK} {E : XK} (h : sp__law_same07 K C vs H Q E) : vs.length = 2 := by
  obtain ⟨_, ⟨g, d, r, _, rfl, _⟩, _⟩ := h
  rfl
theorem pu__law_same07 {K : PySem.W.Frag} {C : CA} {vs : List V} {H : Hp} {Q : VK} {E : XK} (h : sp__law_same07 K C vs H Q E) : rd__law_same07 K C { nx := fun _ H' => Q .non H', rt := Q } (start N__law_same07 vs) H := by
  obtain ⟨_, ⟨g, d, r, hG, rfl, hg, hl, rfl⟩, k⟩ := h
  refine body_V ?_ k
  unfold rd__law_same07
  walk_at "bm"
  refine c_g_lacks hG (by walk_at "gown") hl fun p1 => ?_
  walk_at "bm"
  refine c_g_longest hG (by walk_at "gown") hl fun p2 => ?_
  walk_at "bm"
  refine ⟨by simp, fun p3 hp3 => ?_⟩
  walk_at "bm"
  refine ⟨⟨_, by walk_at "ist"⟩, ?_⟩
  refine cp_tup (xs := [.ref p1, .ref p2]) (fun i => List.replicate i (.bl true)) (by walk_at "ist") (by simp) rfl (fun i _ => by simp) ?_ ?_
  · intro D i x hi hx
    walk_at "bm"
    refine ⟨rfl, ?_⟩
    walk_at "bm"
    have hty : ∀ H', Own H H' ⟨(D, .lst (List.replicate i (.bl true))) :: [], [(p3, [.ref p1, .ref p2]), (p2, pairV (lng r)), (p1, pairV (lk r))]⟩ → TyX K H' x (.type "tuple") := by
      intro H' o
      match i, hi, hx with
      | 0, _, hx => cases hx; exact .base (.tup (own_t o (by walk_at "mem")))
      | 1, _, hx => cases hx; exact .base (.tup (own_t o (by walk_at "mem")))
    refine wl_isi (tv := .type "tuple") (b := true) hty (kit_ty (by decide +kernel)) ?_
    exact ⟨Sub.refl _, by rw [List.replicate_succ']⟩
  · intro D hD
    walk_at "bm"
    refine wl_all (bs := List.replicate 2 true) (by walk_at "isl") ?_
    walk_at "bm"
    refine c_g_text hG (by walk_at "gown") ?_
    walk_at "bm"
    refine spl_f (by simp) ?_
    walk_at "bm"
    refine c__law_lacks07 hl fun q1 => ?_
    walk_at "bm"
    refine c__law_longest07 hl fun q2 => ?_
    walk_at "bm"
    refine ⟨by simp, fun q3 hq3 => ?_⟩
    refine w2_eqD (dl_two (p := lk r) (q := lng r) (b := p1) (c := p2) (by walk_at "ist") (by walk_at "ist") (by walk_at "ist")) (dl_two (p := lk r) (q := lng r) (b := q1) (c := q2) (by walk_at "ist") (by walk_at "ist") (by walk_at "ist")) (shp_two _ _) (shp_two _ _) (eqv_two _ _) ?_
    walk_at "bm"
    refine c_g_lacks hG (by walk_at "gown") hl fun p4 => ?_
    walk_at "bm"
    refine w2_ixU (v := .ref p1) (by walk_at "ist") rfl ?_
    refine w2_eqP (p := lk r) (q := lk r) (by walk_at "ist") (by walk_at "ist") ?_
    show V.bl _ = V.bl _
    simp
theorem c__law_same07 {K : PySem.W.Frag} {C : CA} {H0 : Hp} {s : Ld} {Q : V → Ld → Prop} {E : XK} {g d : Addr} {r : List Bool} (hG : Grw K C) (hg : ∀ H, Own H0 H s → H g = some (gIns C d r)) (hl : r.length ≤ 40) (q : Q (.bl true) s) : WC H0 (sp__law_same07 K C) E [.ref g, .str (T r)] s Q := wc_V (fun H o => ⟨g, d, r, hG, rfl, hg H o, hl, rfl⟩) q
/-! the ask -/
/-- the body is: return a value told by cases -/
theorem ln__law_ask07 {K : PySem.W.Frag} {C : CA} {vs : List V} {H : Hp} {Q : VK} {E : XK} (h : sp__law_ask07 K C vs H Q E) : vs.length = 2 := by
  obtain ⟨g, d, r, o, _, rfl, _⟩ := h
  rfl
theorem ask_suite {K : PySem.W.Frag} {C : CA} {H0 : Hp} {g : Addr} {o : List Bool} {D0 : Addr} {b : Bool} {z : Str} {D : Dl} {s : Ld} (hb : (D0 = C.c_TooMany ∧ z = "many") ∨ (D0 = C.c_NotSo ∧ z = "none")) (hX : Ex07 K C) (a : Addr) (q : D.rt (.str z) s) :
    WS H0 (tRet (tIf (tB (tCB (rIsE K D0 a) (tCons (tVar 2) (tCons (tC (.ref C.c_TooMany)) tNil)))) (tC (.str "many")) (tIf (tB (tCB (rIsE K D0 a) (tCons (tVar 2) (tCons (tC (.ref C.c_NotSo)) tNil)))) (tC (.str "none")) (tC (.str "else"))))) [some (.ref g), some (.str (T o)), some (.ref a)] s D := by
  rcases hb with ⟨rfl, rfl⟩ | ⟨rfl, rfl⟩
  · walk_at "bm"
    refine wl_isE (kit_self _ _) ?_
    walk_at "bm"
    exact q
  · walk_at "bm"
    refine wl_isE hX.nt ?_
    walk_at "bm"
    refine wl_isE (kit_self _ _) ?_
    walk_at "bm"
    exact q
/-- an expression in a try's body -/
def WEX (H0 : Hp) (t : WX → TE) (σ : L2.St) (s : Ld) (Q : V → Ld → Prop) (QE : Value → Option Addr → Ld → Prop) : Prop := ∀ H, Own H0 H s → ∀ (R : VK) (W : WX), (∀ v H' s', Own H0 H' s' → Q v s' → R v H') → (∀ cls d H' s', Own H0 H' s' → QE cls d s' → W cls d σ H') → t W σ H R
def WCX (H0 : Hp) (sp : Sp) (vs : List V) (s : Ld) (Q : V → Ld → Prop) (QE : Value → Option Addr → Ld → Prop) : Prop := ∀ H, Own H0 H s → ∀ (R : VK) (E : XK), (∀ v H' s', Own H0 H' s' → Q v s' → R v H') → (∀ cls d H' s', Own H0 H' s' → QE cls d s' → E cls d H') → sp vs H R E
theorem wx_if {H0 : Hp} {tc : TT} {ta tb : WX → TE} {σ : L2.St} {s : Ld} {Q : V → Ld → Prop} {QE : Value → Option Addr → Ld → Prop} (h : WT H0 tc σ s fun b s1 => (b = true → WEX H0 ta σ s1 Q QE) ∧ (b = false → WEX H0 tb σ s1 Q QE)) : WEX H0 (fun W => tIf tc (ta W) (tb W)) σ s Q QE := fun H o R W k ke =>
  we_if (ta := ta W) (tb := tb W) (Q := fun v s' => ∀ H', Own H0 H' s' → R v H') (fun H1 o1 R1 k1 => h H1 o1 _ fun b H2 s2 o2 h2 => k1 b H2 s2 o2 ⟨fun e H3 o3 R3 k3 => h2.1 e H3 o3 _ _ (fun v H4 s4 o4 q => k3 v H4 s4 o4 fun H5 o5 => k _ _ _ o5 q) ke, fun e H3 o3 R3 k3 => h2.2 e H3 o3 _ _ (fun v H4 s4 o4 q => k3 v H4 s4 o4 fun H5 o5 => k _ _ _ o5 q) ke⟩) H o R fun v H' s' o' q => q H' o'
theorem wx_meth {K : PySem.W.Frag} {H0 : Hp} {C : Addr} {m : Str} {sp : Sp} {te : TE} {ta : TA} {σ : L2.St} {s : Ld} {Q : V → Ld → Prop} {QE : Value → Option Addr → Ld → Prop} (h : WE H0 te σ s fun x s1 => ∃ a dx fs, x = .ref a ∧ (∀ H, Own H0 H s1 → H a = some (.ins C dx fs)) ∧ fs.lookup m = none ∧ WA H0 ta σ s1 fun vs s2 => WCX H0 sp (x :: vs) s2 Q QE) : WEX H0 (fun W => tMethE C m sp (L2.WE W) te ta) σ s Q QE := fun H o R W k ke =>
  h H o _ fun x H1 s1 o1 ⟨a, dx, fs, e, ha, hl, h1⟩ => ⟨a, dx, fs, e, ha H1 o1, hl, h1 H1 o1 _ fun vs H2 s2 o2 h2 => h2 H2 o2 _ _ k ke⟩
theorem ws_try_ret {K : PySem.W.Frag} {H0 : Hp} {c : Value} {i : Nat} {t : WX → TE} {ts : Addr → Value → Option Addr → TS} {σ : L2.St} {s : Ld} {D : Dl} (h : WEX H0 t σ s D.rt (Caught K H0 c i ts σ D)) : WS H0 (tTry K c i (fun W => tRet (t W)) ts) σ s D := fun H o E l =>
  h H o _ _ (fun v H' s' o' q => l.rt _ _ _ o' q) fun cls d H' s' o' q => caught_low q o' l
def retX (g : Addr) (H : Hp) (Q : VK) : Dl := { nx := fun _ _ => False, rt := fun u s => ∃ o', (g, o') ∈ s.L ∧ chg g o' u H Q }
theorem body_X {H : Hp} {t : TS} {N : List Str} {vs : List V} {Q : VK} {g : Addr} {o : HO} (ho : H g = some o) (h : WS (del g H) t (start N vs) ⟨[(g, o)], []⟩ (retX g H Q)) : t { nx := fun _ H' => Q .non H', rt := Q } (start N vs) H :=
  h H (own_del ho) _ ⟨(fun _ _ _ _ q => q.elim), fun u H' s w ⟨o', m, q⟩ => q H' w.ex (w.own _ m).2, (fun _ _ _ _ q => q.elim), (fun _ _ _ _ q => q.elim)⟩
theorem wcx_put {K : PySem.W.Frag} {C : CA} {H0 : Hp} {s : Ld} {Q : V → Ld → Prop} {QE : Value → Option Addr → Ld → Prop} {g d : Addr} {r : List Bool} {b : Bool} {L' : List (Addr × HO)} (hG : Grw K C) (sw : Swap g (gIns C d r) (gIns C d (r ++ [b])) s.L L') (hl : r.length ≤ 40) (q : r.length < 40 → Q (.int (hgt (r ++ [b]))) ⟨L', s.T⟩) (qe : r.length = 40 → QE (.ref C.c_TooMany) none s) : WCX H0 (sp_g_put K C) [.ref g, .str (T [b])] s Q QE := fun H o R E k ke =>
  ⟨g, d, r, b, hG, rfl, (o.own _ sw.mem).2, hl, fun h H' e h2 => k _ _ _ (own_after o sw trivial e h2) (q h), fun h H' e => ke _ _ _ _ (o.ext e) (qe h)⟩
theorem wcx_take {K : PySem.W.Frag} {C : CA} {H0 : Hp} {s : Ld} {Q : V → Ld → Prop} {QE : Value → Option Addr → Ld → Prop} {g d : Addr} {u : List Bool} {b : Bool} {L' : List (Addr × HO)} (hG : Grw K C) (sw : Swap g (gIns C d (u ++ [b])) (gIns C d u) s.L L') (hl : (u ++ [b]).length ≤ 40) (q : Q (.str (T [b])) ⟨L', s.T⟩) : WCX H0 (sp_g_take K C) [.ref g] s Q QE := fun H o R E k ke =>
  ⟨g, d, _, hG, rfl, (o.own _ sw.mem).2, hl, fun u2 c h H' e h2 => by
    obtain ⟨rfl, h4⟩ := List.append_inj' h rfl
    cases h4
    exact k _ _ _ (own_after o sw trivial e h2) q, fun h => absurd h (by simp)⟩
theorem wcx_take0 {K : PySem.W.Frag} {C : CA} {H0 : Hp} {s : Ld} {Q : V → Ld → Prop} {QE : Value → Option Addr → Ld → Prop} {g d : Addr} (hG : Grw K C) (hg : (g, gIns C d []) ∈ s.L) (qe : QE (.ref C.c_NotSo) none s) : WCX H0 (sp_g_take K C) [.ref g] s Q QE := fun H o R E k ke =>
  ⟨g, d, [], hG, rfl, (o.own _ hg).2, Nat.zero_le _, fun u2 c h => absurd h (by simp), fun _ H' e => ke _ _ _ _ (o.ext e) qe⟩
theorem pu__law_ask07 {K : PySem.W.Frag} {C : CA} {vs : List V} {H : Hp} {Q : VK} {E : XK} (h : sp__law_ask07 K C vs H Q E) : rd__law_ask07 K C { nx := fun _ H' => Q .non H', rt := Q } (start N__law_ask07 vs) H := by
  obtain ⟨g, d, r, o, hX, rfl, hg, hl, k⟩ := h
  refine body_X hg ?_
  unfold rd__law_ask07
  refine ws_try_ret (wx_if ?_)
  rcases k with ⟨b, rfl, hlt, k⟩ | ⟨b, rfl, h40, k⟩ | ⟨u, b, rfl, rfl, k⟩ | ⟨rfl, rfl, k⟩
  · walk_at "bm"
    refine wx_meth (K := K) ?_
    walk_at "bm"
    refine wcx_put hX.g Swap.here hl (fun _ => ⟨_, List.mem_cons_self, k⟩) (fun h => absurd h (by omega))
  · walk_at "bm"
    refine wx_meth (K := K) ?_
    walk_at "bm"
    refine wcx_put hX.g Swap.here hl (fun h => absurd h (by omega)) (fun _ => ⟨hX.tb, fun a ha => ws_exc rfl rfl hX.tm ?_⟩)
    exact ask_suite (b := true) (.inl ⟨rfl, rfl⟩) hX a ⟨_, List.mem_cons_self, fun H' e h => k H' (ex_del hg e h)⟩
  · walk_at "bm"
    refine wx_meth (K := K) ?_
    walk_at "bm"
    exact wcx_take hX.g Swap.here hl ⟨_, List.mem_cons_self, k⟩
  · walk_at "bm"
    refine wx_meth (K := K) ?_
    walk_at "bm"
    refine wcx_take0 hX.g List.mem_cons_self ⟨hX.nb, fun a ha => ws_exc rfl rfl hX.ns ?_⟩
    exact ask_suite (b := true) (.inr ⟨rfl, rfl⟩) hX a ⟨_, List.mem_cons_self, fun H' e h => k H' (ex_del hg e h)⟩
theorem c__law_ask_put {K : PySem.W.Frag} {C : CA} {H0 : Hp} {s : Ld} {Q : V → Ld → Prop} {E : XK} {g d : Addr} {r : List Bool} {b : Bool} {L' : List (Addr × HO)} (hX : Ex07 K C) (sw : Swap g (gIns C d r) (gIns C d (r ++ [b])) s.L L') (hl : r.length < 40) (q : Q (.int (hgt (r ++ [b]))) ⟨L', s.T⟩) : WC H0 (sp__law_ask07 K C) E [.ref g, .str (T [b])] s Q := fun H o R k =>
  ⟨g, d, r, [b], hX, rfl, (o.own _ sw.mem).2, by omega, .inl ⟨b, rfl, hl, fun H' e h => k _ _ _ (own_after o sw trivial e h) q⟩⟩
theorem c__law_ask_many {K : PySem.W.Frag} {C : CA} {H0 : Hp} {s : Ld} {Q : V → Ld → Prop} {E : XK} {g d : Addr} {r : List Bool} {b : Bool} (hX : Ex07 K C) (hg : (g, gIns C d r) ∈ s.L) (hl : r.length = 40) (q : Q (.str "many") s) : WC H0 (sp__law_ask07 K C) E [.ref g, .str (T [b])] s Q := fun H o R k =>
  ⟨g, d, r, [b], hX, rfl, (o.own _ hg).2, by omega, .inr (.inl ⟨b, rfl, hl, fun H' e => k _ _ _ (o.ext e) q⟩)⟩
theorem c__law_ask_take {K : PySem.W.Frag} {C : CA} {H0 : Hp} {s : Ld} {Q : V → Ld → Prop} {E : XK} {g d : Addr} {u : List Bool} {b : Bool} {L' : List (Addr × HO)} (hX : Ex07 K C) (sw : Swap g (gIns C d (u ++ [b])) (gIns C d u) s.L L') (hl : (u ++ [b]).length ≤ 40) (q : Q (.str (T [b])) ⟨L', s.T⟩) : WC H0 (sp__law_ask07 K C) E [.ref g, .str (T [])] s Q := fun H o R k =>
  ⟨g, d, _, [], hX, rfl, (o.own _ sw.mem).2, hl, .inr (.inr (.inl ⟨u, b, rfl, rfl, fun H' e h => k _ _ _ (own_after o sw trivial e h) q⟩))⟩
theorem c__law_ask_none {K : PySem.W.Frag} {C : CA} {H0 : Hp} {s : Ld} {Q : V → Ld → Prop} {E : XK} {g d : Addr} (hX : Ex07 K C) (hg : (g, gIns C d []) ∈ s.L) (q : Q (.str "none") s) : WC H0 (sp__law_ask07 K C) E [.ref g, .str (T [])] s Q := fun H o R k =>
  ⟨g, d, [], [], hX, rfl, (o.own _ hg).2, Nat.zero_le _, .inr (.inr (.inr ⟨rfl, rfl, fun H' e => k _ _ _ (o.ext e) q⟩))⟩
end BM
namespace BM
open PySem L2 Evl
local macro_rules | `(tactic| walk_at "mem") => `(tactic| first | exact List.mem_cons_self | (refine List.mem_cons_of_mem _ ?_; walk_at "mem"))
local macro_rules | `(tactic| walk_at "swap") => `(tactic| first | exact Swap.here | (apply Swap.there; walk_at "swap"))
local macro_rules | `(tactic| walk_at "subl") => `(tactic| first | exact List.Sublist.refl _ | exact List.nil_sublist _ | (refine List.Sublist.cons_cons _ ?_; walk_at "subl") | (refine List.Sublist.cons _ ?_; walk_at "subl"))
local macro_rules | `(tactic| walk_at "sub") => `(tactic| first | exact Sub.refl _ | (refine ⟨?_, ?_⟩ <;> walk_at "subl"))
local macro_rules | `(tactic| walk_at "isl") => `(tactic| first | exact isL_own (by walk_at "mem") | exact isL_old (by assumption) | assumption)
local macro_rules | `(tactic| walk_at "ist") => `(tactic| first | exact isT_own (by walk_at "mem") | exact isT_old (by assumption) | assumption)
local macro_rules | `(tactic| walk_at "len") => `(tactic| first | omega | decide | (simp only [List.length_map, List.length_take, List.length_drop, List.length_append, List.length_cons, List.length_nil, List.length_reverse, dps_len, flp_len]; omega) | (simp [dps_len, flp_len]; omega) | simp)
local macro_rules | `(tactic| walk_at "b0") => `(tactic| first
  | with_reducible refine' ws_set ?_
  | with_reducible refine' ws_par ?_
  | with_reducible refine' ws_asg ?_
  | with_reducible refine' ws_drop ?_
  | with_reducible refine' ws_ret ?_
  | with_reducible refine' ws_if ?_
  | with_reducible refine' ws_next ?_
  | with_reducible refine' ws_brk ?_
  | with_reducible refine' ws_cont ?_
  | ((with_reducible refine' we_var ?hv ?_); case hv => rfl)
  | with_reducible refine' we_c ?_
  | with_reducible refine' we_op ?_
  | with_reducible refine' we_un ?_
  | with_reducible refine' we_if ?_
  | with_reducible refine' we_and ?_
  | with_reducible refine' we_or ?_
  | with_reducible refine' we_not ?_
  | with_reducible refine' wa_nil ?_
  | with_reducible refine' wa_cons ?_
  | (with_reducible refine' we_lst ?_)
  | (with_reducible refine' we_tup ?_)
  | with_reducible refine' we_cb ?_
  | with_reducible refine' we_call0 ?_
  | with_reducible refine' we_sl ?_
  | with_reducible refine' wo_none ?_
  | (with_reducible refine' wo_some ?_)
  | with_reducible refine' wt_test ?_
  | with_reducible refine' wt_B ?_
  | with_reducible refine' wt_and ?_
  | with_reducible refine' wt_or ?_
  | with_reducible refine' wt_not ?_
  | with_reducible refine' wt_yes ?_
  | with_reducible refine' we_chain ?_
  | with_reducible refine' we_chain3 ?_
  | with_reducible refine' we_revT ?_
  | with_reducible refine' we_revL ?_
  | with_reducible refine' we_bm ?_
  | with_reducible refine' we_bm0 ?_
  | with_reducible refine' ws_for ?_
  | with_reducible refine' we_lc ?_
  | with_reducible refine' wi_list ?_
  | with_reducible refine' wi_tup ?_
  | with_reducible refine' wi_T ?_
  | with_reducible refine' wi_rng1 ?_
  | with_reducible refine' wi_rng2 ?_
  | with_reducible refine' wi_rng3 ?_
  | with_reducible refine' wi_enum ?_
  | with_reducible refine' wi_enumT ?_
  | with_reducible refine' wi_zip ?_
  | with_reducible refine' wg_name ?_
  | with_reducible refine' wg_sub ?_
  | with_reducible refine' wgs_nil ?_
  | with_reducible refine' wgs_cons ?_
  | ((with_reducible refine' wg_tup ?ht ?hn ?_); (case ht => walk_at "ist"); (case hn => rfl))
  | with_reducible refine' w2_add ?_
  | with_reducible refine' w2_sub ?_
  | with_reducible refine' w2_lt ?_
  | with_reducible refine' w2_le ?_
  | with_reducible refine' w2_gt ?_
  | with_reducible refine' w2_ge ?_
  | with_reducible refine' w2_eqI ?_
  | with_reducible refine' w2_neI ?_
  | with_reducible refine' w2_eqT ?_
  | with_reducible refine' w2_neT ?_
  | with_reducible refine' w2_eqB ?_
  | with_reducible refine' w2_neB ?_
  | with_reducible refine' w2_isN ?_
  | with_reducible refine' w2_notN ?_
  | with_reducible refine' w2_isB ?_
  | with_reducible refine' w2_inT ?_
  | with_reducible refine' w1_neg ?_
  | with_reducible refine' wl_abs ?_
  | with_reducible refine' wl_max2 ?_
  | with_reducible refine' wl_min2 ?_
  | with_reducible refine' wl_intB ?_
  | ((with_reducible refine' w2_div ?h ?_); case h => first | omega | (constructor <;> omega))
  | ((with_reducible refine' w2_mod ?h ?_); case h => omega)
  | ((with_reducible refine' w2_catT ?h ?_); case h => walk_at "len")
  | ((with_reducible refine' wsl_T ?h ?_); case h => walk_at "len")
  | ((with_reducible refine' wl_lenT ?h ?_); case h => walk_at "len")
  | ((with_reducible refine' wl_len ?h ?_); case h => walk_at "isl")
  | ((with_reducible refine' wl_len ?h ?_); case h => walk_at "isl")
  | ((with_reducible refine' wm_append ?sw ?hl ?_); (case sw => walk_at "swap"); (case hl => walk_at "len")))
local macro_rules | `(tactic| walk_at "b1") => `(tactic| first | with_reducible refine' ws_seq ?_ | walk_at "b0")
local macro_rules | `(tactic| walk_at "bx") => `(tactic| first
  | refine ⟨_, rfl, ?_⟩
  | refine ⟨_, _, rfl, ?_⟩
  | refine ⟨ty_L (by walk_at "isl"), ?_⟩
  | refine ⟨ty_S, ?_⟩
  | refine spl_t (by rfl) ?_
  | refine spl_f (by rfl) ?_
  | exact rfl)
local macro_rules | `(tactic| walk_at "bm") => `(tactic| repeat (first | walk_at "b1" | walk_at "bx"))
local macro_rules | `(tactic| walk_at "bn") => `(tactic| repeat (first | walk_at "b0" | walk_at "bx"))
local macro_rules | `(tactic| walk_at "b0") => `(tactic| with_reducible refine' c_deepens ?_)
local macro_rules | `(tactic| walk_at "b0") => `(tactic| ((with_reducible refine' c_depths_of ?hl ?_); (case hl => walk_at "len")))
local macro_rules | `(tactic| walk_at "b0") => `(tactic| with_reducible refine' c_is_wholeI ?_)
local macro_rules | `(tactic| walk_at "b0") => `(tactic| with_reducible refine' c_flipped ?_)
local macro_rules | `(tactic| walk_at "b0") => `(tactic| ((with_reducible refine' c_is_right_row ?hl ?_); (case hl => walk_at "len")))
local macro_rules | `(tactic| walk_at "b0") => `(tactic| ((with_reducible refine' c_asked_row ?hl ?_); (case hl => walk_at "len")))
local macro_rules | `(tactic| walk_at "b0") => `(tactic| ((with_reducible refine' c_depths ?hl ?_); (case hl => walk_at "len")))
local macro_rules | `(tactic| walk_at "b0") => `(tactic| ((with_reducible refine' c_is_right ?hl ?_); (case hl => walk_at "len")))
local macro_rules | `(tactic| walk_at "b0") => `(tactic| ((with_reducible refine' c__law_depths ?hl ?_); (case hl => walk_at "len")))
local macro_rules | `(tactic| walk_at "b0") => `(tactic| ((with_reducible refine' c__law_good ?hl ?_); (case hl => walk_at "len")))
local macro_rules | `(tactic| walk_at "b0") => `(tactic| ((with_reducible refine' wl_listOf ?hx ?_); (case hx => walk_at "isl")))
local macro_rules | `(tactic| walk_at "b0") => `(tactic| with_reducible refine' w2_notB ?_)
local macro_rules | `(tactic| walk_at "own") => `(tactic| exact own_l (by walk_at "mem"))
local macro_rules | `(tactic| walk_at "b0") => `(tactic| with_reducible refine' we_fld ?_)
local macro_rules | `(tactic| walk_at "b0") => `(tactic| refine ⟨_, _, _, _, _, rfl, own_l (by walk_at "mem"), Grw.cl (by assumption), Grw.nr (by assumption), by rfl, ?_⟩)
local macro_rules | `(tactic| walk_at "b0") => `(tactic| refine ⟨_, _, _, _, _, rfl, fun H' o => o.ex _ _ (by assumption), Grw.cl (by assumption), Grw.nr (by assumption), by rfl, ?_⟩)
local macro_rules | `(tactic| walk_at "b0") => `(tactic| with_reducible refine' we_meth ?_)
local macro_rules | `(tactic| walk_at "b0") => `(tactic| refine ⟨_, _, _, rfl, own_l (by walk_at "mem"), by rfl, ?_⟩)
local macro_rules | `(tactic| walk_at "b0") => `(tactic| refine ⟨_, _, _, rfl, fun H' o => o.ex _ _ (by assumption), by rfl, ?_⟩)
local macro_rules | `(tactic| walk_at "gown") => `(tactic| first | exact own_l (by walk_at "mem") | exact fun H' o => o.ex _ _ (by assumption))
section
variable {K : PySem.W.Frag} {H0 : Hp} {σ : L2.St} {s : Ld} {Q : V → Ld → Prop} {x y : V} {tt : TT} {te : TE} {vs : List Nat} {g : TG}
theorem w2_neV (hs : scal x y = true) (q : Q (.bl (!decide (x = y))) s) : W2 H0 rNe x y s Q := fun H o R k => ⟨hs, k _ H s o q⟩
theorem w2_eqV (hs : scal x y = true) (q : Q (.bl (decide (x = y))) s) : W2 H0 rEq x y s Q := fun H o R k => ⟨hs, k _ H s o q⟩
theorem cp_TI {r : List Bool} {n : Nat} (I : Addr → Nat → Ld → Prop) (hn : r.length = n) (h0 : ∀ D, H0 D = none → I D 0 ⟨(D, .lst []) :: s.L, s.T⟩)
    (hs : ∀ D i b s, i < n → r[i]? = some b → I D i s → WG H0 g (.str (T [b])) (wipe σ vs) s fun σ2 s2 => wipe σ2 vs = wipe σ vs ∧ WT H0 tt σ2 s2 fun b s3 =>
      (b = true → WE H0 te σ2 s3 fun y s4 => ∃ acc L' s0, Swap D (.lst acc) (.lst (acc ++ [y])) s4.L L' ∧ acc.length < 100000 ∧ Sub s0 ⟨L', s4.T⟩ ∧ I D (i + 1) s0) ∧ (b = false → ∃ s0, Sub s0 s3 ∧ I D (i + 1) s0)) (hq : ∀ D s, I D n s → Q (.ref D) s) : CompOk H0 (Its (T r)) g tt te σ vs s Q := by
  have e : (T r).cps.size = n := by rw [← hn]; exact T_len r
  subst e
  refine ⟨_, _, _, walk_str (z := T r), fun D hD => ⟨I D, h0 D hD, fun _ _ _ _ _ _ => trivial, fun i x s H H' hi q o ⟨e, c, hc, ex⟩ => ⟨s, by rw [e]; exact o, ?_⟩, hq D⟩⟩
  obtain ⟨b, h, rfl⟩ := T_at hc
  rw [ex]
  exact hs D i b s hi h q
theorem we_grow {C : CA} {E : XK} (hG : Grw K C) (h : ∀ x dx, H0 x = none → Q (.ref x) ⟨(x, gIns C dx []) :: (dx, .own x) :: s.L, s.T⟩) : WE H0 (tMake C.c_Growing (sp_g_init K C) [] E tNil) σ s Q :=
  we_make (wa_nil fun x dx hx hdx hne => c_g_init hG Swap.here ⟨rfl, h x dx hx⟩)
end
theorem ws_mono {H0 : Hp} {t : TS} {σ : L2.St} {s : Ld} {D D' : Dl} (h : WS H0 t σ s D) (h1 : ∀ σ s, D.nx σ s → D'.nx σ s) (h2 : ∀ v s, D.rt v s → D'.rt v s) (h3 : ∀ σ s, D.bk σ s → D'.bk σ s) (h4 : ∀ σ s, D.ct σ s → D'.ct σ s) : WS H0 t σ s D' := fun H o E l =>
  h H o E ⟨fun σ H s o q => l.nx σ H s o (h1 _ _ q), fun v H s o q => l.rt v H s o (h2 _ _ q), fun σ H s o q => l.bk σ H s o (h3 _ _ q), fun σ H s o q => l.ct σ H s o (h4 _ _ q)⟩
theorem lp_rngS {H0 : Hp} {σ : L2.St} {s : Ld} {D : Dl} {t1 : TS} {j : Nat} {lo : Int} {m : Nat} (I : Nat → L2.St → Ld → Prop) (s0 : Ld) (hs0 : Sub s0 s) (h0 : I 0 σ s0)
    (hs : ∀ i σ s, i < m → I i σ s → WS H0 t1 (σ.set j (some (.int (lo + (i : Int))))) s (turnD D (I (i + 1)))) (hd : ∀ σ s s', Sub s s' → I m σ s → D.nx σ s') : LoopOk H0 (Itr lo m) (gName j) t1 σ s D :=
  lp_rng (fun i σ s => ∃ s0, Sub s0 s ∧ I i σ s0) ⟨s0, hs0, h0⟩ (fun i σ s hi ⟨s1, h1, q⟩ => wg_name (ws_weak h1 (ws_mono (hs i σ s1 hi q) (fun σ s ⟨s0, h, q⟩ => ⟨s, Sub.refl _, s0, h, q⟩) (fun _ _ q => q) (fun _ _ q => q) (fun σ s ⟨s0, h, q⟩ => ⟨s, Sub.refl _, s0, h, q⟩)))) (fun σ s ⟨s0, h, q⟩ => hd σ s0 s h q)
/-- what is told: a number or a text -/
def Told (v : V) : Prop := (∃ z, v = .int z) ∨ ∃ z, v = .str z
theorem told_scal {v : V} (h : Told v) : scal v v = true := by
  rcases h with ⟨z, rfl⟩ | ⟨z, rfl⟩ <;> rfl
def r8 : List Bool := [true, false, false, true, true, false, false, true]
theorem ln_law07 {K : PySem.W.Frag} {C : CA} {vs : List V} {H : Hp} {Q : VK} {E : XK} (h : sp_law07 K C vs H Q E) : vs.length = 1 := by
  obtain ⟨v, ⟨a, ns, _, rfl, _⟩, _⟩ := h
  rfl
theorem pu_law07 {K : PySem.W.Frag} {C : CA} {vs : List V} {H : Hp} {Q : VK} {E : XK} (h : sp_law07 K C vs H Q E) : rd_law07 K C { nx := fun _ H' => Q .non H', rt := Q } (start N_law07 vs) H := by
  obtain ⟨v, ⟨a, ns, hX, rfl, hs, hns, rfl⟩, k⟩ := h
  have hG := hX.g
  refine body_V ?_ k
  unfold rd_law07
  refine ws_cut (fun σ s => ∃ (g dg o d : Addr) (W : Int), σ = [some (.ref a), none, some (.ref g), none, none, some (.int W), some (.str (T [])), some (.ref o), none, none, none, none, none, none] ∧ s = ⟨[(o, gIns C d []), (g, gIns C dg [])], []⟩) ?_ ?_
  · walk_at "bm"
    refine wsl_L (isL_old hs) fun p1 hp1 => ?_
    rw [cut_hi (by omega), ← List.map_take]
    walk_at "bm"
    refine wl_sum (ns := ns.take 63) (by walk_at "isl") ?_
    walk_at "bm"
    refine we_grow hG fun g dg hg => ?_
    walk_at "bm"
    refine we_grow hG fun o d ho => ?_
    walk_at "bm"
    refine ⟨by simp, fun t ht => ?_⟩
    refine wg_tup (by walk_at "ist") rfl ?_
    walk_at "bm"
    exact ⟨_, by walk_at "sub", g, dg, o, d, _, rfl, rfl⟩
  rintro σ s ⟨g, dg, o, d, W, rfl, rfl⟩
  refine ws_cut (fun σ s => ∃ x1 x8 x9 x10 x11 x12 r, σ = [some (.ref a), x1, some (.ref g), none, none, some (.int W), some (.str (T r)), some (.ref o), x8, x9, x10, x11, x12, none] ∧ s = ⟨[(o, gIns C d []), (g, gIns C dg r)], []⟩ ∧ r.length ≤ 40) ?_ ?_
  · walk_at "bm"
    refine wsl_L (isL_old hs) fun p1 hp1 => ?_
    rw [cut_hi (by omega), ← List.map_take]
    walk_at "bm"
    refine w2_mul (cmul_l (by decide) (by decide)) ?_
    walk_at "bm"
    refine ⟨by rw [List.length_map, List.length_take]; omega, ?_⟩
    refine lp_rngS (fun i σ s => ∃ x1 x8 x9 x10 x11 x12 r, σ = [some (.ref a), x1, some (.ref g), none, none, some (.int W), some (.str (T r)), some (.ref o), x8, x9, x10, x11, x12, none] ∧ s = ⟨[(o, gIns C d []), (g, gIns C dg r)], []⟩ ∧ r.length ≤ 40) ⟨[(o, gIns C d []), (g, gIns C dg [])], []⟩ (by walk_at "sub") ⟨none, none, none, none, none, none, [], rfl, rfl, by decide⟩ ?_ (fun σ s s2 hsub h => ⟨s, hsub, h⟩)
    rintro i σ s hi ⟨x1, x8, x9, x10, x11, x12, r, rfl, rfl, hr⟩
    rw [List.length_map, List.length_take] at hi
    rw [show ((0 : Int) + (i : Int)) = (i : Int) by omega]
    obtain ⟨c, hc⟩ : ∃ c, ns[i / 2]? = some c := ⟨_, List.getElem?_eq_getElem (by omega)⟩
    refine ws_seq ?_
    walk_at "bn"
    refine w2_ixL (v := .int c) (isL_old hs) (atI_of (by omega) (by rw [show ((i : Int) / 2).toNat = i / 2 from (by omega), List.getElem?_map, hc]; rfl)) ?_
    walk_at "bn"
    refine c__law_number (by omega) fun n => ?_
    walk_at "bn"
    obtain ⟨m, hm, hm0⟩ : ∃ m : Int, (if n < 0 then -n else n) / 3 = m ∧ 0 ≤ m := ⟨_, rfl, by split <;> omega⟩
    rw [hm]
    refine ws_cut (fun σ s => ∃ x9 : List Bool, σ = [some (.ref a), some (.int (i : Int)), some (.ref g), none, none, some (.int W), some (.str (T r)), some (.ref o), some (.int m), some (.str (T x9)), x10, x11, x12, none] ∧ s = ⟨[(o, gIns C d []), (g, gIns C dg r)], []⟩ ∧ (x9 = [] ∨ ∃ b, x9 = [b])) ?_ ?_
    · walk_at "bm"
      refine ⟨fun h => ?_, fun h => ?_⟩
      · walk_at "bm"
        obtain ⟨b, hb⟩ : ∃ b, atI [true, true, false, false, false] (m % 5) = some b := by
          have h5 : m % 5 = 0 ∨ m % 5 = 1 ∨ m % 5 = 2 ∨ m % 5 = 3 ∨ m % 5 = 4 := by omega
          rcases h5 with h | h | h | h | h <;> rw [h] <;> exact ⟨_, rfl⟩
        refine w2_ixT (b := b) (by decide) hb ?_
        walk_at "bm"
        exact ⟨_, Sub.refl _, [b], rfl, rfl, .inr ⟨b, rfl⟩⟩
      · walk_at "bm"
        exact ⟨_, Sub.refl _, [], rfl, rfl, .inl rfl⟩
    rintro σ s ⟨de, rfl, rfl, hde⟩
    refine ws_cut (fun σ s => ∃ told r', σ = [some (.ref a), some (.int (i : Int)), some (.ref g), none, none, some (.int W), some (.str (T r)), some (.ref o), some (.int m), some (.str (T de)), some told, some (.str (T r)), x12, none] ∧ s = ⟨[(o, gIns C d []), (g, gIns C dg r')], []⟩ ∧ r'.length ≤ 40 ∧
      ((∃ b, de = [b] ∧ r.length < 40 ∧ r' = r ++ [b] ∧ told = .int (hgt (r ++ [b]))) ∨ (∃ b, de = [b] ∧ r.length = 40 ∧ r' = r ∧ told = .str "many") ∨ (∃ b, de = [] ∧ r = r' ++ [b] ∧ told = .str (T [b])) ∨ (de = [] ∧ r = [] ∧ r' = [] ∧ told = .str "none"))) ?_ ?_
    · walk_at "bm"
      rcases hde with rfl | ⟨b, rfl⟩
      · by_cases hne : r = []
        · subst hne
          refine c__law_ask_none hX (by walk_at "mem") ?_
          walk_at "bm"
          exact ⟨_, Sub.refl _, _, [], rfl, rfl, by decide, .inr (.inr (.inr ⟨rfl, rfl, rfl, rfl⟩))⟩
        · obtain ⟨u, b, rfl⟩ : ∃ u b, r = u ++ [b] := ⟨_, _, (List.dropLast_concat_getLast hne).symm⟩
          refine c__law_ask_take hX (Swap.there Swap.here) hr ?_
          walk_at "bm"
          exact ⟨_, Sub.refl _, _, u, rfl, rfl, by rw [List.length_append] at hr; omega, .inr (.inr (.inl ⟨b, rfl, rfl, rfl⟩))⟩
      · by_cases hlt : r.length < 40
        · refine c__law_ask_put hX (Swap.there Swap.here) hlt ?_
          walk_at "bm"
          exact ⟨_, Sub.refl _, _, r ++ [b], rfl, rfl, by rw [List.length_append]; simp; omega, .inl ⟨b, rfl, hlt, rfl, rfl⟩⟩
        · refine c__law_ask_many hX (by walk_at "mem") (by omega) ?_
          walk_at "bm"
          exact ⟨_, Sub.refl _, _, r, rfl, rfl, hr, .inr (.inl ⟨b, rfl, by omega, rfl, rfl⟩)⟩
    rintro σ s ⟨told, r', rfl, rfl, hr', hcase⟩
    refine ws_cut (fun σ s => ∃ x11, σ = [some (.ref a), some (.int (i : Int)), some (.ref g), none, none, some (.int W), some (.str (T r')), some (.ref o), some (.int m), some (.str (T de)), some told, x11, some told, none] ∧ s = ⟨[(o, gIns C d []), (g, gIns C dg r')], []⟩ ∧ Told told) ?_ ?_
    · rcases hcase with ⟨b, rfl, hlt, rfl, rfl⟩ | ⟨b, rfl, h40, rfl, rfl⟩ | ⟨b, rfl, rfl, rfl⟩ | ⟨rfl, rfl, rfl, rfl⟩
      · walk_at "bm"
        refine spl_t (by simp; omega) ?_
        walk_at "bm"
        refine spl_t (by simp; omega) ?_
        walk_at "bm"
        intro f hf
        walk_at "bm"
        refine w2_ixL (v := .int (hgt (r ++ [b]))) (by walk_at "isl") (dps_m1 _) ?_
        walk_at "bm"
        exact ⟨_, by walk_at "sub", _, rfl, rfl, .inl ⟨_, rfl⟩⟩
      · walk_at "bm"
        refine spl_f (by simp; omega) ?_
        walk_at "bm"
        refine spl_f (by simp; omega) ?_
        walk_at "bm"
        exact ⟨_, Sub.refl _, _, rfl, rfl, .inr ⟨_, rfl⟩⟩
      · walk_at "bm"
        refine spl_f (by simp) ?_
        walk_at "bm"
        refine w2_ixT (b := b) (by omega) (atI_m1 (by simp)) ?_
        walk_at "bm"
        rw [cut_m1, List.dropLast_concat]
        exact ⟨_, Sub.refl _, _, rfl, rfl, .inr ⟨_, rfl⟩⟩
      · walk_at "bm"
        exact ⟨_, Sub.refl _, _, rfl, rfl, .inr ⟨_, rfl⟩⟩
    rintro σ s ⟨x11, rfl, rfl, ht⟩
    walk_at "bm"
    refine w2_neV (told_scal ht) ?_
    walk_at "bm"
    refine spl_f (by simp) ?_
    walk_at "bm"
    have isb : ∀ Q : V → Ld → Prop, Q (.bl false) ⟨[(o, gIns C d []), (g, gIns C dg r')], []⟩ → WL H (aIsi K "bool") [told, .ty "bool"] ⟨[(o, gIns C d []), (g, gIns C dg r')], []⟩ Q := fun Q q => by
      rcases ht with ⟨z, rfl⟩ | ⟨z, rfl⟩
      · exact wl_isi (tv := .type "int") (b := false) (fun H' o => .base (.int _)) (kit_ty (by decide +kernel)) q
      · exact wl_isi (tv := .type "str") (b := false) (fun H' o => .base (.str _)) (kit_ty (by decide +kernel)) q
    refine isb _ ?_
    walk_at "bm"
    refine c_g_text hG (by walk_at "gown") ?_
    walk_at "bm"
    refine ⟨fun h => ?_, fun h => ?_⟩
    · walk_at "bm"
      refine c__law_same07 hG (d := dg) (by walk_at "gown") hr' ?_
      walk_at "bm"
      exact ⟨_, Sub.refl _, _, _, _, _, _, _, r', rfl, rfl, hr'⟩
    · walk_at "bm"
      exact ⟨_, Sub.refl _, _, _, _, _, _, _, r', rfl, rfl, hr'⟩
  rintro σ s ⟨x1, x8, x9, x10, x11, x12, r, rfl, rfl, hr⟩
  walk_at "bm"
  refine c__law_same07 hG (d := dg) (by walk_at "gown") hr ?_
  walk_at "bm"
  refine c__law_ask_none hX (by walk_at "mem") ?_
  refine we_c (w2_neV rfl ⟨_, rfl, spl_f (by simp) ?_⟩)
  walk_at "bn"
  refine ws_cut (fun σ s => ∃ g2 d2, σ = [some (.ref a), x1, some (.ref g2), none, none, some (.int W), some (.str (T r)), some (.ref o), x8, x9, x10, x11, x12, none] ∧ s = ⟨[(g2, gIns C d2 [])], []⟩) ?_ ?_
  · walk_at "bn"
    refine we_grow hG fun g2 d2 hg2 => ?_
    exact ⟨_, by walk_at "sub", g2, d2, rfl, rfl⟩
  rintro σ s ⟨g2, d2, rfl, rfl⟩
  refine ws_cut (fun σ s => ∃ sh, σ = [some (.ref a), x1, some (.ref g2), some (.ref sh), none, some (.int W), some (.str (T r)), some (.ref o), x8, x9, x10, x11, x12, none] ∧ s = ⟨[(sh, .lst ([1, 0, -1, 0, 1, 0, -1, 0].map V.int)), (g2, gIns C d2 r8)], []⟩) ?_ ?_
  · walk_at "bm"
    refine cp_TI (n := 8) (fun D i s => s = ⟨[(D, .lst ((List.range i).map fun j => V.int (hgt (r8.take (j + 1))))), (g2, gIns C d2 (r8.take i))], []⟩) rfl (fun D hD => rfl) ?_ ?_
    · rintro D i b s hi hb rfl
      have hb' : r8[i]? = some b := hb
      refine wg_name ⟨rfl, ?_⟩
      walk_at "bm"
      refine c_g_put hG (d := d2) (r := r8.take i) (Swap.there Swap.here) (by rw [List.length_take]; show min i 8 < 40; omega) ?_
      refine ⟨_, _, _, Swap.here, by rw [List.length_map, List.length_range]; omega, Sub.refl _, ?_⟩
      rw [← take_snoc hb', List.range_succ, List.map_append]
      rfl
    · rintro D s rfl
      exact ⟨_, Sub.refl _, D, rfl, rfl⟩
  rintro σ s ⟨sh, rfl, rfl⟩
  refine ws_cut (fun σ s => σ = [some (.ref a), x1, some (.ref g2), some (.ref sh), none, some (.int W), some (.str (T r)), some (.ref o), x8, x9, x10, x11, x12, none] ∧ s = ⟨[(g2, gIns C d2 r8)], []⟩) ?_ ?_
  · walk_at "bm"
    refine ⟨by simp, fun p1 hp1 => ?_⟩
    refine w2_neLI (ns := [1, 0, -1, 0, 1, 0, -1, 0]) (ms := [1, 0, -1, 0, 1, 0, -1, 0]) (by walk_at "isl") (by walk_at "isl") ?_
    walk_at "bm"
    refine c_g_lacks hG (d := d2) (r := r8) (by walk_at "gown") (by decide) fun p2 => ?_
    walk_at "bm"
    refine ⟨by simp, fun p3 hp3 => ?_⟩
    refine w2_neP (p := lk r8) (q := (1, 1)) (by walk_at "ist") (by walk_at "ist") ?_
    walk_at "bm"
    refine c_g_longest hG (d := d2) (r := r8) (by walk_at "gown") (by decide) fun p4 => ?_
    walk_at "bm"
    refine ⟨by simp, fun p5 hp5 => ?_⟩
    refine w2_neP (p := lng r8) (q := (3, 7)) (by walk_at "ist") (by walk_at "ist") ?_
    walk_at "bm"
    exact ⟨_, by walk_at "sub", rfl, rfl⟩
  rintro σ s ⟨rfl, rfl⟩
  refine ws_cut (fun σ s => ∃ x4, σ = [some (.ref a), x1, some (.ref g2), some (.ref sh), x4, some (.int W), some (.str (T r)), some (.ref o), x8, x9, x10, x11, x12, none] ∧ s = ⟨[(g2, gIns C d2 (r8 ++ List.replicate 32 true))], []⟩) ?_ ?_
  · walk_at "bm"
    refine ⟨by decide, ?_⟩
    refine lp_rng (fun i σ s => ∃ x4, σ = [some (.ref a), x1, some (.ref g2), some (.ref sh), x4, some (.int W), some (.str (T r)), some (.ref o), x8, x9, x10, x11, x12, none] ∧ s = ⟨[(g2, gIns C d2 (r8 ++ List.replicate i true))], []⟩) ⟨none, rfl, by rw [List.replicate_zero, List.append_nil]⟩ ?_ (fun σ s ⟨x4, e1, e2⟩ => ⟨_, Sub.refl _, x4, e1, e2⟩)
    rintro i σ s hi ⟨x4, rfl, rfl⟩
    have hi' : i < 32 := hi
    refine wg_name ?_
    walk_at "bm"
    refine c_g_put hG (d := d2) (r := r8 ++ List.replicate i true) (b := true) Swap.here (by rw [List.length_append, List.length_replicate]; show 8 + i < 40; omega) ?_
    refine ⟨_, Sub.refl _, _, rfl, ?_⟩
    rw [List.append_assoc, ← List.replicate_succ']
  rintro σ s ⟨x4, rfl, rfl⟩
  walk_at "bm"
  refine c__law_ask_many hX (d := d2) (r := r8 ++ List.replicate 32 true) (b := false) (by walk_at "mem") rfl ?_
  refine we_c (w2_neV rfl ⟨_, rfl, spl_f (by simp) ?_⟩)
  walk_at "bm"
  refine c_g_text hG (d := d2) (r := r8 ++ List.replicate 32 true) (by walk_at "gown") ?_
  walk_at "bm"
  refine c_g_take hG (d := d2) (r := r8 ++ List.replicate 31 true) (b := true) Swap.here (by decide) ?_
  walk_at "bm"
  refine c_g_longest hG (d := d2) (r := r8 ++ List.replicate 31 true) (by walk_at "gown") (by decide) fun p4 => ?_
  walk_at "bm"
  refine ⟨by simp, fun p5 hp5 => ?_⟩
  refine w2_eqP (p := lng (r8 ++ List.replicate 31 true)) (q := (3, 7)) (by walk_at "ist") (by walk_at "ist") ?_
  show V.bl _ = V.bl _
  exact congrArg V.bl (by decide +kernel)
end BM
namespace BM
/-- how often a depth below nothing must be lifted -/
def lf (d : Int) : Int := (if 1 - d > 0 then 1 - d else 0) / 2
theorem lf_nn (d : Int) : 0 ≤ lf d := by unfold lf; split <;> omega
theorem lf_zero {d : Int} : lf d = 0 ↔ 0 ≤ d := by unfold lf; split <;> omega
theorem lf_ok {d : Int} : ¬ (lf d < 0 ∨ (lf d > 0 ∧ d + 2 * (lf d - 1) ≥ 0)) := by unfold lf; split <;> omega
theorem lf_step (h : Int) : lf (h - 1) - lf (h + 1) = if h ≤ 0 then 1 else 0 := by unfold lf; split <;> split <;> split <;> omega
def PH (h : Int) : List Bool → Int
  | [] => lf h
  | b :: r => lf h + PH (h + sg b) r
theorem PH_nn : ∀ (r : List Bool) (h : Int), 0 ≤ PH h r
  | [], h => lf_nn h
  | b :: r, h => by
    have := lf_nn h
    have := PH_nn r (h + sg b)
    show 0 ≤ lf h + PH (h + sg b) r
    omega
theorem PH_app : ∀ (u w : List Bool) (h : Int), ∃ c, ∀ w', PH h (u ++ w') = c + PH (h + hgt u) w'
  | [], w, h => ⟨0, fun w' => by show PH h w' = 0 + PH (h + 0) w'; rw [Int.add_zero, Int.zero_add]⟩
  | b :: u, w, h => by
    obtain ⟨c, hc⟩ := PH_app u w (h + sg b)
    refine ⟨lf h + c, fun w' => ?_⟩
    show lf h + PH (h + sg b) (u ++ w') = lf h + c + PH (h + (sg b + hgt u)) w'
    rw [hc w', Int.add_assoc, Int.add_assoc]
theorem PH_zero : ∀ (r : List Bool) (h : Int), PH h r = 0 ↔ ∀ j, j ≤ r.length → 0 ≤ h + hgt (r.take j)
  | [], h => by
    show lf h = 0 ↔ _
    rw [lf_zero]
    exact ⟨fun hh j hj => by rw [show j = 0 from Nat.le_zero.mp hj]; show 0 ≤ h + 0; omega, fun hh => by have := hh 0 (Nat.le_refl _); have e : hgt (([] : List Bool).take 0) = 0 := rfl; omega⟩
  | b :: r, h => by
    have n1 := lf_nn h
    have n2 := PH_nn r (h + sg b)
    show lf h + PH (h + sg b) r = 0 ↔ _
    have e : lf h + PH (h + sg b) r = 0 ↔ lf h = 0 ∧ PH (h + sg b) r = 0 := by omega
    rw [e, lf_zero, PH_zero r (h + sg b)]
    constructor
    · rintro ⟨h1, h2⟩ j hj
      cases j with
      | zero => show 0 ≤ h + 0; omega
      | succ j =>
        have := h2 j (by simpa using hj)
        show 0 ≤ h + (sg b + hgt (r.take j))
        omega
    · intro hh
      refine ⟨by have := hh 0 (Nat.zero_le _); have e : hgt ((b :: r).take 0) = 0 := rfl; omega, fun j hj => ?_⟩
      have := hh (j + 1) (by simpa using hj)
      have e : hgt ((b :: r).take (j + 1)) = sg b + hgt (r.take j) := rfl
      omega
def pot (r : List Bool) : Int := PH 0 r
theorem pot_nn (r : List Bool) : 0 ≤ pot r := PH_nn r 0
theorem isR_pot {r : List Bool} : isR r = true ↔ hgt r = 0 ∧ pot r = 0 := by
  rw [isR_iff]
  unfold pot
  rw [PH_zero]
  simp only [Int.zero_add]
theorem pot_sum (r : List Bool) : ((dps r).map lf).sum = pot r := by
  have : ∀ (r : List Bool) (h : Int), (((List.range (r.length + 1)).map fun j => h + hgt (r.take j)).map lf).sum = PH h r := by
    intro r
    induction r with
    | nil => intro h; show lf (h + 0) + 0 = lf h; rw [Int.add_zero, Int.add_zero]
    | cons b r ih =>
      intro h
      rw [show (b :: r).length + 1 = (r.length + 1) + 1 from rfl, List.range_succ_eq_map, List.map_cons, List.map_cons, List.sum_cons]
      have e0 : h + hgt ((b :: r).take 0) = h := by show h + 0 = h; omega
      have e1 : (fun j => h + hgt ((b :: r).take j)) ∘ Nat.succ = fun j => (h + sg b) + hgt (r.take j) := by
        funext j
        show h + (sg b + hgt (r.take j)) = _
        omega
      have e2 : (List.map Nat.succ (List.range (r.length + 1))).map (fun j => h + hgt ((b :: r).take j)) = (List.range (r.length + 1)).map fun j => (h + sg b) + hgt (r.take j) := by rw [List.map_map, e1]
      rw [e0, e2, ih (h + sg b)]
      rfl
  have h0 := this r 0
  simp only [Int.zero_add] at h0
  exact h0
theorem hgt_swp {r : List Bool} {p : Int} (h : swOk r p = true) : hgt (swp r p.toNat) = hgt r := by
  obtain ⟨u, v, a, b, e, hl⟩ := split_at (swOk_len h).2
  rw [← hl, e, swp_split]
  simp only [hgt_app, hgt]
  omega
/-- an exchange changes what is lacking by one at the most -/
theorem pot_swp {r : List Bool} {p : Int} (h : swOk r p = true) : pot r - 1 ≤ pot (swp r p.toNat) := by
  have hp := swOk_len h
  obtain ⟨u, v, a, b, e, hl⟩ := split_at hp.2
  obtain ⟨c, hc⟩ := PH_app u [] 0
  rw [← hl, e, swp_split]
  unfold pot
  rw [hc, hc]
  show c + (lf _ + (lf (0 + hgt u + sg a) + PH (0 + hgt u + sg a + sg b) v)) - 1 ≤ c + (lf _ + (lf (0 + hgt u + sg b) + PH (0 + hgt u + sg b + sg a) v))
  rw [show 0 + hgt u + sg b + sg a = 0 + hgt u + sg a + sg b by omega]
  have st := lf_step (0 + hgt u)
  have e1 : (0 + hgt u + -1 : Int) = 0 + hgt u - 1 := by omega
  cases a <;> cases b <;> simp only [sg, if_true, Bool.false_eq_true, if_false]
  · omega
  · rw [e1]
    split at st <;> omega
  · rw [e1]
    split at st <;> omega
  · omega
theorem pot_swp_low {r : List Bool} {p : Int} (h : swOk r p = true) (ha : r[p.toNat]? = some false) (hh : hgt (r.take p.toNat) ≤ 0) : pot (swp r p.toNat) = pot r - 1 := by
  have hp := swOk_len h
  obtain ⟨u, v, a, b, e, hl⟩ := split_at hp.2
  have hok : a ≠ b := by
    have := swOk_split u v a b
    rw [hl, Int.toNat_of_nonneg hp.1, ← e, h] at this
    simpa using this.symm
  rw [← hl] at ha hh ⊢
  subst e
  rw [List.getElem?_append_right (Nat.le_refl _), Nat.sub_self] at ha
  cases ha
  rw [List.take_left] at hh
  have hb : b = true := by cases b; exact absurd rfl hok; rfl
  subst hb
  obtain ⟨c, hc⟩ := PH_app u [] 0
  rw [swp_split]
  unfold pot
  rw [hc, hc]
  show c + (lf _ + (lf (0 + hgt u + 1) + PH (0 + hgt u + 1 + -1) v)) = c + (lf _ + (lf (0 + hgt u + -1) + PH (0 + hgt u + -1 + 1) v)) - 1
  rw [show (0 + hgt u + 1 + -1 : Int) = 0 + hgt u + -1 + 1 by omega]
  have st := lf_step (0 + hgt u)
  rw [if_pos (by omega)] at st
  have e1 : (0 + hgt u + -1 : Int) = 0 + hgt u - 1 := by omega
  rw [e1]
  omega
/-- the first lowest spot: an exchange that mends -/
theorem low_spot {r : List Bool} {m : Int} {j : Nat} (h0 : hgt r = 0) (hm : m < 0) (hj : (dps r)[j]? = some m) (hmin : ∀ y ∈ dps r, m ≤ y) (hfirst : ∀ i, i < j → (dps r)[i]? ≠ some m) :
    swOk r ((j : Int) - 1) = true ∧ 0 < j ∧ r[j - 1]? = some false ∧ hgt (r.take (j - 1)) ≤ 0 := by
  have hjl : j ≤ r.length := by
    have := (List.getElem?_eq_some_iff.mp hj).1
    rw [dps_len] at this
    omega
  have ej : hgt (r.take j) = m := by
    rw [dps_get hjl] at hj
    exact Option.some.inj hj
  have hj0 : 0 < j := by
    rcases Nat.eq_zero_or_pos j with h | h
    · subst h
      have e : hgt (r.take 0) = 0 := rfl
      omega
    · exact h
  have hjn : j < r.length := by
    rcases Nat.lt_or_ge j r.length with h | h
    · exact h
    · rw [List.take_of_length_le h] at ej
      omega
  obtain ⟨a, ha⟩ : ∃ a, r[j - 1]? = some a := ⟨_, List.getElem?_eq_getElem (by omega)⟩
  obtain ⟨b, hb⟩ : ∃ b, r[j]? = some b := ⟨_, List.getElem?_eq_getElem hjn⟩
  have e1 : hgt (r.take j) = hgt (r.take (j - 1)) + sg a := by
    have := take_snoc ha
    rw [show j - 1 + 1 = j by omega] at this
    rw [this, hgt_app]
    simp [hgt]
  have e2 : hgt (r.take (j + 1)) = hgt (r.take j) + sg b := by
    rw [take_snoc hb, hgt_app]
    simp [hgt]
  have g1 : m ≤ hgt (r.take (j - 1)) := hmin _ (mem_dps.mpr ⟨j - 1, by omega, rfl⟩)
  have g2 : m ≤ hgt (r.take (j + 1)) := hmin _ (mem_dps.mpr ⟨j + 1, by omega, rfl⟩)
  have g3 : hgt (r.take (j - 1)) ≠ m := fun h => hfirst (j - 1) (by omega) (by rw [dps_get (by omega), h])
  have ea : a = false := by
    cases a
    · rfl
    · simp only [sg, if_true] at e1
      omega
  have eb : b = true := by
    cases b
    · simp only [sg, Bool.false_eq_true, if_false] at e2
      omega
    · rfl
  subst ea eb
  refine ⟨?_, hj0, ha, ?_⟩
  · unfold swOk
    rw [show ((j : Int) - 1).toNat = j - 1 by omega, ha, show j - 1 + 1 = j by omega, hb]
    have h1 : (0 : Int) ≤ (j : Int) - 1 := by omega
    have h2 : (j : Int) - 1 < (r.length : Int) - 1 := by omega
    rw [decide_eq_true h1, decide_eq_true h2]
    rfl
  · simp only [sg, Bool.false_eq_true, if_false] at e1
    omega
end BM
namespace BM
open PySem PySem.Spec PyProof.Rows L2 Evl
/-! ### counting signs, the place of a number -/
theorem cnt_T (b : Bool) : ∀ r : List Bool, cnt (B b) (r.map B) = (r.count b : Int)
  | [] => rfl
  | a :: r => by
    rw [List.map_cons, cnt_cons, cnt_T b r, List.count_cons]
    by_cases e : a = b
    · subst e
      simp
      omega
    · have e2 : ¬ B a = B b := fun h => e (B_inj h)
      simp [e, e2]
theorem count_T (r : List Bool) (b : Bool) : Txt.count (T r) (T [b]) = (r.count b : Int) := by
  rw [← cnt_T b r, ← T_list]
  exact count_cnt (T r) (B b)
def aCountT : V → List V → Hp → VK → Prop := fun x xs H Q => ∃ (r : List Bool) (b : Bool), x = .str (T r) ∧ xs = [.str (T [b])] ∧ Q (.int (r.count b : Int)) H
def aIndex (K : PySem.W.Frag) : V → List V → Hp → VK → Prop := fun x xs H Q => ∃ (a : Addr) (ns : List Int) (n : Int) (j : Nat), x = .ref a ∧ xs = [.int n] ∧ SqL K H a (ns.map V.int) ∧ ns[j]? = some n ∧ (∀ m, m < j → ns[m]? ≠ some n) ∧ Q (.int (j : Int)) H
def aIsiC (K : PySem.W.Frag) (c : Addr) : List V → Hp → VK → Prop := fun xs H Q => ∃ (x : V) (t : Value) (b : Bool), xs = [x, .ref c] ∧ TyX K H x t ∧ PySem.W.kitOne K t (.ref c) = some b ∧ Q (.bl b) H
section
variable {X : Cx}
theorem m_countT : MtR X "str.count" aCountT := MtR.imp mt_count fun x xs H Q ⟨r, b, e1, e2, q⟩ => ⟨T r, T [b], e1, e2, by rw [count_T]; exact q⟩
theorem m_index : MtR X "list.index" (aIndex X.K) := MtR.imp mt_index fun x xs H Q ⟨a, ns, n, j, e1, e2, hs, hj, hn, q⟩ => ⟨a, ns.map V.int, .int n, j, .int n, e1, e2, hs, rfl, by rw [List.all_map, List.all_eq_true]; exact fun _ _ => rfl, by rw [List.getElem?_map, hj]; rfl, by show (n == n) = true; simp, fun m z hm hz => by
  rw [List.getElem?_map] at hz
  cases e : ns[m]? with
  | none => rw [e] at hz; cases hz
  | some k =>
    rw [e] at hz
    cases hz
    show (k == n) = false
    have : k ≠ n := fun h => hn m hm (by rw [e, h])
    simpa using this, q⟩
theorem c_isiC (c : Addr) : CallR X (.builtin "isinstance") (aIsiC X.K c) := CallR.imp call_isi fun xs H Q ⟨x, t, b, e, ty, k, q⟩ => ⟨x, .ref c, t, .ref c, b, e, .own c, ty, k, q⟩
end
section
variable {K : PySem.W.Frag} {H0 : Hp} {σ : L2.St} {s : Ld} {Q : V → Ld → Prop} {x : V}
theorem wm_countT {r : List Bool} {b : Bool} (q : Q (.int (r.count b : Int)) s) : WM H0 aCountT (.str (T r)) [.str (T [b])] s Q := fun H o R k => ⟨r, b, rfl, rfl, k _ H s o q⟩
theorem wm_index {a : Addr} {ns : List Int} {n : Int} {j : Nat} (hx : IsL K H0 s a (ns.map V.int)) (hj : ns[j]? = some n) (hn : ∀ m, m < j → ns[m]? ≠ some n) (q : Q (.int (j : Int)) s) : WM H0 (aIndex K) (.ref a) [.int n] s Q := fun H o R k => ⟨a, ns, n, j, rfl, rfl, hx H o, hj, hn, k _ H s o q⟩
theorem wl_isiC {c : Addr} {t : Value} {b : Bool} (ty : ∀ H, Own H0 H s → TyX K H x t) (hk : PySem.W.kitOne K t (.ref c) = some b) (q : Q (.bl b) s) : WL H0 (aIsiC K c) [x, .ref c] s Q := fun H o R k => ⟨x, t, b, rfl, ty H o, hk, k _ H s o q⟩
end
/-- a class of answers as it stands -/
structure Anc (K : PySem.W.Frag) (C : Addr) : Prop where
  cl : Cls K C
  ha : PySem.W.findIn K (.ref C) "__class__" = some (some (.builtin "object.__class__"))
  hn : PySem.W.specialIn K (.builtin "object.__class__") "__get__" = some (some (.builtin "getset_descriptor.__get__"))
  ht : PySem.W.takesIn K (.builtin "object.__class__") = some true
  hm : PySem.W.mroIn K C (.type "object") = some true
theorem Anc.ty {K : PySem.W.Frag} {C a dx : Addr} {H : Hp} {fs : List (Str × V)} (h : Anc K C) (e : H a = some (.ins C dx fs)) : TyX K H (.ref a) (.ref C) := .base (.ins e h.cl h.ha h.hn h.ht h.hm)
/-! ### a method of one of two classes -/
section
variable {X : Cx} {CX : CXT} {k1 k2 : Nat} {f1 f2 C1 C2 : Addr} {fd1 fd2 : FuncData} {ps1 ps2 : List Str} {sp1 sp2 : Sp} {E : XK} {m : Str} {pos apos : Pos} {e o : Expr} {es : List Expr} {ta : TE} {t : TA}
def tMethU (C1 C2 : Addr) (m : Str) (sp1 sp2 : Sp) (E : XK) (ta : TE) (t : TA) : TE := fun σ H Q => ta σ H fun x H1 => ∃ a C dx fs, x = .ref a ∧ H1 a = some (.ins C dx fs) ∧ fs.lookup m = none ∧ ((C = C1 ∧ t σ H1 fun vs H2 => sp1 (x :: vs) H2 Q E) ∨ (C = C2 ∧ t σ H1 fun vs H2 => sp2 (x :: vs) H2 Q E))
theorem pe_methU {pl : Sem Bool} (he : PE X o ta) (c1 : Cls X.K C1) (m1 : Meth X.K C1 m f1) (F1 : FnOk X.prog X.w X.K X.mg X.base CX k1 f1 fd1 ps1 sp1) (hr1 : Room k1 X.A) (b1 : Binds X.K fd1 ps1 []) (c2 : Cls X.K C2) (m2 : Meth X.K C2 m f2) (F2 : FnOk X.prog X.w X.K X.mg X.base CX k2 f2 fd2 ps2 sp2) (hr2 : Room k2 X.A) (b2 : Binds X.K fd2 ps2 []) (hx : Passes CX X E) (ha : PA X (e :: es) t)
    (h1 : starEach (e :: es) X.env = (false, eval e X.env) :: starEach es X.env := by rfl) (h2 : (backTo pos (starEach es X.env)).any (·.1) = false := by rfl)
    (h3 : eval (.Call (.Attribute o m apos) (e :: es) [] pos) X.env = (eval o X.env >>= fun ov => standAt apos.atName >>= fun _ => holding [ov] (getMethod ov m pl) >>= fun (f, first) => callWith pos f first (backTo pos (starEach (e :: es) X.env)) (backToKw pos (keywordEach [] X.env))) := by rfl) :
    PE X (.Call (.Attribute o m apos) (e :: es) [] pos) (tMethU C1 C2 m sp1 sp2 E ta t) := by
  refine ⟨fun pins s σ H Q I h => PySem.W.methodCall_KW (pl := pl) (L2.thn (he.run pins s σ H _ I h) fun u s1 ⟨x, H1, I1, rx, a, C, dx, fs, ex, ea, l, q⟩ => ?_) h3⟩
  cases ex
  cases (show u = Value.ref a from rx)
  rcases q with ⟨rfl, q⟩ | ⟨rfl, q⟩
  · refine getmeth_ok I1 ea c1 m1 l (PySem.W.callWith_K (first := [.ref a]) (h₀ := X.base) I.ok.mod.kin m1.kp (L2.thn (ha.run pos pins s1 σ H1 _ I1 q) fun us s2 ⟨vs, H2, I2, r, q2⟩ => ⟨I2.kIn, ?_⟩) h1 h2)
    exact run_fn (us := .ref a :: us) (vs := .ref a :: vs) (dvs := []) F1 hr1 b1 .nil hx I2 (.cons rfl r) (by rw [List.append_nil]; exact q2)
  · refine getmeth_ok I1 ea c2 m2 l (PySem.W.callWith_K (first := [.ref a]) (h₀ := X.base) I.ok.mod.kin m2.kp (L2.thn (ha.run pos pins s1 σ H1 _ I1 q) fun us s2 ⟨vs, H2, I2, r, q2⟩ => ⟨I2.kIn, ?_⟩) h1 h2)
    exact run_fn (us := .ref a :: us) (vs := .ref a :: vs) (dvs := []) F2 hr2 b2 .nil hx I2 (.cons rfl r) (by rw [List.append_nil]; exact q2)
end
section
variable {K : PySem.W.Frag} {H0 : Hp} {σ : L2.St} {s : Ld} {ta : TA} {te : TE} {Q : V → Ld → Prop} {m : Str} {E : XK} {C1 C2 : Addr} {sp1 sp2 : Sp}
theorem we_methU (h : WE H0 te σ s fun x s1 => ∃ a C dx fs, x = .ref a ∧ (∀ H, Own H0 H s1 → H a = some (.ins C dx fs)) ∧ fs.lookup m = none ∧ ((C = C1 ∧ WA H0 ta σ s1 fun vs s2 => WC H0 sp1 E (x :: vs) s2 Q) ∨ (C = C2 ∧ WA H0 ta σ s1 fun vs s2 => WC H0 sp2 E (x :: vs) s2 Q))) : WE H0 (tMethU C1 C2 m sp1 sp2 E te ta) σ s Q := fun H o R k =>
  h H o _ fun x H1 s1 o1 ⟨a, C, dx, fs, e, ha, hl, h1⟩ => ⟨a, C, dx, fs, e, ha H1 o1, hl, h1.imp (fun ⟨e, h1⟩ => ⟨e, h1 H1 o1 _ fun vs H2 s2 o2 h2 => h2 H2 o2 R k⟩) (fun ⟨e, h1⟩ => ⟨e, h1 H1 o1 _ fun vs H2 s2 o2 h2 => h2 H2 o2 R k⟩)⟩
end
end BM
namespace BM
open PySem L2 Evl
abbrev uIns (C : CA) (d : Addr) (z : Int) : HO := .ins C.c_Uneven d [("depth", .int z)]
abbrev sIns (C : CA) (d a b : Addr) : HO := .ins C.c_Swapped d [("places", .ref a), ("lifts", .ref b)]
structure UnC (K : PySem.W.Frag) (C : CA) : Prop where
  c : Anc K C.c_Uneven
  n : NoAttr K C.c_Uneven "depth"
structure SwC (K : PySem.W.Frag) (C : CA) : Prop where
  c : Anc K C.c_Swapped
  np : NoAttr K C.c_Swapped "places"
  nl : NoAttr K C.c_Swapped "lifts"
/-- what the answers' classes are to one another -/
structure Ex02 (K : PySem.W.Frag) (C : CA) : Prop where
  u : UnC K C
  s : SwC K C
  ua : PySem.W.kitOne K (.ref C.c_Uneven) (.ref C.c_Answer) = some true
  sa : PySem.W.kitOne K (.ref C.c_Swapped) (.ref C.c_Answer) = some true
  ut : PySem.W.kitOne K (.ref C.c_Uneven) (.ref C.c_Turned) = some false
  st : PySem.W.kitOne K (.ref C.c_Swapped) (.ref C.c_Turned) = some false
  uo : PySem.W.kitOne K (.ref C.c_Uneven) (.ref C.c_Odd) = some false
  so : PySem.W.kitOne K (.ref C.c_Swapped) (.ref C.c_Odd) = some false
  ur : PySem.W.kitOne K (.ref C.c_Uneven) (.ref C.c_Rounded) = some false
  sr : PySem.W.kitOne K (.ref C.c_Swapped) (.ref C.c_Rounded) = some false
  us : PySem.W.kitOne K (.ref C.c_Uneven) (.ref C.c_Swapped) = some false
  su : PySem.W.kitOne K (.ref C.c_Swapped) (.ref C.c_Uneven) = some false
def unSh (r : List Bool) (z : Int) : Bool := decide (z ≠ 0) && decide (hgt r = z)
def zipOk (p : Int × Int) : Bool := !(decide (p.2 < 0) || (decide (p.2 > 0) && decide (p.1 + 2 * (p.2 - 1) ≥ 0)))
def swSh (r : List Bool) (ps ls : List Int) : Bool := match swAll r ps with
  | none => false
  | some u => isR u && (decide (ls.length = r.length + 1) && (decide (ls.sum = (ps.length : Int)) && ((dps r).zip ls).all zipOk))
def sp_u_init (K : PySem.W.Frag) (C : CA) : Sp := fun vs H Q _ => ∃ (x d : Addr) (z : Int), UnC K C ∧ vs = [.ref x, .int z] ∧ H x = some (.ins C.c_Uneven d []) ∧ chg x (uIns C d z) .non H Q
def sp_u_shows (K : PySem.W.Frag) (C : CA) : Sp := spV fun vs H v => ∃ (g d : Addr) (z : Int) (r : List Bool), UnC K C ∧ vs = [.ref g, .str (T r)] ∧ H g = some (uIns C d z) ∧ r.length ≤ 1000 ∧ v = .bl (unSh r z)
def sp_s_init (K : PySem.W.Frag) (C : CA) : Sp := fun vs H Q _ => ∃ (x d a b : Addr) (ps ls : List Int), SwC K C ∧ vs = [.ref x, .ref a, .ref b] ∧ H x = some (.ins C.c_Swapped d []) ∧ SqL K H a (ps.map V.int) ∧ SqL K H b (ls.map V.int) ∧ a ≠ x ∧ b ≠ x ∧
  ∀ H' a2 b2, Ex (del x H) H' → del x H a2 = none → del x H b2 = none → [b2, a2, x].Nodup → H' x = some (sIns C d a2 b2) → H' a2 = some (.lst (ps.map V.int)) → H' b2 = some (.lst (ls.map V.int)) → Q .non H'
def sp_s_shows (K : PySem.W.Frag) (C : CA) : Sp := spV fun vs H v => ∃ (g d a b : Addr) (ps ls : List Int) (r : List Bool), SwC K C ∧ vs = [.ref g, .str (T r)] ∧ H g = some (sIns C d a b) ∧ SqL K H a (ps.map V.int) ∧ SqL K H b (ls.map V.int) ∧ r.length ≤ 1000 ∧ v = .bl (swSh r ps ls)
def sp__law_swapped (K : PySem.W.Frag) (C : CA) : Sp := spV fun vs H v => ∃ (r : List Bool) (a b : Addr) (ps ls : List Int), vs = [.str (T r), .ref a, .ref b] ∧ SqL K H a (ps.map V.int) ∧ SqL K H b (ls.map V.int) ∧ r.length ≤ 1000 ∧ v = .bl (swSh r ps ls)
def sp__law_uneven (K : PySem.W.Frag) (C : CA) : Sp := spV fun vs H v => ∃ (r : List Bool) (z : Int), vs = [.str (T r), .int z] ∧ r.length ≤ 1000 ∧ v = .bl (unSh r z)
/-- an answer to «mend by exchanges» -/
def SwAns (K : PySem.W.Frag) (C : CA) (H : Hp) (x : Addr) (f : List Bool → Bool) : Prop := (∃ d z, H x = some (uIns C d z) ∧ f = fun r => unSh r z) ∨ (∃ d a b ps ls, H x = some (sIns C d a b) ∧ SqL K H a (ps.map V.int) ∧ SqL K H b (ls.map V.int) ∧ f = fun r => swSh r ps ls)
def sp_swaps (K : PySem.W.Frag) (C : CA) : Sp := fun vs H Q _ => ∃ r : List Bool, Ex02 K C ∧ vs = [.str (T r)] ∧ r.length ≤ 40 ∧
  (hgt r ≠ 0 → ∀ H' x d, Ex H H' → H x = none → H' x = some (uIns C d (hgt r)) → Q (.ref x) H') ∧
  (hgt r = 0 → ∀ H' x d a b ps u, Ex H H' → H x = none → H a = none → H b = none → [b, a, x].Nodup → H' x = some (sIns C d a b) → H' a = some (.lst (ps.map V.int)) → H' b = some (.lst (((dps r).map lf).map V.int)) → swAll r ps = some u → isR u = true → (ps.length : Int) = pot r → Q (.ref x) H')
def sp__law_due02 (K : PySem.W.Frag) (C : CA) : Sp := spV fun vs H v => ∃ (r : List Bool) (x : Addr) (f : List Bool → Bool), Ex02 K C ∧ vs = [.str (T r), .ref x] ∧ r.length ≤ 1000 ∧ SwAns K C H x f ∧ v = .bl (f r)
def sp__law_right02 (K : PySem.W.Frag) (C : CA) : Sp := spV fun vs H v => ∃ (r : List Bool) (b : Addr) (rs : List (List Bool)), Ex02 K C ∧ vs = [.str (T r), .ref b] ∧ r.length ≤ 40 ∧ SqL K H b (rs.map fun r => .str (T r)) ∧ (∀ u ∈ rs, u.length ≤ 1000) ∧ v = .bl true
end BM
namespace BM
open PySem L2 Evl
def N_u_init : List Str := ["self", "depth"]
def rd_u_init (K : PySem.W.Frag) (C_ : CA) : TS :=
    (sFld K (tVar 0) (tVar 1) "depth")

def N_u_shows : List Str := ["self", "row"]
def rd_u_shows (K : PySem.W.Frag) (C_ : CA) : TS :=
    (tRet (tAndV (tOp rNe (tFld K (tVar 0) "depth") (tC (.int 0))) (tOp rEq (tOp (rIxL K) (tCall (sp_depths_of K C_) [] E0 (tCons (tVar 1) tNil)) (tUn aNeg (tC (.int 1)))) (tFld K (tVar 0) "depth"))))

def N_s_init : List Str := ["self", "places", "lifts"]
def rd_s_init (K : PySem.W.Frag) (C_ : CA) : TS :=
    (tSeq (sFld K (tVar 0) (tCB (aListOf K) (tCons (tVar 1) tNil)) "places")
    (sFld K (tVar 0) (tCB (aListOf K) (tCons (tVar 2) tNil)) "lifts"))

def N_s_shows : List Str := ["self", "row", "now", "place", "depth", "lift"]
def rd_s_shows (K : PySem.W.Frag) (C_ : CA) : TS :=
    (tSeq (tAsg (tVar 1) (gName 2))
    (tSeq (tFor (iList K (tFld K (tVar 0) "places")) (gName 3) (tSeq (tIfS (tOr (tNot (tTest (tChain aLe aLt (tC (.int 0)) (tVar 3) (tOp aSub (tCB aLenT (tCons (tVar 1) tNil)) (tC (.int 1)))))) (tTest (tOp rEq (tOp aIxT (tVar 2) (tVar 3)) (tOp aIxT (tVar 2) (tOp aAdd (tVar 3) (tC (.int 1))))))) (tRet (tC (.bl false))) tNext)
    (tAsg (tCall (sp_swapped K C_) [] E0 (tCons (tVar 2) (tCons (tVar 3) tNil))) (gName 2))))
    (tSeq (tIfS (tOr (tNot (tB (tCall (sp_is_right_row K C_) [] E0 (tCons (tVar 2) tNil)))) (tOr (tTest (tOp rNe (tCB (aLenL K) (tCons (tFld K (tVar 0) "lifts") tNil)) (tOp aAdd (tCB aLenT (tCons (tVar 1) tNil)) (tC (.int 1))))) (tTest (tOp rNe (tCB (rSum K) (tCons (tFld K (tVar 0) "lifts") tNil)) (tCB (aLenL K) (tCons (tFld K (tVar 0) "places") tNil)))))) (tRet (tC (.bl false))) tNext)
    (tSeq (tFor (iZip K (tCons (tCall (sp_depths_of K C_) [] E0 (tCons (tVar 1) tNil)) (tCons (tFld K (tVar 0) "lifts") tNil))) (gTup K 2 (gCons (gName 4) (gCons (gName 5) gNil))) (tIfS (tOr (tTest (tOp aLt (tVar 5) (tC (.int 0)))) (tAnd (tTest (tOp aGt (tVar 5) (tC (.int 0)))) (tTest (tOp aGe (tOp aAdd (tVar 4) (tOp aMul (tC (.int 2)) (tOp aSub (tVar 5) (tC (.int 1))))) (tC (.int 0)))))) (tRet (tC (.bl false))) tNext))
    (tRet (tC (.bl true)))))))

def N__law_swapped : List Str := ["_law_row_here", "_law_places", "_law_lifts", "_law_now", "_law_place", "_law_depth", "_law_lift"]
def rd__law_swapped (K : PySem.W.Frag) (C_ : CA) : TS :=
    (tSeq (tAsg (tVar 0) (gName 3))
    (tSeq (tFor (iList K (tVar 1)) (gName 4) (tSeq (tAsg (tCall (sp__law_swap K C_) [] E0 (tCons (tVar 3) (tCons (tVar 4) tNil))) (gName 3))
    (tIfS (tTest (tOp aIsN (tVar 3) (tC .non))) (tRet (tC (.bl false))) tNext)))
    (tSeq (tIfS (tOr (tNot (tB (tCall (sp__law_good K C_) [] E0 (tCons (tVar 3) tNil)))) (tOr (tTest (tOp rNe (tCB (aLenL K) (tCons (tVar 2) tNil)) (tOp aAdd (tCB aLenT (tCons (tVar 0) tNil)) (tC (.int 1))))) (tTest (tOp rNe (tCB (rSum K) (tCons (tVar 2) tNil)) (tCB (aLenL K) (tCons (tVar 1) tNil)))))) (tRet (tC (.bl false))) tNext)
    (tSeq (tFor (iZip K (tCons (tCall (sp__law_depths K C_) [] E0 (tCons (tVar 0) tNil)) (tCons (tVar 2) tNil))) (gTup K 2 (gCons (gName 5) (gCons (gName 6) gNil))) (tIfS (tOr (tTest (tOp aLt (tVar 6) (tC (.int 0)))) (tAnd (tTest (tOp aGt (tVar 6) (tC (.int 0)))) (tTest (tOp aGe (tOp aSub (tOp aAdd (tVar 5) (tOp aMul (tC (.int 2)) (tVar 6))) (tC (.int 2))) (tC (.int 0)))))) (tRet (tC (.bl false))) tNext))
    (tRet (tC (.bl true)))))))

def N__law_uneven : List Str := ["_law_row_here", "_law_depth"]
def rd__law_uneven (K : PySem.W.Frag) (C_ : CA) : TS :=
    (tRet (tAndV (tOp rNe (tVar 1) (tC (.int 0))) (tOp rEq (tOp aSub (tBM K "str" aCountT (tVar 0) (tCons (tC (.str (T [true]))) tNil)) (tBM K "str" aCountT (tVar 0) (tCons (tC (.str (T [false]))) tNil))) (tVar 1))))

def N_swaps : List Str := ["row", "found", "lifts", "places", "now", "here", "least", "place", "depth"]
def rd_swaps (K : PySem.W.Frag) (C_ : CA) : TS :=
    (tSeq (tDrop (tCall (sp_asked_row K C_) [] E0 (tCons (tVar 0) tNil)))
    (tSeq (tAsg (tCall (sp_depths_of K C_) [] E0 (tCons (tVar 0) tNil)) (gName 1))
    (tSeq (tIfS (tTest (tOp rNe (tOp (rIxL K) (tVar 1) (tUn aNeg (tC (.int 1)))) (tC (.int 0)))) (tRet (tMake C_.c_Uneven (sp_u_init K C_) [] E0 (tCons (tOp (rIxL K) (tVar 1) (tUn aNeg (tC (.int 1)))) tNil))) tNext)
    (tSeq (tPar3 2 3 4 (tCons (tLc (iList K (tVar 1)) (gName 8) tYes (tOp aDiv (tCB aMax2 (tCons (tC (.int 0)) (tCons (tOp aSub (tC (.int 1)) (tVar 8)) tNil))) (tC (.int 2))) [8]) (tCons (tLst tNil) (tCons (tVar 0) tNil))))
    (tSeq (tWhile (tNot (tB (tCall (sp_is_right_row K C_) [] E0 (tCons (tVar 4) tNil)))) (tSeq (tAsg (tCall (sp_depths_of K C_) [] E0 (tCons (tVar 4) tNil)) (gName 5))
    (tSeq (tAsg (tCB (rMin K) (tCons (tVar 5) tNil)) (gName 6))
    (tSeq (tAsg (tOp aSub (tBM K "list" (aIndex K) (tVar 5) (tCons (tVar 6) tNil)) (tC (.int 1))) (gName 7))
    (tSeq (tDrop (tBM K "list" rAppend (tVar 3) (tCons (tVar 7) tNil)))
    (tAsg (tCall (sp_swapped K C_) [] E0 (tCons (tVar 4) (tCons (tVar 7) tNil))) (gName 4)))))))
    (tRet (tMake C_.c_Swapped (sp_s_init K C_) [] E0 (tCons (tVar 3) (tCons (tVar 2) tNil)))))))))

def N__law_due02 : List Str := ["_law_row_here", "_law_answer"]
def rd__law_due02 (K : PySem.W.Frag) (C_ : CA) : TS :=
    (tSeq (tIfS (tB (tCB (aIsiC K C_.c_Uneven) (tCons (tVar 1) (tCons (tC (.ref C_.c_Uneven)) tNil)))) (tRet (tCall (sp__law_uneven K C_) [] E0 (tCons (tVar 0) (tCons (tFld K (tVar 1) "depth") tNil)))) tNext)
    (tRet (tCall (sp__law_swapped K C_) [] E0 (tCons (tVar 0) (tCons (tFld K (tVar 1) "places") (tCons (tFld K (tVar 1) "lifts") tNil))))))

def N__law_right02 : List Str := ["_law_row_here", "_law_others", "_law_even", "_law_again", "_law_answer", "_law_other"]
def rd__law_right02 (K : PySem.W.Frag) (C_ : CA) : TS :=
    (tSeq (tAsg (tOp rEq (tBM K "str" aCountT (tVar 0) (tCons (tC (.str (T [true]))) tNil)) (tBM K "str" aCountT (tVar 0) (tCons (tC (.str (T [false]))) tNil))) (gName 2))
    (tSeq (tFor (iRng1 (tCons (tC (.int 2)) tNil)) (gName 3) (tSeq (tAsg (tCall (sp_swaps K C_) [] E0 (tCons (tVar 0) tNil)) (gName 4))
    (tSeq (tIfS (tOr (tNot (tB (tCB (aIsiC K C_.c_Answer) (tCons (tVar 4) (tCons (tC (.ref C_.c_Answer)) tNil))))) (tB (tCB (aIsiC K C_.c_Turned) (tCons (tVar 4) (tCons (tC (.ref C_.c_Turned)) tNil))))) (tRet (tC (.bl false))) tNext)
    (tSeq (tIfS (tOr (tB (tCB (aIsiC K C_.c_Odd) (tCons (tVar 4) (tCons (tC (.ref C_.c_Odd)) tNil)))) (tB (tCB (aIsiC K C_.c_Rounded) (tCons (tVar 4) (tCons (tC (.ref C_.c_Rounded)) tNil))))) (tRet (tC (.bl false))) tNext)
    (tSeq (tIfS (tTest (tOp (rNeD K) (tLst (tCons (tCB (aIsiC K C_.c_Swapped) (tCons (tVar 4) (tCons (tC (.ref C_.c_Swapped)) tNil))) (tCons (tCB (aIsiC K C_.c_Uneven) (tCons (tVar 4) (tCons (tC (.ref C_.c_Uneven)) tNil))) tNil))) (tLst (tCons (tVar 2) (tCons (tNotV (tVar 2)) tNil))))) (tRet (tC (.bl false))) tNext)
    (tSeq (tIfS (tOr (tNot (tB (tCall (sp__law_due02 K C_) [] E0 (tCons (tVar 0) (tCons (tVar 4) tNil))))) (tTest (tOp aNotB (tMethU C_.c_Uneven C_.c_Swapped "shows" (sp_u_shows K C_) (sp_s_shows K C_) E0 (tVar 4) (tCons (tVar 0) tNil)) (tC (.bl true))))) (tRet (tC (.bl false))) tNext)
    (tSeq (tFor (iList K (tVar 1)) (gName 5) (tIfS (tTest (tOp rNe (tMethU C_.c_Uneven C_.c_Swapped "shows" (sp_u_shows K C_) (sp_s_shows K C_) E0 (tVar 4) (tCons (tVar 5) tNil)) (tCall (sp__law_due02 K C_) [] E0 (tCons (tVar 5) (tCons (tVar 4) tNil))))) (tRet (tC (.bl false))) tNext))
    (tIfS (tB (tVar 2)) (tSeq (tDrop (tBM K "list" rAppend (tFld K (tVar 4) "lifts") (tCons (tC (.int 0)) tNil)))
    (tIfS (tTest (tOp aNotB (tMethU C_.c_Uneven C_.c_Swapped "shows" (sp_u_shows K C_) (sp_s_shows K C_) E0 (tVar 4) (tCons (tVar 0) tNil)) (tC (.bl false)))) (tRet (tC (.bl false))) tNext)) tNext))))))))
    (tRet (tC (.bl true)))))

end BM
namespace BM
open PySem L2 Evl
local macro_rules | `(tactic| walk_at "mem") => `(tactic| first | exact List.mem_cons_self | (refine List.mem_cons_of_mem _ ?_; walk_at "mem"))
local macro_rules | `(tactic| walk_at "swap") => `(tactic| first | exact Swap.here | (apply Swap.there; walk_at "swap"))
local macro_rules | `(tactic| walk_at "subl") => `(tactic| first | exact List.Sublist.refl _ | exact List.nil_sublist _ | (refine List.Sublist.cons_cons _ ?_; walk_at "subl") | (refine List.Sublist.cons _ ?_; walk_at "subl"))
local macro_rules | `(tactic| walk_at "sub") => `(tactic| first | exact Sub.refl _ | (refine ⟨?_, ?_⟩ <;> walk_at "subl"))
local macro_rules | `(tactic| walk_at "isl") => `(tactic| first | exact isL_own (by walk_at "mem") | exact isL_old (by assumption) | assumption)
local macro_rules | `(tactic| walk_at "ist") => `(tactic| first | exact isT_own (by walk_at "mem") | exact isT_old (by assumption) | assumption)
local macro_rules | `(tactic| walk_at "len") => `(tactic| first | omega | decide | (simp only [List.length_map, List.length_take, List.length_drop, List.length_append, List.length_cons, List.length_nil, List.length_reverse, dps_len, flp_len]; omega) | (simp [dps_len, flp_len]; omega) | simp)
local macro_rules | `(tactic| walk_at "b0") => `(tactic| first
  | with_reducible refine' ws_set ?_
  | with_reducible refine' ws_par ?_
  | with_reducible refine' ws_asg ?_
  | with_reducible refine' ws_drop ?_
  | with_reducible refine' ws_ret ?_
  | with_reducible refine' ws_if ?_
  | with_reducible refine' ws_next ?_
  | with_reducible refine' ws_brk ?_
  | with_reducible refine' ws_cont ?_
  | ((with_reducible refine' we_var ?hv ?_); case hv => rfl)
  | with_reducible refine' we_c ?_
  | with_reducible refine' we_op ?_
  | with_reducible refine' we_un ?_
  | with_reducible refine' we_if ?_
  | with_reducible refine' we_and ?_
  | with_reducible refine' we_or ?_
  | with_reducible refine' we_not ?_
  | with_reducible refine' wa_nil ?_
  | with_reducible refine' wa_cons ?_
  | (with_reducible refine' we_lst ?_)
  | (with_reducible refine' we_tup ?_)
  | with_reducible refine' we_cb ?_
  | with_reducible refine' we_call0 ?_
  | with_reducible refine' we_sl ?_
  | with_reducible refine' wo_none ?_
  | (with_reducible refine' wo_some ?_)
  | with_reducible refine' wt_test ?_
  | with_reducible refine' wt_B ?_
  | with_reducible refine' wt_and ?_
  | with_reducible refine' wt_or ?_
  | with_reducible refine' wt_not ?_
  | with_reducible refine' wt_yes ?_
  | with_reducible refine' we_chain ?_
  | with_reducible refine' we_chain3 ?_
  | with_reducible refine' we_revT ?_
  | with_reducible refine' we_revL ?_
  | with_reducible refine' we_bm ?_
  | with_reducible refine' we_bm0 ?_
  | with_reducible refine' ws_for ?_
  | with_reducible refine' we_lc ?_
  | with_reducible refine' wi_list ?_
  | with_reducible refine' wi_tup ?_
  | with_reducible refine' wi_T ?_
  | with_reducible refine' wi_rng1 ?_
  | with_reducible refine' wi_rng2 ?_
  | with_reducible refine' wi_rng3 ?_
  | with_reducible refine' wi_enum ?_
  | with_reducible refine' wi_enumT ?_
  | with_reducible refine' wi_zip ?_
  | with_reducible refine' wg_name ?_
  | with_reducible refine' wg_sub ?_
  | with_reducible refine' wgs_nil ?_
  | with_reducible refine' wgs_cons ?_
  | ((with_reducible refine' wg_tup ?ht ?hn ?_); (case ht => walk_at "ist"); (case hn => rfl))
  | with_reducible refine' w2_add ?_
  | with_reducible refine' w2_sub ?_
  | with_reducible refine' w2_lt ?_
  | with_reducible refine' w2_le ?_
  | with_reducible refine' w2_gt ?_
  | with_reducible refine' w2_ge ?_
  | with_reducible refine' w2_eqI ?_
  | with_reducible refine' w2_neI ?_
  | with_reducible refine' w2_eqT ?_
  | with_reducible refine' w2_neT ?_
  | with_reducible refine' w2_eqB ?_
  | with_reducible refine' w2_neB ?_
  | with_reducible refine' w2_isN ?_
  | with_reducible refine' w2_notN ?_
  | with_reducible refine' w2_isB ?_
  | with_reducible refine' w2_inT ?_
  | with_reducible refine' w1_neg ?_
  | with_reducible refine' wl_abs ?_
  | with_reducible refine' wl_max2 ?_
  | with_reducible refine' wl_min2 ?_
  | with_reducible refine' wl_intB ?_
  | ((with_reducible refine' w2_div ?h ?_); case h => first | omega | (constructor <;> omega))
  | ((with_reducible refine' w2_mod ?h ?_); case h => omega)
  | ((with_reducible refine' w2_catT ?h ?_); case h => walk_at "len")
  | ((with_reducible refine' wsl_T ?h ?_); case h => walk_at "len")
  | ((with_reducible refine' wl_lenT ?h ?_); case h => walk_at "len")
  | ((with_reducible refine' wl_len ?h ?_); case h => walk_at "isl")
  | ((with_reducible refine' wl_len ?h ?_); case h => walk_at "isl")
  | ((with_reducible refine' wm_append ?sw ?hl ?_); (case sw => walk_at "swap"); (case hl => walk_at "len")))
local macro_rules | `(tactic| walk_at "b1") => `(tactic| first | with_reducible refine' ws_seq ?_ | walk_at "b0")
local macro_rules | `(tactic| walk_at "bx") => `(tactic| first
  | refine ⟨_, rfl, ?_⟩
  | refine ⟨_, _, rfl, ?_⟩
  | refine ⟨ty_L (by walk_at "isl"), ?_⟩
  | refine ⟨ty_S, ?_⟩
  | refine spl_t (by rfl) ?_
  | refine spl_f (by rfl) ?_
  | exact rfl)
local macro_rules | `(tactic| walk_at "bm") => `(tactic| repeat (first | walk_at "b1" | walk_at "bx"))
local macro_rules | `(tactic| walk_at "bn") => `(tactic| repeat (first | walk_at "b0" | walk_at "bx"))
local macro_rules | `(tactic| walk_at "b0") => `(tactic| with_reducible refine' c_deepens ?_)
local macro_rules | `(tactic| walk_at "b0") => `(tactic| ((with_reducible refine' c_depths_of ?hl ?_); (case hl => walk_at "len")))
local macro_rules | `(tactic| walk_at "b0") => `(tactic| with_reducible refine' c_is_wholeI ?_)
local macro_rules | `(tactic| walk_at "b0") => `(tactic| with_reducible refine' c_flipped ?_)
local macro_rules | `(tactic| walk_at "b0") => `(tactic| ((with_reducible refine' c_is_right_row ?hl ?_); (case hl => walk_at "len")))
local macro_rules | `(tactic| walk_at "b0") => `(tactic| ((with_reducible refine' c_asked_row ?hl ?_); (case hl => walk_at "len")))
local macro_rules | `(tactic| walk_at "b0") => `(tactic| ((with_reducible refine' c_depths ?hl ?_); (case hl => walk_at "len")))
local macro_rules | `(tactic| walk_at "b0") => `(tactic| ((with_reducible refine' c_is_right ?hl ?_); (case hl => walk_at "len")))
local macro_rules | `(tactic| walk_at "b0") => `(tactic| ((with_reducible refine' c__law_depths ?hl ?_); (case hl => walk_at "len")))
local macro_rules | `(tactic| walk_at "b0") => `(tactic| ((with_reducible refine' c__law_good ?hl ?_); (case hl => walk_at "len")))
local macro_rules | `(tactic| walk_at "b0") => `(tactic| ((with_reducible refine' wl_listOf ?hx ?_); (case hx => walk_at "isl")))
local macro_rules | `(tactic| walk_at "b0") => `(tactic| with_reducible refine' w2_notB ?_)
local macro_rules | `(tactic| walk_at "own") => `(tactic| exact own_l (by walk_at "mem"))
local macro_rules | `(tactic| walk_at "b0") => `(tactic| with_reducible refine' we_fld ?_)
local macro_rules | `(tactic| walk_at "b0") => `(tactic| refine ⟨_, _, _, _, _, rfl, own_l (by walk_at "mem"), Grw.cl (by assumption), Grw.nr (by assumption), by rfl, ?_⟩)
local macro_rules | `(tactic| walk_at "b0") => `(tactic| refine ⟨_, _, _, _, _, rfl, fun H' o => o.ex _ _ (by assumption), Grw.cl (by assumption), Grw.nr (by assumption), by rfl, ?_⟩)
local macro_rules | `(tactic| walk_at "b0") => `(tactic| with_reducible refine' we_meth ?_)
local macro_rules | `(tactic| walk_at "b0") => `(tactic| refine ⟨_, _, _, rfl, own_l (by walk_at "mem"), by rfl, ?_⟩)
local macro_rules | `(tactic| walk_at "b0") => `(tactic| refine ⟨_, _, _, rfl, fun H' o => o.ex _ _ (by assumption), by rfl, ?_⟩)
local macro_rules | `(tactic| walk_at "gown") => `(tactic| first | exact own_l (by walk_at "mem") | exact fun H' o => o.ex _ _ (by assumption))
local macro_rules | `(tactic| walk_at "b0") => `(tactic| with_reducible refine' wm_countT ?_)
theorem own_add {H0 H : Hp} {s : Ld} {p : Addr} {u : HO} (w : Own H0 H s) (h0 : H0 p = none) (hk : p ∉ s.L.map (·.1)) (h : H p = some u) : Own H0 H ⟨(p, u) :: s.L, s.T⟩ :=
  ⟨w.ex, List.nodup_cons.mpr ⟨hk, w.nd⟩, fun e he => by
    rcases List.mem_cons.mp he with rfl | h1
    · exact ⟨h0, h⟩
    · exact w.own e h1, w.tp⟩
theorem own_key {H0 H : Hp} {s : Ld} {p : Addr} (w : Own H0 H s) (hp : H p = none) : p ∉ s.L.map (·.1) := fun h => by
  obtain ⟨e, he, ee⟩ := List.mem_map.mp h
  have := (w.own e he).2
  rw [ee, hp] at this
  cases this
theorem sq_del {K : PySem.W.Frag} {H : Hp} {x a : Addr} {xs : List V} (h : a ≠ x) (hs : SqL K H a xs) : SqL K (del x H) a xs := by
  unfold SqL Rd at hs ⊢
  rw [del_ne h]
  exact hs
theorem ln_u_init {K : PySem.W.Frag} {C : CA} {vs : List V} {H : Hp} {Q : VK} {E : XK} (h : sp_u_init K C vs H Q E) : vs.length = 2 := by
  obtain ⟨x, d, z, _, rfl, _⟩ := h
  rfl
theorem pu_u_init {K : PySem.W.Frag} {C : CA} {vs : List V} {H : Hp} {Q : VK} {E : XK} (h : sp_u_init K C vs H Q E) : rd_u_init K C { nx := fun _ H' => Q .non H', rt := Q } (start N_u_init vs) H := by
  obtain ⟨x, d, z, hU, rfl, hx, k⟩ := h
  refine body_G hx ?_ k
  unfold rd_u_init
  refine ws_fld ?_
  walk_at "bm"
  exact ⟨x, _, d, [], _, rfl, Swap.here, hU.c.cl, hU.n, by decide, rfl, List.mem_cons_self⟩
theorem ln_u_shows {K : PySem.W.Frag} {C : CA} {vs : List V} {H : Hp} {Q : VK} {E : XK} (h : sp_u_shows K C vs H Q E) : vs.length = 2 := by
  obtain ⟨_, ⟨x, d, z, r, _, rfl, _⟩, _⟩ := h
  rfl
theorem pu_u_shows {K : PySem.W.Frag} {C : CA} {vs : List V} {H : Hp} {Q : VK} {E : XK} (h : sp_u_shows K C vs H Q E) : rd_u_shows K C { nx := fun _ H' => Q .non H', rt := Q } (start N_u_shows vs) H := by
  obtain ⟨_, ⟨g, d, z, r, hU, rfl, hg, hl, rfl⟩, k⟩ := h
  refine body_V ?_ k
  unfold rd_u_shows
  walk_at "bm"
  refine ⟨_, _, _, _, _, rfl, fun H' o => o.ex _ _ hg, hU.c.cl, hU.n, rfl, ?_⟩
  walk_at "bm"
  refine ⟨fun h => ?_, fun h => ?_⟩
  · walk_at "bm"
    intro f hf
    walk_at "bm"
    refine w2_ixL (by walk_at "isl") (dps_m1 _) ?_
    walk_at "bm"
    refine ⟨_, _, _, _, _, rfl, fun H' o => o.ex _ _ hg, hU.c.cl, hU.n, rfl, ?_⟩
    walk_at "bm"
    show V.bl _ = V.bl _
    unfold unSh
    have h' : z ≠ 0 := by simpa using h
    simp [h']
  · have h' : z = 0 := by simpa using h
    show V.bl _ = V.bl _
    unfold unSh
    simp [h']
theorem c_u_shows {K : PySem.W.Frag} {C : CA} {H0 : Hp} {s : Ld} {Q : V → Ld → Prop} {E : XK} {g d : Addr} {z : Int} {r : List Bool} (hU : UnC K C) (hg : ∀ H, Own H0 H s → H g = some (uIns C d z)) (hl : r.length ≤ 1000) (q : Q (.bl (unSh r z)) s) : WC H0 (sp_u_shows K C) E [.ref g, .str (T r)] s Q := wc_V (fun H o => ⟨g, d, z, r, hU, rfl, hg H o, hl, rfl⟩) q
theorem ln__law_uneven {K : PySem.W.Frag} {C : CA} {vs : List V} {H : Hp} {Q : VK} {E : XK} (h : sp__law_uneven K C vs H Q E) : vs.length = 2 := by
  obtain ⟨_, ⟨r, z, rfl, _⟩, _⟩ := h
  rfl
theorem pu__law_uneven {K : PySem.W.Frag} {C : CA} {vs : List V} {H : Hp} {Q : VK} {E : XK} (h : sp__law_uneven K C vs H Q E) : rd__law_uneven K C { nx := fun _ H' => Q .non H', rt := Q } (start N__law_uneven vs) H := by
  obtain ⟨_, ⟨r, z, rfl, hl, rfl⟩, k⟩ := h
  refine body_V ?_ k
  unfold rd__law_uneven
  walk_at "bm"
  refine ⟨fun h => ?_, fun h => ?_⟩
  · walk_at "bm"
    show V.bl _ = V.bl _
    unfold unSh
    have h' : z ≠ 0 := by simpa using h
    rw [hgt_count]
    simp [h']
  · have h' : z = 0 := by simpa using h
    show V.bl _ = V.bl _
    unfold unSh
    simp [h']
theorem c__law_uneven {K : PySem.W.Frag} {C : CA} {H0 : Hp} {s : Ld} {Q : V → Ld → Prop} {E : XK} {z : Int} {r : List Bool} (hl : r.length ≤ 1000) (q : Q (.bl (unSh r z)) s) : WC H0 (sp__law_uneven K C) E [.str (T r), .int z] s Q := wc_V (fun H o => ⟨r, z, rfl, hl, rfl⟩) q
theorem ln_s_init {K : PySem.W.Frag} {C : CA} {vs : List V} {H : Hp} {Q : VK} {E : XK} (h : sp_s_init K C vs H Q E) : vs.length = 3 := by
  obtain ⟨x, d, a, b, ps, ls, _, rfl, _⟩ := h
  rfl
theorem pu_s_init {K : PySem.W.Frag} {C : CA} {vs : List V} {H : Hp} {Q : VK} {E : XK} (h : sp_s_init K C vs H Q E) : rd_s_init K C { nx := fun _ H' => Q .non H', rt := Q } (start N_s_init vs) H := by
  obtain ⟨x, d, a, b, ps, ls, hS, rfl, hx, ha, hb, hax, hbx, k⟩ := h
  have ha' : SqL K (del x H) a (ps.map V.int) := sq_del hax ha
  have hb' : SqL K (del x H) b (ls.map V.int) := sq_del hbx hb
  have h1 : WS (del x H) (rd_s_init K C) (start N_s_init [.ref x, .ref a, .ref b]) ⟨[(x, .ins C.c_Swapped d [])], []⟩ { nx := fun _ s => ∃ a2 b2, Sub ⟨[(b2, .lst (ls.map V.int)), (a2, .lst (ps.map V.int)), (x, sIns C d a2 b2)], []⟩ s, rt := fun _ _ => False } := by
    unfold rd_s_init
    refine ws_seq (ws_fld ?_)
    walk_at "bm"
    intro a2 ha2
    walk_at "bm"
    refine ⟨x, _, d, [], _, rfl, Swap.there Swap.here, hS.c.cl, hS.np, by decide, ?_⟩
    refine ws_fld ?_
    walk_at "bm"
    intro b2 hb2
    walk_at "bm"
    refine ⟨x, _, d, _, _, rfl, Swap.there (Swap.there Swap.here), hS.c.cl, hS.nl, by show 1 < 1000; decide, ?_⟩
    exact ⟨a2, b2, Sub.refl _⟩
  refine h1 H (own_del hx) _ ⟨fun σ H' s w ⟨a2, b2, hs⟩ => ?_, (fun _ _ _ _ q => q.elim), (fun _ _ _ _ q => q.elim), (fun _ _ _ _ q => q.elim)⟩
  have w2 := w.sub hs
  have nd : [b2, a2, x].Nodup := w2.nd
  have ma := w2.own (a2, .lst (ps.map V.int)) (List.mem_cons_of_mem _ List.mem_cons_self)
  have mb := w2.own (b2, .lst (ls.map V.int)) List.mem_cons_self
  exact k H' a2 b2 w.ex ma.1 mb.1 nd (w2.own (x, sIns C d a2 b2) (List.mem_cons_of_mem _ (List.mem_cons_of_mem _ List.mem_cons_self))).2 ma.2 mb.2
theorem swSh_none {r : List Bool} {ps ls : List Int} (h : swAll r ps = none) : swSh r ps ls = false := by
  unfold swSh
  rw [h]
theorem swSh_some {r u : List Bool} {ps ls : List Int} (h : swAll r ps = some u) : swSh r ps ls = (isR u && (decide (ls.length = r.length + 1) && (decide (ls.sum = (ps.length : Int)) && ((dps r).zip ls).all zipOk))) := by
  unfold swSh
  rw [h]
theorem all_take {α : Type} {f : α → Bool} {xs : List α} {i : Nat} {x : α} (hx : xs[i]? = some x) (h : (xs.take i).all f = true) : (xs.take (i + 1)).all f = f x := by
  rw [take_snoc hx, List.all_append, h]
  simp
theorem all_bad {α : Type} {f : α → Bool} {xs : List α} {i : Nat} {x : α} (hx : xs[i]? = some x) (h : f x = false) : xs.all f = false := by
  rw [Bool.eq_false_iff]
  intro hh
  rw [List.all_eq_true.mp hh x (List.mem_of_getElem? hx)] at h
  cases h
theorem ln_s_shows {K : PySem.W.Frag} {C : CA} {vs : List V} {H : Hp} {Q : VK} {E : XK} (h : sp_s_shows K C vs H Q E) : vs.length = 2 := by
  obtain ⟨_, ⟨x, d, a, b, ps, ls, r, _, rfl, _⟩, _⟩ := h
  rfl
theorem pu_s_shows {K : PySem.W.Frag} {C : CA} {vs : List V} {H : Hp} {Q : VK} {E : XK} (h : sp_s_shows K C vs H Q E) : rd_s_shows K C { nx := fun _ H' => Q .non H', rt := Q } (start N_s_shows vs) H := by
  obtain ⟨_, ⟨g, d, a, b, ps, ls, r, hS, rfl, hg, ha, hb, hl, rfl⟩, k⟩ := h
  refine body_V ?_ k
  unfold rd_s_shows
  have fldP : ∀ {σ : L2.St} {s : Ld} {Q : V → Ld → Prop}, σ[0]? = some (some (.ref g)) → Q (.ref a) s → WE H (tFld K (tVar 0) "places") σ s Q := fun h q => we_fld (we_var h ⟨_, _, _, _, _, rfl, fun H' o => o.ex _ _ hg, hS.c.cl, hS.np, rfl, q⟩)
  have fldL : ∀ {σ : L2.St} {s : Ld} {Q : V → Ld → Prop}, σ[0]? = some (some (.ref g)) → Q (.ref b) s → WE H (tFld K (tVar 0) "lifts") σ s Q := fun h q => we_fld (we_var h ⟨_, _, _, _, _, rfl, fun H' o => o.ex _ _ hg, hS.c.cl, hS.nl, rfl, q⟩)
  refine ws_seq ?_
  walk_at "bn"
  refine ws_cut (fun σ s => ∃ u pl, σ = [some (.ref g), some (.str (T r)), some (.str (T u)), pl, none, none] ∧ s = ⟨[], []⟩ ∧ swAll r ps = some u) ?_ ?_
  · refine ws_for (wi_list (fldP rfl ⟨a, rfl, ⟨_, isL_old ha⟩, ?_⟩))
    refine lp_list (xs := ps.map V.int) (n := ps.length) (fun i σ s => ∃ u pl, σ = [some (.ref g), some (.str (T r)), some (.str (T u)), pl, none, none] ∧ s = ⟨[], []⟩ ∧ swAll r (ps.take i) = some u) (by simp) ⟨r, none, rfl, rfl, rfl⟩ (fun i σ s hi _ => isL_old ha) ?_ (fun σ s ⟨u, pl, e1, e2, e3⟩ => ⟨_, Sub.refl _, u, pl, e1, e2, by rw [List.take_length] at e3; exact e3⟩)
    rintro i y σ s hi hy ⟨u, pl, rfl, rfl, hu⟩
    obtain ⟨p, hpi, rfl⟩ := getI hy
    have hlu : u.length = r.length := swAll_len hu
    have out : swOk u p = false → V.bl false = V.bl (swSh r ps ls) := fun h => by
      rw [swSh_none (swAll_none (i := i + 1) (by rw [swAll_snoc hu hpi, h]; rfl))]
    refine wg_name ?_
    walk_at "bm"
    refine ⟨fun h0 => ?_, fun h0 => ?_⟩
    · have h0' := of_decide_eq_true h0
      walk_at "bm"
      refine ⟨fun h1 => ?_, fun h1 => ?_⟩
      · have h1' : ¬ p < (r.length : Int) - 1 := by simpa using h1
        walk_at "bm"
        exact out (by unfold swOk; rw [hlu, decide_eq_false h1']; simp)
      · have h1' : p < (r.length : Int) - 1 := by simpa using h1
        obtain ⟨c, hc⟩ := get_some (r := u) (i := p.toNat) (by omega)
        obtain ⟨e, he⟩ := get_some (r := u) (i := p.toNat + 1) (by omega)
        have hok : swOk u p = !decide ([c] = [e]) := by
          unfold swOk
          rw [hlu, hc, he, h0, decide_eq_true h1']
          simp
        walk_at "bm"
        refine w2_ixT (b := c) (by omega) (atI_of h0' hc) ?_
        walk_at "bm"
        refine w2_ixT (b := e) (by omega) (atI_of (by omega) (by rw [show (p + 1).toNat = p.toNat + 1 by omega]; exact he)) ?_
        walk_at "bm"
        refine ⟨fun h2 => ?_, fun h2 => ?_⟩
        · walk_at "bm"
          exact out (by rw [hok, h2]; rfl)
        · walk_at "bm"
          refine c_swapped (by omega) ⟨h0', by omega⟩ ?_
          exact ⟨_, Sub.refl _, _, _, rfl, rfl, by rw [swAll_snoc hu hpi, if_pos (by rw [hok, h2]; rfl)]⟩
    · have h0' : ¬ 0 ≤ p := of_decide_eq_false h0
      walk_at "bm"
      exact out (by unfold swOk; rw [h0]; rfl)
  rintro σ s ⟨u, pl, rfl, rfl, hu⟩
  have hlu : u.length = r.length := swAll_len hu
  have res := swSh_some (ls := ls) hu
  rw [res]
  refine ws_cut (fun σ s => σ = [some (.ref g), some (.str (T r)), some (.str (T u)), pl, none, none] ∧ s = ⟨[], []⟩ ∧ isR u = true ∧ ls.length = r.length + 1 ∧ ls.sum = (ps.length : Int)) ?_ ?_
  · walk_at "bm"
    refine ⟨fun h => ?_, fun h => ?_⟩
    · walk_at "bm"
      have h' : isR u = false := by simpa using h
      show V.bl _ = V.bl _
      rw [h']
      rfl
    · have h' : isR u = true := by simpa using h
      walk_at "bm"
      refine ⟨_, _, _, _, _, rfl, fun H' o => o.ex _ _ hg, hS.c.cl, hS.nl, rfl, ?_⟩
      walk_at "bm"
      refine ⟨fun h1 => ?_, fun h1 => ?_⟩
      · walk_at "bm"
        have h1' : ¬ ls.length = r.length + 1 := fun e => by rw [List.length_map, e] at h1; simp at h1
        show V.bl _ = V.bl _
        rw [h', decide_eq_false h1']
        rfl
      · have h1' : ls.length = r.length + 1 := by
          rw [List.length_map] at h1
          simp at h1
          omega
        walk_at "bm"
        refine ⟨_, _, _, _, _, rfl, fun H' o => o.ex _ _ hg, hS.c.cl, hS.nl, rfl, ?_⟩
        walk_at "bm"
        refine wl_sum (isL_old hb) ?_
        walk_at "bm"
        refine ⟨_, _, _, _, _, rfl, fun H' o => o.ex _ _ hg, hS.c.cl, hS.np, rfl, ?_⟩
        walk_at "bm"
        refine ⟨fun h2 => ?_, fun h2 => ?_⟩
        · walk_at "bm"
          have h2' : ¬ ls.sum = (ps.length : Int) := fun e => by rw [List.length_map, e] at h2; simp at h2
          show V.bl _ = V.bl _
          rw [h', decide_eq_true h1', decide_eq_false h2']
          rfl
        · walk_at "bm"
          exact ⟨_, Sub.refl _, rfl, rfl, h', h1', by rw [List.length_map] at h2; simpa using h2⟩
  rintro σ s ⟨rfl, rfl, h1, h2, h3⟩
  rw [h1, decide_eq_true h2, decide_eq_true h3]
  simp only [Bool.true_and]
  refine ws_seq ?_
  refine ws_for (wi_zip ?_)
  walk_at "bm"
  intro f hf
  walk_at "bm"
  refine ⟨_, _, _, _, _, rfl, fun H' o => o.ex _ _ hg, hS.c.cl, hS.nl, rfl, ?_⟩
  walk_at "bm"
  refine ⟨f, b, (dps r).map V.int, ls.map V.int, rfl, by walk_at "isl", isL_old hb, ?_⟩
  refine lp_zip (xs := (dps r).map V.int) (ys := ls.map V.int) (n := r.length + 1) (fun i σ s => ∃ x4 x5 ts, σ = [some (.ref g), some (.str (T r)), some (.str (T u)), pl, x4, x5] ∧ s = ⟨[(f, .lst ((dps r).map V.int))], ts⟩ ∧ (((dps r).zip ls).take i).all zipOk = true) (by rw [List.length_map, List.length_map, dps_len, h2, Nat.min_self]) ⟨none, none, [], rfl, rfl, rfl⟩ (fun i σ s hi ⟨x4, x5, ts, _, e, _⟩ => ⟨by rw [e]; walk_at "isl", isL_old hb⟩) ?_ ?_
  · rintro i x y σ s p hi hx hy ⟨x4, x5, ts, rfl, rfl, hok⟩
    obtain ⟨d0, hd, rfl⟩ := getI hx
    obtain ⟨l0, hl0, rfl⟩ := getI hy
    have hz : ((dps r).zip ls)[i]? = some (d0, l0) := by
      rw [List.getElem?_zip_eq_some]
      exact ⟨hd, hl0⟩
    have hbad : zipOk (d0, l0) = false → V.bl false = V.bl (((dps r).zip ls).all zipOk) := fun h => by rw [all_bad hz h]
    refine wg_tup (by walk_at "ist") rfl ?_
    walk_at "bm"
    refine ⟨fun h => ?_, fun h => ?_⟩
    · walk_at "bm"
      exact hbad (by unfold zipOk; rw [h]; rfl)
    · walk_at "bm"
      refine ⟨fun h4 => ?_, fun h4 => ?_⟩
      · walk_at "bm"
        refine w2_mul (cmul_l (by decide) (by decide)) ?_
        walk_at "bm"
        refine ⟨fun h5 => ?_, fun h5 => ?_⟩
        · walk_at "bm"
          exact hbad (by unfold zipOk; rw [h, h4, h5]; rfl)
        · walk_at "bm"
          exact ⟨_, Sub.refl _, _, _, _, rfl, rfl, by rw [all_take hz hok]; unfold zipOk; rw [h, h4, h5]; rfl⟩
      · walk_at "bm"
        exact ⟨_, Sub.refl _, _, _, _, rfl, rfl, by rw [all_take hz hok]; unfold zipOk; rw [h, h4]; rfl⟩
  · rintro σ s ⟨x4, x5, ts, rfl, rfl, hok⟩
    rw [List.take_of_length_le (by rw [List.length_zip, dps_len, h2, Nat.min_self]; exact Nat.le_refl _)] at hok
    walk_at "bm"
    show V.bl _ = V.bl _
    rw [hok]
end BM
namespace BM
open PySem L2 Evl
local macro_rules | `(tactic| walk_at "mem") => `(tactic| first | exact List.mem_cons_self | (refine List.mem_cons_of_mem _ ?_; walk_at "mem"))
local macro_rules | `(tactic| walk_at "swap") => `(tactic| first | exact Swap.here | (apply Swap.there; walk_at "swap"))
local macro_rules | `(tactic| walk_at "subl") => `(tactic| first | exact List.Sublist.refl _ | exact List.nil_sublist _ | (refine List.Sublist.cons_cons _ ?_; walk_at "subl") | (refine List.Sublist.cons _ ?_; walk_at "subl"))
local macro_rules | `(tactic| walk_at "sub") => `(tactic| first | exact Sub.refl _ | (refine ⟨?_, ?_⟩ <;> walk_at "subl"))
local macro_rules | `(tactic| walk_at "isl") => `(tactic| first | exact isL_own (by walk_at "mem") | exact isL_old (by assumption) | assumption)
local macro_rules | `(tactic| walk_at "ist") => `(tactic| first | exact isT_own (by walk_at "mem") | exact isT_old (by assumption) | assumption)
local macro_rules | `(tactic| walk_at "len") => `(tactic| first | omega | decide | (simp only [List.length_map, List.length_take, List.length_drop, List.length_append, List.length_cons, List.length_nil, List.length_reverse, dps_len, flp_len]; omega) | (simp [dps_len, flp_len]; omega) | simp)
local macro_rules | `(tactic| walk_at "b0") => `(tactic| first
  | with_reducible refine' ws_set ?_
  | with_reducible refine' ws_par ?_
  | with_reducible refine' ws_asg ?_
  | with_reducible refine' ws_drop ?_
  | with_reducible refine' ws_ret ?_
  | with_reducible refine' ws_if ?_
  | with_reducible refine' ws_next ?_
  | with_reducible refine' ws_brk ?_
  | with_reducible refine' ws_cont ?_
  | ((with_reducible refine' we_var ?hv ?_); case hv => rfl)
  | with_reducible refine' we_c ?_
  | with_reducible refine' we_op ?_
  | with_reducible refine' we_un ?_
  | with_reducible refine' we_if ?_
  | with_reducible refine' we_and ?_
  | with_reducible refine' we_or ?_
  | with_reducible refine' we_not ?_
  | with_reducible refine' wa_nil ?_
  | with_reducible refine' wa_cons ?_
  | (with_reducible refine' we_lst ?_)
  | (with_reducible refine' we_tup ?_)
  | with_reducible refine' we_cb ?_
  | with_reducible refine' we_call0 ?_
  | with_reducible refine' we_sl ?_
  | with_reducible refine' wo_none ?_
  | (with_reducible refine' wo_some ?_)
  | with_reducible refine' wt_test ?_
  | with_reducible refine' wt_B ?_
  | with_reducible refine' wt_and ?_
  | with_reducible refine' wt_or ?_
  | with_reducible refine' wt_not ?_
  | with_reducible refine' wt_yes ?_
  | with_reducible refine' we_chain ?_
  | with_reducible refine' we_chain3 ?_
  | with_reducible refine' we_revT ?_
  | with_reducible refine' we_revL ?_
  | with_reducible refine' we_bm ?_
  | with_reducible refine' we_bm0 ?_
  | with_reducible refine' ws_for ?_
  | with_reducible refine' we_lc ?_
  | with_reducible refine' wi_list ?_
  | with_reducible refine' wi_tup ?_
  | with_reducible refine' wi_T ?_
  | with_reducible refine' wi_rng1 ?_
  | with_reducible refine' wi_rng2 ?_
  | with_reducible refine' wi_rng3 ?_
  | with_reducible refine' wi_enum ?_
  | with_reducible refine' wi_enumT ?_
  | with_reducible refine' wi_zip ?_
  | with_reducible refine' wg_name ?_
  | with_reducible refine' wg_sub ?_
  | with_reducible refine' wgs_nil ?_
  | with_reducible refine' wgs_cons ?_
  | ((with_reducible refine' wg_tup ?ht ?hn ?_); (case ht => walk_at "ist"); (case hn => rfl))
  | with_reducible refine' w2_add ?_
  | with_reducible refine' w2_sub ?_
  | with_reducible refine' w2_lt ?_
  | with_reducible refine' w2_le ?_
  | with_reducible refine' w2_gt ?_
  | with_reducible refine' w2_ge ?_
  | with_reducible refine' w2_eqI ?_
  | with_reducible refine' w2_neI ?_
  | with_reducible refine' w2_eqT ?_
  | with_reducible refine' w2_neT ?_
  | with_reducible refine' w2_eqB ?_
  | with_reducible refine' w2_neB ?_
  | with_reducible refine' w2_isN ?_
  | with_reducible refine' w2_notN ?_
  | with_reducible refine' w2_isB ?_
  | with_reducible refine' w2_inT ?_
  | with_reducible refine' w1_neg ?_
  | with_reducible refine' wl_abs ?_
  | with_reducible refine' wl_max2 ?_
  | with_reducible refine' wl_min2 ?_
  | with_reducible refine' wl_intB ?_
  | ((with_reducible refine' w2_div ?h ?_); case h => first | omega | (constructor <;> omega))
  | ((with_reducible refine' w2_mod ?h ?_); case h => omega)
  | ((with_reducible refine' w2_catT ?h ?_); case h => walk_at "len")
  | ((with_reducible refine' wsl_T ?h ?_); case h => walk_at "len")
  | ((with_reducible refine' wl_lenT ?h ?_); case h => walk_at "len")
  | ((with_reducible refine' wl_len ?h ?_); case h => walk_at "isl")
  | ((with_reducible refine' wl_len ?h ?_); case h => walk_at "isl")
  | ((with_reducible refine' wm_append ?sw ?hl ?_); (case sw => walk_at "swap"); (case hl => walk_at "len")))
local macro_rules | `(tactic| walk_at "b1") => `(tactic| first | with_reducible refine' ws_seq ?_ | walk_at "b0")
local macro_rules | `(tactic| walk_at "bx") => `(tactic| first
  | refine ⟨_, rfl, ?_⟩
  | refine ⟨_, _, rfl, ?_⟩
  | refine ⟨ty_L (by walk_at "isl"), ?_⟩
  | refine ⟨ty_S, ?_⟩
  | refine spl_t (by rfl) ?_
  | refine spl_f (by rfl) ?_
  | exact rfl)
local macro_rules | `(tactic| walk_at "bm") => `(tactic| repeat (first | walk_at "b1" | walk_at "bx"))
local macro_rules | `(tactic| walk_at "bn") => `(tactic| repeat (first | walk_at "b0" | walk_at "bx"))
local macro_rules | `(tactic| walk_at "b0") => `(tactic| with_reducible refine' c_deepens ?_)
local macro_rules | `(tactic| walk_at "b0") => `(tactic| ((with_reducible refine' c_depths_of ?hl ?_); (case hl => walk_at "len")))
local macro_rules | `(tactic| walk_at "b0") => `(tactic| with_reducible refine' c_is_wholeI ?_)
local macro_rules | `(tactic| walk_at "b0") => `(tactic| with_reducible refine' c_flipped ?_)
local macro_rules | `(tactic| walk_at "b0") => `(tactic| ((with_reducible refine' c_is_right_row ?hl ?_); (case hl => walk_at "len")))
local macro_rules | `(tactic| walk_at "b0") => `(tactic| ((with_reducible refine' c_asked_row ?hl ?_); (case hl => walk_at "len")))
local macro_rules | `(tactic| walk_at "b0") => `(tactic| ((with_reducible refine' c_depths ?hl ?_); (case hl => walk_at "len")))
local macro_rules | `(tactic| walk_at "b0") => `(tactic| ((with_reducible refine' c_is_right ?hl ?_); (case hl => walk_at "len")))
local macro_rules | `(tactic| walk_at "b0") => `(tactic| ((with_reducible refine' c__law_depths ?hl ?_); (case hl => walk_at "len")))
local macro_rules | `(tactic| walk_at "b0") => `(tactic| ((with_reducible refine' c__law_good ?hl ?_); (case hl => walk_at "len")))
local macro_rules | `(tactic| walk_at "b0") => `(tactic| ((with_reducible refine' wl_listOf ?hx ?_); (case hx => walk_at "isl")))
local macro_rules | `(tactic| walk_at "b0") => `(tactic| with_reducible refine' w2_notB ?_)
local macro_rules | `(tactic| walk_at "own") => `(tactic| exact own_l (by walk_at "mem"))
local macro_rules | `(tactic| walk_at "b0") => `(tactic| with_reducible refine' we_fld ?_)
local macro_rules | `(tactic| walk_at "b0") => `(tactic| refine ⟨_, _, _, _, _, rfl, own_l (by walk_at "mem"), Grw.cl (by assumption), Grw.nr (by assumption), by rfl, ?_⟩)
local macro_rules | `(tactic| walk_at "b0") => `(tactic| refine ⟨_, _, _, _, _, rfl, fun H' o => o.ex _ _ (by assumption), Grw.cl (by assumption), Grw.nr (by assumption), by rfl, ?_⟩)
local macro_rules | `(tactic| walk_at "b0") => `(tactic| with_reducible refine' we_meth ?_)
local macro_rules | `(tactic| walk_at "b0") => `(tactic| refine ⟨_, _, _, rfl, own_l (by walk_at "mem"), by rfl, ?_⟩)
local macro_rules | `(tactic| walk_at "b0") => `(tactic| refine ⟨_, _, _, rfl, fun H' o => o.ex _ _ (by assumption), by rfl, ?_⟩)
local macro_rules | `(tactic| walk_at "gown") => `(tactic| first | exact own_l (by walk_at "mem") | exact fun H' o => o.ex _ _ (by assumption))
local macro_rules | `(tactic| walk_at "b0") => `(tactic| with_reducible refine' wm_countT ?_)
theorem c_s_shows {K : PySem.W.Frag} {C : CA} {H0 : Hp} {s : Ld} {Q : V → Ld → Prop} {E : XK} {g d a b : Addr} {ps ls : List Int} {r : List Bool} (hS : SwC K C) (hg : ∀ H, Own H0 H s → H g = some (sIns C d a b)) (ha : IsL K H0 s a (ps.map V.int)) (hb : IsL K H0 s b (ls.map V.int)) (hl : r.length ≤ 1000) (q : Q (.bl (swSh r ps ls)) s) : WC H0 (sp_s_shows K C) E [.ref g, .str (T r)] s Q := wc_V (fun H o => ⟨g, d, a, b, ps, ls, r, hS, rfl, hg H o, ha H o, hb H o, hl, rfl⟩) q
theorem ln__law_swapped {K : PySem.W.Frag} {C : CA} {vs : List V} {H : Hp} {Q : VK} {E : XK} (h : sp__law_swapped K C vs H Q E) : vs.length = 3 := by
  obtain ⟨_, ⟨r, a, b, ps, ls, rfl, _⟩, _⟩ := h
  rfl
theorem pu__law_swapped {K : PySem.W.Frag} {C : CA} {vs : List V} {H : Hp} {Q : VK} {E : XK} (h : sp__law_swapped K C vs H Q E) : rd__law_swapped K C { nx := fun _ H' => Q .non H', rt := Q } (start N__law_swapped vs) H := by
  obtain ⟨_, ⟨r, a, b, ps, ls, rfl, ha, hb, hl, rfl⟩, k⟩ := h
  refine body_V ?_ k
  unfold rd__law_swapped
  refine ws_seq ?_
  walk_at "bn"
  refine ws_cut (fun σ s => ∃ u pl, σ = [some (.str (T r)), some (.ref a), some (.ref b), some (.str (T u)), pl, none, none] ∧ s = ⟨[], []⟩ ∧ swAll r ps = some u) ?_ ?_
  · walk_at "bm"
    refine ⟨⟨_, isL_old ha⟩, ?_⟩
    refine lp_list (xs := ps.map V.int) (n := ps.length) (fun i σ s => ∃ u pl, σ = [some (.str (T r)), some (.ref a), some (.ref b), some (.str (T u)), pl, none, none] ∧ s = ⟨[], []⟩ ∧ swAll r (ps.take i) = some u) (by simp) ⟨r, none, rfl, rfl, rfl⟩ (fun i σ s hi _ => isL_old ha) ?_ (fun σ s ⟨u, pl, e1, e2, e3⟩ => ⟨_, Sub.refl _, u, pl, e1, e2, by rw [List.take_length] at e3; exact e3⟩)
    rintro i y σ s hi hy ⟨u, pl, rfl, rfl, hu⟩
    obtain ⟨p, hpi, rfl⟩ := getI hy
    have hlu : u.length = r.length := swAll_len hu
    refine wg_name ?_
    walk_at "bm"
    refine c__law_swap (by omega) (fun ok => ?_) (fun ok => ?_)
    · walk_at "bm"
      exact ⟨_, Sub.refl _, _, _, rfl, rfl, by rw [swAll_snoc hu hpi, if_pos ok]⟩
    · walk_at "bm"
      show V.bl _ = V.bl _
      rw [swSh_none (swAll_none (i := i + 1) (by rw [swAll_snoc hu hpi, ok]; rfl))]
  rintro σ s ⟨u, pl, rfl, rfl, hu⟩
  have hlu : u.length = r.length := swAll_len hu
  have res := swSh_some (ls := ls) hu
  rw [res]
  refine ws_cut (fun σ s => σ = [some (.str (T r)), some (.ref a), some (.ref b), some (.str (T u)), pl, none, none] ∧ s = ⟨[], []⟩ ∧ isR u = true ∧ ls.length = r.length + 1 ∧ ls.sum = (ps.length : Int)) ?_ ?_
  · walk_at "bm"
    refine ⟨fun h => ?_, fun h => ?_⟩
    · walk_at "bm"
      have h' : isR u = false := by simpa using h
      show V.bl _ = V.bl _
      rw [h']
      rfl
    · have h' : isR u = true := by simpa using h
      walk_at "bm"
      refine ⟨fun h1 => ?_, fun h1 => ?_⟩
      · walk_at "bm"
        have h1' : ¬ ls.length = r.length + 1 := fun e => by rw [List.length_map, e] at h1; simp at h1
        show V.bl _ = V.bl _
        rw [h', decide_eq_false h1']
        rfl
      · have h1' : ls.length = r.length + 1 := by
          rw [List.length_map] at h1
          simp at h1
          omega
        walk_at "bm"
        refine wl_sum (isL_old hb) ?_
        walk_at "bm"
        refine ⟨fun h2 => ?_, fun h2 => ?_⟩
        · walk_at "bm"
          have h2' : ¬ ls.sum = (ps.length : Int) := fun e => by rw [List.length_map, e] at h2; simp at h2
          show V.bl _ = V.bl _
          rw [h', decide_eq_true h1', decide_eq_false h2']
          rfl
        · walk_at "bm"
          exact ⟨_, Sub.refl _, rfl, rfl, h', h1', by rw [List.length_map] at h2; simpa using h2⟩
  rintro σ s ⟨rfl, rfl, h1, h2, h3⟩
  rw [h1, decide_eq_true h2, decide_eq_true h3]
  simp only [Bool.true_and]
  refine ws_seq ?_
  refine ws_for (wi_zip ?_)
  walk_at "bm"
  intro f hf
  walk_at "bm"
  refine ⟨f, b, (dps r).map V.int, ls.map V.int, rfl, by walk_at "isl", isL_old hb, ?_⟩
  refine lp_zip (xs := (dps r).map V.int) (ys := ls.map V.int) (n := r.length + 1) (fun i σ s => ∃ x4 x5 ts, σ = [some (.str (T r)), some (.ref a), some (.ref b), some (.str (T u)), pl, x4, x5] ∧ s = ⟨[(f, .lst ((dps r).map V.int))], ts⟩ ∧ (((dps r).zip ls).take i).all zipOk = true) (by rw [List.length_map, List.length_map, dps_len, h2, Nat.min_self]) ⟨none, none, [], rfl, rfl, rfl⟩ (fun i σ s hi ⟨x4, x5, ts, _, e, _⟩ => ⟨by rw [e]; walk_at "isl", isL_old hb⟩) ?_ ?_
  · rintro i x y σ s p hi hx hy ⟨x4, x5, ts, rfl, rfl, hok⟩
    obtain ⟨d0, hd, rfl⟩ := getI hx
    obtain ⟨l0, hl0, rfl⟩ := getI hy
    have hz : ((dps r).zip ls)[i]? = some (d0, l0) := by
      rw [List.getElem?_zip_eq_some]
      exact ⟨hd, hl0⟩
    have hbad : zipOk (d0, l0) = false → V.bl false = V.bl (((dps r).zip ls).all zipOk) := fun h => by rw [all_bad hz h]
    have hsame : decide (0 ≤ d0 + 2 * l0 - 2) = decide (d0 + 2 * (l0 - 1) ≥ 0) := decide_eq_decide.mpr (by omega)
    refine wg_tup (by walk_at "ist") rfl ?_
    walk_at "bm"
    refine ⟨fun h => ?_, fun h => ?_⟩
    · walk_at "bm"
      exact hbad (by unfold zipOk; rw [h]; rfl)
    · walk_at "bm"
      refine ⟨fun h4 => ?_, fun h4 => ?_⟩
      · walk_at "bm"
        refine w2_mul (cmul_l (by decide) (by decide)) ?_
        walk_at "bm"
        refine ⟨fun h5 => ?_, fun h5 => ?_⟩
        · walk_at "bm"
          exact hbad (by unfold zipOk; rw [h, h4, ← hsame, h5]; rfl)
        · walk_at "bm"
          exact ⟨_, Sub.refl _, _, _, _, rfl, rfl, by rw [all_take hz hok]; unfold zipOk; rw [h, h4, ← hsame, h5]; rfl⟩
      · walk_at "bm"
        exact ⟨_, Sub.refl _, _, _, _, rfl, rfl, by rw [all_take hz hok]; unfold zipOk; rw [h, h4]; rfl⟩
  · rintro σ s ⟨x4, x5, ts, rfl, rfl, hok⟩
    rw [List.take_of_length_le (by rw [List.length_zip, dps_len, h2, Nat.min_self]; exact Nat.le_refl _)] at hok
    walk_at "bm"
    show V.bl _ = V.bl _
    rw [hok]
theorem c__law_swapped {K : PySem.W.Frag} {C : CA} {H0 : Hp} {s : Ld} {Q : V → Ld → Prop} {E : XK} {a b : Addr} {ps ls : List Int} {r : List Bool} (ha : IsL K H0 s a (ps.map V.int)) (hb : IsL K H0 s b (ls.map V.int)) (hl : r.length ≤ 1000) (q : Q (.bl (swSh r ps ls)) s) : WC H0 (sp__law_swapped K C) E [.str (T r), .ref a, .ref b] s Q := wc_V (fun H o => ⟨r, a, b, ps, ls, rfl, ha H o, hb H o, hl, rfl⟩) q
end BM
namespace BM
open PySem L2 Evl
local macro_rules | `(tactic| walk_at "mem") => `(tactic| first | exact List.mem_cons_self | (refine List.mem_cons_of_mem _ ?_; walk_at "mem"))
local macro_rules | `(tactic| walk_at "swap") => `(tactic| first | exact Swap.here | (apply Swap.there; walk_at "swap"))
local macro_rules | `(tactic| walk_at "subl") => `(tactic| first | exact List.Sublist.refl _ | exact List.nil_sublist _ | (refine List.Sublist.cons_cons _ ?_; walk_at "subl") | (refine List.Sublist.cons _ ?_; walk_at "subl"))
local macro_rules | `(tactic| walk_at "sub") => `(tactic| first | exact Sub.refl _ | (refine ⟨?_, ?_⟩ <;> walk_at "subl"))
local macro_rules | `(tactic| walk_at "isl") => `(tactic| first | exact isL_own (by walk_at "mem") | exact isL_old (by assumption) | assumption)
local macro_rules | `(tactic| walk_at "ist") => `(tactic| first | exact isT_own (by walk_at "mem") | exact isT_old (by assumption) | assumption)
local macro_rules | `(tactic| walk_at "len") => `(tactic| first | omega | decide | (simp only [List.length_map, List.length_take, List.length_drop, List.length_append, List.length_cons, List.length_nil, List.length_reverse, dps_len, flp_len]; omega) | (simp [dps_len, flp_len]; omega) | simp)
local macro_rules | `(tactic| walk_at "b0") => `(tactic| first
  | with_reducible refine' ws_set ?_
  | with_reducible refine' ws_par ?_
  | with_reducible refine' ws_asg ?_
  | with_reducible refine' ws_drop ?_
  | with_reducible refine' ws_ret ?_
  | with_reducible refine' ws_if ?_
  | with_reducible refine' ws_next ?_
  | with_reducible refine' ws_brk ?_
  | with_reducible refine' ws_cont ?_
  | ((with_reducible refine' we_var ?hv ?_); case hv => rfl)
  | with_reducible refine' we_c ?_
  | with_reducible refine' we_op ?_
  | with_reducible refine' we_un ?_
  | with_reducible refine' we_if ?_
  | with_reducible refine' we_and ?_
  | with_reducible refine' we_or ?_
  | with_reducible refine' we_not ?_
  | with_reducible refine' wa_nil ?_
  | with_reducible refine' wa_cons ?_
  | (with_reducible refine' we_lst ?_)
  | (with_reducible refine' we_tup ?_)
  | with_reducible refine' we_cb ?_
  | with_reducible refine' we_call0 ?_
  | with_reducible refine' we_sl ?_
  | with_reducible refine' wo_none ?_
  | (with_reducible refine' wo_some ?_)
  | with_reducible refine' wt_test ?_
  | with_reducible refine' wt_B ?_
  | with_reducible refine' wt_and ?_
  | with_reducible refine' wt_or ?_
  | with_reducible refine' wt_not ?_
  | with_reducible refine' wt_yes ?_
  | with_reducible refine' we_chain ?_
  | with_reducible refine' we_chain3 ?_
  | with_reducible refine' we_revT ?_
  | with_reducible refine' we_revL ?_
  | with_reducible refine' we_bm ?_
  | with_reducible refine' we_bm0 ?_
  | with_reducible refine' ws_for ?_
  | with_reducible refine' we_lc ?_
  | with_reducible refine' wi_list ?_
  | with_reducible refine' wi_tup ?_
  | with_reducible refine' wi_T ?_
  | with_reducible refine' wi_rng1 ?_
  | with_reducible refine' wi_rng2 ?_
  | with_reducible refine' wi_rng3 ?_
  | with_reducible refine' wi_enum ?_
  | with_reducible refine' wi_enumT ?_
  | with_reducible refine' wi_zip ?_
  | with_reducible refine' wg_name ?_
  | with_reducible refine' wg_sub ?_
  | with_reducible refine' wgs_nil ?_
  | with_reducible refine' wgs_cons ?_
  | ((with_reducible refine' wg_tup ?ht ?hn ?_); (case ht => walk_at "ist"); (case hn => rfl))
  | with_reducible refine' w2_add ?_
  | with_reducible refine' w2_sub ?_
  | with_reducible refine' w2_lt ?_
  | with_reducible refine' w2_le ?_
  | with_reducible refine' w2_gt ?_
  | with_reducible refine' w2_ge ?_
  | with_reducible refine' w2_eqI ?_
  | with_reducible refine' w2_neI ?_
  | with_reducible refine' w2_eqT ?_
  | with_reducible refine' w2_neT ?_
  | with_reducible refine' w2_eqB ?_
  | with_reducible refine' w2_neB ?_
  | with_reducible refine' w2_isN ?_
  | with_reducible refine' w2_notN ?_
  | with_reducible refine' w2_isB ?_
  | with_reducible refine' w2_inT ?_
  | with_reducible refine' w1_neg ?_
  | with_reducible refine' wl_abs ?_
  | with_reducible refine' wl_max2 ?_
  | with_reducible refine' wl_min2 ?_
  | with_reducible refine' wl_intB ?_
  | ((with_reducible refine' w2_div ?h ?_); case h => first | omega | (constructor <;> omega))
  | ((with_reducible refine' w2_mod ?h ?_); case h => omega)
  | ((with_reducible refine' w2_catT ?h ?_); case h => walk_at "len")
  | ((with_reducible refine' wsl_T ?h ?_); case h => walk_at "len")
  | ((with_reducible refine' wl_lenT ?h ?_); case h => walk_at "len")
  | ((with_reducible refine' wl_len ?h ?_); case h => walk_at "isl")
  | ((with_reducible refine' wl_len ?h ?_); case h => walk_at "isl")
  | ((with_reducible refine' wm_append ?sw ?hl ?_); (case sw => walk_at "swap"); (case hl => walk_at "len")))
local macro_rules | `(tactic| walk_at "b1") => `(tactic| first | with_reducible refine' ws_seq ?_ | walk_at "b0")
local macro_rules | `(tactic| walk_at "bx") => `(tactic| first
  | refine ⟨_, rfl, ?_⟩
  | refine ⟨_, _, rfl, ?_⟩
  | refine ⟨ty_L (by walk_at "isl"), ?_⟩
  | refine ⟨ty_S, ?_⟩
  | refine spl_t (by rfl) ?_
  | refine spl_f (by rfl) ?_
  | exact rfl)
local macro_rules | `(tactic| walk_at "bm") => `(tactic| repeat (first | walk_at "b1" | walk_at "bx"))
local macro_rules | `(tactic| walk_at "bn") => `(tactic| repeat (first | walk_at "b0" | walk_at "bx"))
local macro_rules | `(tactic| walk_at "b0") => `(tactic| with_reducible refine' c_deepens ?_)
local macro_rules | `(tactic| walk_at "b0") => `(tactic| ((with_reducible refine' c_depths_of ?hl ?_); (case hl => walk_at "len")))
local macro_rules | `(tactic| walk_at "b0") => `(tactic| with_reducible refine' c_is_wholeI ?_)
local macro_rules | `(tactic| walk_at "b0") => `(tactic| with_reducible refine' c_flipped ?_)
local macro_rules | `(tactic| walk_at "b0") => `(tactic| ((with_reducible refine' c_is_right_row ?hl ?_); (case hl => walk_at "len")))
local macro_rules | `(tactic| walk_at "b0") => `(tactic| ((with_reducible refine' c_asked_row ?hl ?_); (case hl => walk_at "len")))
local macro_rules | `(tactic| walk_at "b0") => `(tactic| ((with_reducible refine' c_depths ?hl ?_); (case hl => walk_at "len")))
local macro_rules | `(tactic| walk_at "b0") => `(tactic| ((with_reducible refine' c_is_right ?hl ?_); (case hl => walk_at "len")))
local macro_rules | `(tactic| walk_at "b0") => `(tactic| ((with_reducible refine' c__law_depths ?hl ?_); (case hl => walk_at "len")))
local macro_rules | `(tactic| walk_at "b0") => `(tactic| ((with_reducible refine' c__law_good ?hl ?_); (case hl => walk_at "len")))
local macro_rules | `(tactic| walk_at "b0") => `(tactic| ((with_reducible refine' wl_listOf ?hx ?_); (case hx => walk_at "isl")))
local macro_rules | `(tactic| walk_at "b0") => `(tactic| with_reducible refine' w2_notB ?_)
local macro_rules | `(tactic| walk_at "own") => `(tactic| exact own_l (by walk_at "mem"))
local macro_rules | `(tactic| walk_at "b0") => `(tactic| with_reducible refine' we_fld ?_)
local macro_rules | `(tactic| walk_at "b0") => `(tactic| refine ⟨_, _, _, _, _, rfl, own_l (by walk_at "mem"), Grw.cl (by assumption), Grw.nr (by assumption), by rfl, ?_⟩)
local macro_rules | `(tactic| walk_at "b0") => `(tactic| refine ⟨_, _, _, _, _, rfl, fun H' o => o.ex _ _ (by assumption), Grw.cl (by assumption), Grw.nr (by assumption), by rfl, ?_⟩)
local macro_rules | `(tactic| walk_at "b0") => `(tactic| with_reducible refine' we_meth ?_)
local macro_rules | `(tactic| walk_at "b0") => `(tactic| refine ⟨_, _, _, rfl, own_l (by walk_at "mem"), by rfl, ?_⟩)
local macro_rules | `(tactic| walk_at "b0") => `(tactic| refine ⟨_, _, _, rfl, fun H' o => o.ex _ _ (by assumption), by rfl, ?_⟩)
local macro_rules | `(tactic| walk_at "gown") => `(tactic| first | exact own_l (by walk_at "mem") | exact fun H' o => o.ex _ _ (by assumption))
local macro_rules | `(tactic| walk_at "b0") => `(tactic| with_reducible refine' wm_countT ?_)
local macro_rules | `(tactic| walk_at "b0") => `(tactic| with_reducible refine' we_methU ?_)
theorem ws_par3 {H0 : Hp} {σ : L2.St} {s : Ld} {D : Dl} {i j l : Nat} {ta : TA} (h : WA H0 ta σ s fun vs s1 => ∃ v w x, vs = [v, w, x] ∧ D.nx (((σ.set i (some v)).set j (some w)).set l (some x)) s1) : WS H0 (tPar3 i j l ta) σ s D := fun H o E k =>
  h H o _ fun vs H1 s1 o1 ⟨v, w, x, e, q⟩ => ⟨v, w, x, e, k.nx _ _ _ o1 q⟩
theorem body_K {H : Hp} {t : TS} {N : List Str} {vs : List V} {Q : VK} {P : V → Ld → Prop} (h : WS H t (start N vs) ⟨[], []⟩ { nx := fun _ _ => False, rt := P }) (k : ∀ v H' s, Own H H' s → P v s → Q v H') : t { nx := fun _ H' => Q .non H', rt := Q } (start N vs) H :=
  h H (Own.start H) _ ⟨(fun _ _ _ _ q => q.elim), fun u H' s o q => k u H' s o q, (fun _ _ _ _ q => q.elim), (fun _ _ _ _ q => q.elim)⟩
theorem PH_le {M : Int} (hM : 0 ≤ M) : ∀ (r : List Bool) (h : Int), -h + r.length + 1 ≤ M → PH h r ≤ ((r.length : Int) + 1) * M
  | [], h, hh => by
    show lf h ≤ ((0 : Nat) + 1 : Int) * M
    have : lf h ≤ M := by
      unfold lf
      simp at hh
      split <;> omega
    simpa using this
  | b :: r, h, hh => by
    have hl : ((b :: r).length : Int) = (r.length : Int) + 1 := by simp
    rw [hl] at hh ⊢
    have ih := PH_le hM r (h + sg b) (by cases b <;> simp [sg] <;> omega)
    have h1 : lf h ≤ M := by
      unfold lf
      split <;> omega
    show lf h + PH (h + sg b) r ≤ _
    have e : ((r.length : Int) + 1 + 1) * M = ((r.length : Int) + 1) * M + M := by rw [Int.add_mul, Int.one_mul]
    omega
theorem pot_le {r : List Bool} (h : r.length ≤ 40) : pot r ≤ 2000 := by
  have h1 := PH_le (M := 41) (by decide) r 0 (by omega)
  unfold pot
  have : ((r.length : Int) + 1) * 41 ≤ 41 * 41 := Int.mul_le_mul_of_nonneg_right (by omega) (by decide)
  omega
theorem c_u_init {K : PySem.W.Frag} {C : CA} {H0 : Hp} {s : Ld} {Q : V → Ld → Prop} {E : XK} {x d : Addr} {z : Int} {L' : List (Addr × HO)} (hU : UnC K C) (sw : Swap x (.ins C.c_Uneven d []) (uIns C d z) s.L L') (q : Q .non ⟨L', s.T⟩) : WC H0 (sp_u_init K C) E [.ref x, .int z] s Q := fun H o R k =>
  ⟨x, d, z, hU, rfl, (o.own _ sw.mem).2, fun H' e h => k _ _ _ (own_after o sw trivial e h) q⟩
theorem we_uneven {K : PySem.W.Frag} {C : CA} {H0 : Hp} {σ : L2.St} {s : Ld} {Q : V → Ld → Prop} {E : XK} {ta : TA} (hU : UnC K C) (h : WA H0 ta σ s fun vs s1 => ∃ z, vs = [.int z] ∧ ∀ x dx, H0 x = none → Q (.ref x) ⟨(x, uIns C dx z) :: (dx, .own x) :: s1.L, s1.T⟩) : WE H0 (tMake C.c_Uneven (sp_u_init K C) [] E ta) σ s Q :=
  we_make fun H o R k => h H o R fun vs H1 s1 o1 ⟨z, e, q⟩ => k _ _ _ o1 fun x dx hx hdx hne => by
    subst e
    exact c_u_init hU Swap.here ⟨rfl, q x dx hx⟩
theorem c_s_init {K : PySem.W.Frag} {C : CA} {H0 : Hp} {Q : V → Ld → Prop} {E : XK} {x d a b : Addr} {ps ls : List Int} {L : List (Addr × HO)} {T : List (Addr × List V)} (hS : SwC K C) (ha : (a, HO.lst (ps.map V.int)) ∈ L) (hb : (b, HO.lst (ls.map V.int)) ∈ L) (q : ∀ a2 b2, H0 a2 = none → H0 b2 = none → Q .non ⟨(b2, .lst (ls.map V.int)) :: (a2, .lst (ps.map V.int)) :: (x, sIns C d a2 b2) :: L, T⟩) : WC H0 (sp_s_init K C) E [.ref x, .ref a, .ref b] ⟨(x, .ins C.c_Swapped d []) :: L, T⟩ Q := fun H o R k => by
  have hk : x ∉ L.map (·.1) := (List.nodup_cons.mp o.nd).1
  have hax : a ≠ x := fun e => hk (List.mem_map.mpr ⟨_, ha, e⟩)
  have hbx : b ≠ x := fun e => hk (List.mem_map.mpr ⟨_, hb, e⟩)
  refine ⟨x, d, a, b, ps, ls, hS, rfl, (o.own _ List.mem_cons_self).2, sq_of (o.own _ (List.mem_cons_of_mem _ ha)).2, sq_of (o.own _ (List.mem_cons_of_mem _ hb)).2, hax, hbx, fun H' a2 b2 e h1 h2 nd hx h3 h4 => ?_⟩
  have nd1 : b2 ∉ [a2, x] := (List.nodup_cons.mp nd).1
  have nd2 : a2 ∉ [x] := (List.nodup_cons.mp (List.nodup_cons.mp nd).2).1
  have a2x : a2 ≠ x := fun e => nd2 (by rw [e]; exact List.mem_cons_self)
  have b2x : b2 ≠ x := fun e => nd1 (by rw [e]; exact List.mem_cons_of_mem _ List.mem_cons_self)
  have b2a : b2 ≠ a2 := fun e => nd1 (by rw [e]; exact List.mem_cons_self)
  rw [del_ne a2x] at h1
  rw [del_ne b2x] at h2
  have w1 := own_after o (Swap.here (o := .ins C.c_Swapped d []) (o' := sIns C d a2 b2)) trivial e hx
  have w2 := own_add w1 (fresh_back o.ex h1) (show a2 ∉ x :: L.map (·.1) from own_key o h1) h3
  have w3 := own_add w2 (fresh_back o.ex h2) (fun hm => by
    rcases List.mem_cons.mp hm with e | hm
    · exact b2a e
    · exact (show b2 ∉ x :: L.map (·.1) from own_key o h2) hm) h4
  exact k _ _ _ w3 (q a2 b2 (fresh_back o.ex h1) (fresh_back o.ex h2))
theorem we_swapped {K : PySem.W.Frag} {C : CA} {H0 : Hp} {σ : L2.St} {s : Ld} {Q : V → Ld → Prop} {E : XK} {ta : TA} (hS : SwC K C) (h : WA H0 ta σ s fun vs s1 => ∃ (a b : Addr) (ps ls : List Int), vs = [.ref a, .ref b] ∧ (a, HO.lst (ps.map V.int)) ∈ s1.L ∧ (b, HO.lst (ls.map V.int)) ∈ s1.L ∧ ∀ x dx a2 b2, H0 x = none → H0 a2 = none → H0 b2 = none → Q (.ref x) ⟨(b2, .lst (ls.map V.int)) :: (a2, .lst (ps.map V.int)) :: (x, sIns C dx a2 b2) :: (dx, .own x) :: s1.L, s1.T⟩) : WE H0 (tMake C.c_Swapped (sp_s_init K C) [] E ta) σ s Q :=
  we_make fun H o R k => h H o R fun vs H1 s1 o1 ⟨a, b, ps, ls, e, ma, mb, q⟩ => k _ _ _ o1 fun x dx hx hdx hne => by
    subst e
    exact c_s_init hS (List.mem_cons_of_mem _ ma) (List.mem_cons_of_mem _ mb) fun a2 b2 h1 h2 => ⟨rfl, q x dx a2 b2 hx h1 h2⟩
theorem first_of {ns : List Int} {m : Int} (h : m ∈ ns) : ∃ j : Nat, ns[j]? = some m ∧ ∀ i : Nat, i < j → ns[i]? ≠ some m := by
  induction ns with
  | nil => cases h
  | cons a ns ih =>
    by_cases e : a = m
    · exact ⟨0, by rw [e]; rfl, fun i hi => absurd hi (Nat.not_lt_zero _)⟩
    · obtain ⟨j, h1, h2⟩ := ih ((List.mem_cons.mp h).resolve_left fun e2 => e e2.symm)
      refine ⟨j + 1, h1, fun i hi => ?_⟩
      cases i with
      | zero => exact fun e2 => e (Option.some.inj e2)
      | succ i => exact h2 i (by omega)
theorem ln_swaps {K : PySem.W.Frag} {C : CA} {vs : List V} {H : Hp} {Q : VK} {E : XK} (h : sp_swaps K C vs H Q E) : vs.length = 1 := by
  obtain ⟨r, _, rfl, _⟩ := h
  rfl
theorem pu_swaps {K : PySem.W.Frag} {C : CA} {vs : List V} {H : Hp} {Q : VK} {E : XK} (h : sp_swaps K C vs H Q E) : rd_swaps K C { nx := fun _ H' => Q .non H', rt := Q } (start N_swaps vs) H := by
  obtain ⟨r, hX, rfl, hl, k1, k2⟩ := h
  refine body_K (P := fun v s => (hgt r ≠ 0 ∧ ∃ x d, v = .ref x ∧ (x, uIns C d (hgt r)) ∈ s.L) ∨ (hgt r = 0 ∧ ∃ (x d a b : Addr) (ps : List Int) (u : List Bool), v = .ref x ∧ Sub ⟨[(b, .lst (((dps r).map lf).map V.int)), (a, .lst (ps.map V.int)), (x, sIns C d a b)], []⟩ s ∧ swAll r ps = some u ∧ isR u = true ∧ (ps.length : Int) = pot r)) ?_ ?_
  · unfold rd_swaps
    walk_at "bm"
    intro f hf
    walk_at "bm"
    refine w2_ixL (by walk_at "isl") (dps_m1 _) ?_
    walk_at "bn"
    refine ⟨fun h => ?_, fun h => ?_⟩
    · have h' : hgt r ≠ 0 := by simpa using h
      walk_at "bn"
      refine we_uneven hX.u ?_
      walk_at "bm"
      refine w2_ixL (by walk_at "isl") (dps_m1 _) ?_
      walk_at "bm"
      intro x dx hx
      exact .inl ⟨h', x, dx, rfl, List.mem_cons_self⟩
    · have h' : hgt r = 0 := by simpa using h
      walk_at "bn"
      refine ws_cut (fun σ s => ∃ a b, σ = [some (.str (T r)), some (.ref f), some (.ref a), some (.ref b), some (.str (T r)), none, none, none, none] ∧ s = ⟨[(b, .lst ([].map V.int)), (a, .lst (((dps r).map lf).map V.int))], []⟩) ?_ ?_
      · refine ws_par3 ?_
        walk_at "bm"
        refine ⟨⟨_, by walk_at "isl"⟩, ?_⟩
        refine cp_list (xs := (dps r).map V.int) (fun i => (((dps r).take i).map lf).map V.int) (by walk_at "isl") (by rw [List.length_map, dps_len]; omega) rfl (fun i hi => by rw [List.length_map, List.length_map, List.length_take]; omega) ?_ ?_
        · intro D i y hi hy
          obtain ⟨z, hz, rfl⟩ := getI hy
          walk_at "bm"
          refine ⟨rfl, ?_⟩
          walk_at "bm"
          refine ⟨Sub.refl _, ?_⟩
          rw [take_snoc hz, List.map_append, List.map_append]
          rfl
        · intro a ha
          rw [List.length_map, List.take_length]
          walk_at "bm"
          refine ⟨by simp, fun b hb => ?_⟩
          walk_at "bm"
          exact ⟨_, _, _, rfl, _, by walk_at "sub", a, b, rfl, rfl⟩
      rintro σ s ⟨a, b, rfl, rfl⟩
      refine ws_cut (fun σ s => ∃ (ps : List Int) (u : List Bool) (x5 x6 x7 : Option V), σ = [some (.str (T r)), some (.ref f), some (.ref a), some (.ref b), some (.str (T u)), x5, x6, x7, none] ∧ s = ⟨[(b, .lst (ps.map V.int)), (a, .lst (((dps r).map lf).map V.int))], []⟩ ∧ swAll r ps = some u ∧ isR u = true ∧ (ps.length : Int) = pot r) ?_ ?_
      · refine ws_while (fun m σ s => ∃ (ps : List Int) (u : List Bool) (x5 x6 x7 : Option V), σ = [some (.str (T r)), some (.ref f), some (.ref a), some (.ref b), some (.str (T u)), x5, x6, x7, none] ∧ s = ⟨[(b, .lst (ps.map V.int)), (a, .lst (((dps r).map lf).map V.int))], []⟩ ∧ swAll r ps = some u ∧ hgt u = 0 ∧ (ps.length : Int) + pot u = pot r ∧ m = (pot u).toNat) (pot r).toNat ⟨[], r, none, none, none, rfl, rfl, rfl, h', by simp, rfl⟩ ?_
        rintro m σ s ⟨ps, u, x5, x6, x7, rfl, rfl, hu, hh, hp, rfl⟩
        have hlu : u.length = r.length := swAll_len hu
        have hpn := pot_nn u
        have hpl := pot_le hl
        walk_at "bm"
        refine ⟨fun hc => ?_, fun hc => ?_⟩
        · have hc' : isR u = false := by simpa using hc
          walk_at "bm"
          intro g hg
          walk_at "bm"
          refine wl_min (by walk_at "isl") (by rw [dps_len]; omega) fun mn h1 h2 => ?_
          obtain ⟨j, hj, hfirst⟩ := first_of h1
          have hmn : mn < 0 := by
            rcases Int.lt_or_le mn 0 with h | h
            · exact h
            · have : isR u = true := isR_iff.mpr ⟨hh, fun j hj => Int.le_trans h (h2 _ (mem_dps.mpr ⟨j, hj, rfl⟩))⟩
              rw [hc'] at this
              cases this
          obtain ⟨ok, hj0, hz, hlow⟩ := low_spot hh hmn hj h2 hfirst
          have ok2 := swOk_len ok
          have hpot := pot_swp_low ok (by rw [show ((j : Int) - 1).toNat = j - 1 by omega]; exact hz) (by rw [show ((j : Int) - 1).toNat = j - 1 by omega]; exact hlow)
          walk_at "bm"
          refine wm_index (by walk_at "isl") hj hfirst ?_
          walk_at "bm"
          refine c_swapped (by omega) ok2 ?_
          have hpos := pot_nn (swp u ((j : Int) - 1).toNat)
          refine ⟨⟨[(b, .lst ((ps ++ [(j : Int) - 1]).map V.int)), (a, .lst (((dps r).map lf).map V.int))], []⟩, by rw [List.map_append]; walk_at "sub", (pot (swp u ((j : Int) - 1).toNat)).toNat, by omega, ps ++ [(j : Int) - 1], swp u ((j : Int) - 1).toNat, _, _, _, rfl, rfl, ?_, by rw [hgt_swp ok]; exact hh, by rw [List.length_append]; show ((ps.length + 1 : Nat) : Int) + _ = _; omega, rfl⟩
          rw [swAll_app, hu]
          show swAll u [(j : Int) - 1] = _
          simp only [swAll, ok, if_true]
        · have hc' : isR u = true := by simpa using hc
          have hz := (isR_pot.mp hc').2
          exact ⟨_, Sub.refl _, ps, u, _, _, _, rfl, rfl, hu, hc', by omega⟩
      rintro σ s ⟨ps, u, x5, x6, x7, rfl, rfl, hu, hR, hp⟩
      walk_at "bn"
      refine we_swapped hX.s ?_
      walk_at "bm"
      refine ⟨b, a, ps, (dps r).map lf, rfl, by walk_at "mem", by walk_at "mem", fun x dx a2 b2 hx ha2 hb2 => .inr ⟨h', x, dx, a2, b2, ps, u, rfl, by walk_at "sub", hu, hR, hp⟩⟩
  · rintro v H' s w (⟨h0, x, d, rfl, m⟩ | ⟨h0, x, d, a, b, ps, u, rfl, hs, hu, hR, hp⟩)
    · exact k1 h0 H' x d w.ex (w.own _ m).1 (w.own _ m).2
    · have w2 := w.sub hs
      have nd : [b, a, x].Nodup := w2.nd
      have ma := w2.own (a, .lst (ps.map V.int)) (List.mem_cons_of_mem _ List.mem_cons_self)
      have mb := w2.own (b, .lst (((dps r).map lf).map V.int)) List.mem_cons_self
      have mx := w2.own (x, sIns C d a b) (List.mem_cons_of_mem _ (List.mem_cons_of_mem _ List.mem_cons_self))
      exact k2 h0 H' x d a b ps u w.ex mx.1 ma.1 mb.1 nd mx.2 ma.2 mb.2 hu hR hp
end BM
namespace BM
open PySem L2 Evl
local macro_rules | `(tactic| walk_at "mem") => `(tactic| first | exact List.mem_cons_self | (refine List.mem_cons_of_mem _ ?_; walk_at "mem"))
local macro_rules | `(tactic| walk_at "swap") => `(tactic| first | exact Swap.here | (apply Swap.there; walk_at "swap"))
local macro_rules | `(tactic| walk_at "subl") => `(tactic| first | exact List.Sublist.refl _ | exact List.nil_sublist _ | (refine List.Sublist.cons_cons _ ?_; walk_at "subl") | (refine List.Sublist.cons _ ?_; walk_at "subl"))
local macro_rules | `(tactic| walk_at "sub") => `(tactic| first | exact Sub.refl _ | (refine ⟨?_, ?_⟩ <;> walk_at "subl"))
local macro_rules | `(tactic| walk_at "isl") => `(tactic| first | exact isL_own (by walk_at "mem") | exact isL_old (by assumption) | assumption)
local macro_rules | `(tactic| walk_at "ist") => `(tactic| first | exact isT_own (by walk_at "mem") | exact isT_old (by assumption) | assumption)
local macro_rules | `(tactic| walk_at "len") => `(tactic| first | omega | decide | (simp only [List.length_map, List.length_take, List.length_drop, List.length_append, List.length_cons, List.length_nil, List.length_reverse, dps_len, flp_len]; omega) | (simp [dps_len, flp_len]; omega) | simp)
local macro_rules | `(tactic| walk_at "b0") => `(tactic| first
  | with_reducible refine' ws_set ?_
  | with_reducible refine' ws_par ?_
  | with_reducible refine' ws_asg ?_
  | with_reducible refine' ws_drop ?_
  | with_reducible refine' ws_ret ?_
  | with_reducible refine' ws_if ?_
  | with_reducible refine' ws_next ?_
  | with_reducible refine' ws_brk ?_
  | with_reducible refine' ws_cont ?_
  | ((with_reducible refine' we_var ?hv ?_); case hv => rfl)
  | with_reducible refine' we_c ?_
  | with_reducible refine' we_op ?_
  | with_reducible refine' we_un ?_
  | with_reducible refine' we_if ?_
  | with_reducible refine' we_and ?_
  | with_reducible refine' we_or ?_
  | with_reducible refine' we_not ?_
  | with_reducible refine' wa_nil ?_
  | with_reducible refine' wa_cons ?_
  | (with_reducible refine' we_lst ?_)
  | (with_reducible refine' we_tup ?_)
  | with_reducible refine' we_cb ?_
  | with_reducible refine' we_call0 ?_
  | with_reducible refine' we_sl ?_
  | with_reducible refine' wo_none ?_
  | (with_reducible refine' wo_some ?_)
  | with_reducible refine' wt_test ?_
  | with_reducible refine' wt_B ?_
  | with_reducible refine' wt_and ?_
  | with_reducible refine' wt_or ?_
  | with_reducible refine' wt_not ?_
  | with_reducible refine' wt_yes ?_
  | with_reducible refine' we_chain ?_
  | with_reducible refine' we_chain3 ?_
  | with_reducible refine' we_revT ?_
  | with_reducible refine' we_revL ?_
  | with_reducible refine' we_bm ?_
  | with_reducible refine' we_bm0 ?_
  | with_reducible refine' ws_for ?_
  | with_reducible refine' we_lc ?_
  | with_reducible refine' wi_list ?_
  | with_reducible refine' wi_tup ?_
  | with_reducible refine' wi_T ?_
  | with_reducible refine' wi_rng1 ?_
  | with_reducible refine' wi_rng2 ?_
  | with_reducible refine' wi_rng3 ?_
  | with_reducible refine' wi_enum ?_
  | with_reducible refine' wi_enumT ?_
  | with_reducible refine' wi_zip ?_
  | with_reducible refine' wg_name ?_
  | with_reducible refine' wg_sub ?_
  | with_reducible refine' wgs_nil ?_
  | with_reducible refine' wgs_cons ?_
  | ((with_reducible refine' wg_tup ?ht ?hn ?_); (case ht => walk_at "ist"); (case hn => rfl))
  | with_reducible refine' w2_add ?_
  | with_reducible refine' w2_sub ?_
  | with_reducible refine' w2_lt ?_
  | with_reducible refine' w2_le ?_
  | with_reducible refine' w2_gt ?_
  | with_reducible refine' w2_ge ?_
  | with_reducible refine' w2_eqI ?_
  | with_reducible refine' w2_neI ?_
  | with_reducible refine' w2_eqT ?_
  | with_reducible refine' w2_neT ?_
  | with_reducible refine' w2_eqB ?_
  | with_reducible refine' w2_neB ?_
  | with_reducible refine' w2_isN ?_
  | with_reducible refine' w2_notN ?_
  | with_reducible refine' w2_isB ?_
  | with_reducible refine' w2_inT ?_
  | with_reducible refine' w1_neg ?_
  | with_reducible refine' wl_abs ?_
  | with_reducible refine' wl_max2 ?_
  | with_reducible refine' wl_min2 ?_
  | with_reducible refine' wl_intB ?_
  | ((with_reducible refine' w2_div ?h ?_); case h => first | omega | (constructor <;> omega))
  | ((with_reducible refine' w2_mod ?h ?_); case h => omega)
  | ((with_reducible refine' w2_catT ?h ?_); case h => walk_at "len")
  | ((with_reducible refine' wsl_T ?h ?_); case h => walk_at "len")
  | ((with_reducible refine' wl_lenT ?h ?_); case h => walk_at "len")
  | ((with_reducible refine' wl_len ?h ?_); case h => walk_at "isl")
  | ((with_reducible refine' wl_len ?h ?_); case h => walk_at "isl")
  | ((with_reducible refine' wm_append ?sw ?hl ?_); (case sw => walk_at "swap"); (case hl => walk_at "len")))
local macro_rules | `(tactic| walk_at "b1") => `(tactic| first | with_reducible refine' ws_seq ?_ | walk_at "b0")
local macro_rules | `(tactic| walk_at "bx") => `(tactic| first
  | refine ⟨_, rfl, ?_⟩
  | refine ⟨_, _, rfl, ?_⟩
  | refine ⟨ty_L (by walk_at "isl"), ?_⟩
  | refine ⟨ty_S, ?_⟩
  | refine spl_t (by rfl) ?_
  | refine spl_f (by rfl) ?_
  | exact rfl)
local macro_rules | `(tactic| walk_at "bm") => `(tactic| repeat (first | walk_at "b1" | walk_at "bx"))
local macro_rules | `(tactic| walk_at "bn") => `(tactic| repeat (first | walk_at "b0" | walk_at "bx"))
local macro_rules | `(tactic| walk_at "b0") => `(tactic| with_reducible refine' c_deepens ?_)
local macro_rules | `(tactic| walk_at "b0") => `(tactic| ((with_reducible refine' c_depths_of ?hl ?_); (case hl => walk_at "len")))
local macro_rules | `(tactic| walk_at "b0") => `(tactic| with_reducible refine' c_is_wholeI ?_)
local macro_rules | `(tactic| walk_at "b0") => `(tactic| with_reducible refine' c_flipped ?_)
local macro_rules | `(tactic| walk_at "b0") => `(tactic| ((with_reducible refine' c_is_right_row ?hl ?_); (case hl => walk_at "len")))
local macro_rules | `(tactic| walk_at "b0") => `(tactic| ((with_reducible refine' c_asked_row ?hl ?_); (case hl => walk_at "len")))
local macro_rules | `(tactic| walk_at "b0") => `(tactic| ((with_reducible refine' c_depths ?hl ?_); (case hl => walk_at "len")))
local macro_rules | `(tactic| walk_at "b0") => `(tactic| ((with_reducible refine' c_is_right ?hl ?_); (case hl => walk_at "len")))
local macro_rules | `(tactic| walk_at "b0") => `(tactic| ((with_reducible refine' c__law_depths ?hl ?_); (case hl => walk_at "len")))
local macro_rules | `(tactic| walk_at "b0") => `(tactic| ((with_reducible refine' c__law_good ?hl ?_); (case hl => walk_at "len")))
local macro_rules | `(tactic| walk_at "b0") => `(tactic| ((with_reducible refine' wl_listOf ?hx ?_); (case hx => walk_at "isl")))
local macro_rules | `(tactic| walk_at "b0") => `(tactic| with_reducible refine' w2_notB ?_)
local macro_rules | `(tactic| walk_at "own") => `(tactic| exact own_l (by walk_at "mem"))
local macro_rules | `(tactic| walk_at "b0") => `(tactic| with_reducible refine' we_fld ?_)
local macro_rules | `(tactic| walk_at "b0") => `(tactic| refine ⟨_, _, _, _, _, rfl, own_l (by walk_at "mem"), Grw.cl (by assumption), Grw.nr (by assumption), by rfl, ?_⟩)
local macro_rules | `(tactic| walk_at "b0") => `(tactic| refine ⟨_, _, _, _, _, rfl, fun H' o => o.ex _ _ (by assumption), Grw.cl (by assumption), Grw.nr (by assumption), by rfl, ?_⟩)
local macro_rules | `(tactic| walk_at "b0") => `(tactic| with_reducible refine' we_meth ?_)
local macro_rules | `(tactic| walk_at "b0") => `(tactic| refine ⟨_, _, _, rfl, own_l (by walk_at "mem"), by rfl, ?_⟩)
local macro_rules | `(tactic| walk_at "b0") => `(tactic| refine ⟨_, _, _, rfl, fun H' o => o.ex _ _ (by assumption), by rfl, ?_⟩)
local macro_rules | `(tactic| walk_at "gown") => `(tactic| first | exact own_l (by walk_at "mem") | exact fun H' o => o.ex _ _ (by assumption))
local macro_rules | `(tactic| walk_at "b0") => `(tactic| with_reducible refine' wm_countT ?_)
local macro_rules | `(tactic| walk_at "b0") => `(tactic| with_reducible refine' we_methU ?_)
theorem c_swaps_un {K : PySem.W.Frag} {C : CA} {H0 : Hp} {s : Ld} {Q : V → Ld → Prop} {E : XK} {r : List Bool} (hX : Ex02 K C) (hl : r.length ≤ 40) (h0 : hgt r ≠ 0) (q : ∀ x d, Q (.ref x) ⟨(x, uIns C d (hgt r)) :: s.L, s.T⟩) : WC H0 (sp_swaps K C) E [.str (T r)] s Q := fun H o R k =>
  ⟨r, hX, rfl, hl, fun _ H' x d e hx h => k _ _ _ (own_add (o.ext e) (fresh_back o.ex hx) (own_key o hx) h) (q x d), fun h => absurd h h0⟩
theorem c_swaps_ev {K : PySem.W.Frag} {C : CA} {H0 : Hp} {s : Ld} {Q : V → Ld → Prop} {E : XK} {r : List Bool} (hX : Ex02 K C) (hl : r.length ≤ 40) (h0 : hgt r = 0) (q : ∀ x d a b ps u, swAll r ps = some u → isR u = true → (ps.length : Int) = pot r → Q (.ref x) ⟨(b, .lst (((dps r).map lf).map V.int)) :: (a, .lst (ps.map V.int)) :: (x, sIns C d a b) :: s.L, s.T⟩) : WC H0 (sp_swaps K C) E [.str (T r)] s Q := fun H o R k =>
  ⟨r, hX, rfl, hl, fun h => absurd h0 h, fun _ H' x d a b ps u e hx ha hb nd h1 h2 h3 hu hR hp => by
    have nb : b ∉ [a, x] := (List.nodup_cons.mp nd).1
    have na : a ∉ [x] := (List.nodup_cons.mp (List.nodup_cons.mp nd).2).1
    have w1 := own_add (o.ext e) (fresh_back o.ex hx) (own_key o hx) h1
    have w2 := own_add w1 (fresh_back o.ex ha) (fun hm => by
      rcases List.mem_cons.mp hm with z | hm
      · exact na (by rw [z]; exact List.mem_cons_self)
      · exact own_key o ha hm) h2
    have w3 := own_add w2 (fresh_back o.ex hb) (fun hm => by
      rcases List.mem_cons.mp hm with z | hm
      · exact nb (by rw [z]; exact List.mem_cons_self)
      rcases List.mem_cons.mp hm with z | hm
      · exact nb (by rw [z]; exact List.mem_cons_of_mem _ List.mem_cons_self)
      · exact own_key o hb hm) h3
    exact k _ _ _ w3 (q x d a b ps u hu hR hp)⟩
theorem ln__law_due02 {K : PySem.W.Frag} {C : CA} {vs : List V} {H : Hp} {Q : VK} {E : XK} (h : sp__law_due02 K C vs H Q E) : vs.length = 2 := by
  obtain ⟨_, ⟨r, x, f, _, rfl, _⟩, _⟩ := h
  rfl
theorem pu__law_due02 {K : PySem.W.Frag} {C : CA} {vs : List V} {H : Hp} {Q : VK} {E : XK} (h : sp__law_due02 K C vs H Q E) : rd__law_due02 K C { nx := fun _ H' => Q .non H', rt := Q } (start N__law_due02 vs) H := by
  obtain ⟨_, ⟨r, x, f, hX, rfl, hl, hA, rfl⟩, k⟩ := h
  refine body_V ?_ k
  unfold rd__law_due02
  rcases hA with ⟨d, z, hx, rfl⟩ | ⟨d, a, b, ps, ls, hx, ha, hb, rfl⟩
  · walk_at "bm"
    refine wl_isiC (fun H' o => hX.u.c.ty (o.ex _ _ hx)) (kit_self _ _) ?_
    walk_at "bm"
    refine ⟨_, _, _, _, _, rfl, fun H' o => o.ex _ _ hx, hX.u.c.cl, hX.u.n, rfl, ?_⟩
    walk_at "bm"
    refine c__law_uneven hl ?_
    rfl
  · walk_at "bm"
    refine wl_isiC (fun H' o => hX.s.c.ty (o.ex _ _ hx)) hX.su ?_
    walk_at "bm"
    refine ⟨_, _, _, _, _, rfl, fun H' o => o.ex _ _ hx, hX.s.c.cl, hX.s.np, rfl, ?_⟩
    walk_at "bm"
    refine ⟨_, _, _, _, _, rfl, fun H' o => o.ex _ _ hx, hX.s.c.cl, hX.s.nl, rfl, ?_⟩
    walk_at "bm"
    refine c__law_swapped (isL_old ha) (isL_old hb) hl ?_
    rfl
theorem c__law_due02 {K : PySem.W.Frag} {C : CA} {H0 : Hp} {s : Ld} {Q : V → Ld → Prop} {E : XK} {r : List Bool} {x : Addr} {f : List Bool → Bool} (hX : Ex02 K C) (hl : r.length ≤ 1000) (hA : ∀ H, Own H0 H s → SwAns K C H x f) (q : Q (.bl (f r)) s) : WC H0 (sp__law_due02 K C) E [.str (T r), .ref x] s Q := wc_V (fun H o => ⟨r, x, f, hX, rfl, hl, hA H o, rfl⟩) q
theorem unSh_self {r : List Bool} (h : hgt r ≠ 0) : unSh r (hgt r) = true := by
  unfold unSh
  simp [h]
theorem swSh_self {r u : List Bool} {ps : List Int} (hu : swAll r ps = some u) (hR : isR u = true) (hp : (ps.length : Int) = pot r) : swSh r ps ((dps r).map lf) = true := by
  rw [swSh_some hu, hR, pot_sum, ← hp]
  have h1 : ((dps r).map lf).length = r.length + 1 := by rw [List.length_map, dps_len]
  rw [decide_eq_true h1]
  have h2 : ((dps r).zip ((dps r).map lf)).all zipOk = true := by
    rw [List.all_eq_true]
    rintro ⟨d, l⟩ hm
    obtain ⟨i, hi⟩ := List.mem_iff_getElem?.mp hm
    rw [List.getElem?_zip_eq_some, List.getElem?_map] at hi
    obtain ⟨h3, h4⟩ := hi
    rw [h3] at h4
    have e4 : l = lf d := (Option.some.inj h4).symm
    subst e4
    have := lf_ok (d := d)
    unfold zipOk
    simp only [Bool.not_eq_true', Bool.or_eq_false_iff, Bool.and_eq_false_imp, decide_eq_false_iff_not, decide_eq_true_eq]
    exact ⟨fun h => this (.inl h), fun h h2 => this (.inr ⟨h, h2⟩)⟩
  rw [h2]
  simp
theorem swSh_long {r : List Bool} {ps ls : List Int} (h : ls.length ≠ r.length + 1) : swSh r ps ls = false := by
  unfold swSh
  split
  · rfl
  · rw [decide_eq_false h]
    simp
theorem ln__law_right02 {K : PySem.W.Frag} {C : CA} {vs : List V} {H : Hp} {Q : VK} {E : XK} (h : sp__law_right02 K C vs H Q E) : vs.length = 2 := by
  obtain ⟨_, ⟨r, b, rs, _, rfl, _⟩, _⟩ := h
  rfl
theorem getR {rs : List (List Bool)} {i : Nat} {y : V} (hy : (rs.map fun r => V.str (T r))[i]? = some y) : ∃ z, rs[i]? = some z ∧ y = V.str (T z) := by
  rw [List.getElem?_map] at hy
  cases e : rs[i]? with
  | none => rw [e] at hy; cases hy
  | some z => rw [e] at hy; exact ⟨z, rfl, (Option.some.inj hy).symm⟩
theorem pu__law_right02 {K : PySem.W.Frag} {C : CA} {vs : List V} {H : Hp} {Q : VK} {E : XK} (h : sp__law_right02 K C vs H Q E) : rd__law_right02 K C { nx := fun _ H' => Q .non H', rt := Q } (start N__law_right02 vs) H := by
  obtain ⟨_, ⟨r, o, rs, hX, rfl, hl, ho, hrs, rfl⟩, k⟩ := h
  refine body_V ?_ k
  unfold rd__law_right02
  obtain ⟨ev, hev⟩ : ∃ ev : Bool, decide ((r.count true : Int) = (r.count false : Int)) = ev := ⟨_, rfl⟩
  have hgv : decide (hgt r = 0) = ev := by
    rw [← hev, hgt_count]
    exact decide_eq_decide.mpr (by omega)
  refine ws_cut (fun σ s => σ = [some (.str (T r)), some (.ref o), some (.bl ev), none, none, none] ∧ s = ⟨[], []⟩) ?_ ?_
  · walk_at "bm"
    rw [hev]
    exact ⟨_, Sub.refl _, rfl, rfl⟩
  rintro σ s ⟨rfl, rfl⟩
  refine ws_cut (fun σ s => ∃ x3 x4 x5, σ = [some (.str (T r)), some (.ref o), some (.bl ev), x3, x4, x5] ∧ s = ⟨[], []⟩) ?_ ?_
  · walk_at "bm"
    refine ⟨by decide, ?_⟩
    refine lp_rng (fun i σ s => ∃ x3 x4 x5, σ = [some (.str (T r)), some (.ref o), some (.bl ev), x3, x4, x5] ∧ s = ⟨[], []⟩) ⟨none, none, none, rfl, rfl⟩ ?_ (fun σ s ⟨x3, x4, x5, e1, e2⟩ => ⟨_, Sub.refl _, x3, x4, x5, e1, e2⟩)
    rintro i σ s hi ⟨x3, x4, x5, rfl, rfl⟩
    refine wg_name ?_
    by_cases h0 : hgt r = 0
    · have evt : ev = true := by rw [← hgv, decide_eq_true h0]
      subst evt
      refine ws_seq ?_
      walk_at "bn"
      refine c_swaps_ev hX hl h0 fun x d a b ps u hu hR hp => ?_
      walk_at "bn"
      have hty : ∀ {s : Ld}, (x, sIns C d a b) ∈ s.L → ∀ H', Own H H' s → TyX K H' (.ref x) (.ref C.c_Swapped) := fun h H' w => hX.s.c.ty (w.own _ h).2
      have hA : ∀ {s : Ld}, Sub ⟨[(b, .lst (((dps r).map lf).map V.int)), (a, .lst (ps.map V.int)), (x, sIns C d a b)], []⟩ s → ∀ H', Own H H' s → SwAns K C H' x (fun r' => swSh r' ps ((dps r).map lf)) := fun {s} hs H' w => .inr ⟨d, a, b, ps, _, own_l (by walk_at "mem") H' (w.sub hs), sq_of (own_l (by walk_at "mem") H' (w.sub hs)), sq_of (own_l (by walk_at "mem") H' (w.sub hs)), rfl⟩
      walk_at "bm"
      refine wl_isiC (hty (by walk_at "mem")) hX.sa ?_
      walk_at "bm"
      refine wl_isiC (hty (by walk_at "mem")) hX.st ?_
      walk_at "bm"
      refine wl_isiC (hty (by walk_at "mem")) hX.so ?_
      walk_at "bm"
      refine wl_isiC (hty (by walk_at "mem")) hX.sr ?_
      walk_at "bm"
      refine wl_isiC (hty (by walk_at "mem")) (kit_self _ _) ?_
      walk_at "bm"
      refine wl_isiC (hty (by walk_at "mem")) hX.su ?_
      walk_at "bm"
      refine ⟨by simp, fun p1 hp1 => ?_⟩
      walk_at "bm"
      refine ⟨by simp, fun p2 hp2 => ?_⟩
      refine w2_neLB (ns := [true, false]) (ms := [true, false]) (by walk_at "isl") (by walk_at "isl") ?_
      walk_at "bm"
      refine c__law_due02 hX (by omega) (hA (by walk_at "sub")) ?_
      rw [swSh_self hu hR hp]
      walk_at "bm"
      refine ⟨x, _, d, _, rfl, own_l (by walk_at "mem"), by rfl, .inr ⟨rfl, ?_⟩⟩
      walk_at "bm"
      refine c_s_shows hX.s (d := d) (a := a) (b := b) (ps := ps) (ls := (dps r).map lf) (own_l (by walk_at "mem")) (by walk_at "isl") (by walk_at "isl") (by omega) ?_
      rw [swSh_self hu hR hp]
      walk_at "bn"
      refine ws_weak (s0 := ⟨[(b, .lst (((dps r).map lf).map V.int)), (a, .lst (ps.map V.int)), (x, sIns C d a b)], []⟩) (by walk_at "sub") ?_
      refine ws_cut (fun σ s => ∃ x5, σ = [some (.str (T r)), some (.ref o), some (.bl true), some (.int (0 + (i : Int))), some (.ref x), x5] ∧ s = ⟨[(b, .lst (((dps r).map lf).map V.int)), (a, .lst (ps.map V.int)), (x, sIns C d a b)], []⟩) ?_ ?_
      · walk_at "bm"
        refine ⟨⟨_, isL_old ho⟩, ?_⟩
        refine lp_list (xs := rs.map fun r => .str (T r)) (n := rs.length) (fun j σ s => ∃ x5, σ = [some (.str (T r)), some (.ref o), some (.bl true), some (.int (0 + (i : Int))), some (.ref x), x5] ∧ s = ⟨[(b, .lst (((dps r).map lf).map V.int)), (a, .lst (ps.map V.int)), (x, sIns C d a b)], []⟩) (by simp) ⟨x5, rfl, rfl⟩ (fun _ _ _ _ _ => isL_old ho) ?_ (fun σ s ⟨x5, e1, e2⟩ => ⟨_, Sub.refl _, x5, e1, e2⟩)
        rintro j y σ s hj hy ⟨x5, rfl, rfl⟩
        obtain ⟨z, hz, rfl⟩ := getR hy
        have hzl := hrs z (List.mem_of_getElem? hz)
        refine wg_name ?_
        walk_at "bm"
        refine ⟨x, _, d, _, rfl, own_l (by walk_at "mem"), by rfl, .inr ⟨rfl, ?_⟩⟩
        walk_at "bm"
        refine c_s_shows hX.s (d := d) (a := a) (b := b) (ps := ps) (ls := (dps r).map lf) (own_l (by walk_at "mem")) (by walk_at "isl") (by walk_at "isl") hzl ?_
        walk_at "bm"
        refine c__law_due02 hX hzl (hA (by walk_at "sub")) ?_
        walk_at "bm"
        refine spl_f (by simp) ?_
        walk_at "bm"
        exact ⟨_, Sub.refl _, _, rfl, rfl⟩
      rintro σ s ⟨x5, rfl, rfl⟩
      walk_at "bm"
      refine ⟨_, _, _, _, _, rfl, own_l (by walk_at "mem"), hX.s.c.cl, hX.s.nl, rfl, ?_⟩
      walk_at "bm"
      refine ⟨x, _, d, _, rfl, own_l (by walk_at "mem"), by rfl, .inr ⟨rfl, ?_⟩⟩
      walk_at "bm"
      refine c_s_shows hX.s (d := d) (a := a) (b := b) (ps := ps) (ls := (dps r).map lf ++ [0]) (own_l (by walk_at "mem")) (by walk_at "isl") (by rw [List.map_append]; walk_at "isl") (by omega) ?_
      rw [swSh_long (by rw [List.length_append, List.length_map, dps_len]; simp)]
      walk_at "bm"
      exact ⟨_, by walk_at "sub", _, _, _, rfl, rfl⟩
    · have evt : ev = false := by rw [← hgv, decide_eq_false h0]
      subst evt
      refine ws_seq ?_
      walk_at "bn"
      refine c_swaps_un hX hl h0 fun x d => ?_
      walk_at "bn"
      have hty : ∀ {s : Ld}, (x, uIns C d (hgt r)) ∈ s.L → ∀ H', Own H H' s → TyX K H' (.ref x) (.ref C.c_Uneven) := fun h H' w => hX.u.c.ty (w.own _ h).2
      have hA : ∀ {s : Ld}, Sub ⟨[(x, uIns C d (hgt r))], []⟩ s → ∀ H', Own H H' s → SwAns K C H' x (fun r' => unSh r' (hgt r)) := fun {s} hs H' w => .inl ⟨d, _, own_l (by walk_at "mem") H' (w.sub hs), rfl⟩
      walk_at "bm"
      refine wl_isiC (hty (by walk_at "mem")) hX.ua ?_
      walk_at "bm"
      refine wl_isiC (hty (by walk_at "mem")) hX.ut ?_
      walk_at "bm"
      refine wl_isiC (hty (by walk_at "mem")) hX.uo ?_
      walk_at "bm"
      refine wl_isiC (hty (by walk_at "mem")) hX.ur ?_
      walk_at "bm"
      refine wl_isiC (hty (by walk_at "mem")) hX.us ?_
      walk_at "bm"
      refine wl_isiC (hty (by walk_at "mem")) (kit_self _ _) ?_
      walk_at "bm"
      refine ⟨by simp, fun p1 hp1 => ?_⟩
      walk_at "bm"
      refine ⟨by simp, fun p2 hp2 => ?_⟩
      refine w2_neLB (ns := [false, true]) (ms := [false, true]) (by walk_at "isl") (by walk_at "isl") ?_
      walk_at "bm"
      refine c__law_due02 hX (by omega) (hA (by walk_at "sub")) ?_
      rw [unSh_self h0]
      walk_at "bm"
      refine ⟨x, _, d, _, rfl, own_l (by walk_at "mem"), by rfl, .inl ⟨rfl, ?_⟩⟩
      walk_at "bm"
      refine c_u_shows hX.u (d := d) (z := hgt r) (own_l (by walk_at "mem")) (by omega) ?_
      rw [unSh_self h0]
      walk_at "bn"
      refine ws_weak (s0 := ⟨[(x, uIns C d (hgt r))], []⟩) (by walk_at "sub") ?_
      refine ws_cut (fun σ s => ∃ x5, σ = [some (.str (T r)), some (.ref o), some (.bl false), some (.int (0 + (i : Int))), some (.ref x), x5] ∧ s = ⟨[(x, uIns C d (hgt r))], []⟩) ?_ ?_
      · walk_at "bm"
        refine ⟨⟨_, isL_old ho⟩, ?_⟩
        refine lp_list (xs := rs.map fun r => .str (T r)) (n := rs.length) (fun j σ s => ∃ x5, σ = [some (.str (T r)), some (.ref o), some (.bl false), some (.int (0 + (i : Int))), some (.ref x), x5] ∧ s = ⟨[(x, uIns C d (hgt r))], []⟩) (by simp) ⟨x5, rfl, rfl⟩ (fun _ _ _ _ _ => isL_old ho) ?_ (fun σ s ⟨x5, e1, e2⟩ => ⟨_, Sub.refl _, x5, e1, e2⟩)
        rintro j y σ s hj hy ⟨x5, rfl, rfl⟩
        obtain ⟨z, hz, rfl⟩ := getR hy
        have hzl := hrs z (List.mem_of_getElem? hz)
        refine wg_name ?_
        walk_at "bm"
        refine ⟨x, _, d, _, rfl, own_l (by walk_at "mem"), by rfl, .inl ⟨rfl, ?_⟩⟩
        walk_at "bm"
        refine c_u_shows hX.u (d := d) (z := hgt r) (own_l (by walk_at "mem")) hzl ?_
        walk_at "bm"
        refine c__law_due02 hX hzl (hA (by walk_at "sub")) ?_
        walk_at "bm"
        refine spl_f (by simp) ?_
        walk_at "bm"
        exact ⟨_, Sub.refl _, _, rfl, rfl⟩
      rintro σ s ⟨x5, rfl, rfl⟩
      walk_at "bm"
      exact ⟨_, by walk_at "sub", _, _, _, rfl, rfl⟩
  rintro σ s ⟨x3, x4, x5, rfl, rfl⟩
  walk_at "bm"
end BM
namespace BM
open PySem L2 Evl
section
variable {K : PySem.W.Frag} {H0 : Hp} {σ : L2.St} {s : Ld} {tk td ty tv : TE} {Q : V → Ld → Prop} {D : Dl}
theorem we_disp1 (h : ∀ p, H0 p = none → WE H0 tk σ ⟨(p, .dK []) :: s.L, s.T⟩ fun x s1 => WE H0 tv σ s1 fun y s2 => ∃ (k : Key) (L' : List (Addr × HO)), x = kV k ∧ Swap p (.dK []) (.dK [(k, y)]) s2.L L' ∧ Q (.ref p) ⟨L', s2.T⟩) : WE H0 (tDisp [(tk, tv)]) σ s Q := fun H o R k p hp =>
  h p (fresh_back o.ex hp) _ (o.new hp) _ fun x H1 s1 o1 h1 => h1 H1 o1 _ fun y H2 s2 o2 ⟨ky, L', e, sw, q⟩ => ⟨(o2.own _ sw.mem).2, [(ky, y)], by rw [e]; rfl, by simp, k _ _ _ (o2.swap sw trivial) q⟩
theorem we_dnotin (h : WE H0 ty σ s fun y s1 => WE H0 td σ s1 fun x s2 => ∃ (a : Addr) (kvs : List (Key × V)) (k : Key), x = .ref a ∧ y = kV k ∧ (a, HO.dK kvs) ∈ s2.L ∧ Q (.bl (!(valV kvs k).isSome)) s2) : WE H0 (tDNotIn ty td) σ s Q := fun H o R k =>
  h H o _ fun y H1 s1 o1 h1 => h1 H1 o1 _ fun x H2 s2 o2 ⟨a, kvs, ky, e, ey, m, q⟩ => ⟨a, valV kvs ky, e, by rw [ey]; exact DGet.k (o2.own _ m).2, k _ _ _ o2 q⟩
theorem ws_dput (h : WE H0 tv σ s fun v s1 => WE H0 td σ s1 fun x s2 => WE H0 ty σ s2 fun y s3 => ∃ (a : Addr) (kvs : List (Key × V)) (k : Key) (L' : List (Addr × HO)), x = .ref a ∧ y = kV k ∧ Swap a (.dK kvs) (.dK (putK kvs k v)) s3.L L' ∧ kvs.length < 100000 ∧ D.nx σ ⟨L', s3.T⟩) : WS H0 (sDPut td ty tv) σ s D := fun H o E l =>
  h H o _ fun v H1 s1 o1 h1 => h1 H1 o1 _ fun x H2 s2 o2 h2 => h2 H2 o2 _ fun y H3 s3 o3 ⟨a, kvs, ky, L', e, ey, sw, hl, q⟩ => ⟨a, _, e, by rw [ey]; exact DPut.k (o3.own _ sw.mem).2 (sz_lt hl), l.nx _ _ _ (o3.swap sw trivial) q⟩
end
/-! ### a sign many times -/
def aRepT : R2 := fun x y H Q => ∃ (b : Bool) (n : Nat), x = .str (T [b]) ∧ y = .int (n : Int) ∧ n ≤ 1000 ∧ Q (.str (T (List.replicate n b))) H
theorem fold_rep (c : Nat) : ∀ (n : Nat) (acc : Array Nat), (List.replicate n #[c]).foldl (· ++ ·) acc = acc ++ (List.replicate n c).toArray
  | 0, acc => by simp
  | n + 1, acc => by
    rw [List.replicate_succ, List.foldl_cons, fold_rep c n, List.replicate_succ]
    apply Array.ext'
    simp
theorem mul_T (b : Bool) (n : Nat) : Txt.mul (T [b]) (n : Int) = T (List.replicate n b) := by
  unfold Txt.mul
  by_cases h1 : (n : Int) < 1
  · rw [if_pos h1, show n = 0 by omega]
    rfl
  · rw [if_neg h1]
    by_cases h2 : (n : Int) = 1
    · rw [if_pos (by simp [h2]), show n = 1 by omega]
      rfl
    · rw [if_neg (by simp [h2, T_len])]
      show (⟨(List.replicate ((n : Int)).toNat #[B b]).foldl (· ++ ·) #[]⟩ : Str) = ⟨((List.replicate n b).map B).toArray⟩
      rw [fold_rep, Int.toNat_natCast, List.map_replicate]
      congr 1
      simp
theorem o_repT {X : Cx} : OpR X (binaryOp .Mult) aRepT := by
  intro pins s σ H x y v u Q I rx ry h
  obtain ⟨b, n, rfl, rfl, hn, q⟩ := h
  obtain ⟨t, rfl⟩ := rx
  obtain ⟨t2, rfl⟩ := ry
  have hl : (T [b]).length = 1 := T_len [b]
  refine SB.mul ⟨by simp; omega, fun h1 h2 => ?_, fun h1 h2 => ?_⟩ fun t' k => ⟨.str (T (List.replicate n b)), H, I.tok _, ⟨t', by rw [mul_T]⟩, q⟩
  · rw [hl]
    have hp : (0 : Int) < n := by omega
    have : (1 : Int) ≤ (2 ^ 63 - 1) / (n : Int) := (Int.le_ediv_iff_mul_le hp).mpr (by omega)
    omega
  · rw [hl, Nat.one_mul, Int.toNat_natCast]
    show decide (n > sizeLine) = false
    rw [sizeLine_eq]
    simp
    omega
theorem w2_repT {H0 : Hp} {s : Ld} {Q : V → Ld → Prop} {b : Bool} {j : Int} (h : 0 ≤ j ∧ j ≤ 1000) (q : Q (.str (T (List.replicate j.toNat b))) s) : W2 H0 aRepT (.str (T [b])) (.int j) s Q := fun H o R k => ⟨b, j.toNat, rfl, by rw [Int.toNat_of_nonneg h.1], by omega, k _ H s o q⟩
/-! ### rows met, as a dict -/
def metD (ms : List (List Bool)) : List (Key × V) := ms.map fun r => (Sum.inr (T r), V.bl true)
theorem metD_in (ms : List (List Bool)) (r : List Bool) : (valV (metD ms) (Sum.inr (T r) : Key)).isSome = decide (r ∈ ms) := by
  induction ms with
  | nil => rfl
  | cons u ms ih =>
    show (valV ((Sum.inr (T u), V.bl true) :: metD ms) (Sum.inr (T r))).isSome = _
    by_cases e : u = r
    · subst e
      rw [valV_pos rfl]
      simp
    · rw [valV_neg (fun h => e (T_inj (Sum.inr.inj h))), ih]
      apply decide_eq_decide.mpr
      rw [List.mem_cons]
      exact ⟨fun h => .inr h, fun h => h.resolve_left fun h2 => e h2.symm⟩
theorem metD_put {ms : List (List Bool)} {r : List Bool} (h : r ∉ ms) : putK (metD ms) (Sum.inr (T r) : Key) (V.bl true) = metD (ms ++ [r]) := by
  unfold putK
  rw [if_neg]
  · unfold metD
    rw [List.map_append]
    rfl
  · intro hh
    obtain ⟨kv, hm, e⟩ := List.any_eq_true.mp hh
    obtain ⟨u, hu, rfl⟩ := List.mem_map.mp hm
    have := of_decide_eq_true e
    exact h (T_inj (Sum.inr.inj this) ▸ hu)
theorem nodup_len {α : Type} [DecidableEq α] : ∀ {l s : List α}, l.Nodup → (∀ x ∈ l, x ∈ s) → l.length ≤ s.length
  | [], s, _, _ => Nat.zero_le _
  | a :: l, s, h, hs => by
    have h1 := List.nodup_cons.mp h
    have ha := hs a List.mem_cons_self
    have ih := nodup_len (s := s.erase a) h1.2 fun x hx => (List.mem_erase_of_ne (fun e => h1.1 (by rw [← e]; exact hx))).mpr (hs x (List.mem_cons_of_mem _ hx))
    rw [List.length_erase_of_mem ha] at ih
    have : 0 < s.length := List.length_pos_of_mem ha
    rw [List.length_cons]
    omega
def allR : Nat → List (List Bool)
  | 0 => [[]]
  | n + 1 => (allR n).map (true :: ·) ++ (allR n).map (false :: ·)
theorem allR_len : ∀ n, (allR n).length = 2 ^ n
  | 0 => rfl
  | n + 1 => by
    show ((allR n).map _ ++ (allR n).map _).length = _
    rw [List.length_append, List.length_map, List.length_map, allR_len n, Nat.pow_succ]
    omega
theorem mem_allR : ∀ r : List Bool, r ∈ allR r.length
  | [] => List.mem_cons_self
  | b :: r => by
    show (b :: r) ∈ (allR r.length).map _ ++ (allR r.length).map _
    rw [List.mem_append, List.mem_map, List.mem_map]
    cases b
    · exact .inr ⟨r, mem_allR r, rfl⟩
    · exact .inl ⟨r, mem_allR r, rfl⟩
theorem few_rows {ms : List (List Bool)} {n : Nat} (h : ms.Nodup) (hl : ∀ u ∈ ms, u.length = n) (hn : n ≤ 8) : ms.length ≤ 256 := by
  have h1 := nodup_len h (s := allR n) fun u hu => by rw [← hl u hu]; exact mem_allR u
  rw [allR_len] at h1
  exact Nat.le_trans h1 (Nat.le_trans (Nat.pow_le_pow_right (by decide) hn) (by decide))
def sp__law_least02 (K : PySem.W.Frag) (C : CA) : Sp := spV fun vs H v => ∃ r : List Bool, vs = [.str (T r)] ∧ r.length ≤ 8 ∧ hgt r = 0 ∧ v = .int (pot r)
def sp_law02 (K : PySem.W.Frag) (C : CA) : Sp := spV fun vs H v => ∃ (a : Addr) (ns : List Int), Ex02 K C ∧ vs = [.ref a] ∧ SqL K H a (ns.map V.int) ∧ ns.length ≤ 63 ∧ v = .bl true
end BM
namespace BM
open PySem L2 Evl
def N__law_least02 : List Str := ["_law_row_here", "_law_met", "_law_ring", "_law_many", "_law_after", "_law_one", "_law_place", "_law_other"]
def rd__law_least02 (K : PySem.W.Frag) (C_ : CA) : TS :=
    (tSeq (tPar3 1 2 3 (tCons (tDisp [((tVar 0), (tC (.bl true)))]) (tCons (tLst (tCons (tVar 0) tNil)) (tCons (tC (.int 0)) tNil))))
    (tSeq (tWhile (tNot (tB (tCB (aAny K) (tCons (tLc (iList K (tVar 2)) (gName 5) tYes (tCall (sp__law_good K C_) [] E0 (tCons (tVar 5) tNil)) [5]) tNil)))) (tSeq (tAsg (tLst tNil) (gName 4))
    (tSeq (tFor (iList K (tVar 2)) (gName 5) (tFor (iRng1 (tCons (tOp aSub (tCB aLenT (tCons (tVar 0) tNil)) (tC (.int 1))) tNil)) (gName 6) (tSeq (tAsg (tCall (sp__law_swap K C_) [] E0 (tCons (tVar 5) (tCons (tVar 6) tNil))) (gName 7))
    (tIfS (tAnd (tTest (tOp aNotN (tVar 7) (tC .non))) (tTest (tDNotIn (tVar 7) (tVar 1)))) (tSeq (sDPut (tVar 1) (tVar 7) (tC (.bl true)))
    (tDrop (tBM K "list" rAppend (tVar 4) (tCons (tVar 7) tNil)))) tNext))))
    (tPar 2 3 (tCons (tVar 4) (tCons (tOp aAdd (tVar 3) (tC (.int 1))) tNil))))))
    (tRet (tVar 3))))

def N_law02 : List Str := ["_law_script", "_law_by", "_law_row_here", "_law_told", "_law_far"]
def rd_law02 (K : PySem.W.Frag) (C_ : CA) : TS :=
    (tSeq (tFor (iList K (tLst (tCons (tC (.int 0)) (tCons (tC (.int 1)) (tCons (tC (.int 2)) (tCons (tC (.int 3)) tNil)))))) (gName 1) (tSeq (tAsg (tCall (sp__law_row K C_) [] E0 (tCons (tVar 0) (tCons (tVar 1) (tCons (tC (.int 40)) (tCons (tOp aLt (tVar 1) (tC (.int 3))) tNil))))) (gName 2))
    (tIfS (tNot (tB (tCall (sp__law_right02 K C_) [] E0 (tCons (tVar 2) (tCons (tLst (tCons (tCall (sp__law_row K C_) [] E0 (tCons (tVar 0) (tCons (tOp aAdd (tVar 1) (tC (.int 4))) (tCons (tC (.int 40)) (tCons (tC (.bl true)) tNil))))) (tCons (tRevT (tVar 2)) (tCons (tSl aSlT (tVar 2) (tPart (tC (.int 2))) tNoPart) (tCons (tC (.str (T []))) tNil))))) tNil))))) (tRet (tC (.bl false))) tNext)))
    (tSeq (tAsg (tCall (sp__law_row K C_) [] E0 (tCons (tVar 0) (tCons (tC (.int 9)) (tCons (tC (.int 8)) (tCons (tC (.bl true)) tNil))))) (gName 2))
    (tSeq (tAsg (tCall (sp_swaps K C_) [] E0 (tCons (tVar 2) tNil)) (gName 3))
    (tSeq (tIfS (tOr (tNot (tB (tCB (aIsiC K C_.c_Swapped) (tCons (tVar 3) (tCons (tC (.ref C_.c_Swapped)) tNil))))) (tTest (tOp rNe (tCB (aLenL K) (tCons (tFld K (tVar 3) "places") tNil)) (tCall (sp__law_least02 K C_) [] E0 (tCons (tVar 2) tNil))))) (tRet (tC (.bl false))) tNext)
    (tSeq (tAsg (tCall (sp_swaps K C_) [] E0 (tCons (tOp aCatT (tOp aRepT (tC (.str (T [false]))) (tC (.int 20))) (tOp aRepT (tC (.str (T [true]))) (tC (.int 20)))) tNil)) (gName 4))
    (tSeq (tIfS (tOr (tNot (tB (tCB (aIsiC K C_.c_Swapped) (tCons (tVar 4) (tCons (tC (.ref C_.c_Swapped)) tNil))))) (tOr (tTest (tOp rNe (tCB (aLenL K) (tCons (tFld K (tVar 4) "places") tNil)) (tC (.int 210)))) (tTest (tOp (rNeD K) (tFld K (tCall (sp_swaps K C_) [] E0 (tCons (tC (.str (T [false, true]))) tNil)) "lifts") (tLst (tCons (tC (.int 0)) (tCons (tC (.int 1)) (tCons (tC (.int 0)) tNil)))))))) (tRet (tC (.bl false))) tNext)
    (tRet (tAndV (tOp (rEqD K) (tFld K (tCall (sp_swaps K C_) [] E0 (tCons (tC (.str (T [true, false, false, true, true, false]))) tNil)) "lifts") (tLst (tCons (tC (.int 0)) (tCons (tC (.int 0)) (tCons (tC (.int 0)) (tCons (tC (.int 1)) (tCons (tC (.int 0)) (tCons (tC (.int 0)) (tCons (tC (.int 0)) tNil))))))))) (tAndV (tOp rEq (tFld K (tCall (sp_swaps K C_) [] E0 (tCons (tC (.str (T [true, true, true]))) tNil)) "depth") (tC (.int 3))) (tOp (rEqD K) (tFld K (tCall (sp_swaps K C_) [] E0 (tCons (tC (.str (T []))) tNil)) "places") (tLst tNil)))))))))))

end BM
namespace BM
open PySem L2 Evl
local macro_rules | `(tactic| walk_at "mem") => `(tactic| first | exact List.mem_cons_self | (refine List.mem_cons_of_mem _ ?_; walk_at "mem"))
local macro_rules | `(tactic| walk_at "swap") => `(tactic| first | exact Swap.here | (apply Swap.there; walk_at "swap"))
local macro_rules | `(tactic| walk_at "subl") => `(tactic| first | exact List.Sublist.refl _ | exact List.nil_sublist _ | (refine List.Sublist.cons_cons _ ?_; walk_at "subl") | (refine List.Sublist.cons _ ?_; walk_at "subl"))
local macro_rules | `(tactic| walk_at "sub") => `(tactic| first | exact Sub.refl _ | (refine ⟨?_, ?_⟩ <;> walk_at "subl"))
local macro_rules | `(tactic| walk_at "isl") => `(tactic| first | exact isL_own (by walk_at "mem") | exact isL_old (by assumption) | assumption)
local macro_rules | `(tactic| walk_at "ist") => `(tactic| first | exact isT_own (by walk_at "mem") | exact isT_old (by assumption) | assumption)
local macro_rules | `(tactic| walk_at "len") => `(tactic| first | omega | decide | (simp only [List.length_map, List.length_take, List.length_drop, List.length_append, List.length_cons, List.length_nil, List.length_reverse, dps_len, flp_len]; omega) | (simp [dps_len, flp_len]; omega) | simp)
local macro_rules | `(tactic| walk_at "b0") => `(tactic| first
  | with_reducible refine' ws_set ?_
  | with_reducible refine' ws_par ?_
  | with_reducible refine' ws_asg ?_
  | with_reducible refine' ws_drop ?_
  | with_reducible refine' ws_ret ?_
  | with_reducible refine' ws_if ?_
  | with_reducible refine' ws_next ?_
  | with_reducible refine' ws_brk ?_
  | with_reducible refine' ws_cont ?_
  | ((with_reducible refine' we_var ?hv ?_); case hv => rfl)
  | with_reducible refine' we_c ?_
  | with_reducible refine' we_op ?_
  | with_reducible refine' we_un ?_
  | with_reducible refine' we_if ?_
  | with_reducible refine' we_and ?_
  | with_reducible refine' we_or ?_
  | with_reducible refine' we_not ?_
  | with_reducible refine' wa_nil ?_
  | with_reducible refine' wa_cons ?_
  | (with_reducible refine' we_lst ?_)
  | (with_reducible refine' we_tup ?_)
  | with_reducible refine' we_cb ?_
  | with_reducible refine' we_call0 ?_
  | with_reducible refine' we_sl ?_
  | with_reducible refine' wo_none ?_
  | (with_reducible refine' wo_some ?_)
  | with_reducible refine' wt_test ?_
  | with_reducible refine' wt_B ?_
  | with_reducible refine' wt_and ?_
  | with_reducible refine' wt_or ?_
  | with_reducible refine' wt_not ?_
  | with_reducible refine' wt_yes ?_
  | with_reducible refine' we_chain ?_
  | with_reducible refine' we_chain3 ?_
  | with_reducible refine' we_revT ?_
  | with_reducible refine' we_revL ?_
  | with_reducible refine' we_bm ?_
  | with_reducible refine' we_bm0 ?_
  | with_reducible refine' ws_for ?_
  | with_reducible refine' we_lc ?_
  | with_reducible refine' wi_list ?_
  | with_reducible refine' wi_tup ?_
  | with_reducible refine' wi_T ?_
  | with_reducible refine' wi_rng1 ?_
  | with_reducible refine' wi_rng2 ?_
  | with_reducible refine' wi_rng3 ?_
  | with_reducible refine' wi_enum ?_
  | with_reducible refine' wi_enumT ?_
  | with_reducible refine' wi_zip ?_
  | with_reducible refine' wg_name ?_
  | with_reducible refine' wg_sub ?_
  | with_reducible refine' wgs_nil ?_
  | with_reducible refine' wgs_cons ?_
  | ((with_reducible refine' wg_tup ?ht ?hn ?_); (case ht => walk_at "ist"); (case hn => rfl))
  | with_reducible refine' w2_add ?_
  | with_reducible refine' w2_sub ?_
  | with_reducible refine' w2_lt ?_
  | with_reducible refine' w2_le ?_
  | with_reducible refine' w2_gt ?_
  | with_reducible refine' w2_ge ?_
  | with_reducible refine' w2_eqI ?_
  | with_reducible refine' w2_neI ?_
  | with_reducible refine' w2_eqT ?_
  | with_reducible refine' w2_neT ?_
  | with_reducible refine' w2_eqB ?_
  | with_reducible refine' w2_neB ?_
  | with_reducible refine' w2_isN ?_
  | with_reducible refine' w2_notN ?_
  | with_reducible refine' w2_isB ?_
  | with_reducible refine' w2_inT ?_
  | with_reducible refine' w1_neg ?_
  | with_reducible refine' wl_abs ?_
  | with_reducible refine' wl_max2 ?_
  | with_reducible refine' wl_min2 ?_
  | with_reducible refine' wl_intB ?_
  | ((with_reducible refine' w2_div ?h ?_); case h => first | omega | (constructor <;> omega))
  | ((with_reducible refine' w2_mod ?h ?_); case h => omega)
  | ((with_reducible refine' w2_catT ?h ?_); case h => walk_at "len")
  | ((with_reducible refine' wsl_T ?h ?_); case h => walk_at "len")
  | ((with_reducible refine' wl_lenT ?h ?_); case h => walk_at "len")
  | ((with_reducible refine' wl_len ?h ?_); case h => walk_at "isl")
  | ((with_reducible refine' wl_len ?h ?_); case h => walk_at "isl")
  | ((with_reducible refine' wm_append ?sw ?hl ?_); (case sw => walk_at "swap"); (case hl => walk_at "len")))
local macro_rules | `(tactic| walk_at "b1") => `(tactic| first | with_reducible refine' ws_seq ?_ | walk_at "b0")
local macro_rules | `(tactic| walk_at "bx") => `(tactic| first
  | refine ⟨_, rfl, ?_⟩
  | refine ⟨_, _, rfl, ?_⟩
  | refine ⟨ty_L (by walk_at "isl"), ?_⟩
  | refine ⟨ty_S, ?_⟩
  | refine spl_t (by rfl) ?_
  | refine spl_f (by rfl) ?_
  | exact rfl)
local macro_rules | `(tactic| walk_at "bm") => `(tactic| repeat (first | walk_at "b1" | walk_at "bx"))
local macro_rules | `(tactic| walk_at "bn") => `(tactic| repeat (first | walk_at "b0" | walk_at "bx"))
local macro_rules | `(tactic| walk_at "b0") => `(tactic| with_reducible refine' c_deepens ?_)
local macro_rules | `(tactic| walk_at "b0") => `(tactic| ((with_reducible refine' c_depths_of ?hl ?_); (case hl => walk_at "len")))
local macro_rules | `(tactic| walk_at "b0") => `(tactic| with_reducible refine' c_is_wholeI ?_)
local macro_rules | `(tactic| walk_at "b0") => `(tactic| with_reducible refine' c_flipped ?_)
local macro_rules | `(tactic| walk_at "b0") => `(tactic| ((with_reducible refine' c_is_right_row ?hl ?_); (case hl => walk_at "len")))
local macro_rules | `(tactic| walk_at "b0") => `(tactic| ((with_reducible refine' c_asked_row ?hl ?_); (case hl => walk_at "len")))
local macro_rules | `(tactic| walk_at "b0") => `(tactic| ((with_reducible refine' c_depths ?hl ?_); (case hl => walk_at "len")))
local macro_rules | `(tactic| walk_at "b0") => `(tactic| ((with_reducible refine' c_is_right ?hl ?_); (case hl => walk_at "len")))
local macro_rules | `(tactic| walk_at "b0") => `(tactic| ((with_reducible refine' c__law_depths ?hl ?_); (case hl => walk_at "len")))
local macro_rules | `(tactic| walk_at "b0") => `(tactic| ((with_reducible refine' c__law_good ?hl ?_); (case hl => walk_at "len")))
local macro_rules | `(tactic| walk_at "b0") => `(tactic| ((with_reducible refine' wl_listOf ?hx ?_); (case hx => walk_at "isl")))
local macro_rules | `(tactic| walk_at "b0") => `(tactic| with_reducible refine' w2_notB ?_)
local macro_rules | `(tactic| walk_at "own") => `(tactic| exact own_l (by walk_at "mem"))
local macro_rules | `(tactic| walk_at "b0") => `(tactic| with_reducible refine' we_fld ?_)
local macro_rules | `(tactic| walk_at "b0") => `(tactic| refine ⟨_, _, _, _, _, rfl, own_l (by walk_at "mem"), Grw.cl (by assumption), Grw.nr (by assumption), by rfl, ?_⟩)
local macro_rules | `(tactic| walk_at "b0") => `(tactic| refine ⟨_, _, _, _, _, rfl, fun H' o => o.ex _ _ (by assumption), Grw.cl (by assumption), Grw.nr (by assumption), by rfl, ?_⟩)
local macro_rules | `(tactic| walk_at "b0") => `(tactic| with_reducible refine' we_meth ?_)
local macro_rules | `(tactic| walk_at "b0") => `(tactic| refine ⟨_, _, _, rfl, own_l (by walk_at "mem"), by rfl, ?_⟩)
local macro_rules | `(tactic| walk_at "b0") => `(tactic| refine ⟨_, _, _, rfl, fun H' o => o.ex _ _ (by assumption), by rfl, ?_⟩)
local macro_rules | `(tactic| walk_at "gown") => `(tactic| first | exact own_l (by walk_at "mem") | exact fun H' o => o.ex _ _ (by assumption))
local macro_rules | `(tactic| walk_at "b0") => `(tactic| with_reducible refine' wm_countT ?_)
local macro_rules | `(tactic| walk_at "b0") => `(tactic| with_reducible refine' we_methU ?_)
/-- the search's state behind n rounds -/
def Bfs (r : List Bool) (n : Int) (met ring : List (List Bool)) : Prop := met.Nodup ∧ (∀ u ∈ met, u.length = r.length ∧ hgt u = 0 ∧ pot r - n ≤ pot u) ∧ (∀ u ∈ ring, u ∈ met) ∧ ∃ u ∈ ring, pot u = pot r - n
theorem bfs_next {r : List Bool} {n : Int} {met ring aft : List (List Bool)} (h : Bfs r n met ring) (hno : ∀ u ∈ ring, isR u = false) (hnd : (met ++ aft).Nodup) (ha : ∀ w ∈ aft, w.length = r.length ∧ hgt w = 0 ∧ pot r - (n + 1) ≤ pot w)
    (hc : ∀ u ∈ ring, ∀ p : Nat, swOk u (p : Int) = true → swp u p ∈ met ++ aft) : Bfs r (n + 1) (met ++ aft) aft ∧ n < pot r := by
  obtain ⟨h1, h2, h3, u, hu, hp⟩ := h
  have hum := h2 u (h3 u hu)
  have hbad := hno u hu
  have hpos : 0 < pot u := by
    have := pot_nn u
    rcases Int.lt_or_le 0 (pot u) with h | h
    · exact h
    · have : isR u = true := isR_pot.mpr ⟨hum.2.1, by omega⟩
      rw [hbad] at this
      cases this
  refine ⟨⟨hnd, fun w hw => ?_, fun w hw => List.mem_append_right _ hw, ?_⟩, by omega⟩
  · rcases List.mem_append.mp hw with hw | hw
    · have := h2 w hw
      exact ⟨this.1, this.2.1, by omega⟩
    · exact ha w hw
  · -- the lowest spot of u
    have hlow : ∃ j, j ≤ u.length ∧ hgt (u.take j) < 0 := by
      refine Classical.byContradiction fun hh => ?_
      have : isR u = true := isR_iff.mpr ⟨hum.2.1, fun j hj => by
        rcases Int.lt_or_le (hgt (u.take j)) 0 with h | h
        · exact absurd ⟨j, hj, h⟩ hh
        · exact h⟩
      rw [hbad] at this
      cases this
    obtain ⟨m, hm, hmin⟩ : ∃ m, m ∈ dps u ∧ ∀ y ∈ dps u, m ≤ y := by
      have : ∀ l : List Int, l ≠ [] → ∃ m, m ∈ l ∧ ∀ y ∈ l, m ≤ y := by
        intro l
        induction l with
        | nil => intro h; exact absurd rfl h
        | cons a l ih =>
          intro _
          by_cases hl : l = []
          · subst hl
            exact ⟨a, List.mem_cons_self, fun y hy => by rw [List.mem_singleton.mp hy]; exact Int.le_refl _⟩
          · obtain ⟨m, hm, hmin⟩ := ih hl
            by_cases ham : a ≤ m
            · exact ⟨a, List.mem_cons_self, fun y hy => by
                rcases List.mem_cons.mp hy with rfl | hy
                · exact Int.le_refl _
                · exact Int.le_trans ham (hmin y hy)⟩
            · exact ⟨m, List.mem_cons_of_mem _ hm, fun y hy => by
                rcases List.mem_cons.mp hy with rfl | hy
                · omega
                · exact hmin y hy⟩
      refine this _ fun e => ?_
      have := dps_len u
      rw [e] at this
      simp at this
    obtain ⟨j0, hj0, hneg⟩ := hlow
    have hmn : m < 0 := Int.lt_of_le_of_lt (hmin _ (mem_dps.mpr ⟨j0, hj0, rfl⟩)) hneg
    obtain ⟨j, hj, hfirst⟩ := first_of hm
    obtain ⟨ok, hj1, hz, hl⟩ := low_spot hum.2.1 hmn hj hmin hfirst
    have ej : ((j : Int) - 1) = ((j - 1 : Nat) : Int) := by omega
    rw [ej] at ok
    have hpot := pot_swp_low ok (by rw [Int.toNat_natCast]; exact hz) (by rw [Int.toNat_natCast]; exact hl)
    rw [Int.toNat_natCast] at hpot
    have hin := hc u hu (j - 1) ok
    rcases List.mem_append.mp hin with hin | hin
    · have := (h2 _ hin).2.2
      omega
    · exact ⟨_, hin, by omega⟩
theorem bfs_end {r : List Bool} {n : Int} {met ring : List (List Bool)} (h : Bfs r n met ring) (hy : ∃ u ∈ ring, isR u = true) : n = pot r := by
  obtain ⟨h1, h2, h3, u, hu, hp⟩ := h
  obtain ⟨w, hw, hR⟩ := hy
  have e := (isR_pot.mp hR).2
  have := (h2 w (h3 w hw)).2.2
  have := pot_nn u
  omega
abbrev rowsV (rs : List (List Bool)) : List V := rs.map fun r => .str (T r)
theorem ln__law_least02 {K : PySem.W.Frag} {C : CA} {vs : List V} {H : Hp} {Q : VK} {E : XK} (h : sp__law_least02 K C vs H Q E) : vs.length = 1 := by
  obtain ⟨_, ⟨r, rfl, _⟩, _⟩ := h
  rfl
theorem pu__law_least02 {K : PySem.W.Frag} {C : CA} {vs : List V} {H : Hp} {Q : VK} {E : XK} (h : sp__law_least02 K C vs H Q E) : rd__law_least02 K C { nx := fun _ H' => Q .non H', rt := Q } (start N__law_least02 vs) H := by
  obtain ⟨_, ⟨r, rfl, hl, h0, rfl⟩, k⟩ := h
  refine body_V ?_ k
  unfold rd__law_least02
  refine ws_cut (fun σ s => ∃ m q, σ = [some (.str (T r)), some (.ref m), some (.ref q), some (.int 0), none, none, none, none] ∧ s = ⟨[(q, .lst (rowsV [r])), (m, .dK (metD [r]))], []⟩) ?_ ?_
  · refine ws_par3 ?_
    refine wa_cons (we_disp1 fun m hm => ?_)
    walk_at "bm"
    refine ⟨.inr (T r), _, rfl, Swap.here, ?_⟩
    walk_at "bm"
    refine ⟨by simp, fun q hq => ?_⟩
    walk_at "bm"
    exact ⟨_, _, _, rfl, _, by walk_at "sub", m, q, rfl, rfl⟩
  rintro σ s ⟨m, q, rfl, rfl⟩
  refine ws_cut (fun σ s => ∃ q x4 x5 x6 x7, σ = [some (.str (T r)), some (.ref m), some (.ref q), some (.int (pot r)), x4, x5, x6, x7] ∧ s = ⟨[], []⟩) ?_ ?_
  · refine ws_while (fun z σ s => ∃ (q : Addr) (x4 x5 x6 x7 : Option V) (n : Int) (met ring : List (List Bool)), σ = [some (.str (T r)), some (.ref m), some (.ref q), some (.int n), x4, x5, x6, x7] ∧ s = ⟨[(q, .lst (rowsV ring)), (m, .dK (metD met))], []⟩ ∧ Bfs r n met ring ∧ ring.length ≤ 256 ∧ 0 ≤ n ∧ z = (pot r - n).toNat) (pot r).toNat ⟨q, none, none, none, none, 0, [r], [r], rfl, rfl, ⟨by simp, fun u hu => by rw [List.mem_singleton.mp hu]; exact ⟨rfl, h0, by omega⟩, fun u hu => hu, r, List.mem_cons_self, by omega⟩, by simp, Int.le_refl _, by rw [Int.sub_zero]⟩ ?_
    rintro z σ s ⟨q, x4, x5, x6, x7, n, met, ring, rfl, rfl, hB, hrl, hn0, rfl⟩
    have hmet := few_rows hB.1 (fun u hu => (hB.2.1 u hu).1) hl
    walk_at "bm"
    refine ⟨⟨_, by walk_at "isl"⟩, ?_⟩
    have hrlen : ∀ u ∈ ring, u.length = r.length := fun u hu => (hB.2.1 u (hB.2.2.1 u hu)).1
    refine cp_list (xs := rowsV ring) (fun i => ((ring.take i).map fun u => V.bl (isR u))) (by walk_at "isl") (by rw [List.length_map]; omega) rfl (fun i hi => by rw [List.length_map, List.length_take]; omega) ?_ ?_
    · intro D i y hi hy
      obtain ⟨u, hu, rfl⟩ := getR hy
      have hul := hrlen u (List.mem_of_getElem? hu)
      walk_at "bm"
      refine ⟨rfl, ?_⟩
      walk_at "bm"
      refine ⟨Sub.refl _, ?_⟩
      rw [take_snoc hu, List.map_append]
      rfl
    intro D hD
    rw [List.length_map, List.take_length]
    walk_at "bm"
    refine wl_any (bs := ring.map isR) (by rw [List.map_map]; walk_at "isl") ?_
    walk_at "bm"
    refine ⟨fun hc => ?_, fun hc => ?_⟩
    · have hno : ∀ u ∈ ring, isR u = false := fun u hu => by
        cases e : isR u with
        | false => rfl
        | true =>
          have : (ring.map isR).any id = true := List.any_eq_true.mpr ⟨true, List.mem_map.mpr ⟨u, hu, e⟩, rfl⟩
          rw [this] at hc
          cases hc
      refine ws_seq ?_
      walk_at "bn"
      refine ⟨by simp, fun a ha => ?_⟩
      walk_at "bn"
      refine ws_weak (s0 := ⟨[(a, .lst (rowsV [])), (q, .lst (rowsV ring)), (m, .dK (metD met))], []⟩) (by walk_at "sub") ?_
      refine ws_cut (fun σ s => ∃ (aft : List (List Bool)) (x5 x6 x7 : Option V), σ = [some (.str (T r)), some (.ref m), some (.ref q), some (.int n), some (.ref a), x5, x6, x7] ∧ s = ⟨[(a, .lst (rowsV aft)), (q, .lst (rowsV ring)), (m, .dK (metD (met ++ aft)))], []⟩ ∧ (met ++ aft).Nodup ∧ (∀ w ∈ aft, w.length = r.length ∧ hgt w = 0 ∧ pot r - (n + 1) ≤ pot w) ∧ ∀ u ∈ ring, ∀ p : Nat, swOk u (p : Int) = true → swp u p ∈ met ++ aft) ?_ ?_
      · walk_at "bm"
        refine ⟨⟨_, by walk_at "isl"⟩, ?_⟩
        refine lp_list (xs := rowsV ring) (n := ring.length) (fun i σ s => ∃ (aft : List (List Bool)) (x5 x6 x7 : Option V), σ = [some (.str (T r)), some (.ref m), some (.ref q), some (.int n), some (.ref a), x5, x6, x7] ∧ s = ⟨[(a, .lst (rowsV aft)), (q, .lst (rowsV ring)), (m, .dK (metD (met ++ aft)))], []⟩ ∧ (met ++ aft).Nodup ∧ (∀ w ∈ aft, w.length = r.length ∧ hgt w = 0 ∧ pot r - (n + 1) ≤ pot w) ∧ ∀ u ∈ ring.take i, ∀ p : Nat, swOk u (p : Int) = true → swp u p ∈ met ++ aft) (by simp) ⟨[], x5, x6, x7, rfl, by rw [List.append_nil], by rw [List.append_nil]; exact hB.1, (fun w hw => by cases hw), (fun u hu => by cases hu)⟩ (fun i σ s hi ⟨aft, x5, x6, x7, _, e, _⟩ => by rw [e]; walk_at "isl") ?_ (fun σ s ⟨aft, x5, x6, x7, e1, e2, e3, e4, e5⟩ => ⟨_, Sub.refl _, aft, x5, x6, x7, e1, e2, e3, e4, by rw [List.take_length] at e5; exact e5⟩)
        rintro i y σ s hi hy ⟨aft, x5, x6, x7, rfl, rfl, hnd, haft, hcov⟩
        obtain ⟨u, hu, rfl⟩ := getR hy
        have hum := hB.2.1 u (hB.2.2.1 u (List.mem_of_getElem? hu))
        refine wg_name ?_
        walk_at "bm"
        refine ⟨by omega, ?_⟩
        refine lp_rng (fun c σ s => ∃ (aft : List (List Bool)) (x6 x7 : Option V), σ = [some (.str (T r)), some (.ref m), some (.ref q), some (.int n), some (.ref a), some (.str (T u)), x6, x7] ∧ s = ⟨[(a, .lst (rowsV aft)), (q, .lst (rowsV ring)), (m, .dK (metD (met ++ aft)))], []⟩ ∧ (met ++ aft).Nodup ∧ (∀ w ∈ aft, w.length = r.length ∧ hgt w = 0 ∧ pot r - (n + 1) ≤ pot w) ∧ (∀ u ∈ ring.take i, ∀ p : Nat, swOk u (p : Int) = true → swp u p ∈ met ++ aft) ∧ ∀ p : Nat, p < c → swOk u (p : Int) = true → swp u p ∈ met ++ aft) ⟨aft, x6, x7, rfl, rfl, hnd, haft, hcov, fun p hp => absurd hp (Nat.not_lt_zero _)⟩ ?_ ?_
        · rintro c σ s hc2 ⟨aft, x6, x7, rfl, rfl, hnd, haft, hcov, hcu⟩
          have hall : ∀ w ∈ met ++ aft, w.length = r.length := fun w hw => by
            rcases List.mem_append.mp hw with hw | hw
            · exact (hB.2.1 w hw).1
            · exact (haft w hw).1
          have hfew := few_rows hnd hall hl
          rw [List.length_append] at hfew
          rw [show ((0 : Int) + (c : Int)) = (c : Int) by omega]
          refine wg_name ?_
          walk_at "bm"
          refine c__law_swap (by omega) (fun ok => ?_) (fun ok => ?_)
          · rw [Int.toNat_natCast]
            have hw1 : (swp u c).length = r.length := by
              have := swp_len (swOk_len ok).2
              rw [Int.toNat_natCast] at this
              rw [this]
              exact hum.1
            have hw2 : hgt (swp u c) = 0 := by
              have := hgt_swp ok
              rw [Int.toNat_natCast] at this
              rw [this]
              exact hum.2.1
            have hw3 : pot r - (n + 1) ≤ pot (swp u c) := by
              have := pot_swp ok
              rw [Int.toNat_natCast] at this
              have := hum.2.2
              omega
            walk_at "bm"
            refine we_dnotin ?_
            walk_at "bm"
            refine ⟨m, metD (met ++ aft), .inr (T (swp u c)), rfl, rfl, by walk_at "mem", ?_⟩
            rw [metD_in]
            refine ⟨_, rfl, fun hin => ?_, fun hin => ?_⟩
            · have hin' : swp u c ∉ met ++ aft := by simpa using hin
              refine ws_seq (ws_dput (we_c (we_var rfl (we_var rfl ⟨m, metD (met ++ aft), .inr (T (swp u c)), _, rfl, rfl, Swap.there (Swap.there Swap.here), by unfold metD; rw [List.length_map, List.length_append]; omega, ?_⟩))))
              rw [metD_put hin', List.append_assoc]
              walk_at "bm"
              have hsub : ∀ w, w ∈ met ++ aft → w ∈ met ++ (aft ++ [swp u c]) := fun w hw => by
                rw [← List.append_assoc]
                exact List.mem_append_left _ hw
              refine ⟨_, Sub.refl _, aft ++ [swp u c], _, _, rfl, by unfold rowsV; rw [List.map_append]; rfl, ?_, fun w hw => ?_, fun u2 hu2 p hp => hsub _ (hcov u2 hu2 p hp), fun p hp hok => ?_⟩
              · rw [← List.append_assoc]
                exact List.nodup_append.mpr ⟨hnd, List.nodup_cons.mpr ⟨by simp, List.nodup_nil⟩, fun x hx y hy => fun e => hin' (by rw [← List.mem_singleton.mp hy, ← e]; exact hx)⟩
              · rcases List.mem_append.mp hw with hw | hw
                · exact haft w hw
                · rw [List.mem_singleton.mp hw]
                  exact ⟨hw1, hw2, hw3⟩
              · rcases Nat.lt_or_ge p c with h | h
                · exact hsub _ (hcu p h hok)
                · rw [show p = c by omega]
                  exact List.mem_append_right _ (List.mem_append_right _ List.mem_cons_self)
            · have hin' : swp u c ∈ met ++ aft := by
                cases h : decide (swp u c ∈ met ++ aft) with
                | true => exact of_decide_eq_true h
                | false => rw [h] at hin; cases hin
              walk_at "bm"
              refine ⟨_, Sub.refl _, aft, _, _, rfl, rfl, hnd, haft, hcov, fun p hp hok => ?_⟩
              rcases Nat.lt_or_ge p c with h | h
              · exact hcu p h hok
              · rw [show p = c by omega]
                exact hin'
          · walk_at "bm"
            refine ⟨_, Sub.refl _, aft, _, _, rfl, rfl, hnd, haft, hcov, fun p hp hok => ?_⟩
            rcases Nat.lt_or_ge p c with h | h
            · exact hcu p h hok
            · rw [show p = c by omega, ok] at hok
              cases hok
        · rintro σ s ⟨aft, x6, x7, rfl, rfl, hnd, haft, hcov, hcu⟩
          refine ⟨_, Sub.refl _, aft, _, _, _, rfl, rfl, hnd, haft, fun u2 hu2 p hp => ?_⟩
          rw [take_snoc hu] at hu2
          rcases List.mem_append.mp hu2 with h | h
          · exact hcov u2 h p hp
          · rw [List.mem_singleton.mp h] at hp ⊢
            have := (swOk_len hp).2
            rw [Int.toNat_natCast, hum.1] at this
            exact hcu p (by omega) hp
      rintro σ s ⟨aft, x5, x6, x7, rfl, rfl, hnd, haft, hcov⟩
      obtain ⟨hB2, hlt⟩ := bfs_next hB hno hnd haft hcov
      have hall : ∀ w ∈ met ++ aft, w.length = r.length := fun w hw => (hB2.2.1 w hw).1
      have hfew := few_rows hnd hall hl
      rw [List.length_append] at hfew
      walk_at "bm"
      exact ⟨⟨[(a, .lst (rowsV aft)), (m, .dK (metD (met ++ aft)))], []⟩, by walk_at "sub", (pot r - (n + 1)).toNat, by omega, a, _, _, _, _, n + 1, met ++ aft, aft, rfl, rfl, hB2, by omega, by omega, rfl⟩
    · have hy : ∃ u ∈ ring, isR u = true := by
        have : (ring.map isR).any id = true := by simpa using hc
        obtain ⟨b, hb, hb2⟩ := List.any_eq_true.mp this
        obtain ⟨u, hu, rfl⟩ := List.mem_map.mp hb
        exact ⟨u, hu, hb2⟩
      have e := bfs_end hB hy
      subst e
      exact ⟨⟨[], []⟩, by walk_at "sub", q, _, _, _, _, rfl, rfl⟩
  rintro σ s ⟨q, x4, x5, x6, x7, rfl, rfl⟩
  walk_at "bm"
theorem c__law_least02 {K : PySem.W.Frag} {C : CA} {H0 : Hp} {s : Ld} {Q : V → Ld → Prop} {E : XK} {r : List Bool} (hl : r.length ≤ 8) (h0 : hgt r = 0) (q : Q (.int (pot r)) s) : WC H0 (sp__law_least02 K C) E [.str (T r)] s Q := wc_V (fun H o => ⟨r, rfl, hl, h0, rfl⟩) q
end BM
namespace BM
open PySem L2 Evl
local macro_rules | `(tactic| walk_at "mem") => `(tactic| first | exact List.mem_cons_self | (refine List.mem_cons_of_mem _ ?_; walk_at "mem"))
local macro_rules | `(tactic| walk_at "swap") => `(tactic| first | exact Swap.here | (apply Swap.there; walk_at "swap"))
local macro_rules | `(tactic| walk_at "subl") => `(tactic| first | exact List.Sublist.refl _ | exact List.nil_sublist _ | (refine List.Sublist.cons_cons _ ?_; walk_at "subl") | (refine List.Sublist.cons _ ?_; walk_at "subl"))
local macro_rules | `(tactic| walk_at "sub") => `(tactic| first | exact Sub.refl _ | (refine ⟨?_, ?_⟩ <;> walk_at "subl"))
local macro_rules | `(tactic| walk_at "isl") => `(tactic| first | exact isL_own (by walk_at "mem") | exact isL_old (by assumption) | assumption)
local macro_rules | `(tactic| walk_at "ist") => `(tactic| first | exact isT_own (by walk_at "mem") | exact isT_old (by assumption) | assumption)
local macro_rules | `(tactic| walk_at "len") => `(tactic| first | omega | decide | (simp only [List.length_map, List.length_take, List.length_drop, List.length_append, List.length_cons, List.length_nil, List.length_reverse, dps_len, flp_len]; omega) | (simp [dps_len, flp_len]; omega) | simp)
local macro_rules | `(tactic| walk_at "b0") => `(tactic| first
  | with_reducible refine' ws_set ?_
  | with_reducible refine' ws_par ?_
  | with_reducible refine' ws_asg ?_
  | with_reducible refine' ws_drop ?_
  | with_reducible refine' ws_ret ?_
  | with_reducible refine' ws_if ?_
  | with_reducible refine' ws_next ?_
  | with_reducible refine' ws_brk ?_
  | with_reducible refine' ws_cont ?_
  | ((with_reducible refine' we_var ?hv ?_); case hv => rfl)
  | with_reducible refine' we_c ?_
  | with_reducible refine' we_op ?_
  | with_reducible refine' we_un ?_
  | with_reducible refine' we_if ?_
  | with_reducible refine' we_and ?_
  | with_reducible refine' we_or ?_
  | with_reducible refine' we_not ?_
  | with_reducible refine' wa_nil ?_
  | with_reducible refine' wa_cons ?_
  | (with_reducible refine' we_lst ?_)
  | (with_reducible refine' we_tup ?_)
  | with_reducible refine' we_cb ?_
  | with_reducible refine' we_call0 ?_
  | with_reducible refine' we_sl ?_
  | with_reducible refine' wo_none ?_
  | (with_reducible refine' wo_some ?_)
  | with_reducible refine' wt_test ?_
  | with_reducible refine' wt_B ?_
  | with_reducible refine' wt_and ?_
  | with_reducible refine' wt_or ?_
  | with_reducible refine' wt_not ?_
  | with_reducible refine' wt_yes ?_
  | with_reducible refine' we_chain ?_
  | with_reducible refine' we_chain3 ?_
  | with_reducible refine' we_revT ?_
  | with_reducible refine' we_revL ?_
  | with_reducible refine' we_bm ?_
  | with_reducible refine' we_bm0 ?_
  | with_reducible refine' ws_for ?_
  | with_reducible refine' we_lc ?_
  | with_reducible refine' wi_list ?_
  | with_reducible refine' wi_tup ?_
  | with_reducible refine' wi_T ?_
  | with_reducible refine' wi_rng1 ?_
  | with_reducible refine' wi_rng2 ?_
  | with_reducible refine' wi_rng3 ?_
  | with_reducible refine' wi_enum ?_
  | with_reducible refine' wi_enumT ?_
  | with_reducible refine' wi_zip ?_
  | with_reducible refine' wg_name ?_
  | with_reducible refine' wg_sub ?_
  | with_reducible refine' wgs_nil ?_
  | with_reducible refine' wgs_cons ?_
  | ((with_reducible refine' wg_tup ?ht ?hn ?_); (case ht => walk_at "ist"); (case hn => rfl))
  | with_reducible refine' w2_add ?_
  | with_reducible refine' w2_sub ?_
  | with_reducible refine' w2_lt ?_
  | with_reducible refine' w2_le ?_
  | with_reducible refine' w2_gt ?_
  | with_reducible refine' w2_ge ?_
  | with_reducible refine' w2_eqI ?_
  | with_reducible refine' w2_neI ?_
  | with_reducible refine' w2_eqT ?_
  | with_reducible refine' w2_neT ?_
  | with_reducible refine' w2_eqB ?_
  | with_reducible refine' w2_neB ?_
  | with_reducible refine' w2_isN ?_
  | with_reducible refine' w2_notN ?_
  | with_reducible refine' w2_isB ?_
  | with_reducible refine' w2_inT ?_
  | with_reducible refine' w1_neg ?_
  | with_reducible refine' wl_abs ?_
  | with_reducible refine' wl_max2 ?_
  | with_reducible refine' wl_min2 ?_
  | with_reducible refine' wl_intB ?_
  | ((with_reducible refine' w2_div ?h ?_); case h => first | omega | (constructor <;> omega))
  | ((with_reducible refine' w2_mod ?h ?_); case h => omega)
  | ((with_reducible refine' w2_catT ?h ?_); case h => walk_at "len")
  | ((with_reducible refine' wsl_T ?h ?_); case h => walk_at "len")
  | ((with_reducible refine' wl_lenT ?h ?_); case h => walk_at "len")
  | ((with_reducible refine' wl_len ?h ?_); case h => walk_at "isl")
  | ((with_reducible refine' wl_len ?h ?_); case h => walk_at "isl")
  | ((with_reducible refine' wm_append ?sw ?hl ?_); (case sw => walk_at "swap"); (case hl => walk_at "len")))
local macro_rules | `(tactic| walk_at "b1") => `(tactic| first | with_reducible refine' ws_seq ?_ | walk_at "b0")
local macro_rules | `(tactic| walk_at "bx") => `(tactic| first
  | refine ⟨_, rfl, ?_⟩
  | refine ⟨_, _, rfl, ?_⟩
  | refine ⟨ty_L (by walk_at "isl"), ?_⟩
  | refine ⟨ty_S, ?_⟩
  | refine spl_t (by rfl) ?_
  | refine spl_f (by rfl) ?_
  | exact rfl)
local macro_rules | `(tactic| walk_at "bm") => `(tactic| repeat (first | walk_at "b1" | walk_at "bx"))
local macro_rules | `(tactic| walk_at "bn") => `(tactic| repeat (first | walk_at "b0" | walk_at "bx"))
local macro_rules | `(tactic| walk_at "b0") => `(tactic| with_reducible refine' c_deepens ?_)
local macro_rules | `(tactic| walk_at "b0") => `(tactic| ((with_reducible refine' c_depths_of ?hl ?_); (case hl => walk_at "len")))
local macro_rules | `(tactic| walk_at "b0") => `(tactic| with_reducible refine' c_is_wholeI ?_)
local macro_rules | `(tactic| walk_at "b0") => `(tactic| with_reducible refine' c_flipped ?_)
local macro_rules | `(tactic| walk_at "b0") => `(tactic| ((with_reducible refine' c_is_right_row ?hl ?_); (case hl => walk_at "len")))
local macro_rules | `(tactic| walk_at "b0") => `(tactic| ((with_reducible refine' c_asked_row ?hl ?_); (case hl => walk_at "len")))
local macro_rules | `(tactic| walk_at "b0") => `(tactic| ((with_reducible refine' c_depths ?hl ?_); (case hl => walk_at "len")))
local macro_rules | `(tactic| walk_at "b0") => `(tactic| ((with_reducible refine' c_is_right ?hl ?_); (case hl => walk_at "len")))
local macro_rules | `(tactic| walk_at "b0") => `(tactic| ((with_reducible refine' c__law_depths ?hl ?_); (case hl => walk_at "len")))
local macro_rules | `(tactic| walk_at "b0") => `(tactic| ((with_reducible refine' c__law_good ?hl ?_); (case hl => walk_at "len")))
local macro_rules | `(tactic| walk_at "b0") => `(tactic| ((with_reducible refine' wl_listOf ?hx ?_); (case hx => walk_at "isl")))
local macro_rules | `(tactic| walk_at "b0") => `(tactic| with_reducible refine' w2_notB ?_)
local macro_rules | `(tactic| walk_at "own") => `(tactic| exact own_l (by walk_at "mem"))
local macro_rules | `(tactic| walk_at "b0") => `(tactic| with_reducible refine' we_fld ?_)
local macro_rules | `(tactic| walk_at "b0") => `(tactic| refine ⟨_, _, _, _, _, rfl, own_l (by walk_at "mem"), Grw.cl (by assumption), Grw.nr (by assumption), by rfl, ?_⟩)
local macro_rules | `(tactic| walk_at "b0") => `(tactic| refine ⟨_, _, _, _, _, rfl, fun H' o => o.ex _ _ (by assumption), Grw.cl (by assumption), Grw.nr (by assumption), by rfl, ?_⟩)
local macro_rules | `(tactic| walk_at "b0") => `(tactic| with_reducible refine' we_meth ?_)
local macro_rules | `(tactic| walk_at "b0") => `(tactic| refine ⟨_, _, _, rfl, own_l (by walk_at "mem"), by rfl, ?_⟩)
local macro_rules | `(tactic| walk_at "b0") => `(tactic| refine ⟨_, _, _, rfl, fun H' o => o.ex _ _ (by assumption), by rfl, ?_⟩)
local macro_rules | `(tactic| walk_at "gown") => `(tactic| first | exact own_l (by walk_at "mem") | exact fun H' o => o.ex _ _ (by assumption))
local macro_rules | `(tactic| walk_at "b0") => `(tactic| with_reducible refine' wm_countT ?_)
local macro_rules | `(tactic| walk_at "b0") => `(tactic| with_reducible refine' we_methU ?_)
theorem c__law_right02 {K : PySem.W.Frag} {C : CA} {H0 : Hp} {s : Ld} {Q : V → Ld → Prop} {E : XK} {r : List Bool} {b : Addr} {rs : List (List Bool)} (hX : Ex02 K C) (hl : r.length ≤ 40) (hb : IsL K H0 s b (rs.map fun r => .str (T r))) (hrs : ∀ u ∈ rs, u.length ≤ 1000) (q : Q (.bl true) s) : WC H0 (sp__law_right02 K C) E [.str (T r), .ref b] s Q := wc_V (fun H o => ⟨r, b, rs, hX, rfl, hl, hb H o, hrs, rfl⟩) q
theorem ln_law02 {K : PySem.W.Frag} {C : CA} {vs : List V} {H : Hp} {Q : VK} {E : XK} (h : sp_law02 K C vs H Q E) : vs.length = 1 := by
  obtain ⟨_, ⟨a, ns, _, rfl, _⟩, _⟩ := h
  rfl
theorem pu_law02 {K : PySem.W.Frag} {C : CA} {vs : List V} {H : Hp} {Q : VK} {E : XK} (h : sp_law02 K C vs H Q E) : rd_law02 K C { nx := fun _ H' => Q .non H', rt := Q } (start N_law02 vs) H := by
  obtain ⟨_, ⟨a, ns, hX, rfl, hs, hns, rfl⟩, k⟩ := h
  refine body_V ?_ k
  unfold rd_law02
  refine ws_cut (fun σ s => ∃ x1 x2, σ = [some (.ref a), x1, x2, none, none] ∧ s = ⟨[], []⟩) ?_ ?_
  · walk_at "bm"
    refine ⟨by decide, fun q0 hq0 => ?_⟩
    refine ⟨_, rfl, ⟨_, by walk_at "isl"⟩, ?_⟩
    refine lp_list (xs := [0, 1, 2, 3].map V.int) (n := 4) (fun i σ s => ∃ x1 x2, σ = [some (.ref a), x1, x2, none, none] ∧ s = ⟨[(q0, .lst ([0, 1, 2, 3].map V.int))], []⟩) rfl ⟨none, none, rfl, rfl⟩ (fun i σ s hi ⟨x1, x2, _, e⟩ => by rw [e]; walk_at "isl") ?_ (fun σ s ⟨x1, x2, e1, e2⟩ => ⟨⟨[], []⟩, by rw [e2]; walk_at "sub", x1, x2, e1, rfl⟩)
    rintro i y σ s hi hy ⟨x1, x2, rfl, rfl⟩
    obtain ⟨by0, hby, rfl⟩ := getI hy
    have hb3 : 0 ≤ by0 ∧ by0 ≤ 3 := by
      have : by0 ∈ ([0, 1, 2, 3] : List Int) := List.mem_of_getElem? hby
      simp at this
      omega
    refine wg_name ?_
    refine ws_seq ?_
    walk_at "bn"
    refine c__law_row (isL_old hs) hns (by omega) fun r hr _ => ?_
    walk_at "bm"
    refine c__law_row (isL_old hs) hns (by omega) fun r2 hr2 _ => ?_
    walk_at "bm"
    refine ⟨by omega, ?_⟩
    walk_at "bm"
    rw [cut_lo (by omega)]
    walk_at "bm"
    refine ⟨by simp, fun q1 hq1 => ?_⟩
    walk_at "bm"
    refine c__law_right02 (rs := [r2, r.reverse, r.drop 2, []]) hX (by omega) (by walk_at "isl") (fun u hu => ?_) ?_
    · simp only [List.mem_cons, List.not_mem_nil, or_false] at hu
      rcases hu with rfl | rfl | rfl | rfl
      · omega
      · rw [List.length_reverse]; omega
      · rw [List.length_drop]; omega
      · simp
    walk_at "bm"
    exact ⟨_, by walk_at "sub", _, _, rfl, rfl⟩
  rintro σ s ⟨x1, x2, rfl, rfl⟩
  refine ws_seq ?_
  walk_at "bn"
  refine c__law_row (isL_old hs) hns (by omega) fun r hr hev => ?_
  have h0 := hev rfl
  walk_at "bm"
  refine c_swaps_ev hX (by omega) h0 fun x d a1 b1 ps u hu hR hp => ?_
  walk_at "bm"
  refine wl_isiC (fun H' w => hX.s.c.ty ((own_l (by walk_at "mem")) H' w)) (kit_self _ _) ?_
  walk_at "bm"
  refine ⟨_, _, _, _, _, rfl, own_l (by walk_at "mem"), hX.s.c.cl, hX.s.np, rfl, ?_⟩
  walk_at "bm"
  refine c__law_least02 (by omega) h0 ?_
  rw [List.length_map, hp]
  walk_at "bm"
  refine spl_f (by simp) ?_
  walk_at "bm"
  refine w2_repT (by decide) ?_
  walk_at "bm"
  refine w2_repT (by decide) ?_
  walk_at "bm"
  refine c_swaps_ev hX (by decide) (by decide) fun x3 d3 a3 b3 ps3 u3 hu3 hR3 hp3 => ?_
  walk_at "bm"
  refine wl_isiC (fun H' w => hX.s.c.ty ((own_l (by walk_at "mem")) H' w)) (kit_self _ _) ?_
  walk_at "bm"
  refine ⟨_, _, _, _, _, rfl, own_l (by walk_at "mem"), hX.s.c.cl, hX.s.np, rfl, ?_⟩
  walk_at "bm"
  rw [List.length_map, hp3]
  refine spl_f (by decide +kernel) ?_
  walk_at "bm"
  refine c_swaps_ev (r := [false, true]) hX (by decide) (by decide) fun x4 d4 a4 b4 ps4 u4 hu4 hR4 hp4 => ?_
  walk_at "bm"
  refine ⟨_, _, _, _, _, rfl, own_l (by walk_at "mem"), hX.s.c.cl, hX.s.nl, rfl, ?_⟩
  walk_at "bm"
  refine ⟨by simp, fun p4 hp4' => ?_⟩
  refine w2_neLI (ns := (dps [false, true]).map lf) (ms := [0, 1, 0]) (by walk_at "isl") (by walk_at "isl") ?_
  walk_at "bm"
  refine c_swaps_ev (r := [true, false, false, true, true, false]) hX (by decide) (by decide) fun x5 d5 a5 b5 ps5 u5 hu5 hR5 hp5 => ?_
  walk_at "bm"
  refine ⟨_, _, _, _, _, rfl, own_l (by walk_at "mem"), hX.s.c.cl, hX.s.nl, rfl, ?_⟩
  walk_at "bm"
  refine ⟨by simp, fun p5 hp5' => ?_⟩
  refine w2_eqLI (ns := (dps [true, false, false, true, true, false]).map lf) (ms := [0, 0, 0, 1, 0, 0, 0]) (by walk_at "isl") (by walk_at "isl") ?_
  walk_at "bm"
  refine c_swaps_un (r := [true, true, true]) hX (by decide) (by decide) fun x6 d6 => ?_
  walk_at "bm"
  refine ⟨_, _, _, _, _, rfl, own_l (by walk_at "mem"), hX.u.c.cl, hX.u.n, rfl, ?_⟩
  walk_at "bm"
  refine c_swaps_ev (r := []) hX (by decide) (by decide) fun x7 d7 a7 b7 ps7 u7 hu7 hR7 hp7 => ?_
  have e7 : ps7 = [] := List.length_eq_zero_iff.mp (by have e : pot [] = 0 := (by decide); omega)
  subst e7
  walk_at "bm"
  refine ⟨_, _, _, _, _, rfl, own_l (by walk_at "mem"), hX.s.c.cl, hX.s.np, rfl, ?_⟩
  walk_at "bm"
  refine ⟨by simp, fun p7 hp7' => ?_⟩
  refine w2_eqLI (ns := []) (ms := []) (by walk_at "isl") (by walk_at "isl") ?_
  rfl
end BM
namespace BM
open PySem L2 Evl PyProof.Rows
def top (i : Nat) : Stmt := PySem.Challenge.pw_bracketmend_k02_whole_swaps.main.body.getD i (.Pass ⟨0, 0, 0, 0⟩)
abbrev s_is_whole : Stmt := top 5
theorem sc_is_whole : FnScope N_is_whole ["thing"] (defScope s_is_whole) := ⟨rfl, rfl, rfl, by decide +kernel, rfl, by decide +kernel, by decide +kernel⟩

abbrev s_asked_row : Stmt := top 6
theorem sc_asked_row : FnScope N_asked_row ["row"] (defScope s_asked_row) := ⟨rfl, rfl, rfl, by decide +kernel, rfl, by decide +kernel, by decide +kernel⟩

abbrev s_deepens : Stmt := top 7
theorem sc_deepens : FnScope N_deepens ["bracket"] (defScope s_deepens) := ⟨rfl, rfl, rfl, by decide +kernel, rfl, by decide +kernel, by decide +kernel⟩

abbrev s_depths_of : Stmt := top 8
theorem sc_depths_of : FnScope N_depths_of ["row"] (defScope s_depths_of) := ⟨rfl, rfl, rfl, by decide +kernel, rfl, by decide +kernel, by decide +kernel⟩

abbrev s_is_right_row : Stmt := top 9
theorem sc_is_right_row : FnScope N_is_right_row ["row"] (defScope s_is_right_row) := ⟨rfl, rfl, rfl, by decide +kernel, rfl, by decide +kernel, by decide +kernel⟩

abbrev s_flipped : Stmt := top 10
theorem sc_flipped : FnScope N_flipped ["bracket"] (defScope s_flipped) := ⟨rfl, rfl, rfl, by decide +kernel, rfl, by decide +kernel, by decide +kernel⟩

abbrev s_swapped : Stmt := top 11
theorem sc_swapped : FnScope N_swapped ["row", "place"] (defScope s_swapped) := ⟨rfl, rfl, rfl, by decide +kernel, rfl, by decide +kernel, by decide +kernel⟩

abbrev s_turned : Stmt := top 12
theorem sc_turned : FnScope N_turned ["row", "places"] (defScope s_turned) := ⟨rfl, rfl, rfl, by decide +kernel, rfl, by decide +kernel, by decide +kernel⟩

abbrev s_rounded : Stmt := top 13
theorem sc_rounded : FnScope N_rounded ["row", "first", "behind"] (defScope s_rounded) := ⟨rfl, rfl, rfl, by decide +kernel, rfl, by decide +kernel, by decide +kernel⟩

abbrev s_is_stretch : Stmt := top 14
theorem sc_is_stretch : FnScope N_is_stretch ["row", "thing"] (defScope s_is_stretch) := ⟨rfl, rfl, rfl, by decide +kernel, rfl, by decide +kernel, by decide +kernel⟩

abbrev s_u_init : Stmt := inClass (top 17) 0
theorem sc_u_init : FnScope N_u_init ["self", "depth"] (defScope s_u_init) := ⟨rfl, rfl, rfl, by decide +kernel, rfl, by decide +kernel, by decide +kernel⟩

abbrev s_u_shows : Stmt := inClass (top 17) 1
theorem sc_u_shows : FnScope N_u_shows ["self", "row"] (defScope s_u_shows) := ⟨rfl, rfl, rfl, by decide +kernel, rfl, by decide +kernel, by decide +kernel⟩

abbrev s_s_init : Stmt := inClass (top 19) 0
theorem sc_s_init : FnScope N_s_init ["self", "places", "lifts"] (defScope s_s_init) := ⟨rfl, rfl, rfl, by decide +kernel, rfl, by decide +kernel, by decide +kernel⟩

abbrev s_s_shows : Stmt := inClass (top 19) 1
theorem sc_s_shows : FnScope N_s_shows ["self", "row"] (defScope s_s_shows) := ⟨rfl, rfl, rfl, by decide +kernel, rfl, by decide +kernel, by decide +kernel⟩

abbrev s_swaps : Stmt := top 24
theorem sc_swaps : FnScope N_swaps ["row"] (defScope s_swaps) := ⟨rfl, rfl, rfl, by decide +kernel, rfl, by decide +kernel, by decide +kernel⟩

abbrev s__law_number : Stmt := top 26
theorem sc__law_number : FnScope N__law_number ["_law_cell", "_law_at", "_law_whole"] (defScope s__law_number) := ⟨rfl, rfl, rfl, by decide +kernel, rfl, by decide +kernel, by decide +kernel⟩

abbrev s__law_row : Stmt := top 27
theorem sc__law_row : FnScope N__law_row ["_law_script", "_law_by", "_law_most", "_law_even"] (defScope s__law_row) := ⟨rfl, rfl, rfl, by decide +kernel, rfl, by decide +kernel, by decide +kernel⟩

abbrev s__law_depths : Stmt := top 28
theorem sc__law_depths : FnScope N__law_depths ["_law_row_here"] (defScope s__law_depths) := ⟨rfl, rfl, rfl, by decide +kernel, rfl, by decide +kernel, by decide +kernel⟩

abbrev s__law_good : Stmt := top 29
theorem sc__law_good : FnScope N__law_good ["_law_row_here"] (defScope s__law_good) := ⟨rfl, rfl, rfl, by decide +kernel, rfl, by decide +kernel, by decide +kernel⟩

abbrev s__law_swap : Stmt := top 30
theorem sc__law_swap : FnScope N__law_swap ["_law_row_here", "_law_place"] (defScope s__law_swap) := ⟨rfl, rfl, rfl, by decide +kernel, rfl, by decide +kernel, by decide +kernel⟩

abbrev s__law_swapped : Stmt := top 31
theorem sc__law_swapped : FnScope N__law_swapped ["_law_row_here", "_law_places", "_law_lifts"] (defScope s__law_swapped) := ⟨rfl, rfl, rfl, by decide +kernel, rfl, by decide +kernel, by decide +kernel⟩

abbrev s__law_uneven : Stmt := top 36
theorem sc__law_uneven : FnScope N__law_uneven ["_law_row_here", "_law_depth"] (defScope s__law_uneven) := ⟨rfl, rfl, rfl, by decide +kernel, rfl, by decide +kernel, by decide +kernel⟩

abbrev s__law_due02 : Stmt := top 37
theorem sc__law_due02 : FnScope N__law_due02 ["_law_row_here", "_law_answer"] (defScope s__law_due02) := ⟨rfl, rfl, rfl, by decide +kernel, rfl, by decide +kernel, by decide +kernel⟩

abbrev s__law_right02 : Stmt := top 38
theorem sc__law_right02 : FnScope N__law_right02 ["_law_row_here", "_law_others"] (defScope s__law_right02) := ⟨rfl, rfl, rfl, by decide +kernel, rfl, by decide +kernel, by decide +kernel⟩

abbrev s__law_least02 : Stmt := top 39
theorem sc__law_least02 : FnScope N__law_least02 ["_law_row_here"] (defScope s__law_least02) := ⟨rfl, rfl, rfl, by decide +kernel, rfl, by decide +kernel, by decide +kernel⟩

abbrev s_law02 : Stmt := top 40
theorem sc_law02 : FnScope N_law02 ["_law_script"] (defScope s_law02) := ⟨rfl, rfl, rfl, by decide +kernel, rfl, by decide +kernel, by decide +kernel⟩

structure Ads extends CA where
  f_is_whole : Addr
  d_is_whole : FuncData
  f_asked_row : Addr
  d_asked_row : FuncData
  f_deepens : Addr
  d_deepens : FuncData
  f_depths_of : Addr
  d_depths_of : FuncData
  f_is_right_row : Addr
  d_is_right_row : FuncData
  f_flipped : Addr
  d_flipped : FuncData
  f_swapped : Addr
  d_swapped : FuncData
  f_turned : Addr
  d_turned : FuncData
  f_rounded : Addr
  d_rounded : FuncData
  f_is_stretch : Addr
  d_is_stretch : FuncData
  f_u_init : Addr
  d_u_init : FuncData
  f_u_shows : Addr
  d_u_shows : FuncData
  f_s_init : Addr
  d_s_init : FuncData
  f_s_shows : Addr
  d_s_shows : FuncData
  f_swaps : Addr
  d_swaps : FuncData
  f__law_number : Addr
  d__law_number : FuncData
  f__law_row : Addr
  d__law_row : FuncData
  f__law_depths : Addr
  d__law_depths : FuncData
  f__law_good : Addr
  d__law_good : FuncData
  f__law_swap : Addr
  d__law_swap : FuncData
  f__law_swapped : Addr
  d__law_swapped : FuncData
  f__law_uneven : Addr
  d__law_uneven : FuncData
  f__law_due02 : Addr
  d__law_due02 : FuncData
  f__law_right02 : Addr
  d__law_right02 : FuncData
  f__law_least02 : Addr
  d__law_least02 : FuncData
  f_law02 : Addr
  d_law02 : FuncData
structure Txt (K : PySem.W.Frag) (mg : Str → Option Value) (A : Ads) : Prop where
  F_is_whole : Fun K "is_whole" "is_whole" s_is_whole A.f_is_whole A.d_is_whole
  g_is_whole : mg "is_whole" = some (.ref A.f_is_whole)
  b_is_whole : Binds K A.d_is_whole ["thing"] []
  F_asked_row : Fun K "asked_row" "asked_row" s_asked_row A.f_asked_row A.d_asked_row
  g_asked_row : mg "asked_row" = some (.ref A.f_asked_row)
  b_asked_row : Binds K A.d_asked_row ["row"] []
  F_deepens : Fun K "deepens" "deepens" s_deepens A.f_deepens A.d_deepens
  g_deepens : mg "deepens" = some (.ref A.f_deepens)
  b_deepens : Binds K A.d_deepens ["bracket"] []
  F_depths_of : Fun K "depths_of" "depths_of" s_depths_of A.f_depths_of A.d_depths_of
  g_depths_of : mg "depths_of" = some (.ref A.f_depths_of)
  b_depths_of : Binds K A.d_depths_of ["row"] []
  F_is_right_row : Fun K "is_right_row" "is_right_row" s_is_right_row A.f_is_right_row A.d_is_right_row
  g_is_right_row : mg "is_right_row" = some (.ref A.f_is_right_row)
  b_is_right_row : Binds K A.d_is_right_row ["row"] []
  F_flipped : Fun K "flipped" "flipped" s_flipped A.f_flipped A.d_flipped
  g_flipped : mg "flipped" = some (.ref A.f_flipped)
  b_flipped : Binds K A.d_flipped ["bracket"] []
  F_swapped : Fun K "swapped" "swapped" s_swapped A.f_swapped A.d_swapped
  g_swapped : mg "swapped" = some (.ref A.f_swapped)
  b_swapped : Binds K A.d_swapped ["row", "place"] []
  F_turned : Fun K "turned" "turned" s_turned A.f_turned A.d_turned
  g_turned : mg "turned" = some (.ref A.f_turned)
  b_turned : Binds K A.d_turned ["row", "places"] []
  F_rounded : Fun K "rounded" "rounded" s_rounded A.f_rounded A.d_rounded
  g_rounded : mg "rounded" = some (.ref A.f_rounded)
  b_rounded : Binds K A.d_rounded ["row", "first", "behind"] []
  F_is_stretch : Fun K "is_stretch" "is_stretch" s_is_stretch A.f_is_stretch A.d_is_stretch
  g_is_stretch : mg "is_stretch" = some (.ref A.f_is_stretch)
  b_is_stretch : Binds K A.d_is_stretch ["row", "thing"] []
  F_u_init : Fun K "__init__" "Uneven.__init__" s_u_init A.f_u_init A.d_u_init
  m_u_init : Meth K A.c_Uneven "__init__" A.f_u_init
  b_u_init : Binds K A.d_u_init ["self", "depth"] []
  F_u_shows : Fun K "shows" "Uneven.shows" s_u_shows A.f_u_shows A.d_u_shows
  m_u_shows : Meth K A.c_Uneven "shows" A.f_u_shows
  b_u_shows : Binds K A.d_u_shows ["self", "row"] []
  F_s_init : Fun K "__init__" "Swapped.__init__" s_s_init A.f_s_init A.d_s_init
  m_s_init : Meth K A.c_Swapped "__init__" A.f_s_init
  b_s_init : Binds K A.d_s_init ["self", "places", "lifts"] []
  F_s_shows : Fun K "shows" "Swapped.shows" s_s_shows A.f_s_shows A.d_s_shows
  m_s_shows : Meth K A.c_Swapped "shows" A.f_s_shows
  b_s_shows : Binds K A.d_s_shows ["self", "row"] []
  F_swaps : Fun K "swaps" "swaps" s_swaps A.f_swaps A.d_swaps
  g_swaps : mg "swaps" = some (.ref A.f_swaps)
  b_swaps : Binds K A.d_swaps ["row"] []
  F__law_number : Fun K "_law_number" "_law_number" s__law_number A.f__law_number A.d__law_number
  g__law_number : mg "_law_number" = some (.ref A.f__law_number)
  b__law_number : Binds K A.d__law_number ["_law_cell", "_law_at", "_law_whole"] []
  F__law_row : Fun K "_law_row" "_law_row" s__law_row A.f__law_row A.d__law_row
  g__law_row : mg "_law_row" = some (.ref A.f__law_row)
  b__law_row : Binds K A.d__law_row ["_law_script", "_law_by", "_law_most", "_law_even"] []
  F__law_depths : Fun K "_law_depths" "_law_depths" s__law_depths A.f__law_depths A.d__law_depths
  g__law_depths : mg "_law_depths" = some (.ref A.f__law_depths)
  b__law_depths : Binds K A.d__law_depths ["_law_row_here"] []
  F__law_good : Fun K "_law_good" "_law_good" s__law_good A.f__law_good A.d__law_good
  g__law_good : mg "_law_good" = some (.ref A.f__law_good)
  b__law_good : Binds K A.d__law_good ["_law_row_here"] []
  F__law_swap : Fun K "_law_swap" "_law_swap" s__law_swap A.f__law_swap A.d__law_swap
  g__law_swap : mg "_law_swap" = some (.ref A.f__law_swap)
  b__law_swap : Binds K A.d__law_swap ["_law_row_here", "_law_place"] []
  F__law_swapped : Fun K "_law_swapped" "_law_swapped" s__law_swapped A.f__law_swapped A.d__law_swapped
  g__law_swapped : mg "_law_swapped" = some (.ref A.f__law_swapped)
  b__law_swapped : Binds K A.d__law_swapped ["_law_row_here", "_law_places", "_law_lifts"] []
  F__law_uneven : Fun K "_law_uneven" "_law_uneven" s__law_uneven A.f__law_uneven A.d__law_uneven
  g__law_uneven : mg "_law_uneven" = some (.ref A.f__law_uneven)
  b__law_uneven : Binds K A.d__law_uneven ["_law_row_here", "_law_depth"] []
  F__law_due02 : Fun K "_law_due" "_law_due" s__law_due02 A.f__law_due02 A.d__law_due02
  g__law_due02 : mg "_law_due" = some (.ref A.f__law_due02)
  b__law_due02 : Binds K A.d__law_due02 ["_law_row_here", "_law_answer"] []
  F__law_right02 : Fun K "_law_right" "_law_right" s__law_right02 A.f__law_right02 A.d__law_right02
  g__law_right02 : mg "_law_right" = some (.ref A.f__law_right02)
  b__law_right02 : Binds K A.d__law_right02 ["_law_row_here", "_law_others"] []
  F__law_least02 : Fun K "_law_least" "_law_least" s__law_least02 A.f__law_least02 A.d__law_least02
  g__law_least02 : mg "_law_least" = some (.ref A.f__law_least02)
  b__law_least02 : Binds K A.d__law_least02 ["_law_row_here"] []
  F_law02 : Fun K "law" "law" s_law02 A.f_law02 A.d_law02
  g_law02 : mg "law" = some (.ref A.f_law02)
  b_law02 : Binds K A.d_law02 ["_law_script"] []
  k_Swapped : Cls K A.c_Swapped
  mk_Swapped : Mk K A.c_Swapped A.f_s_init
  k_Uneven : Cls K A.c_Uneven
  mk_Uneven : Mk K A.c_Uneven A.f_u_init
  n_abs : mg "abs" = none
  n_all : mg "all" = none
  n_any : mg "any" = none
  n_bool : mg "bool" = none
  n_enumerate : mg "enumerate" = none
  n_int : mg "int" = none
  n_isinstance : mg "isinstance" = none
  n_len : mg "len" = none
  n_list : mg "list" = none
  n_max : mg "max" = none
  n_min : mg "min" = none
  n_range : mg "range" = none
  n_str : mg "str" = none
  n_sum : mg "sum" = none
  n_tuple : mg "tuple" = none
  n_zip : mg "zip" = none
  g_Answer : mg "Answer" = some (.ref A.c_Answer)
  g_LONGEST : ∃ t, mg "LONGEST" = some (.int 40 t)
  g_Odd : mg "Odd" = some (.ref A.c_Odd)
  g_Rounded : mg "Rounded" = some (.ref A.c_Rounded)
  g_Swapped : mg "Swapped" = some (.ref A.c_Swapped)
  g_Turned : mg "Turned" = some (.ref A.c_Turned)
  g_Uneven : mg "Uneven" = some (.ref A.c_Uneven)
theorem ok_is_whole {P : Program} {w : World} {K : PySem.W.Frag} {mg : Str → Option Value} {base : Heap} {A : Ads} (X_ : Txt K mg A) : FnOk P w K mg base CX0 1 A.f_is_whole A.d_is_whole ["thing"] (sp_is_whole K A.toCA) := by
  have nd_ := sc_is_whole.nd
  refine X_.F_is_whole.ok sc_is_whole (fun vs H Q E h => ln_is_whole h) (fun cdv A_ outer s H vs Q E hr h => ⟨rd_is_whole K A.toCA, ?_, pu_is_whole h⟩)
  exact (pss_one (ps_ret (pe_and (pe_callB (c_isi "int") (by rfl) X_.n_isinstance (by decide +kernel) (pa_cons (pv 0) (pa_cons (pe_bltn rfl X_.n_int (by decide +kernel) rfl) pa_nil))) (pe_one (pe_not (pe_callB (c_isi "bool") (by rfl) X_.n_isinstance (by decide +kernel) (pa_cons (pv 0) (pa_cons (pe_bltn rfl X_.n_bool (by decide +kernel) rfl) pa_nil))))))))

theorem ok_asked_row {P : Program} {w : World} {K : PySem.W.Frag} {mg : Str → Option Value} {base : Heap} {A : Ads} (X_ : Txt K mg A) : FnOk P w K mg base CX0 1 A.f_asked_row A.d_asked_row ["row"] (sp_asked_row K A.toCA) := by
  have nd_ := sc_asked_row.nd
  refine X_.F_asked_row.ok sc_asked_row (fun vs H Q E h => ln_asked_row h) (fun cdv A_ outer s H vs Q E hr h => ⟨rd_asked_row K A.toCA, ?_, pu_asked_row h⟩)
  exact (pss_one (ps_if (PW.pt (pw_or (pt_not (pt_val (pe_callB (c_isi "str") (by rfl) X_.n_isinstance (by decide +kernel) (pa_cons (pv 0) (pa_cons (pe_bltn rfl X_.n_str (by decide +kernel) rfl) pa_nil))))) (pw_or (pt_cmpR o_gt (pe_callB c_lenT (by rfl) X_.n_len (by decide +kernel) (pa_cons (pv 0) pa_nil)) (pe_glob rfl X_.g_LONGEST.choose_spec ⟨_, rfl⟩) (nomark _)) (pw_or1 (pt_not (pt_val (pe_callB (c_all rfl) (by rfl) X_.n_all (by decide +kernel) (pa_cons (pe_lc (own := [("one", 1)]) (g := (gName 1)) (tt := tYes) rfl nd_ (pi_str (pv 0)) (blkOk_by (own := [("one", 1)]) (N := N_asked_row) (sc := defScope s_asked_row) (by decide +kernel)) (fun _ _ _ _ _ => (pg_name (i := 1) nd_ rfl (Or.inl rfl))) (fun _ _ _ _ _ => pts_nil) (fun _ _ _ _ _ => (pe_cmpR o_inT (pv 1) (pe_strT [true, false]) rfl))) pa_nil)))))))) (pss_one ps_never) pss_nil))

theorem ok_deepens {P : Program} {w : World} {K : PySem.W.Frag} {mg : Str → Option Value} {base : Heap} {A : Ads} (X_ : Txt K mg A) : FnOk P w K mg base CX0 1 A.f_deepens A.d_deepens ["bracket"] (sp_deepens K A.toCA) := by
  have nd_ := sc_deepens.nd
  refine X_.F_deepens.ok sc_deepens (fun vs H Q E h => ln_deepens h) (fun cdv A_ outer s H vs Q E hr h => ⟨rd_deepens K A.toCA, ?_, pu_deepens h⟩)
  exact (pss_one (ps_ret (pe_ifExp (pt_cmpR op_eq (pv 0) (pe_strT [true]) (nomark _)) pe_int (pe_un o_neg pe_int))))

theorem ok_depths_of {P : Program} {w : World} {K : PySem.W.Frag} {mg : Str → Option Value} {base : Heap} {A : Ads} (X_ : Txt K mg A) : FnOk P w K mg base CX0 2 A.f_depths_of A.d_depths_of ["row"] (sp_depths_of K A.toCA) := by
  have nd_ := sc_depths_of.nd
  refine X_.F_depths_of.ok sc_depths_of (fun vs H Q E h => ln_depths_of h) (fun cdv A_ outer s H vs Q E hr h => ⟨rd_depths_of K A.toCA, ?_, pu_depths_of h⟩)
  exact (pss_cons (ps_set (i := 1) nd_ rfl (Or.inl rfl) (pe_lst (pa_cons pe_int pa_nil)))
    (pss_cons (ps_for PassesOwn.never rfl (pi_str (pv 0)) (pg_name (i := 2) nd_ rfl (Or.inl rfl)) (pss_one (ps_expr (pe_bm PySem.F.plainAttrs_list PySem.F.slot_list_append PySem.F.type_list_append mt_append (pv 1) (pa_cons (pe_op o_add (pe_ix ix_list (pv 1) (pe_un o_neg pe_int) (fun _ _ => rfl)) (pe_call (ok_deepens X_) (hr.mono (by decide)) rfl X_.g_deepens X_.F_deepens.kp X_.b_deepens .nil pass0 (pa_cons (pv 2) pa_nil))) pa_nil)))))
    (pss_one (ps_ret (pv 1)))))

theorem ok_is_right_row {P : Program} {w : World} {K : PySem.W.Frag} {mg : Str → Option Value} {base : Heap} {A : Ads} (X_ : Txt K mg A) : FnOk P w K mg base CX0 3 A.f_is_right_row A.d_is_right_row ["row"] (sp_is_right_row K A.toCA) := by
  have nd_ := sc_is_right_row.nd
  refine X_.F_is_right_row.ok sc_is_right_row (fun vs H Q E h => ln_is_right_row h) (fun cdv A_ outer s H vs Q E hr h => ⟨rd_is_right_row K A.toCA, ?_, pu_is_right_row h⟩)
  exact (pss_cons (ps_set (i := 1) nd_ rfl (Or.inl rfl) (pe_call (ok_depths_of X_) (hr.mono (by decide)) rfl X_.g_depths_of X_.F_depths_of.kp X_.b_depths_of .nil pass0 (pa_cons (pv 0) pa_nil)))
    (pss_one (ps_ret (pe_and (pe_cmpR op_eq (pe_ix ix_list (pv 1) (pe_un o_neg pe_int) (fun _ _ => rfl)) pe_int (nomark _)) (pe_one (pe_cmpR op_eq (pe_callB (cr_min rfl) (by rfl) X_.n_min (by decide +kernel) (pa_cons (pv 1) pa_nil)) pe_int (nomark _)))))))

theorem ok_flipped {P : Program} {w : World} {K : PySem.W.Frag} {mg : Str → Option Value} {base : Heap} {A : Ads} (X_ : Txt K mg A) : FnOk P w K mg base CX0 1 A.f_flipped A.d_flipped ["bracket"] (sp_flipped K A.toCA) := by
  have nd_ := sc_flipped.nd
  refine X_.F_flipped.ok sc_flipped (fun vs H Q E h => ln_flipped h) (fun cdv A_ outer s H vs Q E hr h => ⟨rd_flipped K A.toCA, ?_, pu_flipped h⟩)
  exact (pss_one (ps_ret (pe_ifExp (pt_cmpR op_eq (pv 0) (pe_strT [true]) (nomark _)) (pe_strT [false]) (pe_strT [true]))))

theorem ok_swapped {P : Program} {w : World} {K : PySem.W.Frag} {mg : Str → Option Value} {base : Heap} {A : Ads} (X_ : Txt K mg A) : FnOk P w K mg base CX0 1 A.f_swapped A.d_swapped ["row", "place"] (sp_swapped K A.toCA) := by
  have nd_ := sc_swapped.nd
  refine X_.F_swapped.ok sc_swapped (fun vs H Q E h => ln_swapped h) (fun cdv A_ outer s H vs Q E hr h => ⟨rd_swapped K A.toCA, ?_, pu_swapped h⟩)
  exact (pss_one (ps_ret (pe_op o_catT (pe_op o_catT (pe_op o_catT (pe_slice s_T (pv 0) po_none (po_some (pv 1))) (pe_ix x_T (pv 0) (pe_op o_add (pv 1) pe_int) (fun _ _ => rfl))) (pe_ix x_T (pv 0) (pv 1) (fun _ _ => rfl))) (pe_slice s_T (pv 0) (po_some (pe_op o_add (pv 1) pe_int)) po_none))))

theorem ok_turned {P : Program} {w : World} {K : PySem.W.Frag} {mg : Str → Option Value} {base : Heap} {A : Ads} (X_ : Txt K mg A) : FnOk P w K mg base CX0 2 A.f_turned A.d_turned ["row", "places"] (sp_turned K A.toCA) := by
  have nd_ := sc_turned.nd
  refine X_.F_turned.ok sc_turned (fun vs H Q E h => ln_turned h) (fun cdv A_ outer s H vs Q E hr h => ⟨rd_turned K A.toCA, ?_, pu_turned h⟩)
  exact (pss_one (ps_ret (pe_bm PySem.F.plainAttrs_str PySem.F.slot_str_join PySem.F.type_str_join m_join (pe_strT []) (pa_cons (pe_lc (own := [("at", 2), ("one", 3)]) (g := (gTup K 2 (gCons (gName 2) (gCons (gName 3) gNil)))) (tt := tYes) rfl nd_ (pi_enumT rfl X_.n_enumerate (pa_cons (pv 0) pa_nil)) (blkOk_by (own := [("at", 2), ("one", 3)]) (N := N_turned) (sc := defScope s_turned) (by decide +kernel)) (fun _ _ _ _ _ => (pg_tup rfl (pgs_cons (pg_name (i := 2) nd_ rfl (Or.inl rfl)) (pgs_cons (pg_name (i := 3) nd_ rfl (Or.inl rfl)) pgs_nil)))) (fun _ _ _ _ _ => pts_nil) (fun _ _ _ _ _ => (pe_ifExp (pt_cmpR op_in_seq (pv 2) (pv 1) (by rfl)) (pe_call (ok_flipped X_) (hr.mono (by decide)) rfl X_.g_flipped X_.F_flipped.kp X_.b_flipped .nil pass0 (pa_cons (pv 3) pa_nil)) (pv 3)))) pa_nil))))

theorem ok_rounded {P : Program} {w : World} {K : PySem.W.Frag} {mg : Str → Option Value} {base : Heap} {A : Ads} (X_ : Txt K mg A) : FnOk P w K mg base CX0 1 A.f_rounded A.d_rounded ["row", "first", "behind"] (sp_rounded K A.toCA) := by
  have nd_ := sc_rounded.nd
  refine X_.F_rounded.ok sc_rounded (fun vs H Q E h => ln_rounded h) (fun cdv A_ outer s H vs Q E hr h => ⟨rd_rounded K A.toCA, ?_, pu_rounded h⟩)
  exact (pss_one (ps_ret (pe_op o_catT (pe_op o_catT (pe_slice s_T (pv 0) po_none (po_some (pv 1))) (pe_revT (pe_slice s_T (pv 0) (po_some (pv 1)) (po_some (pv 2))))) (pe_slice s_T (pv 0) (po_some (pv 2)) po_none))))

theorem ok_is_stretch {P : Program} {w : World} {K : PySem.W.Frag} {mg : Str → Option Value} {base : Heap} {A : Ads} (X_ : Txt K mg A) : FnOk P w K mg base CX0 2 A.f_is_stretch A.d_is_stretch ["row", "thing"] (sp_is_stretch K A.toCA) := by
  have nd_ := sc_is_stretch.nd
  refine X_.F_is_stretch.ok sc_is_stretch (fun vs H Q E h => ln_is_stretch h) (fun cdv A_ outer s H vs Q E hr h => ⟨rd_is_stretch K A.toCA, ?_, pu_is_stretch h⟩)
  exact (pss_cons (ps_if (PW.pt (pw_or (pt_not (pt_val (pe_callB (c_isi "tuple") (by rfl) X_.n_isinstance (by decide +kernel) (pa_cons (pv 1) (pa_cons (pe_bltn rfl X_.n_tuple (by decide +kernel) rfl) pa_nil))))) (pw_or (pt_cmpR op_ne (pe_callB c_len (by rfl) X_.n_len (by decide +kernel) (pa_cons (pv 1) pa_nil)) pe_int (nomark _)) (pw_or1 (pt_not (pt_val (pe_callB (c_all rfl) (by rfl) X_.n_all (by decide +kernel) (pa_cons (pe_lc (own := [("one", 2)]) (g := (gName 2)) (tt := tYes) rfl nd_ (pi_tup (pv 1)) (blkOk_by (own := [("one", 2)]) (N := N_is_stretch) (sc := defScope s_is_stretch) (by decide +kernel)) (fun _ _ _ _ _ => (pg_name (i := 2) nd_ rfl (Or.inl rfl))) (fun _ _ _ _ _ => pts_nil) (fun _ _ _ _ _ => (pe_call (ok_is_whole X_) (hr.mono (by decide)) rfl X_.g_is_whole X_.F_is_whole.kp X_.b_is_whole .nil pass0 (pa_cons (pv 2) pa_nil)))) pa_nil)))))))) (pss_one (ps_ret pe_bl)) pss_nil)
    (pss_one (ps_ret (pe_chain3 o_le o_lt o_le pe_int (pe_ix ix_tup (pv 1) pe_int (fun _ _ => rfl)) (pe_ix ix_tup (pv 1) pe_int (fun _ _ => rfl)) (pe_callB c_lenT (by rfl) X_.n_len (by decide +kernel) (pa_cons (pv 0) pa_nil))))))

theorem ok_u_init {P : Program} {w : World} {K : PySem.W.Frag} {mg : Str → Option Value} {base : Heap} {A : Ads} (X_ : Txt K mg A) : FnOk P w K mg base CX0 1 A.f_u_init A.d_u_init ["self", "depth"] (sp_u_init K A.toCA) := by
  have nd_ := sc_u_init.nd
  refine X_.F_u_init.ok sc_u_init (fun vs H Q E h => ln_u_init h) (fun cdv A_ outer s H vs Q E hr h => ⟨rd_u_init K A.toCA, ?_, pu_u_init h⟩)
  exact (pss_one (ps_fld (pv 0) (pv 1) rfl))

theorem ok_u_shows {P : Program} {w : World} {K : PySem.W.Frag} {mg : Str → Option Value} {base : Heap} {A : Ads} (X_ : Txt K mg A) : FnOk P w K mg base CX0 3 A.f_u_shows A.d_u_shows ["self", "row"] (sp_u_shows K A.toCA) := by
  have nd_ := sc_u_shows.nd
  refine X_.F_u_shows.ok sc_u_shows (fun vs H Q E h => ln_u_shows h) (fun cdv A_ outer s H vs Q E hr h => ⟨rd_u_shows K A.toCA, ?_, pu_u_shows h⟩)
  exact (pss_one (ps_ret (pe_and (pe_cmpR op_ne (pe_fld (pv 0) rfl) pe_int (nomark _)) (pe_one (pe_cmpR op_eq (pe_ix ix_list (pe_call (ok_depths_of X_) (hr.mono (by decide)) rfl X_.g_depths_of X_.F_depths_of.kp X_.b_depths_of .nil pass0 (pa_cons (pv 1) pa_nil)) (pe_un o_neg pe_int) (fun _ _ => rfl)) (pe_fld (pv 0) rfl) (nomark _))))))

theorem ok_s_init {P : Program} {w : World} {K : PySem.W.Frag} {mg : Str → Option Value} {base : Heap} {A : Ads} (X_ : Txt K mg A) : FnOk P w K mg base CX0 1 A.f_s_init A.d_s_init ["self", "places", "lifts"] (sp_s_init K A.toCA) := by
  have nd_ := sc_s_init.nd
  refine X_.F_s_init.ok sc_s_init (fun vs H Q E h => ln_s_init h) (fun cdv A_ outer s H vs Q E hr h => ⟨rd_s_init K A.toCA, ?_, pu_s_init h⟩)
  exact (pss_cons (ps_fld (pv 0) (pe_callTy c_listOf (by rfl) X_.n_list (by decide +kernel) (pa_cons (pv 1) pa_nil)) rfl)
    (pss_one (ps_fld (pv 0) (pe_callTy c_listOf (by rfl) X_.n_list (by decide +kernel) (pa_cons (pv 2) pa_nil)) rfl)))

theorem ok_s_shows {P : Program} {w : World} {K : PySem.W.Frag} {mg : Str → Option Value} {base : Heap} {A : Ads} (X_ : Txt K mg A) : FnOk P w K mg base CX0 4 A.f_s_shows A.d_s_shows ["self", "row"] (sp_s_shows K A.toCA) := by
  have nd_ := sc_s_shows.nd
  refine X_.F_s_shows.ok sc_s_shows (fun vs H Q E h => ln_s_shows h) (fun cdv A_ outer s H vs Q E hr h => ⟨rd_s_shows K A.toCA, ?_, pu_s_shows h⟩)
  exact (pss_cons (ps_set (i := 2) nd_ rfl (Or.inl rfl) (pv 1))
    (pss_cons (ps_for PassesOwn.never rfl (pi_list (pe_fld (pv 0) rfl)) (pg_name (i := 3) nd_ rfl (Or.inl rfl)) (pss_cons (ps_if (PW.pt (pw_or (pt_not (pt_chain o_le o_lt pe_int (pv 3) (pe_op o_sub (pe_callB c_lenT (by rfl) X_.n_len (by decide +kernel) (pa_cons (pv 1) pa_nil)) pe_int))) (pw_or1 (pt_cmpR op_eq (pe_ix x_T (pv 2) (pv 3) (fun _ _ => rfl)) (pe_ix x_T (pv 2) (pe_op o_add (pv 3) pe_int) (fun _ _ => rfl)) (nomark _))))) (pss_one (ps_ret pe_bl)) pss_nil)
    (pss_one (ps_set (i := 2) nd_ rfl (Or.inl rfl) (pe_call (ok_swapped X_) (hr.mono (by decide)) rfl X_.g_swapped X_.F_swapped.kp X_.b_swapped .nil pass0 (pa_cons (pv 2) (pa_cons (pv 3) pa_nil)))))))
    (pss_cons (ps_if (PW.pt (pw_or (pt_not (pt_val (pe_call (ok_is_right_row X_) (hr.mono (by decide)) rfl X_.g_is_right_row X_.F_is_right_row.kp X_.b_is_right_row .nil pass0 (pa_cons (pv 2) pa_nil)))) (pw_or (pt_cmpR op_ne (pe_callB c_len (by rfl) X_.n_len (by decide +kernel) (pa_cons (pe_fld (pv 0) rfl) pa_nil)) (pe_op o_add (pe_callB c_lenT (by rfl) X_.n_len (by decide +kernel) (pa_cons (pv 1) pa_nil)) pe_int) (nomark _)) (pw_or1 (pt_cmpR op_ne (pe_callB (cr_sum rfl) (by rfl) X_.n_sum (by decide +kernel) (pa_cons (pe_fld (pv 0) rfl) pa_nil)) (pe_callB c_len (by rfl) X_.n_len (by decide +kernel) (pa_cons (pe_fld (pv 0) rfl) pa_nil)) (nomark _)))))) (pss_one (ps_ret pe_bl)) pss_nil)
    (pss_cons (ps_for PassesOwn.never rfl (pi_zip rfl X_.n_zip (pa_cons (pe_call (ok_depths_of X_) (hr.mono (by decide)) rfl X_.g_depths_of X_.F_depths_of.kp X_.b_depths_of .nil pass0 (pa_cons (pv 1) pa_nil)) (pa_cons (pe_fld (pv 0) rfl) pa_nil))) (pg_tup rfl (pgs_cons (pg_name (i := 4) nd_ rfl (Or.inl rfl)) (pgs_cons (pg_name (i := 5) nd_ rfl (Or.inl rfl)) pgs_nil))) (pss_one (ps_if (PW.pt (pw_or (pt_cmpR o_lt (pv 5) pe_int (nomark _)) (pw_or1 (PW.pt (pw_and (pt_cmpR o_gt (pv 5) pe_int (nomark _)) (pw_and1 (pt_cmpR o_ge (pe_op o_add (pv 4) (pe_op o_mul pe_int (pe_op o_sub (pv 5) pe_int))) pe_int (nomark _)))))))) (pss_one (ps_ret pe_bl)) pss_nil)))
    (pss_one (ps_ret pe_bl))))))

theorem ok_swaps {P : Program} {w : World} {K : PySem.W.Frag} {mg : Str → Option Value} {base : Heap} {A : Ads} (X_ : Txt K mg A) : FnOk P w K mg base CX0 5 A.f_swaps A.d_swaps ["row"] (sp_swaps K A.toCA) := by
  have nd_ := sc_swaps.nd
  refine X_.F_swaps.ok sc_swaps (fun vs H Q E h => ln_swaps h) (fun cdv A_ outer s H vs Q E hr h => ⟨rd_swaps K A.toCA, ?_, pu_swaps h⟩)
  exact (pss_cons (ps_expr (pe_call (ok_asked_row X_) (hr.mono (by decide)) rfl X_.g_asked_row X_.F_asked_row.kp X_.b_asked_row .nil pass0 (pa_cons (pv 0) pa_nil)))
    (pss_cons (ps_set (i := 1) nd_ rfl (Or.inl rfl) (pe_call (ok_depths_of X_) (hr.mono (by decide)) rfl X_.g_depths_of X_.F_depths_of.kp X_.b_depths_of .nil pass0 (pa_cons (pv 0) pa_nil)))
    (pss_cons (ps_if (pt_cmpR op_ne (pe_ix ix_list (pv 1) (pe_un o_neg pe_int) (fun _ _ => rfl)) pe_int (nomark _)) (pss_one (ps_ret (pe_make X_.mk_Uneven (ok_u_init X_) (hr.mono (by decide)) rfl X_.g_Uneven X_.b_u_init .nil pass0 (pa_cons (pe_ix ix_list (pv 1) (pe_un o_neg pe_int) (fun _ _ => rfl)) pa_nil)))) pss_nil)
    (pss_cons (ps_par3 (i := 2) (j := 3) (l := 4) rfl nd_ rfl rfl rfl (by decide) (by decide) (by decide) rfl rfl rfl (pa_cons (pe_lc (own := [("depth", 8)]) (g := (gName 8)) (tt := tYes) rfl nd_ (pi_list (pv 1)) (blkOk_by (own := [("depth", 8)]) (N := N_swaps) (sc := defScope s_swaps) (by decide +kernel)) (fun _ _ _ _ _ => (pg_name (i := 8) nd_ rfl (Or.inl rfl))) (fun _ _ _ _ _ => pts_nil) (fun _ _ _ _ _ => (pe_op o_div (pe_callB (c_max2 rfl) (by rfl) X_.n_max (by decide +kernel) (pa_cons pe_int (pa_cons (pe_op o_sub pe_int (pv 8)) pa_nil))) pe_int))) (pa_cons (pe_lst pa_nil) (pa_cons (pv 0) pa_nil))) (by rfl))
    (pss_cons (ps_while PassesOwn.never (pt_not (pt_val (pe_call (ok_is_right_row X_) (hr.mono (by decide)) rfl X_.g_is_right_row X_.F_is_right_row.kp X_.b_is_right_row .nil pass0 (pa_cons (pv 4) pa_nil)))) (pss_cons (ps_set (i := 5) nd_ rfl (Or.inl rfl) (pe_call (ok_depths_of X_) (hr.mono (by decide)) rfl X_.g_depths_of X_.F_depths_of.kp X_.b_depths_of .nil pass0 (pa_cons (pv 4) pa_nil)))
    (pss_cons (ps_set (i := 6) nd_ rfl (Or.inl rfl) (pe_callB (cr_min rfl) (by rfl) X_.n_min (by decide +kernel) (pa_cons (pv 5) pa_nil)))
    (pss_cons (ps_set (i := 7) nd_ rfl (Or.inl rfl) (pe_op o_sub (pe_bm PySem.F.plainAttrs_list PySem.F.slot_list_index PySem.F.type_list_index m_index (pv 5) (pa_cons (pv 6) pa_nil)) pe_int))
    (pss_cons (ps_expr (pe_bm PySem.F.plainAttrs_list PySem.F.slot_list_append PySem.F.type_list_append mt_append (pv 3) (pa_cons (pv 7) pa_nil)))
    (pss_one (ps_set (i := 4) nd_ rfl (Or.inl rfl) (pe_call (ok_swapped X_) (hr.mono (by decide)) rfl X_.g_swapped X_.F_swapped.kp X_.b_swapped .nil pass0 (pa_cons (pv 4) (pa_cons (pv 7) pa_nil))))))))))
    (pss_one (ps_ret (pe_make X_.mk_Swapped (ok_s_init X_) (hr.mono (by decide)) rfl X_.g_Swapped X_.b_s_init .nil pass0 (pa_cons (pv 3) (pa_cons (pv 2) pa_nil))))))))))

theorem ok__law_number {P : Program} {w : World} {K : PySem.W.Frag} {mg : Str → Option Value} {base : Heap} {A : Ads} (X_ : Txt K mg A) : FnOk P w K mg base CX0 1 A.f__law_number A.d__law_number ["_law_cell", "_law_at", "_law_whole"] (sp__law_number K A.toCA) := by
  have nd_ := sc__law_number.nd
  refine X_.F__law_number.ok sc__law_number (fun vs H Q E h => ln__law_number h) (fun cdv A_ outer s H vs Q E hr h => ⟨rd__law_number K A.toCA, ?_, pu__law_number h⟩)
  exact (pss_cons (ps_if (pt_cmpR o_ge (pv 0) (pe_op o_pow pe_int pe_int) (nomark _)) (pss_one (ps_ret (pe_op o_div (pv 0) (pe_op o_add pe_int (pe_op o_mod (pv 1) pe_int))))) pss_nil)
    (pss_cons (ps_set (i := 3) nd_ rfl (Or.inl rfl) (pe_op o_mod (pv 0) (pe_op o_pow pe_int pe_int)))
    (pss_cons (ps_set (i := 4) nd_ rfl (Or.inl rfl) (pe_op o_mod (pe_op o_add (pe_op o_mul (pe_op o_add (pv 3) (pe_op o_mul pe_int (pv 1))) pe_int) (pv 2)) pe_int))
    (pss_cons (ps_set (i := 5) nd_ rfl (Or.inl rfl) (pe_op o_mul (pv 4) (pe_op o_add (pe_op o_add (pv 3) (pe_op o_mul pe_int (pv 1))) pe_int)))
    (pss_one (ps_ret (pe_op o_div (pe_op o_mul (pe_op o_mul (pv 5) (pe_op o_add (pe_op o_add (pv 4) (pv 3)) pe_int)) (pe_op o_add (pe_op o_mul (pv 4) (pv 4)) pe_int)) (pe_op o_add pe_int (pv 1)))))))))

theorem ok__law_row {P : Program} {w : World} {K : PySem.W.Frag} {mg : Str → Option Value} {base : Heap} {A : Ads} (X_ : Txt K mg A) : FnOk P w K mg base CX0 2 A.f__law_row A.d__law_row ["_law_script", "_law_by", "_law_most", "_law_even"] (sp__law_row K A.toCA) := by
  have nd_ := sc__law_row.nd
  refine X_.F__law_row.ok sc__law_row (fun vs H Q E h => ln__law_row h) (fun cdv A_ outer s H vs Q E hr h => ⟨rd__law_row K A.toCA, ?_, pu__law_row h⟩)
  exact (pss_cons (ps_set (i := 4) nd_ rfl (Or.inl rfl) (pe_ifExp (pt_cmpR (op_neD hr.units) (pv 0) (pe_lst pa_nil) (nomark _)) (pe_slice sl_list (pv 0) po_none (po_some pe_int)) (pe_lst (pa_cons pe_int pa_nil))))
    (pss_cons (ps_par (i := 9) (j := 7) rfl nd_ rfl rfl (by decide) rfl rfl (pa_cons (pe_op o_add (pe_callB c_abs (by rfl) X_.n_abs (by decide +kernel) (pa_cons (pe_callB (cr_sum rfl) (by rfl) X_.n_sum (by decide +kernel) (pa_cons (pv 4) pa_nil)) pa_nil)) (pe_op o_mul pe_int (pv 1))) (pa_cons (pe_lst pa_nil) pa_nil)) (by rfl))
    (pss_cons (ps_set (i := 5) nd_ rfl (Or.inl rfl) (pe_op o_add pe_int (pe_op o_mod (pe_op o_div (pv 9) pe_int) pe_int)))
    (pss_cons (ps_for PassesOwn.never rfl (pi_range1 rfl X_.n_range (pa_cons (pe_op o_mod (pe_op o_div (pv 9) pe_int) (pe_op o_add (pv 2) pe_int)) pa_nil)) (pg_name (i := 6) nd_ rfl (Or.inl rfl)) (pss_cons (ps_set (i := 10) nd_ rfl (Or.inl rfl) (pe_op o_div (pv 6) (pv 5)))
    (pss_cons (ps_set (i := 11) nd_ rfl (Or.inl rfl) (pe_op o_add (pe_ix ix_list (pv 4) (pe_op o_mod (pe_op o_add (pv 10) (pv 1)) (pe_callB c_len (by rfl) X_.n_len (by decide +kernel) (pa_cons (pv 4) pa_nil))) (fun _ _ => rfl)) (pe_op o_div (pv 10) (pe_callB c_len (by rfl) X_.n_len (by decide +kernel) (pa_cons (pv 4) pa_nil)))))
    (pss_cons (ps_set (i := 12) nd_ rfl (Or.inl rfl) (pe_op o_div (pe_callB c_abs (by rfl) X_.n_abs (by decide +kernel) (pa_cons (pe_call (ok__law_number X_) (hr.mono (by decide)) rfl X_.g__law_number X_.F__law_number.kp X_.b__law_number .nil pass0 (pa_cons (pv 11) (pa_cons (pe_op o_add (pv 10) (pv 1)) (pa_cons (pv 9) pa_nil)))) pa_nil)) pe_int))
    (pss_cons (ps_set (i := 13) nd_ rfl (Or.inl rfl) (pe_callTy c_intB (by rfl) X_.n_int (by decide +kernel) (pa_cons (pe_or (pe_cmpR o_gt (pe_op o_mod (pv 12) pe_int) pe_int (nomark _)) (pe_one (pe_cmpR op_eq (pe_op o_mod (pv 6) pe_int) pe_int (nomark _)))) pa_nil)))
    (pss_cons (ps_set (i := 14) nd_ rfl (Or.inl rfl) (pe_tup (pa_cons (pe_op o_mod (pv 12) pe_int) (pa_cons (pe_op o_mod (pv 6) pe_int) (pa_cons (pe_op o_sub pe_int (pe_op o_mod (pv 6) pe_int)) (pa_cons (pv 13) (pa_cons (pe_callTy c_intB (by rfl) X_.n_int (by decide +kernel) (pa_cons (pe_cmpR op_eq (pe_op o_mod (pv 10) pe_int) pe_int (nomark _)) pa_nil)) pa_nil)))))))
    (pss_one (ps_expr (pe_bm PySem.F.plainAttrs_list PySem.F.slot_list_append PySem.F.type_list_append mt_append (pv 7) (pa_cons (pe_ix x_T (pe_strT [true, false]) (pe_ix ix_tup (pv 14) (pe_op o_mod (pv 9) pe_int) (fun _ _ => rfl)) (fun _ _ => rfl)) pa_nil))))))))))
    (pss_cons (ps_set (i := 7) nd_ rfl (Or.inl rfl) (pe_ifExp (pt_val (pv 3)) (pe_slice sl_list (pv 7) po_none (po_some (pe_op o_mul (pe_op o_div (pe_callB c_len (by rfl) X_.n_len (by decide +kernel) (pa_cons (pv 7) pa_nil)) pe_int) pe_int))) (pv 7)))
    (pss_cons (ps_set (i := 8) nd_ rfl (Or.inl rfl) (pe_op o_sub (pe_bm PySem.F.plainAttrs_list PySem.F.slot_list_count PySem.F.type_list_count m_count (pv 7) (pa_cons (pe_strT [true]) pa_nil)) (pe_bm PySem.F.plainAttrs_list PySem.F.slot_list_count PySem.F.type_list_count m_count (pv 7) (pa_cons (pe_strT [false]) pa_nil))))
    (pss_cons (ps_for PassesOwn.never rfl (pi_range1 rfl X_.n_range (pa_cons (pe_callB c_len (by rfl) X_.n_len (by decide +kernel) (pa_cons (pv 7) pa_nil)) pa_nil)) (pg_name (i := 6) nd_ rfl (Or.inl rfl)) (pss_cons (ps_set (i := 10) nd_ rfl (Or.inl rfl) (pe_op o_mod (pe_op o_add (pv 6) (pv 9)) (pe_callB c_len (by rfl) X_.n_len (by decide +kernel) (pa_cons (pv 7) pa_nil))))
    (pss_one (ps_if (PW.pt (pw_and (pt_val (pv 3)) (pw_and (pt_cmpR op_ne (pv 8) pe_int (nomark _)) (pw_and1 (pt_cmpR op_eq (pe_ix ix_list (pv 7) (pv 10) (fun _ _ => rfl)) (pe_ix x_T (pe_strT [true, false]) (pe_callTy c_intB (by rfl) X_.n_int (by decide +kernel) (pa_cons (pe_cmpR o_lt (pv 8) pe_int (nomark _)) pa_nil)) (fun _ _ => rfl)) (nomark _)))))) (pss_cons (ps_asg (pe_ix x_T (pe_strT [true, false]) (pe_callTy c_intB (by rfl) X_.n_int (by decide +kernel) (pa_cons (pe_cmpR o_gt (pv 8) pe_int (nomark _)) pa_nil)) (fun _ _ => rfl)) (pg_sub (pv 7) (pv 10) set_list))
    (pss_one (ps_set (i := 8) nd_ rfl (Or.inl rfl) (pe_ifExp (pt_cmpR o_gt (pv 8) pe_int (nomark _)) (pe_op o_sub (pv 8) pe_int) (pe_op o_add (pv 8) pe_int))))) pss_nil))))
    (pss_one (ps_ret (pe_bm PySem.F.plainAttrs_str PySem.F.slot_str_join PySem.F.type_str_join m_join (pe_strT []) (pa_cons (pv 7) pa_nil)))))))))))

theorem ok__law_depths {P : Program} {w : World} {K : PySem.W.Frag} {mg : Str → Option Value} {base : Heap} {A : Ads} (X_ : Txt K mg A) : FnOk P w K mg base CX0 1 A.f__law_depths A.d__law_depths ["_law_row_here"] (sp__law_depths K A.toCA) := by
  have nd_ := sc__law_depths.nd
  refine X_.F__law_depths.ok sc__law_depths (fun vs H Q E h => ln__law_depths h) (fun cdv A_ outer s H vs Q E hr h => ⟨rd__law_depths K A.toCA, ?_, pu__law_depths h⟩)
  exact (pss_cons (ps_set (i := 1) nd_ rfl (Or.inl rfl) (pe_lst (pa_cons pe_int pa_nil)))
    (pss_cons (ps_for PassesOwn.never rfl (pi_str (pv 0)) (pg_name (i := 2) nd_ rfl (Or.inl rfl)) (pss_one (ps_expr (pe_bm PySem.F.plainAttrs_list PySem.F.slot_list_append PySem.F.type_list_append mt_append (pv 1) (pa_cons (pe_op o_add (pe_ix ix_list (pv 1) (pe_un o_neg pe_int) (fun _ _ => rfl)) (pe_ifExp (pt_cmpR op_eq (pv 2) (pe_strT [true]) (nomark _)) pe_int (pe_un o_neg pe_int))) pa_nil)))))
    (pss_one (ps_ret (pv 1)))))

theorem ok__law_good {P : Program} {w : World} {K : PySem.W.Frag} {mg : Str → Option Value} {base : Heap} {A : Ads} (X_ : Txt K mg A) : FnOk P w K mg base CX0 1 A.f__law_good A.d__law_good ["_law_row_here"] (sp__law_good K A.toCA) := by
  have nd_ := sc__law_good.nd
  refine X_.F__law_good.ok sc__law_good (fun vs H Q E h => ln__law_good h) (fun cdv A_ outer s H vs Q E hr h => ⟨rd__law_good K A.toCA, ?_, pu__law_good h⟩)
  exact (pss_cons (ps_set (i := 1) nd_ rfl (Or.inl rfl) pe_int)
    (pss_cons (ps_for PassesOwn.never rfl (pi_str (pv 0)) (pg_name (i := 2) nd_ rfl (Or.inl rfl)) (pss_cons (ps_set (i := 1) nd_ rfl (Or.inl rfl) (pe_ifExp (pt_cmpR op_eq (pv 2) (pe_strT [true]) (nomark _)) (pe_op o_add (pv 1) pe_int) (pe_op o_sub (pv 1) pe_int)))
    (pss_one (ps_if (pt_cmpR o_lt (pv 1) pe_int (nomark _)) (pss_one (ps_ret pe_bl)) pss_nil))))
    (pss_one (ps_ret (pe_cmpR op_eq (pv 1) pe_int (nomark _))))))

theorem ok__law_swap {P : Program} {w : World} {K : PySem.W.Frag} {mg : Str → Option Value} {base : Heap} {A : Ads} (X_ : Txt K mg A) : FnOk P w K mg base CX0 1 A.f__law_swap A.d__law_swap ["_law_row_here", "_law_place"] (sp__law_swap K A.toCA) := by
  have nd_ := sc__law_swap.nd
  refine X_.F__law_swap.ok sc__law_swap (fun vs H Q E h => ln__law_swap h) (fun cdv A_ outer s H vs Q E hr h => ⟨rd__law_swap K A.toCA, ?_, pu__law_swap h⟩)
  exact (pss_cons (ps_if (PW.pt (pw_or (pt_not (pt_chain o_le o_lt pe_int (pv 1) (pe_op o_sub (pe_callB c_lenT (by rfl) X_.n_len (by decide +kernel) (pa_cons (pv 0) pa_nil)) pe_int))) (pw_or1 (pt_cmpR op_eq (pe_ix x_T (pv 0) (pv 1) (fun _ _ => rfl)) (pe_ix x_T (pv 0) (pe_op o_add (pv 1) pe_int) (fun _ _ => rfl)) (nomark _))))) (pss_one (ps_ret pe_non)) pss_nil)
    (pss_cons (ps_set (i := 2) nd_ rfl (Or.inl rfl) (pe_op o_catT (pe_ix x_T (pv 0) (pe_op o_add (pv 1) pe_int) (fun _ _ => rfl)) (pe_ix x_T (pv 0) (pv 1) (fun _ _ => rfl))))
    (pss_one (ps_ret (pe_op o_catT (pe_op o_catT (pe_slice s_T (pv 0) po_none (po_some (pv 1))) (pv 2)) (pe_slice s_T (pv 0) (po_some (pe_op o_add (pv 1) pe_int)) po_none))))))

theorem ok__law_swapped {P : Program} {w : World} {K : PySem.W.Frag} {mg : Str → Option Value} {base : Heap} {A : Ads} (X_ : Txt K mg A) : FnOk P w K mg base CX0 2 A.f__law_swapped A.d__law_swapped ["_law_row_here", "_law_places", "_law_lifts"] (sp__law_swapped K A.toCA) := by
  have nd_ := sc__law_swapped.nd
  refine X_.F__law_swapped.ok sc__law_swapped (fun vs H Q E h => ln__law_swapped h) (fun cdv A_ outer s H vs Q E hr h => ⟨rd__law_swapped K A.toCA, ?_, pu__law_swapped h⟩)
  exact (pss_cons (ps_set (i := 3) nd_ rfl (Or.inl rfl) (pv 0))
    (pss_cons (ps_for PassesOwn.never rfl (pi_list (pv 1)) (pg_name (i := 4) nd_ rfl (Or.inl rfl)) (pss_cons (ps_set (i := 3) nd_ rfl (Or.inl rfl) (pe_call (ok__law_swap X_) (hr.mono (by decide)) rfl X_.g__law_swap X_.F__law_swap.kp X_.b__law_swap .nil pass0 (pa_cons (pv 3) (pa_cons (pv 4) pa_nil))))
    (pss_one (ps_if (pt_cmpR o_isN (pv 3) pe_non (nomark _)) (pss_one (ps_ret pe_bl)) pss_nil))))
    (pss_cons (ps_if (PW.pt (pw_or (pt_not (pt_val (pe_call (ok__law_good X_) (hr.mono (by decide)) rfl X_.g__law_good X_.F__law_good.kp X_.b__law_good .nil pass0 (pa_cons (pv 3) pa_nil)))) (pw_or (pt_cmpR op_ne (pe_callB c_len (by rfl) X_.n_len (by decide +kernel) (pa_cons (pv 2) pa_nil)) (pe_op o_add (pe_callB c_lenT (by rfl) X_.n_len (by decide +kernel) (pa_cons (pv 0) pa_nil)) pe_int) (nomark _)) (pw_or1 (pt_cmpR op_ne (pe_callB (cr_sum rfl) (by rfl) X_.n_sum (by decide +kernel) (pa_cons (pv 2) pa_nil)) (pe_callB c_len (by rfl) X_.n_len (by decide +kernel) (pa_cons (pv 1) pa_nil)) (nomark _)))))) (pss_one (ps_ret pe_bl)) pss_nil)
    (pss_cons (ps_for PassesOwn.never rfl (pi_zip rfl X_.n_zip (pa_cons (pe_call (ok__law_depths X_) (hr.mono (by decide)) rfl X_.g__law_depths X_.F__law_depths.kp X_.b__law_depths .nil pass0 (pa_cons (pv 0) pa_nil)) (pa_cons (pv 2) pa_nil))) (pg_tup rfl (pgs_cons (pg_name (i := 5) nd_ rfl (Or.inl rfl)) (pgs_cons (pg_name (i := 6) nd_ rfl (Or.inl rfl)) pgs_nil))) (pss_one (ps_if (PW.pt (pw_or (pt_cmpR o_lt (pv 6) pe_int (nomark _)) (pw_or1 (PW.pt (pw_and (pt_cmpR o_gt (pv 6) pe_int (nomark _)) (pw_and1 (pt_cmpR o_ge (pe_op o_sub (pe_op o_add (pv 5) (pe_op o_mul pe_int (pv 6))) pe_int) pe_int (nomark _)))))))) (pss_one (ps_ret pe_bl)) pss_nil)))
    (pss_one (ps_ret pe_bl))))))

theorem ok__law_uneven {P : Program} {w : World} {K : PySem.W.Frag} {mg : Str → Option Value} {base : Heap} {A : Ads} (X_ : Txt K mg A) : FnOk P w K mg base CX0 1 A.f__law_uneven A.d__law_uneven ["_law_row_here", "_law_depth"] (sp__law_uneven K A.toCA) := by
  have nd_ := sc__law_uneven.nd
  refine X_.F__law_uneven.ok sc__law_uneven (fun vs H Q E h => ln__law_uneven h) (fun cdv A_ outer s H vs Q E hr h => ⟨rd__law_uneven K A.toCA, ?_, pu__law_uneven h⟩)
  exact (pss_one (ps_ret (pe_and (pe_cmpR op_ne (pv 1) pe_int (nomark _)) (pe_one (pe_cmpR op_eq (pe_op o_sub (pe_bm PySem.F.plainAttrs_str PySem.F.slot_str_count PySem.F.type_str_count m_countT (pv 0) (pa_cons (pe_strT [true]) pa_nil)) (pe_bm PySem.F.plainAttrs_str PySem.F.slot_str_count PySem.F.type_str_count m_countT (pv 0) (pa_cons (pe_strT [false]) pa_nil))) (pv 1) (nomark _))))))

theorem ok__law_due02 {P : Program} {w : World} {K : PySem.W.Frag} {mg : Str → Option Value} {base : Heap} {A : Ads} (X_ : Txt K mg A) : FnOk P w K mg base CX0 3 A.f__law_due02 A.d__law_due02 ["_law_row_here", "_law_answer"] (sp__law_due02 K A.toCA) := by
  have nd_ := sc__law_due02.nd
  refine X_.F__law_due02.ok sc__law_due02 (fun vs H Q E h => ln__law_due02 h) (fun cdv A_ outer s H vs Q E hr h => ⟨rd__law_due02 K A.toCA, ?_, pu__law_due02 h⟩)
  exact (pss_cons (ps_if (pt_val (pe_callB (c_isiC A.c_Uneven) (by rfl) X_.n_isinstance (by decide +kernel) (pa_cons (pv 1) (pa_cons (pe_glob rfl X_.g_Uneven rfl) pa_nil)))) (pss_one (ps_ret (pe_call (ok__law_uneven X_) (hr.mono (by decide)) rfl X_.g__law_uneven X_.F__law_uneven.kp X_.b__law_uneven .nil pass0 (pa_cons (pv 0) (pa_cons (pe_fld (pv 1) rfl) pa_nil))))) pss_nil)
    (pss_one (ps_ret (pe_call (ok__law_swapped X_) (hr.mono (by decide)) rfl X_.g__law_swapped X_.F__law_swapped.kp X_.b__law_swapped .nil pass0 (pa_cons (pv 0) (pa_cons (pe_fld (pv 1) rfl) (pa_cons (pe_fld (pv 1) rfl) pa_nil)))))))

theorem ok__law_right02 {P : Program} {w : World} {K : PySem.W.Frag} {mg : Str → Option Value} {base : Heap} {A : Ads} (X_ : Txt K mg A) : FnOk P w K mg base CX0 6 A.f__law_right02 A.d__law_right02 ["_law_row_here", "_law_others"] (sp__law_right02 K A.toCA) := by
  have nd_ := sc__law_right02.nd
  refine X_.F__law_right02.ok sc__law_right02 (fun vs H Q E h => ln__law_right02 h) (fun cdv A_ outer s H vs Q E hr h => ⟨rd__law_right02 K A.toCA, ?_, pu__law_right02 h⟩)
  exact (pss_cons (ps_set (i := 2) nd_ rfl (Or.inl rfl) (pe_cmpR op_eq (pe_bm PySem.F.plainAttrs_str PySem.F.slot_str_count PySem.F.type_str_count m_countT (pv 0) (pa_cons (pe_strT [true]) pa_nil)) (pe_bm PySem.F.plainAttrs_str PySem.F.slot_str_count PySem.F.type_str_count m_countT (pv 0) (pa_cons (pe_strT [false]) pa_nil)) (nomark _)))
    (pss_cons (ps_for PassesOwn.never rfl (pi_range1 rfl X_.n_range (pa_cons pe_int pa_nil)) (pg_name (i := 3) nd_ rfl (Or.inl rfl)) (pss_cons (ps_set (i := 4) nd_ rfl (Or.inl rfl) (pe_call (ok_swaps X_) (hr.mono (by decide)) rfl X_.g_swaps X_.F_swaps.kp X_.b_swaps .nil pass0 (pa_cons (pv 0) pa_nil)))
    (pss_cons (ps_if (PW.pt (pw_or (pt_not (pt_val (pe_callB (c_isiC A.c_Answer) (by rfl) X_.n_isinstance (by decide +kernel) (pa_cons (pv 4) (pa_cons (pe_glob rfl X_.g_Answer rfl) pa_nil))))) (pw_or1 (pt_val (pe_callB (c_isiC A.c_Turned) (by rfl) X_.n_isinstance (by decide +kernel) (pa_cons (pv 4) (pa_cons (pe_glob rfl X_.g_Turned rfl) pa_nil))))))) (pss_one (ps_ret pe_bl)) pss_nil)
    (pss_cons (ps_if (PW.pt (pw_or (pt_val (pe_callB (c_isiC A.c_Odd) (by rfl) X_.n_isinstance (by decide +kernel) (pa_cons (pv 4) (pa_cons (pe_glob rfl X_.g_Odd rfl) pa_nil)))) (pw_or1 (pt_val (pe_callB (c_isiC A.c_Rounded) (by rfl) X_.n_isinstance (by decide +kernel) (pa_cons (pv 4) (pa_cons (pe_glob rfl X_.g_Rounded rfl) pa_nil))))))) (pss_one (ps_ret pe_bl)) pss_nil)
    (pss_cons (ps_if (pt_cmpR (op_neD hr.units) (pe_lst (pa_cons (pe_callB (c_isiC A.c_Swapped) (by rfl) X_.n_isinstance (by decide +kernel) (pa_cons (pv 4) (pa_cons (pe_glob rfl X_.g_Swapped rfl) pa_nil))) (pa_cons (pe_callB (c_isiC A.c_Uneven) (by rfl) X_.n_isinstance (by decide +kernel) (pa_cons (pv 4) (pa_cons (pe_glob rfl X_.g_Uneven rfl) pa_nil))) pa_nil))) (pe_lst (pa_cons (pv 2) (pa_cons (pe_not (pv 2)) pa_nil))) (nomark _)) (pss_one (ps_ret pe_bl)) pss_nil)
    (pss_cons (ps_if (PW.pt (pw_or (pt_not (pt_val (pe_call (ok__law_due02 X_) (hr.mono (by decide)) rfl X_.g__law_due02 X_.F__law_due02.kp X_.b__law_due02 .nil pass0 (pa_cons (pv 0) (pa_cons (pv 4) pa_nil))))) (pw_or1 (pt_cmpR o_notB (pe_methU (pv 4) X_.k_Uneven X_.m_u_shows (ok_u_shows X_) (hr.mono (by decide)) X_.b_u_shows X_.k_Swapped X_.m_s_shows (ok_s_shows X_) (hr.mono (by decide)) X_.b_s_shows pass0 (pa_cons (pv 0) pa_nil)) pe_bl (nomark _))))) (pss_one (ps_ret pe_bl)) pss_nil)
    (pss_cons (ps_for PassesOwn.never rfl (pi_list (pv 1)) (pg_name (i := 5) nd_ rfl (Or.inl rfl)) (pss_one (ps_if (pt_cmpR op_ne (pe_methU (pv 4) X_.k_Uneven X_.m_u_shows (ok_u_shows X_) (hr.mono (by decide)) X_.b_u_shows X_.k_Swapped X_.m_s_shows (ok_s_shows X_) (hr.mono (by decide)) X_.b_s_shows pass0 (pa_cons (pv 5) pa_nil)) (pe_call (ok__law_due02 X_) (hr.mono (by decide)) rfl X_.g__law_due02 X_.F__law_due02.kp X_.b__law_due02 .nil pass0 (pa_cons (pv 5) (pa_cons (pv 4) pa_nil))) (nomark _)) (pss_one (ps_ret pe_bl)) pss_nil)))
    (pss_one (ps_if (pt_val (pv 2)) (pss_cons (ps_expr (pe_bm PySem.F.plainAttrs_list PySem.F.slot_list_append PySem.F.type_list_append mt_append (pe_fld (pv 4) rfl) (pa_cons pe_int pa_nil)))
    (pss_one (ps_if (pt_cmpR o_notB (pe_methU (pv 4) X_.k_Uneven X_.m_u_shows (ok_u_shows X_) (hr.mono (by decide)) X_.b_u_shows X_.k_Swapped X_.m_s_shows (ok_s_shows X_) (hr.mono (by decide)) X_.b_s_shows pass0 (pa_cons (pv 0) pa_nil)) pe_bl (nomark _)) (pss_one (ps_ret pe_bl)) pss_nil))) pss_nil)))))))))
    (pss_one (ps_ret pe_bl))))

theorem ok__law_least02 {P : Program} {w : World} {K : PySem.W.Frag} {mg : Str → Option Value} {base : Heap} {A : Ads} (X_ : Txt K mg A) : FnOk P w K mg base CX0 2 A.f__law_least02 A.d__law_least02 ["_law_row_here"] (sp__law_least02 K A.toCA) := by
  have nd_ := sc__law_least02.nd
  refine X_.F__law_least02.ok sc__law_least02 (fun vs H Q E h => ln__law_least02 h) (fun cdv A_ outer s H vs Q E hr h => ⟨rd__law_least02 K A.toCA, ?_, pu__law_least02 h⟩)
  exact (pss_cons (ps_par3 (i := 1) (j := 2) (l := 3) rfl nd_ rfl rfl rfl (by decide) (by decide) (by decide) rfl rfl rfl (pa_cons (pe_disp (pps_cons (pv 0) pe_bl pps_nil) rfl rfl (List.cons_ne_nil _ _) (by show 1 ≤ 15; decide)) (pa_cons (pe_lst (pa_cons (pv 0) pa_nil)) (pa_cons pe_int pa_nil))) (by rfl))
    (pss_cons (ps_while PassesOwn.never (pt_not (pt_val (pe_callB (c_any rfl) (by rfl) X_.n_any (by decide +kernel) (pa_cons (pe_lc (own := [("_law_one", 5)]) (g := (gName 5)) (tt := tYes) rfl nd_ (pi_list (pv 2)) (blkOk_by (own := [("_law_one", 5)]) (N := N__law_least02) (sc := defScope s__law_least02) (by decide +kernel)) (fun _ _ _ _ _ => (pg_name (i := 5) nd_ rfl (Or.inl rfl))) (fun _ _ _ _ _ => pts_nil) (fun _ _ _ _ _ => (pe_call (ok__law_good X_) (hr.mono (by decide)) rfl X_.g__law_good X_.F__law_good.kp X_.b__law_good .nil pass0 (pa_cons (pv 5) pa_nil)))) pa_nil)))) (pss_cons (ps_set (i := 4) nd_ rfl (Or.inl rfl) (pe_lst pa_nil))
    (pss_cons (ps_for PassesOwn.never rfl (pi_list (pv 2)) (pg_name (i := 5) nd_ rfl (Or.inl rfl)) (pss_one (ps_for PassesOwn.never rfl (pi_range1 rfl X_.n_range (pa_cons (pe_op o_sub (pe_callB c_lenT (by rfl) X_.n_len (by decide +kernel) (pa_cons (pv 0) pa_nil)) pe_int) pa_nil)) (pg_name (i := 6) nd_ rfl (Or.inl rfl)) (pss_cons (ps_set (i := 7) nd_ rfl (Or.inl rfl) (pe_call (ok__law_swap X_) (hr.mono (by decide)) rfl X_.g__law_swap X_.F__law_swap.kp X_.b__law_swap .nil pass0 (pa_cons (pv 5) (pa_cons (pv 6) pa_nil))))
    (pss_one (ps_if (PW.pt (pw_and (pt_cmpR o_notN (pv 7) pe_non (nomark _)) (pw_and1 (pt_cmp (pc_dnotin (hu_of hr) (pv 7) (pv 1)))))) (pss_cons (ps_dput (hu_of hr) (pv 1) (pv 7) pe_bl rfl)
    (pss_one (ps_expr (pe_bm PySem.F.plainAttrs_list PySem.F.slot_list_append PySem.F.type_list_append mt_append (pv 4) (pa_cons (pv 7) pa_nil))))) pss_nil))))))
    (pss_one (ps_par (i := 2) (j := 3) rfl nd_ rfl rfl (by decide) rfl rfl (pa_cons (pv 4) (pa_cons (pe_op o_add (pv 3) pe_int) pa_nil)) (by rfl))))))
    (pss_one (ps_ret (pv 3)))))

theorem ok_law02 {P : Program} {w : World} {K : PySem.W.Frag} {mg : Str → Option Value} {base : Heap} {A : Ads} (X_ : Txt K mg A) : FnOk P w K mg base CX0 7 A.f_law02 A.d_law02 ["_law_script"] (sp_law02 K A.toCA) := by
  have nd_ := sc_law02.nd
  refine X_.F_law02.ok sc_law02 (fun vs H Q E h => ln_law02 h) (fun cdv A_ outer s H vs Q E hr h => ⟨rd_law02 K A.toCA, ?_, pu_law02 h⟩)
  exact (pss_cons (ps_for PassesOwn.never rfl (pi_list (pe_lst (pa_cons pe_int (pa_cons pe_int (pa_cons pe_int (pa_cons pe_int pa_nil)))))) (pg_name (i := 1) nd_ rfl (Or.inl rfl)) (pss_cons (ps_set (i := 2) nd_ rfl (Or.inl rfl) (pe_call (ok__law_row X_) (hr.mono (by decide)) rfl X_.g__law_row X_.F__law_row.kp X_.b__law_row .nil pass0 (pa_cons (pv 0) (pa_cons (pv 1) (pa_cons pe_int (pa_cons (pe_cmpR o_lt (pv 1) pe_int (nomark _)) pa_nil))))))
    (pss_one (ps_if (pt_not (pt_val (pe_call (ok__law_right02 X_) (hr.mono (by decide)) rfl X_.g__law_right02 X_.F__law_right02.kp X_.b__law_right02 .nil pass0 (pa_cons (pv 2) (pa_cons (pe_lst (pa_cons (pe_call (ok__law_row X_) (hr.mono (by decide)) rfl X_.g__law_row X_.F__law_row.kp X_.b__law_row .nil pass0 (pa_cons (pv 0) (pa_cons (pe_op o_add (pv 1) pe_int) (pa_cons pe_int (pa_cons pe_bl pa_nil))))) (pa_cons (pe_revT (pv 2)) (pa_cons (pe_slice s_T (pv 2) (po_some pe_int) po_none) (pa_cons (pe_strT []) pa_nil))))) pa_nil))))) (pss_one (ps_ret pe_bl)) pss_nil))))
    (pss_cons (ps_set (i := 2) nd_ rfl (Or.inl rfl) (pe_call (ok__law_row X_) (hr.mono (by decide)) rfl X_.g__law_row X_.F__law_row.kp X_.b__law_row .nil pass0 (pa_cons (pv 0) (pa_cons pe_int (pa_cons pe_int (pa_cons pe_bl pa_nil))))))
    (pss_cons (ps_set (i := 3) nd_ rfl (Or.inl rfl) (pe_call (ok_swaps X_) (hr.mono (by decide)) rfl X_.g_swaps X_.F_swaps.kp X_.b_swaps .nil pass0 (pa_cons (pv 2) pa_nil)))
    (pss_cons (ps_if (PW.pt (pw_or (pt_not (pt_val (pe_callB (c_isiC A.c_Swapped) (by rfl) X_.n_isinstance (by decide +kernel) (pa_cons (pv 3) (pa_cons (pe_glob rfl X_.g_Swapped rfl) pa_nil))))) (pw_or1 (pt_cmpR op_ne (pe_callB c_len (by rfl) X_.n_len (by decide +kernel) (pa_cons (pe_fld (pv 3) rfl) pa_nil)) (pe_call (ok__law_least02 X_) (hr.mono (by decide)) rfl X_.g__law_least02 X_.F__law_least02.kp X_.b__law_least02 .nil pass0 (pa_cons (pv 2) pa_nil)) (nomark _))))) (pss_one (ps_ret pe_bl)) pss_nil)
    (pss_cons (ps_set (i := 4) nd_ rfl (Or.inl rfl) (pe_call (ok_swaps X_) (hr.mono (by decide)) rfl X_.g_swaps X_.F_swaps.kp X_.b_swaps .nil pass0 (pa_cons (pe_op o_catT (pe_op o_repT (pe_strT [false]) pe_int) (pe_op o_repT (pe_strT [true]) pe_int)) pa_nil)))
    (pss_cons (ps_if (PW.pt (pw_or (pt_not (pt_val (pe_callB (c_isiC A.c_Swapped) (by rfl) X_.n_isinstance (by decide +kernel) (pa_cons (pv 4) (pa_cons (pe_glob rfl X_.g_Swapped rfl) pa_nil))))) (pw_or (pt_cmpR op_ne (pe_callB c_len (by rfl) X_.n_len (by decide +kernel) (pa_cons (pe_fld (pv 4) rfl) pa_nil)) pe_int (nomark _)) (pw_or1 (pt_cmpR (op_neD hr.units) (pe_fld (pe_call (ok_swaps X_) (hr.mono (by decide)) rfl X_.g_swaps X_.F_swaps.kp X_.b_swaps .nil pass0 (pa_cons (pe_strT [false, true]) pa_nil)) rfl) (pe_lst (pa_cons pe_int (pa_cons pe_int (pa_cons pe_int pa_nil)))) (nomark _)))))) (pss_one (ps_ret pe_bl)) pss_nil)
    (pss_one (ps_ret (pe_and (pe_cmpR (op_eqD hr.units) (pe_fld (pe_call (ok_swaps X_) (hr.mono (by decide)) rfl X_.g_swaps X_.F_swaps.kp X_.b_swaps .nil pass0 (pa_cons (pe_strT [true, false, false, true, true, false]) pa_nil)) rfl) (pe_lst (pa_cons pe_int (pa_cons pe_int (pa_cons pe_int (pa_cons pe_int (pa_cons pe_int (pa_cons pe_int (pa_cons pe_int pa_nil)))))))) (nomark _)) (pe_and (pe_cmpR op_eq (pe_fld (pe_call (ok_swaps X_) (hr.mono (by decide)) rfl X_.g_swaps X_.F_swaps.kp X_.b_swaps .nil pass0 (pa_cons (pe_strT [true, true, true]) pa_nil)) rfl) pe_int (nomark _)) (pe_one (pe_cmpR (op_eqD hr.units) (pe_fld (pe_call (ok_swaps X_) (hr.mono (by decide)) rfl X_.g_swaps X_.F_swaps.kp X_.b_swaps .nil pass0 (pa_cons (pe_strT []) pa_nil)) rfl) (pe_lst pa_nil) (nomark _)))))))))))))

end BM
namespace BM
open PySem L2 Evl
/-- one def, as the top has written it -/
theorem fun_ex {K : PySem.W.Frag} {h : Heap} {mg : Str → Option Value} {x : Str} {st : Stmt} {ps : List Str} {G : Prop} (X : K.In h) (N : h.Ns mainGlobals mg) {f : Addr} {od an : Option Addr} {sl : Array (Option Value)} {oc kV dc pm cd ct : Value}
    (a : PySem.W.nsIn K mainGlobals x = some (some (.ref f))) (l : K.lookup f = some ⟨oc, od, .func (PySem.W.fnOf x x (defArgs st) (defBody st) (defScope st) .none kV dc pm an cd ct), sl⟩) (c : PySem.W.codeIn K cd x = true) (k : PySem.W.keepIn K (.ref f) = true)
    (hb : ∀ (kV doc pm : Value) (an : Option Addr) (cdv ct : Value) (us : List Value), us.length = ps.length → bindArgs (PySem.W.fnOf x x (defArgs st) (defBody st) (defScope st) .none kV doc pm an cdv ct) ⟨us, []⟩ = pure (ps.zip us))
    (go : ∀ fd : FuncData, Fun K x x st f fd → mg x = some (.ref f) → Binds K fd ps [] → G) : G :=
  go _ (fun_mk l c k) (PySem.W.mg_of X N a) ((fun_mk l c k).binds hb)
/-- one method, as the top has written it -/
theorem meth_ex {K : PySem.W.Frag} {h : Heap} {mg : Str → Option Value} {C : Addr} {x qual : Str} {st : Stmt} {ps : List Str} {G : Prop} {cn : Str} (X : K.In h) (gc : mg cn = some (.ref C)) {f : Addr} {od an : Option Addr} {sl : Array (Option Value)} {oc kV dc pm cd ct : Value}
    (a : PySem.W.findIn K (.ref C) x = some (some (.ref f))) (i : PySem.W.isFn K (.ref f) = true) (l : K.lookup f = some ⟨oc, od, .func (PySem.W.fnOf x qual (defArgs st) (defBody st) (defScope st) .none kV dc pm an cd ct), sl⟩) (c : PySem.W.codeIn K cd qual = true) (k : PySem.W.keepIn K (.ref f) = true)
    (hb : ∀ (kV doc pm : Value) (an : Option Addr) (cdv ct : Value) (us : List Value), us.length = ps.length → bindArgs (PySem.W.fnOf x qual (defArgs st) (defBody st) (defScope st) .none kV doc pm an cdv ct) ⟨us, []⟩ = pure (ps.zip us))
    (go : ∀ fd : FuncData, Fun K x qual st f fd → Meth K C x f → Binds K fd ps [] → G) : G :=
  go _ (fun_mk l c k) ⟨a, i, k⟩ ((fun_mk l c k).binds hb)
theorem cls_ex {K : PySem.W.Frag} {h : Heap} {mg : Str → Option Value} {x : Str} {G : Prop} (X : K.In h) (N : h.Ns mainGlobals mg) {c : Addr} (a : PySem.W.nsIn K mainGlobals x = some (some (.ref c))) (go : mg x = some (.ref c) → G) : G := go (PySem.W.mg_of X N a)
theorem cst_ex {K : PySem.W.Frag} {h : Heap} {mg : Str → Option Value} {x : Str} {G : Prop} (n : Int) (X : K.In h) (N : h.Ns mainGlobals mg) {v : Value} (a : PySem.W.nsIn K mainGlobals x = some (some v)) (e : ∃ t, v = .int n t) (go : (∃ t, mg x = some (.int n t)) → G) : G := by
  obtain ⟨t, rfl⟩ := e
  exact go ⟨t, PySem.W.mg_of X N a⟩
/-- the law's promise, as the row wants it -/
def spGoal (K : PySem.W.Frag) : Sp := fun vs H Q _ => ∃ (a : Addr) (ns : List Int), vs = [.ref a] ∧ SqL K H a (ns.map V.int) ∧ ns.length ≤ 63 ∧ ∀ H', Q (.bl true) H'
theorem exm_of {K : PySem.W.Frag} {D c : Addr} {b : Bool} (hb : PySem.W.subIn K (.ref c) (.type "BaseException") = some true) (hc : ClsK K c) (h : PySem.W.subIn K (.ref D) (.ref c) = some b) : PySem.W.exmOne K (.ref D) (.ref c) = some b := by
  unfold PySem.W.exmOne
  rw [hb]
  exact kitCls_of hc h
theorem bnd1 {K : PySem.W.Frag} {x qual y : Str} {st : Stmt} {f : Addr} {fd : FuncData} (F : Fun K x qual st f fd) (hb : ∀ (kV doc pm : Value) (an : Option Addr) (cdv ct : Value) (u : Value), bindArgs (PySem.W.fnOf x qual (defArgs st) (defBody st) (defScope st) .none kV doc pm an cdv ct) ⟨[u], []⟩ = pure [(y, u)]) (s : Shared) (u : Value) : BindsTo s fd ⟨[u], []⟩ [(y, u)] := by
  obtain ⟨oc, od, kV, doc, pm, an, cdv, ct, osl, rfl, lk, hcd⟩ := F.ex
  exact .of_eq (hb kV doc pm an cdv ct u)
end BM
namespace BM
open PySem L2 Evl PyProof.Rows
open PySem L2 Evl PyProof.Rows
end BM
namespace BM
open PySem L2 Evl PyProof.Rows
theorem fin02 {l : PySem.W.OpenLaw} {w : World} {K : PySem.W.Frag} {mg : Str → Option Value} {fa : Addr} {A : Ads} (hfa : mg "law" = some (.ref fa)) (X : Txt K mg A) (hE : Ex02 K A.toCA) :
    ∃ fd : FuncData, (∀ (s : Shared) (u : Value), BindsTo s fd ⟨[u], []⟩ [("_law_script", u)]) ∧ ∀ base : Heap, K.In base → base.Ns mainGlobals mg → FnOk l.prog w K mg base CX0 7 fa fd ["_law_script"] (spGoal K) := by
  have e := hfa.symm.trans X.g_law02
  cases e
  exact ⟨A.d_law02, fun s u => bnd1 X.F_law02 (fun _ _ _ _ _ _ _ => rfl) s u, fun base _ _ => (ok_law02 X).imp fun vs H Q E ⟨a, ns, e, hs, hl, q⟩ => ⟨.bl true, ⟨a, ns, hE, e, hs, hl, rfl⟩, fun H' _ => q H'⟩⟩
end BM
open PySem PySem.W PyProof.Rows
set_option maxRecDepth 100000 in
set_option maxHeartbeats 0 in
theorem PySem.Challenge.cw_bracketmend_k02_whole_swaps_holds : PySem.Challenge.rw_bracketmend_k02_whole_swaps.Holds := by
  w_on; o_law; k_head; (case hw => w_witness2)
  k_fill
  refine L2.walk_of (l := PySem.Challenge.rw_bracketmend_k02_whole_swaps) (n := 63) (k := 7) (x := "_law_script") (CX := fun _ => L2.CX0) (sp := fun w => BM.spGoal _) rfl (by decide) rfl ⟨rfl, by decide, by decide⟩ (fun w h Y => PySem.W.kIn_of Y) ?F (fun _ _ a ns hl _ hS => ⟨a, ns, rfl, hS, hl, fun _ => rfl⟩) fun _ _ _ _ _ z => z
  case F =>
    intro w mg fa h KX G hmg
    refine' BM.cls_ex (x := "Answer") KX G ?a_Answer ?go_Answer
    (case a_Answer => k_is)
    case' go_Answer => intro g_Answer
    refine' BM.cls_ex (x := "Odd") KX G ?a_Odd ?go_Odd
    (case a_Odd => k_is)
    case' go_Odd => intro g_Odd
    refine' BM.cls_ex (x := "Rounded") KX G ?a_Rounded ?go_Rounded
    (case a_Rounded => k_is)
    case' go_Rounded => intro g_Rounded
    refine' BM.cls_ex (x := "Swapped") KX G ?a_Swapped ?go_Swapped
    (case a_Swapped => k_is)
    case' go_Swapped => intro g_Swapped
    refine' BM.cls_ex (x := "Turned") KX G ?a_Turned ?go_Turned
    (case a_Turned => k_is)
    case' go_Turned => intro g_Turned
    refine' BM.cls_ex (x := "Uneven") KX G ?a_Uneven ?go_Uneven
    (case a_Uneven => k_is)
    case' go_Uneven => intro g_Uneven
    refine' BM.fun_ex (x := "is_whole") (st := BM.s_is_whole) (ps := ["thing"]) KX G ?a0 ?l0 ?c0 ?k0 (fun _ _ _ _ _ _ us hl => match us, hl with | [_], _ => rfl) ?go0
    (case a0 => k_is); (case l0 => k_is); (case c0 => k_is); (case k0 => k_is)
    case' go0 => intro d_is_whole F_is_whole g_is_whole b_is_whole
    refine' BM.fun_ex (x := "asked_row") (st := BM.s_asked_row) (ps := ["row"]) KX G ?a1 ?l1 ?c1 ?k1 (fun _ _ _ _ _ _ us hl => match us, hl with | [_], _ => rfl) ?go1
    (case a1 => k_is); (case l1 => k_is); (case c1 => k_is); (case k1 => k_is)
    case' go1 => intro d_asked_row F_asked_row g_asked_row b_asked_row
    refine' BM.fun_ex (x := "deepens") (st := BM.s_deepens) (ps := ["bracket"]) KX G ?a2 ?l2 ?c2 ?k2 (fun _ _ _ _ _ _ us hl => match us, hl with | [_], _ => rfl) ?go2
    (case a2 => k_is); (case l2 => k_is); (case c2 => k_is); (case k2 => k_is)
    case' go2 => intro d_deepens F_deepens g_deepens b_deepens
    refine' BM.fun_ex (x := "depths_of") (st := BM.s_depths_of) (ps := ["row"]) KX G ?a3 ?l3 ?c3 ?k3 (fun _ _ _ _ _ _ us hl => match us, hl with | [_], _ => rfl) ?go3
    (case a3 => k_is); (case l3 => k_is); (case c3 => k_is); (case k3 => k_is)
    case' go3 => intro d_depths_of F_depths_of g_depths_of b_depths_of
    refine' BM.fun_ex (x := "is_right_row") (st := BM.s_is_right_row) (ps := ["row"]) KX G ?a4 ?l4 ?c4 ?k4 (fun _ _ _ _ _ _ us hl => match us, hl with | [_], _ => rfl) ?go4
    (case a4 => k_is); (case l4 => k_is); (case c4 => k_is); (case k4 => k_is)
    case' go4 => intro d_is_right_row F_is_right_row g_is_right_row b_is_right_row
    refine' BM.fun_ex (x := "flipped") (st := BM.s_flipped) (ps := ["bracket"]) KX G ?a5 ?l5 ?c5 ?k5 (fun _ _ _ _ _ _ us hl => match us, hl with | [_], _ => rfl) ?go5
    (case a5 => k_is); (case l5 => k_is); (case c5 => k_is); (case k5 => k_is)
    case' go5 => intro d_flipped F_flipped g_flipped b_flipped
    refine' BM.fun_ex (x := "swapped") (st := BM.s_swapped) (ps := ["row", "place"]) KX G ?a6 ?l6 ?c6 ?k6 (fun _ _ _ _ _ _ us hl => match us, hl with | [_, _], _ => rfl) ?go6
    (case a6 => k_is); (case l6 => k_is); (case c6 => k_is); (case k6 => k_is)
    case' go6 => intro d_swapped F_swapped g_swapped b_swapped
    refine' BM.fun_ex (x := "turned") (st := BM.s_turned) (ps := ["row", "places"]) KX G ?a7 ?l7 ?c7 ?k7 (fun _ _ _ _ _ _ us hl => match us, hl with | [_, _], _ => rfl) ?go7
    (case a7 => k_is); (case l7 => k_is); (case c7 => k_is); (case k7 => k_is)
    case' go7 => intro d_turned F_turned g_turned b_turned
    refine' BM.fun_ex (x := "rounded") (st := BM.s_rounded) (ps := ["row", "first", "behind"]) KX G ?a8 ?l8 ?c8 ?k8 (fun _ _ _ _ _ _ us hl => match us, hl with | [_, _, _], _ => rfl) ?go8
    (case a8 => k_is); (case l8 => k_is); (case c8 => k_is); (case k8 => k_is)
    case' go8 => intro d_rounded F_rounded g_rounded b_rounded
    refine' BM.fun_ex (x := "is_stretch") (st := BM.s_is_stretch) (ps := ["row", "thing"]) KX G ?a9 ?l9 ?c9 ?k9 (fun _ _ _ _ _ _ us hl => match us, hl with | [_, _], _ => rfl) ?go9
    (case a9 => k_is); (case l9 => k_is); (case c9 => k_is); (case k9 => k_is)
    case' go9 => intro d_is_stretch F_is_stretch g_is_stretch b_is_stretch
    refine' BM.meth_ex KX g_Uneven (x := "__init__") (qual := "Uneven.__init__") (st := BM.s_u_init) (ps := ["self", "depth"]) ?a10 ?i10 ?l10 ?c10 ?k10 (fun _ _ _ _ _ _ us hl => match us, hl with | [_, _], _ => rfl) ?go10
    (case a10 => k_is); (case i10 => k_is); (case l10 => k_is); (case c10 => k_is); (case k10 => k_is)
    case' go10 => intro d_u_init F_u_init m_u_init b_u_init
    refine' BM.meth_ex KX g_Uneven (x := "shows") (qual := "Uneven.shows") (st := BM.s_u_shows) (ps := ["self", "row"]) ?a11 ?i11 ?l11 ?c11 ?k11 (fun _ _ _ _ _ _ us hl => match us, hl with | [_, _], _ => rfl) ?go11
    (case a11 => k_is); (case i11 => k_is); (case l11 => k_is); (case c11 => k_is); (case k11 => k_is)
    case' go11 => intro d_u_shows F_u_shows m_u_shows b_u_shows
    refine' BM.meth_ex KX g_Swapped (x := "__init__") (qual := "Swapped.__init__") (st := BM.s_s_init) (ps := ["self", "places", "lifts"]) ?a12 ?i12 ?l12 ?c12 ?k12 (fun _ _ _ _ _ _ us hl => match us, hl with | [_, _, _], _ => rfl) ?go12
    (case a12 => k_is); (case i12 => k_is); (case l12 => k_is); (case c12 => k_is); (case k12 => k_is)
    case' go12 => intro d_s_init F_s_init m_s_init b_s_init
    refine' BM.meth_ex KX g_Swapped (x := "shows") (qual := "Swapped.shows") (st := BM.s_s_shows) (ps := ["self", "row"]) ?a13 ?i13 ?l13 ?c13 ?k13 (fun _ _ _ _ _ _ us hl => match us, hl with | [_, _], _ => rfl) ?go13
    (case a13 => k_is); (case i13 => k_is); (case l13 => k_is); (case c13 => k_is); (case k13 => k_is)
    case' go13 => intro d_s_shows F_s_shows m_s_shows b_s_shows
    refine' BM.fun_ex (x := "swaps") (st := BM.s_swaps) (ps := ["row"]) KX G ?a14 ?l14 ?c14 ?k14 (fun _ _ _ _ _ _ us hl => match us, hl with | [_], _ => rfl) ?go14
    (case a14 => k_is); (case l14 => k_is); (case c14 => k_is); (case k14 => k_is)
    case' go14 => intro d_swaps F_swaps g_swaps b_swaps
    refine' BM.fun_ex (x := "_law_number") (st := BM.s__law_number) (ps := ["_law_cell", "_law_at", "_law_whole"]) KX G ?a15 ?l15 ?c15 ?k15 (fun _ _ _ _ _ _ us hl => match us, hl with | [_, _, _], _ => rfl) ?go15
    (case a15 => k_is); (case l15 => k_is); (case c15 => k_is); (case k15 => k_is)
    case' go15 => intro d__law_number F__law_number g__law_number b__law_number
    refine' BM.fun_ex (x := "_law_row") (st := BM.s__law_row) (ps := ["_law_script", "_law_by", "_law_most", "_law_even"]) KX G ?a16 ?l16 ?c16 ?k16 (fun _ _ _ _ _ _ us hl => match us, hl with | [_, _, _, _], _ => rfl) ?go16
    (case a16 => k_is); (case l16 => k_is); (case c16 => k_is); (case k16 => k_is)
    case' go16 => intro d__law_row F__law_row g__law_row b__law_row
    refine' BM.fun_ex (x := "_law_depths") (st := BM.s__law_depths) (ps := ["_law_row_here"]) KX G ?a17 ?l17 ?c17 ?k17 (fun _ _ _ _ _ _ us hl => match us, hl with | [_], _ => rfl) ?go17
    (case a17 => k_is); (case l17 => k_is); (case c17 => k_is); (case k17 => k_is)
    case' go17 => intro d__law_depths F__law_depths g__law_depths b__law_depths
    refine' BM.fun_ex (x := "_law_good") (st := BM.s__law_good) (ps := ["_law_row_here"]) KX G ?a18 ?l18 ?c18 ?k18 (fun _ _ _ _ _ _ us hl => match us, hl with | [_], _ => rfl) ?go18
    (case a18 => k_is); (case l18 => k_is); (case c18 => k_is); (case k18 => k_is)
    case' go18 => intro d__law_good F__law_good g__law_good b__law_good
    refine' BM.fun_ex (x := "_law_swap") (st := BM.s__law_swap) (ps := ["_law_row_here", "_law_place"]) KX G ?a19 ?l19 ?c19 ?k19 (fun _ _ _ _ _ _ us hl => match us, hl with | [_, _], _ => rfl) ?go19
    (case a19 => k_is); (case l19 => k_is); (case c19 => k_is); (case k19 => k_is)
    case' go19 => intro d__law_swap F__law_swap g__law_swap b__law_swap
    refine' BM.fun_ex (x := "_law_swapped") (st := BM.s__law_swapped) (ps := ["_law_row_here", "_law_places", "_law_lifts"]) KX G ?a20 ?l20 ?c20 ?k20 (fun _ _ _ _ _ _ us hl => match us, hl with | [_, _, _], _ => rfl) ?go20
    (case a20 => k_is); (case l20 => k_is); (case c20 => k_is); (case k20 => k_is)
    case' go20 => intro d__law_swapped F__law_swapped g__law_swapped b__law_swapped
    refine' BM.fun_ex (x := "_law_uneven") (st := BM.s__law_uneven) (ps := ["_law_row_here", "_law_depth"]) KX G ?a21 ?l21 ?c21 ?k21 (fun _ _ _ _ _ _ us hl => match us, hl with | [_, _], _ => rfl) ?go21
    (case a21 => k_is); (case l21 => k_is); (case c21 => k_is); (case k21 => k_is)
    case' go21 => intro d__law_uneven F__law_uneven g__law_uneven b__law_uneven
    refine' BM.fun_ex (x := "_law_due") (st := BM.s__law_due02) (ps := ["_law_row_here", "_law_answer"]) KX G ?a22 ?l22 ?c22 ?k22 (fun _ _ _ _ _ _ us hl => match us, hl with | [_, _], _ => rfl) ?go22
    (case a22 => k_is); (case l22 => k_is); (case c22 => k_is); (case k22 => k_is)
    case' go22 => intro d__law_due02 F__law_due02 g__law_due02 b__law_due02
    refine' BM.fun_ex (x := "_law_right") (st := BM.s__law_right02) (ps := ["_law_row_here", "_law_others"]) KX G ?a23 ?l23 ?c23 ?k23 (fun _ _ _ _ _ _ us hl => match us, hl with | [_, _], _ => rfl) ?go23
    (case a23 => k_is); (case l23 => k_is); (case c23 => k_is); (case k23 => k_is)
    case' go23 => intro d__law_right02 F__law_right02 g__law_right02 b__law_right02
    refine' BM.fun_ex (x := "_law_least") (st := BM.s__law_least02) (ps := ["_law_row_here"]) KX G ?a24 ?l24 ?c24 ?k24 (fun _ _ _ _ _ _ us hl => match us, hl with | [_], _ => rfl) ?go24
    (case a24 => k_is); (case l24 => k_is); (case c24 => k_is); (case k24 => k_is)
    case' go24 => intro d__law_least02 F__law_least02 g__law_least02 b__law_least02
    refine' BM.fun_ex (x := "law") (st := BM.s_law02) (ps := ["_law_script"]) KX G ?a25 ?l25 ?c25 ?k25 (fun _ _ _ _ _ _ us hl => match us, hl with | [_], _ => rfl) ?go25
    (case a25 => k_is); (case l25 => k_is); (case c25 => k_is); (case k25 => k_is)
    case' go25 => intro d_law02 F_law02 g_law02 b_law02
    refine' BM.cst_ex (x := "LONGEST") 40 KX G ?a_LONGEST ?e_LONGEST ?go_LONGEST
    (case a_LONGEST => k_is); (case e_LONGEST => exact ⟨_, rfl⟩)
    case' go_LONGEST => intro g_LONGEST

    refine' BM.fin02 (A := ⟨⟨0, 0, 0, 0, 0, 0, 0, 0, _, _, _, _, _, _, 0⟩, _, d_is_whole, _, d_asked_row, _, d_deepens, _, d_depths_of, _, d_is_right_row, _, d_flipped, _, d_swapped, _, d_turned, _, d_rounded, _, d_is_stretch, _, d_u_init, _, d_u_shows, _, d_s_init, _, d_s_shows, _, d_swaps, _, d__law_number, _, d__law_row, _, d__law_depths, _, d__law_good, _, d__law_swap, _, d__law_swapped, _, d__law_uneven, _, d__law_due02, _, d__law_right02, _, d__law_least02, _, d_law02⟩) hmg ?X ?E
    case' X => refine' { F_is_whole := F_is_whole, g_is_whole := g_is_whole, b_is_whole := b_is_whole, F_asked_row := F_asked_row, g_asked_row := g_asked_row, b_asked_row := b_asked_row, F_deepens := F_deepens, g_deepens := g_deepens, b_deepens := b_deepens, F_depths_of := F_depths_of, g_depths_of := g_depths_of, b_depths_of := b_depths_of, F_is_right_row := F_is_right_row, g_is_right_row := g_is_right_row, b_is_right_row := b_is_right_row, F_flipped := F_flipped, g_flipped := g_flipped, b_flipped := b_flipped, F_swapped := F_swapped, g_swapped := g_swapped, b_swapped := b_swapped, F_turned := F_turned, g_turned := g_turned, b_turned := b_turned, F_rounded := F_rounded, g_rounded := g_rounded, b_rounded := b_rounded, F_is_stretch := F_is_stretch, g_is_stretch := g_is_stretch, b_is_stretch := b_is_stretch, F_u_init := F_u_init, m_u_init := m_u_init, b_u_init := b_u_init, F_u_shows := F_u_shows, m_u_shows := m_u_shows, b_u_shows := b_u_shows, F_s_init := F_s_init, m_s_init := m_s_init, b_s_init := b_s_init, F_s_shows := F_s_shows, m_s_shows := m_s_shows, b_s_shows := b_s_shows, F_swaps := F_swaps, g_swaps := g_swaps, b_swaps := b_swaps, F__law_number := F__law_number, g__law_number := g__law_number, b__law_number := b__law_number, F__law_row := F__law_row, g__law_row := g__law_row, b__law_row := b__law_row, F__law_depths := F__law_depths, g__law_depths := g__law_depths, b__law_depths := b__law_depths, F__law_good := F__law_good, g__law_good := g__law_good, b__law_good := b__law_good, F__law_swap := F__law_swap, g__law_swap := g__law_swap, b__law_swap := b__law_swap, F__law_swapped := F__law_swapped, g__law_swapped := g__law_swapped, b__law_swapped := b__law_swapped, F__law_uneven := F__law_uneven, g__law_uneven := g__law_uneven, b__law_uneven := b__law_uneven, F__law_due02 := F__law_due02, g__law_due02 := g__law_due02, b__law_due02 := b__law_due02, F__law_right02 := F__law_right02, g__law_right02 := g__law_right02, b__law_right02 := b__law_right02, F__law_least02 := F__law_least02, g__law_least02 := g__law_least02, b__law_least02 := b__law_least02, F_law02 := F_law02, g_law02 := g_law02, b_law02 := b_law02, k_Swapped := ⟨?pg_Swapped, ?hd_Swapped, ?po_Swapped, ?sa_Swapped⟩, mk_Swapped := ⟨?mi_Swapped, m_s_init.at_, m_s_init.fn, ?kc_Swapped⟩, k_Uneven := ⟨?pg_Uneven, ?hd_Uneven, ?po_Uneven, ?sa_Uneven⟩, mk_Uneven := ⟨?mi_Uneven, m_u_init.at_, m_u_init.fn, ?kc_Uneven⟩, n_abs := PySem.W.mg_none_of KX G ?n_abs, n_all := PySem.W.mg_none_of KX G ?n_all, n_any := PySem.W.mg_none_of KX G ?n_any, n_bool := PySem.W.mg_none_of KX G ?n_bool, n_enumerate := PySem.W.mg_none_of KX G ?n_enumerate, n_int := PySem.W.mg_none_of KX G ?n_int, n_isinstance := PySem.W.mg_none_of KX G ?n_isinstance, n_len := PySem.W.mg_none_of KX G ?n_len, n_list := PySem.W.mg_none_of KX G ?n_list, n_max := PySem.W.mg_none_of KX G ?n_max, n_min := PySem.W.mg_none_of KX G ?n_min, n_range := PySem.W.mg_none_of KX G ?n_range, n_str := PySem.W.mg_none_of KX G ?n_str, n_sum := PySem.W.mg_none_of KX G ?n_sum, n_tuple := PySem.W.mg_none_of KX G ?n_tuple, n_zip := PySem.W.mg_none_of KX G ?n_zip, g_Answer := g_Answer, g_LONGEST := g_LONGEST, g_Odd := g_Odd, g_Rounded := g_Rounded, g_Swapped := g_Swapped, g_Turned := g_Turned, g_Uneven := g_Uneven }
    (case n_abs => k_is)
    (case n_all => k_is)
    (case n_any => k_is)
    (case n_bool => k_is)
    (case n_enumerate => k_is)
    (case n_int => k_is)
    (case n_isinstance => k_is)
    (case n_len => k_is)
    (case n_list => k_is)
    (case n_max => k_is)
    (case n_min => k_is)
    (case n_range => k_is)
    (case n_str => k_is)
    (case n_sum => k_is)
    (case n_tuple => k_is)
    (case n_zip => k_is)
    (case pg_Swapped => (try dsimp only); k_is)
    (case hd_Swapped => (try dsimp only); k_is)
    (case po_Swapped => (try dsimp only); k_is)
    (case sa_Swapped => (try dsimp only); k_is)
    (case mi_Swapped => (try dsimp only); k_is)
    (case kc_Swapped => (try dsimp only); k_is)
    (case pg_Uneven => (try dsimp only); k_is)
    (case hd_Uneven => (try dsimp only); k_is)
    (case po_Uneven => (try dsimp only); k_is)
    (case sa_Uneven => (try dsimp only); k_is)
    (case mi_Uneven => (try dsimp only); k_is)
    (case kc_Uneven => (try dsimp only); k_is)
    case' E => refine' ⟨⟨⟨⟨?uc1, ?uc2, ?uc3, ?uc4⟩, ?uha, ?uhn, ?uht, ?uhm⟩, ?un0⟩, ⟨⟨⟨?sc1, ?sc2, ?sc3, ?sc4⟩, ?sha, ?shn, ?sht, ?shm⟩, ?sn0, ?sn1⟩, BM.kit_yes ⟨?q01, ?q02⟩ ?q03, BM.kit_yes ⟨?q11, ?q12⟩ ?q13, BM.kit_no ⟨?q21, ?q22⟩ ?q23 ?q24, BM.kit_no ⟨?q31, ?q32⟩ ?q33 ?q34, BM.kit_no ⟨?q41, ?q42⟩ ?q43 ?q44, BM.kit_no ⟨?q51, ?q52⟩ ?q53 ?q54, BM.kit_no ⟨?q61, ?q62⟩ ?q63 ?q64, BM.kit_no ⟨?q71, ?q72⟩ ?q73 ?q74, BM.kit_no ⟨?q81, ?q82⟩ ?q83 ?q84, BM.kit_no ⟨?q91, ?q92⟩ ?q93 ?q94⟩
    (case uc1 => (try dsimp only); k_is)
    (case uc2 => (try dsimp only); k_is)
    (case uc3 => (try dsimp only); k_is)
    (case uc4 => (try dsimp only); k_is)
    (case uha => (try dsimp only); k_is)
    (case uhn => (try dsimp only); k_is)
    (case uht => (try dsimp only); k_is)
    (case uhm => (try dsimp only); k_is)
    (case un0 => unfold L2.NoAttr; (try dsimp only); k_is)
    (case sc1 => (try dsimp only); k_is)
    (case sc2 => (try dsimp only); k_is)
    (case sc3 => (try dsimp only); k_is)
    (case sc4 => (try dsimp only); k_is)
    (case sha => (try dsimp only); k_is)
    (case shn => (try dsimp only); k_is)
    (case sht => (try dsimp only); k_is)
    (case shm => (try dsimp only); k_is)
    (case sn0 => unfold L2.NoAttr; (try dsimp only); k_is)
    (case sn1 => unfold L2.NoAttr; (try dsimp only); k_is)
    (case q01 => (try dsimp only); k_is)
    (case q02 => (try dsimp only); k_is)
    (case q03 => (try dsimp only); k_is)
    (case q11 => (try dsimp only); k_is)
    (case q12 => (try dsimp only); k_is)
    (case q13 => (try dsimp only); k_is)
    (case q21 => (try dsimp only); k_is)
    (case q22 => (try dsimp only); k_is)
    (case q23 => (try dsimp only); k_is)
    (case q24 => (try dsimp only); k_is)
    (case q31 => (try dsimp only); k_is)
    (case q32 => (try dsimp only); k_is)
    (case q33 => (try dsimp only); k_is)
    (case q34 => (try dsimp only); k_is)
    (case q41 => (try dsimp only); k_is)
    (case q42 => (try dsimp only); k_is)
    (case q43 => (try dsimp only); k_is)
    (case q44 => (try dsimp only); k_is)
    (case q51 => (try dsimp only); k_is)
    (case q52 => (try dsimp only); k_is)
    (case q53 => (try dsimp only); k_is)
    (case q54 => (try dsimp only); k_is)
    (case q61 => (try dsimp only); k_is)
    (case q62 => (try dsimp only); k_is)
    (case q63 => (try dsimp only); k_is)
    (case q64 => (try dsimp only); k_is)
    (case q71 => (try dsimp only); k_is)
    (case q72 => (try dsimp only); k_is)
    (case q73 => (try dsimp only); k_is)
    (case q74 => (try dsimp only); k_is)
    (case q81 => (try dsimp only); k_is)
    (case q82 => (try dsimp only); k_is)
    (case q83 => (try dsimp only); k_is)
    (case q84 => (try dsimp only); k_is)
    (case q91 => (try dsimp only); k_is)
    (case q92 => (try dsimp only); k_is)
    (case q93 => (try dsimp only); k_is)
    (case q94 => (try dsimp only); k_is)
